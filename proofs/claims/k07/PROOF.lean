import PyProof.Rows.All
import Wide.All
import OpenK.AllK
import Wide.FinOn
import HandS.ForMost
import HandS.ForExc
import HandS.Evl
import HandS.Wide
import HandS.CallSlots
import HandS.Lambda
import HandS.Defaults
import HandS.TupAny
import HandS.IsInst
import HandS.Style
import PyProof.StrOps2
import HandS.Iter
import HandS.Ends
import HandS.Exc
import HandS.TryMany
import HandS.ExcInit
import HandS.ExcField
import HandS.EndTab
import KE.GoesEnum
import KE.GoesMore
import PyProof.EnumMake
import HandS.SortOrd
import HandS.SortInts
import PyProof.SumWalkG
import PyProof.Rows.SumAny
import HandS.Conv
import HandS.SortKw
import HandS.DictComp
import HandS.More
import HandS.MakeKwOnly
import HandS.SlotsOwn
import PyProof.FactsLen
import HandS.Codes
import KE.KDflt
import HandS.Strs
import KE.KUnpackStar
import HandS.TupSets
import HandS.SetBool
import KE.SortData
import HandS.Text
import HandS.FStr
import PySem.Challenge.RW_cornertrade_k07_arrows_written_and_read
set_option Elab.async false
set_option linter.all false
set_option maxRecDepth 100003
set_option maxHeartbeats 4000003
namespace CT
open PySem L2
/-! ## data, stores, outcomes -/
inductive D where
  | non
  | bl (b : Bool)
  | int (i : Int)
  | str (x : Str)
  | tup (ds : List D)
  | lst (ds : List D)
  | cel (c : Nat)
  /-- a list that nobody may change: the script -/
  | lck (ds : List D)
  /-- an object that nobody changes any more: its class, its fields -/
  | ins (c : Nat) (ns : List Str) (ds : List D)
  /-- a dict that nobody changes any more; a def of the program -/
  | dct (ks : List Key) (ds : List D)
  | fn (k : Nat)
  /-- a tuple that tuple(..) made -/
  | tpl (ds : List D)
mutual
def D.cf (n : Nat) : D → Bool
  | .non => true
  | .bl _ => true
  | .int _ => true
  | .str _ => true
  | .tup ds => D.cfs n ds
  | .lst ds => D.cfs n ds
  | .cel c => decide (c < n)
  | .lck ds => D.cfs n ds
  | .ins _ _ ds => D.cfs n ds
  | .dct _ ds => D.cfs n ds
  | .fn _ => true
  | .tpl ds => D.cfs n ds
def D.cfs (n : Nat) : List D → Bool
  | [] => true
  | d :: ds => D.cf n d && D.cfs n ds
end
/-- what a cell holds: a list; an object -/
inductive Ce where
  | l (ds : List D)
  | o (c : Nat) (ns : List Str) (ds : List D)
  | d (ks : List Key) (ds : List D)
def Ce.ds : Ce → List D
  | .l ds => ds
  | .o _ _ ds => ds
  | .d _ ds => ds
def Ce.fz : Ce → D
  | .l ds => .lst ds
  | .o c ns ds => .ins c ns ds
  | .d ks ds => .dct ks ds
abbrev Ms := List Ce
instance : Coe (List D) Ce := ⟨Ce.l⟩
/-- what is written, the tables that lambdas grow, the classes -/
structure KK where
  K : PySem.W.Frag
  T : List (Addr × Str)
  ct : Nat → Addr
  fa : Nat → Addr := fun _ => 0
instance : Coe KK PySem.W.Frag := ⟨KK.K⟩
abbrev Sd := List (Option D)
/-- an exception: which class, its fields -/
structure Xc where
  c : Nat
  fs : List (Str × D)
inductive R (δ : Type) where
  | ok (d : δ) (m : Ms)
  | ex (x : Xc) (m : Ms)
  | bad
inductive O where
  | nx (σ : Sd) (m : Ms)
  | rt (d : D) (m : Ms)
  | bk (σ : Sd) (m : Ms)
  | ct (σ : Sd) (m : Ms)
  | ex (x : Xc) (σ : Sd) (m : Ms)
  | bad
def R.bind {δ ε : Type} (r : R δ) (f : δ → Ms → R ε) : R ε :=
  match r with
  | .ok d m => f d m
  | .ex x m => .ex x m
  | .bad => .bad
@[simp] theorem R.bind_ok {δ ε : Type} (d : δ) (m : Ms) (f : δ → Ms → R ε) : (R.ok d m).bind f = f d m := rfl
@[simp] theorem R.bind_ex {δ ε : Type} (x : Xc) (m : Ms) (f : δ → Ms → R ε) : (R.ex x m : R δ).bind f = .ex x m := rfl
@[simp] theorem R.bind_bad {δ ε : Type} (f : δ → Ms → R ε) : (R.bad : R δ).bind f = .bad := rfl
def R.go {δ : Type} (r : R δ) (σ : Sd) (f : δ → Ms → O) : O :=
  match r with
  | .ok d m => f d m
  | .ex x m => .ex x σ m
  | .bad => .bad
@[simp] theorem R.go_ok {δ : Type} (d : δ) (m : Ms) (σ : Sd) (f : δ → Ms → O) : (R.ok d m).go σ f = f d m := rfl
@[simp] theorem R.go_ex {δ : Type} (x : Xc) (m : Ms) (σ : Sd) (f : δ → Ms → O) : (R.ex x m : R δ).go σ f = .ex x σ m := rfl
@[simp] theorem R.go_bad {δ : Type} (σ : Sd) (f : δ → Ms → O) : (R.bad : R δ).go σ f = .bad := rfl
abbrev Fn (δ : Type) := Sd → Ms → R δ
abbrev Fo := Sd → Ms → O
/-! ## what data a value stands for -/
mutual
inductive Rep (K : KK) (G : Hp) (α : List Addr) : V → D → Prop
  | non : Rep K G α .non .non
  | bl {b : Bool} : Rep K G α (.bl b) (.bl b)
  | int {i : Int} : Rep K G α (.int i) (.int i)
  | str {x : Str} : Rep K G α (.str x) (.str x)
  | tup {a : Addr} {vs : List V} {ds : List D} : SqT K G a vs → Reps K G α vs ds → Rep K G α (.ref a) (.tup ds)
  | lst {a : Addr} {vs : List V} {ds : List D} : G a = some (.lst vs) → Reps K G α vs ds → Rep K G α (.ref a) (.lst ds)
  | cel {a : Addr} {c : Nat} : α[c]? = some a → Rep K G α (.ref a) (.cel c)
  | lck {a : Addr} {vs : List V} {ds : List D} : SqL K G a vs → Reps K G α vs ds → Rep K G α (.ref a) (.lck ds)
  | ins {a dx : Addr} {c : Nat} {fs : List (Str × V)} {ns : List Str} {ds : List D} : G a = some (.ins (K.ct c) dx fs) → fs.map (·.1) = ns → Reps K G α (fs.map (·.2)) ds → Rep K G α (.ref a) (.ins c ns ds)
  | dct {a : Addr} {kvs : List (Key × V)} {ks : List Key} {ds : List D} : G a = some (.dK kvs) → kvs.map (·.1) = ks → Reps K G α (kvs.map (·.2)) ds → Rep K G α (.ref a) (.dct ks ds)
  | fn {k : Nat} : Rep K G α (.ref (K.fa k)) (.fn k)
  | tpl {a : Addr} {ob : Obj} {vs : List V} {ds : List D} : G a = some (.frz ob (.tup vs)) → ob.cls = .type "tuple" → ob.dict = .none → Reps K G α vs ds → Rep K G α (.ref a) (.tpl ds)
inductive Reps (K : KK) (G : Hp) (α : List Addr) : List V → List D → Prop
  | nil : Reps K G α [] []
  | cons {v : V} {d : D} {vs : List V} {ds : List D} : Rep K G α v d → Reps K G α vs ds → Reps K G α (v :: vs) (d :: ds)
end
section
variable {K : KK} {G G' : Hp} {α α' : List Addr}
theorem sqt_mono (h : ∀ a o, G a = some o → G' a = some o) {a : Addr} {vs : List V} (s : SqT K G a vs) : SqT K G' a vs := by
  rcases s with (s | ⟨o, s⟩) | s
  · exact .inl (.inl (h _ _ s))
  · exact .inl (.inr ⟨o, h _ _ s⟩)
  · exact .inr s
theorem sql_mono (h : ∀ a o, G a = some o → G' a = some o) {a : Addr} {vs : List V} (s : SqL K G a vs) : SqL K G' a vs := by
  rcases s with (s | ⟨o, s⟩) | s
  · exact .inl (.inl (h _ _ s))
  · exact .inl (.inr ⟨o, h _ _ s⟩)
  · exact .inr s
mutual
theorem Rep.mono (h : ∀ a o, G a = some o → G' a = some o) (hα : ∀ (c : Nat) (a : Addr), α[c]? = some a → α'[c]? = some a) : ∀ {v : V} {d : D}, Rep K G α v d → Rep K G' α' v d
  | _, _, .non => .non
  | _, _, .bl => .bl
  | _, _, .int => .int
  | _, _, .str => .str
  | _, _, .tup s r => .tup (sqt_mono h s) (Reps.mono h hα r)
  | _, _, .lst s r => .lst (h _ _ s) (Reps.mono h hα r)
  | _, _, .cel e => .cel (hα _ _ e)
  | _, _, .lck s r => .lck (sql_mono h s) (Reps.mono h hα r)
  | _, _, .ins s n r => .ins (h _ _ s) n (Reps.mono h hα r)
  | _, _, .dct s n r => .dct (h _ _ s) n (Reps.mono h hα r)
  | _, _, .fn => .fn
  | _, _, .tpl s c e r => .tpl (h _ _ s) c e (Reps.mono h hα r)
theorem Reps.mono (h : ∀ a o, G a = some o → G' a = some o) (hα : ∀ (c : Nat) (a : Addr), α[c]? = some a → α'[c]? = some a) : ∀ {vs : List V} {ds : List D}, Reps K G α vs ds → Reps K G' α' vs ds
  | _, _, .nil => .nil
  | _, _, .cons a b => .cons (Rep.mono h hα a) (Reps.mono h hα b)
end
mutual
/-- data whose cells lie below n: the cells beyond don't matter -/
theorem Rep.cut {n : Nat} (h : ∀ a o, G a = some o → G' a = some o) (hα : ∀ (c : Nat) (a : Addr), c < n → α[c]? = some a → α'[c]? = some a) : ∀ {v : V} {d : D}, d.cf n = true → Rep K G α v d → Rep K G' α' v d
  | _, _, _, .non => .non
  | _, _, _, .bl => .bl
  | _, _, _, .int => .int
  | _, _, _, .str => .str
  | _, _, z, .tup s r => .tup (sqt_mono h s) (Reps.cut h hα (by simpa [D.cf] using z) r)
  | _, _, z, .lst s r => .lst (h _ _ s) (Reps.cut h hα (by simpa [D.cf] using z) r)
  | _, _, z, .cel e => .cel (hα _ _ (by simpa [D.cf] using z) e)
  | _, _, z, .lck s r => .lck (sql_mono h s) (Reps.cut h hα (by simpa [D.cf] using z) r)
  | _, _, z, .ins s n r => .ins (h _ _ s) n (Reps.cut h hα (by simpa [D.cf] using z) r)
  | _, _, z, .dct s n r => .dct (h _ _ s) n (Reps.cut h hα (by simpa [D.cf] using z) r)
  | _, _, _, .fn => .fn
  | _, _, z, .tpl s c e r => .tpl (h _ _ s) c e (Reps.cut h hα (by simpa [D.cf] using z) r)
theorem Reps.cut {n : Nat} (h : ∀ a o, G a = some o → G' a = some o) (hα : ∀ (c : Nat) (a : Addr), c < n → α[c]? = some a → α'[c]? = some a) : ∀ {vs : List V} {ds : List D}, D.cfs n ds = true → Reps K G α vs ds → Reps K G' α' vs ds
  | _, _, _, .nil => .nil
  | _, _, z, .cons a b => by
    rw [D.cfs, Bool.and_eq_true] at z
    exact .cons (Rep.cut h hα z.1 a) (Reps.cut h hα z.2 b)
end
theorem Reps.length : ∀ {vs : List V} {ds : List D}, Reps K G α vs ds → vs.length = ds.length
  | _, _, .nil => rfl
  | _, _, .cons _ r => by simp [Reps.length r]
theorem Reps.get : ∀ {vs : List V} {ds : List D} {i : Nat} {d : D}, Reps K G α vs ds → ds[i]? = some d → ∃ v, vs[i]? = some v ∧ Rep K G α v d
  | _, _, _, _, .nil, e => by simp at e
  | _, _, 0, _, .cons a _, e => by simp at e; subst e; exact ⟨_, rfl, a⟩
  | _, _, i + 1, _, .cons _ r, e => by
    obtain ⟨v, h1, h2⟩ := Reps.get (i := i) r (by simpa using e)
    exact ⟨v, by simpa using h1, h2⟩
theorem Reps.getv : ∀ {vs : List V} {ds : List D} {i : Nat} {v : V}, Reps K G α vs ds → vs[i]? = some v → ∃ d, ds[i]? = some d ∧ Rep K G α v d
  | _, _, _, _, .nil, e => by simp at e
  | _, _, 0, _, .cons a _, e => by simp at e; subst e; exact ⟨_, rfl, a⟩
  | _, _, i + 1, _, .cons _ r, e => by
    obtain ⟨v, h1, h2⟩ := Reps.getv (i := i) r (by simpa using e)
    exact ⟨v, by simpa using h1, h2⟩
theorem Reps.app : ∀ {vs ws : List V} {ds es : List D}, Reps K G α vs ds → Reps K G α ws es → Reps K G α (vs ++ ws) (ds ++ es)
  | _, _, _, _, .nil, q => q
  | _, _, _, _, .cons a r, q => .cons a (Reps.app r q)
theorem Reps.take : ∀ (n : Nat) {vs : List V} {ds : List D}, Reps K G α vs ds → Reps K G α (vs.take n) (ds.take n)
  | 0, _, _, _ => by simp; exact .nil
  | _ + 1, _, _, .nil => .nil
  | n + 1, _, _, .cons a r => .cons a (Reps.take n r)
theorem Reps.drop : ∀ (n : Nat) {vs : List V} {ds : List D}, Reps K G α vs ds → Reps K G α (vs.drop n) (ds.drop n)
  | 0, _, _, r => r
  | _ + 1, _, _, .nil => .nil
  | n + 1, _, _, .cons _ r => Reps.drop n r
theorem Reps.set {v : V} {d : D} (a : Rep K G α v d) : ∀ (i : Nat) {vs : List V} {ds : List D}, Reps K G α vs ds → Reps K G α (vs.set i v) (ds.set i d)
  | _, _, _, .nil => .nil
  | 0, _, _, .cons _ r => .cons a r
  | i + 1, _, _, .cons b r => .cons b (Reps.set a i r)
theorem Reps.rev : ∀ {vs : List V} {ds : List D}, Reps K G α vs ds → Reps K G α vs.reverse ds.reverse
  | _, _, .nil => .nil
  | _, _, .cons a r => by
    simp only [List.reverse_cons]
    exact (Reps.rev r).app (.cons a .nil)
end
/-! ## the heap ahead and behind -/
/-- no table -/
def noTb (o : HO) : Prop := ∀ ps, o ≠ .tbl ps
theorem noTb_lst {vs : List V} : noTb (.lst vs) := fun _ z => by cases z
/-- what stands fast: all that is tracked but the cells and the tables -/
noncomputable def hid (H : Hp) (α : List Addr) : Hp := fun a => if a ∈ α then none else match H a with
  | some (.tbl _) => none
  | o => o
theorem hid_of {H : Hp} {α : List Addr} {a : Addr} {o : HO} (h : hid H α a = some o) : H a = some o ∧ a ∉ α := by
  unfold hid at h
  split at h
  · cases h
  · rename_i hn
    split at h
    · cases h
    · exact ⟨h, hn⟩
theorem hid_nt {H : Hp} {α : List Addr} {a : Addr} {o : HO} (h : hid H α a = some o) : noTb o := by
  unfold hid at h
  split at h
  · cases h
  · split at h
    · cases h
    · rename_i hn
      intro ps z
      subst z
      exact hn _ h
theorem hid_mk {H : Hp} {α : List Addr} {a : Addr} {o : HO} (h : H a = some o) (n : a ∉ α) (t : noTb o := by intro _ z; cases z) : hid H α a = some o := by
  unfold hid
  rw [if_neg n, h]
  split
  · rename_i z
    exact absurd (Option.some.inj z) (t _)
  · rfl
abbrev Rp (K : KK) (H : Hp) (α β : List Addr) := Rep K (hid H (α ++ β)) α
abbrev Rps (K : KK) (H : Hp) (α β : List Addr) := Reps K (hid H (α ++ β)) α
/-- nothing stands there that stays (nothing at all, or a table) -/
def vac (H : Hp) (a : Addr) : Prop := ∀ o, H a = some o → ¬ noTb o
theorem vac_of {H : Hp} {a : Addr} (h : H a = none) : vac H a := fun o e => by rw [h] at e; cases e
/-- α: the cells' addresses; they grow, and all that is no cell of ours stays; the tables may grow -/
structure Ext (H : Hp) (α : List Addr) (H' : Hp) (α' : List Addr) : Prop where
  pre : ∃ γ, α' = α ++ γ
  fr : ∀ a o, a ∉ α → H a = some o → noTb o → H' a = some o
  new : ∀ a ∈ α', a ∈ α ∨ vac H a
section
variable {K : KK} {H H1 H2 : Hp} {α α1 α2 β : List Addr}
theorem Ext.refl : Ext H α H α := ⟨⟨[], by simp⟩, fun _ _ _ h _ => h, fun _ h => .inl h⟩
theorem Ext.trans (a : Ext H α H1 α1) (b : Ext H1 α1 H2 α2) : Ext H α H2 α2 := by
  refine ⟨?_, fun x o n h t => b.fr x o (fun q => ?_) (a.fr x o n h t) t, fun x h => ?_⟩
  · obtain ⟨γ, rfl⟩ := a.pre
    obtain ⟨δ, rfl⟩ := b.pre
    exact ⟨γ ++ δ, by simp⟩
  · rcases a.new x q with q | q
    · exact n q
    · exact q o h t
  · rcases b.new x h with q | q
    · exact a.new x q
    · by_cases hx : x ∈ α
      · exact .inl hx
      · exact .inr fun o e t => q o (a.fr x o hx e t) t
theorem Ext.hid (e : Ext H α H1 α1) : ∀ a o, CT.hid H (α ++ β) a = some o → CT.hid H1 (α1 ++ β) a = some o := fun a o h => by
  have t := hid_nt h
  obtain ⟨h, n⟩ := hid_of h
  refine hid_mk (e.fr a o (fun z => n (List.mem_append_left _ z)) h t) (fun q => ?_) t
  rcases List.mem_append.mp q with q | q
  · rcases e.new a q with q | q
    · exact n (List.mem_append_left _ q)
    · exact q o h t
  · exact n (List.mem_append_right _ q)
theorem Ext.ix (e : Ext H α H1 α1) : ∀ (c : Nat) (a : Addr), α[c]? = some a → α1[c]? = some a := fun c a h => by
  obtain ⟨γ, rfl⟩ := e.pre
  rw [List.getElem?_append_left (List.getElem?_eq_some_iff.mp h).1]
  exact h
theorem Rep.ext {v : V} {d : D} (r : Rp K H α β v d) (e : Ext H α H1 α1) : Rp K H1 α1 β v d := Rep.mono e.hid e.ix r
theorem Reps.ext {vs : List V} {ds : List D} (r : Rps K H α β vs ds) (e : Ext H α H1 α1) : Rps K H1 α1 β vs ds := Reps.mono e.hid e.ix r
end
/-- neither a table nor a code object -/
def plainO : HO → Prop
  | .lst _ => True
  | .ins _ _ _ => True
  | .dK _ => True
  | .ext f => ∀ c q, HO.ext f ≠ LamX.CodeO c q
  | _ => False
theorem plainO.nt {o : HO} (h : plainO o) : noTb o := fun ps z => by subst z; exact h
theorem plainO.nc {o : HO} {c : Addr} {q : Str} (h : plainO o) : o ≠ LamX.CodeO c q := fun z => by
  subst z
  exact h c q rfl
/-- a cell's object -/
def CeO (K : KK) (o : HO) (vs : List V) : Ce → Prop
  | .l _ => o = .lst vs
  | .o c ns _ => ∃ dx fs, o = .ins (K.ct c) dx fs ∧ fs.map (·.1) = ns ∧ fs.map (·.2) = vs
  | .d ks _ => ∃ kvs, o = .dK kvs ∧ kvs.map (·.1) = ks ∧ kvs.map (·.2) = vs
theorem CeO.nt {K : KK} {o : HO} {vs : List V} : ∀ {e : Ce}, CeO K o vs e → noTb o
  | .l _, h => fun ps z => by
    have h : o = .lst vs := h
    rw [h] at z; cases z
  | .o _ _ _, h => fun ps z => by
    obtain ⟨dx, fs, h, _⟩ := h
    rw [h] at z; cases z
  | .d _ _, h => fun ps z => by
    obtain ⟨fs, h, _⟩ := h
    rw [h] at z; cases z
/-- β: objects that are changed by nobody whom we call, and read by nobody -/
structure CR (K : KK) (H : Hp) (α β : List Addr) (m : Ms) : Prop where
  len : α.length = m.length
  nd : α.Nodup
  al : ∀ b ∈ β, b ∉ α ∧ ∃ o, H b = some o ∧ plainO o
  cell : ∀ (c : Nat) (a : Addr) (e : Ce), α[c]? = some a → m[c]? = some e → D.cfs 0 e.ds = true ∧ ∃ vs o, H a = some o ∧ CeO K o vs e ∧ Rps K H α β vs e.ds
  tb : LamX.Tabs K.T H
structure SR (K : KK) (H : Hp) (α β : List Addr) (σ : St) (σd : Sd) (m : Ms) : Prop where
  cr : CR K H α β m
  len : σ.length = σd.length
  slot : ∀ (i : Nat) (d : D), σd[i]? = some (some d) → ∃ v, σ[i]? = some (some v) ∧ Rp K H α β v d
section
variable {K : KK} {H H1 H2 : Hp} {α α1 α2 β : List Addr} {m m' : Ms} {σ σ' : St} {σd σd' : Sd}
theorem CR.tr (c : CR K H α β m) {a : Addr} (h : a ∈ α) : ∃ o, H a = some o ∧ noTb o := by
  obtain ⟨i, hi, e⟩ := List.getElem_of_mem h
  have h1 : α[i]? = some a := by rw [List.getElem?_eq_getElem hi, e]
  have h2 : i < m.length := by have := c.len; omega
  obtain ⟨_, vs, o, q, w, _⟩ := c.cell i a m[i] h1 (List.getElem?_eq_getElem h2)
  exact ⟨o, q, w.nt⟩
theorem CR.fresh (c : CR K H α β m) {p : Addr} (h : H p = none) : p ∉ α := fun q => by
  obtain ⟨o, e, _⟩ := c.tr q
  rw [h] at e; cases e
theorem CR.freshB (c : CR K H α β m) {p : Addr} (h : H p = none) : p ∉ α ++ β := fun q => by
  rcases List.mem_append.mp q with q | q
  · exact c.fresh h q
  · obtain ⟨_, o, e, _⟩ := c.al p q
    rw [h] at e; cases e
theorem Ext.lay {p : Addr} {o : HO} (h : H p = none) : Ext H α (upd H p o) α :=
  ⟨⟨[], by simp⟩, fun a u _ e _ => by rw [upd_ne (ne_of_none e h)]; exact e, fun _ q => .inl q⟩
theorem Ext.cel {p : Addr} {o : HO} (h : H p = none) : Ext H α (upd H p o) (α ++ [p]) :=
  ⟨⟨[p], rfl⟩, fun a u _ e _ => by rw [upd_ne (ne_of_none e h)]; exact e, fun a q => by
    rcases List.mem_append.mp q with q | q
    · exact .inl q
    · rw [List.mem_singleton.mp q]; exact .inr (vac_of h)⟩
theorem CR.tbL (c : CR K H α β m) {p : Addr} {o : HO} (h : H p = none) : LamX.Tabs K.T (upd H p o) := fun t ht => (c.tb t ht).ext fun b u e => by rw [upd_ne (ne_of_none e h)]; exact e
theorem CeO.pl {K : KK} {o : HO} {vs : List V} : ∀ {e : Ce}, CeO K o vs e → plainO o
  | .l _, h => by
    have h : o = .lst vs := h
    rw [h]; trivial
  | .o _ _ _, h => by
    obtain ⟨dx, fs, h, _⟩ := h
    rw [h]; trivial
  | .d _ _, h => by
    obtain ⟨fs, h, _⟩ := h
    rw [h]; trivial
theorem tab_put {a : Addr} {o u : HO} (ha : H a = some u) (hu : plainO u) {P : Addr} {q : Str} (t : LamX.TabS H P q) : LamX.TabS (upd H a o) P q := by
  obtain ⟨ps, h1, h2, h3⟩ := t
  refine ⟨ps, ?_, h2, fun pos cv hc => ?_⟩
  · rw [upd_ne fun z => ?_]
    · exact h1
    · rw [z, ha] at h1
      exact hu.nt _ (Option.some.inj h1)
  · obtain ⟨c, e1, e2⟩ := h3 pos cv hc
    refine ⟨c, e1, ?_⟩
    rw [upd_ne fun z => ?_]
    · exact e2
    · rw [z, ha] at e2
      exact hu.nc (Option.some.inj e2)
theorem Ext.put {a : Addr} {o : HO} (h : a ∈ α) : Ext H α (upd H a o) α :=
  ⟨⟨[], by simp⟩, fun b w n e _ => by rw [upd_ne (fun q => n (by rw [q]; exact h))]; exact e, fun _ q => .inl q⟩
theorem CR.alE (c : CR K H α β m) (e : Ext H α H1 α1) : ∀ b ∈ β, b ∉ α1 ∧ ∃ o, H1 b = some o ∧ plainO o := fun b hb => by
  obtain ⟨h1, o, h2, t⟩ := c.al b hb
  refine ⟨fun q => ?_, o, e.fr b o h1 h2 t.nt, t⟩
  rcases e.new b q with z | z
  · exact h1 z
  · exact z o h2 t.nt
/-- a new thing that stands fast -/
theorem CR.lay (c : CR K H α β m) {p : Addr} {o : HO} (h : H p = none) : CR K (upd H p o) α β m :=
  ⟨c.len, c.nd, c.alE (Ext.lay h), fun i a ds h1 h2 => by
    obtain ⟨q, vs, w, e, x, r⟩ := c.cell i a ds h1 h2
    exact ⟨q, vs, w, by rw [upd_ne (ne_of_none e h)]; exact e, x, r.ext (Ext.lay h)⟩, c.tbL h⟩
theorem CR.celO (c : CR K H α β m) {p : Addr} {vs : List V} {ce : Ce} {o : HO} (h : H p = none) (z : D.cfs 0 ce.ds = true) (ho : CeO K o vs ce) (r : Rps K H α β vs ce.ds) : CR K (upd H p o) (α ++ [p]) β (m ++ [ce]) := by
  have hp := c.fresh h
  refine ⟨by simp [c.len], ?_, c.alE (Ext.cel h), fun i a es h1 h2 => ?_, c.tbL h⟩
  · refine List.nodup_append.mpr ⟨c.nd, by simp, ?_⟩
    intro a ha b hb e
    rw [List.mem_singleton] at hb
    subst hb; subst e
    exact hp ha
  · by_cases hi : i < α.length
    · rw [List.getElem?_append_left hi] at h1
      rw [List.getElem?_append_left (by have := c.len; omega)] at h2
      obtain ⟨q, vs, w, e, x, r⟩ := c.cell i a es h1 h2
      exact ⟨q, vs, w, by rw [upd_ne (ne_of_none e h)]; exact e, x, r.ext (Ext.cel h)⟩
    · have hi2 : i = α.length := by
        have := (List.getElem?_eq_some_iff.mp h1).1
        simp at this; omega
      subst hi2
      rw [List.getElem?_append_right (Nat.le_refl _)] at h1
      rw [List.getElem?_append_right (by have := c.len; omega)] at h2
      simp at h1
      have e2 : α.length - m.length = 0 := by have := c.len; omega
      rw [e2] at h2
      simp at h2
      subst h1; subst h2
      exact ⟨z, vs, o, upd_same, ho, r.ext (Ext.cel h)⟩
theorem CR.cel (c : CR K H α β m) {p : Addr} {vs : List V} {ds : List D} (h : H p = none) (z : D.cfs 0 ds = true) (r : Rps K H α β vs ds) : CR K (upd H p (.lst vs)) (α ++ [p]) β (m ++ [.l ds]) := c.celO (ce := .l ds) h z rfl r
theorem CR.putX (c : CR K H α β m) {i : Nat} {a : Addr} {o : HO} (h : α[i]? = some a) : Ext H α (upd H a o) α := Ext.put (List.mem_of_getElem? h)
theorem CR.tbP (c : CR K H α β m) {i : Nat} {a : Addr} {o : HO} (h : α[i]? = some a) : LamX.Tabs K.T (upd H a o) := fun t ht => by
  have hi : i < m.length := by have := (List.getElem?_eq_some_iff.mp h).1; have := c.len; omega
  obtain ⟨_, vs, w, q, x, _⟩ := c.cell i a m[i] h (List.getElem?_eq_getElem hi)
  exact tab_put q x.pl (c.tb t ht)
theorem CR.putO (c : CR K H α β m) {i : Nat} {a : Addr} {vs : List V} {ce : Ce} {o : HO} (h : α[i]? = some a) (z : D.cfs 0 ce.ds = true) (ho : CeO K o vs ce) (r : Rps K H α β vs ce.ds) : CR K (upd H a o) α β (m.set i ce) := by
  have hx : Ext H α (upd H a o) α := c.putX h
  have hi : i < α.length := (List.getElem?_eq_some_iff.mp h).1
  refine ⟨by simp [c.len], c.nd, c.alE hx, fun j b es h1 h2 => ?_, c.tbP h⟩
  by_cases hj : i = j
  · subst hj
    rw [h] at h1; cases h1
    rw [List.getElem?_set_self (by have := c.len; omega)] at h2
    cases h2
    exact ⟨z, vs, o, upd_same, ho, r.ext hx⟩
  · rw [List.getElem?_set_ne hj] at h2
    obtain ⟨q, ws, w, e, x, r⟩ := c.cell j b es h1 h2
    have hne : b ≠ a := fun q => by
      subst q
      have hb : j < α.length := (List.getElem?_eq_some_iff.mp h1).1
      have e1 := (List.getElem?_eq_some_iff.mp h).2
      have e2 := (List.getElem?_eq_some_iff.mp h1).2
      exact hj ((List.getElem_inj c.nd).mp (e1.trans e2.symm))
    exact ⟨q, ws, w, by rw [upd_ne hne]; exact e, x, r.ext hx⟩
theorem CR.put (c : CR K H α β m) {i : Nat} {a : Addr} {vs : List V} {ds : List D} (h : α[i]? = some a) (z : D.cfs 0 ds = true) (r : Rps K H α β vs ds) : CR K (upd H a (.lst vs)) α β (m.set i (.l ds)) := c.putO (ce := .l ds) h z rfl r
theorem hid_take (n : Nat) : ∀ a o, hid H (α ++ β) a = some o → hid H (α.take n ++ β) a = some o := fun a o h => by
  have t := hid_nt h
  obtain ⟨h, nb⟩ := hid_of h
  refine hid_mk h (fun z => nb ?_) t
  rcases List.mem_append.mp z with z | z
  · exact List.mem_append_left _ (List.mem_of_mem_take z)
  · exact List.mem_append_right _ z
/-- the cells beyond n are no cells any more -/
theorem CR.take (c : CR K H α β m) (n : Nat) : CR K H (α.take n) β (m.take n) := by
  refine ⟨by simp [c.len], c.nd.sublist (List.take_sublist n α), fun b hb => ⟨fun z => (c.al b hb).1 (List.mem_of_mem_take z), (c.al b hb).2⟩, fun i a ds h1 h2 => ?_, c.tb⟩
  have hi : i < n := by
    have := (List.getElem?_eq_some_iff.mp h1).1
    simp at this; omega
  rw [List.getElem?_take_of_lt hi] at h1 h2
  obtain ⟨q, vs, w, e, x, r⟩ := c.cell i a ds h1 h2
  exact ⟨q, vs, w, e, x, Reps.cut (n := 0) (hid_take n) (fun _ _ z => absurd z (Nat.not_lt_zero _)) q r⟩
theorem Ext.take (e : Ext H α H1 α1) {n : Nat} (hn : n = α.length) : Ext H α H1 (α1.take n) := by
  subst hn
  obtain ⟨γ, rfl⟩ := e.pre
  refine ⟨⟨[], by simp⟩, e.fr, fun a h => .inl ?_⟩
  simpa using h
theorem SR.ext' (s : SR K H α β σ σd m) (e : Ext H α H1 α1) (c : CR K H1 α1 β m') : SR K H1 α1 β σ σd m' :=
  ⟨c, s.len, fun i d h => let ⟨v, h1, h2⟩ := s.slot i d h; ⟨v, h1, h2.ext e⟩⟩
theorem SR.set (s : SR K H α β σ σd m) {v : V} {d : D} (i : Nat) (r : Rp K H α β v d) : SR K H α β (σ.set i (some v)) (σd.set i (some d)) m := by
  refine ⟨s.cr, by simp [s.len], fun j e h => ?_⟩
  by_cases hj : i = j
  · subst hj
    have hi : i < σd.length := by
      have := (List.getElem?_eq_some_iff.mp h).1
      simpa using this
    rw [List.getElem?_set_self hi] at h
    cases h
    exact ⟨v, List.getElem?_set_self (by have := s.len; omega), r⟩
  · rw [List.getElem?_set_ne hj] at h
    rw [List.getElem?_set_ne hj]
    exact s.slot j e h
end
end CT
namespace CT
open PySem L2
/-! ## judgements -/
structure Lc where
  P : Program
  w : World
  K : KK
  mg : Str → Option Value
  base : Heap
  N : List Str
  sc : Scope
  k : Nat
  fn : Str → Bool
  /-- the def's own code object, its name: where it makes lambdas -/
  cd : Option (Addr × Str) := none
structure Ok (L : Lc) (W : WX) (X : Cx) : Prop where
  prog : X.prog = L.P
  w : X.w = L.w
  K : X.K = L.K
  mg : X.mg = L.mg
  base : X.base = L.base
  N : X.N = L.N
  sc : X.env.scope = L.sc
  room : Room L.k X.A
  calm : X.calm = true
  tk : Takes X W
  own : PassesOwn (model X.prog X.w) X.A X.env X.xe
  fn : ∀ x, L.fn x = true → X.fn x = true
  cd : ∀ c q, L.cd = some (c, q) → X.env.code = .ref c ∧ X.env.qual = q
inductive Flds (K : KK) (G : Hp) (α : List Addr) : List (Str × V) → List (Str × D) → Prop
  | nil : Flds K G α [] []
  | cons {f : Str} {v : V} {d : D} {vs : List (Str × V)} {ds : List (Str × D)} : Rep K G α v d → Flds K G α vs ds → Flds K G α ((f, v) :: vs) ((f, d) :: ds)
/-- an exception's data -/
def XRep (L : Lc) (H : Hp) (α β : List Addr) (x : Xc) (cl : Value) (dd : Option Addr) : Prop :=
  ∃ a vs, cl = .ref (L.K.ct x.c) ∧ dd = some a ∧ hid H (α ++ β) a = some (.xd vs) ∧ Flds L.K (hid H (α ++ β)) α vs x.fs
section
variable {υ δ : Type}
def PostR (L : Lc) (W : WX) (rel : Hp → List Addr → List Addr → υ → δ → Prop) (σ : St) (σd : Sd) (H : Hp) (α β : List Addr) (Q : υ → Hp → Prop) : R δ → Prop
  | .ok d m => ∀ v H1 α1, Ext H α H1 α1 → SR L.K H1 α1 β σ σd m → rel H1 α1 β v d → Q v H1
  | .ex x m => ∀ cl dd H1 α1, Ext H α H1 α1 → SR L.K H1 α1 β σ σd m → XRep L H1 α1 β x cl dd → W cl dd σ H1
  | .bad => False
def tS (L : Lc) (W : WX) (rel : Hp → List Addr → List Addr → υ → δ → Prop) (f : Fn δ) : St → Hp → (υ → Hp → Prop) → Prop := fun σ H Q =>
  ∃ α β σd m, SR L.K H α β σ σd m ∧ PostR L W rel σ σd H α β Q (f σd m)
end
section
variable {υ δ υ' δ' : Type} {L : Lc} {W : WX} {rel : Hp → List Addr → List Addr → υ → δ → Prop} {rel' : Hp → List Addr → List Addr → υ' → δ' → Prop} {σ : St} {σd : Sd} {H H1 : Hp} {α α1 β : List Addr} {Q Q' : υ → Hp → Prop} {Q1 : υ' → Hp → Prop} {r : R δ}
theorem PostR.ext (e : Ext H α H1 α1) (h : PostR L W rel σ σd H α β Q r) : PostR L W rel σ σd H1 α1 β Q r := by
  cases r with
  | ok d m => exact fun v H2 α2 e2 s q => h v H2 α2 (e.trans e2) s q
  | ex x m => exact fun cl dd H2 α2 e2 s q => h cl dd H2 α2 (e.trans e2) s q
  | bad => exact h
theorem PostR.imp (h : PostR L W rel σ σd H α β Q r) (k : ∀ v H1, Q v H1 → Q' v H1) : PostR L W rel σ σd H α β Q' r := by
  cases r with
  | ok d m => exact fun v H2 α2 e2 s q => k _ _ (h v H2 α2 e2 s q)
  | ex x m => exact h
  | bad => exact h
/-- one part, then the rest -/
theorem PostR.mp {g : δ' → Ms → R δ} {r : R δ'} (h : PostR L W rel σ σd H α β Q (r.bind g))
    (k : ∀ d m1 v H1 α1, Ext H α H1 α1 → SR L.K H1 α1 β σ σd m1 → rel' H1 α1 β v d → PostR L W rel σ σd H1 α1 β Q (g d m1) → Q1 v H1) : PostR L W rel' σ σd H α β Q1 r := by
  cases r with
  | ok d m => exact fun v H2 α2 e2 s q => k d m v H2 α2 e2 s q (h.ext e2)
  | ex x m => exact h
  | bad => exact h
end
abbrev relV (L : Lc) : Hp → List Addr → List Addr → V → D → Prop := fun H α β v d => Rp L.K H α β v d
abbrev relVs (L : Lc) : Hp → List Addr → List Addr → List V → List D → Prop := fun H α β v d => Rps L.K H α β v d
def relB {κ : Type} : Hp → List Addr → List Addr → κ → κ → Prop := fun _ _ _ b c => b = c
def PostO (L : Lc) (W : WX) (H : Hp) (α β : List Addr) (D : Ends) : O → Prop
  | .nx σd m => ∀ σ H1 α1, Ext H α H1 α1 → SR L.K H1 α1 β σ σd m → D.nx σ H1
  | .rt d m => ∀ v H1 α1, Ext H α H1 α1 → CR L.K H1 α1 β m → Rp L.K H1 α1 β v d → D.rt v H1
  | .bk σd m => ∀ σ H1 α1, Ext H α H1 α1 → SR L.K H1 α1 β σ σd m → D.bk σ H1
  | .ct σd m => ∀ σ H1 α1, Ext H α H1 α1 → SR L.K H1 α1 β σ σd m → D.ct σ H1
  | .ex x σd m => ∀ cl dd σ H1 α1, Ext H α H1 α1 → SR L.K H1 α1 β σ σd m → XRep L H1 α1 β x cl dd → W cl dd σ H1
  | .bad => False
def tO (L : Lc) (W : WX) (f : Fo) : TS := fun D σ H => ∃ α β σd m, SR L.K H α β σ σd m ∧ PostO L W H α β D (f σd m)
section
variable {υ δ : Type} {L : Lc} {W : WX} {rel : Hp → List Addr → List Addr → υ → δ → Prop} {σ : St} {σd : Sd} {H H1 : Hp} {α α1 β : List Addr} {D : Ends} {r : R δ} {o : O} {Q1 : υ → Hp → Prop}
theorem PostO.ext (e : Ext H α H1 α1) (h : PostO L W H α β D o) : PostO L W H1 α1 β D o := by
  cases o with
  | nx σd m => exact fun σ H2 α2 e2 s => h σ H2 α2 (e.trans e2) s
  | rt d m => exact fun v H2 α2 e2 s q => h v H2 α2 (e.trans e2) s q
  | bk σd m => exact fun σ H2 α2 e2 s => h σ H2 α2 (e.trans e2) s
  | ct σd m => exact fun σ H2 α2 e2 s => h σ H2 α2 (e.trans e2) s
  | ex x σd m => exact fun cl dd σ H2 α2 e2 s q => h cl dd σ H2 α2 (e.trans e2) s q
  | bad => exact h
theorem PostO.mp {g : δ → Ms → O} (h : PostO L W H α β D (r.go σd g))
    (k : ∀ d m1 v H1 α1, Ext H α H1 α1 → SR L.K H1 α1 β σ σd m1 → rel H1 α1 β v d → PostO L W H1 α1 β D (g d m1) → Q1 v H1) : PostR L W rel σ σd H α β Q1 r := by
  cases r with
  | ok d m => exact fun v H2 α2 e2 s q => k d m v H2 α2 e2 s q (h.ext e2)
  | ex x m => exact fun cl dd H2 α2 e2 s q => h cl dd σ H2 α2 e2 s q
  | bad => exact h
end
def SE (L : Lc) (e : Expr) (f : Fn D) : Prop := ∀ W X, Ok L W X → PE X e (tS L W (relV L) f)
def ST (L : Lc) (e : Expr) (f : Fn Bool) : Prop := ∀ W X, Ok L W X → PT X e (tS L W relB f)
def SA (L : Lc) (es : List Expr) (f : Fn (List D)) : Prop := ∀ W X, Ok L W X → PA X es (tS L W (relVs L) f)
def SS (L : Lc) (s : Stmt) (f : Fo) : Prop := ∀ W X, Ok L W X → PS X s (tO L W f)
def SSs (L : Lc) (s : List Stmt) (f : Fo) : Prop := ∀ W X, Ok L W X → PSs X s (tO L W f)
theorem PEi {X : Cx} {e : Expr} {t t' : TE} (h : PE X e t) (k : ∀ σ H Q, t' σ H Q → t σ H Q) : PE X e t' := ⟨fun pins s σ H Q I q => h.run pins s σ H Q I (k _ _ _ q)⟩
theorem PTi {X : Cx} {e : Expr} {t t' : TT} (h : PT X e t) (k : ∀ σ H Q, t' σ H Q → t σ H Q) : PT X e t' := ⟨fun pins s σ H Q I q => h.run pins s σ H Q I (k _ _ _ q)⟩
theorem PAi {X : Cx} {e : List Expr} {t t' : TA} (h : PA X e t) (k : ∀ σ H Q, t' σ H Q → t σ H Q) : PA X e t' := ⟨fun pos pins s σ H Q I q => h.run pos pins s σ H Q I (k _ _ _ q)⟩
theorem PSi {X : Cx} {e : Stmt} {t t' : TS} (h : PS X e t) (k : ∀ D σ H, t' D σ H → t D σ H) : PS X e t' := ⟨fun pins s σ H D I q => h.run pins s σ H D I (k _ _ _ q)⟩
theorem PSsi {X : Cx} {e : List Stmt} {t t' : TS} (h : PSs X e t) (k : ∀ D σ H, t' D σ H → t D σ H) : PSs X e t' := ⟨fun pins s σ H D I q => h.run pins s σ H D I (k _ _ _ q)⟩
/-! ## reading through cells -/
def dr (m : Ms) : D → D
  | .cel c => match m[c]? with
    | some e => e.fz
    | none => .non
  | .tpl ds => .tup ds
  | d => d
inductive Rv (K : KK) (H : Hp) (α β : List Addr) : V → D → Prop
  | non : Rv K H α β .non .non
  | bl {b : Bool} : Rv K H α β (.bl b) (.bl b)
  | int {i : Int} : Rv K H α β (.int i) (.int i)
  | str {x : Str} : Rv K H α β (.str x) (.str x)
  | tup {a : Addr} {vs : List V} {ds : List D} : SqT K (hid H (α ++ β)) a vs → Rps K H α β vs ds → Rv K H α β (.ref a) (.tup ds)
  | lst {a : Addr} {vs : List V} {ds : List D} : H a = some (.lst vs) → Rps K H α β vs ds → Rv K H α β (.ref a) (.lst ds)
  | lck {a : Addr} {vs : List V} {ds : List D} : SqL K H a vs → Rps K H α β vs ds → Rv K H α β (.ref a) (.lck ds)
  | ins {a dx : Addr} {c : Nat} {fs : List (Str × V)} {ns : List Str} {ds : List D} : H a = some (.ins (K.ct c) dx fs) → fs.map (·.1) = ns → Rps K H α β (fs.map (·.2)) ds → Rv K H α β (.ref a) (.ins c ns ds)
  | dct {a : Addr} {kvs : List (Key × V)} {ks : List Key} {ds : List D} : H a = some (.dK kvs) → kvs.map (·.1) = ks → Rps K H α β (kvs.map (·.2)) ds → Rv K H α β (.ref a) (.dct ks ds)
  | fn {k : Nat} : Rv K H α β (.ref (K.fa k)) (.fn k)
theorem hid_sub {H : Hp} {α : List Addr} : ∀ a o, hid H α a = some o → H a = some o := fun _ _ h => (hid_of h).1
theorem Rv.of {K : KK} {H : Hp} {α β : List Addr} {m : Ms} (c : CR K H α β m) : ∀ {v : V} {d : D}, Rp K H α β v d → Rv K H α β v (dr m d)
  | _, _, .non => .non
  | _, _, .bl => .bl
  | _, _, .int => .int
  | _, _, .str => .str
  | _, _, .tup s r => .tup s r
  | _, _, .lst s r => .lst (hid_sub _ _ s) r
  | _, _, .lck s r => .lck (sql_mono hid_sub s) r
  | _, _, .ins s n r => .ins (hid_sub _ _ s) n r
  | _, _, .dct s n r => .dct (hid_sub _ _ s) n r
  | _, _, .fn => .fn
  | _, _, .tpl s _ _ r => .tup (.inl (.inr ⟨_, s⟩)) r
  | _, _, .cel (a := a) (c := i) e => by
    have hi : i < m.length := by have := (List.getElem?_eq_some_iff.mp e).1; have := c.len; omega
    obtain ⟨_, vs, o, h1, ho, h2⟩ := c.cell i a m[i] e (List.getElem?_eq_getElem hi)
    have : dr m (.cel i) = m[i].fz := by simp [dr, List.getElem?_eq_getElem hi]
    rw [this]
    revert ho h2
    generalize m[i] = ce
    intro ho h2
    cases ce with
    | l ds =>
      have ho : o = .lst vs := ho
      subst ho
      exact .lst h1 h2
    | o c ns ds =>
      obtain ⟨dx, fs, rfl, n, rfl⟩ := ho
      exact .ins h1 n h2
    | d ks ds =>
      obtain ⟨kvs, rfl, n, rfl⟩ := ho
      exact .dct h1 n h2
/-! ## a def's promise -/
def PostF (L : Lc) (H : Hp) (α β : List Addr) (Q : VK) (E : XK) : R D → Prop
  | .ok d m => ∀ v H1 α1, Ext H α H1 α1 → CR L.K H1 α1 β m → Rp L.K H1 α1 β v d → Q v H1
  | .ex x m => ∀ cl dd H1 α1, Ext H α H1 α1 → CR L.K H1 α1 β m → XRep L H1 α1 β x cl dd → E cl dd H1
  | .bad => False
/-- L here: only K and ct are looked at -/
def spOf (L : Lc) (n : Nat) (g : List D → Ms → R D) : Sp := fun vs H Q E =>
  ∃ α β m ds, CR L.K H α β m ∧ Rps L.K H α β vs ds ∧ ds.length = n ∧ PostF L H α β Q E (g ds m)
def frz1 (n : Nat) (m : Ms) (d : D) : Option D :=
  if d.cf n then some d else match d with
    | .cel c => (m[c]?).map Ce.fz
    | _ => none
def frzs (n : Nat) (m : Ms) : List D → Option (List D)
  | [] => some []
  | d :: ds => (frz1 n m d).bind fun e => (frzs n m ds).map (e :: ·)
def frz (n : Nat) (m : Ms) (d : D) : Option D :=
  if d.cf n then some d else match d with
    | .cel c => (m[c]?).map Ce.fz
    | .tup ds => (frzs n m ds).map .tup
    | _ => none
section
variable {K : KK} {H : Hp} {α β : List Addr} {m : Ms} {n : Nat}
theorem cut_of {v : V} {d : D} (z : d.cf n = true) (r : Rp K H α β v d) : Rp K H (α.take n) β v d :=
  Rep.cut (n := n) (hid_take n) (fun c a hc e => by rw [List.getElem?_take_of_lt hc]; exact e) z r
theorem cut_lst (c : CR K H α β m) {i : Nat} {a : Addr} {ds : Ce} (hi : n ≤ i) (e : α[i]? = some a) (q : m[i]? = some ds) : Rp K H (α.take n) β (.ref a) ds.fz := by
  obtain ⟨z, vs, o, h1, ho, h2⟩ := c.cell i a ds e q
  have na : a ∉ α.take n ++ β := fun hm => by
    rcases List.mem_append.mp hm with hm | hm
    rotate_left
    · exact (c.al a hm).1 (List.mem_of_getElem? e)
    obtain ⟨j, hj, ej⟩ := List.getElem_of_mem hm
    have hj1 : j < n := by simp at hj; omega
    have hj2 : j < α.length := by simp at hj; omega
    rw [List.getElem_take] at ej
    have e2 := (List.getElem?_eq_some_iff.mp e)
    obtain ⟨e3, e4⟩ := e2
    have := (List.getElem_inj c.nd).mp (ej.trans e4.symm)
    omega
  have h3 := Reps.cut (n := 0) (hid_take n) (fun _ _ z => absurd z (Nat.not_lt_zero _)) z h2 (α' := α.take n)
  cases ds with
  | l ds =>
    have ho : o = .lst vs := ho
    subst ho
    exact .lst (hid_mk h1 na) h3
  | o c ns ds =>
    obtain ⟨dx, fs, rfl, k, rfl⟩ := ho
    exact .ins (hid_mk h1 na) k h3
  | d ks ds =>
    obtain ⟨kvs, rfl, k, rfl⟩ := ho
    exact .dct (hid_mk h1 na) k h3
theorem frz1_ok (c : CR K H α β m) {v : V} {d d' : D} (r : Rp K H α β v d) (e : frz1 n m d = some d') : Rp K H (α.take n) β v d' := by
  unfold frz1 at e
  split at e
  · cases e
    exact cut_of (by assumption) r
  · rename_i nz
    split at e
    · cases r with
      | cel ea =>
        rename_i i a
        cases q : m[i]? with
        | none => rw [q] at e; cases e
        | some ds =>
          rw [q] at e
          cases e
          refine cut_lst c ?_ ea q
          simp [D.cf] at nz
          exact nz
    · cases e
theorem frzs_ok (c : CR K H α β m) : ∀ {ds es : List D} {vs : List V}, Rps K H α β vs ds → frzs n m ds = some es → Rps K H (α.take n) β vs es
  | [], _, _, .nil, e => by cases e; exact .nil
  | d :: ds, es, _, .cons r rs, e => by
    unfold frzs at e
    cases q : frz1 n m d with
    | none => rw [q] at e; cases e
    | some d' =>
      rw [q] at e
      cases q2 : frzs n m ds with
      | none => rw [q2] at e; cases e
      | some ds' =>
        rw [q2] at e
        cases e
        exact .cons (frz1_ok c r q) (frzs_ok c rs q2)
theorem frz_ok (c : CR K H α β m) {v : V} {d d' : D} (r : Rp K H α β v d) (e : frz n m d = some d') : Rp K H (α.take n) β v d' := by
  unfold frz at e
  split at e
  · cases e
    exact cut_of (by assumption) r
  · rename_i nz
    split at e
    · cases r with
      | cel ea =>
        rename_i i a
        cases q : m[i]? with
        | none => rw [q] at e; cases e
        | some ds =>
          rw [q] at e
          cases e
          refine cut_lst c ?_ ea q
          simp [D.cf] at nz
          exact nz
    · cases r with
      | tup s rs =>
        rename_i ds a vs
        cases q : frzs n m ds with
        | none => rw [q] at e; cases e
        | some es =>
          rw [q] at e
          cases e
          exact .tup (sqt_mono (hid_take n) s) (frzs_ok c rs q)
    · cases e
end
def cfF (fs : List (Str × D)) : Bool := fs.all fun p => p.2.cf 0
/-- the meaning of a def, by its body's: the cells made in it are let go -/
def fnSem (N : Nat) (body : Fo) : List D → Ms → R D := fun ds m =>
  match body (ds.map some ++ List.replicate (N - ds.length) none) m with
  | .nx _ m' => .ok .non (m'.take m.length)
  | .rt d m' => match frz m.length m' d with
    | some d' => .ok d' (m'.take m.length)
    | none => .bad
  | .ex x _ m' => if cfF x.fs then .ex x (m'.take m.length) else .bad
  | _ => .bad
/-- .. of one that hands back a new list of its own, as a cell -/
def fnSemC (N : Nat) (body : Fo) : List D → Ms → R D := fun ds m =>
  match body (ds.map some ++ List.replicate (N - ds.length) none) m with
  | .rt (.cel c) m' => if c < m.length then .bad else match m'[c]? with
    | some es => .ok (.cel m.length) (m'.take m.length ++ [es])
    | none => .bad
  | .ex x _ m' => if cfF x.fs then .ex x (m'.take m.length) else .bad
  | _ => .bad
section
variable {K : KK} {H H1 : Hp} {α α1 β : List Addr} {m m1 : Ms}
theorem Flds.cut {G G' : Hp} {α' : List Addr} (h : ∀ a o, G a = some o → G' a = some o) : ∀ {vs : List (Str × V)} {fs : List (Str × D)}, cfF fs = true → Flds K G α vs fs → Flds K G' α' vs fs
  | _, _, _, .nil => .nil
  | _, _, z, .cons r t => by
    unfold cfF at z
    rw [List.all_cons, Bool.and_eq_true] at z
    exact .cons (Rep.cut (n := 0) h (fun _ _ q => absurd q (Nat.not_lt_zero _)) z.1 r) (Flds.cut h z.2 t)
theorem start_sr (c : CR K H α β m) {vs : List V} {ds : List D} (r : Rps K H α β vs ds) (N : List Str) : SR K H α β (L2.start N vs) (ds.map some ++ List.replicate (N.length - ds.length) none) m := by
  refine ⟨c, ?_, fun i d h => ?_⟩
  · unfold L2.start
    simp [r.length]
  · have hi : i < ds.length := by
      by_cases hi : i < ds.length
      · exact hi
      · rw [List.getElem?_append_right (by simp; omega), List.getElem?_replicate] at h
        split at h <;> cases h
    rw [List.getElem?_append_left (by simpa using hi), List.getElem?_map, List.getElem?_eq_getElem hi] at h
    simp at h
    subst h
    obtain ⟨v, h1, h2⟩ := r.get (List.getElem?_eq_getElem hi)
    refine ⟨v, ?_, h2⟩
    unfold L2.start
    rw [List.getElem?_append_left (by rw [List.length_map, r.length]; exact hi), List.getElem?_map, h1]
    rfl
theorem take_len (e : Ext H α H1 α1) (c : CR K H α β m) (c1 : CR K H1 α1 β m1) : m.length = α.length ∧ α.length ≤ α1.length ∧ α1.take m.length = α := by
  obtain ⟨γ, rfl⟩ := e.pre
  refine ⟨c.len.symm, by simp, ?_⟩
  rw [← c.len]
  simp
end
theorem XRep.cut {L : Lc} {H : Hp} {α β : List Addr} {n : Nat} {x : Xc} {cl : Value} {dd : Option Addr} (z : cfF x.fs = true) (h : XRep L H α β x cl dd) : XRep L H (α.take n) β x cl dd := by
  obtain ⟨a, vs, h1, h2, h3, h4⟩ := h
  exact ⟨a, vs, h1, h2, hid_take n _ _ h3, Flds.cut (hid_take n) z h4⟩
def Lc.at (L : Lc) (N : List Str) (sc : Scope) (k : Nat) : Lc := { L with N := N, sc := sc, k := k, fn := fun _ => true }
section
variable {L : Lc} {x qual : Str} {st : Stmt} {f : Addr} {fd : FuncData} {N ps : List Str} {k : Nat} {body : Fo} {dvs : List V} {kws : List (Str × V)}
theorem def_len {n : Nat} {g : List D → Ms → R D} (hn : ps.length = n) : ∀ vs H Q E, spOf L n g vs H Q E → vs.length = ps.length := fun vs H Q E ⟨α, β, m, ds, _, r, e, _⟩ => by
  rw [r.length, e, hn]
theorem ok_cx {A : Around} {outer : List Env} {s : Shared} {H : Hp} {E : XK} {cdv : Value} (hr : Room k (A.deeper (PyProof.Rows.envOfC qual (defScope st) s.heap.objs.size f cdv)))
    (hc : ∀ c q, L.cd = some (c, q) → cdv = .ref c ∧ qual ++ Str.ofString ".<locals>." = q) : Ok (L.at N (defScope st) k) (fun cls d _ H => E cls d H) (cxOf (L2.CX L.P L.w) L.P L.w L.K L.mg L.base N qual (defScope st) f cdv A outer s H E) :=
  ⟨rfl, rfl, rfl, rfl, rfl, rfl, rfl, hr, rfl, takes_of rfl rfl rfl rfl, passes_of rfl, fun _ _ => rfl, hc⟩
theorem def_body (S : FnScope N ps (defScope st)) (hb : SSs (L.at N (defScope st) k) (defBody st) body) {n : Nat} (hn : ps.length = n) {cdv : Value} (hc : ∀ c q, L.cd = some (c, q) → cdv = .ref c ∧ qual ++ Str.ofString ".<locals>." = q) {A : Around} {outer : List Env} {s : Shared} {H : Hp} {vs : List V} {Q : VK} {E : XK} (hr : Room k (A.deeper (PyProof.Rows.envOfC qual (defScope st) s.heap.objs.size f cdv))) (hsp : spOf L n (fnSem N.length body) vs H Q E) :
    ∃ t, PSs (cxOf (L2.CX L.P L.w) L.P L.w L.K L.mg L.base N qual (defScope st) f cdv A outer s H E) (defBody st) t ∧ t { nx := fun _ H' => Q .non H', rt := Q } (L2.start N vs) H := by
  obtain ⟨α, β, m, ds, c, r, e, h⟩ := hsp
  refine ⟨_, hb _ _ (ok_cx hr hc), α, β, _, m, start_sr c r N, ?_⟩
  unfold fnSem at h
  generalize body (ds.map some ++ List.replicate (N.length - ds.length) none) m = o at h ⊢
  cases o with
  | nx σd m' =>
    intro σ H1 α1 e1 s1
    obtain ⟨h1, h2, h3⟩ := take_len e1 c s1.cr
    exact h .non H1 _ (e1.take (n := m.length) h1) (s1.cr.take _) .non
  | rt d m' =>
    intro v H1 α1 e1 c1 r1
    obtain ⟨h1, h2, h3⟩ := take_len e1 c c1
    cases q : frz m.length m' d with
    | none => simp only [q] at h; exact h.elim
    | some d' =>
      simp only [q] at h
      exact h v H1 _ (e1.take (n := m.length) h1) (c1.take _) (frz_ok c1 r1 q)
  | bk σd m' => exact h.elim
  | ct σd m' => exact h.elim
  | ex xx σd m' =>
    intro cl dd σ H1 α1 e1 s1 xr
    obtain ⟨h1, h2, h3⟩ := take_len e1 c s1.cr
    cases q : cfF xx.fs with
    | false => simp [q] at h; exact h.elim
    | true =>
      simp only [q, if_true] at h
      exact h cl dd H1 _ (e1.take (n := m.length) h1) (s1.cr.take _) (xr.cut q)
  | bad => exact h.elim
theorem def_ok (F : FunD L.K x qual (defArgs st) (defBody st) (defScope st) dvs kws f fd) (S : FnScope N ps (defScope st)) (hb : SSs (L.at N (defScope st) k) (defBody st) body) {n : Nat} (hn : ps.length = n) (hc : L.cd = none) :
    FnOk L.P L.w L.K L.mg L.base (L2.CX L.P L.w) (k + 1) f fd ps (spOf L n (fnSem N.length body)) :=
  F.ok S (def_len hn) fun cdv A outer s H vs Q E hr hsp => def_body S hb hn (fun c q e => by rw [hc] at e; cases e) hr hsp
theorem def_bodyC (S : FnScope N ps (defScope st)) (hb : SSs (L.at N (defScope st) k) (defBody st) body) {n : Nat} (hn : ps.length = n) {cdv : Value} (hc : ∀ c q, L.cd = some (c, q) → cdv = .ref c ∧ qual ++ Str.ofString ".<locals>." = q) {A : Around} {outer : List Env} {s : Shared} {H : Hp} {vs : List V} {Q : VK} {E : XK} (hr : Room k (A.deeper (PyProof.Rows.envOfC qual (defScope st) s.heap.objs.size f cdv))) (hsp : spOf L n (fnSemC N.length body) vs H Q E) :
    ∃ t, PSs (cxOf (L2.CX L.P L.w) L.P L.w L.K L.mg L.base N qual (defScope st) f cdv A outer s H E) (defBody st) t ∧ t { nx := fun _ H' => Q .non H', rt := Q } (L2.start N vs) H := by
  obtain ⟨α, β, m, ds, c, r, e, h⟩ := hsp
  refine ⟨_, hb _ _ (ok_cx hr hc), α, β, _, m, start_sr c r N, ?_⟩
  unfold fnSemC at h
  generalize body (ds.map some ++ List.replicate (N.length - ds.length) none) m = o at h ⊢
  cases o with
  | nx σd m' => exact h.elim
  | bk σd m' => exact h.elim
  | ct σd m' => exact h.elim
  | bad => exact h.elim
  | ex xx σd m' =>
    intro cl dd σ H1 α1 e1 s1 xr
    obtain ⟨h1, h2, h3⟩ := take_len e1 c s1.cr
    cases q : cfF xx.fs with
    | false => simp [q] at h; exact h.elim
    | true =>
      simp only [q, if_true] at h
      exact h cl dd H1 _ (e1.take (n := m.length) h1) (s1.cr.take _) (xr.cut q)
  | rt d m' =>
    cases d with
    | cel i =>
      by_cases hi : i < m.length
      · simp [hi] at h
        exact h.elim
      · cases q : m'[i]? with
        | none => simp [hi, q] at h; exact h.elim
        | some es =>
          simp only [hi, q, if_false] at h
          intro v H1 α1 e1 c1 r1
          obtain ⟨h1, h2, h3⟩ := take_len e1 c c1
          cases r1 with
          | cel ea =>
            rename_i a
            obtain ⟨z, vs', go, g1, gk, g2⟩ := c1.cell i a es ea q
            have ea' := ea
            obtain ⟨γ, rfl⟩ := e1.pre
            have hl : α.length = m.length := c.len
            have ha : a ∉ α := fun hm => by
              obtain ⟨j, hj, ej⟩ := List.getElem_of_mem hm
              obtain ⟨e3, e4⟩ := List.getElem?_eq_some_iff.mp ea
              have e5 : (α ++ γ)[j]'(by simp; omega) = a := by rw [List.getElem_append_left hj]; exact ej
              have := (List.getElem_inj c1.nd).mp (e5.trans e4.symm)
              omega
            have hn : vac H a := by
              rcases e1.new a (List.mem_of_getElem? ea) with z | z
              · exact absurd z ha
              · exact z
            refine h (.ref a) H1 (α ++ [a]) ⟨⟨[a], rfl⟩, e1.fr, fun b hb => ?_⟩ ⟨?_, ?_, fun b hb => ⟨fun z => ?_, (c1.al b hb).2⟩, fun j b fs g3 g4 => ?_, c1.tb⟩ (.cel ?_)
            · rcases List.mem_append.mp hb with z | z
              · exact .inl z
              · rw [List.mem_singleton.mp z]; exact .inr hn
            · have := c1.len
              simp at this ⊢
              omega
            · refine List.nodup_append.mpr ⟨c.nd, by simp, ?_⟩
              intro b hb b' hb' e
              rw [List.mem_singleton] at hb'
              subst hb'; subst e
              exact ha hb
            · rcases List.mem_append.mp z with z | z
              · exact (c.al b hb).1 z
              · rw [List.mem_singleton.mp z] at hb
                exact (c1.al a hb).1 (List.mem_of_getElem? ea)
            · have hsub : ∀ b o, hid H1 (α ++ γ ++ β) b = some o → hid H1 (α ++ [a] ++ β) b = some o := fun b o q => by
                have qt := hid_nt q
                obtain ⟨q1, q2⟩ := hid_of q
                refine hid_mk q1 (fun hm => q2 ?_) qt
                rcases List.mem_append.mp hm with z | z
                · rcases List.mem_append.mp z with z | z
                  · exact List.mem_append_left _ (List.mem_append_left _ z)
                  · rw [List.mem_singleton.mp z]; exact List.mem_append_left _ (List.mem_of_getElem? ea)
                · exact List.mem_append_right _ z
              have hm1 : (m'.take m.length).length = α.length := by
                have := c1.len
                simp at this ⊢
                omega
              by_cases hj : j < α.length
              · rw [List.getElem?_append_left hj] at g3
                rw [List.getElem?_append_left (by omega), List.getElem?_take_of_lt (by omega)] at g4
                obtain ⟨y, ws, wo, g5, wk, g6⟩ := c1.cell j b fs (by rw [List.getElem?_append_left hj]; exact g3) g4
                exact ⟨y, ws, wo, g5, wk, Reps.cut (n := 0) hsub (fun _ _ q => absurd q (Nat.not_lt_zero _)) y g6⟩
              · have hj2 : j = α.length := by
                  have := (List.getElem?_eq_some_iff.mp g3).1
                  simp at this; omega
                subst hj2
                rw [List.getElem?_append_right (Nat.le_refl _)] at g3
                rw [List.getElem?_append_right (by omega)] at g4
                rw [hm1] at g4
                simp at g3 g4
                subst g3; subst g4
                exact ⟨z, vs', go, g1, gk, Reps.cut (n := 0) hsub (fun _ _ q => absurd q (Nat.not_lt_zero _)) z g2⟩
            · rw [← hl]
              simp
    | non => exact h.elim
    | bl b => exact h.elim
    | int b => exact h.elim
    | str b => exact h.elim
    | tup b => exact h.elim
    | lst b => exact h.elim
    | lck b => exact h.elim
    | ins c ns ds => exact h.elim
    | dct => exact h.elim
    | fn => exact h.elim
    | tpl => exact h.elim
theorem def_okC (F : FunD L.K x qual (defArgs st) (defBody st) (defScope st) dvs kws f fd) (S : FnScope N ps (defScope st)) (hb : SSs (L.at N (defScope st) k) (defBody st) body) {n : Nat} (hn : ps.length = n) (hc : L.cd = none) :
    FnOk L.P L.w L.K L.mg L.base (L2.CX L.P L.w) (k + 1) f fd ps (spOf L n (fnSemC N.length body)) :=
  F.ok S (def_len hn) fun cdv A outer s H vs Q E hr hsp => def_bodyC S hb hn (fun c q e => by rw [hc] at e; cases e) hr hsp
/-- a def that makes lambdas: its code object is known -/
theorem def_okL {oc dV kV doc pm ct : Value} {od an : Option Addr} {osl : Array (Option Value)} {c : Addr} (lk : L.K.K.lookup f = some ⟨oc, od, .func (PySem.W.fnOf x qual (defArgs st) (defBody st) (defScope st) dV kV doc pm an (.ref c) ct), osl⟩) (hcd : PySem.W.codeIn L.K.K (.ref c) qual = true)
    (S : FnScope N ps (defScope st)) (hb : SSs (L.at N (defScope st) k) (defBody st) body) {n : Nat} (hn : ps.length = n) (hc : L.cd = some (c, qual ++ Str.ofString ".<locals>.")) :
    FnOk L.P L.w L.K L.mg L.base (L2.CX L.P L.w) (k + 1) f (PySem.W.fnOf x qual (defArgs st) (defBody st) (defScope st) dV kV doc pm an (.ref c) ct) ps (spOf L n (fnSem N.length body)) :=
  fn_of lk hcd S (def_len hn) fun A outer s H vs Q E hr hsp => def_body S hb hn (fun c' q e => by rw [hc] at e; cases e; exact ⟨rfl, rfl⟩) hr hsp
end
end CT
namespace CT
open PySem L2
/-! ## values, two-place operations -/
def xVar (i : Nat) : Fn D := fun σ m => match σ[i]? with
  | some (some d) => .ok d m
  | _ => .bad
def xVal (d : D) : Fn D := fun _ m => .ok d m
def xOp (o : D → D → Ms → R D) (a b : Fn D) : Fn D := fun σ m => (a σ m).bind fun x m1 => (b σ m1).bind fun y m2 => o (dr m2 x) (dr m2 y) m2
def xUn (o : D → Ms → R D) (a : Fn D) : Fn D := fun σ m => (a σ m).bind fun x m1 => o (dr m1 x) m1
section
variable {L : Lc}
theorem se_var {i : Nat} {x : Str} {pos : Pos} (hN : L.N[i]? = some x) (hv : Vis L.sc x) (hd : (x == ("__debug__" : Str)) = false := by decide) (hcd : (x == ("__classdict__" : Str)) = false := by decide) : SE L (.Name x pos) (xVar i) := fun W X h => by
  refine PEi (pe_var (i := i) (by rw [h.N]; exact hN) (by rw [h.sc]; exact hv) hd hcd) fun σ H Q ⟨α, β, σd, m, s, q⟩ => ?_
  unfold xVar at q
  split at q
  · rename_i d e
    obtain ⟨v, h1, h2⟩ := s.slot i d e
    exact ⟨v, h1, q v H α Ext.refl s h2⟩
  · exact q.elim
theorem se_val {e : Expr} {v : V} {d : D} (h : ∀ W X, Ok L W X → PE X e (tC v)) (r : ∀ H α β, Rp L.K H α β v d) : SE L e (xVal d) := fun W X hX =>
  PEi (h W X hX) fun σ H Q ⟨α, β, σd, m, s, q⟩ => q v H α Ext.refl s (r H α β)
theorem se_int {i : Int} {j pos} : SE L (.Constant (.int i) j pos) (xVal (.int i)) := se_val (fun _ _ _ => pe_int) fun _ _ _ => .int
theorem se_str {x : Str} {j pos} : SE L (.Constant (.str x) j pos) (xVal (.str x)) := se_val (fun _ _ _ => pe_str) fun _ _ _ => .str
theorem se_bl {b : Bool} {j pos} : SE L (.Constant (.bool b) j pos) (xVal (.bl b)) := se_val (fun _ _ _ => pe_bl) fun _ _ _ => .bl
theorem se_non {j pos} : SE L (.Constant .none j pos) (xVal .non) := se_val (fun _ _ _ => pe_non) fun _ _ _ => .non
/-- a constant of the module -/
def Gcon (L : Lc) (x : Str) (d : D) : Prop := ∃ u v, L.mg x = some u ∧ RelV v u ∧ ∀ H α β, Rp L.K H α β v d
theorem se_con {x : Str} {d : D} {pos : Pos} (hg : L.sc.names.lookup x = some .globalImplicit) (c : Gcon L x d) (hd : (x == ("__debug__" : Str)) = false := by decide) : SE L (.Name x pos) (xVal d) := by
  obtain ⟨u, v, h1, h2, h3⟩ := c
  exact se_val (fun W X h => pe_glob (by unfold Gl Env.kindOf; rw [h.sc]; exact hg) (by rw [h.mg]; exact h1) h2 hd) h3
/-- what a rule asks of values is had from data -/
def OpS (L : Lc) (r : R2) (o : D → D → Ms → R D) : Prop := ∀ (W : WX) (H : Hp) (α β : List Addr) (σ : St) (σd : Sd) (m : Ms) (v u : V) (x y : D) (Q : VK), SR L.K H α β σ σd m → Rv L.K H α β v x → Rv L.K H α β u y →
  PostR L W (relV L) σ σd H α β Q (o x y m) → r v u H Q
theorem op_core {r : R2} {o : D → D → Ms → R D} (os : OpS L r o) {fa fb : Fn D} {W : WX} {σ : St} {H : Hp} {Q : VK} (h : tS L W (relV L) (xOp o fa fb) σ H Q) : tOp r (tS L W (relV L) fa) (tS L W (relV L) fb) σ H Q := by
  obtain ⟨α, β, σd, m, s, q⟩ := h
  refine ⟨α, β, σd, m, s, q.mp fun d m1 v H1 α1 e1 s1 r1 q => ⟨α1, β, σd, m1, s1, q.mp fun d2 m2 u H2 α2 e2 s2 r2 q => ?_⟩⟩
  exact os W H2 α2 β σ σd m2 v u _ _ Q s2 (Rv.of s2.cr (r1.ext e2)) (Rv.of s2.cr r2) q
theorem se_bin {op : Operator} {r : R2} {o : D → D → Ms → R D} (ho : ∀ W X, Ok L W X → OpR X (binaryOp op) r) (os : OpS L r o) {a b : Expr} {fa fb : Fn D} {pos : Pos} (ha : SE L a fa) (hb : SE L b fb) : SE L (.BinOp a op b pos) (xOp o fa fb) :=
  fun W X h => PEi (pe_op (ho W X h) (ha W X h) (hb W X h)) fun σ H Q q => op_core os q
theorem se_cmp {op : CmpOp} {r : R2} {o : D → D → Ms → R D} (ho : ∀ W X, Ok L W X → OpR X (compareOp op) r) (os : OpS L r o) {a b : Expr} {fa fb : Fn D} {pos : Pos} (ha : SE L a fa) (hb : SE L b fb) (hm : behindInMarks op b = false) : SE L (.Compare a [op] [b] pos) (xOp o fa fb) :=
  fun W X h => PEi (pe_cmpR (ho W X h) (ha W X h) (hb W X h) hm) fun σ H Q q => op_core os q
def xTest (f : Fn D) : Fn Bool := fun σ m => (f σ m).bind fun d m1 => match d with
  | .bl b => .ok b m1
  | _ => .bad
theorem test_core {f : Fn D} {W : WX} {σ : St} {H : Hp} {Q : Bool → Hp → Prop} (h : tS L W relB (xTest f) σ H Q) : tTest (tS L W (relV L) f) σ H Q := by
  obtain ⟨α, β, σd, m, s, q⟩ := h
  refine ⟨α, β, σd, m, s, q.mp fun d m1 v H1 α1 e1 s1 r1 q => ?_⟩
  cases r1 with
  | bl => exact ⟨_, rfl, q _ H1 α1 Ext.refl s1 rfl⟩
  | non => exact q.elim
  | int => exact q.elim
  | str => exact q.elim
  | tup _ _ => exact q.elim
  | lst _ _ => exact q.elim
  | cel _ => exact q.elim
  | lck _ _ => exact q.elim
  | ins _ _ _ => exact q.elim
  | dct => exact q.elim
  | fn => exact q.elim
  | tpl => exact q.elim
theorem st_cmp {op : CmpOp} {r : R2} {o : D → D → Ms → R D} (ho : ∀ W X, Ok L W X → OpR X (compareOp op) r) (os : OpS L r o) {a b : Expr} {fa fb : Fn D} {pos : Pos} (ha : SE L a fa) (hb : SE L b fb) (hm : behindInMarks op b = false) : ST L (.Compare a [op] [b] pos) (xTest (xOp o fa fb)) :=
  fun W X h => PTi (pt_cmpR (ho W X h) (ha W X h) (hb W X h) hm) fun σ H Q q => by
    have q' := test_core q
    obtain ⟨α, β, σd, m, s, q⟩ := q
    refine op_core (W := W) os ⟨α, β, σd, m, s, ?_⟩
    obtain ⟨α', β', σd', m', s', q''⟩ := q'
    unfold xTest at q
    refine q.mp (rel' := relV L) fun d m1 v H1 α1 e1 s1 r1 q => ?_
    cases r1 with
    | bl => exact ⟨_, rfl, q _ H1 α1 Ext.refl s1 rfl⟩
    | non => exact q.elim
    | int => exact q.elim
    | str => exact q.elim
    | tup _ _ => exact q.elim
    | lst _ _ => exact q.elim
    | cel _ => exact q.elim
    | lck _ _ => exact q.elim
    | ins _ _ _ => exact q.elim
    | dct => exact q.elim
    | fn => exact q.elim
    | tpl => exact q.elim
theorem st_val {e : Expr} {f : Fn D} (he : SE L e f) (hp : ∀ env whole, isTrue e env whole = (do let v ← whole; standAt e.pos; holding [v] (truthy v)) := by intro _ _; rfl) : ST L e (xTest f) :=
  fun W X h => PTi (pt_val (he W X h) (hp _)) fun σ H Q q => test_core q
/-! ### a chain of two comparisons -/
def xChain (o o' : D → D → Ms → R D) (a b c : Fn D) : Fn D := fun σ m => (a σ m).bind fun x m1 => (b σ m1).bind fun y m2 => (o (dr m2 x) (dr m2 y) m2).bind fun z m3 => match z with
  | .bl true => (c σ m3).bind fun w m4 => o' (dr m4 y) (dr m4 w) m4
  | .bl false => .ok (.bl false) m3
  | _ => .bad
end
end CT
namespace CT
open PySem L2
section
variable {L : Lc}
theorem chain_core {r r' : R2} {o o' : D → D → Ms → R D} (os : OpS L r o) (os' : OpS L r' o') {fa fb fc : Fn D} {W : WX} {σ : St} {H : Hp} {Q : VK} (h : tS L W (relV L) (xChain o o' fa fb fc) σ H Q) :
    tChain r r' (tS L W (relV L) fa) (tS L W (relV L) fb) (tS L W (relV L) fc) σ H Q := by
  obtain ⟨α, β, σd, m, s, q⟩ := h
  refine ⟨α, β, σd, m, s, q.mp fun d m1 v H1 α1 e1 s1 r1 q => ⟨α1, β, σd, m1, s1, q.mp fun d2 m2 u H2 α2 e2 s2 r2 q => ?_⟩⟩
  refine os W H2 α2 β σ σd m2 v u _ _ _ s2 (Rv.of s2.cr (r1.ext e2)) (Rv.of s2.cr r2) (q.mp fun z m3 w H3 α3 e3 s3 r3 q => ?_)
  cases r3 with
  | bl =>
    rename_i b
    refine ⟨b, rfl, ?_⟩
    cases b with
    | true =>
      rw [if_pos rfl]
      refine ⟨α3, β, σd, m3, s3, q.mp fun d4 m4 w H4 α4 e4 s4 r4 q => ?_⟩
      exact os' W H4 α4 β σ σd m4 u w _ _ Q s4 (Rv.of s4.cr (r2.ext (e3.trans e4))) (Rv.of s4.cr r4) q
    | false =>
      rw [if_neg Bool.false_ne_true]
      exact q _ H3 α3 Ext.refl s3 .bl
  | non => exact q.elim
  | int => exact q.elim
  | str => exact q.elim
  | tup _ _ => exact q.elim
  | lst _ _ => exact q.elim
  | cel _ => exact q.elim
  | lck _ _ => exact q.elim
  | ins _ _ _ => exact q.elim
  | dct => exact q.elim
  | fn => exact q.elim
  | tpl => exact q.elim
theorem st_chain {op op' : CmpOp} {r r' : R2} {o o' : D → D → Ms → R D} (ho : ∀ W X, Ok L W X → OpR X (compareOp op) r) (os : OpS L r o) (ho' : ∀ W X, Ok L W X → OpR X (compareOp op') r') (os' : OpS L r' o') {a b c : Expr} {fa fb fc : Fn D} {pos : Pos} (ha : SE L a fa) (hb : SE L b fb) (hc : SE L c fc)
    (hm : lastMarks [op, op'] [b, c] = false := by with_unfolding_all rfl) : ST L (.Compare a [op, op'] [b, c] pos) (xTest (xChain o o' fa fb fc)) :=
  fun W X h => PTi (pt_chain (ho W X h) (ho' W X h) (ha W X h) (hb W X h) (hc W X h) hm) fun σ H Q q => by
    have e : ∀ Q', tS L W (relV L) (xChain o o' fa fb fc) σ H Q' → tChain r r' (tS L W (relV L) fa) (tS L W (relV L) fb) (tS L W (relV L) fc) σ H Q' := fun Q' q => chain_core os os' q
    exact e _ (test_core q)
/-! ### and, or, not, if else -/
def xAnd (a b : Fn Bool) : Fn Bool := fun σ m => (a σ m).bind fun x m1 => if x = true then b σ m1 else .ok false m1
def xOr (a b : Fn Bool) : Fn Bool := fun σ m => (a σ m).bind fun x m1 => if x = true then .ok true m1 else b σ m1
def xNot (a : Fn Bool) : Fn Bool := fun σ m => (a σ m).bind fun x m1 => .ok (!x) m1
def xIf (c : Fn Bool) (a b : Fn D) : Fn D := fun σ m => (c σ m).bind fun x m1 => if x = true then a σ m1 else b σ m1
def SW (L : Lc) (e : Expr) (f : Fn Bool) : Prop := ∀ W X, Ok L W X → PW X e (tS L W relB f)
theorem PWi {X : Cx} {e : Expr} {t t' : TT} (h : PW X e t) (k : ∀ σ H Q, t' σ H Q → t σ H Q) : PW X e t' := ⟨fun wh pins s σ H Q I q => h.run wh pins s σ H Q I (k _ _ _ q)⟩
theorem SW.st {e : Expr} {f : Fn Bool} (h : SW L e f) : ST L e f := fun W X hX => (h W X hX).pt
theorem sw_and1 {a : Expr} {fa : Fn Bool} {pos : Pos} (ha : ST L a fa) : SW L (.BoolOp .And [a] pos) fa := fun W X h => pw_and1 (ha W X h)
theorem sw_or1 {a : Expr} {fa : Fn Bool} {pos : Pos} (ha : ST L a fa) : SW L (.BoolOp .Or [a] pos) fa := fun W X h => pw_or1 (ha W X h)
theorem sw_and {a b : Expr} {r : List Expr} {fa fb : Fn Bool} {pos : Pos} (ha : ST L a fa) (hb : SW L (.BoolOp .And (b :: r) pos) fb) : SW L (.BoolOp .And (a :: b :: r) pos) (xAnd fa fb) := fun W X h =>
  PWi (pw_and (ha W X h) (hb W X h)) fun σ H Q ⟨α, β, σd, m, s, q⟩ => by
    refine ⟨α, β, σd, m, s, q.mp fun d m1 v H1 α1 e1 s1 r1 q => ?_⟩
    obtain rfl : v = d := r1
    cases v with
    | true => rw [if_pos rfl] at q ⊢; exact ⟨α1, β, σd, m1, s1, q⟩
    | false => rw [if_neg Bool.false_ne_true] at q ⊢; exact q _ H1 α1 Ext.refl s1 rfl
theorem sw_or {a b : Expr} {r : List Expr} {fa fb : Fn Bool} {pos : Pos} (ha : ST L a fa) (hb : SW L (.BoolOp .Or (b :: r) pos) fb) : SW L (.BoolOp .Or (a :: b :: r) pos) (xOr fa fb) := fun W X h =>
  PWi (pw_or (ha W X h) (hb W X h)) fun σ H Q ⟨α, β, σd, m, s, q⟩ => by
    refine ⟨α, β, σd, m, s, q.mp fun d m1 v H1 α1 e1 s1 r1 q => ?_⟩
    obtain rfl : v = d := r1
    cases v with
    | true => rw [if_pos rfl] at q ⊢; exact q _ H1 α1 Ext.refl s1 rfl
    | false => rw [if_neg Bool.false_ne_true] at q ⊢; exact ⟨α1, β, σd, m1, s1, q⟩
theorem st_not {a : Expr} {fa : Fn Bool} {pos : Pos} (ha : ST L a fa) : ST L (.UnaryOp .Not a pos) (xNot fa) := fun W X h =>
  PTi (pt_not (ha W X h)) fun σ H Q ⟨α, β, σd, m, s, q⟩ => ⟨α, β, σd, m, s, q.mp fun d m1 v H1 α1 e1 s1 r1 q => by
    obtain rfl : v = d := r1
    exact q _ H1 α1 Ext.refl s1 rfl⟩
/-- as values: all parts True or False -/
def xAndV (a b : Fn D) : Fn D := fun σ m => (a σ m).bind fun x m1 => match x with
  | .bl true => b σ m1
  | .bl false => .ok (.bl false) m1
  | _ => .bad
def xOrV (a b : Fn D) : Fn D := fun σ m => (a σ m).bind fun x m1 => match x with
  | .bl false => b σ m1
  | .bl true => .ok (.bl true) m1
  | _ => .bad
def xNotV (a : Fn D) : Fn D := fun σ m => (a σ m).bind fun x m1 => match x with
  | .bl b => .ok (.bl (!b)) m1
  | _ => .bad
theorem se_one {op} {a : Expr} {fa : Fn D} {pos : Pos} (ha : SE L a fa) : SE L (.BoolOp op [a] pos) fa := fun W X h => pe_one (ha W X h)
theorem se_and {a b : Expr} {r : List Expr} {fa fb : Fn D} {pos : Pos} (ha : SE L a fa) (hb : SE L (.BoolOp .And (b :: r) pos) fb) : SE L (.BoolOp .And (a :: b :: r) pos) (xAndV fa fb) := fun W X h =>
  PEi (pe_and (ha W X h) (hb W X h)) fun σ H Q ⟨α, β, σd, m, s, q⟩ => by
    refine ⟨α, β, σd, m, s, q.mp fun d m1 v H1 α1 e1 s1 r1 q => ?_⟩
    cases r1 with
    | bl =>
      rename_i b
      refine ⟨b, rfl, ?_⟩
      cases b with
      | true => rw [if_pos rfl]; exact ⟨α1, β, σd, m1, s1, q⟩
      | false => rw [if_neg Bool.false_ne_true]; exact q _ H1 α1 Ext.refl s1 .bl
    | non => exact q.elim
    | int => exact q.elim
    | str => exact q.elim
    | tup _ _ => exact q.elim
    | lst _ _ => exact q.elim
    | cel _ => exact q.elim
    | lck _ _ => exact q.elim
    | ins _ _ _ => exact q.elim
    | dct => exact q.elim
    | fn => exact q.elim
    | tpl => exact q.elim
theorem se_if {c a b : Expr} {fc : Fn Bool} {fa fb : Fn D} {pos : Pos} (hc : ST L c fc) (ha : SE L a fa) (hb : SE L b fb) : SE L (.IfExp c a b pos) (xIf fc fa fb) := fun W X h =>
  PEi (pe_ifExp (hc W X h) (ha W X h) (hb W X h)) fun σ H Q ⟨α, β, σd, m, s, q⟩ => by
    refine ⟨α, β, σd, m, s, q.mp fun d m1 v H1 α1 e1 s1 r1 q => ?_⟩
    obtain rfl : v = d := r1
    cases v with
    | true => rw [if_pos rfl] at q ⊢; exact ⟨α1, β, σd, m1, s1, q⟩
    | false => rw [if_neg Bool.false_ne_true] at q ⊢; exact ⟨α1, β, σd, m1, s1, q⟩
/-! ### arguments, displays -/
def xNil : Fn (List D) := fun _ m => .ok [] m
def xCons (a : Fn D) (r : Fn (List D)) : Fn (List D) := fun σ m => (a σ m).bind fun x m1 => (r σ m1).bind fun ys m2 => .ok (x :: ys) m2
/-- with how many there are -/
def relN (L : Lc) (n : Nat) : Hp → List Addr → List Addr → List V → List D → Prop := fun H α β vs ds => Rps L.K H α β vs ds ∧ vs.length = n
def SAs (L : Lc) (es : List Expr) (f : Fn (List D)) : Prop := ∀ W X, Ok L W X → PA X es (tS L W (relN L es.length) f)
theorem sa_nil : SAs L [] xNil := fun W X h => PAi pa_nil fun σ H Q ⟨α, β, σd, m, s, q⟩ => q [] H α Ext.refl s ⟨.nil, rfl⟩
theorem sa_cons {e : Expr} {es : List Expr} {f : Fn D} {g : Fn (List D)} (he : SE L e f) (hs : SAs L es g) (hst : ∀ env, starEach (e :: es) env = (false, eval e env) :: starEach es env := by intro _; rfl) : SAs L (e :: es) (xCons f g) := fun W X h =>
  PAi (pa_cons (he W X h) (hs W X h) (hst _)) fun σ H Q ⟨α, β, σd, m, s, q⟩ => by
    refine ⟨α, β, σd, m, s, q.mp fun d m1 v H1 α1 e1 s1 r1 q => ⟨α1, β, σd, m1, s1, q.mp fun ds m2 vs H2 α2 e2 s2 r2 q => ?_⟩⟩
    exact q _ H2 α2 Ext.refl s2 ⟨.cons (r1.ext e2) r2.1, by simp [r2.2]⟩
def xTup (a : Fn (List D)) : Fn D := fun σ m => (a σ m).bind fun ds m1 => .ok (.tup ds) m1
def xLst (a : Fn (List D)) : Fn D := fun σ m => (a σ m).bind fun ds m1 => .ok (.lst ds) m1
/-- a list that will be changed -/
def xCel (a : Fn (List D)) : Fn D := fun σ m => (a σ m).bind fun ds m1 => if D.cfs 0 ds = true then .ok (.cel m1.length) (m1 ++ [.l ds]) else .bad
end
section
variable {K : KK} {H : Hp} {α β : List Addr} {m : Ms} {σ : St} {σd : Sd} {vs : List V} {ds : List D} {p : Addr}
theorem lay_lst (s : SR K H α β σ σd m) (hp : H p = none) (r : Rps K H α β vs ds) : SR K (upd H p (.lst vs)) α β σ σd m ∧ Rp K (upd H p (.lst vs)) α β (.ref p) (.lst ds) :=
  ⟨s.ext' (Ext.lay hp) (s.cr.lay hp), .lst (hid_mk upd_same (s.cr.freshB hp)) (r.ext (Ext.lay hp))⟩
theorem lay_tup (s : SR K H α β σ σd m) (hp : H p = none) (r : Rps K H α β vs ds) : SR K (upd H p (.tup vs)) α β σ σd m ∧ Rp K (upd H p (.tup vs)) α β (.ref p) (.tup ds) :=
  ⟨s.ext' (Ext.lay hp) (s.cr.lay hp), .tup (.inl (.inl (hid_mk upd_same (s.cr.freshB hp)))) (r.ext (Ext.lay hp))⟩
theorem lay_cel (s : SR K H α β σ σd m) (hp : H p = none) (r : Rps K H α β vs ds) (z : D.cfs 0 ds = true) : SR K (upd H p (.lst vs)) (α ++ [p]) β σ σd (m ++ [.l ds]) ∧ Rp K (upd H p (.lst vs)) (α ++ [p]) β (.ref p) (.cel m.length) :=
  ⟨s.ext' (Ext.cel hp) (s.cr.cel hp z r), .cel (by rw [← s.cr.len]; simp)⟩
end
section
variable {L : Lc}
theorem se_tup {es : List Expr} {f : Fn (List D)} {x1} {pos : Pos} (h : SAs L es f) (hl : es.length ≤ 100000 := by decide) : SE L (.Tuple es x1 pos) (xTup f) := fun W X hX =>
  PEi (pe_tup (h W X hX)) fun σ H Q ⟨α, β, σd, m, s, q⟩ => ⟨α, β, σd, m, s, q.mp fun ds m1 vs H1 α1 e1 s1 r1 q => ⟨Evl.sz_of (by rw [r1.2]; exact hl), fun p hp => by
    obtain ⟨h1, h2⟩ := lay_tup s1 hp r1.1
    exact q _ _ _ (Ext.lay hp) h1 h2⟩⟩
theorem se_lst {es : List Expr} {f : Fn (List D)} {pos : Pos} (h : SAs L es f) (hl : es.length ≤ 100000 := by decide) : SE L (.List es pos) (xLst f) := fun W X hX =>
  PEi (pe_lst (h W X hX)) fun σ H Q ⟨α, β, σd, m, s, q⟩ => ⟨α, β, σd, m, s, q.mp fun ds m1 vs H1 α1 e1 s1 r1 q => ⟨Evl.sz_of (by rw [r1.2]; exact hl), fun p hp => by
    obtain ⟨h1, h2⟩ := lay_lst s1 hp r1.1
    exact q _ _ _ (Ext.lay hp) h1 h2⟩⟩
theorem se_cel {es : List Expr} {f : Fn (List D)} {pos : Pos} (h : SAs L es f) (hl : es.length ≤ 100000 := by decide) : SE L (.List es pos) (xCel f) := fun W X hX =>
  PEi (pe_lst (h W X hX)) fun σ H Q ⟨α, β, σd, m, s, q⟩ => ⟨α, β, σd, m, s, q.mp fun ds m1 vs H1 α1 e1 s1 r1 q => ⟨Evl.sz_of (by rw [r1.2]; exact hl), fun p hp => by
    split at q
    · obtain ⟨h1, h2⟩ := lay_cel s1 hp r1.1 (by assumption)
      exact q _ _ _ (Ext.cel hp) h1 h2
    · exact q.elim⟩⟩
/-! ### calls of the program's own -/
theorem Ok.cast {W : WX} {X : Cx} {C : CXT} {k : Nat} {f : Addr} {fd : FuncData} {ps : List Str} {sp : Sp} (h : Ok L W X) (F : FnOk L.P L.w L.K L.mg L.base C k f fd ps sp) : FnOk X.prog X.w X.K X.mg X.base C k f fd ps sp := by
  rw [h.prog, h.w, h.K, h.mg, h.base]
  exact F
theorem ret_post {W : WX} {σ : St} {σd : Sd} {H : Hp} {α β : List Addr} {m : Ms} {Q : VK} {r : R D} (s : SR L.K H α β σ σd m) (h : PostR L W (relV L) σ σd H α β Q r) : PostF L H α β Q (WE W σ) r := by
  cases r with
  | ok d m => exact fun v H1 α1 e1 c1 r1 => h v H1 α1 e1 (s.ext' e1 c1) r1
  | ex x m => exact fun cl dd H1 α1 e1 c1 xr => h cl dd H1 α1 e1 (s.ext' e1 c1) xr
  | bad => exact h
end
end CT
namespace CT
open PySem L2
/-! ## statements -/
def oSeq (o : O) (b : Fo) : O := match o with
  | .nx σ m => b σ m
  | o => o
@[simp] theorem oSeq_nx (σ : Sd) (m : Ms) (b : Fo) : oSeq (.nx σ m) b = b σ m := rfl
@[simp] theorem oSeq_rt (d : D) (m : Ms) (b : Fo) : oSeq (.rt d m) b = .rt d m := rfl
@[simp] theorem oSeq_bk (σ : Sd) (m : Ms) (b : Fo) : oSeq (.bk σ m) b = .bk σ m := rfl
@[simp] theorem oSeq_ct (σ : Sd) (m : Ms) (b : Fo) : oSeq (.ct σ m) b = .ct σ m := rfl
@[simp] theorem oSeq_ex (x : Xc) (σ : Sd) (m : Ms) (b : Fo) : oSeq (.ex x σ m) b = .ex x σ m := rfl
@[simp] theorem oSeq_bad (b : Fo) : oSeq .bad b = .bad := rfl
def xSeq (a b : Fo) : Fo := fun σ m => oSeq (a σ m) b
def xPass : Fo := fun σ m => .nx σ m
def xRet (f : Fn D) : Fo := fun σ m => (f σ m).go σ fun d m1 => .rt d m1
def xDrop (f : Fn D) : Fo := fun σ m => (f σ m).go σ fun _ m1 => .nx σ m1
def xIfS (c : Fn Bool) (a b : Fo) : Fo := fun σ m => (c σ m).go σ fun t m1 => if t = true then a σ m1 else b σ m1
abbrev Fg := D → Sd → Ms → Option (Sd × Ms)
def xAsg (g : Fg) (f : Fn D) : Fo := fun σ m => (f σ m).go σ fun d m1 => match g d σ m1 with
  | some (σ2, m2) => .nx σ2 m2
  | none => .bad
def gN (i : Nat) : Fg := fun d σ m => some (σ.set i (some d), m)
section
variable {L : Lc}
theorem ss_nil : SSs L [] xPass := fun W X h => PSsi pss_nil fun D σ H ⟨α, β, σd, m, s, q⟩ => q σ H α Ext.refl s
theorem ss_cons {a : Stmt} {r : List Stmt} {f g : Fo} (ha : SS L a f) (hr : SSs L r g) : SSs L (a :: r) (xSeq f g) := fun W X h => PSsi (pss_cons (ha W X h) (hr W X h)) fun D σ H ⟨α, β, σd, m, s, q⟩ => by
  refine ⟨α, β, σd, m, s, ?_⟩
  unfold xSeq at q
  cases e : f σd m with
  | nx σd1 m1 =>
    rw [e, oSeq_nx] at q
    exact fun σ1 H1 α1 e1 s1 => ⟨α1, β, σd1, m1, s1, q.ext e1⟩
  | rt d m1 => rw [e] at q; exact q
  | bk σd1 m1 => rw [e] at q; exact q
  | ct σd1 m1 => rw [e] at q; exact q
  | ex x σd1 m1 => rw [e] at q; exact q
  | bad => rw [e] at q; exact q.elim
theorem ss_one {a : Stmt} {f : Fo} (ha : SS L a f) : SSs L [a] f := fun W X h => pss_one (ha W X h)
theorem s_ret {e : Expr} {f : Fn D} {pos : Pos} (he : SE L e f) : SS L (.Return (some e) pos) (xRet f) := fun W X h => PSi (ps_ret (he W X h)) fun D σ H ⟨α, β, σd, m, s, q⟩ =>
  ⟨α, β, σd, m, s, q.mp fun d m1 v H1 α1 e1 s1 r1 q => q v H1 α1 Ext.refl s1.cr r1⟩
theorem s_if {c : Expr} {a b : List Stmt} {fc : Fn Bool} {fa fb : Fo} {pos : Pos} (hc : ST L c fc) (ha : SSs L a fa) (hb : SSs L b fb) : SS L (.If c a b pos) (xIfS fc fa fb) := fun W X h => PSi (ps_if (hc W X h) (ha W X h) (hb W X h)) fun D σ H ⟨α, β, σd, m, s, q⟩ => by
  refine ⟨α, β, σd, m, s, q.mp fun d m1 v H1 α1 e1 s1 r1 q => ?_⟩
  obtain rfl : v = d := r1
  cases v with
  | true => rw [if_pos rfl] at q ⊢; exact ⟨α1, β, σd, m1, s1, q⟩
  | false => rw [if_neg Bool.false_ne_true] at q ⊢; exact ⟨α1, β, σd, m1, s1, q⟩
/-! ### targets -/
/-- only the slots at js are others -/
def Only (js : List Nat) (σ σ' : St) : Prop := σ'.length = σ.length ∧ ∀ j, j ∉ js → σ'[j]? = σ[j]?
theorem Only.refl (js : List Nat) (σ : St) : Only js σ σ := ⟨rfl, fun _ _ => rfl⟩
theorem Only.trans {js ks : List Nat} {σ σ1 σ2 : St} (a : Only js σ σ1) (b : Only ks σ1 σ2) : Only (js ++ ks) σ σ2 := ⟨b.1.trans a.1, fun j h => (b.2 j fun z => h (List.mem_append_right _ z)).trans (a.2 j fun z => h (List.mem_append_left _ z))⟩
/-- js: the slots that are written -/
def tG (L : Lc) (js : List Nat) (g : Fg) : TG := fun v σ H Q => ∃ α β σd m d, SR L.K H α β σ σd m ∧ Rp L.K H α β v d ∧ ∃ σd' m', g d σd m = some (σd', m') ∧ ∀ σ' H1 α1, Ext H α H1 α1 → SR L.K H1 α1 β σ' σd' m' → Only js σ σ' → Q σ' H1
def SG (L : Lc) (js : List Nat) (tg : Expr) (g : Fg) : Prop := ∀ W X, Ok L W X → PG X tg (tG L js g)
theorem PGi {X : Cx} {e : Expr} {t t' : TG} (h : PG X e t) (k : ∀ v σ H Q, t' v σ H Q → t v σ H Q) : PG X e t' := ⟨fun pins s σ H v u Q I r q => h.run pins s σ H v u Q I r (k _ _ _ _ q)⟩
theorem sg_name {i : Nat} {x : Str} {pos : Pos} (nd : L.N.Nodup) (hN : L.N[i]? = some x) (hl : L.sc.names.lookup x = some .local ∨ (L.sc.names.lookup x = some .cell ∧ L.fn x = true)) : SG L [i] (.Name x pos) (gN i) := fun W X h =>
  PGi (pg_name (i := i) (by rw [h.N]; exact nd) (by rw [h.N]; exact hN) (by rw [h.sc]; exact hl.imp id And.left) (by
    rcases hl with z | ⟨_, z⟩
    · exact .inr (by rw [h.sc]; exact z)
    · exact .inl (h.fn x z))) fun v σ H Q ⟨α, β, σd, m, d, s, r, σd', m', e, q⟩ => by
    unfold gN at e
    cases e
    exact q _ H α Ext.refl (s.set i r) ⟨by simp, fun j hj => List.getElem?_set_ne (fun z => hj (by simp [z]))⟩
theorem s_asg {tg e : Expr} {g : Fg} {js : List Nat} {f : Fn D} {pos : Pos} (he : SE L e f) (hg : SG L js tg g) (hs : ∀ env : Env, env.scope = L.sc → swapsWithSole [tg] e pos.line env = pure false := by intro _ _; rfl) (hw : ∀ env : Env, env.scope = L.sc → swappedStores [tg] e env = pure none := by intro _ _; rfl)
    (h1 : ∀ env, (assignEach [tg] env).map (·.2) = [assign tg env] := by intro _; rfl) : SS L (.Assign [tg] e pos) (xAsg g f) := fun W X h => PSi (ps_asg (he W X h) (hg W X h) (hs _ h.sc) (hw _ h.sc) (h1 _)) fun D σ H ⟨α, β, σd, m, s, q⟩ => by
  refine ⟨α, β, σd, m, s, q.mp fun d m1 v H1 α1 e1 s1 r1 q => ?_⟩
  cases e : g d σd m1 with
  | none => simp only [e] at q; exact q.elim
  | some p =>
    obtain ⟨σ2, m2⟩ := p
    simp only [e] at q
    exact ⟨α1, β, σd, m1, d, s1, r1, σ2, m2, e, fun σ' H2 α2 x2 s2 _ => q σ' H2 α2 x2 s2⟩
theorem s_set {i : Nat} {x : Str} {e : Expr} {f : Fn D} {pos' pos : Pos} (nd : L.N.Nodup) (hN : L.N[i]? = some x) (hl : L.sc.names.lookup x = some .local ∨ (L.sc.names.lookup x = some .cell ∧ L.fn x = true)) (he : SE L e f) (hs : ∀ env : Env, env.scope = L.sc → swapsWith e (some (.Name x pos')) pos.line env = pure false := by intro _ _; rfl) : SS L (.Assign [.Name x pos'] e pos) (xAsg (gN i) f) := fun W X h =>
  PSi (ps_set (i := i) (by rw [h.N]; exact nd) (by rw [h.N]; exact hN) (by rw [h.sc]; exact hl.imp id And.left) (he W X h) (hs _ h.sc) (by
    rcases hl with z | ⟨_, z⟩
    · exact .inr (by rw [h.sc]; exact z)
    · exact .inl (h.fn x z))) fun D σ H ⟨α, β, σd, m, s, q⟩ => ⟨α, β, σd, m, s, q.mp fun d m1 v H1 α1 e1 s1 r1 q => q _ H1 α1 Ext.refl (s1.set i r1)⟩
/-- several targets of a tuple -/
abbrev Fgs := List D → Sd → Ms → Option (Sd × Ms)
def gNil : Fgs := fun ds σ m => match ds with
  | [] => some (σ, m)
  | _ => none
def gCons (g : Fg) (r : Fgs) : Fgs := fun ds σ m => match ds with
  | [] => none
  | d :: ds => match g d σ m with
    | some (σ1, m1) => r ds σ1 m1
    | none => none
def gT (n : Nat) (r : Fgs) : Fg := fun d σ m => match d with
  | .tup ds => if ds.length = n then r ds σ m else none
  | _ => none
def tGs (L : Lc) (js : List Nat) (g : Fgs) : TGs := fun vs σ H Q => ∃ α β σd m ds, SR L.K H α β σ σd m ∧ Rps L.K H α β vs ds ∧ ∃ σd' m', g ds σd m = some (σd', m') ∧ ∀ σ' H1 α1, Ext H α H1 α1 → SR L.K H1 α1 β σ' σd' m' → Only js σ σ' → Q σ' H1
def SGs (L : Lc) (js : List Nat) (tg : List Expr) (g : Fgs) : Prop := ∀ W X, Ok L W X → PGs X tg (tGs L js g)
theorem PGsi {X : Cx} {e : List Expr} {t t' : TGs} (h : PGs X e t) (k : ∀ v σ H Q, t' v σ H Q → t v σ H Q) : PGs X e t' := ⟨fun pins s σ H v u Q I r q => h.run pins s σ H v u Q I r (k _ _ _ _ q)⟩
theorem sgs_nil : SGs L [] [] gNil := fun W X h => PGsi pgs_nil fun vs σ H Q ⟨α, β, σd, m, ds, s, r, σd', m', e, q⟩ => by
  cases ds with
  | nil =>
    cases r
    cases e
    exact ⟨rfl, q σ H α Ext.refl s (Only.refl _ _)⟩
  | cons d ds => cases e
theorem sgs_cons {e : Expr} {es : List Expr} {g : Fg} {r : Fgs} {js ks : List Nat} (h1 : SG L js e g) (h2 : SGs L ks es r) (hs : ∀ env, (assignEach (e :: es) env).map (·.2) = assign e env :: (assignEach es env).map (·.2) := by intro _; rfl) : SGs L (js ++ ks) (e :: es) (gCons g r) := fun W X h =>
  PGsi (pgs_cons (h1 W X h) (h2 W X h) (hs _)) fun vs σ H Q ⟨α, β, σd, m, ds, s, rr, σd', m', e, q⟩ => by
  cases ds with
  | nil => cases e
  | cons d ds =>
    cases rr with
    | @cons v _ vs _ rv rvs =>
      unfold gCons at e
      cases e2 : g d σd m with
      | none => simp only [e2] at e; cases e
      | some p =>
        obtain ⟨σ1, m1⟩ := p
        simp only [e2] at e
        exact ⟨v, vs, rfl, α, β, σd, m, d, s, rv, σ1, m1, e2, fun σ' H1 α1 x1 s1 o1 => ⟨α1, β, σ1, m1, ds, s1, rvs.ext x1, σd', m', e, fun σ2 H2 α2 x2 s2 o2 => q σ2 H2 α2 (x1.trans x2) s2 (o1.trans o2)⟩⟩
theorem sg_tup {es : List Expr} {k n : Nat} {r : Fgs} {js : List Nat} {pos : Pos} (h : SGs L js es r) (hn : ∀ env, (assignEach es env).length = n := by intro _; rfl) (hst : ∀ env, (assignEach es env).findIdx? (·.1) = none := by intro _; rfl) : SG L js (.Tuple es k pos) (gT n r) := fun W X hX =>
  PGi (pg_tup hX.calm (h W X hX) (hn _) (hst _)) fun v σ H Q ⟨α, β, σd, m, d, s, rr, σd', m', e, q⟩ => by
  cases rr with
  | tup sq rs =>
    unfold gT at e
    simp only at e
    split at e
    · rename_i hl
      exact ⟨_, _, rfl, by rw [hX.K]; exact sqt_mono hid_sub sq, by rw [rs.length]; exact hl, α, β, σd, m, _, s, rs, σd', m', e, q⟩
    · cases e
  | non => cases e
  | bl => cases e
  | int => cases e
  | str => cases e
  | lst _ _ => cases e
  | cel _ => cases e
  | lck _ _ => cases e
  | ins _ _ _ => cases e
  | dct => cases e
  | fn => cases e
  | tpl => cases e
/-- o[i] = v of a list that is a cell -/
def gS (o i : Fn D) : Fg := fun d σ m => if d.cf 0 = true then match o σ m with
    | .ok (.cel c) m1 => match i σ m1 with
      | .ok (.int k) m2 => match m2[c]? with
        | some (.l ds) => match ixN ds.length k with
          | some j => some (σ, m2.set c (.l (ds.set j d)))
          | none => none
        | _ => none
      | _ => none
    | _ => none
  else none
end
section
variable {K : KK} {α β : List Addr}
theorem D.cfs_set {d : D} (z : d.cf 0 = true) : ∀ (j : Nat) (ds : List D), D.cfs 0 ds = true → D.cfs 0 (ds.set j d) = true
  | _, [], h => h
  | 0, _ :: _, h => by
    simp only [List.set_cons_zero, D.cfs, Bool.and_eq_true] at h ⊢
    exact ⟨z, h.2⟩
  | j + 1, _ :: ds, h => by
    simp only [List.set_cons_succ, D.cfs, Bool.and_eq_true] at h ⊢
    exact ⟨h.1, D.cfs_set z j ds h.2⟩
/-- the list of a cell -/
theorem CR.cel_at {H : Hp} {m : Ms} (c : CR K H α β m) {v : V} {i : Nat} {ds : List D} (r : Rp K H α β v (.cel i)) (e : m[i]? = some (.l ds)) : ∃ a vs, v = .ref a ∧ α[i]? = some a ∧ H a = some (.lst vs) ∧ Rps K H α β vs ds ∧ D.cfs 0 ds = true := by
  cases r with
  | cel q =>
    obtain ⟨z, vs, o, h1, ho, h2⟩ := c.cell i _ (.l ds) q e
    have ho : o = .lst vs := ho
    subst ho
    exact ⟨_, vs, rfl, q, h1, h2, z⟩
end
section
variable {L : Lc}
theorem sg_sub {o i : Expr} {fo fi : Fn D} {pos : Pos} (ho : SE L o fo) (hi : SE L i fi) (ha : ∀ env v, assign (.Subscript o i pos) env v = (do
      let x ← holding [v] (eval o env)
      let y ← holding [v, x] (eval i env)
      standAt pos
      holding [v, x, y] (setItem x y v)
      release [v, x, y] []) := by intro _ _; rfl) : SG L [] (.Subscript o i pos) (gS fo fi) := fun W X h =>
  PGi (pg_sub (ho W X h) (hi W X h) set_list (ha _)) fun v σ H Q ⟨α, β, σd, m, d, s, r, σd', m', e, q⟩ => by
  unfold gS at e
  split at e
  · rename_i z
    cases e1 : fo σd m with
    | bad => simp only [e1] at e; cases e
    | ex x m1 => simp only [e1] at e; cases e
    | ok od m1 =>
      cases od with
      | cel c =>
        simp only [e1] at e
        cases e2 : fi σd m1 with
        | bad => simp only [e2] at e; cases e
        | ex x m1 => simp only [e2] at e; cases e
        | ok id' m2 =>
          cases id' with
          | int k =>
            simp only [e2] at e
            cases e3 : m2[c]? with
            | none => simp only [e3] at e; cases e
            | some ce =>
              cases ce with
              | o _ _ _ => simp only [e3] at e; cases e
              | d => simp only [e3] at e; cases e
              | l ds =>
              simp only [e3] at e
              cases e4 : ixN ds.length k with
              | none => simp only [e4] at e; cases e
              | some j =>
                simp only [e4] at e
                cases e
                refine ⟨α, β, σd, m, s, ?_⟩
                rw [e1]
                intro ov H1 α1 x1 s1 r1
                refine ⟨α1, β, σd, m1, s1, ?_⟩
                rw [e2]
                intro iv H2 α2 x2 s2 r2
                obtain ⟨a, vs, rfl, ha, hH, rs, zs⟩ := s2.cr.cel_at (r1.ext x2) e3
                cases r2 with
                | int =>
                  refine ⟨a, vs, k, j, rfl, rfl, hH, by rw [rs.length]; exact e4, ?_⟩
                  have x3 : Ext H2 α2 (upd H2 a (.lst (vs.set j v))) α2 := s2.cr.putX ha
                  refine q σ _ α2 ((x1.trans x2).trans x3) (s2.ext' x3 (s2.cr.put ha (D.cfs_set z j ds zs) (Reps.set (r.ext (x1.trans x2)) j rs))) (Only.refl _ _)
          | non => simp only [e2] at e; cases e
          | bl b => simp only [e2] at e; cases e
          | str b => simp only [e2] at e; cases e
          | tup b => simp only [e2] at e; cases e
          | lst b => simp only [e2] at e; cases e
          | cel b => simp only [e2] at e; cases e
          | lck b => simp only [e2] at e; cases e
          | ins _ _ _ => simp only [e2] at e; cases e
          | dct => simp only [e2] at e; cases e
          | fn => simp only [e2] at e; cases e
          | tpl => simp only [e2] at e; cases e
      | non => simp only [e1] at e; cases e
      | bl b => simp only [e1] at e; cases e
      | int b => simp only [e1] at e; cases e
      | str b => simp only [e1] at e; cases e
      | tup b => simp only [e1] at e; cases e
      | lst b => simp only [e1] at e; cases e
      | lck b => simp only [e1] at e; cases e
      | ins _ _ _ => simp only [e1] at e; cases e
      | dct => simp only [e1] at e; cases e
      | fn => simp only [e1] at e; cases e
      | tpl => simp only [e1] at e; cases e
  · cases e
/-- two names at once, both sides written -/
def xPar (i j : Nat) (a b : Fn D) : Fo := fun σ m => (a σ m).go σ fun x m1 => (b σ m1).go σ fun y m2 => .nx ((σ.set i (some x)).set j (some y)) m2
theorem s_par {i j : Nat} {x y : Str} {a b : Expr} {fa fb : Fn D} {px py pt : Pos} {kt k2 pt2} {pos : Pos} (nd : L.N.Nodup) (hi : L.N[i]? = some x) (hj : L.N[j]? = some y) (hij : i ≠ j) (hx : L.sc.names.lookup x = some .local) (hy : L.sc.names.lookup y = some .local)
    (ha : SE L a fa) (hb : SE L b fb) (hw : ∀ env : Env, env.scope = L.sc → swappedStores [.Tuple [.Name x px, .Name y py] kt pt] (.Tuple [a, b] k2 pt2) env = pure (some [x, y]))
    (hs : ∀ env, swapsWithSole [.Tuple [.Name x px, .Name y py] kt pt] (.Tuple [a, b] k2 pt2) pos.line env = pure false := by intro _; rfl)
    (hsa : ∀ env, starEach [a, b] env = (false, eval a env) :: starEach [b] env := by intro _; rfl) (hsb : ∀ env, starEach [b] env = (false, eval b env) :: starEach [] env := by intro _; rfl) :
    SS L (.Assign [.Tuple [.Name x px, .Name y py] kt pt] (.Tuple [a, b] k2 pt2) pos) (xPar i j fa fb) := fun W X h =>
  PSi (ps_par h.calm (by rw [h.N]; exact nd) (by rw [h.N]; exact hi) (by rw [h.N]; exact hj) hij (by rw [h.sc]; exact hx) (by rw [h.sc]; exact hy) (pa_cons (ha W X h) (pa_cons (hb W X h) pa_nil (hsb _)) (hsa _)) (hw _ h.sc) (hs _)) fun D σ H ⟨α, β, σd, m, s, q⟩ => by
  refine ⟨α, β, σd, m, s, q.mp fun d m1 v H1 α1 e1 s1 r1 q => ⟨α1, β, σd, m1, s1, q.mp fun d2 m2 u H2 α2 e2 s2 r2 q => ⟨v, u, rfl, ?_⟩⟩⟩
  exact q _ H2 α2 Ext.refl ((s2.set i (r1.ext e2)).set j r2)
end
/-! ## what a loop walks -/
/-- more is known, nothing less -/
structure Kn (H : Hp) (α β : List Addr) (H1 : Hp) (α1 β1 : List Addr) : Prop where
  h : ∀ a o, hid H (α ++ β) a = some o → hid H1 (α1 ++ β1) a = some o
  a : ∀ (c : Nat) (a : Addr), α[c]? = some a → α1[c]? = some a
theorem Kn.trans {H H1 H2 : Hp} {α β α1 β1 α2 β2 : List Addr} (x : Kn H α β H1 α1 β1) (y : Kn H1 α1 β1 H2 α2 β2) : Kn H α β H2 α2 β2 := ⟨fun a o z => y.h a o (x.h a o z), fun c a z => y.a c a (x.a c a z)⟩
theorem Ext.kn {H H1 : Hp} {α α1 β : List Addr} (e : Ext H α H1 α1) : Kn H α β H1 α1 β := ⟨e.hid, e.ix⟩
theorem Kn.rep {K : KK} {H H1 : Hp} {α β α1 β1 : List Addr} (x : Kn H α β H1 α1 β1) {v : V} {d : D} (r : Rp K H α β v d) : Rp K H1 α1 β1 v d := Rep.mono x.h x.a r
theorem Kn.reps {K : KK} {H H1 : Hp} {α β α1 β1 : List Addr} (x : Kn H α β H1 α1 β1) {v : List V} {d : List D} (r : Rps K H α β v d) : Rps K H1 α1 β1 v d := Reps.mono x.h x.a r
/-- J hands out these items, one after another -/
def ItD (L : Lc) (H : Hp) (α β : List Addr) (items : List D) (J : It) : Prop := ∀ H1 α1 β1 m1, Kn H α β H1 α1 β1 → CR L.K H1 α1 β1 m1 →
  J.stop items.length H1 ∧ ∀ i d, items[i]? = some d → J.go i H1 ∧ ∀ x H2, J.yld i H1 x H2 → Ext H1 α1 H2 α1 ∧ CR L.K H2 α1 β1 m1 ∧ Rp L.K H2 α1 β1 x d
theorem ItD.kn {L : Lc} {H H1 : Hp} {α β α1 β1 : List Addr} {items : List D} {J : It} (x : Kn H α β H1 α1 β1) (h : ItD L H α β items J) : ItD L H1 α1 β1 items J := fun H2 α2 β2 m2 y c => h H2 α2 β2 m2 (x.trans y) c
def relI (L : Lc) : Hp → List Addr → List Addr → It → List D → Prop := fun H α β J items => ItD L H α β items J
def SI (L : Lc) (tg iter : Expr) (f : Fn (List D)) : Prop := ∀ W X, Ok L W X → PI X tg iter (tS L W (relI L) f)
theorem PIi {X : Cx} {tg e : Expr} {t t' : TI} (h : PI X tg e t) (k : ∀ σ H R, t' σ H R → t σ H R) : PI X tg e t' := ⟨fun pins s σ H R I q => h.run pins s σ H R I (k _ _ _ q)⟩
theorem itd_list {L : Lc} {H : Hp} {α β : List Addr} {a : Addr} {vs : List V} {ds : List D} (h : hid H (α ++ β) a = some (.lst vs)) (r : Rps L.K H α β vs ds) : ItD L H α β ds (Itl L.K a) := fun H1 α1 β1 m1 x c => by
  have hs : SqL L.K H1 a vs := .inl (.inl (hid_of (x.h _ _ h)).1)
  refine ⟨⟨vs, hs, by rw [r.length]; exact Nat.le_refl _⟩, fun i d e => ?_⟩
  obtain ⟨v, h1, h2⟩ := r.get e
  refine ⟨⟨vs, v, hs, h1⟩, fun y H2 z => ?_⟩
  obtain ⟨rfl, z⟩ := z
  have := z vs hs
  rw [h1] at this
  cases this
  exact ⟨Ext.refl, c, x.rep h2⟩
theorem itd_tup {L : Lc} {H : Hp} {α β : List Addr} {a : Addr} {vs : List V} {ds : List D} (h : SqT L.K (hid H (α ++ β)) a vs) (r : Rps L.K H α β vs ds) : ItD L H α β ds (Itt L.K a) := fun H1 α1 β1 m1 x c => by
  have hs : SqT L.K H1 a vs := sqt_mono hid_sub (sqt_mono x.h h)
  refine ⟨⟨vs, hs, by rw [r.length]; exact Nat.le_refl _⟩, fun i d e => ?_⟩
  obtain ⟨v, h1, h2⟩ := r.get e
  refine ⟨⟨vs, v, hs, h1⟩, fun y H2 z => ?_⟩
  obtain ⟨rfl, z⟩ := z
  have := z vs hs
  rw [h1] at this
  cases this
  exact ⟨Ext.refl, c, x.rep h2⟩
def rngD (lo : Int) (n : Nat) : List D := (List.range n).map fun i => .int (lo + (i : Nat))
theorem itd_rng {L : Lc} {H : Hp} {α β : List Addr} {lo : Int} {n : Nat} : ItD L H α β (rngD lo n) (Itr lo n) := fun H1 α1 β1 m1 x c => by
  refine ⟨by simp [rngD, Itr], fun i d e => ?_⟩
  unfold rngD at e
  rw [List.getElem?_map] at e
  by_cases hi : i < n
  · rw [List.getElem?_range hi] at e
    cases e
    refine ⟨hi, fun y H2 z => ?_⟩
    obtain ⟨rfl, rfl⟩ := z
    exact ⟨Ext.refl, c, .int⟩
  · rw [List.getElem?_eq_none (by simp; omega)] at e
    cases e
end CT
namespace CT
open PySem L2
/-! ## loops -/
def oLoop (o : O) (k : Fo) : O := match o with
  | .nx σ m => k σ m
  | .ct σ m => k σ m
  | .bk σ m => .nx σ m
  | o => o
@[simp] theorem oLoop_nx (σ : Sd) (m : Ms) (b : Fo) : oLoop (.nx σ m) b = b σ m := rfl
@[simp] theorem oLoop_ct (σ : Sd) (m : Ms) (b : Fo) : oLoop (.ct σ m) b = b σ m := rfl
@[simp] theorem oLoop_bk (σ : Sd) (m : Ms) (b : Fo) : oLoop (.bk σ m) b = .nx σ m := rfl
@[simp] theorem oLoop_rt (d : D) (m : Ms) (b : Fo) : oLoop (.rt d m) b = .rt d m := rfl
@[simp] theorem oLoop_ex (x : Xc) (σ : Sd) (m : Ms) (b : Fo) : oLoop (.ex x σ m) b = .ex x σ m := rfl
@[simp] theorem oLoop_bad (b : Fo) : oLoop .bad b = .bad := rfl
def forL (g : Fg) (b : Fo) : List D → Fo
  | [] => fun σ m => .nx σ m
  | d :: ds => fun σ m => match g d σ m with
    | none => .bad
    | some (σ1, m1) => oLoop (b σ1 m1) (forL g b ds)
def xFor (src : Fn (List D)) (g : Fg) (b : Fo) : Fo := fun σ m => (src σ m).go σ fun items m1 => forL g b items σ m1
def whN (c : Fn Bool) (b : Fo) : Nat → Fo
  | 0 => fun _ _ => .bad
  | n + 1 => fun σ m => (c σ m).go σ fun t m1 => if t = true then oLoop (b σ m1) (whN c b n) else .nx σ m1
def O.isBad : O → Bool
  | .bad => true
  | _ => false
open Classical in
noncomputable def xWhile (c : Fn Bool) (b : Fo) : Fo := fun σ m => if h : ∃ n, (whN c b n σ m).isBad = false then whN c b (Classical.choose h) σ m else .bad
theorem whN_mono (c : Fn Bool) (b : Fo) : ∀ (n : Nat) (σ : Sd) (m : Ms), (whN c b n σ m).isBad = false → whN c b (n + 1) σ m = whN c b n σ m
  | 0, _, _, h => by simp [whN, O.isBad] at h
  | n + 1, σ, m, h => by
    have e1 : ∀ k, whN c b (k + 1) σ m = (c σ m).go σ fun t m1 => if t = true then oLoop (b σ m1) (whN c b k) else .nx σ m1 := fun _ => rfl
    rw [e1] at h
    rw [e1 (n + 1), e1 n]
    cases e : c σ m with
    | bad => rfl
    | ex x m1 => rfl
    | ok t m1 =>
      rw [e] at h
      simp only [R.go_ok] at h ⊢
      cases t with
      | false => rfl
      | true =>
        simp only [if_true] at h ⊢
        cases e2 : b σ m1 with
        | nx σ2 m2 => rw [e2] at h; simp only [oLoop_nx] at h ⊢; exact whN_mono c b n σ2 m2 h
        | ct σ2 m2 => rw [e2] at h; simp only [oLoop_ct] at h ⊢; exact whN_mono c b n σ2 m2 h
        | bk σ2 m2 => rfl
        | rt d m2 => rfl
        | ex x σ2 m2 => rfl
        | bad => rfl
theorem whN_le (c : Fn Bool) (b : Fo) {n k : Nat} (hk : n ≤ k) {σ : Sd} {m : Ms} (h : (whN c b n σ m).isBad = false) : whN c b k σ m = whN c b n σ m := by
  induction hk with
  | refl => rfl
  | step _ ih => rw [whN_mono c b _ σ m (by rw [ih]; exact h), ih]
theorem xWhile_eq {c : Fn Bool} {b : Fo} {n : Nat} {σ : Sd} {m : Ms} {o : O} (h : whN c b n σ m = o) (ho : o.isBad = false) : xWhile c b σ m = o := by
  have hn : (whN c b n σ m).isBad = false := by rw [h]; exact ho
  have hx : ∃ n, (whN c b n σ m).isBad = false := ⟨n, hn⟩
  unfold xWhile
  rw [dif_pos hx]
  have hc := Classical.choose_spec hx
  rcases Nat.le_total n (Classical.choose hx) with z | z
  · rw [whN_le c b z hn, h]
  · rw [← whN_le c b z hc, h]
section
variable {L : Lc}
theorem postO_ends {W : WX} {H : Hp} {α β : List Addr} {D : Ends} {o : O} {k : Fo} {N : St → Hp → Prop} (h : PostO L W H α β D (oLoop o k))
    (hN : ∀ σ σd m H1 α1, Ext H α H1 α1 → SR L.K H1 α1 β σ σd m → PostO L W H1 α1 β D (k σd m) → N σ H1) : PostO L W H α β { D with nx := N, ct := N, bk := D.nx } o := by
  cases o with
  | nx σd m => exact fun σ H1 α1 e s => hN σ σd m H1 α1 e s (PostO.ext e h)
  | ct σd m => exact fun σ H1 α1 e s => hN σ σd m H1 α1 e s (PostO.ext e h)
  | bk σd m => exact h
  | rt d m => exact h
  | ex x σd m => exact h
  | bad => exact h
theorem s_for {tg iter : Expr} {body : List Stmt} {fi : Fn (List D)} {g : Fg} {js : List Nat} {fb : Fo} {pos : Pos} (hi : SI L tg iter fi) (hg : SG L js tg g) (hb : SSs L body fb) (hs : ∀ env x, foldedSetIterable iter env x = pure x := by intro _ _; rfl) : SS L (.For tg iter body [] pos) (xFor fi g fb) := fun W X h =>
  PSi (ps_for h.own h.calm (hi W X h) (hg W X h) (hb W X h) (hs _)) fun D σ H ⟨α, β, σd, m, s, q⟩ => by
  refine ⟨α, β, σd, m, s, q.mp fun items m1 J H1 α1 e1 s1 it q => ?_⟩
  refine ⟨fun i n σ' H' => ∃ α' σd' m', Kn H1 α1 β H' α' β ∧ SR L.K H' α' β σ' σd' m' ∧ PostO L W H' α' β D (forL g fb (items.drop i) σd' m') ∧ n = items.length - i ∧ i ≤ items.length,
    ⟨_, α1, σd, m1, ⟨fun _ _ z => z, fun _ _ z => z⟩, s1, q, rfl, Nat.zero_le _⟩, ?_⟩
  rintro i n σ' H' ⟨α', σd', m', kn, s', q', rfl, hl⟩
  obtain ⟨h1, h2⟩ := it H' α' β m' kn s'.cr
  by_cases hlt : i < items.length
  · obtain ⟨h3, h4⟩ := h2 i items[i] (List.getElem?_eq_getElem hlt)
    refine .inr ⟨h3, fun σ2 H2 => ∃ α2 σd2 m2, Kn H1 α1 β H2 α2 β ∧ SR L.K H2 α2 β σ2 σd2 m2 ∧ PostO L W H2 α2 β D (forL g fb (items.drop (i + 1)) σd2 m2), fun σ2 H2 ⟨α2, σd2, m2, k2, s2, q2⟩ => ⟨items.length - (i + 1), by omega, α2, σd2, m2, k2, s2, q2, rfl, hlt⟩, fun x H2 y => ?_⟩
    obtain ⟨x2, c2, r2⟩ := h4 x H2 y
    rw [List.drop_eq_getElem_cons hlt, forL] at q'
    cases e : g items[i] σd' m' with
    | none => simp only [e] at q'; exact q'.elim
    | some p =>
      obtain ⟨σ3, m3⟩ := p
      simp only [e] at q'
      refine ⟨α', β, σd', m', _, s'.ext' x2 c2, r2, σ3, m3, e, fun σ4 H4 α4 x4 s4 _ => ⟨α4, β, σ3, m3, s4, ?_⟩⟩
      refine postO_ends ((q'.ext x2).ext x4) fun σ5 σd5 m5 H5 α5 x5 s5 q5 => ⟨α5, σd5, m5, ?_, s5, q5⟩
      exact kn.trans ((x2.trans (x4.trans x5)).kn)
  · have hi2 : i = items.length := by omega
    subst hi2
    refine .inl ⟨h1, ?_⟩
    rw [List.drop_length, forL] at q'
    exact q' σ' H' α' Ext.refl s'
theorem s_while {c : Expr} {body : List Stmt} {fc : Fn Bool} {fb : Fo} {pos : Pos} (hc : ST L c fc) (hb : SSs L body fb) : SS L (.While c body [] pos) (xWhile fc fb) := fun W X h =>
  PSi (ps_while h.own (hc W X h) (hb W X h)) fun D σ H ⟨α, β, σd, m, s, q⟩ => by
  have q0 : ∃ n, PostO L W H α β D (whN fc fb n σd m) := by
    unfold xWhile at q
    split at q
    · exact ⟨_, q⟩
    · exact q.elim
  obtain ⟨n0, q0⟩ := q0
  refine ⟨fun n σ' H' => ∃ α' σd' m', SR L.K H' α' β σ' σd' m' ∧ PostO L W H' α' β D (whN fc fb n σd' m'), ⟨n0, α, σd, m, s, q0⟩, ?_⟩
  rintro n σ' H' ⟨α', σd', m', s', q'⟩
  cases n with
  | zero => exact q'.elim
  | succ n =>
    rw [whN] at q'
    refine ⟨α', β, σd', m', s', q'.mp fun t m1 v H1 α1 e1 s1 r1 q1 => ?_⟩
    obtain rfl : v = t := r1
    cases v with
    | true =>
      rw [if_pos rfl] at q1 ⊢
      refine ⟨fun σ2 H2 => ∃ α2 σd2 m2, SR L.K H2 α2 β σ2 σd2 m2 ∧ PostO L W H2 α2 β D (whN fc fb n σd2 m2), fun σ2 H2 w2 => ⟨n, Nat.lt_succ_self n, w2⟩, α1, β, σd', m1, s1, ?_⟩
      exact postO_ends q1 fun σ5 σd5 m5 H5 α5 x5 s5 q5 => ⟨α5, σd5, m5, s5, q5⟩
    | false =>
      rw [if_neg Bool.false_ne_true] at q1 ⊢
      exact q1 σ' H1 α1 Ext.refl s1
end
/-! ## comprehensions -/
def wipeD (σ : Sd) : List Nat → Sd
  | [] => σ
  | v :: vs => (wipeD σ vs).set v none
theorem wipeD_length (σ : Sd) : ∀ vs : List Nat, (wipeD σ vs).length = σ.length
  | [] => rfl
  | v :: vs => by rw [wipeD, List.length_set, wipeD_length σ vs]
theorem wipeD_some {σ : Sd} {i : Nat} {x : D} : ∀ {vs : List Nat}, (wipeD σ vs)[i]? = some (some x) → σ[i]? = some (some x) ∧ i ∉ vs
  | [], h => ⟨h, by simp⟩
  | v :: vs, h => by
    rw [wipeD] at h
    by_cases hi : v = i
    · subst hi
      by_cases hv : v < (wipeD σ vs).length
      · rw [List.getElem?_set_self hv] at h; cases h
      · rw [List.getElem?_eq_none (by simpa using hv)] at h; cases h
    · rw [List.getElem?_set_ne hi] at h
      obtain ⟨h1, h2⟩ := wipeD_some h
      exact ⟨h1, by simp [h2]; exact fun z => hi z.symm⟩
theorem SR.wipe {K : KK} {H : Hp} {α β : List Addr} {σ : St} {σd : Sd} {m : Ms} (s : SR K H α β σ σd m) (vs : List Nat) : SR K H α β (L2.wipe σ vs) (wipeD σd vs) m :=
  ⟨s.cr, by rw [wipe_length, wipeD_length, s.len], fun i d h => by
    obtain ⟨h1, h2⟩ := wipeD_some h
    obtain ⟨v, h3, h4⟩ := s.slot i d h1
    exact ⟨v, by rw [wipe_out h2]; exact h3, h4⟩⟩
theorem wipe_ext {vs : List Nat} : ∀ {σ σ' : St}, σ'.length = σ.length → (∀ j, j ∉ vs → σ'[j]? = σ[j]?) → L2.wipe σ' vs = L2.wipe σ vs := fun {σ σ'} hl h => by
  refine List.ext_getElem? fun j => ?_
  by_cases hj : j ∈ vs
  · have key : ∀ (ws : List Nat) (τ : St), j ∈ ws → j < τ.length → (L2.wipe τ ws)[j]? = some none := by
      intro ws
      induction ws with
      | nil => intro τ hm; cases hm
      | cons w ws ih =>
        intro τ hm hlt
        rw [L2.wipe]
        by_cases hw : w = j
        · subst hw
          rw [List.getElem?_set_self (by rw [wipe_length]; exact hlt)]
        · rw [List.getElem?_set_ne hw]
          refine ih τ ?_ hlt
          rcases List.mem_cons.mp hm with z | z
          · exact absurd z.symm hw
          · exact z
    by_cases hlt : j < σ.length
    · rw [key vs σ' hj (by omega), key vs σ hj hlt]
    · rw [List.getElem?_eq_none (by rw [wipe_length]; omega), List.getElem?_eq_none (by rw [wipe_length]; omega)]
  · rw [wipe_out hj, wipe_out hj]
    exact h j hj
def lcL (fin : Ms → List D → R D) (g : Fg) (c : Fn Bool) (e : Fn D) (σ : Sd) : List D → Ms → List D → R D
  | [], m, acc => fin m acc
  | d :: ds, m, acc => match g d σ m with
    | none => .bad
    | some (σ1, m1) => match c σ1 m1 with
      | .ok true m2 => match e σ1 m2 with
        | .ok y m3 => lcL fin g c e σ ds m3 (acc ++ [y])
        | _ => .bad
      | .ok false m2 => lcL fin g c e σ ds m2 acc
      | _ => .bad
def xLcF (fin : Ms → List D → R D) (src : Fn (List D)) (g : Fg) (c : Fn Bool) (e : Fn D) (own : List Nat) : Fn D := fun σ m => (src σ m).bind fun items m1 => if items.length ≤ 100000 then lcL fin g c e (wipeD σ own) items m1 [] else .bad
def finL : Ms → List D → R D := fun m acc => .ok (.lst acc) m
abbrev xLc := xLcF finL
def xYes : Fn Bool := fun _ m => .ok true m
/-- the scope of a comprehension's block, within sc -/
def inner (scope sc : Scope) : Scope := { scope with names := scope.names.map fun (n, k) => if (k == NameKind.free && sc.kind == .function && sc.names.lookup n == some .cell) then (n, NameKind.cell) else (n, k) }
def Lc.blk (L : Lc) (scope : Scope) : Lc := { L with sc := inner scope L.sc, fn := fun x => scope.names.lookup x == some .cell }
def W0 : WX := fun _ _ _ _ => False
theorem ok_blk {L : Lc} {W : WX} {X : Cx} (h : Ok L W X) {scope : Scope} (s : Shared) (H : Hp) (C : Addr) (cl : List (Str × Addr)) (fp : List Addr) : Ok (L.blk scope) W0 (X.blk s H scope (compEnvC scope cl C X.env) fp) :=
  ⟨h.prog, h.w, h.K, h.mg, h.base, h.N, by
    show relabel scope X.env = inner scope L.sc
    rw [← h.sc]
    rfl, h.room, h.calm, takes0, PassesOwn.never, fun x hx => hx, h.cd⟩
def SIf (L : Lc) (ifs : List Expr) (c : Fn Bool) : Prop := ∀ W X, Ok L W X → PTs X ifs (tS L W relB c)
theorem PTsi {X : Cx} {e : List Expr} {t t' : TT} (h : PTs X e t) (k : ∀ σ H Q, t' σ H Q → t σ H Q) : PTs X e t' := ⟨fun pins s σ H Q I q => h.run pins s σ H Q I (k _ _ _ q)⟩
theorem sif_nil {L : Lc} : SIf L [] xYes := fun W X h => PTsi pts_nil fun σ H Q ⟨α, β, σd, m, s, q⟩ => q _ H α Ext.refl s rfl
theorem CR.alien {K : KK} {H : Hp} {α β : List Addr} {m : Ms} (c : CR K H α β m) {p : Addr} {o : HO} (hp : H p = none) (ho : plainO o) : CR K (upd H p o) α (p :: β) m := by
  have hsub : ∀ a u, hid H (α ++ β) a = some u → hid (upd H p o) (α ++ p :: β) a = some u := fun a u h => by
    have ht := hid_nt h
    obtain ⟨h1, h2⟩ := hid_of h
    have hne : a ≠ p := ne_of_none h1 hp
    refine hid_mk (by rw [upd_ne hne]; exact h1) (fun z => ?_) ht
    rcases List.mem_append.mp z with z | z
    · exact h2 (List.mem_append_left _ z)
    · rcases List.mem_cons.mp z with z | z
      · exact hne z
      · exact h2 (List.mem_append_right _ z)
  refine ⟨c.len, c.nd, fun b hb => ?_, fun i a ds h1 h2 => ?_, c.tbL hp⟩
  · rcases List.mem_cons.mp hb with z | z
    · rw [z]; exact ⟨c.fresh hp, o, upd_same, ho⟩
    · obtain ⟨h1, u, h2, hu⟩ := c.al b z
      exact ⟨h1, u, by rw [upd_ne (ne_of_none h2 hp)]; exact h2, hu⟩
  · obtain ⟨q, vs, w, e, x, r⟩ := c.cell i a ds h1 h2
    exact ⟨q, vs, w, by rw [upd_ne (ne_of_none e hp)]; exact e, x, Reps.mono hsub (fun _ _ z => z) r⟩
theorem kn_alien {H : Hp} {α β : List Addr} {p : Addr} {o : HO} (hp : H p = none) : Kn H α β (upd H p o) α (p :: β) := ⟨fun a u h => by
    have ht := hid_nt h
    obtain ⟨h1, h2⟩ := hid_of h
    have hne : a ≠ p := ne_of_none h1 hp
    refine hid_mk (by rw [upd_ne hne]; exact h1) (fun z => ?_) ht
    rcases List.mem_append.mp z with z | z
    · exact h2 (List.mem_append_left _ z)
    · rcases List.mem_cons.mp z with z | z
      · exact hne z
      · exact h2 (List.mem_append_right _ z), fun _ _ z => z⟩
theorem SR.kn {K : KK} {H H1 : Hp} {α β α1 β1 : List Addr} {σ : St} {σd : Sd} {m m1 : Ms} (s : SR K H α β σ σd m) (k : Kn H α β H1 α1 β1) (c : CR K H1 α1 β1 m1) : SR K H1 α1 β1 σ σd m1 :=
  ⟨c, s.len, fun i d h => let ⟨v, h1, h2⟩ := s.slot i d h; ⟨v, h1, k.rep h2⟩⟩
/-- the alien list p is changed -/
theorem alien_put {K : KK} {H : Hp} {α β : List Addr} {m : Ms} (c : CR K H α β m) {p : Addr} {o : HO} (hp : p ∈ β) (ho : plainO o) : CR K (upd H p o) α β m ∧ Kn H α β (upd H p o) α β := by
  have hsub : ∀ a u, hid H (α ++ β) a = some u → hid (upd H p o) (α ++ β) a = some u := fun a u h => by
    have ht := hid_nt h
    obtain ⟨h1, h2⟩ := hid_of h
    refine hid_mk ?_ h2 ht
    rw [upd_ne (fun z => h2 (List.mem_append_right _ (by rw [z]; exact hp)))]
    exact h1
  refine ⟨⟨c.len, c.nd, fun b hb => ?_, fun i a ds h1 h2 => ?_, fun t ht => ?_⟩, hsub, fun _ _ z => z⟩
  · obtain ⟨h1, u, h2, hu⟩ := c.al b hb
    refine ⟨h1, ?_⟩
    by_cases z : b = p
    · rw [z]; exact ⟨o, upd_same, ho⟩
    · exact ⟨u, by rw [upd_ne z]; exact h2, hu⟩
  · obtain ⟨q, vs, w, e, x, r⟩ := c.cell i a ds h1 h2
    have hne : a ≠ p := fun z => (c.al p hp).1 (by rw [← z]; exact List.mem_of_getElem? h1)
    exact ⟨q, vs, w, by rw [upd_ne hne]; exact e, x, Reps.mono hsub (fun _ _ z => z) r⟩
  · obtain ⟨-, u, h2, hu⟩ := c.al p hp
    exact tab_put h2 hu (c.tb t ht)
/-- the alien is ours again: it stands fast from here on -/
theorem CR.back {K : KK} {H : Hp} {α β : List Addr} {m : Ms} {p : Addr} (c : CR K H α (p :: β) m) : CR K H α β m ∧ Kn H α (p :: β) H α β := by
  have hsub : ∀ a u, hid H (α ++ p :: β) a = some u → hid H (α ++ β) a = some u := fun a u h => by
    have ht := hid_nt h
    obtain ⟨h1, h2⟩ := hid_of h
    refine hid_mk h1 (fun z => h2 ?_) ht
    rcases List.mem_append.mp z with z | z
    · exact List.mem_append_left _ z
    · exact List.mem_append_right _ (List.mem_cons_of_mem _ z)
  exact ⟨⟨c.len, c.nd, fun b hb => c.al b (List.mem_cons_of_mem _ hb), fun i a ds h1 h2 => by
    obtain ⟨q, vs, w, e, x, r⟩ := c.cell i a ds h1 h2
    exact ⟨q, vs, w, e, x, Reps.mono hsub (fun _ _ z => z) r⟩, c.tb⟩, hsub, fun _ _ z => z⟩
/-- what the end of a comprehension makes of the new list -/
def FinS (L : Lc) (fin : Ms → List D → R D) : Prop := ∀ (W : WX) (H H1 : Hp) (α α1 β : List Addr) (σ : St) (σd : Sd) (m : Ms) (p : Addr) (vs : List V) (acc : List D) (Q : VK), SR L.K H α β σ σd m → H p = none → ∀ m1, Ext H α H1 α1 → Kn H α β H1 α1 (p :: β) → CR L.K H1 α1 (p :: β) m1 → H1 p = some (.lst vs) → Rps L.K H1 α1 (p :: β) vs acc →
  PostR L W (relV L) σ σd H α β Q (fin m1 acc) → Q (.ref p) H1
theorem fin_l {L : Lc} : FinS L finL := by
  intro W H H1 α α1 β σ σd m p vs acc Q s hp m1 ex kn c hv rv q
  obtain ⟨cb, kb⟩ := c.back
  refine q (.ref p) H1 α1 ex (s.kn (kn.trans kb) cb) (.lst (hid_mk hv ?_) (kb.reps rv))
  intro z
  rcases List.mem_append.mp z with z | z
  · exact (c.al p (List.mem_cons_self ..)).1 z
  · obtain ⟨_, o, ho, _⟩ := s.cr.al p z
    rw [hp] at ho; cases ho
theorem lc_core' {L : Lc} {W : WX} {fin : Ms → List D → R D} (hfin : FinS L fin) {scope : Scope} {fi : Fn (List D)} {g : Fg} {js own : List Nat} {fc : Fn Bool} {fe : Fn D} (hj : ∀ j ∈ js, j ∈ own) {σ : St} {H : Hp} {Q : VK}
    (h : tS L W (relV L) (xLcF fin fi g fc fe own) σ H Q) : tLc (tS L W (relI L) fi) (tG (L.blk scope) js g) (tS (L.blk scope) W0 relB fc) (tS (L.blk scope) W0 (relV (L.blk scope)) fe) own σ H Q := by
  obtain ⟨α, β, σd, m, s, q⟩ := h
  refine ⟨α, β, σd, m, s, q.mp fun items m1 J H1 α1 e1 s1 it q D hD => ?_⟩
  split at q
  rotate_left
  · exact q.elim
  rename_i hlen
  have c2 : CR L.K (upd H1 D (.lst [])) α1 (D :: β) m1 := s1.cr.alien hD trivial
  refine ⟨fun i n H' => ∃ α' m' vs acc, Ext H1 α1 H' α' ∧ Kn H1 α1 β H' α' (D :: β) ∧ CR L.K H' α' (D :: β) m' ∧ H' D = some (.lst vs) ∧ Rps L.K H' α' (D :: β) vs acc ∧ acc.length ≤ i ∧
      PostR L W (relV L) σ σd H1 α1 β Q (lcL fin g fc fe (wipeD σd own) (items.drop i) m' acc) ∧ n = items.length - i ∧ i ≤ items.length,
    ⟨_, α1, m1, [], [], Ext.lay hD, kn_alien hD, c2, upd_same, .nil, Nat.le_refl _, q, rfl, Nat.zero_le _⟩, ?_⟩
  rintro i n H' ⟨α', m', vs, acc, ex, kn, c', hv, rv, hacc, q', rfl, hl⟩
  obtain ⟨h1, h2⟩ := it H' α' (D :: β) m' kn c'
  have nD : D ∉ α' := (c'.al D (List.mem_cons_self ..)).1
  by_cases hlt : i < items.length
  · obtain ⟨h3, h4⟩ := h2 i items[i] (List.getElem?_eq_getElem hlt)
    refine .inr ⟨h3, fun H2 => ∃ α2 m2 vs2 acc2, Ext H1 α1 H2 α2 ∧ Kn H1 α1 β H2 α2 (D :: β) ∧ CR L.K H2 α2 (D :: β) m2 ∧ H2 D = some (.lst vs2) ∧ Rps L.K H2 α2 (D :: β) vs2 acc2 ∧ acc2.length ≤ i + 1 ∧
      PostR L W (relV L) σ σd H1 α1 β Q (lcL fin g fc fe (wipeD σd own) (items.drop (i + 1)) m2 acc2), fun H2 ⟨α2, m2, vs2, acc2, y1, y2, y3, y4, y5, y6, y7⟩ => ⟨items.length - (i + 1), by omega, α2, m2, vs2, acc2, y1, y2, y3, y4, y5, y6, y7, rfl, hlt⟩, fun x H2 y => ?_⟩
    obtain ⟨x2, cr2, r2⟩ := h4 x H2 y
    rw [List.drop_eq_getElem_cons hlt, lcL] at q'
    cases e : g items[i] (wipeD σd own) m' with
    | none => simp only [e] at q'; exact q'.elim
    | some p =>
      obtain ⟨σ3, m3⟩ := p
      simp only [e] at q'
      have sw : SR L.K H2 α' (D :: β) (L2.wipe σ own) (wipeD σd own) m' := (s1.wipe own).kn (kn.trans x2.kn) cr2
      refine ⟨α', D :: β, wipeD σd own, m', _, sw, r2, σ3, m3, e, fun σ4 H4 α4 x4 s4 ho => ⟨?_, ?_⟩⟩
      · have e1 : L2.wipe σ4 own = L2.wipe (L2.wipe σ own) own := wipe_ext ho.1 fun j hj' => ho.2 j fun z => hj' (hj j z)
        rw [e1]
        exact wipe_ext (wipe_length σ own) fun j hj' => wipe_out hj'
      · refine ⟨α4, D :: β, σ3, m3, s4, ?_⟩
        cases ec : fc σ3 m3 with
        | bad => simp only [ec] at q'; exact q'.elim
        | ex xx mm => simp only [ec] at q'; exact q'.elim
        | ok b m4 =>
          simp only [ec] at q'
          intro b' H5 α5 x5 s5 hb'
          obtain rfl : b' = b := hb'
          have x25 : Ext H' α' H5 α5 := (x2.trans x4).trans x5
          cases b' with
          | false =>
            rw [if_neg Bool.false_ne_true]
            simp only at q'
            exact ⟨α5, m4, vs, acc, ex.trans x25, kn.trans x25.kn, s5.cr, x25.fr _ _ nD hv noTb_lst, rv.ext x25, Nat.le_succ_of_le hacc, q'⟩
          | true =>
            rw [if_pos rfl]
            simp only at q'
            refine ⟨α5, D :: β, σ3, m4, s5, ?_⟩
            cases ee : fe σ3 m4 with
            | bad => simp only [ee] at q'; exact q'.elim
            | ex xx mm => simp only [ee] at q'; exact q'.elim
            | ok yd m5 =>
              simp only [ee] at q'
              intro yv H6 α6 x6 s6 ry
              have x26 : Ext H' α' H6 α6 := x25.trans x6
              have hD6 : H6 D = some (.lst vs) := x26.fr _ _ nD hv noTb_lst
              refine ⟨vs, hD6, ?_, ?_⟩
              · rw [(rv.length : vs.length = acc.length)]
                exact Evl.sz_lt (by omega)
              · obtain ⟨c7, k7⟩ := alien_put (o := .lst (vs ++ [yv])) s6.cr (List.mem_cons_self .. : D ∈ D :: β) trivial
                refine ⟨α6, m5, vs ++ [yv], acc ++ [yd], ?_, (kn.trans x26.kn).trans k7, c7, upd_same, k7.reps (Reps.app (rv.ext x26) (.cons ry .nil)), by simp; exact hacc, q'⟩
                have ex6 := ex.trans x26
                refine ⟨ex6.pre, fun a o na ha ht => ?_, ex6.new⟩
                have hne : a ≠ D := fun z => by rw [z, hD] at ha; cases ha
                rw [upd_ne hne]
                exact ex6.fr a o na ha ht
  · have hi2 : i = items.length := by omega
    subst hi2
    refine .inl ⟨h1, ?_⟩
    rw [List.drop_length, lcL] at q'
    exact hfin W H1 H' α1 α' β σ σd m1 D vs acc Q s1 hD m' ex kn c' hv rv q'
section
variable {L : Lc}
theorem se_lc {elt tg iter : Expr} {ifs : List Expr} {scope : Scope} {own : List (Str × Nat)} {pos : Pos} {fi : Fn (List D)} {g : Fg} {js : List Nat} {fc : Fn Bool} {fe : Fn D} {fin : Ms → List D → R D} (hfin : FinS L fin) (nd : L.N.Nodup) (ok : BlkOk L.N L.sc scope own) (hj : ∀ j ∈ js, j ∈ own.map (·.2))
    (hi : SI L tg iter fi) (hg : SG (L.blk scope) js tg g) (hc : SIf (L.blk scope) ifs fc) (he : SE (L.blk scope) elt fe) (hs : ∀ env x, foldedSetIterable iter env x = pure x := by intro _ _; rfl) :
    SE L (.ListComp elt [⟨tg, iter, ifs, 0⟩] scope pos) (xLcF fin fi g fc fe (own.map (·.2))) := fun W X h =>
  PEi (pe_lc h.calm (by rw [h.N]; exact nd) (hi W X h) (by rw [h.N, h.sc]; exact ok) (fun s H C cl fp => hg W0 _ (ok_blk h s H C cl fp)) (fun s H C cl fp => hc W0 _ (ok_blk h s H C cl fp)) (fun s H C cl fp => he W0 _ (ok_blk h s H C cl fp)) (hs _)) fun σ H Q q => lc_core' hfin (scope := scope) hj q
theorem s_setLc {i : Nat} {y : Str} {py : Pos} {elt tg iter : Expr} {ifs : List Expr} {scope : Scope} {own : List (Str × Nat)} {pos spos : Pos} {fi : Fn (List D)} {g : Fg} {js : List Nat} {fc : Fn Bool} {fe : Fn D} {fin : Ms → List D → R D} (hfin : FinS L fin) (nd : L.N.Nodup) (hy : L.N[i]? = some y) (hyl : L.sc.names.lookup y = some .local)
    (hsw : ∀ env : Env, env.scope = L.sc → swapsWith (.ListComp elt [⟨tg, iter, ifs, 0⟩] scope pos) (some (.Name y py)) spos.line env = pure true) (ok : BlkOk L.N L.sc scope own) (hj : ∀ j ∈ js, j ∈ own.map (·.2))
    (hi : SI L tg iter fi) (hg : SG (L.blk scope) js tg g) (hc : SIf (L.blk scope) ifs fc) (he : SE (L.blk scope) elt fe) (hs : ∀ env x, foldedSetIterable iter env x = pure x := by intro _ _; rfl) :
    SS L (.Assign [.Name y py] (.ListComp elt [⟨tg, iter, ifs, 0⟩] scope pos) spos) (xAsg (gN i) (xLcF fin fi g fc fe (own.map (·.2)))) := fun W X h =>
  PSi (ps_setLc (i := i) h.calm (by rw [h.N]; exact nd) (by rw [h.N]; exact hy) (by rw [h.sc]; exact hyl) (hsw _ h.sc) (hi W X h) (by rw [h.N, h.sc]; exact ok) (fun s H C cl fp => hg W0 _ (ok_blk h s H C cl fp)) (fun s H C cl fp => hc W0 _ (ok_blk h s H C cl fp)) (fun s H C cl fp => he W0 _ (ok_blk h s H C cl fp)) (hs _)) fun D σ H ⟨α, β, σd, m, s, q⟩ => by
  have key : tS L W (relV L) (xLcF fin fi g fc fe (own.map (·.2))) σ H (fun x H1 => gName i x σ H1 D.nx) :=
    ⟨α, β, σd, m, s, q.mp fun d m1 v H1 α1 e1 s1 r1 q => q _ H1 α1 Ext.refl (s1.set i r1)⟩
  exact lc_core' hfin (scope := scope) hj key
end
end CT
namespace CT
open PySem L2
/-! ## operators on data -/
def okLen (n : Nat) (r : R D) : R D := if n ≤ 100000 then r else .bad
def oAdd : D → D → Ms → R D
  | .int i, .int j, m => .ok (.int (i + j)) m
  | .lst a, .lst b, m => okLen (a.length + b.length) (.ok (.lst (a ++ b)) m)
  | .tup a, .tup b, m => okLen (a.length + b.length) (.ok (.tup (a ++ b)) m)
  | .str a, .str b, m => okLen (a.length + b.length) (.ok (.str (a ++ b)) m)
  | _, _, _ => .bad
def oSub : D → D → Ms → R D
  | .int i, .int j, m => .ok (.int (i - j)) m
  | _, _, _ => .bad
def mulOk (i j : Int) : Bool := decide (i.natAbs.log2 + j.natAbs.log2 < 1000000)
def divOk (j : Int) : Bool := decide (0 < j ∧ j.natAbs.log2 < 9000)
def strRep (z : Str) (k : Nat) : Str := ⟨(List.replicate k z.cps).foldl (· ++ ·) #[]⟩
def repOk (z : Str) (k : Int) : Bool := decide (1 < k ∧ k ≤ 1000 ∧ 1 ≤ z.length ∧ z.length * k.toNat ≤ 100000 ∧ (strRep z k.toNat).length ≤ 100000)
def oMul : D → D → Ms → R D
  | .str z, .int k, m => if k = 0 ∨ k = 1 then .ok (.str (if k = 0 then Str.empty else z)) m else if repOk z k = true then .ok (.str (strRep z k.toNat)) m else .bad
  | .lst a, .int k, m => if (-1000 ≤ k ∧ k ≤ 1000) ∧ a.length * k.toNat ≤ 100000 then .ok (.lst (List.replicate k.toNat a).flatten) m else .bad
  | .int i, .int j, m => if mulOk i j = true then .ok (.int (i * j)) m else .bad
  | _, _, _ => .bad
def oDiv : D → D → Ms → R D
  | .int i, .int j, m => if divOk j = true then .ok (.int (i / j)) m else .bad
  | _, _, _ => .bad
def oMod : D → D → Ms → R D
  | .int i, .int j, m => if j ≠ 0 then .ok (.int (i.fmod j)) m else .bad
  | _, _, _ => .bad
def powOk (i j : Int) : Bool := decide (0 ≤ j ∧ j ≤ 1000000 ∧ i.natAbs < 2 ^ 64)
def oPow : D → D → Ms → R D
  | .int i, .int j, m => if powOk i j = true then .ok (.int (i ^ j.toNat)) m else .bad
  | _, _, _ => .bad
def oNeg : D → Ms → R D
  | .int i, m => .ok (.int (-i)) m
  | _, _ => .bad
def oLt : D → D → Ms → R D
  | .int i, .int j, m => .ok (.bl (decide (i < j))) m
  | .str i, .str j, m => .ok (.bl (decide (i.cps.toList < j.cps.toList))) m
  | _, _, _ => .bad
def oLe : D → D → Ms → R D
  | .int i, .int j, m => .ok (.bl (decide (i ≤ j))) m
  | _, _, _ => .bad
def oGt : D → D → Ms → R D
  | .int i, .int j, m => .ok (.bl (decide (j < i))) m
  | _, _, _ => .bad
def oGe : D → D → Ms → R D
  | .int i, .int j, m => .ok (.bl (decide (j ≤ i))) m
  | _, _, _ => .bad
mutual
def toP : D → PyData
  | .non => .none
  | .bl b => .bool b
  | .int i => .int i
  | .str x => .str x
  | .tup ds => .tuple (toPs ds)
  | .lst ds => .list (toPs ds)
  | .cel _ => .none
  | .lck ds => .list (toPs ds)
  | .ins _ _ _ => .dict []
  | .dct _ _ => .dict []
  | .fn _ => .dict []
  | .tpl ds => .tuple (toPs ds)
def toPs : List D → List PyData
  | [] => []
  | d :: ds => toP d :: toPs ds
end
def eqOk (d : D) : Bool := d.cf 0 && SeqAt.shaped (toP d)
def oEq : D → D → Ms → R D := fun x y m => if (eqOk x && eqOk y) = true then .ok (.bl (PyData.eqv (toP x) (toP y))) m else .bad
def oNe : D → D → Ms → R D := fun x y m => if (eqOk x && eqOk y) = true then .ok (.bl (!PyData.eqv (toP x) (toP y))) m else .bad
def isN : D → Bool
  | .non => true
  | _ => false
def oIsN : D → D → Ms → R D := fun x y m => match y with
  | .bl b => match x with
    | .bl a => .ok (.bl (decide (a = b))) m
    | _ => .bad
  | .non => .ok (.bl (isN x)) m
  | _ => .bad
def flatD : D → Bool
  | .non => true
  | .bl _ => true
  | .int _ => true
  | .str _ => true
  | _ => false
def eqF : D → D → Bool
  | .non, .non => true
  | .bl a, .bl b => a == b
  | .bl a, .int b => (if a then 1 else 0) == b
  | .int a, .bl b => a == (if b then 1 else 0)
  | .int a, .int b => a == b
  | .str a, .str b => a == b
  | _, _ => false
def inD (x : D) (ds : List D) : Bool := ds.any fun y => eqF y x
/-- a key of a dict, what stands there -/
def keyD : D → Option Key
  | .int i => some (.inl i)
  | .str z => some (.inr z)
  | _ => none
def dgetD : List Key → List D → Key → Option D
  | k :: ks, d :: ds, q => if k = q then some d else dgetD ks ds q
  | _, _, _ => none
def occB (x y : Str) : Bool := !(Builtin.Str.occurrences y x 0 y.length 1).isEmpty
def oIn : D → D → Ms → R D := fun x y m => match y with
  | .str z => match x with
    | .str u => .ok (.bl (occB u z)) m
    | _ => .bad
  | .dct ks ds => match keyD x with
    | some k => .ok (.bl (dgetD ks ds k).isSome) m
    | none => .bad
  | .lst ds => if (flatD x && ds.all flatD) = true then .ok (.bl (inD x ds)) m else .bad
  | .tup ds => if (flatD x && ds.all flatD) = true then .ok (.bl (inD x ds)) m else .bad
  | _ => .bad
def oIx : D → D → Ms → R D
  | .dct ks ds, y, m => match keyD y with
    | some k => match dgetD ks ds k with
      | some d => .ok d m
      | none => .bad
    | none => .bad
  | .lst ds, .int i, m => match atI ds i with
    | some d => .ok d m
    | none => .bad
  | .tup ds, .int i, m => match atI ds i with
    | some d => .ok d m
    | none => .bad
  | .str z, .int i, m => if z.length ≤ 100000 then match atI z.cps.toList i with
    | some c => .ok (.str ⟨#[c]⟩) m
    | none => .bad
    else .bad
  | _, _, _ => .bad
section
variable {L : Lc}
theorem OpS.or {r r' : R2} {o : D → D → Ms → R D} (h : ∀ (W : WX) (H : Hp) (α β : List Addr) (σ : St) (σd : Sd) (m : Ms) (v u : V) (x y : D) (Q : VK), SR L.K H α β σ σd m → Rv L.K H α β v x → Rv L.K H α β u y →
  PostR L W (relV L) σ σd H α β Q (o x y m) → r v u H Q ∨ r' v u H Q) : OpS L (fun x y H Q => r x y H Q ∨ r' x y H Q) o := h
theorem okLen_elim {W : WX} {σ : St} {σd : Sd} {H : Hp} {α β : List Addr} {Q : VK} {n : Nat} {r : R D} (h : PostR L W (relV L) σ σd H α β Q (okLen n r)) : n ≤ 100000 ∧ PostR L W (relV L) σ σd H α β Q r := by
  unfold okLen at h
  split at h
  · exact ⟨by assumption, h⟩
  · exact h.elim
theorem ors_add {X : Cx} : OpR X (binaryOp .Add) (fun x y H Q => (rI0 (fun i j => .int (i + j)) x y H Q ∨ rCat x y H Q) ∨ (rCatA X.K x y H Q ∨ (∃ i j, x = .str i ∧ y = .str j ∧ i.length + j.length ≤ sizeLine ∧ Q (.str (i ++ j)) H))) :=
  (op_add.or op_cat).or (op_catA.or op_add_str)
theorem os_add : OpS L (fun x y H Q => (rI0 (fun i j => .int (i + j)) x y H Q ∨ rCat x y H Q) ∨ (rCatA L.K x y H Q ∨ (∃ i j, x = .str i ∧ y = .str j ∧ i.length + j.length ≤ sizeLine ∧ Q (.str (i ++ j)) H))) oAdd := by
  intro W H α β σ σd m v u x y Q s rv ru q
  cases rv with
  | int =>
    cases ru with
    | int => exact .inl (.inl ⟨_, _, rfl, rfl, q _ H α Ext.refl s .int⟩)
    | lck _ _ => exact q.elim
    | ins _ _ _ => exact q.elim
    | dct => exact q.elim
    | fn => exact q.elim
    | non => exact q.elim
    | bl => exact q.elim
    | str => exact q.elim
    | tup _ _ => exact q.elim
    | lst _ _ => exact q.elim
  | lst h1 r1 =>
    cases ru with
    | lst h2 r2 =>
      obtain ⟨hz, q⟩ := okLen_elim (show PostR L W (relV L) σ σd H α β Q (okLen _ _) from q)
      refine .inl (.inr ⟨_, _, _, _, rfl, rfl, h1, h2, Evl.sz_of (by rw [r1.length, r2.length]; exact hz), fun p hp => ?_⟩)
      obtain ⟨h3, h4⟩ := lay_lst s hp (r1.app r2)
      exact q _ _ α (Ext.lay hp) h3 h4
    | lck _ _ => exact q.elim
    | ins _ _ _ => exact q.elim
    | dct => exact q.elim
    | fn => exact q.elim
    | non => exact q.elim
    | bl => exact q.elim
    | int => exact q.elim
    | str => exact q.elim
    | tup _ _ => exact q.elim
  | tup h1 r1 =>
    cases ru with
    | tup h2 r2 =>
      rename_i a vs ds b ws es
      obtain ⟨hz, q⟩ := okLen_elim (show PostR L W (relV L) σ σd H α β Q (okLen _ _) from q)
      refine .inr (.inl ⟨_, _, _, _, rfl, rfl, sqt_mono hid_sub h1, sqt_mono hid_sub h2, Evl.sz_of (by rw [r1.length, r2.length]; exact hz), fun e => ?_, fun _ e => ?_, fun _ _ p hp => ?_⟩)
      · subst e
        cases r1
        exact q _ H α Ext.refl s (.tup h2 r2)
      · subst e
        cases r2
        rw [List.append_nil] at q
        exact q _ H α Ext.refl s (.tup h1 r1)
      · obtain ⟨h3, h4⟩ := lay_tup s hp (r1.app r2)
        exact q _ _ α (Ext.lay hp) h3 h4
    | lck _ _ => exact q.elim
    | ins _ _ _ => exact q.elim
    | dct => exact q.elim
    | fn => exact q.elim
    | non => exact q.elim
    | bl => exact q.elim
    | int => exact q.elim
    | str => exact q.elim
    | lst _ _ => exact q.elim
  | str =>
    cases ru with
    | str =>
      obtain ⟨hz, q⟩ := okLen_elim (show PostR L W (relV L) σ σd H α β Q (okLen _ _) from q)
      exact .inr (.inr ⟨_, _, rfl, rfl, Evl.sz_of hz, q _ H α Ext.refl s .str⟩)
    | lck _ _ => exact q.elim
    | ins _ _ _ => exact q.elim
    | dct => exact q.elim
    | fn => exact q.elim
    | non => exact q.elim
    | bl => exact q.elim
    | int => exact q.elim
    | tup _ _ => exact q.elim
    | lst _ _ => exact q.elim
  | lck _ _ => exact q.elim
  | ins _ _ _ => exact q.elim
  | dct => exact q.elim
  | fn => exact q.elim
  | non => exact q.elim
  | bl => exact q.elim
theorem os_sub : OpS L (rI0 fun i j => .int (i - j)) oSub := by
  intro W H α β σ σd m v u x y Q s rv ru q
  cases rv <;> first | exact q.elim | (cases ru <;> first | exact q.elim | exact ⟨_, _, rfl, rfl, q _ H α Ext.refl s .int⟩)
theorem if_elim {W : WX} {σ : St} {σd : Sd} {H : Hp} {α β : List Addr} {Q : VK} {c : Prop} [Decidable c] {r : R D} (h : PostR L W (relV L) σ σd H α β Q (if c then r else .bad)) : c ∧ PostR L W (relV L) σ σd H α β Q r := by
  split at h
  · exact ⟨by assumption, h⟩
  · exact h.elim
theorem mulOk_c {i j : Int} (h : mulOk i j = true) : CMulW i j := by
  unfold mulOk at h
  have h' : i.natAbs.log2 + j.natAbs.log2 < 1000000 := of_decide_eq_true h
  exact h'
theorem divOk_c {i j : Int} (h : divOk j = true) : CDivW i j := by
  unfold divOk at h
  have h' : 0 < j ∧ j.natAbs.log2 < 9000 := of_decide_eq_true h
  exact h'
theorem powOk_c {i j : Int} (h : powOk i j = true) : CPow i j := by
  unfold powOk at h
  have h' : 0 ≤ j ∧ j ≤ 1000000 ∧ i.natAbs < 2 ^ 64 := of_decide_eq_true h
  exact h'
theorem reps_rep {K : KK} {G : Hp} {α : List Addr} {vs : List V} {ds : List D} (r : Reps K G α vs ds) : ∀ k : Nat, Reps K G α (List.replicate k vs).flatten (List.replicate k ds).flatten
  | 0 => .nil
  | k + 1 => by
    rw [List.replicate_succ, List.replicate_succ, List.flatten_cons, List.flatten_cons]
    exact r.app (reps_rep r k)
theorem op_rep_str {X : Cx} : OpR X (binaryOp .Mult) (fun x y H Q => ∃ z k, x = .str z ∧ y = .int k ∧ (((k = 0 ∨ k = 1) ∧ Q (.str (if k = 0 then Str.empty else z)) H) ∨ (repOk z k = true ∧ Q (.str (strRep z k.toNat)) H))) := by
  intro pins s σ H x y v u Q I rx ry h
  obtain ⟨z, k, rfl, rfl, h⟩ := h
  obtain ⟨t, rfl⟩ := rx
  obtain ⟨t', rfl⟩ := ry
  rcases h with ⟨hk, q⟩ | ⟨hk, q⟩
  · rcases hk with rfl | rfl
    · exact PySem.P.mul_str (by decide) (fun h => absurd (by decide) h) (fun h => absurd (by decide) h) (by rw [if_pos (by decide)]; exact ⟨by decide, .str Str.empty, H, I.tok _, ⟨_, rfl⟩, q⟩)
    · exact PySem.P.mul_str (by decide) (fun _ h => by simp at h) (fun _ h => by simp at h) (by rw [if_neg (by decide), if_pos (by simp)]; exact ⟨.str z, H, I, ⟨_, rfl⟩, q⟩)
  · obtain ⟨h1, h2, h3, h4, h5⟩ := of_decide_eq_true hk
    have n1 : ¬ k < 1 := by omega
    have n2 : (k == 1 || z.length == 0) = false := by
      rw [Bool.or_eq_false_iff]
      exact ⟨beq_false_of_ne (by omega), beq_false_of_ne (by omega)⟩
    have hz : z.length ≤ 100000 := by
      refine Nat.le_trans ?_ h4
      exact Nat.le_mul_of_pos_right _ (by omega)
    refine PySem.P.mul_str (by
      rw [decide_eq_false (by omega : ¬ k < -(2 ^ 63 : Int)), decide_eq_false (by omega : ¬ k ≥ 2 ^ 63)]; rfl) (fun _ _ => ?_) (fun _ _ => ?_) ?_
    · have h6 : (2 ^ 63 - 1 : Int) / 1000 ≤ (2 ^ 63 - 1) / k := by
        refine Int.le_ediv_of_mul_le (by omega) ?_
        have e : (2 ^ 63 - 1 : Int) / 1000 = 9223372036854775 := by decide
        rw [e]
        omega
      have e : (2 ^ 63 - 1 : Int) / 1000 = 9223372036854775 := by decide
      rw [e] at h6
      omega
    · have : ¬ z.length * k.toNat > PySem.sizeLine := by
        show ¬ z.length * k.toNat > 2 ^ 24
        omega
      show decide (z.length * k.toNat > PySem.sizeLine) = false
      exact decide_eq_false this
    · rw [if_neg n1, n2, if_neg (by decide)]
      exact ⟨by show (strRep z k.toNat).length ≤ 2 ^ 24; omega, .str (strRep z k.toNat), H, I.tok _, ⟨_, rfl⟩, q⟩
theorem os_mul : OpS L (fun x y H Q => (rI CMulW (fun i j => .int (i * j)) x y H Q ∨ rRep x y H Q) ∨ ∃ z k, x = .str z ∧ y = .int k ∧ (((k = 0 ∨ k = 1) ∧ Q (.str (if k = 0 then Str.empty else z)) H) ∨ (repOk z k = true ∧ Q (.str (strRep z k.toNat)) H))) oMul := by
  intro W H α β σ σd m v u x y Q s rv ru q
  cases rv with
  | str =>
    cases ru with
    | @int k =>
      by_cases c : k = 0 ∨ k = 1
      · simp only [oMul, if_pos c] at q
        exact .inr ⟨_, _, rfl, rfl, .inl ⟨c, q _ H α Ext.refl s .str⟩⟩
      · simp only [oMul, if_neg c] at q
        obtain ⟨c, q⟩ := if_elim q
        exact .inr ⟨_, _, rfl, rfl, .inr ⟨c, q _ H α Ext.refl s .str⟩⟩
    | _ => exact q.elim
  | int =>
    cases ru with
    | int => obtain ⟨c, q⟩ := if_elim q; exact .inl (.inl ⟨_, _, rfl, rfl, mulOk_c c, q _ H α Ext.refl s .int⟩)
    | _ => exact q.elim
  | lst h r =>
    cases ru with
    | int =>
      obtain ⟨c, q⟩ := if_elim q
      refine .inl (.inr ⟨_, _, _, rfl, rfl, h, by omega, by omega, Evl.sz_of (by rw [r.length]; exact c.2), fun p hp => ?_⟩)
      obtain ⟨h3, h4⟩ := lay_lst s hp (reps_rep r _)
      exact q _ _ α (Ext.lay hp) h3 h4
    | _ => exact q.elim
  | _ => exact q.elim
theorem os_div : OpS L (rI CDivW fun i j => .int (i / j)) oDiv := by
  intro W H α β σ σd m v u x y Q s rv ru q
  cases rv <;> first | exact q.elim | (cases ru <;> first | exact q.elim | (obtain ⟨c, q⟩ := if_elim q; exact ⟨_, _, rfl, rfl, divOk_c c, q _ H α Ext.refl s .int⟩))
theorem os_mod : OpS L (rI (fun _ j => j ≠ 0) fun i j => .int (i.fmod j)) oMod := by
  intro W H α β σ σd m v u x y Q s rv ru q
  cases rv <;> first | exact q.elim | (cases ru <;> first | exact q.elim | (obtain ⟨c, q⟩ := if_elim q; exact ⟨_, _, rfl, rfl, c, q _ H α Ext.refl s .int⟩))
theorem os_pow : OpS L (rI CPow fun i j => .int (i ^ j.toNat)) oPow := by
  intro W H α β σ σd m v u x y Q s rv ru q
  cases rv <;> first | exact q.elim | (cases ru <;> first | exact q.elim | (obtain ⟨c, q⟩ := if_elim q; exact ⟨_, _, rfl, rfl, powOk_c c, q _ H α Ext.refl s .int⟩))
theorem ors_lt {X : Cx} : OpR X (compareOp .Lt) (fun x y H Q => rI0 (fun i j => .bl (decide (i < j))) x y H Q ∨ ∃ i j, x = .str i ∧ y = .str j ∧ Q (.bl (decide (i.cps.toList < j.cps.toList))) H) := op_lt.or op_lt_str
theorem os_lt : OpS L (fun x y H Q => rI0 (fun i j => .bl (decide (i < j))) x y H Q ∨ ∃ i j, x = .str i ∧ y = .str j ∧ Q (.bl (decide (i.cps.toList < j.cps.toList))) H) oLt := by
  intro W H α β σ σd m v u x y Q s rv ru q
  cases rv <;> first | exact q.elim | (cases ru <;> first | exact q.elim | exact .inl ⟨_, _, rfl, rfl, q _ H α Ext.refl s .bl⟩ | exact .inr ⟨_, _, rfl, rfl, q _ H α Ext.refl s .bl⟩)
theorem os_le : OpS L (rI0 fun i j => .bl (decide (i ≤ j))) oLe := by
  intro W H α β σ σd m v u x y Q s rv ru q
  cases rv <;> first | exact q.elim | (cases ru <;> first | exact q.elim | exact ⟨_, _, rfl, rfl, q _ H α Ext.refl s .bl⟩)
theorem os_gt : OpS L (rI0 fun i j => .bl (decide (j < i))) oGt := by
  intro W H α β σ σd m v u x y Q s rv ru q
  cases rv <;> first | exact q.elim | (cases ru <;> first | exact q.elim | exact ⟨_, _, rfl, rfl, q _ H α Ext.refl s .bl⟩)
/-! ### == -/
mutual
theorem Rep.dp {K : KK} {G H : Hp} {α : List Addr} (h : ∀ a o, G a = some o → H a = some o) : ∀ {v : V} {d : D}, d.cf 0 = true → (toP d).canLay0 = true → Rep K G α v d → Dp K H v (toP d)
  | _, _, _, _, .non => .non
  | _, _, _, _, .bl => .bl _
  | _, _, _, _, .int => .int _
  | _, _, _, _, .str => .str _
  | _, _, z, y, .tup s r => .tup (sqt_mono h s) (Reps.dp h (by simpa [D.cf] using z) (by simpa [toP, PyData.canLay0] using y) r)
  | _, _, z, y, .lst s r => .lst (.inl (.inl (h _ _ s))) (Reps.dp h (by simpa [D.cf] using z) (by simpa [toP, PyData.canLay0] using y) r)
  | _, _, z, _, .cel _ => by simp [D.cf] at z
  | _, _, z, y, .lck s r => .lst (sql_mono h s) (Reps.dp h (by simpa [D.cf] using z) (by simpa [toP, PyData.canLay0] using y) r)
  | _, _, _, y, .ins _ _ _ => by simp [toP, PyData.canLay0] at y
  | _, _, _, y, .dct _ _ _ => by simp [toP, PyData.canLay0] at y
  | _, _, _, y, .fn => by simp [toP, PyData.canLay0] at y
  | _, _, z, y, .tpl s _ _ r => .tup (.inl (.inr ⟨_, h _ _ s⟩)) (Reps.dp h (by simpa [D.cf] using z) (by simpa [toP, PyData.canLay0] using y) r)
theorem Reps.dp {K : KK} {G H : Hp} {α : List Addr} (h : ∀ a o, G a = some o → H a = some o) : ∀ {vs : List V} {ds : List D}, D.cfs 0 ds = true → PyData.canLayAll0 (toPs ds) = true → Reps K G α vs ds → DpAll K H vs (toPs ds)
  | _, _, _, _, .nil => .nil
  | _, _, z, y, .cons a b => by
    rw [D.cfs, Bool.and_eq_true] at z
    rw [toPs, PyData.canLayAll0, Bool.and_eq_true] at y
    exact .cons (Rep.dp h z.1 y.1 a) (Reps.dp h z.2 y.2 b)
end
theorem Rv.dp {K : KK} {H : Hp} {α β : List Addr} : ∀ {v : V} {d : D}, d.cf 0 = true → (toP d).canLay0 = true → Rv K H α β v d → Dp K H v (toP d)
  | _, _, _, _, .non => .non
  | _, _, _, _, .bl => .bl _
  | _, _, _, _, .int => .int _
  | _, _, _, _, .str => .str _
  | _, _, z, y, .tup s r => .tup (sqt_mono hid_sub s) (Reps.dp hid_sub (by simpa [D.cf] using z) (by simpa [toP, PyData.canLay0] using y) r)
  | _, _, z, y, .lst s r => .lst (.inl (.inl s)) (Reps.dp hid_sub (by simpa [D.cf] using z) (by simpa [toP, PyData.canLay0] using y) r)
  | _, _, z, y, .lck s r => .lst s (Reps.dp hid_sub (by simpa [D.cf] using z) (by simpa [toP, PyData.canLay0] using y) r)
  | _, _, _, y, .ins _ _ _ => by simp [toP, PyData.canLay0] at y
  | _, _, _, y, .dct _ _ _ => by simp [toP, PyData.canLay0] at y
  | _, _, _, y, .fn => by simp [toP, PyData.canLay0] at y
theorem shp_lay {p : PyData} (h : SeqAt.shaped p = true) : p.canLay0 = true := by
  unfold SeqAt.shaped at h
  exact (Bool.and_eq_true_iff.mp h).1
theorem os_eq : OpS L (rEqD L.K) oEq := by
  intro W H α β σ σd m v u x y Q s rv ru q
  obtain ⟨c, q⟩ := if_elim q
  rw [Bool.and_eq_true] at c
  have c1 := Bool.and_eq_true_iff.mp c.1
  have c2 := Bool.and_eq_true_iff.mp c.2
  exact ⟨_, _, rv.dp c1.1 (shp_lay c1.2), ru.dp c2.1 (shp_lay c2.2), c1.2, c2.2, q _ H α Ext.refl s .bl⟩
theorem os_ne : OpS L (rNeD L.K) oNe := by
  intro W H α β σ σd m v u x y Q s rv ru q
  obtain ⟨c, q⟩ := if_elim q
  rw [Bool.and_eq_true] at c
  have c1 := Bool.and_eq_true_iff.mp c.1
  have c2 := Bool.and_eq_true_iff.mp c.2
  exact ⟨_, _, rv.dp c1.1 (shp_lay c1.2), ru.dp c2.1 (shp_lay c2.2), c1.2, c2.2, q _ H α Ext.refl s .bl⟩
theorem room64 {W : WX} {X : Cx} (h : Ok L W X) : X.A.units + 64 < cLine := h.room.units
theorem isN_iff {K : KK} {H : Hp} {α β : List Addr} {v : V} {d : D} (r : Rv K H α β v d) : decide (v = .non) = isN d := by
  cases r <;> simp [isN]
theorem os_isN : OpS L (fun x y H Q => (y = .non ∧ Q (.bl (decide (x = .non))) H) ∨ rIsB x y H Q) oIsN := by
  intro W H α β σ σd m v u x y Q s rv ru q
  cases ru with
  | non => exact .inl ⟨rfl, q _ H α Ext.refl s (by rw [isN_iff rv]; exact .bl)⟩
  | bl =>
    cases rv with
    | bl => exact .inr ⟨_, _, rfl, rfl, q _ H α Ext.refl s .bl⟩
    | _ => exact q.elim
  | _ => exact q.elim
/-! ### dicts -/
def rIxDV : R2 := fun x y H Q => ∃ a v, x = .ref a ∧ DGet H a y (some v) ∧ Q v H
theorem ix_dictV {X : Cx} (hu : X.A.units + 1 < cLine) : IxR X rIxDV := by
  intro value slice pins s σ H x y v u Q I rx ry h hs
  obtain ⟨a, z, rfl, g, q⟩ := h
  cases rx
  have hT := dict_typeIs I g
  unfold PyProof.Rows.subscriptTail
  refine wpAny_bind ?_
  rw [getitemInPython_of_ne hT.not_modules]
  refine wpAny_bind (wpAny_specialOf hT PySem.F.slot_dict_getitem.lookup ?_)
  have fin : wpAny (model X.prog X.w) X.A (subscripted slice false (.ref a) u) (fun r s₃ => wpAny (model X.prog X.w) X.A (letTemporaryGo value (.ref a) r >>= fun _ => pure r) (EP X pins σ Q) X.xe s₃) X.xe s := by
    rw [hs]
    exact wpAny_operating (d_getItem hu I g ry fun w' s3 I3 rw' => wpAny_bind (wpAny_letTemporaryGo (wpAny_pure ⟨z, H, I3, rw', q⟩)))
  first
    | exact wpAny_pure (wpAny_bind fin)
    | exact wpAny_bind (wpAny_pure (wpAny_bind fin))
    | exact wpAny_bind fin
def rInDV (neg : Bool) : R2 := fun x y H Q => ∃ a o, y = .ref a ∧ DGet H a x o ∧ Q (.bl (if neg then !o.isSome else o.isSome)) H
theorem op_inD {X : Cx} (hu : X.A.units + 1 < cLine) : OpR X (compareOp .In) (rInDV false) := by
  intro pins s σ H x y v u Q I rx ry h
  obtain ⟨a, o, rfl, g, q⟩ := h
  cases ry
  exact d_in hu I g rx fun s3 I3 => ⟨.bl o.isSome, H, I3, rfl, q⟩
theorem keyD_v {K : KK} {H : Hp} {α β : List Addr} {v : V} {d : D} {k : Key} (r : Rv K H α β v d) (h : keyD d = some k) : v = kV k := by
  cases r <;> first | (simp [keyD] at h; done) | skip
  all_goals (simp only [keyD, Option.some.injEq] at h; subst h; rfl)
theorem dget_v {K : KK} {G : Hp} {α : List Addr} : ∀ {kvs : List (Key × V)} {ks : List Key} {ds : List D} {k : Key} {d : D}, kvs.map (·.1) = ks → Reps K G α (kvs.map (·.2)) ds → dgetD ks ds k = some d → ∃ v, valV kvs k = some v ∧ Rep K G α v d
  | [], _, _, k, d, e, r, h => by
    subst e
    simp [dgetD] at h
  | (k1, v1) :: kvs, _, _, k, d, e, .cons a r, h => by
    subst e
    simp only [List.map_cons, dgetD] at h
    by_cases hk : k1 = k
    · rw [if_pos hk] at h
      cases h
      exact ⟨v1, by simp [valV, hk], a⟩
    · rw [if_neg hk] at h
      obtain ⟨v, h1, h2⟩ := dget_v rfl r h
      exact ⟨v, by rw [← h1]; simp [valV, List.find?_cons, hk], h2⟩
theorem dget_some {K : KK} {G : Hp} {α : List Addr} : ∀ {kvs : List (Key × V)} {ks : List Key} {ds : List D}, kvs.map (·.1) = ks → Reps K G α (kvs.map (·.2)) ds → ∀ k, (dgetD ks ds k).isSome = (valV kvs k).isSome
  | [], _, _, e, r, k => by
    subst e
    cases r
    rfl
  | (k1, v1) :: kvs, _, _, e, .cons a r, k => by
    subst e
    simp only [List.map_cons, dgetD]
    by_cases hk : k1 = k
    · rw [if_pos hk]
      simp [valV, hk]
    · rw [if_neg hk, dget_some rfl r k]
      simp [valV, List.find?_cons, hk]
/-! ### in -/
theorem flat_v {K : KK} {G : Hp} {α : List Addr} {v : V} {d : D} (r : Rep K G α v d) (h : flatD d = true) : flatV v = true := by
  cases r <;> first | rfl | (simp [flatD] at h)
theorem flat_rv {K : KK} {H : Hp} {α β : List Addr} {v : V} {d : D} (r : Rv K H α β v d) (h : flatD d = true) : flatV v = true := by
  cases r <;> first | rfl | (simp [flatD] at h)
theorem eqF_v {K : KK} {G H : Hp} {α β : List Addr} {v u : V} {d e : D} (r : Rep K G α v d) (q : Rv K H α β u e) (h : flatD d = true) (h' : flatD e = true) : eqV v u = eqF d e := by
  cases r <;> first | (simp [flatD] at h; done) | (cases q <;> first | rfl | (simp [flatD] at h'; done))
theorem inD_v {K : KK} {G H : Hp} {α β : List Addr} {u : V} {e : D} (q : Rv K H α β u e) (h' : flatD e = true) : ∀ {vs : List V} {ds : List D}, Reps K G α vs ds → ds.all flatD = true → inV u vs = inD e ds ∧ vs.all flatV = true
  | _, _, .nil, _ => ⟨rfl, rfl⟩
  | _, _, .cons (v := v) (d := d) (vs := vs) (ds := ds) a r, z => by
    rw [List.all_cons, Bool.and_eq_true] at z
    obtain ⟨h1, h2⟩ := inD_v q h' r z.2
    refine ⟨?_, by rw [List.all_cons, flat_v a z.1, h2]; rfl⟩
    show ((v :: vs).any fun y => eqV y u) = ((d :: ds).any fun y => eqF y e)
    rw [List.any_cons, List.any_cons, eqF_v a q z.1 h']
    have : (vs.any fun y => eqV y u) = (ds.any fun y => eqF y e) := h1
    rw [this]
theorem os_in : OpS L (fun x y H Q => (rIn L.K false x y H Q ∨ rInDV false x y H Q) ∨ ∃ i j, x = .str i ∧ y = .str j ∧ Q (.bl (occB i j)) H) oIn := by
  intro W H α β σ σd m v u x y Q s rv ru q
  cases ru with
  | tup h r =>
    obtain ⟨c, q⟩ := if_elim q
    rw [Bool.and_eq_true] at c
    obtain ⟨h1, h2⟩ := inD_v rv c.1 r c.2
    exact .inl (.inl ⟨_, _, rfl, .inr (sqt_mono hid_sub h), flat_rv rv c.1, h2, by rw [if_neg Bool.false_ne_true, h1]; exact q _ H α Ext.refl s .bl⟩)
  | lst h r =>
    obtain ⟨c, q⟩ := if_elim q
    rw [Bool.and_eq_true] at c
    obtain ⟨h1, h2⟩ := inD_v rv c.1 r c.2
    exact .inl (.inl ⟨_, _, rfl, .inl (.inl (.inl h)), flat_rv rv c.1, h2, by rw [if_neg Bool.false_ne_true, h1]; exact q _ H α Ext.refl s .bl⟩)
  | lck _ _ => exact q.elim
  | ins _ _ _ => exact q.elim
  | dct h n r =>
    cases ek : keyD x with
    | none => simp only [oIn, ek] at q; exact q.elim
    | some k =>
      simp only [oIn, ek] at q
      have hv := keyD_v rv ek
      subst hv
      refine .inl (.inr ⟨_, _, rfl, .inl ⟨_, k, .inl h, rfl, rfl⟩, ?_⟩)
      rw [← dget_some n r k]
      exact q _ H α Ext.refl s .bl
  | fn => exact q.elim
  | non => exact q.elim
  | bl => exact q.elim
  | int => exact q.elim
  | str =>
    cases rv with
    | str => exact .inr ⟨_, _, rfl, rfl, q _ H α Ext.refl s .bl⟩
    | _ => exact q.elim
/-! ### o[i] -/
theorem atI_rep {K : KK} {G : Hp} {α : List Addr} {vs : List V} {ds : List D} {i : Int} {d : D} (r : Reps K G α vs ds) (h : atI ds i = some d) : ∃ v, atI vs i = some v ∧ Rep K G α v d := by
  unfold atI at h ⊢
  rw [r.length]
  cases e : ixN ds.length i with
  | none => rw [e] at h; cases h
  | some j =>
    rw [e] at h
    exact r.get h
theorem os_ix : OpS L (fun x y H Q => rIx L.K x y H Q ∨ rIxDV x y H Q) oIx := by
  intro W H α β σ σd m v u x y Q s rv ru q
  cases rv with
  | lst h r =>
    cases ru with
    | int =>
      rename_i a vs ds i
      cases e : atI ds i with
      | none => simp only [oIx, e] at q; exact q.elim
      | some d =>
        simp only [oIx, e] at q
        obtain ⟨w, h1, h2⟩ := atI_rep r e
        exact .inl (.inl ⟨_, _, _, _, rfl, rfl, .inl (.inl h), h1, q _ H α Ext.refl s h2⟩)
    | lck _ _ => exact q.elim
    | ins _ _ _ => exact q.elim
    | dct => exact q.elim
    | fn => exact q.elim
    | non => exact q.elim
    | bl => exact q.elim
    | str => exact q.elim
    | tup _ _ => exact q.elim
    | lst _ _ => exact q.elim
  | tup h r =>
    cases ru with
    | int =>
      rename_i a vs ds i
      cases e : atI ds i with
      | none => simp only [oIx, e] at q; exact q.elim
      | some d =>
        simp only [oIx, e] at q
        obtain ⟨w, h1, h2⟩ := atI_rep r e
        exact .inl (.inr (.inl ⟨_, _, _, _, rfl, rfl, sqt_mono hid_sub h, h1, q _ H α Ext.refl s h2⟩))
    | lck _ _ => exact q.elim
    | ins _ _ _ => exact q.elim
    | dct => exact q.elim
    | fn => exact q.elim
    | non => exact q.elim
    | bl => exact q.elim
    | str => exact q.elim
    | tup _ _ => exact q.elim
    | lst _ _ => exact q.elim
  | str =>
    cases ru with
    | int =>
      rename_i z i
      obtain ⟨hz, q⟩ := if_elim (show PostR L W (relV L) σ σd H α β Q (if z.length ≤ 100000 then _ else _) from q)
      cases e : atI z.cps.toList i with
      | none => simp only [e] at q; exact q.elim
      | some c =>
        simp only [e] at q
        exact .inl (.inr (.inr ⟨z, i, c, rfl, rfl, Evl.sz_of hz, e, q _ H α Ext.refl s .str⟩))
    | lck _ _ => exact q.elim
    | ins _ _ _ => exact q.elim
    | dct => exact q.elim
    | fn => exact q.elim
    | non => exact q.elim
    | bl => exact q.elim
    | str => exact q.elim
    | tup _ _ => exact q.elim
    | lst _ _ => exact q.elim
  | lck _ _ => exact q.elim
  | ins _ _ _ => exact q.elim
  | @dct a kvs ks ds h n r =>
    cases ek : keyD y with
    | none => simp only [oIx, ek] at q; exact q.elim
    | some k =>
      simp only [oIx, ek] at q
      have hv := keyD_v ru ek
      subst hv
      cases e2 : dgetD ks ds k with
      | none => simp only [e2] at q; exact q.elim
      | some d =>
        simp only [e2] at q
        obtain ⟨w, h1, h2⟩ := dget_v n r e2
        exact .inr ⟨_, w, rfl, .inl ⟨_, k, .inl h, rfl, h1.symm⟩, q _ H α Ext.refl s h2⟩
  | fn => exact q.elim
  | non => exact q.elim
  | bl => exact q.elim
  | int => exact q.elim
theorem se_ix {a b : Expr} {fa fb : Fn D} {pos : Pos} (ha : SE L a fa) (hb : SE L b fb) (hs : PlainIx b := by intro _ _; rfl) : SE L (.Subscript a b pos) (xOp oIx fa fb) := fun W X h =>
  PEi (pe_ix (ix_seq.or (ix_dictV (by have := room64 h; omega))) (ha W X h) (hb W X h) hs) fun σ H Q q => op_core (r := fun x y H Q => rIx X.K x y H Q ∨ rIxDV x y H Q) (by rw [h.K]; exact os_ix) q
theorem se_neg {a : Expr} {fa : Fn D} {pos : Pos} (ha : SE L a fa) : SE L (.UnaryOp .USub a pos) (xUn oNeg fa) := fun W X h =>
  PEi (pe_un un_neg (ha W X h)) fun σ H Q ⟨α, β, σd, m, s, q⟩ => ⟨α, β, σd, m, s, q.mp fun d m1 v H1 α1 e1 s1 r1 q => by
    have r2 := Rv.of s1.cr r1
    generalize dr m1 d = d' at r2 q
    cases r2 <;> first | exact q.elim | exact ⟨_, rfl, q _ H1 α1 Ext.refl s1 .int⟩⟩
theorem se_add {a b : Expr} {fa fb : Fn D} {pos : Pos} (ha : SE L a fa) (hb : SE L b fb) : SE L (.BinOp a .Add b pos) (xOp oAdd fa fb) := fun W X h => by
  refine PEi (pe_op ors_add (ha W X h) (hb W X h)) fun σ H Q q => ?_
  rw [h.K]
  exact op_core os_add q
theorem se_sub {a b : Expr} {fa fb : Fn D} {pos : Pos} (ha : SE L a fa) (hb : SE L b fb) : SE L (.BinOp a .Sub b pos) (xOp oSub fa fb) := se_bin (fun _ _ _ => op_sub) os_sub ha hb
theorem se_mul {a b : Expr} {fa fb : Fn D} {pos : Pos} (ha : SE L a fa) (hb : SE L b fb) : SE L (.BinOp a .Mult b pos) (xOp oMul fa fb) := se_bin (fun _ _ _ => (op_mulW.or op_rep).or op_rep_str) os_mul ha hb
theorem se_div {a b : Expr} {fa fb : Fn D} {pos : Pos} (ha : SE L a fa) (hb : SE L b fb) : SE L (.BinOp a .FloorDiv b pos) (xOp oDiv fa fb) := se_bin (fun _ _ _ => op_fdivW) os_div ha hb
theorem se_mod {a b : Expr} {fa fb : Fn D} {pos : Pos} (ha : SE L a fa) (hb : SE L b fb) : SE L (.BinOp a .Mod b pos) (xOp oMod fa fb) := se_bin (fun _ _ _ => op_modN) os_mod ha hb
theorem se_pow {a b : Expr} {fa fb : Fn D} {pos : Pos} (ha : SE L a fa) (hb : SE L b fb) : SE L (.BinOp a .Pow b pos) (xOp oPow fa fb) := se_bin (fun _ _ _ => op_pow) os_pow ha hb
/-- a comparison: its operator, what it does to data -/
structure CmpS (L : Lc) (op : CmpOp) (o : D → D → Ms → R D) : Prop where
  ex : ∃ r, (∀ W X, Ok L W X → OpR X (compareOp op) r) ∧ OpS L r o
theorem cs_lt : CmpS L .Lt oLt := ⟨_, fun _ _ _ => ors_lt, os_lt⟩
theorem cs_le : CmpS L .LtE oLe := ⟨_, fun _ _ _ => op_le, os_le⟩
theorem cs_gt : CmpS L .Gt oGt := ⟨_, fun _ _ _ => op_gt, os_gt⟩
theorem cs_eq : CmpS L .Eq oEq := ⟨_, fun W X h => by rw [← h.K]; exact op_eqD (room64 h), os_eq⟩
theorem cs_ne : CmpS L .NotEq oNe := ⟨_, fun W X h => by rw [← h.K]; exact op_neD (room64 h), os_ne⟩
theorem cs_is : CmpS L .Is oIsN := ⟨_, fun _ _ _ => op_isN.or op_isBl, os_isN⟩
theorem cs_in : CmpS L .In oIn := ⟨_, fun W X h => by rw [← h.K]; exact (op_in_seq.or (op_inD (by have := room64 h; omega))).or op_in_str, os_in⟩
theorem e_cmp {op : CmpOp} {o : D → D → Ms → R D} (c : CmpS L op o) {a b : Expr} {fa fb : Fn D} {pos : Pos} (ha : SE L a fa) (hb : SE L b fb) (hm : behindInMarks op b = false) : SE L (.Compare a [op] [b] pos) (xOp o fa fb) := by
  obtain ⟨r, h1, h2⟩ := c.ex
  exact se_cmp h1 h2 ha hb hm
theorem t_cmp {op : CmpOp} {o : D → D → Ms → R D} (c : CmpS L op o) {a b : Expr} {fa fb : Fn D} {pos : Pos} (ha : SE L a fa) (hb : SE L b fb) (hm : behindInMarks op b = false) : ST L (.Compare a [op] [b] pos) (xTest (xOp o fa fb)) := by
  obtain ⟨r, h1, h2⟩ := c.ex
  exact st_cmp h1 h2 ha hb hm
theorem t_chain {op op' : CmpOp} {o o' : D → D → Ms → R D} (k : CmpS L op o) (k' : CmpS L op' o') {a b c : Expr} {fa fb fc : Fn D} {pos : Pos} (ha : SE L a fa) (hb : SE L b fb) (hc : SE L c fc) (hm : lastMarks [op, op'] [b, c] = false := by with_unfolding_all rfl) : ST L (.Compare a [op, op'] [b, c] pos) (xTest (xChain o o' fa fb fc)) := by
  obtain ⟨r, h1, h2⟩ := k.ex
  obtain ⟨r', h3, h4⟩ := k'.ex
  exact st_chain h1 h2 h3 h4 ha hb hc hm
end
end CT
namespace CT
open PySem L2
/-! ## calls of builtins -/
abbrev Glb (L : Lc) (x : Str) : Prop := L.sc.names.lookup x = some .globalImplicit
inductive Rvs (K : KK) (H : Hp) (α β : List Addr) : List V → List D → Prop
  | nil : Rvs K H α β [] []
  | cons {v : V} {d : D} {vs : List V} {ds : List D} : Rv K H α β v d → Rvs K H α β vs ds → Rvs K H α β (v :: vs) (d :: ds)
theorem Rvs.of {K : KK} {H : Hp} {α β : List Addr} {m : Ms} (c : CR K H α β m) : ∀ {vs : List V} {ds : List D}, Rps K H α β vs ds → Rvs K H α β vs (ds.map (dr m))
  | _, _, .nil => .nil
  | _, _, .cons a r => .cons (Rv.of c a) (Rvs.of c r)
def CalS (L : Lc) (r : List V → Hp → VK → Prop) (o : List D → Ms → R D) : Prop := ∀ (W : WX) (H : Hp) (α β : List Addr) (σ : St) (σd : Sd) (m : Ms) (vs : List V) (ds : List D) (Q : VK), SR L.K H α β σ σd m → Rvs L.K H α β vs ds →
  PostR L W (relV L) σ σd H α β Q (o ds m) → r vs H Q
def xCalB (o : List D → Ms → R D) (f : Fn (List D)) : Fn D := fun σ m => (f σ m).bind fun ds m1 => o (ds.map (dr m1)) m1
theorem cal_core {L : Lc} {r : List V → Hp → VK → Prop} {o : List D → Ms → R D} (cs : CalS L r o) {f : Fn (List D)} {n : Nat} {W : WX} {σ : St} {H : Hp} {Q : VK} (h : tS L W (relV L) (xCalB o f) σ H Q) : tCB r (tS L W (relN L n) f) σ H Q := by
  obtain ⟨α, β, σd, m, s, q⟩ := h
  unfold xCalB at q
  cases e : f σd m with
  | bad => rw [e] at q; exact q.elim
  | ex x m1 =>
    rw [e] at q
    refine ⟨α, β, σd, m, s, ?_⟩
    rw [e]
    exact q
  | ok ds m1 =>
    rw [e] at q
    refine ⟨α, β, σd, m, s, ?_⟩
    rw [e]
    exact fun vs H1 α1 e1 s1 r1 => cs W H1 α1 β σ σd m1 vs _ Q s1 (Rvs.of s1.cr r1.1) (q.ext e1)
section
variable {L : Lc} {r : List V → Hp → VK → Prop} {o : List D → Ms → R D} {id T : String} {x : Str} {e : Expr} {es : List Expr} {f : Fn (List D)} {p pos : Pos}
theorem se_callB (hc : ∀ W X, Ok L W X → CallR X (.builtin id) r) (cs : CalS L r o) (hg : L.sc.names.lookup x = some .globalImplicit) (hm : L.mg x = none) (hv : bootBuiltins x = some (.builtin id)) (ha : SAs L (e :: es) f) (hn : x ≠ "__name__" := by decide) (hdb : (x == ("__debug__" : Str)) = false := by decide)
    (he : ∀ env, starEach (e :: es) env = (false, eval e env) :: starEach es env := by intro _; rfl) (hpl : ∀ env, (backTo pos (starEach es env)).any (·.1) = false := by intro _; rfl) : SE L (.Call (.Name x p) (e :: es) [] pos) (xCalB o f) := fun W X h =>
  PEi (pe_callB (hc W X h) (by unfold Gl Env.kindOf; rw [h.sc]; exact hg) (by rw [h.mg]; exact hm) hv (ha W X h) hn hdb (he _) (hpl _)) fun σ H Q q => cal_core cs q
theorem se_callTy (hc : ∀ W X, Ok L W X → CallR X (.type T) r) (cs : CalS L r o) (hg : L.sc.names.lookup x = some .globalImplicit) (hm : L.mg x = none) (hv : bootBuiltins x = some (.type T)) (ha : SAs L (e :: es) f) (hn : x ≠ "__name__" := by decide) (hdb : (x == ("__debug__" : Str)) = false := by decide)
    (he : ∀ env, starEach (e :: es) env = (false, eval e env) :: starEach es env := by intro _; rfl) (hpl : ∀ env, (backTo pos (starEach es env)).any (·.1) = false := by intro _; rfl) : SE L (.Call (.Name x p) (e :: es) [] pos) (xCalB o f) := fun W X h =>
  PEi (pe_callTy (hc W X h) (by unfold Gl Env.kindOf; rw [h.sc]; exact hg) (by rw [h.mg]; exact hm) hv (ha W X h) hn hdb (he _) (hpl _)) fun σ H Q q => cal_core cs q
end
def bLen : List D → Ms → R D
  | [.lst ds], m => .ok (.int (ds.length : Nat)) m
  | [.tup ds], m => .ok (.int (ds.length : Nat)) m
  | [.lck ds], m => .ok (.int (ds.length : Nat)) m
  | [.str x], m => if x.length ≤ 100000 then .ok (.int (x.length : Nat)) m else .bad
  | _, _ => .bad
def bAbs : List D → Ms → R D
  | [.int i], m => .ok (.int (if i < 0 then -i else i)) m
  | _, _ => .bad
def bMax : List D → Ms → R D
  | [.int i, .int j], m => .ok (.int (if j > i then j else i)) m
  | _, _ => .bad
def bList : List D → Ms → R D
  | [.lst ds], m => .ok (.lst ds) m
  | [.tup ds], m => .ok (.lst ds) m
  | [.lck ds], m => .ok (.lst ds) m
  | _, _ => .bad
def bTup : List D → Ms → R D
  | [.lst ds], m => .ok (.tup ds) m
  | [.tup ds], m => .ok (.tup ds) m
  | [.lck ds], m => .ok (.tup ds) m
  | _, _ => .bad
def boolsOf : List D → Option (List Bool)
  | [] => some []
  | .bl b :: ds => (boolsOf ds).map (b :: ·)
  | _ :: _ => none
def intsOf : List D → Option (List Int)
  | [] => some []
  | .int b :: ds => (intsOf ds).map (b :: ·)
  | _ :: _ => none
def strsOf : List D → Option (List Str)
  | [] => some []
  | .str b :: ds => (strsOf ds).map (b :: ·)
  | _ :: _ => none
def bAll : List D → Ms → R D
  | [.lst ds], m => match boolsOf ds with
    | some bs => .ok (.bl (bs.all id)) m
    | none => .bad
  | _, _ => .bad
theorem bools_rep {K : KK} {G : Hp} {α : List Addr} : ∀ {vs : List V} {ds : List D} {bs : List Bool}, Reps K G α vs ds → boolsOf ds = some bs → vs = bs.map V.bl
  | _, _, _, .nil, e => by cases e; rfl
  | _, _, bs, .cons (v := v) (d := d) (vs := vs) (ds := ds) a r, e => by
    cases a <;> first | (cases e; done) | skip
    unfold boolsOf at e
    cases q : boolsOf ds with
    | none => rw [q] at e; cases e
    | some cs => rw [q] at e; cases e; rw [bools_rep r q]; rfl
/-- the one argument is a list or a tuple -/
theorem seq_of {K : KK} {H : Hp} {α β : List Addr} {v : V} {ds : List D} : (Rv K H α β v (.lst ds) ∨ Rv K H α β v (.tup ds) ∨ Rv K H α β v (.lck ds)) → ∃ a vs, v = .ref a ∧ (SqL K H a vs ∨ SqT K H a vs) ∧ Rps K H α β vs ds
  | .inl (.lst h r) => ⟨_, _, rfl, .inl (.inl (.inl h)), r⟩
  | .inr (.inl (.tup h r)) => ⟨_, _, rfl, .inr (sqt_mono hid_sub h), r⟩
  | .inr (.inr (.lck h r)) => ⟨_, _, rfl, .inl h, r⟩
section
variable {L : Lc}
theorem calB_len : CalS L (fun xs H Q => (∃ p ys, xs = [.ref p] ∧ (SqL L.K H p ys ∨ SqT L.K H p ys) ∧ Q (.int ys.length) H) ∨ ∃ z, xs = [.str z] ∧ z.length ≤ sizeLine ∧ Q (.int z.length) H) bLen := by
  intro W H α β σ σd m vs ds Q s r q
  cases r with
  | nil => exact q.elim
  | cons a r =>
    cases r with
    | cons b r => cases a <;> exact q.elim
    | nil =>
      have key : ∀ {v : V} {ds : List D}, (Rv L.K H α β v (.lst ds) ∨ Rv L.K H α β v (.tup ds) ∨ Rv L.K H α β v (.lck ds)) → PostR L W (relV L) σ σd H α β Q (.ok (.int (ds.length : Nat)) m) → ∃ p ys, [v] = [V.ref p] ∧ (SqL L.K H p ys ∨ SqT L.K H p ys) ∧ Q (.int ys.length) H := fun h q => by
        obtain ⟨a, vs, rfl, h1, h2⟩ := seq_of h
        refine ⟨a, vs, rfl, h1, ?_⟩
        rw [h2.length]
        exact q _ H α Ext.refl s .int
      cases a with
      | lst h r => exact .inl (key (.inl (.lst h r)) q)
      | tup h r => exact .inl (key (.inr (.inl (.tup h r))) q)
      | lck h r => exact .inl (key (.inr (.inr (.lck h r))) q)
      | str =>
        obtain ⟨hz, q⟩ := if_elim q
        exact .inr ⟨_, rfl, Evl.sz_of hz, q _ H α Ext.refl s .int⟩
      | non => exact q.elim
      | bl => exact q.elim
      | int => exact q.elim
      | ins _ _ _ => exact q.elim
      | dct => exact q.elim
      | fn => exact q.elim
theorem calB_abs : CalS L (fun xs H Q => ∃ i, xs = [.int i] ∧ Q (.int (if i < 0 then -i else i)) H) bAbs := by
  intro W H α β σ σd m vs ds Q s r q
  cases r with
  | nil => exact q.elim
  | cons a r =>
    cases r with
    | cons b r => cases a <;> exact q.elim
    | nil => cases a <;> first | exact q.elim | exact ⟨_, rfl, q _ H α Ext.refl s .int⟩
theorem calB_max : CalS L (fun xs H Q => ∃ i j, xs = [.int i, .int j] ∧ Q (.int (if j > i then j else i)) H) bMax := by
  intro W H α β σ σd m vs ds Q s r q
  cases r with
  | nil => exact q.elim
  | cons a r =>
    cases r with
    | nil => cases a <;> exact q.elim
    | cons b r =>
      cases r with
      | cons c r => cases a <;> first | exact q.elim | (cases b <;> exact q.elim)
      | nil => cases a <;> first | exact q.elim | (cases b <;> first | exact q.elim | exact ⟨_, _, rfl, q _ H α Ext.refl s .int⟩)
theorem calB_list : CalS L (fun xs H Q => ∃ p ys, xs = [.ref p] ∧ (SqL L.K H p ys ∨ SqT L.K H p ys) ∧ ∀ l, H l = none → Q (.ref l) (upd H l (.lst ys))) bList := by
  intro W H α β σ σd m vs ds Q s r q
  have key : ∀ {v : V} {ds : List D}, (Rv L.K H α β v (.lst ds) ∨ Rv L.K H α β v (.tup ds) ∨ Rv L.K H α β v (.lck ds)) → PostR L W (relV L) σ σd H α β Q (.ok (.lst ds) m) → ∃ p ys, [v] = [V.ref p] ∧ (SqL L.K H p ys ∨ SqT L.K H p ys) ∧ ∀ l, H l = none → Q (.ref l) (upd H l (.lst ys)) := fun h q => by
    obtain ⟨a, vs, rfl, h1, h2⟩ := seq_of h
    refine ⟨a, vs, rfl, h1, fun l hl => ?_⟩
    obtain ⟨h3, h4⟩ := lay_lst s hl h2
    exact q _ _ α (Ext.lay hl) h3 h4
  cases r with
  | nil => exact q.elim
  | cons a r =>
    cases r with
    | cons b r => cases a <;> exact q.elim
    | nil =>
      cases a with
      | lst h r => exact key (.inl (.lst h r)) q
      | tup h r => exact key (.inr (.inl (.tup h r))) q
      | lck h r => exact key (.inr (.inr (.lck h r))) q
      | str => exact q.elim
      | non => exact q.elim
      | bl => exact q.elim
      | int => exact q.elim
      | ins _ _ _ => exact q.elim
      | dct => exact q.elim
      | fn => exact q.elim
theorem calB_all : CalS L (rAll L.K) bAll := by
  intro W H α β σ σd m vs ds Q s r q
  cases r with
  | nil => exact q.elim
  | cons a r =>
    cases r with
    | cons b r => cases a <;> exact q.elim
    | nil =>
      cases a with
      | lst h r =>
        rename_i a vs ds
        cases e : boolsOf ds with
        | none => simp only [bAll, e] at q; exact q.elim
        | some bs =>
          simp only [bAll, e] at q
          exact ⟨a, bs, rfl, by rw [← bools_rep r e]; exact .inl (.inl h), q _ H α Ext.refl s .bl⟩
      | tup h r => exact q.elim
      | lck h r => exact q.elim
      | ins _ _ _ => exact q.elim
      | dct => exact q.elim
      | fn => exact q.elim
      | str => exact q.elim
      | non => exact q.elim
      | bl => exact q.elim
      | int => exact q.elim
end
section
variable {L : Lc} {e : Expr} {es : List Expr} {f : Fn (List D)} {p pos : Pos}
variable (he : ∀ env, starEach (e :: es) env = (false, eval e env) :: starEach es env := by intro _; rfl) (hpl : ∀ env, (backTo pos (starEach es env)).any (·.1) = false := by intro _; rfl)
theorem se_len (hg : Glb L "len") (hm : L.mg "len" = none) (ha : SAs L (e :: es) f) (he : ∀ env, starEach (e :: es) env = (false, eval e env) :: starEach es env := by intro _; rfl) (hpl : ∀ env, (backTo pos (starEach es env)).any (·.1) = false := by intro _; rfl) : SE L (.Call (.Name "len" p) (e :: es) [] pos) (xCalB bLen f) :=
  se_callB (fun W X h => by rw [← h.K]; exact call_len_seq.or call_len_str) calB_len hg hm PySem.boot_len ha (by decide) (by decide) he hpl
theorem se_abs (hg : Glb L "abs") (hm : L.mg "abs" = none) (ha : SAs L (e :: es) f) (he : ∀ env, starEach (e :: es) env = (false, eval e env) :: starEach es env := by intro _; rfl) (hpl : ∀ env, (backTo pos (starEach es env)).any (·.1) = false := by intro _; rfl) : SE L (.Call (.Name "abs" p) (e :: es) [] pos) (xCalB bAbs f) :=
  se_callB (fun W X h => call_abs) calB_abs hg hm (by decide +kernel) ha (by decide) (by decide) he hpl
theorem se_max (hg : Glb L "max") (hm : L.mg "max" = none) (ha : SAs L (e :: es) f) (he : ∀ env, starEach (e :: es) env = (false, eval e env) :: starEach es env := by intro _; rfl) (hpl : ∀ env, (backTo pos (starEach es env)).any (·.1) = false := by intro _; rfl) : SE L (.Call (.Name "max" p) (e :: es) [] pos) (xCalB bMax f) :=
  se_callB (fun W X h => call_max2 h.calm) calB_max hg hm (by decide +kernel) ha (by decide) (by decide) he hpl
theorem se_all (hg : Glb L "all") (hm : L.mg "all" = none) (ha : SAs L (e :: es) f) (he : ∀ env, starEach (e :: es) env = (false, eval e env) :: starEach es env := by intro _; rfl) (hpl : ∀ env, (backTo pos (starEach es env)).any (·.1) = false := by intro _; rfl) : SE L (.Call (.Name "all" p) (e :: es) [] pos) (xCalB bAll f) :=
  se_callB (fun W X h => by rw [← h.K]; exact cr_all h.calm) calB_all hg hm (by decide +kernel) ha (by decide) (by decide) he hpl
theorem se_list (hg : Glb L "list") (hm : L.mg "list" = none) (ha : SAs L (e :: es) f) (he : ∀ env, starEach (e :: es) env = (false, eval e env) :: starEach es env := by intro _; rfl) (hpl : ∀ env, (backTo pos (starEach es env)).any (·.1) = false := by intro _; rfl) : SE L (.Call (.Name "list" p) (e :: es) [] pos) (xCalB bList f) :=
  se_callTy (fun W X h => by rw [← h.K]; exact call_list_of) calB_list hg hm (by decide +kernel) ha (by decide) (by decide) he hpl
end
/-! ## slices -/
def cutL {κ : Type} (xs : List κ) (lo hi : Option Int) : List κ := (xs.drop (HT.sIx xs.length 0 lo)).take (HT.sIx xs.length xs.length hi - HT.sIx xs.length 0 lo)
theorem cut_rep {K : KK} {G : Hp} {α : List Addr} {vs : List V} {ds : List D} (r : Reps K G α vs ds) (lo hi : Option Int) : Reps K G α (cutV vs lo hi) (cutL ds lo hi) := by
  unfold cutV cutL
  rw [r.length]
  exact (r.drop _).take _
def oSl (x : D) (lo hi : Option Int) (m : Ms) : R D := match x with
  | .lst ds => .ok (.lst (cutL ds lo hi)) m
  | .lck ds => .ok (.lst (cutL ds lo hi)) m
  | .tup ds => .ok (.tup (cutL ds lo hi)) m
  | .str z => if z.length ≤ 100000 then .ok (.str (cutS z lo hi)) m else .bad
  | _ => .bad
def xNoP : Fn (Option Int) := fun _ m => .ok none m
def xPart (f : Fn D) : Fn (Option Int) := fun σ m => (f σ m).bind fun d m1 => match d with
  | .int i => .ok (some i) m1
  | _ => .bad
def xSl (a : Fn D) (lo hi : Fn (Option Int)) : Fn D := fun σ m => (a σ m).bind fun x m1 => (lo σ m1).bind fun l m2 => (hi σ m2).bind fun u m3 => oSl (dr m3 x) l u m3
def SO (L : Lc) (e : Option Expr) (f : Fn (Option Int)) : Prop := ∀ W X, Ok L W X → PO X e (tS L W relB f)
theorem POi {X : Cx} {e : Option Expr} {t t' : TO} (h : PO X e t) (k : ∀ σ H Q, t' σ H Q → t σ H Q) : PO X e t' := ⟨fun pins s σ H Q I q => h.run pins s σ H Q I (k _ _ _ q)⟩
section
variable {L : Lc}
theorem so_none : SO L none xNoP := fun W X h => POi po_none fun σ H Q ⟨α, β, σd, m, s, q⟩ => q none H α Ext.refl s rfl
theorem so_some {e : Expr} {f : Fn D} (he : SE L e f) : SO L (some e) (xPart f) := fun W X h => POi (po_some (he W X h)) fun σ H Q ⟨α, β, σd, m, s, q⟩ => ⟨α, β, σd, m, s, q.mp (rel' := relV L) fun d m1 v H1 α1 e1 s1 r1 q => by
  cases r1 <;> first | exact q.elim | exact ⟨_, rfl, q _ H1 α1 Ext.refl s1 rfl⟩⟩
theorem sl_any {X : Cx} : SlR X (fun x lo hi H Q => rSlL X.K x lo hi H Q ∨ (rSlA X.K x lo hi H Q ∨ rSlS x lo hi H Q)) := sl_list.or (sl_tupA.or sl_str)
theorem se_slice {e : Expr} {lo hi : Option Expr} {f : Fn D} {fl fh : Fn (Option Int)} {p2 pos : Pos} (he : SE L e f) (hl : SO L lo fl) (hh : SO L hi fh) : SE L (.Subscript e (.Slice lo hi none p2) pos) (xSl f fl fh) := fun W X h =>
  PEi (pe_slice sl_any (he W X h) (hl W X h) (hh W X h)) fun σ H Q ⟨α, β, σd, m, s, q⟩ => by
  refine ⟨α, β, σd, m, s, q.mp fun d m1 v H1 α1 e1 s1 r1 q => ⟨α1, β, σd, m1, s1, q.mp (rel' := relB) fun l m2 l' H2 α2 e2 s2 r2 q => ⟨α2, β, σd, m2, s2, q.mp (rel' := relB) fun u m3 u' H3 α3 e3 s3 r3 q => ?_⟩⟩⟩
  obtain rfl : l' = l := r2
  obtain rfl : u' = u := r3
  have rv := Rv.of s3.cr (r1.ext (e2.trans e3))
  rw [h.K]
  generalize dr m3 d = d' at rv q
  cases rv with
  | lst hh r =>
    refine .inl ⟨_, _, rfl, .inl (.inl hh), fun p hp => ?_⟩
    obtain ⟨h3, h4⟩ := lay_lst s3 hp (cut_rep r l' u')
    exact q _ _ _ (Ext.lay hp) h3 h4
  | lck hh r =>
    refine .inl ⟨_, _, rfl, hh, fun p hp => ?_⟩
    obtain ⟨h3, h4⟩ := lay_lst s3 hp (cut_rep r l' u')
    exact q _ _ _ (Ext.lay hp) h3 h4
  | tup hh r =>
    rename_i a vs ds
    refine .inr (.inl ⟨_, _, rfl, sqt_mono hid_sub hh, fun z => ?_, fun _ p hp => ?_⟩)
    · have hc : cutL ds l' u' = ds := by
        unfold cutL
        rw [r.length] at z
        rw [z.1, z.2]
        simp
      have q' : ∀ v H1 α1, Ext H3 α3 H1 α1 → SR L.K H1 α1 β σ σd m3 → Rp L.K H1 α1 β v (.tup (cutL ds l' u')) → Q v H1 := q
      rw [hc] at q'
      exact q' _ H3 α3 Ext.refl s3 (.tup hh r)
    · obtain ⟨h3, h4⟩ := lay_tup s3 hp (cut_rep r l' u')
      exact q _ _ _ (Ext.lay hp) h3 h4
  | str =>
    obtain ⟨hz, q⟩ := if_elim q
    exact .inr (.inr ⟨_, rfl, Evl.sz_of hz, q _ H3 α3 Ext.refl s3 .str⟩)
  | non => exact q.elim
  | bl => exact q.elim
  | int => exact q.elim
  | ins _ _ _ => exact q.elim
  | dct => exact q.elim
  | fn => exact q.elim
end
end CT
namespace CT
open PySem L2
/-! ## what is walked -/
section
variable {X : Cx} {tg : Expr}
/-- a list, a tuple or a text: by what the value is -/
def iAny (K : PySem.W.Frag) (tl : TE) : TI := fun σ H R => tl σ H fun x H1 =>
  (∃ a xs, x = .ref a ∧ SqL K H1 a xs ∧ R (Itl K a) H1) ∨ (∃ a xs, x = .ref a ∧ SqT K H1 a xs ∧ R (Itt K a) H1) ∨ ∃ z, x = .str z ∧ R (Its z) H1
theorem pi_any {l : Expr} {tl : TE} (hl : PE X l tl) : PI X tg l (iAny X.K tl) := by
  constructor
  intro pins s σ H R I h
  refine thn (hl.run pins s σ H _ I h) ?_
  rintro v s1 ⟨x, H1, I1, r1, q⟩
  rcases q with ⟨a, xs, rfl, hq, q⟩ | ⟨a, xs, rfl, hq, q⟩ | ⟨z, rfl, q⟩
  · cases r1
    obtain ⟨its, _, p, _⟩ := I1.list hq
    refine wpAny_pyIter_list p.isList (pi_one (tk := s1.toks) I1 _ (turn_list a _) ?_ q)
    exact ⟨_, Heap.get?_push_size _ rfl, rfl, rfl⟩
  · cases r1
    obtain ⟨its, _, p, _⟩ := I1.tuple hq
    have p' : s1.heap.IsTuple a its.toArray := p
    refine wpAny_pyIter_tuple p' (pi_one (tk := s1.toks) I1 _ (turn_tuple a _) ?_ q)
    exact ⟨_, Heap.get?_push_size _ rfl, rfl, rfl⟩
  · obtain ⟨t, rfl⟩ := r1
    cases ha : z.cps.all (· < 128) with
    | false =>
      refine wpAny_pyIter_wide ha (pi_one (tk := s1.toks) I1 _ (turn_str _ z t "str_iterator" (.inr rfl)) ?_ q)
      exact ⟨_, Heap.get?_push_size _ rfl, rfl, rfl⟩
    | true =>
      refine wpAny_pyIter_ascii ha (pi_one (tk := s1.toks) I1 _ (turn_str _ z t "str_ascii_iterator" (.inl rfl)) ?_ q)
      exact ⟨_, Heap.get?_push_size _ rfl, rfl, rfl⟩
end
def charsD (z : Str) : List D := z.cps.toList.map fun c => .str ⟨#[c]⟩
theorem itd_str {L : Lc} {H : Hp} {α β : List Addr} {z : Str} : ItD L H α β (charsD z) (Its z) := fun H1 α1 β1 m1 x c => by
  refine ⟨by simp [charsD, Its], fun i d e => ?_⟩
  unfold charsD at e
  rw [List.getElem?_map] at e
  cases q : z.cps.toList[i]? with
  | none => rw [q] at e; cases e
  | some cc =>
    rw [q] at e
    cases e
    have hi : i < z.cps.size := by have := (List.getElem?_eq_some_iff.mp q).1; simpa using this
    refine ⟨hi, fun y H2 w => ?_⟩
    obtain ⟨rfl, c2, h2, rfl⟩ := w
    have : c2 = cc := by
      rw [Array.getElem?_toList] at q
      rw [h2] at q
      exact Option.some.inj q
    subst this
    exact ⟨Ext.refl, c, .str⟩
def xIt (f : Fn D) : Fn (List D) := fun σ m => (f σ m).bind fun d m1 => match d with
  | .lst ds => .ok ds m1
  | .tup ds => .ok ds m1
  | .lck ds => .ok ds m1
  | .str z => .ok (charsD z) m1
  | _ => .bad
theorem itd_lck {L : Lc} {H : Hp} {α β : List Addr} {a : Addr} {vs : List V} {ds : List D} (h : SqL L.K (hid H (α ++ β)) a vs) (r : Rps L.K H α β vs ds) : ItD L H α β ds (Itl L.K a) := fun H1 α1 β1 m1 x c => by
  have hs : SqL L.K H1 a vs := sql_mono hid_sub (sql_mono x.h h)
  refine ⟨⟨vs, hs, by rw [r.length]; exact Nat.le_refl _⟩, fun i d e => ?_⟩
  obtain ⟨v, h1, h2⟩ := r.get e
  refine ⟨⟨vs, v, hs, h1⟩, fun y H2 z => ?_⟩
  obtain ⟨rfl, z⟩ := z
  have := z vs hs
  rw [h1] at this
  cases this
  exact ⟨Ext.refl, c, x.rep h2⟩
section
variable {L : Lc} {tg : Expr}
theorem si_any {e : Expr} {f : Fn D} (he : SE L e f) : SI L tg e (xIt f) := fun W X h => PIi (pi_any (he W X h)) fun σ H R ⟨α, β, σd, m, s, q⟩ => by
  refine ⟨α, β, σd, m, s, q.mp fun d m1 v H1 α1 e1 s1 r1 q => ?_⟩
  rw [h.K]
  cases r1 with
  | lst hh r => exact .inl ⟨_, _, rfl, .inl (.inl (hid_of hh).1), q _ H1 α1 Ext.refl s1 (itd_list hh r)⟩
  | lck hh r => exact .inl ⟨_, _, rfl, sql_mono hid_sub hh, q _ H1 α1 Ext.refl s1 (itd_lck hh r)⟩
  | tup hh r => exact .inr (.inl ⟨_, _, rfl, sqt_mono hid_sub hh, q _ H1 α1 Ext.refl s1 (itd_tup hh r)⟩)
  | str => exact .inr (.inr ⟨_, rfl, q _ H1 α1 Ext.refl s1 itd_str⟩)
  | non => exact q.elim
  | bl => exact q.elim
  | int => exact q.elim
  | cel _ => exact q.elim
  | ins _ _ _ => exact q.elim
  | dct => exact q.elim
  | fn => exact q.elim
  | tpl => exact q.elim
/-- range(n), range(a, b): not so long -/
def xRng1 (f : Fn D) : Fn (List D) := fun σ m => (f σ m).bind fun d m1 => match d with
  | .int j => if -100000 ≤ j ∧ j ≤ 100000 then .ok (rngD 0 j.toNat) m1 else .bad
  | _ => .bad
theorem if_elimI {W : WX} {σ : St} {σd : Sd} {H : Hp} {α β : List Addr} {υ δ : Type} {rel : Hp → List Addr → List Addr → υ → δ → Prop} {Q : υ → Hp → Prop} {c : Prop} [Decidable c] {r : R δ} (h : PostR L W rel σ σd H α β Q (if c then r else .bad)) : c ∧ PostR L W rel σ σd H α β Q r := by
  split at h
  · exact ⟨by assumption, h⟩
  · exact h.elim
theorem si_rng1 {a : Expr} {f : Fn D} {p pos : Pos} (hg : Glb L "range") (hm : L.mg "range" = none) (ha : SE L a f) (hs : ∀ env, starEach [a] env = (false, eval a env) :: starEach [] env := by intro _; rfl) : SI L tg (.Call (.Name "range" p) [a] [] pos) (xRng1 f) := fun W X h =>
  PIi (pi_range1 (by unfold Gl Env.kindOf; rw [h.sc]; exact hg) (by rw [h.mg]; exact hm) (pa_cons (ha W X h) pa_nil (hs _)) (hs _)) fun σ H R ⟨α, β, σd, m, s, q⟩ => by
  refine ⟨α, β, σd, m, s, q.mp (rel' := relV L) fun d m1 v H1 α1 e1 s1 r1 q => ?_⟩
  cases r1 with
  | int =>
    obtain ⟨⟨z1, z2⟩, q⟩ := if_elimI q
    exact ⟨_, rfl, by omega, by omega, q _ H1 α1 Ext.refl s1 itd_rng⟩
  | non => exact q.elim
  | bl => exact q.elim
  | str => exact q.elim
  | tup _ _ => exact q.elim
  | lst _ _ => exact q.elim
  | cel _ => exact q.elim
  | lck _ _ => exact q.elim
  | ins _ _ _ => exact q.elim
  | dct => exact q.elim
  | fn => exact q.elim
  | tpl => exact q.elim
def enumD : Nat → List D → List D
  | _, [] => []
  | i, d :: ds => .tup [.int (i : Nat), d] :: enumD (i + 1) ds
def xEnum (f : Fn D) : Fn (List D) := fun σ m => (f σ m).bind fun d m1 => match d with
  | .lst ds => .ok (enumD 0 ds) m1
  | .lck ds => .ok (enumD 0 ds) m1
  | _ => .bad
end
/-! ## isinstance -/
def tyN : D → String
  | .non => "NoneType"
  | .bl _ => "bool"
  | .int _ => "int"
  | .str _ => "str"
  | .tup _ => "tuple"
  | .lst _ => "list"
  | .lck _ => "list"
  | .cel _ => "list"
  | .ins _ _ _ => "object"
  | .dct _ _ => "dict"
  | .fn _ => "function"
  | .tpl _ => "tuple"
def tyI (a T : String) : Bool := a == T || (a == "bool" && T == "int")
def tyNs : List String := ["NoneType", "bool", "int", "str", "tuple", "list"]
theorem kit_tab : ∀ a ∈ tyNs, ∀ T ∈ tyNs.tail, kitB a T = some (tyI a T) := by decide +kernel
def noI : D → Bool
  | .ins _ _ _ => false
  | .dct _ _ => false
  | .fn _ => false
  | _ => true
theorem tyN_mem (d : D) (h : noI d = true) : tyN d ∈ tyNs := by cases d <;> first | (cases h; done) | simp [tyN, tyNs]
def isK (T : String) (d : D) : Bool := tyI (tyN d) T
theorem Rv.ty {K : KK} {H : Hp} {α β : List Addr} {v : V} {d : D} (r : Rv K H α β v d) (hI : noI d = true) : TyX K H v (.type (tyN d)) := by
  cases r with
  | ins _ _ _ => cases hI
  | dct => cases hI
  | fn => cases hI
  | non => exact .base .non
  | bl => exact .base (.bl _)
  | int => exact .base (.int _)
  | str => exact .base (.str _)
  | tup h r =>
    rcases sqt_mono hid_sub h with (h | ⟨o, h⟩) | ⟨o, its, n, h1, h2, h3, _⟩
    · exact .base (.tup h)
    · exact .fTuple h
    · exact .kTuple h1 h2
  | lst h r => exact .base (.lst h)
  | lck h r =>
    rcases h with (h | ⟨o, h⟩) | ⟨o, its, n, h1, h2, _, h3, _⟩
    · exact .base (.lst h)
    · exact .base (.frz h)
    · exact .kList h1 h2
def xIsi (T : String) (f : Fn D) : Fn D := fun σ m => (f σ m).bind fun d m1 => if noI (dr m1 d) = true then .ok (.bl (isK T (dr m1 d))) m1 else .bad
/-- two kinds asked at once -/
def xIsi2 (T U : String) (f : Fn D) : Fn D := fun σ m => (f σ m).bind fun d m1 => if noI (dr m1 d) = true then .ok (.bl (isK T (dr m1 d) || isK U (dr m1 d))) m1 else .bad
section
variable {L : Lc}
theorem se_isi {e : Expr} {f : Fn D} {T : Str} {Ts : String} {p p2 pos : Pos} (hg : Glb L "isinstance") (hm : L.mg "isinstance" = none) (hgT : Glb L T) (hmT : L.mg T = none) (hv : bootBuiltins T = some (.type Ts)) (hT : Ts ∈ tyNs.tail) (he : SE L e f) (hn : T ≠ "__name__" := by decide) (hdb : (T == ("__debug__" : Str)) = false := by decide)
    (hs : ∀ env, starEach [e, .Name T p2] env = (false, eval e env) :: starEach [.Name T p2] env := by intro _; rfl) : SE L (.Call (.Name "isinstance" p) [e, .Name T p2] [] pos) (xIsi Ts f) := fun W X h => by
  have ht : PE X (.Name T p2) (tC (.ty Ts)) := pe_bltn (by unfold Gl Env.kindOf; rw [h.sc]; exact hgT) (by rw [h.mg]; exact hmT) hv rfl hn hdb
  refine PEi (pe_callB call_isi (by unfold Gl Env.kindOf; rw [h.sc]; exact hg) (by rw [h.mg]; exact hm) PyProof.Rows.boot_isinstance (pa_cons (he W X h) (pa_cons ht pa_nil) (hs _)) (by decide) (by decide) (hs _)) fun σ H Q ⟨α, β, σd, m, s, q⟩ => ?_
  refine ⟨α, β, σd, m, s, q.mp fun d m1 v H1 α1 e1 s1 r1 q => ?_⟩
  rw [h.K]
  obtain ⟨hI, q⟩ := if_elim q
  exact ⟨v, .ty Ts, _, _, _, rfl, .ty Ts, (Rv.of s1.cr r1).ty hI, kit_ty (kit_tab _ (tyN_mem _ hI) _ hT), q _ H1 α1 Ext.refl s1 .bl⟩
theorem se_isi2 {e : Expr} {f : Fn D} {T U : Str} {Ts Us : String} {p p2 p3 p4 pos : Pos} {kk} (hg : Glb L "isinstance") (hm : L.mg "isinstance" = none) (hgT : Glb L T) (hmT : L.mg T = none) (hv : bootBuiltins T = some (.type Ts)) (hT : Ts ∈ tyNs.tail) (hgU : Glb L U) (hmU : L.mg U = none) (hvU : bootBuiltins U = some (.type Us)) (hU : Us ∈ tyNs.tail) (he : SE L e f)
    (hn : T ≠ "__name__" := by decide) (hdb : (T == ("__debug__" : Str)) = false := by decide) (hnU : U ≠ "__name__" := by decide) (hdbU : (U == ("__debug__" : Str)) = false := by decide)
    (hs : ∀ env, starEach [e, .Tuple [.Name T p2, .Name U p3] kk p4] env = (false, eval e env) :: starEach [.Tuple [.Name T p2, .Name U p3] kk p4] env := by intro _; rfl) : SE L (.Call (.Name "isinstance" p) [e, .Tuple [.Name T p2, .Name U p3] kk p4] [] pos) (xIsi2 Ts Us f) := fun W X h => by
  have ht : PE X (.Name T p2) (tC (.ty Ts)) := pe_bltn (by unfold Gl Env.kindOf; rw [h.sc]; exact hgT) (by rw [h.mg]; exact hmT) hv rfl hn hdb
  have hu : PE X (.Name U p3) (tC (.ty Us)) := pe_bltn (by unfold Gl Env.kindOf; rw [h.sc]; exact hgU) (by rw [h.mg]; exact hmU) hvU rfl hnU hdbU
  refine PEi (pe_callB call_isiT (by unfold Gl Env.kindOf; rw [h.sc]; exact hg) (by rw [h.mg]; exact hm) PyProof.Rows.boot_isinstance (pa_cons (he W X h) (pa_cons (pe_tup (pa_cons ht (pa_cons hu pa_nil))) pa_nil) (hs _)) (by decide) (by decide) (hs _)) fun σ H Q ⟨α, β, σd, m, s, q⟩ => ?_
  refine ⟨α, β, σd, m, s, q.mp fun d m1 v H1 α1 e1 s1 r1 q => ?_⟩
  rw [h.K]
  obtain ⟨hI, q⟩ := if_elim q
  refine ⟨Evl.sz_of (show 2 ≤ 100000 from by decide), fun t ht' => ?_⟩
  have s2 := s1.ext' (Ext.lay ht') (s1.cr.lay (o := .tup [.ty Ts, .ty Us]) ht')
  have r2 := Rv.of s2.cr (r1.ext (Ext.lay ht'))
  refine ⟨v, t, _, _, _, _, rfl, upd_same, .cons (.ty Ts) (.cons (.ty Us) .nil), r2.ty hI, ?_, q _ _ α1 (Ext.lay ht') s2 .bl⟩
  refine kitAny_cons (kit_ty (kit_tab _ (tyN_mem _ hI) _ hT)) (fun z => ?_) (fun z => ?_)
  · refine kitAny_cons (kit_ty (kit_tab _ (tyN_mem _ hI) _ hU)) (fun z2 => ?_) (fun z2 => ?_)
    · show PySem.W.kitAny L.K _ [] = some (isK Ts (dr m1 d) || isK Us (dr m1 d))
      have z' : isK Ts (dr m1 d) = false := z
      have z2' : isK Us (dr m1 d) = false := z2
      rw [z', z2']
      exact kitAny_nil
    · have z2' : isK Us (dr m1 d) = true := z2
      rw [z2', Bool.or_true]
  · have z' : isK Ts (dr m1 d) = true := z
    rw [z', Bool.true_or]
end
end CT
namespace CT
open PySem L2
/-! ## how a call binds -/
/-- where a parameter's value comes from: a positional value, a default, a keyword -/
inductive Src where
  | p (i : Nat) | d (i : Nat) | k (i : Nat)
def Src.get {κ : Type} (us ds ws : List κ) : Src → Option κ
  | .p i => us[i]?
  | .d i => ds[i]?
  | .k i => ws[i]?
def Src.ok (n nd nk : Nat) : Src → Bool
  | .p i => decide (i < n)
  | .d i => decide (i < nd)
  | .k i => decide (i < nk)
def sel {κ : Type} (spec : List Src) (us ds ws : List κ) : List κ := spec.filterMap (Src.get us ds ws)
theorem Src.get_ok {κ : Type} {us ds ws : List κ} {s : Src} (h : s.ok us.length ds.length ws.length = true) : ∃ x, s.get us ds ws = some x := by
  cases s with
  | p i => have : i < us.length := by simpa [Src.ok] using h
           exact ⟨_, List.getElem?_eq_getElem this⟩
  | d i => have : i < ds.length := by simpa [Src.ok] using h
           exact ⟨_, List.getElem?_eq_getElem this⟩
  | k i => have : i < ws.length := by simpa [Src.ok] using h
           exact ⟨_, List.getElem?_eq_getElem this⟩
theorem sel_length {κ : Type} {us ds ws : List κ} : ∀ {spec : List Src}, spec.all (Src.ok us.length ds.length ws.length) = true → (sel spec us ds ws).length = spec.length
  | [], _ => rfl
  | s :: r, h => by
    rw [List.all_cons, Bool.and_eq_true] at h
    obtain ⟨x, e⟩ := Src.get_ok h.1
    have ih := sel_length h.2
    unfold sel at ih ⊢
    rw [List.filterMap_cons, e]
    simp only [List.length_cons, ih]
theorem sel_vals {us ds ws : List V} {us' ds' ws' : List Value} (h1 : Vals us us') (h2 : Vals ds ds') (h3 : Vals ws ws') : ∀ {spec : List Src}, spec.all (Src.ok us.length ds.length ws.length) = true → Vals (sel spec us ds ws) (sel spec us' ds' ws')
  | [], _ => .nil
  | s :: r, h => by
    rw [List.all_cons, Bool.and_eq_true] at h
    obtain ⟨x, e⟩ := Src.get_ok h.1
    have ih := sel_vals h1 h2 h3 h.2
    unfold sel at ih ⊢
    obtain ⟨y, e2, r2⟩ : ∃ y, s.get us' ds' ws' = some y ∧ RelV x y := by
      cases s with
      | p i => exact Vals.get h1 e
      | d i => exact Vals.get h2 e
      | k i => exact Vals.get h3 e
    rw [List.filterMap_cons, List.filterMap_cons, e, e2]
    exact .cons r2 ih
theorem sel_reps {K : KK} {G : Hp} {α : List Addr} {us ds ws : List V} {us' ds' ws' : List D} (h1 : Reps K G α us us') (h2 : Reps K G α ds ds') (h3 : Reps K G α ws ws') : ∀ {spec : List Src}, spec.all (Src.ok us.length ds.length ws.length) = true → Reps K G α (sel spec us ds ws) (sel spec us' ds' ws')
  | [], _ => .nil
  | s :: r, h => by
    rw [List.all_cons, Bool.and_eq_true] at h
    obtain ⟨x, e⟩ := Src.get_ok h.1
    have ih := sel_reps h1 h2 h3 h.2
    unfold sel at ih ⊢
    obtain ⟨y, e2, r2⟩ : ∃ y, s.get us' ds' ws' = some y ∧ Rep K G α x y := by
      cases s with
      | p i => exact Reps.getv h1 e
      | d i => exact Reps.getv h2 e
      | k i => exact Reps.getv h3 e
    rw [List.filterMap_cons, List.filterMap_cons, e, e2]
    exact .cons r2 ih
/-- n positional values, keywords named ks: bound to the parameters ps, in this way -/
structure KB (L : Lc) (fd : FuncData) (ps : List Str) (n : Nat) (ks : List Str) (gD : List D → List D → List D) : Prop where
  ex : ∃ (g : List Value → List Value → List Value) (gV : List V → List V → List V),
    (∀ (s : Shared) (us ws : List Value), L.K.K.In s.heap → us.length = n → ws.length = ks.length → BindsTo s fd ⟨us, ks.zip ws⟩ (ps.zip (g us ws))) ∧
    (∀ vs us zs ws, Vals vs us → Vals zs ws → vs.length = n → zs.length = ks.length → Vals (gV vs zs) (g us ws)) ∧
    (∀ H α β vs ds zs es, Rps L.K H α β vs ds → Rps L.K H α β zs es → vs.length = n → zs.length = ks.length → Rps L.K H α β (gV vs zs) (gD ds es) ∧ (gD ds es).length = ps.length)
section
variable {L : Lc} {x qual : Str} {params : Arguments} {body : List Stmt} {scope : Scope} {f : Addr} {fd : FuncData} {ps ks : List Str} {n : Nat} {spec : List Src} {dvs : List V} {kws : List (Str × V)}
theorem kb_plain (F : FunD L.K x qual params body scope [] kws f fd) (hs : spec.all (Src.ok n 0 ks.length) = true) (hl : spec.length = ps.length)
    (h : ∀ (kV doc pm : Value) (an : Option Addr) (cdv ct : Value) (us ws : List Value), us.length = n → ws.length = ks.length → bindArgs (PySem.W.fnOf x qual params body scope .none kV doc pm an cdv ct) ⟨us, ks.zip ws⟩ = pure (ps.zip (sel spec us [] ws))) :
    KB L fd ps n ks (fun ds es => sel spec ds [] es) := by
  obtain ⟨oc, od, dV, kV, doc, pm, an, cdv, ct, osl, rfl, lk, hcd, hD, hK⟩ := F.ex
  rcases hD with ⟨_, rfl⟩ | ⟨e, _⟩
  · refine ⟨fun us ws => sel spec us [] ws, fun vs zs => sel spec vs [] zs, fun s us ws _ l1 l2 => .of_eq (h kV doc pm an cdv ct us ws l1 l2), fun vs us zs ws r1 r2 l1 l2 => sel_vals r1 .nil r2 (by rw [l1, l2]; exact hs), fun H α β vs ds zs es r1 r2 l1 l2 => ⟨sel_reps r1 .nil r2 (by rw [l1, l2]; exact hs), ?_⟩⟩
    rw [sel_length (by rw [← r1.length, ← r2.length, l1, l2]; exact hs), hl]
  · exact absurd rfl e
/-- data of defaults -/
def DfD (L : Lc) (dvs : List V) (dds : List D) : Prop := ∀ H α β, Rps L.K H α β dvs dds
theorem kb_dfl {dds : List D} (F : FunD L.K x qual params body scope dvs kws f fd) (hd : dvs ≠ []) (hdd : DfD L dvs dds) (hs : spec.all (Src.ok n dvs.length ks.length) = true) (hl : spec.length = ps.length)
    (h : ∀ (T : Addr) (kV doc pm : Value) (an : Option Addr) (cdv ct : Value) (us its ws : List Value), us.length = n → its.length = dvs.length → ws.length = ks.length →
      ∃ k, bindArgs (PySem.W.fnOf x qual params body scope (.ref T) kV doc pm an cdv ct) ⟨us, ks.zip ws⟩ = seqItems? (.ref T) >>= k ∧ k (some its.toArray) = pure (ps.zip (sel spec us its ws))) :
    KB L fd ps n ks (fun ds es => sel spec ds dds es) := by
  obtain ⟨oc, od, dV, kV, doc, pm, an, cdv, ct, osl, rfl, lk, hcd, hD, hK⟩ := F.ex
  rcases hD with ⟨e, _⟩ | ⟨_, T, o, its, m, rfl, lT, oT, rT⟩
  · exact absurd e hd
  · refine ⟨fun us ws => sel spec us its ws, fun vs zs => sel spec vs dvs zs, fun s us ws X l1 l2 => ?_, fun vs us zs ws r1 r2 l1 l2 => sel_vals r1 rT r2 (by rw [l1, l2]; exact hs), fun H α β vs ds zs es r1 r2 l1 l2 => ⟨sel_reps r1 (hdd H α β) r2 (by rw [l1, l2]; exact hs), ?_⟩⟩
    · obtain ⟨k, e1, e2⟩ := h T kV doc pm an cdv ct us its ws l1 rT.length.symm l2
      refine BindsTo.of_looks fun M => ?_
      rw [e1]
      exact looks_items X lT oT (.of_pure e2)
    · rw [sel_length (by rw [← r1.length, ← r2.length, ← (hdd H α β).length, l1, l2]; exact hs), hl]
end
/-! ## the call -/
section
variable {L : Lc} {x : Str} {ps ks : List Str} {k n : Nat} {g : List D → List D → List D} {gS : List D → Ms → R D} {f : Addr} {fd : FuncData} {p pos : Pos}
/-- a def of the program: where it is, what it does -/
structure FnR (L : Lc) (x : Str) (ps : List Str) (k : Nat) (gS : List D → Ms → R D) (f : Addr) (fd : FuncData) : Prop where
  m : L.mg x = some (.ref f)
  kp : PySem.W.keepIn L.K (.ref f) = true
  ok : FnOk L.P L.w L.K L.mg L.base (L2.CX L.P L.w) k f fd ps (spOf L ps.length gS)
theorem run_kb {W : WX} {X : Cx} (h : Ok L W X) (F : FnR L x ps k gS f fd) (hk : k ≤ L.k) (B : KB L fd ps n ks g) {pins : List (Addr × Obj)} {σ : St} {H : Hp} {s : Shared} {us ws : List Value} {vs zs : List V} {ds es : List D} {α β : List Addr} {σd : Sd} {m : Ms} {Q : VK}
    (I : Inv X pins σ H s) (r : Vals vs us) (rz : Vals zs ws) (l1 : vs.length = n) (l2 : zs.length = ks.length) (sr : SR L.K H α β σ σd m) (rd : Rps L.K H α β vs ds) (re : Rps L.K H α β zs es) (q : PostR L W (relV L) σ σd H α β Q (gS (g ds es) m)) :
    wpAny (model X.prog X.w) X.A (call (.ref f) us (ks.zip ws)) (EP X pins σ Q) X.xe s := by
  obtain ⟨gv, gV, b1, b2, b3⟩ := B.ex
  obtain ⟨b4, b5⟩ := b3 H α β vs ds zs es rd re l1 l2
  have r2 := b2 vs us zs ws r rz l1 l2
  have kin : L.K.K.In s.heap := by rw [← h.K]; exact I.kIn
  have hsp : spOf L ps.length gS (gV vs zs) H Q (WE W σ) := ⟨α, β, m, _, sr.cr, b4, b5, ret_post sr q⟩
  have F' : FnOk X.prog X.w X.K X.mg X.base (L2.CX X.prog X.w) k f fd ps (spOf L ps.length gS) := h.cast (by rw [h.prog, h.w]; exact F.ok)
  refine wpAny_call (codeAny_mono (F'.run X.A X.stack s H ⟨us, ks.zip ws⟩ (gv us ws) (gV vs zs) Q (WE W σ) (h.room.mono hk) I.env0 (b1 s us ws kin (r.length.symm.trans l1) (rz.length.symm.trans l2)) r2 hsp) ?_)
  intro rr s' hq
  cases rr with
  | error e => exact passAt h.tk σ pins H s e s' I hq
  | ok fl =>
    cases fl with
    | ret u => exact I.after hq
    | next => exact hq.elim
    | brk => exact hq.elim
    | cont => exact hq.elim
/-- f(a, .., k = v, ..) -/
def xCal (g : List D → List D → List D) (gS : List D → Ms → R D) (a kw : Fn (List D)) : Fn D := fun σ m => (a σ m).bind fun ds m1 => (kw σ m1).bind fun es m2 => gS (g ds es) m2
theorem se_call {e : Expr} {es : List Expr} {fa : Fn (List D)} (F : FnR L x ps k gS f fd) (hk : k ≤ L.k) (B : KB L fd ps (es.length + 1) [] g) (hg : Glb L x) (ha : SAs L (e :: es) fa)
    (hdb : (x == ("__debug__" : Str)) = false := by decide) (he : ∀ env, starEach (e :: es) env = (false, eval e env) :: starEach es env := by intro _; rfl) (hpl : ∀ env, (backTo pos (starEach es env)).any (·.1) = false := by intro _; rfl) :
    SE L (.Call (.Name x p) (e :: es) [] pos) (xCal g gS fa xNil) := fun W X h => by
  constructor
  intro pins s σ H Q I ⟨α, β, σd, m, sr, q⟩
  refine wpAny_Call_Name_kw (ld_glob I (by unfold Gl Env.kindOf; rw [h.sc]; exact hg) (by rw [h.mg]; exact F.m) ?_ hdb)
  refine PySem.W.callWith_K (h₀ := X.base) I.ok.mod.kin (by rw [h.K]; exact F.kp) ?_ (he _) (hpl _)
  refine thn ((ha W X h).run pos pins s σ H (fun vs H1 => ∃ ds α1 m1, SR L.K H1 α1 β σ σd m1 ∧ Rps L.K H1 α1 β vs ds ∧ vs.length = es.length + 1 ∧ PostR L W (relV L) σ σd H1 α1 β Q (gS (g ds []) m1)) I ⟨α, β, σd, m, sr, ?_⟩) ?_
  · exact q.mp fun ds m1 vs H1 α1 e1 s1 r1 q => ⟨ds, α1, m1, s1, r1.1, r1.2, q⟩
  · rintro us s1 ⟨vs, H1, I1, r, ds, α1, m1, sr1, rd, hl, q1⟩
    exact ⟨I1.kIn, run_kb (zs := []) (ws := []) h F hk B I1 r .nil hl rfl sr1 rd .nil q1⟩
end
end CT
namespace CT
open PySem L2
/-! ## the rules, with their side conditions as checks -/
def Lc.loc (G : Lc) (N : List Str) (sc : Scope) (k : Nat) (fn : Str → Bool) : Lc := { G with N := N, sc := sc, k := k, fn := fn }
def fnAll : Str → Bool := fun _ => true
def fnIn (scope : Scope) : Str → Bool := fun x => scope.names.lookup x == some .cell
def visB (sc : Scope) (x : Str) : Bool := match sc.names.lookup x with
  | some .local => true
  | some .cell => true
  | some .free => true
  | _ => false
def varOk (N : List Str) (sc : Scope) (i : Nat) (x : Str) : Bool := decide (N[i]? = some x) && visB sc x && !(x == ("__debug__" : Str)) && !(x == ("__classdict__" : Str))
def setOk (N : List Str) (sc : Scope) (fn : Str → Bool) (i : Nat) (x : Str) : Bool := decide (N[i]? = some x) && (decide (sc.names.lookup x = some .local) || (decide (sc.names.lookup x = some .cell) && fn x))
def gloOk (sc : Scope) (x : Str) : Bool := decide (sc.names.lookup x = some .globalImplicit) && !(x == ("__debug__" : Str)) && !(x == ("__name__" : Str))
section
variable {G : Lc} {N : List Str} {sc : Scope} {k : Nat} {fn : Str → Bool}
theorem gloOk_g {x : Str} (h : gloOk sc x = true) : sc.names.lookup x = some .globalImplicit ∧ (x == ("__debug__" : Str)) = false ∧ x ≠ ("__name__" : Str) := by
  unfold gloOk at h
  rw [Bool.and_eq_true, Bool.and_eq_true] at h
  refine ⟨of_decide_eq_true h.1.1, by simpa using h.1.2, by simpa using h.2⟩
theorem g_var {i : Nat} {x : Str} {pos : Pos} (h : varOk N sc i x = true) : SE (G.loc N sc k fn) (.Name x pos) (xVar i) := by
  unfold varOk at h
  simp only [Bool.and_eq_true] at h
  obtain ⟨⟨⟨h1, h2⟩, h3⟩, h4⟩ := h
  refine se_var (of_decide_eq_true h1) ?_ (by simpa using h3) (by simpa using h4)
  unfold visB at h2
  show sc.names.lookup x = some .local ∨ sc.names.lookup x = some .cell ∨ sc.names.lookup x = some .free
  split at h2 <;> first | exact .inl (by assumption) | exact .inr (.inl (by assumption)) | exact .inr (.inr (by assumption)) | cases h2
theorem Gcon.to {x : Str} {d : D} (c : Gcon G x d) : Gcon (G.loc N sc k fn) x d := c
theorem g_con {x : Str} {d : D} {pos : Pos} (c : Gcon G x d) (h : gloOk sc x = true) : SE (G.loc N sc k fn) (.Name x pos) (xVal d) := se_con (gloOk_g h).1 c.to (gloOk_g h).2.1
theorem setOk_s {i : Nat} {x : Str} (h : setOk N sc fn i x = true) : N[i]? = some x ∧ (sc.names.lookup x = some .local ∨ (sc.names.lookup x = some .cell ∧ fn x = true)) := by
  unfold setOk at h
  rw [Bool.and_eq_true, Bool.or_eq_true, Bool.and_eq_true] at h
  refine ⟨of_decide_eq_true h.1, ?_⟩
  rcases h.2 with z | ⟨z1, z2⟩
  · exact .inl (of_decide_eq_true z)
  · exact .inr ⟨of_decide_eq_true z1, z2⟩
theorem gt_name {i : Nat} {x : Str} {pos : Pos} (nd : N.Nodup) (h : setOk N sc fn i x = true) : SG (G.loc N sc k fn) [i] (.Name x pos) (gN i) := sg_name nd (setOk_s h).1 (setOk_s h).2
theorem g_set {i : Nat} {x : Str} {e : Expr} {f : Fn D} {pos' pos : Pos} (nd : N.Nodup) (h : setOk N sc fn i x = true) (he : SE (G.loc N sc k fn) e f) (hs : ∀ env : Env, env.scope = sc → swapsWith e (some (.Name x pos')) pos.line env = pure false := by intro _ _; rfl) :
    SS (G.loc N sc k fn) (.Assign [.Name x pos'] e pos) (xAsg (gN i) f) := s_set nd (setOk_s h).1 (setOk_s h).2 he hs
def parOk (N : List Str) (sc : Scope) (i j : Nat) (x y : Str) : Bool := decide (N[i]? = some x) && decide (N[j]? = some y) && decide (i ≠ j) && decide (sc.names.lookup x = some .local) && decide (sc.names.lookup y = some .local)
theorem g_par {i j : Nat} {x y : Str} {a b : Expr} {fa fb : Fn D} {px py pt : Pos} {kt k2 pt2} {pos : Pos} (nd : N.Nodup) (h : parOk N sc i j x y = true) (ha : SE (G.loc N sc k fn) a fa) (hb : SE (G.loc N sc k fn) b fb)
    (hw : ∀ env : Env, env.scope = sc → swappedStores [.Tuple [.Name x px, .Name y py] kt pt] (.Tuple [a, b] k2 pt2) env = pure (some [x, y]) := by intro env h; cases env; cases h; rfl) (hs : ∀ env, swapsWithSole [.Tuple [.Name x px, .Name y py] kt pt] (.Tuple [a, b] k2 pt2) pos.line env = pure false := by intro _; rfl)
    (hsa : ∀ env, starEach [a, b] env = (false, eval a env) :: starEach [b] env := by intro _; rfl) (hsb : ∀ env, starEach [b] env = (false, eval b env) :: starEach [] env := by intro _; rfl) :
    SS (G.loc N sc k fn) (.Assign [.Tuple [.Name x px, .Name y py] kt pt] (.Tuple [a, b] k2 pt2) pos) (xPar i j fa fb) := by
  unfold parOk at h
  simp only [Bool.and_eq_true] at h
  obtain ⟨⟨⟨⟨h1, h2⟩, h3⟩, h4⟩, h5⟩ := h
  exact s_par nd (of_decide_eq_true h1) (of_decide_eq_true h2) (of_decide_eq_true h3) (of_decide_eq_true h4) (of_decide_eq_true h5) ha hb hw hs hsa hsb
/-- three names at once -/
def xPar3 (i j l : Nat) (a b c : Fn D) : Fo := fun σ m => (a σ m).go σ fun x m1 => (b σ m1).go σ fun y m2 => (c σ m2).go σ fun z m3 => .nx (((σ.set i (some x)).set j (some y)).set l (some z)) m3
def blkOkB (N : List Str) (sc scope : Scope) (own : List (Str × Nat)) (js : List Nat) : Bool := blkC N sc scope own && js.all fun j => (own.map (·.2)).contains j
theorem g_lc {elt tg iter : Expr} {ifs : List Expr} {scope : Scope} {pos : Pos} {fi : Fn (List D)} {g : Fg} {js : List Nat} {fc : Fn Bool} {fe : Fn D} {fin : Ms → List D → R D} (hfin : FinS (G.loc N sc k fn) fin) (own : List (Str × Nat)) (nd : N.Nodup) (ok : blkOkB N sc scope own js = true)
    (hi : SI (G.loc N sc k fn) tg iter fi) (hg : SG (G.loc N (inner scope sc) k (fnIn scope)) js tg g) (hc : SIf (G.loc N (inner scope sc) k (fnIn scope)) ifs fc) (he : SE (G.loc N (inner scope sc) k (fnIn scope)) elt fe)
    (hs : ∀ env x, foldedSetIterable iter env x = pure x := by intro _ _; rfl) : SE (G.loc N sc k fn) (.ListComp elt [⟨tg, iter, ifs, 0⟩] scope pos) (xLcF fin fi g fc fe (own.map (·.2))) := by
  unfold blkOkB at ok
  rw [Bool.and_eq_true] at ok
  refine se_lc hfin nd (blkOk_by ok.1) (fun j hj => ?_) hi hg hc he hs
  have := List.all_eq_true.mp ok.2 j hj
  simpa using this
def lcNameOk (N : List Str) (sc scope : Scope) (i : Nat) (y : Str) : Bool := decide (N[i]? = some y) && decide (sc.names.lookup y = some .local) && decide (sc.kind = .function) && !(scope.names.any fun (n, k) => n == y && (k == .local || k == .cell))
theorem g_setLc {i : Nat} {y : Str} {py : Pos} {elt tg iter : Expr} {ifs : List Expr} {scope : Scope} {pos spos : Pos} {fi : Fn (List D)} {g : Fg} {js : List Nat} {fc : Fn Bool} {fe : Fn D} {fin : Ms → List D → R D} (hfin : FinS (G.loc N sc k fn) fin) (own : List (Str × Nat)) (nd : N.Nodup) (hy : lcNameOk N sc scope i y = true) (ok : blkOkB N sc scope own js = true)
    (hi : SI (G.loc N sc k fn) tg iter fi) (hg : SG (G.loc N (inner scope sc) k (fnIn scope)) js tg g) (hc : SIf (G.loc N (inner scope sc) k (fnIn scope)) ifs fc) (he : SE (G.loc N (inner scope sc) k (fnIn scope)) elt fe)
    (hl : (py.line == pos.line) = true := by rfl) (hs : ∀ env x, foldedSetIterable iter env x = pure x := by intro _ _; rfl) : SS (G.loc N sc k fn) (.Assign [.Name y py] (.ListComp elt [⟨tg, iter, ifs, 0⟩] scope pos) spos) (xAsg (gN i) (xLcF fin fi g fc fe (own.map (·.2)))) := by
  unfold blkOkB at ok
  rw [Bool.and_eq_true] at ok
  unfold lcNameOk at hy
  simp only [Bool.and_eq_true, Bool.not_eq_true'] at hy
  obtain ⟨⟨⟨h1, h2⟩, h3⟩, h4⟩ := hy
  refine s_setLc (i := i) hfin nd (of_decide_eq_true h1) (of_decide_eq_true h2) (fun env he => sw_true (by rw [he]; exact of_decide_eq_true h3) (by rw [he]; exact of_decide_eq_true h2) hl h4) (blkOk_by ok.1) (fun j hj => ?_) hi hg hc he hs
  have := List.all_eq_true.mp ok.2 j hj
  simpa using this
/-! builtins -/
section
variable {e : Expr} {es : List Expr} {f : Fn (List D)} {p pos : Pos}
theorem g_len (h : gloOk sc "len" = true) (hm : G.mg "len" = none) (ha : SAs (G.loc N sc k fn) (e :: es) f) (he : ∀ env, starEach (e :: es) env = (false, eval e env) :: starEach es env := by intro _; rfl) (hpl : ∀ env, (backTo pos (starEach es env)).any (·.1) = false := by intro _; rfl) : SE (G.loc N sc k fn) (.Call (.Name "len" p) (e :: es) [] pos) (xCalB bLen f) := se_len (gloOk_g h).1 hm ha he hpl
theorem g_abs (h : gloOk sc "abs" = true) (hm : G.mg "abs" = none) (ha : SAs (G.loc N sc k fn) (e :: es) f) (he : ∀ env, starEach (e :: es) env = (false, eval e env) :: starEach es env := by intro _; rfl) (hpl : ∀ env, (backTo pos (starEach es env)).any (·.1) = false := by intro _; rfl) : SE (G.loc N sc k fn) (.Call (.Name "abs" p) (e :: es) [] pos) (xCalB bAbs f) := se_abs (gloOk_g h).1 hm ha he hpl
theorem g_max (h : gloOk sc "max" = true) (hm : G.mg "max" = none) (ha : SAs (G.loc N sc k fn) (e :: es) f) (he : ∀ env, starEach (e :: es) env = (false, eval e env) :: starEach es env := by intro _; rfl) (hpl : ∀ env, (backTo pos (starEach es env)).any (·.1) = false := by intro _; rfl) : SE (G.loc N sc k fn) (.Call (.Name "max" p) (e :: es) [] pos) (xCalB bMax f) := se_max (gloOk_g h).1 hm ha he hpl
theorem g_all (h : gloOk sc "all" = true) (hm : G.mg "all" = none) (ha : SAs (G.loc N sc k fn) (e :: es) f) (he : ∀ env, starEach (e :: es) env = (false, eval e env) :: starEach es env := by intro _; rfl) (hpl : ∀ env, (backTo pos (starEach es env)).any (·.1) = false := by intro _; rfl) : SE (G.loc N sc k fn) (.Call (.Name "all" p) (e :: es) [] pos) (xCalB bAll f) := se_all (gloOk_g h).1 hm ha he hpl
theorem g_list (h : gloOk sc "list" = true) (hm : G.mg "list" = none) (ha : SAs (G.loc N sc k fn) (e :: es) f) (he : ∀ env, starEach (e :: es) env = (false, eval e env) :: starEach es env := by intro _; rfl) (hpl : ∀ env, (backTo pos (starEach es env)).any (·.1) = false := by intro _; rfl) : SE (G.loc N sc k fn) (.Call (.Name "list" p) (e :: es) [] pos) (xCalB bList f) := se_list (gloOk_g h).1 hm ha he hpl
end
theorem gi_rng1 {tg a : Expr} {f : Fn D} {p pos : Pos} (h : gloOk sc "range" = true) (hm : G.mg "range" = none) (ha : SE (G.loc N sc k fn) a f) (hs : ∀ env, starEach [a] env = (false, eval a env) :: starEach [] env := by intro _; rfl) : SI (G.loc N sc k fn) tg (.Call (.Name "range" p) [a] [] pos) (xRng1 f) := si_rng1 (gloOk_g h).1 hm ha hs
theorem g_isi {e : Expr} {f : Fn D} {T : Str} {p p2 pos : Pos} (Ts : String) (h : gloOk sc "isinstance" = true) (hm : G.mg "isinstance" = none) (hT : gloOk sc T = true) (hmT : G.mg T = none) (hv : bootBuiltins T = some (.type Ts)) (hk : Ts ∈ tyNs.tail) (he : SE (G.loc N sc k fn) e f)
    (hs : ∀ env, starEach [e, .Name T p2] env = (false, eval e env) :: starEach [.Name T p2] env := by intro _; rfl) : SE (G.loc N sc k fn) (.Call (.Name "isinstance" p) [e, .Name T p2] [] pos) (xIsi Ts f) := se_isi (gloOk_g h).1 hm (gloOk_g hT).1 hmT hv hk he (gloOk_g hT).2.2 (gloOk_g hT).2.1 hs
theorem g_isi2 {e : Expr} {f : Fn D} {T U : Str} {p p2 p3 p4 pos : Pos} {kk} (Ts Us : String) (h : gloOk sc "isinstance" = true) (hm : G.mg "isinstance" = none) (hT : gloOk sc T = true) (hmT : G.mg T = none) (hv : bootBuiltins T = some (.type Ts)) (hk : Ts ∈ tyNs.tail) (hU : gloOk sc U = true) (hmU : G.mg U = none) (hvU : bootBuiltins U = some (.type Us)) (hkU : Us ∈ tyNs.tail) (he : SE (G.loc N sc k fn) e f)
    (hs : ∀ env, starEach [e, .Tuple [.Name T p2, .Name U p3] kk p4] env = (false, eval e env) :: starEach [.Tuple [.Name T p2, .Name U p3] kk p4] env := by intro _; rfl) : SE (G.loc N sc k fn) (.Call (.Name "isinstance" p) [e, .Tuple [.Name T p2, .Name U p3] kk p4] [] pos) (xIsi2 Ts Us f) :=
  se_isi2 (gloOk_g h).1 hm (gloOk_g hT).1 hmT hv hk (gloOk_g hU).1 hmU hvU hkU he (gloOk_g hT).2.2 (gloOk_g hT).2.1 (gloOk_g hU).2.2 (gloOk_g hU).2.1 hs
/-! calls -/
theorem FnR.to {x : Str} {ps : List Str} {j : Nat} {gS : List D → Ms → R D} {f : Addr} {fd : FuncData} (F : FnR G x ps j gS f fd) : FnR (G.loc N sc k fn) x ps j gS f fd := ⟨F.m, F.kp, F.ok⟩
theorem KB.to {fd : FuncData} {ps ks : List Str} {n : Nat} {g : List D → List D → List D} (B : KB G fd ps n ks g) : KB (G.loc N sc k fn) fd ps n ks g := ⟨B.ex⟩
theorem g_call {x : Str} {ps : List Str} {j : Nat} {g : List D → List D → List D} {gS : List D → Ms → R D} {f : Addr} {fd : FuncData} {p pos : Pos} {e : Expr} {es : List Expr} {fa : Fn (List D)} (F : FnR G x ps j gS f fd) (B : KB G fd ps (es.length + 1) [] g) (h : gloOk sc x = true) (hk : j ≤ k) (ha : SAs (G.loc N sc k fn) (e :: es) fa)
    (he : ∀ env, starEach (e :: es) env = (false, eval e env) :: starEach es env := by intro _; rfl) (hpl : ∀ env, (backTo pos (starEach es env)).any (·.1) = false := by intro _; rfl) :
    SE (G.loc N sc k fn) (.Call (.Name x p) (e :: es) [] pos) (xCal g gS fa xNil) := by
  exact se_call F.to hk B.to (gloOk_g h).1 ha (gloOk_g h).2.1 he hpl
/-- a def of the text, with the data of its defaults -/
def FunX (G : Lc) (x : Str) (st : Stmt) (dds : List D) (kds : List (Str × D)) (f : Addr) (fd : FuncData) : Prop :=
  ∃ dvs kws, FunD G.K x x (defArgs st) (defBody st) (defScope st) dvs kws f fd ∧ DfD G dvs dds ∧ kws.map (·.1) = kds.map (·.1) ∧ DfD G (kws.map (·.2)) (kds.map (·.2))
/-- a def keeps what its body's meaning says -/
theorem def_f {x : Str} {st : Stmt} {f : Addr} {fd : FuncData} {N ps : List Str} {k : Nat} {body : Fo} {dds : List D} {kds : List (Str × D)} (F : FunX G x st dds kds f fd) (S : FnScope N ps (defScope st)) (hm : G.mg x = some (.ref f)) (hc : G.cd = none)
    (hb : SSs (G.loc N (defScope st) k fnAll) (defBody st) body) : FnR G x ps (k + 1) (fnSem N.length body) f fd := by
  obtain ⟨dvs, kws, F, _⟩ := F
  exact ⟨hm, F.kp, def_ok F S hb rfl hc⟩
theorem def_c {x : Str} {st : Stmt} {f : Addr} {fd : FuncData} {N ps : List Str} {k : Nat} {body : Fo} {dds : List D} {kds : List (Str × D)} (F : FunX G x st dds kds f fd) (S : FnScope N ps (defScope st)) (hm : G.mg x = some (.ref f)) (hc : G.cd = none)
    (hb : SSs (G.loc N (defScope st) k fnAll) (defBody st) body) : FnR G x ps (k + 1) (fnSemC N.length body) f fd := by
  obtain ⟨dvs, kws, F, _⟩ := F
  exact ⟨hm, F.kp, def_okC F S hb rfl hc⟩
/-- nothing is promised -/
theorem def_0 {x : Str} {st : Stmt} {f : Addr} {fd : FuncData} {N ps : List Str} {k : Nat} {dds : List D} {kds : List (Str × D)} (F : FunX G x st dds kds f fd) (S : FnScope N ps (defScope st)) (hm : G.mg x = some (.ref f)) : FnR G x ps (k + 1) (fun _ _ => .bad) f fd := by
  obtain ⟨dvs, kws, F, _⟩ := F
  refine ⟨hm, F.kp, F.ok (N := N) (k := k) S (def_len rfl) fun cdv A outer s H vs Q E hr hsp => ?_⟩
  obtain ⟨α, β, m, ds, _, _, _, h⟩ := hsp
  exact h.elim
theorem Reps.nil_l {K : KK} {H : Hp} {α : List Addr} {vs : List V} (h : Reps K H α vs []) : vs = [] := by cases h; rfl
theorem kbx {x : Str} {st : Stmt} {f : Addr} {fd : FuncData} {ps ks : List Str} {n : Nat} {spec : List Src} {kds : List (Str × D)} (F : FunX G x st [] kds f fd) (hs : spec.all (Src.ok n 0 ks.length) = true) (hl : spec.length = ps.length)
    (h : ∀ (kV doc pm : Value) (an : Option Addr) (cdv ct : Value) (us ws : List Value), us.length = n → ws.length = ks.length → bindArgs (PySem.W.fnOf x x (defArgs st) (defBody st) (defScope st) .none kV doc pm an cdv ct) ⟨us, ks.zip ws⟩ = pure (ps.zip (sel spec us [] ws))) :
    KB G fd ps n ks (fun ds es => sel spec ds [] es) := by
  obtain ⟨dvs, kws, F, hd, _⟩ := F
  have := (hd (fun _ => none) [] []).nil_l
  subst this
  exact kb_plain F hs hl h
theorem kbx_d {x : Str} {st : Stmt} {f : Addr} {fd : FuncData} {ps ks : List Str} {n : Nat} {spec : List Src} {dds : List D} {kds : List (Str × D)} (F : FunX G x st dds kds f fd) (hd0 : dds ≠ []) (hs : spec.all (Src.ok n dds.length ks.length) = true) (hl : spec.length = ps.length)
    (h : ∀ (T : Addr) (kV doc pm : Value) (an : Option Addr) (cdv ct : Value) (us its ws : List Value), us.length = n → its.length = dds.length → ws.length = ks.length →
      ∃ k, bindArgs (PySem.W.fnOf x x (defArgs st) (defBody st) (defScope st) (.ref T) kV doc pm an cdv ct) ⟨us, ks.zip ws⟩ = seqItems? (.ref T) >>= k ∧ k (some its.toArray) = pure (ps.zip (sel spec us its ws))) :
    KB G fd ps n ks (fun ds es => sel spec ds dds es) := by
  obtain ⟨dvs, kws, F, hd, _⟩ := F
  have hl2 : dvs.length = dds.length := (hd (fun _ => none) [] []).length
  refine kb_dfl F (fun e => hd0 ?_) hd (by rw [hl2]; exact hs) hl fun T kV doc pm an cdv ct us its ws h1 h2 h3 => h T kV doc pm an cdv ct us its ws h1 (h2.trans hl2) h3
  rw [e] at hl2
  exact List.eq_nil_of_length_eq_zero hl2.symm
end
end CT
namespace CT
open PySem L2
/-! ## what the top leaves -/
def mkG (P : Program) (w : World) (K : PySem.W.Frag) (mg : Str → Option Value) (base : Heap) (ct : Nat → Addr) (T : List (Addr × Str) := []) (fa : Nat → Addr := fun _ => 0) : Lc := { P := P, w := w, K := ⟨K, T, ct, fa⟩, mg := mg, base := base, N := [], sc := { kind := .function, names := [], isGenerator := false, isCoroutine := false }, k := 0, fn := fnAll }
section
variable {G : Lc} {x : Str} {st : Stmt} {f : Addr} {oc : Value} {od an : Option Addr} {osl : Array (Option Value)} {kV dV doc pm cdv ct : Value}
theorem dfd_nil : DfD G [] [] := fun _ _ _ => .nil
theorem funx_mk (l : G.K.K.lookup f = some ⟨oc, od, .func (PySem.W.fnOf x x (defArgs st) (defBody st) (defScope st) .none kV doc pm an cdv ct), osl⟩) (c : PySem.W.codeIn G.K cdv x = true) (k : PySem.W.keepIn G.K (.ref f) = true) :
    FunX G x st [] [] f (PySem.W.fnOf x x (defArgs st) (defBody st) (defScope st) .none kV doc pm an cdv ct) :=
  ⟨[], [], ⟨⟨oc, od, .none, kV, doc, pm, an, cdv, ct, osl, rfl, l, c, .inl ⟨rfl, rfl⟩, .inl rfl⟩, k⟩, dfd_nil, rfl, dfd_nil⟩
/-- a value of the written part and its data -/
def CV (G : Lc) (u : Value) (d : D) : Prop := ∃ v, RelV v u ∧ ∀ H α β, Rp G.K H α β v d
theorem cv_int {i : Int} {t : Tok} : CV G (.int i t) (.int i) := ⟨.int i, ⟨t, rfl⟩, fun _ _ _ => .int⟩
theorem cv_str {i : Str} {t : Tok} : CV G (.str i t) (.str i) := ⟨.str i, ⟨t, rfl⟩, fun _ _ _ => .str⟩
inductive CVs (G : Lc) : List Value → List D → Prop
  | nil : CVs G [] []
  | cons {u : Value} {d : D} {us : List Value} {ds : List D} : CV G u d → CVs G us ds → CVs G (u :: us) (d :: ds)
theorem CVs.vals : ∀ {us : List Value} {ds : List D}, CVs G us ds → ∃ vs, Vals vs us ∧ DfD G vs ds
  | _, _, .nil => ⟨[], .nil, dfd_nil⟩
  | _, _, .cons ⟨v, r, h⟩ t => by
    obtain ⟨vs, r2, h2⟩ := t.vals
    exact ⟨v :: vs, .cons r r2, fun H α β => .cons (h H α β) (h2 H α β)⟩
theorem CVs.length : ∀ {us : List Value} {ds : List D}, CVs G us ds → us.length = ds.length
  | _, _, .nil => rfl
  | _, _, .cons _ t => by simp [t.length]
theorem CV.gcon {y : Str} {u : Value} {d : D} (m : G.mg y = some u) (c : CV G u d) : Gcon G y d := by
  obtain ⟨v, r, h⟩ := c
  exact ⟨u, v, m, r, h⟩
theorem funx_mkD {T : Addr} {clT : Value} {odT : Option Addr} {us : List Value} {nT : Nat} {slT : Array (Option Value)} {dds : List D} (l : G.K.K.lookup f = some ⟨oc, od, .func (PySem.W.fnOf x x (defArgs st) (defBody st) (defScope st) (.ref T) kV doc pm an cdv ct), osl⟩) (c : PySem.W.codeIn G.K cdv x = true) (k : PySem.W.keepIn G.K (.ref f) = true)
    (lT : G.K.K.lookup T = some ⟨clT, odT, .seq us.toArray nT, slT⟩) (h : CVs G us dds) (hn : us ≠ []) : FunX G x st dds [] f (PySem.W.fnOf x x (defArgs st) (defBody st) (defScope st) (.ref T) kV doc pm an cdv ct) := by
  obtain ⟨vs, r, h2⟩ := h.vals
  refine ⟨vs, [], ⟨⟨oc, od, .ref T, kV, doc, pm, an, cdv, ct, osl, rfl, l, c, .inr ⟨fun e => hn ?_, T, _, us, nT, rfl, lT, rfl, r⟩, .inl rfl⟩, k⟩, h2, rfl, dfd_nil⟩
  rw [e] at r
  cases r
  rfl
end
/-- what the law's def is to keep -/
def spLaw (K : PySem.W.Frag) (T : List (Addr × Str)) : Sp := fun vs H Q _ => ∃ (a : Addr) (ns : List Int), vs = [.ref a] ∧ SqL K H a (ns.map V.int) ∧ ns.length ≤ 63 ∧ LamX.Tabs T H ∧ ∀ H', Q (.bl true) H'
theorem sql_hid {K : PySem.W.Frag} {H : Hp} {a : Addr} {xs : List V} (h : SqL K H a xs) : SqL K (hid H []) a xs := by
  rcases h with (h | ⟨o, h⟩) | h
  · exact .inl (.inl (hid_mk h (by simp)))
  · exact .inl (.inr ⟨o, hid_mk h (by simp)⟩)
  · exact .inr h
theorem ints_reps {K : KK} {G : Hp} {α : List Addr} : ∀ ns : List Int, Reps K G α (ns.map V.int) (ns.map D.int)
  | [] => .nil
  | _ :: ns => .cons .int (ints_reps ns)
def trueR : R D → Prop
  | .ok (.bl true) _ => True
  | _ => False
theorem law_end {G : Lc} {x : Str} {ps : List Str} {k : Nat} {gS : List D → Ms → R D} {f : Addr} {fd : FuncData} (F : FnR G x ps k gS f fd) (hl : ps.length = 1) (h : ∀ ns : List Int, ns.length ≤ 63 → trueR (gS [.lck (ns.map .int)] [])) :
    FnOk G.P G.w G.K G.mg G.base (L2.CX G.P G.w) k f fd ps (spLaw G.K G.K.T) := F.ok.imp fun vs H Q E ⟨a, ns, e, hs, hn, ht, q⟩ => by
  subst e
  have hh := h ns hn
  refine ⟨[], [], [], [.lck (ns.map .int)], ⟨rfl, List.nodup_nil, fun _ z => (by cases z), fun _ _ _ z => (by simp at z), ht⟩, .cons (.lck ?_ (ints_reps ns)) .nil, hl.symm, ?_⟩
  · exact sql_hid hs
  · cases e : gS [.lck (ns.map .int)] [] with
    | bad => rw [e] at hh; exact hh.elim
    | ex x m => rw [e] at hh; exact hh.elim
    | ok d m =>
      rw [e] at hh
      intro v H1 α1 _ _ r
      cases d with
      | bl b =>
        cases b with
        | true => cases r; exact q H1
        | false => exact hh.elim
      | non => exact hh.elim
      | int _ => exact hh.elim
      | str _ => exact hh.elim
      | tup _ => exact hh.elim
      | lst _ => exact hh.elim
      | cel _ => exact hh.elim
      | lck _ => exact hh.elim
      | ins _ _ _ => exact hh.elim
      | dct => exact hh.elim
      | fn => exact hh.elim
      | tpl => exact hh.elim
end CT
namespace CT
open PySem L2
/-! ## reckoning with meanings -/
section
variable {σ : Sd} {m : Ms} {a b c : Fn D} {f g : Fo} {t u : Fn Bool} {as : Fn (List D)}
@[simp] theorem ev_var {i : Nat} {d : D} (h : σ[i]? = some (some d)) : xVar i σ m = .ok d m := by unfold xVar; rw [h]
@[simp] theorem ev_val {d : D} : xVal d σ m = .ok d m := rfl
@[simp] theorem ev_op {o : D → D → Ms → R D} : xOp o a b σ m = (a σ m).bind fun x m1 => (b σ m1).bind fun y m2 => o (dr m2 x) (dr m2 y) m2 := rfl
@[simp] theorem ev_un {o : D → Ms → R D} : xUn o a σ m = (a σ m).bind fun x m1 => o (dr m1 x) m1 := rfl
@[simp] theorem ev_test : xTest a σ m = (a σ m).bind fun d m1 => match d with | .bl b => .ok b m1 | _ => .bad := rfl
@[simp] theorem ev_and : xAnd t u σ m = (t σ m).bind fun x m1 => if x = true then u σ m1 else .ok false m1 := rfl
@[simp] theorem ev_or : xOr t u σ m = (t σ m).bind fun x m1 => if x = true then .ok true m1 else u σ m1 := rfl
@[simp] theorem ev_not : xNot t σ m = (t σ m).bind fun x m1 => .ok (!x) m1 := rfl
@[simp] theorem ev_if : xIf t a b σ m = (t σ m).bind fun x m1 => if x = true then a σ m1 else b σ m1 := rfl
@[simp] theorem ev_nil : xNil σ m = .ok [] m := rfl
@[simp] theorem ev_cons : xCons a as σ m = (a σ m).bind fun x m1 => (as σ m1).bind fun ys m2 => .ok (x :: ys) m2 := rfl
@[simp] theorem ev_tup : xTup as σ m = (as σ m).bind fun ds m1 => .ok (.tup ds) m1 := rfl
@[simp] theorem ev_lst : xLst as σ m = (as σ m).bind fun ds m1 => .ok (.lst ds) m1 := rfl
@[simp] theorem ev_cel : xCel as σ m = (as σ m).bind fun ds m1 => if D.cfs 0 ds = true then .ok (.cel m1.length) (m1 ++ [.l ds]) else .bad := rfl
@[simp] theorem ev_calB {o : List D → Ms → R D} : xCalB o as σ m = (as σ m).bind fun ds m1 => o (ds.map (dr m1)) m1 := rfl
@[simp] theorem ev_cal {h : List D → List D → List D} {gS : List D → Ms → R D} {kw : Fn (List D)} : xCal h gS as kw σ m = (as σ m).bind fun ds m1 => (kw σ m1).bind fun es m2 => gS (h ds es) m2 := rfl
@[simp] theorem ev_chain {o o' : D → D → Ms → R D} : xChain o o' a b c σ m = (a σ m).bind fun x m1 => (b σ m1).bind fun y m2 => (o (dr m2 x) (dr m2 y) m2).bind fun z m3 => match z with
  | .bl true => (c σ m3).bind fun w m4 => o' (dr m4 y) (dr m4 w) m4
  | .bl false => .ok (.bl false) m3
  | _ => .bad := rfl
@[simp] theorem ev_andV : xAndV a b σ m = (a σ m).bind fun x m1 => match x with | .bl true => b σ m1 | .bl false => .ok (.bl false) m1 | _ => .bad := rfl
@[simp] theorem ev_orV : xOrV a b σ m = (a σ m).bind fun x m1 => match x with | .bl false => b σ m1 | .bl true => .ok (.bl true) m1 | _ => .bad := rfl
@[simp] theorem ev_notV : xNotV a σ m = (a σ m).bind fun x m1 => match x with | .bl b => .ok (.bl (!b)) m1 | _ => .bad := rfl
@[simp] theorem ev_noP : xNoP σ m = .ok none m := rfl
@[simp] theorem ev_part : xPart a σ m = (a σ m).bind fun d m1 => match d with | .int i => .ok (some i) m1 | _ => .bad := rfl
@[simp] theorem ev_sl {lo hi : Fn (Option Int)} : xSl a lo hi σ m = (a σ m).bind fun x m1 => (lo σ m1).bind fun l m2 => (hi σ m2).bind fun u m3 => oSl (dr m3 x) l u m3 := rfl
@[simp] theorem ev_isi {T : String} : xIsi T a σ m = (a σ m).bind fun d m1 => if noI (dr m1 d) = true then .ok (.bl (isK T (dr m1 d))) m1 else .bad := rfl
@[simp] theorem ev_isi2 {T U : String} : xIsi2 T U a σ m = (a σ m).bind fun d m1 => if noI (dr m1 d) = true then .ok (.bl (isK T (dr m1 d) || isK U (dr m1 d))) m1 else .bad := rfl
@[simp] theorem ev_seq : xSeq f g σ m = oSeq (f σ m) g := rfl
@[simp] theorem ev_pass : xPass σ m = .nx σ m := rfl
@[simp] theorem ev_ret : xRet a σ m = (a σ m).go σ fun d m1 => .rt d m1 := rfl
@[simp] theorem ev_drop : xDrop a σ m = (a σ m).go σ fun _ m1 => .nx σ m1 := rfl
@[simp] theorem ev_ifS : xIfS t f g σ m = (t σ m).go σ fun x m1 => if x = true then f σ m1 else g σ m1 := rfl
@[simp] theorem ev_asg {h : Fg} : xAsg h a σ m = (a σ m).go σ fun d m1 => match h d σ m1 with | some (σ2, m2) => .nx σ2 m2 | none => .bad := rfl
@[simp] theorem ev_gN {i : Nat} {d : D} : gN i d σ m = some (σ.set i (some d), m) := rfl
@[simp] theorem ev_gNil : gNil [] σ m = some (σ, m) := rfl
@[simp] theorem ev_gCons {h : Fg} {r : Fgs} {d : D} {ds : List D} : gCons h r (d :: ds) σ m = match h d σ m with | some (σ1, m1) => r ds σ1 m1 | none => none := rfl
@[simp] theorem ev_gT {n : Nat} {r : Fgs} {ds : List D} (h : ds.length = n) : gT n r (.tup ds) σ m = r ds σ m := by show (if ds.length = n then r ds σ m else none) = _; rw [if_pos h]
@[simp] theorem ev_gS {o i : Fn D} {d : D} : gS o i d σ m = if d.cf 0 = true then match o σ m with
    | .ok (.cel c) m1 => match i σ m1 with
      | .ok (.int k) m2 => match m2[c]? with
        | some (.l ds) => match ixN ds.length k with
          | some j => some (σ, m2.set c (.l (ds.set j d)))
          | none => none
        | _ => none
      | _ => none
    | _ => none
  else none := rfl
@[simp] theorem ev_par {i j : Nat} : xPar i j a b σ m = (a σ m).go σ fun x m1 => (b σ m1).go σ fun y m2 => .nx ((σ.set i (some x)).set j (some y)) m2 := rfl
@[simp] theorem ev_for {s : Fn (List D)} {h : Fg} : xFor s h f σ m = (s σ m).go σ fun items m1 => forL h f items σ m1 := rfl
@[simp] theorem ev_it : xIt a σ m = (a σ m).bind fun d m1 => match d with | .lst ds => .ok ds m1 | .tup ds => .ok ds m1 | .lck ds => .ok ds m1 | .str z => .ok (charsD z) m1 | _ => .bad := rfl
@[simp] theorem ev_enum : xEnum a σ m = (a σ m).bind fun d m1 => match d with | .lst ds => .ok (enumD 0 ds) m1 | .lck ds => .ok (enumD 0 ds) m1 | _ => .bad := rfl
@[simp] theorem ev_rng1 : xRng1 a σ m = (a σ m).bind fun d m1 => match d with | .int j => if -100000 ≤ j ∧ j ≤ 100000 then .ok (rngD 0 j.toNat) m1 else .bad | _ => .bad := rfl
@[simp] theorem ev_yes : xYes σ m = .ok true m := rfl
@[simp] theorem ev_lc {fin : Ms → List D → R D} {s : Fn (List D)} {h : Fg} {e : Fn D} {own : List Nat} : xLcF fin s h t e own σ m = (s σ m).bind fun items m1 => if items.length ≤ 100000 then lcL fin h t e (wipeD σ own) items m1 [] else .bad := rfl
@[simp] theorem ev_finL {acc : List D} : finL m acc = .ok (.lst acc) m := rfl
end
section
variable {m : Ms} {i j : Int} {x y : Str} {ds es : List D}
@[simp] theorem dr_non : dr m .non = .non := rfl
@[simp] theorem dr_int : dr m (.int i) = .int i := rfl
@[simp] theorem dr_bl {b : Bool} : dr m (.bl b) = .bl b := rfl
@[simp] theorem dr_str : dr m (.str x) = .str x := rfl
@[simp] theorem dr_tup : dr m (.tup ds) = .tup ds := rfl
@[simp] theorem dr_lst : dr m (.lst ds) = .lst ds := rfl
@[simp] theorem dr_lck : dr m (.lck ds) = .lck ds := rfl
@[simp] theorem dr_cel {c : Nat} (h : m[c]? = some (.l ds)) : dr m (.cel c) = .lst ds := by simp [dr, h, Ce.fz]
@[simp] theorem dr_ins {k : Nat} {ns : List Str} : dr m (.ins k ns ds) = .ins k ns ds := rfl
@[simp] theorem noI_non : noI .non = true := rfl
@[simp] theorem noI_int : noI (.int i) = true := rfl
@[simp] theorem noI_bl {b : Bool} : noI (.bl b) = true := rfl
@[simp] theorem noI_str : noI (.str x) = true := rfl
@[simp] theorem noI_tup : noI (.tup ds) = true := rfl
@[simp] theorem noI_lst : noI (.lst ds) = true := rfl
@[simp] theorem o_add : oAdd (.int i) (.int j) m = .ok (.int (i + j)) m := rfl
@[simp] theorem o_addL : oAdd (.lst ds) (.lst es) m = okLen (ds.length + es.length) (.ok (.lst (ds ++ es)) m) := rfl
@[simp] theorem o_addT : oAdd (.tup ds) (.tup es) m = okLen (ds.length + es.length) (.ok (.tup (ds ++ es)) m) := rfl
@[simp] theorem o_sub : oSub (.int i) (.int j) m = .ok (.int (i - j)) m := rfl
@[simp] theorem o_mul : oMul (.int i) (.int j) m = if mulOk i j = true then .ok (.int (i * j)) m else .bad := rfl
@[simp] theorem o_div : oDiv (.int i) (.int j) m = if divOk j = true then .ok (.int (i / j)) m else .bad := rfl
@[simp] theorem o_mod : oMod (.int i) (.int j) m = if j ≠ 0 then .ok (.int (i.fmod j)) m else .bad := rfl
@[simp] theorem o_pow : oPow (.int i) (.int j) m = if powOk i j = true then .ok (.int (i ^ j.toNat)) m else .bad := rfl
@[simp] theorem o_neg : oNeg (.int i) m = .ok (.int (-i)) m := rfl
@[simp] theorem o_lt : oLt (.int i) (.int j) m = .ok (.bl (decide (i < j))) m := rfl
@[simp] theorem o_le : oLe (.int i) (.int j) m = .ok (.bl (decide (i ≤ j))) m := rfl
@[simp] theorem o_gt : oGt (.int i) (.int j) m = .ok (.bl (decide (j < i))) m := rfl
@[simp] theorem o_ge : oGe (.int i) (.int j) m = .ok (.bl (decide (j ≤ i))) m := rfl
@[simp] theorem o_ixL : oIx (.lst ds) (.int i) m = match atI ds i with | some d => .ok d m | none => .bad := rfl
@[simp] theorem o_ixT : oIx (.tup ds) (.int i) m = match atI ds i with | some d => .ok d m | none => .bad := rfl
@[simp] theorem b_lenL : bLen [.lst ds] m = .ok (.int (ds.length : Nat)) m := rfl
@[simp] theorem b_lenT : bLen [.tup ds] m = .ok (.int (ds.length : Nat)) m := rfl
@[simp] theorem b_abs : bAbs [.int i] m = .ok (.int (if i < 0 then -i else i)) m := rfl
@[simp] theorem b_max : bMax [.int i, .int j] m = .ok (.int (if j > i then j else i)) m := rfl
@[simp] theorem b_listL : bList [.lst ds] m = .ok (.lst ds) m := rfl
@[simp] theorem b_listT : bList [.tup ds] m = .ok (.lst ds) m := rfl
@[simp] theorem b_listK : bList [.lck ds] m = .ok (.lst ds) m := rfl
@[simp] theorem b_tupL : bTup [.lst ds] m = .ok (.tup ds) m := rfl
@[simp] theorem b_tupT : bTup [.tup ds] m = .ok (.tup ds) m := rfl
@[simp] theorem o_slL {l h : Option Int} : oSl (.lst ds) l h m = .ok (.lst (cutL ds l h)) m := rfl
@[simp] theorem o_slT {l h : Option Int} : oSl (.tup ds) l h m = .ok (.tup (cutL ds l h)) m := rfl
@[simp] theorem o_slK {l h : Option Int} : oSl (.lck ds) l h m = .ok (.lst (cutL ds l h)) m := rfl
@[simp] theorem cf_int {n : Nat} : D.cf n (.int i) = true := rfl
@[simp] theorem cf_bl {n : Nat} {b : Bool} : D.cf n (.bl b) = true := rfl
@[simp] theorem cf_str {n : Nat} : D.cf n (.str x) = true := rfl
@[simp] theorem cf_non {n : Nat} : D.cf n .non = true := rfl
@[simp] theorem cf_tup {n : Nat} : D.cf n (.tup ds) = D.cfs n ds := rfl
@[simp] theorem cf_lst {n : Nat} : D.cf n (.lst ds) = D.cfs n ds := rfl
@[simp] theorem cf_lck {n : Nat} : D.cf n (.lck ds) = D.cfs n ds := rfl
@[simp] theorem cf_cel {n c : Nat} : D.cf n (.cel c) = decide (c < n) := rfl
@[simp] theorem cfs_nil {n : Nat} : D.cfs n [] = true := rfl
@[simp] theorem cfs_cons {n : Nat} {d : D} : D.cfs n (d :: ds) = (D.cf n d && D.cfs n ds) := rfl
@[simp] theorem cfs_ints {n : Nat} : ∀ ns : List Int, D.cfs n (ns.map D.int) = true
  | [] => rfl
  | _ :: r => by simp [cfs_ints r]
theorem cfs_all {n : Nat} : ∀ {ds : List D}, (∀ d ∈ ds, D.cf n d = true) → D.cfs n ds = true
  | [], _ => rfl
  | d :: ds, h => by rw [cfs_cons, h d (List.mem_cons_self ..), cfs_all fun e he => h e (List.mem_cons_of_mem _ he)]; rfl
theorem ixN_0 (n : Nat) : ixN (n + 1) 0 = some 0 := by
  unfold ixN
  rw [if_pos (by decide), if_pos (by omega)]
  simp
theorem ixN_1 (n : Nat) : ixN (n + 2) 1 = some 1 := by
  unfold ixN
  rw [if_pos (by decide), if_pos (by omega)]
  simp
@[simp] theorem atI_0 {κ : Type} {a : κ} {r : List κ} : atI (a :: r) 0 = some a := by
  unfold atI
  rw [List.length_cons, ixN_0]
  rfl
@[simp] theorem atI_1 {κ : Type} {a b : κ} {r : List κ} : atI (a :: b :: r) 1 = some b := by
  unfold atI
  rw [List.length_cons, List.length_cons, ixN_1]
  rfl
@[simp] theorem frz_int {n : Nat} : frz n m (.int i) = some (.int i) := rfl
@[simp] theorem frz_bl {n : Nat} {b : Bool} : frz n m (.bl b) = some (.bl b) := rfl
@[simp] theorem frz_str {n : Nat} : frz n m (.str x) = some (.str x) := rfl
@[simp] theorem frz_non {n : Nat} : frz n m .non = some .non := rfl
@[simp] theorem frz_tup {n : Nat} (h : D.cfs n ds = true) : frz n m (.tup ds) = some (.tup ds) := by unfold frz; rw [if_pos (show D.cf n (.tup ds) = true from h)]
@[simp] theorem frz_lst {n : Nat} (h : D.cfs n ds = true) : frz n m (.lst ds) = some (.lst ds) := by unfold frz; rw [if_pos (show D.cf n (.lst ds) = true from h)]
theorem frz_cf {n : Nat} {d : D} (h : d.cf n = true) : frz n m d = some d := by unfold frz; rw [if_pos h]
theorem okLen_of {n : Nat} {r : R D} (h : n ≤ 100000) : okLen n r = r := by unfold okLen; rw [if_pos h]
end
theorem mulOk_of {i j : Int} (a b : Nat) (ha : i.natAbs < 2 ^ a) (hb : j.natAbs < 2 ^ b) (h0 : 0 < a := by decide) (h1 : 0 < b := by decide) (h : a + b ≤ 1000000 := by decide) : mulOk i j = true := by
  have := wide_mul ha hb h0 h1 h
  unfold CMulW at this
  exact decide_eq_true this
theorem divOk_of {j : Int} (b : Nat) (h : 0 < j) (hb : j.natAbs < 2 ^ b) (h0 : 0 < b := by decide) (h9 : b ≤ 9000 := by decide) : divOk j = true := by
  have := wide_div (i := 0) h hb h0 h9
  unfold CDivW at this
  exact decide_eq_true this
/-- a def's meaning, by its body's end -/
theorem fn_rt {N : Nat} {body : Fo} {ds : List D} {m m' : Ms} {d : D} (h : body (ds.map some ++ List.replicate (N - ds.length) none) m = .rt d m') (hd : d.cf m.length = true) : fnSem N body ds m = .ok d (m'.take m.length) := by
  unfold fnSem
  rw [h]
  simp only [frz_cf hd]
theorem fn_rt' {N : Nat} {body : Fo} {ds : List D} {m m' : Ms} {d : D} (h : body (ds.map some ++ List.replicate (N - ds.length) none) m = .rt d m') (hd : d.cf m.length = true) (hm : m'.length = m.length) : fnSem N body ds m = .ok d m' := by
  rw [fn_rt h hd, List.take_of_length_le (by omega)]
end CT
namespace CT
open PySem L2
/-! ## more reckoning -/
section
variable {m : Ms} {i j : Int} {b c : Bool}
theorem eqOk_int : eqOk (.int i) = true := by simp [eqOk, toP, SeqAt.shaped, PyData.canLay0, PyData.depth]
theorem eqOk_bl : eqOk (.bl b) = true := by simp [eqOk, toP, SeqAt.shaped, PyData.canLay0, PyData.depth]
theorem dec_beq {κ : Type} [DecidableEq κ] (a b : κ) : (a == b) = decide (a = b) := by
  by_cases h : a = b
  · subst h; simp
  · simp [h]
@[simp] theorem o_eqI : oEq (.int i) (.int j) m = .ok (.bl (decide (i = j))) m := by
  unfold oEq
  rw [eqOk_int, eqOk_int, Bool.and_self, if_pos rfl]
  show R.ok (D.bl (i == j)) m = _
  rw [dec_beq]
@[simp] theorem o_neI : oNe (.int i) (.int j) m = .ok (.bl (!decide (i = j))) m := by
  unfold oNe
  rw [eqOk_int, eqOk_int, Bool.and_self, if_pos rfl]
  show R.ok (D.bl (!(i == j))) m = _
  rw [dec_beq]
@[simp] theorem o_eqB : oEq (.bl b) (.bl c) m = .ok (.bl (b == c)) m := by
  unfold oEq
  rw [eqOk_bl, eqOk_bl, Bool.and_self, if_pos rfl]
  rfl
@[simp] theorem o_neB : oNe (.bl b) (.bl c) m = .ok (.bl (!(b == c))) m := by
  unfold oNe
  rw [eqOk_bl, eqOk_bl, Bool.and_self, if_pos rfl]
  rfl
end
/-! a comprehension, a loop -/
theorem lcL_map {fin : Ms → List D → R D} {g : Fg} {e : Fn D} {σ : Sd} {F : D → D} {m : Ms} : ∀ (items acc : List D), (∀ d ∈ items, ∃ σ1, g d σ m = some (σ1, m) ∧ e σ1 m = .ok (F d) m) → lcL fin g xYes e σ items m acc = fin m (acc ++ items.map F)
  | [], acc, _ => by simp [lcL]
  | d :: ds, acc, h => by
    obtain ⟨σ1, h1, h2⟩ := h d (List.mem_cons_self ..)
    rw [lcL, h1]
    simp only [ev_yes]
    rw [h2]
    simp only
    rw [lcL_map ds _ fun x hx => h x (List.mem_cons_of_mem _ hx)]
    simp
@[simp] theorem forL_nil {g : Fg} {b : Fo} {σ : Sd} {m : Ms} : forL g b [] σ m = .nx σ m := rfl
theorem forL_cons {g : Fg} {b : Fo} {d : D} {ds : List D} {σ : Sd} {m : Ms} : forL g b (d :: ds) σ m = match g d σ m with
    | none => .bad
    | some (σ1, m1) => oLoop (b σ1 m1) (forL g b ds) := rfl
theorem whN_succ {c : Fn Bool} {b : Fo} {n : Nat} {σ : Sd} {m : Ms} : whN c b (n + 1) σ m = (c σ m).go σ fun t m1 => if t = true then oLoop (b σ m1) (whN c b n) else .nx σ m1 := rfl
/-- a loop by what holds between two turns: it runs to its end, or it leaves with an outcome that is let -/
theorem forL_inv {g : Fg} {b : Fo} (P : Nat → Sd → Ms → Prop) (Z : O → Prop) (items : List D)
    (h : ∀ (i : Nat) (d : D) (σ : Sd) (m : Ms), items[i]? = some d → P i σ m → ∃ σ1 m1, g d σ m = some (σ1, m1) ∧ ((∃ σ2 m2, (b σ1 m1 = .nx σ2 m2 ∨ b σ1 m1 = .ct σ2 m2) ∧ P (i + 1) σ2 m2) ∨ (∃ σ2 m2, b σ1 m1 = .bk σ2 m2 ∧ Z (.nx σ2 m2)) ∨ (∃ d' m2, b σ1 m1 = .rt d' m2 ∧ Z (.rt d' m2)) ∨ (∃ x σ2 m2, b σ1 m1 = .ex x σ2 m2 ∧ Z (.ex x σ2 m2)))) :
    ∀ (n i : Nat), n + i = items.length → ∀ (σ : Sd) (m : Ms), P i σ m → (∃ σ' m', forL g b (items.drop i) σ m = .nx σ' m' ∧ P items.length σ' m') ∨ ∃ o, forL g b (items.drop i) σ m = o ∧ Z o
  | 0, i, hi, σ, m, hp => by
    have : i = items.length := by omega
    subst this
    rw [List.drop_length]
    exact .inl ⟨σ, m, rfl, hp⟩
  | n + 1, i, hi, σ, m, hp => by
    have hlt : i < items.length := by omega
    obtain ⟨σ1, m1, h1, h2⟩ := h i items[i] σ m (List.getElem?_eq_getElem hlt) hp
    rw [List.drop_eq_getElem_cons hlt, forL_cons, h1]
    simp only
    rcases h2 with ⟨σ2, m2, e, hp2⟩ | ⟨σ2, m2, e, z⟩ | ⟨d', m2, e, z⟩ | ⟨x, σ2, m2, e, z⟩
    · have e2 : oLoop (b σ1 m1) (forL g b (items.drop (i + 1))) = forL g b (items.drop (i + 1)) σ2 m2 := by
        rcases e with e | e <;> rw [e] <;> rfl
      rw [e2]
      exact forL_inv P Z items h n (i + 1) (by omega) σ2 m2 hp2
    · rw [e]; exact .inr ⟨_, rfl, z⟩
    · rw [e]; exact .inr ⟨_, rfl, z⟩
    · rw [e]; exact .inr ⟨_, rfl, z⟩
/-- a loop that always runs to its end -/
theorem forL_all {g : Fg} {b : Fo} (P : Nat → Sd → Ms → Prop) (items : List D)
    (h : ∀ (i : Nat) (d : D) (σ : Sd) (m : Ms), items[i]? = some d → P i σ m → ∃ σ1 m1 σ2 m2, g d σ m = some (σ1, m1) ∧ (b σ1 m1 = .nx σ2 m2 ∨ b σ1 m1 = .ct σ2 m2) ∧ P (i + 1) σ2 m2) {σ : Sd} {m : Ms} (hp : P 0 σ m) :
    ∃ σ' m', forL g b items σ m = .nx σ' m' ∧ P items.length σ' m' := by
  rcases forL_inv P (fun _ => False) items (fun i d σ m e hp => by
    obtain ⟨σ1, m1, σ2, m2, h1, h2, h3⟩ := h i d σ m e hp
    exact ⟨σ1, m1, h1, .inl ⟨σ2, m2, h2, h3⟩⟩) items.length 0 (by omega) σ m hp with h | ⟨_, _, z⟩
  · exact h
  · exact z.elim
theorem set_set {κ : Type} {σ : List κ} {i j : Nat} {x y z w : κ} (h : i ≠ j) : (((σ.set i x).set j y).set i z).set j w = (σ.set i z).set j w := by
  refine List.ext_getElem? fun k => ?_
  by_cases h1 : j = k
  · subst h1
    by_cases hk : j < σ.length
    · rw [List.getElem?_set_self (by simp; exact hk), List.getElem?_set_self (by simp; exact hk)]
    · rw [List.getElem?_eq_none (by simp; omega), List.getElem?_eq_none (by simp; omega)]
  · rw [List.getElem?_set_ne h1, List.getElem?_set_ne h1]
    by_cases h2 : i = k
    · subst h2
      by_cases hk : i < σ.length
      · rw [List.getElem?_set_self (by simp; exact hk), List.getElem?_set_self hk]
      · rw [List.getElem?_eq_none (by simp; omega), List.getElem?_eq_none (by simp; omega)]
    · rw [List.getElem?_set_ne h2, List.getElem?_set_ne h1, List.getElem?_set_ne h2, List.getElem?_set_ne h2]
/-! the greatest common part -/
theorem gcd_wh {i j : Nat} (h : i ≠ j) : ∀ (y x : Nat) (σ : Sd) (m : Ms), σ[i]? = some (some (.int (x : Nat))) → σ[j]? = some (some (.int (y : Nat))) →
    ∃ n, whN (xTest (xOp oNe (xVar j) (xVal (.int (0))))) (xPar i j (xVar j) (xOp oMod (xVar i) (xVar j))) n σ m = .nx ((σ.set i (some (.int (Nat.gcd x y : Nat)))).set j (some (.int 0))) m := by
  intro y
  induction y using Nat.strongRecOn with
  | _ y ih =>
    intro x σ m hi hj
    by_cases hy : y = 0
    · subst hy
      refine ⟨1, ?_⟩
      have e1 : σ.set i (some (.int ((x : Nat) : Int))) = σ := by
        refine List.ext_getElem? fun k => ?_
        by_cases hk : i = k
        · subst hk
          rw [List.getElem?_set_self (List.getElem?_eq_some_iff.mp hi).1, hi]
        · rw [List.getElem?_set_ne hk]
      have e2 : σ.set j (some (.int 0)) = σ := by
        refine List.ext_getElem? fun k => ?_
        by_cases hk : j = k
        · subst hk
          rw [List.getElem?_set_self (List.getElem?_eq_some_iff.mp hj).1, hj]
          rfl
        · rw [List.getElem?_set_ne hk]
      rw [whN_succ]
      simp [hj, e1]
      exact e2.symm
    · have hlt : x % y < y := Nat.mod_lt _ (by omega)
      have li := (List.getElem?_eq_some_iff.mp hi).1
      have lj := (List.getElem?_eq_some_iff.mp hj).1
      obtain ⟨n, hn⟩ := ih (x % y) hlt y ((σ.set i (some (.int (y : Nat)))).set j (some (.int ((x % y : Nat) : Int)))) m (by rw [List.getElem?_set_ne (Ne.symm h), List.getElem?_set_self li]) (by rw [List.getElem?_set_self (by simpa using lj)])
      refine ⟨n + 1, ?_⟩
      have hy' : ¬ ((y : Int) = 0) := by omega
      have hf : ((x : Int)).fmod (y : Int) = ((x % y : Nat) : Int) := by
        rw [Int.fmod_eq_emod_of_nonneg _ (by omega)]
        rfl
      rw [whN_succ]
      simp only [ev_test, ev_op, ev_var hj, ev_val, R.bind_ok, dr_int, o_neI, R.go_ok]
      rw [if_pos (by simp [hy]), ev_par]
      simp only [ev_var hj, R.go_ok, ev_op, ev_var hi, R.bind_ok, dr_int, o_mod, if_pos (show (y : Int) ≠ 0 from hy'), hf, oLoop_nx]
      rw [hn, set_set h]
      rw [show Nat.gcd y (x % y) = Nat.gcd x y from by rw [Nat.gcd_comm y, ← Nat.gcd_rec, Nat.gcd_comm]]
theorem gcd_while {i j : Nat} (h : i ≠ j) {x y : Nat} {σ : Sd} {m : Ms} (hi : σ[i]? = some (some (.int (x : Nat)))) (hj : σ[j]? = some (some (.int (y : Nat)))) :
    xWhile (xTest (xOp oNe (xVar j) (xVal (.int (0))))) (xPar i j (xVar j) (xOp oMod (xVar i) (xVar j))) σ m = .nx ((σ.set i (some (.int (Nat.gcd x y : Nat)))).set j (some (.int 0))) m := by
  obtain ⟨n, hn⟩ := gcd_wh h y x σ m hi hj
  exact xWhile_eq hn rfl
/-! parts -/
/-- in lowest terms -/
def lowF (a b : Int) : Int × Int := ((if 0 < b then 1 else -1) * a / (Int.gcd a b : Nat), (if 0 < b then 1 else -1) * b / (Int.gcd a b : Nat))
def dP (p : Int × Int) : D := .tup [.int p.1, .int p.2]
@[simp] theorem cf_dP {n : Nat} (p : Int × Int) : D.cf n (dP p) = true := rfl
def plusF (p q : Int × Int) : Int × Int := lowF (p.1 * q.2 + q.1 * p.2) (p.2 * q.2)
def lessF (p q : Int × Int) : Int × Int := lowF (p.1 * q.2 - q.1 * p.2) (p.2 * q.2)
def timesF (p q : Int × Int) : Int × Int := lowF (p.1 * q.1) (p.2 * q.2)
/-- of so many bits -/
def Bits (n : Nat) (p : Int × Int) : Prop := p.1.natAbs < 2 ^ n ∧ p.2.natAbs < 2 ^ n ∧ 0 < p.2
theorem Bits.mono {n k : Nat} {p : Int × Int} (h : Bits n p) (hk : n ≤ k) : Bits k p := ⟨Nat.lt_of_lt_of_le h.1 (Nat.pow_le_pow_right (by decide) hk), Nat.lt_of_lt_of_le h.2.1 (Nat.pow_le_pow_right (by decide) hk), h.2.2⟩
theorem gcd_dvd (a b : Int) : ((Int.gcd a b : Nat) : Int) ∣ a ∧ ((Int.gcd a b : Nat) : Int) ∣ b := ⟨Int.gcd_dvd_left .., Int.gcd_dvd_right ..⟩
theorem natAbs_div_le (a : Int) (g : Nat) (h : (g : Int) ∣ a) (hg : 0 < g) : (a / (g : Int)).natAbs ≤ a.natAbs := by
  obtain ⟨k, rfl⟩ := h
  rw [Int.mul_ediv_cancel_left _ (by omega)]
  rw [Int.natAbs_mul]
  exact Nat.le_mul_of_pos_left _ (by simpa using hg)
theorem lowF_bits {a b : Int} {n : Nat} (ha : a.natAbs < 2 ^ n) (hb : b.natAbs < 2 ^ n) (h0 : b ≠ 0) : Bits n (lowF a b) := by
  have hg : 0 < Int.gcd a b := Int.gcd_pos_of_ne_zero_right _ h0
  obtain ⟨d1, d2⟩ := gcd_dvd a b
  have key : ∀ (s x : Int), (s = 1 ∨ s = -1) → ((Int.gcd a b : Nat) : Int) ∣ x → (s * x / (Int.gcd a b : Nat)).natAbs ≤ x.natAbs := by
    intro s x hs hx
    have h1 := natAbs_div_le (s * x) (Int.gcd a b) (Int.dvd_trans hx ⟨s, by rw [Int.mul_comm]⟩) hg
    rcases hs with rfl | rfl <;> simpa using h1
  have hs : (if 0 < b then (1 : Int) else -1) = 1 ∨ (if 0 < b then (1 : Int) else -1) = -1 := by split <;> simp
  refine ⟨Nat.lt_of_le_of_lt (key _ a hs d1) ha, Nat.lt_of_le_of_lt (key _ b hs d2) hb, ?_⟩
  unfold lowF
  simp only
  obtain ⟨k, hk⟩ := d2
  have hgi : (0 : Int) < (Int.gcd a b : Nat) := by omega
  have pos : ∀ x : Int, 0 < x → ((Int.gcd a b : Nat) : Int) ∣ x → 0 < x / ((Int.gcd a b : Nat) : Int) := fun x hx ⟨k, hk⟩ => by
    rw [hk, Int.mul_ediv_cancel_left _ (by omega)]
    rw [hk] at hx
    exact Int.pos_of_mul_pos_right hx hgi
  split
  · rename_i hb0
    rw [Int.one_mul]
    exact pos b hb0 ⟨k, hk⟩
  · refine pos _ (by omega) ⟨-k, ?_⟩
    rw [Int.mul_neg, ← hk]
    omega
end CT
namespace CT
open PySem L2
/-! ## data that may be held against each other -/
def Pl : Nat → D → Prop
  | _, .non => True
  | _, .bl _ => True
  | _, .int _ => True
  | _, .str s => PyData.strOk s = true
  | n + 1, .lst ds => ds.length ≤ 100000 ∧ ∀ x ∈ ds, Pl n x
  | n + 1, .tup ds => ds.length ≤ 100000 ∧ ∀ x ∈ ds, Pl n x
  | n + 1, .tpl ds => ds.length ≤ 100000 ∧ ∀ x ∈ ds, Pl n x
  | _, _ => False
theorem Pl.str {n : Nat} {s : Str} (h : Pl n (.str s)) : PyData.strOk s = true := by
  cases n <;> exact h
theorem pl_int {n : Nat} {i : Int} : Pl n (.int i) := by cases n <;> trivial
theorem pl_bl {n : Nat} {i : Bool} : Pl n (.bl i) := by cases n <;> trivial
theorem pl_non {n : Nat} : Pl n .non := by cases n <;> trivial
theorem pl_str {n : Nat} {s : Str} (h : PyData.strOk s = true) : Pl n (.str s) := by cases n <;> exact h
theorem pl_lst {n : Nat} {ds : List D} (h0 : ds.length ≤ 100000) (h : ∀ x ∈ ds, Pl n x) : Pl (n + 1) (.lst ds) := ⟨h0, h⟩
theorem pl_tup {n : Nat} {ds : List D} (h0 : ds.length ≤ 100000) (h : ∀ x ∈ ds, Pl n x) : Pl (n + 1) (.tup ds) := ⟨h0, h⟩
theorem pl_dP {n : Nat} {p : Int × Int} : Pl (n + 1) (dP p) := pl_tup (by simp) fun x hx => by
  simp at hx
  rcases hx with rfl | rfl <;> exact pl_int
theorem lay_all : ∀ {ds : List D}, (∀ d ∈ ds, (toP d).canLay0 = true) → PyData.canLayAll0 (toPs ds) = true
  | [], _ => rfl
  | d :: ds, h => by rw [toPs, PyData.canLayAll0, h d (List.mem_cons_self ..), lay_all fun e he => h e (List.mem_cons_of_mem _ he)]; rfl
theorem dep_all {n : Nat} : ∀ {ds : List D}, (∀ d ∈ ds, (toP d).depth ≤ n) → PyData.depthAll (toPs ds) ≤ n
  | [], _ => by simp [toPs, PyData.depthAll]
  | d :: ds, h => by
    rw [toPs, PyData.depthAll]
    exact Nat.max_le.mpr ⟨h d (List.mem_cons_self ..), dep_all fun e he => h e (List.mem_cons_of_mem _ he)⟩
theorem Pl.all : ∀ {n : Nat} {d : D}, Pl n d → d.cf 0 = true ∧ (toP d).canLay0 = true ∧ (toP d).depth ≤ n
  | n, .non, _ => ⟨rfl, rfl, by simp [toP, PyData.depth]⟩
  | n, .bl _, _ => ⟨rfl, rfl, by simp [toP, PyData.depth]⟩
  | n, .int _, _ => ⟨rfl, rfl, by simp [toP, PyData.depth]⟩
  | n, .str s, h => ⟨rfl, by simpa [toP, PyData.canLay0] using h.str, by simp [toP, PyData.depth]⟩
  | n + 1, .lst ds, h => by
    have ih := fun d hd => Pl.all (h.2 d hd)
    exact ⟨cfs_all fun d hd => (ih d hd).1, lay_all fun d hd => (ih d hd).2.1, by
      rw [toP, PyData.depth]
      exact Nat.succ_le_succ (dep_all fun d hd => (ih d hd).2.2)⟩
  | n + 1, .tup ds, h => by
    have ih := fun d hd => Pl.all (h.2 d hd)
    exact ⟨cfs_all fun d hd => (ih d hd).1, lay_all fun d hd => (ih d hd).2.1, by
      rw [toP, PyData.depth]
      exact Nat.succ_le_succ (dep_all fun d hd => (ih d hd).2.2)⟩
  | n + 1, .tpl ds, h => by
    have ih := fun d hd => Pl.all (h.2 d hd)
    exact ⟨cfs_all fun d hd => (ih d hd).1, lay_all fun d hd => (ih d hd).2.1, by
      rw [toP, PyData.depth]
      exact Nat.succ_le_succ (dep_all fun d hd => (ih d hd).2.2)⟩
  | 0, .lst _, h => h.elim
  | 0, .tup _, h => h.elim
  | 0, .tpl _, h => h.elim
  | 0, .cel _, h => h.elim
  | _ + 1, .cel _, h => h.elim
  | 0, .lck _, h => h.elim
  | _ + 1, .lck _, h => h.elim
  | 0, .ins _ _ _, h => h.elim
  | 0, .dct _ _, h => h.elim
  | 0, .fn _, h => h.elim
  | _ + 1, .ins _ _ _, h => h.elim
  | _ + 1, .dct _ _, h => h.elim
  | _ + 1, .fn _, h => h.elim
theorem Pl.eqOk {n : Nat} {d : D} (h : Pl n d) (hn : n ≤ 64 := by omega) : eqOk d = true := by
  obtain ⟨h1, h2, h3⟩ := h.all
  unfold CT.eqOk SeqAt.shaped
  rw [h1, h2, decide_eq_true (Nat.le_trans h3 hn)]
  rfl
theorem eq_self {n : Nat} {d : D} {m : Ms} (h : Pl n d) (hn : n ≤ 64 := by omega) : oEq d d m = .ok (.bl true) m := by
  unfold oEq
  rw [h.eqOk hn, Bool.and_self, if_pos rfl, SeqAt.eqv_refl _ h.all.2.1]
theorem Pl.mono : ∀ {n k : Nat} {d : D}, Pl n d → n ≤ k → Pl k d
  | n, k, .non, _, _ => pl_non
  | n, k, .bl _, _, _ => pl_bl
  | n, k, .int _, _, _ => pl_int
  | n, k, .str _, h, _ => pl_str h.str
  | n + 1, k + 1, .lst ds, h, hk => pl_lst h.1 fun x hx => (h.2 x hx).mono (by omega)
  | n + 1, k + 1, .tup ds, h, hk => pl_tup h.1 fun x hx => (h.2 x hx).mono (by omega)
  | n + 1, k + 1, .tpl ds, h, hk => ⟨h.1, fun x hx => (h.2 x hx).mono (by omega)⟩
  | _ + 1, 0, _, _, hk => by omega
  | 0, _, .lst _, h, _ => h.elim
  | 0, _, .tup _, h, _ => h.elim
  | 0, _, .tpl _, h, _ => h.elim
  | 0, _, .cel _, h, _ => h.elim
  | _ + 1, _, .cel _, h, _ => h.elim
  | 0, _, .lck _, h, _ => h.elim
  | _ + 1, _, .lck _, h, _ => h.elim
  | 0, _, .ins _ _ _, h, _ => h.elim
  | 0, _, .dct _ _, h, _ => h.elim
  | 0, _, .fn _, h, _ => h.elim
  | _ + 1, _, .ins _ _ _, h, _ => h.elim
  | _ + 1, _, .dct _ _, h, _ => h.elim
  | _ + 1, _, .fn _, h, _ => h.elim
/-! arguments -/
section
variable {κ : Type} {a b c d x y z : κ} {us ds ws : List κ}
@[simp] theorem sel_0 : sel [] us ds ws = [] := rfl
@[simp] theorem sel_p0 {r : List Src} : sel (.p 0 :: r) (a :: us) ds ws = a :: sel r (a :: us) ds ws := rfl
@[simp] theorem sel_p1 {r : List Src} : sel (.p 1 :: r) (a :: b :: us) ds ws = b :: sel r (a :: b :: us) ds ws := rfl
@[simp] theorem sel_p2 {r : List Src} : sel (.p 2 :: r) (a :: b :: c :: us) ds ws = c :: sel r (a :: b :: c :: us) ds ws := rfl
@[simp] theorem sel_p3 {r : List Src} : sel (.p 3 :: r) (a :: b :: c :: d :: us) ds ws = d :: sel r (a :: b :: c :: d :: us) ds ws := rfl
@[simp] theorem sel_p4 {r : List Src} : sel (.p 4 :: r) (a :: b :: c :: d :: x :: us) ds ws = x :: sel r (a :: b :: c :: d :: x :: us) ds ws := rfl
@[simp] theorem sel_p5 {r : List Src} : sel (.p 5 :: r) (a :: b :: c :: d :: x :: y :: us) ds ws = y :: sel r (a :: b :: c :: d :: x :: y :: us) ds ws := rfl
@[simp] theorem sel_d0 {r : List Src} : sel (.d 0 :: r) us (a :: ds) ws = a :: sel r us (a :: ds) ws := rfl
@[simp] theorem sel_d1 {r : List Src} : sel (.d 1 :: r) us (a :: b :: ds) ws = b :: sel r us (a :: b :: ds) ws := rfl
@[simp] theorem sel_d2 {r : List Src} : sel (.d 2 :: r) us (a :: b :: c :: ds) ws = c :: sel r us (a :: b :: c :: ds) ws := rfl
@[simp] theorem sel_k0 {r : List Src} : sel (.k 0 :: r) us ds (a :: ws) = a :: sel r us ds (a :: ws) := rfl
@[simp] theorem sel_k1 {r : List Src} : sel (.k 1 :: r) us ds (a :: b :: ws) = b :: sel r us ds (a :: b :: ws) := rfl
@[simp] theorem sel_k2 {r : List Src} : sel (.k 2 :: r) us ds (a :: b :: c :: ws) = c :: sel r us ds (a :: b :: c :: ws) := rfl
end
end CT
namespace CT
open PySem L2
/-! ## parts as numbers -/
def Lo (p : Int × Int) : Prop := 0 < p.2 ∧ Int.gcd p.1 p.2 = 1
def qv (p : Int × Int) : Rat := (p.1 : Rat) / (p.2 : Rat)
theorem Lo.ne {p : Int × Int} (h : Lo p) : (p.2 : Rat) ≠ 0 := by
  have := h.1
  intro z
  have := Rat.intCast_inj.mp (z.trans Rat.intCast_zero.symm)
  omega
theorem cast_ne {b : Int} (h : b ≠ 0) : (b : Rat) ≠ 0 := fun z => h (Rat.intCast_inj.mp (z.trans Rat.intCast_zero.symm))
theorem qv_inj {p q : Int × Int} (hp : Lo p) (hq : Lo q) (h : qv p = qv q) : p = q := by
  unfold qv at h
  have e : (p.1 : Rat) * (q.2 : Rat) = (q.1 : Rat) * (p.2 : Rat) := by
    have h1 := hp.ne
    have h2 := hq.ne
    grind
  have e' : p.1 * q.2 = q.1 * p.2 := by
    rw [← Rat.intCast_mul, ← Rat.intCast_mul] at e
    exact Rat.intCast_inj.mp e
  have dv : ∀ {a b c d : Int}, Int.gcd a b = 1 → a * d = c * b → b ∣ d := fun {a b c d} g e => by
    have g' : Nat.Coprime b.natAbs a.natAbs := by
      rw [Nat.coprime_comm]
      exact g
    refine Int.natAbs_dvd_natAbs.mp (Nat.Coprime.dvd_of_dvd_mul_left g' ?_)
    rw [← Int.natAbs_mul, e, Int.natAbs_mul]
    exact Nat.dvd_mul_left ..
  have d1 : p.2 ∣ q.2 := dv hp.2 e'
  have d2 : q.2 ∣ p.2 := dv hq.2 e'.symm
  have e2 : p.2 = q.2 := Int.le_antisymm (Int.le_of_dvd hq.1 d1) (Int.le_of_dvd hp.1 d2)
  have e1 : p.1 = q.1 := by
    rw [e2] at e'
    exact Int.eq_of_mul_eq_mul_right (by have := hq.1; omega) e'
  exact Prod.ext e1 e2
theorem lowF_lo {a b : Int} (h0 : b ≠ 0) : Lo (lowF a b) := by
  have hg : 0 < Int.gcd a b := Int.gcd_pos_of_ne_zero_right _ h0
  have hb : (Bits ((max a.natAbs b.natAbs) + 1) (lowF a b)) := by
    refine lowF_bits ?_ ?_ h0
    · exact Nat.lt_of_lt_of_le (Nat.lt_two_pow_self) (Nat.pow_le_pow_right (by decide) (by omega))
    · exact Nat.lt_of_lt_of_le (Nat.lt_two_pow_self) (Nat.pow_le_pow_right (by decide) (by omega))
  refine ⟨hb.2.2, ?_⟩
  obtain ⟨⟨x, hx⟩, ⟨y, hy⟩⟩ := gcd_dvd a b
  have e1 : Int.gcd x y = 1 := by
    have h1 : Int.gcd (((Int.gcd a b : Nat) : Int) * x) (((Int.gcd a b : Nat) : Int) * y) = Int.gcd a b := by rw [← hx, ← hy]
    rw [Int.gcd_mul_left, Int.natAbs_natCast] at h1
    exact Nat.eq_of_mul_eq_mul_left hg (by omega)
  unfold lowF
  simp only
  have e2 : ∀ s : Int, s * a / ((Int.gcd a b : Nat) : Int) = s * x := fun s => by
    conv => lhs; lhs; rw [hx]
    rw [Int.mul_left_comm, Int.mul_ediv_cancel_left _ (by omega)]
  have e3 : ∀ s : Int, s * b / ((Int.gcd a b : Nat) : Int) = s * y := fun s => by
    conv => lhs; lhs; rw [hy]
    rw [Int.mul_left_comm, Int.mul_ediv_cancel_left _ (by omega)]
  rw [e2, e3]
  split <;> simp [e1]
theorem qv_lowF {a b : Int} (h0 : b ≠ 0) : qv (lowF a b) = (a : Rat) / (b : Rat) := by
  have hg : 0 < Int.gcd a b := Int.gcd_pos_of_ne_zero_right _ h0
  obtain ⟨⟨x, hx⟩, ⟨y, hy⟩⟩ := gcd_dvd a b
  have e2 : ∀ s : Int, s * a / ((Int.gcd a b : Nat) : Int) = s * x := fun s => by
    conv => lhs; lhs; rw [hx]
    rw [Int.mul_left_comm, Int.mul_ediv_cancel_left _ (by omega)]
  have e3 : ∀ s : Int, s * b / ((Int.gcd a b : Nat) : Int) = s * y := fun s => by
    conv => lhs; lhs; rw [hy]
    rw [Int.mul_left_comm, Int.mul_ediv_cancel_left _ (by omega)]
  unfold qv lowF
  simp only
  rw [e2, e3]
  have hy0 : y ≠ 0 := fun z => h0 (by rw [hy, z, Int.mul_zero])
  have hyr := cast_ne hy0
  have hgr : (((Int.gcd a b : Nat) : Int) : Rat) ≠ 0 := cast_ne (by omega)
  have hbr := cast_ne h0
  have ha : (a : Rat) = (((Int.gcd a b : Nat) : Int) : Rat) * (x : Rat) := by rw [← Rat.intCast_mul, ← hx]
  have hb : (b : Rat) = (((Int.gcd a b : Nat) : Int) : Rat) * (y : Rat) := by rw [← Rat.intCast_mul, ← hy]
  rw [ha, hb]
  generalize (((Int.gcd a b : Nat) : Int) : Rat) = g at *
  split
  · rw [Int.one_mul, Int.one_mul]
    grind
  · rw [Int.neg_mul, Int.neg_mul, Int.one_mul, Int.one_mul, Rat.intCast_neg, Rat.intCast_neg]
    grind
theorem mul_ne {p q : Int × Int} (hp : Lo p) (hq : Lo q) : p.2 * q.2 ≠ 0 := Int.ne_of_gt (Int.mul_pos hp.1 hq.1)
theorem plusF_lo {p q : Int × Int} (hp : Lo p) (hq : Lo q) : Lo (plusF p q) := lowF_lo (mul_ne hp hq)
theorem lessF_lo {p q : Int × Int} (hp : Lo p) (hq : Lo q) : Lo (lessF p q) := lowF_lo (mul_ne hp hq)
theorem timesF_lo {p q : Int × Int} (hp : Lo p) (hq : Lo q) : Lo (timesF p q) := lowF_lo (mul_ne hp hq)
theorem lo_lowF {p : Int × Int} (h : Lo p) : lowF p.1 p.2 = p := qv_inj (lowF_lo (by have := h.1; omega)) h (by rw [qv_lowF (by have := h.1; omega)]; rfl)
@[simp] theorem qv_int (i : Int) : qv (i, 1) = (i : Rat) := by
  unfold qv
  simp only
  rw [Rat.intCast_one]
  grind
end CT
namespace CT
open PySem L2
/-! ## three names at once -/
@[simp] theorem ev_par3 {i j l : Nat} {a b c : Fn D} {σ : Sd} {m : Ms} : xPar3 i j l a b c σ m = (a σ m).go σ fun x m1 => (b σ m1).go σ fun y m2 => (c σ m2).go σ fun z m3 => .nx (((σ.set i (some x)).set j (some y)).set l (some z)) m3 := rfl
end CT
namespace CT
open PySem L2
/-! ## parts and arrows, and how big they grow -/
abbrev Q := Int × Int
abbrev Ar := Q × Q
/-- a part in lowest terms, of so many bits -/
def Gd (n : Nat) (p : Q) : Prop := Bits n p ∧ Lo p
theorem Gd.mono {n k : Nat} {p : Q} (h : Gd n p) (hk : n ≤ k) : Gd k p := ⟨h.1.mono hk, h.2⟩
theorem c_add {a b : Int} {n : Nat} (ha : a.natAbs < 2 ^ n) (hb : b.natAbs < 2 ^ n) : (a + b).natAbs < 2 ^ (n + 1) := by
  have := Int.natAbs_add_le a b
  rw [Nat.pow_succ]
  omega
theorem c_sub {a b : Int} {n : Nat} (ha : a.natAbs < 2 ^ n) (hb : b.natAbs < 2 ^ n) : (a - b).natAbs < 2 ^ (n + 1) := by
  have := Int.natAbs_sub_le a b
  rw [Nat.pow_succ]
  omega
theorem c_mul {a b : Int} {n k : Nat} (ha : a.natAbs < 2 ^ n) (hb : b.natAbs < 2 ^ k) : (a * b).natAbs < 2 ^ (n + k) := wide_lt ha hb
theorem c_up {a : Int} {n k : Nat} (ha : a.natAbs < 2 ^ n) (h : n ≤ k) : a.natAbs < 2 ^ k := Nat.lt_of_lt_of_le ha (Nat.pow_le_pow_right (by decide) h)
theorem Bits.pos {n : Nat} {p : Q} (h : Bits n p) : 0 < n := by
  rcases Nat.eq_zero_or_pos n with rfl | h0
  · have := h.2.1; have := h.2.2; simp at *; omega
  · exact h0
section
variable {n k : Nat} {p q : Q}
theorem bz_plus0 (hp : Bits n p) (hq : Bits k q) : (p.1 * q.2 + q.1 * p.2).natAbs < 2 ^ (n + k + 1) := c_add (c_mul hp.1 hq.2.1) (by rw [Nat.add_comm]; exact c_mul hq.1 hp.2.1)
theorem bz_less0 (hp : Bits n p) (hq : Bits k q) : (p.1 * q.2 - q.1 * p.2).natAbs < 2 ^ (n + k + 1) := c_sub (c_mul hp.1 hq.2.1) (by rw [Nat.add_comm]; exact c_mul hq.1 hp.2.1)
theorem bz_un (hp : Bits n p) (hq : Bits k q) : (p.2 * q.2).natAbs < 2 ^ (n + k) := c_mul hp.2.1 hq.2.1
theorem bz_ne (hp : Bits n p) (hq : Bits k q) : p.2 * q.2 ≠ 0 := Int.ne_of_gt (Int.mul_pos hp.2.2 hq.2.2)
theorem bz_plus (hp : Bits n p) (hq : Bits k q) : Bits (n + k + 1) (plusF p q) := lowF_bits (bz_plus0 hp hq) (c_up (bz_un hp hq) (by omega)) (bz_ne hp hq)
theorem bz_less (hp : Bits n p) (hq : Bits k q) : Bits (n + k + 1) (lessF p q) := lowF_bits (bz_less0 hp hq) (c_up (bz_un hp hq) (by omega)) (bz_ne hp hq)
theorem bz_times (hp : Bits n p) (hq : Bits k q) : Bits (n + k) (timesF p q) := lowF_bits (c_mul hp.1 hq.1) (bz_un hp hq) (bz_ne hp hq)
theorem Gd.plus (hp : Gd n p) (hq : Gd k q) : Gd (n + k + 1) (plusF p q) := ⟨bz_plus hp.1 hq.1, plusF_lo hp.2 hq.2⟩
theorem Gd.less (hp : Gd n p) (hq : Gd k q) : Gd (n + k + 1) (lessF p q) := ⟨bz_less hp.1 hq.1, lessF_lo hp.2 hq.2⟩
theorem Gd.times (hp : Gd n p) (hq : Gd k q) : Gd (n + k) (timesF p q) := ⟨bz_times hp.1 hq.1, timesF_lo hp.2 hq.2⟩
end
theorem gd_low {n : Nat} {a b : Int} (ha : a.natAbs < 2 ^ n) (hb : b.natAbs < 2 ^ n) (h0 : b ≠ 0) : Gd n (lowF a b) := ⟨lowF_bits ha hb h0, lowF_lo h0⟩
def dA (a : Ar) : D := .tup [dP a.1, dP a.2]
def GA (n : Nat) (a : Ar) : Prop := Gd n a.1 ∧ Gd n a.2
theorem GA.mono {n k : Nat} {p : Ar} (h : GA n p) (hk : n ≤ k) : GA k p := ⟨h.1.mono hk, h.2.mono hk⟩
section
variable {m : Ms} {n : Nat} {p : Q} {a : Ar}
@[simp] theorem dr_dP : dr m (dP p) = dP p := rfl
@[simp] theorem dr_dA : dr m (dA a) = dA a := rfl
@[simp] theorem cf_dA : D.cf n (dA a) = true := rfl
@[simp] theorem ix_dP0 : oIx (dP p) (.int 0) m = .ok (.int p.1) m := by simp [dP]
@[simp] theorem ix_dP1 : oIx (dP p) (.int 1) m = .ok (.int p.2) m := by simp [dP]
@[simp] theorem ix_dA0 : oIx (dA a) (.int 0) m = .ok (dP a.1) m := by simp [dA]
@[simp] theorem ix_dA1 : oIx (dA a) (.int 1) m = .ok (dP a.2) m := by simp [dA]
@[simp] theorem frz_dP : frz n m (dP p) = some (dP p) := rfl
@[simp] theorem frz_dA : frz n m (dA a) = some (dA a) := rfl
end
theorem pl_dA {n : Nat} {a : Ar} : Pl (n + 2) (dA a) := pl_tup (by simp) fun x hx => by
  simp at hx
  rcases hx with rfl | rfl <;> exact pl_dP
def sumA (a b : Ar) : Ar := (plusF a.1 b.1, plusF a.2 b.2)
def madeA (a b : Ar) : Ar := (lessF (timesF a.1 b.1) (timesF a.2 b.2), plusF (timesF a.1 b.2) (timesF a.2 b.1))
section
variable {n k : Nat} {a b : Ar} {p : Q}
theorem GA.sum (ha : GA n a) (hb : GA k b) : GA (n + k + 1) (sumA a b) := ⟨ha.1.plus hb.1, ha.2.plus hb.2⟩
theorem GA.made (ha : GA n a) (hb : GA k b) : GA (2 * (n + k) + 1) (madeA a b) := ⟨((ha.1.times hb.1).less (ha.2.times hb.2)).mono (by omega), ((ha.1.times hb.2).plus (ha.2.times hb.1)).mono (by omega)⟩
end
end CT
namespace CT
open PySem L2
/-! ## holding parts and arrows against each other -/
theorem eqv_dP (p q : Q) : PyData.eqv (toP (dP p)) (toP (dP q)) = decide (p = q) := by
  obtain ⟨a, b⟩ := p
  obtain ⟨c, d⟩ := q
  simp only [dP, toP, toPs, PyData.eqv, PyData.eqvAll, dec_beq, Bool.and_true, Prod.mk.injEq]
  rw [Bool.decide_and]
theorem eqv_dA (p q : Ar) : PyData.eqv (toP (dA p)) (toP (dA q)) = decide (p = q) := by
  obtain ⟨a, b⟩ := p
  obtain ⟨c, d⟩ := q
  show PyData.eqv (.tuple [toP (dP a), toP (dP b)]) (.tuple [toP (dP c), toP (dP d)]) = _
  rw [PyData.eqv, PyData.eqvAll, PyData.eqvAll, PyData.eqvAll, eqv_dP, eqv_dP, Bool.and_true]
  simp
section
variable {m : Ms}
@[simp] theorem eq_dP {p q : Q} : oEq (dP p) (dP q) m = .ok (.bl (decide (p = q))) m := by
  unfold oEq
  rw [(pl_dP (n := 0)).eqOk, (pl_dP (n := 0)).eqOk, Bool.and_self, if_pos rfl, eqv_dP]
@[simp] theorem ne_dP {p q : Q} : oNe (dP p) (dP q) m = .ok (.bl (!decide (p = q))) m := by
  unfold oNe
  rw [(pl_dP (n := 0)).eqOk, (pl_dP (n := 0)).eqOk, Bool.and_self, if_pos rfl, eqv_dP]
@[simp] theorem eq_dA {p q : Ar} : oEq (dA p) (dA q) m = .ok (.bl (decide (p = q))) m := by
  unfold oEq
  rw [(pl_dA (n := 0)).eqOk, (pl_dA (n := 0)).eqOk, Bool.and_self, if_pos rfl, eqv_dA]
@[simp] theorem ne_dA {p q : Ar} : oNe (dA p) (dA q) m = .ok (.bl (!decide (p = q))) m := by
  unfold oNe
  rw [(pl_dA (n := 0)).eqOk, (pl_dA (n := 0)).eqOk, Bool.and_self, if_pos rfl, eqv_dA]
end
end CT
namespace CT
open PySem PySem.W PySem.Spec PySem.Calls PyProof.Rows
/-- an exception held against a tuple of classes, however long -/
theorem exm_tupL {M : Model} {K : Frag} {cs : List Value} {cls : Value} {tp e : Addr} {b : Bool} {h : Heap} (X : K.In h) (LT : Looks M h (typeOf (.ref e)) cls) {dd : Option Addr} {nn : Nat} {sl : Array (Option Value)} (hp : h.get? tp = some { cls := .type "tuple", dict := dd, data := .seq cs.toArray nn, slots := sl }) (hx : exmAny K cls cs = some b) :
    Looks M h (excMatches (.ref e) (.ref tp)) b := by
  intro A Q E s k₀ q
  obtain ⟨hh, g, d, tk, os⟩ := s
  have k : ∀ b o, h.get? b = some o → hh.get? b = some o := k₀
  have LT0 : Looks M h (isInstance (.ref tp) (.type "tuple")) true := ((Looks.ld hp).andThen .now).andThen (Looks.of_pure isSubtype_tuple_tuple)
  have LT := LT.keeps k
  have LT0 := LT0.keeps k
  have hp' := k _ _ hp
  unfold excMatches
  refine wpAny_bind (LT0.at ?_)
  dsimp only
  rw [if_pos rfl]
  refine wpAny_bind (wpAny_seqItems hp' rfl ?_)
  dsimp only [Option.getD_some, Option.getD]
  refine wpAny_bind (wpAny_pure ?_)
  refine wpAny_bind (wpAny_mono (Q := fun _ s' => s' = ⟨hh, g, d, tk, os⟩) ?_ (fun u s' hs => ?_) fun _ _ z => z)
  · clear hp hp' LT0 q
    show wpAny M A (forIn cs _ _) _ E _
    induction cs generalizing b with
    | nil => exact wpAny_pure rfl
    | cons c r ih =>
      obtain ⟨b1, d1, h1, h2, -⟩ := exmAny_cons hx
      obtain ⟨e1, _⟩ := exm_cls (M := M) X h1
      have e1 := e1.keeps k
      have hr := ih h2
      rw [List.forIn_cons]
      refine wpAny_bind (wpAny_bind (e1.at ?_))
      rw [if_neg (by decide)]
      exact wpAny_pure hr
  · subst hs
    refine wpAny_bind (LT.at ?_)
    refine wpAny_bind (wpAny_mono (Q := fun r s' => s' = ⟨hh, g, d, tk, os⟩ ∧ r.1 = if b = true then some true else none) ?_ (fun u s' hs => ?_) fun _ _ z => z)
    · clear hp hp' LT0 q
      show wpAny M A (forIn cs _ _) _ E _
      induction cs generalizing b with
      | nil =>
        have : some false = some b := hx
        cases this
        exact wpAny_pure ⟨rfl, rfl⟩
      | cons c r ih =>
        obtain ⟨b1, d1, h1, h2, rfl⟩ := exmAny_cons hx
        obtain ⟨_, S1⟩ := exm_cls (M := M) X h1
        have S1 := S1.keeps k
        have hr := ih h2
        rw [List.forIn_cons]
        refine wpAny_bind (wpAny_bind (S1.at ?_))
        cases b1 with
        | true =>
          rw [if_pos rfl]
          exact wpAny_pure (wpAny_pure ⟨rfl, rfl⟩)
        | false =>
          rw [if_neg (by decide)]
          rw [Bool.false_or]
          exact wpAny_pure hr
    · obtain ⟨rfl, e⟩ := hs
      rw [e]
      cases b with
      | true => exact wpAny_pure q
      | false => exact wpAny_pure q
end CT
namespace CT
open PySem PySem.Spec PyProof.Rows L2
/-! ## try, with several clauses, tuples of classes, a name -/
theorem flyZ_keeps {B h h' : Heap} {l : List Env} {e : Addr} {Z : Obj → Prop} (x : HandSPX.FlyingZ B l e Z h) (k : ∀ b o, h.get? b = some o → h'.get? b = some o) : HandSPX.FlyingZ B l e Z h' := by
  obtain ⟨f1, f2, f3, oe, vs, T, oT, ts, he, hz, hd, h1, hnT, hTe, hT, hdT, h3⟩ := x
  exact ⟨fun b o q => k b o (f1 b o q), f2, f3.of_keeps fun b o q _ => ⟨o, k b o q, rfl⟩, oe, vs, T, oT, ts, k _ _ he, hz, hd, h1, hnT, hTe, k _ _ hT, hdT, h3⟩
inductive NamesAll (X : Cx) : List Expr → List Value → Prop
  | nil : NamesAll X [] []
  | cons {x : Str} {c : Value} {p : Pos} {es : List Expr} {cs : List Value} : Names X x c → NamesAll X es cs → NamesAll X (.Name x p :: es) (c :: cs)
theorem NamesAll.length {X : Cx} : ∀ {es : List Expr} {cs : List Value}, NamesAll X es cs → es.length = cs.length
  | _, _, .nil => rfl
  | _, _, .cons _ r => by simp [r.length]
inductive TestOk (X : Cx) : Expr → List Value → Prop
  | one {x : Str} {c : Value} {p : Pos} : Names X x c → TestOk X (.Name x p) [c]
  | tup {es : List Expr} {cs : List Value} {kk : Nat} {p : Pos} : NamesAll X es cs → cs.length ≤ 100000 → TestOk X (.Tuple es kk p) cs
section
variable {X : Cx} {a : Addr} {pn : List (Addr × Obj)} {σ : L2.St} {H : Hp} {s : Shared}
theorem name_run {x : Str} {c : Value} {p : Pos} {Q : Value → Shared → Prop} {E : Value → Shared → Prop} (hc : Names X x c) (S : Inv (X.suite a pn) [] σ H s) (q : Q c s) : wpAny (model X.prog X.w) (X.A.mark (some (.ref a))) (eval (.Name x p) X.env) Q E s := by
  obtain ⟨hg, hdbg, hm | ⟨hm, hv, hnn⟩⟩ := hc
  · exact ld_glob (X := X.suite a pn) S hg hm q hdbg
  · exact ld_blt (X := X.suite a pn) S hg hm hv q hnn hdbg
theorem names_run {pos : Pos} {E : Value → Shared → Prop} (S : Inv (X.suite a pn) [] σ H s) : ∀ {es : List Expr} {cs : List Value} {Q : List Value → Shared → Prop}, NamesAll X es cs → Q cs s → wpAny (model X.prog X.w) (X.A.mark (some (.ref a))) (spliced (backTo pos (starEach es X.env))) Q E s
  | _, _, _, .nil, q => wpAny_items_nil q
  | _, _, _, .cons hc r, q => wpAny_items_cons (name_run hc S (names_run S r q)) (by rfl)
theorem test_run {tt : Expr} {cs : List Value} {cls : Value} {b : Bool} {Q : Bool → Shared → Prop} {E : Value → Shared → Prop} (hT : TestOk X tt cs) (S : Inv (X.suite a pn) [] σ H s)
    (LT : PySem.W.Looks (model X.prog X.w) s.heap (typeOf (.ref a)) cls) (hx : PySem.W.exmAny X.K cls cs = some b) (q : ∀ h', (∀ b o, s.heap.get? b = some o → h'.get? b = some o) → Q b { s with heap := h' }) :
    wpAny (model X.prog X.w) (X.A.mark (some (.ref a))) (eval tt X.env) (fun c s1 => wpAny (model X.prog X.w) (X.A.mark (some (.ref a))) (excMatches (.ref a) c) Q E s1) E s := by
  cases hT with
  | one hc =>
    refine name_run hc S ?_
    obtain ⟨b1, d1, h1, h2, rfl⟩ := PySem.W.exmAny_cons hx
    have : some false = some d1 := h2
    cases this
    rw [Bool.or_false] at q
    exact (PySem.W.exm_one S.kIn LT h1).here (q s.heap fun _ _ z => z)
  | @tup es cs kk p hn hl =>
    refine wpAny_Tuple (names_run S hn ?_)
    refine ⟨Evl.sz_of hl, ?_⟩
    have kp : ∀ q o, s.heap.get? q = some o → (s.heap.push { cls := .type "tuple", data := .seq cs.toArray }).get? q = some o := fun _ _ z => Heap.get?_push_of_some _ z
    exact (exm_tupL (S.kIn.keeps kp) (LT.keeps kp) (Heap.get?_push_size s.heap rfl) hx).here (q _ kp)
end
/-- what the clauses wish of an exception of the body, one after the other; slot i is their name's -/
def wManyA (K : PySem.W.Frag) (Wout : WX) (D : Ends) (i nn : Nat) : List (List Value × (Addr → Value → Option Addr → TS)) → WX
  | [] => Wout
  | (cs, ts) :: r => fun cls d σ H => ∃ b, PySem.W.exmAny K cls cs = some b ∧
    (b = true → ∀ a, H a = none → σ.length = nn → ts a cls d { nx := fun σ' H' => D.nx (σ'.set i none) H', rt := D.rt, bk := fun σ' H' => D.bk (σ'.set i none) H', ct := fun σ' H' => D.ct (σ'.set i none) H' } (σ.set i (some (.ref a))) H) ∧
    (b = false → wManyA K Wout D i nn r cls d σ H)
inductive HdsA (X : Cx) (n : Str) : List ExceptHandler → List (List Value × (Addr → Value → Option Addr → TS)) → Prop
  | nil : HdsA X n [] []
  | cons {tt : Expr} {cs : List Value} {ts : Addr → Value → Option Addr → TS} {b₀ : Stmt} {suite : List Stmt} {pos' : Pos} {hds : List ExceptHandler} {l : List (List Value × (Addr → Value → Option Addr → TS))} (hc : TestOk X tt cs)
      (hsu : ∀ (a : Addr) (oe : Obj) (cls : Value) (d : Option Addr) (pn : List (Addr × Obj)), Zc cls d oe → (∃ vs, oe.data = .fields vs) → PSs (X.suite a ((a, oe) :: pn)) (b₀ :: suite) (ts a cls d)) (r : HdsA X n hds l) :
      HdsA X n (.ExceptHandler (some tt) (some n) (b₀ :: suite) pos' :: hds) ((cs, ts) :: l)
section
variable {X : Cx} {body : List Stmt} {h₀ : ExceptHandler} {hds : List ExceptHandler} {l : List (List Value × (Addr → Value → Option Addr → TS))} {pos : Pos} {tb : WX → TS} {Wout : WX} {i : Nat} {n : Str}
theorem ps_tryA (hs : X.stack = X.env :: X.outer) (hf : X.env.frame = some X.env.locals) (hN : X.N.Nodup) (hi : X.N[i]? = some n) (hln : X.env.kindOf n = some .local) (tk : Takes X Wout)
    (hb : ∀ (W : WX) (pn : List (Addr × Obj)) (xe : Value → Shared → Prop), Takes (X.tr pn xe) W → PassesOwn (model X.prog X.w) X.A X.env xe → PSs (X.tr pn xe) body (tb W))
    (hh : HdsA X n (h₀ :: hds) l) : PS X (.Try body (h₀ :: hds) [] [] pos) (fun D σ H => tb (wManyA X.K Wout D i X.N.length l) D σ H) := by
  refine ⟨fun pins s σ H D I h => ?_⟩
  have ok := I.ok
  have hfr : X.A.frames = some (X.env :: X.outer) := by rw [ok.frames, hs]
  have hloc : Loc X.env.scope n := .inl hln
  refine wpAny_Try_except ?_
  refine wpAny_mono ((hb (wManyA X.K Wout D i X.N.length l) (X.pn ++ pins) (fun e s₁ => wpAny (model X.prog X.w) X.A (noteFrame e X.env) (fun _ s₂ => wpAny (model X.prog X.w) X.A (setFlight e none) (fun _ s₃ =>
    wpAny (model X.prog X.w) X.A (handleBy e X.env (h₀ :: hds)) (SP X pins D) X.xe s₃) X.xe s₂) X.xe s₁) (fun u s' xx => ?_) PassesOwn.looking).run [] s σ H D (I.toTry _) h) (fun f s1 hsp => ?_) (fun e s1 he => he)
  · obtain ⟨a, B, sI, pins', σ', H', cls, d, rfl, J', nb, up, sky, na, os, ag, w⟩ := xx
    have J : Inv X pins σ' H' sI := J'.ofTry ok
    have sky' : Sky B (X.env :: X.outer) a (Zc cls d) X.env.locals s'.heap := by rw [← hs]; exact sky
    show wpAny (model X.prog X.w) X.A (noteFrame (.ref a) X.env) _ _ _
    refine Sky.land Zc.steady hfr hf sky' fun h3 fl3 up3 => ?_
    have notFr : ∀ {h : Heap} {o : Obj} {vs : Array Value}, h.FunFrames B (X.env :: X.outer) → h.get? a = some o → o.data = .fields vs → a ∉ frs (X.env :: X.outer) := fun {h o vs} ff e dd hm => by
      obtain ⟨_, o', e', hnf⟩ := ff.mem hm
      rw [e] at e'; cases e'
      exact hnf _ dd
    have go : ∀ {hds' : List ExceptHandler} {l' : List (List Value × (Addr → Value → Option Addr → TS))}, HdsA X n hds' l' → ∀ h3, HandSPX.FlyingZ B (X.env :: X.outer) a (Zc cls d) h3 → s'.heap.UpToSlots h3 → wManyA X.K Wout D i X.N.length l' cls d σ' H' →
        wpAny (model X.prog X.w) X.A (handleBy (.ref a) X.env hds') (SP X pins D) X.xe { s' with heap := h3 } := by
      intro hds' l' hk
      induction hk with
      | nil =>
        intro h3 fl3 up3 w
        have J3 : Inv X pins σ' H' { s' with heap := h3 } := J.landed nb fl3.1 (up.trans up3) os ag
        refine wpAny_handleBy_nil ?_
        obtain ⟨k1, k2, k3, oe, vs, T, oT, ts', he, hz, hd, h1, hr⟩ := id fl3
        unfold PySem.passOn
        refine wpAny_bind (wpAny_field he hd h1 ?_)
        rw [if_neg (show ¬ ((Value.ref T == Value.none) = true) from by simp)]
        have fin : wpAny (model X.prog X.w) X.A (setFlight (.ref a) X.env.frame) (fun _ s4 => wpAny (model X.prog X.w) X.A (throw (.ref a) : Sem Flow) (SP X pins D) X.xe s4) X.xe { s' with heap := h3 } := by
          rw [hf]
          refine HandSPX.setFlight_upZ fl3 fun h4 hh4 up4 => wpAny_throw (tk _ _ ?_)
          exact ⟨a, B, sI, pins, σ', H', cls, d, rfl, J, nb, (up.trans up3).trans up4, .inr (.inr (by rw [hs]; exact hh4)), na, os, ag, w⟩
        first
          | exact wpAny_bind (wpAny_pure (wpAny_bind fin))
          | exact wpAny_bind fin
      | @cons tt cs ts b₀ suite pos' hds2 l2 hc hsu r ih =>
        intro h3 fl3 up3 w
        have J3 : Inv X pins σ' H' { s' with heap := h3 } := J.landed nb fl3.1 (up.trans up3) os ag
        obtain ⟨oe3, vs3, he3, hz3, hd3⟩ := fl3.there
        have nfr := notFr fl3.2.2.1 he3 hd3
        have nL : a ≠ X.env.locals := fun z => nfr (List.mem_filterMap.mpr ⟨X.env, List.mem_cons_self, by rw [hf, z]⟩)
        have nF : a ∉ X.fs := fun hm => by
          obtain ⟨e, he, q⟩ := List.mem_filterMap.mp hm
          exact nfr (List.mem_filterMap.mpr ⟨e, List.mem_cons_of_mem _ he, q⟩)
        have S3 := J3.suite he3 hd3 na nL nF
        obtain ⟨b, hb1, hyes, hno⟩ := w
        refine wpAny_handleBy_cons (codeAny_handlers_test ?_) (by intro q; cases q)
        have LT : PySem.W.Looks (model X.prog X.w) h3 (typeOf (.ref a)) cls := fun A Q E s k q => wpAny_typeOf_ref (k _ _ he3) (by rw [hz3.1]; exact q)
        refine test_run hc S3 LT hb1 fun h4 kp => ?_
        have fl4 := flyZ_keeps fl3 kp
        have up4 : s'.heap.UpToSlots h4 := up3.trans (Heap.UpToSlots.of_keeps kp)
        cases b with
        | true =>
          refine codeAny_handlers_suite_as ?_
          refine HandSPX.lands_againZ fl4 fun h5 fl5 up5 => ?_
          have J5 : Inv X pins σ' H' { s' with heap := h5 } := J.landed nb fl5.1 ((up.trans up4).trans up5) os ag
          obtain ⟨oe5, vs5, he5, hz5, hd5⟩ := fl5.there
          have S5 := J5.suite he5 hd5 na nL nF
          refine store_ok (X := X.suite a ((a, oe5) :: (X.pn ++ pins))) (v := .ref a) S5 hN hi hloc rfl (fun s6 S6 => ?_) (.inr hln)
          refine wpAny_mono ((hsu a oe5 cls d (X.pn ++ pins) hz5 ⟨_, hd5⟩).run [] s6 _ H' _ S6 (hyes rfl a na J.len)) (fun f s7 hsp => ?_) (fun _ _ z => False.elim z)
          have end_ : ∀ {σ6 : L2.St} {H6 : Hp} {Q : Shared → Prop}, Inv (X.suite a ((a, oe5) :: (X.pn ++ pins))) [] σ6 H6 s7 → (∀ s8, Inv X pins (σ6.set i none) H6 s8 → Q s8) →
              wpAny (model X.prog X.w) X.A (do bindName X.env n .none; unbindBehindTheSuite X.env n pos') (fun _ s8 => Q s8) X.xe s7 := fun {σ6 H6 Q} S7 hq => gone_ok (S7.unsuite ok) hN hi hln hq
          cases f with
          | next =>
            obtain ⟨σ6, H6, S7, q6⟩ := hsp
            exact end_ S7 fun s8 J8 => ⟨_, _, J8, q6⟩
          | brk =>
            obtain ⟨σ6, H6, S7, q6⟩ := hsp
            exact end_ S7 fun s8 J8 => ⟨_, _, J8, q6⟩
          | cont =>
            obtain ⟨σ6, H6, S7, q6⟩ := hsp
            exact end_ S7 fun s8 J8 => ⟨_, _, J8, q6⟩
          | ret u =>
            obtain ⟨v6, σ6, H6, S7, r6, q6⟩ := hsp
            exact end_ S7 fun s8 J8 => ⟨_, _, _, J8, r6, q6⟩
        | false =>
          show wpAny _ X.A (handleBy (.ref a) X.env hds2) _ _ _
          exact ih h4 fl4 up4 (hno rfl)
    exact go hh h3 fl3 up3 w
  · cases f with
    | next =>
      obtain ⟨σ', H', J', q⟩ := hsp
      exact wpAny_execs_nil ⟨σ', H', J'.ofTry ok, q⟩
    | brk =>
      obtain ⟨σ', H', J', q⟩ := hsp
      exact ⟨σ', H', J'.ofTry ok, q⟩
    | cont =>
      obtain ⟨σ', H', J', q⟩ := hsp
      exact ⟨σ', H', J'.ofTry ok, q⟩
    | ret u =>
      obtain ⟨v, σ', H', J', r, q⟩ := hsp
      exact ⟨v, σ', H', J'.ofTry ok, r, q⟩
end
end CT
namespace CT
open PySem PySem.Spec PyProof.Rows L2
/-! ## own exceptions: made and raised -/
def fsE {κ : Type} (z : κ) (fl : List Str) (ws : List κ) : List (Str × κ) := (fl.zip ws).reverse ++ [(Str.ofString "called", z)]
def spE (K : PySem.W.Frag) (C : Addr) (z : Str) (fl : List Str) : Sp := fun vs H Q E => ∃ (a : Addr) (ws : List V), vs = .ref a :: ws ∧ ws.length = fl.length ∧ H a = some (exo a C none) ∧
  ∀ d, H d = none → d ≠ a → Q .non (upd (upd H d (exd d (fsE (.str z) fl ws))) a (exo a C (some d)))
theorem upd_over {H : Hp} {a d : Addr} {o1 o2 u : HO} (h : d ≠ a) : upd (upd (upd H d o1) a u) d o2 = upd (upd H d o2) a u := by
  funext b
  by_cases hb : b = d
  · subst hb
    rw [upd_same, upd_ne h, upd_same]
  · rw [upd_ne hb]
    by_cases ha : b = a
    · subst ha
      rw [upd_same, upd_same]
    · rw [upd_ne ha, upd_ne ha, upd_ne hb, upd_ne hb]
section
variable {P : Program} {w : World} {K : PySem.W.Frag} {mg : Str → Option Value} {base : Heap} {st : Stmt} {f C : Addr} {qual z : Str} {oc od' dV kV doc pm cdv ct : Value} {od an : Option Addr} {osl : Array (Option Value)} {j : Nat}
  {p1 p2 p3 p4 p5 p6 p7 p8 p9 p10 p11 p12 : Pos}
theorem ini0 (lk : K.lookup f = some ⟨oc, od, .func (PySem.W.fnOf "__init__" qual (defArgs st) (defBody st) (defScope st) dV kV doc pm an cdv ct), osl⟩) (hcd : PySem.W.codeIn K cdv qual = true) (S : FnScope ["self"] ["self"] (defScope st))
    (T : OexC K C) (n0 : PySem.W.findIn K (.ref C) "called" = some none) (hv : Vis (defScope st) "self")
    (hb : defBody st = [.Assign [.Attribute (.Name "self" p1) "called" p2] (.Constant (.str z) j p3) p4]) :
    FnOk P w K mg base (L2.CX P w) 1 f (PySem.W.fnOf "__init__" qual (defArgs st) (defBody st) (defScope st) dV kV doc pm an cdv ct) ["self"] (spE K C z []) := by
  refine fn_of lk hcd S (fun vs H Q E ⟨a, ws, e, l, _⟩ => by rw [e]; simp [l]) fun A outer s H vs Q E hr ⟨a, ws, e, l, ha, q⟩ => ?_
  rw [hb]
  let X : Cx := cxOf (L2.CX P w) P w K mg base ["self"] qual (defScope st) f cdv A outer s H E
  have hs : PE X (.Name "self" p1) (tVar 0) := pe_var rfl hv
  have h1 : PE X (.Constant (.str z) j p3) (tC (.str z)) := pe_str
  refine ⟨_, pss_one (ps_ost hs h1), ?_⟩
  subst e
  obtain rfl : ws = [] := List.length_eq_zero_iff.mp l
  exact ⟨_, rfl, a, C, rfl, T, n0, .inl ⟨ha, fun d hd hda => q d hd hda⟩⟩
theorem ini1 {x1 : Str} (lk : K.lookup f = some ⟨oc, od, .func (PySem.W.fnOf "__init__" qual (defArgs st) (defBody st) (defScope st) dV kV doc pm an cdv ct), osl⟩) (hcd : PySem.W.codeIn K cdv qual = true) (S : FnScope ["self", x1] ["self", x1] (defScope st))
    (T : OexC K C) (n0 : PySem.W.findIn K (.ref C) "called" = some none) (n1 : PySem.W.findIn K (.ref C) x1 = some none) (hv : Vis (defScope st) "self") (hv1 : Vis (defScope st) x1) (hd1 : (x1 == ("__debug__" : Str)) = false) (hc1 : (x1 == ("__classdict__" : Str)) = false)
    (hb : defBody st = [.Assign [.Attribute (.Name "self" p1) "called" p2] (.Constant (.str z) j p3) p4, .Assign [.Attribute (.Name "self" p5) x1 p6] (.Name x1 p7) p8]) (hsw : ∀ env, swapsWith (.Name x1 p7) (some (.Attribute (.Name "self" p5) x1 p6)) p8.line env = pure false := by intro _; rfl) :
    FnOk P w K mg base (L2.CX P w) 1 f (PySem.W.fnOf "__init__" qual (defArgs st) (defBody st) (defScope st) dV kV doc pm an cdv ct) ["self", x1] (spE K C z [x1]) := by
  refine fn_of lk hcd S (fun vs H Q E ⟨a, ws, e, l, _⟩ => by rw [e]; simp [l]) fun A outer s H vs Q E hr ⟨a, ws, e, l, ha, q⟩ => ?_
  rw [hb]
  let X : Cx := cxOf (L2.CX P w) P w K mg base ["self", x1] qual (defScope st) f cdv A outer s H E
  have hs : PE X (.Name "self" p1) (tVar 0) := pe_var rfl hv
  have hs' : PE X (.Name "self" p5) (tVar 0) := pe_var rfl hv
  have h1 : PE X (.Constant (.str z) j p3) (tC (.str z)) := pe_str
  have h2 : PE X (.Name x1 p7) (tVar 1) := pe_var rfl hv1 hd1 hc1
  refine ⟨_, pss_cons (ps_ost hs h1) (pss_one (ps_ost hs' h2 (hsw _))), ?_⟩
  subst e
  obtain ⟨w1, rfl⟩ : ∃ w1, ws = [w1] := by
    match ws, l with
    | [w1], _ => exact ⟨w1, rfl⟩
  refine ⟨_, rfl, a, C, rfl, T, n0, .inl ⟨ha, fun d hd hda => ?_⟩⟩
  refine ⟨w1, rfl, _, rfl, a, C, rfl, T, n1, .inr ⟨d, _, upd_same, by rw [upd_ne hda, upd_same], by simp, ?_⟩⟩
  rw [upd_over hda]
  exact q d hd hda
end
end CT
namespace CT
open PySem PySem.Spec PyProof.Rows L2
/-! ## raise -/
section
variable {X : Cx} {p pos : Pos}
/-- C() -/
theorem pmk_oex0 {CX : CXT} {x : Str} {C fI : Addr} {k : Nat} {fd : FuncData} {ps : List Str} {sp : Sp} (T : OexC X.K C) (iC : PySem.W.findIn X.K (.ref C) "__init__" = some (some (.ref fI))) (tI : PySem.W.typeIn X.K (.ref fI) = some (.type "function"))
    (F1 : FnOk X.prog X.w X.K X.mg X.base CX k fI fd ps sp) (hr : Room (k + 1) X.A) (hb : Binds X.K fd ps []) (hx : Passes CX X (fun _ _ _ => False)) (hg : Gl X x) (hm : X.mg x = some (.ref C))
    (hdb : (x == ("__debug__" : Str)) = false := by decide) :
    PMk X (.Call (.Name x p) [] [] pos) (tMkO C sp [] tNil) := by
  intro pins s σ H Q I h
  obtain ⟨nm, q, N, bs, bm, sn, sub, ab, col, dd, k0, k1, k2, k3, k5, hC, hbm⟩ := T.cls
  refine wpAny_Call_Name_kw (ld_glob I hg hm ?_ hdb)
  refine PySem.W.callWith_K0 I.kIn T.kC ?_
  obtain ⟨hz, q1⟩ := h
  obtain ⟨hp, g, dr, tk, os⟩ := s
  have hsz : hp.objs.size ≤ hp.objs.size + 1 := Nat.le_succ _
  have hn : H (hp.objs.size + 1) = none := I.hok.fresh hsz
  have hq := q1 (hp.objs.size + 1) hn
  have kk : ∀ b o, hp.get? b = some o → ((hp.push (PySem.W.kdv_tup [])).push (PySem.HandSPX.excO C hp.objs.size)).get? b = some o := fun b o e => Heap.get?_push_of_some _ (Heap.get?_push_of_some _ e)
  have hget : ((hp.push (PySem.W.kdv_tup [])).push (PySem.HandSPX.excO C hp.objs.size)).get? (hp.objs.size + 1) = some (PySem.HandSPX.excO C hp.objs.size) := by heap_get
  have I2 : Inv X pins σ (upd H (hp.objs.size + 1) (exo (hp.objs.size + 1) C none)) ⟨(hp.push (PySem.W.kdv_tup [])).push (PySem.HandSPX.excO C hp.objs.size), g, dr, tk, os⟩ :=
    I.laid (t' := tk) (a := hp.objs.size + 1) (o := exo (hp.objs.size + 1) C none) (h' := (hp.push (PySem.W.kdv_tup [])).push (PySem.HandSPX.excO C hp.objs.size)) kk hsz (exo_ok hget)
  have r2 : Vals [V.ref (hp.objs.size + 1)] [Value.ref (hp.objs.size + 1)] := .cons rfl .nil
  have hl : (Value.ref (hp.objs.size + 1) :: [] ++ ([] : List Value)).length = ps.length := by
    have e := F1.len _ _ _ _ hq
    exact e
  refine wpAny_call (PySem.HandSPX.call_own (rest := []) F.excBase_ValueError (fun Y => PySem.HandSPX.refsVE_contains Y bm hbm) (I.kIn _ _ hC) (PySem.W.looks_findIn I.kIn iC) (fun self => PySem.W.bind_fn I.kIn self tI) (by decide)
    (codeAny_mono (F1.run _ X.stack _ _ ⟨Value.ref (hp.objs.size + 1) :: [], []⟩ [Value.ref (hp.objs.size + 1)] _ _ (fun _ _ _ => False) (hr.make C [] []) (I2.env0.make C [] []) (hb _ (Value.ref (hp.objs.size + 1) :: []) I2.kIn hl) r2 hq) fun r s' hq' => ?_))
  cases r with
  | error er => exact hx pins σ _ _ er s' I2 hq'
  | ok fl =>
    cases fl with
    | ret u =>
      obtain ⟨v, H2, os2, bare2, un2, hok2, rv, ev, d, fs, ea, ed, hd1, q2⟩ := hq'
      subst ev
      obtain ⟨h2, g2, d2, t2, os'⟩ := s'
      exact ⟨rv, mk_end (raises_own T.exC T.tyC) I hsz kk un2 hok2 os2 bare2 ea ed hd1 q2⟩
    | next => exact False.elim hq'
    | brk => exact False.elim hq'
    | cont => exact False.elim hq'
end
/-- a class of exceptions of one's own, by its place -/
structure ExX (G : Lc) (x : Str) (C : Addr) (i : Nat) (z : Str) (fl : List Str) : Prop where
  m : G.mg x = some (.ref C)
  ct : G.K.ct i = C
  T : OexC G.K.K C
  ini : ∃ (fI : Addr) (fd : FuncData) (ps : List Str), PySem.W.findIn G.K.K (.ref C) "__init__" = some (some (.ref fI)) ∧ PySem.W.typeIn G.K.K (.ref fI) = some (.type "function") ∧
    FnOk G.P G.w G.K.K G.mg G.base (L2.CX G.P G.w) 1 fI fd ps (spE G.K.K C z fl) ∧ Binds G.K.K fd ps []
def xRaise (i : Nat) (z : Str) (fl : List Str) (as : Fn (List D)) : Fo := fun σ m => (as σ m).go σ fun ds m1 => if ds.length = fl.length ∧ ds.length ≤ 1000 then .ex ⟨i, fsE (.str z) fl ds⟩ σ m1 else .bad
theorem Flds.app {K : KK} {G : Hp} {α : List Addr} : ∀ {a c : List (Str × V)} {b d : List (Str × D)}, Flds K G α a b → Flds K G α c d → Flds K G α (a ++ c) (b ++ d)
  | _, _, _, _, .nil, h => h
  | _, _, _, _, .cons r t, h => .cons r (Flds.app t h)
theorem Flds.rev {K : KK} {G : Hp} {α : List Addr} : ∀ {a : List (Str × V)} {b : List (Str × D)}, Flds K G α a b → Flds K G α a.reverse b.reverse
  | _, _, .nil => .nil
  | _, _, .cons r t => by
    rw [List.reverse_cons, List.reverse_cons]
    exact (Flds.rev t).app (.cons r .nil)
theorem Flds.zip {K : KK} {G : Hp} {α : List Addr} : ∀ (fl : List Str) {vs : List V} {ds : List D}, Reps K G α vs ds → Flds K G α (fl.zip vs) (fl.zip ds)
  | [], _, _, _ => by simp; exact .nil
  | _ :: _, _, _, .nil => by simp; exact .nil
  | _ :: fl, _, _, .cons r t => .cons r (Flds.zip fl t)
theorem Flds.mk {K : KK} {G : Hp} {α : List Addr} (z : Str) (fl : List Str) {vs : List V} {ds : List D} (r : Reps K G α vs ds) : Flds K G α (fsE (.str z) fl vs) (fsE (.str z) fl ds) := (Flds.zip fl r).rev.app (.cons .str .nil)
theorem Flds.mono {K : KK} {G G' : Hp} {α α' : List Addr} (h : ∀ a o, G a = some o → G' a = some o) (hα : ∀ (c : Nat) (a : Addr), α[c]? = some a → α'[c]? = some a) : ∀ {vs : List (Str × V)} {ds : List (Str × D)}, Flds K G α vs ds → Flds K G' α' vs ds
  | _, _, .nil => .nil
  | _, _, .cons r t => .cons (Rep.mono h hα r) (Flds.mono h hα t)
section
variable {L : Lc}
theorem raise_core {W : WX} {C : Addr} {i : Nat} {z : Str} {fl : List Str} {fa : Fn (List D)} (hct : L.K.ct i = C) {σ : L2.St} {H : Hp} {D : Ends} (h : tO L W (xRaise i z fl fa) D σ H) :
    tMkO C (spE L.K.K C z fl) [] (tS L W (relVs L) fa) σ H (fun cls d H' => W cls d σ H') := by
  obtain ⟨α, β, σd, m, s, q⟩ := h
  refine ⟨α, β, σd, m, s, q.mp fun ds m1 vs H1 α1 e1 s1 r1 q => ?_⟩
  split at q
  rotate_left
  · exact q.elim
  rename_i hl
  refine ⟨by rw [r1.length]; exact hl.2, fun a ha => ⟨a, vs, by simp, by rw [r1.length]; exact hl.1, upd_same, fun d hd hda => ⟨rfl, d, fsE (.str z) fl vs, upd_same, by rw [upd_ne hda, upd_same], ?_, ?_⟩⟩⟩
  · rw [upd_ne hda] at hd
    exact hd
  · have hd' : H1 d = none := by rw [upd_ne hda] at hd; exact hd
    have eH : upd (del (upd (upd (upd H1 a (exo a C none)) d (exd d (fsE (V.str z) fl vs))) a (exo a C (some d))) a) d (.xd (fsE (.str z) fl vs)) = upd H1 d (.xd (fsE (.str z) fl vs)) := by
      funext b
      by_cases hb : b = d
      · subst hb; rw [upd_same, upd_same]
      · rw [upd_ne hb, upd_ne hb]
        by_cases hba : b = a
        · subst hba; rw [del_same, ha]
        · rw [del_ne hba, upd_ne hba, upd_ne hb, upd_ne hba]
    rw [eH]
    have ex := Ext.lay (α := α1) (o := .xd (fsE (V.str z) fl vs)) hd'
    refine q _ _ σ _ α1 ex (s1.ext' ex (s1.cr.lay hd')) ⟨d, fsE (.str z) fl vs, by rw [hct], rfl, hid_mk upd_same (s1.cr.freshB hd'), Flds.mono ex.hid ex.ix (Flds.mk z fl r1)⟩
theorem s_raise0 {x : Str} {C : Addr} {i : Nat} {z : Str} {p pos pos' : Pos} (hg : Glb L x) (hk : 2 ≤ L.k) (E : ExX L x C i z []) (hdb : (x == ("__debug__" : Str)) = false := by decide) :
    SS L (.Raise (some (.Call (.Name x p) [] [] pos)) none pos') (xRaise i z [] xNil) := fun W X h => by
  obtain ⟨fI, fd, ps, e1, e2, e3, e4⟩ := E.ini
  refine PSi (ps_raise h.calm h.tk (pmk_oex0 (by rw [h.K]; exact E.T) (by rw [h.K]; exact e1) (by rw [h.K]; exact e2) (by rw [h.prog, h.w, h.K, h.mg, h.base]; exact e3) (h.room.mono hk) (by rw [h.K]; exact e4) (passes_call h.tk fun _ _ _ _ z => z.elim) (by unfold Gl Env.kindOf; rw [h.sc]; exact hg) (by rw [h.mg]; exact E.m) hdb)) fun D σ H q => ?_
  have k := raise_core E.ct q
  obtain ⟨α, β, σd, m, s, k⟩ := k
  exact k [] H α Ext.refl s .nil
theorem s_raise {x : Str} {C : Addr} {i : Nat} {z : Str} {fl : List Str} {e : Expr} {es : List Expr} {fa : Fn (List D)} {p pos pos' : Pos} (hg : Glb L x) (hk : 2 ≤ L.k) (E : ExX L x C i z fl) (ha : SA L (e :: es) fa) (hdb : (x == ("__debug__" : Str)) = false := by decide)
    (he : ∀ env, starEach (e :: es) env = (false, eval e env) :: starEach es env := by intro _; rfl) (hpl : ∀ env, (backTo pos (starEach es env)).any (·.1) = false := by intro _; rfl) :
    SS L (.Raise (some (.Call (.Name x p) (e :: es) [] pos)) none pos') (xRaise i z fl fa) := fun W X h => by
  obtain ⟨fI, fd, ps, e1, e2, e3, e4⟩ := E.ini
  exact PSi (ps_raise h.calm h.tk (pmk_oex (by rw [h.K]; exact E.T) (by rw [h.K]; exact e1) (by rw [h.K]; exact e2) (by rw [h.prog, h.w, h.K, h.mg, h.base]; exact e3) (h.room.mono hk) (by rw [h.K]; exact e4) .nil (passes_call h.tk fun _ _ _ _ z => z.elim) (by unfold Gl Env.kindOf; rw [h.sc]; exact hg) (by rw [h.mg]; exact E.m) (ha W X h) hdb (he _) (hpl _))) fun D σ H q => raise_core E.ct q
end
end CT
namespace CT
open PySem PySem.Spec PyProof.Rows L2 LamX
/-! ## a deed tried: x(lambda: e), x catches what its handlers name -/
/-- the handlers: their classes, the fields that they tell -/
abbrev Hs := List (List Value × List Str)
inductive FldsE (en : Str) : List Expr → List Str → Prop
  | nil : FldsE en [] []
  | cons {f : Str} {p1 p2 : Pos} {es : List Expr} {fl : List Str} : FldsE en es fl → FldsE en (.Attribute (.Name en p1) f p2 :: es) (f :: fl)
/-- the fields of an exception, told -/
def lookAll {κ : Type} (fs : List (Str × κ)) : List Str → Option (List κ)
  | [] => some []
  | f :: fl => (fs.lookup f).bind fun v => (lookAll fs fl).map (v :: ·)
def tFs (K : PySem.W.Frag) (a : Addr) (cls : Value) (d : Option Addr) (i : Nat) (fl : List Str) : TA := fun σ H Q => σ[i]? = some (some (.ref a)) ∧
  ∃ (C dd : Addr) (fs : List (Str × V)) (vs : List V), cls = .ref C ∧ XfC K C ∧ (∀ f ∈ fl, PySem.W.findIn K (.ref C) f = some none) ∧ d = some dd ∧ H dd = some (.xd fs) ∧ lookAll fs fl = some vs ∧ Q vs H
theorem PAi' {X : Cx} {es : List Expr} {t t' : TA} (h : PA X es t) (k : ∀ σ H Q, t' σ H Q → t σ H Q) : PA X es t' := ⟨fun pos pins s σ H Q I q => h.run pos pins s σ H Q I (k _ _ _ q)⟩
theorem pa_fs {X : Cx} {a : Addr} {oe : Obj} {cls : Value} {d : Option Addr} {pn : List (Addr × Obj)} {en : Str} {i : Nat} (hN : X.N[i]? = some en) (hv : Vis X.env.scope en) (hdb : (en == ("__debug__" : Str)) = false) (hcd : (en == ("__classdict__" : Str)) = false)
    (hz : Zc cls d oe) (hf : ∃ vs, oe.data = .fields vs) : ∀ {es : List Expr} {fl : List Str}, FldsE en es fl → (∀ C, cls = .ref C → XfC X.K C → (∀ f ∈ fl, PySem.W.findIn X.K (.ref C) f = some none) → PA (X.suite a ((a, oe) :: pn)) es (tFs X.K a cls d i fl))
  | _, _, .nil, C, ec, T, hn => PAi' pa_nil fun σ H Q ⟨_, _, _, _, vs, _, _, _, _, _, e, q⟩ => by
    cases e
    exact q
  | _, _, .cons (f := f) (p1 := p1) (p2 := p2) r, C, ec, T, hn => by
    have h1 : PE (X.suite a ((a, oe) :: pn)) (.Attribute (.Name en p1) f p2) (tXf a cls d C f (tVar i)) := pe_xf T (hn f (List.mem_cons_self ..)) hz hf (pe_var (X := X.suite a ((a, oe) :: pn)) hN hv hdb hcd)
    have h2 := pa_fs (a := a) hN hv hdb hcd hz hf r C ec T (fun g hg => hn g (List.mem_cons_of_mem _ hg)) (pn := pn)
    refine PAi' (pa_cons h1 h2) fun σ H Q ⟨hσ, C', dd, fs, vs, e1, T', hn', e2, e3, e4, q⟩ => ?_
    rw [lookAll] at e4
    cases q1 : fs.lookup f with
    | none => rw [q1] at e4; cases e4
    | some v =>
      cases q2 : lookAll fs _ with
      | none => rw [q1, q2] at e4; cases e4
      | some ws =>
        rw [q1, q2] at e4
        cases e4
        refine ⟨.ref a, hσ, rfl, ec, dd, fs, v, e2, e3, q1, hσ, C', dd, fs, ws, e1, T', fun g hg => hn' g (List.mem_cons_of_mem _ hg), e2, e3, q2, q⟩
/-- a suite that tells fields -/
theorem pss_fs {X : Cx} {a : Addr} {oe : Obj} {cls : Value} {d : Option Addr} {pn : List (Addr × Obj)} {en : Str} {i : Nat} (hN : X.N[i]? = some en) (hv : Vis X.env.scope en) (hdb : (en == ("__debug__" : Str)) = false) (hcd : (en == ("__classdict__" : Str)) = false)
    (hz : Zc cls d oe) (hf : ∃ vs, oe.data = .fields vs) {es : List Expr} {fl : List Str} {kk : Nat} {p1 p2 : Pos} (h : FldsE en es fl) : PSs (X.suite a ((a, oe) :: pn)) [.Return (some (.Tuple es kk p1)) p2] (tRet (tTup (tFs X.K a cls d i fl))) := by
  refine ⟨fun pins s σ H D I q => ?_⟩
  obtain ⟨hσ, C, dd, fs, vs, ec, T, hn, q'⟩ := q
  exact (pss_one (ps_ret (pe_tup (pa_fs hN hv hdb hcd hz hf h C ec T hn)))).run pins s σ H D I ⟨hσ, C, dd, fs, vs, ec, T, hn, q'⟩
/-- what the handlers make of an exception -/
def wEx (K : PySem.W.Frag) (Q : VK) : Hs → XK
  | [] => fun _ _ _ => False
  | (cs, fl) :: r => fun cls dd H => ∃ b, PySem.W.exmAny K cls cs = some b ∧
    (b = true → ∃ (C d : Addr) (fs : List (Str × V)) (vs : List V), cls = .ref C ∧ XfC K C ∧ (∀ f ∈ fl, PySem.W.findIn K (.ref C) f = some none) ∧ dd = some d ∧ H d = some (.xd fs) ∧ lookAll fs fl = some vs ∧ vs.length ≤ sizeLine ∧ ∀ p, H p = none → Q (.ref p) (upd H p (.tup vs))) ∧
    (b = false → wEx K Q r cls dd H)
inductive HdsE (X : Cx) (en : Str) : List ExceptHandler → Hs → Prop
  | nil : HdsE X en [] []
  | cons {tt : Expr} {cs : List Value} {es : List Expr} {fl : List Str} {kk : Nat} {p1 p2 p3 : Pos} {hds : List ExceptHandler} {l : Hs} : TestOk X tt cs → FldsE en es fl → HdsE X en hds l → HdsE X en (.ExceptHandler (some tt) (some en) [.Return (some (.Tuple es kk p1)) p2] p3 :: hds) ((cs, fl) :: l)
def TTx (K : PySem.W.Frag) (z : Str) (l : Hs) : (XK → Hp → VK → Prop) → Hp → VK → Prop := fun tl H Q => tl (wEx K Q l) H fun v H1 => [V.str z, v].length ≤ sizeLine ∧ ∀ p, H1 p = none → Q (.ref p) (upd H1 p (.tup [.str z, v]))
theorem hds_a {X : Cx} {en : Str} (hN : X.N[1]? = some en) (hv : Vis X.env.scope en) (hdb : (en == ("__debug__" : Str)) = false) (hcd : (en == ("__classdict__" : Str)) = false) : ∀ {hds : List ExceptHandler} {l : Hs}, HdsE X en hds l →
    HdsA X en hds (l.map fun h => (h.1, fun a cls d => tRet (tTup (tFs X.K a cls d 1 h.2))))
  | _, _, .nil => .nil
  | _, _, .cons ht hf r => .cons ht (fun a oe cls d pn hz hd => pss_fs hN hv hdb hcd hz hd hf) (hds_a hN hv hdb hcd r)
theorem wEx_many {K : PySem.W.Frag} {D : Ends} {σ : L2.St} {nn : Nat} (hσ : 1 < nn) : ∀ {l : Hs} {cls : Value} {dd : Option Addr} {H : Hp}, wEx K D.rt l cls dd H → wManyA K (fun _ _ _ _ => False) D 1 nn (l.map fun h => (h.1, fun a cls d => tRet (tTup (tFs K a cls d 1 h.2)))) cls dd σ H
  | [], _, _, _, h => h
  | (cs, fl) :: r, cls, dd, H, h => by
    obtain ⟨b, h1, h2, h3⟩ := h
    refine ⟨b, h1, fun hb a ha hl => ?_, fun hb => wEx_many hσ (h3 hb)⟩
    obtain ⟨C, d, fs, vs, e1, T, hn, e2, e3, e4, e5, q⟩ := h2 hb
    exact ⟨List.getElem?_set_self (by omega), C, d, fs, vs, e1, T, hn, e2, e3, e4, e5, q⟩
theorem tried_gives {X : Cx} {x a en q z : Str} {sg : Scope} {g : Addr} {cdg : Value} {j kk : Nat} {p1 p2 p3 p4 p5 p6 : Pos} {h₀ : ExceptHandler} {hds : List ExceptHandler} {l : Hs}
    (hh : ∀ s H, HdsE (cxOf C8.CX0 X.prog X.w X.K X.mg X.base [a, en] x sg g cdg X.A X.stack s H C8.E0).nox en (h₀ :: hds) l) (hne : a ≠ en) (hl : sg.names.lookup en = some .local) (hdb : (en == ("__debug__" : Str)) = false) (hcd : (en == ("__classdict__" : Str)) = false) :
    GivesTo X [a, en] x sg g cdg [.Try [.Return (some (.Tuple [.Constant (.str z) j p1, .Call (.Name a p2) [] [] p3] kk p4)) p5] (h₀ :: hds) [] [] p6] a q (TTx X.K z l) := by
  intro f c' s H Q tl act hc h
  let X' : Cx := (cxOf C8.CX0 X.prog X.w X.K X.mg X.base [a, en] x sg g cdg X.A X.stack s H C8.E0).nox
  have hv : Vis X'.env.scope en := .inl hl
  refine ⟨_, pss_one (ps_tryA (X := X') (i := 1) (n := en)
      (tb := fun W D σ H => ∃ Ech : XK, (∀ cls d σ' H', Ech cls d H' → W cls d σ' H') ∧ σ[0]? = some (some (.ref f)) ∧ H c' = some (CodeO c' q) ∧ tl Ech H (fun v H1 => [V.str z, v].length ≤ sizeLine ∧ ∀ p, H1 p = none → D.rt (.ref p) (upd H1 p (.tup [.str z, v]))))
      rfl rfl (show ([a, en] : List Str).Nodup by simp [hne]) rfl hl L2.takes0 (fun W pn xe tk _ => ?_) (hds_a rfl hv hdb hcd (hh s H))), ?_⟩
  · refine ⟨fun pins s' σ H' D I h' => ?_⟩
    obtain ⟨Ech, hW, h1, h2, h3⟩ := h'
    have hp := act W pn xe Ech p2 p3 tk hW
    have h0 : PE (X'.tr pn xe) (.Constant (.str z) j p1) (tC (.str z)) := pe_str
    have hq := pss_one (ps_ret (pos := p5) (pe_tup (x1 := kk) (pos := p4) (pa_cons h0 (pa_cons hp pa_nil))))
    exact hq.run pins s' σ H' D I ⟨h1, h2, h3⟩
  · exact ⟨wEx X.K Q l, fun cls d σ' H' w => wEx_many (D := { nx := fun _ H' => Q .non H', rt := Q }) (show 1 < 2 from by decide) w, rfl, hc, h⟩
/-! ### in data -/
/-- the handlers in data: which places they take, which fields they tell -/
abbrev Hd := List ((Nat → Bool) × List Str)
def hdD (fs : List (Str × D)) (c : Nat) : Hd → Option (List D)
  | [] => none
  | (t, fl) :: r => if t c = true then lookAll fs fl else hdD fs c r
def xTry (nC : Nat) (hd : Hd) (f : Fn D) : Fn D := fun σ m => match f σ m with
  | .ok d m1 => .ok (.tup [.str (Str.ofString "told"), d]) m1
  | .ex x m1 => if x.c < nC then match hdD x.fs x.c hd with
    | some ds => if ds.length ≤ 1000 then .ok (.tup ds) m1 else .bad
    | none => .bad
    else .bad
  | .bad => .bad
/-- what is known of the classes: each is told by the handlers as hd says, and its fields may be read -/
inductive HdOk (K : PySem.W.Frag) (ct : Nat → Addr) (nC : Nat) : Hs → Hd → Prop
  | nil : HdOk K ct nC [] []
  | cons {cs : List Value} {fl : List Str} {t : Nat → Bool} {l : Hs} {hd : Hd} : (∀ c, c < nC → PySem.W.exmAny K (.ref (ct c)) cs = some (t c)) → (∀ c, c < nC → t c = true → ∀ f ∈ fl, PySem.W.findIn K (.ref (ct c)) f = some none) → HdOk K ct nC l hd → HdOk K ct nC ((cs, fl) :: l) ((t, fl) :: hd)
theorem Flds.look {K : KK} {G : Hp} {α : List Addr} {f : Str} : ∀ {vs : List (Str × V)} {ds : List (Str × D)} {d : D}, Flds K G α vs ds → ds.lookup f = some d → ∃ v, vs.lookup f = some v ∧ Rep K G α v d
  | _, _, _, .nil, e => by cases e
  | _, _, d, .cons (f := g) (v := v) (d := e') r t, e => by
    rw [List.lookup] at e
    by_cases h : (f == g) = true
    · rw [h] at e
      simp only at e
      cases e
      exact ⟨v, by rw [List.lookup, h], r⟩
    · have h' : (f == g) = false := by simpa using h
      rw [h'] at e
      simp only at e
      obtain ⟨w, h1, h2⟩ := Flds.look t e
      exact ⟨w, by rw [List.lookup, h']; exact h1, h2⟩
theorem Flds.lookAll {K : KK} {G : Hp} {α : List Addr} {vs : List (Str × V)} {ds : List (Str × D)} (h : Flds K G α vs ds) : ∀ {fl : List Str} {es : List D}, CT.lookAll ds fl = some es → ∃ ws, CT.lookAll vs fl = some ws ∧ Reps K G α ws es
  | [], es, e => by cases e; exact ⟨[], rfl, .nil⟩
  | f :: fl, es, e => by
    rw [CT.lookAll] at e
    cases q1 : ds.lookup f with
    | none => rw [q1] at e; cases e
    | some d =>
      cases q2 : CT.lookAll ds fl with
      | none => rw [q1, q2] at e; cases e
      | some es' =>
        rw [q1, q2] at e
        cases e
        obtain ⟨v, h1, h2⟩ := h.look q1
        obtain ⟨ws, h3, h4⟩ := h.lookAll q2
        exact ⟨v :: ws, by rw [CT.lookAll, h1, h3]; rfl, .cons h2 h4⟩
theorem wEx_of {L : Lc} {nC : Nat} (hx : ∀ c, c < nC → XfC L.K.K (L.K.ct c)) {α β : List Addr} {x : Xc} (hc : x.c < nC) {cl : Value} {dd : Option Addr} {H : Hp} {Q : VK} (xr : XRep L H α β x cl dd) : ∀ {l : Hs} {hd : Hd} {ds : List D}, HdOk L.K.K L.K.ct nC l hd → hdD x.fs x.c hd = some ds → ds.length ≤ 1000 →
    (∀ vs p, Rps L.K H α β vs ds → H p = none → Q (.ref p) (upd H p (.tup vs))) → wEx L.K.K Q l cl dd H
  | _, _, _, .nil, e, _, _ => by cases e
  | _, _, ds, .cons (t := t) (fl := fl) h1 h2 r, e, hl, q => by
    obtain ⟨a, fs, rfl, rfl, h3, h4⟩ := id xr
    refine ⟨t x.c, h1 _ hc, fun hb => ?_, fun hb => ?_⟩
    · rw [hdD, if_pos hb] at e
      obtain ⟨ws, h5, h6⟩ := h4.lookAll e
      refine ⟨_, a, fs, ws, rfl, hx _ hc, h2 _ hc hb, rfl, (hid_of h3).1, h5, ?_, fun p hp => q ws p h6 hp⟩
      rw [h6.length]
      exact Evl.sz_of (by omega)
    · rw [hdD, if_neg (by rw [hb]; decide)] at e
      exact wEx_of hx hc xr r e hl q
end CT
namespace CT
open PySem PySem.Spec PyProof.Rows L2 LamX
/-- the def that tries: its parameter, its name for what it caught, its handlers -/
structure TrX (G : Lc) (x a en : Str) (st : Stmt) (nC : Nat) (hd : Hd) : Prop where
  ne : a ≠ en
  hl : (defScope st).names.lookup en = some .local
  hva : Vis (defScope st) a
  S : FnScope [a, en] [a] (defScope st)
  dbe : (en == ("__debug__" : Str)) = false
  cde : (en == ("__classdict__" : Str)) = false
  dba : (a == ("__debug__" : Str)) = false
  cda : (a == ("__classdict__" : Str)) = false
  fn : ∃ (g : Addr) (oc dV kV doc pm cdv ct : Value) (od an : Option Addr) (osl : Array (Option Value)) (j kk : Nat) (p1 p2 p3 p4 p5 p6 : Pos) (h₀ : ExceptHandler) (hds : List ExceptHandler) (l : Hs),
    G.mg x = some (.ref g) ∧ PySem.W.keepIn G.K.K (.ref g) = true ∧ G.K.K.lookup g = some ⟨oc, od, .func (PySem.W.fnOf x x (defArgs st) (defBody st) (defScope st) dV kV doc pm an cdv ct), osl⟩ ∧ PySem.W.codeIn G.K.K cdv x = true ∧
    L2.Binds G.K.K (PySem.W.fnOf x x (defArgs st) (defBody st) (defScope st) dV kV doc pm an cdv ct) [a] [] ∧
    defBody st = [.Try [.Return (some (.Tuple [.Constant (.str (Str.ofString "told")) j p1, .Call (.Name a p2) [] [] p3] kk p4)) p5] (h₀ :: hds) [] [] p6] ∧
    (∀ X : Cx, X.mg = G.mg → X.env.scope = defScope st → HdsE X en (h₀ :: hds) l) ∧ HdOk G.K.K G.K.ct nC l hd
  xf : ∀ c, c < nC → XfC G.K.K (G.K.ct c)
/-- in the body of a lambda made here -/
abbrev Lc.lamIn (L : Lc) (scope : Scope) (k : Nat) : Lc := { L with sc := scope, k := k, fn := fun _ => false, cd := none }
theorem ok_lam {L : Lc} {W : WX} {X : Cx} (h : Ok L W X) {scope : Scope} {k : Nat} {A : Around} {outer : List Env} {s : Shared} {H : Hp} {E : XK} {f c' : Addr} (hr : Room k (A.deeper (lamEnv X scope s.heap.objs.size f c'))) :
    Ok (L.lamIn scope k) (fun cls d _ H => E cls d H) (lamCx X A outer s H E scope f c') :=
  ⟨h.prog, h.w, h.K, h.mg, h.base, h.N, rfl, hr, rfl, takes_of rfl rfl rfl rfl, passes_of rfl, fun _ z => (by cases z), fun _ _ z => (by cases z)⟩
theorem se_tried {L : Lc} {x a en : Str} {st : Stmt} {nC : Nat} {hd : Hd} (TR : TrX L x a en st nC hd) (hg : Glb L x) {c P : Addr} {q : Str} (hcd : L.cd = some (c, q)) (TB : TabB L.base L.mg c P) (hmT : (P, q ++ Str.ofString "<lambda>") ∈ L.K.T) (hu : ∀ p ∈ L.K.T, p.1 = P → p.2 = q ++ Str.ofString "<lambda>")
    {k : Nat} (hk : k + 2 ≤ L.k) {params : Arguments} {body : Expr} {scope : Scope} {p lpos pos : Pos} {fe : Fn D} (hL : LamS L.sc scope) (he : SE (L.lamIn scope k) body fe)
    (hdb : (x == ("__debug__" : Str)) = false := by decide) (hdef : ∀ env, defaultsOf params env = ([], []) := by intro _; rfl)
    (hbind : ∀ (q : Str) (cl : List (Str × Addr)) (pm cv ctv : Value), bindArgs (PySem.W.kla_fn "<lambda>" q params body scope cl pm cv ctv) ⟨[], []⟩ = pure [] := by intros; rfl) :
    SE L (.Call (.Name x p) [.Lambda params body scope lpos] [] pos) (xTry nC hd fe) := fun W X h => by
  obtain ⟨g, oc, dV, kV, doc, pm, cdv, ct, od, an, osl, j, kk, p1, p2, p3, p4, p5, p6, h₀, hds, l, e1, e2, e3, e4, e5, e6, e7, e8⟩ := TR.fn
  obtain ⟨hcode, hq⟩ := h.cd _ _ hcd
  have hr : Room (k + 2) X.A := h.room.mono hk
  have hG : GivesTo X [a, en] x (defScope st) g cdv (defBody st) a (X.env.qual ++ Str.ofString "<lambda>") (TTx X.K (Str.ofString "told") l) := by
    rw [e6]
    exact tried_gives (fun s H => e7 _ h.mg rfl) TR.ne TR.hl TR.dbe TR.cde
  refine PEi (pe_lamcall (T := L.K.T) (Ng := [a, en]) (t := fun E => tS (L.lamIn scope k) (fun cls d _ H => E cls d H) (relV (L.lamIn scope k)) fe) (by unfold Gl Env.kindOf; rw [h.sc]; exact hg) (by rw [h.mg]; exact e1) (by rw [h.K]; exact e2) (by rw [h.K]; exact e3) (by rw [h.K]; exact e4) (by rw [h.K]; exact e5) TR.S rfl TR.hva hG
    (by rw [h.base, h.mg]; exact TB) hcode (by rw [hq]; exact hmT) (by rw [hq]; exact hu) hr (by rw [h.sc]; exact hL) (hdef _) hbind (fun A outer s H E f c' hr2 => he _ _ (ok_lam h hr2)) hdb TR.dba TR.cda) fun σ H Q qq => ?_
  obtain ⟨α, β, σd, m, s, qq⟩ := qq
  refine ⟨s.cr.tb, fun H1 eN hT => ?_⟩
  have ex : Ext H α H1 α := ⟨⟨[], by simp⟩, fun b o _ e t => eN b o e t, fun _ z => .inl z⟩
  have c1 : CR L.K H1 α β m := ⟨s.cr.len, s.cr.nd, s.cr.alE ex, fun i b ce h1 h2 => by
    obtain ⟨z, vs, o, w1, w2, w3⟩ := s.cr.cell i b ce h1 h2
    exact ⟨z, vs, o, eN _ _ w1 w2.nt, w2, w3.ext ex⟩, hT⟩
  have s1 : SR L.K H1 α β σ σd m := s.ext' ex c1
  show tS (L.lamIn scope k) _ (relV (L.lamIn scope k)) fe σ H1 _
  refine ⟨α, β, σd, m, s1, ?_⟩
  have qq := qq.ext ex
  unfold xTry at qq
  cases er : fe σd m with
  | bad => rw [er] at qq; exact qq.elim
  | ok d m1 =>
    rw [er] at qq
    intro v H2 α2 e2 s2 r2
    refine ⟨Evl.sz_of (show 2 ≤ 100000 from by decide), fun p hp => ?_⟩
    have e3' := Ext.lay (α := α2) (o := .tup [.str (Str.ofString "told"), v]) hp
    exact qq _ _ _ (e2.trans e3') (s2.ext' e3' (s2.cr.lay hp)) (.tup (.inl (.inl (hid_mk upd_same (s2.cr.freshB hp)))) (.cons .str (.cons (Rep.ext r2 e3') .nil)))
  | ex xx m1 =>
    rw [er] at qq
    intro cl dd H2 α2 e2' s2 xr
    simp only at qq
    split at qq
    rotate_left
    · exact qq.elim
    rename_i hc
    cases ed : hdD xx.fs xx.c hd with
    | none => rw [ed] at qq; exact qq.elim
    | some ds =>
      rw [ed] at qq
      simp only at qq
      split at qq
      rotate_left
      · exact qq.elim
      rename_i hl
      rw [h.K]
      refine wEx_of (L := L) TR.xf hc xr e8 ed hl fun vs p rv hp => ?_
      have e3' := Ext.lay (α := α2) (o := .tup vs) hp
      exact qq _ _ _ (e2'.trans e3') (s2.ext' e3' (s2.cr.lay hp)) (.tup (.inl (.inl (hid_mk upd_same (s2.cr.freshB hp)))) (Reps.ext rv e3'))
end CT
namespace CT
open PySem PySem.Spec PyProof.Rows L2 LamX
/-! ## wrappers: raise, try, a def that makes lambdas -/
/-- the same text, seen from a def whose code object is told -/
abbrev Lc.wcd (G : Lc) (o : Option (Addr × Str)) : Lc := { G with cd := o }
def cBody : Stmt → List Stmt
  | .ClassDef _ _ _ b .. => b
  | _ => []
def csub (s : Stmt) (i : Nat) : Stmt := (cBody s).getD i (.Pass ⟨0, 0, 0, 0⟩)
section
variable {G : Lc} {N : List Str} {sc : Scope} {k : Nat} {fn : Str → Bool} {o : Option (Addr × Str)}
theorem FnR.w {x : Str} {ps : List Str} {k : Nat} {gS : List D → Ms → R D} {f : Addr} {fd : FuncData} (F : FnR G x ps k gS f fd) : FnR (G.wcd o) x ps k gS f fd := ⟨F.m, F.kp, F.ok⟩
theorem KB.w {fd : FuncData} {ps : List Str} {n : Nat} {ks : List Str} {g : List D → List D → List D} (B : KB G fd ps n ks g) : KB (G.wcd o) fd ps n ks g := ⟨B.ex⟩
theorem ExX.w {x : Str} {C : Addr} {i : Nat} {z : Str} {fl : List Str} (E : ExX G x C i z fl) : ExX (G.wcd o) x C i z fl := ⟨E.m, E.ct, E.T, E.ini⟩
theorem ExX.loc {x : Str} {C : Addr} {i : Nat} {z : Str} {fl : List Str} (E : ExX G x C i z fl) : ExX (G.loc N sc k fn) x C i z fl := ⟨E.m, E.ct, E.T, E.ini⟩
theorem TrX.w {x a en : Str} {st : Stmt} {nC : Nat} {hd : Hd} (T : TrX G x a en st nC hd) : TrX (G.wcd o) x a en st nC hd := ⟨T.ne, T.hl, T.hva, T.S, T.dbe, T.cde, T.dba, T.cda, T.fn, T.xf⟩
theorem TrX.loc {x a en : Str} {st : Stmt} {nC : Nat} {hd : Hd} (T : TrX G x a en st nC hd) : TrX (G.loc N sc k fn) x a en st nC hd := ⟨T.ne, T.hl, T.hva, T.S, T.dbe, T.cde, T.dba, T.cda, T.fn, T.xf⟩
theorem g_raise0 {x : Str} {C : Addr} {i : Nat} {z : Str} {p pos pos' : Pos} (h : gloOk sc x = true) (hk : 2 ≤ k) (E : ExX G x C i z []) : SS (G.loc N sc k fn) (.Raise (some (.Call (.Name x p) [] [] pos)) none pos') (xRaise i z [] xNil) :=
  s_raise0 (gloOk_g h).1 hk E.loc (gloOk_g h).2.1
theorem g_raise {x : Str} {C : Addr} {i : Nat} {z : Str} {fl : List Str} {e : Expr} {es : List Expr} {fa : Fn (List D)} {p pos pos' : Pos} (h : gloOk sc x = true) (hk : 2 ≤ k) (E : ExX G x C i z fl) (ha : SA (G.loc N sc k fn) (e :: es) fa)
    (he : ∀ env, starEach (e :: es) env = (false, eval e env) :: starEach es env := by intro _; rfl) (hpl : ∀ env, (backTo pos (starEach es env)).any (·.1) = false := by intro _; rfl) :
    SS (G.loc N sc k fn) (.Raise (some (.Call (.Name x p) (e :: es) [] pos)) none pos') (xRaise i z fl fa) := s_raise (gloOk_g h).1 hk E.loc ha (gloOk_g h).2.1 he hpl
theorem g_tried {x a en : Str} {st : Stmt} {nC : Nat} {hd : Hd} {c P : Addr} {q : Str} (TR : TrX G x a en st nC hd) (hg : gloOk sc x = true) (TB : TabB G.base G.mg c P) (hmT : (P, q ++ Str.ofString "<lambda>") ∈ G.K.T) (hu : ∀ p ∈ G.K.T, p.1 = P → p.2 = q ++ Str.ofString "<lambda>")
    (kk : Nat) (hk : kk + 2 ≤ k) {params : Arguments} {body : Expr} {scope : Scope} {p lpos pos : Pos} {fe : Fn D} (hL : lamSB sc scope = true) (he : SE ((G.wcd none).loc N scope kk (fun _ => false)) body fe)
    (hdef : ∀ env, defaultsOf params env = ([], []) := by intro _; rfl)
    (hbind : ∀ (q : Str) (cl : List (Str × Addr)) (pm cv ctv : Value), bindArgs (PySem.W.kla_fn "<lambda>" q params body scope cl pm cv ctv) ⟨[], []⟩ = pure [] := by intros; rfl) :
    SE ((G.wcd (some (c, q))).loc N sc k fn) (.Call (.Name x p) [.Lambda params body scope lpos] [] pos) (xTry nC hd fe) :=
  se_tried (L := (G.wcd (some (c, q))).loc N sc k fn) TR.w.loc (gloOk_g hg).1 (c := c) (P := P) (q := q) rfl TB hmT hu hk (lamS_by hL) he (gloOk_g hg).2.1 hdef hbind
/-- a def that makes lambdas -/
theorem def_fL {x : Str} {st : Stmt} {f c : Addr} {N ps : List Str} {k : Nat} {body : Fo} {oc dV kV doc pm ct : Value} {od an : Option Addr} {osl : Array (Option Value)} (lk : G.K.K.lookup f = some ⟨oc, od, .func (PySem.W.fnOf x x (defArgs st) (defBody st) (defScope st) dV kV doc pm an (.ref c) ct), osl⟩)
    (hcd : PySem.W.codeIn G.K.K (.ref c) x = true) (kp : PySem.W.keepIn G.K.K (.ref f) = true) (S : FnScope N ps (defScope st)) (hm : G.mg x = some (.ref f))
    (hb : SSs ((G.wcd (some (c, x ++ Str.ofString ".<locals>."))).loc N (defScope st) k fnAll) (defBody st) body) : FnR G x ps (k + 1) (fnSem N.length body) f (PySem.W.fnOf x x (defArgs st) (defBody st) (defScope st) dV kV doc pm an (.ref c) ct) :=
  ⟨hm, kp, def_okL (L := G.wcd (some (c, x ++ Str.ofString ".<locals>."))) lk hcd S hb rfl rfl⟩
/-! names of handlers -/
theorem nm_of {X : Cx} {x : Str} {c : Value} (hm : X.mg = G.mg) (hs : X.env.scope = sc) (h : gloOk sc x = true) (e : G.mg x = some c) : Names X x c := by
  obtain ⟨h1, h2, _⟩ := gloOk_g h
  exact ⟨by unfold Gl Env.kindOf; rw [hs]; exact h1, h2, .inl (by rw [hm]; exact e)⟩
end
/-! ### the end, with tables -/
theorem walkT {l : PySem.W.OpenLaw} {k : Nat} {q : Program} {loose : List Str} {XP : (Str → Option Value) → Heap → Prop} {YP : World → Heap → Prop} {d : DefRec} {K : Params → PySem.W.Frag} (hn : l.most = some 63) (hdf : d.params.defaults = []) (hr : Room k callerA)
    (hY : ∀ (w : World) (h : Heap), YP w h → (K w.params).In h)
    (F : ∀ (w : World) (mg : Str → Option Value) (fa : Addr) (h : Heap), YP w h → (K w.params).In h → h.Ns mainGlobals mg → mg d.name = some (.ref fa) →
      ∃ (fd : FuncData) (cs : List (Addr × Addr × Str)), (∀ p ∈ cs, h.get? p.2.1 = some { cls := .none, data := .fields #[] }) ∧ (∀ p ∈ cs, (K w.params).lookup p.2.1 = none) ∧ (∀ p ∈ cs, PySem.W.CodeHd h p.1 p.2.1) ∧
        (∀ (s : Shared) (u : Value), BindsTo s fd ⟨[u], []⟩ [("_law_script", u)]) ∧
        ∀ base : Heap, (K w.params).In base → base.Ns mainGlobals mg → (∀ p ∈ cs, TabB base mg p.1 p.2.1) → FnOk l.prog w (K w.params) mg base (L2.CX l.prog w) k fa fd ["_law_script"] (spLaw (K w.params) (cs.map (·.2)))) :
    PySem.W.WalkO q loose XP YP l.row.toRowW d [] (fun f vs => PySem.call f vs) :=
  walk_ofTs (n := 63) (k := k) (x := "_law_script") (CX := fun w => L2.CX l.prog w) hn (by decide) hdf hr hY (fun w mg fa h Y KX G hmg => by
    obtain ⟨fd, cs, h1, h2, h3, h4, h5⟩ := F w mg fa h Y KX G hmg
    refine ⟨fd, cs.map fun p => (p.1, p.2.1), spLaw (K w.params) (cs.map (·.2)), fun p hp => ?_, fun p hp => ?_, fun p hp => ?_, h4, fun H a ns hl _ hT hS => ⟨a, ns, rfl, hS, hl, fun p hp => ?_, fun _ => rfl⟩, fun base hK hN hTB => h5 base hK hN fun p hp => hTB (p.1, p.2.1) (List.mem_map.mpr ⟨p, hp, rfl⟩)⟩
    · obtain ⟨q, hq, rfl⟩ := List.mem_map.mp hp; exact h1 q hq
    · obtain ⟨q, hq, rfl⟩ := List.mem_map.mp hp; exact h2 q hq
    · obtain ⟨q, hq, rfl⟩ := List.mem_map.mp hp; exact h3 q hq
    · obtain ⟨q, hq, rfl⟩ := List.mem_map.mp hp
      exact TabS.nil (hT (q.1, q.2.1) (List.mem_map.mpr ⟨q, hq, rfl⟩))) fun _ _ _ _ _ h => by
    obtain ⟨_, _, _, _, _, _, _, _, _, _, _, _, z⟩ := h
    exact z
end CT
namespace CT
open PySem L2
/-! ## quotients of arrows -/
end CT
namespace CT
open PySem PySem.Spec PyProof.Rows L2
/-! ## methods of a list that is a cell -/
theorem SAs.sa {L : Lc} {es : List Expr} {f : Fn (List D)} (h : SAs L es f) : SA L es f := fun W X hX => PAi (h W X hX) fun σ H Q ⟨α, β, σd, m, s, q⟩ => by
  refine ⟨α, β, σd, m, s, ?_⟩
  cases e : f σd m with
  | ok d m1 =>
    rw [e] at q
    exact fun v H2 α2 e2 s2 r => q v H2 α2 e2 s2 r.1
  | ex x m1 => rw [e] at q; exact q
  | bad => rw [e] at q; exact q
end CT
namespace PySem
open Sem (wp)
open AutoSeq1 (wpAny_loadPart')
end PySem
namespace CT
open PySem PySem.Spec PyProof.Rows L2
end CT
namespace CT
open PySem PySem.Spec PyProof.Rows L2
/-! ## enumerate of a list or a tuple -/
section
variable {L : Lc}
def xEnumA (f : Fn D) : Fn (List D) := fun σ m => (f σ m).bind fun d m1 => match d with
  | .lst ds => .ok (enumD 0 ds) m1
  | .lck ds => .ok (enumD 0 ds) m1
  | .tup ds => .ok (enumD 0 ds) m1
  | _ => .bad
@[simp] theorem ev_enumA {f : Fn D} {σ : Sd} {m : Ms} : xEnumA f σ m = (f σ m).bind fun d m1 => match d with | .lst ds => .ok (enumD 0 ds) m1 | .lck ds => .ok (enumD 0 ds) m1 | .tup ds => .ok (enumD 0 ds) m1 | _ => .bad := rfl
end
end CT
namespace SrtO
open PySem PyProof.Rows Srt Calls
end SrtO
namespace CT
open PySem PySem.Spec PyProof.Rows L2 SrtO
end CT
namespace PySem
open Sem (wp)
end PySem
namespace CT
open PySem PySem.Spec PyProof.Rows L2 SrtO
/-! ## sorted, of ints or of texts -/
/-! ## list(range(..)) -/
/-- the ends of a range -/
def xEnd1 (f : Fn D) : Fn (Int × Int) := fun σ m => (f σ m).bind fun d m1 => match d with
  | .int j => .ok (0, j) m1
  | _ => .bad
def xEnd2 (f g : Fn D) : Fn (Int × Int) := fun σ m => (f σ m).bind fun d m1 => (g σ m1).bind fun e m2 => match d, e with
  | .int i, .int j => .ok (i, j) m2
  | _, _ => .bad
def xLstRg (r : Fn (Int × Int)) : Fn D := fun σ m => (r σ m).bind fun p m1 => if (-100000 ≤ p.1 ∧ p.1 ≤ 100000) ∧ -100000 ≤ p.2 ∧ p.2 ≤ 100000 then .ok (.lst (rngD p.1 (p.2 - p.1).toNat)) m1 else .bad
/-- .. that will be changed -/
def xCelRg (r : Fn (Int × Int)) : Fn D := fun σ m => (r σ m).bind fun p m1 => if (-100000 ≤ p.1 ∧ p.1 ≤ 100000) ∧ -100000 ≤ p.2 ∧ p.2 ≤ 100000 then .ok (.cel m1.length) (m1 ++ [.l (rngD p.1 (p.2 - p.1).toNat)]) else .bad
section
variable {σ : Sd} {m : Ms} {f g : Fn D} {r : Fn (Int × Int)}
@[simp] theorem ev_end1 : xEnd1 f σ m = (f σ m).bind fun d m1 => match d with | .int j => .ok ((0 : Int), j) m1 | _ => .bad := rfl
@[simp] theorem ev_end2 : xEnd2 f g σ m = (f σ m).bind fun d m1 => (g σ m1).bind fun e m2 => match d, e with | .int i, .int j => .ok (i, j) m2 | _, _ => .bad := rfl
@[simp] theorem ev_lstRg : xLstRg r σ m = (r σ m).bind fun p m1 => if (-100000 ≤ p.1 ∧ p.1 ≤ 100000) ∧ -100000 ≤ p.2 ∧ p.2 ≤ 100000 then .ok (.lst (rngD p.1 (p.2 - p.1).toNat)) m1 else .bad := rfl
@[simp] theorem ev_celRg : xCelRg r σ m = (r σ m).bind fun p m1 => if (-100000 ≤ p.1 ∧ p.1 ≤ 100000) ∧ -100000 ≤ p.2 ∧ p.2 ≤ 100000 then .ok (.cel m1.length) (m1 ++ [.l (rngD p.1 (p.2 - p.1).toNat)]) else .bad := rfl
end
/-! ## sum(.., start=0) -/
def xSumK (f z : Fn (List D)) : Fn D := fun σ m => (f σ m).bind fun ds m1 => (z σ m1).bind fun zs m2 => match ds, zs with
  | [.lst ds], [.int i] => if i = 0 then match intsOf ds with
    | some ns => .ok (.int ns.sum) m2
    | none => .bad
    else .bad
  | _, _ => .bad
@[simp] theorem ev_sumK {f z : Fn (List D)} {σ : Sd} {m : Ms} : xSumK f z σ m = (f σ m).bind fun ds m1 => (z σ m1).bind fun zs m2 => match ds, zs with
  | [.lst ds], [.int i] => if i = 0 then match intsOf ds with
    | some ns => .ok (.int ns.sum) m2
    | none => .bad
    else .bad
  | _, _ => .bad := rfl
/-! ## xs[::-1] -/
def xRevL (f : Fn D) : Fn D := fun σ m => (f σ m).bind fun d m1 => match dr m1 d with
  | .lst ds => .ok (.lst ds.reverse) m1
  | _ => .bad
@[simp] theorem ev_revL {f : Fn D} {σ : Sd} {m : Ms} : xRevL f σ m = (f σ m).bind fun d m1 => match dr m1 d with
  | .lst ds => .ok (.lst ds.reverse) m1
  | _ => .bad := rfl
end CT
namespace CT
open PySem L2
/-! ## dicts that are made -/
def hasK (ks : List Key) (k : Key) : Bool := ks.any fun x => decide (x = k)
def putKs (ks : List Key) (k : Key) : List Key := if hasK ks k = true then ks else ks ++ [k]
def replD : List Key → List D → Key → D → List D
  | k :: ks, d :: ds, q, x => (if k = q then x else d) :: replD ks ds q x
  | _, _, _, _ => []
def putDs (ks : List Key) (ds : List D) (k : Key) (d : D) : List D := if hasK ks k = true then replD ks ds k d else ds ++ [d]
def dcL (g : Fg) (c : Fn Bool) (ek ev : Fn D) (σ : Sd) : List D → Ms → List Key → List D → R D
  | [], m, ks, vs => .ok (.dct ks vs) m
  | d :: ds, m, ks, vs => match g d σ m with
    | none => .bad
    | some (σ1, m1) => match c σ1 m1 with
      | .ok true m2 => match ek σ1 m2 with
        | .ok y m3 => match keyD y with
          | some k => match ev σ1 m3 with
            | .ok z m4 => dcL g c ek ev σ ds m4 (putKs ks k) (putDs ks vs k z)
            | _ => .bad
          | none => .bad
        | _ => .bad
      | .ok false m2 => dcL g c ek ev σ ds m2 ks vs
      | _ => .bad
def xDc (src : Fn (List D)) (g : Fg) (c : Fn Bool) (ek ev : Fn D) (own : List Nat) : Fn D := fun σ m => (src σ m).bind fun items m1 => if items.length ≤ 100000 then dcL g c ek ev (wipeD σ own) items m1 [] [] else .bad
@[simp] theorem ev_dc {s : Fn (List D)} {h : Fg} {c : Fn Bool} {ek ev : Fn D} {own : List Nat} {σ : Sd} {m : Ms} : xDc s h c ek ev own σ m = (s σ m).bind fun items m1 => if items.length ≤ 100000 then dcL h c ek ev (wipeD σ own) items m1 [] [] else .bad := rfl
end CT
namespace CT
open PySem PySem.Spec PyProof.Rows L2
/-! ## objects of one's own -/
/-- a class: its name, its place -/
structure ClX (G : Lc) (x : Str) (C : Addr) (c : Nat) : Prop where
  m : G.mg x = some (.ref C)
  ct : G.K.ct c = C
  cl : Cls G.K.K C
/-- a method of it: its def -/
structure MeX (G : Lc) (C : Addr) (x : Str) (ps : List Str) (k : Nat) (gS : List D → Ms → R D) (f : Addr) (fd : FuncData) : Prop where
  at_ : Meth G.K.K C x f
  ok : FnOk G.P G.w G.K G.mg G.base (L2.CX G.P G.w) k f fd ps (spOf G ps.length gS)
def mkR (n : Nat) : R D → R D
  | .ok .non m3 => .ok (.cel n) m3
  | .ok _ _ => .bad
  | .ex x m3 => .ex x m3
  | .bad => .bad
@[simp] theorem mkR_ok {n : Nat} {m : Ms} : mkR n (.ok .non m) = .ok (.cel n) m := rfl
@[simp] theorem mkR_ex {n : Nat} {x : Xc} {m : Ms} : mkR n (.ex x m) = .ex x m := rfl
/-- C(a, .., k = v, ..) -/
def xMake (c : Nat) (g : List D → List D → List D) (gS : List D → Ms → R D) (a kw : Fn (List D)) : Fn D := fun σ m => (a σ m).bind fun ds m1 => (kw σ m1).bind fun es m2 => mkR m2.length (gS (g (.cel m2.length :: ds) es) (m2 ++ [.o c [] []]))
@[simp] theorem ev_make {c : Nat} {g : List D → List D → List D} {gS : List D → Ms → R D} {a kw : Fn (List D)} {σ : Sd} {m : Ms} : xMake c g gS a kw σ m = (a σ m).bind fun ds m1 => (kw σ m1).bind fun es m2 => mkR m2.length (gS (g (.cel m2.length :: ds) es) (m2 ++ [.o c [] []])) := rfl
end CT
namespace CT
open PySem PySem.Spec PyProof.Rows L2
/-! ## fields and methods -/
def fget : List Str → List D → Str → Option D
  | n :: ns, d :: ds, f => if f == n then some d else fget ns ds f
  | _, _, _ => none
def oFld (c : Nat) (f : Str) : D → Ms → R D
  | .ins k ns ds, m => if k = c then match fget ns ds f with
    | some d => .ok d m
    | none => .bad
    else .bad
  | _, _ => .bad
def xFld (c : Nat) (f : Str) (o : Fn D) : Fn D := fun σ m => (o σ m).bind fun d m1 => oFld c f (dr m1 d) m1
@[simp] theorem ev_fld {c : Nat} {f : Str} {o : Fn D} {σ : Sd} {m : Ms} : xFld c f o σ m = (o σ m).bind fun d m1 => oFld c f (dr m1 d) m1 := rfl
section
variable {L : Lc} {C : Addr} {c : Nat} {x : Str}
/-! ### o.f = e, while it is made -/
def putN (f : Str) : List Str → List Str
  | [] => [f]
  | n :: ns => if n = f then n :: ns else n :: putN f ns
def putL (f : Str) (d : D) : List Str → List D → List D
  | n :: ns, x :: ds => if n = f then d :: ds else x :: putL f d ns ds
  | _, _ => [d]
def xPutF (c : Nat) (f : Str) (o e : Fn D) : Fo := fun σ m => (e σ m).go σ fun d m1 => (o σ m1).go σ fun od m2 => match od with
  | .cel i => match m2[i]? with
    | some (.o k ns ds) => if k = c ∧ d.cf 0 = true ∧ ns.length < 900 then .nx σ (m2.set i (.o k (putN f ns) (putL f d ns ds))) else .bad
    | _ => .bad
  | _ => .bad
@[simp] theorem ev_putF {c : Nat} {f : Str} {o e : Fn D} {σ : Sd} {m : Ms} : xPutF c f o e σ m = (e σ m).go σ fun d m1 => (o σ m1).go σ fun od m2 => match od with
  | .cel i => match m2[i]? with
    | some (.o k ns ds) => if k = c ∧ d.cf 0 = true ∧ ns.length < 900 then .nx σ (m2.set i (.o k (putN f ns) (putL f d ns ds))) else .bad
    | _ => .bad
  | _ => .bad := rfl
end
/-! ### o.m(..) -/
def xMth (c : Nat) (mx : Str) (g : List D → List D → List D) (gS : List D → Ms → R D) (o : Fn D) (a kw : Fn (List D)) : Fn D := fun σ m => (o σ m).bind fun d m1 => match dr m1 d with
  | .ins k ns _ => if k = c ∧ mx ∉ ns then (a σ m1).bind fun ds m2 => (kw σ m2).bind fun es m3 => gS (g (d :: ds) es) m3 else .bad
  | _ => .bad
@[simp] theorem ev_mth {c : Nat} {mx : Str} {g : List D → List D → List D} {gS : List D → Ms → R D} {o : Fn D} {a kw : Fn (List D)} {σ : Sd} {m : Ms} : xMth c mx g gS o a kw σ m = (o σ m).bind fun d m1 => match dr m1 d with
  | .ins k ns _ => if k = c ∧ mx ∉ ns then (a σ m1).bind fun ds m2 => (kw σ m2).bind fun es m3 => gS (g (d :: ds) es) m3 else .bad
  | _ => .bad := rfl
end CT
namespace CT
open PySem PySem.Spec PyProof.Rows L2
/-! ## len(o) by an own __len__ -/
/-- a def of one or two parameters, given all -/
structure Bnd (L : Lc) (fd : FuncData) (ps : List Str) : Prop where
  to : ∀ (s : Shared) (us : List Value), L.K.K.In s.heap → us.length = ps.length → BindsTo s fd ⟨us, []⟩ (ps.zip us)
/-- len(o): of an object by its def, else as it was -/
def xLenO (c : Nat) (gS : List D → Ms → R D) (f : Fn (List D)) : Fn D := fun σ m => (f σ m).bind fun ds m1 => match ds with
  | [d] => match dr m1 d with
    | .ins k _ _ => if k = c then match gS [d] m1 with
      | .ok (.int i) m2 => if 0 ≤ i ∧ i < 2 ^ 62 then .ok (.int i) m2 else .bad
      | _ => .bad
      else .bad
    | _ => bLen (ds.map (dr m1)) m1
  | ds => bLen (ds.map (dr m1)) m1
@[simp] theorem ev_lenO {c : Nat} {gS : List D → Ms → R D} {f : Fn (List D)} {σ : Sd} {m : Ms} : xLenO c gS f σ m = (f σ m).bind fun ds m1 => match ds with
  | [d] => match dr m1 d with
    | .ins k _ _ => if k = c then match gS [d] m1 with
      | .ok (.int i) m2 => if 0 ≤ i ∧ i < 2 ^ 62 then .ok (.int i) m2 else .bad
      | _ => .bad
      else .bad
    | _ => bLen (ds.map (dr m1)) m1
  | ds => bLen (ds.map (dr m1)) m1 := rfl
end CT
namespace CT
open PySem L2
/-! ## methods: defs of another full name -/
section
variable {G : Lc} {N : List Str} {sc : Scope} {k : Nat} {fn : Str → Bool}
/-- how objects of a class are begun -/
structure InX (G : Lc) (C : Addr) (ps : List Str) (k : Nat) (gS : List D → Ms → R D) (f : Addr) (fd : FuncData) : Prop where
  made : Mk G.K.K C f
  ok : FnOk G.P G.w G.K G.mg G.base (L2.CX G.P G.w) k f fd ps (spOf G ps.length gS)
theorem ClX.to {x : Str} {C : Addr} {c : Nat} (h : ClX G x C c) : ClX (G.loc N sc k fn) x C c := ⟨h.m, h.ct, h.cl⟩
theorem ClX.w {o : Option (Addr × Str)} {x : Str} {C : Addr} {c : Nat} (h : ClX G x C c) : ClX (G.wcd o) x C c := ⟨h.m, h.ct, h.cl⟩
theorem MeX.to {C : Addr} {x : Str} {ps : List Str} {k' : Nat} {gS : List D → Ms → R D} {f : Addr} {fd : FuncData} (h : MeX G C x ps k' gS f fd) : MeX (G.loc N sc k fn) C x ps k' gS f fd := ⟨h.at_, h.ok⟩
theorem MeX.w {o : Option (Addr × Str)} {C : Addr} {x : Str} {ps : List Str} {k' : Nat} {gS : List D → Ms → R D} {f : Addr} {fd : FuncData} (h : MeX G C x ps k' gS f fd) : MeX (G.wcd o) C x ps k' gS f fd := ⟨h.at_, h.ok⟩
theorem InX.w {o : Option (Addr × Str)} {C : Addr} {ps : List Str} {k' : Nat} {gS : List D → Ms → R D} {f : Addr} {fd : FuncData} (h : InX G C ps k' gS f fd) : InX (G.wcd o) C ps k' gS f fd := ⟨h.made, h.ok⟩
theorem Bnd.w {o : Option (Addr × Str)} {fd : FuncData} {ps : List Str} (h : Bnd G fd ps) : Bnd (G.wcd o) fd ps := ⟨h.to⟩
end
end CT
namespace CT
open PySem L2
end CT
namespace CT
open PySem PySem.Spec PyProof.Rows L2
/-! ## == of own objects -/
end CT
namespace CT
open PySem PySem.Spec PyProof.Rows L2 C8
/-! ## isinstance(o, C) of an own object -/
end CT
namespace CT
open PySem PySem.Spec PyProof.Rows L2
/-! ## a def that hands back a pair of new lists, as cells -/
/-! ## clear, reverse -/
end CT
namespace CT
open PySem PySem.Spec PySem.Calls PyProof.Rows L2 LamX
/-! ## a lambda with one default, called without an argument -/
end CT
namespace CT
open PySem PySem.Spec PyProof.Rows L2 LamX
end CT
namespace CT
open PySem PySem.Spec PyProof.Rows L2
/-! ## dict(..) of a list of pairs, each key once -/
def prsD : List D → Option (List Key × List D)
  | [] => some ([], [])
  | .tup [k, v] :: ds => match keyD k with
    | some q => (prsD ds).map fun p => (q :: p.1, v :: p.2)
    | none => none
  | _ :: _ => none
def onceB : List Key → Bool
  | [] => true
  | k :: ks => !hasK ks k && onceB ks
def bDict : List D → Ms → R D
  | [.lst ds], m => match prsD ds with
    | some p => if onceB p.1 = true then .ok (.dct p.1 p.2) m else .bad
    | none => .bad
  | _, _ => .bad
section
variable {G : Lc} {N : List Str} {sc : Scope} {k : Nat} {fn : Str → Bool}
@[simp] theorem ev_bDict {ds : List D} {m : Ms} : bDict [.lst ds] m = match prsD ds with
    | some p => if onceB p.1 = true then .ok (.dct p.1 p.2) m else .bad
    | none => .bad := rfl
end
end CT
namespace CT
open PySem PySem.Spec PyProof.Rows L2
/-- xs[::-1], as a cell -/
def xRevC (f : Fn D) : Fn D := fun σ m => (f σ m).bind fun d m1 => match dr m1 d with
  | .lst ds => if D.cfs 0 ds.reverse = true then .ok (.cel m1.length) (m1 ++ [.l ds.reverse]) else .bad
  | _ => .bad
@[simp] theorem ev_revC {f : Fn D} {σ : Sd} {m : Ms} : xRevC f σ m = (f σ m).bind fun d m1 => match dr m1 d with
  | .lst ds => if D.cfs 0 ds.reverse = true then .ok (.cel m1.length) (m1 ++ [.l ds.reverse]) else .bad
  | _ => .bad := rfl
end CT
namespace CT
open PySem PySem.Spec PyProof.Rows L2
/-! ## a comprehension over a list that may change, but does not while it is walked -/
open Classical in
noncomputable def lcK (cc : Nat) (its : List D) (fin : Ms → List D → R D) (g : Fg) (c : Fn Bool) (e : Fn D) (σ : Sd) : List D → Ms → List D → R D
  | [], m, acc => if m[cc]? = some (.l its) then fin m acc else .bad
  | d :: ds, m, acc => if m[cc]? = some (.l its) then (match g d σ m with
    | none => .bad
    | some (σ1, m1) => match c σ1 m1 with
      | .ok true m2 => match e σ1 m2 with
        | .ok y m3 => lcK cc its fin g c e σ ds m3 (acc ++ [y])
        | _ => .bad
      | .ok false m2 => lcK cc its fin g c e σ ds m2 acc
      | _ => .bad) else .bad
noncomputable def xLcKF (fin : Ms → List D → R D) (src : Fn (Nat × List D)) (g : Fg) (c : Fn Bool) (e : Fn D) (own : List Nat) : Fn D := fun σ m => (src σ m).bind fun p m1 => if p.2.length ≤ 100000 then lcK p.1 p.2 fin g c e (wipeD σ own) p.2 m1 [] else .bad
def xItC (f : Fn D) : Fn (Nat × List D) := fun σ m => (f σ m).bind fun d m1 => match d with
  | .cel c => match m1[c]? with
    | some (.l ds) => .ok (c, ds) m1
    | _ => .bad
  | _ => .bad
section
@[simp] theorem ev_itC {f : Fn D} {σ : Sd} {m : Ms} : xItC f σ m = (f σ m).bind fun d m1 => match d with
  | .cel c => match m1[c]? with
    | some (.l ds) => .ok (c, ds) m1
    | _ => .bad
  | _ => .bad := rfl
@[simp] theorem ev_lcK {fin : Ms → List D → R D} {s : Fn (Nat × List D)} {h : Fg} {e : Fn D} {t : Fn Bool} {own : List Nat} {σ : Sd} {m : Ms} : xLcKF fin s h t e own σ m = (s σ m).bind fun p m1 => if p.2.length ≤ 100000 then lcK p.1 p.2 fin h t e (wipeD σ own) p.2 m1 [] else .bad := rfl
end
end CT
namespace CT
open PySem PySem.Spec PyProof.Rows L2
/-! ## a loop over any list, also one that may change, but does not while it is walked -/
def okK (cc : Option Nat) (its : List D) (m : Ms) : Prop := ∀ c, cc = some c → m[c]? = some (.l its)
open Classical in
noncomputable def forK (cc : Option Nat) (its : List D) (g : Fg) (b : Fo) : List D → Sd → Ms → O
  | [], σ, m => if okK cc its m then .nx σ m else .bad
  | d :: ds, σ, m => if okK cc its m then (match g d σ m with
    | none => .bad
    | some (σ1, m1) => oLoop (b σ1 m1) (forK cc its g b ds)) else .bad
noncomputable def xForE (src : Fn (Option Nat × List D)) (g : Fg) (b : Fo) : Fo := fun σ m => (src σ m).go σ fun p m1 => forK p.1 p.2 g b p.2 σ m1
def xItE (f : Fn D) : Fn (Option Nat × List D) := fun σ m => (f σ m).bind fun d m1 => match d with
  | .lst ds => .ok (none, ds) m1
  | .tup ds => .ok (none, ds) m1
  | .lck ds => .ok (none, ds) m1
  | .str z => .ok (none, charsD z) m1
  | .cel c => match m1[c]? with
    | some (.l ds) => .ok (some c, ds) m1
    | _ => .bad
  | _ => .bad
section
@[simp] theorem ev_itE {f : Fn D} {σ : Sd} {m : Ms} : xItE f σ m = (f σ m).bind fun d m1 => match d with
  | .lst ds => .ok (none, ds) m1
  | .tup ds => .ok (none, ds) m1
  | .lck ds => .ok (none, ds) m1
  | .str z => .ok (none, charsD z) m1
  | .cel c => match m1[c]? with
    | some (.l ds) => .ok (some c, ds) m1
    | _ => .bad
  | _ => .bad := rfl
@[simp] theorem ev_forE {s : Fn (Option Nat × List D)} {h : Fg} {f : Fo} {σ : Sd} {m : Ms} : xForE s h f σ m = (s σ m).go σ fun p m1 => forK p.1 p.2 h f p.2 σ m1 := rfl
end
end CT
namespace CT
open PySem PySem.Spec PyProof.Rows L2
/-! ## a tuple that tuple(..) makes: nothing but a tuple -/
def bTupP : List D → Ms → R D
  | [.lst ds], m => .ok (.tpl ds) m
  | [.lck ds], m => .ok (.tpl ds) m
  | _, _ => .bad
/-! ## .index of a list or a tuple of texts -/
def posS (z : Str) : List Str → Option Nat
  | [] => none
  | w :: ws => if w = z then some 0 else (posS z ws).map (· + 1)
def oIdx : D → List D → Ms → R D
  | .lst ds, [.str z], m => match strsOf ds with
    | some ws => match posS z ws with
      | some j => .ok (.int (j : Nat)) m
      | none => .bad
    | none => .bad
  | .tpl ds, [.str z], m => match strsOf ds with
    | some ws => match posS z ws with
      | some j => .ok (.int (j : Nat)) m
      | none => .bad
    | none => .bad
  | _, _, _ => .bad
def isSq : D → Bool
  | .lst _ => true
  | .tpl _ => true
  | _ => false
def xIdx (o : Fn D) (as : Fn (List D)) : Fn D := fun σ m => (o σ m).bind fun d m1 => if isSq d = true then (as σ m1).bind fun es m2 => oIdx d es m2 else .bad
section
@[simp] theorem ev_idx {o : Fn D} {as : Fn (List D)} {σ : Sd} {m : Ms} : xIdx o as σ m = (o σ m).bind fun d m1 => if isSq d = true then (as σ m1).bind fun es m2 => oIdx d es m2 else .bad := rfl
@[simp] theorem b_tupP {ds : List D} {m : Ms} : bTupP [.lst ds] m = .ok (.tpl ds) m := rfl
@[simp] theorem dr_tpl {ds : List D} {m : Ms} : dr m (.tpl ds) = .tup ds := rfl
@[simp] theorem cf_tpl {n : Nat} {ds : List D} : D.cf n (.tpl ds) = D.cfs n ds := rfl
end
end CT
namespace CT
open PySem PySem.Spec PyProof.Rows L2
/-! ## a comprehension of two fors -/
/-- the inner loop: what is behind it, what has come of it -/
def lcI (g : Fg) (c : Fn Bool) (e : Fn D) (σ : Sd) : List D → Ms → List D → Option (Ms × List D)
  | [], m, acc => some (m, acc)
  | d :: ds, m, acc => match g d σ m with
    | none => none
    | some (σ1, m1) => match c σ1 m1 with
      | .ok true m2 => match e σ1 m2 with
        | .ok y m3 => lcI g c e σ ds m3 (acc ++ [y])
        | _ => none
      | .ok false m2 => lcI g c e σ ds m2 acc
      | _ => none
def lcO (fin : Ms → List D → R D) (g : Fg) (c : Fn Bool) (s1 : Fn (List D)) (g1 : Fg) (c1 : Fn Bool) (e : Fn D) (own1 : List Nat) (σ : Sd) : List D → Ms → List D → R D
  | [], m, acc => fin m acc
  | d :: ds, m, acc => match g d σ m with
    | none => .bad
    | some (σ1, m1) => match c σ1 m1 with
      | .ok true m2 => match s1 σ1 m2 with
        | .ok its m3 => if acc.length + its.length ≤ 100000 then (match lcI g1 c1 e (wipeD σ1 own1) its m3 acc with
          | some (m4, acc') => lcO fin g c s1 g1 c1 e own1 σ ds m4 acc'
          | none => .bad) else .bad
        | _ => .bad
      | .ok false m2 => lcO fin g c s1 g1 c1 e own1 σ ds m2 acc
      | _ => .bad
def xLc2F (fin : Ms → List D → R D) (src : Fn (List D)) (g : Fg) (c : Fn Bool) (s1 : Fn (List D)) (g1 : Fg) (c1 : Fn Bool) (e : Fn D) (own own1 : List Nat) : Fn D := fun σ m => (src σ m).bind fun items m1 => lcO fin g c s1 g1 c1 e own1 (wipeD σ own) items m1 []
section
@[simp] theorem ev_lc2 {fin : Ms → List D → R D} {src : Fn (List D)} {g : Fg} {c : Fn Bool} {s1 : Fn (List D)} {g1 : Fg} {c1 : Fn Bool} {e : Fn D} {own own1 : List Nat} {σ : Sd} {m : Ms} : xLc2F fin src g c s1 g1 c1 e own own1 σ m = (src σ m).bind fun items m1 => lcO fin g c s1 g1 c1 e own1 (wipeD σ own) items m1 [] := rfl
end
end CT
namespace CT
open PySem PySem.Spec PyProof.Rows L2 PySem.W
/-! ## a, *b = a list or a tuple; a, b = a list -/
/-- (a, b, ..) = a list of that length -/
def gLisV (K : PySem.W.Frag) (n : Nat) (t : TGs) : TG := fun v σ H Q => ∃ a xs, v = .ref a ∧ SqL K H a xs ∧ xs.length = n ∧ t xs σ H Q
theorem pg_lis {X : Cx} {es : List Expr} {k : Nat} {pos : Pos} {t : TGs} {n : Nat} (hc : X.calm = true) (h : PGs X es t)
    (hn : (assignEach es X.env).length = n := by rfl) (hst : (assignEach es X.env).findIdx? (·.1) = none := by rfl) : PG X (.Tuple es k pos) (gLisV X.K n t) := by
  refine ⟨fun pins s σ H v u Q I r hw => ?_⟩
  obtain ⟨a, xs, e1, hq, hl, hw⟩ := hw
  subst e1
  cases r
  obtain ⟨its, rv, pl, hz⟩ := I.list hq
  have hlen := rv.length
  rw [assign_Tuple]
  refine wpAny_bind (wpAny_standAt ?_)
  unfold unpack
  rw [hn, hst]
  have hsz : its.toArray.size = n := by simp; omega
  refine wpAny_bind (wpAny_holding ?_)
  have key := kun_itemsOf (s := s) (prog := X.prog) (w := X.w) (A := X.A) (E := X.xe) (I.ok.hd hc) pl.isList (Q := fun items s' => wpAny (model X.prog X.w) X.A (assignInOrder ((assignEach es X.env).map (·.2)) items) (fun _ s' => ∃ σ' H', Inv X pins σ' H' s' ∧ Q σ' H') X.xe s') fun h' hx => ?_
  · rw [hsz] at key
    exact key
  · have I1 : Inv X pins σ H { s with heap := h' } := I.kept (t' := s.toks) fun b o e => hx b o (Nat.ne_of_lt (Heap.lt_size e)) e
    exact h.run pins _ σ H xs _ Q I1 (by simpa using rv) hw
def sqD : D → Option (List D)
  | .tup ds => some ds
  | .lst ds => some ds
  | .lck ds => some ds
  | .tpl ds => some ds
  | _ => none
/-- a, b = .. : a list or a tuple -/
def gU (n : Nat) (r : Fgs) : Fg := fun d σ m => match d with
  | .lst ds => if ds.length = n then r ds σ m else none
  | .lck ds => if ds.length = n then r ds σ m else none
  | _ => none
section
variable {L : Lc}
theorem sg_lis {es : List Expr} {k n : Nat} {r : Fgs} {js : List Nat} {pos : Pos} (h : SGs L js es r) (hn : ∀ env, (assignEach es env).length = n := by intro _; rfl) (hst : ∀ env, (assignEach es env).findIdx? (·.1) = none := by intro _; rfl) : SG L js (.Tuple es k pos) (gU n r) := fun W X hX =>
  PGi (pg_lis hX.calm (h W X hX) (hn _) (hst _)) fun v σ H Q ⟨α, β, σd, m, d, s, rr, σd', m', e, q⟩ => by
  cases rr with
  | lst sq rs =>
    unfold gU at e
    simp only at e
    split at e
    · rename_i hl
      exact ⟨_, _, rfl, by rw [hX.K]; exact .inl (.inl (hid_of sq).1), by rw [rs.length]; exact hl, α, β, σd, m, _, s, rs, σd', m', e, q⟩
    · cases e
  | lck sq rs =>
    unfold gU at e
    simp only at e
    split at e
    · rename_i hl
      exact ⟨_, _, rfl, by rw [hX.K]; exact sql_mono hid_sub sq, by rw [rs.length]; exact hl, α, β, σd, m, _, s, rs, σd', m', e, q⟩
    · cases e
  | _ => cases e
end
/-! ## a def as a value; a call of a variable that holds one -/
/-- which defs a variable may hold -/
abbrev Tb := Nat → Option (List D → Ms → R D)
def xCalV (tb : Tb) (f : Fn D) (a : Fn (List D)) : Fn D := fun σ m => (f σ m).bind fun d m1 => match d with
  | .fn k => match tb k with
    | some gS => (a σ m1).bind fun ds m2 => gS ds m2
    | none => .bad
  | _ => .bad
section
variable {G : Lc} {N : List Str} {sc : Scope} {k : Nat} {fn : Str → Bool}
def tbOne (j0 : Nat) (s : List D → Ms → R D) : Tb := fun k => if k = j0 then some s else none
end
/-! ## x in a list or a tuple of data of any depth -/
def inSD (x : D) (ds : List D) : Bool := ds.any fun z => PyData.eqv (toP z) (toP x)
def okIn (x y : D) : Bool := eqOk x && eqOk y && decide ((toP x).depth ≤ 60)
def oInS : D → D → Ms → R D := fun x y m => match y with
  | .tup ds => if okIn x (.tup ds) = true then .ok (.bl (inSD x ds)) m else .bad
  | .lst ds => if okIn x (.lst ds) = true then .ok (.bl (inSD x ds)) m else .bad
  | _ => .bad
def rInS (K : PySem.W.Frag) (neg : Bool) : R2 := fun x y H Q => ∃ d ds, Dp K H x d ∧ (Dp K H y (.list ds) ∨ Dp K H y (.tuple ds)) ∧ SeqAt.shaped d = true ∧ PyData.canLayAll0 ds = true ∧ d.depth ≤ 60 ∧ Q (.bl (if neg then !(ds.any fun z => PyData.eqv z d) else ds.any fun z => PyData.eqv z d)) H
theorem op_inS' {X : Cx} (hu : X.A.units + 64 < cLine) : OpR X (compareOp .In) (rInS X.K false) := by
  intro pins s σ H x y v u Q I rx ry h
  obtain ⟨d, ds, hd, he, sd, se, hdp, q⟩ := h
  obtain ⟨as, r1⟩ := Dp.reads I d x v hd rx
  have hroom : X.A.units + 1 + min (PyData.depthAll ds) d.depth < cLine := by omega
  rcases he with he | he
  · obtain ⟨bs, r2⟩ := Dp.reads I (.list ds) y u he ry
    exact SeqAt.in_list_reads r2 r1 se (SeqAt.canLay_of_shaped sd) hroom ⟨.bl _, H, I, rfl, q⟩
  · obtain ⟨bs, r2⟩ := Dp.reads I (.tuple ds) y u he ry
    exact SeqAt.in_tuple_reads r2 r1 se (SeqAt.canLay_of_shaped sd) hroom ⟨.bl _, H, I, rfl, q⟩
theorem anyPs (f : PyData → Bool) : ∀ ds : List D, (toPs ds).any f = ds.any fun z => f (toP z)
  | [] => rfl
  | d :: ds => by rw [toPs, List.any_cons, List.any_cons, anyPs f ds]
section
variable {L : Lc}
theorem inS_core {K : KK} {H : Hp} {α β : List Addr} {v u : V} {x y : D} {ds : List D} (hy : y = .tup ds ∨ y = .lst ds) (c : okIn x y = true) (rv : Rv K H α β v x) (ru : Rv K H α β u y) :
    ∃ d es, Dp K H v d ∧ (Dp K H u (.list es) ∨ Dp K H u (.tuple es)) ∧ SeqAt.shaped d = true ∧ PyData.canLayAll0 es = true ∧ d.depth ≤ 60 ∧ (es.any fun z => PyData.eqv z d) = inSD x ds := by
  unfold okIn at c
  rw [Bool.and_eq_true, Bool.and_eq_true] at c
  obtain ⟨⟨c1, c2⟩, c3⟩ := c
  have c1 := Bool.and_eq_true_iff.mp c1
  have c2 := Bool.and_eq_true_iff.mp c2
  have hv := rv.dp c1.1 (shp_lay c1.2)
  have hu := ru.dp c2.1 (shp_lay c2.2)
  have hz := shp_lay c2.2
  rcases hy with rfl | rfl
  · exact ⟨_, toPs ds, hv, .inr hu, c1.2, by simpa [toP, PyData.canLay0] using hz, of_decide_eq_true c3, anyPs _ _⟩
  · exact ⟨_, toPs ds, hv, .inl hu, c1.2, by simpa [toP, PyData.canLay0] using hz, of_decide_eq_true c3, anyPs _ _⟩
theorem os_inS : OpS L (rInS L.K false) oInS := by
  intro W H α β σ σd m v u x y Q s rv ru q
  unfold oInS at q
  split at q
  · obtain ⟨c, q⟩ := if_elim q
    obtain ⟨d, es, h1, h2, h3, h4, h5, h6⟩ := inS_core (.inl rfl) c rv ru
    exact ⟨d, es, h1, h2, h3, h4, h5, by rw [if_neg (by decide), h6]; exact q _ H α Ext.refl s .bl⟩
  · obtain ⟨c, q⟩ := if_elim q
    obtain ⟨d, es, h1, h2, h3, h4, h5, h6⟩ := inS_core (.inr rfl) c rv ru
    exact ⟨d, es, h1, h2, h3, h4, h5, by rw [if_neg (by decide), h6]; exact q _ H α Ext.refl s .bl⟩
  · exact q.elim
theorem cs_inS : CmpS L .In oInS := ⟨_, fun W X h => by rw [← h.K]; exact op_inS' (room64 h), os_inS⟩
end
@[simp] theorem ev_calV {tb : Tb} {f : Fn D} {a : Fn (List D)} {σ : Sd} {m : Ms} : xCalV tb f a σ m = (f σ m).bind fun d m1 => match d with
  | .fn k => match tb k with
    | some gS => (a σ m1).bind fun ds m2 => gS ds m2
    | none => .bad
  | _ => .bad := rfl
@[simp] theorem tbOne_ev {j0 : Nat} {s : List D → Ms → R D} : tbOne j0 s j0 = some s := by unfold tbOne; rw [if_pos rfl]
@[simp] theorem dr_fn {m : Ms} {k : Nat} : dr m (.fn k) = .fn k := rfl
@[simp] theorem cf_fn {n k : Nat} : D.cf n (.fn k) = true := rfl
@[simp] theorem sqD_lst {ds : List D} : sqD (.lst ds) = some ds := rfl
@[simp] theorem sqD_tup {ds : List D} : sqD (.tup ds) = some ds := rfl
end CT
namespace CT
open PySem PySem.Spec PyProof.Rows L2
/-! ## a comprehension over any list, also one that may change, but does not while it is walked -/
open Classical in
noncomputable def lcE (cc : Option Nat) (its : List D) (fin : Ms → List D → R D) (g : Fg) (c : Fn Bool) (e : Fn D) (σ : Sd) : List D → Ms → List D → R D
  | [], m, acc => if okK cc its m then fin m acc else .bad
  | d :: ds, m, acc => if okK cc its m then (match g d σ m with
    | none => .bad
    | some (σ1, m1) => match c σ1 m1 with
      | .ok true m2 => match e σ1 m2 with
        | .ok y m3 => lcE cc its fin g c e σ ds m3 (acc ++ [y])
        | _ => .bad
      | .ok false m2 => lcE cc its fin g c e σ ds m2 acc
      | _ => .bad) else .bad
noncomputable def xLcEF (fin : Ms → List D → R D) (src : Fn (Option Nat × List D)) (g : Fg) (c : Fn Bool) (e : Fn D) (own : List Nat) : Fn D := fun σ m => (src σ m).bind fun p m1 => if p.2.length ≤ 100000 then lcE p.1 p.2 fin g c e (wipeD σ own) p.2 m1 [] else .bad
section
@[simp] theorem ev_lcE {fin : Ms → List D → R D} {s : Fn (Option Nat × List D)} {h : Fg} {e : Fn D} {t : Fn Bool} {own : List Nat} {σ : Sd} {m : Ms} : xLcEF fin s h t e own σ m = (s σ m).bind fun p m1 => if p.2.length ≤ 100000 then lcE p.1 p.2 fin h t e (wipeD σ own) p.2 m1 [] else .bad := rfl
end
/-! ## len(set(xs)), xs a list of pairs of ints -/
def pairI : D → Option (List Int)
  | .tup [.int a, .int b] => some [a, b]
  | _ => none
def pairsI : List D → Option (List (List Int))
  | [] => some []
  | d :: ds => match pairI d with
    | some p => (pairsI ds).map (p :: ·)
    | none => none
/-- how many unlike ones -/
def uniq : List (List Int) → List (List Int)
  | [] => []
  | p :: ps => if p ∈ ps then uniq ps else p :: uniq ps
def xLenSet (f : Fn D) : Fn D := fun σ m => (f σ m).bind fun d m1 => match dr m1 d with
  | .lst ds => match pairsI ds with
    | some kk => if ds.length < 64 then .ok (.int (uniq kk).length) m1 else .bad
    | none => .bad
  | _ => .bad
@[simp] theorem ev_lenSet {f : Fn D} {σ : Sd} {m : Ms} : xLenSet f σ m = (f σ m).bind fun d m1 => match dr m1 d with
  | .lst ds => match pairsI ds with
    | some kk => if ds.length < 64 then .ok (.int (uniq kk).length) m1 else .bad
    | none => .bad
  | _ => .bad := rfl
/-! ## own exceptions of two fields -/
end CT
namespace CT
open PySem PySem.Spec PyProof.Rows L2
/-! ## pop(), insert, extend -/
end CT
/-! ## // where the divisor or the quotient is not too great -/
namespace L2
open PySem PySem.Spec PyProof.Rows
end L2
namespace CT
open PySem PySem.Spec PyProof.Rows L2
def divOkX (i j : Int) : Bool := decide (0 < j ∧ (j.natAbs.log2 < 9000 ∨ i.natAbs.log2 ≤ j.natAbs.log2 + 4400))
def oDivX : D → D → Ms → R D
  | .int i, .int j, m => if divOkX i j = true then .ok (.int (i / j)) m else .bad
  | _, _, _ => .bad
@[simp] theorem o_divX {i j : Int} {m : Ms} : oDivX (.int i) (.int j) m = if divOkX i j = true then .ok (.int (i / j)) m else .bad := rfl
end CT
namespace CT
open PySem PySem.Spec PyProof.Rows L2
/-! ## methods called with keywords -/
/-! ## a part of a list as a list that changes -/
def xSlC (a : Fn D) (lo hi : Fn (Option Int)) : Fn D := fun σ m => (a σ m).bind fun x m1 => (lo σ m1).bind fun l m2 => (hi σ m2).bind fun u m3 => match dr m3 x with
  | .lst ds => if D.cfs 0 (cutL ds l u) = true then .ok (.cel m3.length) (m3 ++ [.l (cutL ds l u)]) else .bad
  | _ => .bad
@[simp] theorem ev_slC {a : Fn D} {lo hi : Fn (Option Int)} {σ : Sd} {m : Ms} : xSlC a lo hi σ m = (a σ m).bind fun x m1 => (lo σ m1).bind fun l m2 => (hi σ m2).bind fun u m3 => match dr m3 x with
  | .lst ds => if D.cfs 0 (cutL ds l u) = true then .ok (.cel m3.length) (m3 ++ [.l (cutL ds l u)]) else .bad
  | _ => .bad := rfl
/-! ## enumerate of any list, also one that may change, but does not while it is walked -/
noncomputable def xForN (src : Fn (Option Nat × List D)) (g : Fg) (b : Fo) : Fo := fun σ m => (src σ m).go σ fun p m1 => forK p.1 p.2 g b (enumD 0 p.2) σ m1
def xItN (f : Fn D) : Fn (Option Nat × List D) := fun σ m => (f σ m).bind fun d m1 => match d with
  | .lst ds => .ok (none, ds) m1
  | .tup ds => .ok (none, ds) m1
  | .lck ds => .ok (none, ds) m1
  | .cel c => match m1[c]? with
    | some (.l ds) => .ok (some c, ds) m1
    | _ => .bad
  | _ => .bad
@[simp] theorem ev_itN {f : Fn D} {σ : Sd} {m : Ms} : xItN f σ m = (f σ m).bind fun d m1 => match d with
  | .lst ds => .ok (none, ds) m1
  | .tup ds => .ok (none, ds) m1
  | .lck ds => .ok (none, ds) m1
  | .cel c => match m1[c]? with
    | some (.l ds) => .ok (some c, ds) m1
    | _ => .bad
  | _ => .bad := rfl
@[simp] theorem ev_forN {s : Fn (Option Nat × List D)} {h : Fg} {f : Fo} {σ : Sd} {m : Ms} : xForN s h f σ m = (s σ m).go σ fun p m1 => forK p.1 p.2 h f (enumD 0 p.2) σ m1 := rfl
end CT
namespace CT
open PySem PySem.Spec PyProof.Rows L2
/-! ## comprehensions that make sets of any things: O tells the set at an address, can what may be put in, nxt what comes of it -/
/-! ### sets of tuples of whole numbers -/
/-! ### sorted({e for ..}), e a pair of whole numbers not below nought -/
def leP (p q : List Int) : Bool := decide (p.getD 0 0 < q.getD 0 0 ∨ p.getD 0 0 = q.getD 0 0 ∧ p.getD 1 0 ≤ q.getD 1 0)
def sortU (kk : List (List Int)) : List (List Int) := (uniq kk).mergeSort leP
def dI (k : List Int) : D := .tup (k.map .int)
def okP (k : List Int) : Bool := decide (k.length = 2) && k.all fun i => decide (0 ≤ i)
def lcS (g : Fg) (c : Fn Bool) (e : Fn D) (σ : Sd) : List D → Ms → List (List Int) → R D
  | [], m, kk => .ok (.lst ((sortU kk).map dI)) m
  | d :: ds, m, kk => match g d σ m with
    | none => .bad
    | some (σ1, m1) => match c σ1 m1 with
      | .ok true m2 => match e σ1 m2 with
        | .ok y m3 => match pairI y with
          | some k => if okP k = true ∧ kk.length < 60 then lcS g c e σ ds m3 (kk ++ [k]) else .bad
          | none => .bad
        | _ => .bad
      | .ok false m2 => lcS g c e σ ds m2 kk
      | _ => .bad
def xSortS (src : Fn (List D)) (g : Fg) (c : Fn Bool) (e : Fn D) (own : List Nat) : Fn D := fun σ m => (src σ m).bind fun items m1 => lcS g c e (wipeD σ own) items m1 []
@[simp] theorem ev_sortS {s : Fn (List D)} {h : Fg} {e : Fn D} {t : Fn Bool} {own : List Nat} {σ : Sd} {m : Ms} : xSortS s h t e own σ m = (s σ m).bind fun items m1 => lcS h t e (wipeD σ own) items m1 [] := rfl
end CT
namespace CT
open PySem PySem.Spec PyProof.Rows L2
/-! ## sorted, of a list of tuples that can be compared place by place -/
def isTP : PyData → Bool
  | .tuple (_ :: _) => true
  | _ => false
def sgOk (ds : List D) : Bool := ds.all (fun d => d.cf 0 && (toP d).canLay0 && decide ((toP d).depth ≤ 50) && isTP (toP d)) && ds.all (fun d => ds.all fun e => PySem.W.alike (toP d) (toP e)) && decide (ds.length ≤ 1000)
noncomputable def leG (d e : D) : Bool := PySem.W.dataLe false toP d e
noncomputable def sortG (ds : List D) : List D := ds.mergeSort leG
noncomputable def bSortG : List D → Ms → R D
  | [.lst ds], m => if sgOk ds = true then .ok (.lst (sortG ds)) m else .bad
  | _, _ => .bad
@[simp] theorem b_sortG {ds : List D} {m : Ms} : bSortG [.lst ds] m = if sgOk ds = true then .ok (.lst (sortG ds)) m else .bad := rfl
/-! sorted lists of one and the same bag are alike -/
end CT
namespace CT
open PySem PySem.Spec PyProof.Rows L2
/-! ## range(i, j, -1), walked and as a list -/
def rngB (i : Int) (n : Nat) : List D := (List.range n).map fun k : Nat => .int (i - (k : Nat))
def xRng3 (f g h : Fn D) : Fn (List D) := fun σ m => (f σ m).bind fun d m1 => (g σ m1).bind fun e m2 => (h σ m2).bind fun c m3 => match d, e, c with
  | .int i, .int j, .int k => if ((-100000 ≤ i ∧ i ≤ 100000) ∧ -100000 ≤ j ∧ j ≤ 100000) ∧ k = -1 then .ok (rngB i (i - j).toNat) m3 else .bad
  | _, _, _ => .bad
def xLstR3 (f g h : Fn D) : Fn D := fun σ m => (f σ m).bind fun d m1 => (g σ m1).bind fun e m2 => (h σ m2).bind fun c m3 => match d, e, c with
  | .int i, .int j, .int k => if ((-100000 ≤ i ∧ i ≤ 100000) ∧ -100000 ≤ j ∧ j ≤ 100000) ∧ k = -1 then .ok (.lst (rngB i (i - j).toNat)) m3 else .bad
  | _, _, _ => .bad
section
variable {σ : Sd} {m : Ms} {f g h : Fn D}
@[simp] theorem ev_rng3 : xRng3 f g h σ m = (f σ m).bind fun d m1 => (g σ m1).bind fun e m2 => (h σ m2).bind fun c m3 => match d, e, c with
  | .int i, .int j, .int k => if ((-100000 ≤ i ∧ i ≤ 100000) ∧ -100000 ≤ j ∧ j ≤ 100000) ∧ k = -1 then .ok (rngB i (i - j).toNat) m3 else .bad
  | _, _, _ => .bad := rfl
@[simp] theorem ev_lstR3 : xLstR3 f g h σ m = (f σ m).bind fun d m1 => (g σ m1).bind fun e m2 => (h σ m2).bind fun c m3 => match d, e, c with
  | .int i, .int j, .int k => if ((-100000 ≤ i ∧ i ≤ 100000) ∧ -100000 ≤ j ∧ j ≤ 100000) ∧ k = -1 then .ok (.lst (rngB i (i - j).toNat)) m3 else .bad
  | _, _, _ => .bad := rfl
end
end CT
namespace CT
open PySem PySem.Spec PyProof.Rows L2
/-! ## index of a text in a list that may change -/
end CT
namespace CT
open PySem PySem.Spec PyProof.Rows L2
/-! ## texts of numbers, numbers of texts -/
def bStrI : List D → Ms → R D
  | [.int i], m => if i.natAbs.log2 < 1900 then .ok (.str (Str.ofString (toString i))) m else .bad
  | _, _ => .bad
def bIntT : List D → Ms → R D
  | [.str a], m => match PySem.intText? a with
    | some n => if a.length ≤ 600 then .ok (.int n) m else .bad
    | none => .bad
  | _, _ => .bad
section
variable {L : Lc}
theorem calB_strI : CalS L (fun xs H Q => ∃ i, xs = [.int i] ∧ i.natAbs.log2 < 1920 ∧ Q (.str (toString i)) H) bStrI := by
  intro W H α β σ σd m vs ds Q s r q
  cases r with
  | nil => exact q.elim
  | cons a r =>
    cases r with
    | cons b r => cases a <;> exact q.elim
    | nil =>
      cases a with
      | @int i =>
        simp only [bStrI] at q
        split at q
        · rename_i h
          exact ⟨i, rfl, Nat.lt_trans h (by decide), q _ H α Ext.refl s .str⟩
        · exact q.elim
      | _ => exact q.elim
theorem calB_intT : CalS L (fun xs H Q => ∃ a n, xs = [.str a] ∧ PySem.intText? a = some n ∧ a.length ≤ 640 ∧ Q (.int n) H) bIntT := by
  intro W H α β σ σd m vs ds Q s r q
  cases r with
  | nil => exact q.elim
  | cons a r =>
    cases r with
    | cons b r => cases a <;> exact q.elim
    | nil =>
      cases a with
      | @str x =>
        simp only [bIntT] at q
        cases e : PySem.intText? x with
        | none => rw [e] at q; exact q.elim
        | some n =>
          rw [e] at q
          simp only at q
          split at q
          · rename_i h
            exact ⟨x, n, rfl, e, Nat.le_trans h (by decide), q _ H α Ext.refl s .int⟩
          · exact q.elim
      | _ => exact q.elim
end
section
variable {G : Lc} {N : List Str} {sc : Scope} {k : Nat} {fn : Str → Bool} {e : Expr} {es : List Expr} {f : Fn (List D)} {p pos : Pos}
theorem g_strI (h : gloOk sc "str" = true) (hm : G.mg "str" = none) (ha : SAs (G.loc N sc k fn) (e :: es) f) (he : ∀ env, starEach (e :: es) env = (false, eval e env) :: starEach es env := by intro _; rfl) (hpl : ∀ env, (backTo pos (starEach es env)).any (·.1) = false := by intro _; rfl) : SE (G.loc N sc k fn) (.Call (.Name "str" p) (e :: es) [] pos) (xCalB bStrI f) :=
  se_callTy (fun W X h => call_str_int) calB_strI (gloOk_g h).1 hm (by decide +kernel) ha (by decide) (by decide) he hpl
theorem g_intT (h : gloOk sc "int" = true) (hm : G.mg "int" = none) (ha : SAs (G.loc N sc k fn) (e :: es) f) (he : ∀ env, starEach (e :: es) env = (false, eval e env) :: starEach es env := by intro _; rfl) (hpl : ∀ env, (backTo pos (starEach es env)).any (·.1) = false := by intro _; rfl) : SE (G.loc N sc k fn) (.Call (.Name "int" p) (e :: es) [] pos) (xCalB bIntT f) :=
  se_callTy (fun W X h => call_int_str) calB_intT (gloOk_g h).1 hm (by decide +kernel) ha (by decide) (by decide) he hpl
end
/-! ## methods of texts with one text -/
def xStW (o e : Fn D) : Fn D := fun σ m => (o σ m).bind fun d m1 => match d with
  | .str a => (e σ m1).bind fun y m2 => match y with
    | .str b => .ok (.bl (Txt.startswith a b)) m2
    | _ => .bad
  | _ => .bad
def xPtn (o e : Fn D) : Fn D := fun σ m => (o σ m).bind fun d m1 => match d with
  | .str a => (e σ m1).bind fun y m2 => match y with
    | .str b => if (b.length == 0) = false ∧ a.length ≤ 100000 then .ok (.tup [.str (Txt.partition a b).1, .str (Txt.partition a b).2.1, .str (Txt.partition a b).2.2]) m2 else .bad
    | _ => .bad
  | _ => .bad
def xSpt (o e : Fn D) : Fn D := fun σ m => (o σ m).bind fun d m1 => match d with
  | .str a => (e σ m1).bind fun y m2 => match y with
    | .str b => if (b.length == 0) = false ∧ a.length ≤ 100000 then .ok (.lst ((Txt.split a b).map .str)) m2 else .bad
    | _ => .bad
  | _ => .bad
theorem ln_of {n : Nat} (h : n ≤ 100000) : n + 2 ≤ sizeLine := by rw [sizeLine_eq]; omega
section
variable {L : Lc}
theorem se_stw {o e : Expr} {fo fe : Fn D} {apos pos : Pos} (ho : SE L o fo) (he : SE L e fe) (hs : ∀ env, starEach [e] env = [(false, eval e env)] := by intro _; rfl) (hbase : ∀ env, attributeBase o "startswith" env (eval o env) = eval o env := by intro _; rfl) (hline : (apos.endLine == pos.line) = true := by rfl) :
    SE L (.Call (.Attribute o "startswith" apos) [e] [] pos) (xStW fo fe) := fun W X h =>
  PEi (pe_m1 F.slot_str_startswith F.type_str_startswith mt_startswith (ho W X h) (he W X h) (hs _) (hbase _) hline) fun σ H Q ⟨α, β, σd, m, s, q⟩ => by
    refine ⟨α, β, σd, m, s, q.mp fun d m1 v H1 α1 e1 s1 r1 q => ?_⟩
    cases r1 with
    | @str a =>
      refine ⟨⟨a, rfl⟩, α1, β, σd, m1, s1, q.mp fun y m2 u H2 α2 e2 s2 r2 q => ?_⟩
      cases r2 with
      | @str b => exact ⟨a, b, rfl, rfl, q _ H2 α2 Ext.refl s2 .bl⟩
      | _ => exact q.elim
    | _ => exact q.elim
theorem se_ptn {o e : Expr} {fo fe : Fn D} {apos pos : Pos} (ho : SE L o fo) (he : SE L e fe) (hs : ∀ env, starEach [e] env = [(false, eval e env)] := by intro _; rfl) (hbase : ∀ env, attributeBase o "partition" env (eval o env) = eval o env := by intro _; rfl) (hline : (apos.endLine == pos.line) = true := by rfl) :
    SE L (.Call (.Attribute o "partition" apos) [e] [] pos) (xPtn fo fe) := fun W X h =>
  PEi (pe_partition (ho W X h) (he W X h) (hs _) (hbase _) hline) fun σ H Q ⟨α, β, σd, m, s, q⟩ => by
    refine ⟨α, β, σd, m, s, q.mp fun d m1 v H1 α1 e1 s1 r1 q => ?_⟩
    cases r1 with
    | @str a =>
      refine ⟨⟨a, rfl⟩, α1, β, σd, m1, s1, q.mp fun y m2 u H2 α2 e2 s2 r2 q => ?_⟩
      cases r2 with
      | @str b =>
        obtain ⟨hz, q⟩ := if_elim q
        refine ⟨a, b, rfl, rfl, hz.1, Nat.le_trans (Nat.le_add_right _ 2) (ln_of hz.2), fun p hp => ?_⟩
        obtain ⟨s3, r3⟩ := lay_tup s2 hp (vs := [.str (Txt.partition a b).1, .str (Txt.partition a b).2.1, .str (Txt.partition a b).2.2]) (ds := [.str (Txt.partition a b).1, .str (Txt.partition a b).2.1, .str (Txt.partition a b).2.2]) (.cons .str (.cons .str (.cons .str .nil)))
        exact q _ _ α2 (Ext.lay hp) s3 r3
      | _ => exact q.elim
    | _ => exact q.elim
theorem reps_strs {K : KK} {H : Hp} {α β : List Addr} : ∀ ws : List Str, Rps K H α β (ws.map V.str) (ws.map D.str)
  | [] => .nil
  | w :: ws => .cons .str (reps_strs ws)
theorem se_spt {o e : Expr} {fo fe : Fn D} {apos pos : Pos} (ho : SE L o fo) (he : SE L e fe) (hs : ∀ env, starEach [e] env = [(false, eval e env)] := by intro _; rfl) (hbase : ∀ env, attributeBase o "split" env (eval o env) = eval o env := by intro _; rfl) (hline : (apos.endLine == pos.line) = true := by rfl) :
    SE L (.Call (.Attribute o "split" apos) [e] [] pos) (xSpt fo fe) := fun W X h =>
  PEi (pe_split (ho W X h) (he W X h) (hs _) (hbase _) hline) fun σ H Q ⟨α, β, σd, m, s, q⟩ => by
    refine ⟨α, β, σd, m, s, q.mp fun d m1 v H1 α1 e1 s1 r1 q => ?_⟩
    cases r1 with
    | @str a =>
      refine ⟨⟨a, rfl⟩, α1, β, σd, m1, s1, q.mp fun y m2 u H2 α2 e2 s2 r2 q => ?_⟩
      cases r2 with
      | @str b =>
        obtain ⟨hz, q⟩ := if_elim q
        refine ⟨a, b, rfl, rfl, hz.1, ln_of hz.2, fun p hp => ?_⟩
        obtain ⟨s3, r3⟩ := lay_lst s2 hp (reps_strs (Txt.split a b))
        exact q _ _ α2 (Ext.lay hp) s3 r3
      | _ => exact q.elim
    | _ => exact q.elim
end
/-! ## f'..' -/
def xFmt (f : Fn D) : Fn D := fun σ m => (f σ m).bind fun d m1 => match d with
  | .str y => if y.length ≤ 100000 then .ok (.str y) m1 else .bad
  | .int i => if i.natAbs.log2 < 1900 then .ok (.str (Str.ofString (toString i))) m1 else .bad
  | _ => .bad
def xJs : List (Fn D) → Str → Fn D
  | [], acc => fun _ m => .ok (.str acc) m
  | f :: fs, acc => fun σ m => (f σ m).bind fun d m1 => match d with
    | .str y => if (acc ++ y).length ≤ 100000 then xJs fs (acc ++ y) σ m1 else .bad
    | _ => .bad
inductive SJ (L : Lc) : List Expr → List (Fn D) → Prop where
  | nil : SJ L [] []
  | cons {e : Expr} {f : Fn D} {es : List Expr} {fs : List (Fn D)} (h : SE L e f) (r : SJ L es fs) : SJ L (e :: es) (f :: fs)
section
variable {L : Lc}
theorem se_fmt {e : Expr} {f : Fn D} {pos : Pos} (he : SE L e f) : SE L (.FormattedValue e (-1) none pos) (xFmt f) := fun W X h =>
  PEi (pe_fmt (he W X h)) fun σ H Q ⟨α, β, σd, m, s, q⟩ => by
    refine ⟨α, β, σd, m, s, q.mp fun d m1 v H1 α1 e1 s1 r1 q => ?_⟩
    cases r1 with
    | @str y =>
      obtain ⟨hz, q⟩ := if_elim q
      exact .inl ⟨y, rfl, Nat.le_trans (Nat.le_add_right _ 2) (ln_of hz), q _ H1 α1 Ext.refl s1 .str⟩
    | @int i =>
      obtain ⟨hz, q⟩ := if_elim q
      exact .inr ⟨i, rfl, Nat.lt_trans hz (by decide), q _ H1 α1 Ext.refl s1 .str⟩
    | _ => exact q.elim
theorem sj_pj {es : List Expr} {fs : List (Fn D)} (h : SJ L es fs) {W : WX} {X : Cx} (ok : Ok L W X) : PJ X es (fs.map fun f => tS L W (relV L) f) := by
  induction h with
  | nil => exact .nil
  | cons he _ ih => exact .cons (he W X ok) ih
theorem tjs_of {W : WX} {Q : VK} {σ : L2.St} {σd : Sd} {β : List Addr} : ∀ (fs : List (Fn D)) (acc : Str) (H : Hp) (α : List Addr) (m : Ms), SR L.K H α β σ σd m → PostR L W (relV L) σ σd H α β Q (xJs fs acc σd m) → tJs (fs.map fun f => tS L W (relV L) f) acc σ H fun out H1 => Q (.str out) H1
  | [], acc, H, α, m, s, q => q _ H α Ext.refl s .str
  | f :: fs, acc, H, α, m, s, q => by
    refine ⟨α, β, σd, m, s, q.mp fun d m1 v H1 α1 e1 s1 r1 q => ?_⟩
    cases r1 with
    | @str y =>
      obtain ⟨hz, q⟩ := if_elim q
      exact ⟨y, rfl, Nat.le_trans (Nat.le_add_right _ 2) (ln_of hz), tjs_of fs (acc ++ y) H1 α1 m1 s1 q⟩
    | _ => exact q.elim
theorem se_js {v1 v2 : Expr} {rest : List Expr} {fs : List (Fn D)} {pos : Pos} (hj : SJ L (v1 :: v2 :: rest) fs) : SE L (.JoinedStr (v1 :: v2 :: rest) pos) (xJs fs Str.empty) := fun W X h =>
  PEi (pe_joined (sj_pj hj h)) fun σ H Q ⟨α, β, σd, m, s, q⟩ => tjs_of fs Str.empty H α m s q
end
section
variable {a b : Fn D} {σ : Sd} {m : Ms}
@[simp] theorem ev_stw : xStW a b σ m = (a σ m).bind fun d m1 => match d with
  | .str a => (b σ m1).bind fun y m2 => match y with
    | .str b => .ok (.bl (Txt.startswith a b)) m2
    | _ => .bad
  | _ => .bad := rfl
@[simp] theorem ev_ptn : xPtn a b σ m = (a σ m).bind fun d m1 => match d with
  | .str a => (b σ m1).bind fun y m2 => match y with
    | .str b => if (b.length == 0) = false ∧ a.length ≤ 100000 then .ok (.tup [.str (Txt.partition a b).1, .str (Txt.partition a b).2.1, .str (Txt.partition a b).2.2]) m2 else .bad
    | _ => .bad
  | _ => .bad := rfl
@[simp] theorem ev_spt : xSpt a b σ m = (a σ m).bind fun d m1 => match d with
  | .str a => (b σ m1).bind fun y m2 => match y with
    | .str b => if (b.length == 0) = false ∧ a.length ≤ 100000 then .ok (.lst ((Txt.split a b).map .str)) m2 else .bad
    | _ => .bad
  | _ => .bad := rfl
@[simp] theorem ev_fmt : xFmt a σ m = (a σ m).bind fun d m1 => match d with
  | .str y => if y.length ≤ 100000 then .ok (.str y) m1 else .bad
  | .int i => if i.natAbs.log2 < 1900 then .ok (.str (Str.ofString (toString i))) m1 else .bad
  | _ => .bad := rfl
@[simp] theorem ev_js0 {acc : Str} : xJs [] acc σ m = .ok (.str acc) m := rfl
@[simp] theorem ev_js1 {f : Fn D} {fs : List (Fn D)} {acc : Str} : xJs (f :: fs) acc σ m = (f σ m).bind fun d m1 => match d with
    | .str y => if (acc ++ y).length ≤ 100000 then xJs fs (acc ++ y) σ m1 else .bad
    | _ => .bad := rfl
@[simp] theorem ev_bStrI {i : Int} : bStrI [.int i] m = if i.natAbs.log2 < 1900 then .ok (.str (Str.ofString (toString i))) m else .bad := rfl
end
end CT
namespace Law
open PySem PyProof.Rows L2 CT
def top (i : Nat) : Stmt := PySem.Challenge.pw_cornertrade_k07_arrows_written_and_read.main.body.getD i (.Pass ⟨0, 0, 0, 0⟩)
abbrev t_shared_by : Stmt := top 22
abbrev N_shared_by : List Str := ["one", "other"]
theorem S_shared_by : FnScope N_shared_by ["one", "other"] (defScope t_shared_by) := ⟨by decide +kernel, by decide +kernel, by decide +kernel, by decide +kernel, by decide +kernel, by decide +kernel, by decide +kernel⟩
abbrev t_part : Stmt := top 23
abbrev N_part : List Str := ["over", "under", "low", "sign"]
theorem S_part : FnScope N_part ["over", "under"] (defScope t_part) := ⟨by decide +kernel, by decide +kernel, by decide +kernel, by decide +kernel, by decide +kernel, by decide +kernel, by decide +kernel⟩
abbrev t_part_text : Stmt := top 24
abbrev N_part_text : List Str := ["one", "above", "under"]
theorem S_part_text : FnScope N_part_text ["one"] (defScope t_part_text) := ⟨by decide +kernel, by decide +kernel, by decide +kernel, by decide +kernel, by decide +kernel, by decide +kernel, by decide +kernel⟩
abbrev t_read_figures : Stmt := top 25
abbrev N_read_figures : List Str := ["text", "most", "sign"]
theorem S_read_figures : FnScope N_read_figures ["text", "most"] (defScope t_read_figures) := ⟨by decide +kernel, by decide +kernel, by decide +kernel, by decide +kernel, by decide +kernel, by decide +kernel, by decide +kernel⟩
abbrev t_read_number : Stmt := top 26
abbrev N_read_number : List Str := ["text", "most", "found"]
theorem S_read_number : FnScope N_read_number ["text", "most"] (defScope t_read_number) := ⟨by decide +kernel, by decide +kernel, by decide +kernel, by decide +kernel, by decide +kernel, by decide +kernel, by decide +kernel⟩
abbrev t_read_part : Stmt := top 27
abbrev N_read_part : List Str := ["text", "found", "above", "stroke", "under"]
theorem S_read_part : FnScope N_read_part ["text"] (defScope t_read_part) := ⟨by decide +kernel, by decide +kernel, by decide +kernel, by decide +kernel, by decide +kernel, by decide +kernel, by decide +kernel⟩
abbrev t_arrow_text : Stmt := top 29
abbrev N_arrow_text : List Str := ["one"]
theorem S_arrow_text : FnScope N_arrow_text ["one"] (defScope t_arrow_text) := ⟨by decide +kernel, by decide +kernel, by decide +kernel, by decide +kernel, by decide +kernel, by decide +kernel, by decide +kernel⟩
abbrev t_read_arrow : Stmt := top 30
abbrev N_read_arrow : List Str := ["text", "words", "first", "second"]
theorem S_read_arrow : FnScope N_read_arrow ["text"] (defScope t_read_arrow) := ⟨by decide +kernel, by decide +kernel, by decide +kernel, by decide +kernel, by decide +kernel, by decide +kernel, by decide +kernel⟩
abbrev t_l_box : Stmt := top 32
abbrev N_l_box : List Str := ["_law_script"]
theorem S_l_box : FnScope N_l_box ["_law_script"] (defScope t_l_box) := ⟨by decide +kernel, by decide +kernel, by decide +kernel, by decide +kernel, by decide +kernel, by decide +kernel, by decide +kernel⟩
abbrev t_l_draw : Stmt := top 33
abbrev N_l_draw : List Str := ["_law_box_here", "_law_many", "_law_cell", "_law_got"]
theorem S_l_draw : FnScope N_l_draw ["_law_box_here", "_law_many"] (defScope t_l_draw) := ⟨by decide +kernel, by decide +kernel, by decide +kernel, by decide +kernel, by decide +kernel, by decide +kernel, by decide +kernel⟩
abbrev t_l_low : Stmt := top 34
abbrev N_l_low : List Str := ["_law_above", "_law_beneath", "_law_side", "_law_one", "_law_other"]
theorem S_l_low : FnScope N_l_low ["_law_above", "_law_beneath"] (defScope t_l_low) := ⟨by decide +kernel, by decide +kernel, by decide +kernel, by decide +kernel, by decide +kernel, by decide +kernel, by decide +kernel⟩
abbrev t_l_part : Stmt := top 35
abbrev N_l_part : List Str := ["_law_box_here"]
theorem S_l_part : FnScope N_l_part ["_law_box_here"] (defScope t_l_part) := ⟨by decide +kernel, by decide +kernel, by decide +kernel, by decide +kernel, by decide +kernel, by decide +kernel, by decide +kernel⟩
abbrev t_l_part_text : Stmt := top 36
abbrev N_l_part_text : List Str := ["_law_one"]
theorem S_l_part_text : FnScope N_l_part_text ["_law_one"] (defScope t_l_part_text) := ⟨by decide +kernel, by decide +kernel, by decide +kernel, by decide +kernel, by decide +kernel, by decide +kernel, by decide +kernel⟩
abbrev t_l_arrow_text : Stmt := top 37
abbrev N_l_arrow_text : List Str := ["_law_one"]
theorem S_l_arrow_text : FnScope N_l_arrow_text ["_law_one"] (defScope t_l_arrow_text) := ⟨by decide +kernel, by decide +kernel, by decide +kernel, by decide +kernel, by decide +kernel, by decide +kernel, by decide +kernel⟩
abbrev t_l_like : Stmt := top 38
abbrev N_l_like : List Str := ["_law_found", "_law_due", "_law_k"]
theorem S_l_like : FnScope N_l_like ["_law_found", "_law_due"] (defScope t_l_like) := ⟨by decide +kernel, by decide +kernel, by decide +kernel, by decide +kernel, by decide +kernel, by decide +kernel, by decide +kernel⟩
abbrev t_l_of : Stmt := top 39
abbrev N_l_of : List Str := ["_law_box_here", "_law_some"]
theorem S_l_of : FnScope N_l_of ["_law_box_here", "_law_some"] (defScope t_l_of) := ⟨by decide +kernel, by decide +kernel, by decide +kernel, by decide +kernel, by decide +kernel, by decide +kernel, by decide +kernel⟩
abbrev t_l_bent_text : Stmt := top 40
abbrev N_l_bent_text : List Str := ["_law_box_here", "_law_text", "_law_signs", "_law_at", "_law_some", "_law_sign", "_law_way"]
theorem S_l_bent_text : FnScope N_l_bent_text ["_law_box_here", "_law_text", "_law_signs"] (defScope t_l_bent_text) := ⟨by decide +kernel, by decide +kernel, by decide +kernel, by decide +kernel, by decide +kernel, by decide +kernel, by decide +kernel⟩
abbrev t_l_figures : Stmt := top 41
abbrev N_l_figures : List Str := ["_law_text", "_law_most", "_law_sign"]
theorem S_l_figures : FnScope N_l_figures ["_law_text", "_law_most"] (defScope t_l_figures) := ⟨by decide +kernel, by decide +kernel, by decide +kernel, by decide +kernel, by decide +kernel, by decide +kernel, by decide +kernel⟩
abbrev t_l_number_in : Stmt := top 42
abbrev N_l_number_in : List Str := ["_law_text", "_law_most", "_law_found"]
theorem S_l_number_in : FnScope N_l_number_in ["_law_text", "_law_most"] (defScope t_l_number_in) := ⟨by decide +kernel, by decide +kernel, by decide +kernel, by decide +kernel, by decide +kernel, by decide +kernel, by decide +kernel⟩
abbrev t_l_part_in : Stmt := top 43
abbrev N_l_part_in : List Str := ["_law_text", "_law_words", "_law_above", "_law_beneath"]
theorem S_l_part_in : FnScope N_l_part_in ["_law_text"] (defScope t_l_part_in) := ⟨by decide +kernel, by decide +kernel, by decide +kernel, by decide +kernel, by decide +kernel, by decide +kernel, by decide +kernel⟩
abbrev t_l_arrow_in : Stmt := top 44
abbrev N_l_arrow_in : List Str := ["_law_text", "_law_words", "_law_word"]
theorem S_l_arrow_in : FnScope N_l_arrow_in ["_law_text"] (defScope t_l_arrow_in) := ⟨by decide +kernel, by decide +kernel, by decide +kernel, by decide +kernel, by decide +kernel, by decide +kernel, by decide +kernel⟩
abbrev t_law : Stmt := top 46
abbrev N_law : List Str := ["_law_script", "_law_box_here", "_law_turn", "_law_odd", "_law_one", "_law_text", "_law_step", "_law_due"]
theorem S_law : FnScope N_law ["_law_script"] (defScope t_law) := ⟨by decide +kernel, by decide +kernel, by decide +kernel, by decide +kernel, by decide +kernel, by decide +kernel, by decide +kernel⟩
abbrev ti_BadPart : Stmt := csub (top 3) 0
theorem Si_BadPart : FnScope ["self"] ["self"] (defScope ti_BadPart) := ⟨by decide +kernel, by decide +kernel, by decide +kernel, by decide +kernel, by decide +kernel, by decide +kernel, by decide +kernel⟩
abbrev ti_BadText : Stmt := csub (top 16) 0
theorem Si_BadText : FnScope ["self", "at"] ["self", "at"] (defScope ti_BadText) := ⟨by decide +kernel, by decide +kernel, by decide +kernel, by decide +kernel, by decide +kernel, by decide +kernel, by decide +kernel⟩
abbrev t_l_tried : Stmt := top 45
def nCx : Nat := 2
def hdx : Hd := [(fun c => ([false, false] : List Bool).getD c false, ["called", "name"]), (fun c => ([false, true] : List Bool).getD c false, ["called", "at"]), (fun c => ([false, false] : List Bool).getD c false, ["called", "weight"]), (fun c => ([false, false] : List Bool).getD c false, ["called", "many"]), (fun c => ([false, false] : List Bool).getD c false, ["called", "most"]), (fun c => ([false, false] : List Bool).getD c false, ["called", "word"]), (fun c => ([true, true] : List Bool).getD c false, ["called"])]
theorem S_l_tried : FnScope ["_law_act", "e"] ["_law_act"] (defScope t_l_tried) := ⟨by decide +kernel, by decide +kernel, by decide +kernel, by decide +kernel, by decide +kernel, by decide +kernel, by decide +kernel⟩
def c_FIGURES : D := (.str "0123456789")
noncomputable section
def b_shared_by : Fo := (xSeq (xWhile (xTest (xOp oNe (xVar 1) (xVal (.int (0))))) (xPar 0 1 (xVar 1) (xOp oMod (xVar 0) (xVar 1))))
  (xRet (xVar 0)))
def s_shared_by : List D → Ms → R D := fnSem 2 b_shared_by
def b_part : Fo := (xSeq (xIfS (xTest (xOp oEq (xVar 1) (xVal (.int (0))))) (xRaise 0 "BadPart" [] xNil) xPass)
  (xSeq (xAsg (gN 2) (xCal (fun ds es => sel [.p 0, .p 1] ds [] es) s_shared_by (xCons (xCalB bAbs (xCons (xVar 0) xNil)) (xCons (xCalB bAbs (xCons (xVar 1) xNil)) xNil)) xNil))
  (xSeq (xAsg (gN 3) (xIf (xTest (xOp oGt (xVar 1) (xVal (.int (0))))) (xVal (.int (1))) (xUn oNeg (xVal (.int (1))))))
  (xRet (xTup (xCons (xOp oDiv (xOp oMul (xVar 3) (xVar 0)) (xVar 2)) (xCons (xOp oDiv (xOp oMul (xVar 3) (xVar 1)) (xVar 2)) xNil)))))))
def s_part : List D → Ms → R D := fnSem 4 b_part
def b_part_text : Fo := (xSeq (xAsg (gT 2 (gCons (gN 1) (gCons (gN 2) gNil))) (xVar 0))
  (xRet (xIf (xTest (xOp oEq (xVar 2) (xVal (.int (1))))) (xCalB bStrI (xCons (xVar 1) xNil)) (xJs [(xFmt (xVar 1)), (xVal (.str "/")), (xFmt (xVar 2))] Str.empty))))
def s_part_text : List D → Ms → R D := fnSem 3 b_part_text
def v_read_figures_1 : Fn D := (xOp oIn (xVar 2) (xVal c_FIGURES))
def b_read_figures : Fo := (xSeq (xIfS (xOr (xNot (xTest (xChain oLe oLe (xVal (.int (1))) (xCalB bLen (xCons (xVar 0) xNil)) (xVar 1)))) (xNot (xTest (xCalB bAll (xCons (xLc (xIt (xVar 0)) (gN 2) xYes v_read_figures_1 [2]) xNil))))) (xRaise 1 "BadText" ["at"] (xCons (xVal (.int (0))) xNil)) xPass)
  (xSeq (xIfS (xAnd (xTest (xOp oEq (xOp oIx (xVar 0) (xVal (.int (0)))) (xVal (.str "0")))) (xTest (xOp oGt (xCalB bLen (xCons (xVar 0) xNil)) (xVal (.int (1)))))) (xRaise 1 "BadText" ["at"] (xCons (xVal (.int (0))) xNil)) xPass)
  (xRet (xCalB bIntT (xCons (xVar 0) xNil)))))
def s_read_figures : List D → Ms → R D := fnSem 3 b_read_figures
def b_read_number : Fo := (xSeq (xIfS (xNot (xTest (xStW (xVar 0) (xVal (.str "-"))))) (xRet (xCal (fun ds es => sel [.p 0, .p 1] ds [(.int (40))] es) s_read_figures (xCons (xVar 0) (xCons (xVar 1) xNil)) xNil)) xPass)
  (xSeq (xAsg (gN 2) (xCal (fun ds es => sel [.p 0, .p 1] ds [(.int (40))] es) s_read_figures (xCons (xSl (xVar 0) (xPart (xVal (.int (1)))) xNoP) (xCons (xVar 1) xNil)) xNil))
  (xSeq (xIfS (xTest (xOp oEq (xVar 2) (xVal (.int (0))))) (xRaise 1 "BadText" ["at"] (xCons (xVal (.int (0))) xNil)) xPass)
  (xRet (xUn oNeg (xVar 2))))))
def s_read_number : List D → Ms → R D := fnSem 3 b_read_number
def b_read_part : Fo := (xSeq (xAsg (gT 3 (gCons (gN 2) (gCons (gN 3) (gCons (gN 4) gNil)))) (xPtn (xVar 0) (xVal (.str "/"))))
  (xSeq (xIfS (xTest (xOp oEq (xVar 3) (xVal (.str "")))) (xRet (xTup (xCons (xCal (fun ds es => sel [.p 0, .d 0] ds [(.int (40))] es) s_read_number (xCons (xVar 2) xNil) xNil) (xCons (xVal (.int (1))) xNil)))) xPass)
  (xSeq (xAsg (gN 1) (xTup (xCons (xCal (fun ds es => sel [.p 0, .d 0] ds [(.int (40))] es) s_read_number (xCons (xVar 2) xNil) xNil) (xCons (xCal (fun ds es => sel [.p 0, .d 0] ds [(.int (40))] es) s_read_figures (xCons (xVar 4) xNil) xNil) xNil))))
  (xSeq (xIfS (xOr (xTest (xOp oLt (xOp oIx (xVar 1) (xVal (.int (1)))) (xVal (.int (2))))) (xTest (xOp oNe (xCal (fun ds es => sel [.p 0, .p 1] ds [(.int (1))] es) s_part (xCons (xOp oIx (xVar 1) (xVal (.int (0)))) (xCons (xOp oIx (xVar 1) (xVal (.int (1)))) xNil)) xNil) (xVar 1)))) (xRaise 1 "BadText" ["at"] (xCons (xVal (.int (0))) xNil)) xPass)
  (xRet (xVar 1))))))
def s_read_part : List D → Ms → R D := fnSem 5 b_read_part
def b_arrow_text : Fo := (xRet (xJs [(xFmt (xCal (fun ds es => sel [.p 0] ds [] es) s_part_text (xCons (xOp oIx (xVar 0) (xVal (.int (0)))) xNil) xNil)), (xVal (.str ",")), (xFmt (xCal (fun ds es => sel [.p 0] ds [] es) s_part_text (xCons (xOp oIx (xVar 0) (xVal (.int (1)))) xNil) xNil))] Str.empty))
def s_arrow_text : List D → Ms → R D := fnSem 1 b_arrow_text
def b_read_arrow : Fo := (xSeq (xAsg (gN 1) (xSpt (xVar 0) (xVal (.str ","))))
  (xSeq (xIfS (xTest (xOp oNe (xCalB bLen (xCons (xVar 1) xNil)) (xVal (.int (2))))) (xRaise 1 "BadText" ["at"] (xCons (xVal (.int (0))) xNil)) xPass)
  (xSeq (xAsg (gU 2 (gCons (gN 2) (gCons (gN 3) gNil))) (xVar 1))
  (xRet (xTup (xCons (xCal (fun ds es => sel [.p 0] ds [] es) s_read_part (xCons (xVar 2) xNil) xNil) (xCons (xCal (fun ds es => sel [.p 0] ds [] es) s_read_part (xCons (xVar 3) xNil) xNil) xNil)))))))
def s_read_arrow : List D → Ms → R D := fnSem 4 b_read_arrow
def b_l_box : Fo := (xRet (xCel (xCons (xCalB bList (xCons (xSl (xVar 0) xNoP (xPart (xVal (.int (63))))) xNil)) (xCons (xVal (.int (0))) (xCons (xVal (.int (0))) (xCons (xVal (.int (53))) (xCons (xVal (.int (0))) xNil)))))))
def s_l_box : List D → Ms → R D := fnSemC 1 b_l_box
def b_l_draw : Fo := (xSeq (xIfS (xAnd (xTest (xOp oLt (xOp oIx (xVar 0) (xVal (.int (2)))) (xVal (.int (1))))) (xTest (xOp oLt (xOp oIx (xVar 0) (xVal (.int (1)))) (xCalB bLen (xCons (xOp oIx (xVar 0) (xVal (.int (0)))) xNil))))) (xSeq (xAsg (gN 2) (xOp oIx (xOp oIx (xVar 0) (xVal (.int (0)))) (xOp oIx (xVar 0) (xVal (.int (1))))))
  (xSeq (xAsg (gS (xVar 0) (xVal (.int (1)))) (xOp oAdd (xOp oIx (xVar 0) (xVal (.int (1)))) (xVal (.int (1)))))
  (xSeq (xAsg (gS (xVar 0) (xVal (.int (2)))) (xCalB bMax (xCons (xVal (.int (0))) (xCons (xOp oSub (xVar 2) (xOp oPow (xVal (.int (10))) (xVal (.int (18))))) xNil))))
  (xAsg (gS (xVar 0) (xVal (.int (3)))) (xOp oMod (xOp oAdd (xOp oAdd (xOp oMul (xOp oIx (xVar 0) (xVal (.int (3)))) (xVal (.int (48271)))) (xOp oMul (xOp oMod (xVar 2) (xVal (.int (2147483629)))) (xVal (.int (7))))) (xVal (.int (11)))) (xVal (.int (2147483629)))))))) xPass)
  (xSeq (xIfS (xTest (xOp oGt (xOp oIx (xVar 0) (xVal (.int (2)))) (xVal (.int (0))))) (xSeq (xAsg (gN 3) (xOp oMod (xOp oIx (xVar 0) (xVal (.int (2)))) (xVar 1)))
  (xSeq (xAsg (gS (xVar 0) (xVal (.int (2)))) (xOp oDiv (xOp oIx (xVar 0) (xVal (.int (2)))) (xVar 1)))
  (xRet (xVar 3)))) xPass)
  (xSeq (xAsg (gS (xVar 0) (xVal (.int (4)))) (xOp oAdd (xOp oIx (xVar 0) (xVal (.int (4)))) (xVal (.int (1)))))
  (xSeq (xAsg (gS (xVar 0) (xVal (.int (3)))) (xOp oMod (xOp oAdd (xOp oAdd (xOp oPow (xOp oIx (xVar 0) (xVal (.int (3)))) (xVal (.int (3)))) (xOp oMul (xVal (.int (69621))) (xOp oIx (xVar 0) (xVal (.int (4)))))) (xVal (.int (9453)))) (xVal (.int (2147483629)))))
  (xRet (xOp oMod (xOp oDiv (xOp oIx (xVar 0) (xVal (.int (3)))) (xVal (.int (64)))) (xVar 1)))))))
def s_l_draw : List D → Ms → R D := fnSem 4 b_l_draw
def b_l_low : Fo := (xSeq (xPar 3 4 (xCalB bAbs (xCons (xVar 0) xNil)) (xCalB bAbs (xCons (xVar 1) xNil)))
  (xSeq (xWhile (xTest (xOp oNe (xVar 4) (xVal (.int (0))))) (xPar 3 4 (xVar 4) (xOp oMod (xVar 3) (xVar 4))))
  (xSeq (xAsg (gN 2) (xIf (xTest (xOp oGt (xVar 1) (xVal (.int (0))))) (xVal (.int (1))) (xUn oNeg (xVal (.int (1))))))
  (xRet (xTup (xCons (xOp oDiv (xOp oMul (xVar 2) (xVar 0)) (xVar 3)) (xCons (xOp oDiv (xOp oMul (xVar 2) (xVar 1)) (xVar 3)) xNil)))))))
def s_l_low : List D → Ms → R D := fnSem 5 b_l_low
def b_l_part : Fo := (xSeq (xIfS (xTest (xOp oEq (xCal (fun ds es => sel [.p 0, .p 1] ds [] es) s_l_draw (xCons (xVar 0) (xCons (xVal (.int (5))) xNil)) xNil) (xVal (.int (0))))) (xRet (xCal (fun ds es => sel [.p 0, .p 1] ds [] es) s_l_low (xCons (xOp oAdd (xOp oSub (xCal (fun ds es => sel [.p 0, .p 1] ds [] es) s_l_draw (xCons (xVar 0) (xCons (xOp oSub (xOp oMul (xVal (.int (2))) (xOp oPow (xVal (.int (10))) (xVal (.int (12))))) (xVal (.int (1)))) xNil)) xNil) (xOp oPow (xVal (.int (10))) (xVal (.int (12))))) (xVal (.int (1)))) (xCons (xOp oAdd (xVal (.int (1))) (xCal (fun ds es => sel [.p 0, .p 1] ds [] es) s_l_draw (xCons (xVar 0) (xCons (xOp oSub (xOp oPow (xVal (.int (10))) (xVal (.int (12)))) (xVal (.int (1)))) xNil)) xNil)) xNil)) xNil)) xPass)
  (xRet (xCal (fun ds es => sel [.p 0, .p 1] ds [] es) s_l_low (xCons (xOp oSub (xCal (fun ds es => sel [.p 0, .p 1] ds [] es) s_l_draw (xCons (xVar 0) (xCons (xVal (.int (41))) xNil)) xNil) (xVal (.int (20)))) (xCons (xOp oAdd (xVal (.int (1))) (xCal (fun ds es => sel [.p 0, .p 1] ds [] es) s_l_draw (xCons (xVar 0) (xCons (xVal (.int (9))) xNil)) xNil)) xNil)) xNil)))
def s_l_part : List D → Ms → R D := fnSem 1 b_l_part
def b_l_part_text : Fo := (xRet (xOp oAdd (xCalB bStrI (xCons (xOp oIx (xVar 0) (xVal (.int (0)))) xNil)) (xIf (xTest (xOp oEq (xOp oIx (xVar 0) (xVal (.int (1)))) (xVal (.int (1))))) (xVal (.str "")) (xOp oAdd (xVal (.str "/")) (xCalB bStrI (xCons (xOp oIx (xVar 0) (xVal (.int (1)))) xNil))))))
def s_l_part_text : List D → Ms → R D := fnSem 1 b_l_part_text
def b_l_arrow_text : Fo := (xRet (xOp oAdd (xOp oAdd (xCal (fun ds es => sel [.p 0] ds [] es) s_l_part_text (xCons (xOp oIx (xVar 0) (xVal (.int (0)))) xNil) xNil) (xVal (.str ","))) (xCal (fun ds es => sel [.p 0] ds [] es) s_l_part_text (xCons (xOp oIx (xVar 0) (xVal (.int (1)))) xNil) xNil)))
def s_l_arrow_text : List D → Ms → R D := fnSem 1 b_l_arrow_text
def b_l_like (rec : List D → Ms → R D) : Fo := (xSeq (xIfS (xTest (xIsi2 "list" "tuple" (xVar 1))) (xSeq (xIfS (xOr (xTest (xOp oNe (xIsi "list" (xVar 0)) (xIsi "list" (xVar 1)))) (xTest (xOp oNe (xIsi "tuple" (xVar 0)) (xIsi "tuple" (xVar 1))))) (xRet (xVal (.bl false))) xPass)
  (xRet (xAndV (xOp oEq (xCalB bLen (xCons (xVar 0) xNil)) (xCalB bLen (xCons (xVar 1) xNil))) (xCalB bAll (xCons (xLc (xRng1 (xCalB bLen (xCons (xVar 1) xNil))) (gN 2) xYes (xCal (fun ds es => sel [.p 0, .p 1] ds [] es) rec (xCons (xOp oIx (xVar 0) (xVar 2)) (xCons (xOp oIx (xVar 1) (xVar 2)) xNil)) xNil) [2]) xNil))))) xPass)
  (xSeq (xIfS (xOr (xTest (xOp oNe (xIsi "bool" (xVar 0)) (xIsi "bool" (xVar 1)))) (xTest (xOp oNe (xIsi "int" (xVar 0)) (xIsi "int" (xVar 1))))) (xRet (xVal (.bl false))) xPass)
  (xRet (xAndV (xOp oEq (xIsi "str" (xVar 0)) (xIsi "str" (xVar 1))) (xOp oEq (xVar 0) (xVar 1))))))
def s_l_like : Nat → List D → Ms → R D
  | 0 => fun _ _ => .bad
  | n + 1 => fnSem 3 (b_l_like (s_l_like n))
def b_l_of : Fo := (xRet (xOp oIx (xVar 1) (xCal (fun ds es => sel [.p 0, .p 1] ds [] es) s_l_draw (xCons (xVar 0) (xCons (xCalB bLen (xCons (xVar 1) xNil)) xNil)) xNil)))
def s_l_of : List D → Ms → R D := fnSem 2 b_l_of
def b_l_bent_text : Fo := (xSeq (xAsg (gN 3) (xCal (fun ds es => sel [.p 0, .p 1] ds [] es) s_l_draw (xCons (xVar 0) (xCons (xOp oAdd (xCalB bLen (xCons (xVar 1) xNil)) (xVal (.int (1)))) xNil)) xNil))
  (xSeq (xPar 5 6 (xCal (fun ds es => sel [.p 0, .p 1] ds [] es) s_l_of (xCons (xVar 0) (xCons (xVar 2) xNil)) xNil) (xCal (fun ds es => sel [.p 0, .p 1] ds [] es) s_l_draw (xCons (xVar 0) (xCons (xVal (.int (6))) xNil)) xNil))
  (xSeq (xAsg (gN 4) (xLst (xCons (xVar 1) (xCons (xOp oAdd (xOp oAdd (xSl (xVar 1) xNoP (xPart (xVar 3))) (xVar 5)) (xSl (xVar 1) (xPart (xVar 3)) xNoP)) (xCons (xOp oAdd (xSl (xVar 1) xNoP (xPart (xVar 3))) (xSl (xVar 1) (xPart (xOp oAdd (xVar 3) (xVal (.int (1))))) xNoP)) (xCons (xOp oAdd (xOp oAdd (xSl (xVar 1) xNoP (xPart (xVar 3))) (xVar 5)) (xSl (xVar 1) (xPart (xOp oAdd (xVar 3) (xVal (.int (1))))) xNoP)) xNil))))))
  (xRet (xOp oIx (xOp oAdd (xVar 4) (xLst (xCons (xOp oAdd (xVar 1) (xVar 5)) (xCons (xOp oAdd (xVar 5) (xVar 1)) xNil)))) (xVar 6))))))
def s_l_bent_text : List D → Ms → R D := fnSem 7 b_l_bent_text
def v_l_figures_1 : Fn D := (xOp oIn (xVar 2) (xVal (.str "0123456789")))
def b_l_figures : Fo := (xSeq (xIfS (xOr (xNot (xTest (xChain oLe oLe (xVal (.int (1))) (xCalB bLen (xCons (xVar 0) xNil)) (xVar 1)))) (xNot (xTest (xCalB bAll (xCons (xLc (xIt (xVar 0)) (gN 2) xYes v_l_figures_1 [2]) xNil))))) (xRet (xVal .non)) xPass)
  (xRet (xIf (xAnd (xTest (xOp oGt (xCalB bLen (xCons (xVar 0) xNil)) (xVal (.int (1))))) (xTest (xOp oEq (xOp oIx (xVar 0) (xVal (.int (0)))) (xVal (.str "0"))))) (xVal .non) (xCalB bIntT (xCons (xVar 0) xNil)))))
def s_l_figures : List D → Ms → R D := fnSem 3 b_l_figures
def b_l_number_in : Fo := (xSeq (xIfS (xTest (xOp oNe (xSl (xVar 0) xNoP (xPart (xVal (.int (1))))) (xVal (.str "-")))) (xRet (xCal (fun ds es => sel [.p 0, .p 1] ds [] es) s_l_figures (xCons (xVar 0) (xCons (xVar 1) xNil)) xNil)) xPass)
  (xSeq (xAsg (gN 2) (xCal (fun ds es => sel [.p 0, .p 1] ds [] es) s_l_figures (xCons (xSl (xVar 0) (xPart (xVal (.int (1)))) xNoP) (xCons (xVar 1) xNil)) xNil))
  (xRet (xIf (xOr (xTest (xOp oIsN (xVar 2) (xVal .non))) (xTest (xOp oEq (xVar 2) (xVal (.int (0)))))) (xVal .non) (xOp oSub (xVal (.int (0))) (xVar 2))))))
def s_l_number_in : List D → Ms → R D := fnSem 3 b_l_number_in
def b_l_part_in : Fo := (xSeq (xAsg (gN 1) (xSpt (xVar 0) (xVal (.str "/"))))
  (xSeq (xAsg (gN 2) (xCal (fun ds es => sel [.p 0, .p 1] ds [] es) s_l_number_in (xCons (xOp oIx (xVar 1) (xVal (.int (0)))) (xCons (xVal (.int (40))) xNil)) xNil))
  (xSeq (xIfS (xOr (xTest (xOp oIsN (xVar 2) (xVal .non))) (xTest (xOp oGt (xCalB bLen (xCons (xVar 1) xNil)) (xVal (.int (2)))))) (xRet (xVal .non)) xPass)
  (xSeq (xIfS (xTest (xOp oEq (xCalB bLen (xCons (xVar 1) xNil)) (xVal (.int (1))))) (xRet (xTup (xCons (xVar 2) (xCons (xVal (.int (1))) xNil)))) xPass)
  (xSeq (xAsg (gN 3) (xCal (fun ds es => sel [.p 0, .p 1] ds [] es) s_l_figures (xCons (xOp oIx (xVar 1) (xVal (.int (1)))) (xCons (xVal (.int (40))) xNil)) xNil))
  (xSeq (xIfS (xOr (xTest (xOp oIsN (xVar 3) (xVal .non))) (xOr (xTest (xOp oLt (xVar 3) (xVal (.int (2))))) (xTest (xOp oNe (xCal (fun ds es => sel [.p 0, .p 1] ds [] es) s_l_low (xCons (xVar 2) (xCons (xVar 3) xNil)) xNil) (xTup (xCons (xVar 2) (xCons (xVar 3) xNil))))))) (xRet (xVal .non)) xPass)
  (xRet (xTup (xCons (xVar 2) (xCons (xVar 3) xNil))))))))))
def s_l_part_in : List D → Ms → R D := fnSem 4 b_l_part_in
def v_l_arrow_in_1 : Fn D := (xCal (fun ds es => sel [.p 0] ds [] es) s_l_part_in (xCons (xVar 2) xNil) xNil)
def b_l_arrow_in : Fo := (xSeq (xAsg (gN 1) (xLc (xIt (xSpt (xVar 0) (xVal (.str ",")))) (gN 2) xYes v_l_arrow_in_1 [2]))
  (xRet (xIf (xOr (xTest (xOp oNe (xCalB bLen (xCons (xVar 1) xNil)) (xVal (.int (2))))) (xTest (xOp oInS (xVal .non) (xVar 1)))) (xVal .non) (xTup (xCons (xOp oIx (xVar 1) (xVal (.int (0)))) (xCons (xOp oIx (xVar 1) (xVal (.int (1)))) xNil))))))
def s_l_arrow_in : List D → Ms → R D := fnSem 3 b_l_arrow_in
def w_law_1 : Fo := (xAsg (gN 5) (xCal (fun ds es => sel [.p 0, .p 1, .p 2] ds [] es) s_l_bent_text (xCons (xVar 1) (xCons (xVar 5) (xCons (xLst (xCons (xVal (.str "0")) (xCons (xVal (.str "1")) (xCons (xVal (.str "-")) (xCons (xVal (.str "/")) (xCons (xVal (.str " ")) (xCons (xVal (.str ",")) (xCons (xVal (.str "")) (xCons (xVal (.str "a")) xNil))))))))) xNil))) xNil))
def y_law_1 : Fn D := (xCal (fun ds es => sel [.p 0] ds [] es) s_read_arrow (xCons (xVar 5) xNil) xNil)
def w_law_2 : Fo := (xSeq (xAsg (gN 4) (xTup (xCons (xCal (fun ds es => sel [.p 0] ds [] es) s_l_part (xCons (xVar 1) xNil) xNil) (xCons (xCal (fun ds es => sel [.p 0] ds [] es) s_l_part (xCons (xVar 1) xNil) xNil) xNil))))
  (xSeq (xAsg (gN 5) (xCal (fun ds es => sel [.p 0] ds [] es) s_l_arrow_text (xCons (xVar 4) xNil) xNil))
  (xSeq (xIfS (xNot (xTest (xCal (fun ds es => sel [.p 0, .p 1] ds [] es) (s_l_like 6) (xCons (xLst (xCons (xCal (fun ds es => sel [.p 0] ds [] es) s_arrow_text (xCons (xVar 4) xNil) xNil) (xCons (xCal (fun ds es => sel [.p 0] ds [] es) s_read_arrow (xCons (xVar 5) xNil) xNil) xNil))) (xCons (xLst (xCons (xVar 5) (xCons (xVar 4) xNil))) xNil)) xNil))) (xRet (xVal (.bl false))) xPass)
  (xSeq (xFor (xRng1 (xCal (fun ds es => sel [.p 0, .p 1] ds [] es) s_l_draw (xCons (xVar 1) (xCons (xVal (.int (3))) xNil)) xNil)) (gN 6) w_law_1)
  (xSeq (xAsg (gN 7) (xCal (fun ds es => sel [.p 0] ds [] es) s_l_arrow_in (xCons (xVar 5) xNil) xNil))
  (xIfS (xNot (xTest (xCal (fun ds es => sel [.p 0, .p 1] ds [] es) (s_l_like 6) (xCons (xTry nCx hdx y_law_1) (xCons (xIf (xTest (xOp oIsN (xVar 7) (xVal .non))) (xTup (xCons (xVal (.str "BadText")) (xCons (xVal (.int (0))) xNil))) (xTup (xCons (xVal (.str "told")) (xCons (xVar 7) xNil)))) xNil)) xNil))) (xRet (xVal (.bl false))) xPass))))))
def y_law_2 : Fn D := (xCal (fun ds es => sel [.p 0] ds [] es) s_read_arrow (xCons (xVar 5) xNil) xNil)
def v_law_1 : Fn D := (xTry nCx hdx y_law_2)
def b_law : Fo := (xSeq (xAsg (gN 1) (xCal (fun ds es => sel [.p 0] ds [] es) s_l_box (xCons (xVar 0) xNil) xNil))
  (xSeq (xFor (xRng1 (xVal (.int (6)))) (gN 2) w_law_2)
  (xSeq (xAsg (gN 3) (xLst (xCons (xVal (.str "1_0,2")) (xCons (xVal (.str "1,2\n")) (xCons (xVal (.str "1\n,2")) (xCons (xOp oAdd (xOp oMul (xVal (.str "7")) (xVal (.int (41)))) (xVal (.str ",0"))) (xCons (xOp oAdd (xVal (.str "0,")) (xOp oMul (xVal (.str "7")) (xVal (.int (41))))) xNil)))))))
  (xRet (xOp oEq (xLc (xIt (xVar 3)) (gN 5) xYes v_law_1 [5]) (xOp oMul (xLst (xCons (xTup (xCons (xVal (.str "BadText")) (xCons (xVal (.int (0))) xNil))) xNil)) (xVal (.int (5)))))))))
def s_law : List D → Ms → R D := fnSem 8 b_law
end
structure Txt (G : Lc) (fa : Nat → Addr) (fd : Nat → FuncData) (cL PL : Addr) : Prop where
  X_BadPart : ExX G "BadPart" (G.K.ct 0) 0 "BadPart" []
  X_BadText : ExX G "BadText" (G.K.ct 1) 1 "BadText" ["at"]
  tried : TrX G "_law_tried" "_law_act" "e" t_l_tried nCx hdx
  tb : LamX.TabB G.base G.mg cL PL
  tT : G.K.T = [(PL, ("law" : Str) ++ Str.ofString ".<locals>." ++ Str.ofString "<lambda>")]
  cd0 : G.cd = none
  F_shared_by : FunX G "shared_by" t_shared_by [] [] (fa 0) (fd 0)
  m_shared_by : G.mg "shared_by" = some (.ref (fa 0))
  F_part : FunX G "part" t_part [(.int (1))] [] (fa 1) (fd 1)
  m_part : G.mg "part" = some (.ref (fa 1))
  F_part_text : FunX G "part_text" t_part_text [] [] (fa 2) (fd 2)
  m_part_text : G.mg "part_text" = some (.ref (fa 2))
  F_read_figures : FunX G "read_figures" t_read_figures [(.int (40))] [] (fa 3) (fd 3)
  m_read_figures : G.mg "read_figures" = some (.ref (fa 3))
  F_read_number : FunX G "read_number" t_read_number [(.int (40))] [] (fa 4) (fd 4)
  m_read_number : G.mg "read_number" = some (.ref (fa 4))
  F_read_part : FunX G "read_part" t_read_part [] [] (fa 5) (fd 5)
  m_read_part : G.mg "read_part" = some (.ref (fa 5))
  F_arrow_text : FunX G "arrow_text" t_arrow_text [] [] (fa 6) (fd 6)
  m_arrow_text : G.mg "arrow_text" = some (.ref (fa 6))
  F_read_arrow : FunX G "read_arrow" t_read_arrow [] [] (fa 7) (fd 7)
  m_read_arrow : G.mg "read_arrow" = some (.ref (fa 7))
  F_l_box : FunX G "_law_box" t_l_box [] [] (fa 8) (fd 8)
  m_l_box : G.mg "_law_box" = some (.ref (fa 8))
  F_l_draw : FunX G "_law_draw" t_l_draw [] [] (fa 9) (fd 9)
  m_l_draw : G.mg "_law_draw" = some (.ref (fa 9))
  F_l_low : FunX G "_law_low" t_l_low [] [] (fa 10) (fd 10)
  m_l_low : G.mg "_law_low" = some (.ref (fa 10))
  F_l_part : FunX G "_law_part" t_l_part [] [] (fa 11) (fd 11)
  m_l_part : G.mg "_law_part" = some (.ref (fa 11))
  F_l_part_text : FunX G "_law_part_text" t_l_part_text [] [] (fa 12) (fd 12)
  m_l_part_text : G.mg "_law_part_text" = some (.ref (fa 12))
  F_l_arrow_text : FunX G "_law_arrow_text" t_l_arrow_text [] [] (fa 13) (fd 13)
  m_l_arrow_text : G.mg "_law_arrow_text" = some (.ref (fa 13))
  F_l_like : FunX G "_law_like" t_l_like [] [] (fa 14) (fd 14)
  m_l_like : G.mg "_law_like" = some (.ref (fa 14))
  F_l_of : FunX G "_law_of" t_l_of [] [] (fa 15) (fd 15)
  m_l_of : G.mg "_law_of" = some (.ref (fa 15))
  F_l_bent_text : FunX G "_law_bent_text" t_l_bent_text [] [] (fa 16) (fd 16)
  m_l_bent_text : G.mg "_law_bent_text" = some (.ref (fa 16))
  F_l_figures : FunX G "_law_figures" t_l_figures [] [] (fa 17) (fd 17)
  m_l_figures : G.mg "_law_figures" = some (.ref (fa 17))
  F_l_number_in : FunX G "_law_number_in" t_l_number_in [] [] (fa 18) (fd 18)
  m_l_number_in : G.mg "_law_number_in" = some (.ref (fa 18))
  F_l_part_in : FunX G "_law_part_in" t_l_part_in [] [] (fa 19) (fd 19)
  m_l_part_in : G.mg "_law_part_in" = some (.ref (fa 19))
  F_l_arrow_in : FunX G "_law_arrow_in" t_l_arrow_in [] [] (fa 20) (fd 20)
  m_l_arrow_in : G.mg "_law_arrow_in" = some (.ref (fa 20))
  L_law : ∃ (oc dV kV doc pm ct : Value) (od an : Option Addr) (osl : Array (Option Value)), G.K.K.lookup (fa 21) = some ⟨oc, od, .func (fd 21), osl⟩ ∧ fd 21 = PySem.W.fnOf "law" "law" (defArgs t_law) (defBody t_law) (defScope t_law) dV kV doc pm an (.ref cL) ct ∧ PySem.W.codeIn G.K.K (.ref cL) "law" = true ∧ PySem.W.keepIn G.K.K (.ref (fa 21)) = true
  m_law : G.mg "law" = some (.ref (fa 21))
  n_abs : G.mg "abs" = none
  n_all : G.mg "all" = none
  n_bool : G.mg "bool" = none
  n_int : G.mg "int" = none
  n_isinstance : G.mg "isinstance" = none
  n_len : G.mg "len" = none
  n_list : G.mg "list" = none
  n_max : G.mg "max" = none
  n_range : G.mg "range" = none
  n_str : G.mg "str" = none
  n_tuple : G.mg "tuple" = none
  c_FIGURES : Gcon G "FIGURES" c_FIGURES
section
variable {G : Lc} {fa : Nat → Addr} {fd : Nat → FuncData} {cL PL : Addr}
theorem kb_0_shared_by (T : Txt G fa fd cL PL) : KB G (fd 0) ["one", "other"] 2 [] (fun ds es => sel [.p 0, .p 1] ds [] es) := kbx T.F_shared_by (by decide) rfl (fun _ _ _ _ _ _ us ws h1 h2 => match us, ws, h1, h2 with | [_, _], [], _, _ => rfl)
theorem kb_1_read_figures (T : Txt G fa fd cL PL) : KB G (fd 3) ["text", "most"] 2 [] (fun ds es => sel [.p 0, .p 1] ds [(.int (40))] es) := kbx_d T.F_read_figures (by simp) (by decide) rfl (fun _ _ _ _ _ _ _ us its ws h1 h2 h3 => match us, its, ws, h1, h2, h3 with | [_, _], [_], [], _, _, _ => ⟨_, rfl, rfl⟩)
theorem kb_2_read_number (T : Txt G fa fd cL PL) : KB G (fd 4) ["text", "most"] 1 [] (fun ds es => sel [.p 0, .d 0] ds [(.int (40))] es) := kbx_d T.F_read_number (by simp) (by decide) rfl (fun _ _ _ _ _ _ _ us its ws h1 h2 h3 => match us, its, ws, h1, h2, h3 with | [_], [_], [], _, _, _ => ⟨_, rfl, rfl⟩)
theorem kb_3_read_figures (T : Txt G fa fd cL PL) : KB G (fd 3) ["text", "most"] 1 [] (fun ds es => sel [.p 0, .d 0] ds [(.int (40))] es) := kbx_d T.F_read_figures (by simp) (by decide) rfl (fun _ _ _ _ _ _ _ us its ws h1 h2 h3 => match us, its, ws, h1, h2, h3 with | [_], [_], [], _, _, _ => ⟨_, rfl, rfl⟩)
theorem kb_4_part (T : Txt G fa fd cL PL) : KB G (fd 1) ["over", "under"] 2 [] (fun ds es => sel [.p 0, .p 1] ds [(.int (1))] es) := kbx_d T.F_part (by simp) (by decide) rfl (fun _ _ _ _ _ _ _ us its ws h1 h2 h3 => match us, its, ws, h1, h2, h3 with | [_, _], [_], [], _, _, _ => ⟨_, rfl, rfl⟩)
theorem kb_5_part_text (T : Txt G fa fd cL PL) : KB G (fd 2) ["one"] 1 [] (fun ds es => sel [.p 0] ds [] es) := kbx T.F_part_text (by decide) rfl (fun _ _ _ _ _ _ us ws h1 h2 => match us, ws, h1, h2 with | [_], [], _, _ => rfl)
theorem kb_6_read_part (T : Txt G fa fd cL PL) : KB G (fd 5) ["text"] 1 [] (fun ds es => sel [.p 0] ds [] es) := kbx T.F_read_part (by decide) rfl (fun _ _ _ _ _ _ us ws h1 h2 => match us, ws, h1, h2 with | [_], [], _, _ => rfl)
theorem kb_7_l_draw (T : Txt G fa fd cL PL) : KB G (fd 9) ["_law_box_here", "_law_many"] 2 [] (fun ds es => sel [.p 0, .p 1] ds [] es) := kbx T.F_l_draw (by decide) rfl (fun _ _ _ _ _ _ us ws h1 h2 => match us, ws, h1, h2 with | [_, _], [], _, _ => rfl)
theorem kb_8_l_low (T : Txt G fa fd cL PL) : KB G (fd 10) ["_law_above", "_law_beneath"] 2 [] (fun ds es => sel [.p 0, .p 1] ds [] es) := kbx T.F_l_low (by decide) rfl (fun _ _ _ _ _ _ us ws h1 h2 => match us, ws, h1, h2 with | [_, _], [], _, _ => rfl)
theorem kb_9_l_part_text (T : Txt G fa fd cL PL) : KB G (fd 12) ["_law_one"] 1 [] (fun ds es => sel [.p 0] ds [] es) := kbx T.F_l_part_text (by decide) rfl (fun _ _ _ _ _ _ us ws h1 h2 => match us, ws, h1, h2 with | [_], [], _, _ => rfl)
theorem kb_10_l_like (T : Txt G fa fd cL PL) : KB G (fd 14) ["_law_found", "_law_due"] 2 [] (fun ds es => sel [.p 0, .p 1] ds [] es) := kbx T.F_l_like (by decide) rfl (fun _ _ _ _ _ _ us ws h1 h2 => match us, ws, h1, h2 with | [_, _], [], _, _ => rfl)
theorem kb_11_l_of (T : Txt G fa fd cL PL) : KB G (fd 15) ["_law_box_here", "_law_some"] 2 [] (fun ds es => sel [.p 0, .p 1] ds [] es) := kbx T.F_l_of (by decide) rfl (fun _ _ _ _ _ _ us ws h1 h2 => match us, ws, h1, h2 with | [_, _], [], _, _ => rfl)
theorem kb_12_l_figures (T : Txt G fa fd cL PL) : KB G (fd 17) ["_law_text", "_law_most"] 2 [] (fun ds es => sel [.p 0, .p 1] ds [] es) := kbx T.F_l_figures (by decide) rfl (fun _ _ _ _ _ _ us ws h1 h2 => match us, ws, h1, h2 with | [_, _], [], _, _ => rfl)
theorem kb_13_l_number_in (T : Txt G fa fd cL PL) : KB G (fd 18) ["_law_text", "_law_most"] 2 [] (fun ds es => sel [.p 0, .p 1] ds [] es) := kbx T.F_l_number_in (by decide) rfl (fun _ _ _ _ _ _ us ws h1 h2 => match us, ws, h1, h2 with | [_, _], [], _, _ => rfl)
theorem kb_14_l_part_in (T : Txt G fa fd cL PL) : KB G (fd 19) ["_law_text"] 1 [] (fun ds es => sel [.p 0] ds [] es) := kbx T.F_l_part_in (by decide) rfl (fun _ _ _ _ _ _ us ws h1 h2 => match us, ws, h1, h2 with | [_], [], _, _ => rfl)
theorem kb_15_l_box (T : Txt G fa fd cL PL) : KB G (fd 8) ["_law_script"] 1 [] (fun ds es => sel [.p 0] ds [] es) := kbx T.F_l_box (by decide) rfl (fun _ _ _ _ _ _ us ws h1 h2 => match us, ws, h1, h2 with | [_], [], _, _ => rfl)
theorem kb_16_l_part (T : Txt G fa fd cL PL) : KB G (fd 11) ["_law_box_here"] 1 [] (fun ds es => sel [.p 0] ds [] es) := kbx T.F_l_part (by decide) rfl (fun _ _ _ _ _ _ us ws h1 h2 => match us, ws, h1, h2 with | [_], [], _, _ => rfl)
theorem kb_17_l_arrow_text (T : Txt G fa fd cL PL) : KB G (fd 13) ["_law_one"] 1 [] (fun ds es => sel [.p 0] ds [] es) := kbx T.F_l_arrow_text (by decide) rfl (fun _ _ _ _ _ _ us ws h1 h2 => match us, ws, h1, h2 with | [_], [], _, _ => rfl)
theorem kb_18_read_arrow (T : Txt G fa fd cL PL) : KB G (fd 7) ["text"] 1 [] (fun ds es => sel [.p 0] ds [] es) := kbx T.F_read_arrow (by decide) rfl (fun _ _ _ _ _ _ us ws h1 h2 => match us, ws, h1, h2 with | [_], [], _, _ => rfl)
theorem kb_19_arrow_text (T : Txt G fa fd cL PL) : KB G (fd 6) ["one"] 1 [] (fun ds es => sel [.p 0] ds [] es) := kbx T.F_arrow_text (by decide) rfl (fun _ _ _ _ _ _ us ws h1 h2 => match us, ws, h1, h2 with | [_], [], _, _ => rfl)
theorem kb_20_l_bent_text (T : Txt G fa fd cL PL) : KB G (fd 16) ["_law_box_here", "_law_text", "_law_signs"] 3 [] (fun ds es => sel [.p 0, .p 1, .p 2] ds [] es) := kbx T.F_l_bent_text (by decide) rfl (fun _ _ _ _ _ _ us ws h1 h2 => match us, ws, h1, h2 with | [_, _, _], [], _, _ => rfl)
theorem kb_21_l_arrow_in (T : Txt G fa fd cL PL) : KB G (fd 20) ["_law_text"] 1 [] (fun ds es => sel [.p 0] ds [] es) := kbx T.F_l_arrow_in (by decide) rfl (fun _ _ _ _ _ _ us ws h1 h2 => match us, ws, h1, h2 with | [_], [], _, _ => rfl)
theorem ok_shared_by (T : Txt G fa fd cL PL) : FnR G "shared_by" ["one", "other"] 1 s_shared_by (fa 0) (fd 0) := def_f T.F_shared_by S_shared_by T.m_shared_by T.cd0 (k := 0)
  (ss_cons (s_while (t_cmp cs_ne (g_var (by decide +kernel)) se_int (nomark _)) (ss_one (g_par S_shared_by.nd (by decide +kernel) (g_var (by decide +kernel)) (se_mod (g_var (by decide +kernel)) (g_var (by decide +kernel))))))
  (ss_one (s_ret (g_var (by decide +kernel)))))
theorem ok_part (T : Txt G fa fd cL PL) : FnR G "part" ["over", "under"] 3 s_part (fa 1) (fd 1) := def_f T.F_part S_part T.m_part T.cd0 (k := 2)
  (ss_cons (s_if (t_cmp cs_eq (g_var (by decide +kernel)) se_int (nomark _)) (ss_one (g_raise0 (by decide +kernel) (by omega) T.X_BadPart)) ss_nil)
  (ss_cons (g_set S_part.nd (by decide +kernel) (g_call (ok_shared_by T) (kb_0_shared_by T) (by decide +kernel) (by omega) (sa_cons (g_abs (by decide +kernel) T.n_abs (sa_cons (g_var (by decide +kernel)) sa_nil)) (sa_cons (g_abs (by decide +kernel) T.n_abs (sa_cons (g_var (by decide +kernel)) sa_nil)) sa_nil))))
  (ss_cons (g_set S_part.nd (by decide +kernel) (se_if (t_cmp cs_gt (g_var (by decide +kernel)) se_int (nomark _)) se_int (se_neg se_int)))
  (ss_one (s_ret (se_tup (sa_cons (se_div (se_mul (g_var (by decide +kernel)) (g_var (by decide +kernel))) (g_var (by decide +kernel))) (sa_cons (se_div (se_mul (g_var (by decide +kernel)) (g_var (by decide +kernel))) (g_var (by decide +kernel))) sa_nil))))))))
theorem ok_part_text (T : Txt G fa fd cL PL) : FnR G "part_text" ["one"] 1 s_part_text (fa 2) (fd 2) := def_f T.F_part_text S_part_text T.m_part_text T.cd0 (k := 0)
  (ss_cons (s_asg (g_var (by decide +kernel)) (sg_tup (sgs_cons (gt_name S_part_text.nd (by decide +kernel)) (sgs_cons (gt_name S_part_text.nd (by decide +kernel)) sgs_nil))) (by intro env h; cases env; cases h; rfl) (by intro env h; cases env; cases h; rfl))
  (ss_one (s_ret (se_if (t_cmp cs_eq (g_var (by decide +kernel)) se_int (nomark _)) (g_strI (by decide +kernel) T.n_str (sa_cons (g_var (by decide +kernel)) sa_nil)) (se_js (.cons (se_fmt (g_var (by decide +kernel))) (.cons se_str (.cons (se_fmt (g_var (by decide +kernel))) .nil))))))))
theorem ok_read_figures (T : Txt G fa fd cL PL) : FnR G "read_figures" ["text", "most"] 3 s_read_figures (fa 3) (fd 3) := def_f T.F_read_figures S_read_figures T.m_read_figures T.cd0 (k := 2)
  (ss_cons (s_if (SW.st (sw_or (st_not (t_chain cs_le cs_le se_int (g_len (by decide +kernel) T.n_len (sa_cons (g_var (by decide +kernel)) sa_nil)) (g_var (by decide +kernel)))) (sw_or1 (st_not (st_val (g_all (by decide +kernel) T.n_all (sa_cons (g_lc fin_l [("sign", 2)] S_read_figures.nd (by decide +kernel) (si_any (g_var (by decide +kernel))) (gt_name S_read_figures.nd (by decide +kernel)) sif_nil (e_cmp cs_in (g_var (by decide +kernel)) (g_con T.c_FIGURES (by decide +kernel)) (by with_unfolding_all rfl))) sa_nil))))))) (ss_one (g_raise (by decide +kernel) (by omega) T.X_BadText (SAs.sa (sa_cons se_int sa_nil)))) ss_nil)
  (ss_cons (s_if (SW.st (sw_and (t_cmp cs_eq (se_ix (g_var (by decide +kernel)) se_int) se_str (nomark _)) (sw_and1 (t_cmp cs_gt (g_len (by decide +kernel) T.n_len (sa_cons (g_var (by decide +kernel)) sa_nil)) se_int (nomark _))))) (ss_one (g_raise (by decide +kernel) (by omega) T.X_BadText (SAs.sa (sa_cons se_int sa_nil)))) ss_nil)
  (ss_one (s_ret (g_intT (by decide +kernel) T.n_int (sa_cons (g_var (by decide +kernel)) sa_nil))))))
theorem ok_read_number (T : Txt G fa fd cL PL) : FnR G "read_number" ["text", "most"] 4 s_read_number (fa 4) (fd 4) := def_f T.F_read_number S_read_number T.m_read_number T.cd0 (k := 3)
  (ss_cons (s_if (st_not (st_val (se_stw (g_var (by decide +kernel)) se_str))) (ss_one (s_ret (g_call (ok_read_figures T) (kb_1_read_figures T) (by decide +kernel) (by omega) (sa_cons (g_var (by decide +kernel)) (sa_cons (g_var (by decide +kernel)) sa_nil))))) ss_nil)
  (ss_cons (g_set S_read_number.nd (by decide +kernel) (g_call (ok_read_figures T) (kb_1_read_figures T) (by decide +kernel) (by omega) (sa_cons (se_slice (g_var (by decide +kernel)) (so_some se_int) so_none) (sa_cons (g_var (by decide +kernel)) sa_nil))))
  (ss_cons (s_if (t_cmp cs_eq (g_var (by decide +kernel)) se_int (nomark _)) (ss_one (g_raise (by decide +kernel) (by omega) T.X_BadText (SAs.sa (sa_cons se_int sa_nil)))) ss_nil)
  (ss_one (s_ret (se_neg (g_var (by decide +kernel))))))))
theorem ok_read_part (T : Txt G fa fd cL PL) : FnR G "read_part" ["text"] 5 s_read_part (fa 5) (fd 5) := def_f T.F_read_part S_read_part T.m_read_part T.cd0 (k := 4)
  (ss_cons (s_asg (se_ptn (g_var (by decide +kernel)) se_str) (sg_tup (sgs_cons (gt_name S_read_part.nd (by decide +kernel)) (sgs_cons (gt_name S_read_part.nd (by decide +kernel)) (sgs_cons (gt_name S_read_part.nd (by decide +kernel)) sgs_nil)))) (by intro env h; cases env; cases h; rfl) (by intro env h; cases env; cases h; rfl))
  (ss_cons (s_if (t_cmp cs_eq (g_var (by decide +kernel)) se_str (nomark _)) (ss_one (s_ret (se_tup (sa_cons (g_call (ok_read_number T) (kb_2_read_number T) (by decide +kernel) (by omega) (sa_cons (g_var (by decide +kernel)) sa_nil)) (sa_cons se_int sa_nil))))) ss_nil)
  (ss_cons (g_set S_read_part.nd (by decide +kernel) (se_tup (sa_cons (g_call (ok_read_number T) (kb_2_read_number T) (by decide +kernel) (by omega) (sa_cons (g_var (by decide +kernel)) sa_nil)) (sa_cons (g_call (ok_read_figures T) (kb_3_read_figures T) (by decide +kernel) (by omega) (sa_cons (g_var (by decide +kernel)) sa_nil)) sa_nil))))
  (ss_cons (s_if (SW.st (sw_or (t_cmp cs_lt (se_ix (g_var (by decide +kernel)) se_int) se_int (nomark _)) (sw_or1 (t_cmp cs_ne (g_call (ok_part T) (kb_4_part T) (by decide +kernel) (by omega) (sa_cons (se_ix (g_var (by decide +kernel)) se_int) (sa_cons (se_ix (g_var (by decide +kernel)) se_int) sa_nil))) (g_var (by decide +kernel)) (nomark _))))) (ss_one (g_raise (by decide +kernel) (by omega) T.X_BadText (SAs.sa (sa_cons se_int sa_nil)))) ss_nil)
  (ss_one (s_ret (g_var (by decide +kernel))))))))
theorem ok_arrow_text (T : Txt G fa fd cL PL) : FnR G "arrow_text" ["one"] 2 s_arrow_text (fa 6) (fd 6) := def_f T.F_arrow_text S_arrow_text T.m_arrow_text T.cd0 (k := 1)
  (ss_one (s_ret (se_js (.cons (se_fmt (g_call (ok_part_text T) (kb_5_part_text T) (by decide +kernel) (by omega) (sa_cons (se_ix (g_var (by decide +kernel)) se_int) sa_nil))) (.cons se_str (.cons (se_fmt (g_call (ok_part_text T) (kb_5_part_text T) (by decide +kernel) (by omega) (sa_cons (se_ix (g_var (by decide +kernel)) se_int) sa_nil))) .nil))))))
theorem ok_read_arrow (T : Txt G fa fd cL PL) : FnR G "read_arrow" ["text"] 6 s_read_arrow (fa 7) (fd 7) := def_f T.F_read_arrow S_read_arrow T.m_read_arrow T.cd0 (k := 5)
  (ss_cons (g_set S_read_arrow.nd (by decide +kernel) (se_spt (g_var (by decide +kernel)) se_str))
  (ss_cons (s_if (t_cmp cs_ne (g_len (by decide +kernel) T.n_len (sa_cons (g_var (by decide +kernel)) sa_nil)) se_int (nomark _)) (ss_one (g_raise (by decide +kernel) (by omega) T.X_BadText (SAs.sa (sa_cons se_int sa_nil)))) ss_nil)
  (ss_cons (s_asg (g_var (by decide +kernel)) (sg_lis (sgs_cons (gt_name S_read_arrow.nd (by decide +kernel)) (sgs_cons (gt_name S_read_arrow.nd (by decide +kernel)) sgs_nil))) (by intro env h; cases env; cases h; rfl) (by intro env h; cases env; cases h; rfl))
  (ss_one (s_ret (se_tup (sa_cons (g_call (ok_read_part T) (kb_6_read_part T) (by decide +kernel) (by omega) (sa_cons (g_var (by decide +kernel)) sa_nil)) (sa_cons (g_call (ok_read_part T) (kb_6_read_part T) (by decide +kernel) (by omega) (sa_cons (g_var (by decide +kernel)) sa_nil)) sa_nil))))))))
theorem ok_l_box (T : Txt G fa fd cL PL) : FnR G "_law_box" ["_law_script"] 1 s_l_box (fa 8) (fd 8) := def_c T.F_l_box S_l_box T.m_l_box T.cd0 (k := 0)
  (ss_one (s_ret (se_cel (sa_cons (g_list (by decide +kernel) T.n_list (sa_cons (se_slice (g_var (by decide +kernel)) so_none (so_some se_int)) sa_nil)) (sa_cons se_int (sa_cons se_int (sa_cons se_int (sa_cons se_int sa_nil))))))))
theorem ok_l_draw (T : Txt G fa fd cL PL) : FnR G "_law_draw" ["_law_box_here", "_law_many"] 1 s_l_draw (fa 9) (fd 9) := def_f T.F_l_draw S_l_draw T.m_l_draw T.cd0 (k := 0)
  (ss_cons (s_if (SW.st (sw_and (t_cmp cs_lt (se_ix (g_var (by decide +kernel)) se_int) se_int (nomark _)) (sw_and1 (t_cmp cs_lt (se_ix (g_var (by decide +kernel)) se_int) (g_len (by decide +kernel) T.n_len (sa_cons (se_ix (g_var (by decide +kernel)) se_int) sa_nil)) (nomark _))))) (ss_cons (g_set S_l_draw.nd (by decide +kernel) (se_ix (se_ix (g_var (by decide +kernel)) se_int) (se_ix (g_var (by decide +kernel)) se_int)))
  (ss_cons (s_asg (se_add (se_ix (g_var (by decide +kernel)) se_int) se_int) (sg_sub (g_var (by decide +kernel)) se_int))
  (ss_cons (s_asg (g_max (by decide +kernel) T.n_max (sa_cons se_int (sa_cons (se_sub (g_var (by decide +kernel)) (se_pow se_int se_int)) sa_nil))) (sg_sub (g_var (by decide +kernel)) se_int))
  (ss_one (s_asg (se_mod (se_add (se_add (se_mul (se_ix (g_var (by decide +kernel)) se_int) se_int) (se_mul (se_mod (g_var (by decide +kernel)) se_int) se_int)) se_int) se_int) (sg_sub (g_var (by decide +kernel)) se_int)))))) ss_nil)
  (ss_cons (s_if (t_cmp cs_gt (se_ix (g_var (by decide +kernel)) se_int) se_int (nomark _)) (ss_cons (g_set S_l_draw.nd (by decide +kernel) (se_mod (se_ix (g_var (by decide +kernel)) se_int) (g_var (by decide +kernel))))
  (ss_cons (s_asg (se_div (se_ix (g_var (by decide +kernel)) se_int) (g_var (by decide +kernel))) (sg_sub (g_var (by decide +kernel)) se_int))
  (ss_one (s_ret (g_var (by decide +kernel)))))) ss_nil)
  (ss_cons (s_asg (se_add (se_ix (g_var (by decide +kernel)) se_int) se_int) (sg_sub (g_var (by decide +kernel)) se_int))
  (ss_cons (s_asg (se_mod (se_add (se_add (se_pow (se_ix (g_var (by decide +kernel)) se_int) se_int) (se_mul se_int (se_ix (g_var (by decide +kernel)) se_int))) se_int) se_int) (sg_sub (g_var (by decide +kernel)) se_int))
  (ss_one (s_ret (se_mod (se_div (se_ix (g_var (by decide +kernel)) se_int) se_int) (g_var (by decide +kernel)))))))))
theorem ok_l_low (T : Txt G fa fd cL PL) : FnR G "_law_low" ["_law_above", "_law_beneath"] 1 s_l_low (fa 10) (fd 10) := def_f T.F_l_low S_l_low T.m_l_low T.cd0 (k := 0)
  (ss_cons (g_par S_l_low.nd (by decide +kernel) (g_abs (by decide +kernel) T.n_abs (sa_cons (g_var (by decide +kernel)) sa_nil)) (g_abs (by decide +kernel) T.n_abs (sa_cons (g_var (by decide +kernel)) sa_nil)))
  (ss_cons (s_while (t_cmp cs_ne (g_var (by decide +kernel)) se_int (nomark _)) (ss_one (g_par S_l_low.nd (by decide +kernel) (g_var (by decide +kernel)) (se_mod (g_var (by decide +kernel)) (g_var (by decide +kernel))))))
  (ss_cons (g_set S_l_low.nd (by decide +kernel) (se_if (t_cmp cs_gt (g_var (by decide +kernel)) se_int (nomark _)) se_int (se_neg se_int)))
  (ss_one (s_ret (se_tup (sa_cons (se_div (se_mul (g_var (by decide +kernel)) (g_var (by decide +kernel))) (g_var (by decide +kernel))) (sa_cons (se_div (se_mul (g_var (by decide +kernel)) (g_var (by decide +kernel))) (g_var (by decide +kernel))) sa_nil))))))))
theorem ok_l_part (T : Txt G fa fd cL PL) : FnR G "_law_part" ["_law_box_here"] 2 s_l_part (fa 11) (fd 11) := def_f T.F_l_part S_l_part T.m_l_part T.cd0 (k := 1)
  (ss_cons (s_if (t_cmp cs_eq (g_call (ok_l_draw T) (kb_7_l_draw T) (by decide +kernel) (by omega) (sa_cons (g_var (by decide +kernel)) (sa_cons se_int sa_nil))) se_int (nomark _)) (ss_one (s_ret (g_call (ok_l_low T) (kb_8_l_low T) (by decide +kernel) (by omega) (sa_cons (se_add (se_sub (g_call (ok_l_draw T) (kb_7_l_draw T) (by decide +kernel) (by omega) (sa_cons (g_var (by decide +kernel)) (sa_cons (se_sub (se_mul se_int (se_pow se_int se_int)) se_int) sa_nil))) (se_pow se_int se_int)) se_int) (sa_cons (se_add se_int (g_call (ok_l_draw T) (kb_7_l_draw T) (by decide +kernel) (by omega) (sa_cons (g_var (by decide +kernel)) (sa_cons (se_sub (se_pow se_int se_int) se_int) sa_nil)))) sa_nil))))) ss_nil)
  (ss_one (s_ret (g_call (ok_l_low T) (kb_8_l_low T) (by decide +kernel) (by omega) (sa_cons (se_sub (g_call (ok_l_draw T) (kb_7_l_draw T) (by decide +kernel) (by omega) (sa_cons (g_var (by decide +kernel)) (sa_cons se_int sa_nil))) se_int) (sa_cons (se_add se_int (g_call (ok_l_draw T) (kb_7_l_draw T) (by decide +kernel) (by omega) (sa_cons (g_var (by decide +kernel)) (sa_cons se_int sa_nil)))) sa_nil))))))
theorem ok_l_part_text (T : Txt G fa fd cL PL) : FnR G "_law_part_text" ["_law_one"] 1 s_l_part_text (fa 12) (fd 12) := def_f T.F_l_part_text S_l_part_text T.m_l_part_text T.cd0 (k := 0)
  (ss_one (s_ret (se_add (g_strI (by decide +kernel) T.n_str (sa_cons (se_ix (g_var (by decide +kernel)) se_int) sa_nil)) (se_if (t_cmp cs_eq (se_ix (g_var (by decide +kernel)) se_int) se_int (nomark _)) se_str (se_add se_str (g_strI (by decide +kernel) T.n_str (sa_cons (se_ix (g_var (by decide +kernel)) se_int) sa_nil)))))))
theorem ok_l_arrow_text (T : Txt G fa fd cL PL) : FnR G "_law_arrow_text" ["_law_one"] 2 s_l_arrow_text (fa 13) (fd 13) := def_f T.F_l_arrow_text S_l_arrow_text T.m_l_arrow_text T.cd0 (k := 1)
  (ss_one (s_ret (se_add (se_add (g_call (ok_l_part_text T) (kb_9_l_part_text T) (by decide +kernel) (by omega) (sa_cons (se_ix (g_var (by decide +kernel)) se_int) sa_nil)) se_str) (g_call (ok_l_part_text T) (kb_9_l_part_text T) (by decide +kernel) (by omega) (sa_cons (se_ix (g_var (by decide +kernel)) se_int) sa_nil)))))
theorem ok_l_like (T : Txt G fa fd cL PL) : ∀ n : Nat, FnR G "_law_like" ["_law_found", "_law_due"] (0 + n + 1) (s_l_like n) (fa 14) (fd 14)
  | 0 => def_0 T.F_l_like S_l_like T.m_l_like (k := 0 + 0)
  | n + 1 => by
    have ih := ok_l_like T n
    exact def_f T.F_l_like S_l_like T.m_l_like T.cd0 (k := 0 + (n + 1)) ((ss_cons (s_if (st_val (g_isi2 "list" "tuple" (by decide +kernel) T.n_isinstance (by decide +kernel) T.n_list (by decide +kernel) (by decide) (by decide +kernel) T.n_tuple (by decide +kernel) (by decide) (g_var (by decide +kernel)))) (ss_cons (s_if (SW.st (sw_or (t_cmp cs_ne (g_isi "list" (by decide +kernel) T.n_isinstance (by decide +kernel) T.n_list (by decide +kernel) (by decide) (g_var (by decide +kernel))) (g_isi "list" (by decide +kernel) T.n_isinstance (by decide +kernel) T.n_list (by decide +kernel) (by decide) (g_var (by decide +kernel))) (nomark _)) (sw_or1 (t_cmp cs_ne (g_isi "tuple" (by decide +kernel) T.n_isinstance (by decide +kernel) T.n_tuple (by decide +kernel) (by decide) (g_var (by decide +kernel))) (g_isi "tuple" (by decide +kernel) T.n_isinstance (by decide +kernel) T.n_tuple (by decide +kernel) (by decide) (g_var (by decide +kernel))) (nomark _))))) (ss_one (s_ret se_bl)) ss_nil)   (ss_one (s_ret (se_and (e_cmp cs_eq (g_len (by decide +kernel) T.n_len (sa_cons (g_var (by decide +kernel)) sa_nil)) (g_len (by decide +kernel) T.n_len (sa_cons (g_var (by decide +kernel)) sa_nil)) (nomark _)) (se_one (g_all (by decide +kernel) T.n_all (sa_cons (g_lc fin_l [("_law_k", 2)] S_l_like.nd (by decide +kernel) (gi_rng1 (by decide +kernel) T.n_range (g_len (by decide +kernel) T.n_len (sa_cons (g_var (by decide +kernel)) sa_nil))) (gt_name S_l_like.nd (by decide +kernel)) sif_nil (g_call ih (kb_10_l_like T) (by decide +kernel) (by omega) (sa_cons (se_ix (g_var (by decide +kernel)) (g_var (by decide +kernel))) (sa_cons (se_ix (g_var (by decide +kernel)) (g_var (by decide +kernel))) sa_nil)))) sa_nil))))))) ss_nil)   (ss_cons (s_if (SW.st (sw_or (t_cmp cs_ne (g_isi "bool" (by decide +kernel) T.n_isinstance (by decide +kernel) T.n_bool (by decide +kernel) (by decide) (g_var (by decide +kernel))) (g_isi "bool" (by decide +kernel) T.n_isinstance (by decide +kernel) T.n_bool (by decide +kernel) (by decide) (g_var (by decide +kernel))) (nomark _)) (sw_or1 (t_cmp cs_ne (g_isi "int" (by decide +kernel) T.n_isinstance (by decide +kernel) T.n_int (by decide +kernel) (by decide) (g_var (by decide +kernel))) (g_isi "int" (by decide +kernel) T.n_isinstance (by decide +kernel) T.n_int (by decide +kernel) (by decide) (g_var (by decide +kernel))) (nomark _))))) (ss_one (s_ret se_bl)) ss_nil)   (ss_one (s_ret (se_and (e_cmp cs_eq (g_isi "str" (by decide +kernel) T.n_isinstance (by decide +kernel) T.n_str (by decide +kernel) (by decide) (g_var (by decide +kernel))) (g_isi "str" (by decide +kernel) T.n_isinstance (by decide +kernel) T.n_str (by decide +kernel) (by decide) (g_var (by decide +kernel))) (nomark _)) (se_one (e_cmp cs_eq (g_var (by decide +kernel)) (g_var (by decide +kernel)) (nomark _)))))))))
theorem ok_l_of (T : Txt G fa fd cL PL) : FnR G "_law_of" ["_law_box_here", "_law_some"] 2 s_l_of (fa 15) (fd 15) := def_f T.F_l_of S_l_of T.m_l_of T.cd0 (k := 1)
  (ss_one (s_ret (se_ix (g_var (by decide +kernel)) (g_call (ok_l_draw T) (kb_7_l_draw T) (by decide +kernel) (by omega) (sa_cons (g_var (by decide +kernel)) (sa_cons (g_len (by decide +kernel) T.n_len (sa_cons (g_var (by decide +kernel)) sa_nil)) sa_nil))))))
theorem ok_l_bent_text (T : Txt G fa fd cL PL) : FnR G "_law_bent_text" ["_law_box_here", "_law_text", "_law_signs"] 3 s_l_bent_text (fa 16) (fd 16) := def_f T.F_l_bent_text S_l_bent_text T.m_l_bent_text T.cd0 (k := 2)
  (ss_cons (g_set S_l_bent_text.nd (by decide +kernel) (g_call (ok_l_draw T) (kb_7_l_draw T) (by decide +kernel) (by omega) (sa_cons (g_var (by decide +kernel)) (sa_cons (se_add (g_len (by decide +kernel) T.n_len (sa_cons (g_var (by decide +kernel)) sa_nil)) se_int) sa_nil))))
  (ss_cons (g_par S_l_bent_text.nd (by decide +kernel) (g_call (ok_l_of T) (kb_11_l_of T) (by decide +kernel) (by omega) (sa_cons (g_var (by decide +kernel)) (sa_cons (g_var (by decide +kernel)) sa_nil))) (g_call (ok_l_draw T) (kb_7_l_draw T) (by decide +kernel) (by omega) (sa_cons (g_var (by decide +kernel)) (sa_cons se_int sa_nil))))
  (ss_cons (g_set S_l_bent_text.nd (by decide +kernel) (se_lst (sa_cons (g_var (by decide +kernel)) (sa_cons (se_add (se_add (se_slice (g_var (by decide +kernel)) so_none (so_some (g_var (by decide +kernel)))) (g_var (by decide +kernel))) (se_slice (g_var (by decide +kernel)) (so_some (g_var (by decide +kernel))) so_none)) (sa_cons (se_add (se_slice (g_var (by decide +kernel)) so_none (so_some (g_var (by decide +kernel)))) (se_slice (g_var (by decide +kernel)) (so_some (se_add (g_var (by decide +kernel)) se_int)) so_none)) (sa_cons (se_add (se_add (se_slice (g_var (by decide +kernel)) so_none (so_some (g_var (by decide +kernel)))) (g_var (by decide +kernel))) (se_slice (g_var (by decide +kernel)) (so_some (se_add (g_var (by decide +kernel)) se_int)) so_none)) sa_nil))))))
  (ss_one (s_ret (se_ix (se_add (g_var (by decide +kernel)) (se_lst (sa_cons (se_add (g_var (by decide +kernel)) (g_var (by decide +kernel))) (sa_cons (se_add (g_var (by decide +kernel)) (g_var (by decide +kernel))) sa_nil)))) (g_var (by decide +kernel))))))))
theorem ok_l_figures (T : Txt G fa fd cL PL) : FnR G "_law_figures" ["_law_text", "_law_most"] 1 s_l_figures (fa 17) (fd 17) := def_f T.F_l_figures S_l_figures T.m_l_figures T.cd0 (k := 0)
  (ss_cons (s_if (SW.st (sw_or (st_not (t_chain cs_le cs_le se_int (g_len (by decide +kernel) T.n_len (sa_cons (g_var (by decide +kernel)) sa_nil)) (g_var (by decide +kernel)))) (sw_or1 (st_not (st_val (g_all (by decide +kernel) T.n_all (sa_cons (g_lc fin_l [("_law_sign", 2)] S_l_figures.nd (by decide +kernel) (si_any (g_var (by decide +kernel))) (gt_name S_l_figures.nd (by decide +kernel)) sif_nil (e_cmp cs_in (g_var (by decide +kernel)) se_str (by with_unfolding_all rfl))) sa_nil))))))) (ss_one (s_ret se_non)) ss_nil)
  (ss_one (s_ret (se_if (SW.st (sw_and (t_cmp cs_gt (g_len (by decide +kernel) T.n_len (sa_cons (g_var (by decide +kernel)) sa_nil)) se_int (nomark _)) (sw_and1 (t_cmp cs_eq (se_ix (g_var (by decide +kernel)) se_int) se_str (nomark _))))) se_non (g_intT (by decide +kernel) T.n_int (sa_cons (g_var (by decide +kernel)) sa_nil))))))
theorem ok_l_number_in (T : Txt G fa fd cL PL) : FnR G "_law_number_in" ["_law_text", "_law_most"] 2 s_l_number_in (fa 18) (fd 18) := def_f T.F_l_number_in S_l_number_in T.m_l_number_in T.cd0 (k := 1)
  (ss_cons (s_if (t_cmp cs_ne (se_slice (g_var (by decide +kernel)) so_none (so_some se_int)) se_str (nomark _)) (ss_one (s_ret (g_call (ok_l_figures T) (kb_12_l_figures T) (by decide +kernel) (by omega) (sa_cons (g_var (by decide +kernel)) (sa_cons (g_var (by decide +kernel)) sa_nil))))) ss_nil)
  (ss_cons (g_set S_l_number_in.nd (by decide +kernel) (g_call (ok_l_figures T) (kb_12_l_figures T) (by decide +kernel) (by omega) (sa_cons (se_slice (g_var (by decide +kernel)) (so_some se_int) so_none) (sa_cons (g_var (by decide +kernel)) sa_nil))))
  (ss_one (s_ret (se_if (SW.st (sw_or (t_cmp cs_is (g_var (by decide +kernel)) se_non (nomark _)) (sw_or1 (t_cmp cs_eq (g_var (by decide +kernel)) se_int (nomark _))))) se_non (se_sub se_int (g_var (by decide +kernel))))))))
theorem ok_l_part_in (T : Txt G fa fd cL PL) : FnR G "_law_part_in" ["_law_text"] 3 s_l_part_in (fa 19) (fd 19) := def_f T.F_l_part_in S_l_part_in T.m_l_part_in T.cd0 (k := 2)
  (ss_cons (g_set S_l_part_in.nd (by decide +kernel) (se_spt (g_var (by decide +kernel)) se_str))
  (ss_cons (g_set S_l_part_in.nd (by decide +kernel) (g_call (ok_l_number_in T) (kb_13_l_number_in T) (by decide +kernel) (by omega) (sa_cons (se_ix (g_var (by decide +kernel)) se_int) (sa_cons se_int sa_nil))))
  (ss_cons (s_if (SW.st (sw_or (t_cmp cs_is (g_var (by decide +kernel)) se_non (nomark _)) (sw_or1 (t_cmp cs_gt (g_len (by decide +kernel) T.n_len (sa_cons (g_var (by decide +kernel)) sa_nil)) se_int (nomark _))))) (ss_one (s_ret se_non)) ss_nil)
  (ss_cons (s_if (t_cmp cs_eq (g_len (by decide +kernel) T.n_len (sa_cons (g_var (by decide +kernel)) sa_nil)) se_int (nomark _)) (ss_one (s_ret (se_tup (sa_cons (g_var (by decide +kernel)) (sa_cons se_int sa_nil))))) ss_nil)
  (ss_cons (g_set S_l_part_in.nd (by decide +kernel) (g_call (ok_l_figures T) (kb_12_l_figures T) (by decide +kernel) (by omega) (sa_cons (se_ix (g_var (by decide +kernel)) se_int) (sa_cons se_int sa_nil))))
  (ss_cons (s_if (SW.st (sw_or (t_cmp cs_is (g_var (by decide +kernel)) se_non (nomark _)) (sw_or (t_cmp cs_lt (g_var (by decide +kernel)) se_int (nomark _)) (sw_or1 (t_cmp cs_ne (g_call (ok_l_low T) (kb_8_l_low T) (by decide +kernel) (by omega) (sa_cons (g_var (by decide +kernel)) (sa_cons (g_var (by decide +kernel)) sa_nil))) (se_tup (sa_cons (g_var (by decide +kernel)) (sa_cons (g_var (by decide +kernel)) sa_nil))) (nomark _)))))) (ss_one (s_ret se_non)) ss_nil)
  (ss_one (s_ret (se_tup (sa_cons (g_var (by decide +kernel)) (sa_cons (g_var (by decide +kernel)) sa_nil)))))))))))
theorem ok_l_arrow_in (T : Txt G fa fd cL PL) : FnR G "_law_arrow_in" ["_law_text"] 4 s_l_arrow_in (fa 20) (fd 20) := def_f T.F_l_arrow_in S_l_arrow_in T.m_l_arrow_in T.cd0 (k := 3)
  (ss_cons (g_setLc fin_l [("_law_word", 2)] S_l_arrow_in.nd (by decide +kernel) (by decide +kernel) (si_any (se_spt (g_var (by decide +kernel)) se_str)) (gt_name S_l_arrow_in.nd (by decide +kernel)) sif_nil (g_call (ok_l_part_in T) (kb_14_l_part_in T) (by decide +kernel) (by omega) (sa_cons (g_var (by decide +kernel)) sa_nil)))
  (ss_one (s_ret (se_if (SW.st (sw_or (t_cmp cs_ne (g_len (by decide +kernel) T.n_len (sa_cons (g_var (by decide +kernel)) sa_nil)) se_int (nomark _)) (sw_or1 (t_cmp cs_inS se_non (g_var (by decide +kernel)) (by with_unfolding_all rfl))))) se_non (se_tup (sa_cons (se_ix (g_var (by decide +kernel)) se_int) (sa_cons (se_ix (g_var (by decide +kernel)) se_int) sa_nil)))))))
theorem ok_law (T : Txt G fa fd cL PL) : FnR G "law" ["_law_script"] 10 s_law (fa 21) (fd 21) := by
  obtain ⟨oc, dV, kV, doc, pm, ct, od, an, osl, h1, h2, h3, h4⟩ := T.L_law
  rw [h2] at h1 ⊢
  exact def_fL h1 h3 h4 S_law T.m_law (k := 9) ((ss_cons (g_set S_law.nd (by decide +kernel) (g_call (ok_l_box T).w (kb_15_l_box T).w (by decide +kernel) (by omega) (sa_cons (g_var (by decide +kernel)) sa_nil)))   (ss_cons (s_for (gi_rng1 (by decide +kernel) T.n_range se_int) (gt_name S_law.nd (by decide +kernel)) (ss_cons (g_set S_law.nd (by decide +kernel) (se_tup (sa_cons (g_call (ok_l_part T).w (kb_16_l_part T).w (by decide +kernel) (by omega) (sa_cons (g_var (by decide +kernel)) sa_nil)) (sa_cons (g_call (ok_l_part T).w (kb_16_l_part T).w (by decide +kernel) (by omega) (sa_cons (g_var (by decide +kernel)) sa_nil)) sa_nil))))   (ss_cons (g_set S_law.nd (by decide +kernel) (g_call (ok_l_arrow_text T).w (kb_17_l_arrow_text T).w (by decide +kernel) (by omega) (sa_cons (g_var (by decide +kernel)) sa_nil)))   (ss_cons (s_if (st_not (st_val (g_call (ok_l_like T 6).w (kb_10_l_like T).w (by decide +kernel) (by omega) (sa_cons (se_lst (sa_cons (g_call (ok_arrow_text T).w (kb_19_arrow_text T).w (by decide +kernel) (by omega) (sa_cons (g_var (by decide +kernel)) sa_nil)) (sa_cons (g_call (ok_read_arrow T).w (kb_18_read_arrow T).w (by decide +kernel) (by omega) (sa_cons (g_var (by decide +kernel)) sa_nil)) sa_nil))) (sa_cons (se_lst (sa_cons (g_var (by decide +kernel)) (sa_cons (g_var (by decide +kernel)) sa_nil))) sa_nil))))) (ss_one (s_ret se_bl)) ss_nil)   (ss_cons (s_for (gi_rng1 (by decide +kernel) T.n_range (g_call (ok_l_draw T).w (kb_7_l_draw T).w (by decide +kernel) (by omega) (sa_cons (g_var (by decide +kernel)) (sa_cons se_int sa_nil)))) (gt_name S_law.nd (by decide +kernel)) (ss_one (g_set S_law.nd (by decide +kernel) (g_call (ok_l_bent_text T).w (kb_20_l_bent_text T).w (by decide +kernel) (by omega) (sa_cons (g_var (by decide +kernel)) (sa_cons (g_var (by decide +kernel)) (sa_cons (se_lst (sa_cons se_str (sa_cons se_str (sa_cons se_str (sa_cons se_str (sa_cons se_str (sa_cons se_str (sa_cons se_str (sa_cons se_str sa_nil))))))))) sa_nil)))))))   (ss_cons (g_set S_law.nd (by decide +kernel) (g_call (ok_l_arrow_in T).w (kb_21_l_arrow_in T).w (by decide +kernel) (by omega) (sa_cons (g_var (by decide +kernel)) sa_nil)))   (ss_one (s_if (st_not (st_val (g_call (ok_l_like T 6).w (kb_10_l_like T).w (by decide +kernel) (by omega) (sa_cons (g_tried T.tried (by decide +kernel) T.tb (by rw [T.tT]; exact List.mem_singleton.mpr rfl) (by rw [T.tT]; intro p hp _; rw [List.mem_singleton.mp hp]) 7 (by omega) (by decide +kernel) (g_call (ok_read_arrow T).w (kb_18_read_arrow T).w (by decide +kernel) (by omega) (sa_cons (g_var (by decide +kernel)) sa_nil))) (sa_cons (se_if (t_cmp cs_is (g_var (by decide +kernel)) se_non (nomark _)) (se_tup (sa_cons se_str (sa_cons se_int sa_nil))) (se_tup (sa_cons se_str (sa_cons (g_var (by decide +kernel)) sa_nil)))) sa_nil))))) (ss_one (s_ret se_bl)) ss_nil))))))))   (ss_cons (g_set S_law.nd (by decide +kernel) (se_lst (sa_cons se_str (sa_cons se_str (sa_cons se_str (sa_cons (se_add (se_mul se_str se_int) se_str) (sa_cons (se_add se_str (se_mul se_str se_int)) sa_nil)))))))   (ss_one (s_ret (e_cmp cs_eq (g_lc fin_l [("_law_text", 5)] S_law.nd (by decide +kernel) (si_any (g_var (by decide +kernel))) (gt_name S_law.nd (by decide +kernel)) sif_nil (g_tried T.tried (by decide +kernel) T.tb (by rw [T.tT]; exact List.mem_singleton.mpr rfl) (by rw [T.tT]; intro p hp _; rw [List.mem_singleton.mp hp]) 7 (by omega) (by decide +kernel) (g_call (ok_read_arrow T).w (kb_18_read_arrow T).w (by decide +kernel) (by omega) (sa_cons (g_var (by decide +kernel)) sa_nil)))) (se_mul (se_lst (sa_cons (se_tup (sa_cons se_str (sa_cons se_int sa_nil))) sa_nil)) se_int) (nomark _))))))))
end
theorem all_mk {l : PySem.W.OpenLaw} {w : World} {K : PySem.W.Frag} {h : Heap} {mg : Str → Option Value} {fl : Addr} (X : K.In h) (G : h.Ns mainGlobals mg) (hfa : mg "law" = some (.ref fl))
    {f0 : Addr} {oc0 dc0 pm0 ct0 : Value} {od0 an0 : Option Addr} {sl0 : Array (Option Value)} {cd0 : Value} {kV0 : Value}
    {f1 : Addr} {oc1 dc1 pm1 ct1 : Value} {od1 an1 : Option Addr} {sl1 : Array (Option Value)} {cd1 : Value} {kV1 : Value}
    {T1 : Addr} {Tc1 : Value} {Tod1 : Option Addr} {Tn1 : Nat} {Tsl1 : Array (Option Value)}
    {tk1 : Tok}
    {f2 : Addr} {oc2 dc2 pm2 ct2 : Value} {od2 an2 : Option Addr} {sl2 : Array (Option Value)} {cd2 : Value} {kV2 : Value}
    {f3 : Addr} {oc3 dc3 pm3 ct3 : Value} {od3 an3 : Option Addr} {sl3 : Array (Option Value)} {cd3 : Value} {kV3 : Value}
    {T3 : Addr} {Tc3 : Value} {Tod3 : Option Addr} {Tn3 : Nat} {Tsl3 : Array (Option Value)}
    {tk2 : Tok}
    {f4 : Addr} {oc4 dc4 pm4 ct4 : Value} {od4 an4 : Option Addr} {sl4 : Array (Option Value)} {cd4 : Value} {kV4 : Value}
    {T4 : Addr} {Tc4 : Value} {Tod4 : Option Addr} {Tn4 : Nat} {Tsl4 : Array (Option Value)}
    {tk3 : Tok}
    {f5 : Addr} {oc5 dc5 pm5 ct5 : Value} {od5 an5 : Option Addr} {sl5 : Array (Option Value)} {cd5 : Value} {kV5 : Value}
    {f6 : Addr} {oc6 dc6 pm6 ct6 : Value} {od6 an6 : Option Addr} {sl6 : Array (Option Value)} {cd6 : Value} {kV6 : Value}
    {f7 : Addr} {oc7 dc7 pm7 ct7 : Value} {od7 an7 : Option Addr} {sl7 : Array (Option Value)} {cd7 : Value} {kV7 : Value}
    {f8 : Addr} {oc8 dc8 pm8 ct8 : Value} {od8 an8 : Option Addr} {sl8 : Array (Option Value)} {cd8 : Value} {kV8 : Value}
    {f9 : Addr} {oc9 dc9 pm9 ct9 : Value} {od9 an9 : Option Addr} {sl9 : Array (Option Value)} {cd9 : Value} {kV9 : Value}
    {f10 : Addr} {oc10 dc10 pm10 ct10 : Value} {od10 an10 : Option Addr} {sl10 : Array (Option Value)} {cd10 : Value} {kV10 : Value}
    {f11 : Addr} {oc11 dc11 pm11 ct11 : Value} {od11 an11 : Option Addr} {sl11 : Array (Option Value)} {cd11 : Value} {kV11 : Value}
    {f12 : Addr} {oc12 dc12 pm12 ct12 : Value} {od12 an12 : Option Addr} {sl12 : Array (Option Value)} {cd12 : Value} {kV12 : Value}
    {f13 : Addr} {oc13 dc13 pm13 ct13 : Value} {od13 an13 : Option Addr} {sl13 : Array (Option Value)} {cd13 : Value} {kV13 : Value}
    {f14 : Addr} {oc14 dc14 pm14 ct14 : Value} {od14 an14 : Option Addr} {sl14 : Array (Option Value)} {cd14 : Value} {kV14 : Value}
    {f15 : Addr} {oc15 dc15 pm15 ct15 : Value} {od15 an15 : Option Addr} {sl15 : Array (Option Value)} {cd15 : Value} {kV15 : Value}
    {f16 : Addr} {oc16 dc16 pm16 ct16 : Value} {od16 an16 : Option Addr} {sl16 : Array (Option Value)} {cd16 : Value} {kV16 : Value}
    {f17 : Addr} {oc17 dc17 pm17 ct17 : Value} {od17 an17 : Option Addr} {sl17 : Array (Option Value)} {cd17 : Value} {kV17 : Value}
    {f18 : Addr} {oc18 dc18 pm18 ct18 : Value} {od18 an18 : Option Addr} {sl18 : Array (Option Value)} {cd18 : Value} {kV18 : Value}
    {f19 : Addr} {oc19 dc19 pm19 ct19 : Value} {od19 an19 : Option Addr} {sl19 : Array (Option Value)} {cd19 : Value} {kV19 : Value}
    {f20 : Addr} {oc20 dc20 pm20 ct20 : Value} {od20 an20 : Option Addr} {sl20 : Array (Option Value)} {cd20 : Value} {kV20 : Value}
    {f21 : Addr} {oc21 dc21 pm21 ct21 : Value} {od21 an21 : Option Addr} {sl21 : Array (Option Value)} {kV21 : Value}
    {tk4 : Tok}
    {XC0 XI0 : Addr} {xnm0 xq0 : Str} {xN0 : Addr} {xbs0 xbm0 : List Value} {xsn0 : List Str} {xsu0 : List Value} {xab0 : Bool} {xco0 : Option Bool} {xdd0 : Option Addr} {xka0 xkb0 xkc0 xkd0 xke0 : Option Value}
    {xoc0 xkV0 xdc0 xpm0 xcd0 xct0 : Value} {xod0 xan0 : Option Addr} {xsl0 : Array (Option Value)}
    {XC1 XI1 : Addr} {xnm1 xq1 : Str} {xN1 : Addr} {xbs1 xbm1 : List Value} {xsn1 : List Str} {xsu1 : List Value} {xab1 : Bool} {xco1 : Option Bool} {xdd1 : Option Addr} {xka1 xkb1 xkc1 xkd1 xke1 : Option Value}
    {xoc1 xkV1 xdc1 xpm1 xcd1 xct1 : Value} {xod1 xan1 : Option Addr} {xsl1 : Array (Option Value)}
    {Y_BadName : Addr}
    {Y_Twice : Addr}
    {Y_Taken : Addr}
    {Y_InUse : Addr}
    {Y_NoRow : Addr}
    {Y_NoWatch : Addr}
    {Y_Nought : Addr}
    {Y_BadCorner : Addr}
    {Y_Flat : Addr}
    {Y_Unbuilt : Addr}
    {Y_BadText : Addr}
    {Y_Folded : Addr}
    {Y_BadRow : Addr}
    {Y_Full : Addr}
    {Y_BadDeed : Addr}
    {Y_RodError : Addr}
    {Y_Missing : Addr}
    {fT : Addr} {ocT kVT dcT pmT cdT ctT : Value} {odT anT : Option Addr} {slT : Array (Option Value)}
    {cL PL : Addr}
    (a0 : PySem.W.nsIn K mainGlobals "shared_by" = some (some (.ref f0)))
    (a1 : PySem.W.nsIn K mainGlobals "part" = some (some (.ref f1)))
    (a2 : PySem.W.nsIn K mainGlobals "part_text" = some (some (.ref f2)))
    (a3 : PySem.W.nsIn K mainGlobals "read_figures" = some (some (.ref f3)))
    (a4 : PySem.W.nsIn K mainGlobals "read_number" = some (some (.ref f4)))
    (a5 : PySem.W.nsIn K mainGlobals "read_part" = some (some (.ref f5)))
    (a6 : PySem.W.nsIn K mainGlobals "arrow_text" = some (some (.ref f6)))
    (a7 : PySem.W.nsIn K mainGlobals "read_arrow" = some (some (.ref f7)))
    (a8 : PySem.W.nsIn K mainGlobals "_law_box" = some (some (.ref f8)))
    (a9 : PySem.W.nsIn K mainGlobals "_law_draw" = some (some (.ref f9)))
    (a10 : PySem.W.nsIn K mainGlobals "_law_low" = some (some (.ref f10)))
    (a11 : PySem.W.nsIn K mainGlobals "_law_part" = some (some (.ref f11)))
    (a12 : PySem.W.nsIn K mainGlobals "_law_part_text" = some (some (.ref f12)))
    (a13 : PySem.W.nsIn K mainGlobals "_law_arrow_text" = some (some (.ref f13)))
    (a14 : PySem.W.nsIn K mainGlobals "_law_like" = some (some (.ref f14)))
    (a15 : PySem.W.nsIn K mainGlobals "_law_of" = some (some (.ref f15)))
    (a16 : PySem.W.nsIn K mainGlobals "_law_bent_text" = some (some (.ref f16)))
    (a17 : PySem.W.nsIn K mainGlobals "_law_figures" = some (some (.ref f17)))
    (a18 : PySem.W.nsIn K mainGlobals "_law_number_in" = some (some (.ref f18)))
    (a19 : PySem.W.nsIn K mainGlobals "_law_part_in" = some (some (.ref f19)))
    (a20 : PySem.W.nsIn K mainGlobals "_law_arrow_in" = some (some (.ref f20)))
    (a21 : PySem.W.nsIn K mainGlobals "law" = some (some (.ref f21)))
    (z_abs : PySem.W.nsIn K mainGlobals "abs" = some none)
    (z_all : PySem.W.nsIn K mainGlobals "all" = some none)
    (z_bool : PySem.W.nsIn K mainGlobals "bool" = some none)
    (z_int : PySem.W.nsIn K mainGlobals "int" = some none)
    (z_isinstance : PySem.W.nsIn K mainGlobals "isinstance" = some none)
    (z_len : PySem.W.nsIn K mainGlobals "len" = some none)
    (z_list : PySem.W.nsIn K mainGlobals "list" = some none)
    (z_max : PySem.W.nsIn K mainGlobals "max" = some none)
    (z_range : PySem.W.nsIn K mainGlobals "range" = some none)
    (z_str : PySem.W.nsIn K mainGlobals "str" = some none)
    (z_tuple : PySem.W.nsIn K mainGlobals "tuple" = some none)
    (g_FIGURES : PySem.W.nsIn K mainGlobals "FIGURES" = some (some (.str "0123456789" tk4)))
    (l0 : K.lookup f0 = some ⟨oc0, od0, .func (PySem.W.fnOf "shared_by" "shared_by" (defArgs t_shared_by) (defBody t_shared_by) (defScope t_shared_by) .none kV0 dc0 pm0 an0 cd0 ct0), sl0⟩)
    (c0 : PySem.W.codeIn K cd0 "shared_by" = true)
    (k0 : PySem.W.keepIn K (.ref f0) = true)
    (l1 : K.lookup f1 = some ⟨oc1, od1, .func (PySem.W.fnOf "part" "part" (defArgs t_part) (defBody t_part) (defScope t_part) (.ref T1) kV1 dc1 pm1 an1 cd1 ct1), sl1⟩)
    (c1 : PySem.W.codeIn K cd1 "part" = true)
    (k1 : PySem.W.keepIn K (.ref f1) = true)
    (l2 : K.lookup f2 = some ⟨oc2, od2, .func (PySem.W.fnOf "part_text" "part_text" (defArgs t_part_text) (defBody t_part_text) (defScope t_part_text) .none kV2 dc2 pm2 an2 cd2 ct2), sl2⟩)
    (c2 : PySem.W.codeIn K cd2 "part_text" = true)
    (k2 : PySem.W.keepIn K (.ref f2) = true)
    (l3 : K.lookup f3 = some ⟨oc3, od3, .func (PySem.W.fnOf "read_figures" "read_figures" (defArgs t_read_figures) (defBody t_read_figures) (defScope t_read_figures) (.ref T3) kV3 dc3 pm3 an3 cd3 ct3), sl3⟩)
    (c3 : PySem.W.codeIn K cd3 "read_figures" = true)
    (k3 : PySem.W.keepIn K (.ref f3) = true)
    (l4 : K.lookup f4 = some ⟨oc4, od4, .func (PySem.W.fnOf "read_number" "read_number" (defArgs t_read_number) (defBody t_read_number) (defScope t_read_number) (.ref T4) kV4 dc4 pm4 an4 cd4 ct4), sl4⟩)
    (c4 : PySem.W.codeIn K cd4 "read_number" = true)
    (k4 : PySem.W.keepIn K (.ref f4) = true)
    (l5 : K.lookup f5 = some ⟨oc5, od5, .func (PySem.W.fnOf "read_part" "read_part" (defArgs t_read_part) (defBody t_read_part) (defScope t_read_part) .none kV5 dc5 pm5 an5 cd5 ct5), sl5⟩)
    (c5 : PySem.W.codeIn K cd5 "read_part" = true)
    (k5 : PySem.W.keepIn K (.ref f5) = true)
    (l6 : K.lookup f6 = some ⟨oc6, od6, .func (PySem.W.fnOf "arrow_text" "arrow_text" (defArgs t_arrow_text) (defBody t_arrow_text) (defScope t_arrow_text) .none kV6 dc6 pm6 an6 cd6 ct6), sl6⟩)
    (c6 : PySem.W.codeIn K cd6 "arrow_text" = true)
    (k6 : PySem.W.keepIn K (.ref f6) = true)
    (l7 : K.lookup f7 = some ⟨oc7, od7, .func (PySem.W.fnOf "read_arrow" "read_arrow" (defArgs t_read_arrow) (defBody t_read_arrow) (defScope t_read_arrow) .none kV7 dc7 pm7 an7 cd7 ct7), sl7⟩)
    (c7 : PySem.W.codeIn K cd7 "read_arrow" = true)
    (k7 : PySem.W.keepIn K (.ref f7) = true)
    (l8 : K.lookup f8 = some ⟨oc8, od8, .func (PySem.W.fnOf "_law_box" "_law_box" (defArgs t_l_box) (defBody t_l_box) (defScope t_l_box) .none kV8 dc8 pm8 an8 cd8 ct8), sl8⟩)
    (c8 : PySem.W.codeIn K cd8 "_law_box" = true)
    (k8 : PySem.W.keepIn K (.ref f8) = true)
    (l9 : K.lookup f9 = some ⟨oc9, od9, .func (PySem.W.fnOf "_law_draw" "_law_draw" (defArgs t_l_draw) (defBody t_l_draw) (defScope t_l_draw) .none kV9 dc9 pm9 an9 cd9 ct9), sl9⟩)
    (c9 : PySem.W.codeIn K cd9 "_law_draw" = true)
    (k9 : PySem.W.keepIn K (.ref f9) = true)
    (l10 : K.lookup f10 = some ⟨oc10, od10, .func (PySem.W.fnOf "_law_low" "_law_low" (defArgs t_l_low) (defBody t_l_low) (defScope t_l_low) .none kV10 dc10 pm10 an10 cd10 ct10), sl10⟩)
    (c10 : PySem.W.codeIn K cd10 "_law_low" = true)
    (k10 : PySem.W.keepIn K (.ref f10) = true)
    (l11 : K.lookup f11 = some ⟨oc11, od11, .func (PySem.W.fnOf "_law_part" "_law_part" (defArgs t_l_part) (defBody t_l_part) (defScope t_l_part) .none kV11 dc11 pm11 an11 cd11 ct11), sl11⟩)
    (c11 : PySem.W.codeIn K cd11 "_law_part" = true)
    (k11 : PySem.W.keepIn K (.ref f11) = true)
    (l12 : K.lookup f12 = some ⟨oc12, od12, .func (PySem.W.fnOf "_law_part_text" "_law_part_text" (defArgs t_l_part_text) (defBody t_l_part_text) (defScope t_l_part_text) .none kV12 dc12 pm12 an12 cd12 ct12), sl12⟩)
    (c12 : PySem.W.codeIn K cd12 "_law_part_text" = true)
    (k12 : PySem.W.keepIn K (.ref f12) = true)
    (l13 : K.lookup f13 = some ⟨oc13, od13, .func (PySem.W.fnOf "_law_arrow_text" "_law_arrow_text" (defArgs t_l_arrow_text) (defBody t_l_arrow_text) (defScope t_l_arrow_text) .none kV13 dc13 pm13 an13 cd13 ct13), sl13⟩)
    (c13 : PySem.W.codeIn K cd13 "_law_arrow_text" = true)
    (k13 : PySem.W.keepIn K (.ref f13) = true)
    (l14 : K.lookup f14 = some ⟨oc14, od14, .func (PySem.W.fnOf "_law_like" "_law_like" (defArgs t_l_like) (defBody t_l_like) (defScope t_l_like) .none kV14 dc14 pm14 an14 cd14 ct14), sl14⟩)
    (c14 : PySem.W.codeIn K cd14 "_law_like" = true)
    (k14 : PySem.W.keepIn K (.ref f14) = true)
    (l15 : K.lookup f15 = some ⟨oc15, od15, .func (PySem.W.fnOf "_law_of" "_law_of" (defArgs t_l_of) (defBody t_l_of) (defScope t_l_of) .none kV15 dc15 pm15 an15 cd15 ct15), sl15⟩)
    (c15 : PySem.W.codeIn K cd15 "_law_of" = true)
    (k15 : PySem.W.keepIn K (.ref f15) = true)
    (l16 : K.lookup f16 = some ⟨oc16, od16, .func (PySem.W.fnOf "_law_bent_text" "_law_bent_text" (defArgs t_l_bent_text) (defBody t_l_bent_text) (defScope t_l_bent_text) .none kV16 dc16 pm16 an16 cd16 ct16), sl16⟩)
    (c16 : PySem.W.codeIn K cd16 "_law_bent_text" = true)
    (k16 : PySem.W.keepIn K (.ref f16) = true)
    (l17 : K.lookup f17 = some ⟨oc17, od17, .func (PySem.W.fnOf "_law_figures" "_law_figures" (defArgs t_l_figures) (defBody t_l_figures) (defScope t_l_figures) .none kV17 dc17 pm17 an17 cd17 ct17), sl17⟩)
    (c17 : PySem.W.codeIn K cd17 "_law_figures" = true)
    (k17 : PySem.W.keepIn K (.ref f17) = true)
    (l18 : K.lookup f18 = some ⟨oc18, od18, .func (PySem.W.fnOf "_law_number_in" "_law_number_in" (defArgs t_l_number_in) (defBody t_l_number_in) (defScope t_l_number_in) .none kV18 dc18 pm18 an18 cd18 ct18), sl18⟩)
    (c18 : PySem.W.codeIn K cd18 "_law_number_in" = true)
    (k18 : PySem.W.keepIn K (.ref f18) = true)
    (l19 : K.lookup f19 = some ⟨oc19, od19, .func (PySem.W.fnOf "_law_part_in" "_law_part_in" (defArgs t_l_part_in) (defBody t_l_part_in) (defScope t_l_part_in) .none kV19 dc19 pm19 an19 cd19 ct19), sl19⟩)
    (c19 : PySem.W.codeIn K cd19 "_law_part_in" = true)
    (k19 : PySem.W.keepIn K (.ref f19) = true)
    (l20 : K.lookup f20 = some ⟨oc20, od20, .func (PySem.W.fnOf "_law_arrow_in" "_law_arrow_in" (defArgs t_l_arrow_in) (defBody t_l_arrow_in) (defScope t_l_arrow_in) .none kV20 dc20 pm20 an20 cd20 ct20), sl20⟩)
    (c20 : PySem.W.codeIn K cd20 "_law_arrow_in" = true)
    (k20 : PySem.W.keepIn K (.ref f20) = true)
    (l21 : K.lookup f21 = some ⟨oc21, od21, .func (PySem.W.fnOf "law" "law" (defArgs t_law) (defBody t_law) (defScope t_law) .none kV21 dc21 pm21 an21 (.ref cL) ct21), sl21⟩)
    (c21 : PySem.W.codeIn K (.ref cL) "law" = true)
    (k21 : PySem.W.keepIn K (.ref f21) = true)
    (T_1 : K.lookup T1 = some ⟨Tc1, Tod1, .seq ([(.int (1) tk1)] : List Value).toArray Tn1, Tsl1⟩)
    (T_3 : K.lookup T3 = some ⟨Tc3, Tod3, .seq ([(.int (40) tk2)] : List Value).toArray Tn3, Tsl3⟩)
    (T_4 : K.lookup T4 = some ⟨Tc4, Tod4, .seq ([(.int (40) tk3)] : List Value).toArray Tn4, Tsl4⟩)
    (xa0 : PySem.W.nsIn K mainGlobals "BadPart" = some (some (.ref XC0)))
    (xl0 : K.lookup XC0 = some (excClassObj xnm0 xq0 XC0 xN0 xbs0 xbm0 true xsn0 xsu0 xab0 xco0 xdd0 xka0 xkb0 xkc0 xkd0 xke0 "ValueError.__new__"))
    (xb0 : PySem.HandSPX.refsVE xbm0 = true)
    (xs0 : PySem.W.findIn K (.ref XC0) "__setattr__" = some (some (.builtin "object.__setattr__")))
    (xe0 : PySem.W.subIn K (.ref XC0) (.type "BaseException") = some true)
    (xt0 : PySem.W.typeIn K (.ref XC0) = some (.type "type"))
    (xk0 : PySem.W.keepIn K (.ref XC0) = true)
    (xi0 : PySem.W.findIn K (.ref XC0) "__init__" = some (some (.ref XI0)))
    (xj0 : PySem.W.typeIn K (.ref XI0) = some (.type "function"))
    (xm0 : K.lookup XI0 = some ⟨xoc0, xod0, .func (PySem.W.fnOf "__init__" "BadPart.__init__" (defArgs ti_BadPart) (defBody ti_BadPart) (defScope ti_BadPart) .none xkV0 xdc0 xpm0 xan0 xcd0 xct0), xsl0⟩)
    (xc0 : PySem.W.codeIn K xcd0 "BadPart.__init__" = true)
    (xf0_called : PySem.W.findIn K (.ref XC0) "called" = some none)
    (xa1 : PySem.W.nsIn K mainGlobals "BadText" = some (some (.ref XC1)))
    (xl1 : K.lookup XC1 = some (excClassObj xnm1 xq1 XC1 xN1 xbs1 xbm1 true xsn1 xsu1 xab1 xco1 xdd1 xka1 xkb1 xkc1 xkd1 xke1 "ValueError.__new__"))
    (xb1 : PySem.HandSPX.refsVE xbm1 = true)
    (xs1 : PySem.W.findIn K (.ref XC1) "__setattr__" = some (some (.builtin "object.__setattr__")))
    (xe1 : PySem.W.subIn K (.ref XC1) (.type "BaseException") = some true)
    (xt1 : PySem.W.typeIn K (.ref XC1) = some (.type "type"))
    (xk1 : PySem.W.keepIn K (.ref XC1) = true)
    (xi1 : PySem.W.findIn K (.ref XC1) "__init__" = some (some (.ref XI1)))
    (xj1 : PySem.W.typeIn K (.ref XI1) = some (.type "function"))
    (xm1 : K.lookup XI1 = some ⟨xoc1, xod1, .func (PySem.W.fnOf "__init__" "BadText.__init__" (defArgs ti_BadText) (defBody ti_BadText) (defScope ti_BadText) .none xkV1 xdc1 xpm1 xan1 xcd1 xct1), xsl1⟩)
    (xc1 : PySem.W.codeIn K xcd1 "BadText.__init__" = true)
    (xf1_called : PySem.W.findIn K (.ref XC1) "called" = some none)
    (xf1_at : PySem.W.findIn K (.ref XC1) "at" = some none)
    (xg0 : PySem.W.findIn K (.ref XC0) "__getattribute__" = some (some (.builtin "BaseException.__getattribute__")))
    (xh0 : PySem.W.findIn K (.ref XC0) "__getattr__" = some none)
    (xd0 : PySem.W.hasDictIn K XC0 = true)
    (xg1 : PySem.W.findIn K (.ref XC1) "__getattribute__" = some (some (.builtin "BaseException.__getattribute__")))
    (xh1 : PySem.W.findIn K (.ref XC1) "__getattr__" = some none)
    (xd1 : PySem.W.hasDictIn K XC1 = true)
    (y_BadName : PySem.W.nsIn K mainGlobals "BadName" = some (some (.ref Y_BadName)))
    (y_Twice : PySem.W.nsIn K mainGlobals "Twice" = some (some (.ref Y_Twice)))
    (y_Taken : PySem.W.nsIn K mainGlobals "Taken" = some (some (.ref Y_Taken)))
    (y_InUse : PySem.W.nsIn K mainGlobals "InUse" = some (some (.ref Y_InUse)))
    (y_NoRow : PySem.W.nsIn K mainGlobals "NoRow" = some (some (.ref Y_NoRow)))
    (y_NoWatch : PySem.W.nsIn K mainGlobals "NoWatch" = some (some (.ref Y_NoWatch)))
    (y_Nought : PySem.W.nsIn K mainGlobals "Nought" = some (some (.ref Y_Nought)))
    (y_BadCorner : PySem.W.nsIn K mainGlobals "BadCorner" = some (some (.ref Y_BadCorner)))
    (y_Flat : PySem.W.nsIn K mainGlobals "Flat" = some (some (.ref Y_Flat)))
    (y_Unbuilt : PySem.W.nsIn K mainGlobals "Unbuilt" = some (some (.ref Y_Unbuilt)))
    (y_BadText : PySem.W.nsIn K mainGlobals "BadText" = some (some (.ref Y_BadText)))
    (y_Folded : PySem.W.nsIn K mainGlobals "Folded" = some (some (.ref Y_Folded)))
    (y_BadRow : PySem.W.nsIn K mainGlobals "BadRow" = some (some (.ref Y_BadRow)))
    (y_Full : PySem.W.nsIn K mainGlobals "Full" = some (some (.ref Y_Full)))
    (y_BadDeed : PySem.W.nsIn K mainGlobals "BadDeed" = some (some (.ref Y_BadDeed)))
    (y_RodError : PySem.W.nsIn K mainGlobals "RodError" = some (some (.ref Y_RodError)))
    (y_Missing : PySem.W.nsIn K mainGlobals "Missing" = some (some (.ref Y_Missing)))
    (aT : PySem.W.nsIn K mainGlobals "_law_tried" = some (some (.ref fT)))
    (lT : K.lookup fT = some ⟨ocT, odT, .func (PySem.W.fnOf "_law_tried" "_law_tried" (defArgs t_l_tried) (defBody t_l_tried) (defScope t_l_tried) .none kVT dcT pmT anT cdT ctT), slT⟩)
    (cT : PySem.W.codeIn K cdT "_law_tried" = true)
    (kT : PySem.W.keepIn K (.ref fT) = true)
    (e0_0 : PySem.W.exmAny K (.ref XC0) [.ref Y_BadName, .ref Y_Twice, .ref Y_Taken, .ref Y_InUse, .ref Y_NoRow, .ref Y_NoWatch] = some false)
    (e0_1 : PySem.W.exmAny K (.ref XC1) [.ref Y_BadName, .ref Y_Twice, .ref Y_Taken, .ref Y_InUse, .ref Y_NoRow, .ref Y_NoWatch] = some false)
    (e1_0 : PySem.W.exmAny K (.ref XC0) [.ref Y_Nought, .ref Y_BadCorner, .ref Y_Flat, .ref Y_Unbuilt, .ref Y_BadText] = some false)
    (e1_1 : PySem.W.exmAny K (.ref XC1) [.ref Y_Nought, .ref Y_BadCorner, .ref Y_Flat, .ref Y_Unbuilt, .ref Y_BadText] = some true)
    (e2_0 : PySem.W.exmAny K (.ref XC0) [.ref Y_Folded] = some false)
    (e2_1 : PySem.W.exmAny K (.ref XC1) [.ref Y_Folded] = some false)
    (e3_0 : PySem.W.exmAny K (.ref XC0) [.ref Y_BadRow] = some false)
    (e3_1 : PySem.W.exmAny K (.ref XC1) [.ref Y_BadRow] = some false)
    (e4_0 : PySem.W.exmAny K (.ref XC0) [.ref Y_Full] = some false)
    (e4_1 : PySem.W.exmAny K (.ref XC1) [.ref Y_Full] = some false)
    (e5_0 : PySem.W.exmAny K (.ref XC0) [.ref Y_BadDeed] = some false)
    (e5_1 : PySem.W.exmAny K (.ref XC1) [.ref Y_BadDeed] = some false)
    (e6_0 : PySem.W.exmAny K (.ref XC0) [.ref Y_RodError, .ref Y_Missing] = some true)
    (e6_1 : PySem.W.exmAny K (.ref XC1) [.ref Y_RodError, .ref Y_Missing] = some true)
    (hP : h.get? PL = some { cls := .none, data := .fields #[] })
    (hK : K.lookup PL = none)
    (hC : PySem.W.codeHdIn K cL PL = true)
    (LAW : ∀ ns : List Int, ns.length ≤ 63 → trueR (s_law [.lck (ns.map .int)] [])) :
    ∃ (fd : FuncData) (cs : List (Addr × Addr × Str)), (∀ p ∈ cs, h.get? p.2.1 = some { cls := .none, data := .fields #[] }) ∧ (∀ p ∈ cs, K.lookup p.2.1 = none) ∧ (∀ p ∈ cs, PySem.W.CodeHd h p.1 p.2.1) ∧
      (∀ (s : Shared) (v : Value), BindsTo s fd ⟨[v], []⟩ [("_law_script", v)]) ∧ ∀ base : Heap, K.In base → base.Ns mainGlobals mg → (∀ p ∈ cs, LamX.TabB base mg p.1 p.2.1) → FnOk l.prog w K mg base (L2.CX l.prog w) 10 fl fd ["_law_script"] (spLaw K (cs.map (·.2))) := by
  have e : fl = f21 := Value.ref.inj (Option.some.inj (hfa.symm.trans (PySem.W.mg_of X G a21)))
  rw [e]
  have O0 : OexC K XC0 := ⟨⟨_, _, _, _, _, _, _, _, _, _, _, _, _, _, _, xl0, xb0⟩, xs0, xe0, xt0, xk0⟩
  have O1 : OexC K XC1 := ⟨⟨_, _, _, _, _, _, _, _, _, _, _, _, _, _, _, xl1, xb1⟩, xs1, xe1, xt1, xk1⟩
  have HD : HdOk K (fun i => ([XC0, XC1] : List Addr).getD i 0) nCx [([.ref Y_BadName, .ref Y_Twice, .ref Y_Taken, .ref Y_InUse, .ref Y_NoRow, .ref Y_NoWatch], ["called", "name"]), ([.ref Y_Nought, .ref Y_BadCorner, .ref Y_Flat, .ref Y_Unbuilt, .ref Y_BadText], ["called", "at"]), ([.ref Y_Folded], ["called", "weight"]), ([.ref Y_BadRow], ["called", "many"]), ([.ref Y_Full], ["called", "most"]), ([.ref Y_BadDeed], ["called", "word"]), ([.ref Y_RodError, .ref Y_Missing], ["called"])] hdx := (.cons (fun c hc => by
      match c, hc with
      | 0, _ => exact e0_0
      | 1, _ => exact e0_1
      | c + 2, h => exact absurd h (by unfold nCx; omega)) (fun c hc ht => by
      match c, hc, ht with
      | 0, _, ht => exact absurd ht (by decide)
      | 1, _, ht => exact absurd ht (by decide)
      | c + 2, h, _ => exact absurd h (by unfold nCx; omega)) (.cons (fun c hc => by
      match c, hc with
      | 0, _ => exact e1_0
      | 1, _ => exact e1_1
      | c + 2, h => exact absurd h (by unfold nCx; omega)) (fun c hc ht => by
      match c, hc, ht with
      | 0, _, ht => exact absurd ht (by decide)
      | 1, _, _ => intro f hf; simp at hf; rcases hf with rfl | rfl <;> first | exact xf1_called | exact xf1_at
      | c + 2, h, _ => exact absurd h (by unfold nCx; omega)) (.cons (fun c hc => by
      match c, hc with
      | 0, _ => exact e2_0
      | 1, _ => exact e2_1
      | c + 2, h => exact absurd h (by unfold nCx; omega)) (fun c hc ht => by
      match c, hc, ht with
      | 0, _, ht => exact absurd ht (by decide)
      | 1, _, ht => exact absurd ht (by decide)
      | c + 2, h, _ => exact absurd h (by unfold nCx; omega)) (.cons (fun c hc => by
      match c, hc with
      | 0, _ => exact e3_0
      | 1, _ => exact e3_1
      | c + 2, h => exact absurd h (by unfold nCx; omega)) (fun c hc ht => by
      match c, hc, ht with
      | 0, _, ht => exact absurd ht (by decide)
      | 1, _, ht => exact absurd ht (by decide)
      | c + 2, h, _ => exact absurd h (by unfold nCx; omega)) (.cons (fun c hc => by
      match c, hc with
      | 0, _ => exact e4_0
      | 1, _ => exact e4_1
      | c + 2, h => exact absurd h (by unfold nCx; omega)) (fun c hc ht => by
      match c, hc, ht with
      | 0, _, ht => exact absurd ht (by decide)
      | 1, _, ht => exact absurd ht (by decide)
      | c + 2, h, _ => exact absurd h (by unfold nCx; omega)) (.cons (fun c hc => by
      match c, hc with
      | 0, _ => exact e5_0
      | 1, _ => exact e5_1
      | c + 2, h => exact absurd h (by unfold nCx; omega)) (fun c hc ht => by
      match c, hc, ht with
      | 0, _, ht => exact absurd ht (by decide)
      | 1, _, ht => exact absurd ht (by decide)
      | c + 2, h, _ => exact absurd h (by unfold nCx; omega)) (.cons (fun c hc => by
      match c, hc with
      | 0, _ => exact e6_0
      | 1, _ => exact e6_1
      | c + 2, h => exact absurd h (by unfold nCx; omega)) (fun c hc ht => by
      match c, hc, ht with
      | 0, _, _ => intro f hf; simp at hf; subst hf; exact xf0_called
      | 1, _, _ => intro f hf; simp at hf; subst hf; exact xf1_called
      | c + 2, h, _ => exact absurd h (by unfold nCx; omega)) .nil)))))))
  refine ⟨(PySem.W.fnOf "law" "law" (defArgs t_law) (defBody t_law) (defScope t_law) .none kV21 dc21 pm21 an21 (.ref cL) ct21), [(cL, PL, ("law" : Str) ++ Str.ofString ".<locals>." ++ Str.ofString "<lambda>")], fun p hp => ?_, fun p hp => ?_, fun p hp => ?_, fun s v => .of_eq rfl, fun base _ _ hTB => ?_⟩
  · rw [List.mem_singleton.mp hp]; exact hP
  · rw [List.mem_singleton.mp hp]; exact hK
  · rw [List.mem_singleton.mp hp]; exact PySem.W.codeHd_of_K X hC
  have T : Txt (mkG l.prog w K mg base (fun i => ([XC0, XC1] : List Addr).getD i 0) [(PL, ("law" : Str) ++ Str.ofString ".<locals>." ++ Str.ofString "<lambda>")]) (fun i => ([f0, f1, f2, f3, f4, f5, f6, f7, f8, f9, f10, f11, f12, f13, f14, f15, f16, f17, f18, f19, f20, f21] : List Addr).getD i f0)
      (fun i => ([(PySem.W.fnOf "shared_by" "shared_by" (defArgs t_shared_by) (defBody t_shared_by) (defScope t_shared_by) .none kV0 dc0 pm0 an0 cd0 ct0), (PySem.W.fnOf "part" "part" (defArgs t_part) (defBody t_part) (defScope t_part) (.ref T1) kV1 dc1 pm1 an1 cd1 ct1), (PySem.W.fnOf "part_text" "part_text" (defArgs t_part_text) (defBody t_part_text) (defScope t_part_text) .none kV2 dc2 pm2 an2 cd2 ct2), (PySem.W.fnOf "read_figures" "read_figures" (defArgs t_read_figures) (defBody t_read_figures) (defScope t_read_figures) (.ref T3) kV3 dc3 pm3 an3 cd3 ct3), (PySem.W.fnOf "read_number" "read_number" (defArgs t_read_number) (defBody t_read_number) (defScope t_read_number) (.ref T4) kV4 dc4 pm4 an4 cd4 ct4), (PySem.W.fnOf "read_part" "read_part" (defArgs t_read_part) (defBody t_read_part) (defScope t_read_part) .none kV5 dc5 pm5 an5 cd5 ct5), (PySem.W.fnOf "arrow_text" "arrow_text" (defArgs t_arrow_text) (defBody t_arrow_text) (defScope t_arrow_text) .none kV6 dc6 pm6 an6 cd6 ct6), (PySem.W.fnOf "read_arrow" "read_arrow" (defArgs t_read_arrow) (defBody t_read_arrow) (defScope t_read_arrow) .none kV7 dc7 pm7 an7 cd7 ct7), (PySem.W.fnOf "_law_box" "_law_box" (defArgs t_l_box) (defBody t_l_box) (defScope t_l_box) .none kV8 dc8 pm8 an8 cd8 ct8), (PySem.W.fnOf "_law_draw" "_law_draw" (defArgs t_l_draw) (defBody t_l_draw) (defScope t_l_draw) .none kV9 dc9 pm9 an9 cd9 ct9), (PySem.W.fnOf "_law_low" "_law_low" (defArgs t_l_low) (defBody t_l_low) (defScope t_l_low) .none kV10 dc10 pm10 an10 cd10 ct10), (PySem.W.fnOf "_law_part" "_law_part" (defArgs t_l_part) (defBody t_l_part) (defScope t_l_part) .none kV11 dc11 pm11 an11 cd11 ct11), (PySem.W.fnOf "_law_part_text" "_law_part_text" (defArgs t_l_part_text) (defBody t_l_part_text) (defScope t_l_part_text) .none kV12 dc12 pm12 an12 cd12 ct12), (PySem.W.fnOf "_law_arrow_text" "_law_arrow_text" (defArgs t_l_arrow_text) (defBody t_l_arrow_text) (defScope t_l_arrow_text) .none kV13 dc13 pm13 an13 cd13 ct13), (PySem.W.fnOf "_law_like" "_law_like" (defArgs t_l_like) (defBody t_l_like) (defScope t_l_like) .none kV14 dc14 pm14 an14 cd14 ct14), (PySem.W.fnOf "_law_of" "_law_of" (defArgs t_l_of) (defBody t_l_of) (defScope t_l_of) .none kV15 dc15 pm15 an15 cd15 ct15), (PySem.W.fnOf "_law_bent_text" "_law_bent_text" (defArgs t_l_bent_text) (defBody t_l_bent_text) (defScope t_l_bent_text) .none kV16 dc16 pm16 an16 cd16 ct16), (PySem.W.fnOf "_law_figures" "_law_figures" (defArgs t_l_figures) (defBody t_l_figures) (defScope t_l_figures) .none kV17 dc17 pm17 an17 cd17 ct17), (PySem.W.fnOf "_law_number_in" "_law_number_in" (defArgs t_l_number_in) (defBody t_l_number_in) (defScope t_l_number_in) .none kV18 dc18 pm18 an18 cd18 ct18), (PySem.W.fnOf "_law_part_in" "_law_part_in" (defArgs t_l_part_in) (defBody t_l_part_in) (defScope t_l_part_in) .none kV19 dc19 pm19 an19 cd19 ct19), (PySem.W.fnOf "_law_arrow_in" "_law_arrow_in" (defArgs t_l_arrow_in) (defBody t_l_arrow_in) (defScope t_l_arrow_in) .none kV20 dc20 pm20 an20 cd20 ct20), (PySem.W.fnOf "law" "law" (defArgs t_law) (defBody t_law) (defScope t_law) .none kV21 dc21 pm21 an21 (.ref cL) ct21)] : List FuncData).getD i (PySem.W.fnOf "shared_by" "shared_by" (defArgs t_shared_by) (defBody t_shared_by) (defScope t_shared_by) .none kV0 dc0 pm0 an0 cd0 ct0)) cL PL := {
    F_shared_by := funx_mk l0 c0 k0
    m_shared_by := PySem.W.mg_of X G a0
    F_part := funx_mkD l1 c1 k1 T_1 (.cons cv_int .nil) (by simp)
    m_part := PySem.W.mg_of X G a1
    F_part_text := funx_mk l2 c2 k2
    m_part_text := PySem.W.mg_of X G a2
    F_read_figures := funx_mkD l3 c3 k3 T_3 (.cons cv_int .nil) (by simp)
    m_read_figures := PySem.W.mg_of X G a3
    F_read_number := funx_mkD l4 c4 k4 T_4 (.cons cv_int .nil) (by simp)
    m_read_number := PySem.W.mg_of X G a4
    F_read_part := funx_mk l5 c5 k5
    m_read_part := PySem.W.mg_of X G a5
    F_arrow_text := funx_mk l6 c6 k6
    m_arrow_text := PySem.W.mg_of X G a6
    F_read_arrow := funx_mk l7 c7 k7
    m_read_arrow := PySem.W.mg_of X G a7
    F_l_box := funx_mk l8 c8 k8
    m_l_box := PySem.W.mg_of X G a8
    F_l_draw := funx_mk l9 c9 k9
    m_l_draw := PySem.W.mg_of X G a9
    F_l_low := funx_mk l10 c10 k10
    m_l_low := PySem.W.mg_of X G a10
    F_l_part := funx_mk l11 c11 k11
    m_l_part := PySem.W.mg_of X G a11
    F_l_part_text := funx_mk l12 c12 k12
    m_l_part_text := PySem.W.mg_of X G a12
    F_l_arrow_text := funx_mk l13 c13 k13
    m_l_arrow_text := PySem.W.mg_of X G a13
    F_l_like := funx_mk l14 c14 k14
    m_l_like := PySem.W.mg_of X G a14
    F_l_of := funx_mk l15 c15 k15
    m_l_of := PySem.W.mg_of X G a15
    F_l_bent_text := funx_mk l16 c16 k16
    m_l_bent_text := PySem.W.mg_of X G a16
    F_l_figures := funx_mk l17 c17 k17
    m_l_figures := PySem.W.mg_of X G a17
    F_l_number_in := funx_mk l18 c18 k18
    m_l_number_in := PySem.W.mg_of X G a18
    F_l_part_in := funx_mk l19 c19 k19
    m_l_part_in := PySem.W.mg_of X G a19
    F_l_arrow_in := funx_mk l20 c20 k20
    m_l_arrow_in := PySem.W.mg_of X G a20
    L_law := ⟨_, _, _, _, _, _, _, _, _, l21, rfl, c21, k21⟩
    m_law := PySem.W.mg_of X G a21
    n_abs := PySem.W.mg_none_of X G z_abs
    n_all := PySem.W.mg_none_of X G z_all
    n_bool := PySem.W.mg_none_of X G z_bool
    n_int := PySem.W.mg_none_of X G z_int
    n_isinstance := PySem.W.mg_none_of X G z_isinstance
    n_len := PySem.W.mg_none_of X G z_len
    n_list := PySem.W.mg_none_of X G z_list
    n_max := PySem.W.mg_none_of X G z_max
    n_range := PySem.W.mg_none_of X G z_range
    n_str := PySem.W.mg_none_of X G z_str
    n_tuple := PySem.W.mg_none_of X G z_tuple
    c_FIGURES := CV.gcon (PySem.W.mg_of X G g_FIGURES) cv_str
    X_BadPart := ⟨PySem.W.mg_of X G xa0, rfl, O0, XI0, _, _, xi0, xj0, ini0 xm0 xc0 Si_BadPart O0 xf0_called (.inl (by decide +kernel)) rfl, fun s us _ l => by match us, l with | [u], _ => exact .of_eq rfl⟩
    X_BadText := ⟨PySem.W.mg_of X G xa1, rfl, O1, XI1, _, _, xi1, xj1, ini1 xm1 xc1 Si_BadText O1 xf1_called xf1_at (.inl (by decide +kernel)) (.inl (by decide +kernel)) (by decide) (by decide) rfl, fun s us _ l => by match us, l with | [u, v], _ => exact .of_eq rfl⟩
    tried := ⟨by decide, by decide +kernel, .inl (by decide +kernel), S_l_tried, by decide, by decide, by decide, by decide, ⟨fT, ocT, .none, kVT, dcT, pmT, cdT, ctT, odT, anT, slT, _, _, _, _, _, _, _, _, _, _, [([.ref Y_BadName, .ref Y_Twice, .ref Y_Taken, .ref Y_InUse, .ref Y_NoRow, .ref Y_NoWatch], ["called", "name"]), ([.ref Y_Nought, .ref Y_BadCorner, .ref Y_Flat, .ref Y_Unbuilt, .ref Y_BadText], ["called", "at"]), ([.ref Y_Folded], ["called", "weight"]), ([.ref Y_BadRow], ["called", "many"]), ([.ref Y_Full], ["called", "most"]), ([.ref Y_BadDeed], ["called", "word"]), ([.ref Y_RodError, .ref Y_Missing], ["called"])], PySem.W.mg_of X G aT, kT, lT, cT, fun s us _ l => (by match us, l with | [u], _ => exact .of_eq rfl), rfl, fun X' hm hs => (.cons (.tup (.cons (nm_of (G := mkG l.prog w K mg base (fun i => ([XC0, XC1] : List Addr).getD i 0) [(PL, ("law" : Str) ++ Str.ofString ".<locals>." ++ Str.ofString "<lambda>")]) hm hs (by decide +kernel) (PySem.W.mg_of X G y_BadName)) (.cons (nm_of (G := mkG l.prog w K mg base (fun i => ([XC0, XC1] : List Addr).getD i 0) [(PL, ("law" : Str) ++ Str.ofString ".<locals>." ++ Str.ofString "<lambda>")]) hm hs (by decide +kernel) (PySem.W.mg_of X G y_Twice)) (.cons (nm_of (G := mkG l.prog w K mg base (fun i => ([XC0, XC1] : List Addr).getD i 0) [(PL, ("law" : Str) ++ Str.ofString ".<locals>." ++ Str.ofString "<lambda>")]) hm hs (by decide +kernel) (PySem.W.mg_of X G y_Taken)) (.cons (nm_of (G := mkG l.prog w K mg base (fun i => ([XC0, XC1] : List Addr).getD i 0) [(PL, ("law" : Str) ++ Str.ofString ".<locals>." ++ Str.ofString "<lambda>")]) hm hs (by decide +kernel) (PySem.W.mg_of X G y_InUse)) (.cons (nm_of (G := mkG l.prog w K mg base (fun i => ([XC0, XC1] : List Addr).getD i 0) [(PL, ("law" : Str) ++ Str.ofString ".<locals>." ++ Str.ofString "<lambda>")]) hm hs (by decide +kernel) (PySem.W.mg_of X G y_NoRow)) (.cons (nm_of (G := mkG l.prog w K mg base (fun i => ([XC0, XC1] : List Addr).getD i 0) [(PL, ("law" : Str) ++ Str.ofString ".<locals>." ++ Str.ofString "<lambda>")]) hm hs (by decide +kernel) (PySem.W.mg_of X G y_NoWatch)) .nil)))))) (by simp)) (.cons (.cons .nil)) (.cons (.tup (.cons (nm_of (G := mkG l.prog w K mg base (fun i => ([XC0, XC1] : List Addr).getD i 0) [(PL, ("law" : Str) ++ Str.ofString ".<locals>." ++ Str.ofString "<lambda>")]) hm hs (by decide +kernel) (PySem.W.mg_of X G y_Nought)) (.cons (nm_of (G := mkG l.prog w K mg base (fun i => ([XC0, XC1] : List Addr).getD i 0) [(PL, ("law" : Str) ++ Str.ofString ".<locals>." ++ Str.ofString "<lambda>")]) hm hs (by decide +kernel) (PySem.W.mg_of X G y_BadCorner)) (.cons (nm_of (G := mkG l.prog w K mg base (fun i => ([XC0, XC1] : List Addr).getD i 0) [(PL, ("law" : Str) ++ Str.ofString ".<locals>." ++ Str.ofString "<lambda>")]) hm hs (by decide +kernel) (PySem.W.mg_of X G y_Flat)) (.cons (nm_of (G := mkG l.prog w K mg base (fun i => ([XC0, XC1] : List Addr).getD i 0) [(PL, ("law" : Str) ++ Str.ofString ".<locals>." ++ Str.ofString "<lambda>")]) hm hs (by decide +kernel) (PySem.W.mg_of X G y_Unbuilt)) (.cons (nm_of (G := mkG l.prog w K mg base (fun i => ([XC0, XC1] : List Addr).getD i 0) [(PL, ("law" : Str) ++ Str.ofString ".<locals>." ++ Str.ofString "<lambda>")]) hm hs (by decide +kernel) (PySem.W.mg_of X G y_BadText)) .nil))))) (by simp)) (.cons (.cons .nil)) (.cons (.one (nm_of (G := mkG l.prog w K mg base (fun i => ([XC0, XC1] : List Addr).getD i 0) [(PL, ("law" : Str) ++ Str.ofString ".<locals>." ++ Str.ofString "<lambda>")]) hm hs (by decide +kernel) (PySem.W.mg_of X G y_Folded))) (.cons (.cons .nil)) (.cons (.one (nm_of (G := mkG l.prog w K mg base (fun i => ([XC0, XC1] : List Addr).getD i 0) [(PL, ("law" : Str) ++ Str.ofString ".<locals>." ++ Str.ofString "<lambda>")]) hm hs (by decide +kernel) (PySem.W.mg_of X G y_BadRow))) (.cons (.cons .nil)) (.cons (.one (nm_of (G := mkG l.prog w K mg base (fun i => ([XC0, XC1] : List Addr).getD i 0) [(PL, ("law" : Str) ++ Str.ofString ".<locals>." ++ Str.ofString "<lambda>")]) hm hs (by decide +kernel) (PySem.W.mg_of X G y_Full))) (.cons (.cons .nil)) (.cons (.one (nm_of (G := mkG l.prog w K mg base (fun i => ([XC0, XC1] : List Addr).getD i 0) [(PL, ("law" : Str) ++ Str.ofString ".<locals>." ++ Str.ofString "<lambda>")]) hm hs (by decide +kernel) (PySem.W.mg_of X G y_BadDeed))) (.cons (.cons .nil)) (.cons (.tup (.cons (nm_of (G := mkG l.prog w K mg base (fun i => ([XC0, XC1] : List Addr).getD i 0) [(PL, ("law" : Str) ++ Str.ofString ".<locals>." ++ Str.ofString "<lambda>")]) hm hs (by decide +kernel) (PySem.W.mg_of X G y_RodError)) (.cons (nm_of (G := mkG l.prog w K mg base (fun i => ([XC0, XC1] : List Addr).getD i 0) [(PL, ("law" : Str) ++ Str.ofString ".<locals>." ++ Str.ofString "<lambda>")]) hm hs (by decide +kernel) (PySem.W.mg_of X G y_Missing)) .nil)) (by simp)) (.cons .nil) .nil))))))), HD⟩, fun c hc => by
      match c, hc with
      | 0, _ => exact ⟨xg0, xh0, xe0, xd0⟩
      | 1, _ => exact ⟨xg1, xh1, xe1, xd1⟩
      | c + 2, h => exact absurd h (by unfold nCx; omega)⟩
    tb := hTB _ (List.mem_singleton.mpr rfl)
    tT := rfl
    cd0 := rfl }
  exact law_end (ok_law T) rfl LAW
end Law
namespace Law
open PySem L2 CT
theorem fn_ex {N : Nat} {body : Fo} {ds : List D} {m m' : Ms} {x : Xc} {σ' : Sd} (h : body (ds.map some ++ List.replicate (N - ds.length) none) m = .ex x σ' m') (hd : cfF x.fs = true) (hm : m'.length = m.length) : fnSem N body ds m = .ex x m' := by
  unfold fnSem
  rw [h]
  simp only [hd, if_true]
  rw [List.take_of_length_le (by omega)]
theorem seq_nx {f g : Fo} {σ σ1 : Sd} {m m1 : Ms} {r : O} (h1 : f σ m = .nx σ1 m1) (h2 : g σ1 m1 = r) : xSeq f g σ m = r := by
  rw [ev_seq, h1]
  exact h2
/-- the box: the script's cells, the place, what is left of a cell, the seed, the count -/
def bx (cs : List Int) (i a s c : Int) : List D := [.lst (cs.map .int), .int i, .int a, .int s, .int c]
section
variable {cs : List Int} {i a s c x : Int}
theorem bx0 : atI (bx cs i a s c) 0 = some (.lst (cs.map .int)) := rfl
theorem bx1 : atI (bx cs i a s c) 1 = some (.int i) := rfl
theorem bx2 : atI (bx cs i a s c) 2 = some (.int a) := rfl
theorem bx3 : atI (bx cs i a s c) 3 = some (.int s) := rfl
theorem bx4 : atI (bx cs i a s c) 4 = some (.int c) := rfl
theorem bxl1 : ixN (bx cs i a s c).length 1 = some 1 := rfl
theorem bxl2 : ixN (bx cs i a s c).length 2 = some 2 := rfl
theorem bxl3 : ixN (bx cs i a s c).length 3 = some 3 := rfl
theorem bxl4 : ixN (bx cs i a s c).length 4 = some 4 := rfl
theorem bxs1 : (bx cs i a s c).set 1 (.int x) = bx cs x a s c := rfl
theorem bxs2 : (bx cs i a s c).set 2 (.int x) = bx cs i x s c := rfl
theorem bxs3 : (bx cs i a s c).set 3 (.int x) = bx cs i a x c := rfl
theorem bxs4 : (bx cs i a s c).set 4 (.int x) = bx cs i a s x := rfl
end
theorem atI_map {cs : List Int} {i : Int} (h0 : 0 ≤ i) (h : i < (cs.length : Int)) : atI (cs.map D.int) i = some (.int (cs.getD i.toNat 0)) := by
  have e : i.toNat < cs.length := by omega
  unfold atI ixN
  rw [if_pos h0, if_pos (by rw [List.length_map]; exact h)]
  simp [List.getElem?_map, List.getElem?_eq_getElem e, List.getD_eq_getElem?_getD]
/-- how a number is drawn -/
def pP : Int := 2147483629
def drawA (cs : List Int) (i a s c : Int) : Int × Int × Int :=
  if a < 1 ∧ i < (cs.length : Int) then (i + 1, (if cs.getD i.toNat 0 - 10 ^ 18 > 0 then cs.getD i.toNat 0 - 10 ^ 18 else 0), (s * 48271 + (cs.getD i.toNat 0).fmod pP * 7 + 11).fmod pP) else (i, a, s)
theorem draw_eq {cs : List Int} {i a s c many : Int} {rest : Ms} (hi : 0 ≤ i) (hs : s.natAbs < 2 ^ 64) (hs' : (drawA cs i a s c).2.2.natAbs < 2 ^ 32) (hc : (c + 1).natAbs < 2 ^ 64) (hm : 0 < many) (hm2 : many.natAbs < 2 ^ 60) :
    s_l_draw [.cel 0, .int many] (bx cs i a s c :: rest) =
      if 0 < (drawA cs i a s c).2.1 then .ok (.int ((drawA cs i a s c).2.1.fmod many)) (bx cs (drawA cs i a s c).1 ((drawA cs i a s c).2.1 / many) (drawA cs i a s c).2.2 c :: rest)
      else .ok (.int (((((drawA cs i a s c).2.2 ^ 3 + 69621 * (c + 1) + 9453).fmod pP) / 64).fmod many)) (bx cs (drawA cs i a s c).1 (drawA cs i a s c).2.1 (((drawA cs i a s c).2.2 ^ 3 + 69621 * (c + 1) + 9453).fmod pP) (c + 1) :: rest) := by
  have hne : many ≠ 0 := by omega
  have k1 : mulOk s 48271 = true := mulOk_of 64 32 hs (by decide)
  have k3 : divOk many = true := divOk_of 60 hm hm2
  have k4 : mulOk 69621 (c + 1) = true := mulOk_of 32 64 (by decide) hc
  have k5 : divOk 64 = true := by decide +kernel
  have k6 : powOk 10 18 = true := by decide +kernel
  have k7 : ∀ x : Int, x.natAbs < 2 ^ 32 → powOk x 3 = true := fun x h => by
    unfold powOk
    refine decide_eq_true ⟨by decide, by decide, by omega⟩
  have ePow : (10 : Int) ^ (Int.toNat 18) = 1000000000000000000 := by decide +kernel
  by_cases c1 : a < 1 ∧ i < (cs.length : Int)
  · have ed : drawA cs i a s c = (i + 1, (if cs.getD i.toNat 0 - 10 ^ 18 > 0 then cs.getD i.toNat 0 - 10 ^ 18 else 0), (s * 48271 + (cs.getD i.toNat 0).fmod pP * 7 + 11).fmod pP) := by unfold drawA; rw [if_pos c1]
    rw [ed] at hs' ⊢
    have k2 : mulOk ((cs.getD i.toNat 0).fmod 2147483629) 7 = true := by
      refine mulOk_of 64 32 ?_ (by decide)
      have h1 := Int.fmod_nonneg_of_pos (cs.getD i.toNat 0) (show (0 : Int) < 2147483629 by decide)
      have h2 := Int.fmod_lt_of_pos (cs.getD i.toNat 0) (show (0 : Int) < 2147483629 by decide)
      omega
    have hat : atI (cs.map D.int) i = some (.int (cs.getD i.toNat 0)) := atI_map hi c1.2
    generalize cs.getD i.toNat 0 = x at *
    have c1a : a < 1 := c1.1
    have c1b : i < (cs.length : Int) := c1.2
    generalize ha' : (if x - 10 ^ 18 > 0 then x - 10 ^ 18 else 0) = a' at *
    have ha2 : (if 1000000000000000000 < x then x - 1000000000000000000 else 0) = a' := by rw [← ha']; split <;> split <;> omega
    generalize hs2 : (s * 48271 + x.fmod pP * 7 + 11).fmod pP = s' at *
    have hs2' : (s * 48271 + x.fmod 2147483629 * 7 + 11).fmod 2147483629 = s' := hs2
    have k8 := k7 s' hs'
    by_cases c2 : 0 < a'
    · simp only [s_l_draw, fnSem, b_l_draw]
      simp [bx0, bx1, bx2, bx3, bx4, bxl1, bxl2, bxl3, bxl4, bxs1, bxs2, bxs3, bxs4, c1a, c1b, c2, hne, k1, k2, k3, k6, hat, ha2, hs2', ePow, frz_cf]
    · simp only [s_l_draw, fnSem, b_l_draw]
      simp [bx0, bx1, bx2, bx3, bx4, bxl1, bxl2, bxl3, bxl4, bxs1, bxs2, bxs3, bxs4, c1a, c1b, c2, hne, k1, k2, k3, k4, k5, k6, k8, hat, ha2, hs2', ePow, frz_cf, pP]
  · have ed : drawA cs i a s c = (i, a, s) := by unfold drawA; rw [if_neg c1]
    rw [ed] at hs' ⊢
    have k8 := k7 s hs'
    by_cases c1a : a < 1
    · have c1b : ¬ i < (cs.length : Int) := fun z => c1 ⟨c1a, z⟩
      by_cases c2 : 0 < a
      · omega
      · simp only [s_l_draw, fnSem, b_l_draw]
        simp [bx0, bx1, bx2, bx3, bx4, bxl1, bxl2, bxl3, bxl4, bxs1, bxs2, bxs3, bxs4, c1a, c1b, c2, hne, k4, k5, k8, frz_cf, pP]
    · by_cases c2 : 0 < a
      · simp only [s_l_draw, fnSem, b_l_draw]
        simp [bx0, bx1, bx2, bx3, bx4, bxl1, bxl2, bxl3, bxl4, bxs1, bxs2, bxs3, bxs4, c1a, c2, hne, k3, frz_cf]
      · omega
theorem cut_take (ns : List Int) : cutL (ns.map D.int) none (some 63) = (ns.take 63).map D.int := by
  unfold cutL HT.sIx
  simp
/-- what the box may be -/
def Box (b : Int) (ds : Ce) : Prop := ∃ cs i a s c, ds = .l (bx cs i a s c) ∧ 0 ≤ i ∧ 0 ≤ a ∧ 0 ≤ s ∧ s < pP ∧ 0 ≤ c ∧ c ≤ b
theorem Box.mono {b b' : Int} {ds : Ce} (h : Box b ds) (hb : b ≤ b') : Box b' ds := by
  obtain ⟨cs, i, a, s, c, e, h1, h2, h3, h4, h5, h6⟩ := h
  exact ⟨cs, i, a, s, c, e, h1, h2, h3, h4, h5, by omega⟩
theorem drawA_ok {cs : List Int} {i a s c : Int} (h1 : 0 ≤ i) (h2 : 0 ≤ a) (h3 : 0 ≤ s) (h4 : s < pP) : 0 ≤ (drawA cs i a s c).1 ∧ 0 ≤ (drawA cs i a s c).2.1 ∧ 0 ≤ (drawA cs i a s c).2.2 ∧ (drawA cs i a s c).2.2 < pP := by
  unfold drawA
  split
  · refine ⟨?_, ?_, Int.fmod_nonneg_of_pos _ (by decide), Int.fmod_lt_of_pos _ (by decide)⟩
    · simp only; omega
    · simp only; split <;> omega
  · exact ⟨h1, h2, h3, h4⟩
theorem draw_ok {b many : Int} {ds : Ce} {rest : Ms} (h : Box b ds) (hb : b < 1000000000) (hm : 0 < many) (hm2 : many.natAbs < 2 ^ 60) :
    ∃ r ds', s_l_draw [.cel 0, .int many] (ds :: rest) = .ok (.int r) (ds' :: rest) ∧ Box (b + 1) ds' ∧ 0 ≤ r ∧ r < many := by
  obtain ⟨cs, i, a, s, c, rfl, h1, h2, h3, h4, h5, h6⟩ := h
  obtain ⟨q1, q2, q3, q4⟩ := drawA_ok (cs := cs) (c := c) h1 h2 h3 h4
  have hp : pP = 2147483629 := rfl
  rw [draw_eq h1 (by omega) (by omega) (by omega) hm hm2]
  split
  · exact ⟨_, _, rfl, ⟨_, _, _, _, _, rfl, q1, Int.ediv_nonneg q2 (by omega), q3, q4, h5, by omega⟩, Int.fmod_nonneg_of_pos _ hm, Int.fmod_lt_of_pos _ hm⟩
  · exact ⟨_, _, rfl, ⟨_, _, _, _, _, rfl, q1, q2, Int.fmod_nonneg_of_pos _ (by decide), Int.fmod_lt_of_pos _ (by decide), by omega, by omega⟩, Int.fmod_nonneg_of_pos _ hm, Int.fmod_lt_of_pos _ hm⟩
theorem box_ok (ns : List Int) : ∃ ds, s_l_box [.lck (ns.map .int)] [] = .ok (.cel 0) [ds] ∧ Box 0 ds := by
  refine ⟨.l (bx (ns.take 63) 0 0 53 0), ?_, _, _, _, _, _, rfl, by decide, by decide, by decide, by decide, by decide, by decide⟩
  have e : cutL (ns.map D.int) none (some 63) = (ns.take 63).map D.int := cut_take ns
  simp [s_l_box, fnSemC, b_l_box, e, bx, -List.map_take]
/-! the greatest common part, lowest terms -/
theorem shared_by_ok (x y : Nat) (m : Ms) : s_shared_by [.int (x : Nat), .int (y : Nat)] m = .ok (.int (Nat.gcd x y : Nat)) m := by
  have h := gcd_while (i := 0) (j := 1) (by decide) (x := x) (y := y) (σ := [some (.int (x : Nat)), some (.int (y : Nat))]) (m := m) rfl rfl
  refine fn_rt' (m' := m) ?_ rfl rfl
  simp only [b_shared_by, ev_seq]
  show oSeq (xWhile _ _ [some (.int (x : Nat)), some (.int (y : Nat))] m) _ = _
  rw [h]
  rfl
theorem abs_nat (a : Int) : (if a < 0 then -a else a) = ((a.natAbs : Nat) : Int) := by split <;> omega
theorem part_ok {a b : Int} {n : Nat} (ha : a.natAbs < 2 ^ n) (hb : b.natAbs < 2 ^ n) (hn : 0 < n) (hn2 : n ≤ 8900) (h0 : b ≠ 0) (m : Ms) : s_part [.int a, .int b] m = .ok (dP (lowF a b)) m := by
  have hg : 0 < Int.gcd a b := Int.gcd_pos_of_ne_zero_right _ h0
  have hgb : ((Int.gcd a b : Nat) : Int).natAbs < 2 ^ n := by
    have := Int.gcd_le_natAbs_right (a := a) (b := b) h0
    simp; omega
  have k1 : divOk ((Int.gcd a b : Nat) : Int) = true := divOk_of n (by omega) hgb hn (by omega)
  have e1 : ((Nat.gcd a.natAbs b.natAbs : Nat) : Int) = ((Int.gcd a b : Nat) : Int) := rfl
  have k2 : ∀ s x : Int, (s = 1 ∨ s = -1) → x.natAbs < 2 ^ n → mulOk s x = true := fun s x hs hx => mulOk_of 2 n (by rcases hs with rfl | rfl <;> decide) hx (by decide) hn (by omega)
  refine fn_rt' (m' := m) ?_ rfl rfl
  by_cases hb0 : 0 < b
  · have k3 := k2 1 a (.inl rfl) ha
    have k4 := k2 1 b (.inl rfl) hb
    simp [b_part, h0, abs_nat, shared_by_ok, hb0, k1, k3, k4, e1, dP, lowF]
  · have k3 := k2 (-1) a (.inr rfl) ha
    have k4 := k2 (-1) b (.inr rfl) hb
    simp [b_part, h0, abs_nat, shared_by_ok, hb0, k1, k3, k4, e1, dP, lowF]
theorem low_ok {a b : Int} {n : Nat} (ha : a.natAbs < 2 ^ n) (hb : b.natAbs < 2 ^ n) (hn : 0 < n) (hn2 : n ≤ 8900) (h0 : b ≠ 0) (m : Ms) : s_l_low [.int a, .int b] m = .ok (dP (lowF a b)) m := by
  have hg : 0 < Int.gcd a b := Int.gcd_pos_of_ne_zero_right _ h0
  have hgb : ((Int.gcd a b : Nat) : Int).natAbs < 2 ^ n := by
    have := Int.gcd_le_natAbs_right (a := a) (b := b) h0
    simp; omega
  have k1 : divOk ((Int.gcd a b : Nat) : Int) = true := divOk_of n (by omega) hgb hn (by omega)
  have e1 : ((Nat.gcd a.natAbs b.natAbs : Nat) : Int) = ((Int.gcd a b : Nat) : Int) := rfl
  have k2 : ∀ s x : Int, (s = 1 ∨ s = -1) → x.natAbs < 2 ^ n → mulOk s x = true := fun s x hs hx => mulOk_of 2 n (by rcases hs with rfl | rfl <;> decide) hx (by decide) hn (by omega)
  refine fn_rt' (m' := m) ?_ rfl rfl
  have hw := gcd_while (i := 3) (j := 4) (by decide) (x := a.natAbs) (y := b.natAbs) (σ := [some (.int a), some (.int b), none, some (.int (a.natAbs : Nat)), some (.int (b.natAbs : Nat))]) (m := m) rfl rfl
  by_cases hb0 : 0 < b
  · have k3 := k2 1 a (.inl rfl) ha
    have k4 := k2 1 b (.inl rfl) hb
    simp [b_l_low, h0, abs_nat, hw, hb0, k1, k3, k4, e1, dP, lowF]
  · have k3 := k2 (-1) a (.inr rfl) ha
    have k4 := k2 (-1) b (.inr rfl) hb
    simp [b_l_low, h0, abs_nat, hw, hb0, k1, k3, k4, e1, dP, lowF]
theorem eq_str {a b : Str} {m : Ms} (ha : PyData.strOk a = true) (hb : PyData.strOk b = true) : oEq (.str a) (.str b) m = .ok (.bl (decide (a = b))) m := by
  have h1 : Pl 0 (.str a) := pl_str ha
  have h2 : Pl 0 (.str b) := pl_str hb
  unfold oEq
  rw [h1.eqOk, h2.eqOk, Bool.and_self, if_pos rfl]
  show R.ok (D.bl (a == b)) m = _
  rfl
def likeAll (rec : List D → Ms → R D) : Fn D := xCalB bAll (xCons (xLc (xRng1 (xCalB bLen (xCons (xVar 1) xNil))) (gN 2) xYes (xCal (fun ds es => sel [.p 0, .p 1] ds [] es) rec (xCons (xOp oIx (xVar 0) (xVar 2)) (xCons (xOp oIx (xVar 1) (xVar 2)) xNil)) xNil) [2]) xNil)
theorem like_loop {n : Nat} {ds : List D} {x : D} {m : Ms} (hn : ds.length ≤ 100000) (hx : x = .lst ds ∨ x = .tup ds ∨ x = .tpl ds) (h : ∀ d ∈ ds, s_l_like n [d, d] m = .ok (.bl true) m) :
    likeAll (s_l_like n) [some x, some x, none] m = .ok (.bl true) m := by
  have hl : bLen [dr m x] m = .ok (.int (ds.length : Nat)) m := by rcases hx with rfl | rfl | rfl <;> rfl
  have hi : ∀ k : Nat, (e : k < ds.length) → oIx (dr m x) (.int (k : Nat)) m = .ok ds[k] m := fun k e => by
    have : atI ds ((k : Nat) : Int) = some ds[k] := by
      unfold atI ixN
      rw [if_pos (by omega), if_pos (by omega)]
      simp [e]
    rcases hx with rfl | rfl | rfl
    · rw [dr_lst, o_ixL, this]
    · rw [dr_tup, o_ixT, this]
    · rw [dr_tpl, o_ixT, this]
  have key : lcL finL (gN 2) xYes (xCal (fun ds es => sel [.p 0, .p 1] ds [] es) (s_l_like n) (xCons (xOp oIx (xVar 0) (xVar 2)) (xCons (xOp oIx (xVar 1) (xVar 2)) xNil)) xNil) [some x, some x, none] (rngD 0 ds.length) m [] = finL m ([] ++ (rngD 0 ds.length).map fun _ => D.bl true) := by
    refine lcL_map (F := fun _ => D.bl true) _ _ fun d hd' => ?_
    unfold rngD at hd'
    obtain ⟨k, hk, rfl⟩ := List.mem_map.mp hd'
    have hk' : k < ds.length := List.mem_range.mp hk
    refine ⟨_, rfl, ?_⟩
    have e0 : (0 : Int) + ((k : Nat) : Int) = (k : Nat) := by omega
    have := h _ (List.getElem_mem hk')
    simp [e0, hi k hk', this]
  have hb : ∀ (l : List D), boolsOf (l.map fun _ => D.bl true) = some (l.map fun _ => true) := fun l => by
    induction l with
    | nil => rfl
    | cons a l ih => simp [boolsOf, ih]
  have hlen : (rngD 0 ds.length).length ≤ 100000 := by unfold rngD; simpa using hn
  have hb2 : -100000 ≤ (ds.length : Int) := by omega
  have hb4 : (ds.length : Int) ≤ 100000 := by omega
  have hb3 : (rngD 0 ds.length).length = ds.length := by simp [rngD]
  simp only [List.nil_append] at key
  simp [likeAll, xLc, hl, hn, hb2, hb3, hb4, wipeD, key, bAll, hb]
theorem like_ok : ∀ (n : Nat) (d : D) (m : Ms), Pl n d → n ≤ 64 → s_l_like (n + 1) [d, d] m = .ok (.bl true) m
  | n, d, m, h, hn => by
    refine fn_rt' (m' := m) ?_ rfl rfl
    show b_l_like (s_l_like n) [some d, some d, none] m = _
    have e0 : xCalB bAll (xCons (xLc (xRng1 (xCalB bLen (xCons (xVar 1) xNil))) (gN 2) xYes (xCal (fun ds es => sel [.p 0, .p 1] ds [] es) (s_l_like n) (xCons (xOp oIx (xVar 0) (xVar 2)) (xCons (xOp oIx (xVar 1) (xVar 2)) xNil)) xNil) [2]) xNil) = likeAll (s_l_like n) := rfl
    simp only [b_l_like, e0]
    cases d with
    | lst ds =>
      cases n with
      | zero => exact h.elim
      | succ n =>
        have := like_loop (n := n + 1) (x := .lst ds) (m := m) h.1 (.inl rfl) fun d hd => like_ok n d m (h.2 d hd) (by omega)
        simp [isK, tyN, tyI, this]
    | tup ds =>
      cases n with
      | zero => exact h.elim
      | succ n =>
        have := like_loop (n := n + 1) (x := .tup ds) (m := m) h.1 (.inr (.inl rfl)) fun d hd => like_ok n d m (h.2 d hd) (by omega)
        simp [isK, tyN, tyI, this]
    | tpl ds =>
      cases n with
      | zero => exact h.elim
      | succ n =>
        have := like_loop (n := n + 1) (x := .tpl ds) (m := m) h.1 (.inr (.inr rfl)) fun d hd => like_ok n d m (h.2 d hd) (by omega)
        simp [isK, tyN, tyI, this]
    | int i => simp [isK, tyN, tyI]
    | bl b => simp [isK, tyN, tyI]
    | str s =>
      have e := eq_self (m := m) h hn
      simp [isK, tyN, tyI, e]
    | non =>
      have e := eq_self (m := m) h hn
      simp [isK, tyN, tyI, e]
    | _ => cases n <;> exact h.elim
theorem like_self {n k : Nat} {d : D} {m : Ms} (h : Pl n d) (hn : n < k := by omega) (hk : k ≤ 65 := by decide) : s_l_like k [d, d] m = .ok (.bl true) m := by
  obtain ⟨j, rfl⟩ : ∃ j, k = j + 1 := ⟨k - 1, by omega⟩
  exact like_ok j d m (h.mono (by omega)) (by omega)
theorem l_part_ok {b : Int} {ds : Ce} {rest : Ms} (h : Box b ds) (hb : b < 999999990) : ∃ p ds', s_l_part [.cel 0] (ds :: rest) = .ok (dP p) (ds' :: rest) ∧ Box (b + 3) ds' ∧ Gd 40 p := by
  obtain ⟨r, d1, e1, b1, l1, u1⟩ := draw_ok (many := 5) (rest := rest) h (by omega) (by decide) (by decide)
  have kp : powOk 10 12 = true := by decide +kernel
  have km : mulOk 2 1000000000000 = true := by decide +kernel
  have ePow : (10 : Int) ^ (Int.toNat 12) = 1000000000000 := by decide +kernel
  by_cases hr : r = 0
  · obtain ⟨r2, d2, e2, b2, l2, u2⟩ := draw_ok (many := 1999999999999) (rest := rest) b1 (by omega) (by decide) (by decide)
    obtain ⟨r3, d3, e3, b3, l3, u3⟩ := draw_ok (many := 999999999999) (rest := rest) b2 (by omega) (by decide) (by decide)
    have hl := low_ok (a := r2 - 1000000000000 + 1) (b := 1 + r3) (n := 40) (by omega) (by omega) (by decide) (by decide) (by omega) (d3 :: rest)
    refine ⟨_, d3, ?_, b3.mono (by omega), gd_low (a := r2 - 1000000000000 + 1) (b := 1 + r3) (by omega) (by omega) (by omega)⟩
    refine fn_rt' (m' := d3 :: rest) ?_ rfl rfl
    simp [b_l_part, e1, hr, kp, km, ePow, e2, e3, hl]
  · obtain ⟨r2, d2, e2, b2, l2, u2⟩ := draw_ok (many := 41) (rest := rest) b1 (by omega) (by decide) (by decide)
    obtain ⟨r3, d3, e3, b3, l3, u3⟩ := draw_ok (many := 9) (rest := rest) b2 (by omega) (by decide) (by decide)
    have hl := low_ok (a := r2 - 20) (b := 1 + r3) (n := 40) (by omega) (by omega) (by decide) (by decide) (by omega) (d3 :: rest)
    refine ⟨_, d3, ?_, b3.mono (by omega), gd_low (a := r2 - 20) (b := 1 + r3) (by omega) (by omega) (by omega)⟩
    refine fn_rt' (m' := d3 :: rest) ?_ rfl rfl
    simp [b_l_part, e1, hr, e2, e3, hl]
theorem l_of_ok {b : Int} {ds : Ce} {es : List D} {rest : Ms} (h : Box b ds) (hb : b < 1000000000) (h0 : es ≠ []) (hl : es.length < 100000) (hc : ∀ x ∈ es, x.cf (rest.length + 1) = true) :
    ∃ x ds', s_l_of [.cel 0, .lst es] (ds :: rest) = .ok x (ds' :: rest) ∧ Box (b + 1) ds' ∧ x ∈ es := by
  have hp : 0 < es.length := List.length_pos_iff.mpr h0
  obtain ⟨r, d1, e1, b1, l1, u1⟩ := draw_ok (many := (es.length : Nat)) (rest := rest) h hb (by omega) (by omega)
  have hr : r.toNat < es.length := by omega
  have hat : atI es r = some es[r.toNat] := by
    unfold atI ixN
    rw [if_pos l1, if_pos u1]
    simp [hr]
  refine ⟨es[r.toNat], d1, ?_, b1, List.getElem_mem hr⟩
  refine fn_rt' (m' := d1 :: rest) ?_ (by simpa using hc _ (List.getElem_mem hr)) rfl
  simp [b_l_of, e1, hat]
theorem try_ok {nC : Nat} {hd : Hd} {f : Fn D} {σ : Sd} {m m' : Ms} {d : D} (h : f σ m = .ok d m') : xTry nC hd f σ m = .ok (.tup [.str (Str.ofString "told"), d]) m' := by
  unfold xTry
  rw [h]
theorem try_ex {nC : Nat} {hd : Hd} {f : Fn D} {σ : Sd} {m m' : Ms} {x : Xc} {ds : List D} (h : f σ m = .ex x m') (hc : x.c < nC) (hh : hdD x.fs x.c hd = some ds) (hl : ds.length ≤ 1000 := by decide) : xTry nC hd f σ m = .ok (.tup ds) m' := by
  unfold xTry
  rw [h]
  simp only [hc, if_true, hh, hl]
/-- the law's turns, where lists of the law's own are left behind -/
theorem turnsR {x : D} {w : Fo} {N n : Nat} {B : Int} (hB0 : 0 ≤ B) (hB : B * n < 600000000)
    (h : ∀ (o : List (Option D)) (b : Int) (ds : Ce) (rest : Ms), o.length = N → Box b ds → 0 ≤ b → b < 600000000 → ∃ o' ds' rest', (w (some x :: some (.cel 0) :: o) (ds :: rest) = .nx (some x :: some (.cel 0) :: o') (ds' :: rest') ∨ w (some x :: some (.cel 0) :: o) (ds :: rest) = .ct (some x :: some (.cel 0) :: o') (ds' :: rest')) ∧ o'.length = N ∧ Box (b + B) ds')
    {o : List (Option D)} {ds : Ce} {rest : Ms} (ho : o.length = N) (hb : Box 0 ds) : ∃ o' ds' rest', forL (gN 2) w (rngD 0 n) (some x :: some (.cel 0) :: o) (ds :: rest) = .nx (some x :: some (.cel 0) :: o') (ds' :: rest') ∧ o'.length = N ∧ Box (B * n) ds' := by
  have hl : (rngD 0 n).length = n := by simp [rngD]
  obtain ⟨σ', m', e, o', ds', rest', r1, r2, r3, r4⟩ := forL_all (g := gN 2) (b := w) (fun i σ m => ∃ o ds rest, σ = some x :: some (.cel 0) :: o ∧ m = ds :: rest ∧ o.length = N ∧ Box (B * i) ds) (rngD 0 n) (fun i d σ m hi ⟨o, ds, rest, hσ, hm, ho, hb⟩ => by
    subst hσ hm
    have hi' : i < n := by
      have := (List.getElem?_eq_some_iff.mp hi).1
      omega
    have hbi : B * (i : Int) < 600000000 := Int.lt_of_le_of_lt (Int.mul_le_mul_of_nonneg_left (by omega) hB0) hB
    obtain ⟨o', ds', rest', e, ho', hb'⟩ := h (o.set 0 (some d)) (B * i) ds rest (by simpa using ho) hb (Int.mul_nonneg hB0 (by omega)) hbi
    refine ⟨_, _, _, _, rfl, e, o', ds', rest', rfl, rfl, ho', hb'.mono ?_⟩
    rw [Int.natCast_add, Int.mul_add]
    simp) (σ := some x :: some (.cel 0) :: o) (m := ds :: rest) ⟨o, ds, rest, rfl, rfl, ho, by simpa using hb⟩
  subst r1 r2
  exact ⟨o', ds', rest', e, r3, by rw [hl] at r4; exact r4⟩
/-! texts of figures: what is read -/
abbrev tl (x : Str) : List Nat := x.cps.toList
def isF (c : Nat) : Bool := decide (48 ≤ c) && decide (c ≤ 57)
def figs : Str := "0123456789"
theorem tl_figs : tl figs = [48, 49, 50, 51, 52, 53, 54, 55, 56, 57] := by decide +kernel
theorem occ_fig (c : Nat) : occB ⟨#[c]⟩ figs = isF c := by
  have h : occB ⟨#[c]⟩ figs = decide (c ∈ tl figs) := by
    unfold occB
    exact StrLaws.found_one ..
  rw [h, tl_figs, Bool.eq_iff_iff]
  simp only [decide_eq_true_eq, isF, Bool.and_eq_true, List.mem_cons, List.not_mem_nil, or_false]
  omega
/-- figures: none where the text is none -/
def figF (l : List Nat) : Option Nat := if 1 ≤ l.length ∧ l.length ≤ 40 then if l.all isF = true then if 1 < l.length ∧ l.head? = some 48 then none else some (NumText.digitsVal l) else none else none
def numF (l : List Nat) : Option Int := if l.head? = some 45 then match figF l.tail with
    | some n => if n = 0 then none else some (-(n : Int))
    | none => none
  else (figF l).map fun n => (n : Int)
def partInF (l : List Nat) : Option Q := match TL.par [47] [] l with
  | none => (numF l).map fun x => (x, 1)
  | some (a, b) => match numF a with
    | none => none
    | some x => match figF b with
      | none => none
      | some y => if (y : Int) < 2 ∨ lowF x y ≠ (x, (y : Int)) then none else some (x, (y : Int))
theorem all_digits {l : List Nat} (h : l.all isF = true) : NumText.AllDigits l := fun c hc => by
  have := List.all_eq_true.mp h c hc
  simpa [isF] using this
theorem digits_all {l : List Nat} (h : NumText.AllDigits l) : l.all isF = true := List.all_eq_true.mpr fun c hc => by
  have := h c hc
  simpa [isF] using this
theorem val_lt : ∀ (l : List Nat) (a : Nat), NumText.AllDigits l → l.foldl (fun acc c => acc * 10 + (c - 48)) a < (a + 1) * 10 ^ l.length
  | [], a, _ => by simp
  | c :: r, a, h => by
    have hc := h.head
    have ih := val_lt r (a * 10 + (c - 48)) h.tail
    rw [List.foldl_cons, List.length_cons, Nat.pow_succ]
    have h2 : (a * 10 + (c - 48) + 1) * 10 ^ r.length ≤ ((a + 1) * 10) * 10 ^ r.length := Nat.mul_le_mul_right _ (by omega)
    have e : (a + 1) * 10 * 10 ^ r.length = (a + 1) * (10 ^ r.length * 10) := by rw [Nat.mul_assoc, Nat.mul_comm 10]
    omega
theorem fig_lt {l : List Nat} {n : Nat} (h : figF l = some n) : n < 10 ^ 40 := by
  unfold figF at h
  split at h
  · rename_i hl
    split at h
    · rename_i ha
      split at h
      · cases h
      · cases h
        have := val_lt l 0 (all_digits ha)
        have h2 : 10 ^ l.length ≤ 10 ^ 40 := Nat.pow_le_pow_right (by decide) hl.2
        unfold NumText.digitsVal
        omega
    · cases h
  · cases h
theorem num_lt {l : List Nat} {x : Int} (h : numF l = some x) : x.natAbs < 2 ^ 140 := by
  have z : (10 : Nat) ^ 40 < 2 ^ 140 := by decide
  unfold numF at h
  split at h
  · split at h
    · rename_i n e
      have := fig_lt e
      split at h
      · cases h
      · cases h
        omega
    · cases h
  · cases e : figF l with
    | none => rw [e] at h; cases h
    | some n =>
      rw [e] at h
      cases h
      have := fig_lt e
      simp
      omega
/-- .. by the law's cutting at each stroke -/
def partInL (ws : List (List Nat)) : Option Q := match ws with
  | [a] => (numF a).map fun x => (x, 1)
  | [a, b] => match numF a with
    | none => none
    | some x => match figF b with
      | none => none
      | some y => if (y : Int) < 2 ∨ lowF x y ≠ (x, (y : Int)) then none else some (x, (y : Int))
  | _ => none
theorem first_stroke (s : Nat) : ∀ l : List Nat, s ∈ l → ∃ a b, l = a ++ s :: b ∧ s ∉ a
  | [], h => by cases h
  | c :: l, h => by
    by_cases e : c = s
    · exact ⟨[], l, by rw [e]; rfl, by simp⟩
    · have : s ∈ l := by
        rcases List.mem_cons.mp h with z | z
        · exact absurd z.symm e
        · exact z
      obtain ⟨a, b, rfl, hb⟩ := first_stroke s l this
      exact ⟨c :: a, b, rfl, by simp [hb]; exact fun z => e z.symm⟩
theorem fig_none {l : List Nat} (h : 47 ∈ l) : figF l = none := by
  unfold figF
  split
  · split
    · rename_i ha
      have := List.all_eq_true.mp ha 47 h
      exact absurd this (by decide)
    · rfl
  · rfl
theorem spl_two (l : List Nat) (h : 47 ∈ l) : ∃ a b r, TL.spl [47] 0 [] l = a :: b :: r := by
  obtain ⟨a, b, rfl, ha⟩ := first_stroke 47 l h
  have e : TL.spl [47] 0 [] (a ++ ([47] ++ b)) = ([] ++ a) :: TL.spl [47] 0 [] b := TL.spl_part1 ha
  have e2 : a ++ 47 :: b = a ++ ([47] ++ b) := rfl
  rw [e2, e]
  by_cases hb : 47 ∈ b
  · obtain ⟨x, y, rfl, hx⟩ := first_stroke 47 b hb
    have e3 : TL.spl [47] 0 [] (x ++ ([47] ++ y)) = ([] ++ x) :: TL.spl [47] 0 [] y := TL.spl_part1 hx
    have e4 : x ++ 47 :: y = x ++ ([47] ++ y) := rfl
    rw [e4, e3]
    exact ⟨_, _, _, rfl⟩
  · rw [TL.spl_last1 hb]
    exact ⟨_, _, _, rfl⟩
theorem part_same (l : List Nat) : partInL (TL.spl [47] 0 [] l) = partInF l := by
  by_cases h : 47 ∈ l
  · obtain ⟨a, b, rfl, ha⟩ := first_stroke 47 l h
    have e2 : a ++ 47 :: b = a ++ ([47] ++ b) := rfl
    have e1 : TL.spl [47] 0 [] (a ++ ([47] ++ b)) = ([] ++ a) :: TL.spl [47] 0 [] b := TL.spl_part1 ha
    have e3 : TL.par [47] [] (a ++ ([47] ++ b)) = some ([] ++ a, b) := TL.par_part1 ha
    rw [e2, e1]
    unfold partInF
    rw [e3, List.nil_append]
    by_cases hb : 47 ∈ b
    · obtain ⟨x, y, r, e4⟩ := spl_two b hb
      rw [e4]
      have hf := fig_none hb
      simp only [hf]
      show none = _
      cases numF a <;> rfl
    · rw [TL.spl_last1 hb, List.nil_append]
      rfl
  · rw [TL.spl_last1 h, List.nil_append]
    unfold partInF
    rw [TL.par_none1 h]
    rfl
/-! texts read -/
def xBad : Xc := ⟨1, [(Str.ofString "at", .int 0), (Str.ofString "called", .str (Str.ofString "BadText"))]⟩
def fF : D → D
  | .str u => .bl (occB u figs)
  | _ => .non
theorem bools_fF (z : Str) : boolsOf ((charsD z).map fF) = some (z.cps.toList.map fun c => occB ⟨#[c]⟩ figs) := by
  unfold charsD
  induction z.cps.toList with
  | nil => rfl
  | cons c l ih =>
    show (boolsOf ((l.map fun c => D.str ⟨#[c]⟩).map fF)).map (occB ⟨#[c]⟩ figs :: ·) = _
    rw [ih]; rfl
theorem chars_len (z : Str) : (charsD z).length = z.length := by simp [charsD, Str.length]
theorem all_fig {v : Fn D} {σ : Sd} {i j : Nat} {z : Str} {m : Ms} (hi : σ[i]? = some (some (.str z))) (hj : j < σ.length) (hz : z.length ≤ 100000) (hv : ∀ u : Str, v (σ.set j (some (.str u))) m = .ok (.bl (occB u figs)) m) :
    xCalB bAll (xCons (xLc (xIt (xVar i)) (gN j) xYes v [j]) xNil) σ m = .ok (.bl ((tl z).all isF)) m := by
  have key : lcL finL (gN j) xYes v (wipeD σ [j]) (charsD z) m [] = finL m ([] ++ (charsD z).map fF) := lcL_map _ _ fun d hd => by
    obtain ⟨c, _, rfl⟩ : ∃ c, c ∈ z.cps.toList ∧ D.str ⟨#[c]⟩ = d := by simpa [charsD] using hd
    refine ⟨_, rfl, ?_⟩
    have : (wipeD σ [j]).set j (some (.str ⟨#[c]⟩)) = σ.set j (some (.str ⟨#[c]⟩)) := by simp [wipeD]
    rw [this, hv]
    rfl
  have h1 : (charsD z).length ≤ 100000 := by rw [chars_len]; exact hz
  rw [List.nil_append] at key
  have h3 : bAll [.lst ((charsD z).map fF)] m = .ok (.bl ((tl z).all isF)) m := by
    unfold bAll
    simp only [bools_fF]
    simp [List.all_map, Function.comp_def, occ_fig]
  have e1 : xVar i σ m = .ok (.str z) m := ev_var hi
  have e2 : xLc (xIt (xVar i)) (gN j) xYes v [j] σ m = .ok (.lst ((charsD z).map fF)) m := by
    simp [e1, h1, key, finL]
  generalize hx : xLc (xIt (xVar i)) (gN j) xYes v [j] = X at e2
  simp [hx, e2, h3]
theorem b_lenS {x : Str} {m : Ms} (h : x.length ≤ 100000) : bLen [.str x] m = .ok (.int (x.length : Nat)) m := by
  show (if x.length ≤ 100000 then _ else _) = _
  rw [if_pos h]
theorem len_tl (z : Str) : z.length = (tl z).length := by simp [tl, Str.length]
theorem ix_first {z : Str} {m : Ms} (h : 1 ≤ z.length) (hl : z.length ≤ 100000) : oIx (.str z) (.int 0) m = .ok (.str ⟨#[(tl z).headD 0]⟩) m := by
  obtain ⟨c, r, e⟩ : ∃ c r, tl z = c :: r := by
    cases e : tl z with
    | nil => rw [len_tl, e] at h; simp at h
    | cons c r => exact ⟨c, r, rfl⟩
  show (if z.length ≤ 100000 then match atI z.cps.toList 0 with | some c => R.ok (D.str ⟨#[c]⟩) m | none => R.bad else R.bad) = _
  rw [if_pos hl]
  have : atI z.cps.toList 0 = some c := by
    have e' : z.cps.toList = c :: r := e
    rw [e']
    unfold atI ixN
    simp
  rw [this, e]
  rfl
def mkS (l : List Nat) : Str := ⟨l.toArray⟩
theorem tl_mk (l : List Nat) : tl (mkS l) = l := rfl
theorem mk_tl (z : Str) : mkS (tl z) = z := rfl
theorem mk_len (l : List Nat) : (mkS l).length = l.length := by rw [len_tl, tl_mk]
theorem mk_inj {a b : List Nat} : mkS a = mkS b ↔ a = b := ⟨fun h => by have := congrArg tl h; simpa [tl_mk] using this, fun h => by rw [h]⟩
theorem ok_mk {l : List Nat} (h : ∀ c ∈ l, c < 0x110000) : PyData.strOk (mkS l) = true := by
  unfold PyData.strOk mkS
  rw [← Array.all_toList]
  exact List.all_eq_true.mpr fun c hc => decide_eq_true (h c hc)
theorem ok_tl {z : Str} (h : PyData.strOk z = true) : ∀ c ∈ tl z, c < 0x110000 := fun c hc => by
  unfold PyData.strOk at h
  rw [← Array.all_toList] at h
  exact of_decide_eq_true (List.all_eq_true.mp h c hc)
theorem ok_sub {z : Str} {l : List Nat} (h : PyData.strOk z = true) (hl : ∀ c ∈ l, c ∈ tl z) : PyData.strOk (mkS l) = true := ok_mk fun c hc => ok_tl h c (hl c hc)
theorem minus_is : ("-" : Str) = mkS [45] := by decide +kernel
theorem nought_is : ("0" : Str) = mkS [48] := by decide +kernel
theorem stroke_is : ("/" : Str) = mkS [47] := by decide +kernel
theorem eq_sgn (a b : Nat) (ha : a < 0x110000) (hb : b < 0x110000) (m : Ms) : oEq (.str ⟨#[a]⟩) (.str (mkS [b])) m = .ok (.bl (decide (a = b))) m := by
  have e : (⟨#[a]⟩ : Str) = mkS [a] := rfl
  rw [e, eq_str (ok_mk (by simpa using ha)) (ok_mk (by simpa using hb))]
  congr 2
  rw [Bool.eq_iff_iff]
  simp [mk_inj]
theorem int_read {z : Str} {m : Ms} (h1 : 1 ≤ z.length) (h2 : z.length ≤ 40) (ha : (tl z).all isF = true) : bIntT [.str z] m = .ok (.int (NumText.digitsVal (tl z) : Nat)) m := by
  have e : intText? z = some ((NumText.digitsVal (tl z) : Nat) : Int) := intText_digits (all_digits ha) (fun e => by rw [len_tl, show tl z = [] from e] at h1; simp at h1) (by omega)
  unfold bIntT
  simp only [e]
  rw [if_pos (by omega)]
theorem head_of {z : Str} (h : 1 ≤ z.length) : (tl z).head? = some ((tl z).headD 0) ∧ (tl z).headD 0 ∈ tl z := by
  cases e : tl z with
  | nil => rw [len_tl, e] at h; simp at h
  | cons c r => simp
theorem ev_oIn {u z : Str} {m : Ms} : oIn (.str u) (.str z) m = .ok (.bl (occB u z)) m := rfl
theorem figs_c : c_FIGURES = .str figs := rfl
/-- what both readers of figures ask -/
theorem read_figures_ok {z : Str} {m : Ms} (hz : z.length ≤ 100000) : s_read_figures [.str z, .int 40] m = match figF (tl z) with
    | some n => .ok (.int (n : Nat)) m
    | none => .ex xBad m := by
  have al := all_fig (v := v_read_figures_1) (σ := [some (.str z), some (.int 40), none]) (i := 0) (j := 2) (m := m) rfl (by simp) hz fun u => by
    simp [v_read_figures_1, figs_c, ev_oIn]
  have bl := b_lenS (m := m) hz
  have hl := len_tl z
  have r1 : ∀ σ : Sd, xRaise 1 "BadText" ["at"] (xCons (xVal (.int (0))) xNil) σ m = .ex xBad σ m := fun σ => rfl
  have key : b_read_figures [some (.str z), some (.int 40), none] m = match figF (tl z) with
      | some n => .rt (.int (n : Nat)) m
      | none => .ex xBad [some (.str z), some (.int 40), none] m := by
    unfold b_read_figures
    generalize xRaise 1 "BadText" ["at"] (xCons (xVal (.int (0))) xNil) = XR at *
    generalize xCalB bAll (xCons (xLc (xIt (xVar 0)) (gN 2) xYes v_read_figures_1 [2]) xNil) = XA at *
    have c1 : xTest (xChain oLe oLe (xVal (.int (1))) (xCalB bLen (xCons (xVar 0) xNil)) (xVar 1)) [some (.str z), some (.int 40), none] m = .ok (decide (1 ≤ z.length ∧ z.length ≤ 40)) m := by
      by_cases a1 : 1 ≤ z.length
      · by_cases a2 : z.length ≤ 40
        · have b1 : (1 : Int) ≤ (z.length : Int) := by omega
          have b2 : (z.length : Int) ≤ 40 := by omega
          simp [xTest, bl, b1, b2, a1, a2]
        · have b1 : (1 : Int) ≤ (z.length : Int) := by omega
          have b2 : ¬ (z.length : Int) ≤ 40 := by omega
          simp [xTest, bl, b1, b2, a1, a2]
      · have b1 : ¬ (1 : Int) ≤ (z.length : Int) := by omega
        simp [xTest, bl, b1, a1]
    unfold figF
    rw [← hl]
    by_cases h : 1 ≤ z.length ∧ z.length ≤ 40
    · rw [if_pos h]
      simp only [h, decide_true] at c1
      by_cases ha : (tl z).all isF = true
      · rw [if_pos ha]
        rw [ha] at al
        obtain ⟨hd1, hd2⟩ := head_of h.1
        have hf : (tl z).headD 0 < 0x110000 := by
          have := List.all_eq_true.mp ha _ hd2
          unfold isF at this
          rw [Bool.and_eq_true, decide_eq_true_eq, decide_eq_true_eq] at this
          omega
        have c2 : xTest (xOp oEq (xOp oIx (xVar 0) (xVal (.int (0)))) (xVal (.str "0"))) [some (.str z), some (.int 40), none] m = .ok (decide ((tl z).headD 0 = 48)) m := by
          have e1 := ix_first (m := m) h.1 hz
          have e2 := eq_sgn ((tl z).headD 0) 48 hf (by decide) m
          rw [← nought_is] at e2
          generalize (tl z).headD 0 = c at *
          simp [xTest, e1, e2]
        have c3 : xTest (xOp oGt (xCalB bLen (xCons (xVar 0) xNil)) (xVal (.int (1)))) [some (.str z), some (.int 40), none] m = .ok (decide (1 < z.length)) m := by
          by_cases a1 : 1 < z.length
          · have b1 : (1 : Int) < (z.length : Int) := by omega
            simp [xTest, bl, b1, a1]
          · have b1 : ¬ (1 : Int) < (z.length : Int) := by omega
            simp [xTest, bl, b1, a1]
        have ir := int_read (m := m) h.1 h.2 ha
        rw [hd1]
        generalize (tl z).headD 0 = c at *
        generalize NumText.digitsVal (tl z) = n at *
        generalize xTest (xOp oEq (xOp oIx (xVar 0) (xVal (.int (0)))) (xVal (.str "0"))) = X2 at *
        generalize xTest (xOp oGt (xCalB bLen (xCons (xVar 0) xNil)) (xVal (.int (1)))) = X3 at *
        generalize xTest (xChain oLe oLe (xVal (.int (1))) (xCalB bLen (xCons (xVar 0) xNil)) (xVar 1)) = X1 at *
        by_cases e1 : c = 48
        · by_cases e2 : 1 < z.length
          · simp [xOr, xNot, xAnd, c1, al, c2, c3, e1, e2, r1]
          · simp [xOr, xNot, xAnd, c1, al, c2, c3, e1, e2, ir]
        · simp [xOr, xNot, xAnd, c1, al, c2, e1, ir]
      · rw [if_neg ha]
        have ha' : (tl z).all isF = false := by simpa using ha
        rw [ha'] at al
        generalize xTest (xChain oLe oLe (xVal (.int (1))) (xCalB bLen (xCons (xVar 0) xNil)) (xVar 1)) = X1 at *
        simp [xOr, xNot, c1, al, r1]
    · rw [if_neg h]
      simp only [h, decide_false] at c1
      generalize xTest (xChain oLe oLe (xVal (.int (1))) (xCalB bLen (xCons (xVar 0) xNil)) (xVar 1)) = X1 at *
      simp [xOr, xNot, c1, r1]
  cases e : figF (tl z) with
  | none =>
    rw [e] at key
    exact fn_ex (σ' := [some (.str z), some (.int 40), none]) key rfl rfl
  | some n =>
    rw [e] at key
    exact fn_rt' key rfl rfl
theorem l_figures_ok {z : Str} {m : Ms} (hz : z.length ≤ 100000) : s_l_figures [.str z, .int 40] m = .ok (match figF (tl z) with | some n => .int (n : Nat) | none => .non) m := by
  have al := all_fig (v := v_l_figures_1) (σ := [some (.str z), some (.int 40), none]) (i := 0) (j := 2) (m := m) rfl (by simp) hz fun u => by
    simp [v_l_figures_1, ev_oIn, figs]
  have bl := b_lenS (m := m) hz
  have hl := len_tl z
  refine fn_rt' (m' := m) ?_ (by cases figF (tl z) <;> rfl) rfl
  show b_l_figures [some (.str z), some (.int 40), none] m = _
  unfold b_l_figures
  generalize xCalB bAll (xCons (xLc (xIt (xVar 0)) (gN 2) xYes v_l_figures_1 [2]) xNil) = XA at *
  have c1 : xTest (xChain oLe oLe (xVal (.int (1))) (xCalB bLen (xCons (xVar 0) xNil)) (xVar 1)) [some (.str z), some (.int 40), none] m = .ok (decide (1 ≤ z.length ∧ z.length ≤ 40)) m := by
    by_cases a1 : 1 ≤ z.length
    · by_cases a2 : z.length ≤ 40
      · have b1 : (1 : Int) ≤ (z.length : Int) := by omega
        have b2 : (z.length : Int) ≤ 40 := by omega
        simp [xTest, bl, b1, b2, a1, a2]
      · have b1 : (1 : Int) ≤ (z.length : Int) := by omega
        have b2 : ¬ (z.length : Int) ≤ 40 := by omega
        simp [xTest, bl, b1, b2, a1, a2]
    · have b1 : ¬ (1 : Int) ≤ (z.length : Int) := by omega
      simp [xTest, bl, b1, a1]
  unfold figF
  rw [← hl]
  by_cases h : 1 ≤ z.length ∧ z.length ≤ 40
  · rw [if_pos h]
    simp only [h, decide_true] at c1
    by_cases ha : (tl z).all isF = true
    · rw [if_pos ha]
      rw [ha] at al
      obtain ⟨hd1, hd2⟩ := head_of h.1
      have hf : (tl z).headD 0 < 0x110000 := by
        have := List.all_eq_true.mp ha _ hd2
        unfold isF at this
        rw [Bool.and_eq_true, decide_eq_true_eq, decide_eq_true_eq] at this
        omega
      have c2 : xTest (xOp oEq (xOp oIx (xVar 0) (xVal (.int (0)))) (xVal (.str "0"))) [some (.str z), some (.int 40), none] m = .ok (decide ((tl z).headD 0 = 48)) m := by
        have e1 := ix_first (m := m) h.1 hz
        have e2 := eq_sgn ((tl z).headD 0) 48 hf (by decide) m
        rw [← nought_is] at e2
        generalize (tl z).headD 0 = c at *
        simp [xTest, e1, e2]
      have c3 : xTest (xOp oGt (xCalB bLen (xCons (xVar 0) xNil)) (xVal (.int (1)))) [some (.str z), some (.int 40), none] m = .ok (decide (1 < z.length)) m := by
        by_cases a1 : 1 < z.length
        · have b1 : (1 : Int) < (z.length : Int) := by omega
          simp [xTest, bl, b1, a1]
        · have b1 : ¬ (1 : Int) < (z.length : Int) := by omega
          simp [xTest, bl, b1, a1]
      have ir := int_read (m := m) h.1 h.2 ha
      rw [hd1]
      generalize (tl z).headD 0 = c at *
      generalize NumText.digitsVal (tl z) = n at *
      generalize xTest (xOp oEq (xOp oIx (xVar 0) (xVal (.int (0)))) (xVal (.str "0"))) = X2 at *
      generalize xTest (xOp oGt (xCalB bLen (xCons (xVar 0) xNil)) (xVal (.int (1)))) = X3 at *
      generalize xTest (xChain oLe oLe (xVal (.int (1))) (xCalB bLen (xCons (xVar 0) xNil)) (xVar 1)) = X1 at *
      by_cases e1 : c = 48
      · by_cases e2 : 1 < z.length
        · simp [xOr, xNot, xAnd, c1, al, c2, c3, e1, e2]
        · simp [xOr, xNot, xAnd, c1, al, c2, c3, e1, e2, ir]
      · by_cases e2 : 1 < z.length
        · simp [xOr, xNot, xAnd, c1, al, c2, c3, e1, e2, ir]
        · simp [xOr, xNot, xAnd, c1, al, c2, c3, e1, e2, ir]
    · rw [if_neg ha]
      have ha' : (tl z).all isF = false := by simpa using ha
      rw [ha'] at al
      generalize xTest (xChain oLe oLe (xVal (.int (1))) (xCalB bLen (xCons (xVar 0) xNil)) (xVar 1)) = X1 at *
      simp [xOr, xNot, c1, al]
  · rw [if_neg h]
    simp only [h, decide_false] at c1
    generalize xTest (xChain oLe oLe (xVal (.int (1))) (xCalB bLen (xCons (xVar 0) xNil)) (xVar 1)) = X1 at *
    simp [xOr, xNot, c1]
/-! cuts -/
theorem cut_tail (z : Str) : cutS z (some 1) none = mkS (tl z).tail := by
  have hl := len_tl z
  unfold cutS mkS
  congr 2
  have e1 : HT.sIx z.length 0 (some 1) = min 1 z.length := rfl
  have e2 : HT.sIx z.length z.length none = z.length := rfl
  rw [e1, e2]
  show ((tl z).drop (min 1 z.length)).take (z.length - min 1 z.length) = (tl z).tail
  rw [hl]
  cases tl z with
  | nil => rfl
  | cons c r =>
    have e3 : min 1 (c :: r).length = 1 := by simp
    rw [e3]
    simp
theorem cut_head (z : Str) : cutS z none (some 1) = mkS ((tl z).take 1) := by
  have hl := len_tl z
  unfold cutS mkS
  congr 2
  have e1 : HT.sIx z.length z.length (some 1) = min 1 z.length := rfl
  have e2 : HT.sIx z.length 0 none = 0 := rfl
  rw [e1, e2]
  show ((tl z).drop 0).take (min 1 z.length - 0) = (tl z).take 1
  rw [hl, List.drop_zero, Nat.sub_zero]
  cases tl z with
  | nil => rfl
  | cons c r => simp
theorem starts_minus (z : Str) : Txt.startswith z "-" = decide ((tl z).head? = some 45) := by
  have hl := len_tl z
  have e1 : ("-" : Str).length = 1 := by decide +kernel
  have e2 : ("-" : Str).cps.toList = [45] := by decide +kernel
  unfold Txt.startswith
  rw [e1, StrLaws.subAt_eq, e1, e2]
  have e3 : z.cps.toList = tl z := rfl
  rw [e3, hl]
  cases tl z with
  | nil => rfl
  | cons c r =>
    by_cases h : c = 45
    · subst h
      simp
    · simp [h]
theorem head_cut {z : Str} (h : PyData.strOk z = true) (m : Ms) : oNe (.str (cutS z none (some 1))) (.str "-") m = .ok (.bl (!decide ((tl z).head? = some 45))) m := by
  rw [cut_head, minus_is]
  have h1 : Pl 0 (.str (mkS ((tl z).take 1))) := pl_str (ok_sub h fun c hc => List.mem_of_mem_take hc)
  have h2 : Pl 0 (.str (mkS [45])) := pl_str (by decide +kernel)
  unfold oNe
  rw [h1.eqOk, h2.eqOk, Bool.and_self, if_pos rfl]
  have e : PyData.eqv (toP (.str (mkS ((tl z).take 1)))) (toP (.str (mkS [45]))) = decide ((tl z).head? = some 45) := by
    show ((mkS ((tl z).take 1)) == mkS [45]) = _
    rw [Bool.eq_iff_iff, beq_iff_eq, mk_inj, decide_eq_true_eq]
    cases tl z with
    | nil => simp
    | cons c r => simp
  rw [e]
/-! numbers -/
theorem read_number_ok {z : Str} {m : Ms} (hz : z.length ≤ 100000) : s_read_number [.str z, .int 40] m = match numF (tl z) with
    | some x => .ok (.int x) m
    | none => .ex xBad m := by
  have sw := starts_minus z
  have e1 := read_figures_ok (m := m) hz
  have e2 := read_figures_ok (z := mkS (tl z).tail) (m := m) (by rw [mk_len, List.length_tail, ← len_tl]; omega)
  rw [tl_mk] at e2
  have ct := cut_tail z
  have r1 : ∀ σ : Sd, xRaise 1 "BadText" ["at"] (xCons (xVal (.int (0))) xNil) σ m = .ex xBad σ m := fun σ => rfl
  have hz2 : z.length ≤ 100000 := hz
  unfold numF
  by_cases h : (tl z).head? = some 45
  · rw [if_pos h]
    simp only [h, decide_true] at sw
    have sl : oSl (.str z) (some 1) none m = .ok (.str (mkS (tl z).tail)) m := by
      show (if z.length ≤ 100000 then _ else _) = _
      rw [if_pos hz, ct]
    cases ef : figF (tl z).tail with
    | none =>
      rw [ef] at e2
      refine fn_ex (σ' := [some (.str z), some (.int 40), none]) ?_ rfl rfl
      show b_read_number [some (.str z), some (.int 40), none] m = _
      generalize mkS (tl z).tail = z2 at *
      simp [b_read_number, sw, sl, e2]
    | some n =>
      rw [ef] at e2
      by_cases hn : n = 0
      · subst hn
        simp only [if_true]
        refine fn_ex (σ' := [some (.str z), some (.int 40), some (.int 0)]) ?_ rfl rfl
        show b_read_number [some (.str z), some (.int 40), none] m = _
        unfold b_read_number
        generalize xRaise 1 "BadText" ["at"] (xCons (xVal (.int (0))) xNil) = XR at *
        generalize mkS (tl z).tail = z2 at *
        simp [sw, sl, e2, r1]
      · simp only [hn, if_false]
        refine fn_rt' (m' := m) ?_ rfl rfl
        show b_read_number [some (.str z), some (.int 40), none] m = _
        have hn2 : ¬ ((n : Nat) : Int) = 0 := by omega
        unfold b_read_number
        generalize xRaise 1 "BadText" ["at"] (xCons (xVal (.int (0))) xNil) = XR at *
        generalize mkS (tl z).tail = z2 at *
        simp [sw, sl, e2, hn, hn2]
  · rw [if_neg h]
    simp only [h, decide_false] at sw
    cases ef : figF (tl z) with
    | none =>
      rw [ef] at e1
      refine fn_ex (σ' := [some (.str z), some (.int 40), none]) ?_ rfl rfl
      show b_read_number [some (.str z), some (.int 40), none] m = _
      simp [b_read_number, sw, e1]
    | some n =>
      rw [ef] at e1
      refine fn_rt' (m' := m) ?_ rfl rfl
      show b_read_number [some (.str z), some (.int 40), none] m = _
      simp [b_read_number, sw, e1]
theorem l_number_ok {z : Str} {m : Ms} (hz : z.length ≤ 100000) (ho : PyData.strOk z = true) : s_l_number_in [.str z, .int 40] m = .ok (match numF (tl z) with | some x => .int x | none => .non) m := by
  have hc := head_cut ho m
  have e1 := l_figures_ok (m := m) hz
  have e2 := l_figures_ok (z := mkS (tl z).tail) (m := m) (by rw [mk_len, List.length_tail, ← len_tl]; omega)
  rw [tl_mk] at e2
  have ct := cut_tail z
  have sl : oSl (.str z) (some 1) none m = .ok (.str (mkS (tl z).tail)) m := by
    show (if z.length ≤ 100000 then _ else _) = _
    rw [if_pos hz, ct]
  have sl0 : oSl (.str z) none (some 1) m = .ok (.str (cutS z none (some 1))) m := by
    show (if z.length ≤ 100000 then _ else _) = _
    rw [if_pos hz]
  refine fn_rt' (m' := m) ?_ (by cases numF (tl z) <;> rfl) rfl
  show b_l_number_in [some (.str z), some (.int 40), none] m = _
  unfold numF
  by_cases h : (tl z).head? = some 45
  · rw [if_pos h]
    simp only [h, decide_true, Bool.not_true] at hc
    cases ef : figF (tl z).tail with
    | none =>
      rw [ef] at e2
      generalize mkS (tl z).tail = z2 at *
      generalize cutS z none (some 1) = z1 at *
      simp [b_l_number_in, xTest, sl0, hc, sl, e2, oIsN, isN]
    | some n =>
      rw [ef] at e2
      generalize mkS (tl z).tail = z2 at *
      generalize cutS z none (some 1) = z1 at *
      by_cases hn : n = 0
      · subst hn
        simp [b_l_number_in, xTest, sl0, hc, sl, e2, oIsN, isN]
      · have hn2 : ¬ ((n : Nat) : Int) = 0 := by omega
        simp [b_l_number_in, xTest, sl0, hc, sl, e2, oIsN, isN, hn, hn2]
  · rw [if_neg h]
    simp only [h, decide_false, Bool.not_false] at hc
    generalize cutS z none (some 1) = z1 at *
    cases ef : figF (tl z) with
    | none =>
      rw [ef] at e1
      simp [b_l_number_in, xTest, sl0, hc, e1]
    | some n =>
      rw [ef] at e1
      simp [b_l_number_in, xTest, sl0, hc, e1]
/-! parts -/
theorem ne_dP' (p q : Q) (m : Ms) : oNe (dP p) (dP q) m = .ok (.bl (!decide (p = q))) m := by
  have h1 : Pl 1 (dP p) := pl_dP
  have h2 : Pl 1 (dP q) := pl_dP
  unfold oNe
  rw [h1.eqOk, h2.eqOk, Bool.and_self, if_pos rfl]
  have e : PyData.eqv (toP (dP p)) (toP (dP q)) = decide (p = q) := by
    obtain ⟨a, b⟩ := p
    obtain ⟨c, d⟩ := q
    by_cases h1 : a = c <;> by_cases h2 : b = d <;> simp [dP, toP, toPs, PyData.eqv, PyData.eqvAll, h1, h2]
  rw [e]
theorem read_part_ok {z : Str} {m : Ms} (hz : z.length ≤ 100000) (ho : PyData.strOk z = true) : s_read_part [.str z] m = match partInF (tl z) with
    | some q => .ok (dP q) m
    | none => .ex xBad m := by
  have pp := TL.partition_par z "/" (by rw [stroke_is]; decide)
  have es : TL.tl ("/" : Str) = [47] := by decide +kernel
  rw [es] at pp
  have et : TL.tl z = tl z := rfl
  rw [et] at pp
  have l1 : ((("/" : Str)).length == 0) = false := by decide +kernel
  have l2 : ¬ (Str.ofString "/").length = 0 := by decide +kernel
  have q1 : oEq (.str Str.empty) (.str "") m = .ok (.bl true) m := by
    rw [eq_str (by decide +kernel) (by decide +kernel)]
    have : (Str.empty = ("" : Str)) := by decide +kernel
    simp [this]
  have q2 : oEq (.str "/") (.str "") m = .ok (.bl false) m := by
    rw [eq_str (by decide +kernel) (by decide +kernel)]
    have : ¬ (("/" : Str) = ("" : Str)) := by decide +kernel
    simp [this]
  have r1 : ∀ σ : Sd, xRaise 1 "BadText" ["at"] (xCons (xVal (.int (0))) xNil) σ m = .ex xBad σ m := fun σ => rfl
  unfold partInF
  cases ep : TL.par [47] [] (tl z) with
  | none =>
    rw [ep] at pp
    have e1 := read_number_ok (m := m) hz
    have x1 : xPtn (xVar 0) (xVal (.str "/")) [some (.str z), none, none, none, none] m = .ok (.tup [.str z, .str Str.empty, .str Str.empty]) m := by
      simp [l1, l2, hz, pp]
    cases en : numF (tl z) with
    | none =>
      rw [en] at e1
      refine fn_ex (σ' := [some (.str z), none, some (.str z), some (.str Str.empty), some (.str Str.empty)]) ?_ rfl rfl
      show b_read_part [some (.str z), none, none, none, none] m = _
      unfold b_read_part
      generalize xPtn (xVar 0) (xVal (.str "/")) = XP at *
      simp [x1, gT, xTest, q1, e1]
    | some x =>
      rw [en] at e1
      refine fn_rt' (m' := m) ?_ rfl rfl
      show b_read_part [some (.str z), none, none, none, none] m = _
      unfold b_read_part
      generalize xPtn (xVar 0) (xVal (.str "/")) = XP at *
      simp [x1, gT, xTest, q1, e1, dP]
  | some ab =>
    obtain ⟨a, b⟩ := ab
    rw [ep] at pp
    have pp : Txt.partition z "/" = (mkS a, ("/" : Str), mkS b) := pp
    have x1 : xPtn (xVar 0) (xVal (.str "/")) [some (.str z), none, none, none, none] m = .ok (.tup [.str (mkS a), .str "/", .str (mkS b)]) m := by
      simp [l1, l2, hz, pp]
    have la : a.length + b.length ≤ (tl z).length := by
      by_cases h : 47 ∈ tl z
      · obtain ⟨u, v, e, hu⟩ := first_stroke 47 (tl z) h
        have e3 : TL.par [47] [] (u ++ ([47] ++ v)) = some ([] ++ u, v) := TL.par_part1 hu
        rw [e, show u ++ 47 :: v = u ++ ([47] ++ v) from rfl, e3] at ep
        cases ep
        rw [e]
        simp only [List.length_append, List.length_cons, List.nil_append]
        omega
      · rw [TL.par_none1 h] at ep
        cases ep
    rw [← len_tl] at la
    have e1 := read_number_ok (z := mkS a) (m := m) (by rw [mk_len]; omega)
    have e2 := read_figures_ok (z := mkS b) (m := m) (by rw [mk_len]; omega)
    rw [tl_mk] at e1 e2
    simp only
    cases en : numF a with
    | none =>
      rw [en] at e1
      refine fn_ex (σ' := [some (.str z), none, some (.str (mkS a)), some (.str "/"), some (.str (mkS b))]) ?_ rfl rfl
      show b_read_part [some (.str z), none, none, none, none] m = _
      unfold b_read_part
      generalize xPtn (xVar 0) (xVal (.str "/")) = XP at *
      generalize mkS a = za at *
      generalize mkS b = zb at *
      simp [x1, gT, xTest, q2, e1]
    | some x =>
      rw [en] at e1
      cases ef : figF b with
      | none =>
        rw [ef] at e2
        refine fn_ex (σ' := [some (.str z), none, some (.str (mkS a)), some (.str "/"), some (.str (mkS b))]) ?_ rfl rfl
        show b_read_part [some (.str z), none, none, none, none] m = _
        unfold b_read_part
        generalize xPtn (xVar 0) (xVal (.str "/")) = XP at *
        generalize mkS a = za at *
        generalize mkS b = zb at *
        simp [x1, gT, xTest, q2, e1, e2]
      | some y =>
        rw [ef] at e2
        have bx := num_lt en
        have by' : ((y : Nat) : Int).natAbs < 2 ^ 140 := by
          have := fig_lt ef
          have z2 : (10 : Nat) ^ 40 < 2 ^ 140 := by decide
          simp
          omega
        by_cases c : ((y : Nat) : Int) < 2 ∨ lowF x y ≠ (x, (y : Int))
        · simp only [c, if_true]
          refine fn_ex (σ' := [some (.str z), some (.tup [.int x, .int (y : Nat)]), some (.str (mkS a)), some (.str "/"), some (.str (mkS b))]) ?_ rfl rfl
          show b_read_part [some (.str z), none, none, none, none] m = _
          unfold b_read_part
          generalize xRaise 1 "BadText" ["at"] (xCons (xVal (.int (0))) xNil) = XR at *
          generalize xPtn (xVar 0) (xVal (.str "/")) = XP at *
          generalize mkS a = za at *
          generalize mkS b = zb at *
          by_cases c1 : ((y : Nat) : Int) < 2
          · simp [x1, gT, xTest, xOr, q2, e1, e2, c1, r1]
          · have c2 : lowF x y ≠ (x, (y : Int)) := c.resolve_left c1
            have pk := part_ok (n := 140) bx by' (by decide) (by decide) (show ((y : Nat) : Int) ≠ 0 by omega) m
            have nk := ne_dP' (lowF x y) (x, (y : Int)) m
            have nk : oNe (dP (lowF x y)) (.tup [.int x, .int (y : Nat)]) m = .ok (.bl true) m := by
              have : oNe (dP (lowF x y)) (.tup [.int x, .int (y : Nat)]) m = _ := nk
              rw [this]
              simp [c2]
            have hdd : dr m (dP (lowF x y)) = dP (lowF x y) := rfl
            generalize dP (lowF x y) = dq at *
            simp [x1, gT, xTest, xOr, q2, e1, e2, c1, pk, nk, hdd, r1]
        · simp only [c, if_false]
          have c1 : ¬ ((y : Nat) : Int) < 2 := fun z => c (.inl z)
          have c2 : lowF x y = (x, (y : Int)) := Classical.byContradiction fun z => c (.inr z)
          refine fn_rt' (m' := m) ?_ rfl rfl
          show b_read_part [some (.str z), none, none, none, none] m = _
          unfold b_read_part
          have pk := part_ok (n := 140) bx by' (by decide) (by decide) (show ((y : Nat) : Int) ≠ 0 by omega) m
          rw [c2] at pk
          have nk : oNe (.tup [.int x, .int (y : Nat)]) (.tup [.int x, .int (y : Nat)]) m = .ok (.bl false) m := by
            have : oNe (.tup [.int x, .int (y : Nat)]) (.tup [.int x, .int (y : Nat)]) m = _ := ne_dP' (x, (y : Int)) (x, (y : Int)) m
            rw [this]
            simp
          have pk : s_part [.int x, .int (y : Nat)] m = .ok (.tup [.int x, .int (y : Nat)]) m := pk
          generalize xRaise 1 "BadText" ["at"] (xCons (xVal (.int (0))) xNil) = XR at *
          generalize xPtn (xVar 0) (xVal (.str "/")) = XP at *
          generalize mkS a = za at *
          generalize mkS b = zb at *
          simp [x1, gT, xTest, xOr, q2, e1, e2, c1, pk, nk, dP]
theorem split_l {z : Str} : (Txt.split z "/").map tl = TL.spl [47] 0 [] (tl z) := by
  have es : TL.tl ("/" : Str) = [47] := by decide +kernel
  have := TL.split_spl z "/" (by rw [es]; decide) (TL.kind_ok (by decide +kernel))
  rw [es] at this
  exact this
theorem spl_mem {sp : Nat} : ∀ (l acc : List Nat), ∀ p ∈ TL.spl [sp] 0 acc l, (∀ c ∈ p, c ∈ acc ∨ c ∈ l) ∧ p.length ≤ acc.length + l.length
  | [], acc, p, hp => by
    rw [TL.spl_nil] at hp
    rw [List.mem_singleton.mp hp]
    exact ⟨fun c hc => .inl hc, by simp⟩
  | c :: r, acc, p, hp => by
    by_cases h : TL.pre [sp] (c :: r) = true
    · rw [TL.spl_hit h] at hp
      rcases List.mem_cons.mp hp with rfl | hp
      · exact ⟨fun c hc => .inl hc, by simp⟩
      · obtain ⟨h1, h2⟩ := spl_mem r [] p hp
        refine ⟨fun d hd => ?_, by simp at h2 ⊢; omega⟩
        rcases h1 d hd with z | z
        · cases z
        · exact .inr (List.mem_cons_of_mem _ z)
    · rw [TL.spl_miss (by simpa using h)] at hp
      obtain ⟨h1, h2⟩ := spl_mem r (acc ++ [c]) p hp
      refine ⟨fun d hd => ?_, by simp at h2 ⊢; omega⟩
      rcases h1 d hd with z | z
      · rcases List.mem_append.mp z with z | z
        · exact .inl z
        · simp at z; exact .inr (by simp [z])
      · exact .inr (List.mem_cons_of_mem _ z)
theorem spl_ne {sp : Nat} (l acc : List Nat) : TL.spl [sp] 0 acc l ≠ [] := by
  cases l with
  | nil => rw [TL.spl_nil]; simp
  | cons c r =>
    by_cases h : TL.pre [sp] (c :: r) = true
    · rw [TL.spl_hit h]; simp
    · rw [TL.spl_miss (by simpa using h)]
      exact spl_ne r (acc ++ [c])
termination_by l.length
theorem l_part_in_ok {z : Str} {m : Ms} (hz : z.length ≤ 1000) (ho : PyData.strOk z = true) : s_l_part_in [.str z] m = .ok (match partInF (tl z) with | some q => dP q | none => .non) m := by
  have sp := split_l (z := z)
  have hz1 : z.length ≤ 100000 := by omega
  rw [← part_same, ← sp]
  have l2 : ¬ (Str.ofString "/").length = 0 := by decide +kernel
  have x1 : xSpt (xVar 0) (xVal (.str "/")) [some (.str z), none, none, none] m = .ok (.lst ((Txt.split z "/").map .str)) m := by
    simp [l2, hz1]
  have hw : ∀ w ∈ Txt.split z "/", w.length ≤ 1000 ∧ PyData.strOk w = true := fun w hw => by
    have hm : tl w ∈ TL.spl [47] 0 [] (tl z) := by rw [← sp]; exact List.mem_map.mpr ⟨w, hw, rfl⟩
    obtain ⟨h1, h2⟩ := spl_mem (tl z) [] (tl w) hm
    refine ⟨by have a1 := len_tl w; have a2 := len_tl z; simp only [List.length_nil, Nat.zero_add] at h2; omega, ?_⟩
    rw [← mk_tl w]
    exact ok_sub ho fun c hc => by
      rcases h1 c hc with z | z
      · cases z
      · exact z
  have hlen : (Txt.split z "/").length ≤ 100000 := by
    have := PyProof.Rows.split_le z "/"
    omega
  have hne : Txt.split z "/" ≠ [] := fun e => spl_ne (tl z) [] (by rw [← sp, e]; rfl)
  generalize Txt.split z "/" = ws at *
  refine fn_rt' (m' := m) ?_ (by cases partInL (ws.map tl) <;> rfl) rfl
  show b_l_part_in [some (.str z), none, none, none] m = _
  unfold b_l_part_in
  cases ws with
  | nil => exact absurd rfl hne
  | cons w rest =>
    obtain ⟨w1, w2⟩ := hw w (List.mem_cons_self ..)
    have e1 := l_number_ok (m := m) (show w.length ≤ 100000 by omega) w2
    have ix0 : oIx (.lst ((w :: rest).map D.str)) (.int 0) m = .ok (.str w) m := by
      rw [o_ixL]
      unfold atI ixN
      simp
    have hL : ((w :: rest).map D.str).length = rest.length + 1 := by simp
    refine seq_nx (σ1 := [some (.str z), some (.lst ((w :: rest).map D.str)), none, none]) (m1 := m) ?_ ?_
    · generalize xSpt (xVar 0) (xVal (.str "/")) = XP at *
      generalize (w :: rest).map D.str = WL at *
      simp [x1]
    clear x1
    cases en : numF (tl w) with
    | none =>
      rw [en] at e1
      have eo : partInL ((w :: rest).map tl) = none := by
        match rest with
        | [] => simp [partInL, en]
        | [v] => simp [partInL, en]
        | _ :: _ :: _ => rfl
      rw [eo]
      generalize (w :: rest).map D.str = WL at *
      simp [-o_ixL, ix0, e1, xTest, xOr, oIsN, isN]
    | some x =>
      rw [en] at e1
      have bx := num_lt en
      match rest with
      | [] =>
        have eo : partInL (([w] : List Str).map tl) = some (x, 1) := by simp [partInL, en]
        rw [eo]
        simp only [List.length_nil, Nat.zero_add] at hL
        generalize ([w] : List Str).map D.str = WL at *
        simp [-o_ixL, ix0, e1, xTest, xOr, oIsN, isN, hL, dP]
      | [v] =>
        obtain ⟨v1, v2⟩ := hw v (by simp)
        have e2 := l_figures_ok (z := v) (m := m) (by omega)
        have ix1 : oIx (.lst (([w, v] : List Str).map D.str)) (.int 1) m = .ok (.str v) m := by
          rw [o_ixL]
          unfold atI ixN
          simp
        have hL : (([w, v] : List Str).map D.str).length = 2 := by simp
        cases ef : figF (tl v) with
        | none =>
          rw [ef] at e2
          have eo : partInL (([w, v] : List Str).map tl) = none := by simp [partInL, en, ef]
          rw [eo]
          generalize ([w, v] : List Str).map D.str = WL at *
          simp [-o_ixL, ix0, ix1, e1, e2, xTest, xOr, oIsN, isN, hL]
        | some y =>
          rw [ef] at e2
          have by' : ((y : Nat) : Int).natAbs < 2 ^ 140 := by
            have := fig_lt ef
            have z2 : (10 : Nat) ^ 40 < 2 ^ 140 := by decide
            simp
            omega
          have eo : partInL (([w, v] : List Str).map tl) = if ((y : Nat) : Int) < 2 ∨ lowF x y ≠ (x, (y : Int)) then none else some (x, (y : Int)) := by simp only [partInL, List.map_cons, List.map_nil, en, ef]
          rw [eo]
          by_cases c1 : ((y : Nat) : Int) < 2
          · have c : ((y : Nat) : Int) < 2 ∨ lowF x y ≠ (x, (y : Int)) := .inl c1
            rw [if_pos c]
            generalize ([w, v] : List Str).map D.str = WL at *
            simp [-o_ixL, ix0, ix1, e1, e2, xTest, xOr, oIsN, isN, hL, c1]
          · have pk := low_ok (n := 140) bx by' (by decide) (by decide) (show ((y : Nat) : Int) ≠ 0 by omega) m
            have hdd : dr m (dP (lowF x y)) = dP (lowF x y) := rfl
            have nk : oNe (dP (lowF x y)) (.tup [.int x, .int (y : Nat)]) m = .ok (.bl (!decide (lowF x y = (x, (y : Int))))) m := ne_dP' (lowF x y) (x, (y : Int)) m
            by_cases c2 : lowF x y = (x, (y : Int))
            · have c : ¬ (((y : Nat) : Int) < 2 ∨ lowF x y ≠ (x, (y : Int))) := fun z => z.elim c1 fun z => z c2
              rw [if_neg c]
              simp only [c2, decide_true, Bool.not_true] at nk pk hdd
              have nk : oNe (.tup [.int x, .int (y : Nat)]) (.tup [.int x, .int (y : Nat)]) m = .ok (.bl false) m := nk
              have pk : s_l_low [.int x, .int (y : Nat)] m = .ok (.tup [.int x, .int (y : Nat)]) m := pk
              generalize ([w, v] : List Str).map D.str = WL at *
              simp [-o_ixL, ix0, ix1, e1, e2, xTest, xOr, oIsN, isN, hL, c1, pk, nk, dP]
            · have c : ((y : Nat) : Int) < 2 ∨ lowF x y ≠ (x, (y : Int)) := .inr c2
              rw [if_pos c]
              simp only [c2, decide_false, Bool.not_false] at nk
              generalize dP (lowF x y) = dq at *
              generalize ([w, v] : List Str).map D.str = WL at *
              simp [-o_ixL, ix0, ix1, e1, e2, xTest, xOr, oIsN, isN, hL, c1, pk, nk, hdd]
      | v :: u :: r =>
        have eo : partInL ((w :: v :: u :: r).map tl) = none := rfl
        rw [eo]
        have g : (2 : Int) < ((r.length + 1 + 1 + 1 : Nat) : Int) := by omega
        have hL2 : ((w :: v :: u :: r).map D.str).length = r.length + 1 + 1 + 1 := by simp
        have hk : r.length + 1 + 1 + 1 ≤ 100000 := by simpa using hlen
        generalize (w :: v :: u :: r).map D.str = WL at *
        have g2 : (2 : Int) < (r.length : Int) + 1 + 1 + 1 := by omega
        have hk2 : r.length ≤ 99997 := by omega
        simp [-o_ixL, ix0, e1, xTest, xOr, oIsN, isN, hL2, hk, g2]
/-! texts written -/
def sgI (a : Int) : List Nat := if a < 0 then 45 :: TL.numL a.natAbs else TL.numL a.natAbs
theorem tl_int (a : Int) : tl (Str.ofString (toString a)) = sgI a := by
  cases a with
  | ofNat n =>
    have e : ¬ (Int.ofNat n < 0) := by
      have : (0 : Int) ≤ Int.ofNat n := Int.natCast_nonneg n
      omega
    unfold sgI
    rw [if_neg e]
    exact TL.tl_num n
  | negSucc n =>
    have e : Int.negSucc n < 0 := Int.negSucc_lt_zero n
    unfold sgI
    rw [if_pos e]
    have e1 : toString (Int.negSucc n) = "-" ++ toString (((n + 1 : Nat) : Int)) := rfl
    have e2 : (Int.negSucc n).natAbs = n + 1 := rfl
    have h := TL.tl_num (n + 1)
    have t1 : tl (Str.ofString ("-" ++ toString (((n + 1 : Nat) : Int)))) = ("-" ++ toString (((n + 1 : Nat) : Int))).toList.map Char.toNat := TL.tl_ofString _
    have t2 : TL.tl (Str.ofString (toString (((n + 1 : Nat) : Int)))) = (toString (((n + 1 : Nat) : Int))).toList.map Char.toNat := TL.tl_ofString _
    rw [t2] at h
    rw [e1, t1, String.toList_append, List.map_append, h, e2]
    rfl
theorem num_head {n : Nat} (h : 1 ≤ n) : (TL.numL n).head? ≠ some 48 := by
  induction n using Nat.strongRecOn with
  | _ n ih =>
    by_cases h10 : n < 10
    · rw [TL.numL_lt h10]
      simp
      omega
    · have h2 := ih (n / 10) (by omega) (by omega)
      rw [TL.numL_step (by omega)]
      cases e : TL.numL (n / 10) with
      | nil => exact absurd e (TL.numL_ne _)
      | cons c r =>
        rw [e] at h2
        exact h2
theorem fig_num {n : Nat} (h : n < 10 ^ 40) : figF (TL.numL n) = some n := by
  have h1 := TL.numL_len (k := 40) (by decide) h
  have h2 : 1 ≤ (TL.numL n).length := List.length_pos_iff.mpr (TL.numL_ne n)
  unfold figF
  rw [if_pos ⟨h2, h1⟩, if_pos (digits_all (TL.numL_digits n)), if_neg, TL.numL_val]
  rintro ⟨a, b⟩
  by_cases h0 : n = 0
  · subst h0
    rw [TL.numL_lt (by decide)] at a
    simp at a
  · exact num_head (by omega) b
theorem num_ne45 (n : Nat) : (TL.numL n).head? ≠ some 45 := fun h => by
  have : 45 ∈ TL.numL n := List.mem_of_head? h
  have := TL.numL_digits n 45 this
  omega
theorem num_sg {a : Int} (h : a.natAbs < 10 ^ 40) : numF (sgI a) = some a := by
  unfold sgI
  by_cases c : a < 0
  · rw [if_pos c]
    unfold numF
    rw [if_pos (by rfl)]
    simp only [List.tail_cons, fig_num h]
    rw [if_neg (by omega)]
    congr 1
    omega
  · rw [if_neg c]
    unfold numF
    rw [if_neg (num_ne45 _), fig_num h]
    show some ((a.natAbs : Nat) : Int) = some a
    congr 1
    omega
theorem sg_free {a : Int} : 47 ∉ sgI a := by
  unfold sgI
  split
  · intro h
    rcases List.mem_cons.mp h with z | z
    · exact absurd z (by decide)
    · exact TL.numL_free (.inl (by decide)) z
  · exact TL.numL_free (.inl (by decide))
/-- the text of a part -/
def pT (q : Q) : Str := if q.2 = 1 then Str.ofString (toString q.1) else Str.ofString (toString q.1) ++ (Str.ofString "/" ++ Str.ofString (toString q.2))
theorem tl_app (x y : Str) : tl (x ++ y) = tl x ++ tl y := by
  show (x ++ y).cps.toList = _
  rw [Str.cps_append, Array.toList_append]
theorem tl_pT (q : Q) : tl (pT q) = if q.2 = 1 then sgI q.1 else sgI q.1 ++ ([47] ++ sgI q.2) := by
  unfold pT
  split
  · exact tl_int _
  · have : tl (Str.ofString "/") = [47] := by decide +kernel
    rw [tl_app, tl_app, tl_int, tl_int, this]
theorem read_back {q : Q} (h1 : q.1.natAbs < 10 ^ 40) (h2 : q.2.natAbs < 10 ^ 40) (h : Lo q) : partInF (tl (pT q)) = some q := by
  obtain ⟨a, b⟩ := q
  have hb : 0 < b := h.1
  have h1 : a.natAbs < 10 ^ 40 := h1
  have h2 : b.natAbs < 10 ^ 40 := h2
  rw [tl_pT]
  unfold partInF
  by_cases c : b = 1
  · subst c
    rw [if_pos rfl, TL.par_none1 sg_free]
    simp only [num_sg h1]
    rfl
  · rw [if_neg c]
    have e : TL.par [47] [] (sgI a ++ ([47] ++ sgI b)) = some ([] ++ sgI a, sgI b) := TL.par_part1 sg_free
    have eb : sgI b = TL.numL b.natAbs := by
      unfold sgI
      rw [if_neg (by omega)]
    rw [eb] at e
    simp only [eb]
    simp only [e, List.nil_append, num_sg h1, fig_num h2]
    have e2 : ((b.natAbs : Nat) : Int) = b := by omega
    have e3 : lowF a b = (a, b) := lo_lowF h
    rw [e2, if_neg]
    rintro (z | z)
    · omega
    · exact z e3
theorem sg_ok (a : Int) : ∀ c ∈ sgI a, c < 0x110000 := fun c hc => by
  unfold sgI at hc
  split at hc
  · rcases List.mem_cons.mp hc with rfl | z
    · decide
    · have := TL.numL_digits _ c z
      omega
  · have := TL.numL_digits _ c hc
    omega
theorem sg_len {a : Int} (h : a.natAbs < 10 ^ 40) : (sgI a).length ≤ 41 := by
  have := TL.numL_len (k := 40) (by decide) h
  unfold sgI
  split
  · simp; omega
  · omega
theorem pT_ok {q : Q} (h1 : q.1.natAbs < 10 ^ 40) (h2 : q.2.natAbs < 10 ^ 40) : (pT q).length ≤ 100 ∧ PyData.strOk (pT q) = true := by
  have a1 := sg_len h1
  have a2 := sg_len h2
  refine ⟨?_, ?_⟩
  · rw [len_tl, tl_pT]
    split
    · omega
    · simp only [List.length_append, List.length_cons, List.length_nil]
      omega
  · rw [← mk_tl (pT q)]
    refine ok_mk fun c hc => ?_
    rw [tl_pT] at hc
    split at hc
    · exact sg_ok _ c hc
    · rcases List.mem_append.mp hc with z | z
      · exact sg_ok _ c z
      · rcases List.mem_append.mp z with z | z
        · simp at z; omega
        · exact sg_ok _ c z
theorem log_ok {a : Int} (h : a.natAbs < 2 ^ 40) : a.natAbs.log2 < 1900 := by
  by_cases h0 : a.natAbs = 0
  · rw [h0]; decide
  · have := (Nat.log2_lt h0).mpr h
    omega
theorem p40 : (2 : Nat) ^ 40 < 10 ^ 40 := by decide
theorem part_text_ok {q : Q} (h : Gd 40 q) (m : Ms) : s_part_text [dP q] m = .ok (.str (pT q)) m := by
  obtain ⟨⟨h1, h2, h3⟩, hl⟩ := h
  obtain ⟨a, b⟩ := q
  have e1 := log_ok h1
  have e2 := log_ok h2
  have p := p40
  have s1 := sg_len (a := a) (by simp at h1; omega)
  have s2 := sg_len (a := b) (by simp at h2; omega)
  rw [← tl_int, ← len_tl] at s1 s2
  simp only at e1 e2
  refine fn_rt' (m' := m) ?_ rfl rfl
  show b_part_text [some (dP (a, b)), none, none] m = _
  unfold pT
  have l0 : Str.empty ++ Str.ofString (toString a) = Str.ofString (toString a) := by
    show Str.mk _ = _
    have : ∀ z : Str, Str.empty ++ z = z := fun z => by
      have : tl (Str.empty ++ z) = tl z := by rw [tl_app]; rfl
      rw [← mk_tl (Str.empty ++ z), this, mk_tl]
    exact this _
  have l1 : (Str.ofString (toString a) ++ Str.ofString "/") ++ Str.ofString (toString b) = Str.ofString (toString a) ++ (Str.ofString "/" ++ Str.ofString (toString b)) := by
    rw [← mk_tl ((Str.ofString (toString a) ++ Str.ofString "/") ++ Str.ofString (toString b)), ← mk_tl (Str.ofString (toString a) ++ (Str.ofString "/" ++ Str.ofString (toString b)))]
    rw [tl_app, tl_app, tl_app, tl_app, List.append_assoc]
  have k0 : (Str.ofString "/").length = 1 := by decide +kernel
  have k1 : (Str.ofString (toString a) ++ Str.ofString "/").length ≤ 100 := by rw [len_tl, tl_app, List.length_append, ← len_tl, ← len_tl]; omega
  have k2 : (Str.ofString (toString a) ++ (Str.ofString "/" ++ Str.ofString (toString b))).length ≤ 100 := by
    rw [len_tl, tl_app, tl_app, List.length_append, List.length_append, ← len_tl, ← len_tl, ← len_tl]; omega
  have k1' : (Str.ofString (toString a) ++ Str.ofString "/").length ≤ 100000 := by omega
  have k2' : (Str.ofString (toString a) ++ (Str.ofString "/" ++ Str.ofString (toString b))).length ≤ 100000 := by omega
  have s1' : (Str.ofString (toString a)).length ≤ 100000 := by omega
  by_cases c : b = 1
  · subst c
    simp [b_part_text, dP, gT, xTest, e1]
  · simp only [if_neg c]
    generalize hA : Str.ofString (toString a) = A at *
    generalize hB : Str.ofString (toString b) = B at *
    have hA' : Str.ofString a.repr = A := hA
    have hB' : Str.ofString b.repr = B := hB
    simp [b_part_text, dP, gT, xTest, c, e1, e2, hA', hB', l0, l1, k1', k2', s1']
theorem l_part_text_ok {q : Q} (h : Gd 40 q) (m : Ms) : s_l_part_text [dP q] m = .ok (.str (pT q)) m := by
  obtain ⟨⟨h1, h2, h3⟩, hl⟩ := h
  obtain ⟨a, b⟩ := q
  have e1 := log_ok h1
  have e2 := log_ok h2
  have p := p40
  have s1 := sg_len (a := a) (by simp at h1; omega)
  have s2 := sg_len (a := b) (by simp at h2; omega)
  rw [← tl_int, ← len_tl] at s1 s2
  simp only at e1 e2
  refine fn_rt' (m' := m) ?_ rfl rfl
  show b_l_part_text [some (dP (a, b))] m = _
  unfold pT
  have l0 : Str.ofString (toString a) ++ Str.ofString "" = Str.ofString (toString a) := by
    have : tl (Str.ofString (toString a) ++ Str.ofString "") = tl (Str.ofString (toString a)) := by
      rw [tl_app]
      have : tl (Str.ofString "") = [] := by decide +kernel
      rw [this, List.append_nil]
    rw [← mk_tl (Str.ofString (toString a) ++ Str.ofString ""), this, mk_tl]
  have k0 : (Str.ofString "/").length = 1 := by decide +kernel
  have k9 : (Str.ofString "").length = 0 := by decide +kernel
  have k1 : (Str.ofString "/").length + (Str.ofString (toString b)).length ≤ 100000 := by omega
  have k2 : (Str.ofString (toString a)).length + (Str.ofString "/" ++ Str.ofString (toString b)).length ≤ 100000 := by
    rw [len_tl (Str.ofString "/" ++ Str.ofString (toString b)), tl_app, List.length_append, ← len_tl, ← len_tl]; omega
  have k3 : (Str.ofString (toString a)).length + (Str.ofString "").length ≤ 100000 := by omega
  have ad : ∀ x y : Str, x.length + y.length ≤ 100000 → oAdd (.str x) (.str y) m = .ok (.str (x ++ y)) m := fun x y h => by
    show okLen (x.length + y.length) _ = _
    rw [okLen_of h]
  by_cases c : b = 1
  · subst c
    simp only [if_true]
    generalize hA : Str.ofString (toString a) = A at *
    have hA' : Str.ofString a.repr = A := hA
    simp [b_l_part_text, dP, xTest, e1, hA', ad _ _ k3, l0]
  · simp only [if_neg c]
    generalize hA : Str.ofString (toString a) = A at *
    generalize hB : Str.ofString (toString b) = B at *
    have hA' : Str.ofString a.repr = A := hA
    have hB' : Str.ofString b.repr = B := hB
    simp [b_l_part_text, dP, xTest, c, e1, e2, hA', hB', ad _ _ k1, ad _ _ k2]
/-! texts bent -/
theorem rngD_succ (lo : Int) (n : Nat) : rngD lo (n + 1) = .int lo :: rngD (lo + 1) n := by
  unfold rngD
  rw [List.range_succ_eq_map]
  simp [Function.comp_def]
  intro a _
  omega
theorem ok_cut {z : Str} (h : PyData.strOk z = true) (lo hi : Option Int) : PyData.strOk (cutS z lo hi) = true := by
  rw [← mk_tl (cutS z lo hi)]
  exact ok_sub h fun c hc => List.mem_of_mem_drop (List.mem_of_mem_take hc)
theorem ok_app {x y : Str} (hx : PyData.strOk x = true) (hy : PyData.strOk y = true) : PyData.strOk (x ++ y) = true := by
  rw [← mk_tl (x ++ y)]
  refine ok_mk fun c hc => ?_
  rw [tl_app] at hc
  rcases List.mem_append.mp hc with z | z
  · exact ok_tl hx c z
  · exact ok_tl hy c z
theorem app_len (x y : Str) : (x ++ y).length = x.length + y.length := by rw [len_tl, tl_app, List.length_append, ← len_tl, ← len_tl]
theorem bent_ok {b : Int} {ds : Ce} {rest : Ms} {z : Str} {signs : List Str} (h : Box b ds) (hb : b < 900000000) (hz : z.length ≤ 1000) (ho : PyData.strOk z = true) (hs : signs ≠ []) (hs2 : signs.length ≤ 100) (hs3 : ∀ s ∈ signs, s.length ≤ 1 ∧ PyData.strOk s = true) :
    ∃ z' ds', s_l_bent_text [.cel 0, .str z, .lst (signs.map .str)] (ds :: rest) = .ok (.str z') (ds' :: rest) ∧ Box (b + 3) ds' ∧ z'.length ≤ 2 * z.length + 1 ∧ PyData.strOk z' = true := by
  obtain ⟨r1, d1, e1, b1, l1, u1⟩ := draw_ok (many := (z.length : Int) + 1) (rest := rest) h (by omega) (by omega) (by omega)
  obtain ⟨y, d2, e2, b2, hy⟩ := l_of_ok (es := signs.map .str) (rest := rest) b1 (by omega) (by simpa using hs) (by simp; omega) (fun x hx => by
    obtain ⟨s, _, rfl⟩ := List.mem_map.mp hx
    rfl)
  obtain ⟨s, hsm, rfl⟩ := List.mem_map.mp hy
  obtain ⟨k1, k2⟩ := hs3 s hsm
  obtain ⟨r3, d3, e3, b3, l3, u3⟩ := draw_ok (many := 6) (rest := rest) b2 (by omega) (by decide) (by decide)
  have ad : ∀ (x y : Str) (m : Ms), x.length + y.length ≤ 100000 → oAdd (.str x) (.str y) m = .ok (.str (x ++ y)) m := fun x y m h => by
    show okLen (x.length + y.length) _ = _
    rw [okLen_of h]
  have sl : ∀ (lo hi : Option Int) (m : Ms), oSl (.str z) lo hi m = .ok (.str (cutS z lo hi)) m := fun lo hi m => by
    show (if z.length ≤ 100000 then _ else _) = _
    rw [if_pos (by omega)]
  have bl : ∀ m : Ms, bLen [.str z] m = .ok (.int (z.length : Nat)) m := fun m => b_lenS (by omega)
  have c1 := cutS_length z none (some r1)
  have c2 := cutS_length z (some r1) none
  have c3 := cutS_length z (some (r1 + 1)) none
  have o1 := ok_cut ho none (some r1)
  have o2 := ok_cut ho (some r1) none
  have o3 := ok_cut ho (some (r1 + 1)) none
  have sA := fun m => sl none (some r1) m
  have sB := fun m => sl (some r1) none m
  have sC := fun m => sl (some (r1 + 1)) none m
  generalize cutS z none (some r1) = A at *
  generalize hB : cutS z (some r1) none = B at *
  generalize hC : cutS z (some (r1 + 1)) none = C at *
  have key : ∀ k : Nat, k < 6 → ∃ z', (([z, A ++ s ++ B, A ++ C, A ++ s ++ C] : List Str).map D.str ++ ([z ++ s, s ++ z] : List Str).map D.str)[k]? = some (.str z') ∧ z'.length ≤ 2 * z.length + 1 ∧ PyData.strOk z' = true := by
    intro k hk
    match k, hk with
    | 0, _ => exact ⟨z, rfl, by omega, ho⟩
    | 1, _ => exact ⟨A ++ s ++ B, rfl, by rw [app_len, app_len]; omega, ok_app (ok_app o1 k2) o2⟩
    | 2, _ => exact ⟨A ++ C, rfl, by rw [app_len]; omega, ok_app o1 o3⟩
    | 3, _ => exact ⟨A ++ s ++ C, rfl, by rw [app_len, app_len]; omega, ok_app (ok_app o1 k2) o3⟩
    | 4, _ => exact ⟨z ++ s, rfl, by rw [app_len]; omega, ok_app ho k2⟩
    | 5, _ => exact ⟨s ++ z, rfl, by rw [app_len]; omega, ok_app k2 ho⟩
  obtain ⟨z', hk, p1, p2⟩ := key r3.toNat (by omega)
  have ix : ∀ m : Ms, oIx (.lst (([z, A ++ s ++ B, A ++ C, A ++ s ++ C] : List Str).map D.str ++ ([z ++ s, s ++ z] : List Str).map D.str)) (.int r3) m = .ok (.str z') m := fun m => by
    rw [o_ixL]
    unfold atI ixN
    rw [if_pos l3, if_pos (by simp; omega)]
    simp only [Option.bind_some]
    rw [hk]
  refine ⟨z', d3, ?_, b3.mono (by omega), p1, p2⟩
  refine fn_rt' (m' := d3 :: rest) ?_ rfl rfl
  show b_l_bent_text [some (.cel 0), some (.str z), some (.lst (signs.map .str)), none, none, none, none] (ds :: rest) = _
  unfold b_l_bent_text
  have a1 := fun m => ad A s m (by omega)
  have a2 := fun m => ad (A ++ s) B m (by rw [app_len]; omega)
  have a3 := fun m => ad A C m (by omega)
  have a4 := fun m => ad (A ++ s) C m (by rw [app_len]; omega)
  have a5 := fun m => ad z s m (by omega)
  have a6 := fun m => ad s z m (by omega)
  simp only [List.map_cons, List.map_nil] at ix
  generalize signs.map D.str = SG at *
  generalize A ++ s ++ B = X1 at *
  generalize A ++ C = X2 at *
  generalize A ++ s ++ C = X3 at *
  generalize A ++ s = X0 at *
  generalize z ++ s = X4 at *
  generalize s ++ z = X5 at *
  refine seq_nx (σ1 := [some (.cel 0), some (.str z), some (.lst SG), some (.int r1), none, none, none]) (m1 := d1 :: rest) ?_ ?_
  · simp [bl, e1]
  refine seq_nx (σ1 := [some (.cel 0), some (.str z), some (.lst SG), some (.int r1), none, some (.str s), some (.int r3)]) (m1 := d3 :: rest) ?_ ?_
  · simp [e2, e3]
  refine seq_nx (σ1 := [some (.cel 0), some (.str z), some (.lst SG), some (.int r1), some (.lst [.str z, .str X1, .str X2, .str X3]), some (.str s), some (.int r3)]) (m1 := d3 :: rest) ?_ ?_
  · simp [sA, sB, sC, a1, a2, a3, a4]
  · have kl : ([D.str z, D.str X1, D.str X2, D.str X3] ++ [D.str X4, D.str X5]).length ≤ 100000 := by simp
    simp only [List.cons_append, List.nil_append] at ix
    simp [-o_ixL, a5, a6, ix, okLen_of]
/-! arrows -/
def arrInF (l : List Nat) : Option Ar := match TL.spl [44] 0 [] l with
  | [a, b] => match partInF a with
    | none => none
    | some p => match partInF b with
      | none => none
      | some q => some (p, q)
  | _ => none
theorem comma_tl : TL.tl ("," : Str) = [44] := by decide +kernel
theorem split_c {z : Str} : (Txt.split z ",").map tl = TL.spl [44] 0 [] (tl z) := by
  have := TL.split_spl z "," (by rw [comma_tl]; decide) (TL.kind_ok (by decide +kernel))
  rw [comma_tl] at this
  exact this
theorem split_ok {z : Str} (hz : z.length ≤ 1000) (ho : PyData.strOk z = true) : (∀ w ∈ Txt.split z ",", w.length ≤ 1000 ∧ PyData.strOk w = true) ∧ (Txt.split z ",").length ≤ 2000 := by
  have sp := split_c (z := z)
  refine ⟨fun w hw => ?_, ?_⟩
  · have hm : tl w ∈ TL.spl [44] 0 [] (tl z) := by rw [← sp]; exact List.mem_map.mpr ⟨w, hw, rfl⟩
    obtain ⟨h1, h2⟩ := spl_mem (tl z) [] (tl w) hm
    refine ⟨by have a1 := len_tl w; have a2 := len_tl z; simp only [List.length_nil, Nat.zero_add] at h2; omega, ?_⟩
    rw [← mk_tl w]
    exact ok_sub ho fun c hc => by
      rcases h1 c hc with z | z
      · cases z
      · exact z
  · have := PyProof.Rows.split_le z ","
    omega
theorem read_arrow_ok {z : Str} {m : Ms} (hz : z.length ≤ 1000) (ho : PyData.strOk z = true) : s_read_arrow [.str z] m = match arrInF (tl z) with
    | some a => .ok (dA a) m
    | none => .ex xBad m := by
  have sp := split_c (z := z)
  obtain ⟨hw, hl⟩ := split_ok hz ho
  unfold arrInF
  rw [← sp]
  have l2 : ¬ (Str.ofString ",").length = 0 := by decide +kernel
  have hz1 : z.length ≤ 100000 := by omega
  have x1 : xSpt (xVar 0) (xVal (.str ",")) [some (.str z), none, none, none] m = .ok (.lst ((Txt.split z ",").map .str)) m := by
    simp [l2, hz1]
  have r1 : ∀ σ : Sd, xRaise 1 "BadText" ["at"] (xCons (xVal (.int (0))) xNil) σ m = .ex xBad σ m := fun σ => rfl
  generalize Txt.split z "," = ws at *
  by_cases h2 : ws.length = 2
  · match ws, h2 with
    | [u, v], _ =>
    obtain ⟨u1, u2⟩ := hw u (by simp)
    obtain ⟨v1, v2⟩ := hw v (by simp)
    have e1 := read_part_ok (z := u) (m := m) (by omega) u2
    have e2 := read_part_ok (z := v) (m := m) (by omega) v2
    simp only [List.map_cons, List.map_nil] at x1 ⊢
    cases hp : partInF (tl u) with
    | none =>
      rw [hp] at e1
      refine fn_ex (σ' := [some (.str z), some (.lst [.str u, .str v]), some (.str u), some (.str v)]) ?_ rfl rfl
      show b_read_arrow [some (.str z), none, none, none] m = _
      unfold b_read_arrow
      generalize xSpt (xVar 0) (xVal (.str ",")) = XP at *
      generalize xRaise 1 "BadText" ["at"] (xCons (xVal (.int (0))) xNil) = XR at *
      simp [x1, gT, gU, xTest, e1]
    | some p =>
      rw [hp] at e1
      cases hq : partInF (tl v) with
      | none =>
        rw [hq] at e2
        refine fn_ex (σ' := [some (.str z), some (.lst [.str u, .str v]), some (.str u), some (.str v)]) ?_ rfl rfl
        show b_read_arrow [some (.str z), none, none, none] m = _
        unfold b_read_arrow
        generalize xSpt (xVar 0) (xVal (.str ",")) = XP at *
        generalize xRaise 1 "BadText" ["at"] (xCons (xVal (.int (0))) xNil) = XR at *
        generalize dP p = dp at *
        simp [x1, gT, gU, xTest, e1, e2]
      | some q =>
        rw [hq] at e2
        refine fn_rt' (m' := m) ?_ rfl rfl
        show b_read_arrow [some (.str z), none, none, none] m = _
        unfold b_read_arrow
        generalize xSpt (xVar 0) (xVal (.str ",")) = XP at *
        generalize xRaise 1 "BadText" ["at"] (xCons (xVal (.int (0))) xNil) = XR at *
        simp [x1, gT, gU, xTest, e1, e2, dA]
  · have eo : (match ws.map tl with
      | [a, b] => match partInF a with
        | none => none
        | some p => match partInF b with
          | none => none
          | some q => some (p, q)
      | _ => none : Option Ar) = none := by
      match ws, h2 with
      | [], _ => rfl
      | [_], _ => rfl
      | _ :: _ :: _ :: _, _ => rfl
    rw [eo]
    have hk : (ws.map D.str).length = ws.length := List.length_map ..
    have hk2 : ws.length ≤ 100000 := by omega
    refine fn_ex (σ' := [some (.str z), some (.lst (ws.map .str)), none, none]) ?_ rfl rfl
    show b_read_arrow [some (.str z), none, none, none] m = _
    unfold b_read_arrow
    generalize xSpt (xVar 0) (xVal (.str ",")) = XP at *
    generalize xRaise 1 "BadText" ["at"] (xCons (xVal (.int (0))) xNil) = XR at *
    have h3 : ¬ ((ws.length : Nat) : Int) = 2 := by omega
    generalize ws.map D.str = WL at *
    simp [x1, xTest, hk, hk2, h3, r1]
theorem lc_parts {σ : Sd} {m : Ms} (h2 : 2 < σ.length) : ∀ ws : List Str, (∀ w ∈ ws, w.length ≤ 1000 ∧ PyData.strOk w = true) → lcL finL (gN 2) xYes v_l_arrow_in_1 σ (ws.map .str) m [] = finL m (ws.map fun w => match partInF (tl w) with | some q => dP q | none => .non) := fun ws hw => by
  have := lcL_map (fin := finL) (g := gN 2) (e := v_l_arrow_in_1) (σ := σ) (m := m) (F := fun d => match d with | .str w => (match partInF (tl w) with | some q => dP q | none => .non) | _ => .non) (ws.map .str) [] (fun d hd => by
    obtain ⟨w, hm, rfl⟩ := List.mem_map.mp hd
    obtain ⟨a1, a2⟩ := hw w hm
    refine ⟨σ.set 2 (some (.str w)), rfl, ?_⟩
    have g2 : (σ.set 2 (some (.str w)))[2]? = some (some (.str w)) := by simp [h2]
    have e := l_part_in_ok (m := m) a1 a2
    simp [v_l_arrow_in_1, ev_var g2]
    exact e)
  rw [this]
  simp [Function.comp_def]
def oD (o : Option Q) : D := match o with | some q => dP q | none => .non
theorem inS_two (A B : Option Q) (m : Ms) : oInS .non (.lst [oD A, oD B]) m = .ok (.bl (A.isNone || B.isNone)) m := by
  have pl : ∀ o, Pl 1 (oD o) := fun o => by
    cases o with
    | some q => exact pl_dP
    | none => exact pl_non
  have h1 : Pl 2 (.lst [oD A, oD B]) := pl_lst (by simp) fun y hy => by
    simp at hy
    rcases hy with rfl | rfl
    · exact pl A
    · exact pl B
  have h2 : eqOk .non = true := (pl_non (n := 0)).eqOk
  have h3 : okIn .non (.lst [oD A, oD B]) = true := by
    unfold okIn
    rw [h2, h1.eqOk]
    rfl
  unfold oInS
  simp only [h3, if_true]
  cases A <;> cases B <;> rfl
theorem l_arrow_in_ok {z : Str} {m : Ms} (hz : z.length ≤ 1000) (ho : PyData.strOk z = true) : s_l_arrow_in [.str z] m = .ok (match arrInF (tl z) with | some a => dA a | none => .non) m := by
  have sp := split_c (z := z)
  obtain ⟨hw, hl⟩ := split_ok hz ho
  unfold arrInF
  rw [← sp]
  have l2 : ¬ (Str.ofString ",").length = 0 := by decide +kernel
  have hz1 : z.length ≤ 100000 := by omega
  have lc := lc_parts (σ := [some (.str z), none, none]) (m := m) (by simp) (Txt.split z ",") hw
  have x1 : xSpt (xVar 0) (xVal (.str ",")) [some (.str z), none, none] m = .ok (.lst ((Txt.split z ",").map .str)) m := by
    simp [l2, hz1]
  have hk0 : ((Txt.split z ",").map D.str).length ≤ 100000 := by rw [List.length_map]; omega
  have st : xAsg (gN 1) (xLc (xIt (xSpt (xVar 0) (xVal (.str ",")))) (gN 2) xYes v_l_arrow_in_1 [2]) [some (.str z), none, none] m = .nx [some (.str z), some (.lst ((Txt.split z ",").map fun w => match partInF (tl w) with | some q => dP q | none => .non)), none] m := by
    generalize xSpt (xVar 0) (xVal (.str ",")) = XP at *
    generalize (Txt.split z ",").map D.str = WL at *
    generalize ((Txt.split z ",").map fun w => match partInF (tl w) with | some q => dP q | none => D.non) = RL at *
    simp [x1, hk0, wipeD, lc, finL]
  clear lc x1 hk0
  generalize Txt.split z "," = ws at *
  by_cases h2 : ws.length = 2
  · match ws, h2 with
    | [u, v], _ =>
    simp only [List.map_cons, List.map_nil] at st ⊢
    have i2 := inS_two (partInF (tl u)) (partInF (tl v)) m
    have kl : ∀ a b : D, ([a, b] : List D).length = 2 := fun _ _ => rfl
    cases hp : partInF (tl u) with
    | none =>
      rw [hp] at st i2
      refine fn_rt' (m' := m) ?_ rfl rfl
      show b_l_arrow_in [some (.str z), none, none] m = _
      unfold b_l_arrow_in
      refine seq_nx st ?_
      simp only [oD, Option.isNone_none, Bool.true_or] at i2
      generalize (match partInF (tl v) with | some q => dP q | none => D.non) = T at *
      have i2 : oInS .non (.lst [.non, T]) m = .ok (.bl true) m := i2
      simp [xTest, xOr, i2]
    | some p =>
      rw [hp] at st i2
      cases hq : partInF (tl v) with
      | none =>
        rw [hq] at st i2
        refine fn_rt' (m' := m) ?_ rfl rfl
        show b_l_arrow_in [some (.str z), none, none] m = _
        unfold b_l_arrow_in
        refine seq_nx st ?_
        have i2 : oInS .non (.lst [dP p, .non]) m = .ok (.bl true) m := i2
        simp only
        generalize dP p = dp at *
        simp [xTest, xOr, i2]
      | some q =>
        rw [hq] at st i2
        refine fn_rt' (m' := m) ?_ rfl rfl
        show b_l_arrow_in [some (.str z), none, none] m = _
        unfold b_l_arrow_in
        refine seq_nx st ?_
        have i2 : oInS .non (.lst [dP p, dP q]) m = .ok (.bl false) m := i2
        have ix0 : oIx (.lst [dP p, dP q]) (.int 0) m = .ok (dP p) m := by
          rw [o_ixL]
          unfold atI ixN
          simp
        have ix1 : oIx (.lst [dP p, dP q]) (.int 1) m = .ok (dP q) m := by
          rw [o_ixL]
          unfold atI ixN
          simp
        show _ = O.rt (.tup [dP p, dP q]) m
        simp [-o_ixL, xTest, xOr, i2, ix0, ix1]
  · have eo : (match ws.map tl with
      | [a, b] => match partInF a with
        | none => none
        | some p => match partInF b with
          | none => none
          | some q => some (p, q)
      | _ => none : Option Ar) = none := by
      match ws, h2 with
      | [], _ => rfl
      | [_], _ => rfl
      | _ :: _ :: _ :: _, _ => rfl
    rw [eo]
    have hk : (ws.map fun w => match partInF (tl w) with | some q => dP q | none => D.non).length = ws.length := List.length_map ..
    have hk2 : ws.length ≤ 100000 := by omega
    refine fn_rt' (m' := m) ?_ rfl rfl
    show b_l_arrow_in [some (.str z), none, none] m = _
    unfold b_l_arrow_in
    refine seq_nx st ?_
    have h3 : ¬ ((ws.length : Nat) : Int) = 2 := by omega
    generalize (ws.map fun w => match partInF (tl w) with | some q => dP q | none => D.non) = WL at *
    simp [xTest, xOr, hk, hk2, h3]
/-! written -/
def aT (a : Ar) : Str := pT a.1 ++ Str.ofString "," ++ pT a.2
theorem comma_tl' : tl (Str.ofString ",") = [44] := comma_tl
theorem pT_free (q : Q) : 44 ∉ tl (pT q) := by
  have sg : ∀ a : Int, 44 ∉ sgI a := fun a => by
    unfold sgI
    split
    · intro h
      rcases List.mem_cons.mp h with z | z
      · exact absurd z (by decide)
      · exact TL.numL_free (.inl (by decide)) z
    · exact TL.numL_free (.inl (by decide))
  rw [tl_pT]
  split
  · exact sg _
  · intro h
    rcases List.mem_append.mp h with z | z
    · exact sg _ z
    · rcases List.mem_append.mp z with z | z
      · simp at z
      · exact sg _ z
theorem small40 {q : Q} (h : Gd 40 q) : q.1.natAbs < 10 ^ 40 ∧ q.2.natAbs < 10 ^ 40 := by
  have p := p40
  have h1 := h.1.1
  have h2 := h.1.2.1
  omega
theorem read_back_a {a : Ar} (h1 : Gd 40 a.1) (h2 : Gd 40 a.2) : arrInF (tl (aT a)) = some a := by
  obtain ⟨p, q⟩ := a
  have s1 := small40 h1
  have s2 := small40 h2
  have e : tl (aT (p, q)) = tl (pT p) ++ ([44] ++ tl (pT q)) := by
    unfold aT
    rw [tl_app, tl_app, comma_tl', List.append_assoc]
  have e1 : TL.spl [44] 0 [] (tl (pT p) ++ ([44] ++ tl (pT q))) = ([] ++ tl (pT p)) :: TL.spl [44] 0 [] (tl (pT q)) := TL.spl_part1 (pT_free p)
  have e2 : TL.spl [44] 0 [] (tl (pT q)) = [[] ++ tl (pT q)] := TL.spl_last1 (pT_free q)
  unfold arrInF
  rw [e, e1, e2, List.nil_append, List.nil_append]
  simp only [read_back s1.1 s1.2 h1.2, read_back s2.1 s2.2 h2.2]
theorem aT_ok {a : Ar} (h1 : Gd 40 a.1) (h2 : Gd 40 a.2) : (aT a).length ≤ 201 ∧ PyData.strOk (aT a) = true := by
  have s1 := small40 h1
  have s2 := small40 h2
  obtain ⟨a1, a2⟩ := pT_ok s1.1 s1.2
  obtain ⟨b1, b2⟩ := pT_ok s2.1 s2.2
  have c1 : (Str.ofString ",").length = 1 := by decide +kernel
  have c2 : PyData.strOk (Str.ofString ",") = true := by decide +kernel
  unfold aT
  exact ⟨by rw [app_len, app_len]; omega, ok_app (ok_app a2 c2) b2⟩
theorem arrow_text_ok {a : Ar} (h1 : Gd 40 a.1) (h2 : Gd 40 a.2) (m : Ms) : s_arrow_text [dA a] m = .ok (.str (aT a)) m := by
  obtain ⟨p, q⟩ := a
  have s1 := small40 h1
  have s2 := small40 h2
  have k := (aT_ok h1 h2).1
  have e1 := part_text_ok h1 m
  have e2 := part_text_ok h2 m
  obtain ⟨a1, a2⟩ := pT_ok s1.1 s1.2
  obtain ⟨b1, b2⟩ := pT_ok s2.1 s2.2
  unfold aT at *
  simp only at *
  have l0 : Str.empty ++ pT p = pT p := by
    have : tl (Str.empty ++ pT p) = tl (pT p) := by rw [tl_app]; rfl
    rw [← mk_tl (Str.empty ++ pT p), this, mk_tl]
  have c1 : (Str.ofString ",").length = 1 := by decide +kernel
  have k0 : (pT p).length ≤ 100000 := by omega
  have k9 : (pT q).length ≤ 100000 := by omega
  have k1 : (pT p ++ Str.ofString ",").length ≤ 100000 := by rw [app_len]; omega
  have k2 : (pT p ++ Str.ofString "," ++ pT q).length ≤ 100000 := by omega
  refine fn_rt' (m' := m) ?_ rfl rfl
  show b_arrow_text [some (.tup [dP p, dP q])] m = _
  generalize pT p = A at *
  generalize pT q = B at *
  generalize dP p = dp at *
  generalize dP q = dq at *
  simp [b_arrow_text, e1, e2, l0, k0, k1, k2, k9]
theorem l_arrow_text_ok {a : Ar} (h1 : Gd 40 a.1) (h2 : Gd 40 a.2) (m : Ms) : s_l_arrow_text [dA a] m = .ok (.str (aT a)) m := by
  obtain ⟨p, q⟩ := a
  have s1 := small40 h1
  have s2 := small40 h2
  have e1 := l_part_text_ok h1 m
  have e2 := l_part_text_ok h2 m
  obtain ⟨a1, a2⟩ := pT_ok s1.1 s1.2
  obtain ⟨b1, b2⟩ := pT_ok s2.1 s2.2
  unfold aT
  simp only at *
  have c1 : (Str.ofString ",").length = 1 := by decide +kernel
  have ad : ∀ (x y : Str) (m : Ms), x.length + y.length ≤ 100000 → oAdd (.str x) (.str y) m = .ok (.str (x ++ y)) m := fun x y m h => by
    show okLen (x.length + y.length) _ = _
    rw [okLen_of h]
  have k1 := fun m => ad (pT p) (Str.ofString ",") m (by omega)
  have k2 := fun m => ad (pT p ++ Str.ofString ",") (pT q) m (by rw [app_len]; omega)
  refine fn_rt' (m' := m) ?_ rfl rfl
  show b_l_arrow_text [some (.tup [dP p, dP q])] m = _
  generalize pT p = A at *
  generalize pT q = B at *
  generalize dP p = dp at *
  generalize dP q = dq at *
  simp [b_l_arrow_text, e1, e2, k1, k2]
/-- bent up to twice -/
theorem bents {x o2 o3 o4 o7 : Option D} {rest : Ms} : ∀ (n : Nat) (k : Int) (z : Str) (o6 : Option D) (b : Int) (ds : Ce) (c : Nat), Box b ds → b + 3 * n < 900000000 → z.length + 1 ≤ c → 2 ^ n * c ≤ 1000 → PyData.strOk z = true →
    ∃ z' p6 ds', forL (gN 6) w_law_1 (rngD k n) [x, some (.cel 0), o2, o3, o4, some (.str z), o6, o7] (ds :: rest) = .nx [x, some (.cel 0), o2, o3, o4, some (.str z'), p6, o7] (ds' :: rest) ∧ Box (b + 3 * n) ds' ∧ z'.length ≤ 1000 ∧ PyData.strOk z' = true
  | 0, k, z, o6, b, ds, c, hB, _, hz, hc, ho => ⟨z, o6, ds, rfl, by simpa using hB, by omega, ho⟩
  | n + 1, k, z, o6, b, ds, c, hB, hb, hz, hc, ho => by
    have hc2 : 2 ^ n * (2 * c) ≤ 1000 := by rw [← Nat.mul_assoc, ← Nat.pow_succ]; exact hc
    have hc3 : c ≤ 1000 := by
      have : 1 * c ≤ 2 ^ (n + 1) * c := Nat.mul_le_mul_right c (Nat.one_le_two_pow)
      omega
    obtain ⟨z1, d1, e1, b1, l1, o1⟩ := bent_ok (rest := rest) (signs := ["0", "1", "-", "/", " ", ",", "", "a"]) hB (by omega) (show z.length ≤ 1000 by omega) ho (by simp) (by simp) (by decide +kernel)
    obtain ⟨z', p6, d2, e2, b2, l2, o2'⟩ := bents (x := x) (o2 := o2) (o3 := o3) (o4 := o4) (o7 := o7) (rest := rest) n (k + 1) z1 (some (.int k)) (b + 3) d1 (2 * c) b1 (by omega) (by omega) hc2 o1
    refine ⟨z', p6, d2, ?_, b2.mono (by omega), l2, o2'⟩
    rw [rngD_succ, forL_cons]
    have hg : gN 6 (.int k) [x, some (.cel 0), o2, o3, o4, some (.str z), o6, o7] (ds :: rest) = some ([x, some (.cel 0), o2, o3, o4, some (.str z), some (.int k), o7], ds :: rest) := rfl
    rw [hg]
    simp only
    have e1 : s_l_bent_text [.cel 0, .str z, .lst [.str "0", .str "1", .str "-", .str "/", .str " ", .str ",", .str "", .str "a"]] (ds :: rest) = .ok (.str z1) (d1 :: rest) := e1
    have hw : w_law_1 [x, some (.cel 0), o2, o3, o4, some (.str z), some (.int k), o7] (ds :: rest) = .nx [x, some (.cel 0), o2, o3, o4, some (.str z1), some (.int k), o7] (d1 :: rest) := by
      unfold w_law_1
      simp [e1]
    rw [hw]
    exact e2
theorem told_ok {σ : Sd} {M : Ms} {z : Str} {y : Fn D} (hy : y = xCal (fun ds es => sel [.p 0] ds [] es) s_read_arrow (xCons (xVar 5) xNil) xNil) (h5 : σ[5]? = some (some (.str z))) (hz : z.length ≤ 1000) (ho : PyData.strOk z = true) :
    xTry nCx hdx y σ M = .ok (match arrInF (tl z) with | some a => .tup [.str (Str.ofString "told"), dA a] | none => .tup [.str (Str.ofString "BadText"), .int 0]) M := by
  have e := read_arrow_ok (z := z) (m := M) hz ho
  have v5 : xVar 5 σ M = .ok (.str z) M := ev_var h5
  subst hy
  cases hp : arrInF (tl z) with
  | some a =>
    rw [hp] at e
    exact try_ok (by simp [v5, e])
  | none =>
    rw [hp] at e
    exact try_ex (x := xBad) (by simp [v5, e]) (by show 1 < 2; decide) rfl (by simp)
theorem turn_ok {x : D} (o : List (Option D)) (b : Int) (ds : Ce) (rest : Ms) (ho : o.length = 6) (h : Box b ds) (h0 : 0 ≤ b) (hb : b < 600000000) :
    ∃ o' ds' rest', (w_law_2 (some x :: some (.cel 0) :: o) (ds :: rest) = .nx (some x :: some (.cel 0) :: o') (ds' :: rest') ∨ w_law_2 (some x :: some (.cel 0) :: o) (ds :: rest) = .ct (some x :: some (.cel 0) :: o') (ds' :: rest')) ∧ o'.length = 6 ∧ Box (b + 1000) ds' := by
  obtain ⟨q, d0, e0, b0, g0⟩ := l_part_ok (rest := rest) h (by omega)
  obtain ⟨q', d1, e1, b1, g1⟩ := l_part_ok (rest := rest) b0 (by omega)
  obtain ⟨t1, t2⟩ := aT_ok (a := (q, q')) g0 g1
  have e2 := l_arrow_text_ok (a := (q, q')) g0 g1 (d1 :: rest)
  have e3 := arrow_text_ok (a := (q, q')) g0 g1 (d1 :: rest)
  have e4 := read_arrow_ok (z := aT (q, q')) (m := d1 :: rest) (by omega) t2
  rw [read_back_a (a := (q, q')) g0 g1] at e4
  simp only at e4
  have lk1 : s_l_like 6 [.lst [.str (aT (q, q')), dA (q, q')], .lst [.str (aT (q, q')), dA (q, q')]] (d1 :: rest) = .ok (.bl true) (d1 :: rest) := like_self (n := 4) (pl_lst (by simp) fun y hy => by
    simp at hy
    rcases hy with rfl | rfl
    · exact pl_str t2
    · exact pl_dA)
  obtain ⟨r, d2, e5, b2, l2, u2⟩ := draw_ok (many := 3) (rest := rest) b1 (by omega) (by decide) (by decide)
  match o, ho with
  | [o2, o3, o4, o5, o6, o7], _ =>
  obtain ⟨z2, p6, d4, e6, b4, l4, k4⟩ := bents (x := some x) (o2 := o2) (o3 := o3) (o4 := some (dA (q, q'))) (o7 := o7) (rest := rest) r.toNat 0 (aT (q, q')) o6 _ d2 202 b2 (by omega) (by omega) (by
    have : r.toNat ≤ 2 := by omega
    have h3 : 2 ^ r.toNat ≤ 2 ^ 2 := Nat.pow_le_pow_right (by decide) this
    have h4 : 2 ^ r.toNat * 202 ≤ 2 ^ 2 * 202 := Nat.mul_le_mul_right _ h3
    omega) t2
  have e8 := l_arrow_in_ok (m := d4 :: rest) l4 k4
  obtain ⟨T, hT⟩ : ∃ T : D, (match arrInF (tl z2) with | some a => dA a | none => .non) = T := ⟨_, rfl⟩
  have e8 : s_l_arrow_in [.str z2] (d4 :: rest) = .ok T (d4 :: rest) := by
    rw [← hT]
    exact e8
  refine ⟨[o2, o3, some (dA (q, q')), some (.str z2), p6, some T], d4, rest, .inl ?_, rfl, b4.mono (by omega)⟩
  have e9 := told_ok (σ := [some x, some (.cel 0), o2, o3, some (dA (q, q')), some (.str z2), p6, some T]) (M := d4 :: rest) (y := y_law_1) rfl rfl l4 k4
  have ed : D.tup [dP q, dP q'] = dA (q, q') := rfl
  unfold w_law_2
  refine seq_nx (σ1 := [some x, some (.cel 0), o2, o3, some (dA (q, q')), o5, o6, o7]) (m1 := d1 :: rest) ?_ ?_
  · rw [← ed]
    generalize dP q = dq at *
    generalize dP q' = dq' at *
    simp [e0, e1]
  clear ed
  refine seq_nx (σ1 := [some x, some (.cel 0), o2, o3, some (dA (q, q')), some (.str (aT (q, q'))), o6, o7]) (m1 := d1 :: rest) ?_ ?_
  · generalize dA (q, q') = dq at *
    simp [e2]
  refine seq_nx (σ1 := [some x, some (.cel 0), o2, o3, some (dA (q, q')), some (.str (aT (q, q'))), o6, o7]) (m1 := d1 :: rest) ?_ ?_
  · have hdd : dr (d1 :: rest) (dA (q, q')) = dA (q, q') := rfl
    generalize dA (q, q') = dq at *
    simp [e3, e4, lk1, hdd]
  refine seq_nx (σ1 := [some x, some (.cel 0), o2, o3, some (dA (q, q')), some (.str z2), p6, o7]) (m1 := d4 :: rest) ?_ ?_
  · have h3 : r ≤ 100000 := by omega
    have h4 : -100000 ≤ r := by omega
    generalize dA (q, q') = dq at *
    simp [e5, h3, h4, e6]
  refine seq_nx (σ1 := [some x, some (.cel 0), o2, o3, some (dA (q, q')), some (.str z2), p6, some T]) (m1 := d4 :: rest) ?_ ?_
  · generalize dA (q, q') = dq at *
    simp [e8]
  · generalize dA (q, q') = dq at *
    cases hp : arrInF (tl z2) with
    | none =>
      rw [hp] at e9 hT
      have hT : D.non = T := hT
      subst hT
      have lk : s_l_like 6 [.tup [.str (Str.ofString "BadText"), .int 0], .tup [.str (Str.ofString "BadText"), .int 0]] (d4 :: rest) = .ok (.bl true) (d4 :: rest) := like_self (n := 1) (pl_tup (by simp) fun y hy => by
        simp at hy
        rcases hy with rfl | rfl
        · exact pl_str (by decide +kernel)
        · exact pl_int)
      simp only at e9
      generalize xTry nCx hdx y_law_1 = XT at *
      simp [e9, lk, xTest, oIsN, isN]
    | some a' =>
      rw [hp] at e9 hT
      have hT : dA a' = T := hT
      subst hT
      have lk : s_l_like 6 [.tup [.str (Str.ofString "told"), dA a'], .tup [.str (Str.ofString "told"), dA a']] (d4 :: rest) = .ok (.bl true) (d4 :: rest) := like_self (n := 4) (pl_tup (by simp) fun y hy => by
        simp at hy
        rcases hy with rfl | rfl
        · exact pl_str (by decide +kernel)
        · exact pl_dA)
      have hdd : dr (d4 :: rest) (dA a') = dA a' := rfl
      have nn : oIsN (dA a') .non (d4 :: rest) = .ok (.bl false) (d4 :: rest) := rfl
      simp only at e9
      generalize xTry nCx hdx y_law_1 = XT at *
      generalize dA a' = dq' at *
      simp [e9, lk, xTest, hdd, nn]
def S41 : Str := strRep "7" 41
def oddT : List Str := ["1_0,2", "1,2\n", "1\n,2", S41 ++ ",0", "0," ++ S41]
theorem odd_ok {σ : Sd} {M : Ms} (hl : σ.length = 8) : lcL finL (gN 5) xYes v_law_1 σ (oddT.map .str) M [] = finL M (List.replicate 5 (.tup [.str (Str.ofString "BadText"), .int 0])) := by
  have all : ∀ z ∈ oddT, z.length ≤ 1000 ∧ PyData.strOk z = true ∧ arrInF (tl z) = none := by decide +kernel
  have := lcL_map (fin := finL) (g := gN 5) (e := v_law_1) (σ := σ) (m := M) (F := fun _ => .tup [.str (Str.ofString "BadText"), .int 0]) (oddT.map .str) [] (fun d hd => by
    obtain ⟨z, hz, rfl⟩ := List.mem_map.mp hd
    obtain ⟨a1, a2, a3⟩ := all z hz
    refine ⟨σ.set 5 (some (.str z)), rfl, ?_⟩
    have g5 : (σ.set 5 (some (.str z)))[5]? = some (some (.str z)) := by simp [hl]
    have := told_ok (M := M) (y := y_law_2) rfl g5 a1 a2
    rw [a3] at this
    exact this)
  rw [this]
  rfl
theorem LAW (ns : List Int) (_ : ns.length ≤ 63) : trueR (s_law [.lck (ns.map .int)] []) := by
  obtain ⟨d0, eb, B0⟩ := box_ok ns
  obtain ⟨o', ds, rest, e, ho, _⟩ := turnsR (x := .lck (ns.map .int)) (w := w_law_2) (N := 6) (n := 6) (B := 1000) (by decide) (by decide) turn_ok (o := List.replicate 6 none) (by simp) (rest := []) B0
  match o', ho, e with
  | [p2, p3, p4, p5, p6, p7], _, e =>
  have key : s_law [.lck (ns.map .int)] [] = .ok (.bl true) [] := by
    have od := odd_ok (σ := [some (.lck (ns.map .int)), some (.cel 0), p2, some (.lst (oddT.map .str)), p4, none, p6, p7]) (M := ds :: rest) rfl
    have od : lcL finL (gN 5) xYes v_law_1 [some (.lck (ns.map .int)), some (.cel 0), p2, some (.lst (oddT.map .str)), p4, none, p6, p7] (oddT.map .str) (ds :: rest) [] = .ok (.lst (List.replicate 5 (.tup [.str (Str.ofString "BadText"), .int 0]))) (ds :: rest) := od
    have mu : oMul (.lst [.tup [.str "BadText", .int 0]]) (.int 5) (ds :: rest) = .ok (.lst (List.replicate 5 (.tup [.str (Str.ofString "BadText"), .int 0]))) (ds :: rest) := rfl
    have eqq : oEq (.lst (List.replicate 5 (.tup [.str (Str.ofString "BadText"), .int 0]))) (.lst (List.replicate 5 (.tup [.str (Str.ofString "BadText"), .int 0]))) (ds :: rest) = .ok (.bl true) (ds :: rest) := eq_self (n := 3) (pl_lst (by simp) fun y hy => by
      rw [List.eq_of_mem_replicate hy]
      exact pl_tup (by simp) fun w hw => by
        simp at hw
        rcases hw with rfl | rfl
        · exact pl_str (by decide +kernel)
        · exact pl_int)
    have m41 : ∀ m : Ms, oMul (.str "7") (.int 41) m = .ok (.str S41) m := fun m => by
      have hr : repOk "7" 41 = true := by decide +kernel
      show (if (41 : Int) = 0 ∨ (41 : Int) = 1 then R.ok (D.str (if (41 : Int) = 0 then Str.empty else "7")) m else if repOk "7" 41 = true then R.ok (D.str (strRep "7" (41 : Int).toNat)) m else (R.bad : R D)) = _
      rw [if_neg (by decide), if_pos hr]
      rfl
    have ad : ∀ (x y : Str) (m : Ms), x.length + y.length ≤ 100000 → oAdd (.str x) (.str y) m = .ok (.str (x ++ y)) m := fun x y m h => by
      show okLen (x.length + y.length) _ = _
      rw [okLen_of h]
    have ad1 := fun m => ad S41 ",0" m (by decide +kernel)
    have ad2 := fun m => ad "0," S41 m (by decide +kernel)
    have eo : oddT.map D.str = [.str "1_0,2", .str "1,2\n", .str "1\n,2", .str (S41 ++ ",0"), .str ("0," ++ S41)] := rfl
    have ol : (oddT.map D.str).length ≤ 100000 := by decide
    refine fn_rt (m' := ds :: rest) ?_ rfl
    show b_law [some (.lck (ns.map .int)), none, none, none, none, none, none, none] [] = _
    unfold b_law
    generalize List.replicate 5 (D.tup [.str (Str.ofString "BadText"), .int 0]) = BT at *
    refine seq_nx (σ1 := [some (.lck (ns.map .int)), some (.cel 0), none, none, none, none, none, none]) (m1 := [d0]) ?_ ?_
    · simp [eb]
    refine seq_nx (σ1 := [some (.lck (ns.map .int)), some (.cel 0), p2, p3, p4, p5, p6, p7]) (m1 := ds :: rest) ?_ ?_
    · simp at e
      simp [e]
    refine seq_nx (σ1 := [some (.lck (ns.map .int)), some (.cel 0), p2, some (.lst (oddT.map .str)), p4, p5, p6, p7]) (m1 := ds :: rest) ?_ ?_
    · rw [eo]
      generalize S41 ++ Str.ofString ",0" = Y1 at *
      generalize Str.ofString "0," ++ S41 = Y2 at *
      simp [m41, ad1, ad2]
    · generalize oddT.map D.str = OT at *
      simp [wipeD, od, mu, eqq, ol]
  rw [key]
  trivial
end Law
/-! names taken: the head's trees and heaps get no twins of their own (these hold most of the compiled file) -/
def PySem.W.Fast.tw3669491148495068519 : Nat := 0
def PySem.W.Fast.tw1450237166600195407 : Nat := 0
def PySem.W.Fast.tw1335503069113485469 : Nat := 0
def PySem.W.Fast.tw14720234232682426203 : Nat := 0
def PySem.W.Fast.tw2837956604498500725 : Nat := 0
def PySem.W.Fast.tw5247564428267843558 : Nat := 0
def PySem.W.Fast.tw5672247647637242974 : Nat := 0
def PySem.W.Fast.tw13131065551058978035 : Nat := 0
def PySem.W.Fast.tw18106016081473728553 : Nat := 0
def PySem.W.Fast.tw5901433117874610137 : Nat := 0
def PySem.W.Fast.tw15936533957869992804 : Nat := 0
def PySem.W.Fast.tw16647215789440516935 : Nat := 0
def PySem.W.Fast.tw3242263975262526642 : Nat := 0
def PySem.W.Fast.tw9806292923131655641 : Nat := 0
def PySem.W.Fast.tw16106906098146735740 : Nat := 0
def PySem.W.Fast.tw4494702819259765877 : Nat := 0
def PySem.W.Fast.tw10525068900288580708 : Nat := 0
def PySem.W.Fast.tw13292462125592930467 : Nat := 0
def PySem.W.Fast.tw4028300088780590954 : Nat := 0
def PySem.W.Fast.tw9132862062738501043 : Nat := 0
def PySem.W.Fast.tw3360794488539648760 : Nat := 0
def PySem.W.Fast.tw8743562579496214368 : Nat := 0
def PySem.W.Fast.tw12228088734227682869 : Nat := 0
def PySem.W.Fast.tw2182053653558572546 : Nat := 0
open PySem PySem.W PyProof.Rows in
set_option maxRecDepth 100003 in
set_option maxHeartbeats 0 in
theorem PySem.Challenge.cw_cornertrade_k07_arrows_written_and_read_holds : PySem.Challenge.rw_cornertrade_k07_arrows_written_and_read.Holds := by
  w_on; o_law; k_head; (case hw => w_witness2)
  k_fill
  refine CT.walkT (k := 10) (l := PySem.Challenge.rw_cornertrade_k07_arrows_written_and_read) rfl rfl ⟨rfl, by decide, by decide⟩ (fun w h Y => PySem.W.km_in_of Y) ?F
  case F =>
    intro w mg fa h Y KX G hmg
    have hT8 := PySem.W.km_tabs_of Y
    refine' Law.all_mk KX G hmg ?a0 ?a1 ?a2 ?a3 ?a4 ?a5 ?a6 ?a7 ?a8 ?a9 ?a10 ?a11 ?a12 ?a13 ?a14 ?a15 ?a16 ?a17 ?a18 ?a19 ?a20 ?a21 ?z_abs ?z_all ?z_bool ?z_int ?z_isinstance ?z_len ?z_list ?z_max ?z_range ?z_str ?z_tuple ?g_FIGURES ?l0 ?c0 ?k0 ?l1 ?c1 ?k1 ?l2 ?c2 ?k2 ?l3 ?c3 ?k3 ?l4 ?c4 ?k4 ?l5 ?c5 ?k5 ?l6 ?c6 ?k6 ?l7 ?c7 ?k7 ?l8 ?c8 ?k8 ?l9 ?c9 ?k9 ?l10 ?c10 ?k10 ?l11 ?c11 ?k11 ?l12 ?c12 ?k12 ?l13 ?c13 ?k13 ?l14 ?c14 ?k14 ?l15 ?c15 ?k15 ?l16 ?c16 ?k16 ?l17 ?c17 ?k17 ?l18 ?c18 ?k18 ?l19 ?c19 ?k19 ?l20 ?c20 ?k20 ?l21 ?c21 ?k21 ?T_1 ?T_3 ?T_4 ?xa0 ?xl0 ?xb0 ?xs0 ?xe0 ?xt0 ?xk0 ?xi0 ?xj0 ?xm0 ?xc0 ?xf0_called ?xa1 ?xl1 ?xb1 ?xs1 ?xe1 ?xt1 ?xk1 ?xi1 ?xj1 ?xm1 ?xc1 ?xf1_called ?xf1_at ?xg0 ?xh0 ?xd0 ?xg1 ?xh1 ?xd1 ?y_BadName ?y_Twice ?y_Taken ?y_InUse ?y_NoRow ?y_NoWatch ?y_Nought ?y_BadCorner ?y_Flat ?y_Unbuilt ?y_BadText ?y_Folded ?y_BadRow ?y_Full ?y_BadDeed ?y_RodError ?y_Missing ?aT ?lT ?cT ?kT ?e0_0 ?e0_1 ?e1_0 ?e1_1 ?e2_0 ?e2_1 ?e3_0 ?e3_1 ?e4_0 ?e4_1 ?e5_0 ?e5_1 ?e6_0 ?e6_1 ?hP ?hK ?hC Law.LAW
    (case a0 => k_is)
    (case a1 => k_is)
    (case a2 => k_is)
    (case a3 => k_is)
    (case a4 => k_is)
    (case a5 => k_is)
    (case a6 => k_is)
    (case a7 => k_is)
    (case a8 => k_is)
    (case a9 => k_is)
    (case a10 => k_is)
    (case a11 => k_is)
    (case a12 => k_is)
    (case a13 => k_is)
    (case a14 => k_is)
    (case a15 => k_is)
    (case a16 => k_is)
    (case a17 => k_is)
    (case a18 => k_is)
    (case a19 => k_is)
    (case a20 => k_is)
    (case a21 => k_is)
    (case z_abs => k_is)
    (case z_all => k_is)
    (case z_bool => k_is)
    (case z_int => k_is)
    (case z_isinstance => k_is)
    (case z_len => k_is)
    (case z_list => k_is)
    (case z_max => k_is)
    (case z_range => k_is)
    (case z_str => k_is)
    (case z_tuple => k_is)
    (case g_FIGURES => k_is)
    (case l0 => k_is)
    (case c0 => k_is)
    (case k0 => k_is)
    (case l1 => k_is)
    (case c1 => k_is)
    (case k1 => k_is)
    (case l2 => k_is)
    (case c2 => k_is)
    (case k2 => k_is)
    (case l3 => k_is)
    (case c3 => k_is)
    (case k3 => k_is)
    (case l4 => k_is)
    (case c4 => k_is)
    (case k4 => k_is)
    (case l5 => k_is)
    (case c5 => k_is)
    (case k5 => k_is)
    (case l6 => k_is)
    (case c6 => k_is)
    (case k6 => k_is)
    (case l7 => k_is)
    (case c7 => k_is)
    (case k7 => k_is)
    (case l8 => k_is)
    (case c8 => k_is)
    (case k8 => k_is)
    (case l9 => k_is)
    (case c9 => k_is)
    (case k9 => k_is)
    (case l10 => k_is)
    (case c10 => k_is)
    (case k10 => k_is)
    (case l11 => k_is)
    (case c11 => k_is)
    (case k11 => k_is)
    (case l12 => k_is)
    (case c12 => k_is)
    (case k12 => k_is)
    (case l13 => k_is)
    (case c13 => k_is)
    (case k13 => k_is)
    (case l14 => k_is)
    (case c14 => k_is)
    (case k14 => k_is)
    (case l15 => k_is)
    (case c15 => k_is)
    (case k15 => k_is)
    (case l16 => k_is)
    (case c16 => k_is)
    (case k16 => k_is)
    (case l17 => k_is)
    (case c17 => k_is)
    (case k17 => k_is)
    (case l18 => k_is)
    (case c18 => k_is)
    (case k18 => k_is)
    (case l19 => k_is)
    (case c19 => k_is)
    (case k19 => k_is)
    (case l20 => k_is)
    (case c20 => k_is)
    (case k20 => k_is)
    (case l21 => k_is)
    (case c21 => k_is)
    (case k21 => k_is)
    (case T_1 => k_is)
    (case T_3 => k_is)
    (case T_4 => k_is)
    (case xa0 => k_is)
    (case xl0 => k_is)
    (case xb0 => exact rfl)
    (case xs0 => k_is)
    (case xe0 => k_is)
    (case xt0 => k_is)
    (case xk0 => k_is)
    (case xi0 => k_is)
    (case xj0 => k_is)
    (case xm0 => k_is)
    (case xc0 => k_is)
    (case xf0_called => k_is)
    (case xa1 => k_is)
    (case xl1 => k_is)
    (case xb1 => exact rfl)
    (case xs1 => k_is)
    (case xe1 => k_is)
    (case xt1 => k_is)
    (case xk1 => k_is)
    (case xi1 => k_is)
    (case xj1 => k_is)
    (case xm1 => k_is)
    (case xc1 => k_is)
    (case xf1_called => k_is)
    (case xf1_at => k_is)
    (case xg0 => k_is)
    (case xh0 => k_is)
    (case xd0 => k_is)
    (case xg1 => k_is)
    (case xh1 => k_is)
    (case xd1 => k_is)
    (case y_BadName => k_is)
    (case y_Twice => k_is)
    (case y_Taken => k_is)
    (case y_InUse => k_is)
    (case y_NoRow => k_is)
    (case y_NoWatch => k_is)
    (case y_Nought => k_is)
    (case y_BadCorner => k_is)
    (case y_Flat => k_is)
    (case y_Unbuilt => k_is)
    (case y_BadText => k_is)
    (case y_Folded => k_is)
    (case y_BadRow => k_is)
    (case y_Full => k_is)
    (case y_BadDeed => k_is)
    (case y_RodError => k_is)
    (case y_Missing => k_is)
    (case aT => k_is)
    (case lT => k_is)
    (case cT => k_is)
    (case kT => k_is)
    (case e0_0 => kts_exm)
    (case e0_1 => kts_exm)
    (case e1_0 => kts_exm)
    (case e1_1 => kts_exm)
    (case e2_0 => kts_exm)
    (case e2_1 => kts_exm)
    (case e3_0 => kts_exm)
    (case e3_1 => kts_exm)
    (case e4_0 => kts_exm)
    (case e4_1 => kts_exm)
    (case e5_0 => kts_exm)
    (case e5_1 => kts_exm)
    (case e6_0 => kts_exm)
    (case e6_1 => kts_exm)
    (case hP => exact hT8 _ (List.mem_cons_self ..))
    (case hK => exact rfl)
    (case hC => exact rfl)
