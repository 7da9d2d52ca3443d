import PyProof.Rows.All
import Wide.All
import OpenK.AllK
import Wide.FinOn
import KE.KStateDown
import Lean
import HandS.ForMost
import HandS.ForExc
import HandS.Lambda
import HandS.EndTab
import HandS.HeadWalk
import HandS.Defaults
import HandS.Head0
import HandS.Head1
import HandS.Head2
import HandS.HeadEnd
import HandS.HeadHook1
import HandS.HeadHook2
import HandS.HeadHook3
import HandS.HeadHook4
import HandS.TupAny
import HandS.TupMul
import HandS.Wide
import HandS.Style
import HandS.Zip
import HandS.Deep
import HandS.AnyAll
import HandS.GenOver
import HandS.GenList
import HandS.GenBody
import PyProof.GenQ
import PyProof.GenRules
import PyProof.SumAny
import PyProof.TupleOfGen
import KE.SortData
import KE.DataEq
import KE.DataCmp
import KE.DataMinMax
import KE.DatumMoreOrd
import PySem.Challenge.RW_mintstack_k01_melts_that_are_exact
set_option Elab.async false
set_option linter.all false
set_option maxRecDepth 100000
set_option maxHeartbeats 4000000
/-! DL: data-level semantics over the hand layer: values, the relation to the abstract heap, judgements. -/
namespace DL
open PySem PySem.Spec L2

/-! ### values -/
inductive D where
  | non | bl (b : Bool) | int (i : Int) | str (x : Str)
  | tup (xs : List D) | lst (xs : List D)
  | ins (c : Str) (fs : List (Str × D))
  | dct (kvs : List (Key × D))
  | ref (i : Nat)
  | lam (j : Nat)
  | slst (xs : List D)
inductive Slot where
  | un | val (d : D) | own (xs : List D) | ownd (kvs : List (Key × D))
inductive MO where
  | lst (xs : List D) | dct (kvs : List (Key × D)) | ins (c : Str) (fs : List (Str × D))

/-- what is fixed for the whole law -/
structure Glob where
  K : PySem.W.Frag
  cls : Str → Option Addr
  exc : Str → Option Addr
  lamP : Nat → Addr → Addr → HO → Prop
  lq : Str
  T : List (Addr × Str)
  TG : List Addr

def NoTbl (o : HO) : Prop := ∀ ps, o ≠ .tbl ps
/-- a tuple, a list of the written part: where nothing else is known -/
def KTup (K : PySem.W.Frag) (a : Addr) (xs : List V) : Prop := SqT K (fun _ => none) a xs
def KLst0 (K : PySem.W.Frag) (a : Addr) (xs : List V) : Prop := SqL K (fun _ => none) a xs
theorem rd_none {a : Addr} {u : HO} (h : Rd (fun _ => none) a u) : False := by
  rcases h with h | ⟨_, h⟩ <;> cases h
theorem KTup.sq {K : PySem.W.Frag} {H : Hp} {a : Addr} {xs : List V} (h : KTup K a xs) : SqT K H a xs := h.elim (fun z => (rd_none z).elim) .inr
theorem KLst0.sq {K : PySem.W.Frag} {H : Hp} {a : Addr} {xs : List V} (h : KLst0 K a xs) : SqL K H a xs := h.elim (fun z => (rd_none z).elim) .inr
def TupAt (K : PySem.W.Frag) (mu : Addr → Prop) (H : Hp) (a : Addr) (vs : List V) : Prop := (Rd H a (.tup vs) ∧ ¬ mu a) ∨ KTup K a vs
/-- a list that is only read -/
def SlsAt (K : PySem.W.Frag) (mu : Addr → Prop) (H : Hp) (a : Addr) (vs : List V) : Prop := (Rd H a (.lst vs) ∧ ¬ mu a) ∨ KLst0 K a vs
def LstAt (_K : PySem.W.Frag) (mu : Addr → Prop) (H : Hp) (a : Addr) (vs : List V) : Prop := H a = some (.lst vs) ∧ ¬ mu a
theorem TupAt.sq {K : PySem.W.Frag} {mu : Addr → Prop} {H : Hp} {a : Addr} {vs : List V} (h : TupAt K mu H a vs) : SqT K H a vs := h.elim (fun z => .inl z.1) KTup.sq
theorem SlsAt.sq {K : PySem.W.Frag} {mu : Addr → Prop} {H : Hp} {a : Addr} {vs : List V} (h : SlsAt K mu H a vs) : SqL K H a vs := h.elim (fun z => .inl z.1) KLst0.sq
theorem LstAt.sq {K : PySem.W.Frag} {mu : Addr → Prop} {H : Hp} {a : Addr} {vs : List V} (h : LstAt K mu H a vs) : SqL K H a vs := SqL.of h.1

mutual
inductive Rep (G : Glob) (mu : Addr → Prop) (rho : List Addr) (H : Hp) : D → V → Prop where
  | non : Rep G mu rho H .non .non
  | bl (b : Bool) : Rep G mu rho H (.bl b) (.bl b)
  | int (i : Int) : Rep G mu rho H (.int i) (.int i)
  | str (x : Str) : Rep G mu rho H (.str x) (.str x)
  | tup {a : Addr} {vs : List V} {ds : List D} : TupAt G.K mu H a vs → vs.length ≤ sizeLine → Reps G mu rho H ds vs → Rep G mu rho H (.tup ds) (.ref a)
  | lst {a : Addr} {vs : List V} {ds : List D} : LstAt G.K mu H a vs → vs.length ≤ sizeLine → Reps G mu rho H ds vs → Rep G mu rho H (.lst ds) (.ref a)
  | ins {a C dx : Addr} {c : Str} {fs : List (Str × D)} {fv : List (Str × V)} : H a = some (.ins C dx fv) → G.cls c = some C → ¬ mu a → fs.map (·.1) = fv.map (·.1) → Reps G mu rho H (fs.map (·.2)) (fv.map (·.2)) → Rep G mu rho H (.ins c fs) (.ref a)
  | dct {a : Addr} {kvs : List (Key × D)} {kv : List (Key × V)} : H a = some (.dK kv) → ¬ mu a → kv.length ≤ sizeLine → kvs.map (·.1) = kv.map (·.1) → Reps G mu rho H (kvs.map (·.2)) (kv.map (·.2)) → Rep G mu rho H (.dct kvs) (.ref a)
  | ref {i : Nat} {a : Addr} : rho[i]? = some a → Rep G mu rho H (.ref i) (.ref a)
  | lam {j : Nat} {a c : Addr} {o : HO} : H a = some o → G.lamP j a c o → NoTbl o → ¬ mu a → H c = some (LamX.CodeO c G.lq) → ¬ mu c → Rep G mu rho H (.lam j) (.ref a)
  | slst {a : Addr} {vs : List V} {ds : List D} : SlsAt G.K mu H a vs → vs.length ≤ sizeLine → Reps G mu rho H ds vs → Rep G mu rho H (.slst ds) (.ref a)
inductive Reps (G : Glob) (mu : Addr → Prop) (rho : List Addr) (H : Hp) : List D → List V → Prop where
  | nil : Reps G mu rho H [] []
  | cons {d : D} {v : V} {ds : List D} {vs : List V} : Rep G mu rho H d v → Reps G mu rho H ds vs → Reps G mu rho H (d :: ds) (v :: vs)
end

section
variable {G : Glob} {mu mu' : Addr → Prop} {rho rho' : List Addr} {H H' : Hp}
/-- frozen things stay -/
structure Stays (mu mu' : Addr → Prop) (rho rho' : List Addr) (H H' : Hp) : Prop where
  keep : ∀ a o, H a = some o → ¬ mu a → NoTbl o → H' a = some o ∧ ¬ mu' a
  rho : ∀ (i : Nat) a, rho[i]? = some a → rho'[i]? = some a
theorem notbl_lst {xs : List V} : NoTbl (.lst xs) := fun _ z => by cases z
theorem notbl_tup {xs : List V} : NoTbl (.tup xs) := fun _ z => by cases z
theorem notbl_frz {o : Obj} {u : HO} : NoTbl (.frz o u) := fun _ z => by cases z
theorem notbl_ins {C dx : Addr} {fs : List (Str × V)} : NoTbl (.ins C dx fs) := fun _ z => by cases z
theorem notbl_dK {kv : List (Key × V)} : NoTbl (.dK kv) := fun _ z => by cases z
theorem notbl_own {a : Addr} : NoTbl (.own a) := fun _ z => by cases z
theorem TupAt.stay {K : PySem.W.Frag} {a : Addr} {vs : List V} (s : Stays mu mu' rho rho' H H') (h : TupAt K mu H a vs) : TupAt K mu' H' a vs := by
  rcases h with ⟨h | ⟨o, h⟩, n⟩ | h
  · obtain ⟨h1, h2⟩ := s.keep a _ h n notbl_tup
    exact .inl ⟨.inl h1, h2⟩
  · obtain ⟨h1, h2⟩ := s.keep a _ h n notbl_frz
    exact .inl ⟨.inr ⟨o, h1⟩, h2⟩
  · exact .inr h
theorem SlsAt.stay {K : PySem.W.Frag} {a : Addr} {vs : List V} (s : Stays mu mu' rho rho' H H') (h : SlsAt K mu H a vs) : SlsAt K mu' H' a vs := by
  rcases h with ⟨h | ⟨o, h⟩, n⟩ | h
  · obtain ⟨h1, h2⟩ := s.keep a _ h n notbl_lst
    exact .inl ⟨.inl h1, h2⟩
  · obtain ⟨h1, h2⟩ := s.keep a _ h n notbl_frz
    exact .inl ⟨.inr ⟨o, h1⟩, h2⟩
  · exact .inr h
theorem LstAt.stay {K : PySem.W.Frag} {a : Addr} {vs : List V} (s : Stays mu mu' rho rho' H H') (h : LstAt K mu H a vs) : LstAt K mu' H' a vs := s.keep a _ h.1 h.2 notbl_lst
mutual
theorem Rep.stay (s : Stays mu mu' rho rho' H H') {d : D} {v : V} (h : Rep G mu rho H d v) : Rep G mu' rho' H' d v :=
  match d, v, h with
  | _, _, .non => .non
  | _, _, .bl b => .bl b
  | _, _, .int i => .int i
  | _, _, .str x => .str x
  | _, _, .tup h1 h2 h3 => .tup (h1.stay s) h2 (Reps.stay s h3)
  | _, _, .lst h1 h2 h3 => .lst (h1.stay s) h2 (Reps.stay s h3)
  | _, _, .ins h1 h2 h3 h4 h5 => .ins (s.keep _ _ h1 h3 notbl_ins).1 h2 (s.keep _ _ h1 h3 notbl_ins).2 h4 (Reps.stay s h5)
  | _, _, .dct h1 h2 h3 h4 h5 => .dct (s.keep _ _ h1 h2 notbl_dK).1 (s.keep _ _ h1 h2 notbl_dK).2 h3 h4 (Reps.stay s h5)
  | _, _, .ref h1 => .ref (s.rho _ _ h1)
  | _, _, .lam h1 h2 h3 h4 h5 h6 => .lam (s.keep _ _ h1 h4 h3).1 h2 h3 (s.keep _ _ h1 h4 h3).2 (s.keep _ _ h5 h6 LamX.codeO_ne).1 (s.keep _ _ h5 h6 LamX.codeO_ne).2
  | _, _, .slst h1 h2 h3 => .slst (h1.stay s) h2 (Reps.stay s h3)
theorem Reps.stay (s : Stays mu mu' rho rho' H H') {ds : List D} {vs : List V} (h : Reps G mu rho H ds vs) : Reps G mu' rho' H' ds vs :=
  match ds, vs, h with
  | _, _, .nil => .nil
  | _, _, .cons h1 h2 => .cons (Rep.stay s h1) (Reps.stay s h2)
end
theorem Reps.length : ∀ {ds : List D} {vs : List V}, Reps G mu rho H ds vs → ds.length = vs.length
  | _, _, .nil => rfl
  | _, _, .cons _ h => congrArg Nat.succ h.length
theorem Reps.get : ∀ {ds : List D} {vs : List V} {i : Nat} {d : D}, Reps G mu rho H ds vs → ds[i]? = some d → ∃ v, vs[i]? = some v ∧ Rep G mu rho H d v
  | _, _, _, _, .nil, e => by simp at e
  | _, _, 0, d, .cons h _, e => by simp at e; subst e; exact ⟨_, rfl, h⟩
  | _, _, i + 1, d, .cons _ h, e => by
    obtain ⟨v, h1, h2⟩ := h.get (i := i) (d := d) (by simpa using e)
    exact ⟨v, by simpa using h1, h2⟩
theorem Reps.getV : ∀ {ds : List D} {vs : List V} {i : Nat} {v : V}, Reps G mu rho H ds vs → vs[i]? = some v → ∃ d, ds[i]? = some d ∧ Rep G mu rho H d v
  | _, _, _, _, .nil, e => by simp at e
  | _, _, 0, d, .cons h _, e => by simp at e; subst e; exact ⟨_, rfl, h⟩
  | _, _, i + 1, d, .cons _ h, e => by
    obtain ⟨v, h1, h2⟩ := h.getV (i := i) (v := d) (by simpa using e)
    exact ⟨v, by simpa using h1, h2⟩
theorem Reps.append : ∀ {ds es : List D} {vs us : List V}, Reps G mu rho H ds vs → Reps G mu rho H es us → Reps G mu rho H (ds ++ es) (vs ++ us)
  | _, _, _, _, .nil, h => h
  | _, _, _, _, .cons a b, h => .cons a (b.append h)
theorem Reps.take : ∀ {ds : List D} {vs : List V} (n : Nat), Reps G mu rho H ds vs → Reps G mu rho H (ds.take n) (vs.take n)
  | _, _, 0, _ => .nil
  | _, _, _ + 1, .nil => .nil
  | _, _, n + 1, .cons a b => .cons a (b.take n)
theorem Reps.drop : ∀ {ds : List D} {vs : List V} (n : Nat), Reps G mu rho H ds vs → Reps G mu rho H (ds.drop n) (vs.drop n)
  | _, _, 0, h => h
  | _, _, _ + 1, .nil => .nil
  | _, _, n + 1, .cons _ b => b.drop n
theorem Reps.set : ∀ {ds : List D} {vs : List V} {d : D} {v : V} (i : Nat), Rep G mu rho H d v → Reps G mu rho H ds vs → Reps G mu rho H (ds.set i d) (vs.set i v)
  | _, _, _, _, _, _, .nil => .nil
  | _, _, _, _, 0, h, .cons _ b => .cons h b
  | _, _, _, _, i + 1, h, .cons a b => .cons a (b.set i h)
theorem Reps.reverse : ∀ {ds : List D} {vs : List V}, Reps G mu rho H ds vs → Reps G mu rho H ds.reverse vs.reverse
  | _, _, .nil => .nil
  | _, _, .cons a b => by
    rw [List.reverse_cons, List.reverse_cons]
    exact b.reverse.append (.cons a .nil)
theorem Reps.replicate {ds : List D} {vs : List V} (h : Reps G mu rho H ds vs) : ∀ n : Nat, Reps G mu rho H (List.replicate n ds).flatten (List.replicate n vs).flatten
  | 0 => .nil
  | n + 1 => by
    rw [List.replicate_succ, List.replicate_succ, List.flatten_cons, List.flatten_cons]
    exact h.append (h.replicate n)
theorem Reps.dropLast {ds : List D} {vs : List V} (h : Reps G mu rho H ds vs) : Reps G mu rho H ds.dropLast vs.dropLast := by
  rw [List.dropLast_eq_take, List.dropLast_eq_take, h.length]
  exact h.take _
end

/-- the tables: those of lambdas tell the code objects, those of generator expressions only stand there -/
structure TabsA (G : Glob) (H : Hp) : Prop where
  lam : LamX.Tabs G.T H
  gen : ∀ P ∈ G.TG, GxR.TabG H P
/-! ### what is mutable -/
structure Ka where
  rho : List Addr
  own : Nat → Option Addr
  out : Addr → Prop
def Ka.mu (k : Ka) (a : Addr) : Prop := a ∈ k.rho ∨ (∃ i, k.own i = some a) ∨ k.out a

def MemR (G : Glob) (k : Ka) (H : Hp) : MO → Addr → Prop
  | .lst xs, a => ∃ vs, H a = some (.lst vs) ∧ vs.length ≤ sizeLine ∧ Reps G k.mu k.rho H xs vs
  | .dct kvs, a => ∃ kv : List (Key × V), H a = some (.dK kv) ∧ kv.length ≤ sizeLine ∧ kvs.map (·.1) = kv.map (·.1) ∧ Reps G k.mu k.rho H (kvs.map (·.2)) (kv.map (·.2))
  | .ins c fs, a => ∃ (C dx : Addr) (fv : List (Str × V)), H a = some (.ins C dx fv) ∧ G.cls c = some C ∧ fs.map (·.1) = fv.map (·.1) ∧ Reps G k.mu k.rho H (fs.map (·.2)) (fv.map (·.2))
def SlotR (G : Glob) (k : Ka) (H : Hp) (i : Nat) : Slot → Option V → Prop
  | .un, _ => True
  | .val d, some v => Rep G k.mu k.rho H d v
  | .own xs, some v => ∃ p, v = .ref p ∧ k.own i = some p ∧ MemR G k H (.lst xs) p
  | .ownd kvs, some v => ∃ p, v = .ref p ∧ k.own i = some p ∧ MemR G k H (.dct kvs) p
  | _, none => False
/-- what is written here: a list, a dict, an instance -/
def MutO : HO → Prop
  | .lst _ => True
  | .dK _ => True
  | .ins _ _ _ => True
  | _ => False
theorem MutO.nt {o : HO} (h : MutO o) : NoTbl o := fun ps z => by subst z; exact h
theorem MutO.nx {o : HO} (h : MutO o) {φ : Heap → Prop} : o ≠ .ext φ := fun z => by subst z; exact h
/-- the world: the mutable objects that are shared, the tables -/
structure WR (G : Glob) (k : Ka) (mem : List MO) (H : Hp) : Prop where
  len : mem.length = k.rho.length
  mem : ∀ (i : Nat) mo a, mem[i]? = some mo → k.rho[i]? = some a → MemR G k H mo a
  nd : k.rho.Nodup
  oi : ∀ i j p, k.own i = some p → k.own j = some p → i = j
  onr : ∀ i p, k.own i = some p → p ∉ k.rho
  nout : ∀ a, k.out a → a ∉ k.rho ∧ ∀ i, k.own i ≠ some a
  trk : ∀ a, k.mu a → ∃ o, H a = some o ∧ MutO o
  tabs : TabsA G H
/-- a def's entry -/
structure Act where
  H0 : Hp
  rho0 : List Addr
  out0 : Addr → Prop
structure Rel (G : Glob) (al : Act) (k : Ka) (env : List Slot) (mem : List MO) (s : St) (H : Hp) : Prop where
  wr : WR G k mem H
  slots : ∀ (i : Nat) sl, env[i]? = some sl → ∃ ov, s[i]? = some ov ∧ SlotR G k H i sl ov
  len : env.length = s.length
  fix : ∀ a o, al.H0 a = some o → a ∉ al.rho0 → NoTbl o → H a = some o
  tb0 : ∀ a ps, al.H0 a = some (.tbl ps) → ∃ qs, H a = some (.tbl qs)
  pre : ∃ more, k.rho = al.rho0 ++ more ∧ ∀ a ∈ more, al.H0 a = none
  own0 : ∀ i p, k.own i = some p → al.H0 p = none
  out : k.out = al.out0

/-- what an expression may have done -/
structure Ext (k : Ka) (H : Hp) (k' : Ka) (H' : Hp) : Prop where
  keep : ∀ a o, H a = some o → a ∉ k.rho → NoTbl o → H' a = some o
  tb : ∀ a ps, H a = some (.tbl ps) → ∃ qs, H' a = some (.tbl qs)
  rho : ∃ more, k'.rho = k.rho ++ more ∧ ∀ a ∈ more, H a = none
  own : k'.own = k.own
  out : k'.out = k.out
theorem Ext.refl (k : Ka) (H : Hp) : Ext k H k H := ⟨fun _ _ h _ _ => h, fun _ ps h => ⟨ps, h⟩, ⟨[], by simp, fun _ h => by simp at h⟩, rfl, rfl⟩
theorem Ext.tracked {k k' : Ka} {H H' : Hp} (e : Ext k H k' H') {a : Addr} {o : HO} (h : H a = some o) : a ∈ k.rho ∨ ∃ o', H' a = some o' := by
  by_cases hr : a ∈ k.rho
  · exact .inl hr
  · refine .inr ?_
    by_cases ht : NoTbl o
    · exact ⟨o, e.keep a o h hr ht⟩
    · have : ∃ ps, o = .tbl ps := by
        cases o <;> first | exact ⟨_, rfl⟩ | exact (ht (fun _ z => by cases z)).elim
      obtain ⟨ps, rfl⟩ := this
      obtain ⟨qs, q⟩ := e.tb a ps h
      exact ⟨_, q⟩
theorem Ext.trans {k k1 k2 : Ka} {H H1 H2 : Hp} (a : Ext k H k1 H1) (b : Ext k1 H1 k2 H2) (ht : ∀ x ∈ k.rho, H1 x ≠ none) : Ext k H k2 H2 := by
  obtain ⟨m1, e1, f1⟩ := a.rho
  obtain ⟨m2, e2, f2⟩ := b.rho
  refine ⟨fun x o h n t => ?_, fun x ps h => ?_, ⟨m1 ++ m2, by rw [e2, e1, List.append_assoc], fun x hx => ?_⟩, b.own.trans a.own, b.out.trans a.out⟩
  · refine b.keep x o (a.keep x o h n t) (fun z => ?_) t
    rw [e1] at z
    rcases List.mem_append.mp z with z | z
    · exact n z
    · rw [f1 x z] at h
      cases h
  · obtain ⟨qs, q⟩ := a.tb x ps h
    exact b.tb x qs q
  · rcases List.mem_append.mp hx with z | z
    · exact f1 x z
    · have n2 := f2 x z
      cases q : H x with
      | none => rfl
      | some o =>
        rcases a.tracked q with r | ⟨o', r⟩
        · exact absurd n2 (ht x r)
        · rw [r] at n2
          cases n2
theorem Ext.stays {k k' : Ka} {H H' : Hp} (e : Ext k H k' H') : Stays k.mu k'.mu k.rho k'.rho H H' := by
  obtain ⟨m, e1, f1⟩ := e.rho
  refine ⟨fun a o h n t => ⟨e.keep a o h (fun z => n (.inl z)) t, fun z => ?_⟩, fun i a h => ?_⟩
  · rcases z with z | z | z
    · rw [e1] at z
      rcases List.mem_append.mp z with z | z
      · exact n (.inl z)
      · rw [f1 a z] at h
        cases h
    · rw [e.own] at z
      exact n (.inr (.inl z))
    · rw [e.out] at z
      exact n (.inr (.inr z))
  · rw [e1]
    rw [List.getElem?_append_left (List.getElem?_eq_some_iff.mp h).1]
    exact h

section
variable {G : Glob} {al : Act} {k k' : Ka} {env : List Slot} {mem mem' : List MO} {s : St} {H H' : Hp} {p : Addr} {o : HO}
theorem WR.no (w : WR G k mem H) (h : H p = none) : ¬ k.mu p := fun z => by
  obtain ⟨o, e, _⟩ := w.trk p z
  rw [h] at e
  cases e
theorem Ext.new (h : H p = none) : Ext k H k (upd H p o) := ⟨fun a u e _ _ => by rw [upd_ne (ne_of_none e h)]; exact e, fun a ps e => ⟨ps, by rw [upd_ne (ne_of_none e h)]; exact e⟩, ⟨[], by simp, fun _ z => by simp at z⟩, rfl, rfl⟩
theorem stays_new (h : H p = none) : Stays k.mu k.mu k.rho k.rho H (upd H p o) := (Ext.new (k := k) (o := o) h).stays
theorem MemR.stay {mo : MO} {a : Addr} (st : Stays k.mu k'.mu k.rho k'.rho H H') (ha : ∀ o, H a = some o → H' a = some o) (h : MemR G k H mo a) : MemR G k' H' mo a := by
  cases mo with
  | lst xs => obtain ⟨vs, h1, h2, h3⟩ := h; exact ⟨vs, ha _ h1, h2, h3.stay st⟩
  | dct kvs => obtain ⟨kv, h1, h2, h3, h4⟩ := h; exact ⟨kv, ha _ h1, h2, h3, h4.stay st⟩
  | ins c fs => obtain ⟨C, dx, fv, h1, h2, h3, h4⟩ := h; exact ⟨C, dx, fv, ha _ h1, h2, h3, h4.stay st⟩
theorem SlotR.stay {i : Nat} {sl : Slot} {ov : Option V} (st : Stays k.mu k'.mu k.rho k'.rho H H') (ho : k'.own = k.own) (ha : ∀ p o, k.own i = some p → H p = some o → H' p = some o) (h : SlotR G k H i sl ov) : SlotR G k' H' i sl ov := by
  cases sl with
  | un => trivial
  | val d =>
    cases ov with
    | none => exact h.elim
    | some v => exact Rep.stay st h
  | own xs =>
    cases ov with
    | none => exact h.elim
    | some v =>
      obtain ⟨p, h1, h2, h3⟩ := h
      exact ⟨p, h1, by rw [ho]; exact h2, h3.stay st (ha p · h2)⟩
  | ownd kvs =>
    cases ov with
    | none => exact h.elim
    | some v =>
      obtain ⟨p, h1, h2, h3⟩ := h
      exact ⟨p, h1, by rw [ho]; exact h2, h3.stay st (ha p · h2)⟩
theorem tabs_new (t : TabsA G H) (h : H p = none) : TabsA G (upd H p o) := ⟨t.lam.ext fun b u e => by rw [upd_ne (ne_of_none e h)]; exact e, fun P hP => by
  obtain ⟨ps, e1, e2⟩ := t.gen P hP
  exact ⟨ps, by rw [upd_ne (ne_of_none e1 h)]; exact e1, e2⟩⟩
theorem WR.new (w : WR G k mem H) (h : H p = none) : WR G k mem (upd H p o) where
  len := w.len
  mem := fun i mo a h1 h2 => (w.mem i mo a h1 h2).stay (stays_new h) fun u e => by rw [upd_ne (ne_of_none e h)]; exact e
  nd := w.nd
  oi := w.oi
  onr := w.onr
  nout := w.nout
  trk := fun a z => by
    obtain ⟨u, e, t⟩ := w.trk a z
    exact ⟨u, by rw [upd_ne (ne_of_none e h)]; exact e, t⟩
  tabs := tabs_new w.tabs h
/-- a new object that nobody knows -/
theorem Rel.new (r : Rel G al k env mem s H) (h : H p = none) : Rel G al k env mem s (upd H p o) where
  wr := r.wr.new h
  slots := fun i sl e => by
    obtain ⟨ov, h1, h2⟩ := r.slots i sl e
    exact ⟨ov, h1, h2.stay (stays_new h) rfl fun q u _ e => by rw [upd_ne (ne_of_none e h)]; exact e⟩
  len := r.len
  fix := fun a u e n t => by
    have q := r.fix a u e n t
    rw [upd_ne (ne_of_none q h)]
    exact q
  tb0 := fun a ps e => by
    obtain ⟨qs, q⟩ := r.tb0 a ps e
    exact ⟨qs, by rw [upd_ne (ne_of_none q h)]; exact q⟩
  pre := r.pre
  own0 := r.own0
  out := r.out
theorem Rel.rhoT (r : Rel G al k env mem s H) : ∀ x ∈ k.rho, H x ≠ none := fun x hx z => by
  obtain ⟨o, e, _⟩ := r.wr.trk x (.inl hx)
  rw [z] at e
  cases e
theorem Rel.trans {k1 k2 : Ka} {H1 H2 : Hp} {mem1 : List MO} (r : Rel G al k1 env mem1 s H1) (a : Ext k H k1 H1) (b : Ext k1 H1 k2 H2) : Ext k H k2 H2 := a.trans b fun x hx => by
  obtain ⟨m, e, _⟩ := a.rho
  exact r.rhoT x (by rw [e]; exact List.mem_append_left _ hx)
end

/-! ### results -/
inductive RE (α : Type) where
  | ok (a : α) (m : List MO) | ex (c : Str) (m : List MO) | no
def RE.bind {α β : Type} (r : RE α) (f : α → List MO → RE β) : RE β := match r with
  | .ok a m => f a m
  | .ex c m => .ex c m
  | .no => .no
inductive Fl where
  | nx | rt (d : D) | bk | ct
inductive RS where
  | ok (f : Fl) (env : List Slot) (m : List MO) | ex (c : Str) (env : List Slot) (m : List MO) | no
abbrev GE := List Slot → List MO → RE D
abbrev GT := List Slot → List MO → RE Bool
abbrev GA := List Slot → List MO → RE (List D)
abbrev GS := List Slot → List MO → RS

section
variable (G : Glob) (al : Act) (W : WX)
/-- wants of an expression's end: Pd tells the value -/
def PostR {α β : Type} (Pd : Ka → Hp → α → β → Prop) (k : Ka) (env : List Slot) (s : St) (H : Hp) (Q : β → Hp → Prop) : RE α → Prop
  | .ok a m => ∀ k' v H', Rel G al k' env m s H' → Ext k H k' H' → Pd k' H' a v → Q v H'
  | .ex c m => ∀ k' H' C, Rel G al k' env m s H' → Ext k H k' H' → G.exc c = some C → W (.ref C) none s H'
  | .no => False
abbrev PdE (k : Ka) (H : Hp) (d : D) (v : V) : Prop := Rep G k.mu k.rho H d v
/-- borrowed: a list or dict of this frame's own too -/
def PdB (k : Ka) (H : Hp) (d : D) (v : V) : Prop := Rep G k.mu k.rho H d v ∨ ∃ p, v = .ref p ∧ (∃ i, k.own i = some p) ∧ ((∃ xs, d = .lst xs ∧ MemR G k H (.lst xs) p) ∨ ∃ kvs, d = .dct kvs ∧ MemR G k H (.dct kvs) p)
def dT (g : GE) : TE := fun s H Q => ∃ k env mem, Rel G al k env mem s H ∧ PostR G al W (PdE G) k env s H Q (g env mem)
def dTB (g : GE) : TE := fun s H Q => ∃ k env mem, Rel G al k env mem s H ∧ PostR G al W (PdB G) k env s H Q (g env mem)
def dTT (g : GT) : TT := fun s H Q => ∃ k env mem, Rel G al k env mem s H ∧ PostR G al W (fun _ _ (a b : Bool) => a = b) k env s H Q (g env mem)
def dTA (g : GA) : TA := fun s H Q => ∃ k env mem, Rel G al k env mem s H ∧ PostR G al W (fun k H ds vs => Reps G k.mu k.rho H ds vs) k env s H Q (g env mem)
/-- arguments, borrowed -/
def dTAB (g : GA) : TA := fun s H Q => ∃ k env mem, Rel G al k env mem s H ∧ PostR G al W (fun k H (ds : List D) (vs : List V) => Paired (PdB G k H) ds vs) k env s H Q (g env mem)
/-- k0, H0: where the statement began -/
def PostS (k0 : Ka) (H0 : Hp) (D : Ends) : RS → Prop
  | .ok .nx env m => ∀ k s H, Rel G al k env m s H → Stays k0.mu k.mu k0.rho k.rho H0 H → D.nx s H
  | .ok .bk env m => ∀ k s H, Rel G al k env m s H → Stays k0.mu k.mu k0.rho k.rho H0 H → D.bk s H
  | .ok .ct env m => ∀ k s H, Rel G al k env m s H → Stays k0.mu k.mu k0.rho k.rho H0 H → D.ct s H
  | .ok (.rt d) env m => ∀ k s H v, Rel G al k env m s H → Stays k0.mu k.mu k0.rho k.rho H0 H → Rep G k.mu k.rho H d v → D.rt v H
  | .ex c env m => ∀ k s H C, Rel G al k env m s H → Stays k0.mu k.mu k0.rho k.rho H0 H → G.exc c = some C → W (.ref C) none s H
  | .no => False
def dTs (g : GS) : TS := fun D s H => ∃ k env mem, Rel G al k env mem s H ∧ PostS G al W k H D (g env mem)
/-- a new list comes: its items -/
def dTN (g : GA) : TE := fun s H Q => ∃ k env mem, Rel G al k env mem s H ∧ PostR G al W (fun k H (ds : List D) (vs : List V) => Reps G k.mu k.rho H ds vs ∧ vs.length ≤ sizeLine) k env s H (fun vs H' => ∀ p, H' p = none → Q (.ref p) (upd H' p (.lst vs))) (g env mem)
end

/-! ### judgements: an expression, a borrowed one, a test, arguments, a statement, a block -/
section
variable (G : Glob) (W : WX) (X : Cx)
def DE (e : Expr) (g : GE) : Prop := ∀ al, PE X e (dT G al W g)
def DB (e : Expr) (g : GE) : Prop := ∀ al, PE X e (dTB G al W g)
def DT (e : Expr) (g : GT) : Prop := ∀ al, PT X e (dTT G al W g)
def DW (e : Expr) (g : GT) : Prop := ∀ al, PW X e (dTT G al W g)
def DA (es : List Expr) (g : GA) : Prop := ∀ al, PA X es (dTA G al W g)
def DAB (es : List Expr) (g : GA) : Prop := ∀ al, PA X es (dTAB G al W g)
def DN (e : Expr) (g : GA) : Prop := ∀ al, PE X e (dTN G al W g)
def DS (st : Stmt) (g : GS) : Prop := ∀ al, PS X st (dTs G al W g)
def DSs (sts : List Stmt) (g : GS) : Prop := ∀ al, PSs X sts (dTs G al W g)
end

/-! ### weakening of the readings -/
theorem pe_weak {X : Cx} {e : Expr} {t t' : TE} (h : PE X e t) (w : ∀ s H Q, t' s H Q → t s H Q) : PE X e t' := ⟨fun pins s σ H Q I q => h.run pins s σ H Q I (w _ _ _ q)⟩
theorem pt_weak {X : Cx} {e : Expr} {t t' : TT} (h : PT X e t) (w : ∀ s H Q, t' s H Q → t s H Q) : PT X e t' := ⟨fun pins s σ H Q I q => h.run pins s σ H Q I (w _ _ _ q)⟩
theorem pw_weak {X : Cx} {e : Expr} {t t' : TT} (h : PW X e t) (w : ∀ s H Q, t' s H Q → t s H Q) : PW X e t' := ⟨fun wh pins s σ H Q I q => h.run wh pins s σ H Q I (w _ _ _ q)⟩
theorem pa_weak {X : Cx} {e : List Expr} {t t' : TA} (h : PA X e t) (w : ∀ s H Q, t' s H Q → t s H Q) : PA X e t' := ⟨fun pos pins s σ H Q I q => h.run pos pins s σ H Q I (w _ _ _ q)⟩
theorem ps_weak {X : Cx} {e : Stmt} {t t' : TS} (h : PS X e t) (w : ∀ D s H, t' D s H → t D s H) : PS X e t' := ⟨fun pins s σ H D I q => h.run pins s σ H D I (w _ _ _ q)⟩
theorem pss_weak {X : Cx} {e : List Stmt} {t t' : TS} (h : PSs X e t) (w : ∀ D s H, t' D s H → t D s H) : PSs X e t' := ⟨fun pins s σ H D I q => h.run pins s σ H D I (w _ _ _ q)⟩
end DL
/-! DL1: expressions: constants, names, operators, comparisons, tests, displays, subscripts, fields. -/
namespace DL
open PySem PySem.Spec L2

section
variable {G : Glob} {al : Act} {W : WX} {k k' : Ka} {env : List Slot} {mem mem' : List MO} {s : L2.St} {H H' : Hp}
theorem PostR.base {α β : Type} {Pd : Ka → Hp → α → β → Prop} {Q : β → Hp → Prop} {r : RE α} (h : PostR G al W Pd k env s H Q r) (R : Rel G al k' env mem s H') (E : Ext k H k' H') : PostR G al W Pd k' env s H' Q r := by
  cases r with
  | ok a m => exact fun k2 v H2 R2 E2 p => h k2 v H2 R2 (R.trans E E2) p
  | ex c m => exact fun k2 H2 C R2 E2 p => h k2 H2 C R2 (R.trans E E2) p
  | no => exact h
theorem PostR.bind {α β γ δ : Type} {Pd1 : Ka → Hp → α → γ → Prop} {Pd2 : Ka → Hp → β → δ → Prop} {Q1 : γ → Hp → Prop} {Q2 : δ → Hp → Prop} {r : RE α} {f : α → List MO → RE β} (h : PostR G al W Pd2 k env s H Q2 (r.bind f))
    (c : ∀ a m k' v H', Rel G al k' env m s H' → Ext k H k' H' → Pd1 k' H' a v → PostR G al W Pd2 k' env s H' Q2 (f a m) → Q1 v H') : PostR G al W Pd1 k env s H Q1 r := by
  cases r with
  | ok a m => exact fun k' v H' R' E P => c a m k' v H' R' E P (PostR.base (Q := Q2) (r := f a m) h R' E)
  | ex c m => exact h
  | no => exact h
theorem Rep.ext {d : D} {v : V} (h : Rep G k.mu k.rho H d v) (E : Ext k H k' H') : Rep G k'.mu k'.rho H' d v := Rep.stay E.stays h
theorem Reps.ext {d : List D} {v : List V} (h : Reps G k.mu k.rho H d v) (E : Ext k H k' H') : Reps G k'.mu k'.rho H' d v := Reps.stay E.stays h
theorem PdB.ext {d : D} {v : V} (R : Rel G al k env mem s H) (h : PdB G k H d v) (E : Ext k H k' H') : PdB G k' H' d v := by
  rcases h with h | ⟨p, e, ⟨i, hi⟩, h⟩
  · exact .inl (h.ext E)
  · have st : ∀ o, H p = some o → NoTbl o → H' p = some o := fun o ho t => E.keep p o ho (R.wr.onr i p hi) t
    refine .inr ⟨p, e, ⟨i, by rw [E.own]; exact hi⟩, ?_⟩
    rcases h with ⟨xs, e2, vs, h1, h2, h3⟩ | ⟨kvs, e2, kv, h1, h2, h3, h4⟩
    · exact .inl ⟨xs, e2, vs, st _ h1 notbl_lst, h2, h3.ext E⟩
    · exact .inr ⟨kvs, e2, kv, st _ h1 notbl_dK, h2, h3, h4.ext E⟩
theorem PdB.int {i : Int} {v : V} (h : PdB G k H (.int i) v) : v = .int i := by
  rcases h with h | ⟨p, e, _, ⟨xs, e2, _⟩ | ⟨kvs, e2, _⟩⟩
  · cases h; rfl
  · cases e2
  · cases e2
theorem PdB.str {i : Str} {v : V} (h : PdB G k H (.str i) v) : v = .str i := by
  rcases h with h | ⟨p, e, _, ⟨xs, e2, _⟩ | ⟨kvs, e2, _⟩⟩
  · cases h; rfl
  · cases e2
  · cases e2
theorem PdB.bl {i : Bool} {v : V} (h : PdB G k H (.bl i) v) : v = .bl i := by
  rcases h with h | ⟨p, e, _, ⟨xs, e2, _⟩ | ⟨kvs, e2, _⟩⟩
  · cases h; rfl
  · cases e2
  · cases e2
theorem PdB.non {v : V} (h : PdB G k H .non v) : v = .non := by
  rcases h with h | ⟨p, e, _, ⟨xs, e2, _⟩ | ⟨kvs, e2, _⟩⟩
  · cases h; rfl
  · cases e2
  · cases e2
theorem PdB.tup {ds : List D} {v : V} (h : PdB G k H (.tup ds) v) : ∃ a vs, v = .ref a ∧ TupAt G.K k.mu H a vs ∧ vs.length ≤ sizeLine ∧ Reps G k.mu k.rho H ds vs := by
  rcases h with h | ⟨p, e, _, ⟨xs, e2, _⟩ | ⟨kvs, e2, _⟩⟩
  · cases h with
    | tup h1 h2 h3 => exact ⟨_, _, rfl, h1, h2, h3⟩
  · cases e2
  · cases e2
theorem PdB.lst {ds : List D} {v : V} (h : PdB G k H (.lst ds) v) : ∃ a vs, v = .ref a ∧ H a = some (.lst vs) ∧ vs.length ≤ sizeLine ∧ Reps G k.mu k.rho H ds vs := by
  rcases h with h | ⟨p, e, _, ⟨xs, e2, vs, h1, h2, h3⟩ | ⟨kvs, e2, _⟩⟩
  · cases h with
    | lst h1 h2 h3 => exact ⟨_, _, rfl, h1.1, h2, h3⟩
  · cases e2
    exact ⟨p, vs, e, h1, h2, h3⟩
  · cases e2
theorem PdB.ref {i : Nat} {v : V} (h : PdB G k H (.ref i) v) : ∃ a, v = .ref a ∧ k.rho[i]? = some a := by
  rcases h with h | ⟨p, e, _, ⟨xs, e2, _⟩ | ⟨kvs, e2, _⟩⟩
  · cases h with
    | ref h1 => exact ⟨_, rfl, h1⟩
  · cases e2
  · cases e2
theorem PdB.ins {c : Str} {fs : List (Str × D)} {v : V} (h : PdB G k H (.ins c fs) v) : ∃ (a C dx : Addr) (fv : List (Str × V)), v = .ref a ∧ H a = some (.ins C dx fv) ∧ G.cls c = some C ∧ fs.map (·.1) = fv.map (·.1) ∧ Reps G k.mu k.rho H (fs.map (·.2)) (fv.map (·.2)) := by
  rcases h with h | ⟨p, e, _, ⟨xs, e2, _⟩ | ⟨kvs, e2, _⟩⟩
  · cases h with
    | ins h1 h2 h3 h4 h5 => exact ⟨_, _, _, _, rfl, h1, h2, h4, h5⟩
  · cases e2
  · cases e2
theorem PdB.dct {kvs : List (Key × D)} {v : V} (h : PdB G k H (.dct kvs) v) : ∃ a kv, v = .ref a ∧ H a = some (.dK kv) ∧ kv.length ≤ sizeLine ∧ kvs.map (·.1) = kv.map (·.1) ∧ Reps G k.mu k.rho H (kvs.map (·.2)) (kv.map (·.2)) := by
  rcases h with h | ⟨p, e, _, ⟨xs, e2, _⟩ | ⟨kvs', e2, kv, h1, h2, h3, h4⟩⟩
  · cases h with
    | dct h1 h2 h3 h4 h5 => exact ⟨_, _, rfl, h1, h3, h4, h5⟩
  · cases e2
  · cases e2
    exact ⟨p, kv, e, h1, h2, h3, h4⟩
/-- a new frozen tuple, list -/
theorem Rel.newTup {p : Addr} {ds : List D} {vs : List V} (R : Rel G al k env mem s H) (h : H p = none) (hz : vs.length ≤ sizeLine) (r : Reps G k.mu k.rho H ds vs) : Rel G al k env mem s (upd H p (.tup vs)) ∧ Rep G k.mu k.rho (upd H p (.tup vs)) (.tup ds) (.ref p) :=
  ⟨R.new h, .tup (.inl ⟨.inl upd_same, R.wr.no h⟩) hz (Reps.stay (stays_new h) r)⟩
theorem Rel.newLst {p : Addr} {ds : List D} {vs : List V} (R : Rel G al k env mem s H) (h : H p = none) (hz : vs.length ≤ sizeLine) (r : Reps G k.mu k.rho H ds vs) : Rel G al k env mem s (upd H p (.lst vs)) ∧ Rep G k.mu k.rho (upd H p (.lst vs)) (.lst ds) (.ref p) :=
  ⟨R.new h, .lst ⟨upd_same, R.wr.no h⟩ hz (Reps.stay (stays_new h) r)⟩
end

/-! ### operators by data -/
section
variable (G : Glob) (X : Cx)
/-- a two-place operation on data -/
def OpD (f' : Value → Value → Sem Value) (f : List MO → D → D → Option D) : Prop :=
  ∃ r : R2, OpR X f' r ∧ ∀ (al : Act) (k : Ka) (env : List Slot) (mem : List MO) (s : L2.St) (H : Hp) (dx dy dz : D) (x y : V) (Q : VK), Rel G al k env mem s H → PdB G k H dx x → PdB G k H dy y → f mem dx dy = some dz →
    (∀ k' v H', Rel G al k' env mem s H' → Ext k H k' H' → Rep G k'.mu k'.rho H' dz v → Q v H') → r x y H Q
def UnD (f' : Value → Sem Value) (f : List MO → D → Option D) : Prop :=
  ∃ r : V → Hp → VK → Prop, UnR X f' r ∧ ∀ (al : Act) (k : Ka) (env : List Slot) (mem : List MO) (s : L2.St) (H : Hp) (dx dz : D) (x : V) (Q : VK), Rel G al k env mem s H → PdB G k H dx x → f mem dx = some dz →
    (∀ k' v H', Rel G al k' env mem s H' → Ext k H k' H' → Rep G k'.mu k'.rho H' dz v → Q v H') → r x H Q
/-- a call of a built-in on data -/
def CallD (f' : Value) (f : List MO → List D → Option D) : Prop :=
  ∃ r : List V → Hp → VK → Prop, CallR X f' r ∧ ∀ (al : Act) (k : Ka) (env : List Slot) (mem : List MO) (s : L2.St) (H : Hp) (ds : List D) (dz : D) (xs : List V) (Q : VK), Rel G al k env mem s H → Paired (PdB G k H) ds xs → f mem ds = some dz →
    (∀ k' v H', Rel G al k' env mem s H' → Ext k H k' H' → Rep G k'.mu k'.rho H' dz v → Q v H') → r xs H Q
/-- a subscript by data -/
def IxD (f : List MO → D → D → Option D) : Prop :=
  ∃ r : R2, IxR X r ∧ ∀ (al : Act) (k : Ka) (env : List Slot) (mem : List MO) (s : L2.St) (H : Hp) (dx dy dz : D) (x y : V) (Q : VK), Rel G al k env mem s H → PdB G k H dx x → PdB G k H dy y → f mem dx dy = some dz →
    (∀ k' v H', Rel G al k' env mem s H' → Ext k H k' H' → Rep G k'.mu k'.rho H' dz v → Q v H') → r x y H Q
end

/-! ### semantic parts -/
def gC (d : D) : GE := fun _ m => .ok d m
def gVar (i : Nat) : GE := fun env m => match env[i]? with
  | some (.val d) => .ok d m
  | _ => .no
def gBor (i : Nat) : GE := fun env m => match env[i]? with
  | some (.val d) => .ok d m
  | some (.own xs) => .ok (.lst xs) m
  | some (.ownd kvs) => .ok (.dct kvs) m
  | _ => .no
def opt {α : Type} (o : Option α) (m : List MO) : RE α := match o with
  | some a => .ok a m
  | none => .no
def gBin (f : List MO → D → D → Option D) (a b : GE) : GE := fun env m => (a env m).bind fun x m => (b env m).bind fun y m => opt (f m x y) m
def gUn (f : List MO → D → Option D) (a : GE) : GE := fun env m => (a env m).bind fun x m => opt (f m x) m
def asB : D → Option Bool
  | .bl b => some b
  | _ => none
def gtV (a : GE) : GT := fun env m => (a env m).bind fun x m => opt (asB x) m
def gV (t : GT) : GE := fun env m => (t env m).bind fun b m => .ok (.bl b) m
def gtNot (t : GT) : GT := fun env m => (t env m).bind fun b m => .ok (!b) m
def gtAnd (t u : GT) : GT := fun env m => (t env m).bind fun b m => if b = true then u env m else .ok false m
def gtOr (t u : GT) : GT := fun env m => (t env m).bind fun b m => if b = true then .ok true m else u env m
def gIf (t : GT) (a b : GE) : GE := fun env m => (t env m).bind fun c m => if c = true then a env m else b env m
def gtChain (f f' : List MO → D → D → Option D) (a b c : GE) : GT := fun env m => (a env m).bind fun x m => (b env m).bind fun y m => (opt ((f m x y).bind asB) m).bind fun q m =>
  if q = true then (c env m).bind fun z m => opt ((f' m y z).bind asB) m else .ok false m
def gaNil : GA := fun _ m => .ok [] m
def gaCons (a : GE) (r : GA) : GA := fun env m => (a env m).bind fun x m => (r env m).bind fun xs m => .ok (x :: xs) m
def lim (n : Nat) : Bool := Nat.ble n 1000000
theorem lim_le {n : Nat} (h : lim n = true) : n ≤ sizeLine := Nat.le_trans (Nat.le_of_ble_eq_true h) (by decide)
theorem lim_lt {n : Nat} (h : lim n = true) : n < sizeLine := Nat.lt_of_le_of_lt (Nat.le_of_ble_eq_true h) (by decide)
def gTup (a : GA) : GE := fun env m => (a env m).bind fun xs m => if lim xs.length = true then .ok (.tup xs) m else .no
def gLst (a : GA) : GE := fun env m => (a env m).bind fun xs m => if lim xs.length = true then .ok (.lst xs) m else .no
def gCB (f : List MO → List D → Option D) (a : GA) : GE := fun env m => (a env m).bind fun xs m => opt (f m xs) m
/-- the fields of what stands there -/
def fldsOf (m : List MO) : D → Option (Str × List (Str × D))
  | .ins c fs => some (c, fs)
  | .ref i => (match m[i]? with
    | some (.ins c fs) => some (c, fs)
    | _ => none)
  | _ => none
def fldD (f : Str) (m : List MO) (d : D) : Option D := (fldsOf m d).bind fun q => q.2.lookup f

section
variable {G : Glob} {W : WX} {X : Cx} {al : Act}
theorem opt_ok {α : Type} {o : Option α} {m : List MO} {k : Ka} {env : List Slot} {s : L2.St} {H : Hp} {β : Type} {Pd : Ka → Hp → α → β → Prop} {Q : β → Hp → Prop} (h : PostR G al W Pd k env s H Q (opt o m)) : ∃ a, o = some a ∧ PostR G al W Pd k env s H Q (.ok a m) := by
  cases o with
  | none => exact h.elim
  | some a => exact ⟨a, rfl, h⟩
theorem PostR.here {α β : Type} {Pd : Ka → Hp → α → β → Prop} {Q : β → Hp → Prop} {k : Ka} {env : List Slot} {m : List MO} {s : L2.St} {H : Hp} {a : α} {v : β} (h : PostR G al W Pd k env s H Q (.ok a m)) (R : Rel G al k env m s H) (p : Pd k H a v) : Q v H := h k v H R (Ext.refl k H) p

/-! ### constants, names -/
theorem de_int {i : Int} {j pos} : DE G W X (.Constant (.int i) j pos) (gC (.int i)) := fun al => pe_weak pe_int fun s H Q ⟨k, env, mem, R, h⟩ => PostR.here h R (Rep.int i)
theorem de_str {i : Str} {j pos} : DE G W X (.Constant (.str i) j pos) (gC (.str i)) := fun al => pe_weak pe_str fun s H Q ⟨k, env, mem, R, h⟩ => PostR.here h R (Rep.str i)
theorem de_bl {i : Bool} {j pos} : DE G W X (.Constant (.bool i) j pos) (gC (.bl i)) := fun al => pe_weak pe_bl fun s H Q ⟨k, env, mem, R, h⟩ => PostR.here h R (Rep.bl i)
theorem de_non {j pos} : DE G W X (.Constant .none j pos) (gC .non) := fun al => pe_weak pe_non fun s H Q ⟨k, env, mem, R, h⟩ => PostR.here h R Rep.non
/-- a module's int -/
theorem de_gint {x : Str} {i : Int} {pos : Pos} (hm : ∃ t, X.mg x = some (.int i t)) (hg : Gl X x := by rfl) (hd : (x == ("__debug__" : Str)) = false := by decide) : DE G W X (.Name x pos) (gC (.int i)) := fun al => by
  obtain ⟨t, hm⟩ := hm
  exact pe_weak (pe_glob hg hm (v := .int i) ⟨t, rfl⟩ hd) fun s H Q ⟨k, env, mem, R, h⟩ => PostR.here h R (Rep.int i)
theorem de_var (i : Nat) {x : Str} {pos : Pos} (hN : X.N[i]? = some x := by rfl) (hv : Vis X.env.scope x := by first | exact Or.inl rfl | exact Or.inr (Or.inl rfl) | exact Or.inr (Or.inr rfl)) (hd : (x == ("__debug__" : Str)) = false := by decide)
    (hcd : (x == ("__classdict__" : Str)) = false := by decide) : DE G W X (.Name x pos) (gVar i) := fun al => pe_weak (pe_var hN hv hd hcd) fun s H Q ⟨k, env, mem, R, h⟩ => by
  unfold gVar at h
  cases e : env[i]? with
  | none => rw [e] at h; exact h.elim
  | some sl =>
    rw [e] at h
    cases sl with
    | val d =>
      obtain ⟨ov, h1, h2⟩ := R.slots i _ e
      cases ov with
      | none => exact h2.elim
      | some v => exact ⟨v, h1, PostR.here h R h2⟩
    | _ => exact h.elim
theorem db_var (i : Nat) {x : Str} {pos : Pos} (hN : X.N[i]? = some x := by rfl) (hv : Vis X.env.scope x := by first | exact Or.inl rfl | exact Or.inr (Or.inl rfl) | exact Or.inr (Or.inr rfl)) (hd : (x == ("__debug__" : Str)) = false := by decide)
    (hcd : (x == ("__classdict__" : Str)) = false := by decide) : DB G W X (.Name x pos) (gBor i) := fun al => pe_weak (pe_var hN hv hd hcd) fun s H Q ⟨k, env, mem, R, h⟩ => by
  unfold gBor at h
  cases e : env[i]? with
  | none => rw [e] at h; exact h.elim
  | some sl =>
    rw [e] at h
    obtain ⟨ov, h1, h2⟩ := R.slots i _ e
    cases sl with
    | un => exact h.elim
    | val d =>
      cases ov with
      | none => exact h2.elim
      | some v => exact ⟨v, h1, PostR.here h R (.inl h2)⟩
    | own xs =>
      cases ov with
      | none => exact h2.elim
      | some v =>
        obtain ⟨p, e1, e2, e3⟩ := h2
        exact ⟨v, h1, PostR.here h R (.inr ⟨p, e1, ⟨i, e2⟩, .inl ⟨xs, rfl, e3⟩⟩)⟩
    | ownd xs =>
      cases ov with
      | none => exact h2.elim
      | some v =>
        obtain ⟨p, e1, e2, e3⟩ := h2
        exact ⟨v, h1, PostR.here h R (.inr ⟨p, e1, ⟨i, e2⟩, .inr ⟨xs, rfl, e3⟩⟩)⟩
theorem de_b {e : Expr} {g : GE} (h : DE G W X e g) : DB G W X e g := fun al => pe_weak (h al) fun s H Q ⟨k, env, mem, R, q⟩ => by
  refine ⟨k, env, mem, R, ?_⟩
  cases hg : g env mem with
  | ok a m =>
    rw [hg] at q
    exact fun k' v H' R' E p => q k' v H' R' E (.inl p)
  | ex c m => rw [hg] at q; exact q
  | no => rw [hg] at q; exact q

/-! ### operators -/
variable {a b c e : Expr} {es : List Expr} {ga gb gc g : GE} {gt gu : GT} {gr : GA} {pos : Pos}
theorem de_bin {op : Operator} {f : List MO → D → D → Option D} (ho : OpD G X (binaryOp op) f) (ha : DB G W X a ga) (hb : DB G W X b gb) : DE G W X (.BinOp a op b pos) (gBin f ga gb) := fun al => by
  obtain ⟨r, hr, hf⟩ := ho
  refine pe_weak (pe_op hr (ha al) (hb al)) fun s H Q ⟨k, env, mem, R, h⟩ => ?_
  refine ⟨k, env, mem, R, PostR.bind h fun x m k1 v1 H1 R1 E1 P1 h => ?_⟩
  refine ⟨k1, env, m, R1, PostR.bind h fun y m2 k2 v2 H2 R2 E2 P2 h => ?_⟩
  obtain ⟨z, ez, h⟩ := opt_ok h
  exact hf al k2 env m2 s H2 x y z v1 v2 Q R2 (P1.ext R1 E2) P2 ez h
theorem de_un {op : UnaryOp} {f : List MO → D → Option D} (ho : UnD G X (unaryOp op) f) (ha : DB G W X a ga) : DE G W X (.UnaryOp op a pos) (gUn f ga) := fun al => by
  obtain ⟨r, hr, hf⟩ := ho
  refine pe_weak (pe_un hr (ha al)) fun s H Q ⟨k, env, mem, R, h⟩ => ?_
  refine ⟨k, env, mem, R, PostR.bind h fun x m k1 v1 H1 R1 E1 P1 h => ?_⟩
  obtain ⟨z, ez, h⟩ := opt_ok h
  exact hf al k1 env m s H1 x z v1 Q R1 P1 ez h
theorem de_cmp {op : CmpOp} {f : List MO → D → D → Option D} (ho : OpD G X (compareOp op) f) (ha : DB G W X a ga) (hb : DB G W X b gb) (hm : behindInMarks op b = false := by first | exact nomark _ | rfl) : DE G W X (.Compare a [op] [b] pos) (gBin f ga gb) := fun al => by
  obtain ⟨r, hr, hf⟩ := ho
  refine pe_weak (pe_cmpR hr (ha al) (hb al) hm) fun s H Q ⟨k, env, mem, R, h⟩ => ?_
  refine ⟨k, env, mem, R, PostR.bind h fun x m k1 v1 H1 R1 E1 P1 h => ?_⟩
  refine ⟨k1, env, m, R1, PostR.bind h fun y m2 k2 v2 H2 R2 E2 P2 h => ?_⟩
  obtain ⟨z, ez, h⟩ := opt_ok h
  exact hf al k2 env m2 s H2 x y z v1 v2 Q R2 (P1.ext R1 E2) P2 ez h
theorem asB_ok {d : D} {b : Bool} (h : asB d = some b) : d = .bl b := by
  cases d <;> first | (cases h; rfl) | cases h
theorem dt_cmp {op : CmpOp} {f : List MO → D → D → Option D} (ho : OpD G X (compareOp op) f) (ha : DB G W X a ga) (hb : DB G W X b gb) (hm : behindInMarks op b = false := by first | exact nomark _ | rfl) : DT G W X (.Compare a [op] [b] pos) (gtV (gBin f ga gb)) := fun al => by
  obtain ⟨r, hr, hf⟩ := ho
  refine pt_weak (pt_cmpR hr (ha al) (hb al) hm) fun s H Q ⟨k, env, mem, R, h⟩ => ?_
  have h : PostR G al W (fun _ _ (a b : Bool) => a = b) k env s H Q ((gBin f ga gb env mem).bind fun x m => opt (asB x) m) := h
  have h2 : PostR G al W (PdE G) k env s H (fun v H' => ∃ k, v = .bl k ∧ Q k H') (gBin f ga gb env mem) := PostR.bind h fun x m k1 v1 H1 R1 E1 P1 h => by
    obtain ⟨q, eq, h⟩ := opt_ok h
    rw [asB_ok eq] at P1
    cases P1
    exact ⟨q, rfl, PostR.here h R1 rfl⟩
  refine ⟨k, env, mem, R, PostR.bind h2 fun x m k1 v1 H1 R1 E1 P1 h => ?_⟩
  refine ⟨k1, env, m, R1, PostR.bind h fun y m2 k2 v2 H2 R2 E2 P2 h => ?_⟩
  obtain ⟨z, ez, h⟩ := opt_ok h
  exact hf al k2 env m2 s H2 x y z v1 v2 _ R2 (P1.ext R1 E2) P2 ez h
theorem chain_core {op op' : CmpOp} {f f' : List MO → D → D → Option D} {r r' : R2} {s : L2.St} {H : Hp} {Q : VK}
    (hf : ∀ (al : Act) (k : Ka) (env : List Slot) (mem : List MO) (s : L2.St) (H : Hp) (dx dy dz : D) (x y : V) (Q : VK), Rel G al k env mem s H → PdB G k H dx x → PdB G k H dy y → f mem dx dy = some dz → (∀ k' v H', Rel G al k' env mem s H' → Ext k H k' H' → Rep G k'.mu k'.rho H' dz v → Q v H') → r x y H Q)
    (hf' : ∀ (al : Act) (k : Ka) (env : List Slot) (mem : List MO) (s : L2.St) (H : Hp) (dx dy dz : D) (x y : V) (Q : VK), Rel G al k env mem s H → PdB G k H dx x → PdB G k H dy y → f' mem dx dy = some dz → (∀ k' v H', Rel G al k' env mem s H' → Ext k H k' H' → Rep G k'.mu k'.rho H' dz v → Q v H') → r' x y H Q)
    (h : ∃ k env mem, Rel G al k env mem s H ∧ PostR G al W (fun _ _ (a : Bool) (v : V) => v = .bl a) k env s H Q (gtChain f f' ga gb gc env mem)) : tChain r r' (dTB G al W ga) (dTB G al W gb) (dTB G al W gc) s H Q := by
  obtain ⟨k, env, mem, R, h⟩ := h
  refine ⟨k, env, mem, R, PostR.bind h fun x m k1 v1 H1 R1 E1 P1 h => ?_⟩
  refine ⟨k1, env, m, R1, PostR.bind h fun y m2 k2 v2 H2 R2 E2 P2 h => ?_⟩
  cases e : (f m2 x y).bind asB with
  | none => rw [e] at h; exact h.elim
  | some q =>
    rw [e] at h
    obtain ⟨z, ez, eq⟩ := Option.bind_eq_some_iff.mp e
    have hq := asB_ok eq
    subst hq
    refine hf al k2 env m2 s H2 x y _ v1 v2 _ R2 (P1.ext R1 E2) P2 ez fun k3 v3 H3 R3 E3 P3 => ?_
    cases P3
    refine ⟨q, rfl, ?_⟩
    have h : PostR G al W (fun _ _ (a : Bool) (v : V) => v = .bl a) k2 env s H2 Q (if q = true then (gc env m2).bind fun z m => opt ((f' m y z).bind asB) m else .ok false m2) := h
    have h := PostR.base h R3 E3
    cases q with
    | true =>
      rw [if_pos rfl] at h ⊢
      refine ⟨k3, env, m2, R3, PostR.bind h fun z m4 k4 v4 H4 R4 E4 P4 h => ?_⟩
      obtain ⟨q4, e4, h⟩ := opt_ok h
      obtain ⟨z4, ez4, eq4⟩ := Option.bind_eq_some_iff.mp e4
      have hq4 := asB_ok eq4
      subst hq4
      refine hf' al k4 env m4 s H4 y z _ v2 v4 _ R4 (((P2.ext R2 E3)).ext R3 E4) P4 ez4 fun k5 v5 H5 R5 E5 P5 => ?_
      cases P5
      exact h k5 _ H5 R5 E5 rfl
    | false =>
      rw [if_neg Bool.false_ne_true] at h ⊢
      exact PostR.here h R3 rfl
theorem dt_chain {op op' : CmpOp} {f f' : List MO → D → D → Option D} (ho : OpD G X (compareOp op) f) (ho' : OpD G X (compareOp op') f') (ha : DB G W X a ga) (hb : DB G W X b gb) (hc : DB G W X c gc)
    (hm : lastMarks [op, op'] [b, c] = false := by with_unfolding_all rfl) : DT G W X (.Compare a [op, op'] [b, c] pos) (gtChain f f' ga gb gc) := fun al => by
  obtain ⟨r, hr, hf⟩ := ho
  obtain ⟨r', hr', hf'⟩ := ho'
  refine pt_weak (pt_chain hr hr' (ha al) (hb al) (hc al) hm) fun s H Q ⟨k, env, mem, R, h⟩ => ?_
  refine chain_core (op := op) (op' := op') hf hf' ⟨k, env, mem, R, ?_⟩
  cases hg : gtChain f f' ga gb gc env mem with
  | ok a m =>
    rw [hg] at h
    exact fun k' v H' R' E P => ⟨a, P, h k' a H' R' E rfl⟩
  | ex c m => rw [hg] at h; exact h
  | no => rw [hg] at h; exact h
theorem de_chain {op op' : CmpOp} {f f' : List MO → D → D → Option D} (ho : OpD G X (compareOp op) f) (ho' : OpD G X (compareOp op') f') (ha : DB G W X a ga) (hb : DB G W X b gb) (hc : DB G W X c gc)
    (hm : lastMarks [op, op'] [b, c] = false := by with_unfolding_all rfl) : DE G W X (.Compare a [op, op'] [b, c] pos) (gV (gtChain f f' ga gb gc)) := fun al => by
  obtain ⟨r, hr, hf⟩ := ho
  obtain ⟨r', hr', hf'⟩ := ho'
  refine pe_weak (pe_chain hr hr' (ha al) (hb al) (hc al) hm) fun s H Q ⟨k, env, mem, R, h⟩ => ?_
  refine chain_core (op := op) (op' := op') hf hf' ⟨k, env, mem, R, ?_⟩
  refine PostR.bind h fun x m k1 v1 H1 R1 E1 P1 h => ?_
  subst P1
  exact PostR.here h R1 (Rep.bl x)

/-! ### tests -/
theorem dt_val (ha : DE G W X a ga) (he : ∀ whole, isTrue a X.env whole = (do let v ← whole; standAt a.pos; holding [v] (truthy v)) := by intro _; rfl) : DT G W X a (gtV ga) := fun al => pt_weak (pt_val (ha al) he) fun s H Q ⟨k, env, mem, R, h⟩ => by
  refine ⟨k, env, mem, R, PostR.bind h fun x m k1 v1 H1 R1 E1 P1 h => ?_⟩
  obtain ⟨q, eq, h⟩ := opt_ok h
  rw [asB_ok eq] at P1
  cases P1
  exact ⟨q, rfl, PostR.here h R1 rfl⟩
theorem dt_not (ha : DT G W X a gt) : DT G W X (.UnaryOp .Not a pos) (gtNot gt) := fun al => pt_weak (pt_not (ha al)) fun s H Q ⟨k, env, mem, R, h⟩ => by
  refine ⟨k, env, mem, R, PostR.bind h fun x m k1 v1 H1 R1 E1 P1 h => ?_⟩
  subst P1
  exact PostR.here h R1 rfl
theorem dw_and1 (ha : DT G W X a gt) : DW G W X (.BoolOp .And [a] pos) gt := fun al => pw_and1 (ha al)
theorem dw_or1 (ha : DT G W X a gt) : DW G W X (.BoolOp .Or [a] pos) gt := fun al => pw_or1 (ha al)
theorem dw_and (ha : DT G W X a gt) (hb : DW G W X (.BoolOp .And (b :: es) pos) gu) : DW G W X (.BoolOp .And (a :: b :: es) pos) (gtAnd gt gu) := fun al => pw_weak (pw_and (ha al) (hb al)) fun s H Q ⟨k, env, mem, R, h⟩ => by
  refine ⟨k, env, mem, R, PostR.bind h fun x m k1 v1 H1 R1 E1 P1 h => ?_⟩
  subst P1
  cases x with
  | true =>
    rw [if_pos rfl] at h ⊢
    exact ⟨k1, env, m, R1, h⟩
  | false =>
    rw [if_neg Bool.false_ne_true] at h ⊢
    exact PostR.here h R1 rfl
theorem dw_or (ha : DT G W X a gt) (hb : DW G W X (.BoolOp .Or (b :: es) pos) gu) : DW G W X (.BoolOp .Or (a :: b :: es) pos) (gtOr gt gu) := fun al => pw_weak (pw_or (ha al) (hb al)) fun s H Q ⟨k, env, mem, R, h⟩ => by
  refine ⟨k, env, mem, R, PostR.bind h fun x m k1 v1 H1 R1 E1 P1 h => ?_⟩
  subst P1
  cases x with
  | true =>
    rw [if_pos rfl] at h ⊢
    exact PostR.here h R1 rfl
  | false =>
    rw [if_neg Bool.false_ne_true] at h ⊢
    exact ⟨k1, env, m, R1, h⟩
theorem dt_w {op : PySem.BoolOp} (h : DW G W X (.BoolOp op es pos) gt) : DT G W X (.BoolOp op es pos) gt := fun al => (h al).pt
/-- the same as values: bools -/
theorem de_one {op : PySem.BoolOp} (ha : DE G W X a ga) : DE G W X (.BoolOp op [a] pos) (gV (gtV ga)) := fun al => pe_weak (pe_one (op := op) (ha al)) fun s H Q ⟨k, env, mem, R, h⟩ => by
  have h : PostR G al W (PdE G) k env s H Q (((ga env mem).bind fun x m => opt (asB x) m).bind fun b m => .ok (.bl b) m) := h
  refine ⟨k, env, mem, R, ?_⟩
  cases hg : ga env mem with
  | ok d m =>
    rw [hg] at h
    intro k1 v1 H1 R1 E1 P1
    cases hb : asB d with
    | none =>
      have h : PostR G al W (PdE G) k env s H Q ((opt (asB d) m).bind fun b m => .ok (.bl b) m) := h
      rw [hb] at h
      exact h.elim
    | some b =>
      have h : PostR G al W (PdE G) k env s H Q ((opt (asB d) m).bind fun b m => .ok (.bl b) m) := h
      rw [hb] at h
      rw [asB_ok hb] at P1
      exact h k1 v1 H1 R1 E1 P1
  | ex c m => rw [hg] at h; exact h
  | no => rw [hg] at h; exact h
theorem de_and (ha : DE G W X a ga) (hb : DE G W X (.BoolOp .And (b :: es) pos) (gV gu)) : DE G W X (.BoolOp .And (a :: b :: es) pos) (gV (gtAnd (gtV ga) gu)) := fun al => pe_weak (pe_and (ha al) (hb al)) fun s H Q ⟨k, env, mem, R, h⟩ => by
  have h : PostR G al W (PdE G) k env s H Q ((((ga env mem).bind fun x m => opt (asB x) m).bind fun b m => if b = true then gu env m else .ok false m).bind fun b m => .ok (.bl b) m) := h
  refine ⟨k, env, mem, R, ?_⟩
  cases hg : ga env mem with
  | ok d m =>
    rw [hg] at h
    intro k1 v1 H1 R1 E1 P1
    have h : PostR G al W (PdE G) k env s H Q (((opt (asB d) m).bind fun b m => if b = true then gu env m else .ok false m).bind fun b m => .ok (.bl b) m) := h
    cases hb : asB d with
    | none => rw [hb] at h; exact h.elim
    | some b =>
      rw [hb] at h
      rw [asB_ok hb] at P1
      cases P1
      refine ⟨b, rfl, ?_⟩
      cases b with
      | true =>
        rw [if_pos rfl]
        exact ⟨k1, env, m, R1, PostR.base (r := gV gu env m) h R1 E1⟩
      | false =>
        rw [if_neg Bool.false_ne_true]
        exact h k1 _ H1 R1 E1 (Rep.bl false)
  | ex c m => rw [hg] at h; exact h
  | no => rw [hg] at h; exact h
theorem de_or (ha : DE G W X a ga) (hb : DE G W X (.BoolOp .Or (b :: es) pos) (gV gu)) : DE G W X (.BoolOp .Or (a :: b :: es) pos) (gV (gtOr (gtV ga) gu)) := fun al => pe_weak (pe_or (ha al) (hb al)) fun s H Q ⟨k, env, mem, R, h⟩ => by
  have h : PostR G al W (PdE G) k env s H Q ((((ga env mem).bind fun x m => opt (asB x) m).bind fun b m => if b = true then .ok true m else gu env m).bind fun b m => .ok (.bl b) m) := h
  refine ⟨k, env, mem, R, ?_⟩
  cases hg : ga env mem with
  | ok d m =>
    rw [hg] at h
    intro k1 v1 H1 R1 E1 P1
    have h : PostR G al W (PdE G) k env s H Q (((opt (asB d) m).bind fun b m => if b = true then .ok true m else gu env m).bind fun b m => .ok (.bl b) m) := h
    cases hb : asB d with
    | none => rw [hb] at h; exact h.elim
    | some b =>
      rw [hb] at h
      rw [asB_ok hb] at P1
      cases P1
      refine ⟨b, rfl, ?_⟩
      cases b with
      | false =>
        rw [if_neg Bool.false_ne_true]
        exact ⟨k1, env, m, R1, PostR.base (r := gV gu env m) h R1 E1⟩
      | true =>
        rw [if_pos rfl]
        exact h k1 _ H1 R1 E1 (Rep.bl true)
  | ex c m => rw [hg] at h; exact h
  | no => rw [hg] at h; exact h
theorem de_not (ha : DE G W X a ga) : DE G W X (.UnaryOp .Not a pos) (gV (gtNot (gtV ga))) := fun al => pe_weak (pe_not (ha al)) fun s H Q ⟨k, env, mem, R, h⟩ => by
  have h : PostR G al W (PdE G) k env s H Q ((((ga env mem).bind fun x m => opt (asB x) m).bind fun b m => .ok (!b) m).bind fun b m => .ok (.bl b) m) := h
  refine ⟨k, env, mem, R, ?_⟩
  cases hg : ga env mem with
  | ok d m =>
    rw [hg] at h
    intro k1 v1 H1 R1 E1 P1
    have h : PostR G al W (PdE G) k env s H Q (((opt (asB d) m).bind fun b m => .ok (!b) m).bind fun b m => .ok (.bl b) m) := h
    cases hb : asB d with
    | none => rw [hb] at h; exact h.elim
    | some b =>
      rw [hb] at h
      rw [asB_ok hb] at P1
      cases P1
      exact ⟨b, rfl, h k1 _ H1 R1 E1 (Rep.bl (!b))⟩
  | ex c m => rw [hg] at h; exact h
  | no => rw [hg] at h; exact h
theorem de_if (hc : DT G W X c gt) (ha : DE G W X a ga) (hb : DE G W X b gb) : DE G W X (.IfExp c a b pos) (gIf gt ga gb) := fun al => pe_weak (pe_ifExp (hc al) (ha al) (hb al)) fun s H Q ⟨k, env, mem, R, h⟩ => by
  refine ⟨k, env, mem, R, PostR.bind h fun x m k1 v1 H1 R1 E1 P1 h => ?_⟩
  subst P1
  cases x with
  | true =>
    rw [if_pos rfl] at h ⊢
    exact ⟨k1, env, m, R1, h⟩
  | false =>
    rw [if_neg Bool.false_ne_true] at h ⊢
    exact ⟨k1, env, m, R1, h⟩

/-! ### arguments, displays -/
theorem da_nil : DA G W X [] gaNil := fun al => pa_weak pa_nil fun s H Q ⟨k, env, mem, R, h⟩ => PostR.here h R Reps.nil
theorem da_cons (ha : DE G W X e g) (hr : DA G W X es gr) (hs : starEach (e :: es) X.env = (false, eval e X.env) :: starEach es X.env := by rfl) : DA G W X (e :: es) (gaCons g gr) := fun al => pa_weak (pa_cons (ha al) (hr al) hs) fun s H Q ⟨k, env, mem, R, h⟩ => by
  refine ⟨k, env, mem, R, PostR.bind h fun x m k1 v1 H1 R1 E1 P1 h => ?_⟩
  refine ⟨k1, env, m, R1, PostR.bind h fun xs m2 k2 v2 H2 R2 E2 P2 h => ?_⟩
  exact PostR.here h R2 (.cons (P1.ext E2) P2)
theorem dab_nil : DAB G W X [] gaNil := fun al => pa_weak pa_nil fun s H Q ⟨k, env, mem, R, h⟩ => PostR.here h R .nil
theorem Paired.ext {al : Act} {k k' : Ka} {env : List Slot} {mem : List MO} {s : L2.St} {H H' : Hp} (R : Rel G al k env mem s H) (E : Ext k H k' H') : ∀ {ds : List D} {vs : List V}, Paired (PdB G k H) ds vs → Paired (PdB G k' H') ds vs
  | _, _, .nil => .nil
  | _, _, .cons a b => .cons (a.ext R E) (Paired.ext R E b)
theorem dab_cons (ha : DB G W X e g) (hr : DAB G W X es gr) (hs : starEach (e :: es) X.env = (false, eval e X.env) :: starEach es X.env := by rfl) : DAB G W X (e :: es) (gaCons g gr) := fun al => pa_weak (pa_cons (ha al) (hr al) hs) fun s H Q ⟨k, env, mem, R, h⟩ => by
  refine ⟨k, env, mem, R, PostR.bind h fun x m k1 v1 H1 R1 E1 P1 h => ?_⟩
  refine ⟨k1, env, m, R1, PostR.bind h fun xs m2 k2 v2 H2 R2 E2 P2 h => ?_⟩
  exact PostR.here h R2 (.cons (P1.ext R1 E2) P2)
theorem de_tup {x1} (ha : DA G W X es gr) : DE G W X (.Tuple es x1 pos) (gTup gr) := fun al => pe_weak (pe_tup (ha al)) fun s H Q ⟨k, env, mem, R, h⟩ => by
  refine ⟨k, env, mem, R, PostR.bind h fun x m k1 v1 H1 R1 E1 P1 h => ?_⟩
  by_cases hz : lim x.length = true
  · rw [if_pos hz] at h
    have hz' : v1.length ≤ sizeLine := by rw [← P1.length]; exact lim_le hz
    refine ⟨hz', fun p hp => ?_⟩
    obtain ⟨r1, r2⟩ := R1.newTup hp hz' P1
    exact h k1 _ _ r1 (Ext.new hp) r2
  · rw [if_neg hz] at h
    exact h.elim
theorem de_lst (ha : DA G W X es gr) : DE G W X (.List es pos) (gLst gr) := fun al => pe_weak (pe_lst (ha al)) fun s H Q ⟨k, env, mem, R, h⟩ => by
  refine ⟨k, env, mem, R, PostR.bind h fun x m k1 v1 H1 R1 E1 P1 h => ?_⟩
  by_cases hz : lim x.length = true
  · rw [if_pos hz] at h
    have hz' : v1.length ≤ sizeLine := by rw [← P1.length]; exact lim_le hz
    refine ⟨hz', fun p hp => ?_⟩
    obtain ⟨r1, r2⟩ := R1.newLst hp hz' P1
    exact h k1 _ _ r1 (Ext.new hp) r2
  · rw [if_neg hz] at h
    exact h.elim
/-! ### built-ins called, subscripts, fields -/
theorem de_callB {id : String} {x : Str} {p : Pos} {f : List MO → List D → Option D} (hc : CallD G X (.builtin id) f) (hm : X.mg x = none) (hv : bootBuiltins x = some (.builtin id)) (ha : DAB G W X (e :: es) gr) (hg : Gl X x := by rfl) (hn : x ≠ "__name__" := by decide) (hdb : (x == ("__debug__" : Str)) = false := by decide)
    (he : starEach (e :: es) X.env = (false, eval e X.env) :: starEach es X.env := by rfl) (hpl : (backTo pos (starEach es X.env)).any (·.1) = false := by rfl) : DE G W X (.Call (.Name x p) (e :: es) [] pos) (gCB f gr) := fun al => by
  obtain ⟨r, hr, hf⟩ := hc
  refine pe_weak (pe_callB hr hg hm hv (ha al) hn hdb he hpl) fun s H Q ⟨k, env, mem, R, h⟩ => ?_
  refine ⟨k, env, mem, R, PostR.bind h fun x m k1 v1 H1 R1 E1 P1 h => ?_⟩
  obtain ⟨z, ez, h⟩ := opt_ok h
  exact hf al k1 env m s H1 x z v1 Q R1 P1 ez h
theorem de_callTy {T : String} {x : Str} {p : Pos} {f : List MO → List D → Option D} (hc : CallD G X (.type T) f) (hm : X.mg x = none) (hv : bootBuiltins x = some (.type T)) (ha : DAB G W X (e :: es) gr) (hg : Gl X x := by rfl) (hn : x ≠ "__name__" := by decide) (hdb : (x == ("__debug__" : Str)) = false := by decide)
    (he : starEach (e :: es) X.env = (false, eval e X.env) :: starEach es X.env := by rfl) (hpl : (backTo pos (starEach es X.env)).any (·.1) = false := by rfl) : DE G W X (.Call (.Name x p) (e :: es) [] pos) (gCB f gr) := fun al => by
  obtain ⟨r, hr, hf⟩ := hc
  refine pe_weak (pe_callTy hr hg hm hv (ha al) hn hdb he hpl) fun s H Q ⟨k, env, mem, R, h⟩ => ?_
  refine ⟨k, env, mem, R, PostR.bind h fun x m k1 v1 H1 R1 E1 P1 h => ?_⟩
  obtain ⟨z, ez, h⟩ := opt_ok h
  exact hf al k1 env m s H1 x z v1 Q R1 P1 ez h
theorem de_ix {f : List MO → D → D → Option D} (ho : IxD G X f) (ha : DB G W X a ga) (hb : DB G W X b gb) (hs : PlainIx b := by exact fun _ _ => rfl) : DE G W X (.Subscript a b pos) (gBin f ga gb) := fun al => by
  obtain ⟨r, hr, hf⟩ := ho
  refine pe_weak (pe_ix hr (ha al) (hb al) hs) fun s H Q ⟨k, env, mem, R, h⟩ => ?_
  refine ⟨k, env, mem, R, PostR.bind h fun x m k1 v1 H1 R1 E1 P1 h => ?_⟩
  refine ⟨k1, env, m, R1, PostR.bind h fun y m2 k2 v2 H2 R2 E2 P2 h => ?_⟩
  obtain ⟨z, ez, h⟩ := opt_ok h
  exact hf al k2 env m2 s H2 x y z v1 v2 Q R2 (P1.ext R1 E2) P2 ez h
/-- what the fields need of the classes -/
def FldOk (G : Glob) (f : Str) : Prop := ∀ c C, G.cls c = some C → Cls G.K C ∧ NoAttr G.K C f
theorem lookup_rep {k : Ka} {H : Hp} {f : Str} : ∀ {fs : List (Str × D)} {fv : List (Str × V)} {d : D}, fs.map (·.1) = fv.map (·.1) → Reps G k.mu k.rho H (fs.map (·.2)) (fv.map (·.2)) → fs.lookup f = some d → ∃ v, fv.lookup f = some v ∧ Rep G k.mu k.rho H d v
  | [], _, _, _, _, h => by cases h
  | (x, d0) :: fs, [], _, h, _, _ => by cases h
  | (x, d0) :: fs, (y, v0) :: fv, d, h1, h2, h3 => by
    obtain ⟨e1, e2⟩ := List.cons.inj h1
    have e1 : x = y := e1
    subst e1
    cases h2 with
    | cons r rs =>
      rw [List.lookup_cons] at h3 ⊢
      cases hb : f == x with
      | true =>
        rw [hb] at h3
        cases h3
        exact ⟨v0, rfl, r⟩
      | false =>
        rw [hb] at h3
        exact lookup_rep e2 rs h3
theorem PdB.flds {al : Act} {k : Ka} {env : List Slot} {mem : List MO} {s : L2.St} {H : Hp} {d : D} {v : V} {c : Str} {fs : List (Str × D)} (R : Rel G al k env mem s H) (h : PdB G k H d v) (e : fldsOf mem d = some (c, fs)) : ∃ (a C dx : Addr) (fv : List (Str × V)), v = .ref a ∧ H a = some (.ins C dx fv) ∧ G.cls c = some C ∧ fs.map (·.1) = fv.map (·.1) ∧ Reps G k.mu k.rho H (fs.map (·.2)) (fv.map (·.2)) := by
  cases d with
  | ins c' fs' =>
    cases e
    exact h.ins
  | ref i =>
    obtain ⟨a, rfl, ha⟩ := h.ref
    cases hm : mem[i]? with
    | none =>
      have e : (match mem[i]? with | some (.ins c fs) => some (c, fs) | _ => none) = some (c, fs) := e
      rw [hm] at e
      cases e
    | some mo =>
      have e : (match mem[i]? with | some (.ins c fs) => some (c, fs) | _ => none) = some (c, fs) := e
      rw [hm] at e
      cases mo with
      | ins c' fs' =>
        cases e
        obtain ⟨C, dx, fv, h1, h2, h3, h4⟩ := R.wr.mem i _ a hm ha
        exact ⟨a, C, dx, fv, rfl, h1, h2, h3, h4⟩
      | _ => cases e
  | _ => cases e
theorem de_fld {f : Str} (hK : X.K = G.K) (hf : FldOk G f) (ha : DB G W X a ga) (hb : attributeBase a f X.env (eval a X.env) = eval a X.env := by rfl) : DE G W X (.Attribute a f pos) (gUn (fldD f) ga) := fun al => pe_weak (pe_fld (ha al) hb) fun s H Q ⟨k, env, mem, R, h⟩ => by
  refine ⟨k, env, mem, R, PostR.bind h fun x m k1 v1 H1 R1 E1 P1 h => ?_⟩
  obtain ⟨z, ez, h⟩ := opt_ok h
  obtain ⟨⟨c, fs⟩, e1, e2⟩ := Option.bind_eq_some_iff.mp ez
  obtain ⟨a, C, dx, fv, rfl, q1, q2, q3, q4⟩ := P1.flds R1 e1
  obtain ⟨v, r1, r2⟩ := lookup_rep q3 q4 e2
  rw [hK]
  exact ⟨a, C, dx, fv, v, rfl, q1, (hf c C q2).1, (hf c C q2).2, r1, PostR.here h R1 r2⟩
end
end DL
/-! DL2: operators, built-ins on data. -/
namespace DL
open PySem PySem.Spec L2

/-- what the rules ask of a context -/
structure CO (G : Glob) (X : Cx) : Prop where
  K : X.K = G.K
  un : X.A.units + 200 < cLine
  calm : X.calm = true

/-! ### lists, tuples that stand there -/
def lstOf (m : List MO) : D → Option (List D)
  | .lst xs => some xs
  | .ref i => (match m[i]? with
    | some (.lst xs) => some xs
    | _ => none)
  | _ => none
section
variable {G : Glob} {X : Cx} {al : Act} {k : Ka} {env : List Slot} {mem : List MO} {s : L2.St} {H : Hp}
theorem PdB.lstOf {d : D} {ds : List D} {v : V} (R : Rel G al k env mem s H) (h : PdB G k H d v) (e : lstOf mem d = some ds) : ∃ a vs, v = .ref a ∧ H a = some (.lst vs) ∧ vs.length ≤ sizeLine ∧ Reps G k.mu k.rho H ds vs := by
  cases d with
  | lst xs =>
    cases e
    exact h.lst
  | ref i =>
    obtain ⟨a, rfl, ha⟩ := h.ref
    have e : (match mem[i]? with | some (.lst xs) => some xs | _ => none) = some ds := e
    cases hm : mem[i]? with
    | none => rw [hm] at e; cases e
    | some mo =>
      rw [hm] at e
      cases mo with
      | lst xs =>
        cases e
        obtain ⟨vs, h1, h2, h3⟩ := R.wr.mem i _ a hm ha
        exact ⟨a, vs, rfl, h1, h2, h3⟩
      | _ => cases e
  | _ => cases e
/-- a list or a tuple -/
def seqOf (m : List MO) : D → Option (List D)
  | .tup xs => some xs
  | d => lstOf m d
theorem PdB.seqOf {d : D} {ds : List D} {v : V} (R : Rel G al k env mem s H) (h : PdB G k H d v) (e : seqOf mem d = some ds) : ∃ a vs, v = .ref a ∧ (SqL G.K H a vs ∨ SqT G.K H a vs) ∧ vs.length ≤ sizeLine ∧ Reps G k.mu k.rho H ds vs := by
  by_cases ht : ∃ xs, d = .tup xs
  · obtain ⟨xs, rfl⟩ := ht
    cases e
    obtain ⟨a, vs, h1, h2, h3, h4⟩ := h.tup
    exact ⟨a, vs, h1, .inr h2.sq, h3, h4⟩
  · have e2 : DL.lstOf mem d = some ds := by
      cases d with
      | tup xs => exact absurd ⟨xs, rfl⟩ ht
      | _ => exact e
    obtain ⟨a, vs, h1, h2, h3, h4⟩ := h.lstOf R e2
    exact ⟨a, vs, h1, .inl (SqL.of h2), h3, h4⟩
end

/-! ### alternatives -/
def orD (f g : List MO → D → D → Option D) : List MO → D → D → Option D := fun m x y => match f m x y with
  | some d => some d
  | none => g m x y
theorem orD_or {f g : List MO → D → D → Option D} {m : List MO} {x y z : D} (h : orD f g m x y = some z) : f m x y = some z ∨ g m x y = some z := by
  unfold orD at h
  cases e : f m x y with
  | some d => rw [e] at h; exact .inl h
  | none => rw [e] at h; exact .inr h
theorem OpD.or {G : Glob} {X : Cx} {o : Value → Value → Sem Value} {f g : List MO → D → D → Option D} (a : OpD G X o f) (b : OpD G X o g) : OpD G X o (orD f g) := by
  obtain ⟨r, h1, h2⟩ := a
  obtain ⟨r', h1', h2'⟩ := b
  refine ⟨_, h1.or h1', fun al k env mem s H dx dy dz x y Q R px py e q => ?_⟩
  rcases orD_or e with e | e
  · exact .inl (h2 al k env mem s H dx dy dz x y Q R px py e q)
  · exact .inr (h2' al k env mem s H dx dy dz x y Q R px py e q)
theorem IxD.or {G : Glob} {X : Cx} {f g : List MO → D → D → Option D} (a : IxD G X f) (b : IxD G X g) : IxD G X (orD f g) := by
  obtain ⟨r, h1, h2⟩ := a
  obtain ⟨r', h1', h2'⟩ := b
  refine ⟨_, h1.or h1', fun al k env mem s H dx dy dz x y Q R px py e q => ?_⟩
  rcases orD_or e with e | e
  · exact .inl (h2 al k env mem s H dx dy dz x y Q R px py e q)
  · exact .inr (h2' al k env mem s H dx dy dz x y Q R px py e q)

/-! ### ints -/
def iiD (c : Int → Int → Bool) (g : Int → Int → D) : List MO → D → D → Option D := fun _ x y => match x, y with
  | .int i, .int j => if c i j = true then some (g i j) else none
  | _, _ => none
theorem iiD_some {c : Int → Int → Bool} {g : Int → Int → D} {m : List MO} {x y z : D} (h : iiD c g m x y = some z) : ∃ i j, x = .int i ∧ y = .int j ∧ c i j = true ∧ z = g i j := by
  unfold iiD at h
  split at h
  · rename_i i j
    by_cases hc : c i j = true
    · rw [if_pos hc] at h
      exact ⟨i, j, rfl, rfl, hc, (Option.some.inj h).symm⟩
    · rw [if_neg hc] at h
      cases h
  · cases h
/-- what is plain: an int, a bool -/
def toV : D → Option V
  | .int i => some (.int i)
  | .bl b => some (.bl b)
  | .str x => some (.str x)
  | .non => some .non
  | _ => none
theorem rep_toV {G : Glob} {mu : Addr → Prop} {rho : List Addr} {H : Hp} {d : D} {v : V} (h : toV d = some v) : Rep G mu rho H d v := by
  cases d with
  | int i => cases h; exact .int i
  | bl i => cases h; exact .bl i
  | str i => cases h; exact .str i
  | non => cases h; exact .non
  | _ => cases h
theorem opII {G : Glob} {X : Cx} {o : Value → Value → Sem Value} {C : Int → Int → Prop} {c : Int → Int → Bool} {g : Int → Int → D} {gv : Int → Int → V} (h : OpR X o (rI C gv)) (hc : ∀ i j, c i j = true → C i j) (hg : ∀ i j, toV (g i j) = some (gv i j)) : OpD G X o (iiD c g) := by
  refine ⟨_, h, fun al k env mem s H dx dy dz x y Q R px py e q => ?_⟩
  obtain ⟨i, j, rfl, rfl, h1, rfl⟩ := iiD_some e
  exact ⟨i, j, px.int, py.int, hc i j h1, q k _ H R (Ext.refl k H) (rep_toV (hg i j))⟩
theorem opII0 {G : Glob} {X : Cx} {o : Value → Value → Sem Value} {g : Int → Int → D} {gv : Int → Int → V} (h : OpR X o (rI0 gv)) (hg : ∀ i j, toV (g i j) = some (gv i j)) : OpD G X o (iiD (fun _ _ => true) g) := by
  refine ⟨_, h, fun al k env mem s H dx dy dz x y Q R px py e q => ?_⟩
  obtain ⟨i, j, rfl, rfl, h1, rfl⟩ := iiD_some e
  exact ⟨i, j, px.int, py.int, q k _ H R (Ext.refl k H) (rep_toV (hg i j))⟩
def smallI (i : Int) : Bool := decide (-(2 ^ 64) < i) && decide (i < 2 ^ 64)
theorem smallI_ok {i : Int} (h : smallI i = true) : -(2 ^ 64) < i ∧ i < 2 ^ 64 := by
  unfold smallI at h
  simpa using h
def cMul (i j : Int) : Bool := smallI i || smallI j
def cDiv (_ j : Int) : Bool := decide (0 < j) && smallI j
def cMod (_ j : Int) : Bool := decide (0 < j)

section
variable {G : Glob} {X : Cx}
/-! ### sums of texts, tuples, lists -/
def strAdd : List MO → D → D → Option D := fun _ x y => match x, y with
  | .str a, .str b => if lim (a.length + b.length) = true then some (.str (a ++ b)) else none
  | _, _ => none
def tupAdd : List MO → D → D → Option D := fun _ x y => match x, y with
  | .tup a, .tup b => if lim (a.length + b.length) = true then some (.tup (a ++ b)) else none
  | _, _ => none
def lstAdd : List MO → D → D → Option D := fun m x y => (lstOf m x).bind fun a => (lstOf m y).bind fun b => if lim (a.length + b.length) = true then some (.lst (a ++ b)) else none
theorem opd_strAdd : OpD G X (binaryOp .Add) strAdd := by
  refine ⟨_, op_add_str, fun al k env mem s H dx dy dz x y Q R px py e q => ?_⟩
  unfold strAdd at e
  split at e
  · rename_i a b
    by_cases hl : lim (a.length + b.length) = true
    · rw [if_pos hl] at e
      cases e
      exact ⟨a, b, px.str, py.str, lim_le hl, q k _ H R (Ext.refl k H) (.str _)⟩
    · rw [if_neg hl] at e
      cases e
  · cases e
theorem nil_of_len {α β : Type} {xs : List α} {ys : List β} (h : xs.length = ys.length) (e : ys = []) : xs = [] := by
  subst e
  exact List.eq_nil_of_length_eq_zero h
theorem opd_tupAdd (c : CO G X) : OpD G X (binaryOp .Add) tupAdd := by
  refine ⟨_, op_catA, fun al k env mem s H dx dy dz x y Q R px py e q => ?_⟩
  unfold tupAdd at e
  split at e
  · rename_i as bs
    by_cases hl : lim (as.length + bs.length) = true
    · rw [if_pos hl] at e
      cases e
      obtain ⟨a, vs, rfl, h1, h2, h3⟩ := px.tup
      obtain ⟨b, us, rfl, g1, g2, g3⟩ := py.tup
      have hz : (vs ++ us).length ≤ sizeLine := by
        rw [List.length_append, ← h3.length, ← g3.length]
        exact lim_le hl
      rw [c.K]
      refine ⟨a, b, vs, us, rfl, rfl, h1.sq, g1.sq, by rw [← h3.length, ← g3.length]; exact lim_le hl, fun e0 => ?_, fun _ e0 => ?_, fun _ _ p hp => ?_⟩
      · have e1 := nil_of_len h3.length e0
        subst e1
        exact q k _ H R (Ext.refl k H) (.tup g1 g2 g3)
      · have e1 := nil_of_len g3.length e0
        subst e1
        rw [List.append_nil] at *
        exact q k _ H R (Ext.refl k H) (.tup h1 h2 h3)
      · obtain ⟨r1, r2⟩ := R.newTup hp hz (h3.append g3)
        exact q k _ _ r1 (Ext.new hp) r2
    · rw [if_neg hl] at e
      cases e
  · cases e
theorem opd_lstAdd : OpD G X (binaryOp .Add) lstAdd := by
  refine ⟨_, op_cat, fun al k env mem s H dx dy dz x y Q R px py e q => ?_⟩
  obtain ⟨as, e1, e⟩ := Option.bind_eq_some_iff.mp e
  obtain ⟨bs, e2, e⟩ := Option.bind_eq_some_iff.mp e
  by_cases hl : lim (as.length + bs.length) = true
  · rw [if_pos hl] at e
    cases e
    obtain ⟨a, vs, rfl, h1, h2, h3⟩ := px.lstOf R e1
    obtain ⟨b, us, rfl, g1, g2, g3⟩ := py.lstOf R e2
    have hz : (vs ++ us).length ≤ sizeLine := by
      rw [List.length_append, ← h3.length, ← g3.length]
      exact lim_le hl
    refine ⟨a, b, vs, us, rfl, rfl, h1, g1, by rw [← h3.length, ← g3.length]; exact lim_le hl, fun p hp => ?_⟩
    obtain ⟨r1, r2⟩ := R.newLst hp hz (h3.append g3)
    exact q k _ _ r1 (Ext.new hp) r2
  · rw [if_neg hl] at e
    cases e
def fAdd : List MO → D → D → Option D := orD (iiD (fun _ _ => true) fun i j => .int (i + j)) (orD tupAdd (orD lstAdd strAdd))
theorem od_add (c : CO G X) : OpD G X (binaryOp .Add) fAdd := (opII0 op_add fun _ _ => rfl).or ((opd_tupAdd c).or (opd_lstAdd.or opd_strAdd))
def fSub : List MO → D → D → Option D := iiD (fun _ _ => true) fun i j => .int (i - j)
theorem od_sub : OpD G X (binaryOp .Sub) fSub := opII0 op_sub fun _ _ => rfl
/-- a list, a tuple many times -/
def lstMul : List MO → D → D → Option D := fun m x y => match y with
  | .int n => (lstOf m x).bind fun a => if (decide (-(2 ^ 63) ≤ n) && decide (n < 2 ^ 63) && lim (a.length * n.toNat)) = true then some (.lst (List.replicate n.toNat a).flatten) else none
  | _ => none
theorem opd_lstMul : OpD G X (binaryOp .Mult) lstMul := by
  refine ⟨_, op_rep, fun al k env mem s H dx dy dz x y Q R px py e q => ?_⟩
  unfold lstMul at e
  split at e
  · rename_i n
    obtain ⟨as, e1, e⟩ := Option.bind_eq_some_iff.mp e
    by_cases hl : (decide (-(2 ^ 63) ≤ n) && decide (n < 2 ^ 63) && lim (as.length * n.toNat)) = true
    · rw [if_pos hl] at e
      cases e
      simp only [Bool.and_eq_true, decide_eq_true_eq] at hl
      obtain ⟨a, vs, rfl, h1, h2, h3⟩ := px.lstOf R e1
      have hz : (List.replicate n.toNat vs).flatten.length ≤ sizeLine := by
        rw [List.length_flatten, List.map_replicate, List.sum_replicate_nat, Nat.mul_comm, ← h3.length]
        exact lim_le hl.2
      refine ⟨a, n, vs, rfl, py.int, h1, hl.1.1, hl.1.2, by rw [← h3.length]; exact lim_le hl.2, fun p hp => ?_⟩
      obtain ⟨r1, r2⟩ := R.newLst hp hz (h3.replicate n.toNat)
      exact q k _ _ r1 (Ext.new hp) r2
    · rw [if_neg hl] at e
      cases e
  · cases e
def fMul : List MO → D → D → Option D := orD (iiD cMul fun i j => .int (i * j)) lstMul
theorem od_mul : OpD G X (binaryOp .Mult) fMul := (opII op_mul (fun i j h => by
  unfold cMul at h
  rcases Bool.or_eq_true_iff.mp h with h | h
  · exact .inl (smallI_ok h)
  · exact .inr (smallI_ok h)) fun _ _ => rfl).or opd_lstMul
def fDiv : List MO → D → D → Option D := iiD cDiv fun i j => .int (i / j)
theorem log2_small {j : Int} (h1 : -(2 ^ 64) < j) (h2 : j < 2 ^ 64) : j.natAbs.log2 < 9000 := by
  by_cases h0 : j.natAbs = 0
  · rw [h0]
    decide
  · have h3 : j.natAbs < 2 ^ 64 := by omega
    have h4 : j.natAbs.log2 < 64 := (Nat.log2_lt h0).mpr h3
    omega
theorem od_div : OpD G X (binaryOp .FloorDiv) fDiv := opII op_fdivW (fun i j h => by
  unfold cDiv at h
  simp only [Bool.and_eq_true, decide_eq_true_eq] at h
  obtain ⟨a, b⟩ := smallI_ok h.2
  exact ⟨h.1, log2_small a b⟩) fun _ _ => rfl
def fMod : List MO → D → D → Option D := iiD cMod fun i j => .int (i % j)
theorem od_mod : OpD G X (binaryOp .Mod) fMod := opII op_mod (fun i j h => by
  unfold cMod at h
  simpa using h) fun _ _ => rfl
def fPow : List MO → D → D → Option D := iiD (fun i j => decide (i = 10) && decide (j = 18)) fun i j => .int (i ^ j.toNat)
theorem od_pow : OpD G X (binaryOp .Pow) fPow := opII op_pow (fun i j h => by
  simp only [Bool.and_eq_true, decide_eq_true_eq] at h
  obtain ⟨rfl, rfl⟩ := h
  unfold CPow
  decide) fun _ _ => rfl
def fNeg : List MO → D → Option D := fun _ x => match x with
  | .int i => some (.int (-i))
  | _ => none
theorem ud_neg : UnD G X (unaryOp .USub) fNeg := by
  refine ⟨_, un_neg, fun al k env mem s H dx dz x Q R px e q => ?_⟩
  unfold fNeg at e
  split at e
  · cases e
    exact ⟨_, px.int, q k _ H R (Ext.refl k H) (.int _)⟩
  · cases e
end

/-! ### data -/
def mapO {α β : Type} (f : α → Option β) : List α → Option (List β)
  | [] => some []
  | x :: xs => (f x).bind fun y => (mapO f xs).map (y :: ·)
theorem mapO_cons {α β : Type} {f : α → Option β} {x : α} {xs : List α} {r : List β} (h : mapO f (x :: xs) = some r) : ∃ y ys, f x = some y ∧ mapO f xs = some ys ∧ r = y :: ys := by
  obtain ⟨y, h1, h⟩ := Option.bind_eq_some_iff.mp h
  obtain ⟨ys, h2, h⟩ := Option.map_eq_some_iff.mp h
  exact ⟨y, ys, h1, h2, h.symm⟩
/-- as plain data: what may be compared -/
def toP (m : List MO) : Nat → D → Option PyData
  | 0, _ => none
  | _ + 1, .non => some .none
  | _ + 1, .bl b => some (.bool b)
  | _ + 1, .int i => some (.int i)
  | _ + 1, .str x => some (.str x)
  | n + 1, .tup xs => (mapO (toP m n) xs).map .tuple
  | n + 1, .lst xs => (mapO (toP m n) xs).map .list
  | n + 1, .ref i => (match m[i]? with
    | some (.lst xs) => (mapO (toP m n) xs).map .list
    | _ => none)
  | _ + 1, _ => none
theorem depthAll_le {n : Nat} : ∀ {ps : List PyData}, (∀ p ∈ ps, p.depth ≤ n) → PyData.depthAll ps ≤ n
  | [], _ => by simp [PyData.depthAll]
  | p :: ps, h => by
    rw [PyData.depthAll]
    have h1 := h p (by simp)
    have h2 := depthAll_le (ps := ps) fun q hq => h q (List.mem_cons_of_mem _ hq)
    omega
theorem plainAll_of : ∀ {ps : List PyData}, (∀ p ∈ ps, p.plain = true) → PyData.plainAll ps = true
  | [], _ => by simp [PyData.plainAll]
  | p :: ps, h => by
    rw [PyData.plainAll, h p (by simp), plainAll_of (ps := ps) fun q hq => h q (List.mem_cons_of_mem _ hq)]
    rfl
theorem mapO_mem {α β : Type} {f : α → Option β} : ∀ {xs : List α} {ys : List β}, mapO f xs = some ys → ∀ y ∈ ys, ∃ x ∈ xs, f x = some y
  | [], _, h, y, hy => by cases h; simp at hy
  | x :: xs, _, h, y, hy => by
    obtain ⟨z, zs, h1, h2, rfl⟩ := mapO_cons h
    rcases List.mem_cons.mp hy with rfl | hy
    · exact ⟨x, by simp, h1⟩
    · obtain ⟨w, h3, h4⟩ := mapO_mem h2 y hy
      exact ⟨w, List.mem_cons_of_mem _ h3, h4⟩
theorem toP_ok {m : List MO} : ∀ {n : Nat} {d : D} {p : PyData}, toP m n d = some p → p.plain = true ∧ p.depth ≤ n
  | 0, _, _, h => by simp [toP] at h
  | n + 1, d, p, h => by
    have key : ∀ {xs : List D} {ps : List PyData}, mapO (toP m n) xs = some ps → PyData.plainAll ps = true ∧ PyData.depthAll ps ≤ n := fun {xs ps} e => by
      refine ⟨plainAll_of fun q hq => ?_, depthAll_le fun q hq => ?_⟩
      · obtain ⟨x, _, hx⟩ := mapO_mem e q hq
        exact (toP_ok hx).1
      · obtain ⟨x, _, hx⟩ := mapO_mem e q hq
        exact (toP_ok hx).2
    have kl : ∀ {xs : List D}, (mapO (toP m n) xs).map PyData.list = some p → p.plain = true ∧ p.depth ≤ n + 1 := fun {xs} e => by
      obtain ⟨ps, h1, rfl⟩ := Option.map_eq_some_iff.mp e
      obtain ⟨h2, h3⟩ := key h1
      exact ⟨by rw [PyData.plain]; exact h2, by rw [PyData.depth]; omega⟩
    cases d with
    | tup xs =>
      obtain ⟨ps, h1, rfl⟩ := Option.map_eq_some_iff.mp (show (mapO (toP m n) xs).map PyData.tuple = some p from h)
      obtain ⟨h2, h3⟩ := key h1
      exact ⟨by rw [PyData.plain]; exact h2, by rw [PyData.depth]; omega⟩
    | lst xs => exact kl h
    | ref i =>
      have h : (match m[i]? with | some (.lst xs) => (mapO (toP m n) xs).map PyData.list | _ => none) = some p := h
      split at h
      · exact kl h
      · cases h
    | non => cases h; exact ⟨rfl, Nat.zero_le _⟩
    | bl b => cases h; exact ⟨rfl, Nat.zero_le _⟩
    | int b => cases h; exact ⟨rfl, Nat.zero_le _⟩
    | str b => cases h; exact ⟨rfl, Nat.zero_le _⟩
    | _ => cases h
section
variable {G : Glob} {X : Cx} {al : Act} {k : Ka} {env : List Slot} {mem : List MO} {s : L2.St} {H : Hp}
theorem toP_dp (R : Rel G al k env mem s H) : ∀ {n : Nat} {d : D} {p : PyData} {v : V}, toP mem n d = some p → PdB G k H d v → Dp G.K H v p
  | 0, _, _, _, h, _ => by simp [toP] at h
  | n + 1, d, p, v, h, r => by
    have key : ∀ {xs : List D} {ps : List PyData} {vs : List V}, mapO (toP mem n) xs = some ps → Reps G k.mu k.rho H xs vs → DpAll G.K H vs ps := fun {xs} => by
      induction xs with
      | nil =>
        intro ps vs e q
        cases e
        cases q
        exact .nil
      | cons x xs ih =>
        intro ps vs e q
        obtain ⟨y, ys, h1, h2, rfl⟩ := mapO_cons e
        cases q with
        | cons q1 q2 => exact .cons (toP_dp R h1 (.inl q1)) (ih h2 q2)
    cases d with
    | tup xs =>
      obtain ⟨ps, h1, rfl⟩ := Option.map_eq_some_iff.mp (show (mapO (toP mem n) xs).map PyData.tuple = some p from h)
      obtain ⟨a, vs, rfl, g1, g2, g3⟩ := r.tup
      exact .tup g1.sq (key h1 g3)
    | lst xs =>
      obtain ⟨ps, h1, rfl⟩ := Option.map_eq_some_iff.mp (show (mapO (toP mem n) xs).map PyData.list = some p from h)
      obtain ⟨a, vs, rfl, g1, g2, g3⟩ := r.lst
      exact .lst (SqL.of g1) (key h1 g3)
    | ref i =>
      have h : (match mem[i]? with | some (.lst xs) => (mapO (toP mem n) xs).map PyData.list | _ => none) = some p := h
      split at h
      · rename_i xs hm
        obtain ⟨ps, h1, rfl⟩ := Option.map_eq_some_iff.mp h
        obtain ⟨a, vs, rfl, g1, g2, g3⟩ := r.lstOf R (show lstOf mem (.ref i) = some xs by show (match mem[i]? with | some (.lst xs) => some xs | _ => none) = some xs; rw [hm])
        exact .lst (SqL.of g1) (key h1 g3)
      · cases h
    | non => cases h; rw [r.non]; exact .non
    | bl b => cases h; rw [r.bl]; exact .bl b
    | int b => cases h; rw [r.int]; exact .int b
    | str b => cases h; rw [r.str]; exact .str b
    | _ => cases h
end
def fuelP : Nat := 32
def fCmp (al : PyData → PyData → Bool) (f : PyData → PyData → Bool) : List MO → D → D → Option D := fun m x y => (toP m fuelP x).bind fun p => (toP m fuelP y).bind fun q => if al p q = true then some (.bl (f p q)) else none
theorem fCmp_some {al f : PyData → PyData → Bool} {m : List MO} {x y z : D} (h : fCmp al f m x y = some z) : ∃ p q, toP m fuelP x = some p ∧ toP m fuelP y = some q ∧ al p q = true ∧ z = .bl (f p q) := by
  obtain ⟨p, h1, h⟩ := Option.bind_eq_some_iff.mp h
  obtain ⟨q, h2, h⟩ := Option.bind_eq_some_iff.mp h
  by_cases ha : al p q = true
  · rw [if_pos ha] at h
    exact ⟨p, q, h1, h2, ha, (Option.some.inj h).symm⟩
  · rw [if_neg ha] at h
    cases h
theorem opCmp {G : Glob} {X : Cx} {o : Value → Value → Sem Value} {alk f : PyData → PyData → Bool} (c : CO G X)
    (h : ∀ (s : Shared) (u v : Value) (p q : PyData) (as bs : List Addr) (Q : Value → Shared → Prop), Reads s.heap u p as → Reads s.heap v q bs → p.plain = true → q.plain = true → alk p q = true → X.A.units + min p.depth q.depth < cLine → Q (.bool (f p q)) s → wpAny (model X.prog X.w) X.A (o u v) Q X.xe s) : OpD G X o (fCmp alk f) := by
  refine ⟨fun x y H Q => ∃ p q, Dp X.K H x p ∧ Dp X.K H y q ∧ p.plain = true ∧ q.plain = true ∧ alk p q = true ∧ X.A.units + min p.depth q.depth < cLine ∧ Q (.bl (f p q)) H, fun pins s σ H x y v u Q I rx ry h' => ?_, fun al k env mem s H dx dy dz x y Q R px py e q => ?_⟩
  · obtain ⟨p, q, d1, d2, h1, h2, h3, h4, h5⟩ := h'
    obtain ⟨as, r1⟩ := Dp.reads I p x v d1 rx
    obtain ⟨bs, r2⟩ := Dp.reads I q y u d2 ry
    exact h s v u p q as bs _ r1 r2 h1 h2 h3 h4 ⟨.bl _, H, I, rfl, h5⟩
  · obtain ⟨p, p2, e1, e2, ha, rfl⟩ := fCmp_some e
    rw [c.K]
    have o1 := toP_ok e1
    have o2 := toP_ok e2
    have hu := c.un
    refine ⟨p, p2, toP_dp R e1 px, toP_dp R e2 py, o1.1, o2.1, ha, ?_, q k _ H R (Ext.refl k H) (.bl _)⟩
    have : fuelP = 32 := rfl
    omega
def alkT (_ _ : PyData) : Bool := true
def alkO (p q : PyData) : Bool := PySem.W.alike p q && !(p matches .none)
theorem alkO_ok {p q : PyData} (h : alkO p q = true) : PySem.W.alike p q = true ∧ p ≠ .none := by
  unfold alkO at h
  obtain ⟨h1, h2⟩ := Bool.and_eq_true_iff.mp h
  refine ⟨h1, fun e => ?_⟩
  subst e
  simp at h2
def fEq : List MO → D → D → Option D := fCmp alkT PyData.eqv
def fNe : List MO → D → D → Option D := fCmp alkT fun p q => !PyData.eqv p q
def fLt : List MO → D → D → Option D := fCmp alkO PySem.W.dataLt
def fGt : List MO → D → D → Option D := fCmp alkO fun p q => PySem.W.dataLt q p
def fLe : List MO → D → D → Option D := fCmp alkO fun p q => !PySem.W.dataLt q p
def fGe : List MO → D → D → Option D := fCmp alkO fun p q => !PySem.W.dataLt p q
section
variable {G : Glob} {X : Cx}
theorem od_eq (c : CO G X) : OpD G X (compareOp .Eq) fEq := opCmp c fun s u v p q as bs Q r1 r2 h1 h2 _ hu hq => SeqAt.eq_plain r1 r2 h1 h2 hu hq
theorem od_ne (c : CO G X) : OpD G X (compareOp .NotEq) fNe := opCmp c fun s u v p q as bs Q r1 r2 h1 h2 _ hu hq => SeqAt.ne_plain r1 r2 h1 h2 hu hq
theorem od_lt (c : CO G X) : OpD G X (compareOp .Lt) fLt := opCmp c fun s u v p q as bs Q r1 r2 h1 h2 ha hu hq => PySem.W.lt_data r1 r2 (alkO_ok ha).1 (alkO_ok ha).2 hu hq
theorem od_gt (c : CO G X) : OpD G X (compareOp .Gt) fGt := opCmp c fun s u v p q as bs Q r1 r2 h1 h2 ha hu hq => PySem.W.gt_data r1 r2 (alkO_ok ha).1 (alkO_ok ha).2 hu hq
theorem od_le (c : CO G X) : OpD G X (compareOp .LtE) fLe := opCmp c fun s u v p q as bs Q r1 r2 h1 h2 ha hu hq => PySem.W.le_data r1 r2 (alkO_ok ha).1 (alkO_ok ha).2 hu hq
theorem od_ge (c : CO G X) : OpD G X (compareOp .GtE) fGe := opCmp c fun s u v p q as bs Q r1 r2 h1 h2 ha hu hq => PySem.W.ge_data r1 r2 (alkO_ok ha).1 (alkO_ok ha).2 hu hq
/-! ### is None -/
def fIsN : List MO → D → D → Option D := fun _ x y => match y with
  | .non => some (.bl (match x with | .non => true | _ => false))
  | _ => none
def fNotN : List MO → D → D → Option D := fun _ x y => match y with
  | .non => some (.bl (match x with | .non => false | _ => true))
  | _ => none
theorem PdB.non_iff {k : Ka} {H : Hp} {d : D} {v : V} (h : PdB G k H d v) : v = .non ↔ d = .non := by
  rcases h with h | ⟨p, rfl, _, ⟨xs, rfl, _⟩ | ⟨kvs, rfl, _⟩⟩
  · cases h <;> simp
  · simp
  · simp
theorem od_isN : OpD G X (compareOp .Is) fIsN := by
  refine ⟨_, op_isN, fun al k env mem s H dx dy dz x y Q R px py e q => ?_⟩
  unfold fIsN at e
  split at e
  · cases e
    refine ⟨py.non, q k _ H R (Ext.refl k H) ?_⟩
    have := px.non_iff
    cases dx with
    | non => rw [px.non]; exact .bl true
    | _ =>
      have hx : decide (x = V.non) = false := decide_eq_false (by rw [this]; simp)
      rw [hx]
      exact .bl false
  · cases e
theorem od_notN : OpD G X (compareOp .IsNot) fNotN := by
  refine ⟨_, op_notN, fun al k env mem s H dx dy dz x y Q R px py e q => ?_⟩
  unfold fNotN at e
  split at e
  · cases e
    refine ⟨py.non, q k _ H R (Ext.refl k H) ?_⟩
    have := px.non_iff
    cases dx with
    | non => rw [px.non]; exact .bl false
    | _ =>
      have hx : decide (x = V.non) = false := decide_eq_false (by rw [this]; simp)
      rw [hx]
      exact .bl true
  · cases e
end
/-! ### subscripts -/
section
variable {G : Glob} {X : Cx}
def fIx : List MO → D → D → Option D := fun m x y => match y with
  | .int i => (seqOf m x).bind fun xs => atI xs i
  | _ => none
theorem atI_rep {mu : Addr → Prop} {rho : List Addr} {H : Hp} {ds : List D} {vs : List V} {i : Int} {d : D} (r : Reps G mu rho H ds vs) (h : atI ds i = some d) : ∃ v, atI vs i = some v ∧ Rep G mu rho H d v := by
  unfold atI at *
  obtain ⟨j, h1, h2⟩ := Option.bind_eq_some_iff.mp h
  obtain ⟨v, h3, h4⟩ := r.get h2
  exact ⟨v, by rw [← r.length, h1]; exact h3, h4⟩
theorem xd_seq (c : CO G X) : IxD G X fIx := by
  refine ⟨_, ix_list.or ix_tup, fun al k env mem s H dx dy dz x y Q R px py e q => ?_⟩
  unfold fIx at e
  split at e
  · rename_i i
    obtain ⟨xs, e1, e2⟩ := Option.bind_eq_some_iff.mp e
    obtain ⟨a, vs, rfl, h1, h2, h3⟩ := px.seqOf R e1
    obtain ⟨v, h4, h5⟩ := atI_rep h3 e2
    have hq := q k v H R (Ext.refl k H) h5
    rw [c.K]
    rcases h1 with h1 | h1
    · exact .inl ⟨a, vs, i, v, rfl, py.int, h1, h4, hq⟩
    · exact .inr ⟨a, vs, i, v, rfl, py.int, h1, h4, hq⟩
  · cases e
def fIxS : List MO → D → D → Option D := fun _ x y => match x, y with
  | .str z, .int i => if lim z.length = true then (atI z.cps.toList i).map fun c => .str ⟨#[c]⟩ else none
  | _, _ => none
theorem xd_str : IxD G X fIxS := by
  refine ⟨_, ix_str, fun al k env mem s H dx dy dz x y Q R px py e q => ?_⟩
  unfold fIxS at e
  split at e
  · rename_i z i
    by_cases hl : lim z.length = true
    · rw [if_pos hl] at e
      obtain ⟨ch, e1, rfl⟩ := Option.map_eq_some_iff.mp e
      exact ⟨z, i, ch, px.str, py.int, lim_le hl, e1, q k _ H R (Ext.refl k H) (.str _)⟩
    · rw [if_neg hl] at e
      cases e
  · cases e
end

/-! ### in, not in -/
def fInW (neg : Bool) : List MO → D → D → Option D := fun m x y => (seqOf m y).bind fun ys => (toP m fuelP x).bind fun p => (mapO (toP m fuelP) ys).bind fun ps => some (.bl (if neg = true then !(ps.any fun q => PyData.eqv q p) else ps.any fun q => PyData.eqv q p))
def fIn := fInW false
def fNotIn := fInW true
section
variable {G : Glob} {X : Cx}
theorem mapO_dp {al : Act} {k : Ka} {env : List Slot} {mem : List MO} {s : L2.St} {H : Hp} (R : Rel G al k env mem s H) {n : Nat} : ∀ {xs : List D} {ps : List PyData} {vs : List V}, mapO (toP mem n) xs = some ps → Reps G k.mu k.rho H xs vs → DpAll G.K H vs ps
  | [], _, _, e, q => by
    cases e
    cases q
    exact .nil
  | x :: xs, _, _, e, q => by
    obtain ⟨y, ys, h1, h2, rfl⟩ := mapO_cons e
    cases q with
    | cons q1 q2 => exact .cons (toP_dp R h1 (.inl q1)) (mapO_dp R h2 q2)
theorem mapO_ok {m : List MO} {n : Nat} {xs : List D} {ps : List PyData} (e : mapO (toP m n) xs = some ps) : PyData.plainAll ps = true ∧ PyData.depthAll ps ≤ n := by
  refine ⟨plainAll_of fun q hq => ?_, depthAll_le fun q hq => ?_⟩
  · obtain ⟨x, _, hx⟩ := mapO_mem e q hq
    exact (toP_ok hx).1
  · obtain ⟨x, _, hx⟩ := mapO_mem e q hq
    exact (toP_ok hx).2
theorem opIn {neg : Bool} {o : Value → Value → Sem Value} (c : CO G X)
    (h : ∀ (s : Shared) (u v : Value) (ps : List PyData) (q : PyData) (as bs : List Addr) (Q : Value → Shared → Prop), (Reads s.heap v (.list ps) as ∨ Reads s.heap v (.tuple ps) as) → Reads s.heap u q bs → PyData.plainAll ps = true → q.plain = true → X.A.units + 1 + min (PyData.depthAll ps) q.depth < cLine → Q (.bool (if neg = true then !(ps.any fun y => PyData.eqv y q) else ps.any fun y => PyData.eqv y q)) s → wpAny (model X.prog X.w) X.A (o u v) Q X.xe s) : OpD G X o (fInW neg) := by
  refine ⟨fun x y H Q => ∃ ps q, (Dp X.K H y (.list ps) ∨ Dp X.K H y (.tuple ps)) ∧ Dp X.K H x q ∧ PyData.plainAll ps = true ∧ q.plain = true ∧ X.A.units + 1 + min (PyData.depthAll ps) q.depth < cLine ∧ Q (.bl (if neg = true then !(ps.any fun y => PyData.eqv y q) else ps.any fun y => PyData.eqv y q)) H, fun pins s σ H x y v u Q I rx ry h' => ?_, fun al k env mem s H dx dy dz x y Q R px py e q => ?_⟩
  · obtain ⟨ps, q, d1, d2, h1, h2, h3, h5⟩ := h'
    obtain ⟨bs, r2⟩ := Dp.reads I q x v d2 rx
    rcases d1 with d1 | d1
    · obtain ⟨as, r1⟩ := Dp.reads I _ y u d1 ry
      exact h s v u ps q as bs _ (.inl r1) r2 h1 h2 h3 ⟨.bl _, H, I, rfl, h5⟩
    · obtain ⟨as, r1⟩ := Dp.reads I _ y u d1 ry
      exact h s v u ps q as bs _ (.inr r1) r2 h1 h2 h3 ⟨.bl _, H, I, rfl, h5⟩
  · obtain ⟨ys, e1, e⟩ := Option.bind_eq_some_iff.mp e
    obtain ⟨p, e2, e⟩ := Option.bind_eq_some_iff.mp e
    obtain ⟨ps, e3, e⟩ := Option.bind_eq_some_iff.mp e
    cases e
    obtain ⟨a, vs, rfl, h1, h2, h3⟩ := py.seqOf R e1
    have d := mapO_dp R e3 h3
    have o1 := mapO_ok e3
    have o2 := toP_ok e2
    have hu := c.un
    rw [c.K]
    refine ⟨ps, p, ?_, toP_dp R e2 px, o1.1, o2.1, ?_, q k _ H R (Ext.refl k H) (.bl _)⟩
    · rcases h1 with h1 | h1
      · exact .inl (.lst h1 d)
      · exact .inr (.tup h1 d)
    · have : fuelP = 32 := rfl
      omega
theorem od_in (c : CO G X) : OpD G X (compareOp .In) fIn := opIn c fun s u v ps q as bs Q r1 r2 h1 h2 hu hq => by
  rcases r1 with r1 | r1
  · exact SeqAt.in_list_data r1 r2 h1 h2 hu hq
  · exact SeqAt.in_tuple_data r1 r2 h1 h2 hu hq
theorem od_notIn (c : CO G X) : OpD G X (compareOp .NotIn) fNotIn := opIn c fun s u v ps q as bs Q r1 r2 h1 h2 hu hq => by
  rcases r1 with r1 | r1
  · exact SeqAt.notIn_list_data r1 r2 h1 h2 hu hq
  · exact SeqAt.notIn_tuple_data r1 r2 h1 h2 hu hq
end

/-! ### built-ins -/
section
variable {G : Glob} {X : Cx}
theorem Paired.one {F : D → V → Prop} {d : D} {vs : List V} (h : Paired F [d] vs) : ∃ v, vs = [v] ∧ F d v := by
  cases h with
  | cons a b =>
    cases b
    exact ⟨_, rfl, a⟩
theorem Paired.two {F : D → V → Prop} {d e : D} {vs : List V} (h : Paired F [d, e] vs) : ∃ v w, vs = [v, w] ∧ F d v ∧ F e w := by
  cases h with
  | cons a b =>
    obtain ⟨w, rfl, c⟩ := Paired.one b
    exact ⟨_, _, rfl, a, c⟩
def f1 (f : List MO → D → Option D) : List MO → List D → Option D := fun m xs => match xs with
  | [x] => f m x
  | _ => none
def f2 (f : List MO → D → D → Option D) : List MO → List D → Option D := fun m xs => match xs with
  | [x, y] => f m x y
  | _ => none
/-- one argument -/
theorem call1 {b : Value} {r : List V → Hp → VK → Prop} {f : List MO → D → Option D} (hr : CallR X b r) (h : ∀ (al : Act) (k : Ka) (env : List Slot) (mem : List MO) (s : L2.St) (H : Hp) (d dz : D) (v : V) (Q : VK), Rel G al k env mem s H → PdB G k H d v → f mem d = some dz →
    (∀ k' v H', Rel G al k' env mem s H' → Ext k H k' H' → Rep G k'.mu k'.rho H' dz v → Q v H') → r [v] H Q) : CallD G X b (f1 f) := by
  refine ⟨r, hr, fun al k env mem s H ds dz xs Q R p e q => ?_⟩
  unfold f1 at e
  split at e
  · obtain ⟨v, rfl, pv⟩ := Paired.one p
    exact h al k env mem s H _ dz v Q R pv e q
  · cases e
def cAbs : List MO → D → Option D := fun _ x => match x with
  | .int i => some (.int (if i < 0 then -i else i))
  | _ => none
theorem cd_abs : CallD G X (.builtin "abs") (f1 cAbs) := call1 call_abs fun al k env mem s H d dz v Q R p e q => by
  unfold cAbs at e
  split at e
  · cases e
    exact ⟨_, by rw [p.int], q k _ H R (Ext.refl k H) (.int _)⟩
  · cases e
def cInt : List MO → D → Option D := fun _ x => match x with
  | .int i => some (.int i)
  | .bl b => some (.int (if b then 1 else 0))
  | _ => none
theorem cd_int : CallD G X (.type "int") (f1 cInt) := call1 call_int1 fun al k env mem s H d dz v Q R p e q => by
  unfold cInt at e
  split at e
  · cases e
    exact .inl ⟨_, by rw [p.int], q k _ H R (Ext.refl k H) (.int _)⟩
  · cases e
    exact .inr ⟨_, by rw [p.bl], q k _ H R (Ext.refl k H) (.int _)⟩
  · cases e
def cLen : List MO → D → Option D := fun m x => (seqOf m x).map fun xs => .int xs.length
theorem cd_len (c : CO G X) : CallD G X (.builtin "len") (f1 cLen) := call1 call_len_seq fun al k env mem s H d dz v Q R p e q => by
  obtain ⟨xs, e1, rfl⟩ := Option.map_eq_some_iff.mp e
  obtain ⟨a, vs, rfl, h1, h2, h3⟩ := p.seqOf R e1
  rw [c.K]
  exact ⟨a, vs, rfl, h1, q k _ H R (Ext.refl k H) (by rw [← h3.length]; exact .int _)⟩
def asI : D → Option Int
  | .int i => some i
  | _ => none
theorem reps_ints {mu : Addr → Prop} {rho : List Addr} {H : Hp} : ∀ {ds : List D} {vs : List V} {ns : List Int}, mapO asI ds = some ns → Reps G mu rho H ds vs → vs = ns.map V.int
  | [], _, _, e, r => by
    cases e
    cases r
    rfl
  | d :: ds, _, _, e, r => by
    obtain ⟨y, ys, h1, h2, rfl⟩ := mapO_cons e
    cases r with
    | cons r1 r2 =>
      rw [reps_ints h2 r2]
      cases d with
      | int i =>
        cases h1
        cases r1
        rfl
      | _ => cases h1
def cSum : List MO → D → Option D := fun m x => (lstOf m x).bind fun xs => (mapO asI xs).map fun ns => .int ns.sum
theorem cd_sum (c : CO G X) : CallD G X (.builtin "sum") (f1 cSum) := call1 (cr_sum c.calm) fun al k env mem s H d dz v Q R p e q => by
  obtain ⟨xs, e1, e⟩ := Option.bind_eq_some_iff.mp e
  obtain ⟨ns, e2, rfl⟩ := Option.map_eq_some_iff.mp e
  obtain ⟨a, vs, rfl, h1, h2, h3⟩ := p.lstOf R e1
  rw [c.K]
  exact ⟨a, ns, rfl, by rw [← reps_ints e2 h3]; exact SqL.of h1, q k _ H R (Ext.refl k H) (.int _)⟩
def cMin2 : List MO → D → D → Option D := fun _ x y => match x, y with
  | .int i, .int j => some (.int (if j < i then j else i))
  | _, _ => none
def cMax2 : List MO → D → D → Option D := fun _ x y => match x, y with
  | .int i, .int j => some (.int (if j > i then j else i))
  | _, _ => none
theorem cd_min2 (c : CO G X) : CallD G X (.builtin "min") (f2 cMin2) := by
  refine ⟨_, call_min2 c.calm, fun al k env mem s H ds dz xs Q R p e q => ?_⟩
  unfold f2 at e
  split at e
  · obtain ⟨v, w, rfl, pv, pw⟩ := Paired.two p
    unfold cMin2 at e
    split at e
    · cases e
      exact ⟨_, _, by rw [pv.int, pw.int], q k _ H R (Ext.refl k H) (.int _)⟩
    · cases e
  · cases e
theorem cd_max2 (c : CO G X) : CallD G X (.builtin "max") (f2 cMax2) := by
  refine ⟨_, call_max2 c.calm, fun al k env mem s H ds dz xs Q R p e q => ?_⟩
  unfold f2 at e
  split at e
  · obtain ⟨v, w, rfl, pv, pw⟩ := Paired.two p
    unfold cMax2 at e
    split at e
    · cases e
      exact ⟨_, _, by rw [pv.int, pw.int], q k _ H R (Ext.refl k H) (.int _)⟩
    · cases e
  · cases e
def orC (f g : List MO → List D → Option D) : List MO → List D → Option D := fun m xs => match f m xs with
  | some d => some d
  | none => g m xs
theorem CallR.or {b : Value} {r r' : List V → Hp → VK → Prop} (h : CallR X b r) (h' : CallR X b r') : CallR X b (fun xs H Q => r xs H Q ∨ r' xs H Q) := by
  intro pins s σ H xs us Q I rs q
  rcases q with q | q
  · exact h pins s σ H xs us Q I rs q
  · exact h' pins s σ H xs us Q I rs q
theorem CallD.or {b : Value} {f g : List MO → List D → Option D} (h1 : CallD G X b f) (h2 : CallD G X b g) : CallD G X b (orC f g) := by
  obtain ⟨r, a1, a2⟩ := h1
  obtain ⟨r', b1, b2⟩ := h2
  refine ⟨_, CallR.or a1 b1, fun al k env mem s H ds dz xs Q R p e q => ?_⟩
  unfold orC at e
  cases ef : f mem ds with
  | some d =>
    rw [ef] at e
    cases e
    exact .inl (a2 al k env mem s H ds _ xs Q R p ef q)
  | none =>
    rw [ef] at e
    exact .inr (b2 al k env mem s H ds dz xs Q R p e q)
/-- list(..), tuple(..) of a list, a tuple -/
def cList : List MO → D → Option D := fun m x => (seqOf m x).map .lst
theorem cd_list (c : CO G X) : CallD G X (.type "list") (f1 cList) := call1 call_list_of fun al k env mem s H d dz v Q R p e q => by
  obtain ⟨xs, e1, rfl⟩ := Option.map_eq_some_iff.mp e
  obtain ⟨a, vs, rfl, h1, h2, h3⟩ := p.seqOf R e1
  rw [c.K]
  refine ⟨a, vs, rfl, h1, fun l hl => ?_⟩
  obtain ⟨r1, r2⟩ := R.newLst hl h2 h3
  exact q k _ _ r1 (Ext.new hl) r2
def cTuple : List MO → D → Option D := fun m x => (seqOf m x).map .tup
theorem cd_tuple (c : CO G X) : CallD G X (.type "tuple") (f1 cTuple) := call1 call_tuple_of fun al k env mem s H d dz v Q R p e q => by
  obtain ⟨xs, e1, rfl⟩ := Option.map_eq_some_iff.mp e
  rw [c.K]
  by_cases ht : ∃ ys, d = .tup ys
  · obtain ⟨ys, rfl⟩ := ht
    cases e1
    obtain ⟨a, vs, rfl, h1, h2, h3⟩ := p.tup
    exact ⟨a, vs, rfl, .inr ⟨h1.sq, q k _ H R (Ext.refl k H) (.tup h1 h2 h3)⟩⟩
  · have e2 : lstOf mem d = some xs := by
      cases d with
      | tup ys => exact absurd ⟨ys, rfl⟩ ht
      | _ => exact e1
    obtain ⟨a, vs, rfl, h1, h2, h3⟩ := p.lstOf R e2
    refine ⟨a, vs, rfl, .inl ⟨SqL.of h1, fun l hl => ?_⟩⟩
    obtain ⟨r1, r2⟩ := R.newTup hl h2 h3
    exact q k _ _ r1 (Ext.new hl) r2
def cStr : List MO → D → Option D := fun _ x => match x with
  | .int i => if smallI i = true then some (.str (toString i)) else none
  | _ => none
theorem cd_str : CallD G X (.type "str") (f1 cStr) := call1 call_str_int fun al k env mem s H d dz v Q R p e q => by
  unfold cStr at e
  split at e
  · rename_i i
    by_cases hs : smallI i = true
    · rw [if_pos hs] at e
      cases e
      obtain ⟨h1, h2⟩ := smallI_ok hs
      have h4 : i.natAbs.log2 < 1920 := by
        by_cases h0 : i.natAbs = 0
        · rw [h0]
          decide
        · have h3 : i.natAbs < 2 ^ 64 := by omega
          have h4 : i.natAbs.log2 < 64 := (Nat.log2_lt h0).mpr h3
          omega
      exact ⟨i, by rw [p.int], h4, q k _ H R (Ext.refl k H) (.str _)⟩
    · rw [if_neg hs] at e
      cases e
  · cases e
end
end DL
/-! DL3: the relation under stores, writes, calls. -/
namespace DL
open PySem PySem.Spec L2
section
variable {G : Glob} {al : Act} {k k' k0 k1 k2 : Ka} {env : List Slot} {mem mem' : List MO} {s : L2.St} {H H' H0 H1 H2 : Hp}
theorem Stays.refl (mu : Addr → Prop) (rho : List Addr) (H : Hp) : Stays mu mu rho rho H H := ⟨fun _ _ h n _ => ⟨h, n⟩, fun _ _ h => h⟩
theorem Stays.trans {m0 m1 m2 : Addr → Prop} {r0 r1 r2 : List Addr} {A B C : Hp} (a : Stays m0 m1 r0 r1 A B) (b : Stays m1 m2 r1 r2 B C) : Stays m0 m2 r0 r2 A C :=
  ⟨fun x o h n t => let ⟨h1, n1⟩ := a.keep x o h n t; b.keep x o h1 n1 t, fun i x h => b.rho i x (a.rho i x h)⟩
abbrev St2 (k : Ka) (H : Hp) (k' : Ka) (H' : Hp) : Prop := Stays k.mu k'.mu k.rho k'.rho H H'
theorem PostS.base {W : WX} {D : Ends} {r : RS} (h : PostS G al W k0 H0 D r) (e : St2 k0 H0 k H) : PostS G al W k H D r := by
  cases r with
  | ok f env m =>
    cases f with
    | nx => exact fun k1 s H1 R S => h k1 s H1 R (e.trans S)
    | bk => exact fun k1 s H1 R S => h k1 s H1 R (e.trans S)
    | ct => exact fun k1 s H1 R S => h k1 s H1 R (e.trans S)
    | rt d => exact fun k1 s H1 v R S => h k1 s H1 v R (e.trans S)
  | ex c env m => exact fun k1 s H1 C R S => h k1 s H1 C R (e.trans S)
  | no => exact h
/-- what was not there at the entry -/
theorem Rel.h0none (R : Rel G al k env mem s H) {p : Addr} (h : H p = none) : al.H0 p = none := by
  cases q : al.H0 p with
  | none => rfl
  | some o =>
    by_cases hr : p ∈ al.rho0
    · obtain ⟨more, e, _⟩ := R.pre
      obtain ⟨u, e2, _⟩ := R.wr.trk p (.inl (by rw [e]; exact List.mem_append_left _ hr))
      rw [h] at e2
      cases e2
    · by_cases ht : NoTbl o
      · have := R.fix p o q hr ht
        rw [h] at this
        cases this
      · have : ∃ ps, o = .tbl ps := by
          cases o <;> first | exact ⟨_, rfl⟩ | exact (ht (fun _ z => by cases z)).elim
        obtain ⟨ps, rfl⟩ := this
        obtain ⟨qs, e⟩ := R.tb0 p ps q
        rw [h] at e
        cases e
/-- a slot's value -/
theorem Rel.setVal (R : Rel G al k env mem s H) (i : Nat) {d : D} {v : V} (r : Rep G k.mu k.rho H d v) : Rel G al k (env.set i (.val d)) mem (s.set i (some v)) H where
  wr := R.wr
  slots := fun j sl e => by
    rw [List.getElem?_set] at e ⊢
    by_cases hij : i = j
    · subst hij
      rw [if_pos rfl] at e ⊢
      by_cases hl : i < env.length
      · rw [if_pos hl] at e
        cases e
        rw [if_pos (by rw [← R.len]; exact hl)]
        exact ⟨_, rfl, r⟩
      · rw [if_neg hl] at e
        cases e
    · rw [if_neg hij] at e ⊢
      exact R.slots j sl e
  len := by rw [List.length_set, List.length_set]; exact R.len
  fix := R.fix
  tb0 := R.tb0
  pre := R.pre
  own0 := R.own0
  out := R.out
/-- another own: a slot's list -/
def Ka.setOwn (k : Ka) (i : Nat) (o : Option Addr) : Ka := { k with own := fun j => if j = i then o else k.own j }
theorem Ka.setOwn_self {i : Nat} {o : Option Addr} : (k.setOwn i o).own i = o := if_pos rfl
theorem Ka.setOwn_ne {i j : Nat} {o : Option Addr} (h : j ≠ i) : (k.setOwn i o).own j = k.own j := if_neg h
/-- a slot takes a new list -/
theorem Rel.newOwn (R : Rel G al k env mem s H) (i : Nat) {p : Addr} {ds : List D} {vs : List V} (h : H p = none) (hz : vs.length ≤ sizeLine) (r : Reps G k.mu k.rho H ds vs) :
    Rel G al (k.setOwn i (some p)) (env.set i (.own ds)) mem (s.set i (some (.ref p))) (upd H p (.lst vs)) ∧ St2 k H (k.setOwn i (some p)) (upd H p (.lst vs)) := by
  have nm : ¬ k.mu p := R.wr.no h
  have st : St2 k H (k.setOwn i (some p)) (upd H p (.lst vs)) := by
    refine ⟨fun a o e n t => ⟨by rw [upd_ne (ne_of_none e h)]; exact e, fun z => ?_⟩, fun _ _ e => e⟩
    rcases z with z | ⟨j, z⟩ | z
    · exact n (.inl z)
    · by_cases hj : j = i
      · subst hj
        rw [Ka.setOwn_self] at z
        cases z
        rw [h] at e
        cases e
      · rw [Ka.setOwn_ne hj] at z
        exact n (.inr (.inl ⟨j, z⟩))
    · exact n (.inr (.inr z))
  have keep : ∀ a o, H a = some o → upd H p (.lst vs) a = some o := fun a o e => by rw [upd_ne (ne_of_none e h)]; exact e
  refine ⟨⟨⟨R.wr.len, fun j mo a h1 h2 => (R.wr.mem j mo a h1 h2).stay (k' := k.setOwn i (some p)) st fun o e => keep a o e, R.wr.nd, fun a b q h1 h2 => ?_, fun j q hq => ?_, fun a ha => ?_, fun a ha => ?_, tabs_new R.wr.tabs h⟩, fun j sl e => ?_, ?_, fun a o e n t => ?_, fun a ps e => ?_, R.pre, fun j q hq => ?_, R.out⟩, st⟩
  · by_cases ha : a = i
    · by_cases hb : b = i
      · rw [ha, hb]
      · subst ha
        rw [Ka.setOwn_self] at h1
        rw [Ka.setOwn_ne hb] at h2
        cases h1
        exact absurd (.inr (.inl ⟨b, h2⟩)) nm
    · rw [Ka.setOwn_ne ha] at h1
      by_cases hb : b = i
      · subst hb
        rw [Ka.setOwn_self] at h2
        cases h2
        exact absurd (.inr (.inl ⟨a, h1⟩)) nm
      · rw [Ka.setOwn_ne hb] at h2
        exact R.wr.oi a b q h1 h2
  · by_cases hj : j = i
    · subst hj
      rw [Ka.setOwn_self] at hq
      cases hq
      exact fun z => nm (.inl z)
    · rw [Ka.setOwn_ne hj] at hq
      exact R.wr.onr j q hq
  · refine ⟨(R.wr.nout a ha).1, fun j => ?_⟩
    by_cases hj : j = i
    · subst hj
      rw [Ka.setOwn_self]
      rintro z
      cases z
      exact nm (.inr (.inr ha))
    · rw [Ka.setOwn_ne hj]
      exact (R.wr.nout a ha).2 j
  · by_cases hp : a = p
    · subst hp
      exact ⟨_, upd_same, trivial⟩
    · have hm : k.mu a := by
        rcases ha with z | ⟨j, z⟩ | z
        · exact .inl z
        · by_cases hj : j = i
          · subst hj
            rw [Ka.setOwn_self] at z
            cases z
            exact absurd rfl hp
          · rw [Ka.setOwn_ne hj] at z
            exact .inr (.inl ⟨j, z⟩)
        · exact .inr (.inr z)
      obtain ⟨o, e, t⟩ := R.wr.trk a hm
      exact ⟨o, keep a o e, t⟩
  · rw [List.getElem?_set] at e ⊢
    by_cases hij : i = j
    · subst hij
      rw [if_pos rfl] at e ⊢
      by_cases hl : i < env.length
      · rw [if_pos hl] at e
        cases e
        rw [if_pos (by rw [← R.len]; exact hl)]
        exact ⟨_, rfl, p, rfl, Ka.setOwn_self, vs, upd_same, hz, Reps.stay st r⟩
      · rw [if_neg hl] at e
        cases e
    · rw [if_neg hij] at e ⊢
      obtain ⟨ov, h1, h2⟩ := R.slots j sl e
      refine ⟨ov, h1, ?_⟩
      cases sl with
      | un => trivial
      | val d =>
        cases ov with
        | none => exact h2.elim
        | some v => exact Rep.stay st h2
      | own xs =>
        cases ov with
        | none => exact h2.elim
        | some v =>
          obtain ⟨q, g1, g2, g3⟩ := h2
          exact ⟨q, g1, by rw [Ka.setOwn_ne (Ne.symm hij)]; exact g2, g3.stay (k' := k.setOwn i (some p)) st fun o e => keep q o e⟩
      | ownd xs =>
        cases ov with
        | none => exact h2.elim
        | some v =>
          obtain ⟨q, g1, g2, g3⟩ := h2
          exact ⟨q, g1, by rw [Ka.setOwn_ne (Ne.symm hij)]; exact g2, g3.stay (k' := k.setOwn i (some p)) st fun o e => keep q o e⟩
  · rw [List.length_set, List.length_set]; exact R.len
  · exact keep a o (R.fix a o e n t)
  · obtain ⟨qs, q⟩ := R.tb0 a ps e
    exact ⟨qs, keep a _ q⟩
  · by_cases hj : j = i
    · subst hj
      rw [Ka.setOwn_self] at hq
      cases hq
      exact R.h0none h
    · rw [Ka.setOwn_ne hj] at hq
      exact R.own0 j q hq
/-- an own list that is not written any more -/
def frzE (i : Nat) (env : List Slot) : List Slot := match env[i]? with
  | some (.own xs) => env.set i (.val (.lst xs))
  | some (.ownd kvs) => env.set i (.val (.dct kvs))
  | _ => env
theorem Rel.unown (R : Rel G al k env mem s H) (i : Nat) {d : D} {v : V} (hs : s[i]? = some (some v)) (hr : Rep G (k.setOwn i none).mu k.rho H d v) : Rel G al (k.setOwn i none) (env.set i (.val d)) mem s H ∧ St2 k H (k.setOwn i none) H := by
  have sub : ∀ a, (k.setOwn i none).mu a → k.mu a := fun a z => by
    rcases z with z | ⟨j, z⟩ | z
    · exact .inl z
    · by_cases hj : j = i
      · subst hj
        rw [Ka.setOwn_self] at z
        cases z
      · rw [Ka.setOwn_ne hj] at z
        exact .inr (.inl ⟨j, z⟩)
    · exact .inr (.inr z)
  have st : St2 k H (k.setOwn i none) H := ⟨fun a o e n t => ⟨e, fun z => n (sub a z)⟩, fun _ _ e => e⟩
  have onw : ∀ {j q}, (k.setOwn i none).own j = some q → j ≠ i ∧ k.own j = some q := fun {j q} z => by
    by_cases hj : j = i
    · subst hj
      rw [Ka.setOwn_self] at z
      cases z
    · rw [Ka.setOwn_ne hj] at z
      exact ⟨hj, z⟩
  refine ⟨⟨⟨R.wr.len, fun j mo a h1 h2 => (R.wr.mem j mo a h1 h2).stay (k' := k.setOwn i none) st fun o e => e, R.wr.nd, fun a b q h1 h2 => R.wr.oi a b q (onw h1).2 (onw h2).2, fun j q hq => R.wr.onr j q (onw hq).2, fun a ha => ⟨(R.wr.nout a ha).1, fun j z => (R.wr.nout a ha).2 j (onw z).2⟩, fun a ha => R.wr.trk a (sub a ha), R.wr.tabs⟩, fun j sl e => ?_, ?_, R.fix, R.tb0, R.pre, fun j q hq => R.own0 j q (onw hq).2, R.out⟩, st⟩
  · rw [List.getElem?_set] at e
    by_cases hij : i = j
    · subst hij
      rw [if_pos rfl] at e
      by_cases hl : i < env.length
      · rw [if_pos hl] at e
        cases e
        exact ⟨_, hs, hr⟩
      · rw [if_neg hl] at e
        cases e
    · rw [if_neg hij] at e
      obtain ⟨ov, h1, h2⟩ := R.slots j sl e
      refine ⟨ov, h1, ?_⟩
      cases sl with
      | un => trivial
      | val d =>
        cases ov with
        | none => exact h2.elim
        | some v => exact Rep.stay st h2
      | own xs =>
        cases ov with
        | none => exact h2.elim
        | some v =>
          obtain ⟨q, g1, g2, g3⟩ := h2
          exact ⟨q, g1, by rw [Ka.setOwn_ne (Ne.symm hij)]; exact g2, g3.stay (k' := k.setOwn i none) st fun o e => e⟩
      | ownd xs =>
        cases ov with
        | none => exact h2.elim
        | some v =>
          obtain ⟨q, g1, g2, g3⟩ := h2
          exact ⟨q, g1, by rw [Ka.setOwn_ne (Ne.symm hij)]; exact g2, g3.stay (k' := k.setOwn i none) st fun o e => e⟩
  · rw [List.length_set]; exact R.len
theorem Rel.frz (R : Rel G al k env mem s H) (i : Nat) : ∃ k', Rel G al k' (frzE i env) mem s H ∧ St2 k H k' H := by
  unfold frzE
  have nmu : ∀ {p}, k.own i = some p → ¬ (k.setOwn i none).mu p := fun {p} hp z => by
    rcases z with z | ⟨j, z⟩ | z
    · exact R.wr.onr i p hp z
    · by_cases hj : j = i
      · subst hj
        rw [Ka.setOwn_self] at z
        cases z
      · rw [Ka.setOwn_ne hj] at z
        exact hj (R.wr.oi j i p z hp)
    · exact (R.wr.nout p z).2 i hp
  have st : ∀ {a o}, H a = some o → ¬ k.mu a → NoTbl o → ¬ (k.setOwn i none).mu a := fun {a o} _ n _ z => by
    rcases z with z | ⟨j, z⟩ | z
    · exact n (.inl z)
    · by_cases hj : j = i
      · subst hj
        rw [Ka.setOwn_self] at z
        cases z
      · rw [Ka.setOwn_ne hj] at z
        exact n (.inr (.inl ⟨j, z⟩))
    · exact n (.inr (.inr z))
  have stt : St2 k H (k.setOwn i none) H := ⟨fun a o e n t => ⟨e, st e n t⟩, fun _ _ e => e⟩
  split
  · rename_i xs he
    obtain ⟨ov, h1, h2⟩ := R.slots i _ he
    cases ov with
    | none => exact h2.elim
    | some v =>
      obtain ⟨p, rfl, g2, vs, g3, g4, g5⟩ := h2
      obtain ⟨a, b⟩ := R.unown i h1 (.lst ⟨g3, nmu g2⟩ g4 (Reps.stay stt g5))
      exact ⟨_, a, b⟩
  · rename_i xs he
    obtain ⟨ov, h1, h2⟩ := R.slots i _ he
    cases ov with
    | none => exact h2.elim
    | some v =>
      obtain ⟨p, rfl, g2, kv, g3, g4, g5, g6⟩ := h2
      obtain ⟨a, b⟩ := R.unown i h1 (.dct g3 (nmu g2) g4 g5 (Reps.stay stt g6))
      exact ⟨_, a, b⟩
  · exact ⟨k, R, Stays.refl _ _ _⟩
end
section
variable {G : Glob} {al : Act} {k k' k0 k1 k2 : Ka} {env : List Slot} {mem mem' : List MO} {s : L2.St} {H H' H0 H1 H2 : Hp}
/-- one mutable object is written -/
theorem write_stays {a : Addr} {o' : HO} (hm : k.mu a) : St2 k H k (upd H a o') := ⟨fun x o e n t => ⟨by rw [upd_ne (fun z => n (by rw [z]; exact hm))]; exact e, n⟩, fun _ _ e => e⟩
theorem tabs_write {a : Addr} {o o' : HO} (t : TabsA G H) (h : H a = some o) (h1 : MutO o) : TabsA G (upd H a o') := by
  refine ⟨fun p hp => ?_, fun P hP => ?_⟩
  · obtain ⟨ps, e1, e2, e3⟩ := t.lam p hp
    refine ⟨ps, by rw [upd_ne (ne_of e1 h fun z => h1.nt _ z.symm)]; exact e1, e2, fun pos cv hc => ?_⟩
    obtain ⟨c, g1, g2⟩ := e3 pos cv hc
    exact ⟨c, g1, by rw [upd_ne (ne_of g2 h fun z => h1.nx (by rw [← z]; rfl))]; exact g2⟩
  · obtain ⟨ps, e1, e2⟩ := t.gen P hP
    exact ⟨ps, by rw [upd_ne (ne_of e1 h fun z => h1.nt _ z.symm)]; exact e1, e2⟩
theorem MemR.mut {mo : MO} {a : Addr} (h : MemR G k H mo a) : ∃ o, H a = some o ∧ MutO o := by
  cases mo with
  | lst xs => obtain ⟨vs, h1, _⟩ := h; exact ⟨_, h1, trivial⟩
  | dct kvs => obtain ⟨kv, h1, _⟩ := h; exact ⟨_, h1, trivial⟩
  | ins c fs => obtain ⟨C, dx, fv, h1, _⟩ := h; exact ⟨_, h1, trivial⟩
/-- the own list of slot i -/
theorem Rel.writeOwn (R : Rel G al k env mem s H) (i : Nat) {p : Addr} {o o' : HO} {sl : Slot} (hp : k.own i = some p) (ho : H p = some o) (hm : MutO o) (hm' : MutO o') (hs : s[i]? = some (some (.ref p))) (hn : SlotR G k (upd H p o') i sl (some (.ref p))) :
    Rel G al k (env.set i sl) mem s (upd H p o') ∧ St2 k H k (upd H p o') := by
  have st : St2 k H k (upd H p o') := write_stays (.inr (.inl ⟨i, hp⟩))
  have nr := R.wr.onr i p hp
  have keep : ∀ a o, a ≠ p → H a = some o → upd H p o' a = some o := fun a o n e => by rw [upd_ne n]; exact e
  refine ⟨⟨⟨R.wr.len, fun j mo a h1 h2 => (R.wr.mem j mo a h1 h2).stay st fun o e => keep a o (fun z => nr (by rw [← z]; exact List.mem_of_getElem? h2)) e, R.wr.nd, R.wr.oi, R.wr.onr, R.wr.nout, fun a ha => ?_, tabs_write R.wr.tabs ho hm⟩, fun j sl' e => ?_, ?_, fun a o e n t => ?_, fun a ps e => ?_, R.pre, R.own0, R.out⟩, st⟩
  · by_cases hap : a = p
    · subst hap
      exact ⟨_, upd_same, hm'⟩
    · obtain ⟨u, e, t⟩ := R.wr.trk a ha
      exact ⟨u, keep a u hap e, t⟩
  · rw [List.getElem?_set] at e
    by_cases hij : i = j
    · subst hij
      rw [if_pos rfl] at e
      by_cases hl : i < env.length
      · rw [if_pos hl] at e
        cases e
        exact ⟨_, hs, hn⟩
      · rw [if_neg hl] at e
        cases e
    · rw [if_neg hij] at e
      obtain ⟨ov, h1, h2⟩ := R.slots j sl' e
      exact ⟨ov, h1, h2.stay st rfl fun q u hq e => keep q u (fun z => hij (R.wr.oi i j q (by rw [z]; exact hp) hq)) e⟩
  · rw [List.length_set]; exact R.len
  · have h2 := R.fix a o e n t
    refine keep a o (fun z => ?_) h2
    have h3 := R.own0 i p hp
    rw [← z, e] at h3
    cases h3
  · obtain ⟨qs, q⟩ := R.tb0 a ps e
    exact ⟨qs, keep a _ (ne_of q ho fun z => hm.nt _ z.symm) q⟩
/-- the object of role j -/
theorem Rel.writeMem (R : Rel G al k env mem s H) (j : Nat) {a : Addr} {o o' : HO} {mo : MO} (ha : k.rho[j]? = some a) (ho : H a = some o) (hm : MutO o) (hm' : MutO o') (hn : MemR G k (upd H a o') mo a) :
    Rel G al k env (mem.set j mo) s (upd H a o') ∧ Ext k H k (upd H a o') := by
  have har : a ∈ k.rho := List.mem_of_getElem? ha
  have st : St2 k H k (upd H a o') := write_stays (.inl har)
  have keep : ∀ b o, b ≠ a → H b = some o → upd H a o' b = some o := fun b o n e => by rw [upd_ne n]; exact e
  have nta : ∀ b ps, H b = some (.tbl ps) → b ≠ a := fun b ps q => ne_of q ho fun z => hm.nt _ z.symm
  refine ⟨⟨⟨by rw [List.length_set]; exact R.wr.len, fun i mo' b h1 h2 => ?_, R.wr.nd, R.wr.oi, R.wr.onr, R.wr.nout, fun b hb => ?_, tabs_write R.wr.tabs ho hm⟩, fun i sl e => ?_, R.len, fun b u e n t => ?_, fun b ps e => ?_, R.pre, R.own0, R.out⟩, ⟨fun b u e n t => keep b u (fun z => n (by rw [z]; exact har)) e, fun b ps e => ⟨ps, keep b _ (nta b ps e) e⟩, ⟨[], by simp, fun _ z => by simp at z⟩, rfl, rfl⟩⟩
  · rw [List.getElem?_set] at h1
    by_cases hij : j = i
    · subst hij
      rw [if_pos rfl] at h1
      rw [ha] at h2
      cases h2
      by_cases hl : j < mem.length
      · rw [if_pos hl] at h1
        cases h1
        exact hn
      · rw [if_neg hl] at h1
        cases h1
    · rw [if_neg hij] at h1
      refine (R.wr.mem i mo' b h1 h2).stay st fun u e => keep b u (fun z => hij ?_) e
      subst z
      obtain ⟨l1, e1⟩ := List.getElem?_eq_some_iff.mp ha
      obtain ⟨l2, e2⟩ := List.getElem?_eq_some_iff.mp h2
      have pw := List.pairwise_iff_getElem.mp R.wr.nd
      rcases Nat.lt_trichotomy j i with q | q | q
      · exact absurd (e1.trans e2.symm) (pw j i l1 l2 q)
      · exact q
      · exact absurd (e2.trans e1.symm) (pw i j l2 l1 q)
  · by_cases hba : b = a
    · subst hba
      exact ⟨_, upd_same, hm'⟩
    · obtain ⟨u, e, t⟩ := R.wr.trk b hb
      exact ⟨u, keep b u hba e, t⟩
  · obtain ⟨ov, h1, h2⟩ := R.slots i sl e
    exact ⟨ov, h1, h2.stay st rfl fun q u hq e => keep q u (fun z => R.wr.onr i q hq (by rw [z]; exact har)) e⟩
  · refine keep b u (fun z => ?_) (R.fix b u e n t)
    obtain ⟨more, e1, f1⟩ := R.pre
    rw [e1] at har
    rcases List.mem_append.mp har with q | q
    · exact n (by rw [z]; exact q)
    · have := f1 a q
      rw [← z, e] at this
      cases this
  · obtain ⟨qs, q⟩ := R.tb0 b ps e
    exact ⟨qs, keep b _ (nta b qs q) q⟩
/-- a new role -/
def Ka.add (k : Ka) (a : Addr) : Ka := { k with rho := k.rho ++ [a] }
theorem add_stays {a : Addr} {o : HO} (h : H a = none) (hn : ¬ k.mu a) : St2 k H (k.add a) (upd H a o) := by
  refine ⟨fun b u e n t => ⟨by rw [upd_ne (ne_of_none e h)]; exact e, fun z => ?_⟩, fun i b e => ?_⟩
  · rcases z with z | z | z
    · rcases List.mem_append.mp z with z | z
      · exact n (.inl z)
      · rw [List.mem_singleton.mp z, h] at e
        cases e
    · exact n (.inr (.inl z))
    · exact n (.inr (.inr z))
  · show (k.rho ++ [a])[i]? = some b
    rw [List.getElem?_append_left (List.getElem?_eq_some_iff.mp e).1]
    exact e
theorem Rel.newMem (R : Rel G al k env mem s H) {a : Addr} {o : HO} {mo : MO} (h : H a = none) (hm : MutO o) (hn : MemR G (k.add a) (upd H a o) mo a) :
    Rel G al (k.add a) env (mem ++ [mo]) s (upd H a o) ∧ Ext k H (k.add a) (upd H a o) ∧ Rep G (k.add a).mu (k.add a).rho (upd H a o) (.ref mem.length) (.ref a) := by
  have nm : ¬ k.mu a := R.wr.no h
  have st : St2 k H (k.add a) (upd H a o) := add_stays h nm
  have keep : ∀ b u, H b = some u → upd H a o b = some u := fun b u e => by rw [upd_ne (ne_of_none e h)]; exact e
  refine ⟨⟨⟨by rw [List.length_append]; show _ = (k.rho ++ [a]).length; rw [List.length_append, R.wr.len]; rfl, fun i mo' b h1 h2 => ?_, ?_, R.wr.oi, fun i p hp z => ?_, fun b hb => ⟨fun z => ?_, (R.wr.nout b hb).2⟩, fun b hb => ?_, tabs_new R.wr.tabs h⟩, fun i sl e => ?_, R.len, fun b u e n t => keep b u (R.fix b u e n t), fun b ps e => ?_, ?_, R.own0, R.out⟩, ⟨fun b u e n t => keep b u e, fun b ps e => ⟨ps, keep b _ e⟩, ⟨[a], rfl, fun x hx => by rw [List.mem_singleton.mp hx]; exact h⟩, rfl, rfl⟩, .ref ?_⟩
  · have h2 : (k.rho ++ [a])[i]? = some b := h2
    by_cases hl : i < mem.length
    · rw [List.getElem?_append_left hl] at h1
      rw [List.getElem?_append_left (by rw [← R.wr.len]; exact hl)] at h2
      exact (R.wr.mem i mo' b h1 h2).stay st fun u e => keep b u e
    · have hi : i = mem.length := by
        have := (List.getElem?_eq_some_iff.mp h1).1
        rw [List.length_append, List.length_singleton] at this
        omega
      subst hi
      rw [List.getElem?_concat_length] at h1
      rw [R.wr.len, List.getElem?_concat_length] at h2
      cases h1
      cases h2
      exact hn
  · show (k.rho ++ [a]).Nodup
    rw [List.nodup_append]
    refine ⟨R.wr.nd, by simp, fun x hx y hy e => ?_⟩
    rw [List.mem_singleton.mp hy] at e
    rw [e] at hx
    exact nm (.inl hx)
  · rcases List.mem_append.mp z with z | z
    · exact R.wr.onr i p hp z
    · rw [List.mem_singleton.mp z] at hp
      exact nm (.inr (.inl ⟨i, hp⟩))
  · rcases List.mem_append.mp z with z | z
    · exact (R.wr.nout b hb).1 z
    · rw [List.mem_singleton.mp z] at hb
      exact nm (.inr (.inr hb))
  · rcases hb with z | z | z
    · rcases List.mem_append.mp z with z | z
      · obtain ⟨u, e, t⟩ := R.wr.trk b (.inl z)
        exact ⟨u, keep b u e, t⟩
      · rw [List.mem_singleton.mp z]
        exact ⟨_, upd_same, hm⟩
    · obtain ⟨u, e, t⟩ := R.wr.trk b (.inr (.inl z))
      exact ⟨u, keep b u e, t⟩
    · obtain ⟨u, e, t⟩ := R.wr.trk b (.inr (.inr z))
      exact ⟨u, keep b u e, t⟩
  · obtain ⟨ov, h1, h2⟩ := R.slots i sl e
    exact ⟨ov, h1, h2.stay st rfl fun q u _ e => keep q u e⟩
  · obtain ⟨qs, q⟩ := R.tb0 b ps e
    exact ⟨qs, keep b _ q⟩
  · obtain ⟨more, e1, f1⟩ := R.pre
    refine ⟨more ++ [a], by show k.rho ++ [a] = _; rw [e1, List.append_assoc], fun x hx => ?_⟩
    rcases List.mem_append.mp hx with q | q
    · exact f1 x q
    · rw [List.mem_singleton.mp q]
      exact R.h0none h
  · show (k.rho ++ [a])[mem.length]? = some a
    rw [R.wr.len, List.getElem?_concat_length]
/-- behind a call -/
theorem Rel.step {m2 : List MO} (R : Rel G al k env mem s H) (E : Ext k H k2 H2) (w : WR G k2 m2 H2) : Rel G al k2 env m2 s H2 where
  wr := w
  slots := fun i sl e => by
    obtain ⟨ov, h1, h2⟩ := R.slots i sl e
    refine ⟨ov, h1, ?_⟩
    have st := E.stays
    cases sl with
    | un => trivial
    | val d =>
      cases ov with
      | none => exact h2.elim
      | some v => exact Rep.stay st h2
    | own xs =>
      cases ov with
      | none => exact h2.elim
      | some v =>
        obtain ⟨q, g1, g2, g3⟩ := h2
        obtain ⟨u, e3, t3⟩ := MemR.mut g3
        exact ⟨q, g1, by rw [E.own]; exact g2, g3.stay (k' := k2) st fun o e => E.keep q o e (R.wr.onr i q g2) (by rw [e3] at e; cases e; exact t3.nt)⟩
    | ownd xs =>
      cases ov with
      | none => exact h2.elim
      | some v =>
        obtain ⟨q, g1, g2, g3⟩ := h2
        obtain ⟨u, e3, t3⟩ := MemR.mut g3
        exact ⟨q, g1, by rw [E.own]; exact g2, g3.stay (k' := k2) st fun o e => E.keep q o e (R.wr.onr i q g2) (by rw [e3] at e; cases e; exact t3.nt)⟩
  len := R.len
  fix := fun a o e n t => by
    refine E.keep a o (R.fix a o e n t) (fun z => ?_) t
    obtain ⟨more, e1, f1⟩ := R.pre
    rw [e1] at z
    rcases List.mem_append.mp z with q | q
    · exact n q
    · rw [f1 a q] at e
      cases e
  tb0 := fun a ps e => by
    obtain ⟨qs, q⟩ := R.tb0 a ps e
    exact E.tb a qs q
  pre := by
    obtain ⟨more, e1, f1⟩ := R.pre
    obtain ⟨m2, e2, f2⟩ := E.rho
    refine ⟨more ++ m2, by rw [e2, e1, List.append_assoc], fun x hx => ?_⟩
    rcases List.mem_append.mp hx with q | q
    · exact f1 x q
    · exact R.h0none (f2 x q)
  own0 := fun i p e => R.own0 i p (by rw [← E.own]; exact e)
  out := E.out.trans R.out

/-! ### into a def, back -/
def Ka.act (k : Ka) (H : Hp) : Act := ⟨H, k.rho, fun a => (∃ i, k.own i = some a) ∨ k.out a⟩
def Ka.into (k : Ka) : Ka := ⟨k.rho, fun _ => none, fun a => (∃ i, k.own i = some a) ∨ k.out a⟩
theorem into_mu (k : Ka) (a : Addr) : k.into.mu a ↔ k.mu a := by
  constructor
  · rintro (z | ⟨i, z⟩ | z)
    · exact .inl z
    · cases z
    · exact .inr z
  · rintro (z | z)
    · exact .inl z
    · exact .inr (.inr z)
theorem into_stays : St2 k H k.into H := ⟨fun a o e n _ => ⟨e, fun z => n ((into_mu k a).mp z)⟩, fun _ _ e => e⟩
theorem WR.into (w : WR G k mem H) : WR G k.into mem H where
  len := w.len
  mem := fun i mo a h1 h2 => (w.mem i mo a h1 h2).stay (k' := k.into) into_stays fun _ e => e
  nd := w.nd
  oi := fun i j p h => by cases h
  onr := fun i p h => by cases h
  nout := fun a ha => ⟨fun z => by
    rcases ha with ⟨i, hi⟩ | ha
    · exact w.onr i a hi z
    · exact (w.nout a ha).1 z, fun i h => by cases h⟩
  trk := fun a ha => w.trk a ((into_mu k a).mp ha)
  tabs := w.tabs
theorem Rel.start (w : WR G k mem H) {env : List Slot} {s : L2.St} (hl : env.length = s.length) (hs : ∀ (i : Nat) sl, env[i]? = some sl → ∃ ov, s[i]? = some ov ∧ SlotR G k.into H i sl ov) : Rel G (k.act H) k.into env mem s H :=
  ⟨w.into, hs, hl, fun _ _ e _ _ => e, fun _ ps e => ⟨ps, e⟩, ⟨[], by simp [Ka.into, Ka.act], fun _ z => by simp at z⟩, fun _ _ h => (by cases h), rfl⟩
def Ka.back (k k' : Ka) : Ka := ⟨k'.rho, k.own, k.out⟩
theorem Rel.back (w : WR G k mem H) (R : Rel G (k.act H) k' env mem' s H') : WR G (k.back k') mem' H' ∧ Ext k H (k.back k') H' ∧ St2 k' H' (k.back k') H' := by
  have sub : ∀ a, (k.back k').mu a → k'.mu a := fun a z => by
    rcases z with z | z | z
    · exact .inl z
    · exact .inr (.inr (by rw [R.out]; exact .inl z))
    · exact .inr (.inr (by rw [R.out]; exact .inr z))
  have st : St2 k' H' (k.back k') H' := ⟨fun a o e n _ => ⟨e, fun z => n (sub a z)⟩, fun _ _ e => e⟩
  obtain ⟨more, e1, f1⟩ := R.pre
  refine ⟨⟨R.wr.len, fun i mo a h1 h2 => (R.wr.mem i mo a h1 h2).stay (k' := k.back k') st fun _ e => e, R.wr.nd, w.oi, fun i p hp z => ?_, fun a ha => ⟨fun z => ?_, (w.nout a ha).2⟩, fun a ha => R.wr.trk a (sub a ha), R.wr.tabs⟩, ⟨fun a o e n t => R.fix a o e n t, fun a ps e => R.tb0 a ps e, ⟨more, e1, f1⟩, rfl, rfl⟩, st⟩
  · have z : p ∈ k'.rho := z
    rw [e1] at z
    rcases List.mem_append.mp z with q | q
    · exact w.onr i p hp q
    · obtain ⟨o, e, _⟩ := w.trk p (.inr (.inl ⟨i, hp⟩))
      have := f1 p q
      rw [show (k.act H).H0 p = H p from rfl, e] at this
      cases this
  · have z : a ∈ k'.rho := z
    rw [e1] at z
    rcases List.mem_append.mp z with q | q
    · exact (w.nout a ha).1 q
    · obtain ⟨o, e, _⟩ := w.trk a (.inr (.inr ha))
      have := f1 a q
      rw [show (k.act H).H0 a = H a from rfl, e] at this
      cases this
end
end DL
/-! DL4: statements. -/
namespace DL
open PySem PySem.Spec L2
/-! ### semantic parts -/
def bindS {α : Type} (r : RE α) (env : List Slot) (f : α → List MO → RS) : RS := match r with
  | .ok a m => f a m
  | .ex c m => .ex c env m
  | .no => .no
def gNx : GS := fun env m => .ok .nx env m
def gBk : GS := fun env m => .ok .bk env m
def gCt : GS := fun env m => .ok .ct env m
def gSeq (a b : GS) : GS := fun env m => match a env m with
  | .ok .nx env m => b env m
  | r => r
def gIfS (t : GT) (a b : GS) : GS := fun env m => bindS (t env m) env fun c m => if c = true then a env m else b env m
def gRet (a : GE) : GS := fun env m => bindS (a env m) env fun d m => .ok (.rt d) env m
def gRetN : GS := fun env m => .ok (.rt .non) env m
def gExpr (a : GE) : GS := fun env m => bindS (a env m) env fun _ m => .ok .nx env m
def gSet (i : Nat) (a : GE) : GS := fun env m => bindS (a env m) env fun d m => .ok .nx (env.set i (.val d)) m
def gOwn (i : Nat) (a : GA) : GS := fun env m => bindS (a env m) env fun ds m => .ok .nx (env.set i (.own ds)) m
abbrev GG := D → List Slot → Option (List Slot)
def ggName (i : Nat) : GG := fun d env => some (env.set i (.val d))
abbrev GGs := List D → List Slot → Option (List Slot)
def ggNil : GGs := fun ds env => match ds with
  | [] => some env
  | _ => none
def ggCons (t : GG) (u : GGs) : GGs := fun ds env => match ds with
  | [] => none
  | d :: ds => (t d env).bind fun env => u ds env
def ggTup (n : Nat) (t : GGs) : GG := fun d env => match d with
  | .tup ds => if ds.length = n then t ds env else none
  | _ => none
def gAsg (a : GE) (t : GG) : GS := fun env m => bindS (a env m) env fun d m => match t d env with
  | some env' => .ok .nx env' m
  | none => .no
def gPar (i j : Nat) (a b : GE) : GS := fun env m => bindS (a env m) env fun x m => bindS (b env m) env fun y m => .ok .nx ((env.set i (.val x)).set j (.val y)) m
def gFrz (i : Nat) (g : GS) : GS := fun env m => g (frzE i env) m
def gApp (i : Nat) (a : GE) : GS := fun env m => match env[i]? with
  | some (.own xs) => bindS (a env m) env fun d m => if lim (xs.length + 1) = true then .ok .nx (env.set i (.own (xs ++ [d]))) m else .no
  | _ => .no
def gExt (i : Nat) (a : GE) : GS := fun env m => match env[i]? with
  | some (.own xs) => bindS (a env m) env fun d m => (match lstOf m d with
    | some ys => if lim (xs.length + ys.length) = true then .ok .nx (env.set i (.own (xs ++ ys))) m else .no
    | none => .no)
  | _ => .no
def gAug (i : Nat) (f : List MO → D → D → Option D) (a : GE) : GS := fun env m => match env[i]? with
  | some (.val x) => bindS (a env m) env fun y m => match f m x y with
    | some z => .ok .nx (env.set i (.val z)) m
    | none => .no
  | _ => .no
def loopS (r : RS) (c : List Slot → List MO → RS) : RS := match r with
  | .ok .nx env m => c env m
  | .ok .ct env m => c env m
  | .ok .bk env m => .ok .nx env m
  | r => r
def whileN (t : GT) (b : GS) : Nat → GS
  | 0 => fun _ _ => .no
  | n + 1 => fun env m => bindS (t env m) env fun c m => if c = true then loopS (b env m) (whileN t b n) else .ok .nx env m
def gWhile (fl : List Slot → List MO → Nat) (t : GT) (b : GS) : GS := fun env m => whileN t b (fl env m) env m
def forD (g : GG) (b : GS) : List D → GS
  | [] => fun env m => .ok .nx env m
  | d :: ds => fun env m => match g d env with
    | some env' => loopS (b env' m) (forD g b ds)
    | none => .no
def gFor (it : GA) (g : GG) (b : GS) : GS := fun env m => bindS (it env m) env fun ds m => forD g b ds env m
def gRaise (c : Str) : GS := fun env m => .ex c env m

section
variable {G : Glob} {al : Act} {W : WX} {X : Cx} {k k' : Ka} {env : List Slot} {mem m : List MO} {s : L2.St} {H H' : Hp}
theorem PostS.bind {α γ : Type} {Pd : Ka → Hp → α → γ → Prop} {Q : γ → Hp → Prop} {r : RE α} {f : α → List MO → RS} {D : Ends} (h : PostS G al W k H D (bindS r env f))
    (c : ∀ a m k' v H', Rel G al k' env m s H' → Ext k H k' H' → Pd k' H' a v → PostS G al W k' H' D (f a m) → Q v H') : PostR G al W Pd k env s H Q r := by
  cases r with
  | ok a m => exact fun k' v H' R' E P => c a m k' v H' R' E P (PostS.base (r := f a m) h E.stays)
  | ex e m => exact fun k' H' C R' E hc => h k' s H' C R' E.stays hc
  | no => exact h
theorem PostS.nx {D : Ends} (h : PostS G al W k H D (.ok .nx env m)) (R : Rel G al k' env m s H') (S : St2 k H k' H') : D.nx s H' := h k' s H' R S
variable {st : Stmt} {sts : List Stmt} {e : Expr} {ga gb : GE} {g h g1 g2 : GS} {gt : GT} {pos : Pos}
theorem dss_nil : DSs G W X [] gNx := fun al => pss_weak pss_nil fun D s H ⟨k, env, mem, R, q⟩ => q k s H R (Stays.refl _ _ _)
theorem PostS.seq {D : Ends} {r : RS} {f : GS} (h : PostS G al W k H D (match r with | .ok .nx env m => f env m | r => r)) : PostS G al W k H { D with nx := fun s H' => dTs G al W f D s H' } r := by
  cases r with
  | ok fl env m =>
    cases fl with
    | nx => exact fun k1 s H1 R S => ⟨k1, env, m, R, PostS.base (r := f env m) h S⟩
    | bk => exact h
    | ct => exact h
    | rt d => exact h
  | ex c env m => exact h
  | no => exact h
theorem dss_cons (h1 : DS G W X st g1) (h2 : DSs G W X sts g2) : DSs G W X (st :: sts) (gSeq g1 g2) := fun al => pss_weak (pss_cons (h1 al) (h2 al)) fun D s H ⟨k, env, mem, R, q⟩ => ⟨k, env, mem, R, PostS.seq q⟩
theorem dss_one (h1 : DS G W X st g1) : DSs G W X [st] g1 := fun al => pss_one (h1 al)
theorem ds_pass : DS G W X (.Pass pos) gNx := fun al => ps_weak ps_pass fun D s H ⟨k, env, mem, R, q⟩ => q k s H R (Stays.refl _ _ _)
theorem ds_break : DS G W X (.Break pos) gBk := fun al => ps_weak ps_break fun D s H ⟨k, env, mem, R, q⟩ => q k s H R (Stays.refl _ _ _)
theorem ds_continue : DS G W X (.Continue pos) gCt := fun al => ps_weak ps_continue fun D s H ⟨k, env, mem, R, q⟩ => q k s H R (Stays.refl _ _ _)
theorem ds_doc {x j pos pos'} : DS G W X (.Expr (.Constant (.str x) j pos) pos') gNx := fun al => ps_weak ps_doc fun D s H ⟨k, env, mem, R, q⟩ => q k s H R (Stays.refl _ _ _)
theorem ds_expr (he : DE G W X e ga) (hs : swapsWith e none pos.line X.env = pure false := by rfl) : DS G W X (.Expr e pos) (gExpr ga) := fun al => ps_weak (ps_expr (he al) hs) fun D s H ⟨k, env, mem, R, q⟩ =>
  ⟨k, env, mem, R, PostS.bind q fun x m k1 v1 H1 R1 E1 P1 h => h k1 s H1 R1 (Stays.refl _ _ _)⟩
theorem ds_ret (he : DE G W X e ga) : DS G W X (.Return (some e) pos) (gRet ga) := fun al => ps_weak (ps_ret (he al)) fun D s H ⟨k, env, mem, R, q⟩ =>
  ⟨k, env, mem, R, PostS.bind q fun x m k1 v1 H1 R1 E1 P1 h => h k1 s H1 v1 R1 (Stays.refl _ _ _) P1⟩
theorem ds_retN : DS G W X (.Return none pos) gRetN := fun al => ps_weak ps_retN fun D s H ⟨k, env, mem, R, q⟩ => q k s H .non R (Stays.refl _ _ _) .non
theorem ds_if {c : Expr} {a b : List Stmt} (hc : DT G W X c gt) (ha : DSs G W X a g1) (hb : DSs G W X b g2) : DS G W X (.If c a b pos) (gIfS gt g1 g2) := fun al => ps_weak (ps_if (hc al) (ha al) (hb al)) fun D s H ⟨k, env, mem, R, q⟩ => by
  refine ⟨k, env, mem, R, PostS.bind q fun x m k1 v1 H1 R1 E1 P1 h => ?_⟩
  subst P1
  cases x with
  | true =>
    rw [if_pos rfl] at h ⊢
    exact ⟨k1, env, m, R1, h⟩
  | false =>
    rw [if_neg Bool.false_ne_true] at h ⊢
    exact ⟨k1, env, m, R1, h⟩
theorem ds_set (i : Nat) {x : Str} {pos' : Pos} (hN : X.N.Nodup) (he : DE G W X e ga) (hi : X.N[i]? = some x := by rfl) (hx : Loc X.env.scope x := by first | exact Or.inl rfl | exact Or.inr rfl) (hs : swapsWith e (some (.Name x pos')) pos.line X.env = pure false := by rfl)
    (hf : X.fn x = true ∨ X.env.scope.names.lookup x = some .local := by first | exact .inl rfl | exact .inr rfl) : DS G W X (.Assign [.Name x pos'] e pos) (gSet i ga) := fun al => ps_weak (ps_set hN hi hx (he al) hs hf) fun D s H ⟨k, env, mem, R, q⟩ =>
  ⟨k, env, mem, R, PostS.bind q fun x m k1 v1 H1 R1 E1 P1 h => h k1 _ H1 (R1.setVal i P1) (Stays.refl _ _ _)⟩
theorem ds_own (i : Nat) {gn : GA} {x : Str} {pos' : Pos} (hN : X.N.Nodup) (he : DN G W X e gn) (hi : X.N[i]? = some x := by rfl) (hx : Loc X.env.scope x := by first | exact Or.inl rfl | exact Or.inr rfl) (hs : swapsWith e (some (.Name x pos')) pos.line X.env = pure false := by rfl)
    (hf : X.fn x = true ∨ X.env.scope.names.lookup x = some .local := by first | exact .inl rfl | exact .inr rfl) : DS G W X (.Assign [.Name x pos'] e pos) (gOwn i gn) := fun al => ps_weak (ps_set hN hi hx (he al) hs hf) fun D s H ⟨k, env, mem, R, q⟩ =>
  ⟨k, env, mem, R, PostS.bind q fun x m k1 v1 H1 R1 E1 P1 h p hp => by
    obtain ⟨r1, r2⟩ := R1.newOwn i hp P1.2 P1.1
    exact h _ _ _ r1 r2⟩
/-! ### targets -/
/-- the slots of L may have changed -/
def SameBut (L : List Nat) (s s' : L2.St) : Prop := s'.length = s.length ∧ ∀ j, j ∉ L → s'[j]? = s[j]?
theorem SameBut.refl (s : L2.St) : SameBut [] s s := ⟨rfl, fun _ _ => rfl⟩
theorem SameBut.set (s : L2.St) (i : Nat) (v : Option V) : SameBut [i] s (s.set i v) := ⟨List.length_set, fun j hj => by
  rw [List.getElem?_set]
  rw [if_neg (fun e => hj (by rw [← e]; simp))]⟩
theorem SameBut.trans {L M : List Nat} {a b c : L2.St} (h : SameBut L a b) (g : SameBut M b c) : SameBut (L ++ M) a c := ⟨g.1.trans h.1, fun j hj => (g.2 j fun z => hj (List.mem_append_right _ z)).trans (h.2 j fun z => hj (List.mem_append_left _ z))⟩
def DG (G : Glob) (X : Cx) (tg : Expr) (L : List Nat) (gg : GG) : Prop := ∀ al, PG X tg (fun v s H Q => ∃ k env mem d env', Rel G al k env mem s H ∧ Rep G k.mu k.rho H d v ∧ gg d env = some env' ∧ ∀ s', SameBut L s s' → Rel G al k env' mem s' H → Q s' H)
def DGs (G : Glob) (X : Cx) (tgs : List Expr) (L : List Nat) (gg : GGs) : Prop := ∀ al, PGs X tgs (fun vs s H Q => ∃ k env mem ds env', Rel G al k env mem s H ∧ Reps G k.mu k.rho H ds vs ∧ gg ds env = some env' ∧ ∀ s', SameBut L s s' → Rel G al k env' mem s' H → Q s' H)
theorem pg_weak {X : Cx} {e : Expr} {t t' : TG} (h : PG X e t) (w : ∀ v s H Q, t' v s H Q → t v s H Q) : PG X e t' := ⟨fun pins s σ H v u Q I r q => h.run pins s σ H v u Q I r (w _ _ _ _ q)⟩
theorem pgs_weak {X : Cx} {e : List Expr} {t t' : TGs} (h : PGs X e t) (w : ∀ v s H Q, t' v s H Q → t v s H Q) : PGs X e t' := ⟨fun pins s σ H v u Q I r q => h.run pins s σ H v u Q I r (w _ _ _ _ q)⟩
theorem dg_name (i : Nat) {x : Str} (hN : X.N.Nodup) (hi : X.N[i]? = some x := by rfl) (hx : Loc X.env.scope x := by first | exact Or.inl rfl | exact Or.inr rfl) (hf : X.fn x = true ∨ X.env.scope.names.lookup x = some .local := by first | exact .inl rfl | exact .inr rfl) : DG G X (.Name x pos) [i] (ggName i) :=
  fun al => pg_weak (pg_name hN hi hx hf) fun v s H Q ⟨k, env, mem, d, env', R, r, e, q⟩ => by
    cases e
    exact q _ (SameBut.set s i _) (R.setVal i r)
theorem dgs_nil : DGs G X [] [] ggNil := fun al => pgs_weak pgs_nil fun v s H Q ⟨k, env, mem, ds, env', R, r, e, q⟩ => by
  cases r with
  | nil =>
    cases e
    exact ⟨rfl, q _ (SameBut.refl s) R⟩
  | cons a b => cases e
theorem dgs_cons {t : GG} {u : GGs} {es : List Expr} {L M : List Nat} (h1 : DG G X e L t) (h2 : DGs G X es M u) (hs : (assignEach (e :: es) X.env).map (·.2) = assign e X.env :: (assignEach es X.env).map (·.2) := by rfl) : DGs G X (e :: es) (L ++ M) (ggCons t u) :=
  fun al => pgs_weak (pgs_cons (h1 al) (h2 al) hs) fun v s H Q ⟨k, env, mem, ds, env', R, r, e, q⟩ => by
    cases r with
    | nil => cases e
    | cons a b =>
      obtain ⟨env1, e1, e2⟩ := Option.bind_eq_some_iff.mp e
      exact ⟨_, _, rfl, k, env, mem, _, env1, R, a, e1, fun s1 S1 R1 => ⟨k, env1, mem, _, env', R1, b, e2, fun s2 S2 R2 => q s2 (S1.trans S2) R2⟩⟩
theorem dg_tup {es : List Expr} {kk : Nat} {t : GGs} {n : Nat} {L : List Nat} (hK : X.K = G.K) (hc : X.calm = true) (h : DGs G X es L t) (hn : (assignEach es X.env).length = n := by rfl) (hst : (assignEach es X.env).findIdx? (·.1) = none := by rfl) : DG G X (.Tuple es kk pos) L (ggTup n t) :=
  fun al => pg_weak (pg_tup hc (h al) hn hst) fun v s H Q ⟨k, env, mem, d, env', R, r, e, q⟩ => by
    unfold ggTup at e
    split at e
    · rename_i ds
      by_cases hl : ds.length = n
      · rw [if_pos hl] at e
        cases r with
        | tup h1 h2 h3 =>
          rw [hK]
          exact ⟨_, _, rfl, h1.sq, by rw [← h3.length]; exact hl, k, env, mem, ds, env', R, h3, e, q⟩
      · rw [if_neg hl] at e
        cases e
    · cases e
theorem ds_asg {tg : Expr} {t : GG} {L : List Nat} (he : DE G W X e ga) (hg : DG G X tg L t) (hs : swapsWithSole [tg] e pos.line X.env = pure false := by rfl) (hw : swappedStores [tg] e X.env = pure none := by rfl)
    (h1 : (assignEach [tg] X.env).map (·.2) = [assign tg X.env] := by rfl) : DS G W X (.Assign [tg] e pos) (gAsg ga t) := fun al => ps_weak (ps_asg (he al) (hg al) hs hw h1) fun D s H ⟨k, env, mem, R, q⟩ =>
  ⟨k, env, mem, R, PostS.bind q fun x m k1 v1 H1 R1 E1 P1 h => by
    cases ht : t x env with
    | none =>
      rw [ht] at h
      exact h.elim
    | some env' =>
      rw [ht] at h
      exact ⟨k1, env, m, x, env', R1, P1, ht, fun s' _ R' => h k1 s' H1 R' (Stays.refl _ _ _)⟩⟩
theorem ds_par (i j : Nat) {x y : Str} {a b : Expr} {px py pt : Pos} {kt k2 pt2} (hc : X.calm = true) (hN : X.N.Nodup) (ha : DE G W X a ga) (hb : DE G W X b gb) (hi : X.N[i]? = some x := by rfl) (hj : X.N[j]? = some y := by rfl) (hij : i ≠ j := by decide)
    (hx : X.env.scope.names.lookup x = some .local := by rfl) (hy : X.env.scope.names.lookup y = some .local := by rfl)
    (hw : swappedStores [.Tuple [.Name x px, .Name y py] kt pt] (.Tuple [a, b] k2 pt2) X.env = pure (some [x, y]) := by rfl)
    (hs : swapsWithSole [.Tuple [.Name x px, .Name y py] kt pt] (.Tuple [a, b] k2 pt2) pos.line X.env = pure false := by rfl)
    (h1 : starEach [a, b] X.env = (false, eval a X.env) :: starEach [b] X.env := by rfl) (h2 : starEach [b] X.env = (false, eval b X.env) :: starEach [] X.env := by rfl) :
    DS G W X (.Assign [.Tuple [.Name x px, .Name y py] kt pt] (.Tuple [a, b] k2 pt2) pos) (gPar i j ga gb) := fun al =>
  ps_weak (ps_par hc hN hi hj hij hx hy (pa_cons (ha al) (pa_cons (hb al) pa_nil h2) h1) hw hs) fun D s H ⟨k, env, mem, R, q⟩ =>
    ⟨k, env, mem, R, PostS.bind q fun x m k1 v1 H1 R1 E1 P1 h => ⟨k1, env, m, R1, PostS.bind h fun y m2 k2 v2 H2 R2 E2 P2 h => ⟨_, _, rfl, h k2 _ H2 ((R2.setVal i (P1.ext E2)).setVal j P2) (Stays.refl _ _ _)⟩⟩⟩
theorem ds_frz (i : Nat) (h : DS G W X st g) : DS G W X st (gFrz i g) := fun al => ps_weak (h al) fun D s H ⟨k, env, mem, R, q⟩ => by
  obtain ⟨k', R', S⟩ := R.frz i
  exact ⟨k', frzE i env, mem, R', PostS.base (r := g (frzE i env) mem) q S⟩
/-! ### loops -/
theorem PostS.loop {D : Ends} {r : RS} {c : GS} {N : L2.St → Hp → Prop} (h : PostS G al W k H D (loopS r c)) (hN : ∀ s' H', dTs G al W c D s' H' → N s' H') : PostS G al W k H { D with nx := N, ct := N, bk := D.nx } r := by
  cases r with
  | ok fl env m =>
    cases fl with
    | nx => exact fun k1 s H1 R S => hN _ _ ⟨k1, env, m, R, PostS.base (r := c env m) h S⟩
    | ct => exact fun k1 s H1 R S => hN _ _ ⟨k1, env, m, R, PostS.base (r := c env m) h S⟩
    | bk => exact h
    | rt d => exact h
  | ex c env m => exact h
  | no => exact h
theorem ds_while (fl : List Slot → List MO → Nat) {c : Expr} {body : List Stmt} (hp : PassesOwn (model X.prog X.w) X.A X.env X.xe) (hc : DT G W X c gt) (hb : DSs G W X body g) : DS G W X (.While c body [] pos) (gWhile fl gt g) := fun al =>
  ps_weak (ps_while hp (hc al) (hb al)) fun D s H ⟨k, env, mem, R, q⟩ => by
    refine ⟨fun n s H => dTs G al W (whileN gt g n) D s H, ⟨_, k, env, mem, R, q⟩, fun n s H ⟨k, env, mem, R, q⟩ => ?_⟩
    cases n with
    | zero => exact q.elim
    | succ n =>
      refine ⟨k, env, mem, R, PostS.bind q fun x m k1 v1 H1 R1 E1 P1 h => ?_⟩
      subst P1
      cases x with
      | true =>
        rw [if_pos rfl] at h ⊢
        exact ⟨fun s' H' => dTs G al W (whileN gt g n) D s' H', fun s' H' z => ⟨n, Nat.lt_succ_self n, z⟩, k1, env, m, R1, PostS.loop h fun _ _ z => z⟩
      | false =>
        rw [if_neg Bool.false_ne_true] at h ⊢
        exact h k1 s H1 R1 (Stays.refl _ _ _)
/-- an iterator over known items -/
def ItS (G : Glob) (k1 : Ka) (H1 : Hp) (ds : List D) (J : It) : Prop := ∀ k H, St2 k1 H1 k H → J.stop ds.length H ∧ ∀ i d, ds[i]? = some d → J.go i H ∧ ∀ x H', J.yld i H x H' →
  (H' = H ∧ Rep G k.mu k.rho H d x) ∨ ∃ T vs es, H T = none ∧ H' = upd H T (.tup vs) ∧ x = .ref T ∧ d = .tup es ∧ Reps G k.mu k.rho H es vs ∧ vs.length ≤ sizeLine
def dTI (G : Glob) (al : Act) (W : WX) (g : GA) : TI := fun s H R => ∃ k env mem, Rel G al k env mem s H ∧ PostR G al W (fun k H ds J => ItS G k H ds J) k env s H R (g env mem)
def DI (G : Glob) (W : WX) (X : Cx) (tg iter : Expr) (g : GA) : Prop := ∀ al, PI X tg iter (dTI G al W g)
theorem pi_weak {X : Cx} {tg e : Expr} {t t' : TI} (h : PI X tg e t) (w : ∀ s H Q, t' s H Q → t s H Q) : PI X tg e t' := ⟨fun pins s σ H R I q => h.run pins s σ H R I (w _ _ _ q)⟩
theorem ItS.base {k1 k2 : Ka} {H1 H2 : Hp} {ds : List D} {J : It} (h : ItS G k1 H1 ds J) (e : St2 k1 H1 k2 H2) : ItS G k2 H2 ds J := fun k H S => h k H (e.trans S)
theorem ItS.getE {ds : List D} {J : It} {i : Nat} {d : D} {x : V} (h : ItS G k H ds J) (R : Rel G al k env mem s H) (hd : ds[i]? = some d) (y : J.yld i H x H') : Rel G al k env mem s H' ∧ Rep G k.mu k.rho H' d x ∧ Ext k H k H' := by
  rcases ((h k H (Stays.refl _ _ _)).2 i d hd).2 x H' y with ⟨rfl, r⟩ | ⟨T, vs, es, h1, rfl, rfl, rfl, h2, h3⟩
  · exact ⟨R, r, Ext.refl _ _⟩
  · obtain ⟨r1, r2⟩ := R.newTup h1 h3 h2
    exact ⟨r1, r2, Ext.new h1⟩
/-- what was yielded stands there -/
theorem ItS.get {ds : List D} {J : It} {i : Nat} {d : D} {x : V} (h : ItS G k H ds J) (R : Rel G al k env mem s H) (hd : ds[i]? = some d) (y : J.yld i H x H') : Rel G al k env mem s H' ∧ Rep G k.mu k.rho H' d x ∧ St2 k H k H' := by
  rcases ((h k H (Stays.refl _ _ _)).2 i d hd).2 x H' y with ⟨rfl, r⟩ | ⟨T, vs, es, h1, rfl, rfl, rfl, h2, h3⟩
  · exact ⟨R, r, Stays.refl _ _ _⟩
  · obtain ⟨r1, r2⟩ := R.newTup h1 h3 h2
    exact ⟨r1, r2, stays_new h1⟩
theorem ds_for {tg iter : Expr} {body : List Stmt} {gi : GA} {t : GG} {L : List Nat} (hp : PassesOwn (model X.prog X.w) X.A X.env X.xe) (hc : X.calm = true) (hi : DI G W X tg iter gi) (hg : DG G X tg L t) (hb : DSs G W X body g)
    (hs : ∀ x, foldedSetIterable iter X.env x = pure x := by intro _; rfl) : DS G W X (.For tg iter body [] pos) (gFor gi t g) := fun al =>
  ps_weak (ps_for hp hc (hi al) (hg al) (hb al) hs) fun D s H ⟨k, env, mem, R, q⟩ => by
    refine ⟨k, env, mem, R, PostS.bind q fun ds m k1 J H1 R1 E1 P1 h => ?_⟩
    refine ⟨fun i n s H => n = ds.length - i ∧ i ≤ ds.length ∧ ∃ k env m, Rel G al k env m s H ∧ St2 k1 H1 k H ∧ PostS G al W k H D (forD t g (ds.drop i) env m), ⟨ds.length, by simp, Nat.zero_le _, k1, env, m, R1, Stays.refl _ _ _, by simpa using h⟩, ?_⟩
    rintro i n s H ⟨rfl, hi, k, env, m, R, S, h⟩
    by_cases hlt : i < ds.length
    · have hd : ds[i]? = some ds[i] := by simp [hlt]
      rw [List.drop_eq_getElem_cons hlt] at h
      have J2 := P1.base S
      refine .inr ⟨((J2 k H (Stays.refl _ _ _)).2 i _ hd).1, fun s' H' => ∃ k env m, Rel G al k env m s' H' ∧ St2 k1 H1 k H' ∧ PostS G al W k H' D (forD t g (ds.drop (i + 1)) env m), fun s' H' z => ⟨ds.length - (i + 1), by omega, rfl, hlt, z⟩, fun x H' y => ?_⟩
      obtain ⟨R2, r2, S2⟩ := J2.get R hd y
      have h : PostS G al W k H D (match t ds[i] env with | some env' => loopS (g env' m) (forD t g (ds.drop (i + 1))) | none => .no) := h
      cases ht : t ds[i] env with
      | none =>
        rw [ht] at h
        exact h.elim
      | some env' =>
        rw [ht] at h
        have h2 := PostS.base (r := loopS (g env' m) (forD t g (ds.drop (i + 1)))) h S2
        have S3 := S.trans S2
        refine ⟨k, env, m, _, env', R2, r2, ht, fun s' _ R' => ⟨k, env', m, R', ?_⟩⟩
        -- the stays since the loop's begin are kept along
        have gen : ∀ (r : RS), PostS G al W k H' D (loopS r (forD t g (ds.drop (i + 1)))) → PostS G al W k H' { D with nx := fun s' H' => ∃ k env m, Rel G al k env m s' H' ∧ St2 k1 H1 k H' ∧ PostS G al W k H' D (forD t g (ds.drop (i + 1)) env m), ct := fun s' H' => ∃ k env m, Rel G al k env m s' H' ∧ St2 k1 H1 k H' ∧ PostS G al W k H' D (forD t g (ds.drop (i + 1)) env m), bk := D.nx } r := fun r hr => by
          cases r with
          | ok fl env m =>
            cases fl with
            | nx => exact fun k2 s2 H2 R2 S4 => ⟨k2, env, m, R2, S3.trans S4, PostS.base (r := forD t g (ds.drop (i + 1)) env m) hr S4⟩
            | ct => exact fun k2 s2 H2 R2 S4 => ⟨k2, env, m, R2, S3.trans S4, PostS.base (r := forD t g (ds.drop (i + 1)) env m) hr S4⟩
            | bk => exact hr
            | rt d => exact hr
          | ex c env m => exact hr
          | no => exact hr
        exact gen _ h2
    · have e : i = ds.length := by omega
      subst e
      rw [List.drop_length] at h
      exact .inl ⟨((P1.base S) k H (Stays.refl _ _ _)).1, h k s H R (Stays.refl _ _ _)⟩
end
end DL
/-! DL5: new lists, own lists, iterators, slices. -/
namespace DL
open PySem PySem.Spec L2
section
variable {G : Glob} {al : Act} {W : WX} {X : Cx} {k k' : Ka} {env : List Slot} {mem m : List MO} {s : L2.St} {H H' : Hp}
variable {a b e : Expr} {es : List Expr} {ga gb : GE} {gr gn : GA} {pos : Pos}
/-! ### new lists -/
def gLstN (g : GA) : GE := fun env m => (g env m).bind fun xs m => .ok (.lst xs) m
theorem de_n (h : DN G W X e gn) : DE G W X e (gLstN gn) := fun al => pe_weak (h al) fun s H Q ⟨k, env, mem, R, q⟩ =>
  ⟨k, env, mem, R, PostR.bind q fun x m k1 v1 H1 R1 E1 P1 h p hp => by
    obtain ⟨r1, r2⟩ := R1.newLst hp P1.2 P1.1
    exact h k1 _ _ r1 (Ext.new hp) r2⟩
def gLim (g : GA) : GA := fun env m => (g env m).bind fun xs m => if lim xs.length = true then .ok xs m else .no
theorem dn_lst (ha : DA G W X es gr) : DN G W X (.List es pos) (gLim gr) := fun al => pe_weak (pe_lst (ha al)) fun s H Q ⟨k, env, mem, R, h⟩ => by
  refine ⟨k, env, mem, R, PostR.bind h fun x m k1 v1 H1 R1 E1 P1 h => ?_⟩
  by_cases hz : lim x.length = true
  · rw [if_pos hz] at h
    have hz' : v1.length ≤ sizeLine := by rw [← P1.length]; exact lim_le hz
    exact ⟨hz', PostR.here h R1 ⟨P1, hz'⟩⟩
  · rw [if_neg hz] at h
    exact h.elim
/-- a two-place operation that makes a new list -/
def OpN (G : Glob) (X : Cx) (f' : Value → Value → Sem Value) (f : List MO → D → D → Option (List D)) : Prop :=
  ∃ r : R2, OpR X f' r ∧ ∀ (al : Act) (k : Ka) (env : List Slot) (mem : List MO) (s : L2.St) (H : Hp) (dx dy : D) (dz : List D) (x y : V) (Q : VK), Rel G al k env mem s H → PdB G k H dx x → PdB G k H dy y → f mem dx dy = some dz →
    (∀ vs, Reps G k.mu k.rho H dz vs → vs.length ≤ sizeLine → ∀ p, H p = none → Q (.ref p) (upd H p (.lst vs))) → r x y H Q
def gBinN (f : List MO → D → D → Option (List D)) (a b : GE) : GA := fun env m => (a env m).bind fun x m => (b env m).bind fun y m => opt (f m x y) m
theorem dn_bin {op : Operator} {f : List MO → D → D → Option (List D)} (ho : OpN G X (binaryOp op) f) (ha : DB G W X a ga) (hb : DB G W X b gb) : DN G W X (.BinOp a op b pos) (gBinN f ga gb) := fun al => by
  obtain ⟨r, hr, hf⟩ := ho
  refine pe_weak (pe_op hr (ha al) (hb al)) fun s H Q ⟨k, env, mem, R, h⟩ => ?_
  refine ⟨k, env, mem, R, PostR.bind h fun x m k1 v1 H1 R1 E1 P1 h => ?_⟩
  refine ⟨k1, env, m, R1, PostR.bind h fun y m2 k2 v2 H2 R2 E2 P2 h => ?_⟩
  obtain ⟨z, ez, h⟩ := opt_ok h
  exact hf al k2 env m2 s H2 x y z v1 v2 Q R2 (P1.ext R1 E2) P2 ez fun vs r hz p hp => h k2 vs H2 R2 (Ext.refl _ _) ⟨r, hz⟩ p hp
def nAdd : List MO → D → D → Option (List D) := fun m x y => (lstOf m x).bind fun a => (lstOf m y).bind fun b => if lim (a.length + b.length) = true then some (a ++ b) else none
theorem on_add : OpN G X (binaryOp .Add) nAdd := by
  refine ⟨_, op_cat, fun al k env mem s H dx dy dz x y Q R px py e q => ?_⟩
  obtain ⟨as, e1, e⟩ := Option.bind_eq_some_iff.mp e
  obtain ⟨bs, e2, e⟩ := Option.bind_eq_some_iff.mp e
  by_cases hl : lim (as.length + bs.length) = true
  · rw [if_pos hl] at e
    cases e
    obtain ⟨a, vs, rfl, h1, h2, h3⟩ := px.lstOf R e1
    obtain ⟨b, us, rfl, g1, g2, g3⟩ := py.lstOf R e2
    have hz : (vs ++ us).length ≤ sizeLine := by
      rw [List.length_append, ← h3.length, ← g3.length]
      exact lim_le hl
    exact ⟨a, b, vs, us, rfl, rfl, h1, g1, by rw [← h3.length, ← g3.length]; exact lim_le hl, fun p hp => q _ (h3.append g3) hz p hp⟩
  · rw [if_neg hl] at e
    cases e
def nMul : List MO → D → D → Option (List D) := fun m x y => match y with
  | .int n => (lstOf m x).bind fun a => if (decide (-(2 ^ 63) ≤ n) && decide (n < 2 ^ 63) && lim (a.length * n.toNat)) = true then some (List.replicate n.toNat a).flatten else none
  | _ => none
theorem on_mul : OpN G X (binaryOp .Mult) nMul := by
  refine ⟨_, op_rep, fun al k env mem s H dx dy dz x y Q R px py e q => ?_⟩
  unfold nMul at e
  split at e
  · rename_i n
    obtain ⟨as, e1, e⟩ := Option.bind_eq_some_iff.mp e
    by_cases hl : (decide (-(2 ^ 63) ≤ n) && decide (n < 2 ^ 63) && lim (as.length * n.toNat)) = true
    · rw [if_pos hl] at e
      cases e
      simp only [Bool.and_eq_true, decide_eq_true_eq] at hl
      obtain ⟨a, vs, rfl, h1, h2, h3⟩ := px.lstOf R e1
      have hz : (List.replicate n.toNat vs).flatten.length ≤ sizeLine := by
        rw [List.length_flatten, List.map_replicate, List.sum_replicate_nat, Nat.mul_comm, ← h3.length]
        exact lim_le hl.2
      exact ⟨a, n, vs, rfl, py.int, h1, hl.1.1, hl.1.2, by rw [← h3.length]; exact lim_le hl.2, fun p hp => q _ (h3.replicate n.toNat) hz p hp⟩
    · rw [if_neg hl] at e
      cases e
  · cases e

/-! ### own lists -/
theorem slot_own {i : Nat} {xs : List D} (R : Rel G al k env mem s H) (e : env[i]? = some (.own xs)) : ∃ p vs, s[i]? = some (some (.ref p)) ∧ k.own i = some p ∧ H p = some (.lst vs) ∧ vs.length ≤ sizeLine ∧ Reps G k.mu k.rho H xs vs := by
  obtain ⟨ov, h1, h2⟩ := R.slots i _ e
  cases ov with
  | none => exact h2.elim
  | some v =>
    obtain ⟨p, rfl, g1, vs, g2, g3, g4⟩ := h2
    exact ⟨p, vs, h1, g1, g2, g3, g4⟩
theorem own_stays {i : Nat} {p : Addr} {vs : List V} (R : Rel G al k env mem s H) (h1 : k.own i = some p) (h2 : H p = some (.lst vs)) (E : Ext k H k' H') : H' p = some (.lst vs) := E.keep p _ h2 (R.wr.onr i p h1) notbl_lst
theorem ds_app (i : Nat) {x : Str} {p1 p2 p3 p4 : Pos} (he : DE G W X e ga) (hN : X.N[i]? = some x := by rfl) (hv : Vis X.env.scope x := by first | exact Or.inl rfl | exact Or.inr (Or.inl rfl) | exact Or.inr (Or.inr rfl)) (hd : (x == ("__debug__" : Str)) = false := by decide)
    (hcd : (x == ("__classdict__" : Str)) = false := by decide)
    (hbase : attributeBase (.Name x p1) "append" X.env (eval (.Name x p1) X.env) = eval (.Name x p1) X.env := by rfl)
    (hfew : ((backTo p3 (starEach [e] X.env)).all (fun x => !x.1) && (backToKw p3 (keywordEach [] X.env)).all (fun x => x.1.isSome) && decide (([e] : List Expr).length + ([] : List Keyword).length + (if ([] : List Keyword).isEmpty then 0 else 1) < 30)) = true := by rfl)
    (hline : (p2.endLine == p3.line) = true := by rfl) (hs : starEach [e] X.env = (false, eval e X.env) :: starEach [] X.env := by rfl) (hplain : (backTo p3 (starEach [] X.env)).any (·.1) = false := by rfl)
    (hsw : swapsWith (.Call (.Attribute (.Name x p1) "append" p2) [e] [] p3) none p4.line X.env = pure false := by rfl) :
    DS G W X (.Expr (.Call (.Attribute (.Name x p1) "append" p2) [e] [] p3) p4) (gApp i ga) := fun al =>
  ps_weak (ps_expr (pe_bm F.plainAttrs_list F.slot_list_append F.type_list_append mt_append (pe_var (pos := p1) hN hv hd hcd) (pa_cons (he al) pa_nil hs) hbase hfew hline hs hplain) hsw) fun Dn s H ⟨k, env, mem, R, q⟩ => by
    unfold gApp at q
    split at q
    · rename_i xs ex
      obtain ⟨p, vs, h1, h2, h3, h4, h5⟩ := slot_own R ex
      refine ⟨.ref p, h1, .inl ⟨rfl, _, SqL.of h3⟩, k, env, mem, R, PostS.bind q fun d m k1 v1 H1 R1 E1 P1 h => ?_⟩
      by_cases hl : lim (xs.length + 1) = true
      · rw [if_pos hl] at h
        have h3' := own_stays R h2 h3 E1
        have h5' := h5.ext E1
        have h2' : k1.own i = some p := by rw [E1.own]; exact h2
        have hz : (vs ++ [v1]).length ≤ sizeLine := by
          rw [List.length_append, ← h5.length]
          exact lim_le hl
        obtain ⟨r1, r2⟩ := R1.writeOwn (o' := .lst (vs ++ [v1])) (sl := .own (xs ++ [d])) i h2' h3' trivial trivial h1 ⟨p, rfl, h2', vs ++ [v1], upd_same, hz, Reps.stay (write_stays (.inr (.inl ⟨i, h2'⟩))) (h5'.append (.cons P1 .nil))⟩
        have hlt : vs.length < sizeLine := by
          rw [List.length_append] at hz
          exact hz
        exact ⟨p, vs, v1, rfl, rfl, h3', hlt, h k1 s _ r1 r2⟩
      · rw [if_neg hl] at h
        exact h.elim
    · exact q.elim
theorem ds_ext (i : Nat) {x : Str} {p1 : Pos} (hN : X.N.Nodup) (he : DB G W X e ga) (hi : X.N[i]? = some x := by rfl) (hx : Loc X.env.scope x := by first | exact Or.inl rfl | exact Or.inr rfl)
    (hf : X.fn x = true ∨ X.env.scope.names.lookup x = some .local := by first | exact .inl rfl | exact .inr rfl) : DS G W X (.AugAssign (.Name x p1) .Add e pos) (gExt i ga) := fun al =>
  ps_weak (ps_aug hN hi hx (he al) iop_ext hf) fun Dn s H ⟨k, env, mem, R, q⟩ => by
    unfold gExt at q
    split at q
    · rename_i xs ex
      obtain ⟨p, vs, h1, h2, h3, h4, h5⟩ := slot_own R ex
      refine ⟨.ref p, h1, k, env, mem, R, PostS.bind q fun d m k1 v1 H1 R1 E1 P1 h => ?_⟩
      cases hd : lstOf m d with
      | none =>
        rw [hd] at h
        exact h.elim
      | some ys =>
        rw [hd] at h
        dsimp only at h
        by_cases hl : lim (xs.length + ys.length) = true
        · rw [if_pos hl] at h
          have h3' := own_stays R h2 h3 E1
          have h5' := h5.ext E1
          have h2' : k1.own i = some p := by rw [E1.own]; exact h2
          obtain ⟨b, us, rfl, g1, g2, g3⟩ := P1.lstOf R1 hd
          have hz : (vs ++ us).length ≤ sizeLine := by
            rw [List.length_append, ← h5.length, ← g3.length]
            exact lim_le hl
          obtain ⟨r1, r2⟩ := R1.writeOwn (o' := .lst (vs ++ us)) (sl := .own (xs ++ ys)) i h2' h3' trivial trivial h1 ⟨p, rfl, h2', vs ++ us, upd_same, hz, Reps.stay (write_stays (.inr (.inl ⟨i, h2'⟩))) (h5'.append g3)⟩
          have hset : s.set i (some (.ref p)) = s := by
            obtain ⟨hl, hg⟩ := List.getElem?_eq_some_iff.mp h1
            rw [← hg]
            exact List.set_getElem_self hl
          exact ⟨p, b, vs, us, rfl, rfl, h3', g1, by rw [← List.length_append]; exact hz, by show Dn.nx (s.set i (some (.ref p))) _; rw [hset]; exact h k1 s _ r1 r2⟩
        · rw [if_neg hl] at h
          exact h.elim
    · exact q.elim
theorem ds_aug (i : Nat) {op : Operator} {f : List MO → D → D → Option D} {x : Str} {p1 : Pos} (hN : X.N.Nodup) (ho : OpD G X (inplaceOp op) f) (he : DB G W X e ga) (hi : X.N[i]? = some x := by rfl) (hx : Loc X.env.scope x := by first | exact Or.inl rfl | exact Or.inr rfl)
    (hf : X.fn x = true ∨ X.env.scope.names.lookup x = some .local := by first | exact .inl rfl | exact .inr rfl) : DS G W X (.AugAssign (.Name x p1) op e pos) (gAug i f ga) := fun al => by
  obtain ⟨r, hr, hh⟩ := ho
  refine ps_weak (ps_aug hN hi hx (he al) (ti := r) hr hf) fun Dn s H ⟨k, env, mem, R, q⟩ => ?_
  unfold gAug at q
  split at q
  · rename_i d ex
    obtain ⟨ov, h1, h2⟩ := R.slots i _ ex
    cases ov with
    | none => exact h2.elim
    | some v =>
      refine ⟨v, h1, k, env, mem, R, PostS.bind q fun d2 m k1 v1 H1 R1 E1 P1 h => ?_⟩
      cases hz : f m d d2 with
      | none =>
        rw [hz] at h
        exact h.elim
      | some z =>
        rw [hz] at h
        exact hh al k1 env m s H1 d d2 z v v1 _ R1 (.inl (Rep.ext h2 E1)) P1 hz fun k2 v2 H2 R2 E2 r2 => h k2 _ H2 (R2.setVal i r2) E2.stays
  · exact q.elim
theorem oi_add : OpD G X (inplaceOp .Add) (iiD (fun _ _ => true) fun i j => .int (i + j)) := opII0 iop_add fun _ _ => rfl
theorem oi_sub : OpD G X (inplaceOp .Sub) (iiD (fun _ _ => true) fun i j => .int (i - j)) := opII0 iop_sub fun _ _ => rfl
theorem oi_mul : OpD G X (inplaceOp .Mult) (iiD cMul fun i j => .int (i * j)) := opII iop_mul (fun i j h => by
  unfold cMul at h
  rcases Bool.or_eq_true_iff.mp h with h | h
  · exact .inl (smallI_ok h)
  · exact .inr (smallI_ok h)) fun _ _ => rfl
theorem oi_mod : OpD G X (inplaceOp .Mod) (iiD cMod fun i j => .int (i % j)) := opII iop_mod (fun i j h => by
  unfold cMod at h
  simpa using h) fun _ _ => rfl

/-! ### iterators -/
theorem its_list {H1 : Hp} {k1 : Ka} {ds : List D} {a : Addr} {vs : List V} (h : H1 a = some (.lst vs)) (n : ¬ k1.mu a) (r : Reps G k1.mu k1.rho H1 ds vs) : ItS G k1 H1 ds (Itl G.K a) := fun k H S => by
  obtain ⟨h', n'⟩ := S.keep a _ h n notbl_lst
  have r' := Reps.stay S r
  refine ⟨⟨vs, SqL.of h', by rw [r.length]; exact Nat.le_refl _⟩, fun i d hd => ?_⟩
  obtain ⟨v, h1, h2⟩ := r'.get hd
  refine ⟨⟨vs, v, SqL.of h', h1⟩, fun x H' ⟨e1, e2⟩ => ?_⟩
  have := e2 vs (SqL.of h')
  rw [h1] at this
  cases this
  exact .inl ⟨e1, h2⟩
theorem its_tup {H1 : Hp} {k1 : Ka} {ds : List D} {a : Addr} {vs : List V} (h : TupAt G.K k1.mu H1 a vs) (r : Reps G k1.mu k1.rho H1 ds vs) : ItS G k1 H1 ds (Itt G.K a) := fun k H S => by
  have h' := h.stay S
  have r' := Reps.stay S r
  refine ⟨⟨vs, h'.sq, by rw [r.length]; exact Nat.le_refl _⟩, fun i d hd => ?_⟩
  obtain ⟨v, h1, h2⟩ := r'.get hd
  refine ⟨⟨vs, v, h'.sq, h1⟩, fun x H' ⟨e1, e2⟩ => ?_⟩
  have := e2 vs h'.sq
  rw [h1] at this
  cases this
  exact .inl ⟨e1, h2⟩
/-- the items of a list, a tuple that is not written -/
def asL : D → Option (List D)
  | .lst xs => some xs
  | _ => none
def asT : D → Option (List D)
  | .tup xs => some xs
  | _ => none
def gIt (f : D → Option (List D)) (a : GE) : GA := fun env m => (a env m).bind fun d m => opt (f d) m
theorem di_list {tg : Expr} (hK : X.K = G.K) (he : DE G W X e ga) : DI G W X tg e (gIt asL ga) := fun al => pi_weak (pi_list (he al)) fun s H Q ⟨k, env, mem, R, q⟩ => by
  refine ⟨k, env, mem, R, PostR.bind q fun d m k1 v1 H1 R1 E1 P1 h => ?_⟩
  obtain ⟨xs, ex, h⟩ := opt_ok h
  cases d with
  | lst ys =>
    cases ex
    cases P1 with
    | lst h1 h2 h3 =>
      rw [hK]
      exact ⟨_, rfl, ⟨_, SqL.of h1.1⟩, h k1 _ H1 R1 (Ext.refl _ _) (its_list h1.1 h1.2 h3)⟩
  | _ => cases ex
theorem di_tup {tg : Expr} (hK : X.K = G.K) (he : DE G W X e ga) : DI G W X tg e (gIt asT ga) := fun al => pi_weak (pi_tup (he al)) fun s H Q ⟨k, env, mem, R, q⟩ => by
  refine ⟨k, env, mem, R, PostR.bind q fun d m k1 v1 H1 R1 E1 P1 h => ?_⟩
  obtain ⟨xs, ex, h⟩ := opt_ok h
  cases d with
  | tup ys =>
    cases ex
    cases P1 with
    | tup h1 h2 h3 =>
      rw [hK]
      exact ⟨_, rfl, ⟨_, h1.sq⟩, h k1 _ H1 R1 (Ext.refl _ _) (its_tup h1 h3)⟩
  | _ => cases ex
/-! ranges -/
def rng (lo hi : Int) : List D := (List.range (hi - lo).toNat).map fun (i : Nat) => D.int (lo + (i : Int))
theorem rng_length (lo hi : Int) : (rng lo hi).length = (hi - lo).toNat := by unfold rng; simp
theorem its_rng {H1 : Hp} {k1 : Ka} (lo hi : Int) : ItS G k1 H1 (rng lo hi) (Itr lo (hi - lo).toNat) := fun k H S => by
  refine ⟨by show _ ≤ _; rw [rng_length]; exact Nat.le_refl _, fun i d hd => ?_⟩
  obtain ⟨hl, hg⟩ := List.getElem?_eq_some_iff.mp hd
  have hl' := hl
  rw [rng_length] at hl'
  refine ⟨hl', fun x H' ⟨e1, e2⟩ => .inl ⟨e1, ?_⟩⟩
  have hd2 : d = .int (lo + i) := by
    have hd3 := hd
    unfold rng at hd3
    rw [List.getElem?_map, List.getElem?_range hl'] at hd3
    exact (Option.some.inj hd3).symm
  rw [hd2, e2]
  exact .int _
def okR (i : Int) : Bool := decide (-(2 ^ 62) ≤ i) && decide (i < 2 ^ 62)
def gRng1 (a : GA) : GA := fun env m => (a env m).bind fun ds m => match ds with
  | [.int j] => if okR j = true then .ok (rng 0 j) m else .no
  | _ => .no
def gRng2 (a : GA) : GA := fun env m => (a env m).bind fun ds m => match ds with
  | [.int i, .int j] => if okR i = true then (if okR j = true then .ok (rng i j) m else .no) else .no
  | _ => .no
theorem okR_ok {i : Int} (h : okR i = true) : -(2 ^ 62) ≤ i ∧ i < 2 ^ 62 := by
  unfold okR at h
  simpa using h
theorem Reps.one {mu : Addr → Prop} {rho : List Addr} {d : D} {vs : List V} (h : Reps G mu rho H [d] vs) : ∃ v, vs = [v] ∧ Rep G mu rho H d v := by
  cases h with
  | cons a b =>
    cases b
    exact ⟨_, rfl, a⟩
theorem Reps.two {mu : Addr → Prop} {rho : List Addr} {d e : D} {vs : List V} (h : Reps G mu rho H [d, e] vs) : ∃ v w, vs = [v, w] ∧ Rep G mu rho H d v ∧ Rep G mu rho H e w := by
  cases h with
  | cons a b =>
    obtain ⟨w, rfl, c⟩ := Reps.one b
    exact ⟨_, _, rfl, a, c⟩
theorem Rep.vint {mu : Addr → Prop} {rho : List Addr} {i : Int} {v : V} (h : Rep G mu rho H (.int i) v) : v = .int i := by cases h; rfl
theorem di_rng1 {tg : Expr} {p : Pos} (ha : DA G W X [a] gr) (hm : X.mg "range" = none) (hg : Gl X "range" := by rfl) (hs : starEach [a] X.env = [(false, eval a X.env)] := by rfl) : DI G W X tg (.Call (.Name "range" p) [a] [] pos) (gRng1 gr) := fun al =>
  pi_weak (pi_range1 hg hm (ha al) hs) fun s H Q ⟨k, env, mem, R, q⟩ => by
    refine ⟨k, env, mem, R, PostR.bind q fun ds m k1 v1 H1 R1 E1 P1 h => ?_⟩
    split at h
    · rename_i j
      by_cases hj : okR j = true
      · rw [if_pos hj] at h
        obtain ⟨v, rfl, r⟩ := Reps.one P1
        obtain ⟨q1, q2⟩ := okR_ok hj
        refine ⟨j, by rw [r.vint], q1, q2, ?_⟩
        have := h k1 (Itr 0 (j - 0).toNat) H1 R1 (Ext.refl _ _) (its_rng 0 j)
        rwa [Int.sub_zero] at this
      · rw [if_neg hj] at h
        exact h.elim
    · exact h.elim
theorem di_rng2 {tg : Expr} {p : Pos} (ha : DA G W X [a, b] gr) (hm : X.mg "range" = none) (hg : Gl X "range" := by rfl) (hs : starEach [a, b] X.env = [(false, eval a X.env), (false, eval b X.env)] := by rfl) (hs2 : starEach [b] X.env = [(false, eval b X.env)] := by rfl) :
    DI G W X tg (.Call (.Name "range" p) [a, b] [] pos) (gRng2 gr) := fun al =>
  pi_weak (pi_range2 hg hm (ha al) hs hs2) fun s H Q ⟨k, env, mem, R, q⟩ => by
    refine ⟨k, env, mem, R, PostR.bind q fun ds m k1 v1 H1 R1 E1 P1 h => ?_⟩
    split at h
    · rename_i i j
      by_cases hi : okR i = true
      · rw [if_pos hi] at h
        by_cases hj : okR j = true
        · rw [if_pos hj] at h
          obtain ⟨v, w, rfl, r, r2⟩ := Reps.two P1
          obtain ⟨q1, q2⟩ := okR_ok hi
          obtain ⟨q3, q4⟩ := okR_ok hj
          exact ⟨i, j, by rw [r.vint, r2.vint], ⟨q1, q2, q3, q4⟩, h k1 _ H1 R1 (Ext.refl _ _) (its_rng i j)⟩
        · rw [if_neg hj] at h
          exact h.elim
      · rw [if_neg hi] at h
        exact h.elim
    · exact h.elim
/-! zip -/
def zipD (xs ys : List D) : List D := (xs.zip ys).map fun p => .tup [p.1, p.2]
def gZip (a : GA) : GA := fun env m => (a env m).bind fun ds m => match ds with
  | [.lst xs, .lst ys] => .ok (zipD xs ys) m
  | [.tup xs, .tup ys] => .ok (zipD xs ys) m
  | _ => .no
theorem zipD_get {xs ys : List D} {i : Nat} {d : D} (h : (zipD xs ys)[i]? = some d) : ∃ x y, xs[i]? = some x ∧ ys[i]? = some y ∧ d = .tup [x, y] := by
  unfold zipD at h
  rw [List.getElem?_map] at h
  obtain ⟨p, h1, rfl⟩ := Option.map_eq_some_iff.mp h
  obtain ⟨h2, h3⟩ := List.getElem?_zip_eq_some.mp h1
  exact ⟨p.1, p.2, h2, h3, rfl⟩
theorem zipD_length (xs ys : List D) : (zipD xs ys).length = min xs.length ys.length := by unfold zipD; simp
theorem di_zip {elts : List Expr} {kk : Nat} {tpos p : Pos} (hK : X.K = G.K) (ha : DA G W X [a, b] gr) (hm : X.mg "zip" = none) (hg : Gl X "zip" := by rfl) (hs : starEach [a, b] X.env = (false, eval a X.env) :: starEach [b] X.env := by rfl) (hpl : (backTo pos (starEach [b] X.env)).any (·.1) = false := by rfl) :
    DI G W X (.Tuple elts kk tpos) (.Call (.Name "zip" p) [a, b] [] pos) (gZip gr) := fun al =>
  pi_weak (RZ.pi_zipA hg hm (ha al) hs hpl) fun s H Q ⟨k, env, mem, R, q⟩ => by
    refine ⟨k, env, mem, R, PostR.bind q fun ds m k1 v1 H1 R1 E1 P1 h => ?_⟩
    split at h
    · rename_i xs ys
      obtain ⟨v, w, rfl, r, r2⟩ := Reps.two P1
      cases r with
      | lst a1 a2 a3 =>
        cases r2 with
        | lst b1 b2 b3 =>
          rw [hK]
          refine ⟨_, _, _, _, rfl, .inl ⟨SqL.of a1.1, SqL.of b1.1, h k1 _ H1 R1 (Ext.refl _ _) fun k H S => ?_⟩⟩
          have a1' := a1.stay S
          have b1' := b1.stay S
          have a3' := Reps.stay S a3
          have b3' := Reps.stay S b3
          refine ⟨⟨_, _, SqL.of a1'.1, SqL.of b1'.1, by rw [zipD_length, a3.length, b3.length]; omega⟩, fun i d hd => ?_⟩
          obtain ⟨x, y, h1, h2, rfl⟩ := zipD_get hd
          obtain ⟨vx, g1, g2⟩ := a3'.get h1
          obtain ⟨vy, g3, g4⟩ := b3'.get h2
          refine ⟨⟨_, _, vx, vy, SqL.of a1'.1, SqL.of b1'.1, g1, g3⟩, fun z H' ⟨T, x', y', e1, e2, e3, e4, e5⟩ => ?_⟩
          have e4 := e4 _ (SqL.of a1'.1)
          have e5 := e5 _ (SqL.of b1'.1)
          rw [g1] at e4
          rw [g3] at e5
          cases e4
          cases e5
          exact .inr ⟨T, _, _, e2, e3, e1, rfl, .cons g2 (.cons g4 .nil), (by rw [sizeLine_eq]; decide : 2 ≤ sizeLine)⟩
    · rename_i xs ys
      obtain ⟨v, w, rfl, r, r2⟩ := Reps.two P1
      cases r with
      | tup a1 a2 a3 =>
        cases r2 with
        | tup b1 b2 b3 =>
          rw [hK]
          refine ⟨_, _, _, _, rfl, .inr ⟨a1.sq, b1.sq, h k1 _ H1 R1 (Ext.refl _ _) fun k H S => ?_⟩⟩
          have a1' := a1.stay S
          have b1' := b1.stay S
          have a3' := Reps.stay S a3
          have b3' := Reps.stay S b3
          refine ⟨⟨_, _, a1'.sq, b1'.sq, by rw [zipD_length, a3.length, b3.length]; omega⟩, fun i d hd => ?_⟩
          obtain ⟨x, y, h1, h2, rfl⟩ := zipD_get hd
          obtain ⟨vx, g1, g2⟩ := a3'.get h1
          obtain ⟨vy, g3, g4⟩ := b3'.get h2
          refine ⟨⟨_, _, vx, vy, a1'.sq, b1'.sq, g1, g3⟩, fun z H' ⟨T, x', y', e1, e2, e3, e4, e5⟩ => ?_⟩
          have e4 := e4 _ a1'.sq
          have e5 := e5 _ b1'.sq
          rw [g1] at e4
          rw [g3] at e5
          cases e4
          cases e5
          exact .inr ⟨T, _, _, e2, e3, e1, rfl, .cons g2 (.cons g4 .nil), (by rw [sizeLine_eq]; decide : 2 ≤ sizeLine)⟩
    · exact h.elim
/-! enumerate -/
def enumD (xs : List D) : List D := (xs.zipIdx).map fun p => .tup [.int p.2, p.1]
def gEnum (a : GA) : GA := fun env m => (a env m).bind fun ds m => match ds with
  | [.lst xs] => .ok (enumD xs) m
  | _ => .no
theorem di_enum {elts : List Expr} {kk : Nat} {tpos p : Pos} (hK : X.K = G.K) (ha : DA G W X [a] gr) (hm : X.mg "enumerate" = none) (hg : Gl X "enumerate" := by rfl) (hs : starEach [a] X.env = [(false, eval a X.env)] := by rfl) :
    DI G W X (.Tuple elts kk tpos) (.Call (.Name "enumerate" p) [a] [] pos) (gEnum gr) := fun al =>
  pi_weak (pi_enum hg hm (ha al) hs) fun s H Q ⟨k, env, mem, R, q⟩ => by
    refine ⟨k, env, mem, R, PostR.bind q fun ds m k1 v1 H1 R1 E1 P1 h => ?_⟩
    split at h
    · rename_i xs
      obtain ⟨v, rfl, r⟩ := Reps.one P1
      cases r with
      | lst a1 a2 a3 =>
        rw [hK]
        refine ⟨_, _, rfl, SqL.of a1.1, h k1 _ H1 R1 (Ext.refl _ _) fun k H S => ?_⟩
        have a1' := a1.stay S
        have a3' := Reps.stay S a3
        refine ⟨⟨_, SqL.of a1'.1, by unfold enumD; rw [List.length_map, List.length_zipIdx, a3.length]; exact Nat.le_refl _⟩, fun i d hd => ?_⟩
        unfold enumD at hd
        rw [List.getElem?_map, List.getElem?_zipIdx] at hd
        obtain ⟨p, hd, ed⟩ := Option.map_eq_some_iff.mp hd
        obtain ⟨x, h1, rfl⟩ := Option.map_eq_some_iff.mp hd
        subst ed
        obtain ⟨vx, g1, g2⟩ := a3'.get h1
        refine ⟨⟨_, vx, SqL.of a1'.1, g1⟩, fun z H' ⟨T, x', e1, e2, e3, e4⟩ => ?_⟩
        have e4 := e4 _ (SqL.of a1'.1)
        rw [g1] at e4
        cases e4
        refine .inr ⟨T, _, _, e2, e3, e1, rfl, .cons ?_ (.cons g2 .nil), (by rw [sizeLine_eq]; decide : 2 ≤ sizeLine)⟩
        show Rep G k.mu k.rho H (.int ((0 + i : Nat) : Int)) (.int (i : Int))
        rw [Nat.zero_add]
        exact .int _
    · exact h.elim
end
end DL
/-! DL6: comprehensions. -/
namespace DL
open PySem PySem.Spec L2
section
variable {G : Glob} {al : Act} {k k' k4 : Ka} {env env4 : List Slot} {mem m mem4 : List MO} {s s4 : L2.St} {H H' H4 : Hp} {B : Addr} {o o' : HO}
def Act.plus (al : Act) (B : Addr) : Act := { al with out0 := fun a => al.out0 a ∨ a = B }
def Ka.plus (k : Ka) (B : Addr) : Ka := { k with out := fun a => k.out a ∨ a = B }
def Ka.minus (al : Act) (k : Ka) : Ka := { k with out := al.out0 }
def del (H : Hp) (B : Addr) : Hp := fun a => if a = B then none else H a
theorem del_self : del H B B = none := if_pos rfl
theorem del_ne {a : Addr} (h : a ≠ B) : del H B a = H a := if_neg h
theorem del_upd : del (upd H B o) B = del H B := by
  funext a
  unfold del
  by_cases h : a = B
  · rw [if_pos h, if_pos h]
  · rw [if_neg h, if_neg h, upd_ne h]
theorem upd_del : upd (del H B) B o = upd H B o := by
  funext a
  unfold upd
  by_cases h : a = B
  · rw [if_pos h, if_pos h]
  · rw [if_neg h, if_neg h, del_ne h]
theorem del_none (h : H B = none) : del H B = H := by
  funext a
  unfold del
  by_cases e : a = B
  · rw [if_pos e, e, h]
  · rw [if_neg e]
theorem del_some {a : Addr} {u : HO} (h : del H B a = some u) : a ≠ B ∧ H a = some u := by
  unfold del at h
  by_cases e : a = B
  · rw [if_pos e] at h
    cases h
  · rw [if_neg e] at h
    exact ⟨e, h⟩
/-- a new object that only the loop knows -/
theorem Rel.plus (R : Rel G al k env mem s H) (h : H B = none) (ho : MutO o) : Rel G (al.plus B) (k.plus B) env mem s (upd H B o) ∧ St2 k H (k.plus B) (upd H B o) := by
  have nm : ¬ k.mu B := R.wr.no h
  have keep : ∀ a u, H a = some u → upd H B o a = some u := fun a u e => by rw [upd_ne (ne_of_none e h)]; exact e
  have st : St2 k H (k.plus B) (upd H B o) := ⟨fun a u e n t => ⟨keep a u e, fun z => by
    rcases z with z | z | z | z
    · exact n (.inl z)
    · exact n (.inr (.inl z))
    · exact n (.inr (.inr z))
    · rw [z, h] at e
      cases e⟩, fun _ _ e => e⟩
  refine ⟨⟨⟨R.wr.len, fun j mo a h1 h2 => (R.wr.mem j mo a h1 h2).stay (k' := k.plus B) st fun u e => keep a u e, R.wr.nd, R.wr.oi, R.wr.onr, fun a ha => ?_, fun a ha => ?_, tabs_new R.wr.tabs h⟩, fun i sl e => ?_, R.len, fun a u e n t => keep a u (R.fix a u e n t), fun a ps e => ?_, R.pre, R.own0, ?_⟩, st⟩
  · rcases ha with ha | ha
    · exact R.wr.nout a ha
    · rw [ha]
      exact ⟨fun z => nm (.inl z), fun i z => nm (.inr (.inl ⟨i, z⟩))⟩
  · by_cases hb : a = B
    · rw [hb]
      exact ⟨_, upd_same, ho⟩
    · have hm : k.mu a := by
        rcases ha with z | z | z | z
        · exact .inl z
        · exact .inr (.inl z)
        · exact .inr (.inr z)
        · exact absurd z hb
      obtain ⟨u, e, t⟩ := R.wr.trk a hm
      exact ⟨u, keep a u e, t⟩
  · obtain ⟨ov, h1, h2⟩ := R.slots i sl e
    exact ⟨ov, h1, h2.stay (k' := k.plus B) st rfl fun q u _ e => keep q u e⟩
  · obtain ⟨qs, q⟩ := R.tb0 a ps e
    exact ⟨qs, keep a _ q⟩
  · show (fun a => k.out a ∨ a = B) = fun a => al.out0 a ∨ a = B
    rw [R.out]
/-- it is gone -/
theorem Rel.minus (R : Rel G (al.plus B) k env mem s H) (h0 : al.H0 B = none) (hb : H B = some o) (ho : MutO o) (na : ¬ al.out0 B) : Rel G al (Ka.minus al k) env mem s (del H B) ∧ St2 k H (Ka.minus al k) (del H B) := by
  have kB : k.out B := by rw [R.out]; exact .inr rfl
  have sub : ∀ a, (Ka.minus al k).mu a → k.mu a := fun a z => by
    rcases z with z | z | z
    · exact .inl z
    · exact .inr (.inl z)
    · exact .inr (.inr (by rw [R.out]; exact .inl z))
  have nB : ∀ a, (Ka.minus al k).mu a → a ≠ B := fun a z e => by
    rcases z with z | ⟨i, z⟩ | z
    · exact (R.wr.nout B kB).1 (by rw [← e]; exact z)
    · exact (R.wr.nout B kB).2 i (by rw [← e]; exact z)
    · exact na (by rw [← e]; exact z)
  have st : St2 k H (Ka.minus al k) (del H B) := ⟨fun a u e n t => ⟨by rw [del_ne (fun z => n (by rw [z]; exact .inr (.inr kB)))]; exact e, fun z => n (sub a z)⟩, fun _ _ e => e⟩
  have keep : ∀ a u, a ≠ B → H a = some u → del H B a = some u := fun a u n e => by rw [del_ne n]; exact e
  refine ⟨⟨⟨R.wr.len, fun j mo a h1 h2 => (R.wr.mem j mo a h1 h2).stay (k' := Ka.minus al k) st fun u e => keep a u (nB a (.inl (List.mem_of_getElem? h2))) e, R.wr.nd, R.wr.oi, R.wr.onr, fun a ha => R.wr.nout a (by rw [R.out]; exact .inl ha), fun a ha => ?_, ⟨fun p hp => ?_, fun P hP => ?_⟩⟩, fun i sl e => ?_, R.len, fun a u e n t => ?_, fun a ps e => ?_, R.pre, R.own0, rfl⟩, st⟩
  · obtain ⟨u, e, t⟩ := R.wr.trk a (sub a ha)
    exact ⟨u, keep a u (nB a ha) e, t⟩
  · obtain ⟨ps, e1, e2, e3⟩ := R.wr.tabs.lam p hp
    refine ⟨ps, keep _ _ (ne_of e1 hb fun z => ho.nt _ z.symm) e1, e2, fun pos cv hc => ?_⟩
    obtain ⟨c, g1, g2⟩ := e3 pos cv hc
    exact ⟨c, g1, keep c _ (ne_of g2 hb fun z => ho.nx (by rw [← z]; rfl)) g2⟩
  · obtain ⟨ps, e1, e2⟩ := R.wr.tabs.gen P hP
    exact ⟨ps, keep _ _ (ne_of e1 hb fun z => ho.nt _ z.symm) e1, e2⟩
  · obtain ⟨ov, h1, h2⟩ := R.slots i sl e
    exact ⟨ov, h1, h2.stay (k' := Ka.minus al k) st rfl fun q u hq e => keep q u (nB q (.inr (.inl ⟨i, hq⟩))) e⟩
  · have h2 := R.fix a u e n t
    refine keep a u (fun z => ?_) h2
    have e : al.H0 a = some u := e
    rw [z, h0] at e
    cases e
  · obtain ⟨qs, q⟩ := R.tb0 a ps e
    exact ⟨qs, keep a _ (ne_of q hb fun z => ho.nt _ z.symm) q⟩
theorem Ext.del (E : Ext k H k' H') (kB : B ∉ k.rho) (hB : ∀ x ∈ k'.rho, x ≠ B) : Ext (Ka.minus al k) (del H B) (Ka.minus al k') (del H' B) := by
  obtain ⟨more, e1, f1⟩ := E.rho
  refine ⟨fun a u e n t => ?_, fun a ps e => ?_, ⟨more, e1, fun x hx => ?_⟩, E.own, rfl⟩
  · obtain ⟨h1, h2⟩ := del_some e
    rw [del_ne h1]
    exact E.keep a u h2 n t
  · obtain ⟨h1, h2⟩ := del_some e
    rw [del_ne h1]
    exact E.tb a ps h2
  · rw [del_ne (hB x (by rw [e1]; exact List.mem_append_right _ hx))]
    exact f1 x hx
/-- there and back -/
theorem Rel.trip (R : Rel G al k env mem s H) (h : H B = none) (ho : MutO o) (R4 : Rel G (al.plus B) k4 env4 mem4 s4 H4) (E : Ext (k.plus B) (upd H B o) k4 H4) :
    ∃ k5, Rel G al k5 env mem4 s (del H4 B) ∧ Ext k H k5 (del H4 B) ∧ St2 k4 H4 k5 (del H4 B) ∧ H4 B = some o := by
  have nm : ¬ k.mu B := R.wr.no h
  have h0 := R.h0none h
  have na : ¬ al.out0 B := fun z => nm (.inr (.inr (by rw [R.out]; exact z)))
  have hb : H4 B = some o := E.keep B o upd_same (fun z => nm (.inl z)) ho.nt
  have kB : k4.out B := by rw [R4.out]; exact .inr rfl
  obtain ⟨r1, r2⟩ := R4.minus h0 hb ho na
  have E2 := Ext.del (al := al) E (fun z => nm (.inl z)) fun x hx z => (R4.wr.nout B kB).1 (by rw [← z]; exact hx)
  have ek : Ka.minus al (k.plus B) = k := by
    unfold Ka.minus Ka.plus
    rw [← R.out]
  rw [del_upd, del_none h, ek] at E2
  exact ⟨_, R.step E2 r1.wr, E2, r2, hb⟩
/-- slots forgotten -/
def wipeE (env : List Slot) : List Nat → List Slot
  | [] => env
  | v :: vs => (wipeE env vs).set v .un
theorem wipeE_length (env : List Slot) : ∀ vs : List Nat, (wipeE env vs).length = env.length
  | [] => rfl
  | v :: vs => by unfold wipeE; rw [List.length_set, wipeE_length env vs]
theorem Rel.wipe (R : Rel G al k env mem s H) (vs : List Nat) : Rel G al k (wipeE env vs) mem (L2.wipe s vs) H := by
  refine ⟨R.wr, ?_, by rw [wipeE_length, wipe_length]; exact R.len, R.fix, R.tb0, R.pre, R.own0, R.out⟩
  induction vs with
  | nil => exact R.slots
  | cons v vs ih =>
    intro i sl e
    unfold wipeE at e
    unfold L2.wipe
    rw [List.getElem?_set] at e ⊢
    by_cases hv : v = i
    · rw [if_pos hv] at e ⊢
      by_cases hl : v < (wipeE env vs).length
      · rw [if_pos hl] at e
        cases e
        rw [if_pos (by rw [wipe_length, ← R.len, ← wipeE_length env vs]; exact hl)]
        exact ⟨_, rfl, trivial⟩
      · rw [if_neg hl] at e
        cases e
    · rw [if_neg hv] at e ⊢
      exact ih i sl e
theorem wipe_get (s : L2.St) (vs : List Nat) (j : Nat) : (L2.wipe s vs)[j]? = if j ∈ vs then (if j < s.length then some none else none) else s[j]? := by
  induction vs with
  | nil => simp [L2.wipe]
  | cons v vs ih =>
    unfold L2.wipe
    rw [List.getElem?_set]
    by_cases hv : v = j
    · subst hv
      rw [if_pos rfl, wipe_length]
      simp
    · rw [if_neg hv, ih]
      have : (j ∈ v :: vs) ↔ (j ∈ vs) := by
        simp only [List.mem_cons]
        exact ⟨fun z => z.elim (fun e => absurd e.symm hv) id, .inr⟩
      simp only [this]
theorem wipe_wipe (s : L2.St) (vs : List Nat) : L2.wipe (L2.wipe s vs) vs = L2.wipe s vs := by
  refine List.ext_getElem? fun j => ?_
  rw [wipe_get, wipe_get, wipe_length]
  by_cases hj : j ∈ vs
  · rw [if_pos hj, if_pos hj]
  · rw [if_neg hj, if_neg hj]
theorem wipe_same {L vs : List Nat} {s s' : L2.St} (h : SameBut L s s') (hL : ∀ j ∈ L, j ∈ vs) : L2.wipe s' vs = L2.wipe s vs := by
  refine List.ext_getElem? fun j => ?_
  rw [wipe_get, wipe_get]
  by_cases hj : j ∈ vs
  · rw [if_pos hj, if_pos hj, h.1]
  · rw [if_neg hj, if_neg hj]
    exact h.2 j fun z => hj (hL j z)
end
/-! ### list comprehensions -/
def nx {α β : Type} (r : RE α) (f : α → List MO → RE β) : RE β := match r with
  | .ok a m => f a m
  | _ => .no
def compD (g : GG) (t : GT) (e : GE) : List D → List Slot → List MO → RE (List D)
  | [], _, m => .ok [] m
  | d :: ds, env, m => match g d env with
    | none => .no
    | some env' => nx (t env' m) fun b m => if b = true then nx (e env' m) fun y m => (compD g t e ds env m).bind fun ys m => .ok (y :: ys) m else compD g t e ds env m
def gComp (vs : List Nat) (it : GA) (g : GG) (t : GT) (e : GE) : GA := fun env m => (it env m).bind fun ds m => if lim ds.length = true then compD g t e ds (wipeE env vs) m else .no
abbrev W0 : WX := fun _ _ _ _ => False
def gtYes : GT := fun _ m => .ok true m
def DTs (G : Glob) (X : Cx) (ifs : List Expr) (t : GT) : Prop := ∀ al, PTs X ifs (dTT G al W0 t)
section
variable {G : Glob} {al : Act} {W : WX} {X : Cx} {k k' : Ka} {env : List Slot} {mem m : List MO} {s : L2.St} {H H' : Hp}
theorem pts_weak {X : Cx} {e : List Expr} {t t' : TT} (h : PTs X e t) (w : ∀ s H Q, t' s H Q → t s H Q) : PTs X e t' := ⟨fun pins s σ H Q I q => h.run pins s σ H Q I (w _ _ _ q)⟩
theorem dts_nil : DTs G X [] gtYes := fun al => pts_weak pts_nil fun s H Q ⟨k, env, mem, R, h⟩ => PostR.here h R rfl
theorem dts_one {c : Expr} {t : GT} (h : DT G W0 X c t) : DTs G X [c] t := fun al => pts_one (h al)
/-- no exception there -/
theorem PostR.nx {α β γ δ : Type} {Pd1 : Ka → Hp → α → γ → Prop} {Pd2 : Ka → Hp → β → δ → Prop} {Q1 : γ → Hp → Prop} {Q2 : δ → Hp → Prop} {r : RE α} {f : α → List MO → RE β} {alx : Act} {k1 : Ka} {env1 : List Slot} {s1 : L2.St} {H1 : Hp} (h : PostR G al W Pd2 k env s H Q2 (nx r f))
    (c : ∀ a m k' v H', r = .ok a m → Rel G alx k' env1 m s1 H' → Ext k1 H1 k' H' → Pd1 k' H' a v → PostR G al W Pd2 k env s H Q2 (f a m) → Q1 v H') : PostR G alx W0 Pd1 k1 env1 s1 H1 Q1 r := by
  cases r with
  | ok a m => exact fun k' v H' R' E P => c a m k' v H' rfl R' E P h
  | ex c m => exact h.elim
  | no => exact h.elim
theorem bind_acc {β : Type} (r : RE (List β)) (acc : List β) (y : β) : ((r.bind fun ys m => .ok (y :: ys) m).bind fun ys m => .ok (acc ++ ys) m) = r.bind fun ys m => .ok (acc ++ [y] ++ ys) m := by
  cases r with
  | ok a m =>
    show RE.ok (acc ++ y :: a) m = RE.ok (acc ++ [y] ++ a) m
    rw [List.append_assoc]
    rfl
  | ex c m => rfl
  | no => rfl
theorem nx_bind {α β γ : Type} (r : RE α) (f : α → List MO → RE β) (g : β → List MO → RE γ) : (nx r f).bind g = nx r fun a m => (f a m).bind g := by cases r <;> rfl
theorem ite_bind {β γ : Type} (b : Bool) (x y : RE β) (g : β → List MO → RE γ) : (if b = true then x else y).bind g = if b = true then x.bind g else y.bind g := by cases b <;> rfl
theorem comp_core {wi : TI} {g : TG} {tt : TT} {te : TE} {vs L : List Nat} {gi : GA} {gg : GG} {gt : GT} {ge : GE} (hi : ∀ s H R, dTI G al W gi s H R → wi s H R)
    (hg : ∀ al v s H Q, (∃ k env mem d env', Rel G al k env mem s H ∧ Rep G k.mu k.rho H d v ∧ gg d env = some env' ∧ ∀ s', SameBut L s s' → Rel G al k env' mem s' H → Q s' H) → g v s H Q) (ht : ∀ al s H Q, dTT G al W0 gt s H Q → tt s H Q) (he : ∀ al s H Q, dT G al W0 ge s H Q → te s H Q)
    (hL : ∀ j ∈ L, j ∈ vs) (q : dTN G al W (gComp vs gi gg gt ge) s H Q) : tLc wi g tt te vs s H Q := by
  obtain ⟨k, env, mem, R, h⟩ := q
  refine hi _ _ _ ⟨k, env, mem, R, PostR.bind h fun ds m k1 J H1 R1 E1 P1 h => ?_⟩
  by_cases hz : lim ds.length = true
  · rw [if_pos hz] at h
    intro B hB
    refine ⟨fun i n H => n = ds.length - i ∧ i ≤ ds.length ∧ ∃ k m acc va Hm, H = upd Hm B (.lst va) ∧ Hm B = none ∧ Rel G al k env m s Hm ∧ Ext k1 H1 k Hm ∧ Reps G k.mu k.rho Hm acc va ∧ acc.length ≤ i ∧
      PostR G al W (fun k H (ds : List D) (vs : List V) => Reps G k.mu k.rho H ds vs ∧ vs.length ≤ sizeLine) k env s Hm (fun vs H' => ∀ p, H' p = none → Q (.ref p) (upd H' p (.lst vs))) ((compD gg gt ge (ds.drop i) (wipeE env vs) m).bind fun ys m => .ok (acc ++ ys) m), ⟨ds.length, by simp, Nat.zero_le _, k1, m, [], [], H1, rfl, hB, R1, Ext.refl _ _, .nil, Nat.le_refl _, ?_⟩, ?_⟩
    · rw [List.drop_zero]
      have e : ((compD gg gt ge ds (wipeE env vs) m).bind fun ys m => .ok ([] ++ ys) m) = compD gg gt ge ds (wipeE env vs) m := by
        cases compD gg gt ge ds (wipeE env vs) m <;> rfl
      rw [e]
      exact h
    · rintro i n H ⟨rfl, hi, k2, m2, acc, va, Hm, rfl, hm, R2, E2, ra, la, h⟩
      have hzv : va.length ≤ sizeLine := by
        rw [← ra.length]
        exact Nat.le_trans la (Nat.le_trans hi (lim_le hz))
      obtain ⟨Rp, Sp⟩ := R2.plus (o := .lst va) hm trivial
      have Rw := Rp.wipe vs
      have J2 : ItS G (k2.plus B) (upd Hm B (.lst va)) ds J := P1.base (E2.stays.trans Sp)
      by_cases hlt : i < ds.length
      · have hd : ds[i]? = some ds[i] := by simp [hlt]
        rw [List.drop_eq_getElem_cons hlt] at h
        refine .inr ⟨((J2 _ _ (Stays.refl _ _ _)).2 i _ hd).1, fun H => i + 1 ≤ ds.length ∧ ∃ k m acc va Hm, H = upd Hm B (.lst va) ∧ Hm B = none ∧ Rel G al k env m s Hm ∧ Ext k1 H1 k Hm ∧ Reps G k.mu k.rho Hm acc va ∧ acc.length ≤ i + 1 ∧
          PostR G al W (fun k H (ds : List D) (vs : List V) => Reps G k.mu k.rho H ds vs ∧ vs.length ≤ sizeLine) k env s Hm (fun vs H' => ∀ p, H' p = none → Q (.ref p) (upd H' p (.lst vs))) ((compD gg gt ge (ds.drop (i + 1)) (wipeE env vs) m).bind fun ys m => .ok (acc ++ ys) m), fun H' z => ⟨ds.length - (i + 1), by omega, rfl, z⟩, fun x H' y => ?_⟩
        obtain ⟨R3, r3, E3⟩ := J2.getE Rw hd y
        have h : PostR G al W _ k2 env s Hm _ ((match gg ds[i] (wipeE env vs) with | none => (RE.no : RE (List D)) | some env' => nx (gt env' m2) fun b m => if b = true then nx (ge env' m) fun y m => (compD gg gt ge (ds.drop (i + 1)) (wipeE env vs) m).bind fun ys m => .ok (y :: ys) m else compD gg gt ge (ds.drop (i + 1)) (wipeE env vs) m).bind fun ys m => .ok (acc ++ ys) m) := h
        cases hgg : gg ds[i] (wipeE env vs) with
        | none =>
          rw [hgg] at h
          exact h.elim
        | some env' =>
          rw [hgg] at h
          dsimp only at h
          rw [nx_bind] at h
          refine hg (al.plus B) _ _ _ _ ⟨_, _, _, _, env', R3, r3, hgg, fun s2 S2 R4 => ⟨(wipe_same S2 hL).trans (wipe_wipe s vs), ?_⟩⟩
          refine ht (al.plus B) _ _ _ ⟨_, env', m2, R4, PostR.nx h fun b m3 k4 b' H4 eb R5 E5 P5 h => ?_⟩
          subst P5
          rw [ite_bind] at h
          -- the turn's end: back to the side without the new list
          have fin : ∀ {k6 : Ka} {m6 : List MO} {H6 : Hp}, Rel G (al.plus B) k6 env' m6 s2 H6 → Ext k4 H4 k6 H6 → ∃ k7, Rel G al k7 env m6 s (del H6 B) ∧ Ext k1 H1 k7 (del H6 B) ∧ Ext k2 Hm k7 (del H6 B) ∧ St2 k6 H6 k7 (del H6 B) ∧ H6 B = some (.lst va) := fun {k6 m6 H6} R6 E6 => by
            have EE : Ext (k2.plus B) (upd Hm B (.lst va)) k6 H6 := Ext.trans (Ext.trans E3 E5 fun x hx => by
              obtain ⟨mo, e1, _⟩ := E3.rho
              exact R4.rhoT x (by rw [e1]; exact List.mem_append_left _ hx)) E6 fun x hx => by
              obtain ⟨mo, e1, _⟩ := E3.rho
              obtain ⟨mo2, e2, _⟩ := E5.rho
              exact R5.rhoT x (by rw [e2, e1]; exact List.mem_append_left _ (List.mem_append_left _ hx))
            obtain ⟨k7, a1, a2, a3, a4⟩ := R2.trip (o := .lst va) hm trivial R6 EE
            exact ⟨k7, a1, R2.trans E2 a2, a2, a3, a4⟩
          cases b with
          | true =>
            rw [if_pos rfl] at h ⊢
            rw [nx_bind] at h
            refine he (al.plus B) _ _ _ ⟨k4, env', m3, R5, PostR.nx h fun d5 m5 k5 v5 H5 ed R6 E6 P6 h => ?_⟩
            obtain ⟨k7, a1, a2, a2', a3, a4⟩ := fin R6 E6
            refine ⟨va, a4, ?_, hlt, k7, m5, acc ++ [d5], va ++ [v5], del H5 B, upd_del.symm, del_self, a1, a2, (ra.ext a2').append (.cons (Rep.stay a3 P6) .nil), by rw [List.length_append]; exact Nat.succ_le_succ la, ?_⟩
            · rw [← ra.length]
              exact Nat.lt_of_le_of_lt la (Nat.lt_of_lt_of_le hlt (lim_le hz))
            · rw [bind_acc] at h
              exact PostR.base (r := (compD gg gt ge (ds.drop (i + 1)) (wipeE env vs) m5).bind fun ys m => .ok (acc ++ [d5] ++ ys) m) h a1 a2'
          | false =>
            rw [if_neg Bool.false_ne_true] at h ⊢
            obtain ⟨k7, a1, a2, a2', a3, a4⟩ := fin R5 (Ext.refl _ _)
            refine ⟨hlt, k7, m3, acc, va, del H4 B, ?_, del_self, a1, a2, ra.ext a2', Nat.le_succ_of_le la, PostR.base (r := (compD gg gt ge (ds.drop (i + 1)) (wipeE env vs) m3).bind fun ys m => .ok (acc ++ ys) m) h a1 a2'⟩
            rw [upd_del]
            funext a
            unfold upd
            by_cases ha : a = B
            · rw [if_pos ha, ha, a4]
            · rw [if_neg ha]
      · have e : i = ds.length := by omega
        subst e
        rw [List.drop_length] at h
        have h : PostR G al W _ k2 env s Hm _ (.ok (acc ++ []) m2) := h
        rw [List.append_nil] at h
        exact .inl ⟨(J2 _ _ (Stays.refl _ _ _)).1, h k2 va Hm R2 (Ext.refl _ _) ⟨ra, hzv⟩ B hm⟩
  · rw [if_neg hz] at h
    exact h.elim
end
section
variable {G : Glob} {al : Act} {W : WX} {X : Cx} {elt tg iter : Expr} {ifs : List Expr} {scope : Scope} {own : List (Str × Nat)} {pos spos py : Pos} {gi : GA} {gg : GG} {gt : GT} {ge : GE} {L : List Nat}
theorem dn_lc (hc : X.calm = true) (hN : X.N.Nodup) (hi : DI G W X tg iter gi) (ok : BlkOk X.N X.env.scope scope own)
    (hg : ∀ (s : Shared) (H : Hp) (C : Addr) (cl : List (Str × Addr)) (fp : List Addr), DG G (X.blk s H scope (compEnvC scope cl C X.env) fp) tg L gg)
    (ht : ∀ (s : Shared) (H : Hp) (C : Addr) (cl : List (Str × Addr)) (fp : List Addr), DTs G (X.blk s H scope (compEnvC scope cl C X.env) fp) ifs gt)
    (he : ∀ (s : Shared) (H : Hp) (C : Addr) (cl : List (Str × Addr)) (fp : List Addr), DE G W0 (X.blk s H scope (compEnvC scope cl C X.env) fp) elt ge)
    (hL : ∀ j ∈ L, j ∈ own.map (·.2)) (hs : ∀ x, foldedSetIterable iter X.env x = pure x := by intro _; rfl) : DN G W X (.ListComp elt [⟨tg, iter, ifs, 0⟩] scope pos) (gComp (own.map (·.2)) gi gg gt ge) := fun al =>
  pe_weak (pe_lc (tt := fun s H Q => ∃ al, dTT G al W0 gt s H Q) (te := fun s H Q => ∃ al, dT G al W0 ge s H Q) (g := fun v s H Q => ∃ al k env mem d env', Rel G al k env mem s H ∧ Rep G k.mu k.rho H d v ∧ gg d env = some env' ∧ ∀ s', SameBut L s s' → Rel G al k env' mem s' H → Q s' H)
    hc hN (hi al) ok (fun s H C cl fp => ⟨fun pins s' σ H v u Q I r q => by
      obtain ⟨al, q⟩ := q
      exact (hg s _ C cl fp al).run pins s' σ H v u Q I r q⟩) (fun s H C cl fp => ⟨fun pins s' σ H Q I q => by
      obtain ⟨al, q⟩ := q
      exact (ht s _ C cl fp al).run pins s' σ H Q I q⟩) (fun s H C cl fp => ⟨fun pins s' σ H Q I q => by
      obtain ⟨al, q⟩ := q
      exact (he s _ C cl fp al).run pins s' σ H Q I q⟩) hs) fun s H Q q =>
    comp_core (fun s H R z => z) (fun al v s H Q z => ⟨al, z⟩) (fun al s H Q z => ⟨al, z⟩) (fun al s H Q z => ⟨al, z⟩) hL q
/-- name = [..] on one line -/
theorem ds_ownLc (i : Nat) {y : Str} (hc : X.calm = true) (hN : X.N.Nodup) (hi : DI G W X tg iter gi) (ok : BlkOk X.N X.env.scope scope own)
    (hg : ∀ (s : Shared) (H : Hp) (C : Addr) (cl : List (Str × Addr)) (fp : List Addr), DG G (X.blk s H scope (compEnvC scope cl C X.env) fp) tg L gg)
    (ht : ∀ (s : Shared) (H : Hp) (C : Addr) (cl : List (Str × Addr)) (fp : List Addr), DTs G (X.blk s H scope (compEnvC scope cl C X.env) fp) ifs gt)
    (he : ∀ (s : Shared) (H : Hp) (C : Addr) (cl : List (Str × Addr)) (fp : List Addr), DE G W0 (X.blk s H scope (compEnvC scope cl C X.env) fp) elt ge)
    (hL : ∀ j ∈ L, j ∈ own.map (·.2)) (hy : X.N[i]? = some y := by rfl) (hyl : X.env.scope.names.lookup y = some .local := by rfl)
    (hsw : swapsWith (.ListComp elt [⟨tg, iter, ifs, 0⟩] scope pos) (some (.Name y py)) spos.line X.env = pure true := by rfl) (hs : ∀ x, foldedSetIterable iter X.env x = pure x := by intro _; rfl) :
    DS G W X (.Assign [.Name y py] (.ListComp elt [⟨tg, iter, ifs, 0⟩] scope pos) spos) (gOwn i (gComp (own.map (·.2)) gi gg gt ge)) := fun al =>
  ps_weak (ps_setLc (tt := fun s H Q => ∃ al, dTT G al W0 gt s H Q) (te := fun s H Q => ∃ al, dT G al W0 ge s H Q) (g := fun v s H Q => ∃ al k env mem d env', Rel G al k env mem s H ∧ Rep G k.mu k.rho H d v ∧ gg d env = some env' ∧ ∀ s', SameBut L s s' → Rel G al k env' mem s' H → Q s' H)
    hc hN hy hyl hsw (hi al) ok (fun s H C cl fp => ⟨fun pins s' σ H v u Q I r q => by
      obtain ⟨al, q⟩ := q
      exact (hg s _ C cl fp al).run pins s' σ H v u Q I r q⟩) (fun s H C cl fp => ⟨fun pins s' σ H Q I q => by
      obtain ⟨al, q⟩ := q
      exact (ht s _ C cl fp al).run pins s' σ H Q I q⟩) (fun s H C cl fp => ⟨fun pins s' σ H Q I q => by
      obtain ⟨al, q⟩ := q
      exact (he s _ C cl fp al).run pins s' σ H Q I q⟩) hs) fun Dn s H ⟨k, env, mem, R, q⟩ =>
    comp_core (G := G) (al := al) (W := W) (fun s H R z => z) (fun al v s H Q z => ⟨al, z⟩) (fun al s H Q z => ⟨al, z⟩) (fun al s H Q z => ⟨al, z⟩) hL ⟨k, env, mem, R, PostS.bind q fun x m k1 v1 H1 R1 E1 P1 h p hp => by
      obtain ⟨r1, r2⟩ := R1.newOwn i hp P1.2 P1.1
      exact h _ _ _ r1 r2⟩
end
end DL
/-! DL7: calls, raise, fields, slices. -/
namespace DL
open PySem PySem.Spec L2
abbrev WE (E : XK) : WX := fun cls d _ H => E cls d H
/-- a def's promise by data -/
abbrev FD := List D → List MO → RE D
def spD (G : Glob) (n : Nat) (F : FD) : Sp := fun vs H Q E => vs.length = n ∧ ∃ (k : Ka) (mem : List MO) (ds : List D), WR G k mem H ∧ Reps G k.mu k.rho H ds vs ∧ match F ds mem with
  | .ok d m => ∀ k' v H', WR G k' m H' → Ext k H k' H' → Rep G k'.mu k'.rho H' d v → Q v H'
  | .ex c m => ∀ k' H' C, WR G k' m H' → Ext k H k' H' → G.exc c = some C → E (.ref C) none H'
  | .no => False
theorem spD_mono {G : Glob} {n : Nat} {F F' : FD} (h : ∀ ds m, F' ds m ≠ .no → F ds m = F' ds m) {vs : List V} {H : Hp} {Q : VK} {E : XK} (q : spD G n F' vs H Q E) : spD G n F vs H Q E := by
  obtain ⟨hn, k, mem, ds, w, r, q⟩ := q
  refine ⟨hn, k, mem, ds, w, r, ?_⟩
  have : F' ds mem ≠ .no := fun e => by
    rw [e] at q
    exact q
  rw [h ds mem this]
  exact q
def gCall (F : FD) (a : GA) : GE := fun env m => (a env m).bind F
/-- a def that may be called by its name -/
structure CalD (G : Glob) (P : Program) (w : World) (K : PySem.W.Frag) (mg : Str → Option Value) (base : Heap) (k : Nat) (x : Str) (n : Nat) (F : FD) : Prop where
  ex : ∃ (f : Addr) (fd : FuncData) (ps : List Str), FnOk P w K mg base (L2.CX P w) k f fd ps (spD G n F) ∧ mg x = some (.ref f) ∧ PySem.W.keepIn K (.ref f) = true ∧ Binds K fd ps [] ∧ ps.length = n
/-- a def of a class -/
structure MetD (G : Glob) (P : Program) (w : World) (K : PySem.W.Frag) (mg : Str → Option Value) (base : Heap) (k : Nat) (c x : Str) (n : Nat) (F : FD) : Prop where
  ex : ∃ (C f : Addr) (fd : FuncData) (ps : List Str), G.cls c = some C ∧ Cls K C ∧ Meth K C x f ∧ FnOk P w K mg base (L2.CX P w) k f fd ps (spD G n F) ∧ Binds K fd ps [] ∧ ps.length = n
theorem CalD.mono {G : Glob} {P : Program} {w : World} {K : PySem.W.Frag} {mg : Str → Option Value} {base : Heap} {k : Nat} {x : Str} {n : Nat} {F F' : FD} (c : CalD G P w K mg base k x n F) (h : ∀ ds m, F' ds m ≠ .no → F ds m = F' ds m) : CalD G P w K mg base k x n F' := by
  obtain ⟨f, fd, ps, h1, h2⟩ := c.ex
  exact ⟨f, fd, ps, h1.imp fun vs H Q E q => spD_mono h q, h2⟩
theorem CalD.up {G : Glob} {P : Program} {w : World} {K : PySem.W.Frag} {mg : Str → Option Value} {base : Heap} {j k : Nat} {x : Str} {n : Nat} {F : FD} (c : CalD G P w K mg base j x n F) (h : j ≤ k) : CalD G P w K mg base k x n F := by
  obtain ⟨f, fd, ps, h1, h2⟩ := c.ex
  exact ⟨f, fd, ps, h1.mono h, h2⟩
theorem MetD.mono {G : Glob} {P : Program} {w : World} {K : PySem.W.Frag} {mg : Str → Option Value} {base : Heap} {k : Nat} {x c : Str} {n : Nat} {F F' : FD} (q : MetD G P w K mg base k c x n F) (h : ∀ ds m, F' ds m ≠ .no → F ds m = F' ds m) : MetD G P w K mg base k c x n F' := by
  obtain ⟨C, f, fd, ps, h1, h2, h3, h4, h5⟩ := q.ex
  exact ⟨C, f, fd, ps, h1, h2, h3, h4.imp fun vs H Q E q => spD_mono h q, h5⟩
theorem MetD.up {G : Glob} {P : Program} {w : World} {K : PySem.W.Frag} {mg : Str → Option Value} {base : Heap} {j k : Nat} {x c : Str} {n : Nat} {F : FD} (q : MetD G P w K mg base j c x n F) (h : j ≤ k) : MetD G P w K mg base k c x n F := by
  obtain ⟨C, f, fd, ps, h1, h2, h3, h4, h5⟩ := q.ex
  exact ⟨C, f, fd, ps, h1, h2, h3, h4.mono h, h5⟩
section
variable {G : Glob} {al : Act} {E : XK} {X : Cx} {k k' : Ka} {env : List Slot} {mem m : List MO} {s : L2.St} {H H' : Hp} {e o : Expr} {es : List Expr} {ga go : GE} {gr : GA} {pos p apos : Pos} {x : Str} {n kk : Nat} {F : FD}
theorem spD_of {al : Act} {env : List Slot} {s : L2.St} {ds : List D} {vs : List V} {Q : VK} (R : Rel G al k env m s H) (r : Reps G k.mu k.rho H ds vs) (hn : vs.length = n) (h : PostR G al (WE E) (PdE G) k env s H Q (F ds m)) : spD G n F vs H Q E := by
  refine ⟨hn, k, m, ds, R.wr, r, ?_⟩
  cases hF : F ds m with
  | ok d m' =>
    rw [hF] at h
    exact fun k' v H' w' e' r' => h k' v H' (R.step e' w') e' r'
  | ex c m' =>
    rw [hF] at h
    exact fun k' H' C w' e' hc => h k' H' C (R.step e' w') e' hc
  | no => rw [hF] at h; exact h
/-- which arguments a promise wants is told by the promise alone -/
def gArgs (n : Nat) (a : GA) : GA := fun env m => (a env m).bind fun ds m => if ds.length = n then .ok ds m else .no
theorem de_call (c : CalD G X.prog X.w X.K X.mg X.base kk x n F) (hr : Room kk X.A) (hx : Passes (L2.CX X.prog X.w) X E) (ha : DA G (WE E) X (e :: es) gr) (hg : Gl X x := by rfl) (hdb : (x == ("__debug__" : Str)) = false := by decide)
    (he : starEach (e :: es) X.env = (false, eval e X.env) :: starEach es X.env := by rfl) (hpl : (backTo pos (starEach es X.env)).any (·.1) = false := by rfl) : DE G (WE E) X (.Call (.Name x p) (e :: es) [] pos) (gCall F (gArgs n gr)) := fun al => by
  obtain ⟨f, fd, ps, h1, h2, h3, h4, h5⟩ := c.ex
  refine pe_weak (pe_call h1 hr hg h2 h3 h4 .nil hx (ha al) hdb he hpl) fun s H Q ⟨k, env, mem, R, h⟩ => ?_
  have h : PostR G al (WE E) (PdE G) k env s H Q ((((gr env mem).bind fun ds m => if ds.length = n then .ok ds m else .no)).bind F) := h
  refine ⟨k, env, mem, R, ?_⟩
  cases hgr : gr env mem with
  | ok ds m =>
    rw [hgr] at h
    intro k1 v1 H1 R1 E1 P1
    have h : PostR G al (WE E) (PdE G) k env s H Q ((if ds.length = n then RE.ok ds m else .no).bind F) := h
    by_cases hl : ds.length = n
    · rw [if_pos hl] at h
      rw [List.append_nil]
      exact spD_of R1 P1 (by rw [← P1.length]; exact hl) (PostR.base (r := F ds m) h R1 E1)
    · rw [if_neg hl] at h
      exact h.elim
  | ex c m => rw [hgr] at h; exact h
  | no => rw [hgr] at h; exact h
theorem de_call0 (c : CalD G X.prog X.w X.K X.mg X.base kk x 0 F) (hr : Room kk X.A) (hx : Passes (L2.CX X.prog X.w) X E) (hg : Gl X x := by rfl) (hdb : (x == ("__debug__" : Str)) = false := by decide) : DE G (WE E) X (.Call (.Name x p) [] [] pos) (gCall F gaNil) := fun al => by
  obtain ⟨f, fd, ps, h1, h2, h3, h4, h5⟩ := c.ex
  refine pe_weak (pe_call0 h1 hr hg h2 h3 h4 .nil hx hdb) fun s H Q ⟨k, env, mem, R, h⟩ => ?_
  exact spD_of R .nil rfl h
/-- o.m(..) -/
def gMeth (c x : Str) (n : Nat) (F : FD) (o : GE) (a : GA) : GE := fun env m => (o env m).bind fun d m => match fldsOf m d with
  | some (c', fs) => if c' = c then (match fs.lookup x with
    | none => (a env m).bind fun ds m => if ds.length + 1 = n then F (d :: ds) m else .no
    | some _ => .no) else .no
  | none => .no
theorem lookup_none {f : Str} {fs : List (Str × D)} {fv : List (Str × V)} (h : fs.map (·.1) = fv.map (·.1)) (e : fs.lookup f = none) : fv.lookup f = none := by
  induction fs generalizing fv with
  | nil =>
    cases fv with
    | nil => rfl
    | cons a b => cases h
  | cons a fs ih =>
    cases fv with
    | nil => cases h
    | cons b fv =>
      obtain ⟨a1, a2⟩ := a
      obtain ⟨b1, b2⟩ := b
      obtain ⟨e1, e2⟩ := List.cons.inj h
      have e1 : a1 = b1 := e1
      subst e1
      rw [List.lookup_cons] at e ⊢
      cases hb : f == a1 with
      | true => rw [hb] at e; cases e
      | false =>
        rw [hb] at e
        exact ih e2 e
theorem de_meth {c : Str} {pl : Sem Bool} (hK : X.K = G.K) (M : MetD G X.prog X.w X.K X.mg X.base kk c x n F) (hr : Room kk X.A) (hx : Passes (L2.CX X.prog X.w) X E) (ho : DE G (WE E) X o go) (ha : DA G (WE E) X (e :: es) gr)
    (hst : starEach (e :: es) X.env = (false, eval e X.env) :: starEach es X.env := by rfl) (hpl : (backTo pos (starEach es X.env)).any (·.1) = false := by rfl)
    (ht : eval (.Call (.Attribute o x apos) (e :: es) [] pos) X.env = (do
      let ov ← eval o X.env
      standAt apos.atName
      let (f, first) ← holding [ov] (getMethod ov x pl)
      callWith pos f first (backTo pos (starEach (e :: es) X.env)) (backToKw pos (keywordEach [] X.env))) := by rfl) :
    DE G (WE E) X (.Call (.Attribute o x apos) (e :: es) [] pos) (gMeth c x n F go gr) := fun al => by
  obtain ⟨C, f, fd, ps, h1, h2, h3, h4, h5, h6⟩ := M.ex
  refine pe_weak (pe_meth (pl := pl) (ho al) h2 h3 h4 hr h5 .nil hx (ha al) hst hpl ht) fun s H Q ⟨k, env, mem, R, h0⟩ => ?_
  refine ⟨k, env, mem, R, PostR.bind h0 fun d m k1 v1 H1 R1 E1 P1 h => ?_⟩
  cases hf : fldsOf m d with
  | none => rw [hf] at h; exact h.elim
  | some q =>
    obtain ⟨c', fs⟩ := q
    rw [hf] at h
    dsimp only at h
    by_cases hc : c' = c
    · rw [if_pos hc] at h
      subst hc
      cases hl : fs.lookup x with
      | some z => rw [hl] at h; exact h.elim
      | none =>
        rw [hl] at h
        dsimp only at h
        obtain ⟨a, C', dx, fv, rfl, q1, q2, q3, q4⟩ := PdB.flds R1 (.inl P1) hf
        rw [h1] at q2
        cases q2
        refine ⟨a, dx, fv, rfl, q1, lookup_none q3 hl, k1, env, m, R1, ?_⟩
        cases hgr : gr env m with
        | ok ds m2 =>
          rw [hgr] at h
          intro k2 v2 H2 R2 E2 P2
          have h : PostR G al (WE E) (PdE G) k1 env s H1 Q (if ds.length + 1 = n then F (d :: ds) m2 else .no) := h
          by_cases hl : ds.length + 1 = n
          · rw [if_pos hl] at h
            rw [List.append_nil]
            exact spD_of R2 (.cons (P1.ext E2) P2) (by rw [List.length_cons, ← P2.length]; exact hl) (PostR.base (r := F (d :: ds) m2) h R2 E2)
          · rw [if_neg hl] at h
            exact h.elim
        | ex c m => rw [hgr] at h; exact h
        | no => rw [hgr] at h; exact h
    · rw [if_neg hc] at h
      exact h.elim
theorem de_meth0 {c : Str} {pl : Sem Bool} (hK : X.K = G.K) (M : MetD G X.prog X.w X.K X.mg X.base kk c x n F) (hr : Room kk X.A) (hx : Passes (L2.CX X.prog X.w) X E) (ho : DE G (WE E) X o go)
    (ht : eval (.Call (.Attribute o x apos) [] [] pos) X.env = (do
      let ov ← eval o X.env
      standAt apos.atName
      let (f, first) ← holding [ov] (getMethod ov x pl)
      callWith pos f first (backTo pos (starEach [] X.env)) (backToKw pos (keywordEach [] X.env))) := by rfl) :
    DE G (WE E) X (.Call (.Attribute o x apos) [] [] pos) (gMeth c x n F go gaNil) := fun al => by
  obtain ⟨C, f, fd, ps, h1, h2, h3, h4, h5, h6⟩ := M.ex
  refine pe_weak (pe_meth0 (pl := pl) (ho al) h2 h3 h4 hr h5 .nil hx ht) fun s H Q ⟨k, env, mem, R, h0⟩ => ?_
  refine ⟨k, env, mem, R, PostR.bind h0 fun d m k1 v1 H1 R1 E1 P1 h => ?_⟩
  cases hf : fldsOf m d with
  | none => rw [hf] at h; exact h.elim
  | some q =>
    obtain ⟨c', fs⟩ := q
    rw [hf] at h
    dsimp only at h
    by_cases hc : c' = c
    · rw [if_pos hc] at h
      subst hc
      cases hl : fs.lookup x with
      | some z => rw [hl] at h; exact h.elim
      | none =>
        rw [hl] at h
        obtain ⟨a, C', dx, fv, rfl, q1, q2, q3, q4⟩ := PdB.flds R1 (.inl P1) hf
        rw [h1] at q2
        cases q2
        refine ⟨a, dx, fv, rfl, q1, lookup_none q3 hl, ?_⟩
        have h : PostR G al (WE E) (PdE G) k1 env s H1 Q (if ([] : List D).length + 1 = n then F [d] m else .no) := h
        by_cases hl : ([] : List D).length + 1 = n
        · rw [if_pos hl] at h
          exact spD_of R1 (.cons P1 .nil) hl h
        · rw [if_neg hl] at h
          exact h.elim
    · rw [if_neg hc] at h
      exact h.elim

/-! ### a def from its body -/
def envOf (n : Nat) (ds : List D) : List Slot := ds.map .val ++ List.replicate (n - ds.length) .un
/-- what a def gives -/
def endD : RS → RE D
  | .ok (.rt d) _ m => .ok d m
  | .ok .nx _ m => .ok .non m
  | .ok _ _ _ => .no
  | .ex c _ m => .ex c m
  | .no => .no
def fnD (N n : Nat) (g : GS) : FD := fun ds m => if ds.length = n then endD (g (envOf N ds) m) else .no
theorem start_rel {vs : List V} {ds : List D} {N : List Str} (w : WR G k mem H) (r : Reps G k.mu k.rho H ds vs) : Rel G (k.act H) k.into (envOf N.length ds) mem (L2.start N vs) H := by
  refine Rel.start w ?_ fun i sl e => ?_
  · unfold envOf L2.start
    rw [List.length_append, List.length_append, List.length_map, List.length_map, List.length_replicate, List.length_replicate, r.length]
  · unfold envOf at e
    unfold L2.start
    rw [List.getElem?_append] at e ⊢
    rw [List.length_map] at e ⊢
    rw [← r.length]
    by_cases hi : i < ds.length
    · rw [if_pos hi] at e ⊢
      rw [List.getElem?_map] at e ⊢
      obtain ⟨d, e1, rfl⟩ := Option.map_eq_some_iff.mp e
      obtain ⟨v, e2, e3⟩ := r.get e1
      rw [e2]
      exact ⟨some v, rfl, Rep.stay into_stays e3⟩
    · rw [if_neg hi] at e ⊢
      rw [List.getElem?_replicate] at e ⊢
      by_cases hj : i - ds.length < N.length - ds.length
      · rw [if_pos hj] at e ⊢
        cases e
        exact ⟨none, rfl, trivial⟩
      · rw [if_neg hj] at e
        cases e
theorem fnok_of {P : Program} {w : World} {K : PySem.W.Frag} {mg : Str → Option Value} {base : Heap} {name qual : Str} {params : Arguments} {body : List Stmt} {scope : Scope} {f : Addr} {fd : FuncData} {N ps : List Str} {j : Nat} {g : GS} (Fd : FunD K name qual params body scope [] [] f fd) (S : FnScope N ps scope)
    (hbody : ∀ (cdv : Value) (A : Around) (outer : List Env) (s : Shared) (H : Hp) (E : XK), Room j (A.deeper (PyProof.Rows.envOfC qual scope s.heap.objs.size f cdv)) → DSs G (WE E) (cxOf (L2.CX P w) P w K mg base N qual scope f cdv A outer s H E) body g) :
    FnOk P w K mg base (L2.CX P w) (j + 1) f fd ps (spD G ps.length (fnD N.length ps.length g)) := by
  refine Fd.ok S (fun vs H Q E q => q.1) fun cdv A outer s H vs Q E hr ⟨hn, k, mem, ds, w, r, q⟩ => ?_
  refine ⟨_, hbody cdv A outer s H E hr (k.act H), k.into, envOf N.length ds, mem, start_rel w r, ?_⟩
  unfold fnD at q
  rw [if_pos (by rw [r.length]; exact hn)] at q
  cases hg : g (envOf N.length ds) mem with
  | ok fl env m =>
    rw [hg] at q
    cases fl with
    | nx =>
      intro k2 s2 H2 R2 S2
      obtain ⟨b1, b2, b3⟩ := Rel.back w R2
      exact q _ _ _ b1 b2 .non
    | bk => exact q.elim
    | ct => exact q.elim
    | rt d =>
      intro k2 s2 H2 v2 R2 S2 r2
      obtain ⟨b1, b2, b3⟩ := Rel.back w R2
      exact q _ _ _ b1 b2 (Rep.stay b3 r2)
  | ex c env m =>
    rw [hg] at q
    intro k2 s2 H2 C R2 S2 hc
    obtain ⟨b1, b2, b3⟩ := Rel.back w R2
    exact q _ _ _ b1 b2 hc
  | no => rw [hg] at q; exact q
end
end DL
/-! DL8: instances made, raise, fields, slices, least items. -/
namespace DL
open PySem PySem.Spec L2
/-! ### which roles a value names -/
mutual
inductive Rf (n : Nat) : D → Prop where
  | non : Rf n .non
  | bl (b : Bool) : Rf n (.bl b)
  | int (i : Int) : Rf n (.int i)
  | str (x : Str) : Rf n (.str x)
  | lam (j : Nat) : Rf n (.lam j)
  | tup {ds : List D} : Rfs n ds → Rf n (.tup ds)
  | lst {ds : List D} : Rfs n ds → Rf n (.lst ds)
  | ins {c : Str} {fs : List (Str × D)} : Rfs n (fs.map (·.2)) → Rf n (.ins c fs)
  | dct {kvs : List (Key × D)} : Rfs n (kvs.map (·.2)) → Rf n (.dct kvs)
  | ref {i : Nat} : i < n → Rf n (.ref i)
  | slst {xs : List D} : Rfs n xs → Rf n (.slst xs)
inductive Rfs (n : Nat) : List D → Prop where
  | nil : Rfs n []
  | cons {d : D} {ds : List D} : Rf n d → Rfs n ds → Rfs n (d :: ds)
end
section
variable {G : Glob} {mu mu' : Addr → Prop} {rho rho' : List Addr} {H H' : Hp}
mutual
theorem Rep.rf {d : D} {v : V} (h : Rep G mu rho H d v) : Rf rho.length d :=
  match d, v, h with
  | _, _, .non => .non
  | _, _, .bl b => .bl b
  | _, _, .int i => .int i
  | _, _, .str x => .str x
  | _, _, .tup h1 h2 h3 => .tup (Reps.rf h3)
  | _, _, .lst h1 h2 h3 => .lst (Reps.rf h3)
  | _, _, .ins h1 h2 h3 h4 h5 => .ins (Reps.rf h5)
  | _, _, .dct h1 h2 h3 h4 h5 => .dct (Reps.rf h5)
  | _, _, .ref h1 => .ref (List.getElem?_eq_some_iff.mp h1).1
  | _, _, .lam h1 h2 h3 h4 h5 h6 => .lam _
  | _, _, .slst h1 h2 h3 => .slst (Reps.rf h3)
theorem Reps.rf {ds : List D} {vs : List V} (h : Reps G mu rho H ds vs) : Rfs rho.length ds :=
  match ds, vs, h with
  | _, _, .nil => .nil
  | _, _, .cons h1 h2 => .cons (Rep.rf h1) (Reps.rf h2)
end
/-- fewer roles -/
structure Drops (n : Nat) (mu mu' : Addr → Prop) (rho rho' : List Addr) : Prop where
  mu : ∀ a, mu a → mu' a
  rho : ∀ i a, i < n → rho'[i]? = some a → rho[i]? = some a
mutual
theorem Rep.dropR {n : Nat} (p : Drops n mu mu' rho rho') {d : D} {v : V} (h : Rep G mu' rho' H d v) (f : Rf n d) : Rep G mu rho H d v :=
  match d, v, h, f with
  | _, _, .non, _ => .non
  | _, _, .bl b, _ => .bl b
  | _, _, .int i, _ => .int i
  | _, _, .str x, _ => .str x
  | _, _, .tup h1 h2 h3, .tup f => .tup (h1.elim (fun z => .inl ⟨z.1, fun q => z.2 (p.mu _ q)⟩) .inr) h2 (Reps.dropR p h3 f)
  | _, _, .lst h1 h2 h3, .lst f => .lst ⟨h1.1, fun q => h1.2 (p.mu _ q)⟩ h2 (Reps.dropR p h3 f)
  | _, _, .ins h1 h2 h3 h4 h5, .ins f => .ins h1 h2 (fun q => h3 (p.mu _ q)) h4 (Reps.dropR p h5 f)
  | _, _, .dct h1 h2 h3 h4 h5, .dct f => .dct h1 (fun q => h2 (p.mu _ q)) h3 h4 (Reps.dropR p h5 f)
  | _, _, .ref h1, .ref f => .ref (p.rho _ _ f h1)
  | _, _, .lam h1 h2 h3 h4 h5 h6, _ => .lam h1 h2 h3 (fun q => h4 (p.mu _ q)) h5 (fun q => h6 (p.mu _ q))
  | _, _, .slst h1 h2 h3, .slst f => .slst (h1.elim (fun z => .inl ⟨z.1, fun q => z.2 (p.mu _ q)⟩) .inr) h2 (Reps.dropR p h3 f)
theorem Reps.dropR {n : Nat} (p : Drops n mu mu' rho rho') {ds : List D} {vs : List V} (h : Reps G mu' rho' H ds vs) (f : Rfs n ds) : Reps G mu rho H ds vs :=
  match ds, vs, h, f with
  | _, _, .nil, _ => .nil
  | _, _, .cons h1 h2, .cons f1 f2 => .cons (Rep.dropR p h1 f1) (Reps.dropR p h2 f2)
end
def RfM (n : Nat) : MO → Prop
  | .lst xs => Rfs n xs
  | .dct kvs => Rfs n (kvs.map (·.2))
  | .ins _ fs => Rfs n (fs.map (·.2))
theorem MemR.rf {k : Ka} {mo : MO} {a : Addr} (h : MemR G k H mo a) : RfM k.rho.length mo := by
  cases mo with
  | lst xs => obtain ⟨vs, h1, h2, h3⟩ := h; exact h3.rf
  | dct kvs => obtain ⟨kv, h1, h2, h3, h4⟩ := h; exact h4.rf
  | ins c fs => obtain ⟨C, dx, fv, h1, h2, h3, h4⟩ := h; exact h4.rf
theorem MemR.drop {n : Nat} {k k' : Ka} (p : Drops n k.mu k'.mu k.rho k'.rho) {mo : MO} {a : Addr} (h : MemR G k' H mo a) (f : RfM n mo) : MemR G k H mo a := by
  cases mo with
  | lst xs => obtain ⟨vs, h1, h2, h3⟩ := h; exact ⟨vs, h1, h2, h3.dropR p f⟩
  | dct kvs => obtain ⟨kv, h1, h2, h3, h4⟩ := h; exact ⟨kv, h1, h2, h3, h4.dropR p f⟩
  | ins c fs => obtain ⟨C, dx, fv, h1, h2, h3, h4⟩ := h; exact ⟨C, dx, fv, h1, h2, h3, h4.dropR p f⟩
end

/-! ### an instance is made: a value -/
abbrev MkR := Option (Except Str (List (Str × D)))
structure MkF (c : Str) (F : FD) (mk : List D → MkR) : Prop where
  ok : ∀ ds m fs, mk ds = some (.ok fs) → F (.ref m.length :: ds) (m ++ [.ins c []]) = .ok .non (m ++ [.ins c fs])
  ex : ∀ ds m e, mk ds = some (.error e) → ∃ mo, F (.ref m.length :: ds) (m ++ [.ins c []]) = .ex e (m ++ [mo])
  rf : ∀ ds fs n, Rfs n ds → mk ds = some (.ok fs) → Rfs n (fs.map (·.2))
structure ClsD (G : Glob) (P : Program) (w : World) (K : PySem.W.Frag) (mg : Str → Option Value) (base : Heap) (k : Nat) (c : Str) (n : Nat) (F : FD) : Prop where
  ex : ∃ (C f : Addr) (fd : FuncData) (ps : List Str), G.cls c = some C ∧ mg c = some (.ref C) ∧ Mk K C f ∧ FnOk P w K mg base (L2.CX P w) k f fd ps (spD G n F) ∧ Binds K fd ps [] ∧ ps.length = n
def gMakeF (c : Str) (n : Nat) (mk : List D → MkR) (a : GA) : GE := fun env m => (a env m).bind fun ds m => if ds.length + 1 = n then (match mk ds with
  | some (.ok fs) => .ok (.ins c fs) m
  | some (.error e) => .ex e m
  | none => .no) else .no
def gMakeM (c : Str) (n : Nat) (F : FD) (a : GA) : GE := fun env m => (a env m).bind fun ds m1 => if ds.length + 1 = n then (match F (.ref m1.length :: ds) (m1 ++ [.ins c []]) with
  | .ok _ m2 => .ok (.ref m1.length) m2
  | .ex e m2 => .ex e m2
  | .no => .no) else .no
section
variable {G : Glob} {al : Act} {E : XK} {X : Cx} {k k' : Ka} {env : List Slot} {mem m : List MO} {s : L2.St} {H H' : Hp} {e o : Expr} {es : List Expr} {ga go gb : GE} {gr : GA} {pos p apos : Pos} {c x : Str} {n kk : Nat} {F : FD}
/-- the last role dropped -/
theorem Rel.dropLast {a : Addr} {H1 H2 : Hp} {mo : MO} {k1 k2 : Ka} (R : Rel G al k env m s H) (ha : H a = none) (h1 : Ext k H k1 H1) (e1 : k1.rho = k.rho ++ [a]) (w : WR G k2 (m ++ [mo]) H2) (E2 : Ext k1 H1 k2 H2) (hna : ∀ b o, H b = some o → b ≠ a) :
    ∃ k3, Rel G al k3 env m s H2 ∧ Ext k H k3 H2 ∧ Drops k.rho.length k3.mu k2.mu k3.rho k2.rho ∧ ¬ k3.mu a ∧ k2.rho[m.length]? = some a := by
  obtain ⟨more, e2, f2⟩ := E2.rho
  have hm : more = [] := by
    have := w.len
    rw [List.length_append, e2, e1, List.length_append, List.length_append, R.wr.len] at this
    simp only [List.length_singleton] at this
    exact List.eq_nil_of_length_eq_zero (by omega)
  subst hm
  rw [List.append_nil, e1] at e2
  have own2 : k2.own = k.own := E2.own.trans h1.own
  have out2 : k2.out = k.out := E2.out.trans h1.out
  have nk : ∀ b, k.mu b → b ≠ a := fun b hb => by
    obtain ⟨o, e, _⟩ := R.wr.trk b hb
    exact hna b o e
  have dm : ∀ b, (⟨k.rho, k2.own, k2.out⟩ : Ka).mu b → k2.mu b ∧ k.mu b := fun b z => by
    rcases z with z | ⟨i, z⟩ | z
    · exact ⟨.inl (by rw [e2]; exact List.mem_append_left _ z), .inl z⟩
    · exact ⟨.inr (.inl ⟨i, z⟩), .inr (.inl ⟨i, by rw [← own2]; exact z⟩)⟩
    · exact ⟨.inr (.inr z), .inr (.inr (by rw [← out2]; exact z))⟩
  have dr : Drops k.rho.length (⟨k.rho, k2.own, k2.out⟩ : Ka).mu k2.mu k.rho k2.rho := ⟨fun b z => (dm b z).1, fun i b hi e => by
    rw [e2, List.getElem?_append_left hi] at e
    exact e⟩
  have ex : Ext k H (⟨k.rho, k2.own, k2.out⟩ : Ka) H2 := by
    refine ⟨fun b o q nb t => E2.keep b o (h1.keep b o q nb t) (fun z => ?_) t, fun b ps q => ?_, ⟨[], by simp, fun _ z => by simp at z⟩, own2, out2⟩
    · rw [e1] at z
      rcases List.mem_append.mp z with z | z
      · exact nb z
      · exact hna b o q (List.mem_singleton.mp z)
    · obtain ⟨qs, q2⟩ := h1.tb b ps q
      exact E2.tb b qs q2
  have wr : WR G (⟨k.rho, k2.own, k2.out⟩ : Ka) m H2 := by
    refine ⟨R.wr.len, fun i mo' b g1 g2 => ?_, R.wr.nd, w.oi, fun i q hq z => w.onr i q hq (by rw [e2]; exact List.mem_append_left _ z), fun b hb => ⟨fun z => (w.nout b hb).1 (by rw [e2]; exact List.mem_append_left _ z), (w.nout b hb).2⟩, fun b hb => w.trk b (dm b hb).1, w.tabs⟩
    have hi : i < m.length := (List.getElem?_eq_some_iff.mp g1).1
    have q1 := w.mem i mo' b (by rw [List.getElem?_append_left hi]; exact g1) (by rw [e2, List.getElem?_append_left (by rw [← R.wr.len]; exact hi)]; exact g2)
    exact q1.drop dr (R.wr.mem i mo' b g1 g2).rf
  exact ⟨_, R.step ex wr, ex, dr, fun z => nk a (dm a z).2 rfl, by rw [e2, R.wr.len, List.getElem?_concat_length]⟩
/-- the start of an instance -/
theorem Rel.made {C a dx : Addr} (R : Rel G al k env m s H) (hc : G.cls c = some C) (ha : H a = none) (hd : H dx = none) (hne : dx ≠ a) :
    Rel G al (k.add a) env (m ++ [.ins c []]) s (upd (upd H dx (.own a)) a (.ins C dx [])) ∧ Ext k H (k.add a) (upd (upd H dx (.own a)) a (.ins C dx [])) ∧ Rep G (k.add a).mu (k.add a).rho (upd (upd H dx (.own a)) a (.ins C dx [])) (.ref m.length) (.ref a) := by
  have R1 := R.new (o := .own a) hd
  have ha1 : upd H dx (.own a) a = none := by rw [upd_ne (Ne.symm hne)]; exact ha
  obtain ⟨r1, r2, r3⟩ := R1.newMem (o := .ins C dx []) (mo := .ins c []) ha1 trivial ⟨C, dx, [], upd_same, hc, rfl, .nil⟩
  exact ⟨r1, R1.trans (Ext.new hd) r2, r3⟩
theorem de_makeF {mk : List D → MkR} (M : ClsD G X.prog X.w X.K X.mg X.base kk c n F) (hF : MkF c F mk) (hr : Room (kk + 1) X.A) (hx : Passes (L2.CX X.prog X.w) X E) (ha : DA G (WE E) X (e :: es) gr) (hg : Gl X c := by rfl) (hdb : (c == ("__debug__" : Str)) = false := by decide)
    (he : starEach (e :: es) X.env = (false, eval e X.env) :: starEach es X.env := by rfl) (hpl : (backTo pos (starEach es X.env)).any (·.1) = false := by rfl) : DE G (WE E) X (.Call (.Name c p) (e :: es) [] pos) (gMakeF c n mk gr) := fun al => by
  obtain ⟨C, f, fd, ps, h1, h2, h3, h4, h5, h6⟩ := M.ex
  refine pe_weak (pe_make h3 h4 hr hg h2 h5 .nil hx (ha al) hdb he hpl) fun s H Q ⟨k, env, mem, R, h⟩ => ?_
  refine ⟨k, env, mem, R, PostR.bind h fun ds m k1 v1 H1 R1 E1 P1 h => ?_⟩
  by_cases hl : ds.length + 1 = n
  · rw [if_pos hl] at h
    intro a dx ha hd hne
    obtain ⟨r1, r2, r3⟩ := R1.made h1 ha hd hne
    rw [List.append_nil]
    refine ⟨by rw [List.length_cons, ← P1.length]; exact hl, k1.add a, m ++ [.ins c []], .ref m.length :: ds, r1.wr, .cons r3 (P1.ext r2), ?_⟩
    have hna : ∀ b o, H1 b = some o → b ≠ a := fun b o e => ne_of_none e ha
    cases hm : mk ds with
    | none =>
      rw [hm] at h
      exact h.elim
    | some r =>
      rw [hm] at h
      cases r with
      | ok fs =>
        rw [hF.ok ds m fs hm]
        intro k2 v H2 w2 e2 r2'
        cases r2'
        refine ⟨rfl, ?_⟩
        obtain ⟨k3, g1, g2, g3, g4, g5⟩ := R1.dropLast ha r2 rfl w2 e2 hna
        obtain ⟨C', dx', fv, q1, q2, q3, q4⟩ := w2.mem m.length (.ins c fs) a (by simp) g5
        exact h k3 _ H2 g1 g2 (.ins q1 q2 g4 q3 (q4.dropR g3 (hF.rf ds fs _ P1.rf hm)))
      | error er =>
        obtain ⟨mo, hmo⟩ := hF.ex ds m er hm
        rw [hmo]
        intro k2 H2 C' w2 e2 hc
        obtain ⟨k3, g1, g2, g3, g4, g5⟩ := R1.dropLast ha r2 rfl w2 e2 hna
        exact h k3 H2 C' g1 g2 hc
  · rw [if_neg hl] at h
    exact h.elim
theorem de_makeM (M : ClsD G X.prog X.w X.K X.mg X.base kk c n F) (hr : Room (kk + 1) X.A) (hx : Passes (L2.CX X.prog X.w) X E) (ha : DA G (WE E) X (e :: es) gr) (hN : ∀ ds m d m', F ds m = .ok d m' → d = .non) (hg : Gl X c := by rfl) (hdb : (c == ("__debug__" : Str)) = false := by decide)
    (he : starEach (e :: es) X.env = (false, eval e X.env) :: starEach es X.env := by rfl) (hpl : (backTo pos (starEach es X.env)).any (·.1) = false := by rfl) : DE G (WE E) X (.Call (.Name c p) (e :: es) [] pos) (gMakeM c n F gr) := fun al => by
  obtain ⟨C, f, fd, ps, h1, h2, h3, h4, h5, h6⟩ := M.ex
  refine pe_weak (pe_make h3 h4 hr hg h2 h5 .nil hx (ha al) hdb he hpl) fun s H Q ⟨k, env, mem, R, h⟩ => ?_
  refine ⟨k, env, mem, R, PostR.bind h fun ds m k1 v1 H1 R1 E1 P1 h => ?_⟩
  by_cases hl : ds.length + 1 = n
  · rw [if_pos hl] at h
    intro a dx ha hd hne
    obtain ⟨r1, r2, r3⟩ := R1.made h1 ha hd hne
    rw [List.append_nil]
    refine ⟨by rw [List.length_cons, ← P1.length]; exact hl, k1.add a, m ++ [.ins c []], .ref m.length :: ds, r1.wr, .cons r3 (P1.ext r2), ?_⟩
    cases hm : F (.ref m.length :: ds) (m ++ [.ins c []]) with
    | no =>
      rw [hm] at h
      exact h
    | ok d m2 =>
      rw [hm] at h
      have := hN _ _ _ _ hm
      subst this
      intro k2 v H2 w2 e2 r2'
      cases r2'
      exact ⟨rfl, h k2 _ H2 (r1.step e2 w2) (r1.trans r2 e2) (r3.ext e2)⟩
    | ex er m2 =>
      rw [hm] at h
      intro k2 H2 C' w2 e2 hc
      exact h k2 H2 C' (r1.step e2 w2) (r1.trans r2 e2) hc
  · rw [if_neg hl] at h
    exact h.elim
theorem de_makeM0 (M : ClsD G X.prog X.w X.K X.mg X.base kk c 1 F) (hr : Room (kk + 1) X.A) (hx : Passes (L2.CX X.prog X.w) X E) (hN : ∀ ds m d m', F ds m = .ok d m' → d = .non) (hg : Gl X c := by rfl) (hdb : (c == ("__debug__" : Str)) = false := by decide) :
    DE G (WE E) X (.Call (.Name c p) [] [] pos) (gMakeM c 1 F gaNil) := fun al => by
  obtain ⟨C, f, fd, ps, h1, h2, h3, h4, h5, h6⟩ := M.ex
  refine pe_weak (pe_make0 h3 h4 hr hg h2 h5 .nil hx hdb) fun s H Q ⟨k, env, m, R1, h⟩ => ?_
  have h : PostR G al (WE E) (PdE G) k env s H Q (match F [.ref m.length] (m ++ [.ins c []]) with | .ok _ m2 => .ok (.ref m.length) m2 | .ex e m2 => .ex e m2 | .no => .no) := h
  intro a dx ha hd hne
  obtain ⟨r1, r2, r3⟩ := R1.made h1 ha hd hne
  refine ⟨rfl, k.add a, m ++ [.ins c []], [.ref m.length], r1.wr, .cons r3 .nil, ?_⟩
  cases hm : F [.ref m.length] (m ++ [.ins c []]) with
  | no =>
    rw [hm] at h
    exact h
  | ok d m2 =>
    rw [hm] at h
    have := hN _ _ _ _ hm
    subst this
    intro k2 v H2 w2 e2 r2'
    cases r2'
    exact ⟨rfl, h k2 _ H2 (r1.step e2 w2) (r1.trans r2 e2) (r3.ext e2)⟩
  | ex er m2 =>
    rw [hm] at h
    intro k2 H2 C' w2 e2 hc
    exact h k2 H2 C' (r1.step e2 w2) (r1.trans r2 e2) hc
/-! ### raise -/
structure ExcD (G : Glob) (K : PySem.W.Frag) (mg : Str → Option Value) (c : Str) : Prop where
  ex : ∃ C, G.exc c = some C ∧ mg c = some (.ref C) ∧ PySem.W.excIn K C He.veBase "ValueError.__new__" = true ∧ PySem.W.keepIn K (.ref C) = true ∧ PySem.W.subIn K (.ref C) (.type "BaseException") = some true ∧ PySem.W.typeIn K (.ref C) = some (.type "type")
theorem ds_raise {j : Nat} {p2 p3 : Pos} {t : Str} {W : WX} (T : ExcD G X.K X.mg c) (hc : X.calm = true) (tk : Takes X W) (hg : Gl X c := by rfl) (hdb : (c == ("__debug__" : Str)) = false := by decide) : DS G W X (.Raise (some (.Call (.Name c p) [.Constant (.str t) j p2] [] p3)) none pos) (gRaise c) := fun al => by
  obtain ⟨C, h1, h2, h3, h4, h5, h6⟩ := T.ex
  exact ps_weak (ps_raise hc tk (pmk_own F.excBase_ValueError h3 h2 h4 (raises_own h5 h6) hg hdb)) fun D s H ⟨k, env, mem, R, q⟩ => q k s H C R (Stays.refl _ _ _) h1
end
end DL
/-! DL9: fields stored, slices, least items, new shared lists. -/
namespace DL
open PySem PySem.Spec L2
def putD (f : Str) (v : D) : List (Str × D) → List (Str × D)
  | [] => [(f, v)]
  | (g, x) :: r => if g = f then (g, v) :: r else (g, x) :: putD f v r
def gFldS (f : Str) (o v : GE) : GS := fun env m => bindS (v env m) env fun y m => bindS (o env m) env fun d m => match d with
  | .ref j => (match m[j]? with
    | some (.ins c fs) => if fs.length < 100 then .ok .nx env (m.set j (.ins c (putD f y fs))) else .no
    | _ => .no)
  | _ => .no
section
variable {G : Glob} {al : Act} {W : WX} {X : Cx} {k k' : Ka} {env : List Slot} {mem m : List MO} {s : L2.St} {H H' : Hp} {a b e o : Expr} {es : List Expr} {ga gb go gv : GE} {gr gn : GA} {pos p apos pos' : Pos} {f c x : Str}
theorem put_rep {mu : Addr → Prop} {rho : List Addr} {d : D} {v : V} (r : Rep G mu rho H d v) : ∀ {fs : List (Str × D)} {fv : List (Str × V)}, fs.map (·.1) = fv.map (·.1) → Reps G mu rho H (fs.map (·.2)) (fv.map (·.2)) → (putD f d fs).map (·.1) = (putF f v fv).map (·.1) ∧ Reps G mu rho H ((putD f d fs).map (·.2)) ((putF f v fv).map (·.2))
  | [], [], _, _ => ⟨rfl, .cons r .nil⟩
  | [], _ :: _, h, _ => by cases h
  | _ :: _, [], h, _ => by cases h
  | (x, d0) :: fs, (y, v0) :: fv, h1, h2 => by
    obtain ⟨e1, e2⟩ := List.cons.inj h1
    have e1 : x = y := e1
    subst e1
    cases h2 with
    | cons r0 rs =>
      unfold putD putF
      by_cases hx : x = f
      · rw [if_pos hx, if_pos hx]
        exact ⟨by rw [List.map_cons, List.map_cons, e2], .cons r rs⟩
      · rw [if_neg hx, if_neg hx]
        obtain ⟨q1, q2⟩ := put_rep r e2 rs
        exact ⟨by rw [List.map_cons, List.map_cons, q1], .cons r0 q2⟩
theorem ds_fld (hK : X.K = G.K) (hf : FldOk G f) (ho : DE G W X o go) (hv : DE G W X e gv) (hs : swapsWith e (some (.Attribute o f pos')) pos.line X.env = pure false := by rfl) : DS G W X (.Assign [.Attribute o f pos'] e pos) (gFldS f go gv) := fun al =>
  ps_weak (ps_fld (ho al) (hv al) hs) fun D s H ⟨k, env, mem, R, q⟩ => by
    refine ⟨k, env, mem, R, PostS.bind q fun y m k1 v1 H1 R1 E1 P1 h => ?_⟩
    refine ⟨k1, env, m, R1, PostS.bind h fun d m2 k2 v2 H2 R2 E2 P2 h => ?_⟩
    split at h
    · rename_i j
      split at h
      · rename_i c fs hm
        by_cases hl : fs.length < 100
        · rw [if_pos hl] at h
          cases P2 with
          | ref ha =>
            rename_i a
            obtain ⟨C, dx, fv, q1, q2, q3, q4⟩ := R2.wr.mem j _ a hm ha
            have hlen : fs.length = fv.length := by
              have := congrArg List.length q3
              simpa using this
            obtain ⟨p1, p2⟩ := put_rep (f := f) (P1.ext E2) q3 q4
            have st : St2 k2 H2 k2 (upd H2 a (.ins C dx (putF f v1 fv))) := write_stays (.inl (List.mem_of_getElem? ha))
            obtain ⟨r1, r2⟩ := R2.writeMem (o' := .ins C dx (putF f v1 fv)) (mo := .ins c (putD f y fs)) j ha q1 trivial trivial ⟨C, dx, _, upd_same, q2, p1, Reps.stay st p2⟩
            rw [hK]
            exact ⟨a, C, dx, fv, rfl, q1, (hf c C q2).1, (hf c C q2).2, by rw [← hlen]; omega, h k2 s _ r1 r2.stays⟩
        · rw [if_neg hl] at h
          exact h.elim
      · exact h.elim
    · exact h.elim
/-- a new shared list -/
def gNewM (g : GA) : GE := fun env m => (g env m).bind fun xs m => .ok (.ref m.length) (m ++ [.lst xs])
theorem de_newM (h : DN G W X e gn) : DE G W X e (gNewM gn) := fun al => pe_weak (h al) fun s H Q ⟨k, env, mem, R, q⟩ =>
  ⟨k, env, mem, R, PostR.bind q fun x m k1 v1 H1 R1 E1 P1 h p hp => by
    have st : St2 k1 H1 (k1.add p) (upd H1 p (.lst v1)) := add_stays hp (R1.wr.no hp)
    obtain ⟨r1, r2, r3⟩ := R1.newMem (o := .lst v1) (mo := .lst x) hp trivial ⟨v1, upd_same, P1.2, Reps.stay st P1.1⟩
    exact h _ _ _ r1 r2 r3⟩
/-! ### slices -/
abbrev GP := List Slot → List MO → RE (Option Int)
def gpN : GP := fun _ m => .ok none m
def gpS (a : GE) : GP := fun env m => (a env m).bind fun d m => match d with
  | .int i => .ok (some i) m
  | _ => .no
def dTO (G : Glob) (al : Act) (W : WX) (g : GP) : TO := fun s H Q => ∃ k env mem, Rel G al k env mem s H ∧ PostR G al W (fun _ _ (a b : Option Int) => a = b) k env s H Q (g env mem)
def DP (G : Glob) (W : WX) (X : Cx) (e : Option Expr) (g : GP) : Prop := ∀ al, PO X e (dTO G al W g)
theorem po_weak {X : Cx} {e : Option Expr} {t t' : TO} (h : PO X e t) (w : ∀ s H Q, t' s H Q → t s H Q) : PO X e t' := ⟨fun pins s σ H Q I q => h.run pins s σ H Q I (w _ _ _ q)⟩
theorem dp_none : DP G W X none gpN := fun al => po_weak po_none fun s H Q ⟨k, env, mem, R, h⟩ => PostR.here h R rfl
theorem dp_some (he : DE G W X e ga) : DP G W X (some e) (gpS ga) := fun al => po_weak (po_some (he al)) fun s H Q ⟨k, env, mem, R, q⟩ => by
  refine ⟨k, env, mem, R, PostR.bind q fun d m k1 v1 H1 R1 E1 P1 h => ?_⟩
  split at h
  · rename_i i
    exact ⟨i, P1.vint, PostR.here h R1 rfl⟩
  · exact h.elim
def cutD (xs : List D) (lo hi : Option Int) : List D := (xs.drop (HT.sIx xs.length 0 lo)).take (HT.sIx xs.length xs.length hi - HT.sIx xs.length 0 lo)
theorem cut_rep {mu : Addr → Prop} {rho : List Addr} {ds : List D} {vs : List V} (r : Reps G mu rho H ds vs) (lo hi : Option Int) : Reps G mu rho H (cutD ds lo hi) (cutV vs lo hi) := by
  unfold cutD cutV
  rw [r.length]
  exact (r.drop _).take _
theorem cut_all {ds : List D} {lo hi : Option Int} (h : HT.sIx ds.length 0 lo = 0 ∧ HT.sIx ds.length ds.length hi = ds.length) : cutD ds lo hi = ds := by
  unfold cutD
  rw [h.1, h.2]
  simp
def gSlT (a : GE) (lo hi : GP) : GE := fun env m => (a env m).bind fun d m => (lo env m).bind fun l m => (hi env m).bind fun u m => match d with
  | .tup xs => .ok (.tup (cutD xs l u)) m
  | _ => .no
theorem de_slT {lo hi : Option Expr} {gl gh : GP} {p2 : Pos} (hK : X.K = G.K) (he : DE G W X e ga) (hl : DP G W X lo gl) (hh : DP G W X hi gh) : DE G W X (.Subscript e (.Slice lo hi none p2) pos) (gSlT ga gl gh) := fun al =>
  pe_weak (pe_slice sl_tupA (he al) (hl al) (hh al)) fun s H Q ⟨k, env, mem, R, q⟩ => by
    refine ⟨k, env, mem, R, PostR.bind q fun d m k1 v1 H1 R1 E1 P1 h => ⟨k1, env, m, R1, PostR.bind h fun l m2 k2 v2 H2 R2 E2 P2 h => ?_⟩⟩
    subst P2
    refine ⟨k2, env, m2, R2, PostR.bind h fun u m3 k3 v3 H3 R3 E3 P3 h => ?_⟩
    subst P3
    split at h
    · rename_i xs
      have P1' := (P1.ext E2).ext E3
      cases P1' with
      | tup h1 h2 h3 =>
        rename_i a vs
        rw [hK]
        have hc := cut_rep h3 l u
        refine ⟨a, vs, rfl, h1.sq, fun z => ?_, fun _ p hp => ?_⟩
        · rw [← h3.length] at z
          rw [cut_all z] at h
          exact h k3 _ H3 R3 (Ext.refl _ _) (.tup h1 h2 h3)
        · have hz : (cutV vs l u).length ≤ sizeLine := Nat.le_trans (cutV_length _ _ _) h2
          obtain ⟨r1, r2⟩ := R3.newTup hp hz hc
          exact h k3 _ _ r1 (Ext.new hp) r2
    · exact h.elim
/-- what a slice takes for a list -/
def slOf (m : List MO) : D → Option (List D)
  | .slst xs => some xs
  | d => lstOf m d
theorem PdB.slOf {al : Act} {k : Ka} {env : List Slot} {mem : List MO} {s : L2.St} {H : Hp} {d : D} {ds : List D} {v : V} (R : Rel G al k env mem s H) (h : PdB G k H d v) (e : slOf mem d = some ds) : ∃ a vs, v = .ref a ∧ SqL G.K H a vs ∧ vs.length ≤ sizeLine ∧ Reps G k.mu k.rho H ds vs := by
  by_cases ht : ∃ xs, d = .slst xs
  · obtain ⟨xs, rfl⟩ := ht
    cases e
    rcases h with h | ⟨p, e, _, ⟨xs, e2, _⟩ | ⟨kvs, e2, _⟩⟩
    · cases h with
      | slst h1 h2 h3 => exact ⟨_, _, rfl, h1.sq, h2, h3⟩
    · cases e2
    · cases e2
  · have e2 : DL.lstOf mem d = some ds := by
      cases d with
      | slst ys => exact absurd ⟨ys, rfl⟩ ht
      | _ => exact e
    obtain ⟨a, vs, h1, h2, h3, h4⟩ := h.lstOf R e2
    exact ⟨a, vs, h1, SqL.of h2, h3, h4⟩
def gSlL (a : GE) (lo hi : GP) : GA := fun env m => (a env m).bind fun d m => (lo env m).bind fun l m => (hi env m).bind fun u m => match slOf m d with
  | some xs => .ok (cutD xs l u) m
  | none => .no
theorem dn_sl {lo hi : Option Expr} {gl gh : GP} {p2 : Pos} (hK : X.K = G.K) (he : DB G W X e ga) (hl : DP G W X lo gl) (hh : DP G W X hi gh) : DN G W X (.Subscript e (.Slice lo hi none p2) pos) (gSlL ga gl gh) := fun al =>
  pe_weak (pe_slice sl_list (he al) (hl al) (hh al)) fun s H Q ⟨k, env, mem, R, q⟩ => by
    refine ⟨k, env, mem, R, PostR.bind q fun d m k1 v1 H1 R1 E1 P1 h => ⟨k1, env, m, R1, PostR.bind h fun l m2 k2 v2 H2 R2 E2 P2 h => ?_⟩⟩
    subst P2
    refine ⟨k2, env, m2, R2, PostR.bind h fun u m3 k3 v3 H3 R3 E3 P3 h => ?_⟩
    subst P3
    cases hx : slOf m3 d with
    | none => rw [hx] at h; exact h.elim
    | some xs =>
      rw [hx] at h
      obtain ⟨a, vs, rfl, h1, h2, h3⟩ := ((P1.ext R1 E2).ext R2 E3).slOf R3 hx
      rw [hK]
      exact ⟨a, vs, rfl, h1, fun p hp => h k3 _ H3 R3 (Ext.refl _ _) ⟨cut_rep h3 l u, Nat.le_trans (cutV_length _ _ _) h2⟩ p hp⟩
/-! ### the least of several data -/
mutual
def ofP : PyData → D
  | .none => .non
  | .bool b => .bl b
  | .int i => .int i
  | .str x => .str x
  | .list xs => .lst (ofPs xs)
  | .tuple xs => .tup (ofPs xs)
  | .dict _ => .non
def ofPs : List PyData → List D
  | [] => []
  | x :: xs => ofP x :: ofPs xs
end
theorem ofP_toP : ∀ {n : Nat} {d : D} {p : PyData}, toP [] n d = some p → ofP p = d
  | 0, _, _, h => by simp [toP] at h
  | n + 1, d, p, h => by
    have key : ∀ {xs : List D} {ps : List PyData}, mapO (toP [] n) xs = some ps → ofPs ps = xs := fun {xs} => by
      induction xs with
      | nil =>
        intro ps e
        cases e
        simp [ofPs]
      | cons x xs ih =>
        intro ps e
        obtain ⟨y, ys, h1, h2, rfl⟩ := mapO_cons e
        rw [ofPs, ofP_toP h1, ih h2]
    cases d with
    | tup xs =>
      obtain ⟨ps, h1, rfl⟩ := Option.map_eq_some_iff.mp (show (mapO (toP [] n) xs).map PyData.tuple = some p from h)
      rw [ofP, key h1]
    | lst xs =>
      obtain ⟨ps, h1, rfl⟩ := Option.map_eq_some_iff.mp (show (mapO (toP [] n) xs).map PyData.list = some p from h)
      rw [ofP, key h1]
    | ref i =>
      have h : (match ([] : List MO)[i]? with | some (.lst xs) => (mapO (toP [] n) xs).map PyData.list | _ => none) = some p := h
      simp at h
    | non => cases h; rw [ofP]
    | bl b => cases h; rw [ofP]
    | int b => cases h; rw [ofP]
    | str b => cases h; rw [ofP]
    | _ => cases h
theorem toP_mono {n : Nat} : ∀ {d : D} {p : PyData}, toP [] n d = some p → toP mem n d = some p := fun {d p} h => by
  induction n generalizing d p with
  | zero => simp [toP] at h
  | succ n ih =>
    have key : ∀ {xs : List D} {ps : List PyData}, mapO (toP [] n) xs = some ps → mapO (toP mem n) xs = some ps := fun {xs} => by
      induction xs with
      | nil =>
        intro ps e
        exact e
      | cons x xs ih2 =>
        intro ps e
        obtain ⟨y, ys, h1, h2, rfl⟩ := mapO_cons e
        show (toP mem n x).bind _ = _
        rw [ih h1]
        show (mapO (toP mem n) xs).map _ = _
        rw [ih2 h2]
        rfl
    cases d with
    | tup xs =>
      obtain ⟨ps, h1, rfl⟩ := Option.map_eq_some_iff.mp (show (mapO (toP [] n) xs).map PyData.tuple = some p from h)
      show (mapO (toP mem n) xs).map PyData.tuple = _
      rw [key h1]
      rfl
    | lst xs =>
      obtain ⟨ps, h1, rfl⟩ := Option.map_eq_some_iff.mp (show (mapO (toP [] n) xs).map PyData.list = some p from h)
      show (mapO (toP mem n) xs).map PyData.list = _
      rw [key h1]
      rfl
    | ref i =>
      have h : (match ([] : List MO)[i]? with | some (.lst xs) => (mapO (toP [] n) xs).map PyData.list | _ => none) = some p := h
      simp at h
    | non => exact h
    | bl b => exact h
    | int b => exact h
    | str b => exact h
    | _ => cases h
def alkAll (ps : List PyData) : Bool := ps.all fun p => !(p matches .none) && ps.all fun q => PySem.W.alike p q
theorem alkAll_ok {ps : List PyData} (h : alkAll ps = true) : PySem.W.AlikeAll ps := by
  unfold alkAll at h
  simp only [List.all_eq_true, Bool.and_eq_true] at h
  refine ⟨fun x hx y hy => (h x hx).2 y hy, fun x hx e => ?_⟩
  have := (h x hx).1
  subst e
  simp at this
def leastD (f : PyData → List PyData → PyData) : List MO → D → Option D := fun m x => (lstOf m x).bind fun xs => (mapO (toP [] fuelP) xs).bind fun ps => match ps with
  | [] => none
  | p :: ps => if alkAll (p :: ps) = true then some (ofP (f p ps)) else none
def cMinL := leastD PySem.W.minD
def cMaxL := leastD PySem.W.maxD
theorem reads_uniq {h : Heap} {v : Value} {d e : PyData} {as bs : List Addr} (r : Reads h v d as) (q : Reads h v e bs) (h1 : d.plain = true) (h2 : e.plain = true) : d = e := by
  rw [← SeqAt.readOf_plain h1 r, SeqAt.readOf_plain h2 q]
theorem mapO_get {α β : Type} {f : α → Option β} : ∀ {xs : List α} {ys : List β} {i : Nat} {x : α}, mapO f xs = some ys → xs[i]? = some x → ∃ y, ys[i]? = some y ∧ f x = some y
  | [], _, _, _, _, h => by simp at h
  | a :: xs, _, 0, x, e, h => by
    obtain ⟨y, ys, h1, h2, rfl⟩ := mapO_cons e
    simp at h
    subst h
    exact ⟨y, rfl, h1⟩
  | a :: xs, _, i + 1, x, e, h => by
    obtain ⟨y, ys, h1, h2, rfl⟩ := mapO_cons e
    obtain ⟨z, h3, h4⟩ := mapO_get (i := i) (x := x) h2 (by simpa using h)
    exact ⟨z, by simpa using h3, h4⟩
end
section
variable {G : Glob} {X : Cx}
theorem dpAll_get {K : PySem.W.Frag} {H : Hp} : ∀ {vs : List V} {ps : List PyData} {i : Nat} {v : V}, DpAll K H vs ps → vs[i]? = some v → ∃ p, ps[i]? = some p ∧ Dp K H v p
  | [], _, _, _, _, h => by simp at h
  | v :: vs, _, 0, w, .cons a _, h => by
    simp at h
    subst h
    exact ⟨_, rfl, a⟩
  | v :: vs, _, i + 1, w, .cons _ b, h => by
    obtain ⟨p, h1, h2⟩ := dpAll_get (i := i) (v := w) b (by simpa using h)
    exact ⟨p, by simpa using h1, h2⟩
theorem fold_mem {f : PyData → PyData → Bool} (g : PyData → PyData → PyData) (hg : ∀ a y, g a y = a ∨ g a y = y) : ∀ (xs : List PyData) (x : PyData), xs.foldl g x ∈ x :: xs
  | [], x => by simp
  | y :: ys, x => by
    rw [List.foldl_cons]
    have h := fold_mem (f := f) g hg ys (g x y)
    rcases List.mem_cons.mp h with h | h
    · rw [h]
      rcases hg x y with e | e
      · rw [e]; simp
      · rw [e]; simp
    · exact List.mem_cons_of_mem _ (List.mem_cons_of_mem _ h)
theorem minD_mem (x : PyData) (xs : List PyData) : PySem.W.minD x xs ∈ x :: xs := fold_mem (f := fun _ _ => true) _ (fun a y => by
  by_cases h : PySem.W.dataLt y a = true
  · exact .inr (if_pos h)
  · exact .inl (if_neg h)) xs x
theorem maxD_mem (x : PyData) (xs : List PyData) : PySem.W.maxD x xs ∈ x :: xs := fold_mem (f := fun _ _ => true) _ (fun a y => by
  by_cases h : PySem.W.dataLt a y = true
  · exact .inr (if_pos h)
  · exact .inl (if_neg h)) xs x
theorem leastCall {b : String} {f : PyData → List PyData → PyData} (c : CO G X) (hf : ∀ x xs, f x xs ∈ x :: xs)
    (h : ∀ (s : Shared) (l : Addr) (vs : Array Value) (x : PyData) (xs : List PyData) (as : List Addr) (Q : Value → Shared → Prop) (E : Value → Shared → Prop), X.A.handled = none → s.heap.IsList l vs → ReadsAll s.heap vs.toList (x :: xs) as → PySem.W.AlikeAll (x :: xs) → X.A.units + 1 + PyData.depthAll (x :: xs) < cLine →
      (∀ (i : Nat) v h' tk bs, vs[i]? = some v → Reads h' v (f x xs) bs → (∀ b o, s.heap.get? b = some o → h'.get? b = some o) → Q v { s with heap := h', toks := tk }) → wpAny (model X.prog X.w) X.A (call (.builtin b) [.ref l]) Q E s) : CallD G X (.builtin b) (f1 (leastD f)) := by
  refine call1 (r := fun xs H Q => ∃ a vs p ps, xs = [V.ref a] ∧ SqL X.K H a vs ∧ DpAll X.K H vs (p :: ps) ∧ PySem.W.AlikeAll (p :: ps) ∧ PyData.plainAll (p :: ps) = true ∧ X.A.units + 1 + PyData.depthAll (p :: ps) < cLine ∧ ∀ (i : Nat) (v : V), vs[i]? = some v → (p :: ps)[i]? = some (f p ps) → Q v H) (fun pins s σ H xs us Q I r h' => ?_) fun al k env mem s H d dz v Q R pd e q => ?_
  · obtain ⟨a, vs, p, ps, rfl, h1, h2, h3, h4, h5, hq⟩ := h'
    obtain ⟨its, rv, hl, hz⟩ := I.list h1
    rw [Vals.ref1 r]
    obtain ⟨as, rd⟩ := Dp.readsAll I (p :: ps) vs its h2 rv
    refine h s a its.toArray p ps as _ _ (I.ok.hd c.calm) hl.isList (by simpa using rd) h3 h5 fun i u h' tk bs hi hr hk => ?_
    have hi' : its[i]? = some u := by simpa using hi
    have hlen := rv.length
    have hlt : i < vs.length := by
      rw [hlen]
      exact (List.getElem?_eq_some_iff.mp hi').1
    have hv : vs[i]? = some vs[i] := by simp [hlt]
    obtain ⟨u', g1, g2⟩ := rv.get hv
    rw [hi'] at g1
    cases g1
    obtain ⟨pi, g3, g4⟩ := dpAll_get h2 hv
    obtain ⟨cs, g5⟩ := Dp.reads I pi _ _ g4 g2
    have mem1 : pi ∈ p :: ps := List.mem_of_getElem? g3
    have pl : ∀ q ∈ p :: ps, q.plain = true := fun q hq => by
      have : ∀ {l : List PyData}, PyData.plainAll l = true → ∀ q ∈ l, q.plain = true := fun {l} => by
        induction l with
        | nil => intro _ q hq; simp at hq
        | cons y ys ih =>
          intro e q hq
          rw [PyData.plainAll, Bool.and_eq_true] at e
          rcases List.mem_cons.mp hq with rfl | hq
          · exact e.1
          · exact ih e.2 q hq
      exact this h4 q hq
    have e := reads_uniq (PyProof.Rows.Reads.keeps hk g5) hr (pl _ mem1) (pl _ (hf p ps))
    subst e
    exact ⟨vs[i], H, I.kept hk, g2, hq i _ hv g3⟩
  · obtain ⟨xs, e1, e⟩ := Option.bind_eq_some_iff.mp e
    obtain ⟨ps, e2, e⟩ := Option.bind_eq_some_iff.mp e
    cases ps with
    | nil => cases e
    | cons p ps =>
      have e : (if alkAll (p :: ps) = true then some (ofP (f p ps)) else none) = some dz := e
      by_cases ha : alkAll (p :: ps) = true
      · rw [if_pos ha] at e
        cases e
        obtain ⟨a, vs, rfl, g1, g2, g3⟩ := pd.lstOf R e1
        have o1 := mapO_ok e2
        have hu := c.un
        have hmem : mapO (toP mem fuelP) xs = some (p :: ps) := by
          have : ∀ {xs : List D} {ps : List PyData}, mapO (toP [] fuelP) xs = some ps → mapO (toP mem fuelP) xs = some ps := fun {xs} => by
            induction xs with
            | nil => intro ps e; exact e
            | cons x xs ih =>
              intro ps e
              obtain ⟨y, ys, h1, h2, rfl⟩ := mapO_cons e
              show (toP mem fuelP x).bind _ = _
              rw [toP_mono h1]
              show (mapO (toP mem fuelP) xs).map _ = _
              rw [ih h2]
              rfl
          exact this e2
        rw [c.K]
        refine ⟨a, vs, p, ps, rfl, SqL.of g1, mapO_dp R hmem g3, alkAll_ok ha, o1.1, ?_, fun i v hv hi => q k v H R (Ext.refl k H) ?_⟩
        · have : fuelP = 32 := rfl
          omega
        · obtain ⟨d, d1, d2⟩ := g3.getV hv
          obtain ⟨pi, q1, q2⟩ := mapO_get e2 d1
          rw [hi] at q1
          cases q1
          rw [ofP_toP q2]
          exact d2
      · rw [if_neg ha] at e
        cases e
theorem cd_minL (c : CO G X) : CallD G X (.builtin "min") (f1 cMinL) := leastCall c minD_mem fun s l vs x xs as Q E hh hl hr ha hu hq => PySem.W.min_list_data hh hl hr ha hu hq
theorem cd_maxL (c : CO G X) : CallD G X (.builtin "max") (f1 cMaxL) := leastCall c maxD_mem fun s l vs x xs as Q E hh hl hr ha hu hq => PySem.W.max_list_data hh hl hr ha hu hq
end
end DL
/-! GX0: a generator's run to its next item, by what is wanted of the end. -/
namespace GX
open PySem PySem.Spec
open Sem (wp)
/-- one run of a generator's code -/
def SegX (M : Model) (A : Around) (Φ : End → Shared → Prop) (c : Code) (t : Sem Fin) (fs : List Frame) (s : Shared) : Prop :=
  ∀ Γ p, Γ.code = c → Γ.Woken A → ∃ e s', Runs M Γ p t fs s e s' ∧ Φ e s'
section
variable {M : Model} {A : Around} {Φ : End → Shared → Prop} {c : Code} {fs : List Frame} {s : Shared}
theorem segx_wrap {α : Type} {m : Sem α} {K : α → Sem Fin} {H : Value → Sem Fin} {gd lv}
    (h : wpAny M (A.over c fs) m (fun a s' => SegX M A Φ c (K a) fs s') (fun x s' => SegX M A Φ c (H x) fs s') s) :
    SegX M A Φ c (m.wrap K H gd lv) fs s := by
  rintro Γ p rfl hΓ
  exact runs_wrap_of_wp K H gd lv m (h (Γ.over fs) p (hΓ.over fs)) (fun a p' s' h' => h' Γ p' rfl hΓ) (fun x p' s' h' => h' Γ p' rfl hΓ)
theorem segx_bind_wrap {α β : Type} {m : Sem α} {K : α → Sem β} {K' : β → Sem Fin} {H' : Value → Sem Fin} {gd lv}
    (h : wpAny M (A.over c fs) m (fun a s' => SegX M A Φ c ((K a).wrap K' H' gd lv) fs s') (fun x s' => SegX M A Φ c (H' x) fs s') s) : SegX M A Φ c ((m >>= K).wrap K' H' gd lv) fs s := by
  rw [Sem.bind_eq_wrap', Sem.wrap_wrap]; exact segx_wrap h
theorem segx_at {p' : Pos} {k : Unit → Sem Fin} (h : SegX M A Φ c (k ()) fs s) : SegX M A Φ c (.at p' k) fs s :=
  segx_wrap (m := standAt p') (K := k) (H := .raise) (gd := id) (lv := id) (wpAny_standAt h)
theorem segx_again {c' : Code} (hq : c'.quiet = true) (hc : SegX M A Φ c' (M.den c') fs s) : SegX M A Φ c (.pure (.again c')) fs s := by
  rintro Γ p rfl hΓ
  obtain ⟨e, s', hr, he⟩ := hc (Γ.goto c') p rfl (hΓ.goto c')
  exact ⟨e, s', Runs.head (c₁ := c') (fun _ _ x => .again hq x) hr, he⟩
theorem segx_end (r : Result) (h : Φ (.ret r) s) : SegX M A Φ c (leafOf r) [] s := by
  rintro Γ p rfl _
  exact ⟨.ret r, s, Runs.leaf r, h⟩
theorem segx_yield {v g l} {k : Resume → Sem Fin} (h : ∀ p, Φ (.susp v g l k c p []) s) : SegX M A Φ c (.yield v g l k) [] s := by
  rintro Γ p rfl _
  exact ⟨_, s, Runs.yield' [] rfl, h p⟩
def GoesX (M : Model) (A : Around) (Φ : End → Shared → Prop) (gs : GenState) (s : Shared) : Prop :=
  match gs with
  | .fresh c => SegX M A Φ c (M.den c) [] s
  | .suspended k _ c _ fs _ => SegX M A Φ c (k (.send .none)) fs s
  | _ => False
theorem wpAny_resumeX {E : Value → Shared → Prop} {g : Nat} {gs : GenState} {l : List Value} {α : Type} {k : GenResult → Sem α} {Q : α → Shared → Prop} (hg : s.gens[g]? = some gs)
    (hgo : GoesX M A Φ gs (s.setGen g .running)) (hq : ∀ e s₁, Φ e s₁ → e.quiet = true) (hk : ∀ e s₁, Φ e s₁ → wpAny M A (k e.result) Q E (s₁.setGen g e.genState)) :
    wpAny M A (.resume g (.send .none) l k) Q E s := by
  intro Γ p hΓ
  rw [Sem.wp_resume]
  cases gs with
  | fresh c =>
    obtain ⟨e₁, s₁, hr, he⟩ := hgo (Γ.wake c p) p rfl (hΓ.wake c p)
    exact ⟨_, _, by unfold Wakes; rw [hg]; exact ⟨e₁, s₁, hr, hq e₁ s₁ he, rfl, rfl⟩, hk e₁ s₁ he Γ p hΓ⟩
  | suspended _ _ c2 p2 _ _ =>
    obtain ⟨e₁, s₁, hr, he⟩ := hgo (Γ.wake c2 p) p2 rfl (hΓ.wake c2 p)
    exact ⟨_, _, by unfold Wakes; rw [hg]; exact ⟨e₁, s₁, hr, hq e₁ s₁ he, rfl, rfl⟩, hk e₁ s₁ he Γ p hΓ⟩
  | running => exact hgo.elim
  | finished => exact hgo.elim
end
section
variable {A : Around} {prog : Program} {w : World} {s : Shared} {E : Value → Shared → Prop}
/-- next of a generator that stands at gs: a value is handed out (Yi), or it is over (Fi) -/
theorem next_genX {a : Addr} {g : Nat} {gs : GenState} {Fi : Shared → Prop} {Yi : Value → (Resume → Sem Fin) → Code → Shared → Prop} {Q : Option Value → Shared → Prop} (hh : A.handled = none) (hl : s.heap.NoLimit) (hroom : A.depth < recursionLimit)
    (hg : s.heap.IsGen a g) (hgs : s.gens[g]? = some gs)
    (hgo : GoesX (model prog w) A.in1 (fun e s₁ => match e with
      | .ret r => r = .ok .next ∧ Fi s₁
      | .susp v g l k c p fs => (End.susp v g l k c p fs).quiet = true ∧ fs = [] ∧ Yi v k c s₁) gs (s.setGen g .running))
    (hY : ∀ v k c s₁ gs', Yi v k c s₁ → gs'.bare = true → (∀ Φ s2, SegX (model prog w) A.in1 Φ c (k (.send .none)) [] s2 → GoesX (model prog w) A.in1 Φ gs' s2) → Q (some v) (s₁.setGen g gs'))
    (hP : ∀ s₁, Fi s₁ → ∀ h', (∀ b o, s₁.heap.get? b = some o → h'.get? b = some o) → Q none { s₁.setGen g .finished with heap := h' }) : wpAny (model prog w) A (pyNext (.ref a)) Q E s := by
  have calm : A.in1.handled = none := hh
  have live : gs ≠ .running ∧ gs ≠ .finished := by
    refine ⟨fun z => ?_, fun z => ?_⟩ <;> (subst z; exact hgo)
  unfold pyNext
  apply wpAny_bind
  apply wpAny_attempt
  apply wpAny_callSpecial?_slot (name := Str.ofString "__next__") hg.typeIs slot_gen_next
  refine wpAny_call_entry slot_gen_next hg.typeIs entry_gen_next (?_ : wpAny _ _ (Builtin.Generator.genWake (.ref a) (.send .none)) _ _ s) (args_gen_next _)
  unfold Builtin.Generator.genWake
  apply wpAny_bind
  apply wpAny_holding
  refine wpAny_genNumber hg (wpAny_bind (wpAny_genState hgs ?_))
  match gs, live with
  | .running, l => exact absurd rfl l.1
  | .finished, l => exact absurd rfl l.2
  | .fresh _, _ | .suspended _ _ _ _ _ _, _ =>
    apply wpAny_bind
    refine wpAny_roomToWake (A := A.in1) hl hroom ?_
    refine wpAny_resumeX (l := []) (A := A.in1) hgs hgo (fun e s₁ h => ?_) fun e s₁ h => ?_
    · match e, h with
      | .ret _, _ => rfl
      | .susp .., h => exact h.1
    · match e, h with
      | .susp v _ _ k c p _, ⟨hq, ef, hy⟩ =>
        cases ef
        exact wpAny_pure ⟨v, rfl, wpAny_pure (hY v k c s₁ _ hy (End.bare_of_quiet hq) fun _ _ h2 => h2)⟩
      | .ret _, ⟨er, hp⟩ =>
        cases er
        change wpAny _ _ (newExc (Value.type "StopIteration") [] >>= _) _ _ _
        apply wpAny_bind
        simp only [newExc, newTuple, raiseNew]
        apply wpAny_bind
        refine wpAny_newObj_type (?_ : wpAny _ _ _ _ _ _) (by size_fits)
        apply wpAny_bind (m := firstArgMember _ _)
        refine wpAny_of_eq (a := Value.none) rfl (?_ : wpAny _ _ _ _ _ _)
        refine wpAny_newObj_type (?_ : wpAny _ _ _ _ _ _) (by size_fits)
        apply wpAny_bind
        apply wpAny_bind
        apply wpAny_handled
        rw [calm]
        apply wpAny_throw
        apply wpAny_bind
        refine wpAny_isInstance (T := "StopIteration") (b := true) ?_ isSubtype_stop (?_ : wpAny _ _ _ _ _ _)
        · exact ⟨_, Heap.get?_push_size _ rfl, rfl⟩
        apply wpAny_pure
        exact hP s₁ hp _ fun b o e => Heap.get?_push_of_some _ (Heap.get?_push_of_some _ e)
end
end GX
/-! GX1: a generator expression's frame, its turns. -/
namespace GX
open PySem PySem.Spec PyProof.Rows L2
abbrev genE (elt tg iter : Expr) (scope : Scope) (pos : Pos) : Expr := .GeneratorExp elt [⟨tg, iter, [], 0⟩] scope pos
abbrev genL (elt tg iter : Expr) (scope : Scope) (pos : Pos) (it : Addr) (cenv : Env) : Code := .compLoop (genE elt tg iter scope pos) 0 (.ref it) .none cenv
abbrev genB (elt tg iter : Expr) (scope : Scope) (pos : Pos) (it : Addr) (cenv : Env) : Code := .compStart (genE elt tg iter scope pos) 0 (.ref it) .none cenv
section
variable {elt tg iter : Expr} {scope : Scope} {pos : Pos} {it : Addr} {cenv : Env}
theorem over_genL {A : Around} : A.over (genL elt tg iter scope pos it cenv) [] = A.deeper cenv := rfl
theorem over_genB {A : Around} : A.over (genB elt tg iter scope pos it cenv) [] = A.deeper cenv := rfl
/-- the context of the element, entered at s -/
def gcx (X : Cx) (A : Around) (s : Shared) (H : Hp) (cenv : Env) (fp : List Addr) (a : Addr) (go : Obj) : Cx :=
  { X with A := A, s_0 := s, H_0 := H, env := cenv, outer := X.stack, stack := cenv :: X.stack, ex := fp, fn := fun _ => false, calm := true, pn := [(a, go)], xe := fun _ _ => False }
end
section
variable {X : Cx} {pins : List (Addr × Obj)} {σ : L2.St} {H : Hp} {s : Shared}
abbrev genV (X : Cx) (scope : Scope) (C : Addr) (code : Value) : Env := genEnv scope (cloFrom X.env.cells scope.names []) C code builtinsNs X.env
/-! the cells that a block takes from the frame around -/
theorem blk_has {own : List (Str × Nat)} {scope : Scope} (B : BlkOk X.N X.env.scope scope own) (O : X.Ok) : ∀ q ∈ scope.names, q.2 = .free → ∃ a, X.env.cells.lookup q.1 = some a := fun q hq hk => O.has q.1 (B.free q hq hk)
theorem clo_sub {scope : Scope} (F : ∀ q ∈ scope.names, q.2 = .free → ∃ a, X.env.cells.lookup q.1 = some a) {n : Str} {a : Addr} (e : (cloFrom X.env.cells scope.names []).lookup n = some a) : X.env.cells.lookup n = some a := by
  match cloFrom_mem (PySem.mem_of_lookup e) with
  | .inl z => cases z
  | .inr ⟨hn, ha⟩ =>
    obtain ⟨b, hb⟩ := F (n, .free) hn rfl
    have hb2 : List.lookup n X.env.cells = some b := hb
    rw [ha, hb2]
    rfl
theorem clo_hit {scope : Scope} {n : Str} (h : scope.names.lookup n = some .free) : ∃ a, (cloFrom X.env.cells scope.names []).lookup n = some a :=
  mem_lookup (cloFrom_has (acc := []) (PySem.mem_of_lookup h))
/-- what is new is no frame -/
theorem new_nofr (I : Inv X pins σ H s) {a : Addr} (h : s.heap.objs.size ≤ a) : a ∉ frs X.stack := fun z =>
  (List.mem_cons.mp (I.stkSub a z)).elim (fun e => absurd I.lt (Nat.not_lt_of_le (e ▸ h))) (I.nofs h)
/-- a name of the block's own has no value in the wiped slots -/
theorem wiped_free {own : List (Str × Nat)} {scope : Scope} (B : BlkOk X.N X.env.scope scope own) (hN : X.N.Nodup) {i : Nat} {n : Str} {v : V} (e1 : X.N[i]? = some n) (e2 : (wipe σ (own.map (·.2)))[i]? = some (some v)) {kd : NameKind} (hk : scope.names.lookup n = some kd) : ¬ (kd = .local ∨ kd = .cell) := fun z =>
  match B.own (n, kd) (PySem.mem_of_lookup hk) z with
  | .inr y => y (List.mem_of_getElem? e1)
  | .inl y => by
    obtain ⟨q, hq, eq⟩ := List.mem_map.mp y
    have eq2 : q.1 = n := eq
    exact (wipe_some e2).2 (List.mem_map.mpr ⟨q, hq, nodup_ix hN (eq2 ▸ B.ix q hq) e1⟩)
theorem gen_look {own : List (Str × Nat)} {scope : Scope} {C : Addr} {code : Value} {h : Heap} {m0 : Str → Option Value} (I : Inv X pins σ H s) (B : BlkOk X.N X.env.scope scope own) (hN : X.N.Nodup) (kp : ∀ b o, s.heap.get? b = some o → h.get? b = some o)
    (i : Nat) (n : Str) (v : V) (e1 : X.N[i]? = some n) (e2 : (wipe σ (own.map (·.2)))[i]? = some (some v)) (vis : Vis scope n) : ∃ u, RelV v u ∧ Look (genV X scope C code) h m0 n u := by
  have hk : scope.names.lookup n = some .free := by
    rcases vis with q | q | q
    · exact (wiped_free B hN e1 e2 q (.inl rfl)).elim
    · exact (wiped_free B hN e1 e2 q (.inr rfl)).elim
    · exact q
  have outer := B.free (n, .free) (PySem.mem_of_lookup hk) rfl
  obtain ⟨_, _, hl⟩ := I.loc
  obtain ⟨u, ru, lu⟩ := hl i n v e1 (wipe_some e2).1 (.inr outer)
  obtain ⟨a, ha⟩ := clo_hit (X := X) hk
  refine ⟨u, ru, .inr ⟨.inr hk, a, ha, ?_⟩⟩
  have ha2 := clo_sub (blk_has B I.ok) ha
  cases lu with
  | inl z =>
    have z1 : X.env.scope.names.lookup n = some .local := z.1
    have o2 : X.env.scope.names.lookup n = some .cell ∨ X.env.scope.names.lookup n = some .free := outer
    rw [z1] at o2
    rcases o2 with o2 | o2 <;> cases o2
  | inr z =>
    obtain ⟨_, b, hb, isc⟩ := z
    have : b = a := Option.some.inj (hb.symm.trans ha2)
    exact (this ▸ isc).keeps kp
theorem gen_start {A : Around} {scope : Scope} {own : List (Str × Nat)} {fp : List Addr} {code : Value} {go : Obj} {s5 : Shared} {m0 : Str → Option Value} (I : Inv X pins σ H s) (ok : BlkOk X.N X.env.scope scope own) (hN : X.N.Nodup) (hcell : ∀ y ∈ scope.names, y.2 ≠ .cell)
    (hfp : ∀ b ∈ fp, FpOk X pins H b ∧ b < s.heap.objs.size) (hA : A.frames = some (genV X scope s.heap.objs.size code :: X.stack)) (hh : A.handled = none)
    (ho : s5.os = s.os) (hb : AllBare s5.gens) (kp : ∀ b o, s.heap.get? b = some o → s5.heap.get? b = some o) (hn : s5.heap.Ns s.heap.objs.size m0) (hgo : s5.heap.get? (s.heap.objs.size + 1) = some go) (hgd : ∀ v, go.data ≠ .cell v) :
    Inv (gcx X A s H (genV X scope s.heap.objs.size code) fp (s.heap.objs.size + 1) go) [] (wipe σ (own.map (·.2))) H s5 :=
  have sub : ∀ {n a}, (cloFrom X.env.cells scope.names []).lookup n = some a → X.env.cells.lookup n = some a := fun {_ _} e => clo_sub (blk_has ok I.ok) e
  have exN : ∀ b ∈ fp, b ∉ frs X.stack := fun b q z => (List.mem_cons.mp (I.stkSub b z)).elim (hfp b q).1.2.1 (hfp b q).1.2.2.1
  { ok :=
      { mod := I.ok.mod, kind := ok.kind, glob := I.ok.glob, blt := rfl, above := Nat.le_refl _
        inj := fun n1 n2 a q1 q2 => I.ok.inj n1 n2 a (sub q1) (sub q2)
        has := fun n q => q.elim (fun q => (hcell (n, .cell) (PySem.mem_of_lookup q) rfl).elim) fun q => clo_hit (X := X) q
        cab := fun _ _ q _ => by cases (show false = true from q)
        hd := fun _ => hh
        frames := hA
        stk := .inr ⟨rfl, rfl⟩
        exf := fun b q => ⟨Nat.ne_of_lt (hfp b q).2, fun n a e => (hfp b q).1.2.2.2.2.1 n a (sub e)⟩
        bs := I.bs
        bsz := Nat.le_trans I.ok.bsz I.sz
        noex := fun b o e q => (hfp b q).1.2.2.2.1.elim (I.ok.noex b o e) fun z => absurd (Heap.lt_size e) (Nat.not_lt_of_le (Nat.le_trans I.ok.bsz z))
        exfs := exN
        funs := I.stack
        frf := I.stkFree }
    os := ho
    bare := hb
    base := Un.kept kp
    loc := ⟨m0, hn, gen_look I ok hN kp⟩
    cell := fun n a e => (I.cell n a (sub e)).imp fun _ z => z.keeps kp
    free := I.hok.fresh (Nat.le_refl _)
    freeC := fun n a e => I.freeC n a (sub e)
    pin := fun q hq => by
      cases (show q ∈ [(s.heap.objs.size + 1, go)] from hq) with
      | head => exact ⟨hgo, I.hok.fresh (Nat.le_succ _), Nat.succ_ne_self _, new_nofr I (Nat.le_succ _), hgd⟩
      | tail _ z => cases z
    hok := I.hok.kept kp
    len := (wipe_length σ _).trans I.len }
/-- other generators' states -/
theorem inv_gens (I : Inv X pins σ H s) {G : Array GenState} (hb : AllBare G) : Inv X pins σ H { s with gens := G } := ⟨I.ok, I.os, hb, I.base, I.loc, I.cell, I.free, I.freeC, I.pin, I.hok, I.len⟩
theorem inv_setGen (I : Inv X pins σ H s) (g : Nat) {x : GenState} (hb : x.bare = true) : Inv X pins σ H (s.setGen g x) := inv_gens I (allBare_setGen I.bare hb)
end

/-! ### one turn -/
/-- what the next item needs: the iterator's turn, the target, the element -/
def NextS (J : It) (g : TG) (te : TE) (vs : List Nat) (σ : L2.St) (i : Nat) (H : Hp) (Done : Hp → Prop) (Out : V → Hp → Prop) : Prop :=
  (J.stop i H ∧ Done H) ∨ (J.go i H ∧ ∀ x H', J.yld i H x H' → g x σ H' fun σ2 H2 => wipe σ2 vs = σ ∧ te σ2 H2 Out)
section
variable {Z : Cx} {elt tg iter : Expr} {scope : Scope} {pos : Pos} {it : Addr} {J : It} {fp : List Addr} {tn : Nat → Heap → Prop} {g : TG} {te : TE} {vs : List Nat} {σ : L2.St}
/-- where a generator stands: at turn i -/
def Rsm (M : Model) (A : Around) (c0 : Code) (tn : Nat → Heap → Prop) (i : Nat) (gs : GenState) : Prop := ∀ Φ s2, tn i s2.heap → SegX M A Φ c0 (M.den c0) [] s2 → GoesX M A Φ gs s2
theorem gen_turn {A : Around} {pins : List (Addr × Obj)} (hZA : Z.A = A.deeper Z.env) (hc : Z.calm = true) (hx : Z.xe = fun _ _ => False) (hco : Z.env.scope.isCoroutine = false) (T : Turn Z.prog Z.w Z.K tg J fp it tn) (hg : PG Z tg g) (he : PE Z elt te)
    {i : Nat} {H : Hp} {s : Shared} {Done : Hp → Prop} {Out : V → Hp → Prop} (I : Inv Z pins σ H s) (hf : ∀ b ∈ fp, FpOk Z pins H b) (st : tn i s.heap) (h : NextS J g te vs σ i H Done Out) :
    SegX (model Z.prog Z.w) A (fun e s1 => match e with
      | .ret r => r = .ok .next ∧ ∃ H', Inv Z pins σ H' s1 ∧ Done H'
      | .susp v gd l k c p fs => (End.susp v gd l k c p fs).quiet = true ∧ fs = [] ∧ (∃ y H', Inv Z pins σ H' s1 ∧ tn (i + 1) s1.heap ∧ (∀ b ∈ fp, H' b = none) ∧ RelV y v ∧ Out y H') ∧
          ∀ Φ s2, SegX (model Z.prog Z.w) A Φ (genL elt tg iter scope pos it Z.env) ((model Z.prog Z.w).den (genL elt tg iter scope pos it Z.env)) [] s2 → SegX (model Z.prog Z.w) A Φ c (k (.send .none)) [] s2)
      (genL elt tg iter scope pos it Z.env) ((model Z.prog Z.w).den (genL elt tg iter scope pos it Z.env)) [] s := by
  have ov : A.over (genL elt tg iter scope pos it Z.env) [] = Z.A := by rw [over_genL]; exact hZA.symm
  have nx : ∀ {α : Type} {t : Sem α} {Q Q' : α → Shared → Prop} {E : Value → Shared → Prop} {s : Shared}, wpAny (model Z.prog Z.w) Z.A t Q Z.xe s → (∀ a s, Q a s → Q' a s) → wpAny (model Z.prog Z.w) Z.A t Q' E s := fun {α t Q Q' E s} h hQ => by
    rw [hx] at h
    exact wpAny_mono h hQ fun _ _ z => False.elim z
  show SegX _ A _ _ ((compTurn (genE elt tg iter scope pos) 0 (.ref it) .none Z.env).onRaise (leaving Z.env)) [] s
  rw [compTurn_gen, Sem.onRaise_eq_wrap]
  refine segx_bind_wrap (wpAny_standAt ?_)
  refine segx_bind_wrap ?_
  rw [ov]
  rcases h with ⟨stop, hd⟩ | ⟨go, step⟩
  · refine wpAny_mono (T.done Z rfl rfl rfl hc i pins s σ H (fun _ _ => False) I hf st stop) (fun r s1 h1 => ?_) fun _ _ z => z.elim
    obtain ⟨hr, I1⟩ := h1
    subst hr
    exact segx_end (.ok .next) ⟨rfl, H, I1, hd⟩
  · refine wpAny_mono (T.item Z rfl rfl rfl hc i pins s σ H (fun _ _ => False) I hf st go) (fun r s1 h1 => ?_) fun _ _ z => z.elim
    obtain ⟨u, hr, h1⟩ := h1
    subst hr
    refine segx_bind_wrap ?_
    rw [ov]
    refine wpAny_mono h1 (fun _ s2 h2 => ?_) fun _ _ z => z.elim
    obtain ⟨x, H2, I2, r2, y2, st2, n2⟩ := h2
    have hf2 : ∀ b ∈ fp, FpOk Z pins H2 b := fun b hb => ⟨n2 b hb, (hf b hb).2⟩
    have I2' := I2.pinned hf2 (T.obj _ _ st2)
    refine segx_bind_wrap ?_
    rw [ov]
    refine nx (hg.run _ s2 σ H2 x u _ I2' r2 (step x H2 y2)) fun _ s3 h3 => ?_
    obtain ⟨σ3, H3, I3, hw, q3⟩ := h3
    simp only [List.forIn_nil]
    refine segx_bind_wrap (wpAny_pure ?_)
    simp only [if_true]
    have hy : ∀ v, yieldOut Z.env v = yieldValue v := fun v => by simp only [yieldOut, hco, Bool.false_eq_true, if_false]
    simp only [hy]
    rw [Sem.bind_eq_wrap', Sem.bind_eq_wrap', Sem.wrap_wrap, Sem.wrap_wrap]
    refine segx_wrap ?_
    rw [ov]
    refine nx (he.run _ s3 σ3 H3 _ I3 q3) fun v s4 h4 => ?_
    obtain ⟨y, H4, I4, r4, q4⟩ := h4
    have pin' : ∀ b ∈ fp, ∀ o, s2.heap.get? b = some o → s4.heap.get? b = some o ∧ H4 b = none := fun b hb o e =>
      let z := I4.pin (b, o) (List.mem_append_right _ (List.mem_append_right _ (mem_pinsAt hb e)))
      ⟨z.1, z.2.1⟩
    have I5 : Inv Z pins σ H4 s4 := by
      have hl : σ.length = σ3.length := by rw [← hw, wipe_length]
      exact I4.unpinned.weak hl fun j v e => by
        rw [← hw] at e
        exact (wipe_some e).1
    refine segx_at (segx_yield fun p => ⟨rfl, rfl, ⟨y, H4, I5, T.keep _ _ _ st2 fun b hb o e => (pin' b hb o e).1, fun b hb => ?_, r4, q4⟩, fun Φ s5 h5 => segx_again rfl h5⟩)
    obtain ⟨o, e, _⟩ := T.obj _ _ st2 b hb
    exact (pin' b hb o e).2
/-- the code's begin -/
theorem gen_begin {A : Around} {M : Model} {cenv : Env} (hM : M = model Z.prog Z.w) (T : Turn Z.prog Z.w Z.K tg J fp it tn) : Rsm M A (genL elt tg iter scope pos it cenv) tn 0 (.fresh (genB elt tg iter scope pos it cenv)) := fun Φ s2 st h => by
  subst hM
  show SegX _ A _ _ ((compStart (genE elt tg iter scope pos) 0 (.ref it) .none cenv).onRaise (leaving cenv)) [] s2
  unfold compStart
  rw [Sem.onRaise_eq_wrap]
  show SegX _ A _ _ ((ask >>= _).wrap _ _ _ _) [] s2
  refine segx_bind_wrap (wpAny_askSetting ?_)
  split
  · exact segx_again rfl h
  · first
      | exact segx_bind_wrap (wpAny_rule (segx_bind_wrap (wpAny_standAt (segx_bind_wrap (T.self _ 0 s2 _ _ st (segx_again rfl h))))))
      | (refine segx_bind_wrap (wpAny_rule ?_); show SegX _ A _ _ ((standAt iter.pos >>= _).wrap _ _ _ _) [] s2; exact segx_bind_wrap (wpAny_standAt (segx_bind_wrap (T.self _ 0 s2 _ _ st (segx_again rfl h)))))
end
end GX
/-! GX2: the next item; any, all, sum of a generator expression. -/
namespace GX
open PySem PySem.Spec PyProof.Rows L2 GenW
/-- a generator that stands at turn i -/
structure GSt (Z : Cx) (A : Around) (c0 : Code) (fp : List Addr) (tn : Nat → Heap → Prop) (g : Nat) (pins : List (Addr × Obj)) (σ : L2.St) (i : Nat) (H : Hp) (s : Shared) : Prop where
  inv : Inv Z pins σ H s
  fpok : ∀ b ∈ fp, FpOk Z pins H b
  st : tn i s.heap
  gs : ∃ gs, s.gens[g]? = some gs ∧ Rsm (model Z.prog Z.w) A.in1 c0 tn i gs
/-- what stays the same of one generator -/
structure GOk (Z : Cx) (A : Around) (elt tg iter : Expr) (scope : Scope) (pos : Pos) (it : Addr) (fp : List Addr) (tn : Nat → Heap → Prop) (J : It) (g : TG) (te : TE) (a : Addr) (gi : Nat) : Prop where
  hh : A.handled = none
  room : A.depth < recursionLimit
  around : Z.A = A.in1.deeper Z.env
  calm : Z.calm = true
  xe : Z.xe = fun _ _ => False
  co : Z.env.scope.isCoroutine = false
  turn : Turn Z.prog Z.w Z.K tg J fp it tn
  tgt : PG Z tg g
  elt : PE Z elt te
  gen : ∃ go, (a, go) ∈ Z.pn ∧ ∀ h : Heap, h.get? a = some go → h.IsGen a gi
section
variable {Z : Cx} {A : Around} {elt tg iter : Expr} {scope : Scope} {pos : Pos} {it : Addr} {fp : List Addr} {tn : Nat → Heap → Prop} {J : It} {g : TG} {te : TE} {a : Addr} {gi : Nat} {vs : List Nat} {σ : L2.St} {pins : List (Addr × Obj)}
theorem GOk.isGen (K : GOk Z A elt tg iter scope pos it fp tn J g te a gi) {H : Hp} {s : Shared} (I : Inv Z pins σ H s) : s.heap.IsGen a gi := by
  obtain ⟨go, h1, h2⟩ := K.gen
  exact h2 _ (I.pin (a, go) (List.mem_append_left _ h1)).1
theorem gen_next (K : GOk Z A elt tg iter scope pos it fp tn J g te a gi) {i : Nat} {H : Hp} {s : Shared} {Done : Hp → Prop} {Out : V → Hp → Prop} {Q : Option Value → Shared → Prop} {E : Value → Shared → Prop}
    (G : GSt Z A (genL elt tg iter scope pos it Z.env) fp tn gi pins σ i H s) (h : NextS J g te vs σ i H Done Out) (hD : ∀ H' s', Inv Z pins σ H' s' → Done H' → Q none s')
    (hO : ∀ y v H' s', GSt Z A (genL elt tg iter scope pos it Z.env) fp tn gi pins σ (i + 1) H' s' → RelV y v → Out y H' → Q (some v) s') : wpAny (model Z.prog Z.w) A (pyNext (.ref a)) Q E s := by
  obtain ⟨gs, hgs, hR⟩ := G.gs
  have hgl : gi < s.gens.size := (Array.getElem?_eq_some_iff.mp hgs).1
  have I0 : Inv Z pins σ H (s.setGen gi .running) := inv_setGen G.inv gi rfl
  refine wpAny_gsz (n := gi + 1) hgl (next_genX (Fi := fun s1 => ∃ H', Inv Z pins σ H' s1 ∧ Done H') (Yi := fun v k c s1 => (∃ y H', Inv Z pins σ H' s1 ∧ tn (i + 1) s1.heap ∧ (∀ b ∈ fp, H' b = none) ∧ RelV y v ∧ Out y H') ∧
      ∀ Φ s2, SegX (model Z.prog Z.w) A.in1 Φ (genL elt tg iter scope pos it Z.env) ((model Z.prog Z.w).den (genL elt tg iter scope pos it Z.env)) [] s2 → SegX (model Z.prog Z.w) A.in1 Φ c (k (.send .none)) [] s2) K.hh G.inv.nolimit K.room (K.isGen G.inv) hgs
    (hR _ _ G.st (gen_turn K.around K.calm K.xe K.co K.turn K.tgt K.elt I0 G.fpok G.st h)) (fun v k c s1 gs' hy hb hres => ?_) (fun s1 hf h' hk => ?_))
  · obtain ⟨⟨y, H', I1, st1, n1, r1, q1⟩, hc⟩ := hy
    intro hsz
    have hsz1 : gi < s1.gens.size := by
      have q : (s1.setGen gi gs').gens.size = s1.gens.size := setGen_size _ _ _
      have hsz' : gi + 1 ≤ (s1.setGen gi gs').gens.size := hsz
      omega
    exact hO y v H' _ ⟨inv_setGen I1 gi hb, fun b hb => ⟨n1 b hb, (G.fpok b hb).2⟩, st1, gs', setGen_at hsz1, fun Φ s2 _ h2 => hres Φ s2 (hc Φ s2 h2)⟩ r1 q1
  · obtain ⟨H', I1, q1⟩ := hf
    intro _
    exact hD H' _ ((inv_setGen I1 gi rfl).kept (t' := s1.toks) hk) q1
/-! ### any, all -/
theorem gen_any_loop {A0 : Around} (K : GOk Z A0.in1 elt tg iter scope pos it fp tn J g te a gi) {R : Result → Shared → Prop} {Rz : Bool → Hp → Prop} {W : Nat → Nat → Hp → Prop}
    (hW : ∀ m i H, W m i H → NextS J g te vs σ i H (Rz false) (fun y H' => ∃ b, y = V.bl b ∧ if b = true then Rz true H' else ∃ m', m' < m ∧ W m' (i + 1) H')) (hR : ∀ b H' s', Inv Z pins σ H' s' → Rz b H' → R (.ok (.ret (.bool b))) s') :
    ∀ (m i : Nat) (H : Hp) (s : Shared), W m i H → GSt Z A0.in1 (genL elt tg iter scope pos it Z.env) fp tn gi pins σ i H s → codeAny (model Z.prog Z.w) A0 (.builtin "any.loop" ⟨[.ref a], []⟩) R s := by
  intro m
  induction m using Nat.strongRecOn with
  | ind m ih =>
    intro i H s w G
    refine codeAny_builtin F.entry_any_loop ?_
    rw [Around.under_plainId F.plain_any_loop _]
    show wpAny _ A0.in1 (pyNext (.ref a) >>= _) _ _ s
    refine wpAny_bind (gen_next K G (hW m i H w) (fun H' s' I' q => ?_) fun y v H' s' G' r q => ?_)
    · exact wpAny_bind (wpAny_rule (wpAny_pure (hR false H' s' I' q)))
    · obtain ⟨b, rfl, q⟩ := q
      cases r
      refine wpAny_bind (wpAny_holding (wpAny_truthy_bool ?_))
      refine wpAny_bind (wpAny_letGo ?_)
      cases b with
      | false =>
        simp only [Bool.false_eq_true, if_false]
        rw [if_neg Bool.false_ne_true] at q
        obtain ⟨m', hm, w'⟩ := q
        exact wpAny_pure ⟨plainId_quiet F.plain_any_loop _, ih m' hm (i + 1) H' s' w' G'⟩
      | true =>
        simp only [if_true]
        rw [if_pos rfl] at q
        exact wpAny_bind (wpAny_rule (wpAny_pure (hR true H' s' G'.inv q)))
theorem gen_all_loop {A0 : Around} (K : GOk Z A0.in1 elt tg iter scope pos it fp tn J g te a gi) {R : Result → Shared → Prop} {Rz : Bool → Hp → Prop} {W : Nat → Nat → Hp → Prop}
    (hW : ∀ m i H, W m i H → NextS J g te vs σ i H (Rz true) (fun y H' => ∃ b, y = V.bl b ∧ if b = true then ∃ m', m' < m ∧ W m' (i + 1) H' else Rz false H')) (hR : ∀ b H' s', Inv Z pins σ H' s' → Rz b H' → R (.ok (.ret (.bool b))) s') :
    ∀ (m i : Nat) (H : Hp) (s : Shared), W m i H → GSt Z A0.in1 (genL elt tg iter scope pos it Z.env) fp tn gi pins σ i H s → codeAny (model Z.prog Z.w) A0 (.builtin "all.loop" ⟨[.ref a], []⟩) R s := by
  intro m
  induction m using Nat.strongRecOn with
  | ind m ih =>
    intro i H s w G
    refine codeAny_builtin F.entry_all_loop ?_
    rw [Around.under_plainId F.plain_all_loop _]
    show wpAny _ A0.in1 (pyNext (.ref a) >>= _) _ _ s
    refine wpAny_bind (gen_next K G (hW m i H w) (fun H' s' I' q => ?_) fun y v H' s' G' r q => ?_)
    · exact wpAny_bind (wpAny_rule (wpAny_pure (hR true H' s' I' q)))
    · obtain ⟨b, rfl, q⟩ := q
      cases r
      refine wpAny_bind (wpAny_holding (wpAny_truthy_bool ?_))
      refine wpAny_bind (wpAny_letGo ?_)
      cases b with
      | true =>
        simp only [if_true]
        rw [if_pos rfl] at q
        obtain ⟨m', hm, w'⟩ := q
        exact wpAny_pure ⟨plainId_quiet F.plain_all_loop _, ih m' hm (i + 1) H' s' w' G'⟩
      | false =>
        simp only [Bool.false_eq_true, if_false]
        rw [if_neg Bool.false_ne_true] at q
        exact wpAny_bind (wpAny_rule (wpAny_pure (hR false H' s' G'.inv q)))
/-! ### the consumer's own object -/
structure Young (Z : Cx) (fp : List Addr) (S : Addr) : Prop where
  lo : Z.s_0.heap.objs.size ≤ S
  ne : S ≠ Z.env.locals
  cl : ∀ x c, Z.env.cells.lookup x = some c → c ≠ S
  pn : ∀ p ∈ Z.pn, p.1 ≠ S
  fp : S ∉ fp
  nf : S ∉ Z.fs
theorem GSt.young {c0 : Code} {i : Nat} {H : Hp} {s : Shared} {S : Addr} (T : Turn Z.prog Z.w Z.K tg J fp it tn) (G : GSt Z A c0 fp tn gi pins σ i H s) (h : s.heap.objs.size ≤ S) : Young Z fp S := by
  have lt : ∀ {b o}, s.heap.get? b = some o → b ≠ S := fun {b o} e z => by
    have := Heap.lt_size e
    rw [z] at this
    exact Nat.lt_irrefl _ (Nat.lt_of_lt_of_le this h)
  refine ⟨Nat.le_trans G.inv.sz h, fun z => ?_, fun x c e => ?_, fun p hp => lt (G.inv.pin p (List.mem_append_left _ hp)).1, fun z => ?_, G.inv.nofs h⟩
  · have := G.inv.lt
    rw [← z] at this
    exact Nat.lt_irrefl _ (Nat.lt_of_lt_of_le this h)
  · obtain ⟨v, o, e1, _⟩ := G.inv.cell x c e
    exact lt e1
  · obtain ⟨o, e, _⟩ := T.obj _ _ G.st S z
    exact lt e rfl
/-- pinned, its own object too -/
theorem GSt.pinS {c0 : Code} {i : Nat} {H : Hp} {s : Shared} {S : Addr} {o : Obj} (G : GSt Z A c0 fp tn gi [] σ i H s) (Y : Young Z fp S) (hn : H S = none) (e : s.heap.get? S = some o) (hd : ∀ v, o.data ≠ .cell v) : GSt Z A c0 fp tn gi [(S, o)] σ i H s :=
  ⟨G.inv.pins_of fun p hp => by
    rw [List.mem_singleton.mp hp]
    exact ⟨e, hn, Y.ne, Y.nf, hd⟩, fun b hb => by
    obtain ⟨f0, f1, f2, f3, f4, f5⟩ := G.fpok b hb
    refine ⟨f0, f1, f2, f3, f4, fun p hp => ?_⟩
    rcases List.mem_append.mp hp with z | z
    · exact f5 p (List.mem_append_left _ z)
    · rw [List.mem_singleton.mp z]
      exact fun z2 => Y.fp (by
        have z2 : S = b := z2
        rw [z2]; exact hb), G.st, G.gs⟩
theorem GSt.free {c0 : Code} {i : Nat} {H : Hp} {s : Shared} {S : Addr} {o : Obj} (G : GSt Z A c0 fp tn gi [(S, o)] σ i H s) : GSt Z A c0 fp tn gi [] σ i H s ∧ H S = none ∧ s.heap.get? S = some o := by
  have p := G.inv.pin (S, o) (List.mem_append_right _ (by simp))
  exact ⟨⟨G.inv.pins_of fun p hp => absurd hp (by simp), fun b hb => by
    obtain ⟨f0, f1, f2, f3, f4, f5⟩ := G.fpok b hb
    exact ⟨f0, f1, f2, f3, f4, fun p hp => f5 p (by
      rw [List.append_nil] at hp
      exact List.mem_append_left _ hp)⟩, G.st, G.gs⟩, p.2.1, p.1⟩
/-- it is written -/
theorem GSt.turnS {c0 : Code} {i : Nat} {H : Hp} {s : Shared} {S : Addr} {h' : Heap} {tk : Nat} (T : Turn Z.prog Z.w Z.K tg J fp it tn) (G : GSt Z A c0 fp tn gi [] σ i H s) (Y : Young Z fp S) (hn : H S = none) (hk : ∀ b o, b ≠ S → s.heap.get? b = some o → h'.get? b = some o) :
    GSt Z A c0 fp tn gi [] σ i H { s with heap := h', toks := tk } :=
  ⟨G.inv.turned (it := S) hk hn Y.ne (.inr Y.lo) Y.cl (fun p hp => by
    rw [List.append_nil] at hp
    exact Y.pn p hp), G.fpok, T.keep _ _ _ G.st fun b hb o e => hk b o (fun z => Y.fp (by rw [← z]; exact hb)) e, G.gs⟩
theorem inv_turnS {H : Hp} {s : Shared} {S : Addr} {h' : Heap} {tk : Nat} (I : Inv Z [] σ H s) (Y : Young Z fp S) (hn : H S = none) (hk : ∀ b o, b ≠ S → s.heap.get? b = some o → h'.get? b = some o) : Inv Z [] σ H { s with heap := h', toks := tk } :=
  I.turned (it := S) hk hn Y.ne (.inr Y.lo) Y.cl (fun p hp => by
    rw [List.append_nil] at hp
    exact Y.pn p hp)
/-! ### sum -/
abbrev accObj (acc : Int) (t : Tok) (c : Nat) : Obj := { cls := .type "list", dict := none, data := .seq #[.int acc t] c, slots := #[] }
theorem gen_sum_loop {A0 : Around} (K : GOk Z A0.in1 elt tg iter scope pos it fp tn J g te a gi) {R : Result → Shared → Prop} {Rz : Int → Hp → Prop} {W : Nat → Nat → Int → Hp → Prop} {S : Addr} (Y : Young Z fp S)
    (hW : ∀ m i acc H, W m i acc H → NextS J g te vs σ i H (Rz acc) (fun y H' => ∃ n, y = V.int n ∧ ∃ m', m' < m ∧ W m' (i + 1) (acc + n) H')) (hR : ∀ acc t H' s', Inv Z [] σ H' s' → Rz acc H' → R (.ok (.ret (.int acc t))) s') :
    ∀ (m i : Nat) (acc : Int) (H : Hp) (s : Shared) (tA : Tok) (c : Nat) (st : Int), (st = 0 ∨ st = 2) → W m i acc H → GSt Z A0.in1 (genL elt tg iter scope pos it Z.env) fp tn gi [] σ i H s → H S = none → s.heap.get? S = some (accObj acc tA c) →
      codeAny (model Z.prog Z.w) A0 (.builtin "sum.loop" ⟨[.ref a, .ref S, rawInt st, rawInt 0], []⟩) R s := by
  intro m
  induction m using Nat.strongRecOn with
  | ind m ih =>
    intro i acc H s tA c st hst2 w G hSn hS
    refine codeAny_builtin F.entry_sum_loop ?_
    rw [Around.under_plainId F.plain_sum_loop _]
    show wpAny _ A0.in1 (seqItems? (.ref S) >>= _) _ _ s
    refine wpAny_bind (wpAny_seqItems hS rfl ?_)
    show wpAny _ A0.in1 (tryCatch (pyNext (.ref a)) _ >>= _) _ _ s
    refine wpAny_bind (wpAny_tryCatch (gen_next K (G.pinS Y hSn hS fun v z => by cases z) (hW m i acc H w) (fun H' s' I' q => ?_) fun y v H' s' G' r q => ?_))
    · exact wpAny_pure (hR acc tA H' s' (I'.pins_of fun p hp => absurd hp (by simp)) q)
    · obtain ⟨n, rfl, m', hm, w'⟩ := q
      obtain ⟨t, rfl⟩ := r
      obtain ⟨G1, hSn', hS'⟩ := G'.free
      have keepU : ∀ (h : Heap) (f : Obj → Obj) b o, b ≠ S → h.get? b = some o → (h.update S f).get? b = some o := fun h f b o hb e => (Heap.get?_update_other _ _ (Ne.symm hb)).trans e
      rcases hst2 with rfl | rfl
      · show wpAny _ A0.in1 (if (_ : Bool) = true then (mkInt (acc + n) >>= _) else _) _ _ _
        split
        · refine wpAny_bind (wpAny_mkInt ?_)
          show wpAny _ A0.in1 (updateSeq S (fun _ => #[.int (acc + n) s'.toks]) >>= _) _ _ _
          refine wpAny_bind ?_
          refine wpAny_updateSeq hS' rfl (wpAny_pure ⟨plainId_quiet F.plain_sum_loop _, ih m' hm (i + 1) (acc + n) H' _ s'.toks _ 0 (.inl rfl) w' (GSt.turnS (s := s') K.turn G1 Y hSn' fun b o hb e => keepU _ _ b o hb e) hSn' (Heap.get?_update_self _ hS' rfl)⟩)
        · refine wpAny_bind (wpAny_rule ?_)
          refine wpAny_bind (wpAny_attempt (wpAny_holding (wpAny_add_int ?_)))
          show wpAny _ A0.in1 (updateSeq S (fun _ => #[.int (acc + n) s'.toks]) >>= _) _ _ _
          refine wpAny_bind (wpAny_updateSeq hS' rfl ?_)
          have hS₂ := Heap.get?_update_self (Obj.mapSeq fun _ => #[Value.int (acc + n) s'.toks]) hS' rfl
          refine wpAny_bind (wpAny_letGo ?_)
          refine wpAny_bind (wpAny_updateSeq hS₂ rfl (wpAny_pure ⟨plainId_quiet F.plain_sum_loop _, ih m' hm (i + 1) (acc + n) H' _ s'.toks _ 2 (.inr rfl) w' (GSt.turnS (s := s') K.turn G1 Y hSn' fun b o hb e => keepU _ _ b o hb (keepU _ _ b o hb e)) hSn' (Heap.get?_update_self _ hS₂ rfl)⟩))
      · show wpAny _ A0.in1 ((holding [Value.int n t] (binaryOp .Add (.int acc tA) (.int n t))).attempt >>= _) _ _ _
        refine wpAny_bind (wpAny_attempt (wpAny_holding (wpAny_add_int ?_)))
        show wpAny _ A0.in1 (updateSeq S (fun _ => #[.int (acc + n) s'.toks]) >>= _) _ _ _
        refine wpAny_bind (wpAny_updateSeq hS' rfl ?_)
        have hS₂ := Heap.get?_update_self (Obj.mapSeq fun _ => #[Value.int (acc + n) s'.toks]) hS' rfl
        refine wpAny_bind (wpAny_letGo ?_)
        refine wpAny_bind (wpAny_updateSeq hS₂ rfl (wpAny_pure ⟨plainId_quiet F.plain_sum_loop _, ih m' hm (i + 1) (acc + n) H' _ s'.toks _ 2 (.inr rfl) w' (GSt.turnS (s := s') K.turn G1 Y hSn' fun b o hb e => keepU _ _ b o hb (keepU _ _ b o hb e)) hSn' (Heap.get?_update_self _ hS₂ rfl)⟩))
end
end GX
/-! GX3: a generator expression is made. -/
namespace GX
open PySem PySem.Spec PyProof.Rows L2 GenW
/-- made: it stands at its begin; what is left of it when it is not walked any more -/
def GMk (j : Nat) (X : Cx) (pins : List (Addr × Obj)) (σ : L2.St) (elt tg iter : Expr) (scope : Scope) (pos : Pos) (own : List (Str × Nat)) (g : TG) (te : TE) (J : It) (H2 : Hp) (a : Addr) (s5 : Shared) : Prop :=
  ∃ (it : Addr) (fp : List Addr) (tn : Nat → Heap → Prop) (gi : Nat) (C : Addr) (code : Value) (s4 : Shared) (go : Obj), s5.heap.IsGen a gi ∧ ∀ Ac : Around, Room (j + 1) Ac.in1 → Ac.frames = some X.stack →
    GOk (gcx X (Ac.in1.deeper (genV X scope C code)) s4 H2 (genV X scope C code) fp a go) Ac elt tg iter scope pos it fp tn J g te a gi ∧
    GSt (gcx X (Ac.in1.deeper (genV X scope C code)) s4 H2 (genV X scope C code) fp a go) Ac (genL elt tg iter scope pos it (genV X scope C code)) fp tn gi [] (wipe σ (own.map (·.2))) 0 H2 s5 ∧
    ∀ H' s', Inv (gcx X (Ac.in1.deeper (genV X scope C code)) s4 H2 (genV X scope C code) fp a go) [] (wipe σ (own.map (·.2))) H' s' → Inv X pins σ H' s'
section
variable {X : Cx} {pins : List (Addr × Obj)} {σ : L2.St} {H : Hp} {s : Shared}
/-- the code object of a block: found in the def's table, or made and put down there -/
theorem code_ready {c P : Addr} {gpos : Pos} {qn : Str} {scope : Scope} {ps : Array Value} {Q : Value → Shared → Prop} (TB : GxR.TabB X.base X.mg c P) (hcode : X.env.code = .ref c) (I : Inv X pins σ H s) (hP : H P = some (.tbl ps)) (ht : TriplesOk ps.toList)
    (go : ∀ (code : Value) (h3 : Heap) (tk : Nat) (qs : Array Value), TriplesOk qs.toList → (∀ b o, b ≠ P → s.heap.get? b = some o → h3.get? b = some o) → s.heap.objs.size ≤ h3.objs.size → Inv X pins σ (upd H P (.tbl qs)) { s with heap := h3, toks := tk } → Q code { s with heap := h3, toks := tk }) :
    wpAny (model X.prog X.w) X.A (genexprCode X.env gpos qn scope) Q X.xe s := by
  have hd := TB.code.keeps I.bk
  have at_ := I.hok P _ hP
  match hf : codeAmong gpos ps.toList with
  | some cv =>
    have same := GxR.inv_tab (more := #[]) (g' := s.gens) (d' := s.drawn) (t' := s.toks) I hP (fun _ _ _ e => e) (by rw [Array.append_empty]; exact at_) I.bare
    rw [Array.append_empty] at same
    exact wpAny_genexprCode_hit hcode (hd.code at_ ht) hf (go cv s.heap s.toks ps ht (fun _ _ _ e => e) (Nat.le_refl _) same)
  | none =>
    refine wpAny_genexprCodeX hcode (hd.code at_ ht) (hd.tab at_) hf fun c2 h2 tk old le1 lt1 isC _ isT _ => go (.ref c2) h2 tk _ ?_ (fun b o n e => old b o n e) (Nat.le_trans le1 (Nat.le_of_lt lt1)) (GxR.inv_tab (g' := s.gens) (d' := s.drawn) I hP (fun b o n e => old b o n e) isT.2 I.bare)
    obtain ⟨_, _, _, _, _, _, _, _, _, _, _, _, _, _, _, _, _, _, _, tr, _⟩ := isC
    exact tr
/-- the builtins of a new frame -/
theorem code_builtins {c P : Addr} {Q : Addr → Shared → Prop} (TB : GxR.TabB X.base X.mg c P) (I : Inv X pins σ H s) (h : Q builtinsNs s) : wpAny (model X.prog X.w) X.A (builtinsFor X.env.globals X.env.builtins) Q X.xe s := by
  have B := TB.bm.keeps I.bk
  obtain ⟨_, _, q1, q2, _, _, q5, q6, q7, q8⟩ := B
  refine wpAny_builtinsFor (m := X.mg) ?_ q1 q2 q5 q6 q7 q8 h
  rw [I.ok.glob]
  exact I.mod.glob.keeps I.bk
/-- the generator's object -/
abbrev genO (g tk : Nat) (qn : Str) : Obj := { cls := .type "generator", data := .fields #[.int g 0, .str "<genexpr>" (tk + 1), .str qn (tk + 1 + 1)] }
theorem genO_is {g tk : Nat} {qn : Str} {h : Heap} {a : Addr} (e : h.get? a = some (genO g tk qn)) : h.IsGen a g := ⟨_, _, _, e, rfl, rfl, rfl⟩
theorem fp_clo {scope : Scope} {own : List (Str × Nat)} {fp : List Addr} {b : Addr} (I : Inv X pins σ H s) (B : BlkOk X.N X.env.scope scope own) (q : FpOk X pins H b) : b ∉ frs X.stack ∧ ∀ n a, (cloFrom X.env.cells scope.names []).lookup n = some a → a ≠ b :=
  ⟨fun z => (List.mem_cons.mp (I.stkSub b z)).elim q.2.1 q.2.2.1, fun n a e => q.2.2.2.2.1 n a (clo_sub (blk_has B I.ok) e)⟩
/-- made of a frame's heap h', its generator's object behind it -/
theorem gen_born {elt tg iter : Expr} {scope : Scope} {gpos : Pos} {own : List (Str × Nat)} {g : TG} {te : TE} {j : Nat} {J : It} {it : Addr} {fp : List Addr} {tn : Nat → Heap → Prop} {code : Value} {m0 : Str → Option Value} {h' : Heap}
    (ok : BlkOk X.N X.env.scope scope own) (hN : X.N.Nodup) (hco : scope.isCoroutine = false) (hcell : ∀ y ∈ scope.names, y.2 ≠ .cell) (T : Turn X.prog X.w X.K tg J fp it tn)
    (hg : ∀ (A : Around) (s : Shared) (H : Hp) (C : Addr) (code : Value) (fp : List Addr) (a : Addr) (go : Obj), PG (gcx X A s H (genV X scope C code) fp a go) tg g)
    (he : ∀ (A : Around) (s : Shared) (H : Hp) (C : Addr) (code : Value) (fp : List Addr) (a : Addr) (go : Obj), Room j A → PE (gcx X A s H (genV X scope C code) fp a go) elt te)
    (I : Inv X pins σ H s) (hfp : ∀ b ∈ fp, FpOk X pins H b ∧ b < s.heap.objs.size) (st : tn 0 s.heap) (hn : h'.Ns s.heap.objs.size m0) (hs : Heap.SameBut s.heap.objs.size (s.heap.push { cls := .type "frame", data := .dict #[] }) h') :
    GMk j X pins σ elt tg iter scope gpos own g te J H (s.heap.objs.size + 1) { s with gens := s.gens.push (.fresh (genB elt tg iter scope gpos it (genV X scope s.heap.objs.size code))), toks := s.toks + 1 + 1 + 1, heap := h'.push (genO s.gens.size s.toks (X.env.qual ++ "<genexpr>")) } ∧
    Inv X pins σ H { s with gens := s.gens.push (.fresh (genB elt tg iter scope gpos it (genV X scope s.heap.objs.size code))), toks := s.toks + 1 + 1 + 1, heap := h'.push (genO s.gens.size s.toks (X.env.qual ++ "<genexpr>")) } := by
  have size : h'.objs.size = s.heap.objs.size + 1 := hs.1.trans (Heap.size_push ..)
  have old : ∀ b o, s.heap.get? b = some o → (h'.push (genO s.gens.size s.toks (X.env.qual ++ "<genexpr>"))).get? b = some o := fun b o e => Heap.get?_push_of_some _ ((hs.2 b (Nat.ne_of_lt (Heap.lt_size e))).trans (Heap.get?_push_of_some _ e))
  have there : (h'.push (genO s.gens.size s.toks (X.env.qual ++ "<genexpr>"))).get? (s.heap.objs.size + 1) = some (genO s.gens.size s.toks (X.env.qual ++ "<genexpr>")) := size ▸ Heap.get?_push_size _ rfl
  have bare : AllBare (s.gens.push (.fresh (genB elt tg iter scope gpos it (genV X scope s.heap.objs.size code)))) := I.bare.push rfl
  refine ⟨⟨it, fp, tn, s.gens.size, s.heap.objs.size, code, s, _, genO_is there, fun Ac room fr => ⟨⟨room.hd, room.depth, rfl, rfl, rfl, hco, T, hg _ _ _ _ _ _ _ _, he _ _ _ _ _ _ _ _ (room.deeper _), _, List.mem_singleton.mpr rfl, fun _ e => genO_is e⟩, ⟨gen_start I ok hN hcell hfp (Around.frames_deeper fr) room.hd rfl bare old (hn.push _) there (fun _ z => nomatch z), fun b hb => ?_, T.keep _ _ _ st fun b _ o e => old b o e, _, Array.getElem?_push_size .., gen_begin rfl T⟩, fun H2 s6 I6 => I.call' (ch := fp) I6.os I6.base I6.hok I6.bare fun b hb => ?_⟩⟩, inv_gens (s := { s with toks := s.toks + 1 + 1 + 1, heap := h'.push _ }) (I.kept (t' := s.toks + 1 + 1 + 1) old) bare⟩
  · obtain ⟨q, lt⟩ := hfp b hb
    obtain ⟨n1, n2⟩ := fp_clo (fp := fp) I ok q
    refine ⟨q.1, Nat.ne_of_lt lt, n1, .inl hb, n2, fun r hr => ?_⟩
    cases (show r ∈ [(s.heap.objs.size + 1, genO s.gens.size s.toks (X.env.qual ++ "<genexpr>"))] from hr) with
    | head => exact Nat.ne_of_gt (Nat.lt_succ_of_lt lt)
    | tail _ z => cases z
  · obtain ⟨_, q2, _, q4, q5, q6⟩ := (hfp b hb).1
    exact ⟨q4, q2, q5, q6⟩
theorem gen_make {c P : Addr} {elt tg iter : Expr} {scope : Scope} {gpos : Pos} {own : List (Str × Nat)} {wi : TI} {g : TG} {te : TE} {k j : Nat} {Q' : Value → Shared → Prop} {R : It → Hp → Prop}
    (hr : Room k X.A) (TB : GxR.TabB X.base X.mg c P) (hcode : X.env.code = .ref c) (hN : X.N.Nodup) (ok : BlkOk X.N X.env.scope scope own) (hco : scope.isCoroutine = false) (hcell : ∀ y ∈ scope.names, y.2 ≠ .cell) (h0 : scope.names.lookup (".0" : Str) = some NameKind.local)
    (hi : PI X tg iter wi) (hs : ∀ v, genFold iter X.env v = pure v)
    (hg : ∀ (A : Around) (s : Shared) (H : Hp) (C : Addr) (code : Value) (fp : List Addr) (a : Addr) (go : Obj), PG (gcx X A s H (genV X scope C code) fp a go) tg g)
    (he : ∀ (A : Around) (s : Shared) (H : Hp) (C : Addr) (code : Value) (fp : List Addr) (a : Addr) (go : Obj), Room j A → PE (gcx X A s H (genV X scope C code) fp a go) elt te)
    (I : Inv X pins σ H s) (h : wi σ H fun J H1 => GxR.TabG H1 P ∧ R J H1)
    (hQ : ∀ J H1 H2 a s5, R J H1 → GxR.Tabbed P H1 H2 → GMk j X pins σ elt tg iter scope gpos own g te J H2 a s5 → Inv X pins σ H2 s5 → Q' (.ref a) s5) :
    wpAny (model X.prog X.w) X.A (eval (genE elt tg iter scope gpos) X.env) Q' X.xe s := by
  refine wpAny_GeneratorExp_make hco (closure_ok (blk_has ok I.ok)) hcell h0 ok.kind hr.depth (thn (hi.run pins s σ H _ I h) fun _ s1 q1 => thn q1 fun _ s2 q2 => ?_) hs
  obtain ⟨it, fp, tn, J, H1, e, I1, T, st, f1, ⟨ps, hP, ht⟩, q⟩ := q2
  subst e
  have nP : ∀ b, H1 b = none → b ≠ P := fun b e z => by
    subst z
    exact absurd (e.symm.trans hP) (fun y => nomatch y)
  refine ⟨I1.nolimit, code_ready TB hcode I1 hP ht fun code h3 tk qs ht3 keep3 size3 I3 => code_builtins TB I3 fun h' hn hs => ?_⟩
  have hfp : ∀ b ∈ fp, FpOk X pins (upd H1 P (.tbl qs)) b ∧ b < h3.objs.size := fun b hb => by
    obtain ⟨n0, rest⟩ := f1 b hb
    obtain ⟨_, ob, _⟩ := T.obj _ _ st b hb
    exact ⟨⟨(upd_ne (nP b n0)).trans n0, rest⟩, Nat.lt_of_lt_of_le (Heap.lt_size ob) size3⟩
  have born := gen_born (iter := iter) (gpos := gpos) (s := { s2 with heap := h3, toks := tk }) (code := code) ok hN hco hcell T hg he I3 hfp (T.keep _ _ _ st fun b hb o e => keep3 b o (nP b (f1 b hb).1) e) hn hs
  have res := hQ J H1 _ _ _ q ⟨⟨qs, upd_same, ht3⟩, fun _ n => upd_ne n⟩ born.1 born.2
  have size : h'.objs.size = h3.objs.size + 1 := hs.1.trans (Heap.size_push ..)
  show Q' (.ref h'.objs.size) _
  rw [size]
  exact res
end
end GX
/-! DL10: sum, any, all of a generator expression. -/
namespace DL
open PySem PySem.Spec L2 GX
section
variable {G : Glob} {al : Act} {W : WX} {X : Cx} {k k' : Ka} {env : List Slot} {mem m : List MO} {s : L2.St} {H H' : Hp}
/-- a table has grown -/
theorem Rel.table {P : Addr} {H2 : Hp} (R : Rel G al k env mem s H) (hP : P ∈ G.TG) (hT : ∀ p ∈ G.T, p.1 ≠ P) (t : GxR.Tabbed P H H2) : Rel G al k env mem s H2 ∧ Ext k H k H2 := by
  obtain ⟨ps0, h0, _⟩ := R.wr.tabs.gen P hP
  have keep : ∀ a o, H a = some o → NoTbl o → H2 a = some o := fun a o e n => by
    rw [t.2 a (fun z => by
      rw [z, h0] at e
      cases e
      exact n _ rfl)]
    exact e
  have st : St2 k H k H2 := ⟨fun a o e n t => ⟨keep a o e t, n⟩, fun _ _ e => e⟩
  have tb : ∀ a ps, H a = some (.tbl ps) → ∃ qs, H2 a = some (.tbl qs) := fun a ps e => by
    by_cases ha : a = P
    · obtain ⟨qs, q, _⟩ := t.1
      exact ⟨qs, by rw [ha]; exact q⟩
    · exact ⟨ps, by rw [t.2 a ha]; exact e⟩
  refine ⟨⟨⟨R.wr.len, fun i mo a h1 h2 => ?_, R.wr.nd, R.wr.oi, R.wr.onr, R.wr.nout, fun a ha => ?_, ⟨fun p hp => ?_, fun P' hP' => ?_⟩⟩, fun i sl e => ?_, R.len, fun a o e n q => keep a o (R.fix a o e n q) q, fun a ps e => ?_, R.pre, R.own0, R.out⟩, ⟨fun a o e n q => keep a o e q, tb, ⟨[], by simp, fun _ z => by simp at z⟩, rfl, rfl⟩⟩
  · have q := R.wr.mem i mo a h1 h2
    obtain ⟨u, e, mu⟩ := MemR.mut q
    exact q.stay st fun o eo => keep a o eo (by rw [e] at eo; cases eo; exact mu.nt)
  · obtain ⟨o, e, n⟩ := R.wr.trk a ha
    exact ⟨o, keep a o e n.nt, n⟩
  · obtain ⟨ps, e1, e2, e3⟩ := R.wr.tabs.lam p hp
    refine ⟨ps, by rw [t.2 _ (hT p hp)]; exact e1, e2, fun pos cv hc => ?_⟩
    obtain ⟨c, g1, g2⟩ := e3 pos cv hc
    exact ⟨c, g1, keep c _ g2 LamX.codeO_ne⟩
  · by_cases hh : P' = P
    · rw [hh]
      exact t.1
    · obtain ⟨ps, e1, e2⟩ := R.wr.tabs.gen P' hP'
      exact ⟨ps, by rw [t.2 _ hh]; exact e1, e2⟩
  · obtain ⟨ov, h1, h2⟩ := R.slots i sl e
    refine ⟨ov, h1, ?_⟩
    cases sl with
    | un => trivial
    | val d =>
      cases ov with
      | none => exact h2.elim
      | some v => exact Rep.stay st h2
    | own xs =>
      cases ov with
      | none => exact h2.elim
      | some v =>
        obtain ⟨q, g1, g2, g3⟩ := h2
        obtain ⟨u, e3, t3⟩ := MemR.mut g3
        exact ⟨q, g1, g2, g3.stay st fun o eo => keep q o eo (by rw [e3] at eo; cases eo; exact t3.nt)⟩
    | ownd xs =>
      cases ov with
      | none => exact h2.elim
      | some v =>
        obtain ⟨q, g1, g2, g3⟩ := h2
        obtain ⟨u, e3, t3⟩ := MemR.mut g3
        exact ⟨q, g1, g2, g3.stay st fun o eo => keep q o eo (by rw [e3] at eo; cases eo; exact t3.nt)⟩
  · obtain ⟨qs, q⟩ := R.tb0 a ps e
    exact tb a qs q
/-- one turn by data -/
abbrev gTG (G : Glob) (L : List Nat) (gg : GG) : TG := fun v s H Q => ∃ al k env mem d env', Rel G al k env mem s H ∧ Rep G k.mu k.rho H d v ∧ gg d env = some env' ∧ ∀ s', SameBut L s s' → Rel G al k env' mem s' H → Q s' H
abbrev gTE (G : Glob) (ge : GE) : TE := fun s H Q => ∃ al, dT G al W0 ge s H Q
theorem gen_nextD {J : It} {ds : List D} {i : Nat} {d y : D} {gg : GG} {ge : GE} {env' : List Slot} {m' : List MO} {vs L : List Nat} {Done : Hp → Prop} {Out : V → Hp → Prop} (Rw : Rel G al k (wipeE env vs) m (wipe s vs) H) (J2 : ItS G k H ds J) (hd : ds[i]? = some d) (hL : ∀ j ∈ L, j ∈ vs)
    (hgg : gg d (wipeE env vs) = some env') (hge : ge env' m = .ok y m') (hout : ∀ k4 v H4, Rel G al k4 (wipeE env vs) m' (wipe s vs) H4 → Ext k H k4 H4 → Rep G k4.mu k4.rho H4 y v → Out v H4) : NextS J (gTG G L gg) (gTE G ge) vs (wipe s vs) i H Done Out := by
  refine .inr ⟨((J2 _ _ (Stays.refl _ _ _)).2 i _ hd).1, fun x H' yy => ?_⟩
  obtain ⟨R3, r3, E3⟩ := J2.getE Rw hd yy
  refine ⟨al, k, wipeE env vs, m, d, env', R3, r3, hgg, fun s2 S2 R4 => ⟨(wipe_same S2 hL).trans (wipe_wipe s vs), al, k, env', m, R4, ?_⟩⟩
  rw [hge]
  intro k4 v H4 R5 E5 P5
  have EE := R3.trans E3 E5
  exact hout k4 v H4 (Rw.step EE R5.wr) EE P5
theorem gen_stopD {J : It} {ds : List D} {g : TG} {te : TE} {vs : List Nat} {σ : L2.St} {Done : Hp → Prop} {Out : V → Hp → Prop} (J2 : ItS G k H ds J) (h : Done H) : NextS J g te vs σ ds.length H Done Out := .inl ⟨(J2 _ _ (Stays.refl _ _ _)).1, h⟩
end
/-! ### sum -/
def sumW (gg : GG) (ge : GE) : List D → List Slot → List MO → Int → RE D
  | [], _, m, acc => .ok (.int acc) m
  | d :: ds, env, m, acc => match gg d env with
    | none => .no
    | some env' => nx (ge env' m) fun y m => match y with
      | .int n => sumW gg ge ds env m (acc + n)
      | _ => .no
def gSumG (vs : List Nat) (it : GA) (gg : GG) (ge : GE) : GE := fun env m => (it env m).bind fun ds m => sumW gg ge ds (wipeE env vs) m 0
def anyW (gg : GG) (ge : GE) : List D → List Slot → List MO → RE D
  | [], _, m => .ok (.bl false) m
  | d :: ds, env, m => match gg d env with
    | none => .no
    | some env' => nx (ge env' m) fun y m => match y with
      | .bl b => if b = true then .ok (.bl true) m else anyW gg ge ds env m
      | _ => .no
def gAnyG (vs : List Nat) (it : GA) (gg : GG) (ge : GE) : GE := fun env m => (it env m).bind fun ds m => anyW gg ge ds (wipeE env vs) m
def allW (gg : GG) (ge : GE) : List D → List Slot → List MO → RE D
  | [], _, m => .ok (.bl true) m
  | d :: ds, env, m => match gg d env with
    | none => .no
    | some env' => nx (ge env' m) fun y m => match y with
      | .bl b => if b = true then allW gg ge ds env m else .ok (.bl false) m
      | _ => .no
def gAllG (vs : List Nat) (it : GA) (gg : GG) (ge : GE) : GE := fun env m => (it env m).bind fun ds m => allW gg ge ds (wipeE env vs) m
/-- the scope of a generator expression -/
structure GScp (N : List Str) (sc scope : Scope) (own : List (Str × Nat)) : Prop where
  ok : BlkOk N sc scope own
  co : scope.isCoroutine = false
  noCell : ∀ q ∈ scope.names, q.2 ≠ .cell
  dot0 : scope.names.lookup (".0" : Str) = some .local
def gscpB (scope : Scope) : Bool := !scope.isCoroutine && scope.names.all (fun y => !decide (y.2 = .cell)) && decide (scope.names.lookup (".0" : Str) = some NameKind.local)
theorem gscp_by {N : List Str} {sc scope : Scope} {own : List (Str × Nat)} (h1 : BlkOk N sc scope own) (h2 : gscpB scope = true) : GScp N sc scope own := by
  unfold gscpB at h2
  simp only [Bool.and_eq_true, Bool.not_eq_true', decide_eq_true_eq, List.all_eq_true, decide_eq_false_iff_not] at h2
  exact ⟨h1, h2.1.1, h2.1.2, h2.2⟩
/-- the def's code object and table -/
structure GTab (G : Glob) (X : Cx) (P : Addr) : Prop where
  ex : ∃ c, GxR.TabB X.base X.mg c P ∧ X.env.code = .ref c
  mem : P ∈ G.TG
  ne : ∀ p ∈ G.T, p.1 ≠ P
section
variable {G : Glob} {W : WX} {X : Cx} {elt tg iter : Expr} {scope : Scope} {own : List (Str × Nat)} {gpos p pos : Pos} {gi : GA} {gg : GG} {ge : GE} {L : List Nat} {P : Addr} {j : Nat}
/-- made in an argument list; what the walk over it gives -/
theorem gen_arg {al : Act} {pins : List (Addr × Obj)} {σ : L2.St} {H : Hp} {s : Shared} {k : Ka} {env : List Slot} {mem : List MO} {Q : VK} {Q' : Value → Shared → Prop} {fin : List D → List Slot → List MO → RE D} (hr : Room (j + 3) X.A) (GT : GTab G X P) (hN : X.N.Nodup) (S : GScp X.N X.env.scope scope own) (hi : DI G W X tg iter gi)
    (hg : ∀ (A : Around) (s : Shared) (H : Hp) (C : Addr) (code : Value) (fp : List Addr) (a : Addr) (go : Obj), DG G (gcx X A s H (genV X scope C code) fp a go) tg L gg)
    (he : ∀ (A : Around) (s : Shared) (H : Hp) (C : Addr) (code : Value) (fp : List Addr) (a : Addr) (go : Obj), Room j A → DE G W0 (gcx X A s H (genV X scope C code) fp a go) elt ge)
    (hs : ∀ v, genFold iter X.env v = pure v) (I : Inv X pins σ H s) (R : Rel G al k env mem σ H) (h : PostR G al W (PdE G) k env σ H Q ((gi env mem).bind fun ds m => fin ds (wipeE env (own.map (·.2))) m))
    (hQ : ∀ ds m k2 H2 J a s5, Rel G al k2 env m σ H2 → ItS G k2 H2 ds J → PostR G al W (PdE G) k2 env σ H2 Q (fin ds (wipeE env (own.map (·.2))) m) → GMk j X pins σ elt tg iter scope gpos own (gTG G L gg) (gTE G ge) J H2 a s5 → Inv X pins σ H2 s5 → Q' (.ref a) s5) :
    wpAny (model X.prog X.w) X.A (eval (genE elt tg iter scope gpos) X.env) Q' X.xe s := by
  obtain ⟨c, TB, hcode⟩ := GT.ex
  refine gen_make (j := j) (g := gTG G L gg) (te := gTE G ge) (R := fun J H1 => ∃ ds m k1, Rel G al k1 env m σ H1 ∧ ItS G k1 H1 ds J ∧ PostR G al W (PdE G) k1 env σ H1 Q (fin ds (wipeE env (own.map (·.2))) m)) hr TB hcode hN S.ok S.co S.noCell S.dot0 (hi al) hs
    (fun A s H C code fp a go => ⟨fun pins s' σ H v u Q I r q => by
      obtain ⟨al, q⟩ := q
      exact (hg A s _ C code fp a go al).run pins s' σ H v u Q I r q⟩) (fun A s H C code fp a go hrm => ⟨fun pins s' σ H Q I q => by
      obtain ⟨al, q⟩ := q
      exact (he A s _ C code fp a go hrm al).run pins s' σ H Q I q⟩) I ⟨k, env, mem, R, PostR.bind h fun ds m k1 J H1 R1 E1 P1 h => ⟨R1.wr.tabs.gen P GT.mem, ds, m, k1, R1, P1, h⟩⟩ fun J H1 H2 a s5 ⟨ds, m, k1, R1, P1, h⟩ ht hG I5 => ?_
  obtain ⟨R2, E2⟩ := R1.table GT.mem GT.ne ht
  exact hQ ds m k1 H2 J a s5 R2 (P1.base E2.stays) (PostR.base (r := fin ds (wipeE env (own.map (·.2))) m) h R2 E2) hG I5
end
section
variable {Z : Cx} {A : Around} {tg : Expr} {it : Addr} {fp : List Addr} {tn : Nat → Heap → Prop} {J : It} {gi : Nat} {σ : L2.St} {c0 : Code} {i : Nat} {H : Hp} {s : Shared}
theorem _root_.GX.GSt.kept {h' : Heap} {tk : Nat} (T : Turn Z.prog Z.w Z.K tg J fp it tn) (G : GSt Z A c0 fp tn gi [] σ i H s) (hk : ∀ b o, s.heap.get? b = some o → h'.get? b = some o) : GSt Z A c0 fp tn gi [] σ i H { s with heap := h', toks := tk } :=
  ⟨G.inv.kept hk, G.fpok, T.keep _ _ _ G.st fun b _ o e => hk b o e, G.gs⟩
end
section
variable {G : Glob} {W : WX} {X : Cx} {elt tg iter : Expr} {scope : Scope} {own : List (Str × Nat)} {gpos p pos : Pos} {gi : GA} {gg : GG} {ge : GE} {L : List Nat} {P : Addr} {j : Nat}
theorem nx_ok {α β γ : Type} {al : Act} {Pd : Ka → Hp → α → γ → Prop} {k : Ka} {env : List Slot} {s : L2.St} {H : Hp} {Q : γ → Hp → Prop} {r : RE β} {f : β → List MO → RE α} (h : PostR G al W Pd k env s H Q (nx r f)) : ∃ y m, r = .ok y m ∧ PostR G al W Pd k env s H Q (f y m) := by
  cases r with
  | ok y m => exact ⟨y, m, rfl, h⟩
  | ex c m => exact h.elim
  | no => exact h.elim
theorem de_sumG (hr : Room (j + 3) X.A) (GT : GTab G X P) (hN : X.N.Nodup) (S : GScp X.N X.env.scope scope own) (hi : DI G W X tg iter gi)
    (hg : ∀ (A : Around) (s : Shared) (H : Hp) (C : Addr) (code : Value) (fp : List Addr) (a : Addr) (go : Obj), DG G (gcx X A s H (genV X scope C code) fp a go) tg L gg)
    (he : ∀ (A : Around) (s : Shared) (H : Hp) (C : Addr) (code : Value) (fp : List Addr) (a : Addr) (go : Obj), Room j A → DE G W0 (gcx X A s H (genV X scope C code) fp a go) elt ge)
    (hL : ∀ j ∈ L, j ∈ own.map (·.2)) (hm : X.mg "sum" = none) (hb : bootBuiltins "sum" = some (.builtin "sum")) (hgl : Gl X "sum" := by rfl) (hs : ∀ v, genFold iter X.env v = pure v := by intro _; rfl)
    (hst : starEach [genE elt tg iter scope gpos] X.env = (false, eval (genE elt tg iter scope gpos) X.env) :: starEach [] X.env := by rfl) :
    DE G W X (.Call (.Name "sum" p) [genE elt tg iter scope gpos] [] pos) (gSumG (own.map (·.2)) gi gg ge) := fun al => by
  refine ⟨fun pins s σ H Q I ⟨k, env, mem, R, h⟩ => ?_⟩
  refine wpAny_Call_Name_kw (ld_blt I hgl hm hb ?_)
  refine PyProof.Rows.callWith_builtin1 ?_ hst (by rfl)
  rw [hst]
  show wpAny _ _ (spliced ((false, eval (genE elt tg iter scope gpos) X.env) :: backTo pos (starEach [] X.env))) _ _ s
  refine Calls.spliced_cons (gen_arg (fin := fun ds env m => sumW gg ge ds env m 0) hr GT hN S hi hg he hs I R h fun ds m k2 H2 J a s5 R2 J2 h2 hG I5 => ?_)
  refine Calls.spliced_nil ?_
  obtain ⟨it, fp, tn, gi', C, code, s4, go, isg, hf⟩ := hG
  obtain ⟨K, G0, back⟩ := hf X.A.in1 hr.in1.in1 (show X.A.in1.frames = _ from I5.ok.frames)
  refine call_function_tree F.kind_sum F.plain_sum F.entry_sum (F.args_sum1 _) ?_
  unfold Builtin.«sum»
  simp only [List.length_cons, List.length_nil]
  rw [if_neg (by decide)]
  refine wpAny_bind (wpAny_of_eq (show Builtin.Builtins.bindParams "sum" ["start"] 0 { } = pure [none] from rfl) ?_)
  refine wpAny_bind (wpAny_pyIter_gen isg ?_)
  refine wpAny_bind (wpAny_mkInt ?_)
  refine wpAny_bind (wpAny_pure ?_)
  simp only [List.forIn_cons, List.forIn_nil]
  refine wpAny_bind (wpAny_bind (wpAny_bind (wpAny_isInstance (T := "int") (b := false) (typeIs_int _ _ _) sub_int_str ?_)))
  simp only [Bool.false_eq_true, if_false]
  refine wpAny_pure (wpAny_bind (wpAny_bind (wpAny_isInstance (T := "int") (b := false) (typeIs_int _ _ _) sub_int_bytes ?_)))
  simp only [Bool.false_eq_true, if_false]
  refine wpAny_pure (wpAny_bind (wpAny_bind (wpAny_isInstance (T := "int") (b := false) (typeIs_int _ _ _) sub_int_bytearray ?_)))
  simp only [Bool.false_eq_true, if_false]
  refine wpAny_pure (wpAny_pure ?_)
  refine wpAny_bind (wpAny_newObj_type ?_)
  have Y := G0.young K.turn (Nat.le_refl _)
  have G1 := G0.kept (h' := s5.heap.push (accObj 0 s5.toks 0)) (tk := s5.toks + 1) K.turn fun b o e => Heap.get?_push_of_some _ e
  refine wpAny_pure ⟨plainId_quiet F.plain_sum_loop _, gen_sum_loop (A0 := X.A) (vs := own.map (·.2)) (Rz := fun acc H => Q (.int acc) H)
    (W := fun n i acc H => n = ds.length - i ∧ i ≤ ds.length ∧ ∃ k m, Rel G al k (wipeE env (own.map (·.2))) m (wipe σ (own.map (·.2))) H ∧ Ext k2 H2 k H ∧ Rel G al k env m σ H ∧ PostR G al W (PdE G) k env σ H Q (sumW gg ge (ds.drop i) (wipeE env (own.map (·.2))) m acc))
    K Y (fun n i acc H ⟨hn, hi, k3, m3, Rw, E3, R3, h3⟩ => ?_) (fun acc t H' s' I' q => ⟨.int acc, H', back H' s' I', ⟨t, rfl⟩, q⟩) ds.length 0 0 H2 _ s5.toks 0 0 (.inl rfl) ⟨by simp, Nat.zero_le _, k2, m, R2.wipe _, Ext.refl _ _, R2, by simpa using h2⟩ G1 (I5.hok.fresh (Nat.le_refl _)) (Heap.get?_push_size _ rfl)⟩
  by_cases hlt : i < ds.length
  · have hd : ds[i]? = some ds[i] := by simp [hlt]
    rw [List.drop_eq_getElem_cons hlt] at h3
    have h3 : PostR G al W (PdE G) k3 env σ H Q (match gg ds[i] (wipeE env (own.map (·.2))) with | none => .no | some env' => nx (ge env' m3) fun y m => match y with | .int n => sumW gg ge (ds.drop (i + 1)) (wipeE env (own.map (·.2))) m (acc + n) | _ => .no) := h3
    cases hgg : gg ds[i] (wipeE env (own.map (·.2))) with
    | none => rw [hgg] at h3; exact h3.elim
    | some env' =>
      rw [hgg] at h3
      obtain ⟨y, m4, hge, h4⟩ := nx_ok h3
      split at h4
      · rename_i n'
        refine gen_nextD Rw (J2.base E3.stays) hd hL hgg hge fun k4 v H4 Rw4 E4 P4 => ⟨n', P4.vint, ds.length - (i + 1), by omega, rfl, hlt, k4, m4, Rw4, R3.trans E3 E4, R3.step E4 Rw4.wr, ?_⟩
        exact PostR.base (r := sumW gg ge (ds.drop (i + 1)) (wipeE env (own.map (·.2))) m4 (acc + n')) h4 (R3.step E4 Rw4.wr) E4
      · exact h4.elim
  · have e : i = ds.length := by omega
    subst e
    rw [List.drop_length] at h3
    exact gen_stopD (J2.base E3.stays) (h3 k3 (.int acc) H R3 (Ext.refl _ _) (.int acc))
theorem de_anyG (hr : Room (j + 3) X.A) (GT : GTab G X P) (hN : X.N.Nodup) (S : GScp X.N X.env.scope scope own) (hi : DI G W X tg iter gi)
    (hg : ∀ (A : Around) (s : Shared) (H : Hp) (C : Addr) (code : Value) (fp : List Addr) (a : Addr) (go : Obj), DG G (gcx X A s H (genV X scope C code) fp a go) tg L gg)
    (he : ∀ (A : Around) (s : Shared) (H : Hp) (C : Addr) (code : Value) (fp : List Addr) (a : Addr) (go : Obj), Room j A → DE G W0 (gcx X A s H (genV X scope C code) fp a go) elt ge)
    (hL : ∀ j ∈ L, j ∈ own.map (·.2)) (hm : X.mg "any" = none) (hb : bootBuiltins "any" = some (.builtin "any")) (hgl : Gl X "any" := by rfl) (hs : ∀ v, genFold iter X.env v = pure v := by intro _; rfl)
    (hst : starEach [genE elt tg iter scope gpos] X.env = (false, eval (genE elt tg iter scope gpos) X.env) :: starEach [] X.env := by rfl) :
    DE G W X (.Call (.Name "any" p) [genE elt tg iter scope gpos] [] pos) (gAnyG (own.map (·.2)) gi gg ge) := fun al => by
  refine ⟨fun pins s σ H Q I ⟨k, env, mem, R, h⟩ => ?_⟩
  refine wpAny_Call_Name_kw (ld_blt I hgl hm hb ?_)
  refine PyProof.Rows.callWith_builtin1 ?_ hst (by rfl)
  rw [hst]
  show wpAny _ _ (spliced ((false, eval (genE elt tg iter scope gpos) X.env) :: backTo pos (starEach [] X.env))) _ _ s
  refine Calls.spliced_cons (gen_arg (fin := fun ds env m => anyW gg ge ds env m) hr GT hN S hi hg he hs I R h fun ds m k2 H2 J a s5 R2 J2 h2 hG I5 => ?_)
  refine Calls.spliced_nil ?_
  obtain ⟨it, fp, tn, gi', C, code, s4, go, isg, hf⟩ := hG
  obtain ⟨K, G0, back⟩ := hf X.A.in1 hr.in1.in1 (show X.A.in1.frames = _ from I5.ok.frames)
  refine call_function_tree F.kind_any F.plain_any F.entry_any (F.args_any1 _) ?_
  unfold Builtin.«any»
  refine wpAny_bind (m := oneArg "any" _) (wpAny_pure ?_)
  refine wpAny_bind (wpAny_pyIter_gen isg ?_)
  refine wpAny_pure ⟨plainId_quiet F.plain_any_loop _, gen_any_loop (A0 := X.A) (vs := own.map (·.2)) (Rz := fun b H => Q (.bl b) H)
    (W := fun n i H => n = ds.length - i ∧ i ≤ ds.length ∧ ∃ k m, Rel G al k (wipeE env (own.map (·.2))) m (wipe σ (own.map (·.2))) H ∧ Ext k2 H2 k H ∧ Rel G al k env m σ H ∧ PostR G al W (PdE G) k env σ H Q (anyW gg ge (ds.drop i) (wipeE env (own.map (·.2))) m))
    K (fun n i H ⟨hn, hi, k3, m3, Rw, E3, R3, h3⟩ => ?_) (fun b H' s' I' q => ⟨.bl b, H', back H' s' I', rfl, q⟩) ds.length 0 H2 _ ⟨by simp, Nat.zero_le _, k2, m, R2.wipe _, Ext.refl _ _, R2, by simpa using h2⟩ G0⟩
  by_cases hlt : i < ds.length
  · have hd : ds[i]? = some ds[i] := by simp [hlt]
    rw [List.drop_eq_getElem_cons hlt] at h3
    have h3 : PostR G al W (PdE G) k3 env σ H Q (match gg ds[i] (wipeE env (own.map (·.2))) with | none => .no | some env' => nx (ge env' m3) fun y m => match y with | .bl b => if b = true then .ok (.bl true) m else anyW gg ge (ds.drop (i + 1)) (wipeE env (own.map (·.2))) m | _ => .no) := h3
    cases hgg : gg ds[i] (wipeE env (own.map (·.2))) with
    | none => rw [hgg] at h3; exact h3.elim
    | some env' =>
      rw [hgg] at h3
      obtain ⟨y, m4, hge, h4⟩ := nx_ok h3
      split at h4
      · rename_i b
        refine gen_nextD Rw (J2.base E3.stays) hd hL hgg hge fun k4 v H4 Rw4 E4 P4 => ⟨b, by cases P4; rfl, ?_⟩
        cases b with
        | true =>
          rw [if_pos rfl] at h4 ⊢
          exact h4 k4 _ H4 (R3.step E4 Rw4.wr) E4 (.bl true)
        | false =>
          rw [if_neg Bool.false_ne_true] at h4 ⊢
          exact ⟨ds.length - (i + 1), by omega, rfl, hlt, k4, m4, Rw4, R3.trans E3 E4, R3.step E4 Rw4.wr, PostR.base (r := anyW gg ge (ds.drop (i + 1)) (wipeE env (own.map (·.2))) m4) h4 (R3.step E4 Rw4.wr) E4⟩
      · exact h4.elim
  · have e : i = ds.length := by omega
    subst e
    rw [List.drop_length] at h3
    exact gen_stopD (J2.base E3.stays) (h3 k3 (.bl false) H R3 (Ext.refl _ _) (.bl false))
theorem de_allG (hr : Room (j + 3) X.A) (GT : GTab G X P) (hN : X.N.Nodup) (S : GScp X.N X.env.scope scope own) (hi : DI G W X tg iter gi)
    (hg : ∀ (A : Around) (s : Shared) (H : Hp) (C : Addr) (code : Value) (fp : List Addr) (a : Addr) (go : Obj), DG G (gcx X A s H (genV X scope C code) fp a go) tg L gg)
    (he : ∀ (A : Around) (s : Shared) (H : Hp) (C : Addr) (code : Value) (fp : List Addr) (a : Addr) (go : Obj), Room j A → DE G W0 (gcx X A s H (genV X scope C code) fp a go) elt ge)
    (hL : ∀ j ∈ L, j ∈ own.map (·.2)) (hm : X.mg "all" = none) (hb : bootBuiltins "all" = some (.builtin "all")) (hgl : Gl X "all" := by rfl) (hs : ∀ v, genFold iter X.env v = pure v := by intro _; rfl)
    (hst : starEach [genE elt tg iter scope gpos] X.env = (false, eval (genE elt tg iter scope gpos) X.env) :: starEach [] X.env := by rfl) :
    DE G W X (.Call (.Name "all" p) [genE elt tg iter scope gpos] [] pos) (gAllG (own.map (·.2)) gi gg ge) := fun al => by
  refine ⟨fun pins s σ H Q I ⟨k, env, mem, R, h⟩ => ?_⟩
  refine wpAny_Call_Name_kw (ld_blt I hgl hm hb ?_)
  refine PyProof.Rows.callWith_builtin1 ?_ hst (by rfl)
  rw [hst]
  show wpAny _ _ (spliced ((false, eval (genE elt tg iter scope gpos) X.env) :: backTo pos (starEach [] X.env))) _ _ s
  refine Calls.spliced_cons (gen_arg (fin := fun ds env m => allW gg ge ds env m) hr GT hN S hi hg he hs I R h fun ds m k2 H2 J a s5 R2 J2 h2 hG I5 => ?_)
  refine Calls.spliced_nil ?_
  obtain ⟨it, fp, tn, gi', C, code, s4, go, isg, hf⟩ := hG
  obtain ⟨K, G0, back⟩ := hf X.A.in1 hr.in1.in1 (show X.A.in1.frames = _ from I5.ok.frames)
  refine call_function_tree F.kind_all F.plain_all F.entry_all (F.args_all1 _) ?_
  unfold Builtin.«all»
  refine wpAny_bind (m := oneArg "all" _) (wpAny_pure ?_)
  refine wpAny_bind (wpAny_pyIter_gen isg ?_)
  refine wpAny_pure ⟨plainId_quiet F.plain_all_loop _, gen_all_loop (A0 := X.A) (vs := own.map (·.2)) (Rz := fun b H => Q (.bl b) H)
    (W := fun n i H => n = ds.length - i ∧ i ≤ ds.length ∧ ∃ k m, Rel G al k (wipeE env (own.map (·.2))) m (wipe σ (own.map (·.2))) H ∧ Ext k2 H2 k H ∧ Rel G al k env m σ H ∧ PostR G al W (PdE G) k env σ H Q (allW gg ge (ds.drop i) (wipeE env (own.map (·.2))) m))
    K (fun n i H ⟨hn, hi, k3, m3, Rw, E3, R3, h3⟩ => ?_) (fun b H' s' I' q => ⟨.bl b, H', back H' s' I', rfl, q⟩) ds.length 0 H2 _ ⟨by simp, Nat.zero_le _, k2, m, R2.wipe _, Ext.refl _ _, R2, by simpa using h2⟩ G0⟩
  by_cases hlt : i < ds.length
  · have hd : ds[i]? = some ds[i] := by simp [hlt]
    rw [List.drop_eq_getElem_cons hlt] at h3
    have h3 : PostR G al W (PdE G) k3 env σ H Q (match gg ds[i] (wipeE env (own.map (·.2))) with | none => .no | some env' => nx (ge env' m3) fun y m => match y with | .bl b => if b = true then allW gg ge (ds.drop (i + 1)) (wipeE env (own.map (·.2))) m else .ok (.bl false) m | _ => .no) := h3
    cases hgg : gg ds[i] (wipeE env (own.map (·.2))) with
    | none => rw [hgg] at h3; exact h3.elim
    | some env' =>
      rw [hgg] at h3
      obtain ⟨y, m4, hge, h4⟩ := nx_ok h3
      split at h4
      · rename_i b
        refine gen_nextD Rw (J2.base E3.stays) hd hL hgg hge fun k4 v H4 Rw4 E4 P4 => ⟨b, by cases P4; rfl, ?_⟩
        cases b with
        | false =>
          rw [if_neg Bool.false_ne_true] at h4 ⊢
          exact h4 k4 _ H4 (R3.step E4 Rw4.wr) E4 (.bl false)
        | true =>
          rw [if_pos rfl] at h4 ⊢
          exact ⟨ds.length - (i + 1), by omega, rfl, hlt, k4, m4, Rw4, R3.trans E3 E4, R3.step E4 Rw4.wr, PostR.base (r := allW gg ge (ds.drop (i + 1)) (wipeE env (own.map (·.2))) m4) h4 (R3.step E4 Rw4.wr) E4⟩
      · exact h4.elim
  · have e : i = ds.length := by omega
    subst e
    rw [List.drop_length] at h3
    exact gen_stopD (J2.base E3.stays) (h3 k3 (.bl true) H R3 (Ext.refl _ _) (.bl true))
end
end DL
/-! DL11: what the printed walks lean on. -/
namespace DL
open PySem PySem.Spec L2 GX
section
variable {G : Glob} {al : Act} {E : XK} {W : WX} {X : Cx}
theorem CO.blk (c : CO G X) {s : Shared} {H : Hp} {scope : Scope} {cenv : Env} {fp : List Addr} : CO G (X.blk s H scope cenv fp) := ⟨c.K, c.un, c.calm⟩
theorem CO.gcx (hK : X.K = G.K) {A : Around} {j : Nat} (hr : Room j A) {s : Shared} {H : Hp} {cenv : Env} {fp : List Addr} {a : Addr} {go : Obj} : CO G (gcx X A s H cenv fp a go) := ⟨hK, by have := hr.un; show A.units + 200 < _; omega, rfl⟩
theorem co_def {P : Program} {w : World} {K : PySem.W.Frag} {mg : Str → Option Value} {base : Heap} {N : List Str} {qual : Str} {scope : Scope} {f : Addr} {cdv : Value} {A : Around} {outer : List Env} {s : Shared} {H : Hp} {j : Nat} (hK : K = G.K) (hr : Room j (A.deeper (PyProof.Rows.envOfC qual scope s.heap.objs.size f cdv))) :
    CO G (cxOf (L2.CX P w) P w K mg base N qual scope f cdv A outer s H E) := ⟨hK, by have := hr.un; show (A.deeper _).units + 200 < _; omega, rfl⟩
theorem passes0 : Passes (L2.CX X.prog X.w) X (fun _ _ _ => False) := passes_call LamX.takes0 fun _ _ _ _ h => h.elim
theorem tk_def {P : Program} {w : World} {K : PySem.W.Frag} {mg : Str → Option Value} {base : Heap} {N : List Str} {qual : Str} {scope : Scope} {f : Addr} {cdv : Value} {A : Around} {outer : List Env} {s : Shared} {H : Hp} :
    Takes (cxOf (L2.CX P w) P w K mg base N qual scope f cdv A outer s H E) (WE E) := takes_of rfl rfl rfl rfl
theorem hx_def {P : Program} {w : World} {K : PySem.W.Frag} {mg : Str → Option Value} {base : Heap} {N : List Str} {qual : Str} {scope : Scope} {f : Addr} {cdv : Value} {A : Around} {outer : List Env} {s : Shared} {H : Hp} :
    Passes (L2.CX P w) (cxOf (L2.CX P w) P w K mg base N qual scope f cdv A outer s H E) E := passes_call tk_def fun _ _ _ _ h => h
theorem hp_def {P : Program} {w : World} {K : PySem.W.Frag} {mg : Str → Option Value} {base : Heap} {N : List Str} {qual : Str} {scope : Scope} {f : Addr} {cdv : Value} {A : Around} {outer : List Env} {s : Shared} {H : Hp} :
    PassesOwn (model P w) (cxOf (L2.CX P w) P w K mg base N qual scope f cdv A outer s H E).A (cxOf (L2.CX P w) P w K mg base N qual scope f cdv A outer s H E).env (cxOf (L2.CX P w) P w K mg base N qual scope f cdv A outer s H E).xe :=
  passes_of (X := cxOf (L2.CX P w) P w K mg base N qual scope f cdv A outer s H E) rfl
variable {elt tg iter a b e : Expr} {ifs : List Expr} {scope : Scope} {own : List (Str × Nat)} {pos spos py : Pos} {gi gn : GA} {gg : GG} {gt : GT} {ge ga gb : GE} {L : List Nat}
/-- name = [..] on one line, a value -/
theorem ds_setLc (i : Nat) {y : Str} (hc : X.calm = true) (hN : X.N.Nodup) (hi : DI G W X tg iter gi) (ok : BlkOk X.N X.env.scope scope own)
    (hg : ∀ (s : Shared) (H : Hp) (C : Addr) (cl : List (Str × Addr)) (fp : List Addr), DG G (X.blk s H scope (compEnvC scope cl C X.env) fp) tg L gg)
    (ht : ∀ (s : Shared) (H : Hp) (C : Addr) (cl : List (Str × Addr)) (fp : List Addr), DTs G (X.blk s H scope (compEnvC scope cl C X.env) fp) ifs gt)
    (he : ∀ (s : Shared) (H : Hp) (C : Addr) (cl : List (Str × Addr)) (fp : List Addr), DE G W0 (X.blk s H scope (compEnvC scope cl C X.env) fp) elt ge)
    (hL : ∀ j ∈ L, j ∈ own.map (·.2)) (hy : X.N[i]? = some y := by rfl) (hyl : X.env.scope.names.lookup y = some .local := by rfl)
    (hsw : swapsWith (.ListComp elt [⟨tg, iter, ifs, 0⟩] scope pos) (some (.Name y py)) spos.line X.env = pure true := by rfl) (hs : ∀ x, foldedSetIterable iter X.env x = pure x := by intro _; rfl) :
    DS G W X (.Assign [.Name y py] (.ListComp elt [⟨tg, iter, ifs, 0⟩] scope pos) spos) (gSet i (gLstN (gComp (own.map (·.2)) gi gg gt ge))) := fun al =>
  ps_weak (ps_setLc (tt := fun s H Q => ∃ al, dTT G al W0 gt s H Q) (te := fun s H Q => ∃ al, dT G al W0 ge s H Q) (g := fun v s H Q => ∃ al k env mem d env', Rel G al k env mem s H ∧ Rep G k.mu k.rho H d v ∧ gg d env = some env' ∧ ∀ s', SameBut L s s' → Rel G al k env' mem s' H → Q s' H)
    hc hN hy hyl hsw (hi al) ok (fun s H C cl fp => ⟨fun pins s' σ H v u Q I r q => by
      obtain ⟨al, q⟩ := q
      exact (hg s _ C cl fp al).run pins s' σ H v u Q I r q⟩) (fun s H C cl fp => ⟨fun pins s' σ H Q I q => by
      obtain ⟨al, q⟩ := q
      exact (ht s _ C cl fp al).run pins s' σ H Q I q⟩) (fun s H C cl fp => ⟨fun pins s' σ H Q I q => by
      obtain ⟨al, q⟩ := q
      exact (he s _ C cl fp al).run pins s' σ H Q I q⟩) hs) fun Dn s H ⟨k, env, mem, R, q⟩ => by
    have q : PostS G al W k H Dn (bindS ((gComp (own.map (·.2)) gi gg gt ge env mem).bind fun xs m => .ok (.lst xs) m) env fun d m => .ok .nx (env.set i (.val d)) m) := q
    refine comp_core (G := G) (al := al) (W := W) (fun s H R z => z) (fun al v s H Q z => ⟨al, z⟩) (fun al s H Q z => ⟨al, z⟩) (fun al s H Q z => ⟨al, z⟩) hL ⟨k, env, mem, R, ?_⟩
    cases hgc : gComp (own.map (·.2)) gi gg gt ge env mem with
    | ok xs m =>
      rw [hgc] at q
      intro k1 v1 H1 R1 E1 P1 p hp
      obtain ⟨r1, r2⟩ := R1.newLst hp P1.2 P1.1
      exact q k1 _ _ (r1.setVal i r2) (E1.stays.trans (stays_new hp))
    | ex c m =>
      rw [hgc] at q
      exact fun k' H' C R' E' hc => q k' s H' C R' E'.stays hc
    | no => rw [hgc] at q; exact q
/-- a, b = [..], y: a its own list -/
def gParO (i j : Nat) (a : GA) (b : GE) : GS := fun env m => bindS (a env m) env fun ds m => match b (env.set i .un) m with
  | .ok y m => .ok .nx ((env.set i (.own ds)).set j (.val y)) m
  | _ => .no
/-- a, b = x, [..] -/
def gParQ (i j : Nat) (a : GE) (b : GA) : GS := fun env m => bindS (a env m) env fun x m => bindS (b env m) env fun ds m => .ok .nx ((env.set i (.val x)).set j (.own ds)) m
theorem ds_parQ (i j : Nat) {x y : Str} {px py pt : Pos} {kt k2 pt2} (hc : X.calm = true) (hN : X.N.Nodup) (ha : DE G W X a ga) (hb : DN G W X b gn) (hi : X.N[i]? = some x := by rfl) (hj : X.N[j]? = some y := by rfl) (hij : i ≠ j := by decide)
    (hx : X.env.scope.names.lookup x = some .local := by rfl) (hy : X.env.scope.names.lookup y = some .local := by rfl)
    (hw : swappedStores [.Tuple [.Name x px, .Name y py] kt pt] (.Tuple [a, b] k2 pt2) X.env = pure (some [x, y]) := by rfl)
    (hs : swapsWithSole [.Tuple [.Name x px, .Name y py] kt pt] (.Tuple [a, b] k2 pt2) pos.line X.env = pure false := by rfl)
    (h1 : starEach [a, b] X.env = (false, eval a X.env) :: starEach [b] X.env := by rfl) (h2 : starEach [b] X.env = (false, eval b X.env) :: starEach [] X.env := by rfl) :
    DS G W X (.Assign [.Tuple [.Name x px, .Name y py] kt pt] (.Tuple [a, b] k2 pt2) pos) (gParQ i j ga gn) := fun al =>
  ps_weak (ps_par hc hN hi hj hij hx hy (pa_cons (ha al) (pa_cons (hb al) pa_nil h2) h1) hw hs) fun D s H ⟨k, env, mem, R, q⟩ =>
    ⟨k, env, mem, R, PostS.bind q fun x m k1 v1 H1 R1 E1 P1 h => ⟨k1, env, m, R1, PostS.bind h fun ds m2 k2 v2 H2 R2 E2 P2 h p hp => by
      have R3 := R2.setVal i (P1.ext E2)
      obtain ⟨r1, r2⟩ := R3.newOwn j hp P2.2 P2.1
      exact ⟨v1, .ref p, rfl, h _ _ _ r1 r2⟩⟩⟩
/-- the slot forgotten, the list its own ahead of the store -/
theorem Rel.preOwn {k : Ka} {env : List Slot} {m : List MO} {s : L2.St} {H : Hp} (R : Rel G al k env m s H) (i : Nat) {p : Addr} {ds : List D} {vs : List V} (h : H p = none) (hz : vs.length ≤ sizeLine) (r : Reps G k.mu k.rho H ds vs) :
    Rel G al (k.setOwn i (some p)) (env.set i .un) m s (upd H p (.lst vs)) ∧ St2 k H (k.setOwn i (some p)) (upd H p (.lst vs)) ∧ MemR G (k.setOwn i (some p)) (upd H p (.lst vs)) (.lst ds) p := by
  obtain ⟨r1, r2⟩ := R.newOwn i h hz r
  refine ⟨⟨r1.wr, fun j sl e => ?_, ?_, r1.fix, r1.tb0, r1.pre, r1.own0, r1.out⟩, r2, vs, upd_same, hz, Reps.stay r2 r⟩
  · rw [List.getElem?_set] at e
    by_cases hij : i = j
    · subst hij
      rw [if_pos rfl] at e
      by_cases hl : i < env.length
      · rw [if_pos hl] at e
        cases e
        exact ⟨_, List.getElem?_eq_getElem (by rw [← R.len]; exact hl), trivial⟩
      · rw [if_neg hl] at e
        cases e
    · rw [if_neg hij] at e
      obtain ⟨ov, g1, g2⟩ := r1.slots j sl (by rw [List.getElem?_set_ne hij]; exact e)
      rw [List.getElem?_set_ne hij] at g1
      exact ⟨ov, g1, g2⟩
  · rw [List.length_set]; exact R.len
theorem ds_parO (i j : Nat) {x y : Str} {px py pt : Pos} {kt k2 pt2} (hc : X.calm = true) (hN : X.N.Nodup) (ha : DN G W X a gn) (hb : DE G W X b gb) (hi : X.N[i]? = some x := by rfl) (hj : X.N[j]? = some y := by rfl) (hij : i ≠ j := by decide)
    (hx : X.env.scope.names.lookup x = some .local := by rfl) (hy : X.env.scope.names.lookup y = some .local := by rfl)
    (hw : swappedStores [.Tuple [.Name x px, .Name y py] kt pt] (.Tuple [a, b] k2 pt2) X.env = pure (some [x, y]) := by rfl)
    (hs : swapsWithSole [.Tuple [.Name x px, .Name y py] kt pt] (.Tuple [a, b] k2 pt2) pos.line X.env = pure false := by rfl)
    (h1 : starEach [a, b] X.env = (false, eval a X.env) :: starEach [b] X.env := by rfl) (h2 : starEach [b] X.env = (false, eval b X.env) :: starEach [] X.env := by rfl) :
    DS G W X (.Assign [.Tuple [.Name x px, .Name y py] kt pt] (.Tuple [a, b] k2 pt2) pos) (gParO i j gn gb) := fun al =>
  ps_weak (ps_par hc hN hi hj hij hx hy (pa_cons (ha al) (pa_cons (hb al) pa_nil h2) h1) hw hs) fun D s H ⟨k, env, mem, R, q⟩ =>
    ⟨k, env, mem, R, PostS.bind (f := fun ds m => match gb (env.set i .un) m with | .ok y m => .ok .nx ((env.set i (.own ds)).set j (.val y)) m | _ => .no) q fun ds m k1 v1 H1 R1 E1 P1 h p hp => by
      obtain ⟨R2, S2, M2⟩ := R1.preOwn i hp P1.2 P1.1
      refine ⟨_, env.set i .un, m, R2, ?_⟩
      cases hb2 : gb (env.set i .un) m with
      | ok y m2 =>
        rw [hb2] at h
        intro k2 v2 H2 R3 E3 P3
        refine ⟨.ref p, v2, rfl, ?_⟩
        have ow : k2.own i = some p := by rw [E3.own]; exact Ka.setOwn_self
        obtain ⟨u, eu, mu⟩ := MemR.mut M2
        have M3 : MemR G k2 H2 (.lst ds) p := M2.stay E3.stays fun o eo => E3.keep p o eo (R2.wr.onr i p Ka.setOwn_self) (by rw [eu] at eo; cases eo; exact mu.nt)
        have R4 : Rel G al k2 (env.set i (.own ds)) m2 (s.set i (some (.ref p))) H2 := by
          refine ⟨R3.wr, fun l sl e => ?_, by rw [List.length_set, List.length_set]; exact R1.len, R3.fix, R3.tb0, R3.pre, R3.own0, R3.out⟩
          rw [List.getElem?_set] at e ⊢
          by_cases hil : i = l
          · subst hil
            rw [if_pos rfl] at e ⊢
            by_cases hlt : i < env.length
            · rw [if_pos hlt] at e
              cases e
              rw [if_pos (by rw [← R1.len]; exact hlt)]
              exact ⟨_, rfl, p, rfl, ow, M3⟩
            · rw [if_neg hlt] at e
              cases e
          · rw [if_neg hil] at e ⊢
            exact R3.slots l sl (by rw [List.getElem?_set_ne hil]; exact e)
        have R5 := R4.setVal j P3
        exact h k2 _ H2 R5 (S2.trans E3.stays)
      | ex c m2 => rw [hb2] at h; exact h.elim
      | no => rw [hb2] at h; exact h.elim⟩
end
theorem bt_abs : bootBuiltins "abs" = some (.builtin "abs") := by kernel_rfl
theorem bt_len : bootBuiltins "len" = some (.builtin "len") := by kernel_rfl
theorem bt_sum : bootBuiltins "sum" = some (.builtin "sum") := by kernel_rfl
theorem bt_min : bootBuiltins "min" = some (.builtin "min") := by kernel_rfl
theorem bt_max : bootBuiltins "max" = some (.builtin "max") := by kernel_rfl
theorem bt_any : bootBuiltins "any" = some (.builtin "any") := by kernel_rfl
theorem bt_all : bootBuiltins "all" = some (.builtin "all") := by kernel_rfl
theorem bt_sorted : bootBuiltins "sorted" = some (.builtin "sorted") := by kernel_rfl
theorem bt_int : bootBuiltins "int" = some (.type "int") := by kernel_rfl
theorem bt_list : bootBuiltins "list" = some (.type "list") := by kernel_rfl
theorem bt_tuple : bootBuiltins "tuple" = some (.type "tuple") := by kernel_rfl
theorem bt_str : bootBuiltins "str" = some (.type "str") := by kernel_rfl
theorem bt_dict : bootBuiltins "dict" = some (.type "dict") := by kernel_rfl
end DL
/-! DL12: items stored, three at once. -/
namespace DL
open PySem PySem.Spec L2 GX
/-- o[i] = v, o a shared list -/
def gIxS (o i v : GE) : GS := fun env m => bindS (v env m) env fun y m => bindS (o env m) env fun d m => bindS (i env m) env fun e m => match d, e with
  | .ref j, .int n => (match m[j]? with
    | some (.lst xs) => (match ixN xs.length n with
      | some q => .ok .nx env (m.set j (.lst (xs.set q y)))
      | none => .no)
    | _ => .no)
  | _, _ => .no
/-- x[i] = v, x an own list -/
def gIxO (k : Nat) (i v : GE) : GS := fun env m => bindS (v env m) env fun y m => match env[k]? with
  | some (.own xs) => bindS (i env m) env fun e m => (match e with
    | .int n => (match ixN xs.length n with
      | some q => .ok .nx (env.set k (.own (xs.set q y))) m
      | none => .no)
    | _ => .no)
  | _ => .no
def gPar3 (i j l : Nat) (a b c : GE) : GS := fun env m => bindS (a env m) env fun x m => bindS (b env m) env fun y m => bindS (c env m) env fun z m => .ok .nx (((env.set i (.val x)).set j (.val y)).set l (.val z)) m
section
variable {G : Glob} {W : WX} {X : Cx} {a b c e o i : Expr} {ga gb gc go gi gv : GE} {pos p1 pos' : Pos}
theorem ds_ixS (ho : DE G W X o go) (hi : DE G W X i gi) (hv : DE G W X e gv) (hs : swapsWithSole [.Subscript o i pos'] e pos.line X.env = pure false := by rfl) (hw : swappedStores [.Subscript o i pos'] e X.env = pure none := by rfl)
    (h1 : (assignEach [.Subscript o i pos'] X.env).map (·.2) = [assign (.Subscript o i pos') X.env] := by rfl)
    (ha : ∀ v, assign (.Subscript o i pos') X.env v = (holding [v] (eval o X.env) >>= fun d => holding [v, d] (eval i X.env) >>= fun j => standAt pos' >>= fun _ => holding [v, d, j] (setItem d j v) >>= fun _ => release [v, d, j] []) := by intro _; rfl) : DS G W X (.Assign [.Subscript o i pos'] e pos) (gIxS go gi gv) := fun al =>
  ps_weak (ps_asg (hv al) (pg_sub (ho al) (hi al) set_list ha) hs hw h1) fun D s H ⟨k, env, mem, R, q⟩ => by
    refine ⟨k, env, mem, R, PostS.bind q fun y m k1 v1 H1 R1 E1 P1 h => ?_⟩
    refine ⟨k1, env, m, R1, PostS.bind h fun d m2 k2 v2 H2 R2 E2 P2 h => ?_⟩
    refine ⟨k2, env, m2, R2, PostS.bind h fun n m3 k3 v3 H3 R3 E3 P3 h => ?_⟩
    cases P2 with
    | @ref j a ha =>
      cases P3 with
      | int n =>
        have h : PostS G al W k3 H3 D (match m3[j]? with | some (.lst xs) => (match ixN xs.length n with | some q => .ok .nx env (m3.set j (.lst (xs.set q y))) | none => .no) | _ => .no) := h
        split at h
        · rename_i xs hm
          split at h
          · rename_i q' hq
            have ha' : k3.rho[j]? = some a := E3.stays.rho _ _ ha
            have P1' := (P1.ext E2).ext E3
            obtain ⟨vs, g1, g2, g3⟩ := R3.wr.mem j _ a hm ha'
            have st : St2 k3 H3 k3 (upd H3 a (.lst (vs.set q' v1))) := write_stays (.inl (List.mem_of_getElem? ha'))
            obtain ⟨r1, r2⟩ := R3.writeMem (o' := .lst (vs.set q' v1)) (mo := .lst (xs.set q' y)) j ha' g1 trivial trivial ⟨_, upd_same, by rw [List.length_set]; exact g2, Reps.stay st (g3.set q' P1')⟩
            exact ⟨a, vs, n, q', rfl, rfl, g1, by rw [← g3.length]; exact hq, h k3 s _ r1 r2.stays⟩
          · exact h.elim
        · exact h.elim
      | _ => exact h.elim
    | _ => exact h.elim
theorem ds_ixO (k : Nat) {x : Str} (hi : DE G W X i gi) (hv : DE G W X e gv) (hN : X.N[k]? = some x := by rfl) (hvs : Vis X.env.scope x := by first | exact Or.inl rfl | exact Or.inr (Or.inl rfl) | exact Or.inr (Or.inr rfl)) (hd : (x == ("__debug__" : Str)) = false := by decide) (hcd : (x == ("__classdict__" : Str)) = false := by decide)
    (hs : swapsWithSole [.Subscript (.Name x p1) i pos'] e pos.line X.env = pure false := by rfl) (hw : swappedStores [.Subscript (.Name x p1) i pos'] e X.env = pure none := by rfl)
    (h1 : (assignEach [.Subscript (.Name x p1) i pos'] X.env).map (·.2) = [assign (.Subscript (.Name x p1) i pos') X.env] := by rfl)
    (ha : ∀ v, assign (.Subscript (.Name x p1) i pos') X.env v = (holding [v] (eval (.Name x p1) X.env) >>= fun d => holding [v, d] (eval i X.env) >>= fun j => standAt pos' >>= fun _ => holding [v, d, j] (setItem d j v) >>= fun _ => release [v, d, j] []) := by intro _; rfl) : DS G W X (.Assign [.Subscript (.Name x p1) i pos'] e pos) (gIxO k gi gv) := fun al =>
  ps_weak (ps_asg (hv al) (pg_sub (pe_var (pos := p1) hN hvs hd hcd) (hi al) set_list ha) hs hw h1) fun D s H ⟨k0, env, mem, R, q⟩ => by
    refine ⟨k0, env, mem, R, PostS.bind q fun y m k1 v1 H1 R1 E1 P1 h => ?_⟩
    split at h
    · rename_i xs ex
      obtain ⟨p, vs, g1, g2, g3, g4, g5⟩ := slot_own R1 ex
      refine ⟨.ref p, g1, k1, env, m, R1, PostS.bind h fun n m3 k3 v3 H3 R3 E3 P3 h => ?_⟩
      split at h
      · rename_i n
        split at h
        · rename_i q' hq
          have g3' := own_stays R1 g2 g3 E3
          have g5' := g5.ext E3
          have g2' : k3.own k = some p := by rw [E3.own]; exact g2
          obtain ⟨r1, r2⟩ := R3.writeOwn (o' := .lst (vs.set q' v1)) (sl := .own (xs.set q' y)) k g2' g3' trivial trivial g1 ⟨p, rfl, g2', _, upd_same, by rw [List.length_set]; exact g4, Reps.stay (write_stays (.inr (.inl ⟨k, g2'⟩))) (g5'.set q' (P1.ext E3))⟩
          exact ⟨p, vs, n, q', rfl, P3.vint, g3', by rw [← g5.length]; exact hq, h k3 s _ r1 r2⟩
        · exact h.elim
      · exact h.elim
    · exact h.elim
theorem ds_par3 (i j l : Nat) {x y z : Str} {px py pz pt : Pos} {kt k2 pt2} (hc : X.calm = true) (hN : X.N.Nodup) (ha : DE G W X a ga) (hb : DE G W X b gb) (hcc : DE G W X c gc) (hi : X.N[i]? = some x := by rfl) (hj : X.N[j]? = some y := by rfl) (hl : X.N[l]? = some z := by rfl) (hij : i ≠ j := by decide) (hil : i ≠ l := by decide) (hjl : j ≠ l := by decide)
    (hx : X.env.scope.names.lookup x = some .local := by rfl) (hy : X.env.scope.names.lookup y = some .local := by rfl) (hz : X.env.scope.names.lookup z = some .local := by rfl)
    (hw : swappedStores [.Tuple [.Name x px, .Name y py, .Name z pz] kt pt] (.Tuple [a, b, c] k2 pt2) X.env = pure (some [x, y, z]) := by rfl)
    (hs : swapsWithSole [.Tuple [.Name x px, .Name y py, .Name z pz] kt pt] (.Tuple [a, b, c] k2 pt2) pos.line X.env = pure false := by rfl)
    (h1 : starEach [a, b, c] X.env = (false, eval a X.env) :: starEach [b, c] X.env := by rfl) (h2 : starEach [b, c] X.env = (false, eval b X.env) :: starEach [c] X.env := by rfl) (h3 : starEach [c] X.env = (false, eval c X.env) :: starEach [] X.env := by rfl) :
    DS G W X (.Assign [.Tuple [.Name x px, .Name y py, .Name z pz] kt pt] (.Tuple [a, b, c] k2 pt2) pos) (gPar3 i j l ga gb gc) := fun al =>
  ps_weak (ps_par3 hc hN hi hj hl hij hil hjl hx hy hz (pa_cons (ha al) (pa_cons (hb al) (pa_cons (hcc al) pa_nil h3) h2) h1) hw hs) fun D s H ⟨k, env, mem, R, q⟩ =>
    ⟨k, env, mem, R, PostS.bind q fun x m k1 v1 H1 R1 E1 P1 h => ⟨k1, env, m, R1, PostS.bind h fun y m2 k2 v2 H2 R2 E2 P2 h => ⟨k2, env, m2, R2, PostS.bind h fun z m3 k3 v3 H3 R3 E3 P3 h =>
      ⟨_, _, _, rfl, h k3 _ H3 (((R3.setVal i ((P1.ext E2).ext E3)).setVal j (P2.ext E3)).setVal l P3) (Stays.refl _ _ _)⟩⟩⟩⟩
/-- a promise that nobody uses -/
theorem fnok_no {P : Program} {w : World} {K : PySem.W.Frag} {mg : Str → Option Value} {base : Heap} {k : Nat} {f : Addr} {fd : FuncData} {ps : List Str} : FnOk P w K mg base (L2.CX P w) k f fd ps (spD G ps.length fun _ _ => .no) :=
  ⟨fun vs H Q E h => h.1, fun A outer s H args us vs Q E hr e0 hb r h => by
    obtain ⟨_, _, _, _, _, _, z⟩ := h
    exact z.elim⟩
end
end DL
/-! LX: lambdas: handed to the def that tells; kept in a list, called in a comprehension. -/
namespace DL
open PySem PySem.Spec PyProof.Rows L2 GX
section
variable {X : Cx} {pins : List (Addr × Obj)} {σ : L2.St} {H : Hp} {s : Shared}
abbrev lamN (X : Cx) : Str := X.env.qual ++ "<lambda>"
structure LamL where
  params : Arguments
  body : Expr
  scope : Scope
/-- a lambda's object -/
abbrev lamO (X : Cx) (l : LamL) (pm : Value) (c : Addr) (ctv : Value) : Obj := PySem.W.kla_obj "<lambda>" (lamN X) l.params l.body l.scope (cloFrom X.env.cells l.scope.names []) pm c ctv
/-- what is told of a lambda that was made: f; its code object c; the def's table at P -/
structure LamMade (X : Cx) (pins : List (Addr × Obj)) (σ : L2.St) (T : List (Addr × Str)) (P : Addr) (H : Hp) (s : Shared) (l : LamL) (f c : Addr) (pm ctv : Value) (H1 : Hp) (s1 : Shared) : Prop where
  inv : Inv X pins σ H1 s1
  keep : ∀ a o, a ≠ P → H a = some o → H1 a = some o
  tab : ∃ qs, H1 P = some (.tbl qs)
  tabs : LamX.Tabs T H1
  obj : s1.heap.get? f = some (lamO X l pm c ctv)
  new : s.heap.objs.size ≤ f
  free : H1 f = none
  nofr : f ∉ frs X.stack
  code : H1 c = some (LamX.CodeO c (lamN X))
/-- a code object put down in the def's table -/
theorem tabs_put {T : List (Addr × Str)} {P c : Addr} {q : Str} {ps : Array Value} {at_ : Pos} (hT : LamX.Tabs T H) (hu : ∀ p ∈ T, p.1 = P → p.2 = q) (hP : H P = some (.tbl ps)) (nC : H c = none) :
    LamX.Tabs T (upd (upd H P (.tbl (ps ++ #[rawInt at_.line, rawInt at_.col, .ref c]))) c (LamX.CodeO c q)) := by
  intro p hp
  have PC : P ≠ c := ne_of_none hP nC
  have stay : ∀ a q', H a = some (LamX.CodeO a q') → (upd (upd H P (.tbl (ps ++ #[rawInt at_.line, rawInt at_.col, .ref c]))) c (LamX.CodeO c q)) a = some (LamX.CodeO a q') := fun a q' e => by
    have n2 : a ≠ P := fun z => LamX.codeO_ne ps (Option.some.inj (e.symm.trans (z ▸ hP)))
    rw [upd_ne (ne_of_none e nC), upd_ne n2, e]
  obtain ⟨qs, a1, a2, a3⟩ := hT p hp
  have carry : ∀ pos' cv, codeAmong pos' qs.toList = some cv → ∃ c', cv = .ref c' ∧ (upd (upd H P (.tbl (ps ++ #[rawInt at_.line, rawInt at_.col, .ref c]))) c (LamX.CodeO c q)) c' = some (LamX.CodeO c' p.2) := fun pos' cv h => (a3 pos' cv h).imp fun _ z => ⟨z.1, stay _ _ z.2⟩
  by_cases e : p.1 = P
  · have eq : qs = ps := by
      rw [e, hP] at a1
      cases a1
      rfl
    subst eq
    refine ⟨_, by rw [e, upd_ne PC, upd_same], ?_, fun pos' cv h => ?_⟩
    · rw [Array.toList_append]
      exact PySem.TriplesOk_snoc _ _ _ _ a2
    · rw [Array.toList_append] at h
      match LamX.among_app _ a2 h with
      | .inl z => exact carry pos' cv z
      | .inr z => exact ⟨c, z, by rw [hu p hp e, upd_same]⟩
  · exact ⟨qs, by rw [upd_ne (ne_of_none a1 nC), upd_ne e, a1], a2, carry⟩
theorem lam_born {T : List (Addr × Str)} {c P : Addr} {l : LamL} {pos : Pos} {E : Value → Shared → Prop} {Q : Value → Shared → Prop} (I : Inv X pins σ H s) (TB : LamX.TabB X.base X.mg c P) (hcode : X.env.code = .ref c) (hm : (P, lamN X) ∈ T) (hu : ∀ p ∈ T, p.1 = P → p.2 = lamN X) (hT : LamX.Tabs T H)
    (hdef : defaultsOf l.params X.env = ([], [])) (F : ∀ q ∈ l.scope.names, q.2 = .free → ∃ a, X.env.cells.lookup q.1 = some a) (h : ∀ f c' pm ctv H1 s1, LamMade X pins σ T P H s l f c' pm ctv H1 s1 → Q (.ref f) s1) :
    wpAny (model X.prog X.w) X.A (eval (.Lambda l.params l.body l.scope pos) X.env) Q E s := by
  obtain ⟨ps, hP, tr, among⟩ := hT _ hm
  have hb := TB.bm.keeps I.bk
  have hcd := TB.code.keeps I.bk
  have hgl := I.mod.glob.keeps I.bk
  have obP := I.hok P _ hP
  apply PySem.W.kla_eval hdef
  match found : codeAmong pos ps.toList with
  | some cv =>
    obtain ⟨c', rfl, known⟩ := among pos _ found
    refine PySem.W.kla_makeFunctionHit (closure_ok F) I.ok.glob hgl hcode hcd obP tr found hb fun ctv h2 tk old size => h _ c' ((X.mg "__name__").getD .none) ctv H _ ?_
    exact { inv := I.kept fun a o e => Heap.get?_push_of_some _ (old a o e), keep := fun _ _ _ e => e, tab := ⟨ps, hP⟩, tabs := hT, obj := Heap.get?_push_size _ rfl, new := size, free := I.hok.fresh size, nofr := new_nofr I size, code := known }
  | none =>
    refine PySem.W.kla_makeFunction (closure_ok F) I.ok.glob hgl hcode hcd obP tr found TB.gP hb fun c' ctv h2 tk old le lt isrec tab2 => ?_
    obtain ⟨_, oc, vs, t, e2, g1, g2, g3⟩ := isrec
    cases e2
    have nC : H c' = none := I.hok.fresh le
    have size : s.heap.objs.size ≤ h2.objs.size := Nat.le_trans le (Nat.le_of_lt lt)
    have nP : h2.objs.size ≠ P := fun z => absurd (Heap.lt_size obP) (Nat.not_lt_of_le (z ▸ size))
    refine h _ c' ((X.mg "__name__").getD .none) ctv _ _ { inv := LamX.inv_table I hP (fun a o n e => Heap.get?_push_of_some _ (old a o n e)) (Heap.get?_push_of_some _ tab2) le ⟨oc, vs, t, Heap.get?_push_of_some _ g1, g2, g3⟩, keep := fun a o n e => by rw [upd_ne (ne_of_none e nC), upd_ne n, e], tab := ⟨_, by rw [upd_ne (ne_of_none hP nC), upd_same]⟩, tabs := tabs_put hT hu hP nC, obj := Heap.get?_push_size _ rfl, new := size, free := ?_, nofr := new_nofr I size, code := upd_same }
    rw [upd_ne (Nat.ne_of_gt lt), upd_ne nP]
    exact I.hok.fresh size
/-- a thing that stands there is known from now on -/
theorem inv_track {f : Addr} {φ : Heap → Prop} {s0 : Shared} {H0 : Hp} (I0 : Inv X pins σ H0 s0) (I : Inv X pins σ H s) (h1 : s0.heap.objs.size ≤ f) (h2 : H f = none) (hφ : φ s.heap) (ho : ∃ o, s.heap.get? f = some o)
    (st : ∀ h1 h2 : Heap, φ h1 → (∀ o, h1.get? f = some o → h2.get? f = some o) → φ h2) : Inv X pins σ (upd H f (.ext φ)) s := by
  have lt : ∀ {b o}, s0.heap.get? b = some o → b ≠ f := fun {b o} e z => by
    have := Heap.lt_size e
    rw [z] at this
    exact Nat.lt_irrefl _ (Nat.lt_of_lt_of_le this h1)
  have sm : ∀ b u, H b = some u → b ≠ f := fun b u e => ne_of_none e h2
  have J := I.step (h' := s.heap) (H' := upd H f (.ext φ)) (g' := s.gens) (d' := s.drawn) (t' := s.toks) (ch := [f]) (fun b hb => ?_) (fun b o _ _ _ e _ => e) (fun b o _ _ _ e _ => ⟨o.slots, e⟩)
    (fun b o hc e n => by rw [upd_ne (fun z => hc (by simp [z]))]; exact n) (fun b o _ e => ⟨o, e⟩) (fun b xs e => by rw [upd_ne (sm b _ e)]; exact e) (fun b o u e => by rw [upd_ne (sm b _ e)]; exact e) (fun b ps e => ⟨#[], by rw [upd_ne (sm b _ e), e]; simp⟩) (fun m hm => hm) (fun b u e => ?_) I.bare
  · exact J
  · rw [List.mem_singleton.mp hb]
    refine ⟨.inr (Nat.le_trans I0.sz h1), fun z => ?_, fun x c e z => ?_, fun p hp z => ?_⟩
    · have := I0.lt
      rw [← z] at this
      exact Nat.lt_irrefl _ (Nat.lt_of_lt_of_le this h1)
    · obtain ⟨v, o, eo, _⟩ := I0.cell x c e
      exact lt eo z
    · exact lt (I0.pin p hp).1 z
  · by_cases hb : b = f
    · subst hb
      rw [upd_same] at e
      cases e
      exact ⟨hφ, ho, st⟩
    · rw [upd_ne hb] at e
      exact (I.hok b u e).stay (fun _ _ _ q => q) (fun c q => by rw [upd_ne (sm c _ q)]; exact q) fun c xs q => by rw [upd_ne (sm c _ q)]; exact q
end
/-! ### x(lambda: body) -/
def tLamX (T : List (Addr × Str)) (P : Addr) (TT : (XK → Hp → VK → Prop) → Hp → VK → Prop) (t : XK → TE) : TE := fun σ H Q => LamX.Tabs T H ∧ ∀ H1, (∀ b o, b ≠ P → H b = some o → H1 b = some o) → (∃ qs, H1 P = some (.tbl qs)) → LamX.Tabs T H1 → TT (fun E H' Q' => t E σ H' Q') H1 Q
section
variable {X : Cx}
theorem pe_lamcallX {T : List (Addr × Str)} {TT : (XK → Hp → VK → Prop) → Hp → VK → Prop} {x a : Str} {g c P : Addr} {k : Nat} {pg : Arguments} {bg : List Stmt} {sg : Scope} {dV kV doc pm cdv ct oc : Value} {an od : Option Addr} {osl : Array (Option Value)} {Ng : List Str} {l : LamL} {t : XK → TE} {p lpos pos : Pos}
    -- the def that is called
    (hg : Gl X x) (hm : X.mg x = some (.ref g)) (hk : PySem.W.keepIn X.K (.ref g) = true) (lk : X.K.lookup g = some ⟨oc, od, .func (PySem.W.fnOf x x pg bg sg dV kV doc pm an cdv ct), osl⟩) (hcg : PySem.W.codeIn X.K cdv x = true)
    (hb : L2.Binds X.K (PySem.W.fnOf x x pg bg sg dV kV doc pm an cdv ct) [a] []) (Sg : FnScope Ng [a] sg) (hNg : Ng[0]? = some a) (hva : Vis sg a) (hG : LamX.GivesTo X Ng x sg g cdv bg a (lamN X) TT)
    -- the lambda
    (TB : LamX.TabB X.base X.mg c P) (hcode : X.env.code = .ref c) (hmT : (P, lamN X) ∈ T) (hu : ∀ p ∈ T, p.1 = P → p.2 = lamN X) (hr : Room (k + 2) X.A) (L : LamX.LamS X.env.scope l.scope) (hdef : defaultsOf l.params X.env = ([], []))
    (hbind : ∀ (q : Str) (cl : List (Str × Addr)) (pm cv ctv : Value), bindArgs (PySem.W.kla_fn "<lambda>" q l.params l.body l.scope cl pm cv ctv) ⟨[], []⟩ = pure [])
    (hbody : ∀ (A : Around) (outer : List Env) (s : Shared) (H : Hp) (E : XK) (f c' : Addr), Room k (A.deeper (LamX.lamEnv X l.scope s.heap.objs.size f c')) → PE (LamX.lamCx X A outer s H E l.scope f c') l.body (t E))
    (hdb : (x == ("__debug__" : Str)) = false) (hd : (a == ("__debug__" : Str)) = false) (hcd : (a == ("__classdict__" : Str)) = false) :
    PE X (.Call (.Name x p) [.Lambda l.params l.body l.scope lpos] [] pos) (tLamX T P TT t) where
  run := fun pins s σ H Q I ⟨hT, h⟩ => by
    apply wpAny_Call_Name_kw
    apply ld_glob I hg hm ?_ hdb
    refine PySem.W.callWith_K I.ok.mod.kin hk ?_ rfl rfl
    refine Calls.spliced_cons (lam_born I TB hcode hmT hu hT hdef (L.has I.ok) fun f c' pm' ctv H1 s1 M => Calls.spliced_nil ⟨M.inv.kIn, wpAny_call (codeAny_mono (?_ : codeAny _ _ _ (CR C8.CX0 X.stack X.prog X.w H1 s1 Q C8.E0) s1) fun r s2 hq => ?_)⟩)
    · apply LamX.run_ofS (N := Ng) (ps := [a]) (us := [.ref f]) (vs := [.ref f]) lk hcg Sg hr M.inv.env0 (hb s1 [.ref f] M.inv.kIn rfl) (.cons rfl .nil) rfl
      intro room
      have act := hG f c' s1 H1 Q (fun E => t E σ) (fun W pn xe E p1 p2 tk hW => LamX.pe_act (i := 0) M.inv L M.obj M.free M.nofr (hbind ..) tk hW room (fun A outer s H room2 => hbody A outer s H E f c' room2) hNg hva hd hcd) M.code (h H1 M.keep M.tab M.tabs)
      exact act.imp fun _ z => ⟨z.1.nox, z.2⟩
    · match r, hq with
      | .ok (.ret _), z => exact M.inv.after z
      | .ok .next, z => exact z.elim
      | .ok .brk, z => exact z.elim
      | .ok .cont, z => exact z.elim
      | .error _, z => exact (show False from z).elim
end
end DL
/-! LX2: told by data. -/
namespace DL
open PySem PySem.Spec PyProof.Rows L2 GX
section
variable {G : Glob} {al : Act} {E : XK} {W : WX} {X : Cx} {k k' : Ka} {env : List DL.Slot} {mem m : List MO} {s : L2.St} {H H' : Hp}
/-- a lambda was made: the table at P is written, other things are new -/
theorem Rel.lamTab {P : Addr} {H1 : Hp} {q : Str} (R : Rel G al k env mem s H) (hm : (P, q) ∈ G.T) (hG : P ∉ G.TG) (eN : ∀ b o, b ≠ P → H b = some o → H1 b = some o) (eP : ∃ qs, H1 P = some (.tbl qs)) (T1 : LamX.Tabs G.T H1) : Rel G al k env mem s H1 ∧ Ext k H k H1 := by
  obtain ⟨ps0, h0, _⟩ := R.wr.tabs.lam _ hm
  have keep : ∀ a o, H a = some o → NoTbl o → H1 a = some o := fun a o e n => eN a o (fun z => by
    rw [z, h0] at e
    cases e
    exact n _ rfl) e
  have st : St2 k H k H1 := ⟨fun a o e n t => ⟨keep a o e t, n⟩, fun _ _ e => e⟩
  have tb : ∀ a ps, H a = some (.tbl ps) → ∃ qs, H1 a = some (.tbl qs) := fun a ps e => by
    by_cases ha : a = P
    · rw [ha]
      exact eP
    · exact ⟨ps, eN a _ ha e⟩
  refine ⟨⟨⟨R.wr.len, fun i mo a h1 h2 => ?_, R.wr.nd, R.wr.oi, R.wr.onr, R.wr.nout, fun a ha => ?_, ⟨T1, fun P' hP' => ?_⟩⟩, fun i sl e => ?_, R.len, fun a o e n q => keep a o (R.fix a o e n q) q, fun a ps e => ?_, R.pre, R.own0, R.out⟩, ⟨fun a o e n q => keep a o e q, tb, ⟨[], by simp, fun _ z => by simp at z⟩, rfl, rfl⟩⟩
  · have q := R.wr.mem i mo a h1 h2
    obtain ⟨u, e, mu⟩ := MemR.mut q
    exact q.stay st fun o eo => keep a o eo (by rw [e] at eo; cases eo; exact mu.nt)
  · obtain ⟨o, e, n⟩ := R.wr.trk a ha
    exact ⟨o, keep a o e n.nt, n⟩
  · obtain ⟨ps, e1, e2⟩ := R.wr.tabs.gen P' hP'
    exact ⟨ps, eN P' _ (fun z => hG (by rw [← z]; exact hP')) e1, e2⟩
  · obtain ⟨ov, h1, h2⟩ := R.slots i sl e
    refine ⟨ov, h1, h2.stay st rfl fun p o hp eo => ?_⟩
    obtain ⟨u, e3, t3⟩ := R.wr.trk p (.inr (.inl ⟨i, hp⟩))
    exact keep p o eo (by rw [e3] at eo; cases eo; exact t3.nt)
  · obtain ⟨qs, q⟩ := R.tb0 a ps e
    exact tb a qs q
/-- the def's code object and table, for its lambdas -/
structure LTab (G : Glob) (X : Cx) (P : Addr) : Prop where
  ex : ∃ c, LamX.TabB X.base X.mg c P ∧ X.env.code = .ref c
  mem : (P, lamN X) ∈ G.T
  uq : ∀ p ∈ G.T, p.1 = P → p.2 = lamN X
  ne : P ∉ G.TG
/-- the def that tells: try: return what() / except e: return ret -/
structure ToldD (G : Glob) (K : PySem.W.Frag) (mg : Str → Option Value) (x a ret : Str) (cs : List Str) : Prop where
  ex : ∃ (g CS : Addr) (fd : FuncData) (params : Arguments) (bg : List Stmt) (sg : Scope) (e : Str) (j : Nat) (p1 p2 p3 p4 p5 p6 p7 p8 : Pos), FunD K x x params bg sg [] [] g fd ∧ mg x = some (.ref g) ∧ L2.Binds K fd [a] [] ∧ FnScope [a] [a] sg ∧ Vis sg a ∧
    bg = [.Try [.Return (some (.Call (.Name a p1) [] [] p2)) p3] [.ExceptHandler (some (.Name e p4)) none [.Return (some (.Constant (.str ret) j p5)) p6] p7] [] [] p8] ∧ sg.names.lookup e = some .globalImplicit ∧ mg e = some (.ref CS) ∧ (e == ("__debug__" : Str)) = false ∧
    (∀ c ∈ cs, ∀ C, G.exc c = some C → PySem.W.exmOne K (.ref C) (.ref CS) = some true)
def gTold (cs : List Str) (ret : Str) (ge : GE) : GE := fun env m => match ge env m with
  | .ok d m => .ok d m
  | .ex c m => if c ∈ cs then .ok (.str ret) m else .no
  | .no => .no
theorem told_post {K : PySem.W.Frag} {CS : Addr} {cs : List Str} {ret : Str} {Q : VK} {r : RE DL.D} (hcs : ∀ c ∈ cs, ∀ C, G.exc c = some C → PySem.W.exmOne K (.ref C) (.ref CS) = some true)
    (h : PostR G al W (PdE G) k env s H Q (match r with | .ok d m => .ok d m | .ex c m => if c ∈ cs then .ok (.str ret) m else .no | .no => .no)) :
    PostR G al (WE fun cls _ H' => ∃ b, PySem.W.exmOne K cls (.ref CS) = some b ∧ (b = true → Q (.str ret) H') ∧ (b = false → False)) (PdE G) k env s H Q r := by
  cases r with
  | ok d m => exact h
  | no => exact h
  | ex c m =>
    dsimp only at h
    by_cases hc : c ∈ cs
    · rw [if_pos hc] at h
      exact fun k' H' C R' E' hC => ⟨true, hcs c hc C hC, fun _ => h k' _ H' R' E' (.str ret), fun z => nomatch z⟩
    · rw [if_neg hc] at h
      exact h.elim
theorem de_told {x a ret : Str} {cs : List Str} {P : Addr} {kk : Nat} {params : Arguments} {body : Expr} {scope : Scope} {ge : GE} {p lpos pos : Pos} (T : ToldD G X.K X.mg x a ret cs) (L : LTab G X P) (hr : Room (kk + 2) X.A)
    (hbody : ∀ (A : Around) (outer : List Env) (s : Shared) (H : Hp) (E : XK) (f c' : Addr), Room kk (A.deeper (LamX.lamEnv X scope s.heap.objs.size f c')) → DE G (WE E) (LamX.lamCx X A outer s H E scope f c') body ge)
    (hg : Gl X x := by rfl) (hL : LamX.lamSB X.env.scope scope = true := by rfl) (hdef : defaultsOf params X.env = ([], []) := by rfl)
    (hbind : ∀ (q : Str) (cl : List (Str × Addr)) (pm cv ctv : Value), bindArgs (PySem.W.kla_fn "<lambda>" q params body scope cl pm cv ctv) ⟨[], []⟩ = pure [] := by intros; rfl)
    (hdb : (x == ("__debug__" : Str)) = false := by decide) (hd : (a == ("__debug__" : Str)) = false := by decide) (hcd : (a == ("__classdict__" : Str)) = false := by decide) :
    DE G W X (.Call (.Name x p) [.Lambda params body scope lpos] [] pos) (gTold cs ret ge) := fun al => by
  obtain ⟨g, CS, fd, pg, bg, sg, e, j, p1, p2, p3, p4, p5, p6, p7, p8, Fd, hm, hb, Sg, hva, rfl, hge, hme, hde, hcs⟩ := T.ex
  obtain ⟨oc, od, dV, kV, doc, pm, an, cdv, ct, osl, rfl, lk, hcg, _, _⟩ := Fd.ex
  obtain ⟨c, TB, hcode⟩ := L.ex
  refine pe_weak (pe_lamcallX (l := ⟨params, body, scope⟩) (T := G.T) (TT := LamX.TTold X.K CS ret) (t := fun E => dT G al (WE E) ge) (k := kk) hg hm Fd.kp lk hcg hb Sg rfl hva (LamX.told_gives hge hme hde fun f => rfl) TB hcode L.mem L.uq hr (LamX.lamS_by hL) hdef hbind
    (fun A outer s H E f c' hrm => hbody A outer s H E f c' hrm al) hdb hd hcd) fun s H Q ⟨k, env, mem, R, h⟩ => ?_
  refine ⟨R.wr.tabs.lam, fun H1 eN eP T1 => ?_⟩
  obtain ⟨R1, E1⟩ := R.lamTab L.mem L.ne eN eP T1
  have h : PostR G al W (PdE G) k env s H Q (match ge env mem with | .ok d m => .ok d m | .ex c m => if c ∈ cs then .ok (.str ret) m else .no | .no => .no) := h
  exact ⟨k, env, mem, R1, told_post hcs (PostR.base (r := match ge env mem with | .ok d m => .ok d m | .ex c m => if c ∈ cs then .ok (.str ret) m else .no | .no => .no) h R1 E1)⟩
theorem co_lam {kk : Nat} {A : Around} {outer : List Env} {s : Shared} {H : Hp} {E : XK} {scope : Scope} {f c' : Addr} (hK : X.K = G.K) (hr : Room kk (A.deeper (LamX.lamEnv X scope s.heap.objs.size f c'))) : CO G (LamX.lamCx X A outer s H E scope f c') :=
  ⟨hK, by have := hr.un; show (A.deeper _).units + 200 < _; omega, rfl⟩
theorem hx_lam {A : Around} {outer : List Env} {s : Shared} {H : Hp} {E : XK} {scope : Scope} {f c' : Addr} : Passes (L2.CX (LamX.lamCx X A outer s H E scope f c').prog (LamX.lamCx X A outer s H E scope f c').w) (LamX.lamCx X A outer s H E scope f c') E := passes_call (X := LamX.lamCx X A outer s H E scope f c') (takes_of rfl rfl rfl rfl) fun _ _ _ _ h => h
/-! ### lambdas as values -/
def lamPhi (q : Str) (cells : List (Str × Addr)) (l : LamL) (f : Addr) (pm : Value) (c : Addr) (ctv : Value) : HO := .ext fun h => h.get? f = some (PySem.W.kla_obj "<lambda>" q l.params l.body l.scope (cloFrom cells l.scope.names []) pm c ctv)
def lampOf (q : Str) (cells : List (Str × Addr)) (ls : List LamL) : Nat → Addr → Addr → HO → Prop := fun j f c o => ∃ (l : LamL) (pm ctv : Value), ls[j]? = some l ∧ o = lamPhi q cells l f pm c ctv
def gLam (j : Nat) : GE := fun _ m => .ok (.lam j) m
theorem de_lam (j : Nat) {ls : List LamL} {P : Addr} {params : Arguments} {body : Expr} {scope : Scope} {lpos : Pos} (L : LTab G X P) (hp : G.lamP = lampOf (lamN X) X.env.cells ls) (hq : G.lq = lamN X) (hj : ls[j]? = some ⟨params, body, scope⟩ := by rfl)
    (hL : LamX.lamSB X.env.scope scope = true := by rfl) (hdef : defaultsOf params X.env = ([], []) := by rfl) : DE G W X (.Lambda params body scope lpos) (gLam j) := fun al => by
  refine ⟨fun pins s σ H Q I ⟨k, env, mem, R, h⟩ => ?_⟩
  obtain ⟨c, TB, hcode⟩ := L.ex
  refine lam_born (l := ⟨params, body, scope⟩) I TB hcode L.mem L.uq R.wr.tabs.lam hdef ((LamX.lamS_by hL).has I.ok) fun f c' pm ctv H1 s' ⟨I1, eN, eP, T1, hf, hsz, hfn, hfr, hco⟩ => ?_
  obtain ⟨R1, E1⟩ := R.lamTab L.mem L.ne eN eP T1
  have I2 := inv_track (φ := fun h => h.get? f = some (PySem.W.kla_obj "<lambda>" (lamN X) params body scope (cloFrom X.env.cells scope.names []) pm c' ctv)) I I1 hsz hfn hf ⟨_, hf⟩ fun h1 h2 e st => st _ e
  have R2 : Rel G al k env mem σ (upd H1 f (lamPhi (lamN X) X.env.cells ⟨params, body, scope⟩ f pm c' ctv)) := R1.new hfn
  have nc : ¬ k.mu c' := fun z => by
    obtain ⟨o, e, mo⟩ := R1.wr.trk c' z
    rw [hco] at e
    cases e
    exact mo
  exact ⟨.ref f, _, I2, rfl, h k _ _ R2 (R1.trans E1 (Ext.new hfn)) (.lam upd_same (by rw [hp]; exact ⟨_, pm, ctv, hj, rfl⟩) (fun _ z => by cases z) (R1.wr.no hfn) (by rw [hq, upd_ne (ne_of_none hco hfn)]; exact hco) nc)⟩
/-- a lambda runs: in the air A, its def's frame as it was at s, the world as it is at s1 -/
theorem lam_run {pins : List (Addr × Obj)} {σ : L2.St} {H HZ : Hp} {s s1 : Shared} {A : Around} {outer : List Env} {l : LamL} {f c' : Addr} {pm ctv : Value} {k : Nat} {Q : VK} {E : XK} {tb : TE} (I : Inv X pins σ H s) (L : LamX.LamS X.env.scope l.scope) (e0 : Env0 X.prog X.w X.K X.mg X.base A outer s1 HZ) (room : Room (k + 1) A)
    (un : Un (frs X.stack) [] H HZ s.heap s1.heap) (nl : s1.heap.NoLimit) (obj : s1.heap.get? f = some (lamO X l pm c' ctv)) (code : HZ c' = some (LamX.CodeO c' (lamN X))) (hok : HOk X.prog X.w HZ s1.heap) (hbind : bindArgs (PySem.W.kla_fn "<lambda>" (lamN X) l.params l.body l.scope (cloFrom X.env.cells l.scope.names []) pm (.ref c') ctv) ⟨[], []⟩ = pure [])
    (hbody : ∀ (A : Around) (outer : List Env) (s : Shared) (H : Hp), Room k (A.deeper (LamX.lamEnv X l.scope s.heap.objs.size f c')) → PE (LamX.lamCx X A outer s H E l.scope f c') l.body tb) (ht : tb σ HZ Q) :
    codeAny (model X.prog X.w) A (.call (.ref f) ⟨[], []⟩) (CR (L2.CX X.prog X.w) outer X.prog X.w HZ s1 Q E) s1 := by
  obtain ⟨⟨oc, vs, tok, g1, g2, g3⟩, _⟩ := hok c' _ code
  apply PySem.W.kla_callFunE room.depth obj rfl L.co L.gen rfl ⟨c', oc, vs, tok, rfl, g1, g2, g3⟩
  show wpAny _ _ (bindArgs (PySem.W.kla_fn "<lambda>" (lamN X) l.params l.body l.scope (cloFrom X.env.cells l.scope.names []) pm (.ref c') ctv) ⟨[], []⟩) _ _ _
  rw [hbind]
  refine wpAny_pure (wpAny_newFunctionEnv (fun q hq => (L.own q hq).2) (fun _ hq => (List.not_mem_nil hq).elim) (fun h2 ns same => ⟨nl.fresh _ same, PySem.W.kla_codeExpr ?_⟩) L.kind)
  have start := LamX.lam_start2 (E := E) (f := f) (c' := c') (tk := s1.toks) I L e0 room.hd un ns fun b o e => same.extBut b o (Nat.ne_of_lt (Heap.lt_size e)) (Heap.get?_push_of_some _ e)
  exact wpAny_mono ((hbody A outer s1 HZ (room.deeper _)).run [] _ _ HZ Q start ht) (fun _ _ ⟨w2, H2, J, rv, q⟩ => ⟨w2, H2, J.os, J.bare, J.base, J.hok, rv, q⟩) fun _ _ z => z
/-- the lambda called in the def that got it: known by what stands in the heap -/
theorem pe_actB {pins : List (Addr × Obj)} {σ : L2.St} {H : Hp} {s : Shared} {CXg : CXT} {Eg : XK} {Ng : List Str} {qg : Str} {sg : Scope} {g f c' : Addr} {cdg pm ctv : Value} {l : LamL} {k i : Nat} {a : Str} {pn : List (Addr × Obj)} {xe : Value → Shared → Prop} {W : WX} {E : XK} {tb : TE} {p1 p2 : Pos} {Z : Cx}
    (hZ : Z = (cxOf CXg X.prog X.w X.K X.mg X.base Ng qg sg g cdg X.A X.stack s H Eg).tr pn xe) (I : Inv X pins σ H s) (L : LamX.LamS X.env.scope l.scope)
    (hbind : bindArgs (PySem.W.kla_fn "<lambda>" (lamN X) l.params l.body l.scope (cloFrom X.env.cells l.scope.names []) pm (.ref c') ctv) ⟨[], []⟩ = pure [])
    (tk : Takes Z W) (hW : ∀ cls d σ' H', E cls d H' → W cls d σ' H') (hr : Room (k + 1) (X.A.deeper (envOfC qg sg s.heap.objs.size g cdg)))
    (hbody : ∀ (A : Around) (outer : List Env) (s : Shared) (H : Hp), Room k (A.deeper (LamX.lamEnv X l.scope s.heap.objs.size f c')) → PE (LamX.lamCx X A outer s H E l.scope f c') l.body tb)
    (hN : Ng[i]? = some a) (hv : Vis sg a) (hd : (a == ("__debug__" : Str)) = false := by decide) (hcd : (a == ("__classdict__" : Str)) = false := by decide) :
    PE Z (.Call (.Name a p1) [] [] p2) (fun σZ HZ Q => σZ[i]? = some (some (.ref f)) ∧ HZ c' = some (LamX.CodeO c' (lamN X)) ∧ HZ f = some (lamPhi (lamN X) X.env.cells l f pm c' ctv) ∧ tb σ HZ Q) where
  run := fun pinsZ sZ σZ HZ Q IZ ⟨hs, hc, hfo, ht⟩ => by
    subst hZ
    have name := (pe_var (pos := p1) (i := i) hN hv hd hcd).run pinsZ sZ σZ HZ (fun v H1 => v = .ref f ∧ H1 = HZ) IZ ⟨_, hs, rfl, rfl⟩
    refine wpAny_Call_Name_kw (thn name fun u s1 ⟨v, H1, I1, rv, ev, eH⟩ => ?_)
    subst ev eH
    cases (show u = Value.ref f from rv)
    have obj := (I1.hok f _ hfo).1
    have run := lam_run (X := X) (A := X.A.deeper (envOfC qg sg s.heap.objs.size g cdg)) (outer := envOfC qg sg s.heap.objs.size g cdg :: X.stack) (E := E) I L I1.env0 hr I1.base I1.nolimit obj hc I1.hok hbind hbody ht
    have hx : Passes (L2.CX X.prog X.w) ((cxOf CXg X.prog X.w X.K X.mg X.base Ng qg sg g cdg X.A X.stack s H Eg).tr pn xe) E := passes_call tk hW
    refine PySem.W.callWith_F0 ⟨_, _, _, _, obj⟩ (wpAny_call (codeAny_mono run fun r s2 hq => ?_))
    match r, hq with
    | .ok (.ret _), z => exact I1.after z
    | .ok .next, z => exact z.elim
    | .ok .brk, z => exact z.elim
    | .ok .cont, z => exact z.elim
    | .error e, z => exact hx pinsZ σZ H1 s1 e s2 I1 z
end
end DL
/-! LX3: a comprehension over lambdas: the way back to the def's own context. -/
namespace DL
open PySem PySem.Spec PyProof.Rows L2 GX
/-- from the block back to the def -/
def BackTo (X B : Cx) (σ : L2.St) : Prop := ∃ pins : List (Addr × Obj), ∀ (pinsB : List (Addr × Obj)) (σ' : L2.St) (H' : Hp) (s' : Shared), Inv B pinsB σ' H' s' → Inv X pins σ H' s'
section
variable {X : Cx} {pins : List (Addr × Obj)} {σ : L2.St} {s3 : Shared} {H3 : Hp} {scope : Scope} {ce : Env} {fp : List Addr}
/-- a block entered from X: fp the iterator's cells -/
structure Blk (X : Cx) (pins : List (Addr × Obj)) (σ : L2.St) (s3 : Shared) (H3 : Hp) (fp : List Addr) : Prop where
  inv : Inv X pins σ H3 s3
  fps : ∀ b ∈ fp, FpOk X pins H3 b ∧ b < s3.heap.objs.size
theorem Blk.back (K : Blk X pins σ s3 H3 fp) {pinsB : List (Addr × Obj)} {σ' : L2.St} {H' : Hp} {s' : Shared} (J : Inv (X.blk s3 H3 scope ce fp) pinsB σ' H' s') : Inv X pins σ H' s' := by
  apply K.inv.call' J.os J.base J.hok J.bare
  intro b hb
  obtain ⟨_, q1, _, q3, q4, q5⟩ := (K.fps b hb).1
  exact ⟨q3, q1, q4, q5⟩
/-- the iterator's cells in the block -/
theorem blk_fp {σ' : L2.St} {H' : Hp} {s' : Shared} (J : Inv (X.blk s3 H3 scope ce fp) [] σ' H' s') (z : ∀ b ∈ fp, H' b = none) : ∀ b ∈ fp, FpOk (X.blk s3 H3 scope ce fp) [] H' b := fun b hb =>
  have o := J.ok
  ⟨z b hb, (o.exf b hb).1, o.exfs b hb, .inl hb, (o.exf b hb).2, fun q hq => (List.not_mem_nil (show q ∈ ([] : List (Addr × Obj)) from hq)).elim⟩
/-- where the block stands ahead of turn i; n is left of the measure -/
def BlkAt (B : Cx) (σ0 : L2.St) (fp : List Addr) (tn : Nat → Heap → Prop) (Wm : Nat → Nat → Hp → Prop) (n : Nat) (s' : Shared) : Prop := ∃ i H', Inv B [] σ0 H' s' ∧ tn i s'.heap ∧ (∀ b ∈ fp, H' b = none) ∧ Wm i n H'
/-- the turns of a list comprehension -/
theorem blk_turns {elt tg iter : Expr} {ifs : List Expr} {vs : List Nat} {pos : Pos} {g : TG} {tt : TT} {te : TE} {J : It} {it D : Addr} {tn : Nat → Heap → Prop} {Q : VK} {Wm : Nat → Nat → Hp → Prop} {Post : Result → Shared → Prop} (hc : X.calm = true) (T : Turn X.prog X.w X.K tg J fp it tn)
    (pg : PG (X.blk s3 H3 scope ce fp) tg g) (pt : PTs (X.blk s3 H3 scope ce fp) ifs fun s H Q => wipe s vs = wipe σ vs ∧ tt s H Q) (pe : PE (X.blk s3 H3 scope ce fp) elt te)
    (turn : ∀ i m H, Wm i m H → (J.stop i H ∧ Q (.ref D) H) ∨ (J.go i H ∧ ∃ Nx : Hp → Prop, (∀ H', Nx H' → ∃ m', m' < m ∧ Wm (i + 1) m' H') ∧ ∀ x H', J.yld i H x H' → g x (wipe σ vs) H' fun σ2 H2 => wipe σ2 vs = wipe σ vs ∧ tt σ2 H2 fun b H3 =>
      if b = true then te σ2 H3 fun y H4 => ∃ acc, H4 D = some (.lst acc) ∧ acc.length < sizeLine ∧ Nx (upd H4 D (.lst (acc ++ [y]))) else Nx H3))
    (fin : ∀ σ' H' s', Inv (X.blk s3 H3 scope ce fp) [] σ' H' s' → Q (.ref D) H' → Post (.ok .next) s') {n : Nat} {s4 : Shared} (at0 : BlkAt (X.blk s3 H3 scope ce fp) (wipe σ vs) fp tn Wm n s4) :
    codeAny (model X.prog X.w) X.A (.compLoop (.ListComp elt [⟨tg, iter, ifs, 0⟩] scope pos) 0 (.ref it) (.ref D) ce) Post s4 := by
  refine compLoop_any (BlkAt (X.blk s3 H3 scope ce fp) (wipe σ vs) fp tn Wm) (fun n s5 ⟨i, H5, I5, st5, z5, w5⟩ => ?_) n at0
  have F5 := blk_fp I5 z5
  match turn i n H5 w5 with
  | .inl ⟨stop, q⟩ =>
    exact thnF (T.done (X.blk s3 H3 scope ce fp) rfl rfl rfl hc i [] s5 _ H5 _ I5 F5 st5 stop) fun r s6 ⟨er, I6⟩ => by
      cases er
      exact fin _ _ _ I6 q
  | .inr ⟨more, Nx, less, step⟩ =>
    refine thnF (T.item (X.blk s3 H3 scope ce fp) rfl rfl rfl hc i [] s5 _ H5 _ I5 F5 st5 more) fun r s6 ⟨u, er, go6⟩ => ?_
    cases er
    refine thnF go6 fun _ s7 ⟨x, H7, I7, rx, yx, st7, z7⟩ => ?_
    have held := I7.pinned (blk_fp I7 z7) (T.obj _ _ st7)
    refine thnF (pg.run _ s7 _ H7 x u _ held rx (step x H7 yx)) fun _ s8 ⟨σ8, H8, I8, w8, t8⟩ => ?_
    have next : ∀ {s' : Shared} {H' : Hp}, Inv (X.blk s3 H3 scope ce fp) ([] ++ pinsAt fp s7.heap) σ8 H' s' → Nx H' → ∃ m, m < n ∧ BlkAt (X.blk s3 H3 scope ce fp) (wipe σ vs) fp tn Wm m s' := fun {s' H'} I' nx => by
      obtain ⟨m, lt, w'⟩ := less H' nx
      have pinned : ∀ b ∈ fp, ∀ o, s7.heap.get? b = some o → s'.heap.get? b = some o ∧ H' b = none := fun b hb o e => by
        have q := I'.pin (b, o) (List.mem_append_right _ (List.mem_append_right _ (mem_pinsAt hb e)))
        exact ⟨q.1, q.2.1⟩
      have slots : ∀ (k : Nat) v, (wipe σ vs)[k]? = some (some v) → σ8[k]? = some (some v) := fun k v e => (wipe_some (w8.symm ▸ e : (wipe σ8 vs)[k]? = some (some v))).1
      refine ⟨m, lt, i + 1, H', (I'.unpinned (pins := [])).weak ?_ slots, T.keep _ _ _ st7 fun b hb o e => (pinned b hb o e).1, fun b hb => ?_, w'⟩
      · exact (congrArg List.length w8.symm).trans (wipe_length σ8 vs)
      · obtain ⟨o, e, _⟩ := T.obj _ _ st7 b hb
        exact (pinned b hb o e).2
    refine thnF (pt.run _ s8 σ8 H8 _ I8 ⟨w8, t8⟩) fun ok s9 ⟨H9, I9, t9⟩ => ?_
    match ok, t9 with
    | false, t9 => exact next I9 t9
    | true, t9 =>
      show wpAny _ _ _ _ _ _
      exact thnF (pe.run _ s9 σ8 H9 _ I9 t9) fun v s10 ⟨y, H10, I10, ry, acc, hD, hz, nx⟩ => app_ok (X := X.blk s3 H3 scope ce fp) I10 hD hz ry fun _ I11 => next I11 nx
theorem pe_lcB {elt tg iter : Expr} {ifs : List Expr} {scope : Scope} {own : List (Str × Nat)} {pos : Pos} {wi : TI} {g : TG} {tt : TT} {te : TE} (hc : X.calm = true) (hN : X.N.Nodup) (hi : PI X tg iter wi) (ok : BlkOk X.N X.env.scope scope own)
    (hg : ∀ (s : Shared) (H : Hp) (C : Addr) (cl : List (Str × Addr)) (fp : List Addr), PG (X.blk s H scope (compEnvC scope cl C X.env) fp) tg g)
    (ht : ∀ (σ : L2.St) (s : Shared) (H : Hp) (C : Addr) (cl : List (Str × Addr)) (fp : List Addr), BackTo X (X.blk s H scope (compEnvC scope cl C X.env) fp) σ → PTs (X.blk s H scope (compEnvC scope cl C X.env) fp) ifs (fun s H Q => wipe s (own.map (·.2)) = wipe σ (own.map (·.2)) ∧ tt s H Q))
    (he : ∀ (s : Shared) (H : Hp) (C : Addr) (cl : List (Str × Addr)) (fp : List Addr), PE (X.blk s H scope (compEnvC scope cl C X.env) fp) elt te) (hs : ∀ x, foldedSetIterable iter X.env x = pure x) :
    PE X (.ListComp elt [⟨tg, iter, ifs, 0⟩] scope pos) (tLc wi g tt te (own.map (·.2))) where
  run := fun pins s σ H Q I h => by
    rw [eval_ListComp]
    generalize hU : (none : Option (Value → Sem Unit)) = use
    refine wpAny_comprehension_free (use := use) rfl hs (closure_ok (blk_has ok I.ok)) ok.kind (fun q hq e => (ok.uniq q hq).trans (congrArg some e)) (thn (hi.run pins s σ H _ I h) fun _ s1 q1 => thn q1 fun _ s2 ⟨it, fp, tn, J, H2, ev, I2, T, st2, f2, q2⟩ => ?_)
    subst ev
    refine wpAny_newObj_type (newEnv_comp ?_) (Nat.zero_le sizeLine)
    obtain ⟨Wm, ⟨m0, w0⟩, turn⟩ := q2 s2.heap.objs.size (I2.hok.fresh (Nat.le_refl _))
    have I3 := I2.laid (t' := s2.toks) (o := .lst []) (h' := s2.heap.push { cls := .type "list", data := .seq ([] : List Value).toArray }) (fun _ _ e => Heap.get?_push_of_some _ e) (Nat.le_refl _) ⟨Nat.zero_le _, [], 0, .nil, Heap.get?_push_size _ rfl⟩
    have old : ∀ b ∈ fp, b < s2.heap.objs.size := fun b hb => (T.obj _ _ st2 b hb).elim fun _ z => Heap.lt_size z.1
    have K : Blk X pins σ { s2 with heap := s2.heap.push { cls := .type "list", data := .seq ([] : List Value).toArray } } (upd H2 s2.heap.objs.size (.lst [])) fp :=
      ⟨I3, fun b hb => ⟨⟨(upd_ne (Nat.ne_of_lt (old b hb))).trans (f2 b hb).1, (f2 b hb).2⟩, Nat.lt_of_lt_of_le (old b hb) (by rw [Heap.size_push]; exact Nat.le_succ _)⟩⟩
    have I4 := block_start I3 ok hN K.fps
    have st4 : tn 0 (pushCells ((s2.heap.push { cls := .type "list", data := .seq ([] : List Value).toArray }).push { cls := .type "dict", data := .dict #[] }) scope.names) := T.keep _ _ _ st2 fun b _ o e => pushCells_keeps _ _ _ _ (Heap.get?_push_of_some _ (Heap.get?_push_of_some _ e))
    have loop := blk_turns (Post := compPost (model X.prog X.w) X.A X.xe use (EP X pins σ Q) (.ref s2.heap.objs.size) (s2.heap.objs.size + 1)) (iter := iter) (pos := pos) (ce := compEnvC scope (cellsFrom (s2.heap.objs.size + 1 + 1) scope.names (cloFrom X.env.cells scope.names [])) (s2.heap.objs.size + 1) X.env) hc T
      (hg _ _ _ _ _) (ht σ _ _ _ _ _ ⟨pins, fun _ _ _ _ J6 => K.back J6⟩) (he _ _ _ _ _) turn (fun σ' H' s' J6 q => ?_) ⟨0, _, by simpa only [Heap.size_push] using I4, st4, fun b hb => (K.fps b hb).1.1, w0⟩
    · have done := codeAny_compStart_list loop (T.self X.A 0 _ _ _ st4 loop)
      simp only [Heap.size_push]
      exact done
    · have nC : H' (s2.heap.objs.size + 1) = none := J6.free
      obtain ⟨m, hn, _⟩ := J6.loc
      obtain ⟨p0, p1, _, p3, p4, p5⟩ := I3.fpOk (b := s2.heap.objs.size + 1) (by rw [Heap.size_push]; exact Nat.le_refl _) nC
      subst hU
      exact ⟨m, hn, fun h2 same => ⟨.ref s2.heap.objs.size, H', (K.back J6).turned (t' := s'.toks) (fun b o n e => (same.2 b n).trans e) p0 p1 p3 p4 p5, rfl, q⟩⟩
end
/-! ### x(f) in the comprehension, f one of the lambdas -/
/-- f: slot i; vs: the block's own slots -/
def gToldV (bs : List GE) (cs : List Str) (ret : Str) (i : Nat) (vs : List Nat) : GE := fun env m => match env[i]? with
  | some (.val (.lam j)) => (match bs[j]? with
    | some ge => gTold cs ret ge (wipeE env vs) m
    | none => .no)
  | _ => .no
/-- what a lambda's reading wants -/
def LamOk (G : Glob) (X : Cx) (kk : Nat) (l : LamL) (ge : GE) : Prop := LamX.lamSB X.env.scope l.scope = true ∧ (∀ (q : Str) (cl : List (Str × Addr)) (pm cv ctv : Value), bindArgs (PySem.W.kla_fn "<lambda>" q l.params l.body l.scope cl pm cv ctv) ⟨[], []⟩ = pure []) ∧
  ∀ (A : Around) (outer : List Env) (s : Shared) (H : Hp) (E : XK) (f c' : Addr), Room kk (A.deeper (LamX.lamEnv X l.scope s.heap.objs.size f c')) → DE G (WE E) (LamX.lamCx X A outer s H E l.scope f c') l.body ge
def LamsOk (G : Glob) (X : Cx) (kk : Nat) : List LamL → List GE → Prop
  | l :: ls, ge :: bs => LamOk G X kk l ge ∧ LamsOk G X kk ls bs
  | _, _ => True
theorem LamsOk.get {G : Glob} {X : Cx} {kk : Nat} : ∀ {ls : List LamL} {bs : List GE} {j : Nat} {l : LamL} {ge : GE}, LamsOk G X kk ls bs → ls[j]? = some l → bs[j]? = some ge → LamOk G X kk l ge
  | [], _, _, _, _, _, e, _ => by simp at e
  | _ :: _, [], _, _, _, _, _, e => by simp at e
  | _ :: _, _ :: _, 0, _, _, h, e1, e2 => by
    simp at e1 e2
    subst e1 e2
    exact h.1
  | _ :: _, _ :: _, _ + 1, _, _, h, e1, e2 => h.2.get (by simpa using e1) (by simpa using e2)
section
variable {G : Glob} {W : WX} {X : Cx}
theorem wipe_le (σ : L2.St) (vs : List Nat) (i : Nat) (v : V) (e : (wipe σ vs)[i]? = some (some v)) : σ[i]? = some (some v) := (wipe_some e).1
theorem pe_toldV {x a y ret : Str} {cs : List Str} {kk i : Nat} {ls : List LamL} {bs : List GE} {vs : List Nat} {σ0 : L2.St} {s0 : Shared} {H0 : Hp} {scope : Scope} {cenv : Env} {fp : List Addr} {p py pos : Pos} (T : ToldD G X.K X.mg x a ret cs) (hr : Room (kk + 2) X.A)
    (back : BackTo X (X.blk s0 H0 scope cenv fp) σ0) (hlp : G.lamP = lampOf (lamN X) X.env.cells ls) (hlq : G.lq = lamN X)
    (hls : LamsOk G X kk ls bs)
    (hg : Gl (X.blk s0 H0 scope cenv fp) x) (hN : X.N[i]? = some y) (hvy : Vis cenv.scope y)
    (hdb : (x == ("__debug__" : Str)) = false := by decide) (hdy : (y == ("__debug__" : Str)) = false := by decide) (hcy : (y == ("__classdict__" : Str)) = false := by decide) (hd : (a == ("__debug__" : Str)) = false := by decide) (hcd : (a == ("__classdict__" : Str)) = false := by decide) :
    PE (X.blk s0 H0 scope cenv fp) (.Call (.Name x p) [.Name y py] [] pos) (fun s H Q => wipe s vs = wipe σ0 vs ∧ ∃ al, dT G al W0 (gToldV bs cs ret i vs) s H Q) := by
  obtain ⟨g, CS, fd, pg, bg, sg, e, jj, p1, p2, p3, p4, p5, p6, p7, p8, Fd, hm, hb, Sg, hva, rfl, hge, hme, hde, hcs⟩ := T.ex
  obtain ⟨oc, od, dV, kV, doc, pm, an, cdv, ct, osl, rfl, lk, hcg, _, _⟩ := Fd.ex
  refine ⟨fun pinsB s σ H Q IB ⟨hw, al, k, env, mem, R, h⟩ => ?_⟩
  obtain ⟨pinsX, back⟩ := back
  have h : PostR G al W0 (PdE G) k env σ H Q (match env[i]? with | some (.val (.lam j)) => (match bs[j]? with | some ge => gTold cs ret ge (wipeE env vs) mem | none => .no) | _ => .no) := h
  split at h
  · rename_i j ej
    split at h
    · rename_i ge ebs
      obtain ⟨ov, h1, h2⟩ := R.slots i _ ej
      cases ov with
      | none => exact h2.elim
      | some v =>
        have h2 : Rep G k.mu k.rho H (.lam j) v := h2
        cases h2 with
        | @lam _ f c' o ho hp hnt hnm hco hnc =>
        rw [hlp] at hp
        obtain ⟨l, pm', ctv, hl, rfl⟩ := hp
        rw [hlq] at hco
        obtain ⟨hLS, hbind, hbody⟩ := hls.get hl ebs
        refine wpAny_Call_Name_kw (ld_glob IB hg hm ?_ hdb)
        refine PySem.W.callWith_K (h₀ := X.base) IB.ok.mod.kin Fd.kp ?_ (by rfl) (by rfl)
        show wpAny _ _ (spliced ((false, eval (.Name y py) (X.blk s0 H0 scope cenv fp).env) :: backTo pos (starEach [] (X.blk s0 H0 scope cenv fp).env))) _ _ s
        refine Calls.spliced_cons (thn ((pe_var (X := X.blk s0 H0 scope cenv fp) (pos := py) (i := i) hN hvy hdy hcy).run pinsB s σ H (fun v H1 => v = .ref f ∧ H1 = H) IB ⟨.ref f, h1, rfl, rfl⟩) fun u s1 ⟨v, H1, I1, r1, q1⟩ => ?_)
        obtain ⟨ev, eH⟩ := q1
        subst ev
        rw [eH] at I1
        obtain rfl : u = Value.ref f := r1
        refine Calls.spliced_nil ⟨I1.kIn, ?_⟩
        have IX : Inv X pinsX (wipe σ vs) H s1 := by
          rw [hw]
          exact (back _ _ _ _ I1).weak (wipe_length _ _) fun i v e => (wipe_some e).1
        have Rw := R.wipe vs
        have rc : codeAny (model X.prog X.w) X.A (.call (.ref g) ⟨[.ref f], []⟩) (CR C8.CX0 X.stack X.prog X.w H s1 Q C8.E0) s1 := by
          refine LamX.run_ofS (N := [a]) (ps := [a]) (us := [.ref f]) (vs := [.ref f]) lk hcg Sg hr IX.env0 (hb s1 [.ref f] IX.kIn rfl) (.cons rfl .nil) rfl fun hr' => ?_
          have hT : LamX.TTold X.K CS ret (fun E HZ Q' => HZ f = some (lamPhi (lamN X) X.env.cells l f pm' c' ctv) ∧ dT G al (WE E) ge (wipe σ vs) HZ Q') H Q := by
            refine ⟨ho, k, wipeE env vs, mem, Rw, ?_⟩
            have h : PostR G al W0 (PdE G) k env σ H Q (match ge (wipeE env vs) mem with | .ok d m => .ok d m | .ex c m => if c ∈ cs then .ok (.str ret) m else .no | .no => .no) := h
            have h2 : PostR G al W0 (PdE G) k (wipeE env vs) (wipe σ vs) H Q (match ge (wipeE env vs) mem with | .ok d m => .ok d m | .ex c m => if c ∈ cs then .ok (.str ret) m else .no | .no => .no) := by
              generalize (match ge (wipeE env vs) mem with | .ok d m => RE.ok d m | .ex c m => if c ∈ cs then .ok (.str ret) m else .no | .no => .no) = r at h ⊢
              cases r with
              | ok d m => exact fun k' v H' R' E' P' => h k' v H' (R.step E' R'.wr) E' P'
              | ex c m => exact fun k' H' C R' E' hc => h k' H' C (R.step E' R'.wr) E' hc
              | no => exact h
            exact told_post hcs h2
          obtain ⟨t', ht', hq'⟩ := LamX.told_gives (X := X) (Ng := [a]) (a := a) (g := g) (cdg := cdv) (q := lamN X) (ret := ret) (j := jj) (p1 := p1) (p2 := p2) (p3 := p3) (p4 := p4) (p5 := p5) (p6 := p6) (p7 := p7) (p8 := p8) hge hme hde (fun f => rfl) f c' s1 H Q
            (fun E HZ Q' => HZ f = some (lamPhi (lamN X) X.env.cells l f pm' c' ctv) ∧ dT G al (WE E) ge (wipe σ vs) HZ Q')
            (fun W pn xe E p1 p2 tk hW => pe_actB (i := 0) rfl IX (LamX.lamS_by hLS) (hbind _ _ _ _ _) tk hW hr' (fun A outer s H hr2 => hbody A outer s H E f c' hr2 al) rfl hva hd hcd) hco hT
          exact ⟨t', ht'.nox, hq'⟩
        refine wpAny_call (codeAny_mono rc fun r s2 hq => ?_)
        cases r with
        | error e => exact (show False from hq).elim
        | ok fl =>
          cases fl with
          | ret u => exact I1.after hq
          | next => exact False.elim hq
          | brk => exact False.elim hq
          | cont => exact False.elim hq
    · exact h.elim
  · exact h.elim
/-- .. if x(f) != "e" -/
theorem pts_toldV {x y ret lit : Str} {a : Str} {cs : List Str} {kk i j : Nat} {ls : List LamL} {bs : List GE} {vs : List Nat} {σ0 : L2.St} {s0 : Shared} {H0 : Hp} {scope : Scope} {cenv : Env} {fp : List Addr} {p py pos ps pc : Pos} (T : ToldD G X.K X.mg x a ret cs) (hr : Room (kk + 2) X.A) (c : CO G X)
    (back : BackTo X (X.blk s0 H0 scope cenv fp) σ0) (hlp : G.lamP = lampOf (lamN X) X.env.cells ls) (hlq : G.lq = lamN X)
    (hls : LamsOk G X kk ls bs)
    (hg : Gl (X.blk s0 H0 scope cenv fp) x) (hN : X.N[i]? = some y) (hvy : Vis cenv.scope y)
    (hdb : (x == ("__debug__" : Str)) = false := by decide) (hdy : (y == ("__debug__" : Str)) = false := by decide) (hcy : (y == ("__classdict__" : Str)) = false := by decide) (hd : (a == ("__debug__" : Str)) = false := by decide) (hcd : (a == ("__classdict__" : Str)) = false := by decide) :
    PTs (X.blk s0 H0 scope cenv fp) [.Compare (.Call (.Name x p) [.Name y py] [] pos) [.NotEq] [.Constant (.str lit) j ps] pc] (fun s H Q => wipe s vs = wipe σ0 vs ∧ ∃ al, dTT G al W0 (gtV (gBin fNe (gToldV bs cs ret i vs) (gC (.str lit)))) s H Q) := by
  obtain ⟨r, hop, hf⟩ := od_ne (c.blk (s := s0) (H := H0) (scope := scope) (cenv := cenv) (fp := fp))
  refine pts_weak (pts_one (pt_cmpR hop (pe_toldV (vs := vs) T hr back hlp hlq hls hg hN hvy hdb hdy hcy hd hcd) (pe_str) (nomark _))) fun s H Q ⟨hw, al, k, env, mem, R, h⟩ => ?_
  have h : PostR G al W0 (fun _ _ (a b : Bool) => a = b) k env s H Q ((gBin fNe (gToldV bs cs ret i vs) (gC (.str lit)) env mem).bind fun x m => opt (asB x) m) := h
  have h2 : PostR G al W0 (PdE G) k env s H (fun v H' => ∃ k, v = .bl k ∧ Q k H') (gBin fNe (gToldV bs cs ret i vs) (gC (.str lit)) env mem) := PostR.bind h fun x m k1 v1 H1 R1 E1 P1 h => by
    obtain ⟨q, eq, h⟩ := opt_ok h
    rw [asB_ok eq] at P1
    cases P1
    exact ⟨q, rfl, PostR.here h R1 rfl⟩
  refine ⟨hw, al, k, env, mem, R, PostR.bind h2 fun x m k1 v1 H1 R1 E1 P1 h => ?_⟩
  have h : PostR G al W0 (PdE G) k1 env s H1 _ (opt (fNe m x (.str lit)) m) := h
  obtain ⟨z, ez, h⟩ := opt_ok h
  exact hf al k1 env m s H1 x (.str lit) z v1 (.str lit) _ R1 (.inl P1) (.inl (.str lit)) ez fun k' v H' R' E' P' => h k' v H' R' E' P'
/-- [1 for f in bad if x(f) != "e"] -/
theorem dn_toldLc {x y ret lit : Str} {a : Str} {cs : List Str} {kk i j : Nat} {ls : List LamL} {bs : List GE} {elt iter : Expr} {scope : Scope} {own : List (Str × Nat)} {pos' p py pt pos ps pc : Pos} {gi : GA} {gg : GG} {ge : GE} {L : List Nat} (T : ToldD G X.K X.mg x a ret cs) (hr : Room (kk + 2) X.A) (c : CO G X) (hN : X.N.Nodup)
    (hi : DI G W X (.Name y pt) iter gi) (ok : BlkOk X.N X.env.scope scope own) (hlp : G.lamP = lampOf (lamN X) X.env.cells ls) (hlq : G.lq = lamN X)
    (hls : LamsOk G X kk ls bs)
    (hg : ∀ (s : Shared) (H : Hp) (C : Addr) (cl : List (Str × Addr)) (fp : List Addr), DG G (X.blk s H scope (compEnvC scope cl C X.env) fp) (.Name y pt) L gg)
    (he : ∀ (s : Shared) (H : Hp) (C : Addr) (cl : List (Str × Addr)) (fp : List Addr), DE G W0 (X.blk s H scope (compEnvC scope cl C X.env) fp) elt ge)
    (hL : ∀ j ∈ L, j ∈ own.map (·.2)) (hgl : ∀ (s : Shared) (H : Hp) (C : Addr) (cl : List (Str × Addr)) (fp : List Addr), Gl (X.blk s H scope (compEnvC scope cl C X.env) fp) x) (hy : X.N[i]? = some y) (hvy : ∀ (C : Addr) (cl : List (Str × Addr)), Vis (compEnvC scope cl C X.env).scope y)
    (hdb : (x == ("__debug__" : Str)) = false := by decide) (hdy : (y == ("__debug__" : Str)) = false := by decide) (hcy : (y == ("__classdict__" : Str)) = false := by decide) (hd : (a == ("__debug__" : Str)) = false := by decide) (hcd : (a == ("__classdict__" : Str)) = false := by decide)
    (hs : ∀ x, foldedSetIterable iter X.env x = pure x := by intro _; rfl) :
    DN G W X (.ListComp elt [⟨.Name y pt, iter, [.Compare (.Call (.Name x p) [.Name y py] [] pos) [.NotEq] [.Constant (.str lit) j ps] pc], 0⟩] scope pos') (gComp (own.map (·.2)) gi gg (gtV (gBin fNe (gToldV bs cs ret i (own.map (·.2))) (gC (.str lit)))) ge) := fun al =>
  pe_weak (pe_lcB (tt := fun s H Q => ∃ al, dTT G al W0 (gtV (gBin fNe (gToldV bs cs ret i (own.map (·.2))) (gC (.str lit)))) s H Q) (te := fun s H Q => ∃ al, dT G al W0 ge s H Q) (g := fun v s H Q => ∃ al k env mem d env', Rel G al k env mem s H ∧ Rep G k.mu k.rho H d v ∧ gg d env = some env' ∧ ∀ s', SameBut L s s' → Rel G al k env' mem s' H → Q s' H)
    c.calm hN (hi al) ok (fun s H C cl fp => ⟨fun pins s' σ H v u Q I r q => by
      obtain ⟨al, q⟩ := q
      exact (hg s _ C cl fp al).run pins s' σ H v u Q I r q⟩) (fun σ s H C cl fp back => pts_toldV T hr c back hlp hlq hls (hgl s H C cl fp) hy (hvy C cl) hdb hdy hcy hd hcd) (fun s H C cl fp => ⟨fun pins s' σ H Q I q => by
      obtain ⟨al, q⟩ := q
      exact (he s _ C cl fp al).run pins s' σ H Q I q⟩) hs) fun s H Q q =>
    comp_core (fun s H R z => z) (fun al v s H Q z => ⟨al, z⟩) (fun al s H Q z => ⟨al, z⟩) (fun al s H Q z => ⟨al, z⟩) hL q
end
end DL
/-! LX4: defs with tables; the law. -/
namespace DL
open PySem PySem.Spec PyProof.Rows L2 GX
section
variable {G : Glob} {P : Program} {w : World} {K : PySem.W.Frag} {mg : Str → Option Value} {base : Heap} {name qual : Str} {params : Arguments} {body : List Stmt} {scope : Scope} {fd : FuncData} {N ps : List Str} {j : Nat} {g : GS} {p : Str × Option Str}
theorem fnok_body {k : Ka} {mem : List MO} {ds : List DL.D} {vs : List V} {H : Hp} {Q : VK} {E : XK} (w : WR G k mem H) (r : Reps G k.mu k.rho H ds vs) (hn : vs.length = ps.length) (q : match fnD N.length ps.length g ds mem with
  | .ok d m => ∀ k' v H', WR G k' m H' → Ext k H k' H' → Rep G k'.mu k'.rho H' d v → Q v H'
  | .ex c m => ∀ k' H' C, WR G k' m H' → Ext k H k' H' → G.exc c = some C → E (.ref C) none H'
  | .no => False) : dTs G (k.act H) (WE E) g { nx := fun _ H' => Q .non H', rt := Q } (L2.start N vs) H := by
  refine ⟨k.into, envOf N.length ds, mem, start_rel w r, ?_⟩
  unfold fnD at q
  rw [if_pos (by rw [r.length]; exact hn)] at q
  cases hg : g (envOf N.length ds) mem with
  | ok fl env m =>
    rw [hg] at q
    cases fl with
    | nx =>
      intro k2 s2 H2 R2 S2
      obtain ⟨b1, b2, b3⟩ := Rel.back w R2
      exact q _ _ _ b1 b2 .non
    | bk => exact q.elim
    | ct => exact q.elim
    | rt d =>
      intro k2 s2 H2 v2 R2 S2 r2
      obtain ⟨b1, b2, b3⟩ := Rel.back w R2
      exact q _ _ _ b1 b2 (Rep.stay b3 r2)
  | ex c env m =>
    rw [hg] at q
    intro k2 s2 H2 C R2 S2 hc
    obtain ⟨b1, b2, b3⟩ := Rel.back w R2
    exact q _ _ _ b1 b2 hc
  | no => rw [hg] at q; exact q
/-- a def with a table: its code object is known -/
theorem fnok_ofT (Fd : FunD K name qual params body scope [] [] (He.fAd K p) fd) (S : FnScope N ps scope)
    (hbody : ∀ (A : Around) (outer : List Env) (s : Shared) (H : Hp) (E : XK), Room j (A.deeper (PyProof.Rows.envOfC qual scope s.heap.objs.size (He.fAd K p) (.ref (He.codeOf K p)))) → DSs G (WE E) (cxOf (L2.CX P w) P w K mg base N qual scope (He.fAd K p) (.ref (He.codeOf K p)) A outer s H E) body g) :
    FnOk P w K mg base (L2.CX P w) (j + 1) (He.fAd K p) fd ps (spD G ps.length (fnD N.length ps.length g)) := by
  obtain ⟨oc, od, dV, kV, doc, pm, an, cdv, ct, osl, rfl, lk, hcd, _, _⟩ := Fd.ex
  obtain ⟨c, rfl⟩ := He.codeIn_ref hcd
  have hc : He.codeOf K p = c := He.codeOf_eq lk rfl
  refine fn_of lk hcd S (fun vs H Q E q => q.1) fun A outer s H vs Q E hr ⟨hn, k, mem, ds, w, r, q⟩ => ?_
  have hb := hbody A outer s H E (by rw [hc]; exact hr)
  rw [hc] at hb
  exact ⟨_, hb (k.act H), fnok_body w r hn q⟩
/-- the law: the script's list, the tables -/
def lawSp (K : PySem.W.Frag) (n : Nat) (cs : List (Addr × Addr)) : Sp := fun vs H Q E => vs.length = 1 ∧ ∃ (a : Addr) (ns : List Int), vs = [.ref a] ∧ ns.length ≤ n ∧ (∀ z ∈ ns, Builtin.Int.intBits z ≤ 1048576) ∧ (∀ p ∈ cs, H p.2 = some (.tbl #[])) ∧ SqL K H a (ns.map V.int) ∧ ∀ H', Q (.bl true) H'
theorem reps_int {mu : Addr → Prop} {rho : List Addr} {H : Hp} : ∀ ns : List Int, Reps G mu rho H (ns.map .int) (ns.map V.int)
  | [] => .nil
  | n :: ns => .cons (.int n) (reps_int ns)
def kNil : Ka := ⟨[], fun _ => none, fun _ => False⟩
theorem kNil_mu (a : Addr) : ¬ kNil.mu a := fun z => by
  rcases z with z | ⟨i, z⟩ | z
  · cases z
  · cases z
  · exact z
theorem wr_nil {H : Hp} (t : TabsA G H) : WR G kNil [] H where
  len := rfl
  mem := fun i mo a e => by simp at e
  nd := List.nodup_nil
  oi := fun i j p e => nomatch e
  onr := fun i p e => nomatch e
  nout := fun a h => h.elim
  trk := fun a h => (kNil_mu a h).elim
  tabs := t
/-- THE RULE for the law -/
theorem lawok_of {x : Str} {n : Nat} {cs : List (Addr × Addr)} (hz : n ≤ sizeLine) (Fd : FunD K name qual params body scope [] [] (He.fAd K p) fd) (S : FnScope N [x] scope)
    (hbody : ∀ (A : Around) (outer : List Env) (s : Shared) (H : Hp) (E : XK), Room j (A.deeper (PyProof.Rows.envOfC qual scope s.heap.objs.size (He.fAd K p) (.ref (He.codeOf K p)))) →
      ∃ G : Glob, G.K = K ∧ (∀ H : Hp, (∀ p ∈ cs, H p.2 = some (.tbl #[])) → TabsA G H) ∧ DSs G (WE E) (cxOf (L2.CX P w) P w K mg base N qual scope (He.fAd K p) (.ref (He.codeOf K p)) A outer s H E) body g)
    (hlaw : ∀ ns : List Int, ns.length ≤ n → (∀ z ∈ ns, Builtin.Int.intBits z ≤ 1048576) → ∃ m, fnD N.length 1 g [.slst (ns.map .int)] [] = .ok (.bl true) m) :
    FnOk P w K mg base (L2.CX P w) (j + 1) (He.fAd K p) fd [x] (lawSp K n cs) := by
  obtain ⟨oc, od, dV, kV, doc, pm, an, cdv, ct, osl, rfl, lk, hcd, _, _⟩ := Fd.ex
  obtain ⟨c, rfl⟩ := He.codeIn_ref hcd
  have hc : He.codeOf K p = c := He.codeOf_eq lk rfl
  refine fn_of lk hcd S (fun vs H Q E q => q.1) fun A outer s H vs Q E hr ⟨hn, a, ns, hvs, hl, hb, ht, hs, q⟩ => ?_
  subst hvs
  obtain ⟨G, hK, hT, hd⟩ := hbody A outer s H E (by rw [hc]; exact hr)
  rw [hc] at hd
  obtain ⟨m, e⟩ := hlaw ns hl hb
  have hA : SlsAt G.K kNil.mu H a (ns.map V.int) := by
    rw [hK]
    exact hs.elim (fun z => .inl ⟨z, kNil_mu a⟩) fun z => .inr (.inr z)
  refine ⟨_, hd (kNil.act H), fnok_body (ps := [x]) (ds := [.slst (ns.map .int)]) (wr_nil (hT H ht)) (.cons (.slst hA (by rw [List.length_map]; exact Nat.le_trans hl hz) (reps_int ns)) .nil) rfl ?_⟩
  show (match fnD N.length 1 g [.slst (ns.map .int)] [] with
    | .ok d m => ∀ k' v H', WR G k' m H' → Ext kNil H k' H' → Rep G k'.mu k'.rho H' d v → Q v H'
    | .ex c m => ∀ k' H' C, WR G k' m H' → Ext kNil H k' H' → G.exc c = some C → E (.ref C) none H'
    | .no => False)
  rw [e]
  intro k' v H' _ _ r
  cases r
  exact q H'
theorem gtab_of {X : Cx} {P0 : Addr} {c : Addr} (TB : LamX.TabB X.base X.mg c P0) (hcode : X.env.code = .ref c) (hm : P0 ∈ G.TG) (hn : ∀ p ∈ G.T, p.1 ≠ P0) : GTab G X P0 := ⟨⟨c, ⟨TB.code, TB.bm, TB.gP⟩, hcode⟩, hm, hn⟩
theorem tabsA_of {H : Hp} (h1 : ∀ p ∈ G.T, H p.1 = some (.tbl #[])) (h2 : ∀ P ∈ G.TG, H P = some (.tbl #[])) : TabsA G H := ⟨fun p hp => LamX.TabS.nil (h1 p hp), fun P hP => ⟨#[], h2 P hP, True.intro⟩⟩
/-- the lambdas written in a list -/
def lamsOf : Stmt → List LamL
  | .Assign _ (.List es _) _ => es.filterMap fun e => match e with
    | .Lambda p b s _ => some ⟨p, b, s⟩
    | _ => none
  | _ => []
theorem lams_cons {X : Cx} {kk : Nat} {l : LamL} {ls : List LamL} {ge : GE} {bs : List GE} (hL : LamX.lamSB X.env.scope l.scope = true) (hbind : ∀ (q : Str) (cl : List (Str × Addr)) (pm cv ctv : Value), bindArgs (PySem.W.kla_fn "<lambda>" q l.params l.body l.scope cl pm cv ctv) ⟨[], []⟩ = pure [])
    (h : ∀ (A : Around) (outer : List Env) (s : Shared) (H : Hp) (E : XK) (f c' : Addr), Room kk (A.deeper (LamX.lamEnv X l.scope s.heap.objs.size f c')) → DE G (WE E) (LamX.lamCx X A outer s H E l.scope f c') l.body ge) (r : LamsOk G X kk ls bs) : LamsOk G X kk (l :: ls) (ge :: bs) := ⟨⟨hL, hbind, h⟩, r⟩
theorem lams_nil {X : Cx} {kk : Nat} : LamsOk G X kk [] [] := trivial
end
end DL
/-! LX5: the defs out of the head's facts. -/
namespace DL
open PySem PySem.Spec PyProof.Rows L2 GX
section
variable {G : Glob} {P : Program} {w : World} {K : PySem.W.Frag} {mg : Str → Option Value} {base : Heap} {x c qual name : Str} {params : Arguments} {body : List Stmt} {scope : Scope} {f C : Addr} {fd : FuncData} {ps : List Str} {k n : Nat} {F F' : FD}
theorem calD_of (Fd : FunD K name qual params body scope [] [] f fd) (ok : FnOk P w K mg base (L2.CX P w) k f fd ps (spD G n F)) (hm : mg x = some (.ref f)) (hn : ps.length = n)
    (hb : ∀ (kV doc pm : Value) (an : Option Addr) (cdv ct : Value) (us : List Value), us.length = ps.length → bindArgs (PySem.W.fnOf name qual params body scope .none kV doc pm an cdv ct) ⟨us, []⟩ = pure (ps.zip us)) (hq : ∀ ds m, F' ds m ≠ .no → F ds m = F' ds m) : CalD G P w K mg base k x n F' :=
  CalD.mono (F := F) ⟨f, fd, ps, ok, hm, Fd.kp, Fd.bindsN hb, hn⟩ hq
theorem metD_of (Fd : FunD K name qual params body scope [] [] f fd) (ok : FnOk P w K mg base (L2.CX P w) k f fd ps (spD G n F)) (hc : G.cls c = some C) (hC : Cls K C) (hM : Meth K C x f) (hn : ps.length = n)
    (hb : ∀ (kV doc pm : Value) (an : Option Addr) (cdv ct : Value) (us : List Value), us.length = ps.length → bindArgs (PySem.W.fnOf name qual params body scope .none kV doc pm an cdv ct) ⟨us, []⟩ = pure (ps.zip us)) (hq : ∀ ds m, F' ds m ≠ .no → F ds m = F' ds m) : MetD G P w K mg base k c x n F' :=
  MetD.mono (F := F) ⟨C, f, fd, ps, hc, hC, hM, ok, Fd.bindsN hb, hn⟩ hq
theorem clsD_of (Fd : FunD K name qual params body scope [] [] f fd) (ok : FnOk P w K mg base (L2.CX P w) k f fd ps (spD G n F)) (hc : G.cls c = some C) (hm : mg c = some (.ref C)) (hM : Mk K C f) (hn : ps.length = n)
    (hb : ∀ (kV doc pm : Value) (an : Option Addr) (cdv ct : Value) (us : List Value), us.length = ps.length → bindArgs (PySem.W.fnOf name qual params body scope .none kV doc pm an cdv ct) ⟨us, []⟩ = pure (ps.zip us)) : ClsD G P w K mg base k c n F :=
  ⟨C, f, fd, ps, hc, hm, hM, ok, Fd.bindsN hb, hn⟩
/-- the promise that nobody may ask for -/
theorem calD_no (Fd : FunD K name qual params body scope [] [] f fd) (hm : mg x = some (.ref f)) (hn : ps.length = n)
    (hb : ∀ (kV doc pm : Value) (an : Option Addr) (cdv ct : Value) (us : List Value), us.length = ps.length → bindArgs (PySem.W.fnOf name qual params body scope .none kV doc pm an cdv ct) ⟨us, []⟩ = pure (ps.zip us)) : CalD G P w K mg base k x n (fun _ _ => .no) :=
  ⟨f, fd, ps, ⟨fun vs H Q E h => by
    obtain ⟨_, _, _, _, _, _, h⟩ := h
    exact h.elim, fun A outer s H args us vs Q E hr I hb hv h => by
    obtain ⟨_, _, _, _, _, _, h⟩ := h
    exact h.elim⟩, hm, Fd.kp, Fd.bindsN hb, hn⟩
theorem excD_of (h : G.exc c = some (He.ga K c)) (hm : mg c = some (.ref (He.ga K c))) (hc : (He.Fa.exc c).ok K = true) : ExcD G K mg c := by
  obtain ⟨h1, h2, h3, h4⟩ := He.exc_ok hc
  exact ⟨_, h, hm, h1, h2, h3, h4⟩
end
end DL
/-! DL13: an own list read in an expression: it stays its slot's own, where nothing that came may stand for it. -/
namespace DL
open PySem PySem.Spec L2 GX
mutual
def nl : DL.D → Bool
  | .tup xs => nlL xs
  | .ins _ fs => nlF fs
  | .dct kvs => nlK kvs
  | .lst _ => false
  | .slst _ => false
  | .lam _ => false
  | _ => true
def nlL : List DL.D → Bool
  | [] => true
  | x :: xs => nl x && nlL xs
def nlF : List (Str × DL.D) → Bool
  | [] => true
  | x :: xs => nl x.2 && nlF xs
def nlK : List (Key × DL.D) → Bool
  | [] => true
  | x :: xs => nl x.2 && nlK xs
end
def nlM : MO → Bool
  | .lst xs => nlL xs
  | .dct kvs => nlK kvs
  | .ins _ fs => nlF fs
theorem nlF_eq : ∀ fs : List (Str × DL.D), nlF fs = nlL (fs.map (·.2))
  | [] => rfl
  | x :: xs => by rw [nlF, List.map_cons, nlL, nlF_eq xs]
theorem nlK_eq : ∀ fs : List (Key × DL.D), nlK fs = nlL (fs.map (·.2))
  | [] => rfl
  | x :: xs => by rw [nlK, List.map_cons, nlL, nlK_eq xs]
section
variable {G : Glob} {mu mu' : Addr → Prop} {rho : List Addr} {H : Hp} {p : Addr} {vs : List V}
mutual
theorem Rep.thaw (hp : H p = some (.lst vs)) (hm : ∀ a, mu' a → mu a ∨ a = p) {d : DL.D} {v : V} (h : Rep G mu rho H d v) (n : nl d = true) : Rep G mu' rho H d v :=
  match d, v, h with
  | _, _, .non => .non
  | _, _, .bl b => .bl b
  | _, _, .int i => .int i
  | _, _, .str x => .str x
  | _, _, .tup h1 h2 h3 => .tup (h1.elim (fun z => .inl ⟨z.1, fun q => (hm _ q).elim z.2 fun e => by
      rw [e] at z
      rcases z.1 with z | ⟨o, z⟩ <;> rw [hp] at z <;> cases z⟩) .inr) h2 (Reps.thaw hp hm h3 (by rw [nl] at n; exact n))
  | _, _, .lst h1 h2 h3 => by simp [nl] at n
  | _, _, .ins h1 h2 h3 h4 h5 => .ins h1 h2 (fun q => (hm _ q).elim h3 fun e => by
      rw [e, hp] at h1
      cases h1) h4 (Reps.thaw hp hm h5 (by rw [nl, nlF_eq] at n; exact n))
  | _, _, .dct h1 h2 h3 h4 h5 => .dct h1 (fun q => (hm _ q).elim h2 fun e => by
      rw [e, hp] at h1
      cases h1) h3 h4 (Reps.thaw hp hm h5 (by rw [nl, nlK_eq] at n; exact n))
  | _, _, .ref h1 => .ref h1
  | _, _, .lam h1 h2 h3 h4 h5 h6 => by simp [nl] at n
  | _, _, .slst h1 h2 h3 => by simp [nl] at n
theorem Reps.thaw (hp : H p = some (.lst vs)) (hm : ∀ a, mu' a → mu a ∨ a = p) {ds : List DL.D} {us : List V} (h : Reps G mu rho H ds us) (n : nlL ds = true) : Reps G mu' rho H ds us :=
  match ds, us, h with
  | _, _, .nil => .nil
  | _, _, .cons h1 h2 => .cons (Rep.thaw hp hm h1 (by rw [nlL, Bool.and_eq_true] at n; exact n.1)) (Reps.thaw hp hm h2 (by rw [nlL, Bool.and_eq_true] at n; exact n.2))
end
end
section
variable {G : Glob} {al : Act} {k k1 : Ka} {env : List DL.Slot} {mem m1 : List MO} {s : L2.St} {H H1 : Hp} {p : Addr}
theorem thaw_mu {i : Nat} {a : Addr} (h : (k1.setOwn i (some p)).mu a) : k1.mu a ∨ a = p := by
  rcases h with z | ⟨j, z⟩ | z
  · exact .inl (.inl z)
  · by_cases hj : j = i
    · subst hj
      rw [Ka.setOwn_self] at z
      exact .inr (Option.some.inj z).symm
    · rw [Ka.setOwn_ne hj] at z
      exact .inl (.inr (.inl ⟨j, z⟩))
  · exact .inl (.inr (.inr z))
theorem Rel.thaw (R : Rel G al k env mem s H) (i : Nat) {xs : List DL.D} {vs : List V} (hp : k.own i = some p) (hv : H p = some (.lst vs)) (R1 : Rel G al k1 (env.set i (.val (.lst xs))) m1 s H1) (E1 : Ext (k.setOwn i none) H k1 H1) (hn : m1.all nlM = true) :
    Rel G al (k1.setOwn i (some p)) env m1 s H1 ∧ Ext k H (k1.setOwn i (some p)) H1 ∧ H1 p = some (.lst vs) := by
  obtain ⟨more, er, fr⟩ := E1.rho
  have er : k1.rho = k.rho ++ more := er
  have eo : (k1.setOwn i (some p)).own = k.own := by
    funext j
    by_cases hj : j = i
    · subst hj
      rw [Ka.setOwn_self, hp]
    · rw [Ka.setOwn_ne hj, E1.own, Ka.setOwn_ne hj]
  have h1 : H1 p = some (.lst vs) := E1.keep p _ hv (R.wr.onr i p hp) notbl_lst
  have E2 : Ext k H (k1.setOwn i (some p)) H1 := ⟨E1.keep, E1.tb, ⟨more, er, fr⟩, eo, E1.out⟩
  refine ⟨R.step E2 ⟨R1.wr.len, fun j mo a e1 e2 => ?_, R1.wr.nd, fun a b q e1 e2 => ?_, fun j q hq z => ?_, fun a ha => ⟨(R1.wr.nout a ha).1, fun j => ?_⟩, fun a ha => ?_, R1.wr.tabs⟩, E2, h1⟩
  · have q := R1.wr.mem j mo a e1 e2
    have hnl : nlM mo = true := List.all_eq_true.mp hn mo (List.mem_of_getElem? e1)
    cases mo with
    | lst ys =>
      obtain ⟨us, g1, g2, g3⟩ := q
      exact ⟨us, g1, g2, g3.thaw h1 (fun a => thaw_mu) hnl⟩
    | dct kvs =>
      obtain ⟨kv, g1, g2, g3, g4⟩ := q
      exact ⟨kv, g1, g2, g3, g4.thaw h1 (fun a => thaw_mu) (by rw [← nlK_eq]; exact hnl)⟩
    | ins c fs =>
      obtain ⟨C, dx, fv, g1, g2, g3, g4⟩ := q
      exact ⟨C, dx, fv, g1, g2, g3, g4.thaw h1 (fun a => thaw_mu) (by rw [← nlF_eq]; exact hnl)⟩
  · rw [eo] at e1 e2
    exact R.wr.oi a b q e1 e2
  · rw [eo] at hq
    have z : q ∈ k1.rho := z
    rw [er] at z
    rcases List.mem_append.mp z with z | z
    · exact R.wr.onr j q hq z
    · obtain ⟨o, e, _⟩ := R.wr.trk q (.inr (.inl ⟨j, hq⟩))
      rw [fr q z] at e
      cases e
  · rw [eo]
    have : k1.out a := ha
    rw [E1.out] at this
    exact (R.wr.nout a this).2 j
  · rcases thaw_mu ha with z | z
    · exact R1.wr.trk a z
    · rw [z]
      exact ⟨_, h1, trivial⟩
end
/-! ### the wrappers -/
def thawR {α : Type} (c : α → Bool) : RE α → RE α
  | .ok a m => if (c a && m.all nlM) = true then .ok a m else .no
  | .ex e m => if m.all nlM = true then .ex e m else .no
  | .no => .no
def gThaw {α : Type} (c : α → Bool) (i : Nat) (g : List DL.Slot → List MO → RE α) : List DL.Slot → List MO → RE α := fun env m => match env[i]? with
  | some (.own xs) => thawR c (g (env.set i (.val (.lst xs))) m)
  | _ => g env m
section
variable {G : Glob} {al : Act} {W : WX} {X : Cx} {k : Ka} {env : List DL.Slot} {mem : List MO} {s : L2.St} {H : Hp} {e : Expr}
theorem thaw_core {α β : Type} {c : α → Bool} {i : Nat} {g : List DL.Slot → List MO → RE α} {Pd : Ka → Hp → α → β → Prop} {Q : β → Hp → Prop} (R : Rel G al k env mem s H)
    (hPd : ∀ (k1 : Ka) (H1 : Hp) (p : Addr) (vs : List V) a v, c a = true → H1 p = some (.lst vs) → Pd k1 H1 a v → Pd (k1.setOwn i (some p)) H1 a v)
    (h : PostR G al W Pd k env s H Q (gThaw c i g env mem)) : ∃ k' env', Rel G al k' env' mem s H ∧ PostR G al W Pd k' env' s H Q (g env' mem) := by
  unfold gThaw at h
  split at h
  · rename_i xs hi
    obtain ⟨p, vs, g1, g2, g3, g4, g5⟩ := slot_own R hi
    have nmu : ¬ (k.setOwn i none).mu p := fun z => by
      rcases z with z | ⟨j, z⟩ | z
      · exact R.wr.onr i p g2 z
      · by_cases hj : j = i
        · subst hj
          rw [Ka.setOwn_self] at z
          cases z
        · rw [Ka.setOwn_ne hj] at z
          exact hj (R.wr.oi j i p z g2)
      · exact (R.wr.nout p z).2 i g2
    have sub : ∀ a, (k.setOwn i none).mu a → k.mu a := fun a z => by
      rcases z with z | ⟨j, z⟩ | z
      · exact .inl z
      · by_cases hj : j = i
        · subst hj
          rw [Ka.setOwn_self] at z
          cases z
        · rw [Ka.setOwn_ne hj] at z
          exact .inr (.inl ⟨j, z⟩)
      · exact .inr (.inr z)
    have st : St2 k H (k.setOwn i none) H := ⟨fun a o e n t => ⟨e, fun z => n (sub a z)⟩, fun _ _ e => e⟩
    obtain ⟨R0, _⟩ := R.unown i (d := .lst xs) g1 (.lst ⟨g3, nmu⟩ g4 (Reps.stay st g5))
    refine ⟨_, _, R0, ?_⟩
    cases hg : g (env.set i (.val (.lst xs))) mem with
    | ok a m1 =>
      rw [hg] at h
      have h : PostR G al W Pd k env s H Q (if (c a && m1.all nlM) = true then .ok a m1 else .no) := h
      by_cases hc : (c a && m1.all nlM) = true
      · rw [if_pos hc] at h
        obtain ⟨hc1, hc2⟩ := Bool.and_eq_true_iff.mp hc
        intro k1 v H1 R1 E1 P1
        obtain ⟨a1, a2, a3⟩ := R.thaw i g2 g3 R1 E1 hc2
        exact h _ v H1 a1 a2 (hPd k1 H1 p vs a v hc1 a3 P1)
      · rw [if_neg hc] at h
        exact h.elim
    | ex c' m1 =>
      rw [hg] at h
      have h : PostR G al W Pd k env s H Q (if m1.all nlM = true then .ex c' m1 else .no) := h
      by_cases hc : m1.all nlM = true
      · rw [if_pos hc] at h
        intro k1 H1 C R1 E1 hC
        obtain ⟨a1, a2, a3⟩ := R.thaw i g2 g3 R1 E1 hc
        exact h _ H1 C a1 a2 hC
      · rw [if_neg hc] at h
        exact h.elim
    | no => rw [hg] at h; exact h
  · exact ⟨k, env, R, h⟩
theorem de_thaw (i : Nat) {g : GE} (h : DE G W X e g) : DE G W X e (gThaw nl i g) := fun al => pe_weak (h al) fun s H Q ⟨k, env, mem, R, q⟩ => by
  obtain ⟨k', env', R', q'⟩ := thaw_core R (fun k1 H1 p vs a v hc hp P => P.thaw hp (fun a => thaw_mu) hc) q
  exact ⟨k', env', mem, R', q'⟩
theorem dt_thaw (i : Nat) {g : GT} (h : DT G W X e g) : DT G W X e (gThaw (fun _ => true) i g) := fun al => pt_weak (h al) fun s H Q ⟨k, env, mem, R, q⟩ => by
  obtain ⟨k', env', R', q'⟩ := thaw_core R (fun k1 H1 p vs a v hc hp P => P) q
  exact ⟨k', env', mem, R', q'⟩
theorem dn_thaw (i : Nat) {g : GA} (h : DN G W X e g) : DN G W X e (gThaw nlL i g) := fun al => pe_weak (h al) fun s H Q ⟨k, env, mem, R, q⟩ => by
  obtain ⟨k', env', R', q'⟩ := thaw_core R (fun k1 H1 p vs a v hc hp P => ⟨P.1.thaw hp (fun a => thaw_mu) hc, P.2⟩) q
  exact ⟨k', env', mem, R', q'⟩
end
end DL
/-! K1a: the defs of metals. -/
namespace K01
open PySem PySem.Spec DL L2 GX
def top (i : Nat) : Stmt := PySem.Challenge.pw_mintstack_k01_melts_that_are_exact.main.body.getD i (.Pass ⟨0, 0, 0, 0⟩)
abbrev s_Bar___init__ : Stmt := inClass (top 5) 0
abbrev s_Bar_fineness : Stmt := inClass (top 5) 1
abbrev s_Bar_thousandths : Stmt := inClass (top 5) 2
abbrev s_least : Stmt := top 6
abbrev s_melted : Stmt := top 7
abbrev s_cut : Stmt := top 8
abbrev s_copper_for : Stmt := top 9
abbrev s_best_melt : Stmt := top 10
abbrev s__law_dice : Stmt := top 12
abbrev s__law_roll : Stmt := top 13
abbrev s__law_rounds : Stmt := top 14
abbrev s__law_told : Stmt := top 15
abbrev s_law : Stmt := top 16
structure Tops (G : Glob) (K : PySem.W.Frag) (mg : PySem.Str → Option Value) : Prop where
  hK : K = G.K
  i_MOST_GRAINS : ∃ t, mg "MOST_GRAINS" = some (.int 1000000 t)
  e_MetalError : ExcD G K mg "MetalError"
  f_weight : FldOk G "weight"
  f_fine : FldOk G "fine"
  b_len : mg "len" = none
  b_sum : mg "sum" = none
  b_range : mg "range" = none
  b_zip : mg "zip" = none
  b_abs : mg "abs" = none
  b_int : mg "int" = none
  b_min : mg "min" = none
section
variable {G : Glob} {P : Program} {w : World} {K : PySem.W.Frag} {mg : PySem.Str → Option Value} {base : Heap} {P0 : Addr}
def fuel2 (env : List DL.Slot) : Nat := match env[(3 : Nat)]? with
  | some (.val (.int b)) => b.natAbs + 1
  | _ => 0
/-! what the defs are to be -/
def bar (w f : Int) : DL.D := .ins "Bar" [("weight", .int w), ("fine", .int f)]
def barOf : DL.D → Option (Int × Int)
  | .ins c [(x, .int w), (y, .int f)] => if c = "Bar" ∧ x = "weight" ∧ y = "fine" then some (w, f) else none
  | _ => none
def S_least : FD := fun ds m => match ds with
  | [.int a, .int b] => if 0 ≤ a ∧ 0 < b ∧ b < 2 ^ 64 then .ok (.tup [.int (a / (Int.gcd a b : Int)), .int (b / (Int.gcd a b : Int))]) m else .no
  | _ => .no
def S_no : FD := fun _ _ => .no
def mkBar : List DL.D → MkR := fun ds => match ds with
  | [.int w, .int f] => if 1 ≤ w ∧ w ≤ 1000000 ∧ 0 ≤ f ∧ f ≤ w then some (.ok [("weight", .int w), ("fine", .int f)]) else some (.error "MetalError")
  | _ => none
variable {FBar : FD}
def okBar (w f : Int) : Prop := 1 ≤ w ∧ w ≤ 1000000 ∧ 0 ≤ f ∧ f ≤ w
instance (w f : Int) : Decidable (okBar w f) := by unfold okBar; infer_instance
def S_fineness : FD := fun ds m => match ds with
  | [d] => (match barOf d with
    | some (w, f) => if okBar w f then S_least [.int f, .int w] m else .no
    | none => .no)
  | _ => .no
def S_thousandths : FD := fun ds m => match ds with
  | [d] => (match barOf d with
    | some (w, f) => if okBar w f then .ok (.int (1000 * f / w)) m else .no
    | none => .no)
  | _ => .no
def S_cut : FD := fun ds m => match ds with
  | [d, .int q] => (match barOf d with
    | some (w, f) => if okBar w f then (if 1 ≤ q ∧ q ≤ w then .ok (.tup [bar q (f * q / w), if q < w then bar (w - q) (f - f * q / w) else .non]) m else .ex "MetalError" m) else .no
    | none => .no)
  | _ => .no
def S_copper_for : FD := fun ds m => match ds with
  | [d, .int p, .int q] => (match barOf d with
    | some (w, f) => if okBar w f ∧ p < 2 ^ 64 then (if 0 < p ∧ p ≤ q ∧ p * w ≤ f * q then .ok (.int (0 - (0 - f * q) / p - w)) m else .ex "MetalError" m) else .no
    | none => .no)
  | _ => .no
def S_melted : FD := fun ds m => match ds with
  | [.lst bs] => (match mapO barOf bs with
    | some ps => if ps.length ≤ 100 ∧ ∀ p ∈ ps, okBar p.1 p.2 then (if ps = [] then .ex "MetalError" m else if (ps.map (·.1)).sum ≤ 1000000 then .ok (bar (ps.map (·.1)).sum (ps.map (·.2)).sum) m else .ex "MetalError" m) else .no
    | none => .no)
  | _ => .no
/-- the sets of places: each set ahead of those with the next place -/
def setsN : Nat → List (List Nat)
  | 0 => [[]]
  | n + 1 => setsN n ++ (setsN n).map (· ++ [n])
def sumAt (f : Int × Int → Int) (ps : List (Int × Int)) (row : List Nat) : Int := (row.map fun i => f (ps.getD i (0, 0))).sum
def goodP (ps : List (Int × Int)) (lo hi : Int) (row : List Nat) : Bool := !row.isEmpty && decide (lo * sumAt (·.1) ps row ≤ 1000 * sumAt (·.2) ps row) && decide (1000 * sumAt (·.2) ps row ≤ hi * sumAt (·.1) ps row)
def rowP (row : List Nat) : PyData := .tuple (row.map fun (i : Nat) => .int (i : Int))
def candP (ps : List (Int × Int)) (wt : Int) (row : List Nat) : PyData := .tuple [.int (if sumAt (·.1) ps row - wt < 0 then -(sumAt (·.1) ps row - wt) else sumAt (·.1) ps row - wt), .int row.length, rowP row, .int (sumAt (·.1) ps row)]
def bestOf (ps : List (Int × Int)) (lo hi wt : Int) : Option PyData := match ((setsN ps.length).filter (goodP ps lo hi)).map (candP ps wt) with
  | [] => none
  | p :: qs => some (PySem.W.minD p qs)
def partP : PyData → Nat → PyData
  | .tuple xs, i => xs.getD i .none
  | _, _ => .none
def S_best_melt : FD := fun ds m => match ds with
  | [.lst bs, .int lo, .int hi, .int wt] => if bs.length > 10 ∨ lo > hi then .ex "MetalError" m else (match mapO barOf bs with
    | some ps => if (∀ p ∈ ps, okBar p.1 p.2) ∧ m.all nlM = true then (match bestOf ps lo hi wt with
      | none => .ok .non m
      | some p => .ok (.tup [ofP (partP p 2), ofP (partP p 3)]) m) else .no
    | none => .no)
  | _ => .no
def diceL (c : Int) : List DL.D := if -10 < c ∧ c < 10 then [.int (if c < 0 then -c else c), .int 0, .int 2] else [.int c, .int (1 + c % 1009), .int (if c ≥ 10 ^ 18 then 1 else 0)]
def S_dice : FD := fun ds m => match ds with
  | [.int c] => .ok (.ref m.length) (m ++ [.lst (diceL c)])
  | _ => .no
/-- a draw: what is told, the dice behind it -/
def rollF (a b c many : Int) : Int × Int × Int × Int := if c = 2 ∨ c = 1 ∧ a > 0 then (a % many, a / many, b, c) else ((a * 48271 + b * 69621 + 11) % 2147483647 / 7 % many, (a * 48271 + b * 69621 + 11) % 2147483647, b + 1, 0)
def S_roll : FD := fun ds m => match ds with
  | [.ref i, .int many] => (match m[i]? with
    | some (.lst [.int a, .int b, .int c]) => if 0 < many ∧ many ≤ 100000000 then .ok (.int (rollF a b c many).1) (m.set i (.lst [.int (rollF a b c many).2.1, .int (rollF a b c many).2.2.1, .int (rollF a b c many).2.2.2])) else .no
    | _ => .no)
  | _ => .no
def S_rounds : FD := fun ds m => match ds with
  | [.slst xs, .int 1] => (match xs with
    | .int c :: _ => .ok (.lst [.ref m.length]) (m ++ [.lst (diceL c)])
    | [] => .ok (.lst [.ref m.length]) (m ++ [.lst (diceL 0)])
    | _ => .no)
  | _ => .no
def N_least : List Str := ["part", "whole", "one", "other"]
def P_least : List Str := ["part", "whole"]
def m_least  : GS := gSeq (gPar 2 3 (gVar 0) (gVar 1)) (gSeq (gWhile (fun env _ => fuel2 env) (gtV (gBin fNe (gBor 3) (gC (.int 0)))) (gSeq (gPar 2 3 (gVar 3) (gBin fMod (gBor 2) (gBor 3))) (gNx))) (gSeq (gRet (gTup (gaCons (gBin fDiv (gBor 0) (gBor 2)) (gaCons (gBin fDiv (gBor 1) (gBor 2)) (gaNil))))) (gNx)))
theorem sc_least : FnScope N_least P_least (defScope s_least) := C8.fnScope_by (by kernel_rfl)
set_option maxHeartbeats 4000000 in
theorem w_least (T : Tops G K mg)  {f : Addr} {cdv : Value} {A : Around} {outer : List Env} {s : Shared} {H : Hp} {E : XK} (hr : Room 0 (A.deeper (PyProof.Rows.envOfC "least" (defScope s_least) s.heap.objs.size f cdv))) : DSs G (WE E) (cxOf (L2.CX P w) P w K mg base N_least "least" (defScope s_least) f cdv A outer s H E) (defBody s_least) (m_least) := by
  have c : CO G (cxOf (L2.CX P w) P w K mg base N_least "least" (defScope s_least) f cdv A outer s H E) := co_def T.hK hr
  have hN : N_least.Nodup := by decide
  exact dss_cons (ds_par 2 3 (c).calm hN (de_var 0) (de_var 1)) (dss_cons (ds_while (fun env _ => fuel2 env) hp_def (dt_cmp (od_ne (c)) (db_var 3) (de_b (de_int))) (dss_cons (ds_par 2 3 (c).calm hN (de_var 3) (de_bin (od_mod) (db_var 2) (db_var 3))) (dss_nil))) (dss_cons (ds_ret (de_tup (da_cons (de_bin (od_div) (db_var 0) (db_var 2)) (da_cons (de_bin (od_div) (db_var 1) (db_var 2)) (da_nil))))) (dss_nil)))


def N_Bar___init__ : List Str := ["self", "weight", "fine"]
def P_Bar___init__ : List Str := ["self", "weight", "fine"]
def m_Bar___init__  : GS := gSeq (gIfS (gtOr (gtNot (gtChain fLe fLe (gC (.int 1)) (gBor 1) (gC (.int 1000000)))) (gtNot (gtChain fLe fLe (gC (.int 0)) (gBor 2) (gBor 1)))) (gSeq (gRaise "MetalError") (gNx)) (gNx)) (gSeq (gFldS "weight" (gVar 0) (gVar 1)) (gSeq (gFldS "fine" (gVar 0) (gVar 2)) (gNx)))
theorem sc_Bar___init__ : FnScope N_Bar___init__ P_Bar___init__ (defScope s_Bar___init__) := C8.fnScope_by (by kernel_rfl)
set_option maxHeartbeats 4000000 in
theorem w_Bar___init__ (T : Tops G K mg)  {f : Addr} {cdv : Value} {A : Around} {outer : List Env} {s : Shared} {H : Hp} {E : XK} (hr : Room 0 (A.deeper (PyProof.Rows.envOfC "Bar.__init__" (defScope s_Bar___init__) s.heap.objs.size f cdv))) : DSs G (WE E) (cxOf (L2.CX P w) P w K mg base N_Bar___init__ "Bar.__init__" (defScope s_Bar___init__) f cdv A outer s H E) (defBody s_Bar___init__) (m_Bar___init__) := by
  have c : CO G (cxOf (L2.CX P w) P w K mg base N_Bar___init__ "Bar.__init__" (defScope s_Bar___init__) f cdv A outer s H E) := co_def T.hK hr
  have hN : N_Bar___init__.Nodup := by decide
  exact dss_cons (ds_if (dt_w (dw_or (dt_not (dt_chain (od_le (c)) (od_le (c)) (de_b (de_int)) (db_var 1) (de_b (de_gint T.i_MOST_GRAINS)))) (dw_or1 (dt_not (dt_chain (od_le (c)) (od_le (c)) (de_b (de_int)) (db_var 2) (db_var 1)))))) (dss_cons (ds_raise T.e_MetalError rfl tk_def) (dss_nil)) (dss_nil)) (dss_cons (ds_fld (c).K T.f_weight (de_var 0) (de_var 1)) (dss_cons (ds_fld (c).K T.f_fine (de_var 0) (de_var 2)) (dss_nil)))


def N_Bar_fineness : List Str := ["self"]
def P_Bar_fineness : List Str := ["self"]
def m_Bar_fineness  : GS := gSeq (gRet (gCall S_least (gArgs 2 (gaCons (gUn (fldD "fine") (gBor 0)) (gaCons (gUn (fldD "weight") (gBor 0)) (gaNil)))))) (gNx)
theorem sc_Bar_fineness : FnScope N_Bar_fineness P_Bar_fineness (defScope s_Bar_fineness) := C8.fnScope_by (by kernel_rfl)
set_option maxHeartbeats 4000000 in
theorem w_Bar_fineness (T : Tops G K mg) (F_least : CalD G P w K mg base 1 "least" 2 S_least) {f : Addr} {cdv : Value} {A : Around} {outer : List Env} {s : Shared} {H : Hp} {E : XK} (hr : Room 1 (A.deeper (PyProof.Rows.envOfC "Bar.fineness" (defScope s_Bar_fineness) s.heap.objs.size f cdv))) : DSs G (WE E) (cxOf (L2.CX P w) P w K mg base N_Bar_fineness "Bar.fineness" (defScope s_Bar_fineness) f cdv A outer s H E) (defBody s_Bar_fineness) (m_Bar_fineness) := by
  have c : CO G (cxOf (L2.CX P w) P w K mg base N_Bar_fineness "Bar.fineness" (defScope s_Bar_fineness) f cdv A outer s H E) := co_def T.hK hr
  have hN : N_Bar_fineness.Nodup := by decide
  exact dss_cons (ds_ret (de_call F_least (hr.mono (by decide)) hx_def (da_cons (de_fld (c).K T.f_fine (db_var 0)) (da_cons (de_fld (c).K T.f_weight (db_var 0)) (da_nil))))) (dss_nil)


def N_Bar_thousandths : List Str := ["self"]
def P_Bar_thousandths : List Str := ["self"]
def m_Bar_thousandths  : GS := gSeq (gRet (gBin fDiv (gBin fMul (gC (.int 1000)) (gUn (fldD "fine") (gBor 0))) (gUn (fldD "weight") (gBor 0)))) (gNx)
theorem sc_Bar_thousandths : FnScope N_Bar_thousandths P_Bar_thousandths (defScope s_Bar_thousandths) := C8.fnScope_by (by kernel_rfl)
set_option maxHeartbeats 4000000 in
theorem w_Bar_thousandths (T : Tops G K mg)  {f : Addr} {cdv : Value} {A : Around} {outer : List Env} {s : Shared} {H : Hp} {E : XK} (hr : Room 0 (A.deeper (PyProof.Rows.envOfC "Bar.thousandths" (defScope s_Bar_thousandths) s.heap.objs.size f cdv))) : DSs G (WE E) (cxOf (L2.CX P w) P w K mg base N_Bar_thousandths "Bar.thousandths" (defScope s_Bar_thousandths) f cdv A outer s H E) (defBody s_Bar_thousandths) (m_Bar_thousandths) := by
  have c : CO G (cxOf (L2.CX P w) P w K mg base N_Bar_thousandths "Bar.thousandths" (defScope s_Bar_thousandths) f cdv A outer s H E) := co_def T.hK hr
  have hN : N_Bar_thousandths.Nodup := by decide
  exact dss_cons (ds_ret (de_bin (od_div) (de_b (de_bin (od_mul) (de_b (de_int)) (de_b (de_fld (c).K T.f_fine (db_var 0))))) (de_b (de_fld (c).K T.f_weight (db_var 0))))) (dss_nil)


def N_cut : List Str := ["bar", "weight", "fine", "rest"]
def P_cut : List Str := ["bar", "weight"]
def m_cut  : GS := gSeq (gIfS (gtNot (gtChain fLe fLe (gC (.int 1)) (gBor 1) (gUn (fldD "weight") (gBor 0)))) (gSeq (gRaise "MetalError") (gNx)) (gNx)) (gSeq (gSet 2 (gBin fDiv (gBin fMul (gUn (fldD "fine") (gBor 0)) (gBor 1)) (gUn (fldD "weight") (gBor 0)))) (gSeq (gSet 3 (gIf (gtV (gBin fLt (gBor 1) (gUn (fldD "weight") (gBor 0)))) (gMakeF "Bar" 3 mkBar (gaCons (gBin fSub (gUn (fldD "weight") (gBor 0)) (gBor 1)) (gaCons (gBin fSub (gUn (fldD "fine") (gBor 0)) (gBor 2)) (gaNil)))) (gC .non))) (gSeq (gRet (gTup (gaCons (gMakeF "Bar" 3 mkBar (gaCons (gVar 1) (gaCons (gVar 2) (gaNil)))) (gaCons (gVar 3) (gaNil))))) (gNx))))
theorem sc_cut : FnScope N_cut P_cut (defScope s_cut) := C8.fnScope_by (by kernel_rfl)
set_option maxHeartbeats 4000000 in
theorem w_cut (T : Tops G K mg) (C_Bar : ClsD G P w K mg base 1 "Bar" 3 FBar) (mkBar_ok : MkF "Bar" FBar mkBar)  {f : Addr} {cdv : Value} {A : Around} {outer : List Env} {s : Shared} {H : Hp} {E : XK} (hr : Room 2 (A.deeper (PyProof.Rows.envOfC "cut" (defScope s_cut) s.heap.objs.size f cdv))) : DSs G (WE E) (cxOf (L2.CX P w) P w K mg base N_cut "cut" (defScope s_cut) f cdv A outer s H E) (defBody s_cut) (m_cut) := by
  have c : CO G (cxOf (L2.CX P w) P w K mg base N_cut "cut" (defScope s_cut) f cdv A outer s H E) := co_def T.hK hr
  have hN : N_cut.Nodup := by decide
  exact dss_cons (ds_if (dt_not (dt_chain (od_le (c)) (od_le (c)) (de_b (de_int)) (db_var 1) (de_b (de_fld (c).K T.f_weight (db_var 0))))) (dss_cons (ds_raise T.e_MetalError rfl tk_def) (dss_nil)) (dss_nil)) (dss_cons (ds_set 2 hN (de_bin (od_div) (de_b (de_bin (od_mul) (de_b (de_fld (c).K T.f_fine (db_var 0))) (db_var 1))) (de_b (de_fld (c).K T.f_weight (db_var 0))))) (dss_cons (ds_set 3 hN (de_if (dt_cmp (od_lt (c)) (db_var 1) (de_b (de_fld (c).K T.f_weight (db_var 0)))) (de_makeF C_Bar mkBar_ok (hr.mono (by decide)) hx_def (da_cons (de_bin (od_sub) (de_b (de_fld (c).K T.f_weight (db_var 0))) (db_var 1)) (da_cons (de_bin (od_sub) (de_b (de_fld (c).K T.f_fine (db_var 0))) (db_var 2)) (da_nil)))) (de_non))) (dss_cons (ds_ret (de_tup (da_cons (de_makeF C_Bar mkBar_ok (hr.mono (by decide)) hx_def (da_cons (de_var 1) (da_cons (de_var 2) (da_nil)))) (da_cons (de_var 3) (da_nil))))) (dss_nil))))


def N_copper_for : List Str := ["bar", "part", "whole"]
def P_copper_for : List Str := ["bar", "part", "whole"]
def m_copper_for  : GS := gSeq (gIfS (gtOr (gtNot (gtChain fLt fLe (gC (.int 0)) (gBor 1) (gBor 2))) (gtV (gBin fLt (gBin fMul (gUn (fldD "fine") (gBor 0)) (gBor 2)) (gBin fMul (gBor 1) (gUn (fldD "weight") (gBor 0)))))) (gSeq (gRaise "MetalError") (gNx)) (gNx)) (gSeq (gRet (gBin fSub (gBin fSub (gC (.int 0)) (gBin fDiv (gBin fSub (gC (.int 0)) (gBin fMul (gUn (fldD "fine") (gBor 0)) (gBor 2))) (gBor 1))) (gUn (fldD "weight") (gBor 0)))) (gNx))
theorem sc_copper_for : FnScope N_copper_for P_copper_for (defScope s_copper_for) := C8.fnScope_by (by kernel_rfl)
set_option maxHeartbeats 4000000 in
theorem w_copper_for (T : Tops G K mg)  {f : Addr} {cdv : Value} {A : Around} {outer : List Env} {s : Shared} {H : Hp} {E : XK} (hr : Room 0 (A.deeper (PyProof.Rows.envOfC "copper_for" (defScope s_copper_for) s.heap.objs.size f cdv))) : DSs G (WE E) (cxOf (L2.CX P w) P w K mg base N_copper_for "copper_for" (defScope s_copper_for) f cdv A outer s H E) (defBody s_copper_for) (m_copper_for) := by
  have c : CO G (cxOf (L2.CX P w) P w K mg base N_copper_for "copper_for" (defScope s_copper_for) f cdv A outer s H E) := co_def T.hK hr
  have hN : N_copper_for.Nodup := by decide
  exact dss_cons (ds_if (dt_w (dw_or (dt_not (dt_chain (od_lt (c)) (od_le (c)) (de_b (de_int)) (db_var 1) (db_var 2))) (dw_or1 (dt_cmp (od_lt (c)) (de_b (de_bin (od_mul) (de_b (de_fld (c).K T.f_fine (db_var 0))) (db_var 2))) (de_b (de_bin (od_mul) (db_var 1) (de_b (de_fld (c).K T.f_weight (db_var 0))))))))) (dss_cons (ds_raise T.e_MetalError rfl tk_def) (dss_nil)) (dss_nil)) (dss_cons (ds_ret (de_bin (od_sub) (de_b (de_bin (od_sub) (de_b (de_int)) (de_b (de_bin (od_div) (de_b (de_bin (od_sub) (de_b (de_int)) (de_b (de_bin (od_mul) (de_b (de_fld (c).K T.f_fine (db_var 0))) (db_var 2))))) (db_var 1))))) (de_b (de_fld (c).K T.f_weight (db_var 0))))) (dss_nil))


def N_melted : List Str := ["bars", "bar"]
def P_melted : List Str := ["bars"]
def m_melted  : GS := gSeq (gIfS (gtV (gBin fEq (gCB (f1 cLen) (gaCons (gBor 0) (gaNil))) (gC (.int 0)))) (gSeq (gRaise "MetalError") (gNx)) (gNx)) (gSeq (gRet (gMakeF "Bar" 3 mkBar (gaCons (gSumG [1] (gIt asL (gVar 0)) (ggName 1) (gUn (fldD "weight") (gBor 1))) (gaCons (gSumG [1] (gIt asL (gVar 0)) (ggName 1) (gUn (fldD "fine") (gBor 1))) (gaNil))))) (gNx))
theorem sc_melted : FnScope N_melted P_melted (defScope s_melted) := C8.fnScope_by (by kernel_rfl)
set_option maxHeartbeats 4000000 in
theorem w_melted (T : Tops G K mg) (C_Bar : ClsD G P w K mg base 1 "Bar" 3 FBar) (mkBar_ok : MkF "Bar" FBar mkBar)  {f : Addr} {cdv : Value} {A : Around} {outer : List Env} {s : Shared} {H : Hp} {E : XK} (gt : GTab G (cxOf (L2.CX P w) P w K mg base N_melted "melted" (defScope s_melted) f cdv A outer s H E) P0) (hr : Room 3 (A.deeper (PyProof.Rows.envOfC "melted" (defScope s_melted) s.heap.objs.size f cdv))) : DSs G (WE E) (cxOf (L2.CX P w) P w K mg base N_melted "melted" (defScope s_melted) f cdv A outer s H E) (defBody s_melted) (m_melted) := by
  have c : CO G (cxOf (L2.CX P w) P w K mg base N_melted "melted" (defScope s_melted) f cdv A outer s H E) := co_def T.hK hr
  have hN : N_melted.Nodup := by decide
  exact dss_cons (ds_if (dt_cmp (od_eq (c)) (de_b (de_callB (cd_len (c)) T.b_len bt_len (dab_cons (db_var 0) (dab_nil)))) (de_b (de_int))) (dss_cons (ds_raise T.e_MetalError rfl tk_def) (dss_nil)) (dss_nil)) (dss_cons (ds_ret (de_makeF C_Bar mkBar_ok (hr.mono (by decide)) hx_def (da_cons (de_sumG (j := 0) (own := [("bar", 1)]) (hr.mono (by decide)) gt hN (gscp_by (blkOk_by (by show blkC N_melted (defScope s_melted) _ _ = true; kernel_rfl)) (by kernel_rfl)) (di_list (c).K (de_var 0)) (fun _ _ _ _ _ _ _ _ => dg_name 1 hN) (fun _ _ _ _ _ _ _ _ hr2 => de_fld (CO.gcx (c).K hr2).K T.f_weight (db_var 1)) (by decide) T.b_sum bt_sum) (da_cons (de_sumG (j := 0) (own := [("bar", 1)]) (hr.mono (by decide)) gt hN (gscp_by (blkOk_by (by show blkC N_melted (defScope s_melted) _ _ = true; kernel_rfl)) (by kernel_rfl)) (di_list (c).K (de_var 0)) (fun _ _ _ _ _ _ _ _ => dg_name 1 hN) (fun _ _ _ _ _ _ _ _ hr2 => de_fld (CO.gcx (c).K hr2).K T.f_fine (db_var 1)) (by decide) T.b_sum bt_sum) (da_nil))))) (dss_nil))


def N_best_melt : List Str := ["bars", "low", "high", "weight", "rows", "best", "place", "row", "whole", "fine", "found"]
def P_best_melt : List Str := ["bars", "low", "high", "weight"]
def m_best_melt  : GS := gSeq (gIfS (gtOr (gtV (gBin fGt (gCB (f1 cLen) (gaCons (gBor 0) (gaNil))) (gC (.int 10)))) (gtV (gBin fGt (gBor 1) (gBor 2)))) (gSeq (gRaise "MetalError") (gNx)) (gNx)) (gSeq (gParO 4 5 (gLim (gaCons (gTup (gaNil)) (gaNil))) (gC .non)) (gSeq (gFor (gRng1 (gaCons (gCB (f1 cLen) (gaCons (gBor 0) (gaNil))) (gaNil))) (ggName 6) (gSeq (gExt 4 (gLstN (gThaw nlL 4 (gComp [7] (gIt asL (gVar 4)) (ggName 7) (gtYes) (gBin fAdd (gBor 7) (gTup (gaCons (gVar 6) (gaNil)))))))) (gNx))) (gSeq (gFrz 4 (gFor (gIt asL (gVar 4)) (ggName 7) (gSeq (gPar 8 9 (gSumG [6] (gIt asT (gVar 7)) (ggName 6) (gUn (fldD "weight") (gBin fIx (gBor 0) (gBor 6)))) (gSumG [6] (gIt asT (gVar 7)) (ggName 6) (gUn (fldD "fine") (gBin fIx (gBor 0) (gBor 6))))) (gSeq (gIfS (gtAnd (gtV (gBin fNe (gBor 7) (gTup (gaNil)))) (gtChain fLe fLe (gBin fMul (gBor 1) (gBor 8)) (gBin fMul (gC (.int 1000)) (gBor 9)) (gBin fMul (gBor 2) (gBor 8)))) (gSeq (gSet 10 (gTup (gaCons (gCB (f1 cAbs) (gaCons (gBin fSub (gBor 8) (gBor 3)) (gaNil))) (gaCons (gCB (f1 cLen) (gaCons (gBor 7) (gaNil))) (gaCons (gVar 7) (gaCons (gVar 8) (gaNil))))))) (gSeq (gSet 5 (gIf (gtOr (gtV (gBin fIsN (gBor 5) (gC .non))) (gtV (gBin fLt (gBor 10) (gBor 5)))) (gVar 10) (gVar 5))) (gNx))) (gNx)) (gNx))))) (gSeq (gRet (gIf (gtV (gBin fNotN (gBor 5) (gC .non))) (gTup (gaCons (gBin fIx (gBor 5) (gC (.int 2))) (gaCons (gBin fIx (gBor 5) (gC (.int 3))) (gaNil)))) (gC .non))) (gNx)))))
theorem sc_best_melt : FnScope N_best_melt P_best_melt (defScope s_best_melt) := C8.fnScope_by (by kernel_rfl)
set_option maxHeartbeats 4000000 in
theorem w_best_melt (T : Tops G K mg)  {f : Addr} {cdv : Value} {A : Around} {outer : List Env} {s : Shared} {H : Hp} {E : XK} (gt : GTab G (cxOf (L2.CX P w) P w K mg base N_best_melt "best_melt" (defScope s_best_melt) f cdv A outer s H E) P0) (hr : Room 3 (A.deeper (PyProof.Rows.envOfC "best_melt" (defScope s_best_melt) s.heap.objs.size f cdv))) : DSs G (WE E) (cxOf (L2.CX P w) P w K mg base N_best_melt "best_melt" (defScope s_best_melt) f cdv A outer s H E) (defBody s_best_melt) (m_best_melt) := by
  have c : CO G (cxOf (L2.CX P w) P w K mg base N_best_melt "best_melt" (defScope s_best_melt) f cdv A outer s H E) := co_def T.hK hr
  have hN : N_best_melt.Nodup := by decide
  exact dss_cons (ds_if (dt_w (dw_or (dt_cmp (od_gt (c)) (de_b (de_callB (cd_len (c)) T.b_len bt_len (dab_cons (db_var 0) (dab_nil)))) (de_b (de_int))) (dw_or1 (dt_cmp (od_gt (c)) (db_var 1) (db_var 2))))) (dss_cons (ds_raise T.e_MetalError rfl tk_def) (dss_nil)) (dss_nil)) (dss_cons (ds_parO 4 5 (c).calm hN (dn_lst (da_cons (de_tup (da_nil)) (da_nil))) (de_non)) (dss_cons (ds_for hp_def (c).calm (di_rng1 (da_cons (de_callB (cd_len (c)) T.b_len bt_len (dab_cons (db_var 0) (dab_nil))) (da_nil)) T.b_range) (dg_name 6 hN) (dss_cons (ds_ext 4 hN (de_b (de_n (dn_thaw 4 (dn_lc (own := [("row", 7)]) (c).calm hN (di_list (c).K (de_var 4)) (blkOk_by (by show blkC N_best_melt (defScope s_best_melt) _ _ = true; kernel_rfl)) (fun _ _ _ _ _ => dg_name 7 hN) (fun _ _ _ _ _ => dts_nil) (fun _ _ _ _ _ => de_bin (od_add (CO.blk c)) (db_var 7) (de_b (de_tup (da_cons (de_var 6) (da_nil))))) (by decide)))))) (dss_nil))) (dss_cons (ds_frz 4 (ds_for hp_def (c).calm (di_list (c).K (de_var 4)) (dg_name 7 hN) (dss_cons (ds_par 8 9 (c).calm hN (de_sumG (j := 0) (own := [("place", 6)]) (hr.mono (by decide)) gt hN (gscp_by (blkOk_by (by show blkC N_best_melt (defScope s_best_melt) _ _ = true; kernel_rfl)) (by kernel_rfl)) (di_tup (c).K (de_var 7)) (fun _ _ _ _ _ _ _ _ => dg_name 6 hN) (fun _ _ _ _ _ _ _ _ hr2 => de_fld (CO.gcx (c).K hr2).K T.f_weight (de_b (de_ix (xd_seq (CO.gcx (c).K hr2)) (db_var 0) (db_var 6)))) (by decide) T.b_sum bt_sum) (de_sumG (j := 0) (own := [("place", 6)]) (hr.mono (by decide)) gt hN (gscp_by (blkOk_by (by show blkC N_best_melt (defScope s_best_melt) _ _ = true; kernel_rfl)) (by kernel_rfl)) (di_tup (c).K (de_var 7)) (fun _ _ _ _ _ _ _ _ => dg_name 6 hN) (fun _ _ _ _ _ _ _ _ hr2 => de_fld (CO.gcx (c).K hr2).K T.f_fine (de_b (de_ix (xd_seq (CO.gcx (c).K hr2)) (db_var 0) (db_var 6)))) (by decide) T.b_sum bt_sum)) (dss_cons (ds_if (dt_w (dw_and (dt_cmp (od_ne (c)) (db_var 7) (de_b (de_tup (da_nil)))) (dw_and1 (dt_chain (od_le (c)) (od_le (c)) (de_b (de_bin (od_mul) (db_var 1) (db_var 8))) (de_b (de_bin (od_mul) (de_b (de_int)) (db_var 9))) (de_b (de_bin (od_mul) (db_var 2) (db_var 8))))))) (dss_cons (ds_set 10 hN (de_tup (da_cons (de_callB cd_abs T.b_abs bt_abs (dab_cons (de_b (de_bin (od_sub) (db_var 8) (db_var 3))) (dab_nil))) (da_cons (de_callB (cd_len (c)) T.b_len bt_len (dab_cons (db_var 7) (dab_nil))) (da_cons (de_var 7) (da_cons (de_var 8) (da_nil))))))) (dss_cons (ds_set 5 hN (de_if (dt_w (dw_or (dt_cmp od_isN (db_var 5) (de_b (de_non))) (dw_or1 (dt_cmp (od_lt (c)) (db_var 10) (db_var 5))))) (de_var 10) (de_var 5))) (dss_nil))) (dss_nil)) (dss_nil))))) (dss_cons (ds_ret (de_if (dt_cmp od_notN (db_var 5) (de_b (de_non))) (de_tup (da_cons (de_ix (xd_seq (c)) (db_var 5) (de_b (de_int))) (da_cons (de_ix (xd_seq (c)) (db_var 5) (de_b (de_int))) (da_nil)))) (de_non))) (dss_nil)))))


def N__law_dice : List Str := ["cell"]
def P__law_dice : List Str := ["cell"]
def m__law_dice  : GS := gSeq (gIfS (gtChain fLt fLt (gBin fSub (gC (.int 0)) (gC (.int 10))) (gBor 0) (gC (.int 10))) (gSeq (gRet (gNewM (gLim (gaCons (gCB (f1 cAbs) (gaCons (gBor 0) (gaNil))) (gaCons (gC (.int 0)) (gaCons (gC (.int 2)) (gaNil))))))) (gNx)) (gNx)) (gSeq (gRet (gNewM (gLim (gaCons (gVar 0) (gaCons (gBin fAdd (gC (.int 1)) (gBin fMod (gCB (f1 cInt) (gaCons (gBor 0) (gaNil))) (gC (.int 1009)))) (gaCons (gCB (f1 cInt) (gaCons (gBin fGe (gBor 0) (gBin fPow (gC (.int 10)) (gC (.int 18)))) (gaNil))) (gaNil))))))) (gNx))
theorem sc__law_dice : FnScope N__law_dice P__law_dice (defScope s__law_dice) := C8.fnScope_by (by kernel_rfl)
set_option maxHeartbeats 4000000 in
theorem w__law_dice (T : Tops G K mg)  {f : Addr} {cdv : Value} {A : Around} {outer : List Env} {s : Shared} {H : Hp} {E : XK} (hr : Room 0 (A.deeper (PyProof.Rows.envOfC "_law_dice" (defScope s__law_dice) s.heap.objs.size f cdv))) : DSs G (WE E) (cxOf (L2.CX P w) P w K mg base N__law_dice "_law_dice" (defScope s__law_dice) f cdv A outer s H E) (defBody s__law_dice) (m__law_dice) := by
  have c : CO G (cxOf (L2.CX P w) P w K mg base N__law_dice "_law_dice" (defScope s__law_dice) f cdv A outer s H E) := co_def T.hK hr
  have hN : N__law_dice.Nodup := by decide
  exact dss_cons (ds_if (dt_chain (od_lt (c)) (od_lt (c)) (de_b (de_bin (od_sub) (de_b (de_int)) (de_b (de_int)))) (db_var 0) (de_b (de_int))) (dss_cons (ds_ret (de_newM (dn_lst (da_cons (de_callB cd_abs T.b_abs bt_abs (dab_cons (db_var 0) (dab_nil))) (da_cons (de_int) (da_cons (de_int) (da_nil))))))) (dss_nil)) (dss_nil)) (dss_cons (ds_ret (de_newM (dn_lst (da_cons (de_var 0) (da_cons (de_bin (od_add (c)) (de_b (de_int)) (de_b (de_bin (od_mod) (de_b (de_callTy cd_int T.b_int bt_int (dab_cons (db_var 0) (dab_nil)))) (de_b (de_int))))) (da_cons (de_callTy cd_int T.b_int bt_int (dab_cons (de_b (de_cmp (od_ge (c)) (db_var 0) (de_b (de_bin (od_pow) (de_b (de_int)) (de_b (de_int)))))) (dab_nil))) (da_nil))))))) (dss_nil))


def N__law_roll : List Str := ["dice", "many", "found"]
def P__law_roll : List Str := ["dice", "many"]
def m__law_roll  : GS := gSeq (gIfS (gtOr (gtV (gBin fEq (gBin fIx (gBor 0) (gC (.int 2))) (gC (.int 2)))) (gtAnd (gtV (gBin fEq (gBin fIx (gBor 0) (gC (.int 2))) (gC (.int 1)))) (gtV (gBin fGt (gBin fIx (gBor 0) (gC (.int 0))) (gC (.int 0)))))) (gSeq (gSet 2 (gBin fMod (gCB (f1 cInt) (gaCons (gBin fIx (gBor 0) (gC (.int 0))) (gaNil))) (gBor 1))) (gSeq (gIxS (gVar 0) (gC (.int 0)) (gBin fDiv (gBin fIx (gBor 0) (gC (.int 0))) (gBor 1))) (gSeq (gRet (gVar 2)) (gNx)))) (gNx)) (gSeq (gIxS (gVar 0) (gC (.int 2)) (gC (.int 0))) (gSeq (gIfS (gtV (gBin fGt (gBor 1) (gC (.int 100000000)))) (gSeq (gRet (gBin fMod (gCB (f1 cInt) (gaCons (gBin fAdd (gBin fMul (gCall S_no (gArgs 2 (gaCons (gVar 0) (gaCons (gBin fAdd (gBin fDiv (gBor 1) (gC (.int 100000000))) (gC (.int 1))) (gaNil))))) (gC (.int 100000000))) (gCall S_no (gArgs 2 (gaCons (gVar 0) (gaCons (gC (.int 100000000)) (gaNil)))))) (gaNil))) (gBor 1))) (gNx)) (gNx)) (gSeq (gIxS (gVar 0) (gC (.int 0)) (gBin fMod (gCB (f1 cInt) (gaCons (gBin fAdd (gBin fAdd (gBin fMul (gBin fIx (gBor 0) (gC (.int 0))) (gC (.int 48271))) (gBin fMul (gBin fIx (gBor 0) (gC (.int 1))) (gC (.int 69621)))) (gC (.int 11))) (gaNil))) (gC (.int 2147483647)))) (gSeq (gIxS (gVar 0) (gC (.int 1)) (gBin fAdd (gBin fIx (gBor 0) (gC (.int 1))) (gC (.int 1)))) (gSeq (gRet (gBin fMod (gCB (f1 cInt) (gaCons (gBin fDiv (gBin fIx (gBor 0) (gC (.int 0))) (gC (.int 7))) (gaNil))) (gBor 1))) (gNx))))))
theorem sc__law_roll : FnScope N__law_roll P__law_roll (defScope s__law_roll) := C8.fnScope_by (by kernel_rfl)
set_option maxHeartbeats 4000000 in
theorem w__law_roll (T : Tops G K mg) (F__law_roll : CalD G P w K mg base 1 "_law_roll" 2 S_no) {f : Addr} {cdv : Value} {A : Around} {outer : List Env} {s : Shared} {H : Hp} {E : XK} (hr : Room 1 (A.deeper (PyProof.Rows.envOfC "_law_roll" (defScope s__law_roll) s.heap.objs.size f cdv))) : DSs G (WE E) (cxOf (L2.CX P w) P w K mg base N__law_roll "_law_roll" (defScope s__law_roll) f cdv A outer s H E) (defBody s__law_roll) (m__law_roll) := by
  have c : CO G (cxOf (L2.CX P w) P w K mg base N__law_roll "_law_roll" (defScope s__law_roll) f cdv A outer s H E) := co_def T.hK hr
  have hN : N__law_roll.Nodup := by decide
  exact dss_cons (ds_if (dt_w (dw_or (dt_cmp (od_eq (c)) (de_b (de_ix (xd_seq (c)) (db_var 0) (de_b (de_int)))) (de_b (de_int))) (dw_or1 (dt_w (dw_and (dt_cmp (od_eq (c)) (de_b (de_ix (xd_seq (c)) (db_var 0) (de_b (de_int)))) (de_b (de_int))) (dw_and1 (dt_cmp (od_gt (c)) (de_b (de_ix (xd_seq (c)) (db_var 0) (de_b (de_int)))) (de_b (de_int))))))))) (dss_cons (ds_set 2 hN (de_bin (od_mod) (de_b (de_callTy cd_int T.b_int bt_int (dab_cons (de_b (de_ix (xd_seq (c)) (db_var 0) (de_b (de_int)))) (dab_nil)))) (db_var 1))) (dss_cons (ds_ixS (de_var 0) (de_int) (de_bin (od_div) (de_b (de_ix (xd_seq (c)) (db_var 0) (de_b (de_int)))) (db_var 1))) (dss_cons (ds_ret (de_var 2)) (dss_nil)))) (dss_nil)) (dss_cons (ds_ixS (de_var 0) (de_int) (de_int)) (dss_cons (ds_if (dt_cmp (od_gt (c)) (db_var 1) (de_b (de_int))) (dss_cons (ds_ret (de_bin (od_mod) (de_b (de_callTy cd_int T.b_int bt_int (dab_cons (de_b (de_bin (od_add (c)) (de_b (de_bin (od_mul) (de_b (de_call F__law_roll (hr.mono (by decide)) hx_def (da_cons (de_var 0) (da_cons (de_bin (od_add (c)) (de_b (de_bin (od_div) (db_var 1) (de_b (de_int)))) (de_b (de_int))) (da_nil))))) (de_b (de_int)))) (de_b (de_call F__law_roll (hr.mono (by decide)) hx_def (da_cons (de_var 0) (da_cons (de_int) (da_nil))))))) (dab_nil)))) (db_var 1))) (dss_nil)) (dss_nil)) (dss_cons (ds_ixS (de_var 0) (de_int) (de_bin (od_mod) (de_b (de_callTy cd_int T.b_int bt_int (dab_cons (de_b (de_bin (od_add (c)) (de_b (de_bin (od_add (c)) (de_b (de_bin (od_mul) (de_b (de_ix (xd_seq (c)) (db_var 0) (de_b (de_int)))) (de_b (de_int)))) (de_b (de_bin (od_mul) (de_b (de_ix (xd_seq (c)) (db_var 0) (de_b (de_int)))) (de_b (de_int)))))) (de_b (de_int)))) (dab_nil)))) (de_b (de_int)))) (dss_cons (ds_ixS (de_var 0) (de_int) (de_bin (od_add (c)) (de_b (de_ix (xd_seq (c)) (db_var 0) (de_b (de_int)))) (de_b (de_int)))) (dss_cons (ds_ret (de_bin (od_mod) (de_b (de_callTy cd_int T.b_int bt_int (dab_cons (de_b (de_bin (od_div) (de_b (de_ix (xd_seq (c)) (db_var 0) (de_b (de_int)))) (de_b (de_int)))) (dab_nil)))) (db_var 1))) (dss_nil))))))


end
end K01
/-! K1b: the law's own defs. -/
namespace K01
open PySem PySem.Spec DL L2 GX
section
variable {G : Glob} {P : Program} {w : World} {K : PySem.W.Frag} {mg : PySem.Str → Option Value} {base : Heap} {P0 : Addr} {FBar : FD}
def nthS (l : List Stmt) (i : Nat) : Stmt := l.getD i (.Pass ⟨0, 0, 0, 0⟩)
def bodyS : Stmt → List Stmt
  | .For _ _ b _ _ => b
  | .While _ b _ _ => b
  | .If _ b _ _ => b
  | _ => []
def fuelLaw (_ : List DL.Slot) (_ : List MO) : Nat := 5000
def N__law_rounds : List Str := ["script", "most", "cells", "cell"]
def P__law_rounds : List Str := ["script", "most"]
def m__law_rounds  : GS := gSeq (gSet 2 (gLstN (gSlL (gBor 0) (gpN) (gpS (gVar 1))))) (gSeq (gIfS (gtV (gBin fEq (gBor 2) (gLst (gaNil)))) (gSeq (gSet 2 (gLst (gaCons (gC (.int 0)) (gaNil)))) (gNx)) (gNx)) (gSeq (gRet (gLstN (gComp [3] (gIt asL (gVar 2)) (ggName 3) (gtYes) (gCall S_dice (gArgs 1 (gaCons (gVar 3) (gaNil))))))) (gNx)))
theorem sc__law_rounds : FnScope N__law_rounds P__law_rounds (defScope s__law_rounds) := C8.fnScope_by (by kernel_rfl)
set_option maxHeartbeats 4000000 in
theorem w__law_rounds (T : Tops G K mg) (F__law_dice : CalD G P w K mg base 1 "_law_dice" 1 S_dice) {f : Addr} {cdv : Value} {A : Around} {outer : List Env} {s : Shared} {H : Hp} {E : XK} (hr : Room 2 (A.deeper (PyProof.Rows.envOfC "_law_rounds" (defScope s__law_rounds) s.heap.objs.size f cdv))) : DSs G (WE E) (cxOf (L2.CX P w) P w K mg base N__law_rounds "_law_rounds" (defScope s__law_rounds) f cdv A outer s H E) (defBody s__law_rounds) (m__law_rounds) := by
  have c : CO G (cxOf (L2.CX P w) P w K mg base N__law_rounds "_law_rounds" (defScope s__law_rounds) f cdv A outer s H E) := co_def T.hK hr
  have hN : N__law_rounds.Nodup := by decide
  exact dss_cons (ds_set 2 hN (de_n (dn_sl (c).K (db_var 0) (dp_none) (dp_some (de_var 1))))) (dss_cons (ds_if (dt_cmp (od_eq (c)) (db_var 2) (de_b (de_lst (da_nil)))) (dss_cons (ds_set 2 hN (de_lst (da_cons (de_int) (da_nil)))) (dss_nil)) (dss_nil)) (dss_cons (ds_ret (de_n (dn_lc (own := [("cell", 3)]) (c).calm hN (di_list (c).K (de_var 2)) (blkOk_by (by show blkC N__law_rounds (defScope s__law_rounds) _ _ = true; kernel_rfl)) (fun _ _ _ _ _ => dg_name 3 hN) (fun _ _ _ _ _ => dts_nil) (fun _ _ _ _ _ => de_call F__law_dice (hr.mono (by decide)) passes0 (da_cons (de_var 3) (da_nil))) (by decide)))) (dss_nil)))


def L_law : List LamL := lamsOf ((defBody s_law).getD 2 (.Pass ⟨0, 0, 0, 0⟩))
def N_law : List Str := ["script", "dice", "rows", "k", "weight", "bars", "row", "bar", "part", "whole", "piece", "rest", "left", "good", "copper", "one", "low", "sets", "high", "places", "fine", "large", "bad", "f"]
def P_law : List Str := ["script"]
def B_law : List GE := [gMakeF "Bar" 3 mkBar (gaCons (gC (.int 0)) (gaCons (gC (.int 0)) (gaNil))), gMakeF "Bar" 3 mkBar (gaCons (gC (.int 5)) (gaCons (gC (.int 6)) (gaNil))), gMakeF "Bar" 3 mkBar (gaCons (gC (.int 5)) (gaCons (gUn fNeg (gC (.int 1))) (gaNil))), gMakeF "Bar" 3 mkBar (gaCons (gC (.int 1000001)) (gaCons (gC (.int 0)) (gaNil))), gCall S_melted (gArgs 1 (gaCons (gLst (gaNil)) (gaNil))), gCall S_melted (gArgs 1 (gaCons (gLst (gaCons (gVar 21) (gaCons (gVar 21) (gaNil)))) (gaNil))), gCall S_cut (gArgs 2 (gaCons (gVar 21) (gaCons (gC (.int 0)) (gaNil)))), gCall S_cut (gArgs 2 (gaCons (gVar 21) (gaCons (gC (.int 1000001)) (gaNil)))), gCall S_copper_for (gArgs 3 (gaCons (gMakeF "Bar" 3 mkBar (gaCons (gC (.int 10)) (gaCons (gC (.int 5)) (gaNil)))) (gaCons (gC (.int 0)) (gaCons (gC (.int 1)) (gaNil))))), gCall S_copper_for (gArgs 3 (gaCons (gMakeF "Bar" 3 mkBar (gaCons (gC (.int 10)) (gaCons (gC (.int 5)) (gaNil)))) (gaCons (gC (.int 2)) (gaCons (gC (.int 1)) (gaNil))))), gCall S_copper_for (gArgs 3 (gaCons (gMakeF "Bar" 3 mkBar (gaCons (gC (.int 10)) (gaCons (gC (.int 5)) (gaNil)))) (gaCons (gC (.int 3)) (gaCons (gC (.int 4)) (gaNil))))), gCall S_best_melt (gArgs 4 (gaCons (gBin fMul (gLst (gaCons (gVar 21) (gaNil))) (gC (.int 11))) (gaCons (gC (.int 0)) (gaCons (gC (.int 1)) (gaCons (gC (.int 1)) (gaNil)))))), gCall S_best_melt (gArgs 4 (gaCons (gLst (gaNil)) (gaCons (gC (.int 2)) (gaCons (gC (.int 1)) (gaCons (gC (.int 1)) (gaNil))))))]
def m_law_0_0 : GS := gOwn 2 (gLim (gaNil))
def m_law_0_1 : GS := gFor (gRng1 (gaCons (gBin fAdd (gC (.int 1)) (gCall S_roll (gArgs 2 (gaCons (gVar 1) (gaCons (gC (.int 6)) (gaNil)))))) (gaNil))) (ggName 3) (gSeq (gSet 4 (gBin fAdd (gC (.int 1)) (gCall S_roll (gArgs 2 (gaCons (gVar 1) (gaCons (gC (.int 400)) (gaNil))))))) (gSeq (gApp 2 (gTup (gaCons (gVar 4) (gaCons (gCall S_roll (gArgs 2 (gaCons (gVar 1) (gaCons (gBin fAdd (gBor 4) (gC (.int 1))) (gaNil))))) (gaNil))))) (gNx)))
def m_law_0_2 : GS := gFrz 2 (gSet 5 (gLstN (gComp [6] (gIt asL (gVar 2)) (ggName 6) (gtYes) (gMakeF "Bar" 3 mkBar (gaCons (gBin fIx (gBor 6) (gC (.int 0))) (gaCons (gBin fIx (gBor 6) (gC (.int 1))) (gaNil)))))))
def m_law_0_3_0 : GS := gAsg (gMeth "Bar" "fineness" 1 S_fineness (gVar 7) gaNil) (ggTup 2 (ggCons (ggName 8) (ggCons (ggName 9) (ggNil))))
def m_law_0_3_1 : GS := gIfS (gtOr (gtV (gBin fNe (gBin fMul (gBor 8) (gBin fIx (gBor 6) (gC (.int 0)))) (gBin fMul (gBin fIx (gBor 6) (gC (.int 1))) (gBor 9)))) (gtOr (gtV (gBin fNe (gLstN (gComp [3] (gRng2 (gaCons (gC (.int 2)) (gaCons (gBin fAdd (gBor 9) (gC (.int 1))) (gaNil)))) (ggName 3) (gtAnd (gtV (gBin fEq (gBin fMod (gBor 8) (gBor 3)) (gC (.int 0)))) (gtV (gBin fEq (gBin fMod (gBor 9) (gBor 3)) (gC (.int 0))))) (gVar 3))) (gLst (gaNil)))) (gtOr (gtV (gBin fNe (gMeth "Bar" "thousandths" 1 S_thousandths (gVar 7) gaNil) (gBin fDiv (gBin fMul (gBin fIx (gBor 6) (gC (.int 1))) (gC (.int 1000))) (gBin fIx (gBor 6) (gC (.int 0)))))) (gtV (gBin fNe (gCall S_least (gArgs 2 (gaCons (gBin fIx (gBor 6) (gC (.int 1))) (gaCons (gBin fIx (gBor 6) (gC (.int 0))) (gaNil))))) (gTup (gaCons (gVar 8) (gaCons (gVar 9) (gaNil))))))))) (gSeq (gRet (gC (.bl false))) (gNx)) (gNx)
def m_law_0_3_2 : GS := gSet 4 (gBin fAdd (gC (.int 1)) (gCall S_roll (gArgs 2 (gaCons (gVar 1) (gaCons (gBin fIx (gBor 6) (gC (.int 0))) (gaNil))))))
def m_law_0_3_3 : GS := gAsg (gCall S_cut (gArgs 2 (gaCons (gVar 7) (gaCons (gVar 4) (gaNil))))) (ggTup 2 (ggCons (ggName 10) (ggCons (ggName 11) (ggNil))))
def m_law_0_3_4 : GS := gSet 12 (gIf (gtV (gBin fNotN (gBor 11) (gC .non))) (gTup (gaCons (gUn (fldD "weight") (gBor 11)) (gaCons (gUn (fldD "fine") (gBor 11)) (gaNil)))) (gTup (gaCons (gC (.int 0)) (gaCons (gC (.int 0)) (gaNil)))))
def m_law_0_3_5 : GS := gIfS (gtOr (gtV (gBin fNe (gTup (gaCons (gUn (fldD "weight") (gBor 10)) (gaCons (gUn (fldD "fine") (gBor 10)) (gaNil)))) (gTup (gaCons (gVar 4) (gaCons (gBin fDiv (gBin fMul (gBin fIx (gBor 6) (gC (.int 1))) (gBor 4)) (gBin fIx (gBor 6) (gC (.int 0)))) (gaNil)))))) (gtV (gBin fNe (gTup (gaCons (gBin fAdd (gUn (fldD "weight") (gBor 10)) (gBin fIx (gBor 12) (gC (.int 0)))) (gaCons (gBin fAdd (gUn (fldD "fine") (gBor 10)) (gBin fIx (gBor 12) (gC (.int 1)))) (gaNil)))) (gBor 6)))) (gSeq (gRet (gC (.bl false))) (gNx)) (gNx)
def m_law_0_3_6 : GS := gSet 9 (gBin fAdd (gC (.int 1)) (gCall S_roll (gArgs 2 (gaCons (gVar 1) (gaCons (gC (.int 12)) (gaNil))))))
def m_law_0_3_7 : GS := gSet 8 (gBin fAdd (gC (.int 1)) (gCall S_roll (gArgs 2 (gaCons (gVar 1) (gaCons (gVar 9) (gaNil))))))
def m_law_0_3_8 : GS := gSet 13 (gBin fGe (gBin fMul (gBin fIx (gBor 6) (gC (.int 1))) (gBor 9)) (gBin fMul (gBor 8) (gBin fIx (gBor 6) (gC (.int 0)))))
def m_law_0_3_9 : GS := gSet 14 (gC (.int 0))
def m_law_0_3_10 : GS := gFrz 13 (gWhile fuelLaw (gtAnd (gtV (gVar 13)) (gtV (gBin fGt (gBin fMul (gBin fIx (gBor 6) (gC (.int 1))) (gBor 9)) (gBin fMul (gBor 8) (gBin fAdd (gBin fIx (gBor 6) (gC (.int 0))) (gBor 14)))))) (gSeq (gSet 14 (gBin fAdd (gBor 14) (gC (.int 1)))) (gNx)))
def m_law_0_3_11 : GS := gFrz 13 (gIfS (gtV (gBin fNe (gTold ["MetalError"] "MetalError" (gCall S_copper_for (gArgs 3 (gaCons (gVar 7) (gaCons (gVar 8) (gaCons (gVar 9) (gaNil))))))) (gIf (gtV (gVar 13)) (gVar 14) (gC (.str "MetalError"))))) (gSeq (gRet (gC (.bl false))) (gNx)) (gNx))
def m_law_0_3 : GS := gFrz 2 (gFor (gZip (gaCons (gVar 5) (gaCons (gVar 2) (gaNil)))) (ggTup 2 (ggCons (ggName 7) (ggCons (ggName 6) (ggNil)))) (gSeq m_law_0_3_0 (gSeq m_law_0_3_1 (gSeq m_law_0_3_2 (gSeq m_law_0_3_3 (gSeq m_law_0_3_4 (gSeq m_law_0_3_5 (gSeq m_law_0_3_6 (gSeq m_law_0_3_7 (gSeq m_law_0_3_8 (gSeq m_law_0_3_9 (gSeq m_law_0_3_10 (gSeq m_law_0_3_11 (gNx))))))))))))))
def m_law_0_4 : GS := gSet 15 (gCall S_melted (gArgs 1 (gaCons (gVar 5) (gaNil))))
def m_law_0_5 : GS := gFrz 2 (gIfS (gtV (gBin fNe (gTup (gaCons (gUn (fldD "weight") (gBor 15)) (gaCons (gUn (fldD "fine") (gBor 15)) (gaNil)))) (gTup (gaCons (gCB (f1 cSum) (gaCons (gLstN (gComp [6] (gIt asL (gVar 2)) (ggName 6) (gtYes) (gBin fIx (gBor 6) (gC (.int 0))))) (gaNil))) (gaCons (gCB (f1 cSum) (gaCons (gLstN (gComp [6] (gIt asL (gVar 2)) (ggName 6) (gtYes) (gBin fIx (gBor 6) (gC (.int 1))))) (gaNil))) (gaNil)))))) (gSeq (gRet (gC (.bl false))) (gNx)) (gNx))
def m_law_0_6 : GS := gPar3 16 4 17 (gCall S_roll (gArgs 2 (gaCons (gVar 1) (gaCons (gC (.int 1000)) (gaNil))))) (gCall S_roll (gArgs 2 (gaCons (gVar 1) (gaCons (gC (.int 900)) (gaNil))))) (gLst (gaCons (gTup (gaNil)) (gaNil)))
def m_law_0_7 : GS := gSet 18 (gBin fAdd (gBor 16) (gCall S_roll (gArgs 2 (gaCons (gVar 1) (gaCons (gC (.int 300)) (gaNil))))))
def m_law_0_8 : GS := gFor (gRng1 (gaCons (gCB (f1 cLen) (gaCons (gBor 2) (gaNil))) (gaNil))) (ggName 3) (gSeq (gSet 17 (gBin fAdd (gBor 17) (gLstN (gComp [6] (gIt asL (gVar 17)) (ggName 6) (gtYes) (gBin fAdd (gBor 6) (gTup (gaCons (gVar 3) (gaNil)))))))) (gNx))
def m_law_0_9 : GS := gOwn 13 (gLim (gaNil))
def m_law_0_10 : GS := gFor (gIt asL (gVar 17)) (ggName 19) (gSeq (gAsg (gTup (gaCons (gCB (f1 cSum) (gaCons (gLstN (gComp [3] (gIt asT (gVar 19)) (ggName 3) (gtYes) (gBin fIx (gBin fIx (gBor 2) (gBor 3)) (gC (.int 0))))) (gaNil))) (gaCons (gCB (f1 cSum) (gaCons (gLstN (gComp [3] (gIt asT (gVar 19)) (ggName 3) (gtYes) (gBin fIx (gBin fIx (gBor 2) (gBor 3)) (gC (.int 1))))) (gaNil))) (gaNil)))) (ggTup 2 (ggCons (ggName 9) (ggCons (ggName 20) (ggNil))))) (gSeq (gIfS (gtAnd (gtV (gBin fNe (gBor 19) (gTup (gaNil)))) (gtAnd (gtV (gBin fLe (gBin fMul (gBor 16) (gBor 9)) (gBin fMul (gC (.int 1000)) (gBor 20)))) (gtV (gBin fLe (gBin fMul (gC (.int 1000)) (gBor 20)) (gBin fMul (gBor 18) (gBor 9)))))) (gSeq (gApp 13 (gTup (gaCons (gCB (f1 cAbs) (gaCons (gBin fSub (gBor 9) (gBor 4)) (gaNil))) (gaCons (gCB (f1 cLen) (gaCons (gBor 19) (gaNil))) (gaCons (gVar 19) (gaCons (gVar 9) (gaNil))))))) (gNx)) (gNx)) (gNx)))
def m_law_0_11 : GS := gIfS (gtV (gBin fNe (gCall S_best_melt (gArgs 4 (gaCons (gVar 5) (gaCons (gVar 16) (gaCons (gVar 18) (gaCons (gVar 4) (gaNil))))))) (gIf (gtV (gBin fNe (gBor 13) (gLst (gaNil)))) (gTup (gaCons (gBin fIx (gCB (f1 cMinL) (gaCons (gBor 13) (gaNil))) (gC (.int 2))) (gaCons (gBin fIx (gCB (f1 cMinL) (gaCons (gBor 13) (gaNil))) (gC (.int 3))) (gaNil)))) (gC .non)))) (gSeq (gRet (gC (.bl false))) (gNx)) (gNx)
def m_law_0 : GS := gFor (gIt asL (gCall S_rounds (gArgs 2 (gaCons (gVar 0) (gaCons (gC (.int 1)) (gaNil)))))) (ggName 1) (gSeq m_law_0_0 (gSeq m_law_0_1 (gSeq m_law_0_2 (gSeq m_law_0_3 (gSeq m_law_0_4 (gSeq m_law_0_5 (gSeq m_law_0_6 (gSeq m_law_0_7 (gSeq m_law_0_8 (gSeq m_law_0_9 (gSeq m_law_0_10 (gSeq m_law_0_11 (gNx)))))))))))))
def m_law_1 : GS := gSet 21 (gMakeF "Bar" 3 mkBar (gaCons (gC (.int 1000000)) (gaCons (gC (.int 0)) (gaNil))))
def m_law_2 : GS := gSet 22 (gLst (gaCons (gLam 0) (gaCons (gLam 1) (gaCons (gLam 2) (gaCons (gLam 3) (gaCons (gLam 4) (gaCons (gLam 5) (gaCons (gLam 6) (gaCons (gLam 7) (gaCons (gLam 8) (gaCons (gLam 9) (gaCons (gLam 10) (gaCons (gLam 11) (gaCons (gLam 12) (gaNil)))))))))))))))
def m_law_3 : GS := gRet (gV (gtAnd (gtV (gBin fEq (gLstN (gComp [23] (gIt asL (gVar 22)) (ggName 23) (gtV (gBin fNe (gToldV B_law ["MetalError"] "MetalError" 23 [23]) (gC (.str "MetalError")))) (gC (.int 1)))) (gLst (gaNil)))) (gtAnd (gtV (gBin fEq (gC (.int 1000000)) (gC (.int 1000000)))) (gtAnd (gtV (gBin fEq (gMeth "Bar" "fineness" 1 S_fineness (gMakeF "Bar" 3 mkBar (gaCons (gC (.int 10)) (gaCons (gC (.int 5)) (gaNil)))) gaNil) (gTup (gaCons (gC (.int 1)) (gaCons (gC (.int 2)) (gaNil)))))) (gtAnd (gtV (gBin fEq (gCall S_copper_for (gArgs 3 (gaCons (gMakeF "Bar" 3 mkBar (gaCons (gC (.int 10)) (gaCons (gC (.int 9)) (gaNil)))) (gaCons (gC (.int 1)) (gaCons (gC (.int 2)) (gaNil)))))) (gC (.int 8)))) (gtAnd (gtV (gBin fIsN (gCall S_best_melt (gArgs 4 (gaCons (gLst (gaNil)) (gaCons (gC (.int 0)) (gaCons (gC (.int 1000)) (gaCons (gC (.int 5)) (gaNil))))))) (gC .non))) (gtV (gBin fEq (gCall S_least (gArgs 2 (gaCons (gC (.int 0)) (gaCons (gC (.int 7)) (gaNil))))) (gTup (gaCons (gC (.int 0)) (gaCons (gC (.int 1)) (gaNil))))))))))))
def m_law  : GS := gSeq m_law_0 (gSeq m_law_1 (gSeq m_law_2 (gSeq m_law_3 (gNx))))
theorem sc_law : FnScope N_law P_law (defScope s_law) := C8.fnScope_by (by kernel_rfl)
set_option maxHeartbeats 4000000 in
theorem w_law_0_0 (T : Tops G K mg) (F__law_dice : CalD G P w K mg base 1 "_law_dice" 1 S_dice) (F__law_roll : CalD G P w K mg base 3 "_law_roll" 2 S_roll) (F__law_rounds : CalD G P w K mg base 3 "_law_rounds" 2 S_rounds) (F_least : CalD G P w K mg base 4 "least" 2 S_least) (F_cut : CalD G P w K mg base 4 "cut" 2 S_cut) (F_melted : CalD G P w K mg base 4 "melted" 1 S_melted) (F_copper_for : CalD G P w K mg base 4 "copper_for" 3 S_copper_for) (F_best_melt : CalD G P w K mg base 4 "best_melt" 4 S_best_melt) (M_Bar_fineness : MetD G P w K mg base 2 "Bar" "fineness" 1 S_fineness) (M_Bar_thousandths : MetD G P w K mg base 2 "Bar" "thousandths" 1 S_thousandths) (C_Bar : ClsD G P w K mg base 1 "Bar" 3 FBar) (mkBar_ok : MkF "Bar" FBar mkBar)  {f : Addr} {cdv : Value} {A : Around} {outer : List Env} {s : Shared} {H : Hp} {E : XK} (told : ToldD G K mg "_law_told" "what" "MetalError" ["MetalError"]) (lt : LTab G (cxOf (L2.CX P w) P w K mg base N_law "law" (defScope s_law) f cdv A outer s H E) P0) (hlp : G.lamP = lampOf (lamN (cxOf (L2.CX P w) P w K mg base N_law "law" (defScope s_law) f cdv A outer s H E)) (cxOf (L2.CX P w) P w K mg base N_law "law" (defScope s_law) f cdv A outer s H E).env.cells L_law) (hlq : G.lq = lamN (cxOf (L2.CX P w) P w K mg base N_law "law" (defScope s_law) f cdv A outer s H E)) (hr : Room 6 (A.deeper (PyProof.Rows.envOfC "law" (defScope s_law) s.heap.objs.size f cdv))) : DS G (WE E) (cxOf (L2.CX P w) P w K mg base N_law "law" (defScope s_law) f cdv A outer s H E) (nthS (bodyS (nthS (defBody s_law) 0)) 0) m_law_0_0 := by
  have c : CO G (cxOf (L2.CX P w) P w K mg base N_law "law" (defScope s_law) f cdv A outer s H E) := co_def T.hK hr
  have hN : N_law.Nodup := by decide
  exact ds_own 2 hN (dn_lst (da_nil))

set_option maxHeartbeats 4000000 in
theorem w_law_0_1 (T : Tops G K mg) (F__law_dice : CalD G P w K mg base 1 "_law_dice" 1 S_dice) (F__law_roll : CalD G P w K mg base 3 "_law_roll" 2 S_roll) (F__law_rounds : CalD G P w K mg base 3 "_law_rounds" 2 S_rounds) (F_least : CalD G P w K mg base 4 "least" 2 S_least) (F_cut : CalD G P w K mg base 4 "cut" 2 S_cut) (F_melted : CalD G P w K mg base 4 "melted" 1 S_melted) (F_copper_for : CalD G P w K mg base 4 "copper_for" 3 S_copper_for) (F_best_melt : CalD G P w K mg base 4 "best_melt" 4 S_best_melt) (M_Bar_fineness : MetD G P w K mg base 2 "Bar" "fineness" 1 S_fineness) (M_Bar_thousandths : MetD G P w K mg base 2 "Bar" "thousandths" 1 S_thousandths) (C_Bar : ClsD G P w K mg base 1 "Bar" 3 FBar) (mkBar_ok : MkF "Bar" FBar mkBar)  {f : Addr} {cdv : Value} {A : Around} {outer : List Env} {s : Shared} {H : Hp} {E : XK} (told : ToldD G K mg "_law_told" "what" "MetalError" ["MetalError"]) (lt : LTab G (cxOf (L2.CX P w) P w K mg base N_law "law" (defScope s_law) f cdv A outer s H E) P0) (hlp : G.lamP = lampOf (lamN (cxOf (L2.CX P w) P w K mg base N_law "law" (defScope s_law) f cdv A outer s H E)) (cxOf (L2.CX P w) P w K mg base N_law "law" (defScope s_law) f cdv A outer s H E).env.cells L_law) (hlq : G.lq = lamN (cxOf (L2.CX P w) P w K mg base N_law "law" (defScope s_law) f cdv A outer s H E)) (hr : Room 6 (A.deeper (PyProof.Rows.envOfC "law" (defScope s_law) s.heap.objs.size f cdv))) : DS G (WE E) (cxOf (L2.CX P w) P w K mg base N_law "law" (defScope s_law) f cdv A outer s H E) (nthS (bodyS (nthS (defBody s_law) 0)) 1) m_law_0_1 := by
  have c : CO G (cxOf (L2.CX P w) P w K mg base N_law "law" (defScope s_law) f cdv A outer s H E) := co_def T.hK hr
  have hN : N_law.Nodup := by decide
  exact ds_for hp_def (c).calm (di_rng1 (da_cons (de_bin (od_add (c)) (de_b (de_int)) (de_b (de_call F__law_roll (hr.mono (by decide)) hx_def (da_cons (de_var 1) (da_cons (de_int) (da_nil)))))) (da_nil)) T.b_range) (dg_name 3 hN) (dss_cons (ds_set 4 hN (de_bin (od_add (c)) (de_b (de_int)) (de_b (de_call F__law_roll (hr.mono (by decide)) hx_def (da_cons (de_var 1) (da_cons (de_int) (da_nil))))))) (dss_cons (ds_app 2 (de_tup (da_cons (de_var 4) (da_cons (de_call F__law_roll (hr.mono (by decide)) hx_def (da_cons (de_var 1) (da_cons (de_bin (od_add (c)) (db_var 4) (de_b (de_int))) (da_nil)))) (da_nil))))) (dss_nil)))

set_option maxHeartbeats 4000000 in
theorem w_law_0_2 (T : Tops G K mg) (F__law_dice : CalD G P w K mg base 1 "_law_dice" 1 S_dice) (F__law_roll : CalD G P w K mg base 3 "_law_roll" 2 S_roll) (F__law_rounds : CalD G P w K mg base 3 "_law_rounds" 2 S_rounds) (F_least : CalD G P w K mg base 4 "least" 2 S_least) (F_cut : CalD G P w K mg base 4 "cut" 2 S_cut) (F_melted : CalD G P w K mg base 4 "melted" 1 S_melted) (F_copper_for : CalD G P w K mg base 4 "copper_for" 3 S_copper_for) (F_best_melt : CalD G P w K mg base 4 "best_melt" 4 S_best_melt) (M_Bar_fineness : MetD G P w K mg base 2 "Bar" "fineness" 1 S_fineness) (M_Bar_thousandths : MetD G P w K mg base 2 "Bar" "thousandths" 1 S_thousandths) (C_Bar : ClsD G P w K mg base 1 "Bar" 3 FBar) (mkBar_ok : MkF "Bar" FBar mkBar)  {f : Addr} {cdv : Value} {A : Around} {outer : List Env} {s : Shared} {H : Hp} {E : XK} (told : ToldD G K mg "_law_told" "what" "MetalError" ["MetalError"]) (lt : LTab G (cxOf (L2.CX P w) P w K mg base N_law "law" (defScope s_law) f cdv A outer s H E) P0) (hlp : G.lamP = lampOf (lamN (cxOf (L2.CX P w) P w K mg base N_law "law" (defScope s_law) f cdv A outer s H E)) (cxOf (L2.CX P w) P w K mg base N_law "law" (defScope s_law) f cdv A outer s H E).env.cells L_law) (hlq : G.lq = lamN (cxOf (L2.CX P w) P w K mg base N_law "law" (defScope s_law) f cdv A outer s H E)) (hr : Room 6 (A.deeper (PyProof.Rows.envOfC "law" (defScope s_law) s.heap.objs.size f cdv))) : DS G (WE E) (cxOf (L2.CX P w) P w K mg base N_law "law" (defScope s_law) f cdv A outer s H E) (nthS (bodyS (nthS (defBody s_law) 0)) 2) m_law_0_2 := by
  have c : CO G (cxOf (L2.CX P w) P w K mg base N_law "law" (defScope s_law) f cdv A outer s H E) := co_def T.hK hr
  have hN : N_law.Nodup := by decide
  exact ds_frz 2 (ds_setLc 5 (own := [("row", 6)]) (c).calm hN (di_list (c).K (de_var 2)) (blkOk_by (by show blkC N_law (defScope s_law) _ _ = true; kernel_rfl)) (fun _ _ _ _ _ => dg_name 6 hN) (fun _ _ _ _ _ => dts_nil) (fun _ _ _ _ _ => de_makeF C_Bar mkBar_ok (hr.mono (by decide)) passes0 (da_cons (de_ix (xd_seq (CO.blk c)) (db_var 6) (de_b (de_int))) (da_cons (de_ix (xd_seq (CO.blk c)) (db_var 6) (de_b (de_int))) (da_nil)))) (by decide))

set_option maxHeartbeats 4000000 in
theorem w_law_0_3_0 (T : Tops G K mg) (F__law_dice : CalD G P w K mg base 1 "_law_dice" 1 S_dice) (F__law_roll : CalD G P w K mg base 3 "_law_roll" 2 S_roll) (F__law_rounds : CalD G P w K mg base 3 "_law_rounds" 2 S_rounds) (F_least : CalD G P w K mg base 4 "least" 2 S_least) (F_cut : CalD G P w K mg base 4 "cut" 2 S_cut) (F_melted : CalD G P w K mg base 4 "melted" 1 S_melted) (F_copper_for : CalD G P w K mg base 4 "copper_for" 3 S_copper_for) (F_best_melt : CalD G P w K mg base 4 "best_melt" 4 S_best_melt) (M_Bar_fineness : MetD G P w K mg base 2 "Bar" "fineness" 1 S_fineness) (M_Bar_thousandths : MetD G P w K mg base 2 "Bar" "thousandths" 1 S_thousandths) (C_Bar : ClsD G P w K mg base 1 "Bar" 3 FBar) (mkBar_ok : MkF "Bar" FBar mkBar)  {f : Addr} {cdv : Value} {A : Around} {outer : List Env} {s : Shared} {H : Hp} {E : XK} (told : ToldD G K mg "_law_told" "what" "MetalError" ["MetalError"]) (lt : LTab G (cxOf (L2.CX P w) P w K mg base N_law "law" (defScope s_law) f cdv A outer s H E) P0) (hlp : G.lamP = lampOf (lamN (cxOf (L2.CX P w) P w K mg base N_law "law" (defScope s_law) f cdv A outer s H E)) (cxOf (L2.CX P w) P w K mg base N_law "law" (defScope s_law) f cdv A outer s H E).env.cells L_law) (hlq : G.lq = lamN (cxOf (L2.CX P w) P w K mg base N_law "law" (defScope s_law) f cdv A outer s H E)) (hr : Room 6 (A.deeper (PyProof.Rows.envOfC "law" (defScope s_law) s.heap.objs.size f cdv))) : DS G (WE E) (cxOf (L2.CX P w) P w K mg base N_law "law" (defScope s_law) f cdv A outer s H E) (nthS (bodyS (nthS (bodyS (nthS (defBody s_law) 0)) 3)) 0) m_law_0_3_0 := by
  have c : CO G (cxOf (L2.CX P w) P w K mg base N_law "law" (defScope s_law) f cdv A outer s H E) := co_def T.hK hr
  have hN : N_law.Nodup := by decide
  exact ds_asg (de_meth0 (c).K M_Bar_fineness (hr.mono (by decide)) hx_def (de_var 7)) (dg_tup (c).K (c).calm (dgs_cons (dg_name 8 hN) (dgs_cons (dg_name 9 hN) (dgs_nil))))

set_option maxHeartbeats 4000000 in
theorem w_law_0_3_1 (T : Tops G K mg) (F__law_dice : CalD G P w K mg base 1 "_law_dice" 1 S_dice) (F__law_roll : CalD G P w K mg base 3 "_law_roll" 2 S_roll) (F__law_rounds : CalD G P w K mg base 3 "_law_rounds" 2 S_rounds) (F_least : CalD G P w K mg base 4 "least" 2 S_least) (F_cut : CalD G P w K mg base 4 "cut" 2 S_cut) (F_melted : CalD G P w K mg base 4 "melted" 1 S_melted) (F_copper_for : CalD G P w K mg base 4 "copper_for" 3 S_copper_for) (F_best_melt : CalD G P w K mg base 4 "best_melt" 4 S_best_melt) (M_Bar_fineness : MetD G P w K mg base 2 "Bar" "fineness" 1 S_fineness) (M_Bar_thousandths : MetD G P w K mg base 2 "Bar" "thousandths" 1 S_thousandths) (C_Bar : ClsD G P w K mg base 1 "Bar" 3 FBar) (mkBar_ok : MkF "Bar" FBar mkBar)  {f : Addr} {cdv : Value} {A : Around} {outer : List Env} {s : Shared} {H : Hp} {E : XK} (told : ToldD G K mg "_law_told" "what" "MetalError" ["MetalError"]) (lt : LTab G (cxOf (L2.CX P w) P w K mg base N_law "law" (defScope s_law) f cdv A outer s H E) P0) (hlp : G.lamP = lampOf (lamN (cxOf (L2.CX P w) P w K mg base N_law "law" (defScope s_law) f cdv A outer s H E)) (cxOf (L2.CX P w) P w K mg base N_law "law" (defScope s_law) f cdv A outer s H E).env.cells L_law) (hlq : G.lq = lamN (cxOf (L2.CX P w) P w K mg base N_law "law" (defScope s_law) f cdv A outer s H E)) (hr : Room 6 (A.deeper (PyProof.Rows.envOfC "law" (defScope s_law) s.heap.objs.size f cdv))) : DS G (WE E) (cxOf (L2.CX P w) P w K mg base N_law "law" (defScope s_law) f cdv A outer s H E) (nthS (bodyS (nthS (bodyS (nthS (defBody s_law) 0)) 3)) 1) m_law_0_3_1 := by
  have c : CO G (cxOf (L2.CX P w) P w K mg base N_law "law" (defScope s_law) f cdv A outer s H E) := co_def T.hK hr
  have hN : N_law.Nodup := by decide
  exact ds_if (dt_w (dw_or (dt_cmp (od_ne (c)) (de_b (de_bin (od_mul) (db_var 8) (de_b (de_ix (xd_seq (c)) (db_var 6) (de_b (de_int)))))) (de_b (de_bin (od_mul) (de_b (de_ix (xd_seq (c)) (db_var 6) (de_b (de_int)))) (db_var 9)))) (dw_or (dt_cmp (od_ne (c)) (de_b (de_n (dn_lc (own := [("k", 3)]) (c).calm hN (di_rng2 (da_cons (de_int) (da_cons (de_bin (od_add (c)) (db_var 9) (de_b (de_int))) (da_nil))) T.b_range) (blkOk_by (by show blkC N_law (defScope s_law) _ _ = true; kernel_rfl)) (fun _ _ _ _ _ => dg_name 3 hN) (fun _ _ _ _ _ => dts_one (dt_w (dw_and (dt_cmp (od_eq (CO.blk c)) (de_b (de_bin (od_mod) (db_var 8) (db_var 3))) (de_b (de_int))) (dw_and1 (dt_cmp (od_eq (CO.blk c)) (de_b (de_bin (od_mod) (db_var 9) (db_var 3))) (de_b (de_int))))))) (fun _ _ _ _ _ => de_var 3) (by decide)))) (de_b (de_lst (da_nil)))) (dw_or (dt_cmp (od_ne (c)) (de_b (de_meth0 (c).K M_Bar_thousandths (hr.mono (by decide)) hx_def (de_var 7))) (de_b (de_bin (od_div) (de_b (de_bin (od_mul) (de_b (de_ix (xd_seq (c)) (db_var 6) (de_b (de_int)))) (de_b (de_int)))) (de_b (de_ix (xd_seq (c)) (db_var 6) (de_b (de_int))))))) (dw_or1 (dt_cmp (od_ne (c)) (de_b (de_call F_least (hr.mono (by decide)) hx_def (da_cons (de_ix (xd_seq (c)) (db_var 6) (de_b (de_int))) (da_cons (de_ix (xd_seq (c)) (db_var 6) (de_b (de_int))) (da_nil))))) (de_b (de_tup (da_cons (de_var 8) (da_cons (de_var 9) (da_nil))))))))))) (dss_cons (ds_ret (de_bl)) (dss_nil)) (dss_nil)

set_option maxHeartbeats 4000000 in
theorem w_law_0_3_2 (T : Tops G K mg) (F__law_dice : CalD G P w K mg base 1 "_law_dice" 1 S_dice) (F__law_roll : CalD G P w K mg base 3 "_law_roll" 2 S_roll) (F__law_rounds : CalD G P w K mg base 3 "_law_rounds" 2 S_rounds) (F_least : CalD G P w K mg base 4 "least" 2 S_least) (F_cut : CalD G P w K mg base 4 "cut" 2 S_cut) (F_melted : CalD G P w K mg base 4 "melted" 1 S_melted) (F_copper_for : CalD G P w K mg base 4 "copper_for" 3 S_copper_for) (F_best_melt : CalD G P w K mg base 4 "best_melt" 4 S_best_melt) (M_Bar_fineness : MetD G P w K mg base 2 "Bar" "fineness" 1 S_fineness) (M_Bar_thousandths : MetD G P w K mg base 2 "Bar" "thousandths" 1 S_thousandths) (C_Bar : ClsD G P w K mg base 1 "Bar" 3 FBar) (mkBar_ok : MkF "Bar" FBar mkBar)  {f : Addr} {cdv : Value} {A : Around} {outer : List Env} {s : Shared} {H : Hp} {E : XK} (told : ToldD G K mg "_law_told" "what" "MetalError" ["MetalError"]) (lt : LTab G (cxOf (L2.CX P w) P w K mg base N_law "law" (defScope s_law) f cdv A outer s H E) P0) (hlp : G.lamP = lampOf (lamN (cxOf (L2.CX P w) P w K mg base N_law "law" (defScope s_law) f cdv A outer s H E)) (cxOf (L2.CX P w) P w K mg base N_law "law" (defScope s_law) f cdv A outer s H E).env.cells L_law) (hlq : G.lq = lamN (cxOf (L2.CX P w) P w K mg base N_law "law" (defScope s_law) f cdv A outer s H E)) (hr : Room 6 (A.deeper (PyProof.Rows.envOfC "law" (defScope s_law) s.heap.objs.size f cdv))) : DS G (WE E) (cxOf (L2.CX P w) P w K mg base N_law "law" (defScope s_law) f cdv A outer s H E) (nthS (bodyS (nthS (bodyS (nthS (defBody s_law) 0)) 3)) 2) m_law_0_3_2 := by
  have c : CO G (cxOf (L2.CX P w) P w K mg base N_law "law" (defScope s_law) f cdv A outer s H E) := co_def T.hK hr
  have hN : N_law.Nodup := by decide
  exact ds_set 4 hN (de_bin (od_add (c)) (de_b (de_int)) (de_b (de_call F__law_roll (hr.mono (by decide)) hx_def (da_cons (de_var 1) (da_cons (de_ix (xd_seq (c)) (db_var 6) (de_b (de_int))) (da_nil))))))

set_option maxHeartbeats 4000000 in
theorem w_law_0_3_3 (T : Tops G K mg) (F__law_dice : CalD G P w K mg base 1 "_law_dice" 1 S_dice) (F__law_roll : CalD G P w K mg base 3 "_law_roll" 2 S_roll) (F__law_rounds : CalD G P w K mg base 3 "_law_rounds" 2 S_rounds) (F_least : CalD G P w K mg base 4 "least" 2 S_least) (F_cut : CalD G P w K mg base 4 "cut" 2 S_cut) (F_melted : CalD G P w K mg base 4 "melted" 1 S_melted) (F_copper_for : CalD G P w K mg base 4 "copper_for" 3 S_copper_for) (F_best_melt : CalD G P w K mg base 4 "best_melt" 4 S_best_melt) (M_Bar_fineness : MetD G P w K mg base 2 "Bar" "fineness" 1 S_fineness) (M_Bar_thousandths : MetD G P w K mg base 2 "Bar" "thousandths" 1 S_thousandths) (C_Bar : ClsD G P w K mg base 1 "Bar" 3 FBar) (mkBar_ok : MkF "Bar" FBar mkBar)  {f : Addr} {cdv : Value} {A : Around} {outer : List Env} {s : Shared} {H : Hp} {E : XK} (told : ToldD G K mg "_law_told" "what" "MetalError" ["MetalError"]) (lt : LTab G (cxOf (L2.CX P w) P w K mg base N_law "law" (defScope s_law) f cdv A outer s H E) P0) (hlp : G.lamP = lampOf (lamN (cxOf (L2.CX P w) P w K mg base N_law "law" (defScope s_law) f cdv A outer s H E)) (cxOf (L2.CX P w) P w K mg base N_law "law" (defScope s_law) f cdv A outer s H E).env.cells L_law) (hlq : G.lq = lamN (cxOf (L2.CX P w) P w K mg base N_law "law" (defScope s_law) f cdv A outer s H E)) (hr : Room 6 (A.deeper (PyProof.Rows.envOfC "law" (defScope s_law) s.heap.objs.size f cdv))) : DS G (WE E) (cxOf (L2.CX P w) P w K mg base N_law "law" (defScope s_law) f cdv A outer s H E) (nthS (bodyS (nthS (bodyS (nthS (defBody s_law) 0)) 3)) 3) m_law_0_3_3 := by
  have c : CO G (cxOf (L2.CX P w) P w K mg base N_law "law" (defScope s_law) f cdv A outer s H E) := co_def T.hK hr
  have hN : N_law.Nodup := by decide
  exact ds_asg (de_call F_cut (hr.mono (by decide)) hx_def (da_cons (de_var 7) (da_cons (de_var 4) (da_nil)))) (dg_tup (c).K (c).calm (dgs_cons (dg_name 10 hN) (dgs_cons (dg_name 11 hN) (dgs_nil))))

set_option maxHeartbeats 4000000 in
theorem w_law_0_3_4 (T : Tops G K mg) (F__law_dice : CalD G P w K mg base 1 "_law_dice" 1 S_dice) (F__law_roll : CalD G P w K mg base 3 "_law_roll" 2 S_roll) (F__law_rounds : CalD G P w K mg base 3 "_law_rounds" 2 S_rounds) (F_least : CalD G P w K mg base 4 "least" 2 S_least) (F_cut : CalD G P w K mg base 4 "cut" 2 S_cut) (F_melted : CalD G P w K mg base 4 "melted" 1 S_melted) (F_copper_for : CalD G P w K mg base 4 "copper_for" 3 S_copper_for) (F_best_melt : CalD G P w K mg base 4 "best_melt" 4 S_best_melt) (M_Bar_fineness : MetD G P w K mg base 2 "Bar" "fineness" 1 S_fineness) (M_Bar_thousandths : MetD G P w K mg base 2 "Bar" "thousandths" 1 S_thousandths) (C_Bar : ClsD G P w K mg base 1 "Bar" 3 FBar) (mkBar_ok : MkF "Bar" FBar mkBar)  {f : Addr} {cdv : Value} {A : Around} {outer : List Env} {s : Shared} {H : Hp} {E : XK} (told : ToldD G K mg "_law_told" "what" "MetalError" ["MetalError"]) (lt : LTab G (cxOf (L2.CX P w) P w K mg base N_law "law" (defScope s_law) f cdv A outer s H E) P0) (hlp : G.lamP = lampOf (lamN (cxOf (L2.CX P w) P w K mg base N_law "law" (defScope s_law) f cdv A outer s H E)) (cxOf (L2.CX P w) P w K mg base N_law "law" (defScope s_law) f cdv A outer s H E).env.cells L_law) (hlq : G.lq = lamN (cxOf (L2.CX P w) P w K mg base N_law "law" (defScope s_law) f cdv A outer s H E)) (hr : Room 6 (A.deeper (PyProof.Rows.envOfC "law" (defScope s_law) s.heap.objs.size f cdv))) : DS G (WE E) (cxOf (L2.CX P w) P w K mg base N_law "law" (defScope s_law) f cdv A outer s H E) (nthS (bodyS (nthS (bodyS (nthS (defBody s_law) 0)) 3)) 4) m_law_0_3_4 := by
  have c : CO G (cxOf (L2.CX P w) P w K mg base N_law "law" (defScope s_law) f cdv A outer s H E) := co_def T.hK hr
  have hN : N_law.Nodup := by decide
  exact ds_set 12 hN (de_if (dt_cmp od_notN (db_var 11) (de_b (de_non))) (de_tup (da_cons (de_fld (c).K T.f_weight (db_var 11)) (da_cons (de_fld (c).K T.f_fine (db_var 11)) (da_nil)))) (de_tup (da_cons (de_int) (da_cons (de_int) (da_nil)))))

set_option maxHeartbeats 4000000 in
theorem w_law_0_3_5 (T : Tops G K mg) (F__law_dice : CalD G P w K mg base 1 "_law_dice" 1 S_dice) (F__law_roll : CalD G P w K mg base 3 "_law_roll" 2 S_roll) (F__law_rounds : CalD G P w K mg base 3 "_law_rounds" 2 S_rounds) (F_least : CalD G P w K mg base 4 "least" 2 S_least) (F_cut : CalD G P w K mg base 4 "cut" 2 S_cut) (F_melted : CalD G P w K mg base 4 "melted" 1 S_melted) (F_copper_for : CalD G P w K mg base 4 "copper_for" 3 S_copper_for) (F_best_melt : CalD G P w K mg base 4 "best_melt" 4 S_best_melt) (M_Bar_fineness : MetD G P w K mg base 2 "Bar" "fineness" 1 S_fineness) (M_Bar_thousandths : MetD G P w K mg base 2 "Bar" "thousandths" 1 S_thousandths) (C_Bar : ClsD G P w K mg base 1 "Bar" 3 FBar) (mkBar_ok : MkF "Bar" FBar mkBar)  {f : Addr} {cdv : Value} {A : Around} {outer : List Env} {s : Shared} {H : Hp} {E : XK} (told : ToldD G K mg "_law_told" "what" "MetalError" ["MetalError"]) (lt : LTab G (cxOf (L2.CX P w) P w K mg base N_law "law" (defScope s_law) f cdv A outer s H E) P0) (hlp : G.lamP = lampOf (lamN (cxOf (L2.CX P w) P w K mg base N_law "law" (defScope s_law) f cdv A outer s H E)) (cxOf (L2.CX P w) P w K mg base N_law "law" (defScope s_law) f cdv A outer s H E).env.cells L_law) (hlq : G.lq = lamN (cxOf (L2.CX P w) P w K mg base N_law "law" (defScope s_law) f cdv A outer s H E)) (hr : Room 6 (A.deeper (PyProof.Rows.envOfC "law" (defScope s_law) s.heap.objs.size f cdv))) : DS G (WE E) (cxOf (L2.CX P w) P w K mg base N_law "law" (defScope s_law) f cdv A outer s H E) (nthS (bodyS (nthS (bodyS (nthS (defBody s_law) 0)) 3)) 5) m_law_0_3_5 := by
  have c : CO G (cxOf (L2.CX P w) P w K mg base N_law "law" (defScope s_law) f cdv A outer s H E) := co_def T.hK hr
  have hN : N_law.Nodup := by decide
  exact ds_if (dt_w (dw_or (dt_cmp (od_ne (c)) (de_b (de_tup (da_cons (de_fld (c).K T.f_weight (db_var 10)) (da_cons (de_fld (c).K T.f_fine (db_var 10)) (da_nil))))) (de_b (de_tup (da_cons (de_var 4) (da_cons (de_bin (od_div) (de_b (de_bin (od_mul) (de_b (de_ix (xd_seq (c)) (db_var 6) (de_b (de_int)))) (db_var 4))) (de_b (de_ix (xd_seq (c)) (db_var 6) (de_b (de_int))))) (da_nil)))))) (dw_or1 (dt_cmp (od_ne (c)) (de_b (de_tup (da_cons (de_bin (od_add (c)) (de_b (de_fld (c).K T.f_weight (db_var 10))) (de_b (de_ix (xd_seq (c)) (db_var 12) (de_b (de_int))))) (da_cons (de_bin (od_add (c)) (de_b (de_fld (c).K T.f_fine (db_var 10))) (de_b (de_ix (xd_seq (c)) (db_var 12) (de_b (de_int))))) (da_nil))))) (db_var 6))))) (dss_cons (ds_ret (de_bl)) (dss_nil)) (dss_nil)

set_option maxHeartbeats 4000000 in
theorem w_law_0_3_6 (T : Tops G K mg) (F__law_dice : CalD G P w K mg base 1 "_law_dice" 1 S_dice) (F__law_roll : CalD G P w K mg base 3 "_law_roll" 2 S_roll) (F__law_rounds : CalD G P w K mg base 3 "_law_rounds" 2 S_rounds) (F_least : CalD G P w K mg base 4 "least" 2 S_least) (F_cut : CalD G P w K mg base 4 "cut" 2 S_cut) (F_melted : CalD G P w K mg base 4 "melted" 1 S_melted) (F_copper_for : CalD G P w K mg base 4 "copper_for" 3 S_copper_for) (F_best_melt : CalD G P w K mg base 4 "best_melt" 4 S_best_melt) (M_Bar_fineness : MetD G P w K mg base 2 "Bar" "fineness" 1 S_fineness) (M_Bar_thousandths : MetD G P w K mg base 2 "Bar" "thousandths" 1 S_thousandths) (C_Bar : ClsD G P w K mg base 1 "Bar" 3 FBar) (mkBar_ok : MkF "Bar" FBar mkBar)  {f : Addr} {cdv : Value} {A : Around} {outer : List Env} {s : Shared} {H : Hp} {E : XK} (told : ToldD G K mg "_law_told" "what" "MetalError" ["MetalError"]) (lt : LTab G (cxOf (L2.CX P w) P w K mg base N_law "law" (defScope s_law) f cdv A outer s H E) P0) (hlp : G.lamP = lampOf (lamN (cxOf (L2.CX P w) P w K mg base N_law "law" (defScope s_law) f cdv A outer s H E)) (cxOf (L2.CX P w) P w K mg base N_law "law" (defScope s_law) f cdv A outer s H E).env.cells L_law) (hlq : G.lq = lamN (cxOf (L2.CX P w) P w K mg base N_law "law" (defScope s_law) f cdv A outer s H E)) (hr : Room 6 (A.deeper (PyProof.Rows.envOfC "law" (defScope s_law) s.heap.objs.size f cdv))) : DS G (WE E) (cxOf (L2.CX P w) P w K mg base N_law "law" (defScope s_law) f cdv A outer s H E) (nthS (bodyS (nthS (bodyS (nthS (defBody s_law) 0)) 3)) 6) m_law_0_3_6 := by
  have c : CO G (cxOf (L2.CX P w) P w K mg base N_law "law" (defScope s_law) f cdv A outer s H E) := co_def T.hK hr
  have hN : N_law.Nodup := by decide
  exact ds_set 9 hN (de_bin (od_add (c)) (de_b (de_int)) (de_b (de_call F__law_roll (hr.mono (by decide)) hx_def (da_cons (de_var 1) (da_cons (de_int) (da_nil))))))

set_option maxHeartbeats 4000000 in
theorem w_law_0_3_7 (T : Tops G K mg) (F__law_dice : CalD G P w K mg base 1 "_law_dice" 1 S_dice) (F__law_roll : CalD G P w K mg base 3 "_law_roll" 2 S_roll) (F__law_rounds : CalD G P w K mg base 3 "_law_rounds" 2 S_rounds) (F_least : CalD G P w K mg base 4 "least" 2 S_least) (F_cut : CalD G P w K mg base 4 "cut" 2 S_cut) (F_melted : CalD G P w K mg base 4 "melted" 1 S_melted) (F_copper_for : CalD G P w K mg base 4 "copper_for" 3 S_copper_for) (F_best_melt : CalD G P w K mg base 4 "best_melt" 4 S_best_melt) (M_Bar_fineness : MetD G P w K mg base 2 "Bar" "fineness" 1 S_fineness) (M_Bar_thousandths : MetD G P w K mg base 2 "Bar" "thousandths" 1 S_thousandths) (C_Bar : ClsD G P w K mg base 1 "Bar" 3 FBar) (mkBar_ok : MkF "Bar" FBar mkBar)  {f : Addr} {cdv : Value} {A : Around} {outer : List Env} {s : Shared} {H : Hp} {E : XK} (told : ToldD G K mg "_law_told" "what" "MetalError" ["MetalError"]) (lt : LTab G (cxOf (L2.CX P w) P w K mg base N_law "law" (defScope s_law) f cdv A outer s H E) P0) (hlp : G.lamP = lampOf (lamN (cxOf (L2.CX P w) P w K mg base N_law "law" (defScope s_law) f cdv A outer s H E)) (cxOf (L2.CX P w) P w K mg base N_law "law" (defScope s_law) f cdv A outer s H E).env.cells L_law) (hlq : G.lq = lamN (cxOf (L2.CX P w) P w K mg base N_law "law" (defScope s_law) f cdv A outer s H E)) (hr : Room 6 (A.deeper (PyProof.Rows.envOfC "law" (defScope s_law) s.heap.objs.size f cdv))) : DS G (WE E) (cxOf (L2.CX P w) P w K mg base N_law "law" (defScope s_law) f cdv A outer s H E) (nthS (bodyS (nthS (bodyS (nthS (defBody s_law) 0)) 3)) 7) m_law_0_3_7 := by
  have c : CO G (cxOf (L2.CX P w) P w K mg base N_law "law" (defScope s_law) f cdv A outer s H E) := co_def T.hK hr
  have hN : N_law.Nodup := by decide
  exact ds_set 8 hN (de_bin (od_add (c)) (de_b (de_int)) (de_b (de_call F__law_roll (hr.mono (by decide)) hx_def (da_cons (de_var 1) (da_cons (de_var 9) (da_nil))))))

set_option maxHeartbeats 4000000 in
theorem w_law_0_3_8 (T : Tops G K mg) (F__law_dice : CalD G P w K mg base 1 "_law_dice" 1 S_dice) (F__law_roll : CalD G P w K mg base 3 "_law_roll" 2 S_roll) (F__law_rounds : CalD G P w K mg base 3 "_law_rounds" 2 S_rounds) (F_least : CalD G P w K mg base 4 "least" 2 S_least) (F_cut : CalD G P w K mg base 4 "cut" 2 S_cut) (F_melted : CalD G P w K mg base 4 "melted" 1 S_melted) (F_copper_for : CalD G P w K mg base 4 "copper_for" 3 S_copper_for) (F_best_melt : CalD G P w K mg base 4 "best_melt" 4 S_best_melt) (M_Bar_fineness : MetD G P w K mg base 2 "Bar" "fineness" 1 S_fineness) (M_Bar_thousandths : MetD G P w K mg base 2 "Bar" "thousandths" 1 S_thousandths) (C_Bar : ClsD G P w K mg base 1 "Bar" 3 FBar) (mkBar_ok : MkF "Bar" FBar mkBar)  {f : Addr} {cdv : Value} {A : Around} {outer : List Env} {s : Shared} {H : Hp} {E : XK} (told : ToldD G K mg "_law_told" "what" "MetalError" ["MetalError"]) (lt : LTab G (cxOf (L2.CX P w) P w K mg base N_law "law" (defScope s_law) f cdv A outer s H E) P0) (hlp : G.lamP = lampOf (lamN (cxOf (L2.CX P w) P w K mg base N_law "law" (defScope s_law) f cdv A outer s H E)) (cxOf (L2.CX P w) P w K mg base N_law "law" (defScope s_law) f cdv A outer s H E).env.cells L_law) (hlq : G.lq = lamN (cxOf (L2.CX P w) P w K mg base N_law "law" (defScope s_law) f cdv A outer s H E)) (hr : Room 6 (A.deeper (PyProof.Rows.envOfC "law" (defScope s_law) s.heap.objs.size f cdv))) : DS G (WE E) (cxOf (L2.CX P w) P w K mg base N_law "law" (defScope s_law) f cdv A outer s H E) (nthS (bodyS (nthS (bodyS (nthS (defBody s_law) 0)) 3)) 8) m_law_0_3_8 := by
  have c : CO G (cxOf (L2.CX P w) P w K mg base N_law "law" (defScope s_law) f cdv A outer s H E) := co_def T.hK hr
  have hN : N_law.Nodup := by decide
  exact ds_set 13 hN (de_cmp (od_ge (c)) (de_b (de_bin (od_mul) (de_b (de_ix (xd_seq (c)) (db_var 6) (de_b (de_int)))) (db_var 9))) (de_b (de_bin (od_mul) (db_var 8) (de_b (de_ix (xd_seq (c)) (db_var 6) (de_b (de_int)))))))

set_option maxHeartbeats 4000000 in
theorem w_law_0_3_9 (T : Tops G K mg) (F__law_dice : CalD G P w K mg base 1 "_law_dice" 1 S_dice) (F__law_roll : CalD G P w K mg base 3 "_law_roll" 2 S_roll) (F__law_rounds : CalD G P w K mg base 3 "_law_rounds" 2 S_rounds) (F_least : CalD G P w K mg base 4 "least" 2 S_least) (F_cut : CalD G P w K mg base 4 "cut" 2 S_cut) (F_melted : CalD G P w K mg base 4 "melted" 1 S_melted) (F_copper_for : CalD G P w K mg base 4 "copper_for" 3 S_copper_for) (F_best_melt : CalD G P w K mg base 4 "best_melt" 4 S_best_melt) (M_Bar_fineness : MetD G P w K mg base 2 "Bar" "fineness" 1 S_fineness) (M_Bar_thousandths : MetD G P w K mg base 2 "Bar" "thousandths" 1 S_thousandths) (C_Bar : ClsD G P w K mg base 1 "Bar" 3 FBar) (mkBar_ok : MkF "Bar" FBar mkBar)  {f : Addr} {cdv : Value} {A : Around} {outer : List Env} {s : Shared} {H : Hp} {E : XK} (told : ToldD G K mg "_law_told" "what" "MetalError" ["MetalError"]) (lt : LTab G (cxOf (L2.CX P w) P w K mg base N_law "law" (defScope s_law) f cdv A outer s H E) P0) (hlp : G.lamP = lampOf (lamN (cxOf (L2.CX P w) P w K mg base N_law "law" (defScope s_law) f cdv A outer s H E)) (cxOf (L2.CX P w) P w K mg base N_law "law" (defScope s_law) f cdv A outer s H E).env.cells L_law) (hlq : G.lq = lamN (cxOf (L2.CX P w) P w K mg base N_law "law" (defScope s_law) f cdv A outer s H E)) (hr : Room 6 (A.deeper (PyProof.Rows.envOfC "law" (defScope s_law) s.heap.objs.size f cdv))) : DS G (WE E) (cxOf (L2.CX P w) P w K mg base N_law "law" (defScope s_law) f cdv A outer s H E) (nthS (bodyS (nthS (bodyS (nthS (defBody s_law) 0)) 3)) 9) m_law_0_3_9 := by
  have c : CO G (cxOf (L2.CX P w) P w K mg base N_law "law" (defScope s_law) f cdv A outer s H E) := co_def T.hK hr
  have hN : N_law.Nodup := by decide
  exact ds_set 14 hN (de_int)

set_option maxHeartbeats 4000000 in
theorem w_law_0_3_10 (T : Tops G K mg) (F__law_dice : CalD G P w K mg base 1 "_law_dice" 1 S_dice) (F__law_roll : CalD G P w K mg base 3 "_law_roll" 2 S_roll) (F__law_rounds : CalD G P w K mg base 3 "_law_rounds" 2 S_rounds) (F_least : CalD G P w K mg base 4 "least" 2 S_least) (F_cut : CalD G P w K mg base 4 "cut" 2 S_cut) (F_melted : CalD G P w K mg base 4 "melted" 1 S_melted) (F_copper_for : CalD G P w K mg base 4 "copper_for" 3 S_copper_for) (F_best_melt : CalD G P w K mg base 4 "best_melt" 4 S_best_melt) (M_Bar_fineness : MetD G P w K mg base 2 "Bar" "fineness" 1 S_fineness) (M_Bar_thousandths : MetD G P w K mg base 2 "Bar" "thousandths" 1 S_thousandths) (C_Bar : ClsD G P w K mg base 1 "Bar" 3 FBar) (mkBar_ok : MkF "Bar" FBar mkBar)  {f : Addr} {cdv : Value} {A : Around} {outer : List Env} {s : Shared} {H : Hp} {E : XK} (told : ToldD G K mg "_law_told" "what" "MetalError" ["MetalError"]) (lt : LTab G (cxOf (L2.CX P w) P w K mg base N_law "law" (defScope s_law) f cdv A outer s H E) P0) (hlp : G.lamP = lampOf (lamN (cxOf (L2.CX P w) P w K mg base N_law "law" (defScope s_law) f cdv A outer s H E)) (cxOf (L2.CX P w) P w K mg base N_law "law" (defScope s_law) f cdv A outer s H E).env.cells L_law) (hlq : G.lq = lamN (cxOf (L2.CX P w) P w K mg base N_law "law" (defScope s_law) f cdv A outer s H E)) (hr : Room 6 (A.deeper (PyProof.Rows.envOfC "law" (defScope s_law) s.heap.objs.size f cdv))) : DS G (WE E) (cxOf (L2.CX P w) P w K mg base N_law "law" (defScope s_law) f cdv A outer s H E) (nthS (bodyS (nthS (bodyS (nthS (defBody s_law) 0)) 3)) 10) m_law_0_3_10 := by
  have c : CO G (cxOf (L2.CX P w) P w K mg base N_law "law" (defScope s_law) f cdv A outer s H E) := co_def T.hK hr
  have hN : N_law.Nodup := by decide
  exact ds_frz 13 (ds_while fuelLaw hp_def (dt_w (dw_and (dt_val (de_var 13)) (dw_and1 (dt_cmp (od_gt (c)) (de_b (de_bin (od_mul) (de_b (de_ix (xd_seq (c)) (db_var 6) (de_b (de_int)))) (db_var 9))) (de_b (de_bin (od_mul) (db_var 8) (de_b (de_bin (od_add (c)) (de_b (de_ix (xd_seq (c)) (db_var 6) (de_b (de_int)))) (db_var 14))))))))) (dss_cons (ds_set 14 hN (de_bin (od_add (c)) (db_var 14) (de_b (de_int)))) (dss_nil)))

set_option maxHeartbeats 4000000 in
theorem w_law_0_3_11 (T : Tops G K mg) (F__law_dice : CalD G P w K mg base 1 "_law_dice" 1 S_dice) (F__law_roll : CalD G P w K mg base 3 "_law_roll" 2 S_roll) (F__law_rounds : CalD G P w K mg base 3 "_law_rounds" 2 S_rounds) (F_least : CalD G P w K mg base 4 "least" 2 S_least) (F_cut : CalD G P w K mg base 4 "cut" 2 S_cut) (F_melted : CalD G P w K mg base 4 "melted" 1 S_melted) (F_copper_for : CalD G P w K mg base 4 "copper_for" 3 S_copper_for) (F_best_melt : CalD G P w K mg base 4 "best_melt" 4 S_best_melt) (M_Bar_fineness : MetD G P w K mg base 2 "Bar" "fineness" 1 S_fineness) (M_Bar_thousandths : MetD G P w K mg base 2 "Bar" "thousandths" 1 S_thousandths) (C_Bar : ClsD G P w K mg base 1 "Bar" 3 FBar) (mkBar_ok : MkF "Bar" FBar mkBar)  {f : Addr} {cdv : Value} {A : Around} {outer : List Env} {s : Shared} {H : Hp} {E : XK} (told : ToldD G K mg "_law_told" "what" "MetalError" ["MetalError"]) (lt : LTab G (cxOf (L2.CX P w) P w K mg base N_law "law" (defScope s_law) f cdv A outer s H E) P0) (hlp : G.lamP = lampOf (lamN (cxOf (L2.CX P w) P w K mg base N_law "law" (defScope s_law) f cdv A outer s H E)) (cxOf (L2.CX P w) P w K mg base N_law "law" (defScope s_law) f cdv A outer s H E).env.cells L_law) (hlq : G.lq = lamN (cxOf (L2.CX P w) P w K mg base N_law "law" (defScope s_law) f cdv A outer s H E)) (hr : Room 6 (A.deeper (PyProof.Rows.envOfC "law" (defScope s_law) s.heap.objs.size f cdv))) : DS G (WE E) (cxOf (L2.CX P w) P w K mg base N_law "law" (defScope s_law) f cdv A outer s H E) (nthS (bodyS (nthS (bodyS (nthS (defBody s_law) 0)) 3)) 11) m_law_0_3_11 := by
  have c : CO G (cxOf (L2.CX P w) P w K mg base N_law "law" (defScope s_law) f cdv A outer s H E) := co_def T.hK hr
  have hN : N_law.Nodup := by decide
  exact ds_frz 13 (ds_if (dt_cmp (od_ne (c)) (de_b (de_told (kk := 4) told lt (hr.mono (by decide)) (fun _ _ _ _ _ _ _ hr3 => de_call F_copper_for (hr3.mono (by decide)) hx_lam (da_cons (de_var 7) (da_cons (de_var 8) (da_cons (de_var 9) (da_nil))))))) (de_b (de_if (dt_val (de_var 13)) (de_var 14) (de_str)))) (dss_cons (ds_ret (de_bl)) (dss_nil)) (dss_nil))

set_option maxHeartbeats 4000000 in
theorem w_law_0_3 (T : Tops G K mg) (F__law_dice : CalD G P w K mg base 1 "_law_dice" 1 S_dice) (F__law_roll : CalD G P w K mg base 3 "_law_roll" 2 S_roll) (F__law_rounds : CalD G P w K mg base 3 "_law_rounds" 2 S_rounds) (F_least : CalD G P w K mg base 4 "least" 2 S_least) (F_cut : CalD G P w K mg base 4 "cut" 2 S_cut) (F_melted : CalD G P w K mg base 4 "melted" 1 S_melted) (F_copper_for : CalD G P w K mg base 4 "copper_for" 3 S_copper_for) (F_best_melt : CalD G P w K mg base 4 "best_melt" 4 S_best_melt) (M_Bar_fineness : MetD G P w K mg base 2 "Bar" "fineness" 1 S_fineness) (M_Bar_thousandths : MetD G P w K mg base 2 "Bar" "thousandths" 1 S_thousandths) (C_Bar : ClsD G P w K mg base 1 "Bar" 3 FBar) (mkBar_ok : MkF "Bar" FBar mkBar)  {f : Addr} {cdv : Value} {A : Around} {outer : List Env} {s : Shared} {H : Hp} {E : XK} (told : ToldD G K mg "_law_told" "what" "MetalError" ["MetalError"]) (lt : LTab G (cxOf (L2.CX P w) P w K mg base N_law "law" (defScope s_law) f cdv A outer s H E) P0) (hlp : G.lamP = lampOf (lamN (cxOf (L2.CX P w) P w K mg base N_law "law" (defScope s_law) f cdv A outer s H E)) (cxOf (L2.CX P w) P w K mg base N_law "law" (defScope s_law) f cdv A outer s H E).env.cells L_law) (hlq : G.lq = lamN (cxOf (L2.CX P w) P w K mg base N_law "law" (defScope s_law) f cdv A outer s H E)) (hr : Room 6 (A.deeper (PyProof.Rows.envOfC "law" (defScope s_law) s.heap.objs.size f cdv))) : DS G (WE E) (cxOf (L2.CX P w) P w K mg base N_law "law" (defScope s_law) f cdv A outer s H E) (nthS (bodyS (nthS (defBody s_law) 0)) 3) m_law_0_3 := by
  have c : CO G (cxOf (L2.CX P w) P w K mg base N_law "law" (defScope s_law) f cdv A outer s H E) := co_def T.hK hr
  have hN : N_law.Nodup := by decide
  exact ds_frz 2 (ds_for hp_def (c).calm (di_zip (c).K (da_cons (de_var 5) (da_cons (de_var 2) (da_nil))) T.b_zip) (dg_tup (c).K (c).calm (dgs_cons (dg_name 7 hN) (dgs_cons (dg_name 6 hN) (dgs_nil)))) (dss_cons (w_law_0_3_0 T F__law_dice F__law_roll F__law_rounds F_least F_cut F_melted F_copper_for F_best_melt M_Bar_fineness M_Bar_thousandths C_Bar mkBar_ok told lt hlp hlq hr) (dss_cons (w_law_0_3_1 T F__law_dice F__law_roll F__law_rounds F_least F_cut F_melted F_copper_for F_best_melt M_Bar_fineness M_Bar_thousandths C_Bar mkBar_ok told lt hlp hlq hr) (dss_cons (w_law_0_3_2 T F__law_dice F__law_roll F__law_rounds F_least F_cut F_melted F_copper_for F_best_melt M_Bar_fineness M_Bar_thousandths C_Bar mkBar_ok told lt hlp hlq hr) (dss_cons (w_law_0_3_3 T F__law_dice F__law_roll F__law_rounds F_least F_cut F_melted F_copper_for F_best_melt M_Bar_fineness M_Bar_thousandths C_Bar mkBar_ok told lt hlp hlq hr) (dss_cons (w_law_0_3_4 T F__law_dice F__law_roll F__law_rounds F_least F_cut F_melted F_copper_for F_best_melt M_Bar_fineness M_Bar_thousandths C_Bar mkBar_ok told lt hlp hlq hr) (dss_cons (w_law_0_3_5 T F__law_dice F__law_roll F__law_rounds F_least F_cut F_melted F_copper_for F_best_melt M_Bar_fineness M_Bar_thousandths C_Bar mkBar_ok told lt hlp hlq hr) (dss_cons (w_law_0_3_6 T F__law_dice F__law_roll F__law_rounds F_least F_cut F_melted F_copper_for F_best_melt M_Bar_fineness M_Bar_thousandths C_Bar mkBar_ok told lt hlp hlq hr) (dss_cons (w_law_0_3_7 T F__law_dice F__law_roll F__law_rounds F_least F_cut F_melted F_copper_for F_best_melt M_Bar_fineness M_Bar_thousandths C_Bar mkBar_ok told lt hlp hlq hr) (dss_cons (w_law_0_3_8 T F__law_dice F__law_roll F__law_rounds F_least F_cut F_melted F_copper_for F_best_melt M_Bar_fineness M_Bar_thousandths C_Bar mkBar_ok told lt hlp hlq hr) (dss_cons (w_law_0_3_9 T F__law_dice F__law_roll F__law_rounds F_least F_cut F_melted F_copper_for F_best_melt M_Bar_fineness M_Bar_thousandths C_Bar mkBar_ok told lt hlp hlq hr) (dss_cons (w_law_0_3_10 T F__law_dice F__law_roll F__law_rounds F_least F_cut F_melted F_copper_for F_best_melt M_Bar_fineness M_Bar_thousandths C_Bar mkBar_ok told lt hlp hlq hr) (dss_cons (w_law_0_3_11 T F__law_dice F__law_roll F__law_rounds F_least F_cut F_melted F_copper_for F_best_melt M_Bar_fineness M_Bar_thousandths C_Bar mkBar_ok told lt hlp hlq hr) (dss_nil))))))))))))))

set_option maxHeartbeats 4000000 in
theorem w_law_0_4 (T : Tops G K mg) (F__law_dice : CalD G P w K mg base 1 "_law_dice" 1 S_dice) (F__law_roll : CalD G P w K mg base 3 "_law_roll" 2 S_roll) (F__law_rounds : CalD G P w K mg base 3 "_law_rounds" 2 S_rounds) (F_least : CalD G P w K mg base 4 "least" 2 S_least) (F_cut : CalD G P w K mg base 4 "cut" 2 S_cut) (F_melted : CalD G P w K mg base 4 "melted" 1 S_melted) (F_copper_for : CalD G P w K mg base 4 "copper_for" 3 S_copper_for) (F_best_melt : CalD G P w K mg base 4 "best_melt" 4 S_best_melt) (M_Bar_fineness : MetD G P w K mg base 2 "Bar" "fineness" 1 S_fineness) (M_Bar_thousandths : MetD G P w K mg base 2 "Bar" "thousandths" 1 S_thousandths) (C_Bar : ClsD G P w K mg base 1 "Bar" 3 FBar) (mkBar_ok : MkF "Bar" FBar mkBar)  {f : Addr} {cdv : Value} {A : Around} {outer : List Env} {s : Shared} {H : Hp} {E : XK} (told : ToldD G K mg "_law_told" "what" "MetalError" ["MetalError"]) (lt : LTab G (cxOf (L2.CX P w) P w K mg base N_law "law" (defScope s_law) f cdv A outer s H E) P0) (hlp : G.lamP = lampOf (lamN (cxOf (L2.CX P w) P w K mg base N_law "law" (defScope s_law) f cdv A outer s H E)) (cxOf (L2.CX P w) P w K mg base N_law "law" (defScope s_law) f cdv A outer s H E).env.cells L_law) (hlq : G.lq = lamN (cxOf (L2.CX P w) P w K mg base N_law "law" (defScope s_law) f cdv A outer s H E)) (hr : Room 6 (A.deeper (PyProof.Rows.envOfC "law" (defScope s_law) s.heap.objs.size f cdv))) : DS G (WE E) (cxOf (L2.CX P w) P w K mg base N_law "law" (defScope s_law) f cdv A outer s H E) (nthS (bodyS (nthS (defBody s_law) 0)) 4) m_law_0_4 := by
  have c : CO G (cxOf (L2.CX P w) P w K mg base N_law "law" (defScope s_law) f cdv A outer s H E) := co_def T.hK hr
  have hN : N_law.Nodup := by decide
  exact ds_set 15 hN (de_call F_melted (hr.mono (by decide)) hx_def (da_cons (de_var 5) (da_nil)))

set_option maxHeartbeats 4000000 in
theorem w_law_0_5 (T : Tops G K mg) (F__law_dice : CalD G P w K mg base 1 "_law_dice" 1 S_dice) (F__law_roll : CalD G P w K mg base 3 "_law_roll" 2 S_roll) (F__law_rounds : CalD G P w K mg base 3 "_law_rounds" 2 S_rounds) (F_least : CalD G P w K mg base 4 "least" 2 S_least) (F_cut : CalD G P w K mg base 4 "cut" 2 S_cut) (F_melted : CalD G P w K mg base 4 "melted" 1 S_melted) (F_copper_for : CalD G P w K mg base 4 "copper_for" 3 S_copper_for) (F_best_melt : CalD G P w K mg base 4 "best_melt" 4 S_best_melt) (M_Bar_fineness : MetD G P w K mg base 2 "Bar" "fineness" 1 S_fineness) (M_Bar_thousandths : MetD G P w K mg base 2 "Bar" "thousandths" 1 S_thousandths) (C_Bar : ClsD G P w K mg base 1 "Bar" 3 FBar) (mkBar_ok : MkF "Bar" FBar mkBar)  {f : Addr} {cdv : Value} {A : Around} {outer : List Env} {s : Shared} {H : Hp} {E : XK} (told : ToldD G K mg "_law_told" "what" "MetalError" ["MetalError"]) (lt : LTab G (cxOf (L2.CX P w) P w K mg base N_law "law" (defScope s_law) f cdv A outer s H E) P0) (hlp : G.lamP = lampOf (lamN (cxOf (L2.CX P w) P w K mg base N_law "law" (defScope s_law) f cdv A outer s H E)) (cxOf (L2.CX P w) P w K mg base N_law "law" (defScope s_law) f cdv A outer s H E).env.cells L_law) (hlq : G.lq = lamN (cxOf (L2.CX P w) P w K mg base N_law "law" (defScope s_law) f cdv A outer s H E)) (hr : Room 6 (A.deeper (PyProof.Rows.envOfC "law" (defScope s_law) s.heap.objs.size f cdv))) : DS G (WE E) (cxOf (L2.CX P w) P w K mg base N_law "law" (defScope s_law) f cdv A outer s H E) (nthS (bodyS (nthS (defBody s_law) 0)) 5) m_law_0_5 := by
  have c : CO G (cxOf (L2.CX P w) P w K mg base N_law "law" (defScope s_law) f cdv A outer s H E) := co_def T.hK hr
  have hN : N_law.Nodup := by decide
  exact ds_frz 2 (ds_if (dt_cmp (od_ne (c)) (de_b (de_tup (da_cons (de_fld (c).K T.f_weight (db_var 15)) (da_cons (de_fld (c).K T.f_fine (db_var 15)) (da_nil))))) (de_b (de_tup (da_cons (de_callB (cd_sum (c)) T.b_sum bt_sum (dab_cons (de_b (de_n (dn_lc (own := [("row", 6)]) (c).calm hN (di_list (c).K (de_var 2)) (blkOk_by (by show blkC N_law (defScope s_law) _ _ = true; kernel_rfl)) (fun _ _ _ _ _ => dg_name 6 hN) (fun _ _ _ _ _ => dts_nil) (fun _ _ _ _ _ => de_ix (xd_seq (CO.blk c)) (db_var 6) (de_b (de_int))) (by decide)))) (dab_nil))) (da_cons (de_callB (cd_sum (c)) T.b_sum bt_sum (dab_cons (de_b (de_n (dn_lc (own := [("row", 6)]) (c).calm hN (di_list (c).K (de_var 2)) (blkOk_by (by show blkC N_law (defScope s_law) _ _ = true; kernel_rfl)) (fun _ _ _ _ _ => dg_name 6 hN) (fun _ _ _ _ _ => dts_nil) (fun _ _ _ _ _ => de_ix (xd_seq (CO.blk c)) (db_var 6) (de_b (de_int))) (by decide)))) (dab_nil))) (da_nil)))))) (dss_cons (ds_ret (de_bl)) (dss_nil)) (dss_nil))

set_option maxHeartbeats 4000000 in
theorem w_law_0_6 (T : Tops G K mg) (F__law_dice : CalD G P w K mg base 1 "_law_dice" 1 S_dice) (F__law_roll : CalD G P w K mg base 3 "_law_roll" 2 S_roll) (F__law_rounds : CalD G P w K mg base 3 "_law_rounds" 2 S_rounds) (F_least : CalD G P w K mg base 4 "least" 2 S_least) (F_cut : CalD G P w K mg base 4 "cut" 2 S_cut) (F_melted : CalD G P w K mg base 4 "melted" 1 S_melted) (F_copper_for : CalD G P w K mg base 4 "copper_for" 3 S_copper_for) (F_best_melt : CalD G P w K mg base 4 "best_melt" 4 S_best_melt) (M_Bar_fineness : MetD G P w K mg base 2 "Bar" "fineness" 1 S_fineness) (M_Bar_thousandths : MetD G P w K mg base 2 "Bar" "thousandths" 1 S_thousandths) (C_Bar : ClsD G P w K mg base 1 "Bar" 3 FBar) (mkBar_ok : MkF "Bar" FBar mkBar)  {f : Addr} {cdv : Value} {A : Around} {outer : List Env} {s : Shared} {H : Hp} {E : XK} (told : ToldD G K mg "_law_told" "what" "MetalError" ["MetalError"]) (lt : LTab G (cxOf (L2.CX P w) P w K mg base N_law "law" (defScope s_law) f cdv A outer s H E) P0) (hlp : G.lamP = lampOf (lamN (cxOf (L2.CX P w) P w K mg base N_law "law" (defScope s_law) f cdv A outer s H E)) (cxOf (L2.CX P w) P w K mg base N_law "law" (defScope s_law) f cdv A outer s H E).env.cells L_law) (hlq : G.lq = lamN (cxOf (L2.CX P w) P w K mg base N_law "law" (defScope s_law) f cdv A outer s H E)) (hr : Room 6 (A.deeper (PyProof.Rows.envOfC "law" (defScope s_law) s.heap.objs.size f cdv))) : DS G (WE E) (cxOf (L2.CX P w) P w K mg base N_law "law" (defScope s_law) f cdv A outer s H E) (nthS (bodyS (nthS (defBody s_law) 0)) 6) m_law_0_6 := by
  have c : CO G (cxOf (L2.CX P w) P w K mg base N_law "law" (defScope s_law) f cdv A outer s H E) := co_def T.hK hr
  have hN : N_law.Nodup := by decide
  exact ds_par3 16 4 17 (c).calm hN (de_call F__law_roll (hr.mono (by decide)) hx_def (da_cons (de_var 1) (da_cons (de_int) (da_nil)))) (de_call F__law_roll (hr.mono (by decide)) hx_def (da_cons (de_var 1) (da_cons (de_int) (da_nil)))) (de_lst (da_cons (de_tup (da_nil)) (da_nil)))

set_option maxHeartbeats 4000000 in
theorem w_law_0_7 (T : Tops G K mg) (F__law_dice : CalD G P w K mg base 1 "_law_dice" 1 S_dice) (F__law_roll : CalD G P w K mg base 3 "_law_roll" 2 S_roll) (F__law_rounds : CalD G P w K mg base 3 "_law_rounds" 2 S_rounds) (F_least : CalD G P w K mg base 4 "least" 2 S_least) (F_cut : CalD G P w K mg base 4 "cut" 2 S_cut) (F_melted : CalD G P w K mg base 4 "melted" 1 S_melted) (F_copper_for : CalD G P w K mg base 4 "copper_for" 3 S_copper_for) (F_best_melt : CalD G P w K mg base 4 "best_melt" 4 S_best_melt) (M_Bar_fineness : MetD G P w K mg base 2 "Bar" "fineness" 1 S_fineness) (M_Bar_thousandths : MetD G P w K mg base 2 "Bar" "thousandths" 1 S_thousandths) (C_Bar : ClsD G P w K mg base 1 "Bar" 3 FBar) (mkBar_ok : MkF "Bar" FBar mkBar)  {f : Addr} {cdv : Value} {A : Around} {outer : List Env} {s : Shared} {H : Hp} {E : XK} (told : ToldD G K mg "_law_told" "what" "MetalError" ["MetalError"]) (lt : LTab G (cxOf (L2.CX P w) P w K mg base N_law "law" (defScope s_law) f cdv A outer s H E) P0) (hlp : G.lamP = lampOf (lamN (cxOf (L2.CX P w) P w K mg base N_law "law" (defScope s_law) f cdv A outer s H E)) (cxOf (L2.CX P w) P w K mg base N_law "law" (defScope s_law) f cdv A outer s H E).env.cells L_law) (hlq : G.lq = lamN (cxOf (L2.CX P w) P w K mg base N_law "law" (defScope s_law) f cdv A outer s H E)) (hr : Room 6 (A.deeper (PyProof.Rows.envOfC "law" (defScope s_law) s.heap.objs.size f cdv))) : DS G (WE E) (cxOf (L2.CX P w) P w K mg base N_law "law" (defScope s_law) f cdv A outer s H E) (nthS (bodyS (nthS (defBody s_law) 0)) 7) m_law_0_7 := by
  have c : CO G (cxOf (L2.CX P w) P w K mg base N_law "law" (defScope s_law) f cdv A outer s H E) := co_def T.hK hr
  have hN : N_law.Nodup := by decide
  exact ds_set 18 hN (de_bin (od_add (c)) (db_var 16) (de_b (de_call F__law_roll (hr.mono (by decide)) hx_def (da_cons (de_var 1) (da_cons (de_int) (da_nil))))))

set_option maxHeartbeats 4000000 in
theorem w_law_0_8 (T : Tops G K mg) (F__law_dice : CalD G P w K mg base 1 "_law_dice" 1 S_dice) (F__law_roll : CalD G P w K mg base 3 "_law_roll" 2 S_roll) (F__law_rounds : CalD G P w K mg base 3 "_law_rounds" 2 S_rounds) (F_least : CalD G P w K mg base 4 "least" 2 S_least) (F_cut : CalD G P w K mg base 4 "cut" 2 S_cut) (F_melted : CalD G P w K mg base 4 "melted" 1 S_melted) (F_copper_for : CalD G P w K mg base 4 "copper_for" 3 S_copper_for) (F_best_melt : CalD G P w K mg base 4 "best_melt" 4 S_best_melt) (M_Bar_fineness : MetD G P w K mg base 2 "Bar" "fineness" 1 S_fineness) (M_Bar_thousandths : MetD G P w K mg base 2 "Bar" "thousandths" 1 S_thousandths) (C_Bar : ClsD G P w K mg base 1 "Bar" 3 FBar) (mkBar_ok : MkF "Bar" FBar mkBar)  {f : Addr} {cdv : Value} {A : Around} {outer : List Env} {s : Shared} {H : Hp} {E : XK} (told : ToldD G K mg "_law_told" "what" "MetalError" ["MetalError"]) (lt : LTab G (cxOf (L2.CX P w) P w K mg base N_law "law" (defScope s_law) f cdv A outer s H E) P0) (hlp : G.lamP = lampOf (lamN (cxOf (L2.CX P w) P w K mg base N_law "law" (defScope s_law) f cdv A outer s H E)) (cxOf (L2.CX P w) P w K mg base N_law "law" (defScope s_law) f cdv A outer s H E).env.cells L_law) (hlq : G.lq = lamN (cxOf (L2.CX P w) P w K mg base N_law "law" (defScope s_law) f cdv A outer s H E)) (hr : Room 6 (A.deeper (PyProof.Rows.envOfC "law" (defScope s_law) s.heap.objs.size f cdv))) : DS G (WE E) (cxOf (L2.CX P w) P w K mg base N_law "law" (defScope s_law) f cdv A outer s H E) (nthS (bodyS (nthS (defBody s_law) 0)) 8) m_law_0_8 := by
  have c : CO G (cxOf (L2.CX P w) P w K mg base N_law "law" (defScope s_law) f cdv A outer s H E) := co_def T.hK hr
  have hN : N_law.Nodup := by decide
  exact ds_for hp_def (c).calm (di_rng1 (da_cons (de_callB (cd_len (c)) T.b_len bt_len (dab_cons (db_var 2) (dab_nil))) (da_nil)) T.b_range) (dg_name 3 hN) (dss_cons (ds_set 17 hN (de_bin (od_add (c)) (db_var 17) (de_b (de_n (dn_lc (own := [("row", 6)]) (c).calm hN (di_list (c).K (de_var 17)) (blkOk_by (by show blkC N_law (defScope s_law) _ _ = true; kernel_rfl)) (fun _ _ _ _ _ => dg_name 6 hN) (fun _ _ _ _ _ => dts_nil) (fun _ _ _ _ _ => de_bin (od_add (CO.blk c)) (db_var 6) (de_b (de_tup (da_cons (de_var 3) (da_nil))))) (by decide)))))) (dss_nil))

set_option maxHeartbeats 4000000 in
theorem w_law_0_9 (T : Tops G K mg) (F__law_dice : CalD G P w K mg base 1 "_law_dice" 1 S_dice) (F__law_roll : CalD G P w K mg base 3 "_law_roll" 2 S_roll) (F__law_rounds : CalD G P w K mg base 3 "_law_rounds" 2 S_rounds) (F_least : CalD G P w K mg base 4 "least" 2 S_least) (F_cut : CalD G P w K mg base 4 "cut" 2 S_cut) (F_melted : CalD G P w K mg base 4 "melted" 1 S_melted) (F_copper_for : CalD G P w K mg base 4 "copper_for" 3 S_copper_for) (F_best_melt : CalD G P w K mg base 4 "best_melt" 4 S_best_melt) (M_Bar_fineness : MetD G P w K mg base 2 "Bar" "fineness" 1 S_fineness) (M_Bar_thousandths : MetD G P w K mg base 2 "Bar" "thousandths" 1 S_thousandths) (C_Bar : ClsD G P w K mg base 1 "Bar" 3 FBar) (mkBar_ok : MkF "Bar" FBar mkBar)  {f : Addr} {cdv : Value} {A : Around} {outer : List Env} {s : Shared} {H : Hp} {E : XK} (told : ToldD G K mg "_law_told" "what" "MetalError" ["MetalError"]) (lt : LTab G (cxOf (L2.CX P w) P w K mg base N_law "law" (defScope s_law) f cdv A outer s H E) P0) (hlp : G.lamP = lampOf (lamN (cxOf (L2.CX P w) P w K mg base N_law "law" (defScope s_law) f cdv A outer s H E)) (cxOf (L2.CX P w) P w K mg base N_law "law" (defScope s_law) f cdv A outer s H E).env.cells L_law) (hlq : G.lq = lamN (cxOf (L2.CX P w) P w K mg base N_law "law" (defScope s_law) f cdv A outer s H E)) (hr : Room 6 (A.deeper (PyProof.Rows.envOfC "law" (defScope s_law) s.heap.objs.size f cdv))) : DS G (WE E) (cxOf (L2.CX P w) P w K mg base N_law "law" (defScope s_law) f cdv A outer s H E) (nthS (bodyS (nthS (defBody s_law) 0)) 9) m_law_0_9 := by
  have c : CO G (cxOf (L2.CX P w) P w K mg base N_law "law" (defScope s_law) f cdv A outer s H E) := co_def T.hK hr
  have hN : N_law.Nodup := by decide
  exact ds_own 13 hN (dn_lst (da_nil))

set_option maxHeartbeats 4000000 in
theorem w_law_0_10 (T : Tops G K mg) (F__law_dice : CalD G P w K mg base 1 "_law_dice" 1 S_dice) (F__law_roll : CalD G P w K mg base 3 "_law_roll" 2 S_roll) (F__law_rounds : CalD G P w K mg base 3 "_law_rounds" 2 S_rounds) (F_least : CalD G P w K mg base 4 "least" 2 S_least) (F_cut : CalD G P w K mg base 4 "cut" 2 S_cut) (F_melted : CalD G P w K mg base 4 "melted" 1 S_melted) (F_copper_for : CalD G P w K mg base 4 "copper_for" 3 S_copper_for) (F_best_melt : CalD G P w K mg base 4 "best_melt" 4 S_best_melt) (M_Bar_fineness : MetD G P w K mg base 2 "Bar" "fineness" 1 S_fineness) (M_Bar_thousandths : MetD G P w K mg base 2 "Bar" "thousandths" 1 S_thousandths) (C_Bar : ClsD G P w K mg base 1 "Bar" 3 FBar) (mkBar_ok : MkF "Bar" FBar mkBar)  {f : Addr} {cdv : Value} {A : Around} {outer : List Env} {s : Shared} {H : Hp} {E : XK} (told : ToldD G K mg "_law_told" "what" "MetalError" ["MetalError"]) (lt : LTab G (cxOf (L2.CX P w) P w K mg base N_law "law" (defScope s_law) f cdv A outer s H E) P0) (hlp : G.lamP = lampOf (lamN (cxOf (L2.CX P w) P w K mg base N_law "law" (defScope s_law) f cdv A outer s H E)) (cxOf (L2.CX P w) P w K mg base N_law "law" (defScope s_law) f cdv A outer s H E).env.cells L_law) (hlq : G.lq = lamN (cxOf (L2.CX P w) P w K mg base N_law "law" (defScope s_law) f cdv A outer s H E)) (hr : Room 6 (A.deeper (PyProof.Rows.envOfC "law" (defScope s_law) s.heap.objs.size f cdv))) : DS G (WE E) (cxOf (L2.CX P w) P w K mg base N_law "law" (defScope s_law) f cdv A outer s H E) (nthS (bodyS (nthS (defBody s_law) 0)) 10) m_law_0_10 := by
  have c : CO G (cxOf (L2.CX P w) P w K mg base N_law "law" (defScope s_law) f cdv A outer s H E) := co_def T.hK hr
  have hN : N_law.Nodup := by decide
  exact ds_for hp_def (c).calm (di_list (c).K (de_var 17)) (dg_name 19 hN) (dss_cons (ds_asg (de_tup (da_cons (de_callB (cd_sum (c)) T.b_sum bt_sum (dab_cons (de_b (de_n (dn_lc (own := [("k", 3)]) (c).calm hN (di_tup (c).K (de_var 19)) (blkOk_by (by show blkC N_law (defScope s_law) _ _ = true; kernel_rfl)) (fun _ _ _ _ _ => dg_name 3 hN) (fun _ _ _ _ _ => dts_nil) (fun _ _ _ _ _ => de_ix (xd_seq (CO.blk c)) (de_b (de_ix (xd_seq (CO.blk c)) (db_var 2) (db_var 3))) (de_b (de_int))) (by decide)))) (dab_nil))) (da_cons (de_callB (cd_sum (c)) T.b_sum bt_sum (dab_cons (de_b (de_n (dn_lc (own := [("k", 3)]) (c).calm hN (di_tup (c).K (de_var 19)) (blkOk_by (by show blkC N_law (defScope s_law) _ _ = true; kernel_rfl)) (fun _ _ _ _ _ => dg_name 3 hN) (fun _ _ _ _ _ => dts_nil) (fun _ _ _ _ _ => de_ix (xd_seq (CO.blk c)) (de_b (de_ix (xd_seq (CO.blk c)) (db_var 2) (db_var 3))) (de_b (de_int))) (by decide)))) (dab_nil))) (da_nil)))) (dg_tup (c).K (c).calm (dgs_cons (dg_name 9 hN) (dgs_cons (dg_name 20 hN) (dgs_nil))))) (dss_cons (ds_if (dt_w (dw_and (dt_cmp (od_ne (c)) (db_var 19) (de_b (de_tup (da_nil)))) (dw_and (dt_cmp (od_le (c)) (de_b (de_bin (od_mul) (db_var 16) (db_var 9))) (de_b (de_bin (od_mul) (de_b (de_int)) (db_var 20)))) (dw_and1 (dt_cmp (od_le (c)) (de_b (de_bin (od_mul) (de_b (de_int)) (db_var 20))) (de_b (de_bin (od_mul) (db_var 18) (db_var 9)))))))) (dss_cons (ds_app 13 (de_tup (da_cons (de_callB cd_abs T.b_abs bt_abs (dab_cons (de_b (de_bin (od_sub) (db_var 9) (db_var 4))) (dab_nil))) (da_cons (de_callB (cd_len (c)) T.b_len bt_len (dab_cons (db_var 19) (dab_nil))) (da_cons (de_var 19) (da_cons (de_var 9) (da_nil))))))) (dss_nil)) (dss_nil)) (dss_nil)))

set_option maxHeartbeats 4000000 in
theorem w_law_0_11 (T : Tops G K mg) (F__law_dice : CalD G P w K mg base 1 "_law_dice" 1 S_dice) (F__law_roll : CalD G P w K mg base 3 "_law_roll" 2 S_roll) (F__law_rounds : CalD G P w K mg base 3 "_law_rounds" 2 S_rounds) (F_least : CalD G P w K mg base 4 "least" 2 S_least) (F_cut : CalD G P w K mg base 4 "cut" 2 S_cut) (F_melted : CalD G P w K mg base 4 "melted" 1 S_melted) (F_copper_for : CalD G P w K mg base 4 "copper_for" 3 S_copper_for) (F_best_melt : CalD G P w K mg base 4 "best_melt" 4 S_best_melt) (M_Bar_fineness : MetD G P w K mg base 2 "Bar" "fineness" 1 S_fineness) (M_Bar_thousandths : MetD G P w K mg base 2 "Bar" "thousandths" 1 S_thousandths) (C_Bar : ClsD G P w K mg base 1 "Bar" 3 FBar) (mkBar_ok : MkF "Bar" FBar mkBar)  {f : Addr} {cdv : Value} {A : Around} {outer : List Env} {s : Shared} {H : Hp} {E : XK} (told : ToldD G K mg "_law_told" "what" "MetalError" ["MetalError"]) (lt : LTab G (cxOf (L2.CX P w) P w K mg base N_law "law" (defScope s_law) f cdv A outer s H E) P0) (hlp : G.lamP = lampOf (lamN (cxOf (L2.CX P w) P w K mg base N_law "law" (defScope s_law) f cdv A outer s H E)) (cxOf (L2.CX P w) P w K mg base N_law "law" (defScope s_law) f cdv A outer s H E).env.cells L_law) (hlq : G.lq = lamN (cxOf (L2.CX P w) P w K mg base N_law "law" (defScope s_law) f cdv A outer s H E)) (hr : Room 6 (A.deeper (PyProof.Rows.envOfC "law" (defScope s_law) s.heap.objs.size f cdv))) : DS G (WE E) (cxOf (L2.CX P w) P w K mg base N_law "law" (defScope s_law) f cdv A outer s H E) (nthS (bodyS (nthS (defBody s_law) 0)) 11) m_law_0_11 := by
  have c : CO G (cxOf (L2.CX P w) P w K mg base N_law "law" (defScope s_law) f cdv A outer s H E) := co_def T.hK hr
  have hN : N_law.Nodup := by decide
  exact ds_if (dt_cmp (od_ne (c)) (de_b (de_call F_best_melt (hr.mono (by decide)) hx_def (da_cons (de_var 5) (da_cons (de_var 16) (da_cons (de_var 18) (da_cons (de_var 4) (da_nil))))))) (de_b (de_if (dt_cmp (od_ne (c)) (db_var 13) (de_b (de_lst (da_nil)))) (de_tup (da_cons (de_ix (xd_seq (c)) (de_b (de_callB (cd_minL (c)) T.b_min bt_min (dab_cons (db_var 13) (dab_nil)))) (de_b (de_int))) (da_cons (de_ix (xd_seq (c)) (de_b (de_callB (cd_minL (c)) T.b_min bt_min (dab_cons (db_var 13) (dab_nil)))) (de_b (de_int))) (da_nil)))) (de_non)))) (dss_cons (ds_ret (de_bl)) (dss_nil)) (dss_nil)

set_option maxHeartbeats 4000000 in
theorem w_law_0 (T : Tops G K mg) (F__law_dice : CalD G P w K mg base 1 "_law_dice" 1 S_dice) (F__law_roll : CalD G P w K mg base 3 "_law_roll" 2 S_roll) (F__law_rounds : CalD G P w K mg base 3 "_law_rounds" 2 S_rounds) (F_least : CalD G P w K mg base 4 "least" 2 S_least) (F_cut : CalD G P w K mg base 4 "cut" 2 S_cut) (F_melted : CalD G P w K mg base 4 "melted" 1 S_melted) (F_copper_for : CalD G P w K mg base 4 "copper_for" 3 S_copper_for) (F_best_melt : CalD G P w K mg base 4 "best_melt" 4 S_best_melt) (M_Bar_fineness : MetD G P w K mg base 2 "Bar" "fineness" 1 S_fineness) (M_Bar_thousandths : MetD G P w K mg base 2 "Bar" "thousandths" 1 S_thousandths) (C_Bar : ClsD G P w K mg base 1 "Bar" 3 FBar) (mkBar_ok : MkF "Bar" FBar mkBar)  {f : Addr} {cdv : Value} {A : Around} {outer : List Env} {s : Shared} {H : Hp} {E : XK} (told : ToldD G K mg "_law_told" "what" "MetalError" ["MetalError"]) (lt : LTab G (cxOf (L2.CX P w) P w K mg base N_law "law" (defScope s_law) f cdv A outer s H E) P0) (hlp : G.lamP = lampOf (lamN (cxOf (L2.CX P w) P w K mg base N_law "law" (defScope s_law) f cdv A outer s H E)) (cxOf (L2.CX P w) P w K mg base N_law "law" (defScope s_law) f cdv A outer s H E).env.cells L_law) (hlq : G.lq = lamN (cxOf (L2.CX P w) P w K mg base N_law "law" (defScope s_law) f cdv A outer s H E)) (hr : Room 6 (A.deeper (PyProof.Rows.envOfC "law" (defScope s_law) s.heap.objs.size f cdv))) : DS G (WE E) (cxOf (L2.CX P w) P w K mg base N_law "law" (defScope s_law) f cdv A outer s H E) (nthS (defBody s_law) 0) m_law_0 := by
  have c : CO G (cxOf (L2.CX P w) P w K mg base N_law "law" (defScope s_law) f cdv A outer s H E) := co_def T.hK hr
  have hN : N_law.Nodup := by decide
  exact ds_for hp_def (c).calm (di_list (c).K (de_call F__law_rounds (hr.mono (by decide)) hx_def (da_cons (de_var 0) (da_cons (de_int) (da_nil))))) (dg_name 1 hN) (dss_cons (w_law_0_0 T F__law_dice F__law_roll F__law_rounds F_least F_cut F_melted F_copper_for F_best_melt M_Bar_fineness M_Bar_thousandths C_Bar mkBar_ok told lt hlp hlq hr) (dss_cons (w_law_0_1 T F__law_dice F__law_roll F__law_rounds F_least F_cut F_melted F_copper_for F_best_melt M_Bar_fineness M_Bar_thousandths C_Bar mkBar_ok told lt hlp hlq hr) (dss_cons (w_law_0_2 T F__law_dice F__law_roll F__law_rounds F_least F_cut F_melted F_copper_for F_best_melt M_Bar_fineness M_Bar_thousandths C_Bar mkBar_ok told lt hlp hlq hr) (dss_cons (w_law_0_3 T F__law_dice F__law_roll F__law_rounds F_least F_cut F_melted F_copper_for F_best_melt M_Bar_fineness M_Bar_thousandths C_Bar mkBar_ok told lt hlp hlq hr) (dss_cons (w_law_0_4 T F__law_dice F__law_roll F__law_rounds F_least F_cut F_melted F_copper_for F_best_melt M_Bar_fineness M_Bar_thousandths C_Bar mkBar_ok told lt hlp hlq hr) (dss_cons (w_law_0_5 T F__law_dice F__law_roll F__law_rounds F_least F_cut F_melted F_copper_for F_best_melt M_Bar_fineness M_Bar_thousandths C_Bar mkBar_ok told lt hlp hlq hr) (dss_cons (w_law_0_6 T F__law_dice F__law_roll F__law_rounds F_least F_cut F_melted F_copper_for F_best_melt M_Bar_fineness M_Bar_thousandths C_Bar mkBar_ok told lt hlp hlq hr) (dss_cons (w_law_0_7 T F__law_dice F__law_roll F__law_rounds F_least F_cut F_melted F_copper_for F_best_melt M_Bar_fineness M_Bar_thousandths C_Bar mkBar_ok told lt hlp hlq hr) (dss_cons (w_law_0_8 T F__law_dice F__law_roll F__law_rounds F_least F_cut F_melted F_copper_for F_best_melt M_Bar_fineness M_Bar_thousandths C_Bar mkBar_ok told lt hlp hlq hr) (dss_cons (w_law_0_9 T F__law_dice F__law_roll F__law_rounds F_least F_cut F_melted F_copper_for F_best_melt M_Bar_fineness M_Bar_thousandths C_Bar mkBar_ok told lt hlp hlq hr) (dss_cons (w_law_0_10 T F__law_dice F__law_roll F__law_rounds F_least F_cut F_melted F_copper_for F_best_melt M_Bar_fineness M_Bar_thousandths C_Bar mkBar_ok told lt hlp hlq hr) (dss_cons (w_law_0_11 T F__law_dice F__law_roll F__law_rounds F_least F_cut F_melted F_copper_for F_best_melt M_Bar_fineness M_Bar_thousandths C_Bar mkBar_ok told lt hlp hlq hr) (dss_nil)))))))))))))

set_option maxHeartbeats 4000000 in
theorem w_law_1 (T : Tops G K mg) (F__law_dice : CalD G P w K mg base 1 "_law_dice" 1 S_dice) (F__law_roll : CalD G P w K mg base 3 "_law_roll" 2 S_roll) (F__law_rounds : CalD G P w K mg base 3 "_law_rounds" 2 S_rounds) (F_least : CalD G P w K mg base 4 "least" 2 S_least) (F_cut : CalD G P w K mg base 4 "cut" 2 S_cut) (F_melted : CalD G P w K mg base 4 "melted" 1 S_melted) (F_copper_for : CalD G P w K mg base 4 "copper_for" 3 S_copper_for) (F_best_melt : CalD G P w K mg base 4 "best_melt" 4 S_best_melt) (M_Bar_fineness : MetD G P w K mg base 2 "Bar" "fineness" 1 S_fineness) (M_Bar_thousandths : MetD G P w K mg base 2 "Bar" "thousandths" 1 S_thousandths) (C_Bar : ClsD G P w K mg base 1 "Bar" 3 FBar) (mkBar_ok : MkF "Bar" FBar mkBar)  {f : Addr} {cdv : Value} {A : Around} {outer : List Env} {s : Shared} {H : Hp} {E : XK} (told : ToldD G K mg "_law_told" "what" "MetalError" ["MetalError"]) (lt : LTab G (cxOf (L2.CX P w) P w K mg base N_law "law" (defScope s_law) f cdv A outer s H E) P0) (hlp : G.lamP = lampOf (lamN (cxOf (L2.CX P w) P w K mg base N_law "law" (defScope s_law) f cdv A outer s H E)) (cxOf (L2.CX P w) P w K mg base N_law "law" (defScope s_law) f cdv A outer s H E).env.cells L_law) (hlq : G.lq = lamN (cxOf (L2.CX P w) P w K mg base N_law "law" (defScope s_law) f cdv A outer s H E)) (hr : Room 6 (A.deeper (PyProof.Rows.envOfC "law" (defScope s_law) s.heap.objs.size f cdv))) : DS G (WE E) (cxOf (L2.CX P w) P w K mg base N_law "law" (defScope s_law) f cdv A outer s H E) (nthS (defBody s_law) 1) m_law_1 := by
  have c : CO G (cxOf (L2.CX P w) P w K mg base N_law "law" (defScope s_law) f cdv A outer s H E) := co_def T.hK hr
  have hN : N_law.Nodup := by decide
  exact ds_set 21 hN (de_makeF C_Bar mkBar_ok (hr.mono (by decide)) hx_def (da_cons (de_int) (da_cons (de_int) (da_nil))))

set_option maxHeartbeats 4000000 in
theorem w_law_2 (T : Tops G K mg) (F__law_dice : CalD G P w K mg base 1 "_law_dice" 1 S_dice) (F__law_roll : CalD G P w K mg base 3 "_law_roll" 2 S_roll) (F__law_rounds : CalD G P w K mg base 3 "_law_rounds" 2 S_rounds) (F_least : CalD G P w K mg base 4 "least" 2 S_least) (F_cut : CalD G P w K mg base 4 "cut" 2 S_cut) (F_melted : CalD G P w K mg base 4 "melted" 1 S_melted) (F_copper_for : CalD G P w K mg base 4 "copper_for" 3 S_copper_for) (F_best_melt : CalD G P w K mg base 4 "best_melt" 4 S_best_melt) (M_Bar_fineness : MetD G P w K mg base 2 "Bar" "fineness" 1 S_fineness) (M_Bar_thousandths : MetD G P w K mg base 2 "Bar" "thousandths" 1 S_thousandths) (C_Bar : ClsD G P w K mg base 1 "Bar" 3 FBar) (mkBar_ok : MkF "Bar" FBar mkBar)  {f : Addr} {cdv : Value} {A : Around} {outer : List Env} {s : Shared} {H : Hp} {E : XK} (told : ToldD G K mg "_law_told" "what" "MetalError" ["MetalError"]) (lt : LTab G (cxOf (L2.CX P w) P w K mg base N_law "law" (defScope s_law) f cdv A outer s H E) P0) (hlp : G.lamP = lampOf (lamN (cxOf (L2.CX P w) P w K mg base N_law "law" (defScope s_law) f cdv A outer s H E)) (cxOf (L2.CX P w) P w K mg base N_law "law" (defScope s_law) f cdv A outer s H E).env.cells L_law) (hlq : G.lq = lamN (cxOf (L2.CX P w) P w K mg base N_law "law" (defScope s_law) f cdv A outer s H E)) (hr : Room 6 (A.deeper (PyProof.Rows.envOfC "law" (defScope s_law) s.heap.objs.size f cdv))) : DS G (WE E) (cxOf (L2.CX P w) P w K mg base N_law "law" (defScope s_law) f cdv A outer s H E) (nthS (defBody s_law) 2) m_law_2 := by
  have c : CO G (cxOf (L2.CX P w) P w K mg base N_law "law" (defScope s_law) f cdv A outer s H E) := co_def T.hK hr
  have hN : N_law.Nodup := by decide
  exact ds_set 22 hN (de_lst (da_cons (de_lam 0 lt hlp hlq) (da_cons (de_lam 1 lt hlp hlq) (da_cons (de_lam 2 lt hlp hlq) (da_cons (de_lam 3 lt hlp hlq) (da_cons (de_lam 4 lt hlp hlq) (da_cons (de_lam 5 lt hlp hlq) (da_cons (de_lam 6 lt hlp hlq) (da_cons (de_lam 7 lt hlp hlq) (da_cons (de_lam 8 lt hlp hlq) (da_cons (de_lam 9 lt hlp hlq) (da_cons (de_lam 10 lt hlp hlq) (da_cons (de_lam 11 lt hlp hlq) (da_cons (de_lam 12 lt hlp hlq) (da_nil)))))))))))))))

set_option maxHeartbeats 4000000 in
theorem w_law_3 (T : Tops G K mg) (F__law_dice : CalD G P w K mg base 1 "_law_dice" 1 S_dice) (F__law_roll : CalD G P w K mg base 3 "_law_roll" 2 S_roll) (F__law_rounds : CalD G P w K mg base 3 "_law_rounds" 2 S_rounds) (F_least : CalD G P w K mg base 4 "least" 2 S_least) (F_cut : CalD G P w K mg base 4 "cut" 2 S_cut) (F_melted : CalD G P w K mg base 4 "melted" 1 S_melted) (F_copper_for : CalD G P w K mg base 4 "copper_for" 3 S_copper_for) (F_best_melt : CalD G P w K mg base 4 "best_melt" 4 S_best_melt) (M_Bar_fineness : MetD G P w K mg base 2 "Bar" "fineness" 1 S_fineness) (M_Bar_thousandths : MetD G P w K mg base 2 "Bar" "thousandths" 1 S_thousandths) (C_Bar : ClsD G P w K mg base 1 "Bar" 3 FBar) (mkBar_ok : MkF "Bar" FBar mkBar)  {f : Addr} {cdv : Value} {A : Around} {outer : List Env} {s : Shared} {H : Hp} {E : XK} (told : ToldD G K mg "_law_told" "what" "MetalError" ["MetalError"]) (lt : LTab G (cxOf (L2.CX P w) P w K mg base N_law "law" (defScope s_law) f cdv A outer s H E) P0) (hlp : G.lamP = lampOf (lamN (cxOf (L2.CX P w) P w K mg base N_law "law" (defScope s_law) f cdv A outer s H E)) (cxOf (L2.CX P w) P w K mg base N_law "law" (defScope s_law) f cdv A outer s H E).env.cells L_law) (hlq : G.lq = lamN (cxOf (L2.CX P w) P w K mg base N_law "law" (defScope s_law) f cdv A outer s H E)) (hr : Room 6 (A.deeper (PyProof.Rows.envOfC "law" (defScope s_law) s.heap.objs.size f cdv))) : DS G (WE E) (cxOf (L2.CX P w) P w K mg base N_law "law" (defScope s_law) f cdv A outer s H E) (nthS (defBody s_law) 3) m_law_3 := by
  have c : CO G (cxOf (L2.CX P w) P w K mg base N_law "law" (defScope s_law) f cdv A outer s H E) := co_def T.hK hr
  have hN : N_law.Nodup := by decide
  exact ds_ret (de_and (de_cmp (od_eq (c)) (de_b (de_n (dn_toldLc (kk := 4) (bs := B_law) (own := [("f", 23)]) told (hr.mono (by decide)) (c) hN (di_list (c).K (de_var 22)) (blkOk_by (by show blkC N_law (defScope s_law) _ _ = true; kernel_rfl)) hlp hlq (lams_cons rfl (by intros; rfl) (fun _ _ _ _ _ _ _ hr3 => de_makeF C_Bar mkBar_ok (hr3.mono (by decide)) hx_lam (da_cons (de_int) (da_cons (de_int) (da_nil)))) (lams_cons rfl (by intros; rfl) (fun _ _ _ _ _ _ _ hr3 => de_makeF C_Bar mkBar_ok (hr3.mono (by decide)) hx_lam (da_cons (de_int) (da_cons (de_int) (da_nil)))) (lams_cons rfl (by intros; rfl) (fun _ _ _ _ _ _ _ hr3 => de_makeF C_Bar mkBar_ok (hr3.mono (by decide)) hx_lam (da_cons (de_int) (da_cons (de_un ud_neg (de_b (de_int))) (da_nil)))) (lams_cons rfl (by intros; rfl) (fun _ _ _ _ _ _ _ hr3 => de_makeF C_Bar mkBar_ok (hr3.mono (by decide)) hx_lam (da_cons (de_int) (da_cons (de_int) (da_nil)))) (lams_cons rfl (by intros; rfl) (fun _ _ _ _ _ _ _ hr3 => de_call F_melted (hr3.mono (by decide)) hx_lam (da_cons (de_lst (da_nil)) (da_nil))) (lams_cons rfl (by intros; rfl) (fun _ _ _ _ _ _ _ hr3 => de_call F_melted (hr3.mono (by decide)) hx_lam (da_cons (de_lst (da_cons (de_var 21) (da_cons (de_var 21) (da_nil)))) (da_nil))) (lams_cons rfl (by intros; rfl) (fun _ _ _ _ _ _ _ hr3 => de_call F_cut (hr3.mono (by decide)) hx_lam (da_cons (de_var 21) (da_cons (de_int) (da_nil)))) (lams_cons rfl (by intros; rfl) (fun _ _ _ _ _ _ _ hr3 => de_call F_cut (hr3.mono (by decide)) hx_lam (da_cons (de_var 21) (da_cons (de_int) (da_nil)))) (lams_cons rfl (by intros; rfl) (fun _ _ _ _ _ _ _ hr3 => de_call F_copper_for (hr3.mono (by decide)) hx_lam (da_cons (de_makeF C_Bar mkBar_ok (hr3.mono (by decide)) hx_lam (da_cons (de_int) (da_cons (de_int) (da_nil)))) (da_cons (de_int) (da_cons (de_int) (da_nil))))) (lams_cons rfl (by intros; rfl) (fun _ _ _ _ _ _ _ hr3 => de_call F_copper_for (hr3.mono (by decide)) hx_lam (da_cons (de_makeF C_Bar mkBar_ok (hr3.mono (by decide)) hx_lam (da_cons (de_int) (da_cons (de_int) (da_nil)))) (da_cons (de_int) (da_cons (de_int) (da_nil))))) (lams_cons rfl (by intros; rfl) (fun _ _ _ _ _ _ _ hr3 => de_call F_copper_for (hr3.mono (by decide)) hx_lam (da_cons (de_makeF C_Bar mkBar_ok (hr3.mono (by decide)) hx_lam (da_cons (de_int) (da_cons (de_int) (da_nil)))) (da_cons (de_int) (da_cons (de_int) (da_nil))))) (lams_cons rfl (by intros; rfl) (fun _ _ _ _ _ _ _ hr3 => de_call F_best_melt (hr3.mono (by decide)) hx_lam (da_cons (de_bin (od_mul) (de_b (de_lst (da_cons (de_var 21) (da_nil)))) (de_b (de_int))) (da_cons (de_int) (da_cons (de_int) (da_cons (de_int) (da_nil)))))) (lams_cons rfl (by intros; rfl) (fun _ _ _ _ _ _ _ hr3 => de_call F_best_melt (hr3.mono (by decide)) hx_lam (da_cons (de_lst (da_nil)) (da_cons (de_int) (da_cons (de_int) (da_cons (de_int) (da_nil)))))) (lams_nil)))))))))))))) (fun _ _ _ _ _ => dg_name 23 hN) (fun _ _ _ _ _ => de_int) (by decide) (fun _ _ _ _ _ => rfl) rfl (fun _ _ => Or.inl rfl)))) (de_b (de_lst (da_nil)))) (de_and (de_cmp (od_eq (c)) (de_b (de_gint T.i_MOST_GRAINS)) (de_b (de_int))) (de_and (de_cmp (od_eq (c)) (de_b (de_meth0 (c).K M_Bar_fineness (hr.mono (by decide)) hx_def (de_makeF C_Bar mkBar_ok (hr.mono (by decide)) hx_def (da_cons (de_int) (da_cons (de_int) (da_nil)))))) (de_b (de_tup (da_cons (de_int) (da_cons (de_int) (da_nil)))))) (de_and (de_cmp (od_eq (c)) (de_b (de_call F_copper_for (hr.mono (by decide)) hx_def (da_cons (de_makeF C_Bar mkBar_ok (hr.mono (by decide)) hx_def (da_cons (de_int) (da_cons (de_int) (da_nil)))) (da_cons (de_int) (da_cons (de_int) (da_nil)))))) (de_b (de_int))) (de_and (de_cmp od_isN (de_b (de_call F_best_melt (hr.mono (by decide)) hx_def (da_cons (de_lst (da_nil)) (da_cons (de_int) (da_cons (de_int) (da_cons (de_int) (da_nil))))))) (de_b (de_non))) (de_one (de_cmp (od_eq (c)) (de_b (de_call F_least (hr.mono (by decide)) hx_def (da_cons (de_int) (da_cons (de_int) (da_nil))))) (de_b (de_tup (da_cons (de_int) (da_cons (de_int) (da_nil))))))))))))

set_option maxHeartbeats 4000000 in
theorem w_law (T : Tops G K mg) (F__law_dice : CalD G P w K mg base 1 "_law_dice" 1 S_dice) (F__law_roll : CalD G P w K mg base 3 "_law_roll" 2 S_roll) (F__law_rounds : CalD G P w K mg base 3 "_law_rounds" 2 S_rounds) (F_least : CalD G P w K mg base 4 "least" 2 S_least) (F_cut : CalD G P w K mg base 4 "cut" 2 S_cut) (F_melted : CalD G P w K mg base 4 "melted" 1 S_melted) (F_copper_for : CalD G P w K mg base 4 "copper_for" 3 S_copper_for) (F_best_melt : CalD G P w K mg base 4 "best_melt" 4 S_best_melt) (M_Bar_fineness : MetD G P w K mg base 2 "Bar" "fineness" 1 S_fineness) (M_Bar_thousandths : MetD G P w K mg base 2 "Bar" "thousandths" 1 S_thousandths) (C_Bar : ClsD G P w K mg base 1 "Bar" 3 FBar) (mkBar_ok : MkF "Bar" FBar mkBar)  {f : Addr} {cdv : Value} {A : Around} {outer : List Env} {s : Shared} {H : Hp} {E : XK} (told : ToldD G K mg "_law_told" "what" "MetalError" ["MetalError"]) (lt : LTab G (cxOf (L2.CX P w) P w K mg base N_law "law" (defScope s_law) f cdv A outer s H E) P0) (hlp : G.lamP = lampOf (lamN (cxOf (L2.CX P w) P w K mg base N_law "law" (defScope s_law) f cdv A outer s H E)) (cxOf (L2.CX P w) P w K mg base N_law "law" (defScope s_law) f cdv A outer s H E).env.cells L_law) (hlq : G.lq = lamN (cxOf (L2.CX P w) P w K mg base N_law "law" (defScope s_law) f cdv A outer s H E)) (hr : Room 6 (A.deeper (PyProof.Rows.envOfC "law" (defScope s_law) s.heap.objs.size f cdv))) : DSs G (WE E) (cxOf (L2.CX P w) P w K mg base N_law "law" (defScope s_law) f cdv A outer s H E) (defBody s_law) (m_law) := by
  have c : CO G (cxOf (L2.CX P w) P w K mg base N_law "law" (defScope s_law) f cdv A outer s H E) := co_def T.hK hr
  have hN : N_law.Nodup := by decide
  exact dss_cons (w_law_0 T F__law_dice F__law_roll F__law_rounds F_least F_cut F_melted F_copper_for F_best_melt M_Bar_fineness M_Bar_thousandths C_Bar mkBar_ok told lt hlp hlq hr) (dss_cons (w_law_1 T F__law_dice F__law_roll F__law_rounds F_least F_cut F_melted F_copper_for F_best_melt M_Bar_fineness M_Bar_thousandths C_Bar mkBar_ok told lt hlp hlq hr) (dss_cons (w_law_2 T F__law_dice F__law_roll F__law_rounds F_least F_cut F_melted F_copper_for F_best_melt M_Bar_fineness M_Bar_thousandths C_Bar mkBar_ok told lt hlp hlq hr) (dss_cons (w_law_3 T F__law_dice F__law_roll F__law_rounds F_least F_cut F_melted F_copper_for F_best_melt M_Bar_fineness M_Bar_thousandths C_Bar mkBar_ok told lt hlp hlq hr) (dss_nil))))


end
end K01
/-! PL0: the plain side: what the semantic terms compute. -/
namespace DL
open PySem PySem.Spec
theorem fAdd_ii (m : List MO) (i j : Int) : fAdd m (.int i) (.int j) = some (.int (i + j)) := rfl
theorem fSub_ii (m : List MO) (i j : Int) : fSub m (.int i) (.int j) = some (.int (i - j)) := rfl
theorem fMul_ii (m : List MO) (i j : Int) (h : cMul i j = true) : fMul m (.int i) (.int j) = some (.int (i * j)) := by
  simp [fMul, orD, iiD, h]
theorem fDiv_ii (m : List MO) (i j : Int) (h : 0 < j) (h2 : j < 2 ^ 64) : fDiv m (.int i) (.int j) = some (.int (i / j)) := by
  simp [fDiv, iiD, cDiv, smallI, h]
  omega
theorem fMod_ii (m : List MO) (i j : Int) (h : 0 < j) : fMod m (.int i) (.int j) = some (.int (i % j)) := by
  simp [fMod, iiD, cMod, h]
theorem cMul_l {i j : Int} (h1 : -(2 ^ 64) < i) (h2 : i < 2 ^ 64) : cMul i j = true := by
  unfold cMul smallI
  rw [decide_eq_true h1, decide_eq_true h2] <;> rfl
theorem cMul_r {i j : Int} (h1 : -(2 ^ 64) < j) (h2 : j < 2 ^ 64) : cMul i j = true := by
  unfold cMul smallI
  rw [decide_eq_true h1, decide_eq_true h2, Bool.and_self, Bool.or_true]
theorem toP_int (m : List MO) (i : Int) : toP m fuelP (.int i) = some (.int i) := rfl
theorem toP_str (m : List MO) (x : Str) : toP m fuelP (.str x) = some (.str x) := rfl
theorem dlt_ii (i j : Int) : PySem.W.dataLt (.int i) (.int j) = decide (i < j) := by
  unfold PySem.W.dataLt
  rw [PySem.W.keyToks, PySem.W.keyToks, PyProof.Rows.lex_cons]
  show (decide (i < j) || (!decide (j < i) && PyProof.Rows.lexLt PyProof.Rows.itemOrd [] [])) = _
  rw [PyProof.Rows.lexLt, Bool.and_false, Bool.or_false]
theorem fLt_ii (m : List MO) (i j : Int) : fLt m (.int i) (.int j) = some (.bl (decide (i < j))) := by
  show (if alkO (.int i) (.int j) = true then some (D.bl (PySem.W.dataLt (.int i) (.int j))) else none) = _
  rw [dlt_ii]
  rfl
theorem fGt_ii (m : List MO) (i j : Int) : fGt m (.int i) (.int j) = some (.bl (decide (i > j))) := by
  show (if alkO (.int i) (.int j) = true then some (D.bl (PySem.W.dataLt (.int j) (.int i))) else none) = _
  rw [dlt_ii]
  rfl
theorem fLe_ii (m : List MO) (i j : Int) : fLe m (.int i) (.int j) = some (.bl (decide (i ≤ j))) := by
  show (if alkO (.int i) (.int j) = true then some (D.bl (!PySem.W.dataLt (.int j) (.int i))) else none) = _
  rw [dlt_ii]
  have : (!decide (j < i)) = decide (i ≤ j) := by
    by_cases h : j < i
    · rw [decide_eq_true h, decide_eq_false (by omega)]; rfl
    · rw [decide_eq_false h, decide_eq_true (by omega)]; rfl
  rw [this]
  rfl
theorem fGe_ii (m : List MO) (i j : Int) : fGe m (.int i) (.int j) = some (.bl (decide (i ≥ j))) := by
  show (if alkO (.int i) (.int j) = true then some (D.bl (!PySem.W.dataLt (.int i) (.int j))) else none) = _
  rw [dlt_ii]
  have : (!decide (i < j)) = decide (i ≥ j) := by
    by_cases h : i < j
    · rw [decide_eq_true h, decide_eq_false (by omega)]; rfl
    · rw [decide_eq_false h, decide_eq_true (by omega)]; rfl
  rw [this]
  rfl
theorem eqv_ii (i j : Int) : PyData.eqv (.int i) (.int j) = decide (i = j) := by
  rw [PyData.eqv]
  rfl
theorem fEq_ii (m : List MO) (i j : Int) : fEq m (.int i) (.int j) = some (.bl (decide (i = j))) := by
  show (if alkT (.int i) (.int j) = true then some (D.bl (PyData.eqv (.int i) (.int j))) else none) = _
  rw [eqv_ii]
  rfl
theorem fNe_ii (m : List MO) (i j : Int) : fNe m (.int i) (.int j) = some (.bl (!decide (i = j))) := by
  show (if alkT (.int i) (.int j) = true then some (D.bl (!PyData.eqv (.int i) (.int j))) else none) = _
  rw [eqv_ii]
  rfl
theorem asL_lst (xs : List D) : asL (.lst xs) = some xs := rfl
theorem asT_tup (xs : List D) : asT (.tup xs) = some xs := rfl
theorem cInt_i (m : List MO) (i : Int) : cInt m (.int i) = some (.int i) := rfl
theorem cInt_b (m : List MO) (b : Bool) : cInt m (.bl b) = some (.int (if b then 1 else 0)) := rfl
theorem cAbs_i (m : List MO) (i : Int) : cAbs m (.int i) = some (.int (if i < 0 then -i else i)) := rfl
theorem asB_bl (b : Bool) : asB (.bl b) = some b := rfl
end DL
/-! P1: what the defs of metals compute. -/
namespace K01
open PySem PySem.Spec DL
theorem barOf_ok {d : DL.D} {w f : Int} (h : barOf d = some (w, f)) : d = bar w f := by
  unfold barOf at h
  split at h
  · rename_i c x w' y f'
    split at h
    · rename_i hc
      obtain ⟨rfl, rfl, rfl⟩ := hc
      cases h
      rfl
    · cases h
  · cases h
theorem bar_w (m : List MO) (w f : Int) : fldD "weight" m (bar w f) = some (.int w) := rfl
theorem bar_f (m : List MO) (w f : Int) : fldD "fine" m (bar w f) = some (.int f) := rfl
theorem mk_ok {w f : Int} (h : okBar w f) : mkBar [.int w, .int f] = some (.ok [("weight", .int w), ("fine", .int f)]) := if_pos h
theorem mk_ex {w f : Int} (h : ¬ okBar w f) : mkBar [.int w, .int f] = some (.error "MetalError") := if_neg h
theorem bar_fold (w f : Int) : DL.D.ins "Bar" [("weight", .int w), ("fine", .int f)] = bar w f := rfl
theorem p_thousandths (w f : Int) (m : List MO) (h : okBar w f) : fnD 1 1 m_Bar_thousandths [bar w f] m = .ok (.int (1000 * f / w)) m := by
  unfold okBar at h
  simp (config := { decide := true, failIfUnchanged := false }) only [gSeq, gNx, gBk, gCt, gIfS, gRet, gRetN, gExpr, gSet, gOwn, ggName, ggNil, ggCons, ggTup, gAsg, gPar, gFrz, gApp, gExt, gAug, loopS, gRaise, bindS, gC, gVar, gBor, gBin, gUn, asB, gtV, gV, gtNot, gtAnd, gtOr, gIf, gtChain, gaNil, gaCons, gTup, gLst, gCB, f1, f2, gCall, gArgs, gMeth, gMakeF, gLim, gLstN, gNewM, gSlT, gSlL, gpN, gpS, gFldS, gIxS, gIxO, gPar3, gParO, gParQ, RE.bind, opt, frzE, nx, gtYes, gIt, asL_lst, asT_tup, wipeE, cInt_i, cInt_b, fAdd_ii, fSub_ii, fLt_ii, fLe_ii, fGt_ii, fGe_ii, fEq_ii, fNe_ii, List.getElem?_cons_zero, List.getElem?_cons_succ, List.length_cons, List.length_nil, List.set_cons_zero, List.set_cons_succ, Option.bind_some, Option.map_some, Option.bind_none, if_true, if_false, Bool.not_true, Bool.not_false, reduceIte, Nat.reduceAdd, Nat.reduceEqDiff, lim, Nat.ble_eq, envOf, fnD, endD, List.map_cons, List.map_nil, List.replicate, List.cons_append, List.nil_append, Nat.reduceSub, asB_bl, decide_eq_true_eq, and_true, true_and, and_false, false_and, or_true, true_or, or_false, false_or, not_true_eq_false, not_false_eq_true, m_Bar_thousandths, bar_w, bar_f, fMul_ii _ _ _ (cMul_l (i := 1000) (j := f) (by decide) (by decide)), fDiv_ii _ _ w (by omega) (by omega)]
theorem p_fineness (w f : Int) (m : List MO) (h : okBar w f) : fnD 1 1 m_Bar_fineness [bar w f] m = S_least [.int f, .int w] m := by
  have h2 := h
  unfold okBar at h2
  have e : S_least [.int f, .int w] m = .ok (.tup [.int (f / (Int.gcd f w : Int)), .int (w / (Int.gcd f w : Int))]) m := if_pos ⟨h2.2.2.1, by omega, by omega⟩
  simp (config := { decide := true, failIfUnchanged := false }) only [gSeq, gNx, gBk, gCt, gIfS, gRet, gRetN, gExpr, gSet, gOwn, ggName, ggNil, ggCons, ggTup, gAsg, gPar, gFrz, gApp, gExt, gAug, loopS, gRaise, bindS, gC, gVar, gBor, gBin, gUn, asB, gtV, gV, gtNot, gtAnd, gtOr, gIf, gtChain, gaNil, gaCons, gTup, gLst, gCB, f1, f2, gCall, gArgs, gMeth, gMakeF, gLim, gLstN, gNewM, gSlT, gSlL, gpN, gpS, gFldS, gIxS, gIxO, gPar3, gParO, gParQ, RE.bind, opt, frzE, nx, gtYes, gIt, asL_lst, asT_tup, wipeE, cInt_i, cInt_b, fAdd_ii, fSub_ii, fLt_ii, fLe_ii, fGt_ii, fGe_ii, fEq_ii, fNe_ii, List.getElem?_cons_zero, List.getElem?_cons_succ, List.length_cons, List.length_nil, List.set_cons_zero, List.set_cons_succ, Option.bind_some, Option.map_some, Option.bind_none, if_true, if_false, Bool.not_true, Bool.not_false, reduceIte, Nat.reduceAdd, Nat.reduceEqDiff, lim, Nat.ble_eq, envOf, fnD, endD, List.map_cons, List.map_nil, List.replicate, List.cons_append, List.nil_append, Nat.reduceSub, asB_bl, decide_eq_true_eq, and_true, true_and, and_false, false_and, or_true, true_or, or_false, false_or, not_true_eq_false, not_false_eq_true, m_Bar_fineness, bar_w, bar_f, e]
theorem p_copper (w f p q : Int) (m : List MO) (h : okBar w f) (hp : p < 2 ^ 64) : fnD 3 3 m_copper_for [bar w f, .int p, .int q] m = if 0 < p ∧ p ≤ q ∧ p * w ≤ f * q then .ok (.int (0 - (0 - f * q) / p - w)) m else .ex "MetalError" m := by
  unfold okBar at h
  have m1 (x : Int) : cMul f x = true := cMul_l (by omega) (by omega)
  have m2 (x : Int) : cMul x w = true := cMul_r (by omega) (by omega)
  by_cases h1 : 0 < p
  · by_cases h2 : p ≤ q
    · by_cases h3 : p * w ≤ f * q
      · have h4 : ¬ f * q < p * w := by omega
        simp (config := { decide := true, failIfUnchanged := false }) only [gSeq, gNx, gBk, gCt, gIfS, gRet, gRetN, gExpr, gSet, gOwn, ggName, ggNil, ggCons, ggTup, gAsg, gPar, gFrz, gApp, gExt, gAug, loopS, gRaise, bindS, gC, gVar, gBor, gBin, gUn, asB, gtV, gV, gtNot, gtAnd, gtOr, gIf, gtChain, gaNil, gaCons, gTup, gLst, gCB, f1, f2, gCall, gArgs, gMeth, gMakeF, gLim, gLstN, gNewM, gSlT, gSlL, gpN, gpS, gFldS, gIxS, gIxO, gPar3, gParO, gParQ, RE.bind, opt, frzE, nx, gtYes, gIt, asL_lst, asT_tup, wipeE, cInt_i, cInt_b, fAdd_ii, fSub_ii, fLt_ii, fLe_ii, fGt_ii, fGe_ii, fEq_ii, fNe_ii, List.getElem?_cons_zero, List.getElem?_cons_succ, List.length_cons, List.length_nil, List.set_cons_zero, List.set_cons_succ, Option.bind_some, Option.map_some, Option.bind_none, if_true, if_false, Bool.not_true, Bool.not_false, reduceIte, Nat.reduceAdd, Nat.reduceEqDiff, lim, Nat.ble_eq, envOf, fnD, endD, List.map_cons, List.map_nil, List.replicate, List.cons_append, List.nil_append, Nat.reduceSub, asB_bl, decide_eq_true_eq, and_true, true_and, and_false, false_and, or_true, true_or, or_false, false_or, not_true_eq_false, not_false_eq_true, m_copper_for, bar_w, bar_f, fMul_ii _ _ _ (m1 _), fMul_ii _ _ _ (m2 _), fDiv_ii _ _ p h1 hp, h1, h2, h3, h4]
      · have h4 : f * q < p * w := by omega
        simp (config := { decide := true, failIfUnchanged := false }) only [gSeq, gNx, gBk, gCt, gIfS, gRet, gRetN, gExpr, gSet, gOwn, ggName, ggNil, ggCons, ggTup, gAsg, gPar, gFrz, gApp, gExt, gAug, loopS, gRaise, bindS, gC, gVar, gBor, gBin, gUn, asB, gtV, gV, gtNot, gtAnd, gtOr, gIf, gtChain, gaNil, gaCons, gTup, gLst, gCB, f1, f2, gCall, gArgs, gMeth, gMakeF, gLim, gLstN, gNewM, gSlT, gSlL, gpN, gpS, gFldS, gIxS, gIxO, gPar3, gParO, gParQ, RE.bind, opt, frzE, nx, gtYes, gIt, asL_lst, asT_tup, wipeE, cInt_i, cInt_b, fAdd_ii, fSub_ii, fLt_ii, fLe_ii, fGt_ii, fGe_ii, fEq_ii, fNe_ii, List.getElem?_cons_zero, List.getElem?_cons_succ, List.length_cons, List.length_nil, List.set_cons_zero, List.set_cons_succ, Option.bind_some, Option.map_some, Option.bind_none, if_true, if_false, Bool.not_true, Bool.not_false, reduceIte, Nat.reduceAdd, Nat.reduceEqDiff, lim, Nat.ble_eq, envOf, fnD, endD, List.map_cons, List.map_nil, List.replicate, List.cons_append, List.nil_append, Nat.reduceSub, asB_bl, decide_eq_true_eq, and_true, true_and, and_false, false_and, or_true, true_or, or_false, false_or, not_true_eq_false, not_false_eq_true, m_copper_for, bar_w, bar_f, fMul_ii _ _ _ (m1 _), fMul_ii _ _ _ (m2 _), h1, h2, h3, h4]
    · simp (config := { decide := true, failIfUnchanged := false }) only [gSeq, gNx, gBk, gCt, gIfS, gRet, gRetN, gExpr, gSet, gOwn, ggName, ggNil, ggCons, ggTup, gAsg, gPar, gFrz, gApp, gExt, gAug, loopS, gRaise, bindS, gC, gVar, gBor, gBin, gUn, asB, gtV, gV, gtNot, gtAnd, gtOr, gIf, gtChain, gaNil, gaCons, gTup, gLst, gCB, f1, f2, gCall, gArgs, gMeth, gMakeF, gLim, gLstN, gNewM, gSlT, gSlL, gpN, gpS, gFldS, gIxS, gIxO, gPar3, gParO, gParQ, RE.bind, opt, frzE, nx, gtYes, gIt, asL_lst, asT_tup, wipeE, cInt_i, cInt_b, fAdd_ii, fSub_ii, fLt_ii, fLe_ii, fGt_ii, fGe_ii, fEq_ii, fNe_ii, List.getElem?_cons_zero, List.getElem?_cons_succ, List.length_cons, List.length_nil, List.set_cons_zero, List.set_cons_succ, Option.bind_some, Option.map_some, Option.bind_none, if_true, if_false, Bool.not_true, Bool.not_false, reduceIte, Nat.reduceAdd, Nat.reduceEqDiff, lim, Nat.ble_eq, envOf, fnD, endD, List.map_cons, List.map_nil, List.replicate, List.cons_append, List.nil_append, Nat.reduceSub, asB_bl, decide_eq_true_eq, and_true, true_and, and_false, false_and, or_true, true_or, or_false, false_or, not_true_eq_false, not_false_eq_true, m_copper_for, bar_w, bar_f, h1, h2]
  · simp (config := { decide := true, failIfUnchanged := false }) only [gSeq, gNx, gBk, gCt, gIfS, gRet, gRetN, gExpr, gSet, gOwn, ggName, ggNil, ggCons, ggTup, gAsg, gPar, gFrz, gApp, gExt, gAug, loopS, gRaise, bindS, gC, gVar, gBor, gBin, gUn, asB, gtV, gV, gtNot, gtAnd, gtOr, gIf, gtChain, gaNil, gaCons, gTup, gLst, gCB, f1, f2, gCall, gArgs, gMeth, gMakeF, gLim, gLstN, gNewM, gSlT, gSlL, gpN, gpS, gFldS, gIxS, gIxO, gPar3, gParO, gParQ, RE.bind, opt, frzE, nx, gtYes, gIt, asL_lst, asT_tup, wipeE, cInt_i, cInt_b, fAdd_ii, fSub_ii, fLt_ii, fLe_ii, fGt_ii, fGe_ii, fEq_ii, fNe_ii, List.getElem?_cons_zero, List.getElem?_cons_succ, List.length_cons, List.length_nil, List.set_cons_zero, List.set_cons_succ, Option.bind_some, Option.map_some, Option.bind_none, if_true, if_false, Bool.not_true, Bool.not_false, reduceIte, Nat.reduceAdd, Nat.reduceEqDiff, lim, Nat.ble_eq, envOf, fnD, endD, List.map_cons, List.map_nil, List.replicate, List.cons_append, List.nil_append, Nat.reduceSub, asB_bl, decide_eq_true_eq, and_true, true_and, and_false, false_and, or_true, true_or, or_false, false_or, not_true_eq_false, not_false_eq_true, m_copper_for, bar_w, bar_f, h1]
theorem p_cut (w f q : Int) (m : List MO) (h : okBar w f) : fnD 4 2 m_cut [bar w f, .int q] m = if 1 ≤ q ∧ q ≤ w then .ok (.tup [bar q (f * q / w), if q < w then bar (w - q) (f - f * q / w) else .non]) m else .ex "MetalError" m := by
  have h0 := h
  unfold okBar at h
  have m1 (x : Int) : cMul f x = true := cMul_l (by omega) (by omega)
  by_cases h1 : 1 ≤ q
  · by_cases h2 : q ≤ w
    · have a1 : 0 ≤ f * q / w := Int.ediv_nonneg (Int.mul_nonneg h.2.2.1 (by omega)) (by omega)
      have a2 : f * q / w ≤ q := by
        have : f * q / w ≤ w * q / w := Int.ediv_le_ediv (by omega) (Int.mul_le_mul_of_nonneg_right h.2.2.2 (by omega))
        rw [Int.mul_ediv_cancel_left _ (by omega)] at this
        exact this
      have a3 : f * q / w ≤ f := by
        have : f * q / w ≤ f * w / w := Int.ediv_le_ediv (by omega) (Int.mul_le_mul_of_nonneg_left h2 h.2.2.1)
        rw [Int.mul_ediv_cancel _ (by omega)] at this
        exact this
      have b1 : okBar q (f * q / w) := ⟨h1, by omega, a1, a2⟩
      by_cases h3 : q < w
      · have a4 : f - f * q / w ≤ w - q := by
          have e : (w * w - f * w) - (w * q - f * q) = (w - f) * (w - q) := by
            rw [Int.sub_mul, Int.mul_sub, Int.mul_sub]
            omega
          have e2 : 0 ≤ (w - f) * (w - q) := Int.mul_nonneg (by omega) (by omega)
          have e3 : (f - (w - q)) * w ≤ f * q := by
            rw [Int.sub_mul, Int.sub_mul, Int.mul_comm q w]
            omega
          have := (Int.le_ediv_iff_mul_le (by omega : 0 < w)).mpr e3
          omega
        have b2 : okBar (w - q) (f - f * q / w) := ⟨by omega, by omega, by omega, a4⟩
        simp (config := { decide := true, failIfUnchanged := false }) only [gSeq, gNx, gBk, gCt, gIfS, gRet, gRetN, gExpr, gSet, gOwn, ggName, ggNil, ggCons, ggTup, gAsg, gPar, gFrz, gApp, gExt, gAug, loopS, gRaise, bindS, gC, gVar, gBor, gBin, gUn, asB, gtV, gV, gtNot, gtAnd, gtOr, gIf, gtChain, gaNil, gaCons, gTup, gLst, gCB, f1, f2, gCall, gArgs, gMeth, gMakeF, gLim, gLstN, gNewM, gSlT, gSlL, gpN, gpS, gFldS, gIxS, gIxO, gPar3, gParO, gParQ, RE.bind, opt, frzE, nx, gtYes, gIt, asL_lst, asT_tup, wipeE, cInt_i, cInt_b, fAdd_ii, fSub_ii, fLt_ii, fLe_ii, fGt_ii, fGe_ii, fEq_ii, fNe_ii, List.getElem?_cons_zero, List.getElem?_cons_succ, List.length_cons, List.length_nil, List.set_cons_zero, List.set_cons_succ, Option.bind_some, Option.map_some, Option.bind_none, if_true, if_false, Bool.not_true, Bool.not_false, reduceIte, Nat.reduceAdd, Nat.reduceEqDiff, lim, Nat.ble_eq, envOf, fnD, endD, List.map_cons, List.map_nil, List.replicate, List.cons_append, List.nil_append, Nat.reduceSub, asB_bl, decide_eq_true_eq, and_true, true_and, and_false, false_and, or_true, true_or, or_false, false_or, not_true_eq_false, not_false_eq_true, m_cut, bar_w, bar_f, fMul_ii _ _ _ (m1 _), fDiv_ii _ _ w (by omega) (by omega), h1, h2, h3, mk_ok b1, mk_ok b2, bar_fold]
      · simp (config := { decide := true, failIfUnchanged := false }) only [gSeq, gNx, gBk, gCt, gIfS, gRet, gRetN, gExpr, gSet, gOwn, ggName, ggNil, ggCons, ggTup, gAsg, gPar, gFrz, gApp, gExt, gAug, loopS, gRaise, bindS, gC, gVar, gBor, gBin, gUn, asB, gtV, gV, gtNot, gtAnd, gtOr, gIf, gtChain, gaNil, gaCons, gTup, gLst, gCB, f1, f2, gCall, gArgs, gMeth, gMakeF, gLim, gLstN, gNewM, gSlT, gSlL, gpN, gpS, gFldS, gIxS, gIxO, gPar3, gParO, gParQ, RE.bind, opt, frzE, nx, gtYes, gIt, asL_lst, asT_tup, wipeE, cInt_i, cInt_b, fAdd_ii, fSub_ii, fLt_ii, fLe_ii, fGt_ii, fGe_ii, fEq_ii, fNe_ii, List.getElem?_cons_zero, List.getElem?_cons_succ, List.length_cons, List.length_nil, List.set_cons_zero, List.set_cons_succ, Option.bind_some, Option.map_some, Option.bind_none, if_true, if_false, Bool.not_true, Bool.not_false, reduceIte, Nat.reduceAdd, Nat.reduceEqDiff, lim, Nat.ble_eq, envOf, fnD, endD, List.map_cons, List.map_nil, List.replicate, List.cons_append, List.nil_append, Nat.reduceSub, asB_bl, decide_eq_true_eq, and_true, true_and, and_false, false_and, or_true, true_or, or_false, false_or, not_true_eq_false, not_false_eq_true, m_cut, bar_w, bar_f, fMul_ii _ _ _ (m1 _), fDiv_ii _ _ w (by omega) (by omega), h1, h2, h3, mk_ok b1, bar_fold]
    · simp (config := { decide := true, failIfUnchanged := false }) only [gSeq, gNx, gBk, gCt, gIfS, gRet, gRetN, gExpr, gSet, gOwn, ggName, ggNil, ggCons, ggTup, gAsg, gPar, gFrz, gApp, gExt, gAug, loopS, gRaise, bindS, gC, gVar, gBor, gBin, gUn, asB, gtV, gV, gtNot, gtAnd, gtOr, gIf, gtChain, gaNil, gaCons, gTup, gLst, gCB, f1, f2, gCall, gArgs, gMeth, gMakeF, gLim, gLstN, gNewM, gSlT, gSlL, gpN, gpS, gFldS, gIxS, gIxO, gPar3, gParO, gParQ, RE.bind, opt, frzE, nx, gtYes, gIt, asL_lst, asT_tup, wipeE, cInt_i, cInt_b, fAdd_ii, fSub_ii, fLt_ii, fLe_ii, fGt_ii, fGe_ii, fEq_ii, fNe_ii, List.getElem?_cons_zero, List.getElem?_cons_succ, List.length_cons, List.length_nil, List.set_cons_zero, List.set_cons_succ, Option.bind_some, Option.map_some, Option.bind_none, if_true, if_false, Bool.not_true, Bool.not_false, reduceIte, Nat.reduceAdd, Nat.reduceEqDiff, lim, Nat.ble_eq, envOf, fnD, endD, List.map_cons, List.map_nil, List.replicate, List.cons_append, List.nil_append, Nat.reduceSub, asB_bl, decide_eq_true_eq, and_true, true_and, and_false, false_and, or_true, true_or, or_false, false_or, not_true_eq_false, not_false_eq_true, m_cut, bar_w, bar_f, h1, h2]
  · simp (config := { decide := true, failIfUnchanged := false }) only [gSeq, gNx, gBk, gCt, gIfS, gRet, gRetN, gExpr, gSet, gOwn, ggName, ggNil, ggCons, ggTup, gAsg, gPar, gFrz, gApp, gExt, gAug, loopS, gRaise, bindS, gC, gVar, gBor, gBin, gUn, asB, gtV, gV, gtNot, gtAnd, gtOr, gIf, gtChain, gaNil, gaCons, gTup, gLst, gCB, f1, f2, gCall, gArgs, gMeth, gMakeF, gLim, gLstN, gNewM, gSlT, gSlL, gpN, gpS, gFldS, gIxS, gIxO, gPar3, gParO, gParQ, RE.bind, opt, frzE, nx, gtYes, gIt, asL_lst, asT_tup, wipeE, cInt_i, cInt_b, fAdd_ii, fSub_ii, fLt_ii, fLe_ii, fGt_ii, fGe_ii, fEq_ii, fNe_ii, List.getElem?_cons_zero, List.getElem?_cons_succ, List.length_cons, List.length_nil, List.set_cons_zero, List.set_cons_succ, Option.bind_some, Option.map_some, Option.bind_none, if_true, if_false, Bool.not_true, Bool.not_false, reduceIte, Nat.reduceAdd, Nat.reduceEqDiff, lim, Nat.ble_eq, envOf, fnD, endD, List.map_cons, List.map_nil, List.replicate, List.cons_append, List.nil_append, Nat.reduceSub, asB_bl, decide_eq_true_eq, and_true, true_and, and_false, false_and, or_true, true_or, or_false, false_or, not_true_eq_false, not_false_eq_true, m_cut, bar_w, bar_f, h1]
end K01
/-! P2: the bar that is made, dice, draws. -/
namespace K01
open PySem PySem.Spec DL
theorem get_last (m : List MO) (x : MO) : (m ++ [x])[m.length]? = some x := by simp
theorem set_last (m : List MO) (x y : MO) : (m ++ [x]).set m.length y = m ++ [y] := by simp
theorem put_w (d : DL.D) : putD "weight" d [] = ([("weight", d)] : List (Str × DL.D)) := rfl
theorem put_f (d e : DL.D) : putD "fine" d ([("weight", e)] : List (Str × DL.D)) = ([("weight", e), ("fine", d)] : List (Str × DL.D)) := rfl
theorem mkBar_int {ds : List DL.D} {r : Except Str (List (Str × DL.D))} (h : mkBar ds = some r) : ∃ w f, ds = [.int w, .int f] := by
  unfold mkBar at h
  split at h
  · exact ⟨_, _, rfl⟩
  · cases h
theorem p_init (w f : Int) (m : List MO) : fnD 3 3 m_Bar___init__ [.ref m.length, .int w, .int f] (m ++ [.ins "Bar" []]) = if okBar w f then .ok .non (m ++ [.ins "Bar" [("weight", .int w), ("fine", .int f)]]) else .ex "MetalError" (m ++ [.ins "Bar" []]) := by
  unfold okBar
  by_cases h1 : 1 ≤ w
  · by_cases h2 : w ≤ 1000000
    · by_cases h3 : 0 ≤ f
      · by_cases h4 : f ≤ w
        · simp (config := { decide := true, failIfUnchanged := false }) only [gSeq, gNx, gBk, gCt, gIfS, gRet, gRetN, gExpr, gSet, gOwn, ggName, ggNil, ggCons, ggTup, gAsg, gPar, gFrz, gApp, gExt, gAug, loopS, gRaise, bindS, gC, gVar, gBor, gBin, gUn, asB, gtV, gV, gtNot, gtAnd, gtOr, gIf, gtChain, gaNil, gaCons, gTup, gLst, gCB, f1, f2, gCall, gArgs, gMeth, gMakeF, gLim, gLstN, gNewM, gSlT, gSlL, gpN, gpS, gFldS, gIxS, gIxO, gPar3, gParO, gParQ, RE.bind, opt, frzE, nx, gtYes, gIt, asL_lst, asT_tup, wipeE, cInt_i, cInt_b, fAdd_ii, fSub_ii, fLt_ii, fLe_ii, fGt_ii, fGe_ii, fEq_ii, fNe_ii, List.getElem?_cons_zero, List.getElem?_cons_succ, List.length_cons, List.length_nil, List.set_cons_zero, List.set_cons_succ, Option.bind_some, Option.map_some, Option.bind_none, if_true, if_false, Bool.not_true, Bool.not_false, reduceIte, Nat.reduceAdd, Nat.reduceEqDiff, lim, Nat.ble_eq, envOf, fnD, endD, List.map_cons, List.map_nil, List.replicate, List.cons_append, List.nil_append, Nat.reduceSub, asB_bl, decide_eq_true_eq, and_true, true_and, and_false, false_and, or_true, true_or, or_false, false_or, not_true_eq_false, not_false_eq_true, m_Bar___init__, h1, h2, h3, h4, get_last, set_last, put_w, put_f]
        · simp (config := { decide := true, failIfUnchanged := false }) only [gSeq, gNx, gBk, gCt, gIfS, gRet, gRetN, gExpr, gSet, gOwn, ggName, ggNil, ggCons, ggTup, gAsg, gPar, gFrz, gApp, gExt, gAug, loopS, gRaise, bindS, gC, gVar, gBor, gBin, gUn, asB, gtV, gV, gtNot, gtAnd, gtOr, gIf, gtChain, gaNil, gaCons, gTup, gLst, gCB, f1, f2, gCall, gArgs, gMeth, gMakeF, gLim, gLstN, gNewM, gSlT, gSlL, gpN, gpS, gFldS, gIxS, gIxO, gPar3, gParO, gParQ, RE.bind, opt, frzE, nx, gtYes, gIt, asL_lst, asT_tup, wipeE, cInt_i, cInt_b, fAdd_ii, fSub_ii, fLt_ii, fLe_ii, fGt_ii, fGe_ii, fEq_ii, fNe_ii, List.getElem?_cons_zero, List.getElem?_cons_succ, List.length_cons, List.length_nil, List.set_cons_zero, List.set_cons_succ, Option.bind_some, Option.map_some, Option.bind_none, if_true, if_false, Bool.not_true, Bool.not_false, reduceIte, Nat.reduceAdd, Nat.reduceEqDiff, lim, Nat.ble_eq, envOf, fnD, endD, List.map_cons, List.map_nil, List.replicate, List.cons_append, List.nil_append, Nat.reduceSub, asB_bl, decide_eq_true_eq, and_true, true_and, and_false, false_and, or_true, true_or, or_false, false_or, not_true_eq_false, not_false_eq_true, m_Bar___init__, h1, h2, h3, h4, get_last, set_last, put_w, put_f]
      · simp (config := { decide := true, failIfUnchanged := false }) only [gSeq, gNx, gBk, gCt, gIfS, gRet, gRetN, gExpr, gSet, gOwn, ggName, ggNil, ggCons, ggTup, gAsg, gPar, gFrz, gApp, gExt, gAug, loopS, gRaise, bindS, gC, gVar, gBor, gBin, gUn, asB, gtV, gV, gtNot, gtAnd, gtOr, gIf, gtChain, gaNil, gaCons, gTup, gLst, gCB, f1, f2, gCall, gArgs, gMeth, gMakeF, gLim, gLstN, gNewM, gSlT, gSlL, gpN, gpS, gFldS, gIxS, gIxO, gPar3, gParO, gParQ, RE.bind, opt, frzE, nx, gtYes, gIt, asL_lst, asT_tup, wipeE, cInt_i, cInt_b, fAdd_ii, fSub_ii, fLt_ii, fLe_ii, fGt_ii, fGe_ii, fEq_ii, fNe_ii, List.getElem?_cons_zero, List.getElem?_cons_succ, List.length_cons, List.length_nil, List.set_cons_zero, List.set_cons_succ, Option.bind_some, Option.map_some, Option.bind_none, if_true, if_false, Bool.not_true, Bool.not_false, reduceIte, Nat.reduceAdd, Nat.reduceEqDiff, lim, Nat.ble_eq, envOf, fnD, endD, List.map_cons, List.map_nil, List.replicate, List.cons_append, List.nil_append, Nat.reduceSub, asB_bl, decide_eq_true_eq, and_true, true_and, and_false, false_and, or_true, true_or, or_false, false_or, not_true_eq_false, not_false_eq_true, m_Bar___init__, h1, h2, h3, get_last, set_last, put_w, put_f]
    · simp (config := { decide := true, failIfUnchanged := false }) only [gSeq, gNx, gBk, gCt, gIfS, gRet, gRetN, gExpr, gSet, gOwn, ggName, ggNil, ggCons, ggTup, gAsg, gPar, gFrz, gApp, gExt, gAug, loopS, gRaise, bindS, gC, gVar, gBor, gBin, gUn, asB, gtV, gV, gtNot, gtAnd, gtOr, gIf, gtChain, gaNil, gaCons, gTup, gLst, gCB, f1, f2, gCall, gArgs, gMeth, gMakeF, gLim, gLstN, gNewM, gSlT, gSlL, gpN, gpS, gFldS, gIxS, gIxO, gPar3, gParO, gParQ, RE.bind, opt, frzE, nx, gtYes, gIt, asL_lst, asT_tup, wipeE, cInt_i, cInt_b, fAdd_ii, fSub_ii, fLt_ii, fLe_ii, fGt_ii, fGe_ii, fEq_ii, fNe_ii, List.getElem?_cons_zero, List.getElem?_cons_succ, List.length_cons, List.length_nil, List.set_cons_zero, List.set_cons_succ, Option.bind_some, Option.map_some, Option.bind_none, if_true, if_false, Bool.not_true, Bool.not_false, reduceIte, Nat.reduceAdd, Nat.reduceEqDiff, lim, Nat.ble_eq, envOf, fnD, endD, List.map_cons, List.map_nil, List.replicate, List.cons_append, List.nil_append, Nat.reduceSub, asB_bl, decide_eq_true_eq, and_true, true_and, and_false, false_and, or_true, true_or, or_false, false_or, not_true_eq_false, not_false_eq_true, m_Bar___init__, h1, h2, get_last, set_last, put_w, put_f]
  · simp (config := { decide := true, failIfUnchanged := false }) only [gSeq, gNx, gBk, gCt, gIfS, gRet, gRetN, gExpr, gSet, gOwn, ggName, ggNil, ggCons, ggTup, gAsg, gPar, gFrz, gApp, gExt, gAug, loopS, gRaise, bindS, gC, gVar, gBor, gBin, gUn, asB, gtV, gV, gtNot, gtAnd, gtOr, gIf, gtChain, gaNil, gaCons, gTup, gLst, gCB, f1, f2, gCall, gArgs, gMeth, gMakeF, gLim, gLstN, gNewM, gSlT, gSlL, gpN, gpS, gFldS, gIxS, gIxO, gPar3, gParO, gParQ, RE.bind, opt, frzE, nx, gtYes, gIt, asL_lst, asT_tup, wipeE, cInt_i, cInt_b, fAdd_ii, fSub_ii, fLt_ii, fLe_ii, fGt_ii, fGe_ii, fEq_ii, fNe_ii, List.getElem?_cons_zero, List.getElem?_cons_succ, List.length_cons, List.length_nil, List.set_cons_zero, List.set_cons_succ, Option.bind_some, Option.map_some, Option.bind_none, if_true, if_false, Bool.not_true, Bool.not_false, reduceIte, Nat.reduceAdd, Nat.reduceEqDiff, lim, Nat.ble_eq, envOf, fnD, endD, List.map_cons, List.map_nil, List.replicate, List.cons_append, List.nil_append, Nat.reduceSub, asB_bl, decide_eq_true_eq, and_true, true_and, and_false, false_and, or_true, true_or, or_false, false_or, not_true_eq_false, not_false_eq_true, m_Bar___init__, h1, get_last, set_last, put_w, put_f]
theorem mkBar_good : MkF "Bar" (fnD 3 3 m_Bar___init__) mkBar where
  ok := fun ds m fs h => by
    obtain ⟨w, f, rfl⟩ := mkBar_int h
    by_cases hb : okBar w f
    · rw [mk_ok hb] at h
      cases h
      rw [p_init, if_pos hb]
    · rw [mk_ex hb] at h
      cases h
  ex := fun ds m e h => by
    obtain ⟨w, f, rfl⟩ := mkBar_int h
    by_cases hb : okBar w f
    · rw [mk_ok hb] at h
      cases h
    · rw [mk_ex hb] at h
      cases h
      exact ⟨_, by rw [p_init, if_neg hb]⟩
  rf := fun ds fs n _ h => by
    obtain ⟨w, f, rfl⟩ := mkBar_int h
    by_cases hb : okBar w f
    · rw [mk_ok hb] at h
      cases h
      exact .cons (.int _) (.cons (.int _) .nil)
    · rw [mk_ex hb] at h
      cases h
theorem ix_ref {m : List MO} {i : Nat} {xs : List DL.D} (h : m[i]? = some (.lst xs)) (k : Int) : fIx m (.ref i) (.int k) = L2.atI xs k := by
  show (match m[i]? with | some (.lst xs) => some xs | _ => none).bind (fun xs => L2.atI xs k) = _
  rw [h]
  rfl
theorem ix_set {m : List MO} {i : Nat} {xs : List DL.D} (h : i < m.length) (k : Int) : fIx (m.set i (.lst xs)) (.ref i) (.int k) = L2.atI xs k := ix_ref (List.getElem?_set_self h) k
theorem atI3_0 (a b c : DL.D) : L2.atI [a, b, c] 0 = some a := rfl
theorem atI3_1 (a b c : DL.D) : L2.atI [a, b, c] 1 = some b := rfl
theorem atI3_2 (a b c : DL.D) : L2.atI [a, b, c] 2 = some c := rfl
theorem ixN3_0 : L2.ixN 3 0 = some 0 := rfl
theorem ixN3_1 : L2.ixN 3 1 = some 1 := rfl
theorem ixN3_2 : L2.ixN 3 2 = some 2 := rfl
theorem p_dice (c : Int) (m : List MO) : fnD 1 1 m__law_dice [.int c] m = .ok (.ref m.length) (m ++ [.lst (diceL c)]) := by
  unfold diceL
  have e : fPow m (.int 10) (.int 18) = some (.int (10 ^ 18)) := rfl
  by_cases h1 : -10 < c
  · by_cases h2 : c < 10
    · simp (config := { decide := true, failIfUnchanged := false }) only [gSeq, gNx, gBk, gCt, gIfS, gRet, gRetN, gExpr, gSet, gOwn, ggName, ggNil, ggCons, ggTup, gAsg, gPar, gFrz, gApp, gExt, gAug, loopS, gRaise, bindS, gC, gVar, gBor, gBin, gUn, asB, gtV, gV, gtNot, gtAnd, gtOr, gIf, gtChain, gaNil, gaCons, gTup, gLst, gCB, f1, f2, gCall, gArgs, gMeth, gMakeF, gLim, gLstN, gNewM, gSlT, gSlL, gpN, gpS, gFldS, gIxS, gIxO, gPar3, gParO, gParQ, RE.bind, opt, frzE, nx, gtYes, gIt, asL_lst, asT_tup, wipeE, cInt_i, cInt_b, fAdd_ii, fSub_ii, fLt_ii, fLe_ii, fGt_ii, fGe_ii, fEq_ii, fNe_ii, List.getElem?_cons_zero, List.getElem?_cons_succ, List.length_cons, List.length_nil, List.set_cons_zero, List.set_cons_succ, Option.bind_some, Option.map_some, Option.bind_none, if_true, if_false, Bool.not_true, Bool.not_false, reduceIte, Nat.reduceAdd, Nat.reduceEqDiff, lim, Nat.ble_eq, envOf, fnD, endD, List.map_cons, List.map_nil, List.replicate, List.cons_append, List.nil_append, Nat.reduceSub, asB_bl, decide_eq_true_eq, and_true, true_and, and_false, false_and, or_true, true_or, or_false, false_or, not_true_eq_false, not_false_eq_true, m__law_dice, h1, h2, cAbs_i, show (0 : Int) - 10 < c from by omega]
    · simp (config := { decide := true, failIfUnchanged := false }) only [gSeq, gNx, gBk, gCt, gIfS, gRet, gRetN, gExpr, gSet, gOwn, ggName, ggNil, ggCons, ggTup, gAsg, gPar, gFrz, gApp, gExt, gAug, loopS, gRaise, bindS, gC, gVar, gBor, gBin, gUn, asB, gtV, gV, gtNot, gtAnd, gtOr, gIf, gtChain, gaNil, gaCons, gTup, gLst, gCB, f1, f2, gCall, gArgs, gMeth, gMakeF, gLim, gLstN, gNewM, gSlT, gSlL, gpN, gpS, gFldS, gIxS, gIxO, gPar3, gParO, gParQ, RE.bind, opt, frzE, nx, gtYes, gIt, asL_lst, asT_tup, wipeE, cInt_i, cInt_b, fAdd_ii, fSub_ii, fLt_ii, fLe_ii, fGt_ii, fGe_ii, fEq_ii, fNe_ii, List.getElem?_cons_zero, List.getElem?_cons_succ, List.length_cons, List.length_nil, List.set_cons_zero, List.set_cons_succ, Option.bind_some, Option.map_some, Option.bind_none, if_true, if_false, Bool.not_true, Bool.not_false, reduceIte, Nat.reduceAdd, Nat.reduceEqDiff, lim, Nat.ble_eq, envOf, fnD, endD, List.map_cons, List.map_nil, List.replicate, List.cons_append, List.nil_append, Nat.reduceSub, asB_bl, decide_eq_true_eq, and_true, true_and, and_false, false_and, or_true, true_or, or_false, false_or, not_true_eq_false, not_false_eq_true, m__law_dice, h1, h2, show (0 : Int) - 10 < c from by omega, fMod_ii _ _ _ (show (0 : Int) < 1009 by decide), e]
  · simp (config := { decide := true, failIfUnchanged := false }) only [gSeq, gNx, gBk, gCt, gIfS, gRet, gRetN, gExpr, gSet, gOwn, ggName, ggNil, ggCons, ggTup, gAsg, gPar, gFrz, gApp, gExt, gAug, loopS, gRaise, bindS, gC, gVar, gBor, gBin, gUn, asB, gtV, gV, gtNot, gtAnd, gtOr, gIf, gtChain, gaNil, gaCons, gTup, gLst, gCB, f1, f2, gCall, gArgs, gMeth, gMakeF, gLim, gLstN, gNewM, gSlT, gSlL, gpN, gpS, gFldS, gIxS, gIxO, gPar3, gParO, gParQ, RE.bind, opt, frzE, nx, gtYes, gIt, asL_lst, asT_tup, wipeE, cInt_i, cInt_b, fAdd_ii, fSub_ii, fLt_ii, fLe_ii, fGt_ii, fGe_ii, fEq_ii, fNe_ii, List.getElem?_cons_zero, List.getElem?_cons_succ, List.length_cons, List.length_nil, List.set_cons_zero, List.set_cons_succ, Option.bind_some, Option.map_some, Option.bind_none, if_true, if_false, Bool.not_true, Bool.not_false, reduceIte, Nat.reduceAdd, Nat.reduceEqDiff, lim, Nat.ble_eq, envOf, fnD, endD, List.map_cons, List.map_nil, List.replicate, List.cons_append, List.nil_append, Nat.reduceSub, asB_bl, decide_eq_true_eq, and_true, true_and, and_false, false_and, or_true, true_or, or_false, false_or, not_true_eq_false, not_false_eq_true, m__law_dice, h1, show ¬ (0 : Int) - 10 < c from by omega, fMod_ii _ _ _ (show (0 : Int) < 1009 by decide), e]
theorem p_roll (a b c many : Int) (i : Nat) (m : List MO) (h : m[i]? = some (.lst [.int a, .int b, .int c])) (h1 : 0 < many) (h2 : many ≤ 100000000) :
    fnD 3 2 m__law_roll [.ref i, .int many] m = .ok (.int (rollF a b c many).1) (m.set i (.lst [.int (rollF a b c many).2.1, .int (rollF a b c many).2.2.1, .int (rollF a b c many).2.2.2])) := by
  unfold rollF
  have hi : i < m.length := (List.getElem?_eq_some_iff.mp h).1
  by_cases hc : c = 2 ∨ c = 1 ∧ a > 0
  · rw [if_pos hc]
    have hd : fDiv m (.int a) (.int many) = some (.int (a / many)) := fDiv_ii _ _ _ h1 (by omega)
    rcases hc with hc | ⟨hc, ha⟩
    · subst hc
      simp (config := { decide := true, failIfUnchanged := false }) only [gSeq, gNx, gBk, gCt, gIfS, gRet, gRetN, gExpr, gSet, gOwn, ggName, ggNil, ggCons, ggTup, gAsg, gPar, gFrz, gApp, gExt, gAug, loopS, gRaise, bindS, gC, gVar, gBor, gBin, gUn, asB, gtV, gV, gtNot, gtAnd, gtOr, gIf, gtChain, gaNil, gaCons, gTup, gLst, gCB, f1, f2, gCall, gArgs, gMeth, gMakeF, gLim, gLstN, gNewM, gSlT, gSlL, gpN, gpS, gFldS, gIxS, gIxO, gPar3, gParO, gParQ, RE.bind, opt, frzE, nx, gtYes, gIt, asL_lst, asT_tup, wipeE, cInt_i, cInt_b, fAdd_ii, fSub_ii, fLt_ii, fLe_ii, fGt_ii, fGe_ii, fEq_ii, fNe_ii, List.getElem?_cons_zero, List.getElem?_cons_succ, List.length_cons, List.length_nil, List.set_cons_zero, List.set_cons_succ, Option.bind_some, Option.map_some, Option.bind_none, if_true, if_false, Bool.not_true, Bool.not_false, reduceIte, Nat.reduceAdd, Nat.reduceEqDiff, lim, Nat.ble_eq, envOf, fnD, endD, List.map_cons, List.map_nil, List.replicate, List.cons_append, List.nil_append, Nat.reduceSub, asB_bl, decide_eq_true_eq, and_true, true_and, and_false, false_and, or_true, true_or, or_false, false_or, not_true_eq_false, not_false_eq_true, m__law_roll, ix_ref h, atI3_0, atI3_1, atI3_2, h, ixN3_0, fMod_ii _ _ _ h1, hd]
    · subst hc
      simp (config := { decide := true, failIfUnchanged := false }) only [gSeq, gNx, gBk, gCt, gIfS, gRet, gRetN, gExpr, gSet, gOwn, ggName, ggNil, ggCons, ggTup, gAsg, gPar, gFrz, gApp, gExt, gAug, loopS, gRaise, bindS, gC, gVar, gBor, gBin, gUn, asB, gtV, gV, gtNot, gtAnd, gtOr, gIf, gtChain, gaNil, gaCons, gTup, gLst, gCB, f1, f2, gCall, gArgs, gMeth, gMakeF, gLim, gLstN, gNewM, gSlT, gSlL, gpN, gpS, gFldS, gIxS, gIxO, gPar3, gParO, gParQ, RE.bind, opt, frzE, nx, gtYes, gIt, asL_lst, asT_tup, wipeE, cInt_i, cInt_b, fAdd_ii, fSub_ii, fLt_ii, fLe_ii, fGt_ii, fGe_ii, fEq_ii, fNe_ii, List.getElem?_cons_zero, List.getElem?_cons_succ, List.length_cons, List.length_nil, List.set_cons_zero, List.set_cons_succ, Option.bind_some, Option.map_some, Option.bind_none, if_true, if_false, Bool.not_true, Bool.not_false, reduceIte, Nat.reduceAdd, Nat.reduceEqDiff, lim, Nat.ble_eq, envOf, fnD, endD, List.map_cons, List.map_nil, List.replicate, List.cons_append, List.nil_append, Nat.reduceSub, asB_bl, decide_eq_true_eq, and_true, true_and, and_false, false_and, or_true, true_or, or_false, false_or, not_true_eq_false, not_false_eq_true, m__law_roll, ix_ref h, atI3_0, atI3_1, atI3_2, h, ixN3_0, fMod_ii _ _ _ h1, hd, ha]
  · rw [if_neg hc]
    have hc2 : ¬ c = 2 := fun e => hc (.inl e)
    have mA : cMul a 48271 = true := cMul_r (by decide) (by decide)
    have mB : cMul b 69621 = true := cMul_r (by decide) (by decide)
    by_cases hc1 : c = 1
    · have ha : ¬ a > 0 := fun e => hc (.inr ⟨hc1, e⟩)
      subst hc1
      simp (config := { decide := true, failIfUnchanged := false }) only [gSeq, gNx, gBk, gCt, gIfS, gRet, gRetN, gExpr, gSet, gOwn, ggName, ggNil, ggCons, ggTup, gAsg, gPar, gFrz, gApp, gExt, gAug, loopS, gRaise, bindS, gC, gVar, gBor, gBin, gUn, asB, gtV, gV, gtNot, gtAnd, gtOr, gIf, gtChain, gaNil, gaCons, gTup, gLst, gCB, f1, f2, gCall, gArgs, gMeth, gMakeF, gLim, gLstN, gNewM, gSlT, gSlL, gpN, gpS, gFldS, gIxS, gIxO, gPar3, gParO, gParQ, RE.bind, opt, frzE, nx, gtYes, gIt, asL_lst, asT_tup, wipeE, cInt_i, cInt_b, fAdd_ii, fSub_ii, fLt_ii, fLe_ii, fGt_ii, fGe_ii, fEq_ii, fNe_ii, List.getElem?_cons_zero, List.getElem?_cons_succ, List.length_cons, List.length_nil, List.set_cons_zero, List.set_cons_succ, Option.bind_some, Option.map_some, Option.bind_none, if_true, if_false, Bool.not_true, Bool.not_false, reduceIte, Nat.reduceAdd, Nat.reduceEqDiff, lim, Nat.ble_eq, envOf, fnD, endD, List.map_cons, List.map_nil, List.replicate, List.cons_append, List.nil_append, Nat.reduceSub, asB_bl, decide_eq_true_eq, and_true, true_and, and_false, false_and, or_true, true_or, or_false, false_or, not_true_eq_false, not_false_eq_true, m__law_roll, ix_ref h, atI3_0, atI3_1, atI3_2, h, ixN3_0, ixN3_1, ixN3_2, fMod_ii _ _ _ h1, ha, h2, List.getElem?_set_self hi, List.set_set, fMul_ii _ _ _ mA, fMul_ii _ _ _ mB, ix_set hi, show ¬ many > 100000000 from by omega, fMod_ii _ _ _ (show (0 : Int) < 2147483647 by decide), fDiv_ii _ _ _ (show (0 : Int) < 7 by decide) (by decide)]
    · simp (config := { decide := true, failIfUnchanged := false }) only [gSeq, gNx, gBk, gCt, gIfS, gRet, gRetN, gExpr, gSet, gOwn, ggName, ggNil, ggCons, ggTup, gAsg, gPar, gFrz, gApp, gExt, gAug, loopS, gRaise, bindS, gC, gVar, gBor, gBin, gUn, asB, gtV, gV, gtNot, gtAnd, gtOr, gIf, gtChain, gaNil, gaCons, gTup, gLst, gCB, f1, f2, gCall, gArgs, gMeth, gMakeF, gLim, gLstN, gNewM, gSlT, gSlL, gpN, gpS, gFldS, gIxS, gIxO, gPar3, gParO, gParQ, RE.bind, opt, frzE, nx, gtYes, gIt, asL_lst, asT_tup, wipeE, cInt_i, cInt_b, fAdd_ii, fSub_ii, fLt_ii, fLe_ii, fGt_ii, fGe_ii, fEq_ii, fNe_ii, List.getElem?_cons_zero, List.getElem?_cons_succ, List.length_cons, List.length_nil, List.set_cons_zero, List.set_cons_succ, Option.bind_some, Option.map_some, Option.bind_none, if_true, if_false, Bool.not_true, Bool.not_false, reduceIte, Nat.reduceAdd, Nat.reduceEqDiff, lim, Nat.ble_eq, envOf, fnD, endD, List.map_cons, List.map_nil, List.replicate, List.cons_append, List.nil_append, Nat.reduceSub, asB_bl, decide_eq_true_eq, and_true, true_and, and_false, false_and, or_true, true_or, or_false, false_or, not_true_eq_false, not_false_eq_true, m__law_roll, ix_ref h, atI3_0, atI3_1, atI3_2, h, ixN3_0, ixN3_1, ixN3_2, fMod_ii _ _ _ h1, hc1, hc2, h2, List.getElem?_set_self hi, List.set_set, fMul_ii _ _ _ mA, fMul_ii _ _ _ mB, ix_set hi, show ¬ many > 100000000 from by omega, fMod_ii _ _ _ (show (0 : Int) < 2147483647 by decide), fDiv_ii _ _ _ (show (0 : Int) < 7 by decide) (by decide)]
end K01
/-! P3: the lowest terms, the rounds. -/
namespace K01
open PySem PySem.Spec DL
abbrev tLeast : GT := gtV (gBin fNe (gBor 3) (gC (.int 0)))
abbrev bLeast : GS := gSeq (gPar 2 3 (gVar 3) (gBin fMod (gBor 2) (gBor 3))) (gNx)
theorem least_loop (a b : Int) (m : List MO) : ∀ (n x y : Nat), y < n → whileN tLeast bLeast n [.val (.int a), .val (.int b), .val (.int (x : Int)), .val (.int (y : Int))] m = .ok .nx [.val (.int a), .val (.int b), .val (.int (Nat.gcd x y : Int)), .val (.int 0)] m
  | 0, _, _, h => absurd h (Nat.not_lt_zero _)
  | n + 1, x, y, h => by
    rw [whileN]
    by_cases hy : y = 0
    · subst hy
      simp (config := { decide := true, failIfUnchanged := false }) only [gSeq, gNx, gBk, gCt, gIfS, gRet, gRetN, gExpr, gSet, gOwn, ggName, ggNil, ggCons, ggTup, gAsg, gPar, gFrz, gApp, gExt, gAug, loopS, gRaise, bindS, gC, gVar, gBor, gBin, gUn, asB, gtV, gV, gtNot, gtAnd, gtOr, gIf, gtChain, gaNil, gaCons, gTup, gLst, gCB, f1, f2, gCall, gArgs, gMeth, gMakeF, gLim, gLstN, gNewM, gSlT, gSlL, gpN, gpS, gFldS, gIxS, gIxO, gPar3, gParO, gParQ, RE.bind, opt, frzE, nx, gtYes, gIt, asL_lst, asT_tup, wipeE, cInt_i, cInt_b, fAdd_ii, fSub_ii, fLt_ii, fLe_ii, fGt_ii, fGe_ii, fEq_ii, fNe_ii, List.getElem?_cons_zero, List.getElem?_cons_succ, List.length_cons, List.length_nil, List.set_cons_zero, List.set_cons_succ, Option.bind_some, Option.map_some, Option.bind_none, if_true, if_false, Bool.not_true, Bool.not_false, reduceIte, Nat.reduceAdd, Nat.reduceEqDiff, lim, Nat.ble_eq, envOf, fnD, endD, List.map_cons, List.map_nil, List.replicate, List.cons_append, List.nil_append, Nat.reduceSub, asB_bl, decide_eq_true_eq, and_true, true_and, and_false, false_and, or_true, true_or, or_false, false_or, not_true_eq_false, not_false_eq_true, Nat.gcd_zero_right, Int.ofNat_zero, Int.cast_ofNat_Int]
    · have hy2 : ¬ (y : Int) = 0 := by omega
      have hy3 : (0 : Int) < y := by omega
      have e : ((x : Int) % (y : Int)) = ((x % y : Nat) : Int) := (Int.natCast_emod x y).symm
      simp (config := { decide := true, failIfUnchanged := false }) only [gSeq, gNx, gBk, gCt, gIfS, gRet, gRetN, gExpr, gSet, gOwn, ggName, ggNil, ggCons, ggTup, gAsg, gPar, gFrz, gApp, gExt, gAug, loopS, gRaise, bindS, gC, gVar, gBor, gBin, gUn, asB, gtV, gV, gtNot, gtAnd, gtOr, gIf, gtChain, gaNil, gaCons, gTup, gLst, gCB, f1, f2, gCall, gArgs, gMeth, gMakeF, gLim, gLstN, gNewM, gSlT, gSlL, gpN, gpS, gFldS, gIxS, gIxO, gPar3, gParO, gParQ, RE.bind, opt, frzE, nx, gtYes, gIt, asL_lst, asT_tup, wipeE, cInt_i, cInt_b, fAdd_ii, fSub_ii, fLt_ii, fLe_ii, fGt_ii, fGe_ii, fEq_ii, fNe_ii, List.getElem?_cons_zero, List.getElem?_cons_succ, List.length_cons, List.length_nil, List.set_cons_zero, List.set_cons_succ, Option.bind_some, Option.map_some, Option.bind_none, if_true, if_false, Bool.not_true, Bool.not_false, reduceIte, Nat.reduceAdd, Nat.reduceEqDiff, lim, Nat.ble_eq, envOf, fnD, endD, List.map_cons, List.map_nil, List.replicate, List.cons_append, List.nil_append, Nat.reduceSub, asB_bl, decide_eq_true_eq, and_true, true_and, and_false, false_and, or_true, true_or, or_false, false_or, not_true_eq_false, not_false_eq_true, hy2, fMod_ii _ _ _ hy3, e]
      rw [least_loop a b m n y (x % y) (by have := Nat.mod_lt x (Nat.pos_of_ne_zero hy); omega)]
      rw [Nat.gcd_comm x y, Nat.gcd_rec y x, Nat.gcd_comm y (x % y)]
theorem p_least (a b : Int) (m : List MO) (h0 : 0 ≤ a) (h1 : 0 < b) (h2 : b < 2 ^ 64) : fnD 4 2 m_least [.int a, .int b] m = .ok (.tup [.int (a / (Int.gcd a b : Int)), .int (b / (Int.gcd a b : Int))]) m := by
  obtain ⟨x, rfl⟩ := Int.eq_ofNat_of_zero_le h0
  obtain ⟨y, rfl⟩ := Int.eq_ofNat_of_zero_le (Int.le_of_lt h1)
  have hl := least_loop x y m (y + 1) x y (Nat.lt_succ_self y)
  have hg : Int.gcd (x : Int) (y : Int) = Nat.gcd x y := rfl
  have g1 : (0 : Int) < (Nat.gcd x y : Int) := by
    have : 0 < Nat.gcd x y := Nat.gcd_pos_of_pos_right _ (by omega)
    omega
  have g2 : (Nat.gcd x y : Int) < 2 ^ 64 := by
    have : Nat.gcd x y ≤ y := Nat.gcd_le_right _ (by omega)
    omega
  rw [hg]
  simp (config := { decide := true, failIfUnchanged := false }) only [gSeq, gNx, gBk, gCt, gIfS, gRet, gRetN, gExpr, gSet, gOwn, ggName, ggNil, ggCons, ggTup, gAsg, gPar, gFrz, gApp, gExt, gAug, loopS, gRaise, bindS, gC, gVar, gBor, gBin, gUn, asB, gtV, gV, gtNot, gtAnd, gtOr, gIf, gtChain, gaNil, gaCons, gTup, gLst, gCB, f1, f2, gCall, gArgs, gMeth, gMakeF, gLim, gLstN, gNewM, gSlT, gSlL, gpN, gpS, gFldS, gIxS, gIxO, gPar3, gParO, gParQ, RE.bind, opt, frzE, nx, gtYes, gIt, asL_lst, asT_tup, wipeE, cInt_i, cInt_b, fAdd_ii, fSub_ii, fLt_ii, fLe_ii, fGt_ii, fGe_ii, fEq_ii, fNe_ii, List.getElem?_cons_zero, List.getElem?_cons_succ, List.length_cons, List.length_nil, List.set_cons_zero, List.set_cons_succ, Option.bind_some, Option.map_some, Option.bind_none, if_true, if_false, Bool.not_true, Bool.not_false, reduceIte, Nat.reduceAdd, Nat.reduceEqDiff, lim, Nat.ble_eq, envOf, fnD, endD, List.map_cons, List.map_nil, List.replicate, List.cons_append, List.nil_append, Nat.reduceSub, asB_bl, decide_eq_true_eq, and_true, true_and, and_false, false_and, or_true, true_or, or_false, false_or, not_true_eq_false, not_false_eq_true, m_least, gWhile, fuel2, Int.natAbs_natCast]
  rw [hl]
  simp (config := { decide := true, failIfUnchanged := false }) only [gSeq, gNx, gBk, gCt, gIfS, gRet, gRetN, gExpr, gSet, gOwn, ggName, ggNil, ggCons, ggTup, gAsg, gPar, gFrz, gApp, gExt, gAug, loopS, gRaise, bindS, gC, gVar, gBor, gBin, gUn, asB, gtV, gV, gtNot, gtAnd, gtOr, gIf, gtChain, gaNil, gaCons, gTup, gLst, gCB, f1, f2, gCall, gArgs, gMeth, gMakeF, gLim, gLstN, gNewM, gSlT, gSlL, gpN, gpS, gFldS, gIxS, gIxO, gPar3, gParO, gParQ, RE.bind, opt, frzE, nx, gtYes, gIt, asL_lst, asT_tup, wipeE, cInt_i, cInt_b, fAdd_ii, fSub_ii, fLt_ii, fLe_ii, fGt_ii, fGe_ii, fEq_ii, fNe_ii, List.getElem?_cons_zero, List.getElem?_cons_succ, List.length_cons, List.length_nil, List.set_cons_zero, List.set_cons_succ, Option.bind_some, Option.map_some, Option.bind_none, if_true, if_false, Bool.not_true, Bool.not_false, reduceIte, Nat.reduceAdd, Nat.reduceEqDiff, lim, Nat.ble_eq, envOf, fnD, endD, List.map_cons, List.map_nil, List.replicate, List.cons_append, List.nil_append, Nat.reduceSub, asB_bl, decide_eq_true_eq, and_true, true_and, and_false, false_and, or_true, true_or, or_false, false_or, not_true_eq_false, not_false_eq_true, fDiv_ii _ _ _ g1 g2]
theorem p_rounds (c : Int) (xs : List DL.D) (m : List MO) : fnD 4 2 m__law_rounds [.slst (.int c :: xs), .int 1] m = .ok (.lst [.ref m.length]) (m ++ [.lst (diceL c)]) := by
  have e : cutD (.int c :: xs) none (some 1) = [DL.D.int c] := by
    show (List.take _ (.int c :: xs)) = _
    rw [show HT.sIx (DL.D.int c :: xs).length (DL.D.int c :: xs).length (some 1) = min 1 (xs.length + 1) from HT.sIx_nat _ _ 1]
    rw [show min 1 (xs.length + 1) - HT.sIx (DL.D.int c :: xs).length 0 none = 1 from by show min 1 (xs.length + 1) - 0 = 1; omega]
    rfl
  have e2 : fEq m (.lst [.int c]) (.lst []) = some (.bl false) := rfl
  simp (config := { decide := true, failIfUnchanged := false }) only [gSeq, gNx, gBk, gCt, gIfS, gRet, gRetN, gExpr, gSet, gOwn, ggName, ggNil, ggCons, ggTup, gAsg, gPar, gFrz, gApp, gExt, gAug, loopS, gRaise, bindS, gC, gVar, gBor, gBin, gUn, asB, gtV, gV, gtNot, gtAnd, gtOr, gIf, gtChain, gaNil, gaCons, gTup, gLst, gCB, f1, f2, gCall, gArgs, gMeth, gMakeF, gLim, gLstN, gNewM, gSlT, gSlL, gpN, gpS, gFldS, gIxS, gIxO, gPar3, gParO, gParQ, RE.bind, opt, frzE, nx, gtYes, gIt, asL_lst, asT_tup, wipeE, cInt_i, cInt_b, fAdd_ii, fSub_ii, fLt_ii, fLe_ii, fGt_ii, fGe_ii, fEq_ii, fNe_ii, List.getElem?_cons_zero, List.getElem?_cons_succ, List.length_cons, List.length_nil, List.set_cons_zero, List.set_cons_succ, Option.bind_some, Option.map_some, Option.bind_none, if_true, if_false, Bool.not_true, Bool.not_false, reduceIte, Nat.reduceAdd, Nat.reduceEqDiff, lim, Nat.ble_eq, envOf, fnD, endD, List.map_cons, List.map_nil, List.replicate, List.cons_append, List.nil_append, Nat.reduceSub, asB_bl, decide_eq_true_eq, and_true, true_and, and_false, false_and, or_true, true_or, or_false, false_or, not_true_eq_false, not_false_eq_true, m__law_rounds, slOf, e, e2, gComp, compD, S_dice]
theorem p_rounds0 (m : List MO) : fnD 4 2 m__law_rounds [.slst [], .int 1] m = .ok (.lst [.ref m.length]) (m ++ [.lst (diceL 0)]) := by
  have e : cutD [] none (some 1) = [] := rfl
  have e2 : fEq m (.lst []) (.lst []) = some (.bl true) := rfl
  simp (config := { decide := true, failIfUnchanged := false }) only [gSeq, gNx, gBk, gCt, gIfS, gRet, gRetN, gExpr, gSet, gOwn, ggName, ggNil, ggCons, ggTup, gAsg, gPar, gFrz, gApp, gExt, gAug, loopS, gRaise, bindS, gC, gVar, gBor, gBin, gUn, asB, gtV, gV, gtNot, gtAnd, gtOr, gIf, gtChain, gaNil, gaCons, gTup, gLst, gCB, f1, f2, gCall, gArgs, gMeth, gMakeF, gLim, gLstN, gNewM, gSlT, gSlL, gpN, gpS, gFldS, gIxS, gIxO, gPar3, gParO, gParQ, RE.bind, opt, frzE, nx, gtYes, gIt, asL_lst, asT_tup, wipeE, cInt_i, cInt_b, fAdd_ii, fSub_ii, fLt_ii, fLe_ii, fGt_ii, fGe_ii, fEq_ii, fNe_ii, List.getElem?_cons_zero, List.getElem?_cons_succ, List.length_cons, List.length_nil, List.set_cons_zero, List.set_cons_succ, Option.bind_some, Option.map_some, Option.bind_none, if_true, if_false, Bool.not_true, Bool.not_false, reduceIte, Nat.reduceAdd, Nat.reduceEqDiff, lim, Nat.ble_eq, envOf, fnD, endD, List.map_cons, List.map_nil, List.replicate, List.cons_append, List.nil_append, Nat.reduceSub, asB_bl, decide_eq_true_eq, and_true, true_and, and_false, false_and, or_true, true_or, or_false, false_or, not_true_eq_false, not_false_eq_true, m__law_rounds, slOf, e, e2, gComp, compD, S_dice]
end K01
/-! P4: what is melted. -/
namespace K01
open PySem PySem.Spec DL
theorem mapO_length {α β : Type} {f : α → Option β} : ∀ {xs : List α} {ys : List β}, mapO f xs = some ys → xs.length = ys.length
  | [], _, h => by cases h; rfl
  | x :: xs, _, h => by
    obtain ⟨y, ys, h1, h2, rfl⟩ := mapO_cons h
    rw [List.length_cons, List.length_cons, mapO_length h2]
theorem sumW_w (e0 : DL.Slot) (m : List MO) : ∀ {bs : List DL.D} {ps : List (Int × Int)} (e1 : DL.Slot) (acc : Int), mapO barOf bs = some ps → sumW (ggName 1) (gUn (fldD "weight") (gBor 1)) bs [e0, e1] m acc = .ok (.int (acc + (ps.map (·.1)).sum)) m
  | [], _, e1, acc, h => by
    cases h
    rw [sumW, List.map_nil, List.sum_nil, Int.add_zero]
  | b :: bs, _, e1, acc, h => by
    obtain ⟨p, ps, h1, h2, rfl⟩ := mapO_cons h
    rw [barOf_ok (w := p.1) (f := p.2) h1]
    rw [sumW]
    simp (config := { decide := true, failIfUnchanged := false }) only [gSeq, gNx, gBk, gCt, gIfS, gRet, gRetN, gExpr, gSet, gOwn, ggName, ggNil, ggCons, ggTup, gAsg, gPar, gFrz, gApp, gExt, gAug, loopS, gRaise, bindS, gC, gVar, gBor, gBin, gUn, asB, gtV, gV, gtNot, gtAnd, gtOr, gIf, gtChain, gaNil, gaCons, gTup, gLst, gCB, f1, f2, gCall, gArgs, gMeth, gMakeF, gLim, gLstN, gNewM, gSlT, gSlL, gpN, gpS, gFldS, gIxS, gIxO, gPar3, gParO, gParQ, RE.bind, opt, frzE, nx, gtYes, gIt, asL_lst, asT_tup, wipeE, cInt_i, cInt_b, fAdd_ii, fSub_ii, fLt_ii, fLe_ii, fGt_ii, fGe_ii, fEq_ii, fNe_ii, List.getElem?_cons_zero, List.getElem?_cons_succ, List.length_cons, List.length_nil, List.set_cons_zero, List.set_cons_succ, Option.bind_some, Option.map_some, Option.bind_none, if_true, if_false, Bool.not_true, Bool.not_false, reduceIte, Nat.reduceAdd, Nat.reduceEqDiff, lim, Nat.ble_eq, envOf, fnD, endD, List.map_cons, List.map_nil, List.replicate, List.cons_append, List.nil_append, Nat.reduceSub, asB_bl, decide_eq_true_eq, and_true, true_and, and_false, false_and, or_true, true_or, or_false, false_or, not_true_eq_false, not_false_eq_true, bar_w, sumW_w e0 m e1 _ h2, List.sum_cons, Int.add_assoc]
theorem sumW_f (e0 : DL.Slot) (m : List MO) : ∀ {bs : List DL.D} {ps : List (Int × Int)} (e1 : DL.Slot) (acc : Int), mapO barOf bs = some ps → sumW (ggName 1) (gUn (fldD "fine") (gBor 1)) bs [e0, e1] m acc = .ok (.int (acc + (ps.map (·.2)).sum)) m
  | [], _, e1, acc, h => by
    cases h
    rw [sumW, List.map_nil, List.sum_nil, Int.add_zero]
  | b :: bs, _, e1, acc, h => by
    obtain ⟨p, ps, h1, h2, rfl⟩ := mapO_cons h
    rw [barOf_ok (w := p.1) (f := p.2) h1]
    rw [sumW]
    simp (config := { decide := true, failIfUnchanged := false }) only [gSeq, gNx, gBk, gCt, gIfS, gRet, gRetN, gExpr, gSet, gOwn, ggName, ggNil, ggCons, ggTup, gAsg, gPar, gFrz, gApp, gExt, gAug, loopS, gRaise, bindS, gC, gVar, gBor, gBin, gUn, asB, gtV, gV, gtNot, gtAnd, gtOr, gIf, gtChain, gaNil, gaCons, gTup, gLst, gCB, f1, f2, gCall, gArgs, gMeth, gMakeF, gLim, gLstN, gNewM, gSlT, gSlL, gpN, gpS, gFldS, gIxS, gIxO, gPar3, gParO, gParQ, RE.bind, opt, frzE, nx, gtYes, gIt, asL_lst, asT_tup, wipeE, cInt_i, cInt_b, fAdd_ii, fSub_ii, fLt_ii, fLe_ii, fGt_ii, fGe_ii, fEq_ii, fNe_ii, List.getElem?_cons_zero, List.getElem?_cons_succ, List.length_cons, List.length_nil, List.set_cons_zero, List.set_cons_succ, Option.bind_some, Option.map_some, Option.bind_none, if_true, if_false, Bool.not_true, Bool.not_false, reduceIte, Nat.reduceAdd, Nat.reduceEqDiff, lim, Nat.ble_eq, envOf, fnD, endD, List.map_cons, List.map_nil, List.replicate, List.cons_append, List.nil_append, Nat.reduceSub, asB_bl, decide_eq_true_eq, and_true, true_and, and_false, false_and, or_true, true_or, or_false, false_or, not_true_eq_false, not_false_eq_true, bar_f, sumW_f e0 m e1 _ h2, List.sum_cons, Int.add_assoc]
theorem sums_ok : ∀ {ps : List (Int × Int)}, (∀ p ∈ ps, okBar p.1 p.2) → 0 ≤ (ps.map (·.2)).sum ∧ (ps.map (·.2)).sum ≤ (ps.map (·.1)).sum ∧ (ps.length : Int) ≤ (ps.map (·.1)).sum
  | [], _ => by simp
  | p :: ps, h => by
    obtain ⟨a1, a2, a3⟩ := sums_ok (ps := ps) fun q hq => h q (List.mem_cons_of_mem _ hq)
    obtain ⟨b1, b2, b3, b4⟩ := h p List.mem_cons_self
    simp only [List.map_cons, List.sum_cons, List.length_cons]
    omega
theorem p_melted (bs : List DL.D) (ps : List (Int × Int)) (m : List MO) (h : mapO barOf bs = some ps) (hk : ∀ p ∈ ps, okBar p.1 p.2) :
    fnD 2 1 m_melted [.lst bs] m = if ps = [] then .ex "MetalError" m else if (ps.map (·.1)).sum ≤ 1000000 then .ok (bar (ps.map (·.1)).sum (ps.map (·.2)).sum) m else .ex "MetalError" m := by
  have hl : cLen m (.lst bs) = some (.int ps.length) := by
    show some (DL.D.int bs.length) = _
    rw [mapO_length h]
  obtain ⟨a1, a2, a3⟩ := sums_ok hk
  cases ps with
  | nil =>
    simp (config := { decide := true, failIfUnchanged := false }) only [gSeq, gNx, gBk, gCt, gIfS, gRet, gRetN, gExpr, gSet, gOwn, ggName, ggNil, ggCons, ggTup, gAsg, gPar, gFrz, gApp, gExt, gAug, loopS, gRaise, bindS, gC, gVar, gBor, gBin, gUn, asB, gtV, gV, gtNot, gtAnd, gtOr, gIf, gtChain, gaNil, gaCons, gTup, gLst, gCB, f1, f2, gCall, gArgs, gMeth, gMakeF, gLim, gLstN, gNewM, gSlT, gSlL, gpN, gpS, gFldS, gIxS, gIxO, gPar3, gParO, gParQ, RE.bind, opt, frzE, nx, gtYes, gIt, asL_lst, asT_tup, wipeE, cInt_i, cInt_b, fAdd_ii, fSub_ii, fLt_ii, fLe_ii, fGt_ii, fGe_ii, fEq_ii, fNe_ii, List.getElem?_cons_zero, List.getElem?_cons_succ, List.length_cons, List.length_nil, List.set_cons_zero, List.set_cons_succ, Option.bind_some, Option.map_some, Option.bind_none, if_true, if_false, Bool.not_true, Bool.not_false, reduceIte, Nat.reduceAdd, Nat.reduceEqDiff, lim, Nat.ble_eq, envOf, fnD, endD, List.map_cons, List.map_nil, List.replicate, List.cons_append, List.nil_append, Nat.reduceSub, asB_bl, decide_eq_true_eq, and_true, true_and, and_false, false_and, or_true, true_or, or_false, false_or, not_true_eq_false, not_false_eq_true, m_melted, hl, Int.ofNat_zero, Int.cast_ofNat_Int]
  | cons p ps =>
    have hne : ¬ ((p :: ps).length : Int) = 0 := by simp only [List.length_cons]; omega
    have hnn : ¬ (p :: ps = []) := fun z => by cases z
    rw [if_neg hnn]
    generalize hp : p :: ps = qs at *
    have c1 : 1 ≤ (qs.map (·.1)).sum := by omega
    by_cases hs : (qs.map (·.1)).sum ≤ 1000000
    · rw [if_pos hs]
      have ok : okBar (qs.map (·.1)).sum (qs.map (·.2)).sum := ⟨c1, hs, a1, a2⟩
      simp (config := { decide := true, failIfUnchanged := false }) only [gSeq, gNx, gBk, gCt, gIfS, gRet, gRetN, gExpr, gSet, gOwn, ggName, ggNil, ggCons, ggTup, gAsg, gPar, gFrz, gApp, gExt, gAug, loopS, gRaise, bindS, gC, gVar, gBor, gBin, gUn, asB, gtV, gV, gtNot, gtAnd, gtOr, gIf, gtChain, gaNil, gaCons, gTup, gLst, gCB, f1, f2, gCall, gArgs, gMeth, gMakeF, gLim, gLstN, gNewM, gSlT, gSlL, gpN, gpS, gFldS, gIxS, gIxO, gPar3, gParO, gParQ, RE.bind, opt, frzE, nx, gtYes, gIt, asL_lst, asT_tup, wipeE, cInt_i, cInt_b, fAdd_ii, fSub_ii, fLt_ii, fLe_ii, fGt_ii, fGe_ii, fEq_ii, fNe_ii, List.getElem?_cons_zero, List.getElem?_cons_succ, List.length_cons, List.length_nil, List.set_cons_zero, List.set_cons_succ, Option.bind_some, Option.map_some, Option.bind_none, if_true, if_false, Bool.not_true, Bool.not_false, reduceIte, Nat.reduceAdd, Nat.reduceEqDiff, lim, Nat.ble_eq, envOf, fnD, endD, List.map_cons, List.map_nil, List.replicate, List.cons_append, List.nil_append, Nat.reduceSub, asB_bl, decide_eq_true_eq, and_true, true_and, and_false, false_and, or_true, true_or, or_false, false_or, not_true_eq_false, not_false_eq_true, m_melted, hl, hne, gSumG, sumW_w _ m _ _ h, sumW_f _ m _ _ h, Int.zero_add, mk_ok ok, bar_fold]
    · rw [if_neg hs]
      have ok : ¬ okBar (qs.map (·.1)).sum (qs.map (·.2)).sum := fun z => hs z.2.1
      simp (config := { decide := true, failIfUnchanged := false }) only [gSeq, gNx, gBk, gCt, gIfS, gRet, gRetN, gExpr, gSet, gOwn, ggName, ggNil, ggCons, ggTup, gAsg, gPar, gFrz, gApp, gExt, gAug, loopS, gRaise, bindS, gC, gVar, gBor, gBin, gUn, asB, gtV, gV, gtNot, gtAnd, gtOr, gIf, gtChain, gaNil, gaCons, gTup, gLst, gCB, f1, f2, gCall, gArgs, gMeth, gMakeF, gLim, gLstN, gNewM, gSlT, gSlL, gpN, gpS, gFldS, gIxS, gIxO, gPar3, gParO, gParQ, RE.bind, opt, frzE, nx, gtYes, gIt, asL_lst, asT_tup, wipeE, cInt_i, cInt_b, fAdd_ii, fSub_ii, fLt_ii, fLe_ii, fGt_ii, fGe_ii, fEq_ii, fNe_ii, List.getElem?_cons_zero, List.getElem?_cons_succ, List.length_cons, List.length_nil, List.set_cons_zero, List.set_cons_succ, Option.bind_some, Option.map_some, Option.bind_none, if_true, if_false, Bool.not_true, Bool.not_false, reduceIte, Nat.reduceAdd, Nat.reduceEqDiff, lim, Nat.ble_eq, envOf, fnD, endD, List.map_cons, List.map_nil, List.replicate, List.cons_append, List.nil_append, Nat.reduceSub, asB_bl, decide_eq_true_eq, and_true, true_and, and_false, false_and, or_true, true_or, or_false, false_or, not_true_eq_false, not_false_eq_true, m_melted, hl, hne, gSumG, sumW_w _ m _ _ h, sumW_f _ m _ _ h, Int.zero_add, mk_ex ok]
end K01
/-! P5: the best melt. -/
namespace K01
open PySem PySem.Spec DL
theorem fAdd_tt (m : List MO) (a b : List DL.D) (h : a.length + b.length ≤ 1000000) : fAdd m (.tup a) (.tup b) = some (.tup (a ++ b)) := by
  have hz : lim (a.length + b.length) = true := Nat.ble_eq_true_of_le h
  simp [fAdd, orD, iiD, tupAdd, hz]
def rowD (row : List Nat) : DL.D := .tup (row.map fun (i : Nat) => .int (i : Int))
theorem setsN_length : ∀ n, (setsN n).length = 2 ^ n
  | 0 => rfl
  | n + 1 => by rw [setsN, List.length_append, List.length_map, setsN_length n, Nat.pow_succ]; omega
theorem setsN_mem : ∀ {n : Nat} {row : List Nat}, row ∈ setsN n → row.length ≤ n ∧ ∀ i ∈ row, i < n
  | 0, row, h => by
    rw [setsN, List.mem_singleton] at h
    subst h
    exact ⟨Nat.le_refl _, fun i hi => by simp at hi⟩
  | n + 1, row, h => by
    rw [setsN] at h
    rcases List.mem_append.mp h with h | h
    · obtain ⟨a, b⟩ := setsN_mem h
      exact ⟨by omega, fun i hi => by have := b i hi; omega⟩
    · obtain ⟨r, hr, rfl⟩ := List.mem_map.mp h
      obtain ⟨a, b⟩ := setsN_mem hr
      refine ⟨by rw [List.length_append]; simp; exact a, fun i hi => ?_⟩
      rcases List.mem_append.mp hi with hi | hi
      · have := b i hi
        omega
      · rw [List.mem_singleton.mp hi]
        omega
theorem nlL_rows : ∀ rows : List (List Nat), nlL (rows.map rowD) = true
  | [] => rfl
  | r :: rows => by
    have : ∀ l : List Nat, nlL (l.map fun (i : Nat) => DL.D.int (i : Int)) = true := fun l => by
      induction l with
      | nil => rfl
      | cons a l ih => rw [List.map_cons, nlL, ih]; rfl
    rw [List.map_cons, nlL, nlL_rows rows, rowD, nl, this]
    rfl
abbrev eRow : GE := gBin fAdd (gBor 7) (gTup (gaCons (gVar 6) (gaNil)))
theorem rows_comp (a0 a1 a2 a3 a4 a5 a8 a9 a10 : DL.Slot) (j : Nat) (m : List MO) : ∀ (rows : List (List Nat)) (a7 : DL.Slot), (∀ r ∈ rows, r.length ≤ 100) → compD (ggName 7) gtYes eRow (rows.map rowD) [a0, a1, a2, a3, a4, a5, .val (.int (j : Int)), a7, a8, a9, a10] m = .ok ((rows.map (· ++ [j])).map rowD) m
  | [], a7, h => by rw [List.map_nil, compD]; rfl
  | r :: rows, a7, h => by
    have hl : r.length ≤ 100 := h r List.mem_cons_self
    have e : fAdd m (rowD r) (.tup [.int (j : Int)]) = some (rowD (r ++ [j])) := by
      rw [rowD, fAdd_tt _ _ _ (by rw [List.length_map]; show r.length + 1 ≤ 1000000; omega), rowD, List.map_append]
      rfl
    rw [List.map_cons, compD]
    simp (config := { decide := true, failIfUnchanged := false }) only [gSeq, gNx, gBk, gCt, gIfS, gRet, gRetN, gExpr, gSet, gOwn, ggName, ggNil, ggCons, ggTup, gAsg, gPar, gFrz, gApp, gExt, gAug, loopS, gRaise, bindS, gC, gVar, gBor, gBin, gUn, asB, gtV, gV, gtNot, gtAnd, gtOr, gIf, gtChain, gaNil, gaCons, gTup, gLst, gCB, f1, f2, gCall, gArgs, gMeth, gMakeF, gLim, gLstN, gNewM, gSlT, gSlL, gpN, gpS, gFldS, gIxS, gIxO, gPar3, gParO, gParQ, RE.bind, opt, frzE, nx, gtYes, gIt, asL_lst, asT_tup, wipeE, cInt_i, cInt_b, fAdd_ii, fSub_ii, fLt_ii, fLe_ii, fGt_ii, fGe_ii, fEq_ii, fNe_ii, List.getElem?_cons_zero, List.getElem?_cons_succ, List.length_cons, List.length_nil, List.set_cons_zero, List.set_cons_succ, Option.bind_some, Option.map_some, Option.bind_none, if_true, if_false, Bool.not_true, Bool.not_false, reduceIte, Nat.reduceAdd, Nat.reduceEqDiff, lim, Nat.ble_eq, envOf, fnD, endD, List.map_cons, List.map_nil, List.replicate, List.cons_append, List.nil_append, Nat.reduceSub, asB_bl, decide_eq_true_eq, and_true, true_and, and_false, false_and, or_true, true_or, or_false, false_or, not_true_eq_false, not_false_eq_true, e, rows_comp a0 a1 a2 a3 a4 a5 a8 a9 a10 j m rows _ fun q hq => h q (List.mem_cons_of_mem _ hq)]
abbrev bSets : GS := gSeq (gExt 4 (gLstN (gThaw nlL 4 (gComp [7] (gIt asL (gVar 4)) (ggName 7) (gtYes) (gBin fAdd (gBor 7) (gTup (gaCons (gVar 6) (gaNil)))))))) (gNx)
theorem sets_step (a0 a1 a2 a3 a5 a7 a8 a9 a10 : DL.Slot) (j : Nat) (hj : j < 10) (m : List MO) (hm : m.all nlM = true) :
    bSets [a0, a1, a2, a3, .own ((setsN j).map rowD), a5, .val (.int (j : Int)), a7, a8, a9, a10] m = .ok .nx [a0, a1, a2, a3, .own ((setsN (j + 1)).map rowD), a5, .val (.int (j : Int)), a7, a8, a9, a10] m := by
  have h1 : 2 ^ j ≤ 2 ^ 10 := Nat.pow_le_pow_right (by decide) (by omega)
  have h2 : 2 ^ j ≤ 1000000 := Nat.le_trans h1 (by decide)
  have h3 : 2 ^ j + 2 ^ j ≤ 1000000 := Nat.le_trans (Nat.add_le_add h1 h1) (by decide)
  have hr : ∀ r ∈ setsN j, r.length ≤ 100 := fun r hr => by
    have := (setsN_mem hr).1
    omega
  simp (config := { decide := true, failIfUnchanged := false }) only [gSeq, gNx, gBk, gCt, gIfS, gRet, gRetN, gExpr, gSet, gOwn, ggName, ggNil, ggCons, ggTup, gAsg, gPar, gFrz, gApp, gExt, gAug, loopS, gRaise, bindS, gC, gVar, gBor, gBin, gUn, asB, gtV, gV, gtNot, gtAnd, gtOr, gIf, gtChain, gaNil, gaCons, gTup, gLst, gCB, f1, f2, gCall, gArgs, gMeth, gMakeF, gLim, gLstN, gNewM, gSlT, gSlL, gpN, gpS, gFldS, gIxS, gIxO, gPar3, gParO, gParQ, RE.bind, opt, frzE, nx, gtYes, gIt, asL_lst, asT_tup, wipeE, cInt_i, cInt_b, fAdd_ii, fSub_ii, fLt_ii, fLe_ii, fGt_ii, fGe_ii, fEq_ii, fNe_ii, List.getElem?_cons_zero, List.getElem?_cons_succ, List.length_cons, List.length_nil, List.set_cons_zero, List.set_cons_succ, Option.bind_some, Option.map_some, Option.bind_none, if_true, if_false, Bool.not_true, Bool.not_false, reduceIte, Nat.reduceAdd, Nat.reduceEqDiff, lim, Nat.ble_eq, envOf, fnD, endD, List.map_cons, List.map_nil, List.replicate, List.cons_append, List.nil_append, Nat.reduceSub, asB_bl, decide_eq_true_eq, and_true, true_and, and_false, false_and, or_true, true_or, or_false, false_or, not_true_eq_false, not_false_eq_true, gThaw, thawR, gComp, List.length_map, setsN_length, h2, h3, rows_comp _ _ _ _ _ _ _ _ _ j m (setsN j) _ hr, nlL_rows, hm, Bool.and_self, lstOf, ← List.map_append]
  rfl
theorem sets_loop (a0 a1 a2 a3 a5 a7 a8 a9 a10 : DL.Slot) (m : List MO) (hm : m.all nlM = true) : ∀ (k j : Nat) (a6 : DL.Slot), j + k ≤ 10 → ∃ b6, forD (ggName 6) bSets ((List.range' j k).map fun (i : Nat) => DL.D.int (i : Int)) [a0, a1, a2, a3, .own ((setsN j).map rowD), a5, a6, a7, a8, a9, a10] m = .ok .nx [a0, a1, a2, a3, .own ((setsN (j + k)).map rowD), a5, b6, a7, a8, a9, a10] m
  | 0, j, a6, _ => ⟨a6, rfl⟩
  | k + 1, j, a6, h => by
    obtain ⟨b6, e⟩ := sets_loop a0 a1 a2 a3 a5 a7 a8 a9 a10 m hm k (j + 1) (.val (.int (j : Int))) (by omega)
    refine ⟨b6, ?_⟩
    rw [List.range'_succ, List.map_cons, forD]
    show loopS (bSets [a0, a1, a2, a3, .own ((setsN j).map rowD), a5, .val (.int (j : Int)), a7, a8, a9, a10] m) _ = _
    rw [sets_step a0 a1 a2 a3 a5 a7 a8 a9 a10 j (by omega) m hm]
    show forD (ggName 6) bSets _ _ m = _
    rw [e, show j + 1 + k = j + (k + 1) from by omega]
end K01
/-! P6: the best melt: sums, candidates. -/
namespace K01
open PySem PySem.Spec DL
theorem mapO_at {bs : List DL.D} {ps : List (Int × Int)} (h : mapO barOf bs = some ps) {i : Nat} (hi : i < ps.length) : bs[i]? = some (bar (ps.getD i (0, 0)).1 (ps.getD i (0, 0)).2) := by
  have hl := mapO_length h
  have hb : bs[i]? = some (bs[i]'(by omega)) := by simp [show i < bs.length by omega]
  obtain ⟨y, h1, h2⟩ := mapO_get h hb
  rw [hb, barOf_ok (w := y.1) (f := y.2) h2]
  have : ps.getD i (0, 0) = y := by
    rw [List.getD_eq_getElem?_getD, h1]
    rfl
  rw [this]
theorem ix_lst (m : List MO) (bs : List DL.D) (i : Nat) {d : DL.D} (h : bs[i]? = some d) : fIx m (.lst bs) (.int (i : Int)) = some d := by
  show (some bs).bind (fun xs => L2.atI xs (i : Int)) = _
  exact L2.atI_nat h
theorem sumP_w {bs : List DL.D} {ps : List (Int × Int)} (h : mapO barOf bs = some ps) (a1 a2 a3 a4 a5 a7 a8 a9 a10 : DL.Slot) (m : List MO) : ∀ (row : List Nat) (a6 : DL.Slot) (acc : Int), (∀ i ∈ row, i < ps.length) →
    sumW (ggName 6) (gUn (fldD "weight") (gBin fIx (gBor 0) (gBor 6))) (row.map fun (i : Nat) => .int (i : Int)) [.val (.lst bs), a1, a2, a3, a4, a5, a6, a7, a8, a9, a10] m acc = .ok (.int (acc + sumAt (·.1) ps row)) m
  | [], _, acc, _ => by
    rw [List.map_nil, sumW, sumAt, List.map_nil, List.sum_nil, Int.add_zero]
  | i :: row, a6, acc, hr => by
    have e := ix_lst m bs i (mapO_at h (hr i List.mem_cons_self))
    rw [List.map_cons, sumW]
    simp (config := { decide := true, failIfUnchanged := false }) only [gSeq, gNx, gBk, gCt, gIfS, gRet, gRetN, gExpr, gSet, gOwn, ggName, ggNil, ggCons, ggTup, gAsg, gPar, gFrz, gApp, gExt, gAug, loopS, gRaise, bindS, gC, gVar, gBor, gBin, gUn, asB, gtV, gV, gtNot, gtAnd, gtOr, gIf, gtChain, gaNil, gaCons, gTup, gLst, gCB, f1, f2, gCall, gArgs, gMeth, gMakeF, gLim, gLstN, gNewM, gSlT, gSlL, gpN, gpS, gFldS, gIxS, gIxO, gPar3, gParO, gParQ, RE.bind, opt, frzE, nx, gtYes, gIt, asL_lst, asT_tup, wipeE, cInt_i, cInt_b, fAdd_ii, fSub_ii, fLt_ii, fLe_ii, fGt_ii, fGe_ii, fEq_ii, fNe_ii, List.getElem?_cons_zero, List.getElem?_cons_succ, List.length_cons, List.length_nil, List.set_cons_zero, List.set_cons_succ, Option.bind_some, Option.map_some, Option.bind_none, if_true, if_false, Bool.not_true, Bool.not_false, reduceIte, Nat.reduceAdd, Nat.reduceEqDiff, lim, Nat.ble_eq, envOf, fnD, endD, List.map_cons, List.map_nil, List.replicate, List.cons_append, List.nil_append, Nat.reduceSub, asB_bl, decide_eq_true_eq, and_true, true_and, and_false, false_and, or_true, true_or, or_false, false_or, not_true_eq_false, not_false_eq_true, e, bar_w, sumP_w h a1 a2 a3 a4 a5 a7 a8 a9 a10 m row _ _ fun q hq => hr q (List.mem_cons_of_mem _ hq), sumAt, List.sum_cons, Int.add_assoc]
theorem sumP_f {bs : List DL.D} {ps : List (Int × Int)} (h : mapO barOf bs = some ps) (a1 a2 a3 a4 a5 a7 a8 a9 a10 : DL.Slot) (m : List MO) : ∀ (row : List Nat) (a6 : DL.Slot) (acc : Int), (∀ i ∈ row, i < ps.length) →
    sumW (ggName 6) (gUn (fldD "fine") (gBin fIx (gBor 0) (gBor 6))) (row.map fun (i : Nat) => .int (i : Int)) [.val (.lst bs), a1, a2, a3, a4, a5, a6, a7, a8, a9, a10] m acc = .ok (.int (acc + sumAt (·.2) ps row)) m
  | [], _, acc, _ => by
    rw [List.map_nil, sumW, sumAt, List.map_nil, List.sum_nil, Int.add_zero]
  | i :: row, a6, acc, hr => by
    have e := ix_lst m bs i (mapO_at h (hr i List.mem_cons_self))
    rw [List.map_cons, sumW]
    simp (config := { decide := true, failIfUnchanged := false }) only [gSeq, gNx, gBk, gCt, gIfS, gRet, gRetN, gExpr, gSet, gOwn, ggName, ggNil, ggCons, ggTup, gAsg, gPar, gFrz, gApp, gExt, gAug, loopS, gRaise, bindS, gC, gVar, gBor, gBin, gUn, asB, gtV, gV, gtNot, gtAnd, gtOr, gIf, gtChain, gaNil, gaCons, gTup, gLst, gCB, f1, f2, gCall, gArgs, gMeth, gMakeF, gLim, gLstN, gNewM, gSlT, gSlL, gpN, gpS, gFldS, gIxS, gIxO, gPar3, gParO, gParQ, RE.bind, opt, frzE, nx, gtYes, gIt, asL_lst, asT_tup, wipeE, cInt_i, cInt_b, fAdd_ii, fSub_ii, fLt_ii, fLe_ii, fGt_ii, fGe_ii, fEq_ii, fNe_ii, List.getElem?_cons_zero, List.getElem?_cons_succ, List.length_cons, List.length_nil, List.set_cons_zero, List.set_cons_succ, Option.bind_some, Option.map_some, Option.bind_none, if_true, if_false, Bool.not_true, Bool.not_false, reduceIte, Nat.reduceAdd, Nat.reduceEqDiff, lim, Nat.ble_eq, envOf, fnD, endD, List.map_cons, List.map_nil, List.replicate, List.cons_append, List.nil_append, Nat.reduceSub, asB_bl, decide_eq_true_eq, and_true, true_and, and_false, false_and, or_true, true_or, or_false, false_or, not_true_eq_false, not_false_eq_true, e, bar_f, sumP_f h a1 a2 a3 a4 a5 a7 a8 a9 a10 m row _ _ fun q hq => hr q (List.mem_cons_of_mem _ hq), sumAt, List.sum_cons, Int.add_assoc]
theorem mapO_ints (m : List MO) (n : Nat) : ∀ row : List Nat, mapO (toP m (n + 1)) (row.map fun (i : Nat) => DL.D.int (i : Int)) = some (row.map fun (i : Nat) => PyData.int (i : Int))
  | [] => rfl
  | i :: row => by
    rw [List.map_cons, mapO, mapO_ints m n row]
    rfl
theorem alike_row : ∀ a b : List Nat, PySem.W.alikeAll (a.map fun (i : Nat) => PyData.int (i : Int)) (b.map fun (i : Nat) => PyData.int (i : Int)) = true
  | [], b => by rw [List.map_nil, PySem.W.alikeAll]
  | a :: as, [] => by rw [List.map_nil, List.map_cons, PySem.W.alikeAll]
  | a :: as, b :: bs => by
    rw [List.map_cons, List.map_cons, PySem.W.alikeAll, PySem.W.alike, alike_row as bs]
    rfl
def absI (x : Int) : Int := if x < 0 then -x else x
def candD (ps : List (Int × Int)) (wt : Int) (row : List Nat) : DL.D := .tup [.int (absI (sumAt (·.1) ps row - wt)), .int row.length, rowD row, .int (sumAt (·.1) ps row)]
theorem toP_cand (m : List MO) (ps : List (Int × Int)) (wt : Int) (row : List Nat) : toP m fuelP (candD ps wt row) = some (candP ps wt row) := by
  have e : toP m 31 (rowD row) = some (rowP row) := by
    show (mapO (toP m 30) (row.map fun (i : Nat) => DL.D.int (i : Int))).map PyData.tuple = _
    rw [mapO_ints]
    rfl
  show (mapO (toP m 31) [DL.D.int (absI (sumAt (·.1) ps row - wt)), .int row.length, rowD row, .int (sumAt (·.1) ps row)]).map PyData.tuple = _
  rw [mapO, mapO, mapO, e]
  rfl
theorem alike_cand (ps : List (Int × Int)) (wt : Int) (r r' : List Nat) : PySem.W.alike (candP ps wt r) (candP ps wt r') = true := by
  simp only [candP, rowP, PySem.W.alike, PySem.W.alikeAll, alike_row, Bool.and_self]
theorem fLt_cand (m : List MO) (ps : List (Int × Int)) (wt : Int) (r r' : List Nat) : fLt m (candD ps wt r) (candD ps wt r') = some (.bl (PySem.W.dataLt (candP ps wt r) (candP ps wt r'))) := by
  show (toP m fuelP (candD ps wt r)).bind (fun p => (toP m fuelP (candD ps wt r')).bind fun q => if alkO p q = true then some (DL.D.bl (PySem.W.dataLt p q)) else none) = _
  rw [toP_cand, toP_cand]
  have e : alkO (candP ps wt r) (candP ps wt r') = true := by
    unfold alkO
    rw [alike_cand]
    rfl
  show (if alkO (candP ps wt r) (candP ps wt r') = true then some (DL.D.bl _) else none) = _
  rw [if_pos e]
theorem fNe_row (m : List MO) (row : List Nat) : fNe m (rowD row) (.tup []) = some (.bl (!row.isEmpty)) := by
  show ((mapO (toP m 31) (row.map fun (i : Nat) => DL.D.int (i : Int))).map PyData.tuple).bind (fun p => some (DL.D.bl (!PyData.eqv p (.tuple [])))) = _
  rw [mapO_ints]
  cases row with
  | nil => rfl
  | cons a r => rfl
end K01
/-! P7: the best melt: the loop, the end. -/
namespace K01
open PySem PySem.Spec DL
def bD (ps : List (Int × Int)) (wt : Int) : Option (List Nat) → DL.D
  | none => .non
  | some r => candD ps wt r
def stepB (ps : List (Int × Int)) (lo hi wt : Int) (b : Option (List Nat)) (r : List Nat) : Option (List Nat) := if goodP ps lo hi r = true then (match b with
  | none => some r
  | some q => if PySem.W.dataLt (candP ps wt r) (candP ps wt q) = true then some r else some q) else b
abbrev bBest : GS := gSeq (gPar 8 9 (gSumG [6] (gIt asT (gVar 7)) (ggName 6) (gUn (fldD "weight") (gBin fIx (gBor 0) (gBor 6)))) (gSumG [6] (gIt asT (gVar 7)) (ggName 6) (gUn (fldD "fine") (gBin fIx (gBor 0) (gBor 6))))) (gSeq (gIfS (gtAnd (gtV (gBin fNe (gBor 7) (gTup (gaNil)))) (gtChain fLe fLe (gBin fMul (gBor 1) (gBor 8)) (gBin fMul (gC (.int 1000)) (gBor 9)) (gBin fMul (gBor 2) (gBor 8)))) (gSeq (gSet 10 (gTup (gaCons (gCB (f1 cAbs) (gaCons (gBin fSub (gBor 8) (gBor 3)) (gaNil))) (gaCons (gCB (f1 cLen) (gaCons (gBor 7) (gaNil))) (gaCons (gVar 7) (gaCons (gVar 8) (gaNil))))))) (gSeq (gSet 5 (gIf (gtOr (gtV (gBin fIsN (gBor 5) (gC .non))) (gtV (gBin fLt (gBor 10) (gBor 5)))) (gVar 10) (gVar 5))) (gNx))) (gNx)) (gNx))
theorem sum_small {ps : List (Int × Int)} (hk : ∀ p ∈ ps, okBar p.1 p.2) (g : Int × Int → Int) (hg : g = (·.1) ∨ g = (·.2)) : ∀ row : List Nat, (∀ i ∈ row, i < ps.length) → row.length ≤ 10 → 0 ≤ sumAt g ps row ∧ sumAt g ps row ≤ 1000000 * row.length
  | [], _, _ => ⟨Int.le_refl _, Int.le_refl _⟩
  | i :: row, h, hl => by
    have hlen : row.length + 1 ≤ 10 := hl
    obtain ⟨a, b⟩ := sum_small hk g hg row (fun q hq => h q (List.mem_cons_of_mem _ hq)) (by omega)
    have hi := h i List.mem_cons_self
    have hp : ps.getD i (0, 0) ∈ ps := by
      rw [List.getD_eq_getElem?_getD]
      have : ps[i]? = some (ps[i]'hi) := by simp [hi]
      rw [this]
      exact List.getElem_mem hi
    obtain ⟨b1, b2, b3, b4⟩ := hk _ hp
    have e : sumAt g ps (i :: row) = g (ps.getD i (0, 0)) + sumAt g ps row := by
      rw [sumAt, List.map_cons, List.sum_cons]
      rfl
    have c : 0 ≤ g (ps.getD i (0, 0)) ∧ g (ps.getD i (0, 0)) ≤ 1000000 := by
      rcases hg with rfl | rfl
      · exact ⟨by show 0 ≤ (ps.getD i (0, 0)).1; omega, b2⟩
      · exact ⟨b3, by show (ps.getD i (0, 0)).2 ≤ 1000000; omega⟩
    rw [e, List.length_cons]
    omega
theorem best_step {bs : List DL.D} {ps : List (Int × Int)} (h : mapO barOf bs = some ps) (hk : ∀ p ∈ ps, okBar p.1 p.2) (lo hi wt : Int) (a4 a6 a8 a9 a10 : DL.Slot) (m : List MO) (b : Option (List Nat)) (row : List Nat) (hr : ∀ i ∈ row, i < ps.length) (hl : row.length ≤ 10) :
    ∃ b8 b9 b10, bBest [.val (.lst bs), .val (.int lo), .val (.int hi), .val (.int wt), a4, .val (bD ps wt b), a6, .val (rowD row), a8, a9, a10] m = .ok .nx [.val (.lst bs), .val (.int lo), .val (.int hi), .val (.int wt), a4, .val (bD ps wt (stepB ps lo hi wt b row)), a6, .val (rowD row), b8, b9, b10] m := by
  obtain ⟨s1, s2⟩ := sum_small hk (·.1) (.inl rfl) row hr hl
  obtain ⟨s3, s4⟩ := sum_small hk (·.2) (.inr rfl) row hr hl
  have w1 (x : Int) : cMul x (sumAt (·.1) ps row) = true := cMul_r (by omega) (by omega)
  have w2 (x : Int) : cMul 1000 x = true := cMul_l (by decide) (by decide)
  have et : asT (rowD row) = some (row.map fun (i : Nat) => .int (i : Int)) := rfl
  have el : cLen m (rowD row) = some (.int row.length) := by
    show some (DL.D.int ((row.map fun (i : Nat) => DL.D.int (i : Int)).length)) = _
    rw [List.length_map]
  have ec : ∀ x : Int, cAbs m (.int x) = some (.int (absI x)) := fun x => rfl
  have eq : DL.D.tup [.int (absI (sumAt (·.1) ps row - wt)), .int row.length, rowD row, .int (sumAt (·.1) ps row)] = candD ps wt row := rfl
  by_cases h1 : row.isEmpty = true
  · have g0 : stepB ps lo hi wt b row = b := if_neg (by unfold goodP; rw [h1]; simp)
    rw [g0]
    refine ⟨.val (.int (sumAt (·.1) ps row)), .val (.int (sumAt (·.2) ps row)), a10, ?_⟩
    simp (config := { decide := true, failIfUnchanged := false }) only [gSeq, gNx, gBk, gCt, gIfS, gRet, gRetN, gExpr, gSet, gOwn, ggName, ggNil, ggCons, ggTup, gAsg, gPar, gFrz, gApp, gExt, gAug, loopS, gRaise, bindS, gC, gVar, gBor, gBin, gUn, asB, gtV, gV, gtNot, gtAnd, gtOr, gIf, gtChain, gaNil, gaCons, gTup, gLst, gCB, f1, f2, gCall, gArgs, gMeth, gMakeF, gLim, gLstN, gNewM, gSlT, gSlL, gpN, gpS, gFldS, gIxS, gIxO, gPar3, gParO, gParQ, RE.bind, opt, frzE, nx, gtYes, gIt, asL_lst, asT_tup, wipeE, cInt_i, cInt_b, fAdd_ii, fSub_ii, fLt_ii, fLe_ii, fGt_ii, fGe_ii, fEq_ii, fNe_ii, List.getElem?_cons_zero, List.getElem?_cons_succ, List.length_cons, List.length_nil, List.set_cons_zero, List.set_cons_succ, Option.bind_some, Option.map_some, Option.bind_none, if_true, if_false, Bool.not_true, Bool.not_false, reduceIte, Nat.reduceAdd, Nat.reduceEqDiff, lim, Nat.ble_eq, envOf, fnD, endD, List.map_cons, List.map_nil, List.replicate, List.cons_append, List.nil_append, Nat.reduceSub, asB_bl, decide_eq_true_eq, and_true, true_and, and_false, false_and, or_true, true_or, or_false, false_or, not_true_eq_false, not_false_eq_true, gSumG, et, sumP_w h _ _ _ _ _ _ _ _ _ m row _ _ hr, sumP_f h _ _ _ _ _ _ _ _ _ m row _ _ hr, Int.zero_add, fNe_row, h1]
  · have h1' : row.isEmpty = false := by simpa using h1
    by_cases h2 : lo * sumAt (·.1) ps row ≤ 1000 * sumAt (·.2) ps row
    · by_cases h3 : 1000 * sumAt (·.2) ps row ≤ hi * sumAt (·.1) ps row
      · have g1 : goodP ps lo hi row = true := by
          unfold goodP
          rw [h1', decide_eq_true h2, decide_eq_true h3]
          rfl
        refine ⟨.val (.int (sumAt (·.1) ps row)), .val (.int (sumAt (·.2) ps row)), .val (candD ps wt row), ?_⟩
        cases b with
        | none =>
          have g0 : stepB ps lo hi wt none row = some row := if_pos g1
          have eN : fIsN m (bD ps wt none) .non = some (.bl true) := rfl
          rw [g0]
          simp (config := { decide := true, failIfUnchanged := false }) only [gSeq, gNx, gBk, gCt, gIfS, gRet, gRetN, gExpr, gSet, gOwn, ggName, ggNil, ggCons, ggTup, gAsg, gPar, gFrz, gApp, gExt, gAug, loopS, gRaise, bindS, gC, gVar, gBor, gBin, gUn, asB, gtV, gV, gtNot, gtAnd, gtOr, gIf, gtChain, gaNil, gaCons, gTup, gLst, gCB, f1, f2, gCall, gArgs, gMeth, gMakeF, gLim, gLstN, gNewM, gSlT, gSlL, gpN, gpS, gFldS, gIxS, gIxO, gPar3, gParO, gParQ, RE.bind, opt, frzE, nx, gtYes, gIt, asL_lst, asT_tup, wipeE, cInt_i, cInt_b, fAdd_ii, fSub_ii, fLt_ii, fLe_ii, fGt_ii, fGe_ii, fEq_ii, fNe_ii, List.getElem?_cons_zero, List.getElem?_cons_succ, List.length_cons, List.length_nil, List.set_cons_zero, List.set_cons_succ, Option.bind_some, Option.map_some, Option.bind_none, if_true, if_false, Bool.not_true, Bool.not_false, reduceIte, Nat.reduceAdd, Nat.reduceEqDiff, lim, Nat.ble_eq, envOf, fnD, endD, List.map_cons, List.map_nil, List.replicate, List.cons_append, List.nil_append, Nat.reduceSub, asB_bl, decide_eq_true_eq, and_true, true_and, and_false, false_and, or_true, true_or, or_false, false_or, not_true_eq_false, not_false_eq_true, gSumG, et, sumP_w h _ _ _ _ _ _ _ _ _ m row _ _ hr, sumP_f h _ _ _ _ _ _ _ _ _ m row _ _ hr, Int.zero_add, fNe_row, h1', h2, h3, fMul_ii _ _ _ (w1 _), fMul_ii _ _ _ (w2 _), el, ec, eq, eN]
          rfl
        | some q =>
          have eN : fIsN m (bD ps wt (some q)) .non = some (.bl false) := rfl
          have eL : fLt m (candD ps wt row) (bD ps wt (some q)) = _ := fLt_cand m ps wt row q
          by_cases h4 : PySem.W.dataLt (candP ps wt row) (candP ps wt q) = true
          · have g0 : stepB ps lo hi wt (some q) row = some row := (if_pos g1).trans (if_pos h4)
            rw [g0]
            simp (config := { decide := true, failIfUnchanged := false }) only [gSeq, gNx, gBk, gCt, gIfS, gRet, gRetN, gExpr, gSet, gOwn, ggName, ggNil, ggCons, ggTup, gAsg, gPar, gFrz, gApp, gExt, gAug, loopS, gRaise, bindS, gC, gVar, gBor, gBin, gUn, asB, gtV, gV, gtNot, gtAnd, gtOr, gIf, gtChain, gaNil, gaCons, gTup, gLst, gCB, f1, f2, gCall, gArgs, gMeth, gMakeF, gLim, gLstN, gNewM, gSlT, gSlL, gpN, gpS, gFldS, gIxS, gIxO, gPar3, gParO, gParQ, RE.bind, opt, frzE, nx, gtYes, gIt, asL_lst, asT_tup, wipeE, cInt_i, cInt_b, fAdd_ii, fSub_ii, fLt_ii, fLe_ii, fGt_ii, fGe_ii, fEq_ii, fNe_ii, List.getElem?_cons_zero, List.getElem?_cons_succ, List.length_cons, List.length_nil, List.set_cons_zero, List.set_cons_succ, Option.bind_some, Option.map_some, Option.bind_none, if_true, if_false, Bool.not_true, Bool.not_false, reduceIte, Nat.reduceAdd, Nat.reduceEqDiff, lim, Nat.ble_eq, envOf, fnD, endD, List.map_cons, List.map_nil, List.replicate, List.cons_append, List.nil_append, Nat.reduceSub, asB_bl, decide_eq_true_eq, and_true, true_and, and_false, false_and, or_true, true_or, or_false, false_or, not_true_eq_false, not_false_eq_true, gSumG, et, sumP_w h _ _ _ _ _ _ _ _ _ m row _ _ hr, sumP_f h _ _ _ _ _ _ _ _ _ m row _ _ hr, Int.zero_add, fNe_row, h1', h2, h3, fMul_ii _ _ _ (w1 _), fMul_ii _ _ _ (w2 _), el, ec, eq, eN, eL, h4]
            rfl
          · have g0 : stepB ps lo hi wt (some q) row = some q := (if_pos g1).trans (if_neg h4)
            rw [g0]
            simp (config := { decide := true, failIfUnchanged := false }) only [gSeq, gNx, gBk, gCt, gIfS, gRet, gRetN, gExpr, gSet, gOwn, ggName, ggNil, ggCons, ggTup, gAsg, gPar, gFrz, gApp, gExt, gAug, loopS, gRaise, bindS, gC, gVar, gBor, gBin, gUn, asB, gtV, gV, gtNot, gtAnd, gtOr, gIf, gtChain, gaNil, gaCons, gTup, gLst, gCB, f1, f2, gCall, gArgs, gMeth, gMakeF, gLim, gLstN, gNewM, gSlT, gSlL, gpN, gpS, gFldS, gIxS, gIxO, gPar3, gParO, gParQ, RE.bind, opt, frzE, nx, gtYes, gIt, asL_lst, asT_tup, wipeE, cInt_i, cInt_b, fAdd_ii, fSub_ii, fLt_ii, fLe_ii, fGt_ii, fGe_ii, fEq_ii, fNe_ii, List.getElem?_cons_zero, List.getElem?_cons_succ, List.length_cons, List.length_nil, List.set_cons_zero, List.set_cons_succ, Option.bind_some, Option.map_some, Option.bind_none, if_true, if_false, Bool.not_true, Bool.not_false, reduceIte, Nat.reduceAdd, Nat.reduceEqDiff, lim, Nat.ble_eq, envOf, fnD, endD, List.map_cons, List.map_nil, List.replicate, List.cons_append, List.nil_append, Nat.reduceSub, asB_bl, decide_eq_true_eq, and_true, true_and, and_false, false_and, or_true, true_or, or_false, false_or, not_true_eq_false, not_false_eq_true, gSumG, et, sumP_w h _ _ _ _ _ _ _ _ _ m row _ _ hr, sumP_f h _ _ _ _ _ _ _ _ _ m row _ _ hr, Int.zero_add, fNe_row, h1', h2, h3, fMul_ii _ _ _ (w1 _), fMul_ii _ _ _ (w2 _), el, ec, eq, eN, eL, h4]
      · have g0 : stepB ps lo hi wt b row = b := if_neg (by unfold goodP; rw [decide_eq_false h3]; simp)
        rw [g0]
        refine ⟨.val (.int (sumAt (·.1) ps row)), .val (.int (sumAt (·.2) ps row)), a10, ?_⟩
        simp (config := { decide := true, failIfUnchanged := false }) only [gSeq, gNx, gBk, gCt, gIfS, gRet, gRetN, gExpr, gSet, gOwn, ggName, ggNil, ggCons, ggTup, gAsg, gPar, gFrz, gApp, gExt, gAug, loopS, gRaise, bindS, gC, gVar, gBor, gBin, gUn, asB, gtV, gV, gtNot, gtAnd, gtOr, gIf, gtChain, gaNil, gaCons, gTup, gLst, gCB, f1, f2, gCall, gArgs, gMeth, gMakeF, gLim, gLstN, gNewM, gSlT, gSlL, gpN, gpS, gFldS, gIxS, gIxO, gPar3, gParO, gParQ, RE.bind, opt, frzE, nx, gtYes, gIt, asL_lst, asT_tup, wipeE, cInt_i, cInt_b, fAdd_ii, fSub_ii, fLt_ii, fLe_ii, fGt_ii, fGe_ii, fEq_ii, fNe_ii, List.getElem?_cons_zero, List.getElem?_cons_succ, List.length_cons, List.length_nil, List.set_cons_zero, List.set_cons_succ, Option.bind_some, Option.map_some, Option.bind_none, if_true, if_false, Bool.not_true, Bool.not_false, reduceIte, Nat.reduceAdd, Nat.reduceEqDiff, lim, Nat.ble_eq, envOf, fnD, endD, List.map_cons, List.map_nil, List.replicate, List.cons_append, List.nil_append, Nat.reduceSub, asB_bl, decide_eq_true_eq, and_true, true_and, and_false, false_and, or_true, true_or, or_false, false_or, not_true_eq_false, not_false_eq_true, gSumG, et, sumP_w h _ _ _ _ _ _ _ _ _ m row _ _ hr, sumP_f h _ _ _ _ _ _ _ _ _ m row _ _ hr, Int.zero_add, fNe_row, h1', h2, h3, fMul_ii _ _ _ (w1 _), fMul_ii _ _ _ (w2 _)]
    · have g0 : stepB ps lo hi wt b row = b := if_neg (by unfold goodP; rw [decide_eq_false h2]; simp)
      rw [g0]
      refine ⟨.val (.int (sumAt (·.1) ps row)), .val (.int (sumAt (·.2) ps row)), a10, ?_⟩
      simp (config := { decide := true, failIfUnchanged := false }) only [gSeq, gNx, gBk, gCt, gIfS, gRet, gRetN, gExpr, gSet, gOwn, ggName, ggNil, ggCons, ggTup, gAsg, gPar, gFrz, gApp, gExt, gAug, loopS, gRaise, bindS, gC, gVar, gBor, gBin, gUn, asB, gtV, gV, gtNot, gtAnd, gtOr, gIf, gtChain, gaNil, gaCons, gTup, gLst, gCB, f1, f2, gCall, gArgs, gMeth, gMakeF, gLim, gLstN, gNewM, gSlT, gSlL, gpN, gpS, gFldS, gIxS, gIxO, gPar3, gParO, gParQ, RE.bind, opt, frzE, nx, gtYes, gIt, asL_lst, asT_tup, wipeE, cInt_i, cInt_b, fAdd_ii, fSub_ii, fLt_ii, fLe_ii, fGt_ii, fGe_ii, fEq_ii, fNe_ii, List.getElem?_cons_zero, List.getElem?_cons_succ, List.length_cons, List.length_nil, List.set_cons_zero, List.set_cons_succ, Option.bind_some, Option.map_some, Option.bind_none, if_true, if_false, Bool.not_true, Bool.not_false, reduceIte, Nat.reduceAdd, Nat.reduceEqDiff, lim, Nat.ble_eq, envOf, fnD, endD, List.map_cons, List.map_nil, List.replicate, List.cons_append, List.nil_append, Nat.reduceSub, asB_bl, decide_eq_true_eq, and_true, true_and, and_false, false_and, or_true, true_or, or_false, false_or, not_true_eq_false, not_false_eq_true, gSumG, et, sumP_w h _ _ _ _ _ _ _ _ _ m row _ _ hr, sumP_f h _ _ _ _ _ _ _ _ _ m row _ _ hr, Int.zero_add, fNe_row, h1', h2, fMul_ii _ _ _ (w1 _), fMul_ii _ _ _ (w2 _)]
end K01
/-! P8: the best melt whole. -/
namespace K01
open PySem PySem.Spec DL
theorem best_loop {bs : List DL.D} {ps : List (Int × Int)} (h : mapO barOf bs = some ps) (hk : ∀ p ∈ ps, okBar p.1 p.2) (lo hi wt : Int) (a4 a6 : DL.Slot) (m : List MO) : ∀ (rows : List (List Nat)) (b : Option (List Nat)) (a7 a8 a9 a10 : DL.Slot), (∀ r ∈ rows, (∀ i ∈ r, i < ps.length) ∧ r.length ≤ 10) →
    ∃ b7 b8 b9 b10, forD (ggName 7) bBest (rows.map rowD) [.val (.lst bs), .val (.int lo), .val (.int hi), .val (.int wt), a4, .val (bD ps wt b), a6, a7, a8, a9, a10] m = .ok .nx [.val (.lst bs), .val (.int lo), .val (.int hi), .val (.int wt), a4, .val (bD ps wt (rows.foldl (stepB ps lo hi wt) b)), a6, b7, b8, b9, b10] m
  | [], b, a7, a8, a9, a10, _ => ⟨a7, a8, a9, a10, rfl⟩
  | r :: rows, b, a7, a8, a9, a10, hr => by
    obtain ⟨h1, h2⟩ := hr r List.mem_cons_self
    obtain ⟨b8, b9, b10, e⟩ := best_step h hk lo hi wt a4 a6 a8 a9 a10 m b r h1 h2
    obtain ⟨c7, c8, c9, c10, e2⟩ := best_loop h hk lo hi wt a4 a6 m rows (stepB ps lo hi wt b r) (.val (rowD r)) b8 b9 b10 fun q hq => hr q (List.mem_cons_of_mem _ hq)
    refine ⟨c7, c8, c9, c10, ?_⟩
    rw [List.map_cons, forD]
    show loopS (bBest [.val (.lst bs), .val (.int lo), .val (.int hi), .val (.int wt), a4, .val (bD ps wt b), a6, .val (rowD r), a8, a9, a10] m) _ = _
    rw [e]
    exact e2
theorem fold_min (ps : List (Int × Int)) (lo hi wt : Int) : ∀ (rows : List (List Nat)) (b : Option (List Nat)), (rows.foldl (stepB ps lo hi wt) b).map (candP ps wt) = match b with
    | none => (match (rows.filter (goodP ps lo hi)).map (candP ps wt) with
      | [] => none
      | p :: qs => some (PySem.W.minD p qs))
    | some q => some (PySem.W.minD (candP ps wt q) ((rows.filter (goodP ps lo hi)).map (candP ps wt)))
  | [], none => rfl
  | [], some q => rfl
  | r :: rows, b => by
    rw [List.foldl_cons, fold_min ps lo hi wt rows, List.filter_cons]
    by_cases hg : goodP ps lo hi r = true
    · rw [if_pos hg, List.map_cons]
      cases b with
      | none =>
        have : stepB ps lo hi wt none r = some r := if_pos hg
        rw [this]
      | some q =>
        by_cases hlt : PySem.W.dataLt (candP ps wt r) (candP ps wt q) = true
        · have : stepB ps lo hi wt (some q) r = some r := (if_pos hg).trans (if_pos hlt)
          rw [this]
          show some (PySem.W.minD (candP ps wt r) _) = some (List.foldl _ (if PySem.W.dataLt (candP ps wt r) (candP ps wt q) = true then _ else _) _)
          rw [if_pos hlt]
          rfl
        · have : stepB ps lo hi wt (some q) r = some q := (if_pos hg).trans (if_neg hlt)
          rw [this]
          show some (PySem.W.minD (candP ps wt q) _) = some (List.foldl _ (if PySem.W.dataLt (candP ps wt r) (candP ps wt q) = true then _ else _) _)
          rw [if_neg hlt]
          rfl
    · rw [if_neg hg]
      have : stepB ps lo hi wt b r = b := if_neg hg
      rw [this]
theorem bestOf_eq (ps : List (Int × Int)) (lo hi wt : Int) : bestOf ps lo hi wt = ((setsN ps.length).foldl (stepB ps lo hi wt) none).map (candP ps wt) := (fold_min ps lo hi wt _ none).symm
theorem ofPs_ints : ∀ row : List Nat, ofPs (row.map fun (i : Nat) => PyData.int (i : Int)) = row.map fun (i : Nat) => DL.D.int (i : Int)
  | [] => by rw [List.map_nil, List.map_nil, ofPs]
  | i :: row => by rw [List.map_cons, List.map_cons, ofPs, ofPs_ints row, ofP]
theorem ofP_row (row : List Nat) : ofP (rowP row) = rowD row := by
  rw [rowP, ofP, ofPs_ints, rowD]
theorem rng_nat (n : Nat) : rng 0 (n : Int) = (List.range' 0 n).map fun (i : Nat) => DL.D.int (i : Int) := by
  unfold rng
  rw [show ((n : Int) - 0).toNat = n by omega, List.range_eq_range']
  refine List.map_congr_left fun i _ => ?_
  rw [Int.zero_add]
theorem gSeq_nx {a b : GS} {env env' : List DL.Slot} {m m' : List MO} (h : a env m = .ok .nx env' m') : gSeq a b env m = b env' m' := by
  unfold gSeq
  rw [h]
theorem ix_cand2 (m : List MO) (ps : List (Int × Int)) (wt : Int) (row : List Nat) : fIx m (candD ps wt row) (.int 2) = some (rowD row) := rfl
theorem ix_cand3 (m : List MO) (ps : List (Int × Int)) (wt : Int) (row : List Nat) : fIx m (candD ps wt row) (.int 3) = some (.int (sumAt (·.1) ps row)) := rfl
theorem st_best0 (bs : List DL.D) (lo hi wt : Int) (m : List MO) (h1 : ¬ bs.length > 10) (h2 : ¬ lo > hi) : (gIfS (gtOr (gtV (gBin fGt (gCB (f1 cLen) (gaCons (gBor 0) (gaNil))) (gC (.int 10)))) (gtV (gBin fGt (gBor 1) (gBor 2)))) (gSeq (gRaise "MetalError") (gNx)) (gNx)) [.val (.lst bs), .val (.int lo), .val (.int hi), .val (.int wt), .un, .un, .un, .un, .un, .un, .un] m = .ok .nx [.val (.lst bs), .val (.int lo), .val (.int hi), .val (.int wt), .un, .un, .un, .un, .un, .un, .un] m := by
  have hl : cLen m (.lst bs) = some (.int bs.length) := rfl
  have h1' : ¬ (bs.length : Int) > 10 := by omega
  simp (config := { decide := true, failIfUnchanged := false }) only [gSeq, gNx, gBk, gCt, gIfS, gRet, gRetN, gExpr, gSet, gOwn, ggName, ggNil, ggCons, ggTup, gAsg, gPar, gFrz, gApp, gExt, gAug, loopS, gRaise, bindS, gC, gVar, gBor, gBin, gUn, asB, gtV, gV, gtNot, gtAnd, gtOr, gIf, gtChain, gaNil, gaCons, gTup, gLst, gCB, f1, f2, gCall, gArgs, gMeth, gMakeF, gLim, gLstN, gNewM, gSlT, gSlL, gpN, gpS, gFldS, gIxS, gIxO, gPar3, gParO, gParQ, RE.bind, opt, frzE, nx, gtYes, gIt, asL_lst, asT_tup, wipeE, cInt_i, cInt_b, fAdd_ii, fSub_ii, fLt_ii, fLe_ii, fGt_ii, fGe_ii, fEq_ii, fNe_ii, List.getElem?_cons_zero, List.getElem?_cons_succ, List.length_cons, List.length_nil, List.set_cons_zero, List.set_cons_succ, Option.bind_some, Option.map_some, Option.bind_none, if_true, if_false, Bool.not_true, Bool.not_false, reduceIte, Nat.reduceAdd, Nat.reduceEqDiff, lim, Nat.ble_eq, envOf, fnD, endD, List.map_cons, List.map_nil, List.replicate, List.cons_append, List.nil_append, Nat.reduceSub, asB_bl, decide_eq_true_eq, and_true, true_and, and_false, false_and, or_true, true_or, or_false, false_or, not_true_eq_false, not_false_eq_true, hl, h1', h2]
theorem st_best1 (a0 a1 a2 a3 : DL.Slot) (m : List MO) : (gParO 4 5 (gLim (gaCons (gTup (gaNil)) (gaNil))) (gC .non)) [a0, a1, a2, a3, .un, .un, .un, .un, .un, .un, .un] m = .ok .nx [a0, a1, a2, a3, .own [.tup []], .val .non, .un, .un, .un, .un, .un] m := by
  simp (config := { decide := true, failIfUnchanged := false }) only [gSeq, gNx, gBk, gCt, gIfS, gRet, gRetN, gExpr, gSet, gOwn, ggName, ggNil, ggCons, ggTup, gAsg, gPar, gFrz, gApp, gExt, gAug, loopS, gRaise, bindS, gC, gVar, gBor, gBin, gUn, asB, gtV, gV, gtNot, gtAnd, gtOr, gIf, gtChain, gaNil, gaCons, gTup, gLst, gCB, f1, f2, gCall, gArgs, gMeth, gMakeF, gLim, gLstN, gNewM, gSlT, gSlL, gpN, gpS, gFldS, gIxS, gIxO, gPar3, gParO, gParQ, RE.bind, opt, frzE, nx, gtYes, gIt, asL_lst, asT_tup, wipeE, cInt_i, cInt_b, fAdd_ii, fSub_ii, fLt_ii, fLe_ii, fGt_ii, fGe_ii, fEq_ii, fNe_ii, List.getElem?_cons_zero, List.getElem?_cons_succ, List.length_cons, List.length_nil, List.set_cons_zero, List.set_cons_succ, Option.bind_some, Option.map_some, Option.bind_none, if_true, if_false, Bool.not_true, Bool.not_false, reduceIte, Nat.reduceAdd, Nat.reduceEqDiff, lim, Nat.ble_eq, envOf, fnD, endD, List.map_cons, List.map_nil, List.replicate, List.cons_append, List.nil_append, Nat.reduceSub, asB_bl, decide_eq_true_eq, and_true, true_and, and_false, false_and, or_true, true_or, or_false, false_or, not_true_eq_false, not_false_eq_true]
theorem okR_small {i : Int} (h1 : -1000000 ≤ i) (h2 : i ≤ 1000000) : okR i = true := by
  unfold okR
  rw [decide_eq_true (Int.le_trans (by decide) h1), decide_eq_true (Int.lt_of_le_of_lt h2 (by decide))]
  rfl
theorem rng1_of {a : GA} {env : List DL.Slot} {m m' : List MO} {i : Int} (h : a env m = .ok [.int i] m') (hR : okR i = true) : gRng1 a env m = .ok (rng 0 i) m' := by
  unfold gRng1
  rw [h]
  exact if_pos hR
theorem rng2_of {a : GA} {env : List DL.Slot} {m m' : List MO} {i j : Int} (h : a env m = .ok [.int i, .int j] m') (hi : okR i = true) (hj : okR j = true) : gRng2 a env m = .ok (rng i j) m' := by
  unfold gRng2
  rw [h]
  exact (if_pos hi).trans (if_pos hj)
theorem st_best2 (bs : List DL.D) (a1 a2 a3 : DL.Slot) (m : List MO) (hm : m.all nlM = true) (h1 : ¬ bs.length > 10) : ∃ b6, (gFor (gRng1 (gaCons (gCB (f1 cLen) (gaCons (gBor 0) (gaNil))) (gaNil))) (ggName 6) bSets) [.val (.lst bs), a1, a2, a3, .own [.tup []], .val .non, .un, .un, .un, .un, .un] m = .ok .nx [.val (.lst bs), a1, a2, a3, .own ((setsN bs.length).map rowD), .val .non, b6, .un, .un, .un, .un] m := by
  have hl : cLen m (.lst bs) = some (.int bs.length) := rfl
  have hR : okR (bs.length : Int) = true := okR_small (by omega) (by omega)
  obtain ⟨b6, e1⟩ := sets_loop (.val (.lst bs)) a1 a2 a3 (.val .non) .un .un .un .un m hm bs.length 0 .un (by omega)
  rw [Nat.zero_add] at e1
  have er : (gRng1 (gaCons (gCB (f1 cLen) (gaCons (gBor 0) (gaNil))) (gaNil))) [.val (.lst bs), a1, a2, a3, .own [.tup []], .val .non, .un, .un, .un, .un, .un] m = .ok (rng 0 (bs.length : Int)) m := by
    exact rng1_of rfl hR
  refine ⟨b6, ?_⟩
  have e0 : (setsN 0).map rowD = [.tup []] := rfl
  rw [e0] at e1
  unfold gFor
  rw [er, rng_nat]
  unfold bindS
  exact e1
theorem st_best3 {bs : List DL.D} {ps : List (Int × Int)} (h : mapO barOf bs = some ps) (hk : ∀ p ∈ ps, okBar p.1 p.2) (lo hi wt : Int) (a6 : DL.Slot) (m : List MO) (h1 : ¬ bs.length > 10) : ∃ c7 c8 c9 c10, (gFrz 4 (gFor (gIt asL (gVar 4)) (ggName 7) bBest)) [.val (.lst bs), .val (.int lo), .val (.int hi), .val (.int wt), .own ((setsN bs.length).map rowD), .val .non, a6, .un, .un, .un, .un] m = .ok .nx [.val (.lst bs), .val (.int lo), .val (.int hi), .val (.int wt), .val (.lst ((setsN bs.length).map rowD)), .val (bD ps wt ((setsN bs.length).foldl (stepB ps lo hi wt) none)), a6, c7, c8, c9, c10] m := by
  have hlen := mapO_length h
  have hset : ∀ r ∈ setsN bs.length, (∀ i ∈ r, i < ps.length) ∧ r.length ≤ 10 := fun r hr => by
    obtain ⟨a, b⟩ := setsN_mem hr
    exact ⟨fun i hi => by have := b i hi; omega, by omega⟩
  obtain ⟨c7, c8, c9, c10, e2⟩ := best_loop h hk lo hi wt (.val (.lst ((setsN bs.length).map rowD))) a6 m (setsN bs.length) none .un .un .un .un hset
  generalize setsN bs.length = ss at *
  exact ⟨c7, c8, c9, c10, e2⟩
theorem st_best4 (ps : List (Int × Int)) (wt : Int) (b : Option (List Nat)) (a0 a1 a2 a3 a4 a6 a7 a8 a9 a10 : DL.Slot) (m : List MO) : endD ((gSeq (gRet (gIf (gtV (gBin fNotN (gBor 5) (gC .non))) (gTup (gaCons (gBin fIx (gBor 5) (gC (.int 2))) (gaCons (gBin fIx (gBor 5) (gC (.int 3))) (gaNil)))) (gC .non))) (gNx)) [a0, a1, a2, a3, a4, .val (bD ps wt b), a6, a7, a8, a9, a10] m) = (match b.map (candP ps wt) with
      | none => .ok .non m
      | some p => .ok (.tup [ofP (partP p 2), ofP (partP p 3)]) m) := by
  cases b with
  | none =>
    have eN : fNotN m (bD ps wt none) .non = some (.bl false) := rfl
    simp (config := { decide := true, failIfUnchanged := false }) only [gSeq, gNx, gBk, gCt, gIfS, gRet, gRetN, gExpr, gSet, gOwn, ggName, ggNil, ggCons, ggTup, gAsg, gPar, gFrz, gApp, gExt, gAug, loopS, gRaise, bindS, gC, gVar, gBor, gBin, gUn, asB, gtV, gV, gtNot, gtAnd, gtOr, gIf, gtChain, gaNil, gaCons, gTup, gLst, gCB, f1, f2, gCall, gArgs, gMeth, gMakeF, gLim, gLstN, gNewM, gSlT, gSlL, gpN, gpS, gFldS, gIxS, gIxO, gPar3, gParO, gParQ, RE.bind, opt, frzE, nx, gtYes, gIt, asL_lst, asT_tup, wipeE, cInt_i, cInt_b, fAdd_ii, fSub_ii, fLt_ii, fLe_ii, fGt_ii, fGe_ii, fEq_ii, fNe_ii, List.getElem?_cons_zero, List.getElem?_cons_succ, List.length_cons, List.length_nil, List.set_cons_zero, List.set_cons_succ, Option.bind_some, Option.map_some, Option.bind_none, if_true, if_false, Bool.not_true, Bool.not_false, reduceIte, Nat.reduceAdd, Nat.reduceEqDiff, lim, Nat.ble_eq, envOf, fnD, endD, List.map_cons, List.map_nil, List.replicate, List.cons_append, List.nil_append, Nat.reduceSub, asB_bl, decide_eq_true_eq, and_true, true_and, and_false, false_and, or_true, true_or, or_false, false_or, not_true_eq_false, not_false_eq_true, eN]
    rfl
  | some row =>
    have eN : fNotN m (bD ps wt (some row)) .non = some (.bl true) := rfl
    have e2 : fIx m (bD ps wt (some row)) (.int 2) = some (rowD row) := rfl
    have e3 : fIx m (bD ps wt (some row)) (.int 3) = some (.int (sumAt (·.1) ps row)) := rfl
    have f2 : ofP (partP (candP ps wt row) 2) = rowD row := ofP_row row
    have f3 : ofP (partP (candP ps wt row) 3) = .int (sumAt (·.1) ps row) := by
      show ofP (.int _) = _
      rw [ofP]
    simp (config := { decide := true, failIfUnchanged := false }) only [gSeq, gNx, gBk, gCt, gIfS, gRet, gRetN, gExpr, gSet, gOwn, ggName, ggNil, ggCons, ggTup, gAsg, gPar, gFrz, gApp, gExt, gAug, loopS, gRaise, bindS, gC, gVar, gBor, gBin, gUn, asB, gtV, gV, gtNot, gtAnd, gtOr, gIf, gtChain, gaNil, gaCons, gTup, gLst, gCB, f1, f2, gCall, gArgs, gMeth, gMakeF, gLim, gLstN, gNewM, gSlT, gSlL, gpN, gpS, gFldS, gIxS, gIxO, gPar3, gParO, gParQ, RE.bind, opt, frzE, nx, gtYes, gIt, asL_lst, asT_tup, wipeE, cInt_i, cInt_b, fAdd_ii, fSub_ii, fLt_ii, fLe_ii, fGt_ii, fGe_ii, fEq_ii, fNe_ii, List.getElem?_cons_zero, List.getElem?_cons_succ, List.length_cons, List.length_nil, List.set_cons_zero, List.set_cons_succ, Option.bind_some, Option.map_some, Option.bind_none, if_true, if_false, Bool.not_true, Bool.not_false, reduceIte, Nat.reduceAdd, Nat.reduceEqDiff, lim, Nat.ble_eq, envOf, fnD, endD, List.map_cons, List.map_nil, List.replicate, List.cons_append, List.nil_append, Nat.reduceSub, asB_bl, decide_eq_true_eq, and_true, true_and, and_false, false_and, or_true, true_or, or_false, false_or, not_true_eq_false, not_false_eq_true, eN, e2, e3, f2, f3]
theorem p_best (bs : List DL.D) (ps : List (Int × Int)) (lo hi wt : Int) (m : List MO) (h : mapO barOf bs = some ps) (hk : ∀ p ∈ ps, okBar p.1 p.2) (hm : m.all nlM = true) (hx : ¬ (bs.length > 10 ∨ lo > hi)) :
    fnD 11 4 m_best_melt [.lst bs, .int lo, .int hi, .int wt] m = (match bestOf ps lo hi wt with
      | none => .ok .non m
      | some p => .ok (.tup [ofP (partP p 2), ofP (partP p 3)]) m) := by
  have h1 : ¬ bs.length > 10 := fun z => hx (.inl z)
  have h2 : ¬ lo > hi := fun z => hx (.inr z)
  rw [bestOf_eq, ← mapO_length h]
  obtain ⟨b6, e2⟩ := st_best2 bs (.val (.int lo)) (.val (.int hi)) (.val (.int wt)) m hm h1
  obtain ⟨c7, c8, c9, c10, e3⟩ := st_best3 h hk lo hi wt b6 m h1
  unfold fnD
  rw [if_pos (show [DL.D.lst bs, .int lo, .int hi, .int wt].length = 4 from rfl)]
  show endD (m_best_melt [.val (.lst bs), .val (.int lo), .val (.int hi), .val (.int wt), .un, .un, .un, .un, .un, .un, .un] m) = _
  rw [m_best_melt, gSeq_nx (st_best0 bs lo hi wt m h1 h2), gSeq_nx (st_best1 _ _ _ _ m), gSeq_nx e2, gSeq_nx e3]
  exact st_best4 ps wt _ _ _ _ _ _ _ _ _ _ _ m
theorem p_best_ex (bs : List DL.D) (lo hi wt : Int) (m : List MO) (h : bs.length > 10 ∨ lo > hi) : fnD 11 4 m_best_melt [.lst bs, .int lo, .int hi, .int wt] m = .ex "MetalError" m := by
  have hl : cLen m (.lst bs) = some (.int bs.length) := rfl
  by_cases h1 : bs.length > 10
  · have h1' : (bs.length : Int) > 10 := by omega
    simp (config := { decide := true, failIfUnchanged := false }) only [gSeq, gNx, gBk, gCt, gIfS, gRet, gRetN, gExpr, gSet, gOwn, ggName, ggNil, ggCons, ggTup, gAsg, gPar, gFrz, gApp, gExt, gAug, loopS, gRaise, bindS, gC, gVar, gBor, gBin, gUn, asB, gtV, gV, gtNot, gtAnd, gtOr, gIf, gtChain, gaNil, gaCons, gTup, gLst, gCB, f1, f2, gCall, gArgs, gMeth, gMakeF, gLim, gLstN, gNewM, gSlT, gSlL, gpN, gpS, gFldS, gIxS, gIxO, gPar3, gParO, gParQ, RE.bind, opt, frzE, nx, gtYes, gIt, asL_lst, asT_tup, wipeE, cInt_i, cInt_b, fAdd_ii, fSub_ii, fLt_ii, fLe_ii, fGt_ii, fGe_ii, fEq_ii, fNe_ii, List.getElem?_cons_zero, List.getElem?_cons_succ, List.length_cons, List.length_nil, List.set_cons_zero, List.set_cons_succ, Option.bind_some, Option.map_some, Option.bind_none, if_true, if_false, Bool.not_true, Bool.not_false, reduceIte, Nat.reduceAdd, Nat.reduceEqDiff, lim, Nat.ble_eq, envOf, fnD, endD, List.map_cons, List.map_nil, List.replicate, List.cons_append, List.nil_append, Nat.reduceSub, asB_bl, decide_eq_true_eq, and_true, true_and, and_false, false_and, or_true, true_or, or_false, false_or, not_true_eq_false, not_false_eq_true, m_best_melt, hl, h1']
  · have h1' : ¬ (bs.length : Int) > 10 := by omega
    have h2 : lo > hi := h.resolve_left h1
    simp (config := { decide := true, failIfUnchanged := false }) only [gSeq, gNx, gBk, gCt, gIfS, gRet, gRetN, gExpr, gSet, gOwn, ggName, ggNil, ggCons, ggTup, gAsg, gPar, gFrz, gApp, gExt, gAug, loopS, gRaise, bindS, gC, gVar, gBor, gBin, gUn, asB, gtV, gV, gtNot, gtAnd, gtOr, gIf, gtChain, gaNil, gaCons, gTup, gLst, gCB, f1, f2, gCall, gArgs, gMeth, gMakeF, gLim, gLstN, gNewM, gSlT, gSlL, gpN, gpS, gFldS, gIxS, gIxO, gPar3, gParO, gParQ, RE.bind, opt, frzE, nx, gtYes, gIt, asL_lst, asT_tup, wipeE, cInt_i, cInt_b, fAdd_ii, fSub_ii, fLt_ii, fLe_ii, fGt_ii, fGe_ii, fEq_ii, fNe_ii, List.getElem?_cons_zero, List.getElem?_cons_succ, List.length_cons, List.length_nil, List.set_cons_zero, List.set_cons_succ, Option.bind_some, Option.map_some, Option.bind_none, if_true, if_false, Bool.not_true, Bool.not_false, reduceIte, Nat.reduceAdd, Nat.reduceEqDiff, lim, Nat.ble_eq, envOf, fnD, endD, List.map_cons, List.map_nil, List.replicate, List.cons_append, List.nil_append, Nat.reduceSub, asB_bl, decide_eq_true_eq, and_true, true_and, and_false, false_and, or_true, true_or, or_false, false_or, not_true_eq_false, not_false_eq_true, m_best_melt, hl, h1', h2]
end K01
/-! P9: what each def keeps. -/
namespace K01
open PySem PySem.Spec DL
theorem q_least (ds : List DL.D) (m : List MO) (h : S_least ds m ≠ .no) : fnD 4 2 m_least ds m = S_least ds m := by
  unfold S_least at h ⊢
  split at h
  · rename_i a b
    by_cases hc : 0 ≤ a ∧ 0 < b ∧ b < 2 ^ 64
    · rw [p_least a b m hc.1 hc.2.1 hc.2.2]
      exact (if_pos hc).symm
    · rw [if_neg hc] at h
      exact absurd rfl h
  · exact absurd rfl h
theorem q_fineness (ds : List DL.D) (m : List MO) (h : S_fineness ds m ≠ .no) : fnD 1 1 m_Bar_fineness ds m = S_fineness ds m := by
  unfold S_fineness at h ⊢
  split at h
  · rename_i d
    cases hb : barOf d with
    | none => rw [hb] at h; exact absurd rfl h
    | some p =>
      obtain ⟨w, f⟩ := p
      rw [hb] at h
      have e := barOf_ok hb
      subst e
      by_cases hc : okBar w f
      · rw [p_fineness w f m hc]
        exact (if_pos hc).symm
      · have h := h
        dsimp only at h
        rw [if_neg hc] at h
        exact absurd rfl h
  · exact absurd rfl h
theorem q_thousandths (ds : List DL.D) (m : List MO) (h : S_thousandths ds m ≠ .no) : fnD 1 1 m_Bar_thousandths ds m = S_thousandths ds m := by
  unfold S_thousandths at h ⊢
  split at h
  · rename_i d
    cases hb : barOf d with
    | none => rw [hb] at h; exact absurd rfl h
    | some p =>
      obtain ⟨w, f⟩ := p
      rw [hb] at h
      have e := barOf_ok hb
      subst e
      by_cases hc : okBar w f
      · rw [p_thousandths w f m hc]
        exact (if_pos hc).symm
      · have h := h
        dsimp only at h
        rw [if_neg hc] at h
        exact absurd rfl h
  · exact absurd rfl h
theorem q_cut (ds : List DL.D) (m : List MO) (h : S_cut ds m ≠ .no) : fnD 4 2 m_cut ds m = S_cut ds m := by
  unfold S_cut at h ⊢
  split at h
  · rename_i d q
    cases hb : barOf d with
    | none => rw [hb] at h; exact absurd rfl h
    | some p =>
      obtain ⟨w, f⟩ := p
      rw [hb] at h
      have e := barOf_ok hb
      subst e
      by_cases hc : okBar w f
      · rw [p_cut w f q m hc]
        exact (if_pos hc).symm
      · have h := h
        dsimp only at h
        rw [if_neg hc] at h
        exact absurd rfl h
  · exact absurd rfl h
theorem q_copper (ds : List DL.D) (m : List MO) (h : S_copper_for ds m ≠ .no) : fnD 3 3 m_copper_for ds m = S_copper_for ds m := by
  unfold S_copper_for at h ⊢
  split at h
  · rename_i d p q
    cases hb : barOf d with
    | none => rw [hb] at h; exact absurd rfl h
    | some z =>
      obtain ⟨w, f⟩ := z
      rw [hb] at h
      have e := barOf_ok hb
      subst e
      by_cases hc : okBar w f ∧ p < 2 ^ 64
      · rw [p_copper w f p q m hc.1 hc.2]
        exact (if_pos hc).symm
      · have h := h
        dsimp only at h
        rw [if_neg hc] at h
        exact absurd rfl h
  · exact absurd rfl h
theorem q_melted (ds : List DL.D) (m : List MO) (h : S_melted ds m ≠ .no) : fnD 2 1 m_melted ds m = S_melted ds m := by
  unfold S_melted at h ⊢
  split at h
  · rename_i bs
    cases hb : mapO barOf bs with
    | none => rw [hb] at h; exact absurd rfl h
    | some ps =>
      rw [hb] at h
      by_cases hc : ps.length ≤ 100 ∧ ∀ p ∈ ps, okBar p.1 p.2
      · rw [p_melted bs ps m hb hc.2]
        dsimp only
        rw [if_pos hc]
      · have h := h
        dsimp only at h
        rw [if_neg hc] at h
        exact absurd rfl h
  · exact absurd rfl h
theorem q_best (ds : List DL.D) (m : List MO) (h : S_best_melt ds m ≠ .no) : fnD 11 4 m_best_melt ds m = S_best_melt ds m := by
  unfold S_best_melt at h ⊢
  split at h
  · rename_i bs lo hi wt
    try dsimp only
    by_cases hx : bs.length > 10 ∨ lo > hi
    · rw [if_pos hx]
      exact p_best_ex bs lo hi wt m hx
    · rw [if_neg hx] at h ⊢
      cases hb : mapO barOf bs with
      | none => rw [hb] at h; exact absurd rfl h
      | some ps =>
        rw [hb] at h
        by_cases hc : (∀ p ∈ ps, okBar p.1 p.2) ∧ m.all nlM = true
        · rw [p_best bs ps lo hi wt m hb hc.1 hc.2 hx]
          dsimp only
          rw [if_pos hc] <;> rfl
        · have h := h
          dsimp only at h
          rw [if_neg hc] at h
          exact absurd rfl h
  · exact absurd rfl h
theorem q_dice (ds : List DL.D) (m : List MO) (h : S_dice ds m ≠ .no) : fnD 1 1 m__law_dice ds m = S_dice ds m := by
  unfold S_dice at h ⊢
  split at h
  · rename_i c
    exact p_dice c m
  · exact absurd rfl h
theorem q_roll (ds : List DL.D) (m : List MO) (h : S_roll ds m ≠ .no) : fnD 3 2 m__law_roll ds m = S_roll ds m := by
  unfold S_roll at h ⊢
  split at h
  · rename_i i many
    try dsimp only
    split at h
    · rename_i a b c hm
      by_cases hc : 0 < many ∧ many ≤ 100000000
      · rw [p_roll a b c many i m hm hc.1 hc.2]
        exact (if_pos hc).symm
      · rw [if_neg hc] at h
        exact absurd rfl h
    · exact absurd rfl h
  · exact absurd rfl h
theorem q_rounds (ds : List DL.D) (m : List MO) (h : S_rounds ds m ≠ .no) : fnD 4 2 m__law_rounds ds m = S_rounds ds m := by
  unfold S_rounds at h ⊢
  split at h
  · rename_i xs
    try dsimp only
    split at h
    · rename_i c xs
      exact p_rounds c xs m
    · exact p_rounds0 m
    · exact absurd rfl h
  · exact absurd rfl h
end K01
/-! P10: the law: the drawn rows, the bars. -/
namespace K01
open PySem PySem.Spec DL
def DM (t : Int × Int × Int) : List MO := [.lst [.int t.1, .int t.2.1, .int t.2.2]]
theorem roll_ok (t : Int × Int × Int) (many : Int) (h1 : 0 < many) (h2 : many ≤ 100000000) : ∃ r t', S_roll [.ref 0, .int many] (DM t) = .ok (.int r) (DM t') ∧ 0 ≤ r ∧ r < many := by
  obtain ⟨a, b, c⟩ := t
  refine ⟨(rollF a b c many).1, (rollF a b c many).2, ?_, ?_⟩
  · show (if 0 < many ∧ many ≤ 100000000 then _ else _) = _
    rw [if_pos ⟨h1, h2⟩]
    rfl
  · unfold rollF
    split
    · exact ⟨Int.emod_nonneg _ (by omega), Int.emod_lt_of_pos _ h1⟩
    · exact ⟨Int.emod_nonneg _ (by omega), Int.emod_lt_of_pos _ h1⟩
def rowI (p : Int × Int) : DL.D := .tup [.int p.1, .int p.2]
def barI (p : Int × Int) : DL.D := bar p.1 p.2
def okP (p : Int × Int) : Prop := 1 ≤ p.1 ∧ p.1 ≤ 400 ∧ 0 ≤ p.2 ∧ p.2 ≤ p.1
theorem okP.bar {p : Int × Int} (h : okP p) : okBar p.1 p.2 := ⟨h.1, Int.le_trans h.2.1 (by decide), h.2.2.1, h.2.2.2⟩
theorem rows_app (qs : List (Int × Int)) (a b : Int) : qs.map rowI ++ [.tup [.int a, .int b]] = (qs ++ [(a, b)]).map rowI := by
  rw [List.map_append]
  rfl
theorem forD_cons {g : GG} {b : GS} {d : DL.D} {ds : List DL.D} {env env' : List DL.Slot} {m : List MO} (h : g d env = some env') : forD g b (d :: ds) env m = loopS (b env' m) (forD g b ds) := by
  rw [forD]
  show (match g d env with | some env' => _ | none => _) = _
  rw [h]
abbrev bDraw : GS := gSeq (gSet 4 (gBin fAdd (gC (.int 1)) (gCall S_roll (gArgs 2 (gaCons (gVar 1) (gaCons (gC (.int 400)) (gaNil))))))) (gSeq (gApp 2 (gTup (gaCons (gVar 4) (gaCons (gCall S_roll (gArgs 2 (gaCons (gVar 1) (gaCons (gBin fAdd (gBor 4) (gC (.int 1))) (gaNil))))) (gaNil))))) (gNx))
theorem draws (a0 : DL.Slot) : ∀ (ds : List DL.D) (qs : List (Int × Int)) (t : Int × Int × Int) (a3 a4 : DL.Slot), qs.length + ds.length ≤ 100 → (∀ p ∈ qs, okP p) →
    ∃ (ps : List (Int × Int)) (t' : Int × Int × Int) (b3 b4 : DL.Slot), forD (ggName 3) bDraw ds [a0, .val (.ref 0), .own (qs.map rowI), a3, a4, .un, .un, .un, .un, .un, .un, .un, .un, .un, .un, .un, .un, .un, .un, .un, .un, .un, .un, .un] (DM t) = .ok .nx [a0, .val (.ref 0), .own (ps.map rowI), b3, b4, .un, .un, .un, .un, .un, .un, .un, .un, .un, .un, .un, .un, .un, .un, .un, .un, .un, .un, .un] (DM t') ∧ ps.length = qs.length + ds.length ∧ ∀ p ∈ ps, okP p
  | [], qs, t, a3, a4, _, h => ⟨qs, t, a3, a4, rfl, rfl, h⟩
  | d :: ds, qs, t, a3, a4, hl, h => by
    obtain ⟨r1, t1, e1, r1a, r1b⟩ := roll_ok t 400 (by decide) (by decide)
    obtain ⟨r2, t2, e2, r2a, r2b⟩ := roll_ok t1 (1 + r1 + 1) (by omega) (by omega)
    have hq : ∀ p ∈ qs ++ [(1 + r1, r2)], okP p := fun p hp => by
      rcases List.mem_append.mp hp with hp | hp
      · exact h p hp
      · rw [List.mem_singleton.mp hp]
        exact ⟨by show 1 ≤ 1 + r1; omega, by show 1 + r1 ≤ 400; omega, r2a, by show r2 ≤ 1 + r1; omega⟩
    have hl2 : (qs ++ [(1 + r1, r2)]).length + ds.length ≤ 100 := by
      rw [List.length_append]
      simp only [List.length_cons, List.length_nil] at *
      omega
    obtain ⟨ps, t', b3, b4, e3, e4, e5⟩ := draws a0 ds (qs ++ [(1 + r1, r2)]) t2 (.val d) (.val (.int (1 + r1))) hl2 hq
    refine ⟨ps, t', b3, b4, ?_, ?_, e5⟩
    · have hz : qs.length + 1 ≤ 1000000 := by
        simp only [List.length_cons] at hl
        omega
      rw [forD]
      simp (config := { decide := true, failIfUnchanged := false }) only [gSeq, gNx, gBk, gCt, gIfS, gRet, gRetN, gExpr, gSet, gOwn, ggName, ggNil, ggCons, ggTup, gAsg, gPar, gFrz, gApp, gExt, gAug, loopS, gRaise, bindS, gC, gVar, gBor, gBin, gUn, asB, gtV, gV, gtNot, gtAnd, gtOr, gIf, gtChain, gaNil, gaCons, gTup, gLst, gCB, f1, f2, gCall, gArgs, gMeth, gMakeF, gLim, gLstN, gNewM, gSlT, gSlL, gpN, gpS, gFldS, gIxS, gIxO, gPar3, gParO, gParQ, RE.bind, opt, frzE, nx, gtYes, gIt, asL_lst, asT_tup, wipeE, cInt_i, cInt_b, fAdd_ii, fSub_ii, fLt_ii, fLe_ii, fGt_ii, fGe_ii, fEq_ii, fNe_ii, List.getElem?_cons_zero, List.getElem?_cons_succ, List.length_cons, List.length_nil, List.set_cons_zero, List.set_cons_succ, Option.bind_some, Option.map_some, Option.bind_none, if_true, if_false, Bool.not_true, Bool.not_false, reduceIte, Nat.reduceAdd, Nat.reduceEqDiff, lim, Nat.ble_eq, envOf, fnD, endD, List.map_cons, List.map_nil, List.replicate, List.cons_append, List.nil_append, Nat.reduceSub, asB_bl, decide_eq_true_eq, and_true, true_and, and_false, false_and, or_true, true_or, or_false, false_or, not_true_eq_false, not_false_eq_true, e1, e2, List.length_map, hz, rows_app]
      exact e3
    · rw [e4, List.length_append]
      simp only [List.length_cons, List.length_nil]
      omega
theorem ix_r0 (m : List MO) (p : Int × Int) : fIx m (rowI p) (.int 0) = some (.int p.1) := rfl
theorem ix_r1 (m : List MO) (p : Int × Int) : fIx m (rowI p) (.int 1) = some (.int p.2) := rfl
theorem bars_comp (a0 a1 a2 a3 a4 a5 a6 a7 a8 a9 a10 a11 a12 a13 a14 a15 a16 a17 a18 a19 a20 a21 a22 a23 : DL.Slot) (m : List MO) : ∀ ps : List (Int × Int), (∀ p ∈ ps, okP p) → compD (ggName 6) gtYes (gMakeF "Bar" 3 mkBar (gaCons (gBin fIx (gBor 6) (gC (.int 0))) (gaCons (gBin fIx (gBor 6) (gC (.int 1))) (gaNil)))) (ps.map rowI) [a0, a1, a2, a3, a4, a5, a6, a7, a8, a9, a10, a11, a12, a13, a14, a15, a16, a17, a18, a19, a20, a21, a22, a23] m = .ok (ps.map barI) m
  | [], _ => rfl
  | p :: ps, h => by
    have ih := bars_comp a0 a1 a2 a3 a4 a5 a6 a7 a8 a9 a10 a11 a12 a13 a14 a15 a16 a17 a18 a19 a20 a21 a22 a23 m ps fun q hq => h q (List.mem_cons_of_mem _ hq)
    have hp := mk_ok (h p List.mem_cons_self).bar
    rw [List.map_cons, compD]
    simp (config := { decide := true, failIfUnchanged := false }) only [gSeq, gNx, gBk, gCt, gIfS, gRet, gRetN, gExpr, gSet, gOwn, ggName, ggNil, ggCons, ggTup, gAsg, gPar, gFrz, gApp, gExt, gAug, loopS, gRaise, bindS, gC, gVar, gBor, gBin, gUn, asB, gtV, gV, gtNot, gtAnd, gtOr, gIf, gtChain, gaNil, gaCons, gTup, gLst, gCB, f1, f2, gCall, gArgs, gMeth, gMakeF, gLim, gLstN, gNewM, gSlT, gSlL, gpN, gpS, gFldS, gIxS, gIxO, gPar3, gParO, gParQ, RE.bind, opt, frzE, nx, gtYes, gIt, asL_lst, asT_tup, wipeE, cInt_i, cInt_b, fAdd_ii, fSub_ii, fLt_ii, fLe_ii, fGt_ii, fGe_ii, fEq_ii, fNe_ii, List.getElem?_cons_zero, List.getElem?_cons_succ, List.length_cons, List.length_nil, List.set_cons_zero, List.set_cons_succ, Option.bind_some, Option.map_some, Option.bind_none, if_true, if_false, Bool.not_true, Bool.not_false, reduceIte, Nat.reduceAdd, Nat.reduceEqDiff, lim, Nat.ble_eq, envOf, fnD, endD, List.map_cons, List.map_nil, List.replicate, List.cons_append, List.nil_append, Nat.reduceSub, asB_bl, decide_eq_true_eq, and_true, true_and, and_false, false_and, or_true, true_or, or_false, false_or, not_true_eq_false, not_false_eq_true, ix_r0, ix_r1, hp, ih]
    rfl
theorem zip_rows (ps : List (Int × Int)) : zipD (ps.map barI) (ps.map rowI) = ps.map fun p => .tup [barI p, rowI p] := by
  unfold zipD
  rw [List.zip_map', List.map_map]
  rfl
theorem ev_0_0 (a0 : DL.Slot) (m : List MO) : m_law_0_0 [a0, .val (.ref 0), .un, .un, .un, .un, .un, .un, .un, .un, .un, .un, .un, .un, .un, .un, .un, .un, .un, .un, .un, .un, .un, .un] m = .ok .nx [a0, .val (.ref 0), .own [], .un, .un, .un, .un, .un, .un, .un, .un, .un, .un, .un, .un, .un, .un, .un, .un, .un, .un, .un, .un, .un] m := by
  simp (config := { decide := true, failIfUnchanged := false }) only [gSeq, gNx, gBk, gCt, gIfS, gRet, gRetN, gExpr, gSet, gOwn, ggName, ggNil, ggCons, ggTup, gAsg, gPar, gFrz, gApp, gExt, gAug, loopS, gRaise, bindS, gC, gVar, gBor, gBin, gUn, asB, gtV, gV, gtNot, gtAnd, gtOr, gIf, gtChain, gaNil, gaCons, gTup, gLst, gCB, f1, f2, gCall, gArgs, gMeth, gMakeF, gLim, gLstN, gNewM, gSlT, gSlL, gpN, gpS, gFldS, gIxS, gIxO, gPar3, gParO, gParQ, RE.bind, opt, frzE, nx, gtYes, gIt, asL_lst, asT_tup, wipeE, cInt_i, cInt_b, fAdd_ii, fSub_ii, fLt_ii, fLe_ii, fGt_ii, fGe_ii, fEq_ii, fNe_ii, List.getElem?_cons_zero, List.getElem?_cons_succ, List.length_cons, List.length_nil, List.set_cons_zero, List.set_cons_succ, Option.bind_some, Option.map_some, Option.bind_none, if_true, if_false, Bool.not_true, Bool.not_false, reduceIte, Nat.reduceAdd, Nat.reduceEqDiff, lim, Nat.ble_eq, envOf, fnD, endD, List.map_cons, List.map_nil, List.replicate, List.cons_append, List.nil_append, Nat.reduceSub, asB_bl, decide_eq_true_eq, and_true, true_and, and_false, false_and, or_true, true_or, or_false, false_or, not_true_eq_false, not_false_eq_true, m_law_0_0]
theorem ev_0_1 (a0 : DL.Slot) (t : Int × Int × Int) : ∃ (ps : List (Int × Int)) (t' : Int × Int × Int) (b3 b4 : DL.Slot), m_law_0_1 [a0, .val (.ref 0), .own [], .un, .un, .un, .un, .un, .un, .un, .un, .un, .un, .un, .un, .un, .un, .un, .un, .un, .un, .un, .un, .un] (DM t) = .ok .nx [a0, .val (.ref 0), .own (ps.map rowI), b3, b4, .un, .un, .un, .un, .un, .un, .un, .un, .un, .un, .un, .un, .un, .un, .un, .un, .un, .un, .un] (DM t') ∧ 1 ≤ ps.length ∧ ps.length ≤ 6 ∧ ∀ p ∈ ps, okP p := by
  obtain ⟨r, t1, e1, ra, rb⟩ := roll_ok t 6 (by decide) (by decide)
  have hr : okR (1 + r) = true := okR_small (by omega) (by omega)
  obtain ⟨ps, t', b3, b4, e3, e4, e5⟩ := draws a0 (rng 0 (1 + r)) [] t1 .un .un (by rw [rng_length]; simp only [List.length_nil]; omega) (fun p hp => by cases hp)
  rw [rng_length, List.length_nil] at e4
  refine ⟨ps, t', b3, b4, ?_, by omega, by omega, e5⟩
  unfold m_law_0_1 gFor gRng1
  simp (config := { decide := true, failIfUnchanged := false }) only [gSeq, gNx, gBk, gCt, gIfS, gRet, gRetN, gExpr, gSet, gOwn, ggName, ggNil, ggCons, ggTup, gAsg, gPar, gFrz, gApp, gExt, gAug, loopS, gRaise, bindS, gC, gVar, gBor, gBin, gUn, asB, gtV, gV, gtNot, gtAnd, gtOr, gIf, gtChain, gaNil, gaCons, gTup, gLst, gCB, f1, f2, gCall, gArgs, gMeth, gMakeF, gLim, gLstN, gNewM, gSlT, gSlL, gpN, gpS, gFldS, gIxS, gIxO, gPar3, gParO, gParQ, RE.bind, opt, frzE, nx, gtYes, gIt, asL_lst, asT_tup, wipeE, cInt_i, cInt_b, fAdd_ii, fSub_ii, fLt_ii, fLe_ii, fGt_ii, fGe_ii, fEq_ii, fNe_ii, List.getElem?_cons_zero, List.getElem?_cons_succ, List.length_cons, List.length_nil, List.set_cons_zero, List.set_cons_succ, Option.bind_some, Option.map_some, Option.bind_none, if_true, if_false, Bool.not_true, Bool.not_false, reduceIte, Nat.reduceAdd, Nat.reduceEqDiff, lim, Nat.ble_eq, envOf, fnD, endD, List.map_cons, List.map_nil, List.replicate, List.cons_append, List.nil_append, Nat.reduceSub, asB_bl, decide_eq_true_eq, and_true, true_and, and_false, false_and, or_true, true_or, or_false, false_or, not_true_eq_false, not_false_eq_true, e1, hr]
  exact e3
theorem ev_0_2 (a0 a3 a4 : DL.Slot) (m : List MO) (ps : List (Int × Int)) (hl : ps.length ≤ 100) (h : ∀ p ∈ ps, okP p) : m_law_0_2 [a0, .val (.ref 0), .own (ps.map rowI), a3, a4, .un, .un, .un, .un, .un, .un, .un, .un, .un, .un, .un, .un, .un, .un, .un, .un, .un, .un, .un] m = .ok .nx [a0, .val (.ref 0), .val (.lst (ps.map rowI)), a3, a4, .val (.lst (ps.map barI)), .un, .un, .un, .un, .un, .un, .un, .un, .un, .un, .un, .un, .un, .un, .un, .un, .un, .un] m := by
  have hz : ps.length ≤ 1000000 := by omega
  simp (config := { decide := true, failIfUnchanged := false }) only [gSeq, gNx, gBk, gCt, gIfS, gRet, gRetN, gExpr, gSet, gOwn, ggName, ggNil, ggCons, ggTup, gAsg, gPar, gFrz, gApp, gExt, gAug, loopS, gRaise, bindS, gC, gVar, gBor, gBin, gUn, asB, gtV, gV, gtNot, gtAnd, gtOr, gIf, gtChain, gaNil, gaCons, gTup, gLst, gCB, f1, f2, gCall, gArgs, gMeth, gMakeF, gLim, gLstN, gNewM, gSlT, gSlL, gpN, gpS, gFldS, gIxS, gIxO, gPar3, gParO, gParQ, RE.bind, opt, frzE, nx, gtYes, gIt, asL_lst, asT_tup, wipeE, cInt_i, cInt_b, fAdd_ii, fSub_ii, fLt_ii, fLe_ii, fGt_ii, fGe_ii, fEq_ii, fNe_ii, List.getElem?_cons_zero, List.getElem?_cons_succ, List.length_cons, List.length_nil, List.set_cons_zero, List.set_cons_succ, Option.bind_some, Option.map_some, Option.bind_none, if_true, if_false, Bool.not_true, Bool.not_false, reduceIte, Nat.reduceAdd, Nat.reduceEqDiff, lim, Nat.ble_eq, envOf, fnD, endD, List.map_cons, List.map_nil, List.replicate, List.cons_append, List.nil_append, Nat.reduceSub, asB_bl, decide_eq_true_eq, and_true, true_and, and_false, false_and, or_true, true_or, or_false, false_or, not_true_eq_false, not_false_eq_true, m_law_0_2, gComp, List.length_map, hz, bars_comp _ _ _ _ _ _ _ _ _ _ _ _ _ _ _ _ _ _ _ _ _ _ _ _ m ps h]
end K01
/-! P11: the law: one bar. -/
namespace K01
open PySem PySem.Spec DL
/-! what is compared -/
theorem fNe_self {m : List MO} {d : DL.D} {p : PyData} (h : toP m fuelP d = some p) : fNe m d d = some (.bl false) := by
  have e : PyData.eqv p p = true := SeqAt.eqv_refl_plain p (toP_ok h).1
  show (toP m fuelP d).bind (fun p => (toP m fuelP d).bind fun q => if alkT p q = true then some (DL.D.bl (!PyData.eqv p q)) else none) = _
  rw [h]
  show (if alkT p p = true then some (DL.D.bl (!PyData.eqv p p)) else none) = _
  rw [e]
  rfl
theorem fEq_self {m : List MO} {d : DL.D} {p : PyData} (h : toP m fuelP d = some p) : fEq m d d = some (.bl true) := by
  have e : PyData.eqv p p = true := SeqAt.eqv_refl_plain p (toP_ok h).1
  show (toP m fuelP d).bind (fun p => (toP m fuelP d).bind fun q => if alkT p q = true then some (DL.D.bl (PyData.eqv p q)) else none) = _
  rw [h]
  show (if alkT p p = true then some (DL.D.bl (PyData.eqv p p)) else none) = _
  rw [e]
  rfl
theorem fNe_t2 (m : List MO) (a b : Int) : fNe m (.tup [.int a, .int b]) (.tup [.int a, .int b]) = some (.bl false) := fNe_self (p := .tuple [.int a, .int b]) rfl
theorem fNe_rowI (m : List MO) (a b : Int) : fNe m (.tup [.int a, .int b]) (rowI (a, b)) = some (.bl false) := fNe_t2 m a b
/-! numbers -/
theorem small_l {x y : Int} (h1 : 0 ≤ x) (h2 : x ≤ 1000000) : cMul x y = true := cMul_l (by omega) (by omega)
theorem small_r {x y : Int} (h1 : 0 ≤ y) (h2 : y ≤ 1000000) : cMul x y = true := cMul_r (by omega) (by omega)
structure Lo (p : Int × Int) (P W : Int) : Prop where
  e1 : P * p.1 = p.2 * W
  w1 : 1 ≤ W
  w2 : W ≤ p.1
  p0 : 0 ≤ P
  p1 : P ≤ p.2
  co : ∀ k : Int, 2 ≤ k → ¬ (P % k = 0 ∧ W % k = 0)
theorem lo_of {p : Int × Int} (h : okP p) : Lo p (p.2 / (Int.gcd p.2 p.1 : Int)) (p.1 / (Int.gcd p.2 p.1 : Int)) := by
  obtain ⟨h1, h2, h3, h4⟩ := h
  have g0 : 0 < Int.gcd p.2 p.1 := Int.gcd_pos_of_ne_zero_right _ (by omega)
  generalize hg : (Int.gcd p.2 p.1 : Int) = g
  have g1 : 0 < g := by omega
  have d1 : g ∣ p.2 := by rw [← hg]; exact Int.gcd_dvd_left ..
  have d2 : g ∣ p.1 := by rw [← hg]; exact Int.gcd_dvd_right ..
  obtain ⟨P, hP⟩ := d1
  obtain ⟨W, hW⟩ := d2
  have q1 : p.2 / g = P := by rw [hP]; exact Int.mul_ediv_cancel_left _ (by omega)
  have q2 : p.1 / g = W := by rw [hW]; exact Int.mul_ediv_cancel_left _ (by omega)
  rw [q1, q2]
  have w1 : 1 ≤ W := by
    by_cases hw : 1 ≤ W
    · exact hw
    · have : g * W ≤ 0 := Int.mul_nonpos_of_nonneg_of_nonpos (by omega) (by omega)
      omega
  have p0 : 0 ≤ P := by
    by_cases hp : 0 ≤ P
    · exact hp
    · have : g * P < 0 := Int.mul_neg_of_pos_of_neg g1 (by omega)
      omega
  refine ⟨?_, w1, ?_, p0, ?_, fun k hk ⟨k1, k2⟩ => ?_⟩
  · rw [hP, hW, Int.mul_left_comm, ← Int.mul_assoc]
  · rw [hW]
    have := Int.mul_le_mul_of_nonneg_right (show 1 ≤ g by omega) (show 0 ≤ W by omega)
    omega
  · rw [hP]
    have := Int.mul_le_mul_of_nonneg_right (show 1 ≤ g by omega) p0
    omega
  · obtain ⟨a, ha⟩ := Int.dvd_of_emod_eq_zero k1
    obtain ⟨b, hb⟩ := Int.dvd_of_emod_eq_zero k2
    have c1 : g * k ∣ p.2 := ⟨a, by rw [hP, ha, Int.mul_assoc]⟩
    have c2 : g * k ∣ p.1 := ⟨b, by rw [hW, hb, Int.mul_assoc]⟩
    have c3 : g * k ∣ g := by
      have := Int.dvd_coe_gcd c1 c2
      rw [hg] at this
      exact this
    have c4 := Int.le_of_dvd g1 c3
    have c5 := Int.mul_le_mul_of_nonneg_left hk (show 0 ≤ g by omega)
    omega
/-! the pieces -/
theorem ev_3_0 (a0 a1 a2 a3 a4 a5 a6 a8 a9 a10 a11 a12 a13 a14 a15 a16 a17 a18 a19 a20 a21 a22 a23 : DL.Slot) (m : List MO) (p : Int × Int) (h : okP p) : m_law_0_3_0 [a0, a1, a2, a3, a4, a5, a6, .val (barI p), a8, a9, a10, a11, a12, a13, a14, a15, a16, a17, a18, a19, a20, a21, a22, a23] m = .ok .nx [a0, a1, a2, a3, a4, a5, a6, .val (barI p), .val (.int (p.2 / (Int.gcd p.2 p.1 : Int))), .val (.int (p.1 / (Int.gcd p.2 p.1 : Int))), a10, a11, a12, a13, a14, a15, a16, a17, a18, a19, a20, a21, a22, a23] m := by
  have e : S_fineness [barI p] m = .ok (.tup [.int (p.2 / (Int.gcd p.2 p.1 : Int)), .int (p.1 / (Int.gcd p.2 p.1 : Int))]) m := by
    show (if okBar p.1 p.2 then S_least [.int p.2, .int p.1] m else .no) = _
    rw [if_pos h.bar]
    exact if_pos ⟨h.2.2.1, by have := h.1; omega, by have := h.2.1; omega⟩
  have ef : fldsOf m (barI p) = some (("Bar" : Str), ([("weight", .int p.1), ("fine", .int p.2)] : List (Str × DL.D))) := rfl
  have el : List.lookup ("fineness" : Str) [(("weight" : Str), DL.D.int p.1), ("fine", .int p.2)] = none := rfl
  simp (config := { decide := true, failIfUnchanged := false }) only [gSeq, gNx, gBk, gCt, gIfS, gRet, gRetN, gExpr, gSet, gOwn, ggName, ggNil, ggCons, ggTup, gAsg, gPar, gFrz, gApp, gExt, gAug, loopS, gRaise, bindS, gC, gVar, gBor, gBin, gUn, asB, gtV, gV, gtNot, gtAnd, gtOr, gIf, gtChain, gaNil, gaCons, gTup, gLst, gCB, f1, f2, gCall, gArgs, gMeth, gMakeF, gLim, gLstN, gNewM, gSlT, gSlL, gpN, gpS, gFldS, gIxS, gIxO, gPar3, gParO, gParQ, RE.bind, opt, frzE, nx, gtYes, gIt, asL_lst, asT_tup, wipeE, cInt_i, cInt_b, fAdd_ii, fSub_ii, fLt_ii, fLe_ii, fGt_ii, fGe_ii, fEq_ii, fNe_ii, List.getElem?_cons_zero, List.getElem?_cons_succ, List.length_cons, List.length_nil, List.set_cons_zero, List.set_cons_succ, Option.bind_some, Option.map_some, Option.bind_none, if_true, if_false, Bool.not_true, Bool.not_false, reduceIte, Nat.reduceAdd, Nat.reduceEqDiff, lim, Nat.ble_eq, envOf, fnD, endD, List.map_cons, List.map_nil, List.replicate, List.cons_append, List.nil_append, Nat.reduceSub, asB_bl, decide_eq_true_eq, and_true, true_and, and_false, false_and, or_true, true_or, or_false, false_or, not_true_eq_false, not_false_eq_true, m_law_0_3_0, ef, el, e]
theorem no_common (a0 a1 a2 a3 a4 a5 a6 a7 a10 a11 a12 a13 a14 a15 a16 a17 a18 a19 a20 a21 a22 a23 : DL.Slot) (P W : Int) (m : List MO) : ∀ ks : List Int, (∀ k ∈ ks, 2 ≤ k ∧ ¬ (P % k = 0 ∧ W % k = 0)) →
    compD (ggName 3) (gtAnd (gtV (gBin fEq (gBin fMod (gBor 8) (gBor 3)) (gC (.int 0)))) (gtV (gBin fEq (gBin fMod (gBor 9) (gBor 3)) (gC (.int 0))))) (gVar 3) (ks.map DL.D.int) [a0, a1, a2, a3, a4, a5, a6, a7, .val (.int P), .val (.int W), a10, a11, a12, a13, a14, a15, a16, a17, a18, a19, a20, a21, a22, a23] m = .ok [] m
  | [], _ => rfl
  | k :: ks, h => by
    obtain ⟨h1, h2⟩ := h k List.mem_cons_self
    have ih := no_common a0 a1 a2 a3 a4 a5 a6 a7 a10 a11 a12 a13 a14 a15 a16 a17 a18 a19 a20 a21 a22 a23 P W m ks fun q hq => h q (List.mem_cons_of_mem _ hq)
    have m1 := fMod_ii m P k (by omega)
    have m2 := fMod_ii m W k (by omega)
    rw [List.map_cons, compD]
    by_cases h3 : P % k = 0
    · have h4 : ¬ W % k = 0 := fun z => h2 ⟨h3, z⟩
      simp (config := { decide := true, failIfUnchanged := false }) only [gSeq, gNx, gBk, gCt, gIfS, gRet, gRetN, gExpr, gSet, gOwn, ggName, ggNil, ggCons, ggTup, gAsg, gPar, gFrz, gApp, gExt, gAug, loopS, gRaise, bindS, gC, gVar, gBor, gBin, gUn, asB, gtV, gV, gtNot, gtAnd, gtOr, gIf, gtChain, gaNil, gaCons, gTup, gLst, gCB, f1, f2, gCall, gArgs, gMeth, gMakeF, gLim, gLstN, gNewM, gSlT, gSlL, gpN, gpS, gFldS, gIxS, gIxO, gPar3, gParO, gParQ, RE.bind, opt, frzE, nx, gtYes, gIt, asL_lst, asT_tup, wipeE, cInt_i, cInt_b, fAdd_ii, fSub_ii, fLt_ii, fLe_ii, fGt_ii, fGe_ii, fEq_ii, fNe_ii, List.getElem?_cons_zero, List.getElem?_cons_succ, List.length_cons, List.length_nil, List.set_cons_zero, List.set_cons_succ, Option.bind_some, Option.map_some, Option.bind_none, if_true, if_false, Bool.not_true, Bool.not_false, reduceIte, Nat.reduceAdd, Nat.reduceEqDiff, lim, Nat.ble_eq, envOf, fnD, endD, List.map_cons, List.map_nil, List.replicate, List.cons_append, List.nil_append, Nat.reduceSub, asB_bl, decide_eq_true_eq, and_true, true_and, and_false, false_and, or_true, true_or, or_false, false_or, not_true_eq_false, not_false_eq_true, m1, m2, h3, h4, ih]
    · simp (config := { decide := true, failIfUnchanged := false }) only [gSeq, gNx, gBk, gCt, gIfS, gRet, gRetN, gExpr, gSet, gOwn, ggName, ggNil, ggCons, ggTup, gAsg, gPar, gFrz, gApp, gExt, gAug, loopS, gRaise, bindS, gC, gVar, gBor, gBin, gUn, asB, gtV, gV, gtNot, gtAnd, gtOr, gIf, gtChain, gaNil, gaCons, gTup, gLst, gCB, f1, f2, gCall, gArgs, gMeth, gMakeF, gLim, gLstN, gNewM, gSlT, gSlL, gpN, gpS, gFldS, gIxS, gIxO, gPar3, gParO, gParQ, RE.bind, opt, frzE, nx, gtYes, gIt, asL_lst, asT_tup, wipeE, cInt_i, cInt_b, fAdd_ii, fSub_ii, fLt_ii, fLe_ii, fGt_ii, fGe_ii, fEq_ii, fNe_ii, List.getElem?_cons_zero, List.getElem?_cons_succ, List.length_cons, List.length_nil, List.set_cons_zero, List.set_cons_succ, Option.bind_some, Option.map_some, Option.bind_none, if_true, if_false, Bool.not_true, Bool.not_false, reduceIte, Nat.reduceAdd, Nat.reduceEqDiff, lim, Nat.ble_eq, envOf, fnD, endD, List.map_cons, List.map_nil, List.replicate, List.cons_append, List.nil_append, Nat.reduceSub, asB_bl, decide_eq_true_eq, and_true, true_and, and_false, false_and, or_true, true_or, or_false, false_or, not_true_eq_false, not_false_eq_true, m1, m2, h3, ih]
theorem rng_map (lo hi : Int) : rng lo hi = ((List.range (hi - lo).toNat).map fun (i : Nat) => lo + (i : Int)).map DL.D.int := by
  unfold rng
  rw [List.map_map]
  rfl
theorem ev_3_1 (a0 a1 a2 a3 a4 a5 a10 a11 a12 a13 a14 a15 a16 a17 a18 a19 a20 a21 a22 a23 : DL.Slot) (m : List MO) (p : Int × Int) (P W : Int) (h : okP p) (hP : P = p.2 / (Int.gcd p.2 p.1 : Int)) (hW : W = p.1 / (Int.gcd p.2 p.1 : Int)) (l : Lo p P W) : m_law_0_3_1 [a0, a1, a2, a3, a4, a5, .val (rowI p), .val (barI p), .val (.int P), .val (.int W), a10, a11, a12, a13, a14, a15, a16, a17, a18, a19, a20, a21, a22, a23] m = .ok .nx [a0, a1, a2, a3, a4, a5, .val (rowI p), .val (barI p), .val (.int P), .val (.int W), a10, a11, a12, a13, a14, a15, a16, a17, a18, a19, a20, a21, a22, a23] m := by
  obtain ⟨h1, h2, h3, h4⟩ := h
  obtain ⟨l1, l2, l3, l4, l5, l6⟩ := l
  have eT : S_thousandths [barI p] m = .ok (.int (1000 * p.2 / p.1)) m := if_pos ⟨h1, by omega, h3, h4⟩
  have ef : fldsOf m (barI p) = some (("Bar" : Str), ([("weight", .int p.1), ("fine", .int p.2)] : List (Str × DL.D))) := rfl
  have el : List.lookup ("thousandths" : Str) [(("weight" : Str), DL.D.int p.1), ("fine", .int p.2)] = none := rfl
  have eL : S_least [.int p.2, .int p.1] m = .ok (.tup [.int P, .int W]) m := by
    rw [hP, hW]
    exact if_pos ⟨h3, by omega, by omega⟩
  have eR : gRng2 (gaCons (gC (.int 2)) (gaCons (gBin fAdd (gBor 9) (gC (.int 1))) (gaNil))) [a0, a1, a2, .un, a4, a5, .val (rowI p), .val (barI p), .val (.int P), .val (.int W), a10, a11, a12, a13, a14, a15, a16, a17, a18, a19, a20, a21, a22, a23] m = .ok (rng 2 (W + 1)) m := rng2_of rfl (okR_small (by omega) (by omega)) (okR_small (by omega) (by omega))
  have eR' : gRng2 (gaCons (gC (.int 2)) (gaCons (gBin fAdd (gBor 9) (gC (.int 1))) (gaNil))) [a0, a1, a2, a3, a4, a5, .val (rowI p), .val (barI p), .val (.int P), .val (.int W), a10, a11, a12, a13, a14, a15, a16, a17, a18, a19, a20, a21, a22, a23] m = .ok (rng 2 (W + 1)) m := rng2_of rfl (okR_small (by omega) (by omega)) (okR_small (by omega) (by omega))
  have hlen : (rng 2 (W + 1)).length ≤ 1000000 := by
    rw [rng_length]
    omega
  have eC : compD (ggName 3) (gtAnd (gtV (gBin fEq (gBin fMod (gBor 8) (gBor 3)) (gC (.int 0)))) (gtV (gBin fEq (gBin fMod (gBor 9) (gBor 3)) (gC (.int 0))))) (gVar 3) (rng 2 (W + 1)) [a0, a1, a2, .un, a4, a5, .val (rowI p), .val (barI p), .val (.int P), .val (.int W), a10, a11, a12, a13, a14, a15, a16, a17, a18, a19, a20, a21, a22, a23] m = .ok [] m := by
    rw [rng_map]
    refine no_common _ _ _ _ _ _ _ _ _ _ _ _ _ _ _ _ _ _ _ _ _ _ P W m _ fun k hk => ?_
    obtain ⟨i, _, rfl⟩ := List.mem_map.mp hk
    exact ⟨by omega, l6 _ (by omega)⟩
  have eG : gComp [3] (gRng2 (gaCons (gC (.int 2)) (gaCons (gBin fAdd (gBor 9) (gC (.int 1))) (gaNil)))) (ggName 3) (gtAnd (gtV (gBin fEq (gBin fMod (gBor 8) (gBor 3)) (gC (.int 0)))) (gtV (gBin fEq (gBin fMod (gBor 9) (gBor 3)) (gC (.int 0))))) (gVar 3) [a0, a1, a2, a3, a4, a5, .val (rowI p), .val (barI p), .val (.int P), .val (.int W), a10, a11, a12, a13, a14, a15, a16, a17, a18, a19, a20, a21, a22, a23] m = .ok [] m := by
    unfold gComp
    rw [eR']
    show (if lim (rng 2 (W + 1)).length = true then _ else _) = _
    rw [if_pos (show lim (rng 2 (W + 1)).length = true from Nat.ble_eq_true_of_le hlen)]
    exact eC
  have m1 := fMul_ii m P p.1 (small_r (by omega) (by omega))
  have m2 := fMul_ii m p.2 W (small_r (by omega) (by omega))
  have m3 := fMul_ii m p.2 1000 (small_r (by omega) (by omega))
  have m4 := fDiv_ii m (p.2 * 1000) p.1 (by omega) (by omega)
  have eE : fNe m (.lst []) (.lst []) = some (.bl false) := rfl
  have ec : 1000 * p.2 / p.1 = p.2 * 1000 / p.1 := by rw [Int.mul_comm]
  rw [m_law_0_3_1]
  simp (config := { decide := true, failIfUnchanged := false }) only [gSeq, gNx, gBk, gCt, gIfS, gRet, gRetN, gExpr, gSet, gOwn, ggName, ggNil, ggCons, ggTup, gAsg, gPar, gFrz, gApp, gExt, gAug, loopS, gRaise, bindS, gC, gVar, gBor, gBin, gUn, asB, gtV, gV, gtNot, gtAnd, gtOr, gIf, gtChain, gaNil, gaCons, gTup, gLst, gCB, f1, f2, gCall, gArgs, gMeth, gMakeF, gLim, gLstN, gNewM, gSlT, gSlL, gpN, gpS, gFldS, gIxS, gIxO, gPar3, gParO, gParQ, RE.bind, opt, frzE, nx, gtYes, gIt, asL_lst, asT_tup, wipeE, cInt_i, cInt_b, fAdd_ii, fSub_ii, fLt_ii, fLe_ii, fGt_ii, fGe_ii, fEq_ii, fNe_ii, List.getElem?_cons_zero, List.getElem?_cons_succ, List.length_cons, List.length_nil, List.set_cons_zero, List.set_cons_succ, Option.bind_some, Option.map_some, Option.bind_none, if_true, if_false, Bool.not_true, Bool.not_false, reduceIte, Nat.reduceAdd, Nat.reduceEqDiff, lim, Nat.ble_eq, envOf, fnD, endD, List.map_cons, List.map_nil, List.replicate, List.cons_append, List.nil_append, Nat.reduceSub, asB_bl, decide_eq_true_eq, and_true, true_and, and_false, false_and, or_true, true_or, or_false, false_or, not_true_eq_false, not_false_eq_true, ix_r0, ix_r1, m1, m2, m3, m4, l1, eG, eE, eT, ec, ef, el, eL, fNe_t2]
end K01
/-! P12: the law: one bar, cut and coppered. -/
namespace K01
open PySem PySem.Spec DL
theorem ev_3_2 (a0 a2 a3 a5 a7 a8 a9 a10 a11 a12 a13 a14 a15 a16 a17 a18 a19 a20 a21 a22 a23 : DL.Slot) (t : Int × Int × Int) (a4 : DL.Slot) (p : Int × Int) (h : okP p) : ∃ (q : Int) (t' : Int × Int × Int), m_law_0_3_2 [a0, .val (.ref 0), a2, a3, a4, a5, .val (rowI p), a7, a8, a9, a10, a11, a12, a13, a14, a15, a16, a17, a18, a19, a20, a21, a22, a23] (DM t) = .ok .nx [a0, .val (.ref 0), a2, a3, .val (.int q), a5, .val (rowI p), a7, a8, a9, a10, a11, a12, a13, a14, a15, a16, a17, a18, a19, a20, a21, a22, a23] (DM t') ∧ 1 ≤ q ∧ q ≤ p.1 := by
  obtain ⟨h1, h2, h3, h4⟩ := h
  obtain ⟨r, t', e, ra, rb⟩ := roll_ok t p.1 (by omega) (by omega)
  refine ⟨1 + r, t', ?_, by omega, by omega⟩
  simp (config := { decide := true, failIfUnchanged := false }) only [gSeq, gNx, gBk, gCt, gIfS, gRet, gRetN, gExpr, gSet, gOwn, ggName, ggNil, ggCons, ggTup, gAsg, gPar, gFrz, gApp, gExt, gAug, loopS, gRaise, bindS, gC, gVar, gBor, gBin, gUn, asB, gtV, gV, gtNot, gtAnd, gtOr, gIf, gtChain, gaNil, gaCons, gTup, gLst, gCB, f1, f2, gCall, gArgs, gMeth, gMakeF, gLim, gLstN, gNewM, gSlT, gSlL, gpN, gpS, gFldS, gIxS, gIxO, gPar3, gParO, gParQ, RE.bind, opt, frzE, nx, gtYes, gIt, asL_lst, asT_tup, wipeE, cInt_i, cInt_b, fAdd_ii, fSub_ii, fLt_ii, fLe_ii, fGt_ii, fGe_ii, fEq_ii, fNe_ii, List.getElem?_cons_zero, List.getElem?_cons_succ, List.length_cons, List.length_nil, List.set_cons_zero, List.set_cons_succ, Option.bind_some, Option.map_some, Option.bind_none, if_true, if_false, Bool.not_true, Bool.not_false, reduceIte, Nat.reduceAdd, Nat.reduceEqDiff, lim, Nat.ble_eq, envOf, fnD, endD, List.map_cons, List.map_nil, List.replicate, List.cons_append, List.nil_append, Nat.reduceSub, asB_bl, decide_eq_true_eq, and_true, true_and, and_false, false_and, or_true, true_or, or_false, false_or, not_true_eq_false, not_false_eq_true, m_law_0_3_2, ix_r0, e]
def restD (p : Int × Int) (q : Int) : DL.D := if q < p.1 then bar (p.1 - q) (p.2 - p.2 * q / p.1) else .non
def leftI (p : Int × Int) (q : Int) : Int × Int := if q < p.1 then (p.1 - q, p.2 - p.2 * q / p.1) else (0, 0)
theorem ev_3_3 (a0 a1 a2 a3 a5 a6 a8 a9 a10 a11 a12 a13 a14 a15 a16 a17 a18 a19 a20 a21 a22 a23 : DL.Slot) (m : List MO) (p : Int × Int) (q : Int) (h : okP p) (q1 : 1 ≤ q) (q2 : q ≤ p.1) : m_law_0_3_3 [a0, a1, a2, a3, .val (.int q), a5, a6, .val (barI p), a8, a9, a10, a11, a12, a13, a14, a15, a16, a17, a18, a19, a20, a21, a22, a23] m = .ok .nx [a0, a1, a2, a3, .val (.int q), a5, a6, .val (barI p), a8, a9, .val (bar q (p.2 * q / p.1)), .val (restD p q), a12, a13, a14, a15, a16, a17, a18, a19, a20, a21, a22, a23] m := by
  have e : S_cut [barI p, .int q] m = .ok (.tup [bar q (p.2 * q / p.1), restD p q]) m := by
    show (if okBar p.1 p.2 then (if 1 ≤ q ∧ q ≤ p.1 then _ else _) else _) = _
    rw [if_pos h.bar, if_pos ⟨q1, q2⟩]
    rfl
  simp (config := { decide := true, failIfUnchanged := false }) only [gSeq, gNx, gBk, gCt, gIfS, gRet, gRetN, gExpr, gSet, gOwn, ggName, ggNil, ggCons, ggTup, gAsg, gPar, gFrz, gApp, gExt, gAug, loopS, gRaise, bindS, gC, gVar, gBor, gBin, gUn, asB, gtV, gV, gtNot, gtAnd, gtOr, gIf, gtChain, gaNil, gaCons, gTup, gLst, gCB, f1, f2, gCall, gArgs, gMeth, gMakeF, gLim, gLstN, gNewM, gSlT, gSlL, gpN, gpS, gFldS, gIxS, gIxO, gPar3, gParO, gParQ, RE.bind, opt, frzE, nx, gtYes, gIt, asL_lst, asT_tup, wipeE, cInt_i, cInt_b, fAdd_ii, fSub_ii, fLt_ii, fLe_ii, fGt_ii, fGe_ii, fEq_ii, fNe_ii, List.getElem?_cons_zero, List.getElem?_cons_succ, List.length_cons, List.length_nil, List.set_cons_zero, List.set_cons_succ, Option.bind_some, Option.map_some, Option.bind_none, if_true, if_false, Bool.not_true, Bool.not_false, reduceIte, Nat.reduceAdd, Nat.reduceEqDiff, lim, Nat.ble_eq, envOf, fnD, endD, List.map_cons, List.map_nil, List.replicate, List.cons_append, List.nil_append, Nat.reduceSub, asB_bl, decide_eq_true_eq, and_true, true_and, and_false, false_and, or_true, true_or, or_false, false_or, not_true_eq_false, not_false_eq_true, m_law_0_3_3, e]
theorem ev_3_4 (a0 a1 a2 a3 a4 a5 a6 a7 a8 a9 a10 a12 a13 a14 a15 a16 a17 a18 a19 a20 a21 a22 a23 : DL.Slot) (m : List MO) (p : Int × Int) (q : Int) : m_law_0_3_4 [a0, a1, a2, a3, a4, a5, a6, a7, a8, a9, a10, .val (restD p q), a12, a13, a14, a15, a16, a17, a18, a19, a20, a21, a22, a23] m = .ok .nx [a0, a1, a2, a3, a4, a5, a6, a7, a8, a9, a10, .val (restD p q), .val (rowI (leftI p q)), a13, a14, a15, a16, a17, a18, a19, a20, a21, a22, a23] m := by
  unfold restD leftI
  by_cases h : q < p.1
  · rw [if_pos h, if_pos h]
    have e : fNotN m (bar (p.1 - q) (p.2 - p.2 * q / p.1)) .non = some (.bl true) := rfl
    simp (config := { decide := true, failIfUnchanged := false }) only [gSeq, gNx, gBk, gCt, gIfS, gRet, gRetN, gExpr, gSet, gOwn, ggName, ggNil, ggCons, ggTup, gAsg, gPar, gFrz, gApp, gExt, gAug, loopS, gRaise, bindS, gC, gVar, gBor, gBin, gUn, asB, gtV, gV, gtNot, gtAnd, gtOr, gIf, gtChain, gaNil, gaCons, gTup, gLst, gCB, f1, f2, gCall, gArgs, gMeth, gMakeF, gLim, gLstN, gNewM, gSlT, gSlL, gpN, gpS, gFldS, gIxS, gIxO, gPar3, gParO, gParQ, RE.bind, opt, frzE, nx, gtYes, gIt, asL_lst, asT_tup, wipeE, cInt_i, cInt_b, fAdd_ii, fSub_ii, fLt_ii, fLe_ii, fGt_ii, fGe_ii, fEq_ii, fNe_ii, List.getElem?_cons_zero, List.getElem?_cons_succ, List.length_cons, List.length_nil, List.set_cons_zero, List.set_cons_succ, Option.bind_some, Option.map_some, Option.bind_none, if_true, if_false, Bool.not_true, Bool.not_false, reduceIte, Nat.reduceAdd, Nat.reduceEqDiff, lim, Nat.ble_eq, envOf, fnD, endD, List.map_cons, List.map_nil, List.replicate, List.cons_append, List.nil_append, Nat.reduceSub, asB_bl, decide_eq_true_eq, and_true, true_and, and_false, false_and, or_true, true_or, or_false, false_or, not_true_eq_false, not_false_eq_true, m_law_0_3_4, e, bar_w, bar_f]
    rfl
  · rw [if_neg h, if_neg h]
    have e : fNotN m .non .non = some (.bl false) := rfl
    simp (config := { decide := true, failIfUnchanged := false }) only [gSeq, gNx, gBk, gCt, gIfS, gRet, gRetN, gExpr, gSet, gOwn, ggName, ggNil, ggCons, ggTup, gAsg, gPar, gFrz, gApp, gExt, gAug, loopS, gRaise, bindS, gC, gVar, gBor, gBin, gUn, asB, gtV, gV, gtNot, gtAnd, gtOr, gIf, gtChain, gaNil, gaCons, gTup, gLst, gCB, f1, f2, gCall, gArgs, gMeth, gMakeF, gLim, gLstN, gNewM, gSlT, gSlL, gpN, gpS, gFldS, gIxS, gIxO, gPar3, gParO, gParQ, RE.bind, opt, frzE, nx, gtYes, gIt, asL_lst, asT_tup, wipeE, cInt_i, cInt_b, fAdd_ii, fSub_ii, fLt_ii, fLe_ii, fGt_ii, fGe_ii, fEq_ii, fNe_ii, List.getElem?_cons_zero, List.getElem?_cons_succ, List.length_cons, List.length_nil, List.set_cons_zero, List.set_cons_succ, Option.bind_some, Option.map_some, Option.bind_none, if_true, if_false, Bool.not_true, Bool.not_false, reduceIte, Nat.reduceAdd, Nat.reduceEqDiff, lim, Nat.ble_eq, envOf, fnD, endD, List.map_cons, List.map_nil, List.replicate, List.cons_append, List.nil_append, Nat.reduceSub, asB_bl, decide_eq_true_eq, and_true, true_and, and_false, false_and, or_true, true_or, or_false, false_or, not_true_eq_false, not_false_eq_true, m_law_0_3_4, e]
    rfl
theorem left_w (p : Int × Int) (q : Int) (q2 : q ≤ p.1) : q + (leftI p q).1 = p.1 := by
  unfold leftI
  by_cases h : q < p.1
  · rw [if_pos h]
    show q + (p.1 - q) = p.1
    omega
  · rw [if_neg h]
    show q + 0 = p.1
    omega
theorem left_f (p : Int × Int) (q : Int) (q1 : 1 ≤ q) (q2 : q ≤ p.1) : p.2 * q / p.1 + (leftI p q).2 = p.2 := by
  unfold leftI
  by_cases h : q < p.1
  · rw [if_pos h]
    show p.2 * q / p.1 + (p.2 - p.2 * q / p.1) = p.2
    omega
  · rw [if_neg h]
    have e : q = p.1 := by omega
    rw [e, Int.mul_ediv_cancel _ (by omega)]
    show p.2 + 0 = p.2
    omega
theorem ev_3_5 (a0 a1 a2 a3 a5 a7 a8 a9 a11 a13 a14 a15 a16 a17 a18 a19 a20 a21 a22 a23 : DL.Slot) (m : List MO) (p : Int × Int) (q : Int) (h : okP p) (q1 : 1 ≤ q) (q2 : q ≤ p.1) : m_law_0_3_5 [a0, a1, a2, a3, .val (.int q), a5, .val (rowI p), a7, a8, a9, .val (bar q (p.2 * q / p.1)), a11, .val (rowI (leftI p q)), a13, a14, a15, a16, a17, a18, a19, a20, a21, a22, a23] m = .ok .nx [a0, a1, a2, a3, .val (.int q), a5, .val (rowI p), a7, a8, a9, .val (bar q (p.2 * q / p.1)), a11, .val (rowI (leftI p q)), a13, a14, a15, a16, a17, a18, a19, a20, a21, a22, a23] m := by
  obtain ⟨h1, h2, h3, h4⟩ := h
  have m1 := fMul_ii m p.2 q (small_r (by omega) (by omega))
  have m2 := fDiv_ii m (p.2 * q) p.1 (by omega) (by omega)
  have e1 := left_w p q q2
  have e2 := left_f p q q1 q2
  have e3 : fNe m (.tup [.int p.1, .int p.2]) (rowI p) = some (.bl false) := fNe_t2 m p.1 p.2
  simp (config := { decide := true, failIfUnchanged := false }) only [gSeq, gNx, gBk, gCt, gIfS, gRet, gRetN, gExpr, gSet, gOwn, ggName, ggNil, ggCons, ggTup, gAsg, gPar, gFrz, gApp, gExt, gAug, loopS, gRaise, bindS, gC, gVar, gBor, gBin, gUn, asB, gtV, gV, gtNot, gtAnd, gtOr, gIf, gtChain, gaNil, gaCons, gTup, gLst, gCB, f1, f2, gCall, gArgs, gMeth, gMakeF, gLim, gLstN, gNewM, gSlT, gSlL, gpN, gpS, gFldS, gIxS, gIxO, gPar3, gParO, gParQ, RE.bind, opt, frzE, nx, gtYes, gIt, asL_lst, asT_tup, wipeE, cInt_i, cInt_b, fAdd_ii, fSub_ii, fLt_ii, fLe_ii, fGt_ii, fGe_ii, fEq_ii, fNe_ii, List.getElem?_cons_zero, List.getElem?_cons_succ, List.length_cons, List.length_nil, List.set_cons_zero, List.set_cons_succ, Option.bind_some, Option.map_some, Option.bind_none, if_true, if_false, Bool.not_true, Bool.not_false, reduceIte, Nat.reduceAdd, Nat.reduceEqDiff, lim, Nat.ble_eq, envOf, fnD, endD, List.map_cons, List.map_nil, List.replicate, List.cons_append, List.nil_append, Nat.reduceSub, asB_bl, decide_eq_true_eq, and_true, true_and, and_false, false_and, or_true, true_or, or_false, false_or, not_true_eq_false, not_false_eq_true, m_law_0_3_5, ix_r0, ix_r1, bar_w, bar_f, m1, m2, fNe_t2, e1, e2, e3]
theorem ev_3_67 (a0 a2 a3 a4 a5 a6 a7 a10 a11 a12 a13 a14 a15 a16 a17 a18 a19 a20 a21 a22 a23 : DL.Slot) (t : Int × Int × Int) (a8 a9 : DL.Slot) (g : GS) : ∃ (P Q : Int) (t' : Int × Int × Int), gSeq m_law_0_3_6 (gSeq m_law_0_3_7 g) [a0, .val (.ref 0), a2, a3, a4, a5, a6, a7, a8, a9, a10, a11, a12, a13, a14, a15, a16, a17, a18, a19, a20, a21, a22, a23] (DM t) = g [a0, .val (.ref 0), a2, a3, a4, a5, a6, a7, .val (.int P), .val (.int Q), a10, a11, a12, a13, a14, a15, a16, a17, a18, a19, a20, a21, a22, a23] (DM t') ∧ 1 ≤ P ∧ P ≤ Q ∧ Q ≤ 12 := by
  obtain ⟨r, t1, e, ra, rb⟩ := roll_ok t 12 (by omega) (by omega)
  obtain ⟨r2, t2, e2, r2a, r2b⟩ := roll_ok t1 (1 + r) (by omega) (by omega)
  refine ⟨1 + r2, 1 + r, t2, ?_, by omega, by omega, by omega⟩
  simp (config := { decide := true, failIfUnchanged := false }) only [gSeq, gNx, gBk, gCt, gIfS, gRet, gRetN, gExpr, gSet, gOwn, ggName, ggNil, ggCons, ggTup, gAsg, gPar, gFrz, gApp, gExt, gAug, loopS, gRaise, bindS, gC, gVar, gBor, gBin, gUn, asB, gtV, gV, gtNot, gtAnd, gtOr, gIf, gtChain, gaNil, gaCons, gTup, gLst, gCB, f1, f2, gCall, gArgs, gMeth, gMakeF, gLim, gLstN, gNewM, gSlT, gSlL, gpN, gpS, gFldS, gIxS, gIxO, gPar3, gParO, gParQ, RE.bind, opt, frzE, nx, gtYes, gIt, asL_lst, asT_tup, wipeE, cInt_i, cInt_b, fAdd_ii, fSub_ii, fLt_ii, fLe_ii, fGt_ii, fGe_ii, fEq_ii, fNe_ii, List.getElem?_cons_zero, List.getElem?_cons_succ, List.length_cons, List.length_nil, List.set_cons_zero, List.set_cons_succ, Option.bind_some, Option.map_some, Option.bind_none, if_true, if_false, Bool.not_true, Bool.not_false, reduceIte, Nat.reduceAdd, Nat.reduceEqDiff, lim, Nat.ble_eq, envOf, fnD, endD, List.map_cons, List.map_nil, List.replicate, List.cons_append, List.nil_append, Nat.reduceSub, asB_bl, decide_eq_true_eq, and_true, true_and, and_false, false_and, or_true, true_or, or_false, false_or, not_true_eq_false, not_false_eq_true, m_law_0_3_6, m_law_0_3_7, e, e2]
theorem ev_3_8 (a0 a1 a2 a3 a4 a5 a7 a10 a11 a12 a13 a14 a15 a16 a17 a18 a19 a20 a21 a22 a23 : DL.Slot) (m : List MO) (p : Int × Int) (P Q : Int) (h : okP p) (p1 : 1 ≤ P) (p2 : P ≤ Q) (p3 : Q ≤ 12) : m_law_0_3_8 [a0, a1, a2, a3, a4, a5, .val (rowI p), a7, .val (.int P), .val (.int Q), a10, a11, a12, a13, a14, a15, a16, a17, a18, a19, a20, a21, a22, a23] m = .ok .nx [a0, a1, a2, a3, a4, a5, .val (rowI p), a7, .val (.int P), .val (.int Q), a10, a11, a12, .val (.bl (decide (p.2 * Q ≥ P * p.1))), a14, a15, a16, a17, a18, a19, a20, a21, a22, a23] m := by
  have m1 := fMul_ii m p.2 Q (small_r (by omega) (by omega))
  have m2 := fMul_ii m P p.1 (small_l (by omega) (by omega))
  simp (config := { decide := true, failIfUnchanged := false }) only [gSeq, gNx, gBk, gCt, gIfS, gRet, gRetN, gExpr, gSet, gOwn, ggName, ggNil, ggCons, ggTup, gAsg, gPar, gFrz, gApp, gExt, gAug, loopS, gRaise, bindS, gC, gVar, gBor, gBin, gUn, asB, gtV, gV, gtNot, gtAnd, gtOr, gIf, gtChain, gaNil, gaCons, gTup, gLst, gCB, f1, f2, gCall, gArgs, gMeth, gMakeF, gLim, gLstN, gNewM, gSlT, gSlL, gpN, gpS, gFldS, gIxS, gIxO, gPar3, gParO, gParQ, RE.bind, opt, frzE, nx, gtYes, gIt, asL_lst, asT_tup, wipeE, cInt_i, cInt_b, fAdd_ii, fSub_ii, fLt_ii, fLe_ii, fGt_ii, fGe_ii, fEq_ii, fNe_ii, List.getElem?_cons_zero, List.getElem?_cons_succ, List.length_cons, List.length_nil, List.set_cons_zero, List.set_cons_succ, Option.bind_some, Option.map_some, Option.bind_none, if_true, if_false, Bool.not_true, Bool.not_false, reduceIte, Nat.reduceAdd, Nat.reduceEqDiff, lim, Nat.ble_eq, envOf, fnD, endD, List.map_cons, List.map_nil, List.replicate, List.cons_append, List.nil_append, Nat.reduceSub, asB_bl, decide_eq_true_eq, and_true, true_and, and_false, false_and, or_true, true_or, or_false, false_or, not_true_eq_false, not_false_eq_true, m_law_0_3_8, ix_r0, ix_r1, m1, m2]
theorem ev_3_9 (a0 a1 a2 a3 a4 a5 a6 a7 a8 a9 a10 a11 a12 a13 a14 a15 a16 a17 a18 a19 a20 a21 a22 a23 : DL.Slot) (m : List MO) : m_law_0_3_9 [a0, a1, a2, a3, a4, a5, a6, a7, a8, a9, a10, a11, a12, a13, a14, a15, a16, a17, a18, a19, a20, a21, a22, a23] m = .ok .nx [a0, a1, a2, a3, a4, a5, a6, a7, a8, a9, a10, a11, a12, a13, .val (.int 0), a15, a16, a17, a18, a19, a20, a21, a22, a23] m := by
  simp (config := { decide := true, failIfUnchanged := false }) only [gSeq, gNx, gBk, gCt, gIfS, gRet, gRetN, gExpr, gSet, gOwn, ggName, ggNil, ggCons, ggTup, gAsg, gPar, gFrz, gApp, gExt, gAug, loopS, gRaise, bindS, gC, gVar, gBor, gBin, gUn, asB, gtV, gV, gtNot, gtAnd, gtOr, gIf, gtChain, gaNil, gaCons, gTup, gLst, gCB, f1, f2, gCall, gArgs, gMeth, gMakeF, gLim, gLstN, gNewM, gSlT, gSlL, gpN, gpS, gFldS, gIxS, gIxO, gPar3, gParO, gParQ, RE.bind, opt, frzE, nx, gtYes, gIt, asL_lst, asT_tup, wipeE, cInt_i, cInt_b, fAdd_ii, fSub_ii, fLt_ii, fLe_ii, fGt_ii, fGe_ii, fEq_ii, fNe_ii, List.getElem?_cons_zero, List.getElem?_cons_succ, List.length_cons, List.length_nil, List.set_cons_zero, List.set_cons_succ, Option.bind_some, Option.map_some, Option.bind_none, if_true, if_false, Bool.not_true, Bool.not_false, reduceIte, Nat.reduceAdd, Nat.reduceEqDiff, lim, Nat.ble_eq, envOf, fnD, endD, List.map_cons, List.map_nil, List.replicate, List.cons_append, List.nil_append, Nat.reduceSub, asB_bl, decide_eq_true_eq, and_true, true_and, and_false, false_and, or_true, true_or, or_false, false_or, not_true_eq_false, not_false_eq_true, m_law_0_3_9]
/-! the copper -/
def copI (p : Int × Int) (P Q : Int) : Int := 0 - (0 - p.2 * Q) / P - p.1
theorem cop_lt {p : Int × Int} {P Q c : Int} (hP : 1 ≤ P) : p.2 * Q > P * (p.1 + c) ↔ c < copI p P Q := by
  unfold copI
  have e := Int.ediv_lt_iff_lt_mul (a := 0 - p.2 * Q) (b := -(p.1 + c)) (c := P) (by omega)
  have e2 : -(p.1 + c) * P = -(P * (p.1 + c)) := by rw [Int.neg_mul, Int.mul_comm]
  rw [e2] at e
  constructor
  · intro h
    have := e.mpr (by omega)
    omega
  · intro h
    have := e.mp (by omega)
    omega
theorem cop_nn {p : Int × Int} {P Q : Int} (hP : 1 ≤ P) (h : p.2 * Q ≥ P * p.1) : 0 ≤ copI p P Q := by
  have e := (cop_lt (p := p) (Q := Q) (c := -1) hP).mp (by
    have : P * (p.1 + -1) = P * p.1 - P := by rw [Int.mul_add, Int.mul_neg_one]; omega
    omega)
  omega
theorem cop_le {p : Int × Int} {P Q : Int} (h : okP p) (hP : 1 ≤ P) (hQ : P ≤ Q) (hQ2 : Q ≤ 12) : copI p P Q ≤ 4800 := by
  obtain ⟨h1, h2, h3, h4⟩ := h
  by_cases hc : copI p P Q ≤ 4800
  · exact hc
  · have := (cop_lt (p := p) (Q := Q) (c := 4800) hP).mpr (by omega)
    have a1 : p.2 * Q ≤ 400 * 12 := Int.mul_le_mul (by omega) hQ2 (by omega) (by omega)
    have a2 := Int.mul_le_mul_of_nonneg_right hP (show 0 ≤ p.1 + 4800 by omega)
    omega
abbrev tCop : GT := gtAnd (gtV (gVar 13)) (gtV (gBin fGt (gBin fMul (gBin fIx (gBor 6) (gC (.int 1))) (gBor 9)) (gBin fMul (gBor 8) (gBin fAdd (gBin fIx (gBor 6) (gC (.int 0))) (gBor 14)))))
abbrev bCop : GS := gSeq (gSet 14 (gBin fAdd (gBor 14) (gC (.int 1)))) (gNx)
theorem cop_loop (a0 a1 a2 a3 a4 a5 a7 a10 a11 a12 a15 a16 a17 a18 a19 a20 a21 a22 a23 : DL.Slot) (m : List MO) (p : Int × Int) (P Q : Int) (h : okP p) (p1 : 1 ≤ P) (p2 : P ≤ Q) (p3 : Q ≤ 12) : ∀ (n : Nat) (c : Int), c ≤ copI p P Q → copI p P Q - c < n →
    whileN tCop bCop n [a0, a1, a2, a3, a4, a5, .val (rowI p), a7, .val (.int P), .val (.int Q), a10, a11, a12, .val (.bl true), .val (.int c), a15, a16, a17, a18, a19, a20, a21, a22, a23] m = .ok .nx [a0, a1, a2, a3, a4, a5, .val (rowI p), a7, .val (.int P), .val (.int Q), a10, a11, a12, .val (.bl true), .val (.int (copI p P Q)), a15, a16, a17, a18, a19, a20, a21, a22, a23] m
  | 0, c, h1, h2 => by omega
  | n + 1, c, h1, h2 => by
    have q1 := h.1
    have q2 := h.2.1
    have q3 := h.2.2.1
    have q4 := h.2.2.2
    have m1 := fMul_ii m p.2 Q (small_r (by omega) (by omega))
    have m2 := fMul_ii m P (p.1 + c) (small_l (by omega) (by omega))
    rw [whileN]
    by_cases hc : p.2 * Q > P * (p.1 + c)
    · have hc2 := (cop_lt p1).mp hc
      have ih := cop_loop a0 a1 a2 a3 a4 a5 a7 a10 a11 a12 a15 a16 a17 a18 a19 a20 a21 a22 a23 m p P Q h p1 p2 p3 n (c + 1) (by omega) (by omega)
      simp (config := { decide := true, failIfUnchanged := false }) only [gSeq, gNx, gBk, gCt, gIfS, gRet, gRetN, gExpr, gSet, gOwn, ggName, ggNil, ggCons, ggTup, gAsg, gPar, gFrz, gApp, gExt, gAug, loopS, gRaise, bindS, gC, gVar, gBor, gBin, gUn, asB, gtV, gV, gtNot, gtAnd, gtOr, gIf, gtChain, gaNil, gaCons, gTup, gLst, gCB, f1, f2, gCall, gArgs, gMeth, gMakeF, gLim, gLstN, gNewM, gSlT, gSlL, gpN, gpS, gFldS, gIxS, gIxO, gPar3, gParO, gParQ, RE.bind, opt, frzE, nx, gtYes, gIt, asL_lst, asT_tup, wipeE, cInt_i, cInt_b, fAdd_ii, fSub_ii, fLt_ii, fLe_ii, fGt_ii, fGe_ii, fEq_ii, fNe_ii, List.getElem?_cons_zero, List.getElem?_cons_succ, List.length_cons, List.length_nil, List.set_cons_zero, List.set_cons_succ, Option.bind_some, Option.map_some, Option.bind_none, if_true, if_false, Bool.not_true, Bool.not_false, reduceIte, Nat.reduceAdd, Nat.reduceEqDiff, lim, Nat.ble_eq, envOf, fnD, endD, List.map_cons, List.map_nil, List.replicate, List.cons_append, List.nil_append, Nat.reduceSub, asB_bl, decide_eq_true_eq, and_true, true_and, and_false, false_and, or_true, true_or, or_false, false_or, not_true_eq_false, not_false_eq_true, ix_r0, ix_r1, m1, m2, hc]
      exact ih
    · have hc2 : c = copI p P Q := by
        have := mt (cop_lt (p := p) (Q := Q) (c := c) p1).mpr hc
        omega
      simp (config := { decide := true, failIfUnchanged := false }) only [gSeq, gNx, gBk, gCt, gIfS, gRet, gRetN, gExpr, gSet, gOwn, ggName, ggNil, ggCons, ggTup, gAsg, gPar, gFrz, gApp, gExt, gAug, loopS, gRaise, bindS, gC, gVar, gBor, gBin, gUn, asB, gtV, gV, gtNot, gtAnd, gtOr, gIf, gtChain, gaNil, gaCons, gTup, gLst, gCB, f1, f2, gCall, gArgs, gMeth, gMakeF, gLim, gLstN, gNewM, gSlT, gSlL, gpN, gpS, gFldS, gIxS, gIxO, gPar3, gParO, gParQ, RE.bind, opt, frzE, nx, gtYes, gIt, asL_lst, asT_tup, wipeE, cInt_i, cInt_b, fAdd_ii, fSub_ii, fLt_ii, fLe_ii, fGt_ii, fGe_ii, fEq_ii, fNe_ii, List.getElem?_cons_zero, List.getElem?_cons_succ, List.length_cons, List.length_nil, List.set_cons_zero, List.set_cons_succ, Option.bind_some, Option.map_some, Option.bind_none, if_true, if_false, Bool.not_true, Bool.not_false, reduceIte, Nat.reduceAdd, Nat.reduceEqDiff, lim, Nat.ble_eq, envOf, fnD, endD, List.map_cons, List.map_nil, List.replicate, List.cons_append, List.nil_append, Nat.reduceSub, asB_bl, decide_eq_true_eq, and_true, true_and, and_false, false_and, or_true, true_or, or_false, false_or, not_true_eq_false, not_false_eq_true, ix_r0, ix_r1, m1, m2, hc]
      rw [hc2]
def cpI (p : Int × Int) (P Q : Int) : Int := if p.2 * Q ≥ P * p.1 then copI p P Q else 0
theorem ev_3_10 (a0 a1 a2 a3 a4 a5 a7 a10 a11 a12 a15 a16 a17 a18 a19 a20 a21 a22 a23 : DL.Slot) (m : List MO) (p : Int × Int) (P Q : Int) (h : okP p) (p1 : 1 ≤ P) (p2 : P ≤ Q) (p3 : Q ≤ 12) : m_law_0_3_10 [a0, a1, a2, a3, a4, a5, .val (rowI p), a7, .val (.int P), .val (.int Q), a10, a11, a12, .val (.bl (decide (p.2 * Q ≥ P * p.1))), .val (.int 0), a15, a16, a17, a18, a19, a20, a21, a22, a23] m = .ok .nx [a0, a1, a2, a3, a4, a5, .val (rowI p), a7, .val (.int P), .val (.int Q), a10, a11, a12, .val (.bl (decide (p.2 * Q ≥ P * p.1))), .val (.int (cpI p P Q)), a15, a16, a17, a18, a19, a20, a21, a22, a23] m := by
  unfold cpI
  by_cases hg : p.2 * Q ≥ P * p.1
  · rw [if_pos hg, decide_eq_true hg]
    have := cop_le h p1 p2 p3
    exact cop_loop a0 a1 a2 a3 a4 a5 a7 a10 a11 a12 a15 a16 a17 a18 a19 a20 a21 a22 a23 m p P Q h p1 p2 p3 5000 0 (cop_nn p1 hg) (by omega)
  · rw [if_neg hg, decide_eq_false hg]
    have e : tCop [a0, a1, a2, a3, a4, a5, .val (rowI p), a7, .val (.int P), .val (.int Q), a10, a11, a12, .val (.bl false), .val (.int 0), a15, a16, a17, a18, a19, a20, a21, a22, a23] m = .ok false m := rfl
    show whileN tCop bCop (4999 + 1) [a0, a1, a2, a3, a4, a5, .val (rowI p), a7, .val (.int P), .val (.int Q), a10, a11, a12, .val (.bl false), .val (.int 0), a15, a16, a17, a18, a19, a20, a21, a22, a23] m = _
    rw [whileN]
    show bindS (tCop [a0, a1, a2, a3, a4, a5, .val (rowI p), a7, .val (.int P), .val (.int Q), a10, a11, a12, .val (.bl false), .val (.int 0), a15, a16, a17, a18, a19, a20, a21, a22, a23] m) _ _ = _
    rw [e]
    rfl
theorem fNe_i (m : List MO) (a : Int) : fNe m (.int a) (.int a) = some (.bl false) := fNe_self (p := .int a) rfl
theorem fNe_s (m : List MO) (a : Str) : fNe m (.str a) (.str a) = some (.bl false) := fNe_self (p := .str a) rfl
theorem ev_3_11 (a0 a1 a2 a3 a4 a5 a6 a10 a11 a12 a15 a16 a17 a18 a19 a20 a21 a22 a23 : DL.Slot) (m : List MO) (p : Int × Int) (P Q : Int) (h : okP p) (p1 : 1 ≤ P) (p2 : P ≤ Q) (p3 : Q ≤ 12) : m_law_0_3_11 [a0, a1, a2, a3, a4, a5, a6, .val (barI p), .val (.int P), .val (.int Q), a10, a11, a12, .val (.bl (decide (p.2 * Q ≥ P * p.1))), .val (.int (cpI p P Q)), a15, a16, a17, a18, a19, a20, a21, a22, a23] m = .ok .nx [a0, a1, a2, a3, a4, a5, a6, .val (barI p), .val (.int P), .val (.int Q), a10, a11, a12, .val (.bl (decide (p.2 * Q ≥ P * p.1))), .val (.int (cpI p P Q)), a15, a16, a17, a18, a19, a20, a21, a22, a23] m := by
  have e : S_copper_for [barI p, .int P, .int Q] m = if 0 < P ∧ P ≤ Q ∧ P * p.1 ≤ p.2 * Q then .ok (.int (copI p P Q)) m else .ex "MetalError" m := if_pos ⟨h.bar, by omega⟩
  unfold cpI
  by_cases hg : p.2 * Q ≥ P * p.1
  · rw [if_pos (show 0 < P ∧ P ≤ Q ∧ P * p.1 ≤ p.2 * Q from ⟨by omega, p2, hg⟩)] at e
    rw [if_pos hg, decide_eq_true hg]
    simp (config := { decide := true, failIfUnchanged := false }) only [gSeq, gNx, gBk, gCt, gIfS, gRet, gRetN, gExpr, gSet, gOwn, ggName, ggNil, ggCons, ggTup, gAsg, gPar, gFrz, gApp, gExt, gAug, loopS, gRaise, bindS, gC, gVar, gBor, gBin, gUn, asB, gtV, gV, gtNot, gtAnd, gtOr, gIf, gtChain, gaNil, gaCons, gTup, gLst, gCB, f1, f2, gCall, gArgs, gMeth, gMakeF, gLim, gLstN, gNewM, gSlT, gSlL, gpN, gpS, gFldS, gIxS, gIxO, gPar3, gParO, gParQ, RE.bind, opt, frzE, nx, gtYes, gIt, asL_lst, asT_tup, wipeE, cInt_i, cInt_b, fAdd_ii, fSub_ii, fLt_ii, fLe_ii, fGt_ii, fGe_ii, fEq_ii, fNe_ii, List.getElem?_cons_zero, List.getElem?_cons_succ, List.length_cons, List.length_nil, List.set_cons_zero, List.set_cons_succ, Option.bind_some, Option.map_some, Option.bind_none, if_true, if_false, Bool.not_true, Bool.not_false, reduceIte, Nat.reduceAdd, Nat.reduceEqDiff, lim, Nat.ble_eq, envOf, fnD, endD, List.map_cons, List.map_nil, List.replicate, List.cons_append, List.nil_append, Nat.reduceSub, asB_bl, decide_eq_true_eq, and_true, true_and, and_false, false_and, or_true, true_or, or_false, false_or, not_true_eq_false, not_false_eq_true, m_law_0_3_11, gTold, e, fNe_i]
  · rw [if_neg (show ¬ (0 < P ∧ P ≤ Q ∧ P * p.1 ≤ p.2 * Q) from fun z => hg z.2.2)] at e
    rw [if_neg hg, decide_eq_false hg]
    have hm : (("MetalError" : Str) ∈ (["MetalError"] : List Str)) = True := eq_true List.mem_cons_self
    simp (config := { decide := true, failIfUnchanged := false }) only [gSeq, gNx, gBk, gCt, gIfS, gRet, gRetN, gExpr, gSet, gOwn, ggName, ggNil, ggCons, ggTup, gAsg, gPar, gFrz, gApp, gExt, gAug, loopS, gRaise, bindS, gC, gVar, gBor, gBin, gUn, asB, gtV, gV, gtNot, gtAnd, gtOr, gIf, gtChain, gaNil, gaCons, gTup, gLst, gCB, f1, f2, gCall, gArgs, gMeth, gMakeF, gLim, gLstN, gNewM, gSlT, gSlL, gpN, gpS, gFldS, gIxS, gIxO, gPar3, gParO, gParQ, RE.bind, opt, frzE, nx, gtYes, gIt, asL_lst, asT_tup, wipeE, cInt_i, cInt_b, fAdd_ii, fSub_ii, fLt_ii, fLe_ii, fGt_ii, fGe_ii, fEq_ii, fNe_ii, List.getElem?_cons_zero, List.getElem?_cons_succ, List.length_cons, List.length_nil, List.set_cons_zero, List.set_cons_succ, Option.bind_some, Option.map_some, Option.bind_none, if_true, if_false, Bool.not_true, Bool.not_false, reduceIte, Nat.reduceAdd, Nat.reduceEqDiff, lim, Nat.ble_eq, envOf, fnD, endD, List.map_cons, List.map_nil, List.replicate, List.cons_append, List.nil_append, Nat.reduceSub, asB_bl, decide_eq_true_eq, and_true, true_and, and_false, false_and, or_true, true_or, or_false, false_or, not_true_eq_false, not_false_eq_true, m_law_0_3_11, gTold, e, fNe_s, hm]
/-! the step, the loop -/
abbrev bBar : GS := (gSeq m_law_0_3_0 (gSeq m_law_0_3_1 (gSeq m_law_0_3_2 (gSeq m_law_0_3_3 (gSeq m_law_0_3_4 (gSeq m_law_0_3_5 (gSeq m_law_0_3_6 (gSeq m_law_0_3_7 (gSeq m_law_0_3_8 (gSeq m_law_0_3_9 (gSeq m_law_0_3_10 (gSeq m_law_0_3_11 (gNx)))))))))))))
theorem bar_step (a0 a2 a3 a4 a5 a8 a9 a10 a11 a12 a13 a14 a15 a16 a17 a18 a19 a20 a21 a22 a23 : DL.Slot) (t : Int × Int × Int) (p : Int × Int) (h : okP p) : ∃ (t' : Int × Int × Int) (b4 b8 b9 b10 b11 b12 b13 b14 : DL.Slot), bBar [a0, .val (.ref 0), a2, a3, a4, a5, .val (rowI p), .val (barI p), a8, a9, a10, a11, a12, a13, a14, a15, a16, a17, a18, a19, a20, a21, a22, a23] (DM t) = .ok .nx [a0, .val (.ref 0), a2, a3, b4, a5, .val (rowI p), .val (barI p), b8, b9, b10, b11, b12, b13, b14, a15, a16, a17, a18, a19, a20, a21, a22, a23] (DM t') := by
  obtain ⟨q, t1, e2, q1, q2⟩ := ev_3_2 a0 a2 a3 a5 (.val (barI p)) (.val (.int (p.2 / (Int.gcd p.2 p.1 : Int)))) (.val (.int (p.1 / (Int.gcd p.2 p.1 : Int)))) a10 a11 a12 a13 a14 a15 a16 a17 a18 a19 a20 a21 a22 a23 t a4 p h
  obtain ⟨P, Q, t2, e67, p1, p2, p3⟩ := ev_3_67 a0 a2 a3 (.val (.int q)) a5 (.val (rowI p)) (.val (barI p)) (.val (bar q (p.2 * q / p.1))) (.val (restD p q)) (.val (rowI (leftI p q))) a13 a14 a15 a16 a17 a18 a19 a20 a21 a22 a23 t1 (.val (.int (p.2 / (Int.gcd p.2 p.1 : Int)))) (.val (.int (p.1 / (Int.gcd p.2 p.1 : Int)))) (gSeq m_law_0_3_8 (gSeq m_law_0_3_9 (gSeq m_law_0_3_10 (gSeq m_law_0_3_11 (gNx)))))
  refine ⟨t2, .val (.int q), .val (.int P), .val (.int Q), .val (bar q (p.2 * q / p.1)), .val (restD p q), .val (rowI (leftI p q)), .val (.bl (decide (p.2 * Q ≥ P * p.1))), .val (.int (cpI p P Q)), ?_⟩
  rw [bBar, gSeq_nx (ev_3_0 _ _ _ _ _ _ _ _ _ _ _ _ _ _ _ _ _ _ _ _ _ _ _ _ p h), gSeq_nx (ev_3_1 _ _ _ _ _ _ _ _ _ _ _ _ _ _ _ _ _ _ _ _ _ p _ _ h rfl rfl (lo_of h)), gSeq_nx e2, gSeq_nx (ev_3_3 _ _ _ _ _ _ _ _ _ _ _ _ _ _ _ _ _ _ _ _ _ _ _ p q h q1 q2), gSeq_nx (ev_3_4 _ _ _ _ _ _ _ _ _ _ _ _ _ _ _ _ _ _ _ _ _ _ _ _ p q), gSeq_nx (ev_3_5 _ _ _ _ _ _ _ _ _ _ _ _ _ _ _ _ _ _ _ _ _ p q h q1 q2), e67,
    gSeq_nx (ev_3_8 _ _ _ _ _ _ _ _ _ _ _ _ _ _ _ _ _ _ _ _ _ _ p P Q h p1 p2 p3), gSeq_nx (ev_3_9 _ _ _ _ _ _ _ _ _ _ _ _ _ _ _ _ _ _ _ _ _ _ _ _ _), gSeq_nx (ev_3_10 _ _ _ _ _ _ _ _ _ _ _ _ _ _ _ _ _ _ _ _ p P Q h p1 p2 p3), gSeq_nx (ev_3_11 _ _ _ _ _ _ _ _ _ _ _ _ _ _ _ _ _ _ _ _ p P Q h p1 p2 p3)]
  rfl
theorem bar_loop (a0 a2 a3 a5 a15 a16 a17 a18 a19 a20 a21 a22 a23 : DL.Slot) : ∀ (ps : List (Int × Int)) (t : Int × Int × Int) (a4 a6 a7 a8 a9 a10 a11 a12 a13 a14 : DL.Slot), (∀ p ∈ ps, okP p) → ∃ (t' : Int × Int × Int) (b4 b6 b7 b8 b9 b10 b11 b12 b13 b14 : DL.Slot),
    forD (ggTup 2 (ggCons (ggName 7) (ggCons (ggName 6) (ggNil)))) bBar (ps.map fun p => .tup [barI p, rowI p]) [a0, .val (.ref 0), a2, a3, a4, a5, a6, a7, a8, a9, a10, a11, a12, a13, a14, a15, a16, a17, a18, a19, a20, a21, a22, a23] (DM t) = .ok .nx [a0, .val (.ref 0), a2, a3, b4, a5, b6, b7, b8, b9, b10, b11, b12, b13, b14, a15, a16, a17, a18, a19, a20, a21, a22, a23] (DM t')
  | [], t, a4, a6, a7, a8, a9, a10, a11, a12, a13, a14, _ => ⟨t, a4, a6, a7, a8, a9, a10, a11, a12, a13, a14, rfl⟩
  | p :: ps, t, a4, a6, a7, a8, a9, a10, a11, a12, a13, a14, h => by
    obtain ⟨t1, b4, b8, b9, b10, b11, b12, b13, b14, e1⟩ := bar_step a0 a2 a3 a4 a5 a8 a9 a10 a11 a12 a13 a14 a15 a16 a17 a18 a19 a20 a21 a22 a23 t p (h p List.mem_cons_self)
    obtain ⟨t2, c4, c6, c7, c8, c9, c10, c11, c12, c13, c14, e2⟩ := bar_loop a0 a2 a3 a5 a15 a16 a17 a18 a19 a20 a21 a22 a23 ps t1 b4 (.val (rowI p)) (.val (barI p)) b8 b9 b10 b11 b12 b13 b14 fun q hq => h q (List.mem_cons_of_mem _ hq)
    refine ⟨t2, c4, c6, c7, c8, c9, c10, c11, c12, c13, c14, ?_⟩
    rw [List.map_cons, forD]
    show loopS (bBar [a0, .val (.ref 0), a2, a3, a4, a5, .val (rowI p), .val (barI p), a8, a9, a10, a11, a12, a13, a14, a15, a16, a17, a18, a19, a20, a21, a22, a23] (DM t)) _ = _
    rw [e1]
    exact e2
theorem ev_0_3 (a0 a3 a4 : DL.Slot) (t : Int × Int × Int) (ps : List (Int × Int)) (h : ∀ p ∈ ps, okP p) : ∃ (t' : Int × Int × Int) (b4 b6 b7 b8 b9 b10 b11 b12 b13 b14 : DL.Slot),
    m_law_0_3 [a0, .val (.ref 0), .val (.lst (ps.map rowI)), a3, a4, .val (.lst (ps.map barI)), .un, .un, .un, .un, .un, .un, .un, .un, .un, .un, .un, .un, .un, .un, .un, .un, .un, .un] (DM t) = .ok .nx [a0, .val (.ref 0), .val (.lst (ps.map rowI)), a3, b4, .val (.lst (ps.map barI)), b6, b7, b8, b9, b10, b11, b12, b13, b14, .un, .un, .un, .un, .un, .un, .un, .un, .un] (DM t') := by
  obtain ⟨t1, b4, b6, b7, b8, b9, b10, b11, b12, b13, b14, e⟩ := bar_loop a0 (.val (.lst (ps.map rowI))) a3 (.val (.lst (ps.map barI))) .un .un .un .un .un .un .un .un .un ps t a4 .un .un .un .un .un .un .un .un .un h
  refine ⟨t1, b4, b6, b7, b8, b9, b10, b11, b12, b13, b14, ?_⟩
  rw [m_law_0_3]
  unfold gFrz gFor
  show bindS ((.ok (zipD (ps.map barI) (ps.map rowI)) (DM t) : RE (List DL.D))) _ _ = _
  rw [zip_rows]
  exact e
end K01
/-! P13: the law: what is melted, all sets of bars. -/
namespace K01
open PySem PySem.Spec DL
theorem mapO_bars : ∀ ps : List (Int × Int), mapO barOf (ps.map barI) = some ps
  | [] => rfl
  | p :: ps => by
    rw [List.map_cons, mapO, mapO_bars ps]
    rfl
theorem okAll {ps : List (Int × Int)} (h : ∀ p ∈ ps, okP p) : ∀ p ∈ ps, okBar p.1 p.2 := fun p hp => (h p hp).bar
theorem sum_w : ∀ {ps : List (Int × Int)}, (∀ p ∈ ps, okP p) → (ps.map (·.1)).sum ≤ 400 * ps.length
  | [], _ => by simp
  | p :: ps, h => by
    have ih := sum_w (ps := ps) fun q hq => h q (List.mem_cons_of_mem _ hq)
    have := (h p List.mem_cons_self).2.1
    simp only [List.map_cons, List.sum_cons, List.length_cons]
    omega
theorem ev_0_4 (a0 a1 a2 a3 a4 a6 a7 a8 a9 a10 a11 a12 a13 a14 a15 a16 a17 a18 a19 a20 a21 a22 a23 : DL.Slot) (m : List MO) (ps : List (Int × Int)) (h1 : 1 ≤ ps.length) (h2 : ps.length ≤ 6) (h : ∀ p ∈ ps, okP p) : m_law_0_4 [a0, a1, a2, a3, a4, .val (.lst (ps.map barI)), a6, a7, a8, a9, a10, a11, a12, a13, a14, a15, a16, a17, a18, a19, a20, a21, a22, a23] m = .ok .nx [a0, a1, a2, a3, a4, .val (.lst (ps.map barI)), a6, a7, a8, a9, a10, a11, a12, a13, a14, .val (bar (ps.map (·.1)).sum (ps.map (·.2)).sum), a16, a17, a18, a19, a20, a21, a22, a23] m := by
  have hs := sum_w h
  have e : S_melted [.lst (ps.map barI)] m = .ok (bar (ps.map (·.1)).sum (ps.map (·.2)).sum) m := by
    show (match mapO barOf (ps.map barI) with | some ps => _ | none => _) = _
    rw [mapO_bars]
    show (if ps.length ≤ 100 ∧ ∀ p ∈ ps, okBar p.1 p.2 then (if ps = [] then _ else if (ps.map (·.1)).sum ≤ 1000000 then _ else _) else _) = _
    rw [if_pos ⟨by omega, okAll h⟩, if_neg (fun z => by rw [z] at h1; exact absurd h1 (by decide)), if_pos (by omega)]
  simp (config := { decide := true, failIfUnchanged := false }) only [gSeq, gNx, gBk, gCt, gIfS, gRet, gRetN, gExpr, gSet, gOwn, ggName, ggNil, ggCons, ggTup, gAsg, gPar, gFrz, gApp, gExt, gAug, loopS, gRaise, bindS, gC, gVar, gBor, gBin, gUn, asB, gtV, gV, gtNot, gtAnd, gtOr, gIf, gtChain, gaNil, gaCons, gTup, gLst, gCB, f1, f2, gCall, gArgs, gMeth, gMakeF, gLim, gLstN, gNewM, gSlT, gSlL, gpN, gpS, gFldS, gIxS, gIxO, gPar3, gParO, gParQ, RE.bind, opt, frzE, nx, gtYes, gIt, asL_lst, asT_tup, wipeE, cInt_i, cInt_b, fAdd_ii, fSub_ii, fLt_ii, fLe_ii, fGt_ii, fGe_ii, fEq_ii, fNe_ii, List.getElem?_cons_zero, List.getElem?_cons_succ, List.length_cons, List.length_nil, List.set_cons_zero, List.set_cons_succ, Option.bind_some, Option.map_some, Option.bind_none, if_true, if_false, Bool.not_true, Bool.not_false, reduceIte, Nat.reduceAdd, Nat.reduceEqDiff, lim, Nat.ble_eq, envOf, fnD, endD, List.map_cons, List.map_nil, List.replicate, List.cons_append, List.nil_append, Nat.reduceSub, asB_bl, decide_eq_true_eq, and_true, true_and, and_false, false_and, or_true, true_or, or_false, false_or, not_true_eq_false, not_false_eq_true, m_law_0_4, e]
theorem col0 (a0 a1 a2 a3 a4 a5 a6 a7 a8 a9 a10 a11 a12 a13 a14 a15 a16 a17 a18 a19 a20 a21 a22 a23 : DL.Slot) (m : List MO) : ∀ ps : List (Int × Int), compD (ggName 6) gtYes (gBin fIx (gBor 6) (gC (.int 0))) (ps.map rowI) [a0, a1, a2, a3, a4, a5, a6, a7, a8, a9, a10, a11, a12, a13, a14, a15, a16, a17, a18, a19, a20, a21, a22, a23] m = .ok ((ps.map (·.1)).map DL.D.int) m
  | [] => rfl
  | p :: ps => by
    have ih := col0 a0 a1 a2 a3 a4 a5 a6 a7 a8 a9 a10 a11 a12 a13 a14 a15 a16 a17 a18 a19 a20 a21 a22 a23 m ps
    rw [List.map_cons, compD]
    simp (config := { decide := true, failIfUnchanged := false }) only [gSeq, gNx, gBk, gCt, gIfS, gRet, gRetN, gExpr, gSet, gOwn, ggName, ggNil, ggCons, ggTup, gAsg, gPar, gFrz, gApp, gExt, gAug, loopS, gRaise, bindS, gC, gVar, gBor, gBin, gUn, asB, gtV, gV, gtNot, gtAnd, gtOr, gIf, gtChain, gaNil, gaCons, gTup, gLst, gCB, f1, f2, gCall, gArgs, gMeth, gMakeF, gLim, gLstN, gNewM, gSlT, gSlL, gpN, gpS, gFldS, gIxS, gIxO, gPar3, gParO, gParQ, RE.bind, opt, frzE, nx, gtYes, gIt, asL_lst, asT_tup, wipeE, cInt_i, cInt_b, fAdd_ii, fSub_ii, fLt_ii, fLe_ii, fGt_ii, fGe_ii, fEq_ii, fNe_ii, List.getElem?_cons_zero, List.getElem?_cons_succ, List.length_cons, List.length_nil, List.set_cons_zero, List.set_cons_succ, Option.bind_some, Option.map_some, Option.bind_none, if_true, if_false, Bool.not_true, Bool.not_false, reduceIte, Nat.reduceAdd, Nat.reduceEqDiff, lim, Nat.ble_eq, envOf, fnD, endD, List.map_cons, List.map_nil, List.replicate, List.cons_append, List.nil_append, Nat.reduceSub, asB_bl, decide_eq_true_eq, and_true, true_and, and_false, false_and, or_true, true_or, or_false, false_or, not_true_eq_false, not_false_eq_true, ix_r0, ih]
theorem col1 (a0 a1 a2 a3 a4 a5 a6 a7 a8 a9 a10 a11 a12 a13 a14 a15 a16 a17 a18 a19 a20 a21 a22 a23 : DL.Slot) (m : List MO) : ∀ ps : List (Int × Int), compD (ggName 6) gtYes (gBin fIx (gBor 6) (gC (.int 1))) (ps.map rowI) [a0, a1, a2, a3, a4, a5, a6, a7, a8, a9, a10, a11, a12, a13, a14, a15, a16, a17, a18, a19, a20, a21, a22, a23] m = .ok ((ps.map (·.2)).map DL.D.int) m
  | [] => rfl
  | p :: ps => by
    have ih := col1 a0 a1 a2 a3 a4 a5 a6 a7 a8 a9 a10 a11 a12 a13 a14 a15 a16 a17 a18 a19 a20 a21 a22 a23 m ps
    rw [List.map_cons, compD]
    simp (config := { decide := true, failIfUnchanged := false }) only [gSeq, gNx, gBk, gCt, gIfS, gRet, gRetN, gExpr, gSet, gOwn, ggName, ggNil, ggCons, ggTup, gAsg, gPar, gFrz, gApp, gExt, gAug, loopS, gRaise, bindS, gC, gVar, gBor, gBin, gUn, asB, gtV, gV, gtNot, gtAnd, gtOr, gIf, gtChain, gaNil, gaCons, gTup, gLst, gCB, f1, f2, gCall, gArgs, gMeth, gMakeF, gLim, gLstN, gNewM, gSlT, gSlL, gpN, gpS, gFldS, gIxS, gIxO, gPar3, gParO, gParQ, RE.bind, opt, frzE, nx, gtYes, gIt, asL_lst, asT_tup, wipeE, cInt_i, cInt_b, fAdd_ii, fSub_ii, fLt_ii, fLe_ii, fGt_ii, fGe_ii, fEq_ii, fNe_ii, List.getElem?_cons_zero, List.getElem?_cons_succ, List.length_cons, List.length_nil, List.set_cons_zero, List.set_cons_succ, Option.bind_some, Option.map_some, Option.bind_none, if_true, if_false, Bool.not_true, Bool.not_false, reduceIte, Nat.reduceAdd, Nat.reduceEqDiff, lim, Nat.ble_eq, envOf, fnD, endD, List.map_cons, List.map_nil, List.replicate, List.cons_append, List.nil_append, Nat.reduceSub, asB_bl, decide_eq_true_eq, and_true, true_and, and_false, false_and, or_true, true_or, or_false, false_or, not_true_eq_false, not_false_eq_true, ix_r1, ih]
theorem mapO_asI : ∀ ns : List Int, mapO asI (ns.map DL.D.int) = some ns
  | [] => rfl
  | n :: ns => by
    rw [List.map_cons, mapO, mapO_asI ns]
    rfl
theorem cSum_i (m : List MO) (ns : List Int) : cSum m (.lst (ns.map DL.D.int)) = some (.int ns.sum) := by
  show (mapO asI (ns.map DL.D.int)).map (fun ns => DL.D.int ns.sum) = _
  rw [mapO_asI]
  rfl
theorem ev_0_5 (a0 a1 a3 a4 a5 a6 a7 a8 a9 a10 a11 a12 a13 a14 a16 a17 a18 a19 a20 a21 a22 a23 : DL.Slot) (m : List MO) (ps : List (Int × Int)) (h2 : ps.length ≤ 6) : m_law_0_5 [a0, a1, .val (.lst (ps.map rowI)), a3, a4, a5, a6, a7, a8, a9, a10, a11, a12, a13, a14, .val (bar (ps.map (·.1)).sum (ps.map (·.2)).sum), a16, a17, a18, a19, a20, a21, a22, a23] m = .ok .nx [a0, a1, .val (.lst (ps.map rowI)), a3, a4, a5, a6, a7, a8, a9, a10, a11, a12, a13, a14, .val (bar (ps.map (·.1)).sum (ps.map (·.2)).sum), a16, a17, a18, a19, a20, a21, a22, a23] m := by
  have hz : ps.length ≤ 1000000 := by omega
  simp (config := { decide := true, failIfUnchanged := false }) only [gSeq, gNx, gBk, gCt, gIfS, gRet, gRetN, gExpr, gSet, gOwn, ggName, ggNil, ggCons, ggTup, gAsg, gPar, gFrz, gApp, gExt, gAug, loopS, gRaise, bindS, gC, gVar, gBor, gBin, gUn, asB, gtV, gV, gtNot, gtAnd, gtOr, gIf, gtChain, gaNil, gaCons, gTup, gLst, gCB, f1, f2, gCall, gArgs, gMeth, gMakeF, gLim, gLstN, gNewM, gSlT, gSlL, gpN, gpS, gFldS, gIxS, gIxO, gPar3, gParO, gParQ, RE.bind, opt, frzE, nx, gtYes, gIt, asL_lst, asT_tup, wipeE, cInt_i, cInt_b, fAdd_ii, fSub_ii, fLt_ii, fLe_ii, fGt_ii, fGe_ii, fEq_ii, fNe_ii, List.getElem?_cons_zero, List.getElem?_cons_succ, List.length_cons, List.length_nil, List.set_cons_zero, List.set_cons_succ, Option.bind_some, Option.map_some, Option.bind_none, if_true, if_false, Bool.not_true, Bool.not_false, reduceIte, Nat.reduceAdd, Nat.reduceEqDiff, lim, Nat.ble_eq, envOf, fnD, endD, List.map_cons, List.map_nil, List.replicate, List.cons_append, List.nil_append, Nat.reduceSub, asB_bl, decide_eq_true_eq, and_true, true_and, and_false, false_and, or_true, true_or, or_false, false_or, not_true_eq_false, not_false_eq_true, m_law_0_5, gComp, List.length_map, hz, col0 _ _ _ _ _ _ _ _ _ _ _ _ _ _ _ _ _ _ _ _ _ _ _ _ m ps, col1 _ _ _ _ _ _ _ _ _ _ _ _ _ _ _ _ _ _ _ _ _ _ _ _ m ps, cSum_i, bar_w, bar_f, fNe_t2]
theorem ev_0_67 (a0 a2 a3 a4 a5 a6 a7 a8 a9 a10 a11 a12 a13 a14 a15 a16 a17 a18 a19 a20 a21 a22 a23 : DL.Slot) (t : Int × Int × Int) (g : GS) : ∃ (lo hi wt : Int) (t' : Int × Int × Int), gSeq m_law_0_6 (gSeq m_law_0_7 g) [a0, .val (.ref 0), a2, a3, a4, a5, a6, a7, a8, a9, a10, a11, a12, a13, a14, a15, a16, a17, a18, a19, a20, a21, a22, a23] (DM t) = g [a0, .val (.ref 0), a2, a3, .val (.int wt), a5, a6, a7, a8, a9, a10, a11, a12, a13, a14, a15, .val (.int lo), .val (.lst ((setsN 0).map rowD)), .val (.int hi), a19, a20, a21, a22, a23] (DM t') ∧ lo ≤ hi := by
  obtain ⟨r, t1, e1, ra, rb⟩ := roll_ok t 1000 (by omega) (by omega)
  obtain ⟨r2, t2, e2, r2a, r2b⟩ := roll_ok t1 900 (by omega) (by omega)
  obtain ⟨r3, t3, e3, r3a, r3b⟩ := roll_ok t2 300 (by omega) (by omega)
  refine ⟨r, r + r3, r2, t3, ?_, by omega⟩
  simp (config := { decide := true, failIfUnchanged := false }) only [gSeq, gNx, gBk, gCt, gIfS, gRet, gRetN, gExpr, gSet, gOwn, ggName, ggNil, ggCons, ggTup, gAsg, gPar, gFrz, gApp, gExt, gAug, loopS, gRaise, bindS, gC, gVar, gBor, gBin, gUn, asB, gtV, gV, gtNot, gtAnd, gtOr, gIf, gtChain, gaNil, gaCons, gTup, gLst, gCB, f1, f2, gCall, gArgs, gMeth, gMakeF, gLim, gLstN, gNewM, gSlT, gSlL, gpN, gpS, gFldS, gIxS, gIxO, gPar3, gParO, gParQ, RE.bind, opt, frzE, nx, gtYes, gIt, asL_lst, asT_tup, wipeE, cInt_i, cInt_b, fAdd_ii, fSub_ii, fLt_ii, fLe_ii, fGt_ii, fGe_ii, fEq_ii, fNe_ii, List.getElem?_cons_zero, List.getElem?_cons_succ, List.length_cons, List.length_nil, List.set_cons_zero, List.set_cons_succ, Option.bind_some, Option.map_some, Option.bind_none, if_true, if_false, Bool.not_true, Bool.not_false, reduceIte, Nat.reduceAdd, Nat.reduceEqDiff, lim, Nat.ble_eq, envOf, fnD, endD, List.map_cons, List.map_nil, List.replicate, List.cons_append, List.nil_append, Nat.reduceSub, asB_bl, decide_eq_true_eq, and_true, true_and, and_false, false_and, or_true, true_or, or_false, false_or, not_true_eq_false, not_false_eq_true, m_law_0_6, m_law_0_7, e1, e2, e3]
  rfl
theorem fAdd_ll (m : List MO) (a b : List DL.D) (h : a.length + b.length ≤ 1000000) : fAdd m (.lst a) (.lst b) = some (.lst (a ++ b)) := by
  have hz : lim (a.length + b.length) = true := Nat.ble_eq_true_of_le h
  simp [fAdd, orD, iiD, tupAdd, lstAdd, DL.lstOf, hz]
theorem rows_comp2 (a0 a1 a2 a4 a5 a6 a7 a8 a9 a10 a11 a12 a13 a14 a15 a16 a17 a18 a19 a20 a21 a22 a23 : DL.Slot) (j : Nat) (m : List MO) : ∀ (rows : List (List Nat)), (∀ r ∈ rows, r.length ≤ 100) → compD (ggName 6) gtYes (gBin fAdd (gBor 6) (gTup (gaCons (gVar 3) (gaNil)))) (rows.map rowD) [a0, a1, a2, .val (.int (j : Int)), a4, a5, a6, a7, a8, a9, a10, a11, a12, a13, a14, a15, a16, a17, a18, a19, a20, a21, a22, a23] m = .ok ((rows.map (· ++ [j])).map rowD) m
  | [], h => by rw [List.map_nil, compD]; rfl
  | r :: rows, h => by
    have hl : r.length ≤ 100 := h r List.mem_cons_self
    have e : fAdd m (rowD r) (.tup [.int (j : Int)]) = some (rowD (r ++ [j])) := by
      rw [rowD, fAdd_tt _ _ _ (by rw [List.length_map]; show r.length + 1 ≤ 1000000; omega), rowD, List.map_append]
      rfl
    have ih := rows_comp2 a0 a1 a2 a4 a5 a6 a7 a8 a9 a10 a11 a12 a13 a14 a15 a16 a17 a18 a19 a20 a21 a22 a23 j m rows fun q hq => h q (List.mem_cons_of_mem _ hq)
    rw [List.map_cons, compD]
    simp (config := { decide := true, failIfUnchanged := false }) only [gSeq, gNx, gBk, gCt, gIfS, gRet, gRetN, gExpr, gSet, gOwn, ggName, ggNil, ggCons, ggTup, gAsg, gPar, gFrz, gApp, gExt, gAug, loopS, gRaise, bindS, gC, gVar, gBor, gBin, gUn, asB, gtV, gV, gtNot, gtAnd, gtOr, gIf, gtChain, gaNil, gaCons, gTup, gLst, gCB, f1, f2, gCall, gArgs, gMeth, gMakeF, gLim, gLstN, gNewM, gSlT, gSlL, gpN, gpS, gFldS, gIxS, gIxO, gPar3, gParO, gParQ, RE.bind, opt, frzE, nx, gtYes, gIt, asL_lst, asT_tup, wipeE, cInt_i, cInt_b, fAdd_ii, fSub_ii, fLt_ii, fLe_ii, fGt_ii, fGe_ii, fEq_ii, fNe_ii, List.getElem?_cons_zero, List.getElem?_cons_succ, List.length_cons, List.length_nil, List.set_cons_zero, List.set_cons_succ, Option.bind_some, Option.map_some, Option.bind_none, if_true, if_false, Bool.not_true, Bool.not_false, reduceIte, Nat.reduceAdd, Nat.reduceEqDiff, lim, Nat.ble_eq, envOf, fnD, endD, List.map_cons, List.map_nil, List.replicate, List.cons_append, List.nil_append, Nat.reduceSub, asB_bl, decide_eq_true_eq, and_true, true_and, and_false, false_and, or_true, true_or, or_false, false_or, not_true_eq_false, not_false_eq_true, e, ih]
abbrev bSets2 : GS := (gSeq (gSet 17 (gBin fAdd (gBor 17) (gLstN (gComp [6] (gIt asL (gVar 17)) (ggName 6) (gtYes) (gBin fAdd (gBor 6) (gTup (gaCons (gVar 3) (gaNil)))))))) (gNx))
theorem sets2_step (a0 a1 a2 a4 a5 a6 a7 a8 a9 a10 a11 a12 a13 a14 a15 a16 a18 a19 a20 a21 a22 a23 : DL.Slot) (j : Nat) (hj : j < 10) (m : List MO) :
    bSets2 [a0, a1, a2, .val (.int (j : Int)), a4, a5, a6, a7, a8, a9, a10, a11, a12, a13, a14, a15, a16, .val (.lst ((setsN j).map rowD)), a18, a19, a20, a21, a22, a23] m = .ok .nx [a0, a1, a2, .val (.int (j : Int)), a4, a5, a6, a7, a8, a9, a10, a11, a12, a13, a14, a15, a16, .val (.lst ((setsN (j + 1)).map rowD)), a18, a19, a20, a21, a22, a23] m := by
  have h1 : 2 ^ j ≤ 2 ^ 10 := Nat.pow_le_pow_right (by decide) (by omega)
  have h2 : 2 ^ j ≤ 1000000 := Nat.le_trans h1 (by decide)
  have hr : ∀ r ∈ setsN j, r.length ≤ 100 := fun r hr => by
    have := (setsN_mem hr).1
    omega
  have ea : fAdd m (.lst ((setsN j).map rowD)) (.lst (((setsN j).map (· ++ [j])).map rowD)) = some (.lst ((setsN (j + 1)).map rowD)) := by
    rw [fAdd_ll _ _ _ (by simp only [List.length_map, setsN_length]; exact Nat.le_trans (Nat.add_le_add h1 h1) (by decide)), ← List.map_append]
    rfl
  simp (config := { decide := true, failIfUnchanged := false }) only [gSeq, gNx, gBk, gCt, gIfS, gRet, gRetN, gExpr, gSet, gOwn, ggName, ggNil, ggCons, ggTup, gAsg, gPar, gFrz, gApp, gExt, gAug, loopS, gRaise, bindS, gC, gVar, gBor, gBin, gUn, asB, gtV, gV, gtNot, gtAnd, gtOr, gIf, gtChain, gaNil, gaCons, gTup, gLst, gCB, f1, f2, gCall, gArgs, gMeth, gMakeF, gLim, gLstN, gNewM, gSlT, gSlL, gpN, gpS, gFldS, gIxS, gIxO, gPar3, gParO, gParQ, RE.bind, opt, frzE, nx, gtYes, gIt, asL_lst, asT_tup, wipeE, cInt_i, cInt_b, fAdd_ii, fSub_ii, fLt_ii, fLe_ii, fGt_ii, fGe_ii, fEq_ii, fNe_ii, List.getElem?_cons_zero, List.getElem?_cons_succ, List.length_cons, List.length_nil, List.set_cons_zero, List.set_cons_succ, Option.bind_some, Option.map_some, Option.bind_none, if_true, if_false, Bool.not_true, Bool.not_false, reduceIte, Nat.reduceAdd, Nat.reduceEqDiff, lim, Nat.ble_eq, envOf, fnD, endD, List.map_cons, List.map_nil, List.replicate, List.cons_append, List.nil_append, Nat.reduceSub, asB_bl, decide_eq_true_eq, and_true, true_and, and_false, false_and, or_true, true_or, or_false, false_or, not_true_eq_false, not_false_eq_true, gComp, List.length_map, setsN_length, h2, rows_comp2 _ _ _ _ _ _ _ _ _ _ _ _ _ _ _ _ _ _ _ _ _ _ _ j m (setsN j) hr, ea]
theorem sets2_loop (a0 a1 a2 a4 a5 a6 a7 a8 a9 a10 a11 a12 a13 a14 a15 a16 a18 a19 a20 a21 a22 a23 : DL.Slot) (m : List MO) : ∀ (k j : Nat) (a3 : DL.Slot), j + k ≤ 10 → ∃ b3, forD (ggName 3) bSets2 ((List.range' j k).map fun (i : Nat) => DL.D.int (i : Int)) [a0, a1, a2, a3, a4, a5, a6, a7, a8, a9, a10, a11, a12, a13, a14, a15, a16, .val (.lst ((setsN j).map rowD)), a18, a19, a20, a21, a22, a23] m = .ok .nx [a0, a1, a2, b3, a4, a5, a6, a7, a8, a9, a10, a11, a12, a13, a14, a15, a16, .val (.lst ((setsN (j + k)).map rowD)), a18, a19, a20, a21, a22, a23] m
  | 0, j, a3, _ => ⟨a3, rfl⟩
  | k + 1, j, a3, h => by
    obtain ⟨b3, e⟩ := sets2_loop a0 a1 a2 a4 a5 a6 a7 a8 a9 a10 a11 a12 a13 a14 a15 a16 a18 a19 a20 a21 a22 a23 m k (j + 1) (.val (.int (j : Int))) (by omega)
    refine ⟨b3, ?_⟩
    rw [List.range'_succ, List.map_cons, forD]
    show loopS (bSets2 [a0, a1, a2, .val (.int (j : Int)), a4, a5, a6, a7, a8, a9, a10, a11, a12, a13, a14, a15, a16, .val (.lst ((setsN j).map rowD)), a18, a19, a20, a21, a22, a23] m) _ = _
    rw [sets2_step a0 a1 a2 a4 a5 a6 a7 a8 a9 a10 a11 a12 a13 a14 a15 a16 a18 a19 a20 a21 a22 a23 j (by omega) m]
    show forD (ggName 3) bSets2 _ _ m = _
    rw [e, show j + 1 + k = j + (k + 1) from by omega]
theorem ev_0_8 (a0 a1 a3 a4 a5 a6 a7 a8 a9 a10 a11 a12 a13 a14 a15 a16 a18 a19 a20 a21 a22 a23 : DL.Slot) (m : List MO) (ps : List (Int × Int)) (h2 : ps.length ≤ 6) : ∃ b3, m_law_0_8 [a0, a1, .val (.lst (ps.map rowI)), a3, a4, a5, a6, a7, a8, a9, a10, a11, a12, a13, a14, a15, a16, .val (.lst ((setsN 0).map rowD)), a18, a19, a20, a21, a22, a23] m = .ok .nx [a0, a1, .val (.lst (ps.map rowI)), b3, a4, a5, a6, a7, a8, a9, a10, a11, a12, a13, a14, a15, a16, .val (.lst ((setsN ps.length).map rowD)), a18, a19, a20, a21, a22, a23] m := by
  obtain ⟨b3, e⟩ := sets2_loop a0 a1 (.val (.lst (ps.map rowI))) a4 a5 a6 a7 a8 a9 a10 a11 a12 a13 a14 a15 a16 a18 a19 a20 a21 a22 a23 m ps.length 0 a3 (by omega)
  rw [Nat.zero_add] at e
  have ec : (gaCons (gCB (f1 cLen) (gaCons (gBor 2) (gaNil))) (gaNil)) [a0, a1, .val (.lst (ps.map rowI)), a3, a4, a5, a6, a7, a8, a9, a10, a11, a12, a13, a14, a15, a16, .val (.lst ((setsN 0).map rowD)), a18, a19, a20, a21, a22, a23] m = .ok [.int (ps.map rowI).length] m := rfl
  rw [List.length_map] at ec
  refine ⟨b3, ?_⟩
  rw [m_law_0_8]
  unfold gFor
  rw [rng1_of ec (okR_small (by omega) (by omega)), rng_nat]
  exact e
theorem ev_0_9 (a0 a1 a2 a3 a4 a5 a6 a7 a8 a9 a10 a11 a12 a13 a14 a15 a16 a17 a18 a19 a20 a21 a22 a23 : DL.Slot) (m : List MO) : m_law_0_9 [a0, a1, a2, a3, a4, a5, a6, a7, a8, a9, a10, a11, a12, a13, a14, a15, a16, a17, a18, a19, a20, a21, a22, a23] m = .ok .nx [a0, a1, a2, a3, a4, a5, a6, a7, a8, a9, a10, a11, a12, .own [], a14, a15, a16, a17, a18, a19, a20, a21, a22, a23] m := by
  simp (config := { decide := true, failIfUnchanged := false }) only [gSeq, gNx, gBk, gCt, gIfS, gRet, gRetN, gExpr, gSet, gOwn, ggName, ggNil, ggCons, ggTup, gAsg, gPar, gFrz, gApp, gExt, gAug, loopS, gRaise, bindS, gC, gVar, gBor, gBin, gUn, asB, gtV, gV, gtNot, gtAnd, gtOr, gIf, gtChain, gaNil, gaCons, gTup, gLst, gCB, f1, f2, gCall, gArgs, gMeth, gMakeF, gLim, gLstN, gNewM, gSlT, gSlL, gpN, gpS, gFldS, gIxS, gIxO, gPar3, gParO, gParQ, RE.bind, opt, frzE, nx, gtYes, gIt, asL_lst, asT_tup, wipeE, cInt_i, cInt_b, fAdd_ii, fSub_ii, fLt_ii, fLe_ii, fGt_ii, fGe_ii, fEq_ii, fNe_ii, List.getElem?_cons_zero, List.getElem?_cons_succ, List.length_cons, List.length_nil, List.set_cons_zero, List.set_cons_succ, Option.bind_some, Option.map_some, Option.bind_none, if_true, if_false, Bool.not_true, Bool.not_false, reduceIte, Nat.reduceAdd, Nat.reduceEqDiff, lim, Nat.ble_eq, envOf, fnD, endD, List.map_cons, List.map_nil, List.replicate, List.cons_append, List.nil_append, Nat.reduceSub, asB_bl, decide_eq_true_eq, and_true, true_and, and_false, false_and, or_true, true_or, or_false, false_or, not_true_eq_false, not_false_eq_true, m_law_0_9]
/-! the sums at the places -/
theorem rows_at {ps : List (Int × Int)} {i : Nat} (hi : i < ps.length) : (ps.map rowI)[i]? = some (rowI (ps.getD i (0, 0))) := by
  rw [List.getElem?_map, List.getD_eq_getElem?_getD]
  simp [hi]
theorem sumC0 (a0 a1 a3 a4 a5 a6 a7 a8 a9 a10 a11 a12 a13 a14 a15 a16 a17 a18 a19 a20 a21 a22 a23 : DL.Slot) (m : List MO) (ps : List (Int × Int)) : ∀ row : List Nat, (∀ i ∈ row, i < ps.length) →
    compD (ggName 3) gtYes (gBin fIx (gBin fIx (gBor 2) (gBor 3)) (gC (.int 0))) (row.map fun (i : Nat) => .int (i : Int)) [a0, a1, .val (.lst (ps.map rowI)), a3, a4, a5, a6, a7, a8, a9, a10, a11, a12, a13, a14, a15, a16, a17, a18, a19, a20, a21, a22, a23] m = .ok ((row.map fun i => (ps.getD i (0, 0)).1).map DL.D.int) m
  | [], _ => rfl
  | i :: row, hr => by
    have e := ix_lst m (ps.map rowI) i (rows_at (hr i List.mem_cons_self))
    have ih := sumC0 a0 a1 a3 a4 a5 a6 a7 a8 a9 a10 a11 a12 a13 a14 a15 a16 a17 a18 a19 a20 a21 a22 a23 m ps row fun q hq => hr q (List.mem_cons_of_mem _ hq)
    rw [List.map_cons, compD]
    simp (config := { decide := true, failIfUnchanged := false }) only [gSeq, gNx, gBk, gCt, gIfS, gRet, gRetN, gExpr, gSet, gOwn, ggName, ggNil, ggCons, ggTup, gAsg, gPar, gFrz, gApp, gExt, gAug, loopS, gRaise, bindS, gC, gVar, gBor, gBin, gUn, asB, gtV, gV, gtNot, gtAnd, gtOr, gIf, gtChain, gaNil, gaCons, gTup, gLst, gCB, f1, f2, gCall, gArgs, gMeth, gMakeF, gLim, gLstN, gNewM, gSlT, gSlL, gpN, gpS, gFldS, gIxS, gIxO, gPar3, gParO, gParQ, RE.bind, opt, frzE, nx, gtYes, gIt, asL_lst, asT_tup, wipeE, cInt_i, cInt_b, fAdd_ii, fSub_ii, fLt_ii, fLe_ii, fGt_ii, fGe_ii, fEq_ii, fNe_ii, List.getElem?_cons_zero, List.getElem?_cons_succ, List.length_cons, List.length_nil, List.set_cons_zero, List.set_cons_succ, Option.bind_some, Option.map_some, Option.bind_none, if_true, if_false, Bool.not_true, Bool.not_false, reduceIte, Nat.reduceAdd, Nat.reduceEqDiff, lim, Nat.ble_eq, envOf, fnD, endD, List.map_cons, List.map_nil, List.replicate, List.cons_append, List.nil_append, Nat.reduceSub, asB_bl, decide_eq_true_eq, and_true, true_and, and_false, false_and, or_true, true_or, or_false, false_or, not_true_eq_false, not_false_eq_true, e, ix_r0, ih]
theorem sumC1 (a0 a1 a3 a4 a5 a6 a7 a8 a9 a10 a11 a12 a13 a14 a15 a16 a17 a18 a19 a20 a21 a22 a23 : DL.Slot) (m : List MO) (ps : List (Int × Int)) : ∀ row : List Nat, (∀ i ∈ row, i < ps.length) →
    compD (ggName 3) gtYes (gBin fIx (gBin fIx (gBor 2) (gBor 3)) (gC (.int 1))) (row.map fun (i : Nat) => .int (i : Int)) [a0, a1, .val (.lst (ps.map rowI)), a3, a4, a5, a6, a7, a8, a9, a10, a11, a12, a13, a14, a15, a16, a17, a18, a19, a20, a21, a22, a23] m = .ok ((row.map fun i => (ps.getD i (0, 0)).2).map DL.D.int) m
  | [], _ => rfl
  | i :: row, hr => by
    have e := ix_lst m (ps.map rowI) i (rows_at (hr i List.mem_cons_self))
    have ih := sumC1 a0 a1 a3 a4 a5 a6 a7 a8 a9 a10 a11 a12 a13 a14 a15 a16 a17 a18 a19 a20 a21 a22 a23 m ps row fun q hq => hr q (List.mem_cons_of_mem _ hq)
    rw [List.map_cons, compD]
    simp (config := { decide := true, failIfUnchanged := false }) only [gSeq, gNx, gBk, gCt, gIfS, gRet, gRetN, gExpr, gSet, gOwn, ggName, ggNil, ggCons, ggTup, gAsg, gPar, gFrz, gApp, gExt, gAug, loopS, gRaise, bindS, gC, gVar, gBor, gBin, gUn, asB, gtV, gV, gtNot, gtAnd, gtOr, gIf, gtChain, gaNil, gaCons, gTup, gLst, gCB, f1, f2, gCall, gArgs, gMeth, gMakeF, gLim, gLstN, gNewM, gSlT, gSlL, gpN, gpS, gFldS, gIxS, gIxO, gPar3, gParO, gParQ, RE.bind, opt, frzE, nx, gtYes, gIt, asL_lst, asT_tup, wipeE, cInt_i, cInt_b, fAdd_ii, fSub_ii, fLt_ii, fLe_ii, fGt_ii, fGe_ii, fEq_ii, fNe_ii, List.getElem?_cons_zero, List.getElem?_cons_succ, List.length_cons, List.length_nil, List.set_cons_zero, List.set_cons_succ, Option.bind_some, Option.map_some, Option.bind_none, if_true, if_false, Bool.not_true, Bool.not_false, reduceIte, Nat.reduceAdd, Nat.reduceEqDiff, lim, Nat.ble_eq, envOf, fnD, endD, List.map_cons, List.map_nil, List.replicate, List.cons_append, List.nil_append, Nat.reduceSub, asB_bl, decide_eq_true_eq, and_true, true_and, and_false, false_and, or_true, true_or, or_false, false_or, not_true_eq_false, not_false_eq_true, e, ix_r1, ih]
abbrev bGood : GS := (gSeq (gAsg (gTup (gaCons (gCB (f1 cSum) (gaCons (gLstN (gComp [3] (gIt asT (gVar 19)) (ggName 3) (gtYes) (gBin fIx (gBin fIx (gBor 2) (gBor 3)) (gC (.int 0))))) (gaNil))) (gaCons (gCB (f1 cSum) (gaCons (gLstN (gComp [3] (gIt asT (gVar 19)) (ggName 3) (gtYes) (gBin fIx (gBin fIx (gBor 2) (gBor 3)) (gC (.int 1))))) (gaNil))) (gaNil)))) (ggTup 2 (ggCons (ggName 9) (ggCons (ggName 20) (ggNil))))) (gSeq (gIfS (gtAnd (gtV (gBin fNe (gBor 19) (gTup (gaNil)))) (gtAnd (gtV (gBin fLe (gBin fMul (gBor 16) (gBor 9)) (gBin fMul (gC (.int 1000)) (gBor 20)))) (gtV (gBin fLe (gBin fMul (gC (.int 1000)) (gBor 20)) (gBin fMul (gBor 18) (gBor 9)))))) (gSeq (gApp 13 (gTup (gaCons (gCB (f1 cAbs) (gaCons (gBin fSub (gBor 9) (gBor 4)) (gaNil))) (gaCons (gCB (f1 cLen) (gaCons (gBor 19) (gaNil))) (gaCons (gVar 19) (gaCons (gVar 9) (gaNil))))))) (gNx)) (gNx)) (gNx)))
theorem good_step (a0 a1 a3 a5 a6 a7 a8 a9 a10 a11 a12 a14 a15 a17 a20 a21 a22 a23 : DL.Slot) (m : List MO) (ps : List (Int × Int)) (h : ∀ p ∈ ps, okP p) (lo hi wt : Int) (gs : List DL.D) (row : List Nat) (hr : ∀ i ∈ row, i < ps.length) (hl : row.length ≤ 10) (hg : gs.length ≤ 1000) :
    ∃ b9 b20, bGood [a0, a1, .val (.lst (ps.map rowI)), a3, .val (.int wt), a5, a6, a7, a8, a9, a10, a11, a12, .own gs, a14, a15, .val (.int lo), a17, .val (.int hi), .val (rowD row), a20, a21, a22, a23] m = .ok .nx [a0, a1, .val (.lst (ps.map rowI)), a3, .val (.int wt), a5, a6, a7, a8, b9, a10, a11, a12, .own (if goodP ps lo hi row = true then gs ++ [candD ps wt row] else gs), a14, a15, .val (.int lo), a17, .val (.int hi), .val (rowD row), b20, a21, a22, a23] m := by
  obtain ⟨s1, s2⟩ := sum_small (okAll h) (·.1) (.inl rfl) row hr hl
  obtain ⟨s3, s4⟩ := sum_small (okAll h) (·.2) (.inr rfl) row hr hl
  have w1 (x : Int) : cMul x (sumAt (·.1) ps row) = true := cMul_r (by omega) (by omega)
  have w2 (x : Int) : cMul 1000 x = true := cMul_l (by decide) (by decide)
  have et : asT (rowD row) = some (row.map fun (i : Nat) => .int (i : Int)) := rfl
  have el : cLen m (rowD row) = some (.int row.length) := by
    show some (DL.D.int ((row.map fun (i : Nat) => DL.D.int (i : Int)).length)) = _
    rw [List.length_map]
  have ec : ∀ x : Int, cAbs m (.int x) = some (.int (absI x)) := fun x => rfl
  have eq : DL.D.tup [.int (absI (sumAt (·.1) ps row - wt)), .int row.length, rowD row, .int (sumAt (·.1) ps row)] = candD ps wt row := rfl
  have q1 : cSum m (.lst ((row.map fun i => (ps.getD i (0, 0)).1).map DL.D.int)) = some (.int (sumAt (·.1) ps row)) := cSum_i m _
  have q2 : cSum m (.lst ((row.map fun i => (ps.getD i (0, 0)).2).map DL.D.int)) = some (.int (sumAt (·.2) ps row)) := cSum_i m _
  have hz : row.length ≤ 1000000 := by omega
  have hz2 : gs.length + 1 ≤ 1000000 := by omega
  refine ⟨.val (.int (sumAt (·.1) ps row)), .val (.int (sumAt (·.2) ps row)), ?_⟩
  by_cases h1 : row.isEmpty = true
  · have g0 : ¬ goodP ps lo hi row = true := by unfold goodP; rw [h1]; simp
    rw [if_neg g0]
    simp (config := { decide := true, failIfUnchanged := false }) only [gSeq, gNx, gBk, gCt, gIfS, gRet, gRetN, gExpr, gSet, gOwn, ggName, ggNil, ggCons, ggTup, gAsg, gPar, gFrz, gApp, gExt, gAug, loopS, gRaise, bindS, gC, gVar, gBor, gBin, gUn, asB, gtV, gV, gtNot, gtAnd, gtOr, gIf, gtChain, gaNil, gaCons, gTup, gLst, gCB, f1, f2, gCall, gArgs, gMeth, gMakeF, gLim, gLstN, gNewM, gSlT, gSlL, gpN, gpS, gFldS, gIxS, gIxO, gPar3, gParO, gParQ, RE.bind, opt, frzE, nx, gtYes, gIt, asL_lst, asT_tup, wipeE, cInt_i, cInt_b, fAdd_ii, fSub_ii, fLt_ii, fLe_ii, fGt_ii, fGe_ii, fEq_ii, fNe_ii, List.getElem?_cons_zero, List.getElem?_cons_succ, List.length_cons, List.length_nil, List.set_cons_zero, List.set_cons_succ, Option.bind_some, Option.map_some, Option.bind_none, if_true, if_false, Bool.not_true, Bool.not_false, reduceIte, Nat.reduceAdd, Nat.reduceEqDiff, lim, Nat.ble_eq, envOf, fnD, endD, List.map_cons, List.map_nil, List.replicate, List.cons_append, List.nil_append, Nat.reduceSub, asB_bl, decide_eq_true_eq, and_true, true_and, and_false, false_and, or_true, true_or, or_false, false_or, not_true_eq_false, not_false_eq_true, gComp, et, List.length_map, hz, sumC0 _ _ _ _ _ _ _ _ _ _ _ _ _ _ _ _ _ _ _ _ _ _ _ m ps row hr, sumC1 _ _ _ _ _ _ _ _ _ _ _ _ _ _ _ _ _ _ _ _ _ _ _ m ps row hr, q1, q2, fNe_row, h1]
  · have h1' : row.isEmpty = false := by simpa using h1
    by_cases h2 : lo * sumAt (·.1) ps row ≤ 1000 * sumAt (·.2) ps row
    · by_cases h3 : 1000 * sumAt (·.2) ps row ≤ hi * sumAt (·.1) ps row
      · have g1 : goodP ps lo hi row = true := by
          unfold goodP
          rw [h1', decide_eq_true h2, decide_eq_true h3]
          rfl
        rw [if_pos g1]
        simp (config := { decide := true, failIfUnchanged := false }) only [gSeq, gNx, gBk, gCt, gIfS, gRet, gRetN, gExpr, gSet, gOwn, ggName, ggNil, ggCons, ggTup, gAsg, gPar, gFrz, gApp, gExt, gAug, loopS, gRaise, bindS, gC, gVar, gBor, gBin, gUn, asB, gtV, gV, gtNot, gtAnd, gtOr, gIf, gtChain, gaNil, gaCons, gTup, gLst, gCB, f1, f2, gCall, gArgs, gMeth, gMakeF, gLim, gLstN, gNewM, gSlT, gSlL, gpN, gpS, gFldS, gIxS, gIxO, gPar3, gParO, gParQ, RE.bind, opt, frzE, nx, gtYes, gIt, asL_lst, asT_tup, wipeE, cInt_i, cInt_b, fAdd_ii, fSub_ii, fLt_ii, fLe_ii, fGt_ii, fGe_ii, fEq_ii, fNe_ii, List.getElem?_cons_zero, List.getElem?_cons_succ, List.length_cons, List.length_nil, List.set_cons_zero, List.set_cons_succ, Option.bind_some, Option.map_some, Option.bind_none, if_true, if_false, Bool.not_true, Bool.not_false, reduceIte, Nat.reduceAdd, Nat.reduceEqDiff, lim, Nat.ble_eq, envOf, fnD, endD, List.map_cons, List.map_nil, List.replicate, List.cons_append, List.nil_append, Nat.reduceSub, asB_bl, decide_eq_true_eq, and_true, true_and, and_false, false_and, or_true, true_or, or_false, false_or, not_true_eq_false, not_false_eq_true, gComp, et, List.length_map, hz, sumC0 _ _ _ _ _ _ _ _ _ _ _ _ _ _ _ _ _ _ _ _ _ _ _ m ps row hr, sumC1 _ _ _ _ _ _ _ _ _ _ _ _ _ _ _ _ _ _ _ _ _ _ _ m ps row hr, q1, q2, fNe_row, h1', h2, h3, fMul_ii _ _ _ (w1 _), fMul_ii _ _ _ (w2 _), el, ec, eq, hz2]
      · have g0 : ¬ goodP ps lo hi row = true := by unfold goodP; rw [decide_eq_false h3]; simp
        rw [if_neg g0]
        simp (config := { decide := true, failIfUnchanged := false }) only [gSeq, gNx, gBk, gCt, gIfS, gRet, gRetN, gExpr, gSet, gOwn, ggName, ggNil, ggCons, ggTup, gAsg, gPar, gFrz, gApp, gExt, gAug, loopS, gRaise, bindS, gC, gVar, gBor, gBin, gUn, asB, gtV, gV, gtNot, gtAnd, gtOr, gIf, gtChain, gaNil, gaCons, gTup, gLst, gCB, f1, f2, gCall, gArgs, gMeth, gMakeF, gLim, gLstN, gNewM, gSlT, gSlL, gpN, gpS, gFldS, gIxS, gIxO, gPar3, gParO, gParQ, RE.bind, opt, frzE, nx, gtYes, gIt, asL_lst, asT_tup, wipeE, cInt_i, cInt_b, fAdd_ii, fSub_ii, fLt_ii, fLe_ii, fGt_ii, fGe_ii, fEq_ii, fNe_ii, List.getElem?_cons_zero, List.getElem?_cons_succ, List.length_cons, List.length_nil, List.set_cons_zero, List.set_cons_succ, Option.bind_some, Option.map_some, Option.bind_none, if_true, if_false, Bool.not_true, Bool.not_false, reduceIte, Nat.reduceAdd, Nat.reduceEqDiff, lim, Nat.ble_eq, envOf, fnD, endD, List.map_cons, List.map_nil, List.replicate, List.cons_append, List.nil_append, Nat.reduceSub, asB_bl, decide_eq_true_eq, and_true, true_and, and_false, false_and, or_true, true_or, or_false, false_or, not_true_eq_false, not_false_eq_true, gComp, et, List.length_map, hz, sumC0 _ _ _ _ _ _ _ _ _ _ _ _ _ _ _ _ _ _ _ _ _ _ _ m ps row hr, sumC1 _ _ _ _ _ _ _ _ _ _ _ _ _ _ _ _ _ _ _ _ _ _ _ m ps row hr, q1, q2, fNe_row, h1', h2, h3, fMul_ii _ _ _ (w1 _), fMul_ii _ _ _ (w2 _)]
    · have g0 : ¬ goodP ps lo hi row = true := by unfold goodP; rw [decide_eq_false h2]; simp
      rw [if_neg g0]
      simp (config := { decide := true, failIfUnchanged := false }) only [gSeq, gNx, gBk, gCt, gIfS, gRet, gRetN, gExpr, gSet, gOwn, ggName, ggNil, ggCons, ggTup, gAsg, gPar, gFrz, gApp, gExt, gAug, loopS, gRaise, bindS, gC, gVar, gBor, gBin, gUn, asB, gtV, gV, gtNot, gtAnd, gtOr, gIf, gtChain, gaNil, gaCons, gTup, gLst, gCB, f1, f2, gCall, gArgs, gMeth, gMakeF, gLim, gLstN, gNewM, gSlT, gSlL, gpN, gpS, gFldS, gIxS, gIxO, gPar3, gParO, gParQ, RE.bind, opt, frzE, nx, gtYes, gIt, asL_lst, asT_tup, wipeE, cInt_i, cInt_b, fAdd_ii, fSub_ii, fLt_ii, fLe_ii, fGt_ii, fGe_ii, fEq_ii, fNe_ii, List.getElem?_cons_zero, List.getElem?_cons_succ, List.length_cons, List.length_nil, List.set_cons_zero, List.set_cons_succ, Option.bind_some, Option.map_some, Option.bind_none, if_true, if_false, Bool.not_true, Bool.not_false, reduceIte, Nat.reduceAdd, Nat.reduceEqDiff, lim, Nat.ble_eq, envOf, fnD, endD, List.map_cons, List.map_nil, List.replicate, List.cons_append, List.nil_append, Nat.reduceSub, asB_bl, decide_eq_true_eq, and_true, true_and, and_false, false_and, or_true, true_or, or_false, false_or, not_true_eq_false, not_false_eq_true, gComp, et, List.length_map, hz, sumC0 _ _ _ _ _ _ _ _ _ _ _ _ _ _ _ _ _ _ _ _ _ _ _ m ps row hr, sumC1 _ _ _ _ _ _ _ _ _ _ _ _ _ _ _ _ _ _ _ _ _ _ _ m ps row hr, q1, q2, fNe_row, h1', h2, fMul_ii _ _ _ (w1 _), fMul_ii _ _ _ (w2 _)]
theorem good_loop (a0 a1 a3 a5 a6 a7 a8 a10 a11 a12 a14 a15 a17 a21 a22 a23 : DL.Slot) (m : List MO) (ps : List (Int × Int)) (h : ∀ p ∈ ps, okP p) (lo hi wt : Int) : ∀ (rows : List (List Nat)) (gs : List DL.D) (a9 a19 a20 : DL.Slot), gs.length + rows.length ≤ 1000 → (∀ r ∈ rows, (∀ i ∈ r, i < ps.length) ∧ r.length ≤ 10) →
    ∃ b9 b19 b20, forD (ggName 19) bGood (rows.map rowD) [a0, a1, .val (.lst (ps.map rowI)), a3, .val (.int wt), a5, a6, a7, a8, a9, a10, a11, a12, .own gs, a14, a15, .val (.int lo), a17, .val (.int hi), a19, a20, a21, a22, a23] m = .ok .nx [a0, a1, .val (.lst (ps.map rowI)), a3, .val (.int wt), a5, a6, a7, a8, b9, a10, a11, a12, .own (gs ++ (rows.filter (goodP ps lo hi)).map (candD ps wt)), a14, a15, .val (.int lo), a17, .val (.int hi), b19, b20, a21, a22, a23] m
  | [], gs, a9, a19, a20, _, _ => ⟨a9, a19, a20, by rw [List.map_nil, forD, List.filter_nil, List.map_nil, List.append_nil]⟩
  | r :: rows, gs, a9, a19, a20, hl, hr => by
    obtain ⟨h1, h2⟩ := hr r List.mem_cons_self
    have hl' : gs.length + (rows.length + 1) ≤ 1000 := hl
    obtain ⟨b9, b20, e⟩ := good_step a0 a1 a3 a5 a6 a7 a8 a9 a10 a11 a12 a14 a15 a17 a20 a21 a22 a23 m ps h lo hi wt gs r h1 h2 (by omega)
    obtain ⟨c9, c19, c20, e2⟩ := good_loop a0 a1 a3 a5 a6 a7 a8 a10 a11 a12 a14 a15 a17 a21 a22 a23 m ps h lo hi wt rows (if goodP ps lo hi r = true then gs ++ [candD ps wt r] else gs) b9 (.val (rowD r)) b20 (by
      split
      · rw [List.length_append]; show gs.length + 1 + rows.length ≤ 1000; omega
      · omega) fun q hq => hr q (List.mem_cons_of_mem _ hq)
    refine ⟨c9, c19, c20, ?_⟩
    have ef : gs ++ ((r :: rows).filter (goodP ps lo hi)).map (candD ps wt) = (if goodP ps lo hi r = true then gs ++ [candD ps wt r] else gs) ++ (rows.filter (goodP ps lo hi)).map (candD ps wt) := by
      rw [List.filter_cons]
      by_cases hg : goodP ps lo hi r = true
      · rw [if_pos hg, if_pos hg, List.map_cons, List.append_assoc]
        rfl
      · rw [if_neg hg, if_neg hg]
    rw [List.map_cons, forD, ef]
    show loopS (bGood [a0, a1, .val (.lst (ps.map rowI)), a3, .val (.int wt), a5, a6, a7, a8, a9, a10, a11, a12, .own gs, a14, a15, .val (.int lo), a17, .val (.int hi), .val (rowD r), a20, a21, a22, a23] m) _ = _
    rw [e]
    exact e2
theorem ev_0_10 (a0 a1 a3 a5 a6 a7 a8 a9 a10 a11 a12 a14 a15 a19 a20 a21 a22 a23 : DL.Slot) (m : List MO) (ps : List (Int × Int)) (h2 : ps.length ≤ 6) (h : ∀ p ∈ ps, okP p) (lo hi wt : Int) : ∃ b9 b19 b20, m_law_0_10 [a0, a1, .val (.lst (ps.map rowI)), a3, .val (.int wt), a5, a6, a7, a8, a9, a10, a11, a12, .own [], a14, a15, .val (.int lo), .val (.lst ((setsN ps.length).map rowD)), .val (.int hi), a19, a20, a21, a22, a23] m = .ok .nx [a0, a1, .val (.lst (ps.map rowI)), a3, .val (.int wt), a5, a6, a7, a8, b9, a10, a11, a12, .own (((setsN ps.length).filter (goodP ps lo hi)).map (candD ps wt)), a14, a15, .val (.int lo), .val (.lst ((setsN ps.length).map rowD)), .val (.int hi), b19, b20, a21, a22, a23] m := by
  have hset : ∀ r ∈ setsN ps.length, (∀ i ∈ r, i < ps.length) ∧ r.length ≤ 10 := fun r hr => by
    obtain ⟨a, b⟩ := setsN_mem hr
    exact ⟨b, by omega⟩
  have hlen : (setsN ps.length).length ≤ 1000 := by
    rw [setsN_length]
    exact Nat.le_trans (Nat.pow_le_pow_right (by decide) h2) (by decide)
  generalize hS : setsN ps.length = ss at *
  obtain ⟨b9, b19, b20, e⟩ := good_loop a0 a1 a3 a5 a6 a7 a8 a10 a11 a12 a14 a15 (.val (.lst (ss.map rowD))) a21 a22 a23 m ps h lo hi wt ss [] a9 a19 a20 (by rw [List.length_nil]; omega) hset
  rw [List.nil_append] at e
  exact ⟨b9, b19, b20, e⟩
/-! the least of the candidates -/
theorem mapO_cand (m : List MO) (ps : List (Int × Int)) (wt : Int) : ∀ rows : List (List Nat), mapO (toP m fuelP) (rows.map (candD ps wt)) = some (rows.map (candP ps wt))
  | [] => rfl
  | r :: rows => by
    rw [List.map_cons, mapO, toP_cand, mapO_cand m ps wt rows]
    rfl
theorem toP_cand31 (m : List MO) (ps : List (Int × Int)) (wt : Int) (row : List Nat) : toP m 31 (candD ps wt row) = some (candP ps wt row) := by
  have e : toP m 30 (rowD row) = some (rowP row) := by
    show (mapO (toP m 29) (row.map fun (i : Nat) => DL.D.int (i : Int))).map PyData.tuple = _
    rw [mapO_ints]
    rfl
  show (mapO (toP m 30) [DL.D.int (absI (sumAt (·.1) ps row - wt)), .int row.length, rowD row, .int (sumAt (·.1) ps row)]).map PyData.tuple = _
  rw [mapO, mapO, mapO, e]
  rfl
theorem mapO_cand31 (m : List MO) (ps : List (Int × Int)) (wt : Int) : ∀ rows : List (List Nat), mapO (toP m 31) (rows.map (candD ps wt)) = some (rows.map (candP ps wt))
  | [] => rfl
  | r :: rows => by
    rw [List.map_cons, mapO, toP_cand31, mapO_cand31 m ps wt rows]
    rfl
theorem alk_cands (ps : List (Int × Int)) (wt : Int) (rows : List (List Nat)) : alkAll (rows.map (candP ps wt)) = true := by
  unfold alkAll
  rw [List.all_eq_true]
  intro x hx
  obtain ⟨r, _, rfl⟩ := List.mem_map.mp hx
  rw [Bool.and_eq_true, List.all_eq_true]
  refine ⟨rfl, fun y hy => ?_⟩
  obtain ⟨r', _, rfl⟩ := List.mem_map.mp hy
  exact alike_cand ps wt r r'
theorem cMin_cand (m : List MO) (ps : List (Int × Int)) (wt : Int) (r : List Nat) (rows : List (List Nat)) : cMinL m (.lst ((r :: rows).map (candD ps wt))) = some (ofP (PySem.W.minD (candP ps wt r) (rows.map (candP ps wt)))) := by
  show (mapO (toP [] fuelP) ((r :: rows).map (candD ps wt))).bind _ = _
  rw [mapO_cand]
  show (if alkAll ((r :: rows).map (candP ps wt)) = true then _ else _) = _
  rw [if_pos (alk_cands ps wt _)]
theorem min_cand (ps : List (Int × Int)) (wt : Int) : ∀ (rows : List (List Nat)) (r : List Nat), ∃ q, PySem.W.minD (candP ps wt r) (rows.map (candP ps wt)) = candP ps wt q
  | [], r => ⟨r, rfl⟩
  | x :: rows, r => by
    show ∃ q, List.foldl _ (if PySem.W.dataLt (candP ps wt x) (candP ps wt r) = true then candP ps wt x else candP ps wt r) (rows.map (candP ps wt)) = _
    split
    · exact min_cand ps wt rows x
    · exact min_cand ps wt rows r
theorem ofP_cand (ps : List (Int × Int)) (wt : Int) (r : List Nat) : ofP (candP ps wt r) = candD ps wt r := by
  rw [candP, ofP, ofPs, ofPs, ofPs, ofPs, ofPs, ofP_row, ofP, ofP, ofP]
  first | rfl | skip
theorem toP_best (m : List MO) (r : List Nat) (x : Int) : toP m fuelP (.tup [rowD r, .int x]) = some (.tuple [rowP r, .int x]) := by
  have e : toP m 31 (rowD r) = some (rowP r) := by
    show (mapO (toP m 30) (r.map fun (i : Nat) => DL.D.int (i : Int))).map PyData.tuple = _
    rw [mapO_ints]
    rfl
  show (mapO (toP m 31) [rowD r, .int x]).map PyData.tuple = _
  rw [mapO, mapO, mapO, e]
  rfl
theorem ev_0_11 (a0 a1 a2 a3 a6 a7 a8 a9 a10 a11 a12 a14 a15 a17 a19 a20 a21 a22 a23 : DL.Slot) (t : Int × Int × Int) (ps : List (Int × Int)) (h2 : ps.length ≤ 6) (h : ∀ p ∈ ps, okP p) (lo hi wt : Int) (hlh : lo ≤ hi) : (gSeq m_law_0_11 gNx) [a0, a1, a2, a3, .val (.int wt), .val (.lst (ps.map barI)), a6, a7, a8, a9, a10, a11, a12, .own (((setsN ps.length).filter (goodP ps lo hi)).map (candD ps wt)), a14, a15, .val (.int lo), a17, .val (.int hi), a19, a20, a21, a22, a23] (DM t) = .ok .nx [a0, a1, a2, a3, .val (.int wt), .val (.lst (ps.map barI)), a6, a7, a8, a9, a10, a11, a12, .own (((setsN ps.length).filter (goodP ps lo hi)).map (candD ps wt)), a14, a15, .val (.int lo), a17, .val (.int hi), a19, a20, a21, a22, a23] (DM t) := by
  have e : S_best_melt [.lst (ps.map barI), .int lo, .int hi, .int wt] (DM t) = (match bestOf ps lo hi wt with
      | none => .ok .non (DM t)
      | some p => .ok (.tup [ofP (partP p 2), ofP (partP p 3)]) (DM t)) := by
    show (if (ps.map barI).length > 10 ∨ lo > hi then _ else (match mapO barOf (ps.map barI) with | some ps => _ | none => _)) = _
    rw [mapO_bars, if_neg (show ¬ ((ps.map barI).length > 10 ∨ lo > hi) by rw [List.length_map]; omega)]
    exact if_pos ⟨okAll h, rfl⟩
  have eb : bestOf ps lo hi wt = (match ((setsN ps.length).filter (goodP ps lo hi)).map (candP ps wt) with
    | [] => none
    | p :: qs => some (PySem.W.minD p qs)) := rfl
  cases hs : (setsN ps.length).filter (goodP ps lo hi) with
  | nil =>
    rw [hs] at eb
    rw [eb] at e
    have e' : S_best_melt [.lst (ps.map barI), .int lo, .int hi, .int wt] (DM t) = .ok .non (DM t) := e
    have e2 : fNe (DM t) (.lst []) (.lst []) = some (.bl false) := rfl
    have e3 : fNe (DM t) .non .non = some (.bl false) := rfl
    simp (config := { decide := true, failIfUnchanged := false }) only [gSeq, gNx, gBk, gCt, gIfS, gRet, gRetN, gExpr, gSet, gOwn, ggName, ggNil, ggCons, ggTup, gAsg, gPar, gFrz, gApp, gExt, gAug, loopS, gRaise, bindS, gC, gVar, gBor, gBin, gUn, asB, gtV, gV, gtNot, gtAnd, gtOr, gIf, gtChain, gaNil, gaCons, gTup, gLst, gCB, f1, f2, gCall, gArgs, gMeth, gMakeF, gLim, gLstN, gNewM, gSlT, gSlL, gpN, gpS, gFldS, gIxS, gIxO, gPar3, gParO, gParQ, RE.bind, opt, frzE, nx, gtYes, gIt, asL_lst, asT_tup, wipeE, cInt_i, cInt_b, fAdd_ii, fSub_ii, fLt_ii, fLe_ii, fGt_ii, fGe_ii, fEq_ii, fNe_ii, List.getElem?_cons_zero, List.getElem?_cons_succ, List.length_cons, List.length_nil, List.set_cons_zero, List.set_cons_succ, Option.bind_some, Option.map_some, Option.bind_none, if_true, if_false, Bool.not_true, Bool.not_false, reduceIte, Nat.reduceAdd, Nat.reduceEqDiff, lim, Nat.ble_eq, envOf, fnD, endD, List.map_cons, List.map_nil, List.replicate, List.cons_append, List.nil_append, Nat.reduceSub, asB_bl, decide_eq_true_eq, and_true, true_and, and_false, false_and, or_true, true_or, or_false, false_or, not_true_eq_false, not_false_eq_true, m_law_0_11, e', e2, e3]
  | cons r rows =>
    rw [hs] at eb
    rw [eb] at e
    obtain ⟨q, hq⟩ := min_cand ps wt rows r
    have e1 : S_best_melt [.lst (ps.map barI), .int lo, .int hi, .int wt] (DM t) = .ok (.tup [rowD q, .int (sumAt (·.1) ps q)]) (DM t) := by
      rw [e, List.map_cons]
      show RE.ok (DL.D.tup [ofP (partP (PySem.W.minD (candP ps wt r) (rows.map (candP ps wt))) 2), ofP (partP (PySem.W.minD (candP ps wt r) (rows.map (candP ps wt))) 3)]) (DM t) = _
      rw [hq]
      have f2 : ofP (partP (candP ps wt q) 2) = rowD q := ofP_row q
      have f3 : ofP (partP (candP ps wt q) 3) = .int (sumAt (·.1) ps q) := by
        show ofP (.int _) = _
        rw [ofP]
      rw [f2, f3]
    have e2 : fNe (DM t) (.lst ((r :: rows).map (candD ps wt))) (.lst []) = some (.bl true) := by
      show (toP (DM t) fuelP (.lst ((r :: rows).map (candD ps wt)))).bind _ = _
      have : toP (DM t) fuelP (.lst ((r :: rows).map (candD ps wt))) = (mapO (toP (DM t) 31) ((r :: rows).map (candD ps wt))).map .list := rfl
      have : mapO (toP (DM t) 31) ((r :: rows).map (candD ps wt)) = some ((r :: rows).map (candP ps wt)) := mapO_cand31 (DM t) ps wt (r :: rows)
      rw [‹toP (DM t) fuelP _ = _›, this]
      rfl
    have e3 : cMinL (DM t) (.lst ((r :: rows).map (candD ps wt))) = some (candD ps wt q) := by
      rw [cMin_cand, hq, ofP_cand]
    have e4 : fIx (DM t) (candD ps wt q) (.int 2) = some (rowD q) := rfl
    have e5 : fIx (DM t) (candD ps wt q) (.int 3) = some (.int (sumAt (·.1) ps q)) := rfl
    have e6 : fNe (DM t) (.tup [rowD q, .int (sumAt (·.1) ps q)]) (.tup [rowD q, .int (sumAt (·.1) ps q)]) = some (.bl false) := fNe_self (toP_best (DM t) q _)
    generalize (r :: rows).map (candD ps wt) = cs at *
    simp (config := { decide := true, failIfUnchanged := false }) only [gSeq, gNx, gBk, gCt, gIfS, gRet, gRetN, gExpr, gSet, gOwn, ggName, ggNil, ggCons, ggTup, gAsg, gPar, gFrz, gApp, gExt, gAug, loopS, gRaise, bindS, gC, gVar, gBor, gBin, gUn, asB, gtV, gV, gtNot, gtAnd, gtOr, gIf, gtChain, gaNil, gaCons, gTup, gLst, gCB, f1, f2, gCall, gArgs, gMeth, gMakeF, gLim, gLstN, gNewM, gSlT, gSlL, gpN, gpS, gFldS, gIxS, gIxO, gPar3, gParO, gParQ, RE.bind, opt, frzE, nx, gtYes, gIt, asL_lst, asT_tup, wipeE, cInt_i, cInt_b, fAdd_ii, fSub_ii, fLt_ii, fLe_ii, fGt_ii, fGe_ii, fEq_ii, fNe_ii, List.getElem?_cons_zero, List.getElem?_cons_succ, List.length_cons, List.length_nil, List.set_cons_zero, List.set_cons_succ, Option.bind_some, Option.map_some, Option.bind_none, if_true, if_false, Bool.not_true, Bool.not_false, reduceIte, Nat.reduceAdd, Nat.reduceEqDiff, lim, Nat.ble_eq, envOf, fnD, endD, List.map_cons, List.map_nil, List.replicate, List.cons_append, List.nil_append, Nat.reduceSub, asB_bl, decide_eq_true_eq, and_true, true_and, and_false, false_and, or_true, true_or, or_false, false_or, not_true_eq_false, not_false_eq_true, m_law_0_11, e1, e2, e3, e4, e5, e6]
end K01
/-! P14: the law whole. -/
namespace K01
open PySem PySem.Spec DL
theorem rounds_ok (ns : List Int) : ∃ t, S_rounds [.slst (ns.map DL.D.int), .int 1] [] = .ok (.lst [.ref 0]) (DM t) := by
  have hd : ∀ c : Int, ∃ t : Int × Int × Int, diceL c = [.int t.1, .int t.2.1, .int t.2.2] := fun c => by
    unfold diceL
    split
    · exact ⟨(_, _, _), rfl⟩
    · exact ⟨(_, _, _), rfl⟩
  cases ns with
  | nil =>
    obtain ⟨t, e⟩ := hd 0
    refine ⟨t, ?_⟩
    show RE.ok _ ([] ++ [MO.lst (diceL 0)]) = _
    rw [e]
    rfl
  | cons c ns =>
    obtain ⟨t, e⟩ := hd c
    refine ⟨t, ?_⟩
    show RE.ok _ ([] ++ [MO.lst (diceL c)]) = _
    rw [e]
    rfl
theorem ev_0 (ns : List Int) : ∃ (b0 b1 b2 b3 b4 b5 b6 b7 b8 b9 b10 b11 b12 b13 b14 b15 b16 b17 b18 b19 b20 b21 b22 b23 : DL.Slot) (t : Int × Int × Int), m_law_0 [.val (.slst (ns.map DL.D.int)), .un, .un, .un, .un, .un, .un, .un, .un, .un, .un, .un, .un, .un, .un, .un, .un, .un, .un, .un, .un, .un, .un, .un] [] = .ok .nx [b0, b1, b2, b3, b4, b5, b6, b7, b8, b9, b10, b11, b12, b13, b14, b15, b16, b17, b18, b19, b20, b21, b22, b23] (DM t) := by
  obtain ⟨t0, e0⟩ := rounds_ok ns
  generalize hX : DL.Slot.val (.slst (ns.map DL.D.int)) = a0
  obtain ⟨ps, t1, c3, c4, e1, p1, p2, hp⟩ := ev_0_1 a0 t0
  obtain ⟨t2, b4, b6, b7, b8, b9, b10, b11, b12, b13, b14, e3⟩ := ev_0_3 a0 c3 c4 t1 ps hp
  obtain ⟨lo, hi, wt, t3, e67, hlh⟩ := ev_0_67 a0 (.val (.lst (ps.map rowI))) c3 b4 (.val (.lst (ps.map barI))) b6 b7 b8 b9 b10 b11 b12 b13 b14 (.val (bar (ps.map (·.1)).sum (ps.map (·.2)).sum)) .un .un .un .un .un .un .un .un t2 (gSeq m_law_0_8 (gSeq m_law_0_9 (gSeq m_law_0_10 (gSeq m_law_0_11 (gNx)))))
  obtain ⟨d3, e8⟩ := ev_0_8 a0 (.val (.ref 0)) c3 (.val (.int wt)) (.val (.lst (ps.map barI))) b6 b7 b8 b9 b10 b11 b12 b13 b14 (.val (bar (ps.map (·.1)).sum (ps.map (·.2)).sum)) (.val (.int lo)) (.val (.int hi)) .un .un .un .un .un (DM t3) ps p2
  obtain ⟨d9, d19, d20, e10⟩ := ev_0_10 a0 (.val (.ref 0)) d3 (.val (.lst (ps.map barI))) b6 b7 b8 b9 b10 b11 b12 b14 (.val (bar (ps.map (·.1)).sum (ps.map (·.2)).sum)) .un .un .un .un .un (DM t3) ps p2 hp lo hi wt
  have e11 := ev_0_11 a0 (.val (.ref 0)) (.val (.lst (ps.map rowI))) d3 b6 b7 b8 d9 b10 b11 b12 b14 (.val (bar (ps.map (·.1)).sum (ps.map (·.2)).sum)) (.val (.lst ((setsN ps.length).map rowD))) d19 d20 .un .un .un t3 ps p2 hp lo hi wt hlh
  refine ⟨a0, .val (.ref 0), .val (.lst (ps.map rowI)), d3, .val (.int wt), .val (.lst (ps.map barI)), b6, b7, b8, d9, b10, b11, b12, .own (((setsN ps.length).filter (goodP ps lo hi)).map (candD ps wt)), b14, .val (bar (ps.map (·.1)).sum (ps.map (·.2)).sum), .val (.int lo), .val (.lst ((setsN ps.length).map rowD)), .val (.int hi), d19, d20, .un, .un, .un, t3, ?_⟩
  have eI : (gIt asL (gCall S_rounds (gArgs 2 (gaCons (gVar 0) (gaCons (gC (.int 1)) (gaNil)))))) [a0, .un, .un, .un, .un, .un, .un, .un, .un, .un, .un, .un, .un, .un, .un, .un, .un, .un, .un, .un, .un, .un, .un, .un] [] = .ok [.ref 0] (DM t0) := by
    rw [← hX]
    simp (config := { decide := true, failIfUnchanged := false }) only [gSeq, gNx, gBk, gCt, gIfS, gRet, gRetN, gExpr, gSet, gOwn, ggName, ggNil, ggCons, ggTup, gAsg, gPar, gFrz, gApp, gExt, gAug, loopS, gRaise, bindS, gC, gVar, gBor, gBin, gUn, asB, gtV, gV, gtNot, gtAnd, gtOr, gIf, gtChain, gaNil, gaCons, gTup, gLst, gCB, f1, f2, gCall, gArgs, gMeth, gMakeF, gLim, gLstN, gNewM, gSlT, gSlL, gpN, gpS, gFldS, gIxS, gIxO, gPar3, gParO, gParQ, RE.bind, opt, frzE, nx, gtYes, gIt, asL_lst, asT_tup, wipeE, cInt_i, cInt_b, fAdd_ii, fSub_ii, fLt_ii, fLe_ii, fGt_ii, fGe_ii, fEq_ii, fNe_ii, List.getElem?_cons_zero, List.getElem?_cons_succ, List.length_cons, List.length_nil, List.set_cons_zero, List.set_cons_succ, Option.bind_some, Option.map_some, Option.bind_none, if_true, if_false, Bool.not_true, Bool.not_false, reduceIte, Nat.reduceAdd, Nat.reduceEqDiff, lim, Nat.ble_eq, envOf, fnD, endD, List.map_cons, List.map_nil, List.replicate, List.cons_append, List.nil_append, Nat.reduceSub, asB_bl, decide_eq_true_eq, and_true, true_and, and_false, false_and, or_true, true_or, or_false, false_or, not_true_eq_false, not_false_eq_true, e0]
  rw [m_law_0]
  unfold gFor
  rw [eI]
  show loopS ((gSeq m_law_0_0 (gSeq m_law_0_1 (gSeq m_law_0_2 (gSeq m_law_0_3 (gSeq m_law_0_4 (gSeq m_law_0_5 (gSeq m_law_0_6 (gSeq m_law_0_7 (gSeq m_law_0_8 (gSeq m_law_0_9 (gSeq m_law_0_10 (gSeq m_law_0_11 (gNx))))))))))))) [a0, .val (.ref 0), .un, .un, .un, .un, .un, .un, .un, .un, .un, .un, .un, .un, .un, .un, .un, .un, .un, .un, .un, .un, .un, .un] (DM t0)) (fun env m => .ok .nx env m) = _
  rw [gSeq_nx (ev_0_0 a0 _), gSeq_nx e1, gSeq_nx (ev_0_2 a0 c3 c4 (DM t1) ps (by omega) hp), gSeq_nx e3, gSeq_nx (ev_0_4 _ _ _ _ _ _ _ _ _ _ _ _ _ _ _ _ _ _ _ _ _ _ _ _ ps p1 p2 hp), gSeq_nx (ev_0_5 _ _ _ _ _ _ _ _ _ _ _ _ _ _ _ _ _ _ _ _ _ _ _ ps p2), e67, gSeq_nx e8, gSeq_nx (ev_0_9 _ _ _ _ _ _ _ _ _ _ _ _ _ _ _ _ _ _ _ _ _ _ _ _ _), gSeq_nx e10, e11]
  rfl
theorem ev_1 (a0 a1 a2 a3 a4 a5 a6 a7 a8 a9 a10 a11 a12 a13 a14 a15 a16 a17 a18 a19 a20 a21 a22 a23 : DL.Slot) (m : List MO) : m_law_1 [a0, a1, a2, a3, a4, a5, a6, a7, a8, a9, a10, a11, a12, a13, a14, a15, a16, a17, a18, a19, a20, a21, a22, a23] m = .ok .nx [a0, a1, a2, a3, a4, a5, a6, a7, a8, a9, a10, a11, a12, a13, a14, a15, a16, a17, a18, a19, a20, .val (bar 1000000 0), a22, a23] m := by
  have e : mkBar [.int 1000000, .int 0] = some (.ok [("weight", .int 1000000), ("fine", .int 0)]) := rfl
  simp (config := { decide := true, failIfUnchanged := false }) only [gSeq, gNx, gBk, gCt, gIfS, gRet, gRetN, gExpr, gSet, gOwn, ggName, ggNil, ggCons, ggTup, gAsg, gPar, gFrz, gApp, gExt, gAug, loopS, gRaise, bindS, gC, gVar, gBor, gBin, gUn, asB, gtV, gV, gtNot, gtAnd, gtOr, gIf, gtChain, gaNil, gaCons, gTup, gLst, gCB, f1, f2, gCall, gArgs, gMeth, gMakeF, gLim, gLstN, gNewM, gSlT, gSlL, gpN, gpS, gFldS, gIxS, gIxO, gPar3, gParO, gParQ, RE.bind, opt, frzE, nx, gtYes, gIt, asL_lst, asT_tup, wipeE, cInt_i, cInt_b, fAdd_ii, fSub_ii, fLt_ii, fLe_ii, fGt_ii, fGe_ii, fEq_ii, fNe_ii, List.getElem?_cons_zero, List.getElem?_cons_succ, List.length_cons, List.length_nil, List.set_cons_zero, List.set_cons_succ, Option.bind_some, Option.map_some, Option.bind_none, if_true, if_false, Bool.not_true, Bool.not_false, reduceIte, Nat.reduceAdd, Nat.reduceEqDiff, lim, Nat.ble_eq, envOf, fnD, endD, List.map_cons, List.map_nil, List.replicate, List.cons_append, List.nil_append, Nat.reduceSub, asB_bl, decide_eq_true_eq, and_true, true_and, and_false, false_and, or_true, true_or, or_false, false_or, not_true_eq_false, not_false_eq_true, m_law_1, e, bar_fold]
def lams13 : List DL.D := [.lam 0, .lam 1, .lam 2, .lam 3, .lam 4, .lam 5, .lam 6, .lam 7, .lam 8, .lam 9, .lam 10, .lam 11, .lam 12]
theorem ev_2 (a0 a1 a2 a3 a4 a5 a6 a7 a8 a9 a10 a11 a12 a13 a14 a15 a16 a17 a18 a19 a20 a21 a22 a23 : DL.Slot) (m : List MO) : m_law_2 [a0, a1, a2, a3, a4, a5, a6, a7, a8, a9, a10, a11, a12, a13, a14, a15, a16, a17, a18, a19, a20, a21, a22, a23] m = .ok .nx [a0, a1, a2, a3, a4, a5, a6, a7, a8, a9, a10, a11, a12, a13, a14, a15, a16, a17, a18, a19, a20, a21, .val (.lst lams13), a23] m := rfl
abbrev tBad : GT := gtV (gBin fNe (gToldV B_law ["MetalError"] "MetalError" 23 [23]) (gC (.str "MetalError")))
theorem bad_of (a0 a1 a2 a3 a4 a5 a6 a7 a8 a9 a10 a11 a12 a13 a14 a15 a16 a17 a18 a19 a20 a22 : DL.Slot) (m : List MO) (j : Nat) (ge : GE) (hj : B_law[j]? = some ge) (h : ge [a0, a1, a2, a3, a4, a5, a6, a7, a8, a9, a10, a11, a12, a13, a14, a15, a16, a17, a18, a19, a20, .val (bar 1000000 0), a22, .un] m = .ex "MetalError" m) : tBad [a0, a1, a2, a3, a4, a5, a6, a7, a8, a9, a10, a11, a12, a13, a14, a15, a16, a17, a18, a19, a20, .val (bar 1000000 0), a22, .val (.lam j)] m = .ok false m := by
  have hm : (("MetalError" : Str) ∈ (["MetalError"] : List Str)) = True := eq_true List.mem_cons_self
  have e : gToldV B_law ["MetalError"] "MetalError" 23 [23] [a0, a1, a2, a3, a4, a5, a6, a7, a8, a9, a10, a11, a12, a13, a14, a15, a16, a17, a18, a19, a20, .val (bar 1000000 0), a22, .val (.lam j)] m = .ok (.str "MetalError") m := by
    show (match B_law[j]? with | some ge => gTold ["MetalError"] "MetalError" ge [a0, a1, a2, a3, a4, a5, a6, a7, a8, a9, a10, a11, a12, a13, a14, a15, a16, a17, a18, a19, a20, .val (bar 1000000 0), a22, .un] m | none => .no) = _
    rw [hj]
    show (match ge [a0, a1, a2, a3, a4, a5, a6, a7, a8, a9, a10, a11, a12, a13, a14, a15, a16, a17, a18, a19, a20, .val (bar 1000000 0), a22, .un] m with | .ok d m => _ | .ex c m => _ | .no => _) = _
    rw [h]
    exact if_pos List.mem_cons_self
  show RE.bind (RE.bind (gToldV B_law ["MetalError"] "MetalError" 23 [23] [a0, a1, a2, a3, a4, a5, a6, a7, a8, a9, a10, a11, a12, a13, a14, a15, a16, a17, a18, a19, a20, .val (bar 1000000 0), a22, .val (.lam j)] m) _) _ = _
  rw [e]
  show RE.bind (opt (fNe m (.str "MetalError") (.str "MetalError")) m) _ = _
  rw [fNe_s]
  rfl
theorem bad_all (a0 a1 a2 a3 a4 a5 a6 a7 a8 a9 a10 a11 a12 a13 a14 a15 a16 a17 a18 a19 a20 a22 : DL.Slot) (m : List MO) : ∀ js : List Nat, (∀ j ∈ js, ∃ ge, B_law[j]? = some ge ∧ ge [a0, a1, a2, a3, a4, a5, a6, a7, a8, a9, a10, a11, a12, a13, a14, a15, a16, a17, a18, a19, a20, .val (bar 1000000 0), a22, .un] m = .ex "MetalError" m) → compD (ggName 23) tBad (gC (.int 1)) (js.map DL.D.lam) [a0, a1, a2, a3, a4, a5, a6, a7, a8, a9, a10, a11, a12, a13, a14, a15, a16, a17, a18, a19, a20, .val (bar 1000000 0), a22, .un] m = .ok [] m
  | [], _ => rfl
  | j :: js, h => by
    obtain ⟨ge, h1, h2⟩ := h j List.mem_cons_self
    rw [List.map_cons, compD]
    show nx (tBad [a0, a1, a2, a3, a4, a5, a6, a7, a8, a9, a10, a11, a12, a13, a14, a15, a16, a17, a18, a19, a20, .val (bar 1000000 0), a22, .val (.lam j)] m) _ = _
    rw [bad_of a0 a1 a2 a3 a4 a5 a6 a7 a8 a9 a10 a11 a12 a13 a14 a15 a16 a17 a18 a19 a20 a22 m j ge h1 h2]
    exact bad_all a0 a1 a2 a3 a4 a5 a6 a7 a8 a9 a10 a11 a12 a13 a14 a15 a16 a17 a18 a19 a20 a22 m js fun q hq => h q (List.mem_cons_of_mem _ hq)
theorem bads (a0 a1 a2 a3 a4 a5 a6 a7 a8 a9 a10 a11 a12 a13 a14 a15 a16 a17 a18 a19 a20 a22 : DL.Slot) (m : List MO) : ∀ j ∈ [0, 1, 2, 3, 4, 5, 6, 7, 8, 9, 10, 11, 12], ∃ ge, B_law[j]? = some ge ∧ ge [a0, a1, a2, a3, a4, a5, a6, a7, a8, a9, a10, a11, a12, a13, a14, a15, a16, a17, a18, a19, a20, .val (bar 1000000 0), a22, .un] m = .ex "MetalError" m := by
  intro j hj
  simp only [List.mem_cons, List.not_mem_nil, or_false] at hj
  rcases hj with rfl | rfl | rfl | rfl | rfl | rfl | rfl | rfl | rfl | rfl | rfl | rfl | rfl <;> exact ⟨_, rfl, rfl⟩
theorem gComp_of {vs : List Nat} {it : GA} {g : GG} {t : GT} {e : GE} {env env' : List DL.Slot} {m m' : List MO} {ds : List DL.D} (h : it env m = .ok ds m') (hl : lim ds.length = true) (hw : wipeE env vs = env') : gComp vs it g t e env m = compD g t e ds env' m' := by
  unfold gComp
  rw [h, ← hw]
  exact if_pos hl
theorem ev_3 (a0 a1 a2 a3 a4 a5 a6 a7 a8 a9 a10 a11 a12 a13 a14 a15 a16 a17 a18 a19 a20 a23 : DL.Slot) (m : List MO) (hm : m.all nlM = true) : m_law_3 [a0, a1, a2, a3, a4, a5, a6, a7, a8, a9, a10, a11, a12, a13, a14, a15, a16, a17, a18, a19, a20, .val (bar 1000000 0), .val (.lst lams13), a23] m = .ok (.rt (.bl true)) [a0, a1, a2, a3, a4, a5, a6, a7, a8, a9, a10, a11, a12, a13, a14, a15, a16, a17, a18, a19, a20, .val (bar 1000000 0), .val (.lst lams13), a23] m := by
  have e1 : gComp [23] (gIt asL (gVar 22)) (ggName 23) tBad (gC (.int 1)) [a0, a1, a2, a3, a4, a5, a6, a7, a8, a9, a10, a11, a12, a13, a14, a15, a16, a17, a18, a19, a20, .val (bar 1000000 0), .val (.lst lams13), a23] m = .ok [] m := by
    have hc : (gIt asL (gVar 22)) [a0, a1, a2, a3, a4, a5, a6, a7, a8, a9, a10, a11, a12, a13, a14, a15, a16, a17, a18, a19, a20, .val (bar 1000000 0), .val (.lst lams13), a23] m = .ok lams13 m := rfl
    have hw : wipeE [a0, a1, a2, a3, a4, a5, a6, a7, a8, a9, a10, a11, a12, a13, a14, a15, a16, a17, a18, a19, a20, .val (bar 1000000 0), .val (.lst lams13), a23] [23] = [a0, a1, a2, a3, a4, a5, a6, a7, a8, a9, a10, a11, a12, a13, a14, a15, a16, a17, a18, a19, a20, .val (bar 1000000 0), .val (.lst lams13), .un] := rfl
    have hl : lams13 = [0, 1, 2, 3, 4, 5, 6, 7, 8, 9, 10, 11, 12].map DL.D.lam := rfl
    have e0 := bad_all a0 a1 a2 a3 a4 a5 a6 a7 a8 a9 a10 a11 a12 a13 a14 a15 a16 a17 a18 a19 a20 (.val (.lst lams13)) m [0, 1, 2, 3, 4, 5, 6, 7, 8, 9, 10, 11, 12] (bads a0 a1 a2 a3 a4 a5 a6 a7 a8 a9 a10 a11 a12 a13 a14 a15 a16 a17 a18 a19 a20 (.val (.lst lams13)) m)
    rw [← hl] at e0
    rw [gComp_of hc rfl hw, e0]
  have q1 : fEq m (.lst []) (.lst []) = some (.bl true) := rfl
  have k1 : mkBar [.int 10, .int 5] = some (.ok [("weight", .int 10), ("fine", .int 5)]) := rfl
  have k2 : mkBar [.int 10, .int 9] = some (.ok [("weight", .int 10), ("fine", .int 9)]) := rfl
  have ef : fldsOf m (bar 10 5) = some (("Bar" : Str), ([("weight", .int 10), ("fine", .int 5)] : List (Str × DL.D))) := rfl
  have el : List.lookup ("fineness" : Str) [(("weight" : Str), DL.D.int 10), ("fine", .int 5)] = none := rfl
  have s1 : S_fineness [bar 10 5] m = .ok (.tup [.int 1, .int 2]) m := rfl
  have s2 : S_copper_for [bar 10 9, .int 1, .int 2] m = .ok (.int 8) m := rfl
  have s3 : S_best_melt [.lst [], .int 0, .int 1000, .int 5] m = .ok .non m := by
    show (if (∀ p ∈ ([] : List (Int × Int)), okBar p.1 p.2) ∧ m.all nlM = true then RE.ok DL.D.non m else .no) = _
    rw [if_pos (And.intro (fun p hp => absurd hp List.not_mem_nil) hm)]
  have s4 : S_least [.int 0, .int 7] m = .ok (.tup [.int 0, .int 1]) m := rfl
  have q2 : fEq m (.tup [.int 1, .int 2]) (.tup [.int 1, .int 2]) = some (.bl true) := rfl
  have q3 : fEq m (.tup [.int 0, .int 1]) (.tup [.int 0, .int 1]) = some (.bl true) := rfl
  have q4 : fIsN m .non .non = some (.bl true) := rfl
  rw [m_law_3]
  simp (config := { decide := true, failIfUnchanged := false }) only [gSeq, gNx, gBk, gCt, gIfS, gRet, gRetN, gExpr, gSet, gOwn, ggName, ggNil, ggCons, ggTup, gAsg, gPar, gFrz, gApp, gExt, gAug, loopS, gRaise, bindS, gC, gVar, gBor, gBin, gUn, asB, gtV, gV, gtNot, gtAnd, gtOr, gIf, gtChain, gaNil, gaCons, gTup, gLst, gCB, f1, f2, gCall, gArgs, gMeth, gMakeF, gLim, gLstN, gNewM, gSlT, gSlL, gpN, gpS, gFldS, gIxS, gIxO, gPar3, gParO, gParQ, RE.bind, opt, frzE, nx, gtYes, gIt, asL_lst, asT_tup, wipeE, cInt_i, cInt_b, fAdd_ii, fSub_ii, fLt_ii, fLe_ii, fGt_ii, fGe_ii, fEq_ii, fNe_ii, List.getElem?_cons_zero, List.getElem?_cons_succ, List.length_cons, List.length_nil, List.set_cons_zero, List.set_cons_succ, Option.bind_some, Option.map_some, Option.bind_none, if_true, if_false, Bool.not_true, Bool.not_false, reduceIte, Nat.reduceAdd, Nat.reduceEqDiff, lim, Nat.ble_eq, envOf, fnD, endD, List.map_cons, List.map_nil, List.replicate, List.cons_append, List.nil_append, Nat.reduceSub, asB_bl, decide_eq_true_eq, and_true, true_and, and_false, false_and, or_true, true_or, or_false, false_or, not_true_eq_false, not_false_eq_true, e1, q1, k1, k2, bar_fold, ef, el, s1, s2, s3, s4, q2, q3, q4]
theorem hlaw (ns : List Int) : ∃ m, fnD 24 1 m_law [.slst (ns.map DL.D.int)] [] = .ok (.bl true) m := by
  obtain ⟨b0, b1, b2, b3, b4, b5, b6, b7, b8, b9, b10, b11, b12, b13, b14, b15, b16, b17, b18, b19, b20, b21, b22, b23, t, e⟩ := ev_0 ns
  refine ⟨DM t, ?_⟩
  unfold fnD
  rw [if_pos (show [DL.D.slst (ns.map DL.D.int)].length = 1 from rfl)]
  show endD (m_law [.val (.slst (ns.map DL.D.int)), .un, .un, .un, .un, .un, .un, .un, .un, .un, .un, .un, .un, .un, .un, .un, .un, .un, .un, .un, .un, .un, .un, .un] []) = _
  rw [m_law, gSeq_nx e, gSeq_nx (ev_1 _ _ _ _ _ _ _ _ _ _ _ _ _ _ _ _ _ _ _ _ _ _ _ _ _), gSeq_nx (ev_2 _ _ _ _ _ _ _ _ _ _ _ _ _ _ _ _ _ _ _ _ _ _ _ _ _)]
  unfold gSeq
  rw [ev_3 _ _ _ _ _ _ _ _ _ _ _ _ _ _ _ _ _ _ _ _ _ _ (DM t) rfl]
  rfl
end K01
/-! the head: facts by names, the run, the defs, the end. -/
namespace K01
open PySem PySem.Spec PyProof.Rows DL L2 GX
def d_Bar___init__ : He.DefD := ⟨("Bar", some "__init__"), "__init__", "Bar.__init__", defArgs s_Bar___init__, defBody s_Bar___init__, defScope s_Bar___init__, [], []⟩
def d_Bar_fineness : He.DefD := ⟨("Bar", some "fineness"), "fineness", "Bar.fineness", defArgs s_Bar_fineness, defBody s_Bar_fineness, defScope s_Bar_fineness, [], []⟩
def d_Bar_thousandths : He.DefD := ⟨("Bar", some "thousandths"), "thousandths", "Bar.thousandths", defArgs s_Bar_thousandths, defBody s_Bar_thousandths, defScope s_Bar_thousandths, [], []⟩
def d_least : He.DefD := ⟨("least", none), "least", "least", defArgs s_least, defBody s_least, defScope s_least, [], []⟩
def d_melted : He.DefD := ⟨("melted", none), "melted", "melted", defArgs s_melted, defBody s_melted, defScope s_melted, [], []⟩
def d_cut : He.DefD := ⟨("cut", none), "cut", "cut", defArgs s_cut, defBody s_cut, defScope s_cut, [], []⟩
def d_copper_for : He.DefD := ⟨("copper_for", none), "copper_for", "copper_for", defArgs s_copper_for, defBody s_copper_for, defScope s_copper_for, [], []⟩
def d_best_melt : He.DefD := ⟨("best_melt", none), "best_melt", "best_melt", defArgs s_best_melt, defBody s_best_melt, defScope s_best_melt, [], []⟩
def d__law_dice : He.DefD := ⟨("_law_dice", none), "_law_dice", "_law_dice", defArgs s__law_dice, defBody s__law_dice, defScope s__law_dice, [], []⟩
def d__law_roll : He.DefD := ⟨("_law_roll", none), "_law_roll", "_law_roll", defArgs s__law_roll, defBody s__law_roll, defScope s__law_roll, [], []⟩
def d__law_rounds : He.DefD := ⟨("_law_rounds", none), "_law_rounds", "_law_rounds", defArgs s__law_rounds, defBody s__law_rounds, defScope s__law_rounds, [], []⟩
def d__law_told : He.DefD := ⟨("_law_told", none), "_law_told", "_law_told", defArgs s__law_told, defBody s__law_told, defScope s__law_told, [], []⟩
def d_law : He.DefD := ⟨("law", none), "law", "law", defArgs s_law, defBody s_law, defScope s_law, [], []⟩
def fn : List He.DefD := [d_Bar___init__, d_Bar_fineness, d_Bar_thousandths, d_least, d_melted, d_cut, d_copper_for, d_best_melt, d__law_dice, d__law_roll, d__law_rounds, d__law_told, d_law]
def fa : List He.Fa := [.glo "least", .glo "melted", .glo "cut", .glo "copper_for", .glo "best_melt", .glo "_law_dice", .glo "_law_roll", .glo "_law_rounds", .glo "_law_told", .glo "law", .int "MOST_GRAINS" 1000000, .glo "MintError", .glo "MetalError", .exc "MetalError", .exm "MetalError" "MetalError" true, .glo "Bar", .cls "Bar", .mkr "Bar", .noat "Bar" "weight", .noat "Bar" "fine", .meth "Bar" "fineness", .meth "Bar" "thousandths", .free "abs", .free "int", .free "len", .free "min", .free "range", .free "sum", .free "zip"]
def tf : List He.Defn := [("melted", none), ("best_melt", none), ("law", none)]
def loose : List PySem.Str := ["MintError", "MetalError", "MOST_GRAINS", "Bar", "least", "melted", "cut", "copper_for", "best_melt", "_law_dice", "_law_roll", "_law_rounds", "_law_told"]
def exB (K : PySem.W.Frag) : Bool := !decide ((He.cT K ("melted", none)).2 = (He.cT K ("law", none)).2) && !decide ((He.cT K ("best_melt", none)).2 = (He.cT K ("law", none)).2)
abbrev R : PySem.W.OpenRow := PySem.W.OpenLaw.row PySem.Challenge.rw_mintstack_k01_melts_that_are_exact
abbrev hk : PySem.W.Hook := He.hookX 6 fa fn [] tf exB
def ob (s : PySem.W.SharedT) : He.AlX := He.obsX 6 fa fn [] tf exB (HandSHeadRun.getT s)
theorem ob_eq (s : PySem.W.SharedT) : ob s = hk.obs s.abs := He.obsX_eq (HandSHeadRun.getT_eq s)
theorem run (w : World) : HandSHeadRun.RunEq R (PySem.W.view R.prog [16]) hk ob 1500 loose w := by
  intro os
  kernel_rfl
/-! what is fixed -/
def clsOf (K : PySem.W.Frag) (c : PySem.Str) : Option Addr := if c = "Bar" then some (He.ga K "Bar") else none
def excOf (K : PySem.W.Frag) (c : PySem.Str) : Option Addr := if c = "MetalError" then some (He.ga K "MetalError") else none
def mkG (K : PySem.W.Frag) (lp : Nat → Addr → Addr → HO → Prop) (lq : PySem.Str) : Glob := ⟨K, clsOf K, excOf K, lp, lq, [((He.cT K ("law", none)).2, lq)], [(He.cT K ("melted", none)).2, (He.cT K ("best_melt", none)).2]⟩
theorem cs_0 (K : PySem.W.Frag) : He.cT K ("melted", none) ∈ tf.map (He.cT K) := List.mem_map.mpr ⟨_, List.mem_of_getElem? (i := 0) (l := tf) rfl, rfl⟩
theorem cs_1 (K : PySem.W.Frag) : He.cT K ("best_melt", none) ∈ tf.map (He.cT K) := List.mem_map.mpr ⟨_, List.mem_of_getElem? (i := 1) (l := tf) rfl, rfl⟩
theorem cs_2 (K : PySem.W.Frag) : He.cT K ("law", none) ∈ tf.map (He.cT K) := List.mem_map.mpr ⟨_, List.mem_of_getElem? (i := 2) (l := tf) rfl, rfl⟩
theorem ne_melted {K : PySem.W.Frag} (hx : exB K = true) : (He.cT K ("melted", none)).2 ≠ (He.cT K ("law", none)).2 := by
  unfold exB at hx
  simp only [Bool.and_eq_true, Bool.not_eq_true', decide_eq_false_iff_not] at hx
  exact hx.1
theorem ne_best_melt {K : PySem.W.Frag} (hx : exB K = true) : (He.cT K ("best_melt", none)).2 ≠ (He.cT K ("law", none)).2 := by
  unfold exB at hx
  simp only [Bool.and_eq_true, Bool.not_eq_true', decide_eq_false_iff_not] at hx
  exact hx.2
theorem tg_no {K : PySem.W.Frag} {lp : Nat → Addr → Addr → HO → Prop} {lq : PySem.Str} (hx : exB K = true) : (He.cT K ("law", none)).2 ∉ (mkG K lp lq).TG := fun z => by
  have z2 : (He.cT K ("law", none)).2 ∈ ([(He.cT K ("melted", none)).2, (He.cT K ("best_melt", none)).2] : List Addr) := z
  simp only [List.mem_cons, List.not_mem_nil, or_false] at z2
  rcases z2 with z2 | z2
  · exact ne_melted hx z2.symm
  · exact ne_best_melt hx z2.symm
section
variable {P : Program} {w : World} {K : PySem.W.Frag} {mg : PySem.Str → Option Value} {base : Heap} {lp : Nat → Addr → Addr → HO → Prop} {lq : PySem.Str}
theorem cls_inv {c : PySem.Str} {C : Addr} (h : clsOf K c = some C) : (c = "Bar" ∧ C = He.ga K "Bar") := by
  unfold clsOf at h
  by_cases h0 : c = "Bar"
  · exact (by rw [if_pos h0] at h; exact ⟨h0, (Option.some.inj h).symm⟩)
  · rw [if_neg h0] at h
    cases h
theorem fld_weight (c : He.SaysD fa fn K) : FldOk (mkG K lp lq) "weight" := fun x C e => by
  rcases cls_inv e with ⟨_, rfl⟩
  · exact ⟨He.cls_ok (c.fact 16 (f := .cls "Bar") rfl), He.noat_ok (c.fact 18 (f := .noat "Bar" "weight") rfl)⟩
theorem fld_fine (c : He.SaysD fa fn K) : FldOk (mkG K lp lq) "fine" := fun x C e => by
  rcases cls_inv e with ⟨_, rfl⟩
  · exact ⟨He.cls_ok (c.fact 16 (f := .cls "Bar") rfl), He.noat_ok (c.fact 19 (f := .noat "Bar" "fine") rfl)⟩
theorem tops (X : K.In base) (Gm : base.Ns mainGlobals mg) (c : He.SaysD fa fn K) : Tops (mkG K lp lq) K mg where
  hK := rfl
  i_MOST_GRAINS := He.int_ok X Gm (c.fact 10 (f := .int "MOST_GRAINS" 1000000) rfl)
  e_MetalError := excD_of rfl (He.glo_ok X Gm (c.fact 12 (f := .glo "MetalError") rfl)) (c.fact 13 (f := .exc "MetalError") rfl)
  f_weight := fld_weight c
  f_fine := fld_fine c
  b_len := He.free_ok X Gm (c.fact 24 (f := .free "len") rfl)
  b_sum := He.free_ok X Gm (c.fact 27 (f := .free "sum") rfl)
  b_range := He.free_ok X Gm (c.fact 26 (f := .free "range") rfl)
  b_zip := He.free_ok X Gm (c.fact 28 (f := .free "zip") rfl)
  b_abs := He.free_ok X Gm (c.fact 22 (f := .free "abs") rfl)
  b_int := He.free_ok X Gm (c.fact 23 (f := .free "int") rfl)
  b_min := He.free_ok X Gm (c.fact 25 (f := .free "min") rfl)
set_option maxHeartbeats 4000000 in
theorem c_least (X : K.In base) (Gm : base.Ns mainGlobals mg) (c : He.SaysD fa fn K) (TB : ∀ p ∈ tf.map (He.cT K), LamX.TabB base mg p.1 p.2) (hx : exB K = true) : CalD (mkG K lp lq) P w K mg base 1 "least" 2 S_least := by
  obtain ⟨fd, Fd⟩ := c.def_ 3 (d := d_least) rfl
  exact calD_of (ps := P_least) Fd (fnok_of Fd sc_least fun _ _ _ _ _ _ hr => w_least (tops X Gm c) hr) (He.glo_ok X Gm (c.fact 0 (f := .glo "least") rfl)) rfl (fun _ _ _ _ _ _ us hl => match us, hl with | [_, _], _ => rfl) q_least
set_option maxHeartbeats 4000000 in
theorem c_Bar (X : K.In base) (Gm : base.Ns mainGlobals mg) (c : He.SaysD fa fn K) (TB : ∀ p ∈ tf.map (He.cT K), LamX.TabB base mg p.1 p.2) (hx : exB K = true) : ClsD (mkG K lp lq) P w K mg base 1 "Bar" 3 (fnD N_Bar___init__.length 3 m_Bar___init__) := by
  obtain ⟨fd, Fd⟩ := c.def_ 0 (d := d_Bar___init__) rfl
  exact clsD_of (ps := P_Bar___init__) Fd (fnok_of Fd sc_Bar___init__ fun _ _ _ _ _ _ hr => w_Bar___init__ (tops X Gm c) hr) rfl (He.glo_ok X Gm (c.fact 15 (f := .glo "Bar") rfl)) (He.mkr_ok (c.fact 17 (f := .mkr "Bar") rfl)) rfl (fun _ _ _ _ _ _ us hl => match us, hl with | [_, _, _], _ => rfl)
set_option maxHeartbeats 4000000 in
theorem c_Bar_fineness (X : K.In base) (Gm : base.Ns mainGlobals mg) (c : He.SaysD fa fn K) (TB : ∀ p ∈ tf.map (He.cT K), LamX.TabB base mg p.1 p.2) (hx : exB K = true) : MetD (mkG K lp lq) P w K mg base 2 "Bar" "fineness" 1 S_fineness := by
  obtain ⟨fd, Fd⟩ := c.def_ 1 (d := d_Bar_fineness) rfl
  exact metD_of (ps := P_Bar_fineness) Fd (fnok_of Fd sc_Bar_fineness fun _ _ _ _ _ _ hr => w_Bar_fineness (tops X Gm c) ((c_least X Gm c TB hx).up (by decide)) hr) rfl (He.cls_ok (c.fact 16 (f := .cls "Bar") rfl)) (He.meth_ok (c.fact 20 (f := .meth "Bar" "fineness") rfl)) rfl (fun _ _ _ _ _ _ us hl => match us, hl with | [_], _ => rfl) q_fineness
set_option maxHeartbeats 4000000 in
theorem c_Bar_thousandths (X : K.In base) (Gm : base.Ns mainGlobals mg) (c : He.SaysD fa fn K) (TB : ∀ p ∈ tf.map (He.cT K), LamX.TabB base mg p.1 p.2) (hx : exB K = true) : MetD (mkG K lp lq) P w K mg base 1 "Bar" "thousandths" 1 S_thousandths := by
  obtain ⟨fd, Fd⟩ := c.def_ 2 (d := d_Bar_thousandths) rfl
  exact metD_of (ps := P_Bar_thousandths) Fd (fnok_of Fd sc_Bar_thousandths fun _ _ _ _ _ _ hr => w_Bar_thousandths (tops X Gm c) hr) rfl (He.cls_ok (c.fact 16 (f := .cls "Bar") rfl)) (He.meth_ok (c.fact 21 (f := .meth "Bar" "thousandths") rfl)) rfl (fun _ _ _ _ _ _ us hl => match us, hl with | [_], _ => rfl) q_thousandths
set_option maxHeartbeats 4000000 in
theorem c_cut (X : K.In base) (Gm : base.Ns mainGlobals mg) (c : He.SaysD fa fn K) (TB : ∀ p ∈ tf.map (He.cT K), LamX.TabB base mg p.1 p.2) (hx : exB K = true) : CalD (mkG K lp lq) P w K mg base 3 "cut" 2 S_cut := by
  obtain ⟨fd, Fd⟩ := c.def_ 5 (d := d_cut) rfl
  exact calD_of (ps := P_cut) Fd (fnok_of Fd sc_cut fun _ _ _ _ _ _ hr => w_cut (tops X Gm c) (c_Bar X Gm c TB hx) mkBar_good hr) (He.glo_ok X Gm (c.fact 2 (f := .glo "cut") rfl)) rfl (fun _ _ _ _ _ _ us hl => match us, hl with | [_, _], _ => rfl) q_cut
set_option maxHeartbeats 4000000 in
theorem c_copper_for (X : K.In base) (Gm : base.Ns mainGlobals mg) (c : He.SaysD fa fn K) (TB : ∀ p ∈ tf.map (He.cT K), LamX.TabB base mg p.1 p.2) (hx : exB K = true) : CalD (mkG K lp lq) P w K mg base 1 "copper_for" 3 S_copper_for := by
  obtain ⟨fd, Fd⟩ := c.def_ 6 (d := d_copper_for) rfl
  exact calD_of (ps := P_copper_for) Fd (fnok_of Fd sc_copper_for fun _ _ _ _ _ _ hr => w_copper_for (tops X Gm c) hr) (He.glo_ok X Gm (c.fact 3 (f := .glo "copper_for") rfl)) rfl (fun _ _ _ _ _ _ us hl => match us, hl with | [_, _, _], _ => rfl) q_copper
set_option maxHeartbeats 4000000 in
theorem c_melted (X : K.In base) (Gm : base.Ns mainGlobals mg) (c : He.SaysD fa fn K) (TB : ∀ p ∈ tf.map (He.cT K), LamX.TabB base mg p.1 p.2) (hx : exB K = true) : CalD (mkG K lp lq) P w K mg base 4 "melted" 1 S_melted := by
  obtain ⟨fd, Fd⟩ := c.def_ 4 (d := d_melted) rfl
  exact calD_of (ps := P_melted) Fd (fnok_ofT (p := ("melted", none)) Fd sc_melted fun _ _ _ _ _ hr => w_melted (tops X Gm c) (c_Bar X Gm c TB hx) mkBar_good (gtab_of (P0 := (He.cT K ("melted", none)).2) (c := (He.cT K ("melted", none)).1) (TB (He.cT K ("melted", none)) (cs_0 K)) rfl (List.mem_of_getElem? (i := 0) rfl) (fun p hp => by rw [List.mem_singleton.mp hp]; exact fun z => ne_melted hx z.symm)) hr) (He.glo_ok X Gm (c.fact 1 (f := .glo "melted") rfl)) rfl (fun _ _ _ _ _ _ us hl => match us, hl with | [_], _ => rfl) q_melted
set_option maxHeartbeats 4000000 in
theorem c_best_melt (X : K.In base) (Gm : base.Ns mainGlobals mg) (c : He.SaysD fa fn K) (TB : ∀ p ∈ tf.map (He.cT K), LamX.TabB base mg p.1 p.2) (hx : exB K = true) : CalD (mkG K lp lq) P w K mg base 4 "best_melt" 4 S_best_melt := by
  obtain ⟨fd, Fd⟩ := c.def_ 7 (d := d_best_melt) rfl
  exact calD_of (ps := P_best_melt) Fd (fnok_ofT (p := ("best_melt", none)) Fd sc_best_melt fun _ _ _ _ _ hr => w_best_melt (tops X Gm c) (gtab_of (P0 := (He.cT K ("best_melt", none)).2) (c := (He.cT K ("best_melt", none)).1) (TB (He.cT K ("best_melt", none)) (cs_1 K)) rfl (List.mem_of_getElem? (i := 1) rfl) (fun p hp => by rw [List.mem_singleton.mp hp]; exact fun z => ne_best_melt hx z.symm)) hr) (He.glo_ok X Gm (c.fact 4 (f := .glo "best_melt") rfl)) rfl (fun _ _ _ _ _ _ us hl => match us, hl with | [_, _, _, _], _ => rfl) q_best
set_option maxHeartbeats 4000000 in
theorem c__law_dice (X : K.In base) (Gm : base.Ns mainGlobals mg) (c : He.SaysD fa fn K) (TB : ∀ p ∈ tf.map (He.cT K), LamX.TabB base mg p.1 p.2) (hx : exB K = true) : CalD (mkG K lp lq) P w K mg base 1 "_law_dice" 1 S_dice := by
  obtain ⟨fd, Fd⟩ := c.def_ 8 (d := d__law_dice) rfl
  exact calD_of (ps := P__law_dice) Fd (fnok_of Fd sc__law_dice fun _ _ _ _ _ _ hr => w__law_dice (tops X Gm c) hr) (He.glo_ok X Gm (c.fact 5 (f := .glo "_law_dice") rfl)) rfl (fun _ _ _ _ _ _ us hl => match us, hl with | [_], _ => rfl) q_dice
set_option maxHeartbeats 4000000 in
theorem c__law_roll_no (X : K.In base) (Gm : base.Ns mainGlobals mg) (c : He.SaysD fa fn K) : CalD (mkG K lp lq) P w K mg base 1 "_law_roll" 2 S_no := by
  obtain ⟨fd, Fd⟩ := c.def_ 9 (d := d__law_roll) rfl
  exact calD_no (ps := P__law_roll) Fd (He.glo_ok X Gm (c.fact 6 (f := .glo "_law_roll") rfl)) rfl (fun _ _ _ _ _ _ us hl => match us, hl with | [_, _], _ => rfl)
set_option maxHeartbeats 4000000 in
theorem c__law_roll (X : K.In base) (Gm : base.Ns mainGlobals mg) (c : He.SaysD fa fn K) (TB : ∀ p ∈ tf.map (He.cT K), LamX.TabB base mg p.1 p.2) (hx : exB K = true) : CalD (mkG K lp lq) P w K mg base 2 "_law_roll" 2 S_roll := by
  obtain ⟨fd, Fd⟩ := c.def_ 9 (d := d__law_roll) rfl
  exact calD_of (ps := P__law_roll) Fd (fnok_of Fd sc__law_roll fun _ _ _ _ _ _ hr => w__law_roll (tops X Gm c) (c__law_roll_no X Gm c) hr) (He.glo_ok X Gm (c.fact 6 (f := .glo "_law_roll") rfl)) rfl (fun _ _ _ _ _ _ us hl => match us, hl with | [_, _], _ => rfl) q_roll
set_option maxHeartbeats 4000000 in
theorem c__law_rounds (X : K.In base) (Gm : base.Ns mainGlobals mg) (c : He.SaysD fa fn K) (TB : ∀ p ∈ tf.map (He.cT K), LamX.TabB base mg p.1 p.2) (hx : exB K = true) : CalD (mkG K lp lq) P w K mg base 3 "_law_rounds" 2 S_rounds := by
  obtain ⟨fd, Fd⟩ := c.def_ 10 (d := d__law_rounds) rfl
  exact calD_of (ps := P__law_rounds) Fd (fnok_of Fd sc__law_rounds fun _ _ _ _ _ _ hr => w__law_rounds (tops X Gm c) ((c__law_dice X Gm c TB hx).up (by decide)) hr) (He.glo_ok X Gm (c.fact 7 (f := .glo "_law_rounds") rfl)) rfl (fun _ _ _ _ _ _ us hl => match us, hl with | [_, _], _ => rfl) q_rounds
theorem told_ok (X : K.In base) (Gm : base.Ns mainGlobals mg) (c : He.SaysD fa fn K) : ToldD (mkG K lp lq) K mg "_law_told" "what" "MetalError" ["MetalError"] := by
  obtain ⟨fd, Fd⟩ := c.def_ 11 (d := d__law_told) rfl
  refine ⟨_, _, fd, _, _, _, "MetalError", _, _, _, _, _, _, _, _, _, Fd, (He.glo_ok X Gm (c.fact 8 (f := .glo "_law_told") rfl)), Fd.bindsN (fun _ _ _ _ _ _ us hl => match us, hl with | [_], _ => rfl), C8.fnScope_by (by kernel_rfl), .inl rfl, rfl, rfl, (He.glo_ok X Gm (c.fact 12 (f := .glo "MetalError") rfl)), by decide, fun x hx C hC => ?_⟩
  simp only [List.mem_cons, List.not_mem_nil, or_false] at hx
  rcases hx with rfl
  · have e : C = He.ga K "MetalError" := (Option.some.inj (show some (He.ga K "MetalError") = some C from hC)).symm
    rw [e]
    exact He.exm_ok (c.fact 14 (f := .exm "MetalError" "MetalError" true) rfl)
set_option maxHeartbeats 8000000 in
theorem law_ok (X : K.In base) (Gm : base.Ns mainGlobals mg) (c : He.SaysD fa fn K) (TB : ∀ p ∈ tf.map (He.cT K), LamX.TabB base mg p.1 p.2) (hx : exB K = true) {fd : FuncData} (Fd : FunD K "law" "law" (defArgs s_law) (defBody s_law) (defScope s_law) [] [] (He.fAd K ("law", none)) fd) : FnOk P w K mg base (L2.CX P w) 7 (He.fAd K ("law", none)) fd ["script"] (lawSp K 63 (tf.map (He.cT K))) := by
  refine lawok_of (j := 6) (g := m_law) (by decide) Fd sc_law (fun A outer s H E hr => ?_) (fun ns h1 h2 => hlaw ns)
  refine ⟨mkG K (lampOf (lamN (cxOf (L2.CX P w) P w K mg base N_law "law" (defScope s_law) (He.fAd K ("law", none)) (.ref (He.codeOf K ("law", none))) A outer s H E)) (cxOf (L2.CX P w) P w K mg base N_law "law" (defScope s_law) (He.fAd K ("law", none)) (.ref (He.codeOf K ("law", none))) A outer s H E).env.cells L_law) (lamN (cxOf (L2.CX P w) P w K mg base N_law "law" (defScope s_law) (He.fAd K ("law", none)) (.ref (He.codeOf K ("law", none))) A outer s H E)), rfl, fun H ht => tabsA_of (fun p hp => ?_) (fun P hP => ?_), ?_⟩
  · simp only [mkG, List.mem_singleton] at hp
    rw [hp]
    exact ht (He.cT K ("law", none)) (cs_2 K)
  · simp only [mkG, List.mem_cons, List.not_mem_nil, or_false] at hP
    rcases hP with rfl | rfl
    · exact ht (He.cT K ("melted", none)) (cs_0 K)
    · exact ht (He.cT K ("best_melt", none)) (cs_1 K)
  · exact w_law (tops X Gm c) ((c__law_dice X Gm c TB hx).up (by decide)) ((c__law_roll X Gm c TB hx).up (by decide)) ((c__law_rounds X Gm c TB hx).up (by decide)) ((c_least X Gm c TB hx).up (by decide)) ((c_cut X Gm c TB hx).up (by decide)) ((c_melted X Gm c TB hx).up (by decide)) ((c_copper_for X Gm c TB hx).up (by decide)) ((c_best_melt X Gm c TB hx).up (by decide)) ((c_Bar_fineness X Gm c TB hx).up (by decide)) ((c_Bar_thousandths X Gm c TB hx).up (by decide)) (c_Bar X Gm c TB hx) mkBar_good (told_ok X Gm c) ⟨⟨(He.cT K ("law", none)).1, TB (He.cT K ("law", none)) (cs_2 K), rfl⟩, List.mem_singleton.mpr rfl, fun p hp _ => by rw [List.mem_singleton.mp hp], fun z => tg_no hx z⟩ rfl rfl hr
end
end K01
open PySem PySem.W PySem.Calls PyProof.Rows
theorem PySem.Challenge.cw_mintstack_k01_melts_that_are_exact_holds : PySem.Challenge.rw_mintstack_k01_melts_that_are_exact.Holds := by
  w_on; o_law
  refine HandSHeadRun.head_any (r := OpenLaw.row PySem.Challenge.rw_mintstack_k01_melts_that_are_exact) (q := view (OpenLaw.row PySem.Challenge.rw_mintstack_k01_melts_that_are_exact).prog [16]) (H := K01.hk) (ob := K01.ob) (M := 1500) (loose := K01.loose) (d := HandSHeadRun.topDef (OpenLaw.row PySem.Challenge.rw_mintstack_k01_melts_that_are_exact).prog 16) (kwd := []) K01.ob_eq
    (by kernel_rfl) (fun s => by kernel_rfl) K01.run (by kernel_rfl) (by kernel_rfl) (by kernel_rfl) (by rfl) (by first | assumption | decide +kernel) (by decide +kernel) ⟨rfl, rfl, rfl, rfl, rfl, by decide +kernel⟩ ?hw ?hc
  case hw => w_witness2
  case hc =>
    refine LamX.walk_ofTsE (l := PySem.Challenge.rw_mintstack_k01_melts_that_are_exact) (n := 63) (k := 7) (x := "script") (CX := fun w => L2.CX (PySem.Challenge.rw_mintstack_k01_melts_that_are_exact).prog w) rfl (by decide) (by kernel_rfl) ⟨rfl, by decide, by decide⟩ ?F ?X
    case X => exact fun w H s e s' ⟨_, _, _, _, _, _, _, _, _, _, _, _, h⟩ => h
    case F =>
      intro w mg fa h Y Gm hmg0
      obtain ⟨K, KX, cx⟩ := Y
      have c := cx.t.d
      have hmg : mg ("law" : PySem.Str) = some (.ref fa) := by
        have e : (HandSHeadRun.topDef (OpenLaw.row PySem.Challenge.rw_mintstack_k01_melts_that_are_exact).prog 16).name = ("law" : PySem.Str) := by kernel_rfl
        rw [← e]
        exact hmg0
      obtain ⟨fd, Fd⟩ := c.def_ 12 (d := K01.d_law) rfl
      have e := hmg.symm.trans (He.glo_ok KX Gm (c.fact 9 (f := .glo "law") rfl))
      cases e
      have b := L2.FunD.bindsA (ps := ["script"]) Fd (fun _ _ _ _ _ _ us hl => match us, hl with | [_], _ => rfl)
      refine ⟨K, KX, fd, K01.tf.map (He.cT K), DL.lawSp K 63 (K01.tf.map (He.cT K)), fun p hp => ?_, fun p hp => ?_, fun p hp => ?_, fun s u => b s [u] rfl, fun H a ns h1 h2 h3 h4 => ⟨rfl, a, ns, rfl, h1, h2, h3, h4, fun _ => rfl⟩, fun base KB Gb TB => K01.law_ok KB Gb c TB cx.more Fd⟩
      · obtain ⟨q, hq, rfl⟩ := List.mem_map.mp hp
        exact cx.empty q hq
      · obtain ⟨q, hq, rfl⟩ := List.mem_map.mp hp
        exact cx.out q hq
      · obtain ⟨q, hq, rfl⟩ := List.mem_map.mp hp
        exact PySem.W.codeHd_of_K KX (cx.hd q hq)
