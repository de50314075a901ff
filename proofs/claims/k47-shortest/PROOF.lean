import PyProof.Rows.All
import Wide.All
import OpenK.AllK
import Wide.FinOn
import HandS.ForMost
import HandS.Deep
import HandS.Style
import HandS.Conv
import HandS.IsInst
import HandS.Wide
import HandS.NoneIn
import HandS.SortInts
import KE.Datum
import PySem.Challenge.RW_loomwork_k47_whole_shortest_ways
set_option Elab.async false
set_option linter.all false
set_option maxRecDepth 100000
/-! DvA: plain data as trees, how a value and a heap stand for a tree, who may write where. -/
namespace Dv
open PySem PySem.Spec PyProof.Rows L2

inductive D where
  | non | bl (b : Bool) | int (i : Int) | str (x : Str)
  | lst (xs : List D) | tup (xs : List D)
  /-- a list that is read alone: the script, a list of the text's own -/
  | frl (xs : List D)
  | dic (ks : List Key) (xs : List D)
  | dit (ks : List (List Key)) (xs : List D)

def D.isS : D → Bool
  | .non => true | .bl _ => true | .int _ => true | .str _ => true | _ => false

abbrev AV := D × Nat
abbrev Ev := List (Option AV)
abbrev AS := Addr → Prop

/-- a list, a tuple that lies within F, or one of the text's own -/
def FzK (K : PySem.W.Frag) (F : AS) (H : Hp) (a : Addr) (xs : List V) : Prop :=
  (F a ∧ Rd H a (.lst xs)) ∨
    ∃ (o : Obj) (its : Array Value) (n : Nat), K.lookup a = some o ∧ o.cls = .type "list" ∧ o.dict = none ∧ o.data = .seq its n ∧ its.size ≤ sizeLine ∧ Vals xs its.toList
def FzT (K : PySem.W.Frag) (F : AS) (H : Hp) (a : Addr) (xs : List V) : Prop :=
  (F a ∧ H a = some (.tup xs)) ∨
    ∃ (o : Obj) (its : Array Value) (n : Nat), K.lookup a = some o ∧ o.cls = .type "tuple" ∧ o.data = .seq its n ∧ its.size ≤ sizeLine ∧ Vals xs its.toList
theorem FzK.sq {K : PySem.W.Frag} {F : AS} {H : Hp} {a : Addr} {xs : List V} (h : FzK K F H a xs) : SqL K H a xs := h.imp (fun z => z.2) id
def FzL (K : PySem.W.Frag) (F : AS) (H : Hp) (a : Addr) (xs : List V) : Prop := F a ∧ H a = some (.lst xs)
theorem FzL.sq {K : PySem.W.Frag} {F : AS} {H : Hp} {a : Addr} {xs : List V} (h : FzL K F H a xs) : SqL K H a xs := SqL.of h.2
theorem FzT.sq {K : PySem.W.Frag} {F : AS} {H : Hp} {a : Addr} {xs : List V} (h : FzT K F H a xs) : SqT K H a xs := h.imp (fun z => .inl z.2) id

/-- v stands for d in H: the lists and dicts down to depth n are one's own (the addresses at L), what lies below is in F and stays as it is -/
inductive Rep (K : PySem.W.Frag) (F : AS) (H : Hp) : Bool → List V → List D → Nat → List Addr → Prop
  | nil {n} : Rep K F H true [] [] n []
  | cons {v vs d ds n L L' LL} : Rep K F H false [v] [d] n L → Rep K F H true vs ds n L' → LL = L ++ L' → Rep K F H true (v :: vs) (d :: ds) n LL
  | non {n} : Rep K F H false [.non] [.non] n []
  | bl {n} (b) : Rep K F H false [.bl b] [.bl b] n []
  | int {n} (i) : Rep K F H false [.int i] [.int i] n []
  | str {n} (x) : Rep K F H false [.str x] [.str x] n []
  | frlF {a xs ds} : FzK K F H a xs → Rep K F H true xs ds 0 [] → Rep K F H false [.ref a] [.frl ds] 0 []
  | lstF {a xs ds} : FzL K F H a xs → Rep K F H true xs ds 0 [] → Rep K F H false [.ref a] [.lst ds] 0 []
  | lstO {a xs ds n L} : ¬ F a → H a = some (.lst xs) → Rep K F H true xs ds n L → Rep K F H false [.ref a] [.lst ds] (n + 1) (a :: L)
  | tupF {a xs ds} : FzT K F H a xs → Rep K F H true xs ds 0 [] → Rep K F H false [.ref a] [.tup ds] 0 []
  | tupO {a xs ds n L} : F a → H a = some (.tup xs) → Rep K F H true xs ds n L → Rep K F H false [.ref a] [.tup ds] (n + 1) L
  | dicF {a kvs ks ds} : F a → Rd H a (.dK kvs) → kvs.map (·.1) = ks → ks.Nodup → Rep K F H true (kvs.map (·.2)) ds 0 [] → Rep K F H false [.ref a] [.dic ks ds] 0 []
  | dicO {a kvs ks ds n L} : ¬ F a → H a = some (.dK kvs) → kvs.map (·.1) = ks → ks.Nodup → Rep K F H true (kvs.map (·.2)) ds n L → Rep K F H false [.ref a] [.dic ks ds] (n + 1) (a :: L)
  | ditF {a kvs ks ds} : F a → Rd H a (.dT kvs) → kvs.map (·.1) = ks → ks.Nodup → Rep K F H true (kvs.map (·.2)) ds 0 [] → Rep K F H false [.ref a] [.dit ks ds] 0 []
  | ditO {a kvs ks ds n L} : ¬ F a → H a = some (.dT kvs) → kvs.map (·.1) = ks → ks.Nodup → Rep K F H true (kvs.map (·.2)) ds n L → Rep K F H false [.ref a] [.dit ks ds] (n + 1) (a :: L)

abbrev R1 (K : PySem.W.Frag) (F : AS) (H : Hp) (v : V) (d : D) (n : Nat) (L : List Addr) : Prop := Rep K F H false [v] [d] n L
abbrev Rs (K : PySem.W.Frag) (F : AS) (H : Hp) (vs : List V) (ds : List D) (n : Nat) (L : List Addr) : Prop := Rep K F H true vs ds n L

section
variable {K : PySem.W.Frag} {F G : AS} {H H' : Hp} {b : Bool} {vs : List V} {ds : List D} {n : Nat} {L : List Addr}

/-- what is seen stays -/
theorem Rep.ext (r : Rep K F H b vs ds n L) (mono : ∀ a, F a → G a) (keep : ∀ a o, F a → H a = some o → H' a = some o) (own : ∀ a o, a ∈ L → H a = some o → H' a = some o) (no : ∀ a ∈ L, ¬ G a) : Rep K G H' b vs ds n L := by
  have kr : ∀ {a u}, F a → Rd H a u → Rd H' a u := fun {a u} fa h => by
    rcases h with h | ⟨o, h⟩
    · exact .inl (keep a _ fa h)
    · exact .inr ⟨o, keep a _ fa h⟩
  induction r with
  | nil => exact .nil
  | cons _ _ e i1 i2 => subst e; exact .cons (i1 (fun a o z => own a o (List.mem_append_left _ z)) fun a z => no a (List.mem_append_left _ z)) (i2 (fun a o z => own a o (List.mem_append_right _ z)) fun a z => no a (List.mem_append_right _ z)) rfl
  | non => exact .non
  | bl => exact .bl _
  | int => exact .int _
  | str => exact .str _
  | frlF h _ i => exact .frlF (h.imp (fun z => ⟨mono _ z.1, kr z.1 z.2⟩) id) (i (fun a o z => nomatch z) fun a z => nomatch z)
  | lstF h _ i => exact .lstF ⟨mono _ h.1, keep _ _ h.1 h.2⟩ (i (fun a o z => nomatch z) fun a z => nomatch z)
  | lstO h1 h2 _ i => exact .lstO (no _ List.mem_cons_self) (own _ _ List.mem_cons_self h2) (i (fun a o z => own a o (List.mem_cons_of_mem _ z)) fun a z => no a (List.mem_cons_of_mem _ z))
  | tupF h _ i => exact .tupF (h.imp (fun z => ⟨mono _ z.1, keep _ _ z.1 z.2⟩) id) (i (fun a o z => nomatch z) fun a z => nomatch z)
  | tupO h1 h2 _ i => exact .tupO (mono _ h1) (keep _ _ h1 h2) (i own no)
  | dicF h1 h2 h3 h4 _ i => exact .dicF (mono _ h1) (kr h1 h2) h3 h4 (i (fun a o z => nomatch z) fun a z => nomatch z)
  | dicO h1 h2 h3 h4 _ i => exact .dicO (no _ List.mem_cons_self) (own _ _ List.mem_cons_self h2) h3 h4 (i (fun a o z => own a o (List.mem_cons_of_mem _ z)) fun a z => no a (List.mem_cons_of_mem _ z))
  | ditF h1 h2 h3 h4 _ i => exact .ditF (mono _ h1) (kr h1 h2) h3 h4 (i (fun a o z => nomatch z) fun a z => nomatch z)
  | ditO h1 h2 h3 h4 _ i => exact .ditO (no _ List.mem_cons_self) (own _ _ List.mem_cons_self h2) h3 h4 (i (fun a o z => own a o (List.mem_cons_of_mem _ z)) fun a z => no a (List.mem_cons_of_mem _ z))

/-- nothing is one's own any more -/
theorem Rep.freeze (r : Rep K F H b vs ds n L) (mono : ∀ a, F a → G a) (own : ∀ a ∈ L, G a) : Rep K G H b vs ds 0 [] := by
  induction r with
  | nil => exact .nil
  | cons _ _ e i1 i2 => subst e; exact .cons (i1 fun a z => own a (List.mem_append_left _ z)) (i2 fun a z => own a (List.mem_append_right _ z)) rfl
  | non => exact .non
  | bl => exact .bl _
  | int => exact .int _
  | str => exact .str _
  | frlF h _ i => exact .frlF (h.imp (fun z => ⟨mono _ z.1, z.2⟩) id) (i fun a z => nomatch z)
  | lstF h _ i => exact .lstF ⟨mono _ h.1, h.2⟩ (i fun a z => nomatch z)
  | lstO h1 h2 _ i => exact .lstF ⟨own _ List.mem_cons_self, h2⟩ (i fun a z => own a (List.mem_cons_of_mem _ z))
  | tupF h _ i => exact .tupF (h.imp (fun z => ⟨mono _ z.1, z.2⟩) id) (i fun a z => nomatch z)
  | tupO h1 h2 _ i => exact .tupF (.inl ⟨mono _ h1, h2⟩) (i own)
  | dicF h1 h2 h3 h4 _ i => exact .dicF (mono _ h1) h2 h3 h4 (i fun a z => nomatch z)
  | dicO h1 h2 h3 h4 _ i => exact .dicF (own _ List.mem_cons_self) (.inl h2) h3 h4 (i fun a z => own a (List.mem_cons_of_mem _ z))
  | ditF h1 h2 h3 h4 _ i => exact .ditF (mono _ h1) h2 h3 h4 (i fun a z => nomatch z)
  | ditO h1 h2 h3 h4 _ i => exact .ditF (own _ List.mem_cons_self) (.inl h2) h3 h4 (i fun a z => own a (List.mem_cons_of_mem _ z))

theorem Rep.zero (r : Rep K F H b vs ds n L) (h : n = 0) : L = [] := by
  induction r with
  | cons _ _ e i1 i2 => subst e; rw [i1 h, i2 h]; rfl
  | lstO => exact absurd h (Nat.succ_ne_zero _)
  | tupO => exact absurd h (Nat.succ_ne_zero _)
  | dicO => exact absurd h (Nat.succ_ne_zero _)
  | ditO => exact absurd h (Nat.succ_ne_zero _)
  | _ => rfl
theorem Rep.notF (r : Rep K F H b vs ds n L) : ∀ a ∈ L, ¬ F a := by
  induction r with
  | cons _ _ e i1 i2 => subst e; intro a z; exact (List.mem_append.mp z).elim (i1 a) (i2 a)
  | lstO h1 h2 _ i => intro a z; exact (List.mem_cons.mp z).elim (fun e => e ▸ h1) (i a)
  | tupO h1 h2 _ i => exact i
  | dicO h1 h2 _ _ _ i => intro a z; exact (List.mem_cons.mp z).elim (fun e => e ▸ h1) (i a)
  | ditO h1 h2 _ _ _ i => intro a z; exact (List.mem_cons.mp z).elim (fun e => e ▸ h1) (i a)
  | _ => intro a z; exact nomatch z
theorem Rep.there (r : Rep K F H b vs ds n L) : ∀ a ∈ L, ∃ o, H a = some o := by
  induction r with
  | cons _ _ e i1 i2 => subst e; intro a z; exact (List.mem_append.mp z).elim (i1 a) (i2 a)
  | lstO h1 h2 _ i => intro a z; exact (List.mem_cons.mp z).elim (fun e => ⟨_, e ▸ h2⟩) (i a)
  | tupO h1 h2 _ i => exact i
  | dicO h1 h2 _ _ _ i => intro a z; exact (List.mem_cons.mp z).elim (fun e => ⟨_, e ▸ h2⟩) (i a)
  | ditO h1 h2 _ _ _ i => intro a z; exact (List.mem_cons.mp z).elim (fun e => ⟨_, e ▸ h2⟩) (i a)
  | _ => intro a z; exact nomatch z
theorem Rep.length (r : Rep K F H b vs ds n L) : vs.length = ds.length := by
  induction r with
  | cons _ _ _ _ i => simp only [List.length_cons, i]
  | _ => rfl

/-- fewer of one's own -/
theorem Rep.lower (r : Rep K F H b vs ds n L) : ∀ m, m ≤ n → L.Nodup → ∃ L', L'.Sublist L ∧ Rep K (fun a => F a ∨ (a ∈ L ∧ a ∉ L')) H b vs ds m L' := by
  induction r with
  | nil => intro m _ _; exact ⟨[], .slnil, .nil⟩
  | @cons v vs d ds n L L' LL r1 r2 e i1 i2 =>
    intro m hm nd
    subst e
    obtain ⟨n1, n2, dj⟩ := List.nodup_append.mp nd
    obtain ⟨l1, s1, q1⟩ := i1 m hm n1
    obtain ⟨l2, s2, q2⟩ := i2 m hm n2
    refine ⟨l1 ++ l2, s1.append s2, .cons (q1.ext (fun a z => ?_) (fun _ _ _ z => z) (fun _ _ _ z => z) (fun a z1 z2 => ?_)) (q2.ext (fun a z => ?_) (fun _ _ _ z => z) (fun _ _ _ z => z) (fun a z1 z2 => ?_)) rfl⟩
    · rcases z with z | ⟨z1, z2⟩
      · exact .inl z
      · exact .inr ⟨List.mem_append_left _ z1, fun q => (List.mem_append.mp q).elim z2 fun q => dj a z1 a (s2.subset q) rfl⟩
    · rcases z2 with z2 | ⟨_, z2⟩
      · exact r1.notF a (s1.subset z1) z2
      · exact z2 (List.mem_append_left _ z1)
    · rcases z with z | ⟨z1, z2⟩
      · exact .inl z
      · exact .inr ⟨List.mem_append_right _ z1, fun q => (List.mem_append.mp q).elim (fun q => dj a (s1.subset q) a z1 rfl) z2⟩
    · rcases z2 with z2 | ⟨_, z2⟩
      · exact r2.notF a (s2.subset z1) z2
      · exact z2 (List.mem_append_right _ z1)
  | non => intro m _ _; exact ⟨[], .slnil, .non⟩
  | bl => intro m _ _; exact ⟨[], .slnil, .bl _⟩
  | int => intro m _ _; exact ⟨[], .slnil, .int _⟩
  | str => intro m _ _; exact ⟨[], .slnil, .str _⟩
  | lstF h r i =>
    intro m hm _
    obtain rfl : m = 0 := by omega
    exact ⟨[], .slnil, (Rep.lstF h r).ext (fun _ z => .inl z) (fun _ _ _ z => z) (fun _ _ _ z => z) fun _ z => nomatch z⟩
  | frlF h r i =>
    intro m hm _
    obtain rfl : m = 0 := by omega
    exact ⟨[], .slnil, (Rep.frlF h r).ext (fun _ z => .inl z) (fun _ _ _ z => z) (fun _ _ _ z => z) fun _ z => nomatch z⟩
  | tupF h r i =>
    intro m hm _
    obtain rfl : m = 0 := by omega
    exact ⟨[], .slnil, (Rep.tupF h r).ext (fun _ z => .inl z) (fun _ _ _ z => z) (fun _ _ _ z => z) fun _ z => nomatch z⟩
  | dicF h1 h2 h3 h4 r i =>
    intro m hm _
    obtain rfl : m = 0 := by omega
    exact ⟨[], .slnil, (Rep.dicF h1 h2 h3 h4 r).ext (fun _ z => .inl z) (fun _ _ _ z => z) (fun _ _ _ z => z) fun _ z => nomatch z⟩
  | ditF h1 h2 h3 h4 r i =>
    intro m hm _
    obtain rfl : m = 0 := by omega
    exact ⟨[], .slnil, (Rep.ditF h1 h2 h3 h4 r).ext (fun _ z => .inl z) (fun _ _ _ z => z) (fun _ _ _ z => z) fun _ z => nomatch z⟩
  | @lstO a xs ds n L h1 h2 r i =>
    intro m hm nd
    cases m with
    | zero => exact ⟨[], List.nil_sublist _, (Rep.lstO h1 h2 r).freeze (fun _ z => .inl z) fun b z => .inr ⟨z, by simp⟩⟩
    | succ m =>
      obtain ⟨n1, n2⟩ := List.nodup_cons.mp nd
      obtain ⟨l, s, q⟩ := i m (by omega) n2
      refine ⟨a :: l, s.cons_cons a, .lstO ?_ h2 (q.ext (fun b z => ?_) (fun _ _ _ z => z) (fun _ _ _ z => z) (fun b z1 z2 => ?_))⟩
      · rintro (z | ⟨_, z⟩)
        · exact h1 z
        · exact z List.mem_cons_self
      · rcases z with z | ⟨z1, z2⟩
        · exact .inl z
        · refine .inr ⟨List.mem_cons_of_mem _ z1, fun q => (List.mem_cons.mp q).elim (fun e => n1 (e ▸ z1)) z2⟩
      · rcases z2 with z2 | ⟨_, z2⟩
        · exact r.notF b (s.subset z1) z2
        · exact z2 (List.mem_cons_of_mem _ z1)
  | @tupO a xs ds n L h1 h2 r i =>
    intro m hm nd
    cases m with
    | zero => exact ⟨[], List.nil_sublist _, (Rep.tupO h1 h2 r).freeze (fun _ z => .inl z) fun b z => .inr ⟨z, by simp⟩⟩
    | succ m =>
      obtain ⟨l, s, q⟩ := i m (by omega) nd
      exact ⟨l, s, .tupO (.inl h1) h2 q⟩
  | @dicO a kvs ks ds n L h1 h2 h3 h4 r i =>
    intro m hm nd
    cases m with
    | zero => exact ⟨[], List.nil_sublist _, (Rep.dicO h1 h2 h3 h4 r).freeze (fun _ z => .inl z) fun b z => .inr ⟨z, by simp⟩⟩
    | succ m =>
      obtain ⟨n1, n2⟩ := List.nodup_cons.mp nd
      obtain ⟨l, s, q⟩ := i m (by omega) n2
      refine ⟨a :: l, s.cons_cons a, .dicO ?_ h2 h3 h4 (q.ext (fun b z => ?_) (fun _ _ _ z => z) (fun _ _ _ z => z) (fun b z1 z2 => ?_))⟩
      · rintro (z | ⟨_, z⟩)
        · exact h1 z
        · exact z List.mem_cons_self
      · rcases z with z | ⟨z1, z2⟩
        · exact .inl z
        · refine .inr ⟨List.mem_cons_of_mem _ z1, fun q => (List.mem_cons.mp q).elim (fun e => n1 (e ▸ z1)) z2⟩
      · rcases z2 with z2 | ⟨_, z2⟩
        · exact r.notF b (s.subset z1) z2
        · exact z2 (List.mem_cons_of_mem _ z1)
  | @ditO a kvs ks ds n L h1 h2 h3 h4 r i =>
    intro m hm nd
    cases m with
    | zero => exact ⟨[], List.nil_sublist _, (Rep.ditO h1 h2 h3 h4 r).freeze (fun _ z => .inl z) fun b z => .inr ⟨z, by simp⟩⟩
    | succ m =>
      obtain ⟨n1, n2⟩ := List.nodup_cons.mp nd
      obtain ⟨l, s, q⟩ := i m (by omega) n2
      refine ⟨a :: l, s.cons_cons a, .ditO ?_ h2 h3 h4 (q.ext (fun b z => ?_) (fun _ _ _ z => z) (fun _ _ _ z => z) (fun b z1 z2 => ?_))⟩
      · rintro (z | ⟨_, z⟩)
        · exact h1 z
        · exact z List.mem_cons_self
      · rcases z with z | ⟨z1, z2⟩
        · exact .inl z
        · refine .inr ⟨List.mem_cons_of_mem _ z1, fun q => (List.mem_cons.mp q).elim (fun e => n1 (e ▸ z1)) z2⟩
      · rcases z2 with z2 | ⟨_, z2⟩
        · exact r.notF b (s.subset z1) z2
        · exact z2 (List.mem_cons_of_mem _ z1)
end
end Dv
/-! DvB: the state as slots of trees; the judgements NE (an expression that changes nothing), VE (one that may), VS (a statement); names, constants, operators. -/
namespace Dv
open PySem PySem.Spec PyProof.Rows L2

/-! ### scalars -/
def D.toV : D → V
  | .bl b => .bl b | .int i => .int i | .str x => .str x | _ => .non
section
variable {K : PySem.W.Frag} {F G : AS} {H H' : Hp} {v : V} {vs : List V} {d : D} {ds : List D} {n m : Nat} {L : List Addr}
theorem R1.scal (h : d.isS = true) (r : R1 K F H v d n L) : v = d.toV ∧ L = [] := by
  cases r <;> first | exact ⟨rfl, rfl⟩ | exact absurd (show false = true from h) Bool.false_ne_true
theorem R1.of (h : d.isS = true) : R1 K F H d.toV d n [] := by
  cases d <;> first | exact .non | exact .bl _ | exact .int _ | exact .str _ | exact absurd (show false = true from h) Bool.false_ne_true
theorem Rs.ind {P : List V → List D → List Addr → Prop} (r : Rs K F H vs ds n L) (h0 : P [] [] [])
    (hc : ∀ (v : V) (vs : List V) (d : D) (ds : List D) (L1 L2 : List Addr), R1 K F H v d n L1 → Rs K F H vs ds n L2 → P vs ds L2 → P (v :: vs) (d :: ds) (L1 ++ L2)) : P vs ds L := by
  have go : ∀ {b : Bool} {vs : List V} {ds : List D} {m : Nat} {L : List Addr}, Rep K F H b vs ds m L → b = true → m = n → P vs ds L := by
    intro b vs ds m L r
    induction r with
    | nil => intro _ _; exact h0
    | cons r1 r2 e i1 i2 => intro _ hm; subst e; subst hm; exact hc _ _ _ _ _ _ r1 r2 (i2 rfl rfl)
    | _ => intro z _; cases z
  exact go r rfl rfl
theorem Rs.ind0 {P : List V → List D → Prop} (r : Rs K F H vs ds 0 L) (h0 : P [] [])
    (hc : ∀ (v : V) (vs : List V) (d : D) (ds : List D), R1 K F H v d 0 [] → Rs K F H vs ds 0 [] → P vs ds → P (v :: vs) (d :: ds)) : P vs ds :=
  Rs.ind (P := fun vs ds _ => P vs ds) r h0 fun v vs d ds L1 L2 r1 r2 i => by
    have e1 := r1.zero rfl
    have e2 := r2.zero rfl
    subst e1 e2
    exact hc v vs d ds r1 r2 i
theorem Rs.scal (r : Rs K F H vs ds n L) (h : ∀ d ∈ ds, d.isS = true) : vs = ds.map D.toV ∧ L = [] := by
  refine Rs.ind (P := fun vs ds L => (∀ d ∈ ds, d.isS = true) → vs = ds.map D.toV ∧ L = []) r (fun _ => ⟨rfl, rfl⟩) (fun v vs d ds L1 L2 r1 r2 i h => ?_) h
  obtain ⟨e1, e2⟩ := R1.scal (h _ List.mem_cons_self) r1
  obtain ⟨e3, e4⟩ := i fun d z => h d (List.mem_cons_of_mem _ z)
  subst e2 e4
  exact ⟨by rw [e1, e3]; rfl, rfl⟩
theorem Rs.of (h : ∀ d ∈ ds, d.isS = true) : Rs K F H (ds.map D.toV) ds n [] := by
  induction ds with
  | nil => exact .nil
  | cons d ds ih => exact .cons (R1.of (h d List.mem_cons_self)) (ih fun x z => h x (List.mem_cons_of_mem _ z)) rfl
theorem R1.up (h : d.isS = true) (r : R1 K F H v d n L) : R1 K G H' v d m [] := by
  obtain ⟨e, _⟩ := r.scal h
  rw [e]; exact R1.of h
theorem Rs.cons_inv {v : V} {vs : List V} (r : Rs K F H (v :: vs) (d :: ds) n L) : ∃ L1 L2, L = L1 ++ L2 ∧ R1 K F H v d n L1 ∧ Rs K F H vs ds n L2 := by
  cases r with
  | cons r1 r2 e => exact ⟨_, _, e, r1, r2⟩
theorem Rs.get (r : Rs K F H vs ds n L) {i : Nat} {d : D} (h : ds[i]? = some d) : ∃ v L', vs[i]? = some v ∧ L'.Sublist L ∧ R1 K F H v d n L' := by
  refine Rs.ind (P := fun vs ds L => ∀ (i : Nat) (d : D), ds[i]? = some d → ∃ v L', vs[i]? = some v ∧ L'.Sublist L ∧ R1 K F H v d n L') r (fun i d h => by simp at h) (fun v vs d ds L1 L2 r1 r2 i2 i x h => ?_) i d h
  cases i with
  | zero => simp at h; subst h; exact ⟨v, L1, rfl, List.sublist_append_left _ _, r1⟩
  | succ i =>
    obtain ⟨w, L', e1, s, q⟩ := i2 i x (by simpa using h)
    exact ⟨w, L', by simpa using e1, s.trans (List.sublist_append_right _ _), q⟩
theorem Rs.get0 (r : Rs K F H vs ds 0 L) {i : Nat} {d : D} (h : ds[i]? = some d) : ∃ v, vs[i]? = some v ∧ R1 K F H v d 0 [] := by
  obtain ⟨v, L', e, s, q⟩ := r.get h
  have z := q.zero rfl
  subst z
  exact ⟨v, e, q⟩
theorem Rs.app {vs' : List V} {ds' : List D} {L' : List Addr} (r : Rs K F H vs ds n L) (q : Rs K F H vs' ds' n L') : Rs K F H (vs ++ vs') (ds ++ ds') n (L ++ L') :=
  Rs.ind (P := fun vs ds L => Rs K F H (vs ++ vs') (ds ++ ds') n (L ++ L')) r q fun v vs d ds L1 L2 r1 _ i => .cons r1 i (by rw [List.append_assoc])
theorem Rs.app0 {vs' : List V} {ds' : List D} (r : Rs K F H vs ds 0 []) (q : Rs K F H vs' ds' 0 []) : Rs K F H (vs ++ vs') (ds ++ ds') 0 [] := r.app q
theorem Rs.one (r : R1 K F H v d n L) : Rs K F H [v] [d] n L := .cons r .nil (by simp)
theorem Rs.take (r : Rs K F H vs ds 0 []) (k : Nat) : Rs K F H (vs.take k) (ds.take k) 0 [] := by
  refine Rs.ind0 (P := fun vs ds => ∀ k, Rs K F H (vs.take k) (ds.take k) 0 []) r (fun k => by simpa using Rep.nil) (fun v vs d ds r1 _ i k => ?_) k
  cases k with
  | zero => exact .nil
  | succ k => exact .cons r1 (i k) rfl
theorem Rs.drop (r : Rs K F H vs ds 0 []) (k : Nat) : Rs K F H (vs.drop k) (ds.drop k) 0 [] := by
  refine Rs.ind0 (P := fun vs ds => ∀ k, Rs K F H (vs.drop k) (ds.drop k) 0 []) r (fun k => by simpa using Rep.nil) (fun v vs d ds r1 r2 i k => ?_) k
  cases k with
  | zero => exact .cons r1 r2 rfl
  | succ k => exact i k
theorem Rs.rev (r : Rs K F H vs ds 0 []) : Rs K F H vs.reverse ds.reverse 0 [] := by
  refine Rs.ind0 (P := fun vs ds => Rs K F H vs.reverse ds.reverse 0 []) r .nil fun v vs d ds r1 _ i => ?_
  simp only [List.reverse_cons]
  exact i.app0 (Rs.one r1)
/-- one item changed -/
theorem Rs.set {v' : V} {d' : D} {L' : List Addr} (r : Rs K F H vs ds n L) (q : R1 K F H v' d' n L') {j : Nat} (h : j < ds.length) : ∃ L2, Rs K F H (vs.set j v') (ds.set j d') n L2 ∧ (∀ a, a ∈ L2 → a ∈ L ∨ a ∈ L') ∧ (L.Nodup → L'.Nodup → (∀ a ∈ L', a ∉ L) → L2.Nodup) := by
  refine Rs.ind (P := fun vs ds L => ∀ j, j < ds.length → ∃ L2, Rs K F H (vs.set j v') (ds.set j d') n L2 ∧ (∀ a, a ∈ L2 → a ∈ L ∨ a ∈ L') ∧ (L.Nodup → L'.Nodup → (∀ a ∈ L', a ∉ L) → L2.Nodup)) r (fun j h => absurd h (Nat.not_lt_zero _)) (fun v vs d ds L1 L2 r1 r2 i2 j h => ?_) j h
  cases j with
  | zero =>
    refine ⟨_, .cons q r2 rfl, fun a z => (List.mem_append.mp z).elim .inr fun z => .inl (List.mem_append_right _ z), fun n1 n2 n3 => ?_⟩
    exact List.nodup_append.mpr ⟨n2, (List.nodup_append.mp n1).2.1, fun a z b w e => n3 a z (List.mem_append_right _ (e ▸ w))⟩
  | succ j =>
    obtain ⟨L3, q3, h3, h4⟩ := i2 j (by simpa using h)
    refine ⟨_, .cons r1 q3 rfl, fun a z => (List.mem_append.mp z).elim (fun z => .inl (List.mem_append_left _ z)) fun z => (h3 a z).elim (fun z => .inl (List.mem_append_right _ z)) .inr, fun n1 n2 n3 => ?_⟩
    obtain ⟨m1, m2, m3⟩ := List.nodup_append.mp n1
    refine List.nodup_append.mpr ⟨m1, h4 m2 n2 fun a z w => n3 a z (List.mem_append_right _ w), fun a z b w e => ?_⟩
    subst e
    exact (h3 a w).elim (fun w => m3 a z a w rfl) fun w => n3 a w (List.mem_append_left _ z)
theorem R1.lst_inv (r : R1 K F H v (.lst ds) n L) : ∃ a xs, v = .ref a ∧ ((FzL K F H a xs ∧ n = 0 ∧ L = [] ∧ Rs K F H xs ds 0 []) ∨ (∃ m L', ¬ F a ∧ H a = some (.lst xs) ∧ n = m + 1 ∧ L = a :: L' ∧ Rs K F H xs ds m L')) := by
  cases r with
  | lstF h r => exact ⟨_, _, rfl, .inl ⟨h, rfl, rfl, r⟩⟩
  | lstO h1 h2 r => exact ⟨_, _, rfl, .inr ⟨_, _, h1, h2, rfl, rfl, r⟩⟩
theorem R1.lst0 (r : R1 K F H v (.lst ds) 0 L) : ∃ a xs, v = .ref a ∧ FzL K F H a xs ∧ Rs K F H xs ds 0 [] := by
  cases r with
  | lstF h r => exact ⟨_, _, rfl, h, r⟩
theorem R1.frl0 (r : R1 K F H v (.frl ds) 0 L) : ∃ a xs, v = .ref a ∧ FzK K F H a xs ∧ Rs K F H xs ds 0 [] := by
  cases r with
  | frlF h r => exact ⟨_, _, rfl, h, r⟩
theorem R1.tup0 (r : R1 K F H v (.tup ds) 0 L) : ∃ a xs, v = .ref a ∧ FzT K F H a xs ∧ Rs K F H xs ds 0 [] := by
  cases r with
  | tupF h r => exact ⟨_, _, rfl, h, r⟩
end

/-! ### the state -/
structure Rl (K : PySem.W.Frag) (F : AS) (os : Nat → List Addr) (ρ : Ev) (σ : L2.St) (H : Hp) : Prop where
  dom : ∀ a, F a → ∃ o, H a = some o
  slot : ∀ i d n, ρ[i]? = some (some (d, n)) → ∃ v, σ[i]? = some (some v) ∧ R1 K F H v d n (os i)
  off : ∀ i, (∀ d n, ρ[i]? ≠ some (some (d, n))) → os i = []
  nd : ∀ i, (os i).Nodup
  dj : ∀ i j a, a ∈ os i → a ∈ os j → i = j
  len : ρ.length = σ.length

def Own (os : Nat → List Addr) : AS := fun a => ∃ i, a ∈ os i
def Emp : AS := fun _ => False
/-- what a step may do: F grows by what was one's own and what is new; what is neither stays -/
structure Step (F O : AS) (H : Hp) (F' O' : AS) (H' : Hp) : Prop where
  mono : ∀ a, F a → F' a
  keep : ∀ a o, H a = some o → ¬ O a → H' a = some o
  own : ∀ a, O' a → O a ∨ H a = none
  frz : ∀ a, F' a → F a ∨ O a ∨ H a = none
  dom : ∀ a o, H a = some o → ∃ o', H' a = some o'
  domF : (∀ a, F a → ∃ o, H a = some o) → ∀ a, F' a → ∃ o, H' a = some o
abbrev Ext (F : AS) (H : Hp) (F' : AS) (H' : Hp) : Prop := Step F Emp H F' Emp H'
section
variable {K : PySem.W.Frag} {F F' F1 O O' O1 : AS} {H H' H1 : Hp}
theorem Step.refl : Step F O H F O H := ⟨fun _ h => h, fun _ _ h _ => h, fun _ h => .inl h, fun _ h => .inl h, fun _ o h => ⟨o, h⟩, id⟩
theorem Step.trans (a : Step F O H F1 O1 H1) (b : Step F1 O1 H1 F' O' H') : Step F O H F' O' H' where
  mono := fun x h => b.mono x (a.mono x h)
  keep := fun x o h n => b.keep x o (a.keep x o h n) fun z => (a.own x z).elim n fun e => by rw [h] at e; cases e
  own := fun x h => (b.own x h).elim (a.own x) fun e => .inr (by
    cases q : H x with
    | none => rfl
    | some o => obtain ⟨o', e'⟩ := a.dom x o q; rw [e] at e'; cases e')
  frz := fun x h => (b.frz x h).elim (a.frz x) fun z => z.elim (fun z => (a.own x z).elim (fun z => .inr (.inl z)) fun z => .inr (.inr z)) fun e => .inr (.inr (by
    cases q : H x with
    | none => rfl
    | some o => obtain ⟨o', e'⟩ := a.dom x o q; rw [e] at e'; cases e'))
  dom := fun x o h => let ⟨o', e⟩ := a.dom x o h; b.dom x o' e
  domF := fun h => b.domF (a.domF h)
/-- the same step where more is one's own -/
theorem Step.add (s : Step F O H F' O' H') (P : AS) (hp : ∀ a, P a → ∃ o, H a = some o) : Step F (fun a => O a ∨ P a) H F' (fun a => O' a ∨ P a) H' where
  mono := s.mono
  keep := fun a o h n => s.keep a o h fun z => n (.inl z)
  own := fun a h => h.elim (fun z => (s.own a z).elim (fun z => .inl (.inl z)) .inr) fun z => .inl (.inr z)
  frz := fun a h => (s.frz a h).elim .inl fun z => z.elim (fun z => .inr (.inl (.inl z))) fun z => .inr (.inr z)
  dom := s.dom
  domF := s.domF
theorem Step.weak (s : Step F O H F' O' H') {P P' : AS} (h1 : ∀ a, O a → P a) (h2 : ∀ a, P' a → O' a ∨ P a ∨ H a = none) : Step F P H F' P' H' where
  mono := s.mono
  keep := fun a o h n => s.keep a o h fun z => n (h1 a z)
  own := fun a h => (h2 a h).elim (fun z => (s.own a z).elim (fun z => .inl (h1 a z)) .inr) fun z => z
  frz := fun a h => (s.frz a h).elim .inl fun z => z.elim (fun z => .inr (.inl (h1 a z))) fun z => .inr (.inr z)
  dom := s.dom
  domF := s.domF
theorem Ext.step {O : AS} (s : Ext F H F' H') : Step F O H F' O H' := s.weak (fun _ z => z.elim) fun _ z => .inr (.inl z)
/-- a new object, out of sight -/
theorem Step.alloc {p : Addr} {o : HO} (h : H p = none) : Ext F H F (upd H p o) := ⟨fun _ h => h, fun a x e _ => by rw [upd_ne (ne_of_none e h)]; exact e, fun _ z => z.elim, fun _ h => .inl h, fun a x e => ⟨x, by rw [upd_ne (ne_of_none e h)]; exact e⟩, fun q a z => by
  obtain ⟨x, e⟩ := q a z
  exact ⟨x, by rw [upd_ne (ne_of_none e h)]; exact e⟩⟩
/-- a new object, frozen -/
theorem Step.allocF {p : Addr} {o : HO} (h : H p = none) : Ext F H (fun a => F a ∨ a = p) (upd H p o) := ⟨fun _ h => .inl h, fun a x e _ => by rw [upd_ne (ne_of_none e h)]; exact e, fun _ z => z.elim, fun a z => z.elim .inl fun e => .inr (.inr (e ▸ h)), fun a x e => ⟨x, by rw [upd_ne (ne_of_none e h)]; exact e⟩, fun q a z => by
  rcases z with z | rfl
  · obtain ⟨x, e⟩ := q a z
    exact ⟨x, by rw [upd_ne (ne_of_none e h)]; exact e⟩
  · exact ⟨o, upd_same⟩⟩
theorem Ext.dom' (s : Ext F H F' H') (h : ∀ a, F a → ∃ o, H a = some o) : ∀ a, F' a → ∃ o, H' a = some o := s.domF h

variable {os : Nat → List Addr} {ρ : Ev} {σ : L2.St}
theorem Rl.noF (r : Rl K F os ρ σ H) {i : Nat} {a : Addr} (h : a ∈ os i) : ¬ F a := by
  cases q : ρ[i]? with
  | none => rw [r.off i fun d n e => by rw [q] at e; cases e] at h; cases h
  | some x =>
    cases x with
    | none => rw [r.off i fun d n e => by rw [q] at e; cases e] at h; cases h
    | some x => obtain ⟨v, _, z⟩ := r.slot i x.1 x.2 q; exact z.notF a h
theorem Rl.there (r : Rl K F os ρ σ H) {i : Nat} {a : Addr} (h : a ∈ os i) : ∃ o, H a = some o := by
  cases q : ρ[i]? with
  | none => rw [r.off i fun d n e => by rw [q] at e; cases e] at h; cases h
  | some x =>
    cases x with
    | none => rw [r.off i fun d n e => by rw [q] at e; cases e] at h; cases h
    | some x => obtain ⟨v, _, z⟩ := r.slot i x.1 x.2 q; exact z.there a h
/-- a step that does not touch the state's own things -/
theorem Rl.ext (r : Rl K F os ρ σ H) (s : Step F O H F' O' H') (ho : ∀ i, ∀ a ∈ os i, ¬ O a) (hF : ∀ a, O a → ¬ F a) : Rl K F' os ρ σ H' where
  dom := s.domF r.dom
  slot := fun i d n e => by
    obtain ⟨v, e1, q⟩ := r.slot i d n e
    refine ⟨v, e1, q.ext s.mono (fun a o z h => s.keep a o h fun w => hF a w z) (fun a o z h => s.keep a o h (ho i a z)) fun a z w => ?_⟩
    rcases s.frz a w with w | w | w
    · exact q.notF a z w
    · exact ho i a z w
    · obtain ⟨o, e⟩ := q.there a z; rw [w] at e; cases e
  off := r.off
  nd := r.nd
  dj := r.dj
  len := r.len
theorem Rl.ext0 (r : Rl K F os ρ σ H) (s : Ext F H F' H') : Rl K F' os ρ σ H' := r.ext s (fun _ _ _ z => z) fun _ z => z.elim
end

/-! ### the judgements -/
theorem _root_.L2.PE.imp {X : Cx} {e : Expr} {t t' : TE} (h : PE X e t) (w : ∀ σ H Q, t' σ H Q → t σ H Q) : PE X e t' := ⟨fun pins s σ H Q I q => h.run pins s σ H Q I (w σ H Q q)⟩
theorem _root_.L2.PT.imp {X : Cx} {e : Expr} {t t' : TT} (h : PT X e t) (w : ∀ σ H Q, t' σ H Q → t σ H Q) : PT X e t' := ⟨fun pins s σ H Q I q => h.run pins s σ H Q I (w σ H Q q)⟩
theorem _root_.L2.PW.imp {X : Cx} {e : Expr} {t t' : TT} (h : PW X e t) (w : ∀ σ H Q, t' σ H Q → t σ H Q) : PW X e t' := ⟨fun wh pins s σ H Q I q => h.run wh pins s σ H Q I (w σ H Q q)⟩
theorem _root_.L2.PA.imp {X : Cx} {es : List Expr} {t t' : TA} (h : PA X es t) (w : ∀ σ H Q, t' σ H Q → t σ H Q) : PA X es t' := ⟨fun p pins s σ H Q I q => h.run p pins s σ H Q I (w σ H Q q)⟩
theorem _root_.L2.PS.imp {X : Cx} {e : Stmt} {t t' : TS} (h : PS X e t) (w : ∀ D σ H, t' D σ H → t D σ H) : PS X e t' := ⟨fun pins s σ H D I q => h.run pins s σ H D I (w D σ H q)⟩
theorem _root_.L2.PSs.imp {X : Cx} {e : List Stmt} {t t' : TS} (h : PSs X e t) (w : ∀ D σ H, t' D σ H → t D σ H) : PSs X e t' := ⟨fun pins s σ H D I q => h.run pins s σ H D I (w D σ H q)⟩
theorem _root_.L2.PI.imp {X : Cx} {tg e : Expr} {t t' : TI} (h : PI X tg e t) (w : ∀ σ H Q, t' σ H Q → t σ H Q) : PI X tg e t' := ⟨fun pins s σ H Q I q => h.run pins s σ H Q I (w σ H Q q)⟩

def Gs (F : AS) (os : Nat → List Addr) (vs : List Nat) : AS := fun a => F a ∨ ∃ i ∈ vs, a ∈ os i
theorem Gs.mono {F F' : AS} {os : Nat → List Addr} {vs : List Nat} (h : ∀ a, F a → F' a) : ∀ a, Gs F os vs a → Gs F' os vs a := fun a z => z.imp (h a) id

/-- an expression that changes nothing: its value lies within F and what the slots vs own -/
def tN (K : PySem.W.Frag) (vs : List Nat) (f : Ev → Option D) : TE := fun σ H Q => ∃ F os ρ d, Rl K F os ρ σ H ∧ f ρ = some d ∧
  ∀ v H' F', Ext F H F' H' → R1 K (Gs F' os vs) H' v d 0 [] → Q v H'
structure NE (X : Cx) (vs : List Nat) (e : Expr) (f : Ev → Option D) : Prop where
  pe : PE X e (tN X.K vs f)
/-- several, from the left -/
def tNA (K : PySem.W.Frag) (vs : List Nat) (f : Ev → Option (List D)) : TA := fun σ H Q => ∃ F os ρ ds, Rl K F os ρ σ H ∧ f ρ = some ds ∧
  ∀ xs H' F', Ext F H F' H' → Rs K (Gs F' os vs) H' xs ds 0 [] → Q xs H'
structure NA (X : Cx) (vs : List Nat) (es : List Expr) (f : Ev → Option (List D)) : Prop where
  pa : PA X es (tNA X.K vs f)
/-- a test -/
def tNT (K : PySem.W.Frag) (f : Ev → Option Bool) : TT := fun σ H Q => ∃ F os ρ b, Rl K F os ρ σ H ∧ f ρ = some b ∧ ∀ H' F', Ext F H F' H' → Q b H'
structure NT (X : Cx) (e : Expr) (f : Ev → Option Bool) : Prop where
  pt : PT X e (tNT X.K f)
structure NW (X : Cx) (e : Expr) (f : Ev → Option Bool) : Prop where
  pw : PW X e (tNT X.K f)
theorem NW.nt {X : Cx} {e : Expr} {f : Ev → Option Bool} (h : NW X e f) : NT X e f := ⟨h.pw.pt⟩

/-- an expression that may change the state: its value owns what lies at Lv -/
def tV (K : PySem.W.Frag) (f : Ev → Option (AV × Ev)) : TE := fun σ H Q => ∃ F os ρ r, Rl K F os ρ σ H ∧ f ρ = some r ∧
  ∀ v H' F' os' Lv, Step F (Own os) H F' (fun a => Own os' a ∨ a ∈ Lv) H' → Rl K F' os' r.2 σ H' → R1 K F' H' v r.1.1 r.1.2 Lv → Lv.Nodup → (∀ a ∈ Lv, ∀ i, a ∉ os' i) → Q v H'
structure VE (X : Cx) (e : Expr) (f : Ev → Option (AV × Ev)) : Prop where
  pe : PE X e (tV X.K f)
def tVT (K : PySem.W.Frag) (f : Ev → Option (Bool × Ev)) : TT := fun σ H Q => ∃ F os ρ r, Rl K F os ρ σ H ∧ f ρ = some r ∧
  ∀ H' F' os', Step F (Own os) H F' (Own os') H' → Rl K F' os' r.2 σ H' → Q r.1 H'
structure VT (X : Cx) (e : Expr) (f : Ev → Option (Bool × Ev)) : Prop where
  pt : PT X e (tVT X.K f)
structure VW (X : Cx) (e : Expr) (f : Ev → Option (Bool × Ev)) : Prop where
  pw : PW X e (tVT X.K f)
theorem VW.vt {X : Cx} {e : Expr} {f : Ev → Option (Bool × Ev)} (h : VW X e f) : VT X e f := ⟨h.pw.pt⟩

inductive Out where
  | nx (ρ : Ev) | rt (v : AV) (ρ : Ev) | bk (ρ : Ev) | ct (ρ : Ev)
def Fix (pm : List Nat) (σ σ' : L2.St) : Prop := σ'.length = σ.length ∧ ∀ i ∈ pm, σ'[i]? = σ[i]?
theorem Fix.refl {pm : List Nat} {σ : L2.St} : Fix pm σ σ := ⟨rfl, fun _ _ => rfl⟩
theorem Fix.trans {pm : List Nat} {σ σ1 σ2 : L2.St} (a : Fix pm σ σ1) (b : Fix pm σ1 σ2) : Fix pm σ σ2 := ⟨b.1.trans a.1, fun i h => (b.2 i h).trans (a.2 i h)⟩
def Aft (K : PySem.W.Frag) (pm : List Nat) (F : AS) (O : AS) (σ : L2.St) (H : Hp) (D : Ends) : Out → Prop
  | .nx ρ' => ∀ σ' H' F' os', Step F O H F' (Own os') H' → Rl K F' os' ρ' σ' H' → Fix pm σ σ' → D.nx σ' H'
  | .bk ρ' => ∀ σ' H' F' os', Step F O H F' (Own os') H' → Rl K F' os' ρ' σ' H' → Fix pm σ σ' → D.bk σ' H'
  | .ct ρ' => ∀ σ' H' F' os', Step F O H F' (Own os') H' → Rl K F' os' ρ' σ' H' → Fix pm σ σ' → D.ct σ' H'
  | .rt r ρ' => ∀ v σ' H' F' os' Lv, Step F O H F' (fun a => Own os' a ∨ a ∈ Lv) H' → Rl K F' os' ρ' σ' H' → R1 K F' H' v r.1 r.2 Lv → Lv.Nodup → (∀ a ∈ Lv, ∀ i, a ∉ os' i) → Fix pm σ σ' → D.rt v H'
def tS (K : PySem.W.Frag) (pm : List Nat) (g : Ev → Option Out) : TS := fun D σ H => ∃ F os ρ o, Rl K F os ρ σ H ∧ g ρ = some o ∧ Aft K pm F (Own os) σ H D o
structure VS (X : Cx) (pm : List Nat) (st : Stmt) (g : Ev → Option Out) : Prop where
  ps : PS X st (tS X.K pm g)
structure VSs (X : Cx) (pm : List Nat) (st : List Stmt) (g : Ev → Option Out) : Prop where
  pss : PSs X st (tS X.K pm g)
theorem Aft.step {K : PySem.W.Frag} {pm : List Nat} {F F1 O O1 : AS} {σ σ1 : L2.St} {H H1 : Hp} {D : Ends} {o : Out} (a : Aft K pm F O σ H D o) (s : Step F O H F1 O1 H1) (f : Fix pm σ σ1) : Aft K pm F1 O1 σ1 H1 D o := by
  cases o with
  | nx ρ => exact fun σ' H' F' os' s' r f' => a σ' H' F' os' (s.trans s') r (f.trans f')
  | bk ρ => exact fun σ' H' F' os' s' r f' => a σ' H' F' os' (s.trans s') r (f.trans f')
  | ct ρ => exact fun σ' H' F' os' s' r f' => a σ' H' F' os' (s.trans s') r (f.trans f')
  | rt v ρ => exact fun v σ' H' F' os' Lv s' r q n d f' => a v σ' H' F' os' Lv (s.trans s') r q n d (f.trans f')
end Dv
/-! DvC: rules for names, constants, operators, comparisons, tests; a value made by the way. -/
namespace Dv
open PySem PySem.Spec PyProof.Rows L2

section
variable {K : PySem.W.Frag} {F F1 F2 : AS} {H H1 H2 : Hp} {os os1 os2 : Nat → List Addr} {vs : List Nat} {v : V} {xs : List V} {d : D} {ds : List D} {n : Nat} {ρ ρ1 : Ev} {σ : L2.St} {L L1 L2 : List Addr} {O : AS} {b : Bool}
theorem Rep.ne {xs : List V} {ds : List D} (q : Rep K (Gs F1 os vs) H1 b xs ds 0 []) (s : Ext F1 H1 F2 H2) : Rep K (Gs F2 os vs) H2 b xs ds 0 [] :=
  q.ext (Gs.mono s.mono) (fun a o _ h => s.keep a o h fun z => z) (fun _ _ z => nomatch z) fun _ z => nomatch z
/-- a value by the way stays while the state changes -/
theorem Rep.tmp {xs : List V} {ds : List D} (q : Rep K F1 H1 b xs ds n L) (r : Rl K F1 os1 ρ1 σ H1) (dj : ∀ a ∈ L, ∀ i, a ∉ os1 i) (s : Step F1 (Own os1) H1 F2 O H2) : Rep K F2 H2 b xs ds n L :=
  q.ext s.mono (fun a o z h => s.keep a o h fun ⟨i, w⟩ => r.noF w z) (fun a o z h => s.keep a o h fun ⟨i, w⟩ => dj a z i w) fun a z w => by
    rcases s.frz a w with w | ⟨i, w⟩ | w
    · exact q.notF a z w
    · exact dj a z i w
    · obtain ⟨o, e⟩ := q.there a z; rw [w] at e; cases e
/-- the same where more than the state's may change -/
theorem Rep.tmp2 {xs : List V} {ds : List D} {P : AS} (q : Rep K F1 H1 b xs ds n L) (hF : ∀ a, P a → ¬ F1 a) (dj : ∀ a ∈ L, ¬ P a) (s : Step F1 P H1 F2 O H2) : Rep K F2 H2 b xs ds n L :=
  q.ext s.mono (fun a o z h => s.keep a o h fun w => hF a w z) (fun a o z h => s.keep a o h fun w => dj a z w) fun a z w => by
    rcases s.frz a w with w | w | w
    · exact q.notF a z w
    · exact dj a z w
    · obtain ⟨o, e⟩ := q.there a z; rw [w] at e; cases e
theorem Rl.gs (r : Rl K F os ρ σ H) (vs : List Nat) : ∀ a, Gs F os vs a → ∃ o, H a = some o := fun a z => Or.elim z (r.dom a) fun ⟨_, _, w⟩ => r.there w

/-! ### freezing slots -/
def frz1 (i : Nat) (ρ : Ev) : Ev := match ρ[i]? with
  | some (some a) => ρ.set i (some (a.1, 0))
  | _ => ρ
def frz : List Nat → Ev → Ev
  | [], ρ => ρ
  | i :: vs, ρ => frz vs (frz1 i ρ)
theorem frz1_rl (r : Rl K F os ρ σ H) (i : Nat) : Rl K (fun a => F a ∨ a ∈ os i) (fun j => if j = i then [] else os j) (frz1 i ρ) σ H := by
  have other : ∀ j d m, j ≠ i → ρ[j]? = some (some (d, m)) → ∃ v, σ[j]? = some (some v) ∧ R1 K (fun a => F a ∨ a ∈ os i) H v d m (os j) := fun j d m hj e => by
    obtain ⟨v, e1, q⟩ := r.slot j d m e
    exact ⟨v, e1, q.ext (fun _ z => .inl z) (fun _ _ _ z => z) (fun _ _ _ z => z) fun a z w => Or.elim w (q.notF a z) fun w => hj (r.dj j i a z w)⟩
  have hlen : (frz1 i ρ).length = ρ.length := by unfold frz1; split <;> simp
  have hget : ∀ j, j ≠ i → (frz1 i ρ)[j]? = ρ[j]? := fun j hj => by
    unfold frz1
    split
    · rw [List.getElem?_set_ne (Ne.symm hj)]
    · rfl
  refine ⟨fun a z => Or.elim z (r.dom a) fun z => r.there z, fun j d m e => ?_, fun j h => ?_, fun j => ?_, fun j k a h1 h2 => ?_, hlen.trans r.len⟩
  · by_cases hj : j = i
    · subst hj
      rw [if_pos rfl]
      cases q : ρ[j]? with
      | none => unfold frz1 at e; rw [q] at e; rw [q] at e; cases e
      | some x =>
        cases x with
        | none => unfold frz1 at e; rw [q] at e; rw [q] at e; cases e
        | some x =>
          obtain ⟨v, e1, w⟩ := r.slot j x.1 x.2 q
          have hl : j < ρ.length := (List.getElem?_eq_some_iff.mp q).1
          unfold frz1 at e
          rw [q] at e
          simp only [List.getElem?_set_self hl, Option.some.injEq, Prod.mk.injEq] at e
          obtain ⟨e2, e3⟩ := e
          subst e2 e3
          exact ⟨v, e1, w.freeze (fun _ z => .inl z) fun _ z => .inr z⟩
    · rw [if_neg hj]
      rw [hget j hj] at e
      exact other j d m hj e
  · by_cases hj : j = i
    · rw [if_pos hj]
    · rw [if_neg hj]
      refine r.off j fun d m e => h d m ?_
      rw [hget j hj]; exact e
  · by_cases hj : j = i
    · simp only [if_pos hj]; exact List.nodup_nil
    · simp only [if_neg hj]; exact r.nd j
  · by_cases hj : j = i
    · simp only [if_pos hj] at h1; exact nomatch h1
    · by_cases hk : k = i
      · simp only [if_pos hk] at h2; exact nomatch h2
      · simp only [if_neg hj] at h1
        simp only [if_neg hk] at h2
        exact r.dj j k a h1 h2
theorem frz1_step (r : Rl K F os ρ σ H) (i : Nat) : Step F (Own os) H (fun a => F a ∨ a ∈ os i) (Own fun j => if j = i then [] else os j) H := by
  refine ⟨fun _ z => .inl z, fun _ _ h _ => h, fun a ⟨j, z⟩ => .inl ?_, fun a z => Or.elim z .inl fun z => .inr (.inl ⟨i, z⟩), fun _ o h => ⟨o, h⟩, fun h a z => Or.elim z (h a) fun z => r.there z⟩
  simp only at z
  split at z
  · exact nomatch z
  · exact ⟨j, z⟩
theorem frz_rl' : ∀ (vs : List Nat) {F : AS} {os : Nat → List Addr} {ρ : Ev}, Rl K F os ρ σ H → ∃ F' os', Rl K F' os' (frz vs ρ) σ H ∧ Step F (Own os) H F' (Own os') H ∧ (∀ a, Gs F os vs a → F' a) ∧ (∀ i, ∀ a ∈ os' i, a ∈ os i) ∧ ∀ a, F' a → Gs F os vs a
  | [], F, os, ρ, r => ⟨F, os, r, .refl, fun a z => Or.elim z id (fun ⟨_, w, _⟩ => (nomatch w)), fun _ _ z => z, fun _ z => .inl z⟩
  | i :: vs, F, os, ρ, r => by
    obtain ⟨F', os', r', s', h1, h2, h3⟩ := frz_rl' vs (frz1_rl r i)
    refine ⟨F', os', r', (frz1_step r i).trans s', fun a z => h1 a ?_, fun j a z => ?_, fun a z => ?_⟩
    · rcases z with z | ⟨j, w, z⟩
      · exact .inl (.inl z)
      · by_cases hj : j = i
        · exact .inl (.inr (hj ▸ z))
        · rcases List.mem_cons.mp w with w | w
          · exact absurd w hj
          · exact .inr ⟨j, w, by show a ∈ (if j = i then [] else os j); rw [if_neg hj]; exact z⟩
    · have q := h2 j a z
      split at q
      · exact nomatch q
      · exact q
    · rcases h3 a z with (z | z) | ⟨j, w, z⟩
      · exact .inl z
      · exact .inr ⟨i, List.mem_cons_self, z⟩
      · have z : a ∈ (if j = i then [] else os j) := z
        split at z
        · exact nomatch z
        · exact .inr ⟨j, List.mem_cons_of_mem _ w, z⟩
theorem frz_rl (vs : List Nat) {F : AS} {os : Nat → List Addr} {ρ : Ev} (r : Rl K F os ρ σ H) : ∃ F' os', Rl K F' os' (frz vs ρ) σ H ∧ Step F (Own os) H F' (Own os') H ∧ (∀ a, Gs F os vs a → F' a) ∧ ∀ i, ∀ a ∈ os' i, a ∈ os i := by
  obtain ⟨F', os', r', s', h1, h2, _⟩ := frz_rl' vs r
  exact ⟨F', os', r', s', h1, h2⟩
end

section
variable {X : Cx} {vs : List Nat} {a c e : Expr} {es : List Expr} {pos : Pos} {fa fc f : Ev → Option D}
/-! ### names and constants -/
def nVar (i : Nat) : Ev → Option D := fun ρ => match ρ[i]? with
  | some (some a) => some a.1
  | _ => none
theorem nVar_some {i : Nat} {ρ : Ev} {d : D} (h : nVar i ρ = some d) : ∃ n, ρ[i]? = some (some (d, n)) := by
  unfold nVar at h
  split at h
  · rename_i a q
    cases h
    exact ⟨a.2, q⟩
  · cases h
theorem ne_var (i : Nat) {x : Str} (hi : i ∈ vs := by decide) (hN : X.N[i]? = some x := by rfl) (hv : Vis X.env.scope x := by first | exact Or.inl rfl | exact Or.inr (Or.inl rfl) | exact Or.inr (Or.inr rfl)) (hd : (x == ("__debug__" : Str)) = false := by decide)
    (hcd : (x == ("__classdict__" : Str)) = false := by decide) : NE X vs (.Name x pos) (nVar i) := ⟨(pv i hN hv hd hcd).imp fun σ H Q ⟨F, os, ρ, d, R, e, k⟩ => by
  obtain ⟨n, e⟩ := nVar_some e
  obtain ⟨v, e1, q⟩ := R.slot i d n e
  exact ⟨v, e1, k v H F .refl (q.freeze (fun _ z => .inl z) fun a z => .inr ⟨i, hi, z⟩)⟩⟩
def nC (d : D) : Ev → Option D := fun _ => some d
theorem ne_int {i j} : NE X vs (.Constant (.int i) j pos) (nC (.int i)) := ⟨pe_int.imp fun σ H Q ⟨F, os, ρ, d, R, e, k⟩ => by cases e; exact k _ H F .refl (.int _)⟩
theorem ne_bl {i j} : NE X vs (.Constant (.bool i) j pos) (nC (.bl i)) := ⟨pe_bl.imp fun σ H Q ⟨F, os, ρ, d, R, e, k⟩ => by cases e; exact k _ H F .refl (.bl _)⟩
theorem ne_non {j} : NE X vs (.Constant .none j pos) (nC .non) := ⟨pe_non.imp fun σ H Q ⟨F, os, ρ, d, R, e, k⟩ => by cases e; exact k _ H F .refl .non⟩
theorem ne_str {i j} : NE X vs (.Constant (.str i) j pos) (nC (.str i)) := ⟨pe_str.imp fun σ H Q ⟨F, os, ρ, d, R, e, k⟩ => by cases e; exact k _ H F .refl (.str _)⟩
/-- a module's constant -/
theorem ne_glob {x : Str} {d : D} {u : Value} (hg : Gl X x) (hm : X.mg x = some u) (hs : d.isS = true) (r : RelV d.toV u) (hd : (x == ("__debug__" : Str)) = false := by decide) : NE X vs (.Name x pos) (nC d) :=
  ⟨(pe_glob hg hm r hd).imp fun σ H Q ⟨F, os, ρ, d, R, e, k⟩ => by cases e; exact k _ H F .refl (R1.of hs)⟩

/-! ### operators -/
/-- an operation on trees that gives a scalar -/
def rD (K : PySem.W.Frag) (b : D → D → Option D) : R2 := fun x y H Q => ∃ G d1 d2 d, R1 K G H x d1 0 [] ∧ R1 K G H y d2 0 [] ∧ b d1 d2 = some d ∧ Q d.toV H
structure OpD (X : Cx) (f : Value → Value → Sem Value) (b : D → D → Option D) : Prop where
  run : OpR X f (rD X.K b)
  sc : ∀ x y d, b x y = some d → d.isS = true
def nOp (b : D → D → Option D) (fa fc : Ev → Option D) : Ev → Option D := fun ρ => (fa ρ).bind fun x => (fc ρ).bind fun y => b x y
theorem nOp_some {b : D → D → Option D} {ρ : Ev} {d : D} (h : nOp b fa fc ρ = some d) : ∃ x y, fa ρ = some x ∧ fc ρ = some y ∧ b x y = some d := by
  obtain ⟨x, e1, h⟩ := Option.bind_eq_some_iff.mp h
  obtain ⟨y, e2, h⟩ := Option.bind_eq_some_iff.mp h
  exact ⟨x, y, e1, e2, h⟩
theorem ne_op {op : Operator} {b : D → D → Option D} (ho : OpD X (binaryOp op) b) (ha : NE X vs a fa) (hc : NE X vs c fc) : NE X vs (.BinOp a op c pos) (nOp b fa fc) :=
  ⟨(pe_op ho.run ha.pe hc.pe).imp fun σ H Q ⟨F, os, ρ, d, R, e, k⟩ => by
    obtain ⟨x, y, e1, e2, e3⟩ := nOp_some e
    exact ⟨F, os, ρ, x, R, e1, fun v1 H1 F1 s1 q1 => ⟨F1, os, ρ, y, R.ext0 s1, e2, fun v2 H2 F2 s2 q2 => ⟨_, x, y, d, q1.ne s2, q2, e3, k _ H2 F2 (s1.trans s2) (R1.of (ho.sc _ _ _ e3))⟩⟩⟩⟩
def nUn (g : D → Option D) (fa : Ev → Option D) : Ev → Option D := fun ρ => (fa ρ).bind g
structure UnD (X : Cx) (f : Value → Sem Value) (g : D → Option D) : Prop where
  run : UnR X f (fun x H Q => ∃ G d1 d, R1 X.K G H x d1 0 [] ∧ g d1 = some d ∧ Q d.toV H)
  sc : ∀ x d, g x = some d → d.isS = true
theorem ne_un {op : UnaryOp} {g : D → Option D} (ho : UnD X (unaryOp op) g) (ha : NE X vs a fa) : NE X vs (.UnaryOp op a pos) (nUn g fa) :=
  ⟨(pe_un ho.run ha.pe).imp fun σ H Q ⟨F, os, ρ, d, R, e, k⟩ => by
    obtain ⟨x, e1, e2⟩ := Option.bind_eq_some_iff.mp e
    exact ⟨F, os, ρ, x, R, e1, fun v1 H1 F1 s1 q1 => ⟨_, x, d, q1, e2, k _ H1 F1 s1 (R1.of (ho.sc _ _ e2))⟩⟩⟩

/-! ### comparisons -/
def cB (q : D → D → Option Bool) : D → D → Option D := fun x y => (q x y).map .bl
theorem cB_sc {q : D → D → Option Bool} : ∀ x y d, cB q x y = some d → d.isS = true := fun x y d h => by
  obtain ⟨k, _, e⟩ := Option.map_eq_some_iff.mp h
  rw [← e]; rfl
structure CmD (X : Cx) (op : CmpOp) (q : D → D → Option Bool) : Prop where
  run : OpR X (compareOp op) (rD X.K (cB q))
theorem ne_cmp {op : CmpOp} {q : D → D → Option Bool} (ho : CmD X op q) (ha : NE X vs a fa) (hc : NE X vs c fc) (hm : behindInMarks op c = false := by first | exact nobehind _ (by decide) (by decide) | rfl) :
    NE X vs (.Compare a [op] [c] pos) (nOp (cB q) fa fc) :=
  ⟨(pe_cmpR ho.run ha.pe hc.pe hm).imp fun σ H Q ⟨F, os, ρ, d, R, e, k⟩ => by
    obtain ⟨x, y, e1, e2, e3⟩ := nOp_some e
    exact ⟨F, os, ρ, x, R, e1, fun v1 H1 F1 s1 q1 => ⟨F1, os, ρ, y, R.ext0 s1, e2, fun v2 H2 F2 s2 q2 => ⟨_, x, y, d, q1.ne s2, q2, e3, k _ H2 F2 (s1.trans s2) (R1.of (cB_sc _ _ _ e3))⟩⟩⟩⟩
def tCmpB (q : D → D → Option Bool) (fa fc : Ev → Option D) : Ev → Option Bool := fun ρ => (fa ρ).bind fun x => (fc ρ).bind fun y => q x y
theorem tCmpB_some {q : D → D → Option Bool} {ρ : Ev} {d : Bool} (h : tCmpB q fa fc ρ = some d) : ∃ x y, fa ρ = some x ∧ fc ρ = some y ∧ q x y = some d := by
  obtain ⟨x, e1, h⟩ := Option.bind_eq_some_iff.mp h
  obtain ⟨y, e2, h⟩ := Option.bind_eq_some_iff.mp h
  exact ⟨x, y, e1, e2, h⟩
theorem nt_cmp {op : CmpOp} {q : D → D → Option Bool} (ho : CmD X op q) (ha : NE X vs a fa) (hc : NE X vs c fc) (hm : behindInMarks op c = false := by first | exact nobehind _ (by decide) (by decide) | rfl) :
    NT X (.Compare a [op] [c] pos) (tCmpB q fa fc) :=
  ⟨(pt_cmpR ho.run ha.pe hc.pe hm).imp fun σ H Q ⟨F, os, ρ, d, R, e, k⟩ => by
    obtain ⟨x, y, e1, e2, e3⟩ := tCmpB_some e
    exact ⟨F, os, ρ, x, R, e1, fun v1 H1 F1 s1 q1 => ⟨F1, os, ρ, y, R.ext0 s1, e2, fun v2 H2 F2 s2 q2 => ⟨_, x, y, .bl d, q1.ne s2, q2, by unfold cB; rw [e3]; rfl, d, rfl, k H2 F2 (s1.trans s2)⟩⟩⟩⟩
/-- a < b < c -/
def nChain (q q' : D → D → Option Bool) (fa fc fe : Ev → Option D) : Ev → Option Bool := fun ρ => (fa ρ).bind fun x => (fc ρ).bind fun y => (q x y).bind fun k => if k then (fe ρ).bind fun z => q' y z else some false
theorem ne_chain {op op' : CmpOp} {q q' : D → D → Option Bool} {fe : Ev → Option D} (ho : CmD X op q) (ho' : CmD X op' q') (ha : NE X vs a fa) (hc : NE X vs c fc) (he : NE X vs e fe)
    (hm : lastMarks [op, op'] [c, e] = false := by with_unfolding_all rfl) : NE X vs (.Compare a [op, op'] [c, e] pos) (fun ρ => (nChain q q' fa fc fe ρ).map .bl) :=
  ⟨(pe_chain ho.run ho'.run ha.pe hc.pe he.pe hm).imp fun σ H Q ⟨F, os, ρ, d, R, e, k⟩ => by
    obtain ⟨r, e0, rfl⟩ := Option.map_eq_some_iff.mp e
    obtain ⟨x, e1, e0⟩ := Option.bind_eq_some_iff.mp e0
    obtain ⟨y, e2, e0⟩ := Option.bind_eq_some_iff.mp e0
    obtain ⟨b, e3, e0⟩ := Option.bind_eq_some_iff.mp e0
    refine ⟨F, os, ρ, x, R, e1, fun v1 H1 F1 s1 q1 => ⟨F1, os, ρ, y, R.ext0 s1, e2, fun v2 H2 F2 s2 q2 => ⟨_, x, y, .bl b, q1.ne s2, q2, by unfold cB; rw [e3]; rfl, b, rfl, ?_⟩⟩⟩
    cases b with
    | true =>
      rw [if_pos rfl] at e0 ⊢
      obtain ⟨z, e4, e5⟩ := Option.bind_eq_some_iff.mp e0
      exact ⟨F2, os, ρ, z, (R.ext0 s1).ext0 s2, e4, fun v3 H3 F3 s3 q3 => ⟨_, y, z, .bl r, q2.ne s3, q3, by unfold cB; rw [e5]; rfl, k _ H3 F3 ((s1.trans s2).trans s3) (.bl r)⟩⟩
    | false =>
      rw [if_neg Bool.false_ne_true] at e0 ⊢
      cases e0
      exact k _ H2 F2 (s1.trans s2) (.bl false)⟩
theorem nt_chain {op op' : CmpOp} {q q' : D → D → Option Bool} {fe : Ev → Option D} (ho : CmD X op q) (ho' : CmD X op' q') (ha : NE X vs a fa) (hc : NE X vs c fc) (he : NE X vs e fe)
    (hm : lastMarks [op, op'] [c, e] = false := by with_unfolding_all rfl) : NT X (.Compare a [op, op'] [c, e] pos) (nChain q q' fa fc fe) :=
  ⟨(pt_chain ho.run ho'.run ha.pe hc.pe he.pe hm).imp fun σ H Q ⟨F, os, ρ, r, R, e0, k⟩ => by
    obtain ⟨x, e1, e0⟩ := Option.bind_eq_some_iff.mp e0
    obtain ⟨y, e2, e0⟩ := Option.bind_eq_some_iff.mp e0
    obtain ⟨b, e3, e0⟩ := Option.bind_eq_some_iff.mp e0
    refine ⟨F, os, ρ, x, R, e1, fun v1 H1 F1 s1 q1 => ⟨F1, os, ρ, y, R.ext0 s1, e2, fun v2 H2 F2 s2 q2 => ⟨_, x, y, .bl b, q1.ne s2, q2, by unfold cB; rw [e3]; rfl, b, rfl, ?_⟩⟩⟩
    cases b with
    | true =>
      rw [if_pos rfl] at e0 ⊢
      obtain ⟨z, e4, e5⟩ := Option.bind_eq_some_iff.mp e0
      exact ⟨F2, os, ρ, z, (R.ext0 s1).ext0 s2, e4, fun v3 H3 F3 s3 q3 => ⟨_, y, z, .bl r, q2.ne s3, q3, by unfold cB; rw [e5]; rfl, r, rfl, k H3 F3 ((s1.trans s2).trans s3)⟩⟩
    | false =>
      rw [if_neg Bool.false_ne_true] at e0 ⊢
      cases e0
      exact ⟨false, rfl, k H2 F2 (s1.trans s2)⟩⟩

/-! ### tests -/
/-- an expression of any kind as a test -/
def D.tru : D → Option Bool
  | .non => some false
  | .bl b => some b
  | .int i => some (i != 0)
  | .str x => if x.length ≤ sizeLine then some ((x.length : Int) != 0) else none
  | .lst xs => some !xs.isEmpty
  | .frl xs => some !xs.isEmpty
  | .tup xs => some !xs.isEmpty
  | .dic ks _ => some !ks.isEmpty
  | _ => none
/-- a dict's truth wants the dict unlocked -/
def D.noDic : D → Bool
  | .dic _ _ => false | .dit _ _ => false | _ => true
def nTru (fa : Ev → Option D) : Ev → Option Bool := fun ρ => (fa ρ).bind fun d => if d.noDic then d.tru else none
theorem isEmpty_len {α β : Type} {xs : List α} {ys : List β} (h : xs.length = ys.length) : xs.isEmpty = ys.isEmpty := by
  cases xs <;> cases ys <;> first | rfl | (simp at h)
theorem tru_of {K : PySem.W.Frag} {G : AS} {H : Hp} {v : V} {d : D} {L : List Addr} {b : Bool} (hn : d.noDic = true) (h : d.tru = some b) (r : R1 K G H v d 0 L) : TruV K v H b := by
  cases d with
  | non => cases r; cases h; rfl
  | bl c => cases r; cases h; rfl
  | int i => cases r; cases h; rfl
  | str x =>
    cases r
    have h : (if x.length ≤ sizeLine then some ((x.length : Int) != 0) else none) = some b := h
    by_cases hz : x.length ≤ sizeLine
    · rw [if_pos hz] at h; cases h; exact ⟨hz, rfl⟩
    · rw [if_neg hz] at h; cases h
  | lst ds =>
    obtain ⟨a, xs, rfl, hq, q⟩ := r.lst0
    cases h
    exact .inl ⟨xs, hq.sq, by rw [isEmpty_len q.length]⟩
  | frl ds =>
    obtain ⟨a, xs, rfl, hq, q⟩ := r.frl0
    cases h
    exact .inl ⟨xs, hq.sq, by rw [isEmpty_len q.length]⟩
  | tup ds =>
    obtain ⟨a, xs, rfl, hq, q⟩ := r.tup0
    cases h
    exact .inr (.inl ⟨xs, hq.sq, by rw [isEmpty_len q.length]⟩)
  | dic ks ds => cases hn
  | dit ks ds => cases hn
theorem nt_tru (ha : NE X vs a fa) (he : ∀ whole, isTrue a X.env whole = (do let v ← whole; standAt a.pos; holding [v] (truthy v)) := by intro _; rfl) : NT X a (nTru fa) :=
  ⟨(pt_truth ha.pe he).imp fun σ H Q ⟨F, os, ρ, b, R, e, k⟩ => by
    obtain ⟨x, e1, e2⟩ := Option.bind_eq_some_iff.mp e
    split at e2
    · rename_i hn
      exact ⟨F, os, ρ, x, R, e1, fun v1 H1 F1 s1 q1 => ⟨b, tru_of hn e2 q1, k H1 F1 s1⟩⟩
    · cases e2⟩
def nAnd (t u : Ev → Option Bool) : Ev → Option Bool := fun ρ => (t ρ).bind fun k => if k then u ρ else some false
def nOr (t u : Ev → Option Bool) : Ev → Option Bool := fun ρ => (t ρ).bind fun k => if k then some true else u ρ
def nNot (t : Ev → Option Bool) : Ev → Option Bool := fun ρ => (t ρ).map not
variable {t u : Ev → Option Bool} {rest : List Expr}
theorem nw_and1 (h : NT X a t) : NW X (.BoolOp .And [a] pos) t := ⟨pw_and1 h.pt⟩
theorem nw_or1 (h : NT X a t) : NW X (.BoolOp .Or [a] pos) t := ⟨pw_or1 h.pt⟩
theorem nw_and (h : NT X a t) (h2 : NW X (.BoolOp .And (c :: rest) pos) u) : NW X (.BoolOp .And (a :: c :: rest) pos) (nAnd t u) :=
  ⟨(pw_and h.pt h2.pw).imp fun σ H Q ⟨F, os, ρ, b, R, e, k⟩ => by
    obtain ⟨x, e1, e2⟩ := Option.bind_eq_some_iff.mp e
    refine ⟨F, os, ρ, x, R, e1, fun H1 F1 s1 => ?_⟩
    cases x with
    | true =>
      rw [if_pos rfl] at e2 ⊢
      exact ⟨F1, os, ρ, b, R.ext0 s1, e2, fun H2 F2 s2 => k H2 F2 (s1.trans s2)⟩
    | false =>
      rw [if_neg Bool.false_ne_true] at e2 ⊢
      cases e2
      exact k H1 F1 s1⟩
theorem nw_or (h : NT X a t) (h2 : NW X (.BoolOp .Or (c :: rest) pos) u) : NW X (.BoolOp .Or (a :: c :: rest) pos) (nOr t u) :=
  ⟨(pw_or h.pt h2.pw).imp fun σ H Q ⟨F, os, ρ, b, R, e, k⟩ => by
    obtain ⟨x, e1, e2⟩ := Option.bind_eq_some_iff.mp e
    refine ⟨F, os, ρ, x, R, e1, fun H1 F1 s1 => ?_⟩
    cases x with
    | true =>
      rw [if_pos rfl] at e2 ⊢
      cases e2
      exact k H1 F1 s1
    | false =>
      rw [if_neg Bool.false_ne_true] at e2 ⊢
      exact ⟨F1, os, ρ, b, R.ext0 s1, e2, fun H2 F2 s2 => k H2 F2 (s1.trans s2)⟩⟩
theorem nt_not (h : NT X a t) : NT X (.UnaryOp .Not a pos) (nNot t) := ⟨(pt_not h.pt).imp fun σ H Q ⟨F, os, ρ, b, R, e, k⟩ => by
    obtain ⟨x, e1, rfl⟩ := Option.map_eq_some_iff.mp e
    exact ⟨F, os, ρ, x, R, e1, fun H1 F1 s1 => k H1 F1 s1⟩⟩
/-- .. as values -/
def nBool (fa : Ev → Option D) : Ev → Option Bool := fun ρ => (fa ρ).bind fun d => match d with | .bl b => some b | _ => none
theorem nBool_some {ρ : Ev} {b : Bool} (h : nBool fa ρ = some b) : fa ρ = some (.bl b) := by
  obtain ⟨x, e1, h⟩ := Option.bind_eq_some_iff.mp h
  cases x <;> first | (cases h; exact e1) | cases h
def nAndV (fa fc : Ev → Option D) : Ev → Option D := fun ρ => (nBool fa ρ).bind fun k => if k then fc ρ else some (.bl false)
def nOrV (fa fc : Ev → Option D) : Ev → Option D := fun ρ => (nBool fa ρ).bind fun k => if k then some (.bl true) else fc ρ
def nNotV (fa : Ev → Option D) : Ev → Option D := fun ρ => (nBool fa ρ).map fun k => .bl !k
theorem ne_one {op : BoolOp} (h : NE X vs a fa) : NE X vs (.BoolOp op [a] pos) fa := ⟨pe_one h.pe⟩
theorem ne_and (h : NE X vs a fa) (h2 : NE X vs (.BoolOp .And (c :: rest) pos) fc) : NE X vs (.BoolOp .And (a :: c :: rest) pos) (nAndV fa fc) :=
  ⟨(pe_and h.pe h2.pe).imp fun σ H Q ⟨F, os, ρ, d, R, e, k⟩ => by
    obtain ⟨x, e1, e2⟩ := Option.bind_eq_some_iff.mp e
    refine ⟨F, os, ρ, .bl x, R, nBool_some e1, fun v1 H1 F1 s1 q1 => ⟨x, by cases q1; rfl, ?_⟩⟩
    cases x with
    | true =>
      rw [if_pos rfl] at e2 ⊢
      exact ⟨F1, os, ρ, d, R.ext0 s1, e2, fun v2 H2 F2 s2 q2 => k v2 H2 F2 (s1.trans s2) q2⟩
    | false =>
      rw [if_neg Bool.false_ne_true] at e2 ⊢
      cases e2
      exact k _ H1 F1 s1 (.bl _)⟩
theorem ne_or (h : NE X vs a fa) (h2 : NE X vs (.BoolOp .Or (c :: rest) pos) fc) : NE X vs (.BoolOp .Or (a :: c :: rest) pos) (nOrV fa fc) :=
  ⟨(pe_or h.pe h2.pe).imp fun σ H Q ⟨F, os, ρ, d, R, e, k⟩ => by
    obtain ⟨x, e1, e2⟩ := Option.bind_eq_some_iff.mp e
    refine ⟨F, os, ρ, .bl x, R, nBool_some e1, fun v1 H1 F1 s1 q1 => ⟨x, by cases q1; rfl, ?_⟩⟩
    cases x with
    | true =>
      rw [if_pos rfl] at e2 ⊢
      cases e2
      exact k _ H1 F1 s1 (.bl _)
    | false =>
      rw [if_neg Bool.false_ne_true] at e2 ⊢
      exact ⟨F1, os, ρ, d, R.ext0 s1, e2, fun v2 H2 F2 s2 q2 => k v2 H2 F2 (s1.trans s2) q2⟩⟩
theorem ne_not (h : NE X vs a fa) : NE X vs (.UnaryOp .Not a pos) (nNotV fa) :=
  ⟨(pe_not h.pe).imp fun σ H Q ⟨F, os, ρ, d, R, e, k⟩ => by
    obtain ⟨x, e1, rfl⟩ := Option.map_eq_some_iff.mp e
    exact ⟨F, os, ρ, .bl x, R, nBool_some e1, fun v1 H1 F1 s1 q1 => ⟨x, by cases q1; rfl, k _ H1 F1 s1 (.bl _)⟩⟩⟩
def nIf (t : Ev → Option Bool) (fa fc : Ev → Option D) : Ev → Option D := fun ρ => (t ρ).bind fun k => if k then fa ρ else fc ρ
theorem ne_if (ht : NT X e t) (ha : NE X vs a fa) (hc : NE X vs c fc) : NE X vs (.IfExp e a c pos) (nIf t fa fc) :=
  ⟨(pe_ifExp ht.pt ha.pe hc.pe).imp fun σ H Q ⟨F, os, ρ, d, R, e, k⟩ => by
    obtain ⟨x, e1, e2⟩ := Option.bind_eq_some_iff.mp e
    refine ⟨F, os, ρ, x, R, e1, fun H1 F1 s1 => ?_⟩
    cases x with
    | true =>
      rw [if_pos rfl] at e2 ⊢
      exact ⟨F1, os, ρ, d, R.ext0 s1, e2, fun v2 H2 F2 s2 q2 => k v2 H2 F2 (s1.trans s2) q2⟩
    | false =>
      rw [if_neg Bool.false_ne_true] at e2 ⊢
      exact ⟨F1, os, ρ, d, R.ext0 s1, e2, fun v2 H2 F2 s2 q2 => k v2 H2 F2 (s1.trans s2) q2⟩⟩

/-! ### argument lists, displays that are read alone -/
def aNil : Ev → Option (List D) := fun _ => some []
def aCons (f : Ev → Option D) (g : Ev → Option (List D)) : Ev → Option (List D) := fun ρ => (f ρ).bind fun d => (g ρ).map (d :: ·)
theorem na_nil : NA X vs [] aNil := ⟨pa_nil.imp fun σ H Q ⟨F, os, ρ, d, R, e, k⟩ => by cases e; exact k [] H F .refl .nil⟩
theorem na_cons {g : Ev → Option (List D)} (h : NE X vs e f) (h2 : NA X vs es g) (hs : starEach (e :: es) X.env = (false, eval e X.env) :: starEach es X.env := by rfl) : NA X vs (e :: es) (aCons f g) :=
  ⟨(pa_cons h.pe h2.pa hs).imp fun σ H Q ⟨F, os, ρ, ds, R, e, k⟩ => by
    obtain ⟨x, e1, e2⟩ := Option.bind_eq_some_iff.mp e
    obtain ⟨y, e3, rfl⟩ := Option.map_eq_some_iff.mp e2
    exact ⟨F, os, ρ, x, R, e1, fun v1 H1 F1 s1 q1 => ⟨F1, os, ρ, y, R.ext0 s1, e3, fun v2 H2 F2 s2 q2 => k _ H2 F2 (s1.trans s2) (.cons (q1.ne s2) q2 rfl)⟩⟩⟩
end
end Dv
/-! DvD: what the operators and built-ins do with trees. -/
namespace Dv
open PySem PySem.Spec PyProof.Rows L2

/-! ### numbers and texts -/
theorem OpD.mk' {X : Cx} {f : Value → Value → Sem Value} {b : D → D → Option D} (h : ∀ (d1 d2 d : D), b d1 d2 = some d → d1.isS = true ∧ d2.isS = true ∧ d.isS = true ∧ ∃ r : R2, OpR X f r ∧ ∀ H Q, Q d.toV H → r d1.toV d2.toV H Q) : OpD X f b where
  run := fun pins s σ H x y v u Q I rx ry ⟨G, d1, d2, d, r1, r2, e, q⟩ => by
    obtain ⟨h1, h2, h3, r, hr, hq⟩ := h d1 d2 d e
    obtain ⟨rfl, _⟩ := r1.scal h1
    obtain ⟨rfl, _⟩ := r2.scal h2
    exact hr pins s σ H _ _ v u Q I rx ry (hq H Q q)
  sc := fun x y d e => (h x y d e).2.2.1
def bAdd : D → D → Option D
  | .int i, .int j => some (.int (i + j))
  | .str a, .str b => if a.length + b.length ≤ sizeLine then some (.str (a ++ b)) else none
  | .int i, .bl k => some (.int (i + b2i k))
  | _, _ => none
def bSub : D → D → Option D
  | .int i, .int j => some (.int (i - j))
  | _, _ => none
def MulOk (i j : Int) : Prop := (-(2 ^ 64) < i ∧ i < 2 ^ 64) ∨ (-(2 ^ 64) < j ∧ j < 2 ^ 64) ∨ (i.natAbs < 2 ^ 1000 ∧ j.natAbs < 2 ^ 1000)
instance (i j : Int) : Decidable (MulOk i j) := by unfold MulOk; infer_instance
def bMul : D → D → Option D
  | .int i, .int j => if MulOk i j then some (.int (i * j)) else none
  | _, _ => none
def bFdiv : D → D → Option D
  | .int i, .int j => if 0 < j ∧ j.natAbs < 2 ^ 1000 then some (.int (i / j)) else if j < 0 ∧ -1073741824 < j then some (.int (i.fdiv j)) else none
  | _, _ => none
def bMod : D → D → Option D
  | .int i, .int j => if 0 < j then some (.int (i % j)) else if j < 0 then some (.int (i.fmod j)) else none
  | _, _ => none
def bPow : D → D → Option D
  | .int i, .int j => if 0 ≤ j ∧ j ≤ 1000000 ∧ i.natAbs < 2 ^ 64 then some (.int (i ^ j.toNat)) else none
  | _, _ => none
section
variable {X : Cx}
theorem od_add : OpD X (binaryOp .Add) bAdd := .mk' fun d1 d2 d h => by
  cases d1 <;> cases d2 <;> first | (cases h; done) | skip
  case int.bl i k => cases h; exact ⟨rfl, rfl, rfl, _, op_add_ib, fun H Q q => ⟨i, k, rfl, rfl, q⟩⟩
  case int.int i j => cases h; exact ⟨rfl, rfl, rfl, _, op_add, fun H Q q => ⟨i, j, rfl, rfl, q⟩⟩
  case str.str a b =>
    have h : (if a.length + b.length ≤ sizeLine then some (D.str (a ++ b)) else none) = some d := h
    by_cases hz : a.length + b.length ≤ sizeLine
    · rw [if_pos hz] at h; cases h; exact ⟨rfl, rfl, rfl, _, op_add_str, fun H Q q => ⟨a, b, rfl, rfl, hz, q⟩⟩
    · rw [if_neg hz] at h; cases h
theorem od_sub : OpD X (binaryOp .Sub) bSub := .mk' fun d1 d2 d h => by
  cases d1 <;> cases d2 <;> first | (cases h; done) | skip
  case int.int i j => cases h; exact ⟨rfl, rfl, rfl, _, op_sub, fun H Q q => ⟨i, j, rfl, rfl, q⟩⟩
theorem MulOk.ok {i j : Int} (h : MulOk i j) : CMul i j ∨ CMulW i j := by
  rcases h with h | h | ⟨h1, h2⟩
  · exact .inl (.inl h)
  · exact .inl (.inr h)
  · exact .inr (wide_mul h1 h2 (by decide) (by decide) (by decide))
theorem od_mul : OpD X (binaryOp .Mult) bMul := .mk' fun d1 d2 d h => by
  cases d1 <;> cases d2 <;> first | (cases h; done) | skip
  case int.int i j =>
    have h : (if MulOk i j then some (D.int (i * j)) else none) = some d := h
    by_cases hz : MulOk i j
    · rw [if_pos hz] at h; cases h
      rcases hz.ok with hz | hz
      · exact ⟨rfl, rfl, rfl, _, op_mul, fun H Q q => ⟨i, j, rfl, rfl, hz, q⟩⟩
      · exact ⟨rfl, rfl, rfl, _, op_mulW, fun H Q q => ⟨i, j, rfl, rfl, hz, q⟩⟩
    · rw [if_neg hz] at h; cases h
theorem od_fdiv : OpD X (binaryOp .FloorDiv) bFdiv := .mk' fun d1 d2 d h => by
  cases d1 <;> cases d2 <;> first | (cases h; done) | skip
  case int.int i j =>
    have h : (if 0 < j ∧ j.natAbs < 2 ^ 1000 then some (D.int (i / j)) else if j < 0 ∧ -1073741824 < j then some (D.int (i.fdiv j)) else none) = some d := h
    by_cases hz : 0 < j ∧ j.natAbs < 2 ^ 1000
    · rw [if_pos hz] at h; cases h
      exact ⟨rfl, rfl, rfl, _, op_fdivW, fun H Q q => ⟨i, j, rfl, rfl, wide_div hz.1 hz.2 (by decide) (by decide), q⟩⟩
    · rw [if_neg hz] at h
      by_cases hy : j < 0 ∧ -1073741824 < j
      · rw [if_pos hy] at h; cases h
        exact ⟨rfl, rfl, rfl, _, op_fdivN, fun H Q q => ⟨i, j, rfl, rfl, ⟨by omega, by omega⟩, q⟩⟩
      · rw [if_neg hy] at h; cases h
theorem od_mod : OpD X (binaryOp .Mod) bMod := .mk' fun d1 d2 d h => by
  cases d1 <;> cases d2 <;> first | (cases h; done) | skip
  case int.int i j =>
    have h : (if 0 < j then some (D.int (i % j)) else if j < 0 then some (D.int (i.fmod j)) else none) = some d := h
    by_cases hz : 0 < j
    · rw [if_pos hz] at h; cases h
      exact ⟨rfl, rfl, rfl, _, op_mod, fun H Q q => ⟨i, j, rfl, rfl, hz, q⟩⟩
    · rw [if_neg hz] at h
      by_cases hy : j < 0
      · rw [if_pos hy] at h; cases h
        exact ⟨rfl, rfl, rfl, _, op_modN, fun H Q q => ⟨i, j, rfl, rfl, by omega, q⟩⟩
      · rw [if_neg hy] at h; cases h
theorem od_pow : OpD X (binaryOp .Pow) bPow := .mk' fun d1 d2 d h => by
  cases d1 <;> cases d2 <;> first | (cases h; done) | skip
  case int.int i j =>
    have h : (if 0 ≤ j ∧ j ≤ 1000000 ∧ i.natAbs < 2 ^ 64 then some (D.int (i ^ j.toNat)) else none) = some d := h
    by_cases hz : 0 ≤ j ∧ j ≤ 1000000 ∧ i.natAbs < 2 ^ 64
    · rw [if_pos hz] at h; cases h
      exact ⟨rfl, rfl, rfl, _, op_pow, fun H Q q => ⟨i, j, rfl, rfl, hz, q⟩⟩
    · rw [if_neg hz] at h; cases h
def uNeg : D → Option D
  | .int i => some (.int (-i))
  | _ => none
theorem ud_neg : UnD X (unaryOp .USub) uNeg where
  run := fun pins s σ H x v Q I rx ⟨G, d1, d, r1, e, q⟩ => by
    cases d1 <;> first | (cases e; done) | skip
    case int i => cases e; cases r1; exact un_neg pins s σ H _ v Q I rx ⟨i, rfl, q⟩
  sc := fun x d e => by cases x <;> first | (cases e; done) | (cases e; rfl)

/-! ### comparisons -/
theorem CmD.mk' {op : CmpOp} {q : D → D → Option Bool} (h : ∀ (d1 d2 : D) (k : Bool), q d1 d2 = some k → ∀ (K : PySem.W.Frag) (G : AS) (H : Hp) (x y : V), K = X.K → R1 K G H x d1 0 [] → R1 K G H y d2 0 [] → ∃ r : R2, OpR X (compareOp op) r ∧ ∀ Q : VK, Q (.bl k) H → r x y H Q) : CmD X op q :=
  ⟨fun pins s σ H x y v u Q I rx ry ⟨G, d1, d2, d, r1, r2, e, w⟩ => by
    obtain ⟨k, e', rfl⟩ := Option.map_eq_some_iff.mp e
    obtain ⟨r, hr, hq⟩ := h d1 d2 k e' X.K G H x y rfl r1 r2
    exact hr pins s σ H x y v u Q I rx ry (hq Q w)⟩
def cLt : D → D → Option Bool
  | .int i, .int j => some (decide (i < j))
  | .str i, .str j => some (decide (i.cps.toList < j.cps.toList))
  | _, _ => none
def cLe : D → D → Option Bool
  | .int i, .int j => some (decide (i ≤ j))
  | _, _ => none
def cGt : D → D → Option Bool
  | .int i, .int j => some (decide (j < i))
  | _, _ => none
def cGe : D → D → Option Bool
  | .int i, .int j => some (decide (j ≤ i))
  | _, _ => none
theorem cd_lt : CmD X .Lt cLt := .mk' fun d1 d2 k h K G H x y _ r1 r2 => by
  cases d1 <;> cases d2 <;> first | (cases h; done) | skip
  case int.int i j => cases h; cases r1; cases r2; exact ⟨_, op_lt, fun Q q => ⟨i, j, rfl, rfl, q⟩⟩
  case str.str i j => cases h; cases r1; cases r2; exact ⟨_, op_lt_str, fun Q q => ⟨i, j, rfl, rfl, q⟩⟩
theorem cd_le : CmD X .LtE cLe := .mk' fun d1 d2 k h K G H x y _ r1 r2 => by
  cases d1 <;> cases d2 <;> first | (cases h; done) | skip
  case int.int i j => cases h; cases r1; cases r2; exact ⟨_, op_le, fun Q q => ⟨i, j, rfl, rfl, q⟩⟩
theorem cd_gt : CmD X .Gt cGt := .mk' fun d1 d2 k h K G H x y _ r1 r2 => by
  cases d1 <;> cases d2 <;> first | (cases h; done) | skip
  case int.int i j => cases h; cases r1; cases r2; exact ⟨_, op_gt, fun Q q => ⟨i, j, rfl, rfl, q⟩⟩
theorem cd_ge : CmD X .GtE cGe := .mk' fun d1 d2 k h K G H x y _ r1 r2 => by
  cases d1 <;> cases d2 <;> first | (cases h; done) | skip
  case int.int i j => cases h; cases r1; cases r2; exact ⟨_, op_ge, fun Q q => ⟨i, j, rfl, rfl, q⟩⟩

/-- a tree without dicts as the library's data -/
def D.py : D → Option PyData
  | .non => some .none
  | .bl b => some (.bool b)
  | .int i => some (.int i)
  | .str x => some (.str x)
  | .lst xs => (pys xs).map .list
  | .frl xs => (pys xs).map .list
  | .tup xs => (pys xs).map .tuple
  | .dic _ _ => none
  | .dit _ _ => none
where pys : List D → Option (List PyData)
  | [] => some []
  | d :: ds => match d.py, pys ds with
    | some p, some ps => some (p :: ps)
    | _, _ => none
theorem pys_cons {d : D} {ds : List D} {qs : List PyData} (h : D.py.pys (d :: ds) = some qs) : ∃ p ps, d.py = some p ∧ D.py.pys ds = some ps ∧ qs = p :: ps := by
  unfold D.py.pys at h
  split at h
  · rename_i p ps e1 e2; cases h; exact ⟨p, ps, e1, e2, rfl⟩
  · cases h
mutual
theorem R1.dp {K : PySem.W.Frag} {G : AS} {H : Hp} : ∀ (d : D) (v : V) (p : PyData), R1 K G H v d 0 [] → d.py = some p → Dp K H v p
  | .non, _, _, r, e => by cases e; cases r; exact .non
  | .bl _, _, _, r, e => by cases e; cases r; exact .bl _
  | .int _, _, _, r, e => by cases e; cases r; exact .int _
  | .str _, _, _, r, e => by cases e; cases r; exact .str _
  | .lst ds, _, _, r, e => by
    have e : (D.py.pys ds).map PyData.list = some _ := e
    obtain ⟨ps, e1, rfl⟩ := Option.map_eq_some_iff.mp e
    obtain ⟨a, xs, rfl, h, q⟩ := r.lst0
    exact .lst h.sq (Rs.dp ds xs ps q e1)
  | .frl ds, _, _, r, e => by
    have e : (D.py.pys ds).map PyData.list = some _ := e
    obtain ⟨ps, e1, rfl⟩ := Option.map_eq_some_iff.mp e
    obtain ⟨a, xs, rfl, h, q⟩ := r.frl0
    exact .lst h.sq (Rs.dp ds xs ps q e1)
  | .tup ds, _, _, r, e => by
    have e : (D.py.pys ds).map PyData.tuple = some _ := e
    obtain ⟨ps, e1, rfl⟩ := Option.map_eq_some_iff.mp e
    obtain ⟨a, xs, rfl, h, q⟩ := r.tup0
    exact .tup h.sq (Rs.dp ds xs ps q e1)
  | .dic _ _, _, _, _, e => by cases e
  | .dit _ _, _, _, _, e => by cases e
theorem Rs.dp {K : PySem.W.Frag} {G : AS} {H : Hp} : ∀ (ds : List D) (xs : List V) (ps : List PyData), Rs K G H xs ds 0 [] → D.py.pys ds = some ps → DpAll K H xs ps
  | [], _, _, r, e => by cases e; cases r; exact .nil
  | d :: ds, xs, qs, r, e => by
    obtain ⟨p, ps, e1, e2, rfl⟩ := pys_cons e
    cases xs with
    | nil => cases r
    | cons x xs =>
      obtain ⟨L1, L2, eL, r1, r2⟩ := r.cons_inv
      obtain ⟨rfl, rfl⟩ : L1 = [] ∧ L2 = [] := by simpa using eL.symm
      exact .cons (R1.dp d x p r1 e1) (Rs.dp ds xs ps r2 e2)
end
def eqD (x y : D) : Option Bool := match x.py, y.py with
  | some p, some q => if SeqAt.shaped p = true ∧ SeqAt.shaped q = true then some (PyData.eqv p q) else none
  | _, _ => none
theorem eqD_some {x y : D} {k : Bool} (h : eqD x y = some k) : ∃ p q, x.py = some p ∧ y.py = some q ∧ SeqAt.shaped p = true ∧ SeqAt.shaped q = true ∧ k = PyData.eqv p q := by
  unfold eqD at h
  split at h
  · rename_i p q e1 e2
    split at h
    · rename_i hs; cases h; exact ⟨p, q, e1, e2, hs.1, hs.2, rfl⟩
    · cases h
  · cases h
def cNe (x y : D) : Option Bool := (eqD x y).map not
theorem cd_eq (hu : X.A.units + 64 < cLine) : CmD X .Eq eqD := .mk' fun d1 d2 k h K G H x y hK r1 r2 => by
  subst hK
  obtain ⟨p, q, e1, e2, s1, s2, rfl⟩ := eqD_some h
  exact ⟨_, op_eqD hu, fun Q w => ⟨p, q, R1.dp _ _ _ r1 e1, R1.dp _ _ _ r2 e2, s1, s2, w⟩⟩
theorem cd_ne (hu : X.A.units + 64 < cLine) : CmD X .NotEq cNe := .mk' fun d1 d2 k h K G H x y hK r1 r2 => by
  subst hK
  obtain ⟨k, h', rfl⟩ := Option.map_eq_some_iff.mp h
  obtain ⟨p, q, e1, e2, s1, s2, rfl⟩ := eqD_some h'
  exact ⟨_, op_neD hu, fun Q w => ⟨p, q, R1.dp _ _ _ r1 e1, R1.dp _ _ _ r2 e2, s1, s2, w⟩⟩

/-- x is None, is True, is False -/
def cIs : D → D → Option Bool
  | x, .non => some (match x with | .non => true | _ => false)
  | x, .bl b => some (match x with | .bl a => a == b | _ => false)
  | _, _ => none
def cIsNot (x y : D) : Option Bool := (cIs x y).map not
def isVal (x : V) (b : V) : Bool := decide (x = b)
theorem op_isC (c : V) (hc : c = .non ∨ ∃ b, c = .bl b) : OpR X (compareOp .Is) (fun x y H Q => y = c ∧ (∀ z, x ≠ .ty z) ∧ Q (.bl (decide (x = c))) H) := by
  intro pins s σ H x y v u Q I rx ry h
  obtain ⟨rfl, hty, q⟩ := h
  have pl : plainIs v u = true ∧ (v == u) = decide (x = y) := by
    rcases hc with rfl | ⟨b, rfl⟩
    · cases ry
      cases x <;> first
        | (cases rx; exact ⟨rfl, rfl⟩)
        | (obtain ⟨t, rfl⟩ := rx; exact ⟨rfl, rfl⟩)
        | exact absurd rfl (hty _)
    · cases ry
      cases x <;> first
        | exact absurd rfl (hty _)
        | (obtain ⟨t, rfl⟩ := rx; refine ⟨rfl, ?_⟩; first | (simp; done) | rfl | (simp; rfl))
        | (cases rx; refine ⟨rfl, ?_⟩; first | (simp; done) | rfl | (rename_i a; cases a <;> cases b <;> rfl))
  exact wpAny_is_plain pl.1 (fin_bl I q pl.2.symm)
theorem op_isnC (c : V) (hc : c = .non ∨ ∃ b, c = .bl b) : OpR X (compareOp .IsNot) (fun x y H Q => y = c ∧ (∀ z, x ≠ .ty z) ∧ Q (.bl (!decide (x = c))) H) := by
  intro pins s σ H x y v u Q I rx ry h
  obtain ⟨rfl, hty, q⟩ := h
  have pl : plainIs v u = true ∧ (v == u) = decide (x = y) := by
    rcases hc with rfl | ⟨b, rfl⟩
    · cases ry
      cases x <;> first
        | (cases rx; exact ⟨rfl, rfl⟩)
        | (obtain ⟨t, rfl⟩ := rx; exact ⟨rfl, rfl⟩)
        | exact absurd rfl (hty _)
    · cases ry
      cases x <;> first
        | exact absurd rfl (hty _)
        | (obtain ⟨t, rfl⟩ := rx; refine ⟨rfl, ?_⟩; first | (simp; done) | rfl | (simp; rfl))
        | (cases rx; refine ⟨rfl, ?_⟩; first | (simp; done) | rfl | (rename_i a; cases a <;> cases b <;> rfl))
  exact wpAny_isNot_plain pl.1 (fin_bl I q (congrArg not pl.2.symm))
end
end Dv
/-! DvE: is, built-in calls, subscripts, slices, displays. -/
namespace Dv
open PySem PySem.Spec PyProof.Rows L2
section
variable {X : Cx} {vs : List Nat} {a c e : Expr} {es : List Expr} {pos : Pos} {fa fc f : Ev → Option D}
theorem isC_ans {K : PySem.W.Frag} {G : AS} {H : Hp} {x : V} {d1 d2 : D} {k : Bool} (r : R1 K G H x d1 0 []) (h : cIs d1 d2 = some k) : ∃ c : V, d2.toV = c ∧ d2.isS = true ∧ (c = .non ∨ ∃ b, c = .bl b) ∧ (∀ z, x ≠ .ty z) ∧ decide (x = c) = k := by
  have hty : ∀ z, x ≠ .ty z := fun z e => by subst e; cases r
  have nr : ∀ a : Addr, decide (V.ref a = V.non) = false := fun a => decide_eq_false (by intro z; cases z)
  have nb : ∀ (a : Addr) (b : Bool), decide (V.ref a = V.bl b) = false := fun a b => decide_eq_false (by intro z; cases z)
  cases d2 <;> first | (cases d1 <;> cases h; done) | skip
  case non =>
    refine ⟨.non, rfl, rfl, .inl rfl, hty, ?_⟩
    cases d1 <;> cases h <;> cases r <;> first | rfl | (simp; done) | exact nr _
  case bl b =>
    refine ⟨.bl b, rfl, rfl, .inr ⟨b, rfl⟩, hty, ?_⟩
    cases d1 <;> cases h <;> cases r <;> first | rfl | exact nb _ _ | (simp; done) | (rename_i a; cases a <;> cases b <;> rfl)
theorem cd_is : CmD X .Is cIs := .mk' fun d1 d2 k h K G H x y _ r1 r2 => by
  obtain ⟨c, e1, hs, hc, hty, e2⟩ := isC_ans r1 h
  obtain ⟨e3, _⟩ := r2.scal hs
  exact ⟨_, op_isC c hc, fun Q q => ⟨e3.trans e1, hty, by rw [e2]; exact q⟩⟩
theorem cd_isnot : CmD X .IsNot cIsNot := .mk' fun d1 d2 k h K G H x y _ r1 r2 => by
  obtain ⟨k, h', rfl⟩ := Option.map_eq_some_iff.mp h
  obtain ⟨c, e1, hs, hc, hty, e2⟩ := isC_ans r1 h'
  obtain ⟨e3, _⟩ := r2.scal hs
  exact ⟨_, op_isnC c hc, fun Q q => ⟨e3.trans e1, hty, by rw [e2]; exact q⟩⟩

/-! ### built-in calls that give a scalar -/
def rC (K : PySem.W.Frag) (c : List D → Option D) : List V → Hp → VK → Prop := fun xs H Q => ∃ G ds d, Rs K G H xs ds 0 [] ∧ c ds = some d ∧ Q d.toV H
structure CaD (X : Cx) (f : Value) (c : List D → Option D) : Prop where
  run : CallR X f (rC X.K c)
  sc : ∀ ds d, c ds = some d → d.isS = true
def nCa (c : List D → Option D) (f : Ev → Option (List D)) : Ev → Option D := fun ρ => (f ρ).bind c
theorem ne_callB {x : Str} {p : Pos} {id : String} {c : List D → Option D} {f : Ev → Option (List D)} (hc : CaD X (.builtin id) c) (hg : Gl X x) (hm : X.mg x = none) (hv : bootBuiltins x = some (.builtin id)) (ha : NA X vs (e :: es) f) (hn : x ≠ "__name__" := by decide) (hdb : (x == ("__debug__" : Str)) = false := by decide)
    (he : starEach (e :: es) X.env = (false, eval e X.env) :: starEach es X.env := by rfl) (hpl : (backTo pos (starEach es X.env)).any (·.1) = false := by rfl) : NE X vs (.Call (.Name x p) (e :: es) [] pos) (nCa c f) :=
  ⟨(pe_callB hc.run hg hm hv ha.pa hn hdb he hpl).imp fun σ H Q ⟨F, os, ρ, d, R, e, k⟩ => by
    obtain ⟨ds, e1, e2⟩ := Option.bind_eq_some_iff.mp e
    exact ⟨F, os, ρ, ds, R, e1, fun xs H1 F1 s1 q1 => ⟨_, ds, d, q1, e2, k _ H1 F1 s1 (R1.of (hc.sc _ _ e2))⟩⟩⟩
theorem ne_callTy {x : Str} {p : Pos} {id : String} {c : List D → Option D} {f : Ev → Option (List D)} (hc : CaD X (.type id) c) (hg : Gl X x) (hm : X.mg x = none) (hv : bootBuiltins x = some (.type id)) (ha : NA X vs (e :: es) f) (hn : x ≠ "__name__" := by decide) (hdb : (x == ("__debug__" : Str)) = false := by decide)
    (he : starEach (e :: es) X.env = (false, eval e X.env) :: starEach es X.env := by rfl) (hpl : (backTo pos (starEach es X.env)).any (·.1) = false := by rfl) : NE X vs (.Call (.Name x p) (e :: es) [] pos) (nCa c f) :=
  ⟨(pe_callTy hc.run hg hm hv ha.pa hn hdb he hpl).imp fun σ H Q ⟨F, os, ρ, d, R, e, k⟩ => by
    obtain ⟨ds, e1, e2⟩ := Option.bind_eq_some_iff.mp e
    exact ⟨F, os, ρ, ds, R, e1, fun xs H1 F1 s1 q1 => ⟨_, ds, d, q1, e2, k _ H1 F1 s1 (R1.of (hc.sc _ _ e2))⟩⟩⟩
theorem Rs.one_inv {K : PySem.W.Frag} {G : AS} {H : Hp} {xs : List V} {d : D} (r : Rs K G H xs [d] 0 []) : ∃ x, xs = [x] ∧ R1 K G H x d 0 [] := by
  cases xs with
  | nil => cases r
  | cons x xs =>
    obtain ⟨L1, L2, eL, r1, r2⟩ := r.cons_inv
    obtain ⟨rfl, rfl⟩ : L1 = [] ∧ L2 = [] := by simpa using eL.symm
    cases r2
    exact ⟨x, rfl, r1⟩
theorem Rs.two_inv {K : PySem.W.Frag} {G : AS} {H : Hp} {xs : List V} {d d' : D} (r : Rs K G H xs [d, d'] 0 []) : ∃ x y, xs = [x, y] ∧ R1 K G H x d 0 [] ∧ R1 K G H y d' 0 [] := by
  cases xs with
  | nil => cases r
  | cons x xs =>
    obtain ⟨L1, L2, eL, r1, r2⟩ := r.cons_inv
    obtain ⟨rfl, rfl⟩ : L1 = [] ∧ L2 = [] := by simpa using eL.symm
    obtain ⟨y, rfl, r3⟩ := Rs.one_inv r2
    exact ⟨x, y, rfl, r1, r3⟩
def cLen : List D → Option D
  | [.lst xs] => some (.int xs.length)
  | [.frl xs] => some (.int xs.length)
  | [.tup xs] => some (.int xs.length)
  | [.dic ks _] => some (.int ks.length)
  | [.str x] => if x.length ≤ sizeLine then some (.int x.length) else none
  | _ => none
theorem ca_len : CaD X (.builtin "len") cLen where
  run := fun pins s σ H xs us Q I r ⟨G, ds, d, q, e, w⟩ => by
    unfold cLen at e
    split at e
    · cases e
      obtain ⟨x, rfl, q1⟩ := q.one_inv
      obtain ⟨a, ys, rfl, h, q2⟩ := q1.lst0
      exact call_len pins s σ H _ us Q I r ⟨_, _, rfl, .inl ⟨ys, h.sq, rfl⟩, by rw [q2.length]; exact w⟩
    · cases e
      obtain ⟨x, rfl, q1⟩ := q.one_inv
      obtain ⟨a, ys, rfl, h, q2⟩ := q1.frl0
      exact call_len pins s σ H _ us Q I r ⟨_, _, rfl, .inl ⟨ys, h.sq, rfl⟩, by rw [q2.length]; exact w⟩
    · cases e
      obtain ⟨x, rfl, q1⟩ := q.one_inv
      obtain ⟨a, ys, rfl, h, q2⟩ := q1.tup0
      exact call_len pins s σ H _ us Q I r ⟨_, _, rfl, .inr ⟨ys, h.sq, rfl⟩, by rw [q2.length]; exact w⟩
    · cases e
      obtain ⟨x, rfl, q1⟩ := q.one_inv
      cases q1 with
      | @dicF a kvs _ _ h1 h2 h3 h4 q9 =>
        obtain ⟨u, rfl, ru⟩ := vals1 r
        cases ru
        exact d_len I h2 fun t s' I' => ⟨.int kvs.length, H, I', ⟨t, rfl⟩, by rw [← List.length_map (f := fun kv : Key × V => kv.1), h3]; exact w⟩
    · split at e
      · rename_i hz
        cases e
        obtain ⟨x, rfl, q1⟩ := q.one_inv
        cases q1
        exact call_len pins s σ H _ us Q I r ⟨_, _, rfl, ⟨hz, rfl⟩, w⟩
      · cases e
    · cases e
  sc := fun ds d e => by
    unfold cLen at e
    split at e <;> first | (cases e; rfl) | (split at e <;> first | (cases e; rfl) | cases e) | cases e
def cInt : List D → Option D
  | [.int i] => some (.int i)
  | [.bl k] => some (.int (if k then 1 else 0))
  | _ => none
theorem ca_int : CaD X (.type "int") cInt where
  run := fun pins s σ H xs us Q I r ⟨G, ds, d, q, e, w⟩ => by
    unfold cInt at e
    split at e
    · cases e
      obtain ⟨x, rfl, q1⟩ := q.one_inv
      cases q1
      exact call_int1 pins s σ H _ us Q I r (.inl ⟨_, rfl, w⟩)
    · cases e
      obtain ⟨x, rfl, q1⟩ := q.one_inv
      cases q1
      exact call_int1 pins s σ H _ us Q I r (.inr ⟨_, rfl, w⟩)
    · cases e
  sc := fun ds d e => by unfold cInt at e; split at e <;> first | (cases e; rfl) | cases e
def cBool : List D → Option D
  | [.int i] => some (.bl (i != 0))
  | [.bl k] => some (.bl k)
  | _ => none
theorem ca_bool : CaD X (.type "bool") cBool where
  run := fun pins s σ H xs us Q I r ⟨G, ds, d, q, e, w⟩ => by
    unfold cBool at e
    split at e
    · cases e
      obtain ⟨x, rfl, q1⟩ := q.one_inv
      cases q1
      exact call_bool1 pins s σ H _ us Q I r (.inl ⟨_, rfl, w⟩)
    · cases e
      obtain ⟨x, rfl, q1⟩ := q.one_inv
      cases q1
      exact call_bool1 pins s σ H _ us Q I r (.inr ⟨_, rfl, w⟩)
    · cases e
  sc := fun ds d e => by unfold cBool at e; split at e <;> first | (cases e; rfl) | cases e
def cAbs : List D → Option D
  | [.int i] => some (.int (if i < 0 then -i else i))
  | _ => none
theorem ca_abs : CaD X (.builtin "abs") cAbs where
  run := fun pins s σ H xs us Q I r ⟨G, ds, d, q, e, w⟩ => by
    unfold cAbs at e
    split at e
    · cases e
      obtain ⟨x, rfl, q1⟩ := q.one_inv
      cases q1
      exact call_abs pins s σ H _ us Q I r ⟨_, rfl, w⟩
    · cases e
  sc := fun ds d e => by unfold cAbs at e; split at e <;> first | (cases e; rfl) | cases e
/-- isinstance(e, T), T a built-in type -/
def D.tyS : D → Option String
  | .non => some "NoneType" | .bl _ => some "bool" | .int _ => some "int" | .str _ => some "str" | .lst _ => some "list" | .frl _ => some "list" | .tup _ => some "tuple" | .dic _ _ => some "dict" | .dit _ _ => none
def cIsi (T : String) (d : D) : Option Bool := match d.tyS with
  | some n => kitB n T
  | none => none
theorem tyS_of {K : PySem.W.Frag} {G : AS} {H : Hp} {x : V} {d : D} {n : String} (r : R1 K G H x d 0 []) (h : d.tyS = some n) : TyX K H x (.type n) := by
  cases d with
  | non => cases h; cases r; exact .base .non
  | bl b => cases h; cases r; exact .base (.bl _)
  | int b => cases h; cases r; exact .base (.int _)
  | str b => cases h; cases r; exact .base (.str _)
  | lst ds =>
    cases h
    obtain ⟨a, xs, rfl, h, _⟩ := r.lst0
    exact .base (.lst h.2)
  | frl ds =>
    cases h
    obtain ⟨a, xs, rfl, h, _⟩ := r.frl0
    rcases h with ⟨_, h | ⟨o, h⟩⟩ | ⟨o, its, n, h1, h2, _⟩
    · exact .base (.lst h)
    · exact .base (.frz h)
    · exact .kList h1 h2
  | tup ds =>
    cases h
    obtain ⟨a, xs, rfl, h, _⟩ := r.tup0
    rcases h with ⟨_, h⟩ | ⟨o, its, n, h1, h2, _⟩
    · exact .base (.tup h)
    · exact .kTuple h1 h2
  | dic ks ds =>
    cases h
    cases r with
    | dicF _ h2 =>
      rcases h2 with h2 | ⟨o, h2⟩
      · exact .base (.dK h2)
      · exact .fDict h2
  | dit ks ds => cases h
def nIsi (T : String) (fa : Ev → Option D) : Ev → Option Bool := fun ρ => (fa ρ).bind (cIsi T)
theorem isi_pe {p p2 : Pos} {T : Str} {Tn : String} (hg : Gl X "isinstance") (hm : X.mg "isinstance" = none) (hgT : Gl X T) (hmT : X.mg T = none) (hvT : bootBuiltins T = some (.type Tn)) (hnT : T ≠ "__name__" := by decide) (hdT : (T == ("__debug__" : Str)) = false := by decide) (ha : NE X vs a fa)
    (he : starEach [a, .Name T p2] X.env = (false, eval a X.env) :: starEach [.Name T p2] X.env := by rfl) (he2 : starEach [.Name T p2] X.env = (false, eval (.Name T p2) X.env) :: starEach [] X.env := by rfl) (hpl : (backTo pos (starEach [.Name T p2] X.env)).any (·.1) = false := by rfl) :
    PE X (.Call (.Name "isinstance" p) [a, .Name T p2] [] pos) (fun σ H Q => ∃ F os ρ b, Rl X.K F os ρ σ H ∧ nIsi Tn fa ρ = some b ∧ ∀ H' F', Ext F H F' H' → Q (.bl b) H') :=
  (pe_callB call_isi hg hm (by decide +kernel) (pa_cons ha.pe (pa_cons (pe_bltn hgT hmT hvT (v := .ty Tn) rfl hnT hdT) pa_nil he2) he) (by decide) (by decide) he hpl).imp fun σ H Q ⟨F, os, ρ, b, R, e, k⟩ => by
    obtain ⟨x, e1, e2⟩ := Option.bind_eq_some_iff.mp e
    refine ⟨F, os, ρ, x, R, e1, fun v1 H1 F1 s1 q1 => ⟨v1, .ty Tn, ?_⟩⟩
    unfold cIsi at e2
    split at e2
    · rename_i n hn
      exact ⟨_, _, b, rfl, .ty Tn, tyS_of q1 hn, kit_ty e2, k H1 F1 s1⟩
    · cases e2
theorem ne_isi {p p2 : Pos} {T : Str} {Tn : String} (hg : Gl X "isinstance") (hm : X.mg "isinstance" = none) (hgT : Gl X T) (hmT : X.mg T = none) (hvT : bootBuiltins T = some (.type Tn)) (ha : NE X vs a fa) (hnT : T ≠ "__name__" := by decide) (hdT : (T == ("__debug__" : Str)) = false := by decide)
    (he : starEach [a, .Name T p2] X.env = (false, eval a X.env) :: starEach [.Name T p2] X.env := by rfl) (he2 : starEach [.Name T p2] X.env = (false, eval (.Name T p2) X.env) :: starEach [] X.env := by rfl) (hpl : (backTo pos (starEach [.Name T p2] X.env)).any (·.1) = false := by rfl) :
    NE X vs (.Call (.Name "isinstance" p) [a, .Name T p2] [] pos) (fun ρ => (nIsi Tn fa ρ).map .bl) :=
  ⟨(isi_pe hg hm hgT hmT hvT hnT hdT ha he he2 hpl).imp fun σ H Q ⟨F, os, ρ, d, R, e, k⟩ => by
    obtain ⟨b, e1, rfl⟩ := Option.map_eq_some_iff.mp e
    exact ⟨F, os, ρ, b, R, e1, fun H1 F1 s1 => k _ H1 F1 s1 (.bl b)⟩⟩
/-- a call, a subscript .. as a test: its value is a bool -/
theorem nt_val (ha : NE X vs a fa) (he : ∀ whole, isTrue a X.env whole = (do let v ← whole; standAt a.pos; holding [v] (truthy v)) := by intro _; rfl) : NT X a (nBool fa) :=
  ⟨(pt_val ha.pe he).imp fun σ H Q ⟨F, os, ρ, b, R, e, k⟩ => ⟨F, os, ρ, .bl b, R, nBool_some e, fun v1 H1 F1 s1 q1 => by
    cases q1
    exact ⟨b, rfl, k H1 F1 s1⟩⟩⟩

/-! ### subscripts -/
def kD : Key → D
  | .inl i => .int i
  | .inr x => .str x
def D.key : D → Option Key
  | .int i => some (.inl i)
  | .str x => some (.inr x)
  | _ => none
def keysOf : List D → Option (List Key)
  | [] => some []
  | d :: ds => match d.key, keysOf ds with
    | some k, some ks => some (k :: ks)
    | _, _ => none
def D.tkey : D → Option (List Key)
  | .tup ds => keysOf ds
  | _ => none
def dfind {κ : Type} [DecidableEq κ] : List κ → List D → κ → Option D
  | k :: ks, d :: ds, j => if k = j then some d else dfind ks ds j
  | _, _, _ => none
def bIx : D → D → Option D
  | .lst xs, .int i => atI xs i
  | .frl xs, .int i => atI xs i
  | .tup xs, .int i => atI xs i
  | .str z, .int i => if z.length ≤ sizeLine then (atI z.cps.toList i).map fun c => .str ⟨#[c]⟩ else none
  | .dic ks ds, j => j.key.bind (dfind ks ds)
  | _, _ => none
theorem atI_rs {K : PySem.W.Frag} {G : AS} {H : Hp} {xs : List V} {ds : List D} {i : Int} {d : D} (r : Rs K G H xs ds 0 []) (h : atI ds i = some d) : ∃ v, atI xs i = some v ∧ R1 K G H v d 0 [] := by
  unfold atI at h ⊢
  obtain ⟨j, e1, e2⟩ := Option.bind_eq_some_iff.mp h
  obtain ⟨v, e3, q⟩ := r.get0 e2
  exact ⟨v, by rw [r.length, e1]; exact e3, q⟩
theorem key_rel {d : D} {k : Key} (h : d.key = some k) : d.isS = true ∧ d.toV = kV k := by
  cases d <;> first | (cases h; exact ⟨rfl, rfl⟩) | cases h
theorem keysOf_rel {K : PySem.W.Frag} {G : AS} {H : Hp} : ∀ {ds : List D} {ks : List Key} {xs : List V}, Rs K G H xs ds 0 [] → keysOf ds = some ks → xs = ks.map kV
  | [], ks, xs, r, h => by cases h; cases r; rfl
  | d :: ds, ks, xs, r, h => by
    unfold keysOf at h
    split at h
    · rename_i k ks' e1 e2
      cases h
      cases xs with
      | nil => cases r
      | cons x xs =>
        obtain ⟨L1, L2, eL, r1, r2⟩ := r.cons_inv
        obtain ⟨rfl, rfl⟩ : L1 = [] ∧ L2 = [] := by simpa using eL.symm
        obtain ⟨hs, ht⟩ := key_rel e1
        rw [(r1.scal hs).1, ht, keysOf_rel r2 e2]
        rfl
    · cases h
theorem dfind_val {κ : Type} [DecidableEq κ] {K : PySem.W.Frag} {G : AS} {H : Hp} : ∀ {kvs : List (κ × V)} {ds : List D} (k : κ), Rs K G H (kvs.map (·.2)) ds 0 [] → match dfind (kvs.map (·.1)) ds k with
    | some d => ∃ v, valV kvs k = some v ∧ R1 K G H v d 0 []
    | none => valV kvs k = none
  | [], ds, k, r => by cases r; rfl
  | p :: kvs, ds, k, r => by
    cases ds with
    | nil => cases r
    | cons d ds =>
      obtain ⟨L1, L2, eL, r1, r2⟩ := r.cons_inv
      obtain ⟨rfl, rfl⟩ : L1 = [] ∧ L2 = [] := by simpa using eL.symm
      have ih := dfind_val (kvs := kvs) k r2
      show match (if p.1 = k then some d else dfind (kvs.map (·.1)) ds k) with | some d => _ | none => _
      by_cases e : p.1 = k
      · rw [if_pos e]
        exact ⟨p.2, valV_pos e, r1⟩
      · rw [if_neg e]
        rw [valV_neg e]
        exact ih
theorem dget_of {K : PySem.W.Frag} {G : AS} {H : Hp} {v w : V} {ks : List Key} {ds : List D} {y d : D} (r1 : R1 K G H v (.dic ks ds) 0 []) (r2 : R1 K G H w y 0 []) (h : bIx (.dic ks ds) y = some d) : ∃ a z, v = .ref a ∧ DGet H a w (some z) ∧ R1 K G H z d 0 [] := by
  obtain ⟨k, e1, e2⟩ := Option.bind_eq_some_iff.mp (show y.key.bind (dfind ks ds) = some d from h)
  cases r1 with
  | dicF f1 f2 f3 f4 q =>
    rename_i a kvs
    subst f3
    have z := dfind_val k q
    rw [e2] at z
    obtain ⟨u, e3, q'⟩ := z
    obtain ⟨hs, ht⟩ := key_rel e1
    exact ⟨a, u, rfl, .inl ⟨kvs, k, f2, by rw [(r2.scal hs).1, ht], e3.symm⟩, q'⟩
/-- a[c]: a list, a tuple, a text by places; a dict by ints and texts -/
theorem ne_ix (hu : X.A.units + 1 < cLine) (ha : NE X vs a fa) (hc : NE X vs c fc) (h1 : PlainIx c := by intro _ _; rfl) (h2 : NoSl c := by intro _ _; rfl) : NE X vs (.Subscript a c pos) (nOp bIx fa fc) := by
  refine ⟨⟨fun pins s σ H Q I h => ?_⟩⟩
  obtain ⟨F, os, ρ, d, R, e, k⟩ := h
  obtain ⟨x, y, e1, e2, e3⟩ := nOp_some e
  by_cases hx : ∃ ks ds, x = .dic ks ds
  · obtain ⟨ks, ds, rfl⟩ := hx
    refine (pe_dget hu ha.pe hc.pe h2).run pins s σ H Q I ⟨F, os, ρ, _, R, e1, fun v1 H1 F1 s1 q1 => ⟨F1, os, ρ, y, R.ext0 s1, e2, fun v2 H2 F2 s2 q2 => ?_⟩⟩
    obtain ⟨p, z, hp, g, q⟩ := dget_of (q1.ne s2) q2 e3
    exact ⟨p, z, hp, g, k z H2 F2 (s1.trans s2) q⟩
  · refine (pe_ix ix_seq ha.pe hc.pe h1).run pins s σ H Q I ⟨F, os, ρ, x, R, e1, fun v1 H1 F1 s1 q1 => ⟨F1, os, ρ, y, R.ext0 s1, e2, fun v2 H2 F2 s2 q2 => ?_⟩⟩
    have q1 := q1.ne s2
    unfold bIx at e3
    split at e3
    · obtain ⟨a, xs, rfl, h, q⟩ := R1.lst0 q1
      cases q2
      obtain ⟨v, ev, qv⟩ := atI_rs q e3
      exact .inl ⟨a, xs, _, v, rfl, rfl, h.sq, ev, k v H2 F2 (s1.trans s2) qv⟩
    · obtain ⟨a, xs, rfl, h, q⟩ := R1.frl0 q1
      cases q2
      obtain ⟨v, ev, qv⟩ := atI_rs q e3
      exact .inl ⟨a, xs, _, v, rfl, rfl, h.sq, ev, k v H2 F2 (s1.trans s2) qv⟩
    · obtain ⟨a, xs, rfl, h, q⟩ := R1.tup0 q1
      cases q2
      obtain ⟨v, ev, qv⟩ := atI_rs q e3
      exact .inr (.inl ⟨a, xs, _, v, rfl, rfl, h.sq, ev, k v H2 F2 (s1.trans s2) qv⟩)
    · split at e3
      · rename_i hz
        obtain ⟨c, ec, rfl⟩ := Option.map_eq_some_iff.mp e3
        cases q1
        cases q2
        exact .inr (.inr ⟨_, _, c, rfl, rfl, hz, ec, k _ H2 F2 (s1.trans s2) (.str _)⟩)
      · cases e3
    · exact absurd ⟨_, _, rfl⟩ hx
    · cases e3
end
end Dv
/-! DvF: expressions that may change the state, statements, calls of defs. -/
namespace Dv
open PySem PySem.Spec PyProof.Rows L2

def upo (os : Nat → List Addr) (i : Nat) (L : List Addr) : Nat → List Addr := fun j => if j = i then L else os j
theorem upo_same {os : Nat → List Addr} {i : Nat} {L : List Addr} : upo os i L i = L := if_pos rfl
theorem upo_ne {os : Nat → List Addr} {i j : Nat} {L : List Addr} (h : j ≠ i) : upo os i L j = os j := if_neg h
theorem upo_mem {os : Nat → List Addr} {i j : Nat} {L : List Addr} {a : Addr} (h : a ∈ upo os i L j) : (j = i ∧ a ∈ L) ∨ (j ≠ i ∧ a ∈ os j) := by
  by_cases e : j = i
  · subst e; rw [upo_same] at h; exact .inl ⟨rfl, h⟩
  · rw [upo_ne e] at h; exact .inr ⟨e, h⟩
section
variable {K : PySem.W.Frag} {F F' : AS} {H H' : Hp} {os os' : Nat → List Addr} {ρ ρ' : Ev} {σ : L2.St} {i : Nat} {v : V} {d : D} {n : Nat} {L : List Addr} {O : AS}
theorem Rl.kill (r : Rl K F os ρ σ H) (i : Nat) : Rl K F (upo os i []) (ρ.set i none) σ H where
  dom := r.dom
  slot := fun j d n e => by
    by_cases h : j = i
    · subst h
      rw [List.getElem?_set] at e
      simp only [if_true] at e
      split at e <;> cases e
    · rw [List.getElem?_set_ne (Ne.symm h)] at e
      rw [upo_ne h]
      exact r.slot j d n e
  off := fun j h => by
    by_cases e : j = i
    · subst e; exact upo_same
    · rw [upo_ne e]
      exact r.off j fun d n q => h d n (by rw [List.getElem?_set_ne (Ne.symm e)]; exact q)
  nd := fun j => by
    by_cases e : j = i
    · subst e; rw [upo_same]; exact List.nodup_nil
    · rw [upo_ne e]; exact r.nd j
  dj := fun j k a h1 h2 => by
    rcases upo_mem h1 with ⟨_, h1⟩ | ⟨_, h1⟩
    · exact nomatch h1
    · rcases upo_mem h2 with ⟨_, h2⟩ | ⟨_, h2⟩
      · exact nomatch h2
      · exact r.dj j k a h1 h2
  len := by rw [List.length_set]; exact r.len
/-- a slot's value stored: σ too -/
theorem Rl.store (r : Rl K F os ρ σ H) (hi : i < ρ.length) (q : R1 K F H v d n L) (nd : L.Nodup) (dj : ∀ a ∈ L, ∀ j, a ∉ os j) : Rl K F (upo os i L) (ρ.set i (some (d, n))) (σ.set i (some v)) H where
  dom := r.dom
  slot := fun j d' n' e => by
    by_cases h : j = i
    · subst h
      rw [List.getElem?_set_self hi] at e
      cases e
      rw [upo_same]
      exact ⟨v, List.getElem?_set_self (by rw [← r.len]; exact hi), q⟩
    · rw [List.getElem?_set_ne (Ne.symm h)] at e
      rw [upo_ne h]
      obtain ⟨w, e1, q1⟩ := r.slot j d' n' e
      exact ⟨w, by rw [List.getElem?_set_ne (Ne.symm h)]; exact e1, q1⟩
  off := fun j h => by
    by_cases e : j = i
    · subst e; exact absurd (List.getElem?_set_self hi) (h d n)
    · rw [upo_ne e]
      exact r.off j fun d n q => h d n (by rw [List.getElem?_set_ne (Ne.symm e)]; exact q)
  nd := fun j => by
    by_cases e : j = i
    · subst e; rw [upo_same]; exact nd
    · rw [upo_ne e]; exact r.nd j
  dj := fun j k a h1 h2 => by
    rcases upo_mem h1 with ⟨e1, h1⟩ | ⟨e1, h1⟩
    · rcases upo_mem h2 with ⟨e2, h2⟩ | ⟨e2, h2⟩
      · rw [e1, e2]
      · exact absurd h2 (dj a h1 k)
    · rcases upo_mem h2 with ⟨e2, h2⟩ | ⟨e2, h2⟩
      · exact absurd h1 (dj a h2 j)
      · exact r.dj j k a h1 h2
  len := by rw [List.length_set, List.length_set]; exact r.len
/-- .. where σ has it already -/
theorem Rl.put (r : Rl K F os ρ σ H) (hi : σ[i]? = some (some v)) (q : R1 K F H v d n L) (nd : L.Nodup) (dj : ∀ a ∈ L, ∀ j, a ∉ os j) : Rl K F (upo os i L) (ρ.set i (some (d, n))) σ H := by
  have hl : i < σ.length := (List.getElem?_eq_some_iff.mp hi).1
  have z := r.store (i := i) (by rw [r.len]; exact hl) q nd dj
  have e : σ.set i (some v) = σ := by
    refine List.ext_getElem? fun j => ?_
    by_cases h : i = j
    · subst h; rw [List.getElem?_set_self hl, hi]
    · rw [List.getElem?_set_ne h]
  rw [e] at z
  exact z
/-- more is frozen -/
theorem Rl.moreF (r : Rl K F os ρ σ H) (h1 : ∀ a, F a → F' a) (h2 : ∀ a, F' a → F a ∨ ((∃ o, H a = some o) ∧ ∀ i, a ∉ os i)) : Rl K F' os ρ σ H where
  dom := fun a z => (h2 a z).elim (r.dom a) fun z => z.1
  slot := fun i d n e => by
    obtain ⟨v, e1, q⟩ := r.slot i d n e
    refine ⟨v, e1, q.ext h1 (fun _ _ _ z => z) (fun _ _ _ z => z) fun a z w => ?_⟩
    rcases h2 a w with w | ⟨_, w⟩
    · exact q.notF a z w
    · exact w i z
  off := r.off
  nd := r.nd
  dj := r.dj
  len := r.len
theorem Step.moreF (h1 : ∀ a, F a → F' a) (h2 : ∀ a, F' a → F a ∨ (O a ∧ ∃ o, H a = some o)) {O' : AS} (h3 : ∀ a, O' a → O a) : Step F O H F' O' H :=
  ⟨h1, fun _ _ h _ => h, fun a z => .inl (h3 a z), fun a z => (h2 a z).elim .inl fun z => .inr (.inl z.1), fun _ o h => ⟨o, h⟩, fun q a z => (h2 a z).elim (q a) fun z => z.2⟩
end

section
variable {X : Cx} {vs : List Nat} {a c e : Expr} {es : List Expr} {pos : Pos}
/-! ### a new list, as it comes -/
def tNF (K : PySem.W.Frag) (vs : List Nat) (f : Ev → Option (List D)) : TE := fun σ H Q => ∃ F os ρ ds, Rl K F os ρ σ H ∧ f ρ = some ds ∧
  ∀ p xs H' F', Ext F H F' H' → H p = none → ¬ F' p → H' p = some (.lst xs) → Rs K (Gs F' os vs) H' xs ds 0 [] → Q (.ref p) H'
structure NF (X : Cx) (vs : List Nat) (e : Expr) (f : Ev → Option (List D)) : Prop where
  pe : PE X e (tNF X.K vs f)
theorem NF.ne {f : Ev → Option (List D)} (h : NF X vs e f) : NE X vs e (fun ρ => (f ρ).map .lst) := ⟨h.pe.imp fun σ H Q ⟨F, os, ρ, d, R, e, k⟩ => by
  obtain ⟨ds, e1, rfl⟩ := Option.map_eq_some_iff.mp e
  refine ⟨F, os, ρ, ds, R, e1, fun p xs H' F' s hp nF hl q => k _ H' (fun a => F' a ∨ a = p) ?_ ?_⟩
  · exact ⟨fun a z => .inl (s.mono a z), s.keep, s.own, fun a z => z.elim (s.frz a) fun e => .inr (.inr (e ▸ hp)), s.dom, fun q a z => z.elim (s.domF q a) fun e => ⟨_, e ▸ hl⟩⟩
  · exact .lstF ⟨.inl (.inr rfl), hl⟩ (q.ext (fun a z => z.elim (fun z => .inl (.inl z)) .inr) (fun _ _ _ z => z) (fun _ _ z => nomatch z) fun _ z => nomatch z)⟩

/-! ### from what changes nothing -/
def vN (vs : List Nat) (f : Ev → Option D) : Ev → Option (AV × Ev) := fun ρ => (f ρ).map fun d => if d.isS then ((d, 0), ρ) else ((d, 0), frz vs ρ)
theorem ve_ne {f : Ev → Option D} (h : NE X vs e f) : VE X e (vN vs f) := ⟨h.pe.imp fun σ H Q ⟨F, os, ρ, r, R, e, k⟩ => by
  obtain ⟨d, e1, e2⟩ := Option.map_eq_some_iff.mp e
  refine ⟨F, os, ρ, d, R, e1, fun v H' F' s q => ?_⟩
  by_cases hs : d.isS = true
  · rw [if_pos hs] at e2
    subst e2
    exact k v H' F' os [] (s.step.weak (fun _ z => z) fun a z => z.elim .inl fun z => nomatch z) (R.ext0 s) (q.up hs) List.nodup_nil fun _ z => nomatch z
  · rw [if_neg hs] at e2
    subst e2
    obtain ⟨F2, os2, R2, s2, h1, h2⟩ := frz_rl vs (R.ext0 s)
    exact k v H' F2 os2 [] ((s.step.trans s2).weak (fun _ z => z) fun a z => z.elim .inl fun z => nomatch z) R2 (q.ext h1 (fun _ _ _ z => z) (fun _ _ z => nomatch z) fun _ z => nomatch z) List.nodup_nil fun _ z => nomatch z⟩
def vF (vs : List Nat) (f : Ev → Option (List D)) : Ev → Option (AV × Ev) := fun ρ => (f ρ).map fun ds => if ds.all D.isS then ((.lst ds, 1), ρ) else ((.lst ds, 1), frz vs ρ)
theorem nf_v {K : PySem.W.Frag} {f : Ev → Option (List D)} {σ : L2.St} {H : Hp} {Q : VK} : tV K (vF vs f) σ H Q → tNF K vs f σ H Q := fun ⟨F, os, ρ, r, R, e, k⟩ => by
  obtain ⟨ds, e1, e2⟩ := Option.map_eq_some_iff.mp e
  refine ⟨F, os, ρ, ds, R, e1, fun p xs H' F' s hp nF hl q => ?_⟩
  have np : ∀ i, p ∉ os i := fun i z => by obtain ⟨o, e⟩ := R.there z; rw [hp] at e; cases e
  by_cases hs : ds.all D.isS = true
  · rw [if_pos hs] at e2
    subst e2
    obtain ⟨ex, _⟩ := q.scal (List.all_eq_true.mp hs)
    refine k (.ref p) H' F' os [p] (s.step.weak (fun _ z => z) fun a z => z.elim .inl fun z => .inr (.inr ((List.mem_singleton.mp z) ▸ hp))) (R.ext0 s) (.lstO nF hl ?_) (show [p].Nodup by simp) fun a z i w => np i ((List.mem_singleton.mp z) ▸ w)
    rw [ex]
    exact Rs.of (List.all_eq_true.mp hs)
  · rw [if_neg hs] at e2
    subst e2
    obtain ⟨F2, os2, R2, s2, h1, h2⟩ := frz_rl vs (R.ext0 s)
    have nF2 : ¬ F2 p := fun z => by
      rcases s2.frz p z with z | ⟨i, z⟩ | z
      · exact nF z
      · exact np i z
      · rw [hl] at z; cases z
    exact k (.ref p) H' F2 os2 [p] ((s.step.trans s2).weak (fun _ z => z) fun a z => z.elim .inl fun z => .inr (.inr ((List.mem_singleton.mp z) ▸ hp))) R2 (.lstO nF2 hl (q.ext h1 (fun _ _ _ z => z) (fun _ _ z => nomatch z) fun _ z => nomatch z)) (show [p].Nodup by simp) fun a z i w => np i (h2 i a w |> fun w => (List.mem_singleton.mp z) ▸ w)
theorem ve_nf {f : Ev → Option (List D)} (h : NF X vs e f) : VE X e (vF vs f) := ⟨h.pe.imp fun σ H Q z => nf_v z⟩
theorem vt_nt {f : Ev → Option Bool} (h : NT X e f) : VT X e (fun ρ => (f ρ).map fun b => (b, ρ)) := ⟨h.pt.imp fun σ H Q ⟨F, os, ρ, r, R, e, k⟩ => by
  obtain ⟨b, e1, rfl⟩ := Option.map_eq_some_iff.mp e
  exact ⟨F, os, ρ, b, R, e1, fun H' F' s => k H' F' os s.step (R.ext0 s)⟩⟩

/-! ### operators over what may change the state -/
variable {ga gc : Ev → Option (AV × Ev)}
def vOp (b : D → D → Option D) (ga gc : Ev → Option (AV × Ev)) : Ev → Option (AV × Ev) := fun ρ => (ga ρ).bind fun r => (gc r.2).bind fun r2 => (b r.1.1 r2.1.1).map fun d => ((d, 0), r2.2)
/-- two values, one after the other, and what is asked of them -/
theorem two_v {b : D → D → Option D} {Q : VK} {R2' : R2} (ha : VE X a ga) (hc : VE X c gc) {σ : L2.St} {H : Hp} (hs : ∀ x y d, b x y = some d → d.isS = true) {F : AS} {os : Nat → List Addr} {ρ ρ' : Ev} {d : D} {m : Nat} (R : Rl X.K F os ρ σ H) (e : vOp b ga gc ρ = some ((d, m), ρ'))
    (k : ∀ v w G H' F' os' x y, Step F (Own os) H F' (Own os') H' → Rl X.K F' os' ρ' σ H' → R1 X.K G H' v x 0 [] → R1 X.K G H' w y 0 [] → b x y = some d → R2' v w H' Q) : tOp R2' (tV X.K ga) (tV X.K gc) σ H Q := by
  obtain ⟨r, e1, e⟩ := Option.bind_eq_some_iff.mp e
  obtain ⟨r2, e2, e⟩ := Option.bind_eq_some_iff.mp e
  obtain ⟨d', e3, e⟩ := Option.map_eq_some_iff.mp e
  cases e
  refine ⟨F, os, ρ, r, R, e1, fun v1 H1 F1 os1 L1 s1 R1' q1 n1 dj1 => ⟨F1, os1, r.2, r2, R1', e2, fun v2 H2 F2 os2 L2 s2 R2' q2 n2 dj2 => ?_⟩⟩
  refine k v1 v2 (fun a => F2 a ∨ a ∈ L1 ∨ a ∈ L2) H2 F2 os2 _ _ ?_ R2' ((q1.tmp R1' dj1 s2).freeze (fun _ z => .inl z) fun _ z => .inr (.inl z)) (q2.freeze (fun _ z => .inl z) fun _ z => .inr (.inr z)) e3
  exact s1.trans (s2.weak (fun _ z => .inl z) fun a z => .inl (.inl z))
theorem ve_op {op : Operator} {b : D → D → Option D} (ho : OpD X (binaryOp op) b) (ha : VE X a ga) (hc : VE X c gc) : VE X (.BinOp a op c pos) (vOp b ga gc) :=
  ⟨(pe_op ho.run ha.pe hc.pe).imp fun σ H Q ⟨F, os, ρ, ⟨⟨d, m⟩, ρ'⟩, R, e, k⟩ => two_v ha hc ho.sc R e fun v w G H' F' os' x y s R' q1 q2 e3 =>
    ⟨G, x, y, d, q1, q2, e3, k _ H' F' os' [] (s.weak (fun _ z => z) fun a z => z.elim .inl fun z => nomatch z) R' (R1.of (ho.sc _ _ _ e3)) List.nodup_nil fun _ z => nomatch z⟩⟩
theorem ve_cmp {op : CmpOp} {q : D → D → Option Bool} (ho : CmD X op q) (ha : VE X a ga) (hc : VE X c gc) (hm : behindInMarks op c = false := by first | exact nobehind _ (by decide) (by decide) | rfl) : VE X (.Compare a [op] [c] pos) (vOp (cB q) ga gc) :=
  ⟨(pe_cmpR ho.run ha.pe hc.pe hm).imp fun σ H Q ⟨F, os, ρ, ⟨⟨d, m⟩, ρ'⟩, R, e, k⟩ => two_v ha hc cB_sc R e fun v w G H' F' os' x y s R' q1 q2 e3 =>
    ⟨G, x, y, d, q1, q2, e3, k _ H' F' os' [] (s.weak (fun _ z => z) fun a z => z.elim .inl fun z => nomatch z) R' (R1.of (cB_sc _ _ _ e3)) List.nodup_nil fun _ z => nomatch z⟩⟩
def vtCmp (q : D → D → Option Bool) (ga gc : Ev → Option (AV × Ev)) : Ev → Option (Bool × Ev) := fun ρ => (ga ρ).bind fun r => (gc r.2).bind fun r2 => (q r.1.1 r2.1.1).map fun d => (d, r2.2)
theorem vt_cmp {op : CmpOp} {q : D → D → Option Bool} (ho : CmD X op q) (ha : VE X a ga) (hc : VE X c gc) (hm : behindInMarks op c = false := by first | exact nobehind _ (by decide) (by decide) | rfl) : VT X (.Compare a [op] [c] pos) (vtCmp q ga gc) :=
  ⟨(pt_cmpR ho.run ha.pe hc.pe hm).imp fun σ H Q ⟨F, os, ρ, r, R, e, k⟩ => by
    obtain ⟨r1, e1, e⟩ := Option.bind_eq_some_iff.mp e
    obtain ⟨r2, e2, e⟩ := Option.bind_eq_some_iff.mp e
    obtain ⟨b, e3, e⟩ := Option.map_eq_some_iff.mp e
    subst e
    have e0 : vOp (cB q) ga gc ρ = some ((.bl b, 0), r2.2) := by
      unfold vOp
      rw [e1]
      show (gc r1.2).bind _ = _
      rw [e2]
      show (cB q r1.1.1 r2.1.1).map _ = _
      unfold cB
      rw [e3]
      rfl
    exact two_v (b := cB q) ha hc cB_sc R e0 fun v w G H' F' os' x y s R' q1 q2 e4 => ⟨G, x, y, .bl b, q1, q2, e4, b, rfl, k H' F' os' s R'⟩⟩
/-- a value that is a bool, as a test -/
theorem vt_val {g : Ev → Option (AV × Ev)} (ha : VE X a g) (he : ∀ whole, isTrue a X.env whole = (do let v ← whole; standAt a.pos; holding [v] (truthy v)) := by intro _; rfl) : VT X a (fun ρ => (g ρ).bind fun r => match r.1.1 with | .bl b => some (b, r.2) | _ => none) :=
  ⟨(pt_val ha.pe he).imp fun σ H Q ⟨F, os, ρ, r, R, e, k⟩ => by
    obtain ⟨⟨⟨d, m⟩, ρ'⟩, e1, e2⟩ := Option.bind_eq_some_iff.mp e
    cases d <;> first | (cases e2; done) | skip
    cases e2
    refine ⟨F, os, ρ, _, R, e1, fun v H' F' os' Lv s R' q _ _ => ?_⟩
    obtain ⟨e3, rfl⟩ := R1.scal rfl q
    subst e3
    exact ⟨_, rfl, k H' F' os' (s.weak (fun _ z => z) fun a z => .inl (.inl z)) R'⟩⟩
def vtAnd (t u : Ev → Option (Bool × Ev)) : Ev → Option (Bool × Ev) := fun ρ => (t ρ).bind fun r => if r.1 then u r.2 else some (false, r.2)
def vtOr (t u : Ev → Option (Bool × Ev)) : Ev → Option (Bool × Ev) := fun ρ => (t ρ).bind fun r => if r.1 then some (true, r.2) else u r.2
def vtNot (t : Ev → Option (Bool × Ev)) : Ev → Option (Bool × Ev) := fun ρ => (t ρ).map fun r => (!r.1, r.2)
variable {t u : Ev → Option (Bool × Ev)} {rest : List Expr}
theorem vw_and1 (h : VT X a t) : VW X (.BoolOp .And [a] pos) t := ⟨pw_and1 h.pt⟩
theorem vw_or1 (h : VT X a t) : VW X (.BoolOp .Or [a] pos) t := ⟨pw_or1 h.pt⟩
theorem vw_and (h : VT X a t) (h2 : VW X (.BoolOp .And (c :: rest) pos) u) : VW X (.BoolOp .And (a :: c :: rest) pos) (vtAnd t u) :=
  ⟨(pw_and h.pt h2.pw).imp fun σ H Q ⟨F, os, ρ, b, R, e, k⟩ => by
    obtain ⟨⟨x, ρ1⟩, e1, e2⟩ := Option.bind_eq_some_iff.mp e
    refine ⟨F, os, ρ, _, R, e1, fun H1 F1 os1 s1 R1 => ?_⟩
    cases x with
    | true =>
      simp only [if_true] at e2 ⊢
      exact ⟨F1, os1, ρ1, b, R1, e2, fun H2 F2 os2 s2 R2 => k H2 F2 os2 (s1.trans s2) R2⟩
    | false =>
      simp only [Bool.false_eq_true, if_false] at e2 ⊢
      cases e2
      exact k H1 F1 os1 s1 R1⟩
theorem vw_or (h : VT X a t) (h2 : VW X (.BoolOp .Or (c :: rest) pos) u) : VW X (.BoolOp .Or (a :: c :: rest) pos) (vtOr t u) :=
  ⟨(pw_or h.pt h2.pw).imp fun σ H Q ⟨F, os, ρ, b, R, e, k⟩ => by
    obtain ⟨⟨x, ρ1⟩, e1, e2⟩ := Option.bind_eq_some_iff.mp e
    refine ⟨F, os, ρ, _, R, e1, fun H1 F1 os1 s1 R1 => ?_⟩
    cases x with
    | true =>
      simp only [if_true] at e2 ⊢
      cases e2
      exact k H1 F1 os1 s1 R1
    | false =>
      simp only [Bool.false_eq_true, if_false] at e2 ⊢
      exact ⟨F1, os1, ρ1, b, R1, e2, fun H2 F2 os2 s2 R2 => k H2 F2 os2 (s1.trans s2) R2⟩⟩
theorem vt_not (h : VT X a t) : VT X (.UnaryOp .Not a pos) (vtNot t) := ⟨(pt_not h.pt).imp fun σ H Q ⟨F, os, ρ, b, R, e, k⟩ => by
    obtain ⟨x, e1, rfl⟩ := Option.map_eq_some_iff.mp e
    exact ⟨F, os, ρ, x, R, e1, fun H1 F1 os1 s1 R1 => k H1 F1 os1 s1 R1⟩⟩
def vIf (t : Ev → Option (Bool × Ev)) (ga gc : Ev → Option (AV × Ev)) : Ev → Option (AV × Ev) := fun ρ => (t ρ).bind fun r => if r.1 then ga r.2 else gc r.2
theorem ve_if (ht : VT X e t) (ha : VE X a ga) (hc : VE X c gc) : VE X (.IfExp e a c pos) (vIf t ga gc) :=
  ⟨(pe_ifExp ht.pt ha.pe hc.pe).imp fun σ H Q ⟨F, os, ρ, d, R, e, k⟩ => by
    obtain ⟨⟨x, ρ1⟩, e1, e2⟩ := Option.bind_eq_some_iff.mp e
    refine ⟨F, os, ρ, _, R, e1, fun H1 F1 os1 s1 R1 => ?_⟩
    cases x with
    | true =>
      simp only [if_true] at e2 ⊢
      exact ⟨F1, os1, ρ1, d, R1, e2, fun v2 H2 F2 os2 L2 s2 R2 q n dj => k v2 H2 F2 os2 L2 (s1.trans s2) R2 q n dj⟩
    | false =>
      simp only [Bool.false_eq_true, if_false] at e2 ⊢
      exact ⟨F1, os1, ρ1, d, R1, e2, fun v2 H2 F2 os2 L2 s2 R2 q n dj => k v2 H2 F2 os2 L2 (s1.trans s2) R2 q n dj⟩⟩
end
end Dv
/-! DvG: displays, statements, calls of defs, the promise of a def. -/
namespace Dv
open PySem PySem.Spec PyProof.Rows L2

section
variable {X : Cx} {vs : List Nat} {a c e : Expr} {es : List Expr} {pos : Pos}
/-! ### displays that are read alone -/
theorem ne_tup {k} {f : Ev → Option (List D)} (h : NA X vs es f) : NE X vs (.Tuple es k pos) (fun ρ => (f ρ).bind fun ds => if ds.length ≤ sizeLine then some (.tup ds) else none) := ⟨(pe_tup h.pa).imp fun σ H Q ⟨F, os, ρ, d, R, e, k⟩ => by
  obtain ⟨ds, e1, e2⟩ := Option.bind_eq_some_iff.mp e
  split at e2
  · rename_i hz
    cases e2
    refine ⟨F, os, ρ, ds, R, e1, fun xs H1 F1 s1 q1 => ⟨by rw [q1.length]; exact hz, fun p hp => k _ _ (fun a => F1 a ∨ a = p) (s1.trans (Step.allocF hp)) ?_⟩⟩
    refine .tupF (.inl ⟨.inl (.inr rfl), upd_same⟩) (q1.ext (fun a z => z.elim (fun z => .inl (.inl z)) .inr) (fun a o _ h => by rw [upd_ne (ne_of_none h hp)]; exact h) (fun _ _ z => nomatch z) fun _ z => nomatch z)
  · cases e2⟩
theorem nf_lst {f : Ev → Option (List D)} (h : NA X vs es f) : NF X vs (.List es pos) (fun ρ => (f ρ).bind fun ds => if ds.length ≤ sizeLine then some ds else none) := ⟨(pe_lst h.pa).imp fun σ H Q ⟨F, os, ρ, d, R, e, k⟩ => by
  obtain ⟨ds, e1, e2⟩ := Option.bind_eq_some_iff.mp e
  split at e2
  · rename_i hz
    cases e2
    refine ⟨F, os, ρ, _, R, e1, fun xs H1 F1 s1 q1 => ⟨by rw [q1.length]; exact hz, fun p hp => k p xs _ F1 (s1.trans (Step.alloc hp)) ?_ ?_ upd_same ?_⟩⟩
    · cases q : H p with
      | none => rfl
      | some o => obtain ⟨o', e'⟩ := s1.dom p o q; rw [hp] at e'; cases e'
    · intro z
      obtain ⟨o, e⟩ := s1.domF R.dom p z
      rw [hp] at e; cases e
    · exact q1.ext (fun _ z => z) (fun a o _ h => by rw [upd_ne (ne_of_none h hp)]; exact h) (fun _ _ z => nomatch z) fun _ z => nomatch z
  · cases e2⟩

/-! ### values in a row that may change the state, each one's own down to n -/
def tVA (K : PySem.W.Frag) (n : Nat) (f : Ev → Option (List D × Ev)) : TA := fun σ H Q => ∃ F os ρ r, Rl K F os ρ σ H ∧ f ρ = some r ∧
  ∀ xs H' F' os' Lv, Step F (Own os) H F' (fun a => Own os' a ∨ a ∈ Lv) H' → Rl K F' os' r.2 σ H' → Rs K F' H' xs r.1 n Lv → Lv.Nodup → (∀ a ∈ Lv, ∀ i, a ∉ os' i) → Q xs H'
structure VA (X : Cx) (n : Nat) (es : List Expr) (f : Ev → Option (List D × Ev)) : Prop where
  pa : PA X es (tVA X.K n f)
def vaNil : Ev → Option (List D × Ev) := fun ρ => some ([], ρ)
/-- a value fits at depth n -/
def fit (n : Nat) (a : AV) : Bool := a.1.isS || decide (n ≤ a.2)
def vaCons (n : Nat) (g : Ev → Option (AV × Ev)) (f : Ev → Option (List D × Ev)) : Ev → Option (List D × Ev) := fun ρ => (g ρ).bind fun r => if fit n r.1 then (f r.2).map fun r2 => (r.1.1 :: r2.1, r2.2) else none
theorem va_nil {n : Nat} : VA X n [] vaNil := ⟨pa_nil.imp fun σ H Q ⟨F, os, ρ, r, R, e, k⟩ => by
  cases e
  exact k [] H F os [] (Step.refl.weak (fun _ z => z) fun a z => z.elim .inl fun z => nomatch z) R .nil List.nodup_nil fun _ z => nomatch z⟩
/-- a value made to fit -/
theorem fit_st {K : PySem.W.Frag} {F : AS} {H : Hp} {os : Nat → List Addr} {ρ : Ev} {σ : L2.St} {v : V} {av : AV} {L : List Addr} {n : Nat} (hf : fit n av = true) (R : Rl K F os ρ σ H) (q : R1 K F H v av.1 av.2 L) (nd : L.Nodup) (dj : ∀ a ∈ L, ∀ i, a ∉ os i) :
    ∃ F' L', Step F (fun a => Own os a ∨ a ∈ L) H F' (fun a => Own os a ∨ a ∈ L') H ∧ Rl K F' os ρ σ H ∧ R1 K F' H v av.1 n L' ∧ L'.Nodup ∧ ∀ a ∈ L', ∀ i, a ∉ os i := by
  by_cases hs : av.1.isS = true
  · exact ⟨F, [], Step.refl.weak (fun _ z => z) (fun a z => z.elim (fun z => .inl (.inl z)) fun z => (nomatch z)), R, q.up hs, List.nodup_nil, fun _ z => (nomatch z)⟩
  · have hn : n ≤ av.2 := by
      unfold fit at hf
      rw [Bool.or_eq_true] at hf
      exact hf.elim (fun z => absurd z hs) of_decide_eq_true
    obtain ⟨L', s, q'⟩ := q.lower n hn nd
    refine ⟨_, L', Step.moreF (fun _ z => .inl z) (fun a z => ?_) (fun a z => ?_), R.moreF (fun _ z => .inl z) fun a z => ?_, q', nd.sublist s, fun a z => dj a (s.subset z)⟩
    · rcases z with z | ⟨z, _⟩
      · exact .inl z
      · exact .inr ⟨.inr z, q.there a z⟩
    · exact z.elim .inl fun z => .inr (s.subset z)
    · rcases z with z | ⟨z, _⟩
      · exact .inl z
      · exact .inr ⟨q.there a z, dj a z⟩
theorem va_cons {n : Nat} {g : Ev → Option (AV × Ev)} {f : Ev → Option (List D × Ev)} (h : VE X e g) (h2 : VA X n es f) (hs : starEach (e :: es) X.env = (false, eval e X.env) :: starEach es X.env := by rfl) : VA X n (e :: es) (vaCons n g f) :=
  ⟨(pa_cons h.pe h2.pa hs).imp fun σ H Q ⟨F, os, ρ, r, R, e, k⟩ => by
    obtain ⟨⟨av, ρ1⟩, e1, e2⟩ := Option.bind_eq_some_iff.mp e
    split at e2
    · rename_i hf
      obtain ⟨r2, e3, rfl⟩ := Option.map_eq_some_iff.mp e2
      refine ⟨F, os, ρ, _, R, e1, fun v1 H1 F1 os1 L1 s1 R1' q1 n1 dj1 => ?_⟩
      obtain ⟨F1', L1', s1', R1'', q1', n1', dj1'⟩ := fit_st hf R1' q1 n1 dj1
      refine ⟨F1', os1, ρ1, r2, R1'', e3, fun v2 H2 F2 os2 L2 s2 R2' q2 n2 dj2 => ?_⟩
      have q1f := q1'.tmp R1'' dj1' s2
      have far : ∀ a ∈ L1', ¬ (Own os2 a ∨ a ∈ L2) := fun a z w => by
        rcases s2.own a w with ⟨i, w⟩ | w
        · exact dj1' a z i w
        · obtain ⟨o, e⟩ := q1'.there a z; rw [w] at e; cases e
      refine k (v1 :: v2) H2 F2 os2 (L1' ++ L2) ?_ R2' (.cons q1f q2 rfl) (List.nodup_append.mpr ⟨n1', n2, fun a z b w e => far a z (.inr (e ▸ w))⟩) fun a z i w => ?_
      · refine (s1.trans s1').trans ((s2.add (fun a => a ∈ L1') fun a z => q1'.there a z).weak (fun _ z => z) fun a z => .inl ?_)
        rcases z with z | z
        · exact .inl (.inl z)
        · exact (List.mem_append.mp z).elim .inr fun z => .inl (.inr z)
      · rcases List.mem_append.mp z with z | z
        · exact far a z (.inl ⟨i, w⟩)
        · exact dj2 a z i w
    · cases e2⟩
/-- a list of one's own, its items down to n -/
def vLst (n : Nat) (f : Ev → Option (List D × Ev)) : Ev → Option (AV × Ev) := fun ρ => (f ρ).bind fun r => if r.1.length ≤ sizeLine then some ((.lst r.1, n + 1), r.2) else none
theorem ve_lst (n : Nat) {f : Ev → Option (List D × Ev)} (h : VA X n es f) : VE X (.List es pos) (vLst n f) := ⟨(pe_lst h.pa).imp fun σ H Q ⟨F, os, ρ, r, R, e, k⟩ => by
  obtain ⟨⟨ds, ρ1⟩, e1, e2⟩ := Option.bind_eq_some_iff.mp e
  split at e2
  · rename_i hz
    cases e2
    refine ⟨F, os, ρ, _, R, e1, fun xs H1 F1 os1 L1 s1 R1' q1 n1 dj1 => ⟨by rw [q1.length]; exact hz, fun p hp => ?_⟩⟩
    have nF : ¬ F1 p := fun z => by obtain ⟨o, e⟩ := R1'.dom p z; rw [hp] at e; cases e
    have nO : ∀ i, p ∉ os1 i := fun i z => by obtain ⟨o, e⟩ := R1'.there z; rw [hp] at e; cases e
    have nL : p ∉ L1 := fun z => by obtain ⟨o, e⟩ := q1.there p z; rw [hp] at e; cases e
    have al : Ext F1 H1 F1 (upd H1 p (.lst xs)) := Step.alloc hp
    refine k (.ref p) _ F1 os1 (p :: L1) (s1.trans (al.weak (fun _ z => z.elim) fun a z => ?_)) (R1'.ext0 al) (.lstO nF upd_same (q1.ext (fun _ z => z) (fun a o _ h => by rw [upd_ne (ne_of_none h hp)]; exact h) (fun a o _ h => by rw [upd_ne (ne_of_none h hp)]; exact h) q1.notF)) (List.nodup_cons.mpr ⟨nL, n1⟩) fun a z i w => ?_
    · rcases z with z | z
      · exact .inr (.inl (.inl z))
      · rcases List.mem_cons.mp z with rfl | z
        · exact .inr (.inr hp)
        · exact .inr (.inl (.inr z))
    · rcases List.mem_cons.mp z with rfl | z
      · exact nO i w
      · exact dj1 a z i w
  · cases e2⟩
def vTup (n : Nat) (f : Ev → Option (List D × Ev)) : Ev → Option (AV × Ev) := fun ρ => (f ρ).bind fun r => if r.1.length ≤ sizeLine then some ((.tup r.1, n + 1), r.2) else none
theorem ve_tup (n : Nat) {k} {f : Ev → Option (List D × Ev)} (h : VA X n es f) : VE X (.Tuple es k pos) (vTup n f) := ⟨(pe_tup h.pa).imp fun σ H Q ⟨F, os, ρ, r, R, e, k⟩ => by
  obtain ⟨⟨ds, ρ1⟩, e1, e2⟩ := Option.bind_eq_some_iff.mp e
  split at e2
  · rename_i hz
    cases e2
    refine ⟨F, os, ρ, _, R, e1, fun xs H1 F1 os1 L1 s1 R1' q1 n1 dj1 => ⟨by rw [q1.length]; exact hz, fun p hp => ?_⟩⟩
    have nO : ∀ i, p ∉ os1 i := fun i z => by obtain ⟨o, e⟩ := R1'.there z; rw [hp] at e; cases e
    have nL : p ∉ L1 := fun z => by obtain ⟨o, e⟩ := q1.there p z; rw [hp] at e; cases e
    have al : Ext F1 H1 (fun a => F1 a ∨ a = p) (upd H1 p (.tup xs)) := Step.allocF hp
    refine k (.ref p) _ _ os1 L1 (s1.trans (al.weak (fun _ z => z.elim) fun a z => .inr (.inl z))) (R1'.ext0 al) (.tupO (.inr rfl) upd_same (q1.ext (fun _ z => .inl z) (fun a o _ h => by rw [upd_ne (ne_of_none h hp)]; exact h) (fun a o _ h => by rw [upd_ne (ne_of_none h hp)]; exact h) fun a z w => ?_)) n1 dj1
    exact w.elim (q1.notF a z) fun e => nL (e ▸ z)
  · cases e2⟩
/-- a name's value, handed on with what it owns: the name is not read again -/
def vMove (i : Nat) : Ev → Option (AV × Ev) := fun ρ => match ρ[i]? with
  | some (some av) => some (av, ρ.set i none)
  | _ => none
theorem ve_move (i : Nat) {x : Str} (hN : X.N[i]? = some x := by rfl) (hv : Vis X.env.scope x := by first | exact Or.inl rfl | exact Or.inr (Or.inl rfl) | exact Or.inr (Or.inr rfl)) (hd : (x == ("__debug__" : Str)) = false := by decide)
    (hcd : (x == ("__classdict__" : Str)) = false := by decide) : VE X (.Name x pos) (vMove i) := ⟨(pv i hN hv hd hcd).imp fun σ H Q ⟨F, os, ρ, r, R, e, k⟩ => by
  unfold vMove at e
  split at e
  · rename_i av e1
    cases e
    obtain ⟨v, e2, q⟩ := R.slot i av.1 av.2 e1
    refine ⟨v, e2, k v H F (upo os i []) (os i) (Step.refl.weak (fun _ z => z) fun a z => .inl ?_) (R.kill i) q (R.nd i) fun a z j w => ?_⟩
    · rcases z with ⟨j, z⟩ | z
      · rcases upo_mem z with ⟨_, z⟩ | ⟨_, z⟩
        · exact nomatch z
        · exact ⟨j, z⟩
      · exact ⟨i, z⟩
    · rcases upo_mem w with ⟨_, w⟩ | ⟨h, w⟩
      · exact nomatch w
      · exact h (R.dj j i a w z)
  · cases e⟩

/-! ### statements -/
variable {pm : List Nat} {g h : Ev → Option Out} {st : Stmt} {rest : List Stmt}
def sNil : Ev → Option Out := fun ρ => some (.nx ρ)
def sSeq (g h : Ev → Option Out) : Ev → Option Out := fun ρ => (g ρ).bind fun o => match o with
  | .nx ρ' => h ρ'
  | o => some o
theorem vss_nil : VSs X pm [] sNil := ⟨pss_nil.imp fun D σ H ⟨F, os, ρ, o, R, e, k⟩ => by cases e; exact k σ H F os .refl R .refl⟩
theorem vss_one (h1 : VS X pm st g) : VSs X pm [st] g := ⟨pss_one h1.ps⟩
theorem vss_cons (h1 : VS X pm st g) (h2 : VSs X pm rest h) : VSs X pm (st :: rest) (sSeq g h) := ⟨(pss_cons h1.ps h2.pss).imp fun D σ H ⟨F, os, ρ, o, R, e, k⟩ => by
  obtain ⟨o1, e1, e2⟩ := Option.bind_eq_some_iff.mp e
  refine ⟨F, os, ρ, o1, R, e1, ?_⟩
  cases o1 with
  | nx ρ1 => exact fun σ1 H1 F1 os1 s1 R1 f1 => ⟨F1, os1, ρ1, o, R1, e2, k.step s1 f1⟩
  | bk ρ1 => cases e2; exact k
  | ct ρ1 => cases e2; exact k
  | rt v ρ1 => cases e2; exact k⟩
theorem vs_pass : VS X pm (.Pass pos) sNil := ⟨ps_pass.imp fun D σ H ⟨F, os, ρ, o, R, e, k⟩ => by cases e; exact k σ H F os .refl R .refl⟩
theorem vs_break : VS X pm (.Break pos) (fun ρ => some (.bk ρ)) := ⟨ps_break.imp fun D σ H ⟨F, os, ρ, o, R, e, k⟩ => by cases e; exact k σ H F os .refl R .refl⟩
theorem vs_cont : VS X pm (.Continue pos) (fun ρ => some (.ct ρ)) := ⟨ps_continue.imp fun D σ H ⟨F, os, ρ, o, R, e, k⟩ => by cases e; exact k σ H F os .refl R .refl⟩
theorem vs_doc {x j pos'} : VS X pm (.Expr (.Constant (.str x) j pos) pos') sNil := ⟨ps_doc.imp fun D σ H ⟨F, os, ρ, o, R, e, k⟩ => by cases e; exact k σ H F os .refl R .refl⟩
/-- a statement that is never come to -/
theorem vs_never : VS X pm st (fun _ => none) := ⟨ps_never.imp fun D σ H ⟨F, os, ρ, o, R, e, k⟩ => by cases e⟩
def sExpr (f : Ev → Option (AV × Ev)) : Ev → Option Out := fun ρ => (f ρ).map fun r => .nx r.2
theorem vs_expr {f : Ev → Option (AV × Ev)} (he : VE X e f) (hs : swapsWith e none pos.line X.env = pure false := by rfl) : VS X pm (.Expr e pos) (sExpr f) := ⟨(ps_expr he.pe hs).imp fun D σ H ⟨F, os, ρ, o, R, e, k⟩ => by
  obtain ⟨r, e1, rfl⟩ := Option.map_eq_some_iff.mp e
  exact ⟨F, os, ρ, r, R, e1, fun v H' F' os' Lv s R' q n dj => k σ H' F' os' (s.weak (fun _ z => z) fun a z => .inl (.inl z)) R' .refl⟩⟩
def sRet (f : Ev → Option (AV × Ev)) : Ev → Option Out := fun ρ => (f ρ).map fun r => .rt r.1 r.2
theorem vs_ret {f : Ev → Option (AV × Ev)} (he : VE X e f) : VS X pm (.Return (some e) pos) (sRet f) := ⟨(ps_ret he.pe).imp fun D σ H ⟨F, os, ρ, o, R, e, k⟩ => by
  obtain ⟨r, e1, rfl⟩ := Option.map_eq_some_iff.mp e
  exact ⟨F, os, ρ, r, R, e1, fun v H' F' os' Lv s R' q n dj => k v σ H' F' os' Lv s R' q n dj .refl⟩⟩
theorem vs_retN : VS X pm (.Return none pos) (fun ρ => some (.rt (.non, 0) ρ)) := ⟨ps_retN.imp fun D σ H ⟨F, os, ρ, o, R, e, k⟩ => by
  cases e
  exact k .non σ H F os [] (Step.refl.weak (fun _ z => z) fun a z => z.elim .inl fun z => nomatch z) R .non List.nodup_nil (fun _ z => nomatch z) .refl⟩
def sIf (t : Ev → Option (Bool × Ev)) (g h : Ev → Option Out) : Ev → Option Out := fun ρ => (t ρ).bind fun r => if r.1 then g r.2 else h r.2
theorem vs_if {t : Ev → Option (Bool × Ev)} {sa sb : List Stmt} (ht : VT X e t) (ha : VSs X pm sa g) (hb : VSs X pm sb h) : VS X pm (.If e sa sb pos) (sIf t g h) := ⟨(ps_if ht.pt ha.pss hb.pss).imp fun D σ H ⟨F, os, ρ, o, R, e, k⟩ => by
  obtain ⟨⟨b, ρ1⟩, e1, e2⟩ := Option.bind_eq_some_iff.mp e
  refine ⟨F, os, ρ, _, R, e1, fun H1 F1 os1 s1 R1 => ?_⟩
  cases b with
  | true =>
    simp only [if_true] at e2 ⊢
    exact ⟨F1, os1, ρ1, o, R1, e2, k.step s1 .refl⟩
  | false =>
    simp only [Bool.false_eq_true, if_false] at e2 ⊢
    exact ⟨F1, os1, ρ1, o, R1, e2, k.step s1 .refl⟩⟩
/-- a step and a store -/
theorem step_store {F F1 O : AS} {H H1 : Hp} {os1 : Nat → List Addr} {L : List Addr} {i : Nat} (s : Step F O H F1 (fun a => Own os1 a ∨ a ∈ L) H1) : Step F O H F1 (Own (upo os1 i L)) H1 := s.trans (Step.refl.weak (fun _ z => z) fun a ⟨j, z⟩ => by
  rcases upo_mem z with ⟨_, z⟩ | ⟨_, z⟩
  · exact .inl (.inr z)
  · exact .inl (.inl ⟨j, z⟩))
def putE (i : Nat) (r : AV × Ev) : Option Ev := if i < r.2.length then some (r.2.set i (some r.1)) else none
def sSet (i : Nat) (f : Ev → Option (AV × Ev)) : Ev → Option Out := fun ρ => (f ρ).bind fun r => (putE i r).map .nx
theorem fix_set {pm : List Nat} {i : Nat} {σ : L2.St} {v : Option V} (h : i ∉ pm) : Fix pm σ (σ.set i v) := ⟨List.length_set, fun j hj => List.getElem?_set_ne fun (e : i = j) => h (by rw [e]; exact hj)⟩
theorem put_ok {K : PySem.W.Frag} {F F1 O : AS} {H H1 : Hp} {os1 : Nat → List Addr} {L : List Addr} {i : Nat} {σ : L2.St} {v : V} {r : AV × Ev} {ρ' : Ev} (hp : i ∉ pm) (e : putE i r = some ρ') (s : Step F O H F1 (fun a => Own os1 a ∨ a ∈ L) H1) (R : Rl K F1 os1 r.2 σ H1) (q : R1 K F1 H1 v r.1.1 r.1.2 L) (n : L.Nodup) (dj : ∀ a ∈ L, ∀ i, a ∉ os1 i) :
    ∃ os', Step F O H F1 (Own os') H1 ∧ Rl K F1 os' ρ' (σ.set i (some v)) H1 ∧ Fix pm σ (σ.set i (some v)) := by
  unfold putE at e
  split at e
  · rename_i hi
    cases e
    exact ⟨_, step_store s, R.store hi q n dj, fix_set hp⟩
  · cases e
theorem set_v {K : PySem.W.Frag} {i : Nat} {f : Ev → Option (AV × Ev)} {D : Ends} {σ : L2.St} {H : Hp} (hp : i ∉ pm) : tS K pm (sSet i f) D σ H → tV K f σ H (fun x H1 => gName i x σ H1 D.nx) := fun ⟨F, os, ρ, o, R, e, k⟩ => by
  obtain ⟨r, e1, e2⟩ := Option.bind_eq_some_iff.mp e
  obtain ⟨ρ', e3, rfl⟩ := Option.map_eq_some_iff.mp e2
  refine ⟨F, os, ρ, r, R, e1, fun v H' F' os' Lv s R' q n dj => ?_⟩
  obtain ⟨os2, s2, R2, f2⟩ := put_ok hp e3 s R' q n dj
  exact k _ H' F' os2 s2 R2 f2
theorem vs_set (i : Nat) {x : Str} {f : Ev → Option (AV × Ev)} {pos'} (hN : X.N.Nodup) (hi : X.N[i]? = some x) (hx : Loc X.env.scope x) (he : VE X e f) (hs : swapsWith e (some (.Name x pos')) pos.line X.env = pure false := by rfl) (hf : X.fn x = true ∨ X.env.scope.names.lookup x = some .local := by first | exact .inl rfl | exact .inr rfl | assumption) (hp : i ∉ pm := by decide) :
    VS X pm (.Assign [.Name x pos'] e pos) (sSet i f) := ⟨(ps_set hN hi hx he.pe hs hf).imp fun D σ H z => set_v hp z⟩
/-- x op= e -/
def sAug (i : Nat) (b : D → D → Option D) (f : Ev → Option (AV × Ev)) : Ev → Option Out := fun ρ => match nVar i ρ with
  | some x => if x.isS then (f ρ).bind fun r => (b x r.1.1).bind fun d => (putE i ((d, 0), r.2)).map .nx else none
  | none => none
theorem vs_aug (i : Nat) {x : Str} {f : Ev → Option (AV × Ev)} {op : Operator} {b : D → D → Option D} {pos'} (ho : OpD X (inplaceOp op) b) (hN : X.N.Nodup) (hi : X.N[i]? = some x) (hx : Loc X.env.scope x) (he : VE X e f) (hf : X.fn x = true ∨ X.env.scope.names.lookup x = some .local := by first | exact .inl rfl | exact .inr rfl | assumption) (hp : i ∉ pm := by decide) :
    VS X pm (.AugAssign (.Name x pos') op e pos) (sAug i b f) := ⟨(ps_aug hN hi hx he.pe (ti := rD X.K b) ho.run hf).imp fun D σ H ⟨F, os, ρ, o, R, e, k⟩ => by
  unfold sAug at e
  split at e
  · rename_i y ey
    split at e
    · rename_i hs
      obtain ⟨r, e1, e2⟩ := Option.bind_eq_some_iff.mp e
      obtain ⟨d, e3, e4⟩ := Option.bind_eq_some_iff.mp e2
      obtain ⟨ρ', e5, rfl⟩ := Option.map_eq_some_iff.mp e4
      obtain ⟨n, ey⟩ := nVar_some ey
      obtain ⟨w, ew, qw⟩ := R.slot i y n ey
      refine ⟨w, ew, F, os, ρ, r, R, e1, fun v H' F' os' Lv s R' q nn dj => ⟨fun a => F' a ∨ a ∈ Lv, y, r.1.1, d, qw.up hs, q.freeze (fun _ z => .inl z) fun _ z => .inr z, e3, ?_⟩⟩
      obtain ⟨os2, s2, R2, f2⟩ := put_ok (L := []) (v := d.toV) hp e5 (s.weak (fun _ z => z) fun a z => z.elim (fun z => .inl (.inl z)) fun z => nomatch z) R' (R1.of (ho.sc _ _ _ e3)) List.nodup_nil fun _ z => nomatch z
      exact k _ H' F' os2 s2 R2 f2
    · cases e
  · cases e⟩
def bIAdd : D → D → Option D
  | .int i, .int j => some (.int (i + j))
  | .str a, .str b => if a.length + b.length ≤ sizeLine then some (.str (a ++ b)) else none
  | _, _ => none
theorem iod_add : OpD X (inplaceOp .Add) bIAdd := .mk' fun d1 d2 d h => by
  cases d1 <;> cases d2 <;> first | (cases h; done) | skip
  case int.int i j => cases h; exact ⟨rfl, rfl, rfl, _, iop_add, fun H Q q => ⟨i, j, rfl, rfl, q⟩⟩
  case str.str a b =>
    have h : (if a.length + b.length ≤ sizeLine then some (D.str (a ++ b)) else none) = some d := h
    by_cases hz : a.length + b.length ≤ sizeLine
    · rw [if_pos hz] at h; cases h; exact ⟨rfl, rfl, rfl, _, iop_add_str, fun H Q q => ⟨a, b, rfl, rfl, hz, q⟩⟩
    · rw [if_neg hz] at h; cases h
theorem iod_sub : OpD X (inplaceOp .Sub) bSub := .mk' fun d1 d2 d h => by
  cases d1 <;> cases d2 <;> first | (cases h; done) | skip
  case int.int i j => cases h; exact ⟨rfl, rfl, rfl, _, iop_sub, fun H Q q => ⟨i, j, rfl, rfl, q⟩⟩
end
end Dv
/-! DvH: calls of defs, the promise of a def, loops. -/
namespace Dv
open PySem PySem.Spec PyProof.Rows L2

abbrev Ag := Nat ⊕ D
def ArgR (K : PySem.W.Frag) (F : AS) (H : Hp) (σ : L2.St) : V → Ag → Prop
  | v, .inl i => σ[i]? = some (some v)
  | v, .inr d => R1 K F H v d 0 []
def tCA (K : PySem.W.Frag) (f : Ev → Option (List Ag × Ev)) : TA := fun σ H Q => ∃ F os ρ r, Rl K F os ρ σ H ∧ f ρ = some r ∧
  ∀ xs H' F' os', Step F (Own os) H F' (Own os') H' → Rl K F' os' r.2 σ H' → Paired (ArgR K F' H' σ) xs r.1 → Q xs H'
structure CA (X : Cx) (es : List Expr) (f : Ev → Option (List Ag × Ev)) : Prop where
  pa : PA X es (tCA X.K f)
def caNil : Ev → Option (List Ag × Ev) := fun ρ => some ([], ρ)
def caIo (i : Nat) (f : Ev → Option (List Ag × Ev)) : Ev → Option (List Ag × Ev) := fun ρ => match ρ[i]? with
  | some (some _) => (f ρ).map fun r => (.inl i :: r.1, r.2)
  | _ => none
def caVe (g : Ev → Option (AV × Ev)) (f : Ev → Option (List Ag × Ev)) : Ev → Option (List Ag × Ev) := fun ρ => (g ρ).bind fun r => (f r.2).map fun r2 => (.inr r.1.1 :: r2.1, r2.2)
section
variable {X : Cx} {e : Expr} {es : List Expr} {pos : Pos} {f : Ev → Option (List Ag × Ev)}
theorem ca_nil : CA X [] caNil := ⟨pa_nil.imp fun σ H Q ⟨F, os, ρ, r, R, e, k⟩ => by cases e; exact k [] H F os .refl R .nil⟩
theorem ca_io (i : Nat) {x : Str} (h2 : CA X es f) (hN : X.N[i]? = some x := by rfl) (hv : Vis X.env.scope x := by first | exact Or.inl rfl | exact Or.inr (Or.inl rfl) | exact Or.inr (Or.inr rfl)) (hd : (x == ("__debug__" : Str)) = false := by decide)
    (hcd : (x == ("__classdict__" : Str)) = false := by decide) (hs : starEach (.Name x pos :: es) X.env = (false, eval (.Name x pos) X.env) :: starEach es X.env := by rfl) : CA X (.Name x pos :: es) (caIo i f) :=
  ⟨(pa_cons (pv i hN hv hd hcd) h2.pa hs).imp fun σ H Q ⟨F, os, ρ, r, R, e, k⟩ => by
    unfold caIo at e
    split at e
    · rename_i av e0
      obtain ⟨r2, e1, rfl⟩ := Option.map_eq_some_iff.mp e
      obtain ⟨v, ev, q⟩ := R.slot i av.1 av.2 e0
      exact ⟨v, ev, F, os, ρ, r2, R, e1, fun xs H' F' os' s R' pr => k (v :: xs) H' F' os' s R' (.cons ev pr)⟩
    · cases e⟩
theorem ca_ve {g : Ev → Option (AV × Ev)} (h : VE X e g) (h2 : CA X es f) (hs : starEach (e :: es) X.env = (false, eval e X.env) :: starEach es X.env := by rfl) : CA X (e :: es) (caVe g f) :=
  ⟨(pa_cons h.pe h2.pa hs).imp fun σ H Q ⟨F, os, ρ, r, R, e, k⟩ => by
    obtain ⟨⟨av, ρ1⟩, e1, e2⟩ := Option.bind_eq_some_iff.mp e
    obtain ⟨r2, e3, rfl⟩ := Option.map_eq_some_iff.mp e2
    refine ⟨F, os, ρ, _, R, e1, fun v H1 F1 os1 L1 s1 R1' q1 n1 dj1 => ?_⟩
    have s1' : Step F (Own os) H (fun a => F1 a ∨ a ∈ L1) (Own os1) H1 := s1.trans (Step.moreF (fun _ z => .inl z) (fun a z => z.elim .inl fun z => .inr ⟨.inr z, q1.there a z⟩) fun _ z => .inl z)
    have R1'' : Rl X.K (fun a => F1 a ∨ a ∈ L1) os1 ρ1 σ H1 := R1'.moreF (fun _ z => .inl z) fun a z => z.elim .inl fun z => .inr ⟨q1.there a z, dj1 a z⟩
    have q1' : R1 X.K (fun a => F1 a ∨ a ∈ L1) H1 v av.1 0 [] := q1.freeze (fun _ z => .inl z) fun _ z => .inr z
    exact ⟨_, os1, ρ1, r2, R1'', e3, fun xs H' F' os' s R' pr => k (v :: xs) H' F' os' (s1'.trans s) R' (.cons (q1'.tmp R1'' (fun _ z => nomatch z) s) pr)⟩⟩
end

/-! ### the promise -/
inductive RA (K : PySem.W.Frag) (F : AS) (H : Hp) : List V → List AV → List (List Addr) → Prop
  | nil : RA K F H [] [] []
  | cons {v vs a as L Ls} : R1 K F H v a.1 a.2 L → RA K F H vs as Ls → RA K F H (v :: vs) (a :: as) (L :: Ls)
abbrev PF := List AV → Option (AV × List AV)
def spV (K : PySem.W.Frag) (n : Nat) (g : PF) : Sp := fun vs H Q _ => vs.length = n ∧ ∃ F Ls as r, (∀ a, F a → ∃ o, H a = some o) ∧ RA K F H vs as Ls ∧ Ls.flatten.Nodup ∧ g as = some r ∧
  ∀ v H' F' Lv Ls', Step F (fun a => a ∈ Ls.flatten) H F' (fun a => a ∈ Lv ∨ a ∈ Ls'.flatten) H' → R1 K F' H' v r.1.1 r.1.2 Lv → RA K F' H' vs r.2 Ls' → (Lv ++ Ls'.flatten).Nodup → Q v H'
section
variable {K : PySem.W.Frag} {F F' : AS} {H H' : Hp} {vs : List V} {as : List AV} {Ls : List (List Addr)}
theorem RA.length (r : RA K F H vs as Ls) : vs.length = as.length ∧ Ls.length = as.length := by
  induction r with
  | nil => exact ⟨rfl, rfl⟩
  | cons _ _ i => exact ⟨by simp [i.1], by simp [i.2]⟩
theorem RA.app {vs2 : List V} {as2 : List AV} {Ls2 : List (List Addr)} (r : RA K F H vs as Ls) (r2 : RA K F H vs2 as2 Ls2) : RA K F H (vs ++ vs2) (as ++ as2) (Ls ++ Ls2) := by
  induction r with
  | nil => exact r2
  | cons q _ i => exact .cons q i
theorem RA.get (r : RA K F H vs as Ls) : ∀ (i : Nat) (a : AV), as[i]? = some a → ∃ v L, vs[i]? = some v ∧ Ls[i]? = some L ∧ R1 K F H v a.1 a.2 L := by
  induction r with
  | nil => intro i a e; simp at e
  | @cons v vs a as L Ls q _ ih =>
    intro i b e
    cases i with
    | zero => simp at e; subst e; exact ⟨v, L, rfl, rfl, q⟩
    | succ i =>
      obtain ⟨w, M, e1, e2, q2⟩ := ih i b (by simpa using e)
      exact ⟨w, M, by simpa using e1, by simpa using e2, q2⟩
theorem RA.scal {ds : List D} (h : ∀ d ∈ ds, d.isS = true) : RA K F H (ds.map D.toV) (ds.map fun d => (d, 0)) (ds.map fun _ => []) := by
  induction ds with
  | nil => exact .nil
  | cons d ds ih => exact .cons (R1.of (h d List.mem_cons_self)) (ih fun x z => h x (List.mem_cons_of_mem _ z))
end

/-! ### calls -/
def ioOf : List Ag → List Nat
  | [] => []
  | .inl i :: as => i :: ioOf as
  | .inr _ :: as => ioOf as
def getA : List Ag → Ev → Option (List AV)
  | [], _ => some []
  | .inl i :: as, ρ => match ρ[i]? with
    | some (some a) => (getA as ρ).map (a :: ·)
    | _ => none
  | .inr d :: as, ρ => (getA as ρ).map ((d, 0) :: ·)
def lsA (os : Nat → List Addr) : List Ag → List (List Addr)
  | [] => []
  | .inl i :: as => os i :: lsA os as
  | .inr _ :: as => [] :: lsA os as
def killA : List Ag → Ev → Ev
  | [], ρ => ρ
  | .inl i :: as, ρ => killA as (ρ.set i none)
  | .inr _ :: as, ρ => killA as ρ
def putA : List Ag → List AV → Ev → Ev
  | .inl i :: as, o :: os, ρ => putA as os (ρ.set i (some o))
  | .inr _ :: as, _ :: os, ρ => putA as os ρ
  | _, _, ρ => ρ
section
variable {K : PySem.W.Frag} {F F' : AS} {H H' : Hp} {os : Nat → List Addr} {ρ : Ev} {σ : L2.St}
theorem lsA_mem : ∀ {as : List Ag} {a : Addr}, a ∈ (lsA os as).flatten → ∃ i ∈ ioOf as, a ∈ os i
  | [], a, h => by simp [lsA] at h
  | .inl i :: as, a, h => by
    rcases List.mem_append.mp (show a ∈ os i ++ (lsA os as).flatten by simpa [lsA] using h) with h | h
    · exact ⟨i, List.mem_cons_self, h⟩
    · obtain ⟨j, h1, h2⟩ := lsA_mem h
      exact ⟨j, List.mem_cons_of_mem _ h1, h2⟩
  | .inr d :: as, a, h => lsA_mem (as := as) (by simpa [lsA] using h)
theorem lsA_nd (R : Rl K F os ρ σ H) : ∀ {as : List Ag}, (ioOf as).Nodup → (lsA os as).flatten.Nodup
  | [], _ => List.nodup_nil
  | .inl i :: as, h => by
    obtain ⟨h1, h2⟩ := List.nodup_cons.mp (show (i :: ioOf as).Nodup from h)
    show (os i ++ (lsA os as).flatten).Nodup
    refine List.nodup_append.mpr ⟨R.nd i, lsA_nd R h2, fun a z b w e => ?_⟩
    subst e
    obtain ⟨j, h3, h4⟩ := lsA_mem w
    exact h1 (R.dj i j a z h4 ▸ h3)
  | .inr d :: as, h => lsA_nd (as := as) R h
theorem getA_ra (R : Rl K F os ρ σ H) : ∀ {as : List Ag} {xs : List V} {avs : List AV}, Paired (ArgR K F H σ) xs as → getA as ρ = some avs → RA K F H xs avs (lsA os as)
  | [], xs, avs, p, e => by cases e; cases p; exact .nil
  | .inl i :: as, xs, avs, p, e => by
    unfold getA at e
    split at e
    · rename_i a ea
      obtain ⟨bs, e1, rfl⟩ := Option.map_eq_some_iff.mp e
      cases p with
      | cons h p =>
        obtain ⟨v, e2, q⟩ := R.slot i a.1 a.2 ea
        have h : σ[i]? = some (some _) := h
        rw [h] at e2
        cases e2
        exact .cons q (getA_ra R p e1)
    · cases e
  | .inr d :: as, xs, avs, p, e => by
    obtain ⟨bs, e1, rfl⟩ := Option.map_eq_some_iff.mp (show (getA as ρ).map ((d, 0) :: ·) = some avs from e)
    cases p with
    | cons h p => exact .cons (a := (d, 0)) h (getA_ra R p e1)
theorem killA_rl : ∀ {as : List Ag} {os : Nat → List Addr} {ρ : Ev}, Rl K F os ρ σ H → ∃ os0, Rl K F os0 (killA as ρ) σ H ∧ (∀ i ∈ ioOf as, os0 i = []) ∧ (∀ i, i ∉ ioOf as → os0 i = os i) ∧ ∀ i, ∀ a ∈ os0 i, a ∈ os i
  | [], os, ρ, R => ⟨os, R, fun _ z => (nomatch z), fun _ _ => rfl, fun _ _ z => z⟩
  | .inl i :: as, os, ρ, R => by
    obtain ⟨os0, R0, h1, h2, h3⟩ := killA_rl (as := as) (R.kill i)
    refine ⟨os0, R0, fun j z => ?_, fun j z => ?_, fun j a z => ?_⟩
    · by_cases hj : j ∈ ioOf as
      · exact h1 j hj
      · rcases List.mem_cons.mp (show j ∈ i :: ioOf as from z) with e | z
        · subst e; rw [h2 j hj, upo_same]
        · exact absurd z hj
    · have n1 : j ≠ i := fun e => z (e ▸ (List.mem_cons_self : i ∈ i :: ioOf as))
      have n2 : j ∉ ioOf as := fun w => z (List.mem_cons_of_mem i w)
      rw [h2 j n2, upo_ne n1]
    · rcases upo_mem (h3 j a z) with ⟨_, w⟩ | ⟨_, w⟩
      · exact nomatch w
      · exact w
  | .inr d :: as, os, ρ, R => killA_rl (as := as) R
theorem putA_rl : ∀ {as : List Ag} {xs : List V} {outs : List AV} {Ls : List (List Addr)} {os : Nat → List Addr} {ρ : Ev} {xs2 : List V}, Paired (ArgR K F' H' σ) xs as → (ioOf as).Nodup → RA K F H (xs ++ xs2) outs Ls → Ls.flatten.Nodup → Rl K F os ρ σ H → (∀ i ∈ ioOf as, os i = []) → (∀ a ∈ Ls.flatten, ∀ i, a ∉ os i) →
    ∃ os', Rl K F os' (putA as outs ρ) σ H ∧ ∀ a, Own os' a → Own os a ∨ a ∈ Ls.flatten
  | [], xs, outs, Ls, os, ρ, xs2, p, nd, ra, n2, R, h0, dj => ⟨os, by cases outs <;> exact R, fun _ z => .inl z⟩
  | .inr d :: as, xs, outs, Ls, os, ρ, xs2, p, nd, ra, n2, R, h0, dj => by
    cases p with
    | cons h p =>
      cases ra with
      | @cons v vs a as' L Ls' q ra =>
        obtain ⟨m1, m2, m3⟩ := List.nodup_append.mp (show (L ++ Ls'.flatten).Nodup from n2)
        obtain ⟨os', R', h'⟩ := putA_rl (as := as) p nd ra m2 R h0 fun a z => dj a (List.mem_append_right L z)
        exact ⟨os', R', fun a z => (h' a z).elim .inl fun z => .inr (List.mem_append_right L z)⟩
  | .inl i :: as, xs, outs, Ls, os, ρ, xs2, p, nd, ra, n2, R, h0, dj => by
    cases p with
    | cons h p =>
      cases ra with
      | @cons v vs a as' L Ls' q ra =>
        obtain ⟨m1, m2, m3⟩ := List.nodup_append.mp (show (L ++ Ls'.flatten).Nodup from n2)
        obtain ⟨i1, i2⟩ := List.nodup_cons.mp (show (i :: ioOf as).Nodup from nd)
        have R1 := R.put h q m1 fun b z => dj b (List.mem_append_left Ls'.flatten z)
        obtain ⟨os', R', h'⟩ := putA_rl (as := as) p i2 ra m2 R1 (fun j z => by
          have n1 : j ≠ i := fun e => i1 (e ▸ z)
          rw [upo_ne n1]
          exact h0 j (List.mem_cons_of_mem i z)) fun b z j w => by
            rcases upo_mem w with ⟨_, w⟩ | ⟨_, w⟩
            · exact m3 b w b z rfl
            · exact dj b (List.mem_append_right L z) j w
        refine ⟨os', R', fun b z => (h' b z).elim (fun ⟨j, z⟩ => ?_) fun z => .inr (List.mem_append_right L z)⟩
        rcases upo_mem z with ⟨_, z⟩ | ⟨_, z⟩
        · exact .inr (List.mem_append_left _ z)
        · exact .inl ⟨j, z⟩
end
def vCall (g : PF) (dds : List D) (f : Ev → Option (List Ag × Ev)) : Ev → Option (AV × Ev) := fun ρ => (f ρ).bind fun r => if (ioOf r.1).Nodup then (getA r.1 r.2).bind fun avs => (g (avs ++ dds.map fun d => (d, 0))).map fun q => (q.1, putA r.1 q.2 (killA r.1 r.2)) else none
section
variable {X : Cx} {e : Expr} {es : List Expr} {pos p : Pos} {f : Ev → Option (List Ag × Ev)} {x : Str} {j k n : Nat} {g : PF} {dds : List D}
theorem call_core {K : PySem.W.Frag} {σ : L2.St} {H : Hp} {Q : VK} {E : XK} {t : TA} (hd : ∀ d ∈ dds, d.isS = true) {F : AS} {os : Nat → List Addr} {ρ : Ev} {r : AV × Ev} (R : Rl K F os ρ σ H) (e : vCall g dds f ρ = some r) (hl : ∀ (ρ : Ev) as ρ1 avs q, f ρ = some (as, ρ1) → getA as ρ1 = some avs → g (avs ++ dds.map fun d => (d, 0)) = some q → (avs ++ dds.map fun d => ((d, 0) : AV)).length = n)
    (k : ∀ v H' F' os' Lv, Step F (Own os) H F' (fun a => Own os' a ∨ a ∈ Lv) H' → Rl K F' os' r.2 σ H' → R1 K F' H' v r.1.1 r.1.2 Lv → Lv.Nodup → (∀ a ∈ Lv, ∀ i, a ∉ os' i) → Q v H') :
    tCA K f σ H fun vs H1 => spV K n g (vs ++ dds.map D.toV) H1 Q E := by
  obtain ⟨⟨as, ρ1⟩, e1, e2⟩ := Option.bind_eq_some_iff.mp e
  split at e2
  · rename_i hio
    obtain ⟨avs, e3, e4⟩ := Option.bind_eq_some_iff.mp e2
    obtain ⟨⟨av, outs⟩, e5, rfl⟩ := Option.map_eq_some_iff.mp e4
    refine ⟨F, os, ρ, _, R, e1, fun xs H1 F1 os1 s1 R1' pr => ?_⟩
    have ra := (getA_ra R1' pr e3).app (RA.scal hd)
    have eL : (lsA os1 as ++ dds.map fun _ => ([] : List Addr)).flatten = (lsA os1 as).flatten := by
      rw [List.flatten_append]
      have : (dds.map fun _ => ([] : List Addr)).flatten = [] := by
        clear ra e5 hd hl e4 e2 e
        induction dds with
        | nil => rfl
        | cons d ds ih => simpa using ih
      rw [this, List.append_nil]
    refine ⟨by rw [ra.length.1]; exact hl ρ as ρ1 avs _ e1 e3 e5, F1, _, _, _, R1'.dom, ra, by rw [eL]; exact lsA_nd R1' hio, e5, fun v H2 F2 Lv Ls2 s2 q2 ra2 nd2 => ?_⟩
    simp only [eL] at s2
    obtain ⟨m1, m2, m3⟩ := List.nodup_append.mp nd2
    obtain ⟨os0, R0, h1, h2, h3⟩ := killA_rl (as := as) R1'
    have far0 : ∀ i, ∀ a ∈ os0 i, a ∉ (lsA os1 as).flatten := fun i a z w => by
      obtain ⟨l, z1, z2⟩ := lsA_mem w
      have z' := h3 i a z
      have e := R1'.dj i l a z' z2
      subst e
      rw [h1 i z1] at z
      exact nomatch z
    have R2 : Rl K F2 os0 (killA as ρ1) σ H2 := R0.ext s2 far0 fun a z w => by
      obtain ⟨l, z1, z2⟩ := lsA_mem z
      exact R1'.noF z2 w
    have new : ∀ a, (a ∈ Lv ∨ a ∈ Ls2.flatten) → ∀ i, a ∉ os0 i := fun a z i w => by
      rcases s2.own a z with z | z
      · exact far0 i a w z
      · obtain ⟨o, e⟩ := R0.there w; rw [z] at e; cases e
    obtain ⟨os3, R3, h4⟩ := putA_rl (outs := outs) pr hio ra2 m2 R2 h1 fun a z => new a (.inr z)
    refine k v H2 F2 os3 Lv ?_ R3 q2 m1 fun a z i w => ?_
    · have s2' : Step F1 (Own os1) H1 F2 (fun a => Own os3 a ∨ a ∈ Lv) H2 := s2.weak (fun a z => by obtain ⟨l, _, z2⟩ := lsA_mem z; exact ⟨l, z2⟩) fun a z => by
        rcases z with z | z
        · rcases h4 a z with ⟨l, z⟩ | z
          · exact .inr (.inl ⟨l, h3 l a z⟩)
          · exact .inl (.inr z)
        · exact .inl (.inl z)
      exact s1.trans s2'
    · rcases h4 a ⟨i, w⟩ with ⟨l, w⟩ | w
      · exact new a (.inl z) l w
      · exact m3 a z a w rfl
  · cases e2
/-- a def by its name, as it stands: its function, its level, its defaults -/
structure Fn (P : Program) (w : World) (K : PySem.W.Frag) (mg : Str → Option Value) (base : Heap) (k : Nat) (x : Str) (n : Nat) (g : PF) (dds : List D) : Prop where
  ex : ∃ (f : Addr) (fd : FuncData) (ps : List Str) (ds : List Value), FnOk P w K mg base CX0 k f fd ps (spV K n g) ∧ mg x = some (.ref f) ∧ PySem.W.keepIn K (.ref f) = true ∧ Binds K fd ps ds ∧ Vals (dds.map D.toV) ds
theorem pe_fn {t : TA} (c : Fn X.prog X.w X.K X.mg X.base k x n g dds) (hr : Room j X.A) (hk : k ≤ j) (hg : Gl X x) (ha : PA X (e :: es) t)
    (hdb : (x == ("__debug__" : Str)) = false := by decide) (he : starEach (e :: es) X.env = (false, eval e X.env) :: starEach es X.env := by rfl) (hpl : (backTo pos (starEach es X.env)).any (·.1) = false := by rfl) :
    PE X (.Call (.Name x p) (e :: es) [] pos) (tCall (spV X.K n g) (dds.map D.toV) E0 t) := by
  obtain ⟨f, fd, ps, ds, F, hm, kp, b, d⟩ := c.ex
  exact pe_call F (hr.mono hk) hg hm kp b d pass0 ha hdb he hpl
def lenOk (n : Nat) (g : PF) : Prop := ∀ as r, g as = some r → as.length = n
theorem ve_call (c : Fn X.prog X.w X.K X.mg X.base k x n g dds) (hn : lenOk n g) (hr : Room j X.A) (hk : k ≤ j) (hg : Gl X x) (hd : ∀ d ∈ dds, d.isS = true) (ha : CA X (e :: es) f)
    (hdb : (x == ("__debug__" : Str)) = false := by decide) (he : starEach (e :: es) X.env = (false, eval e X.env) :: starEach es X.env := by rfl) (hpl : (backTo pos (starEach es X.env)).any (·.1) = false := by rfl) :
    VE X (.Call (.Name x p) (e :: es) [] pos) (vCall g dds f) :=
  ⟨(pe_fn c hr hk hg ha.pa hdb he hpl).imp fun σ H Q ⟨F, os, ρ, r, R, e, k⟩ => call_core (t := fun _ _ _ => True) hd R e (fun _ _ _ _ _ _ _ z => hn _ _ z) k⟩
/-- a call that reads alone: all arguments as they are -/
def nCall (g : PF) (dds : List D) (f : Ev → Option (List D)) : Ev → Option (AV) := fun ρ => (f ρ).bind fun ds => (g ((ds ++ dds).map fun d => (d, 0))).map (·.1)
theorem RA.of0 {K : PySem.W.Frag} {F : AS} {H : Hp} {xs : List V} {ds : List D} (r : Rs K F H xs ds 0 []) : RA K F H xs (ds.map fun d => (d, 0)) (ds.map fun _ => []) :=
  Rs.ind0 (P := fun xs ds => RA K F H xs (ds.map fun d => (d, 0)) (ds.map fun _ => [])) r .nil fun v vs d ds r1 _ i => .cons (a := (d, 0)) r1 i
theorem nil_flat {α : Type} (ds : List α) : (ds.map fun _ => ([] : List Addr)).flatten = [] := by
  induction ds with
  | nil => rfl
  | cons d ds ih => simpa using ih
theorem ncall_core {K : PySem.W.Frag} {σ : L2.St} {H : Hp} {Q : VK} {E : XK} {vs : List Nat} {f : Ev → Option (List D)} (hd : ∀ d ∈ dds, d.isS = true) (hn : lenOk n g) {F : AS} {os : Nat → List Addr} {ρ : Ev} {r : AV} (R : Rl K F os ρ σ H) (e : nCall g dds f ρ = some r)
    (k : ∀ v H' F' Lv, Ext F H F' H' → (∀ a ∈ Lv, H a = none) → (∀ a, F' a → ¬ a ∈ Lv) → R1 K (Gs F' os vs) H' v r.1 r.2 Lv → Lv.Nodup → Q v H') :
    tNA K vs f σ H fun xs H1 => spV K n g (xs ++ dds.map D.toV) H1 Q E := by
  obtain ⟨ds, e1, e2⟩ := Option.bind_eq_some_iff.mp e
  obtain ⟨⟨av, outs⟩, e3, rfl⟩ := Option.map_eq_some_iff.mp e2
  refine ⟨F, os, ρ, ds, R, e1, fun xs H1 F1 s1 q1 => ?_⟩
  have q1' : Rs K (Gs F1 os vs) H1 (xs ++ dds.map D.toV) (ds ++ dds) 0 [] := q1.app0 (Rs.of hd)
  have ra := RA.of0 q1'
  have len := hn _ _ e3
  refine ⟨by rw [ra.length.1]; exact len, Gs F1 os vs, _, _, _, (R.ext0 s1).gs vs, ra, by rw [nil_flat]; exact List.nodup_nil, e3, fun v H2 F2 Lv Ls2 s2 q2 _ nd2 => ?_⟩
  simp only [nil_flat] at s2
  have nF : ∀ a, (F1 a ∨ ∃ i ∈ vs, a ∈ os i) → ∃ o, H1 a = some o := fun a z => (R.ext0 s1).gs vs a z
  -- what is frozen behind: F1 and what is new
  have s3 : Ext F1 H1 (fun a => F1 a ∨ (F2 a ∧ H1 a = none)) H2 := by
    refine ⟨fun _ z => .inl z, fun a o h _ => s2.keep a o h fun z => (nomatch z), fun _ z => z.elim, fun a z => ?_, s2.dom, fun h a z => ?_⟩
    · rcases z with z | z
      · exact .inl z
      · exact .inr (.inr z.2)
    · rcases z with z | z
      · obtain ⟨o, e⟩ := h a z
        exact s2.dom a o e
      · exact s2.domF nF a z.1
  refine k v H2 (fun a => F1 a ∨ (F2 a ∧ H1 a = none)) Lv (s1.trans s3) (fun a z => ?_) (fun a z w => ?_) (q2.ext (fun a z => ?_) (fun _ _ _ z => z) (fun _ _ _ z => z) fun a z w => ?_) (List.nodup_append.mp nd2).1
  · rcases s2.own a (.inl z) with z | z
    · exact nomatch z
    · cases q : H a with
      | none => rfl
      | some o => obtain ⟨o', e'⟩ := s1.dom a o q; rw [z] at e'; cases e'
  · rcases z with z | z
    · exact q2.notF a w (s2.mono a (.inl z))
    · exact q2.notF a w z.1
  · rcases s2.frz a z with z | z | z
    · exact z.elim (fun z => .inl (.inl z)) .inr
    · exact nomatch z
    · rename_i z0
      exact .inl (.inr ⟨z0, z⟩)
  · rcases w with (w | w) | w
    · exact q2.notF a z (s2.mono a (.inl w))
    · exact q2.notF a z w.1
    · exact q2.notF a z (s2.mono a (.inr w))
theorem ne_call {vs : List Nat} {f : Ev → Option (List D)} (c : Fn X.prog X.w X.K X.mg X.base k x n g dds) (hn : lenOk n g) (hr : Room j X.A) (hk : k ≤ j) (hg : Gl X x) (hd : ∀ d ∈ dds, d.isS = true) (ha : NA X vs (e :: es) f)
    (hdb : (x == ("__debug__" : Str)) = false := by decide) (he : starEach (e :: es) X.env = (false, eval e X.env) :: starEach es X.env := by rfl) (hpl : (backTo pos (starEach es X.env)).any (·.1) = false := by rfl) :
    NE X vs (.Call (.Name x p) (e :: es) [] pos) (fun ρ => (nCall g dds f ρ).map (·.1)) :=
  ⟨(pe_fn c hr hk hg ha.pa hdb he hpl).imp fun σ H Q ⟨F, os, ρ, r, R, e, k⟩ => by
    obtain ⟨av, e1, rfl⟩ := Option.map_eq_some_iff.mp e
    refine ncall_core hd hn R e1 fun v H' F' Lv s hL hF q nd => k v H' (fun a => F' a ∨ a ∈ Lv) ⟨fun a z => .inl (s.mono a z), s.keep, s.own, fun a z => z.elim (s.frz a) fun z => .inr (.inr (hL a z)), s.dom, fun h a z => z.elim (s.domF h a) fun z => q.there a z⟩ (q.freeze (fun a z => z.elim (fun z => .inl (.inl z)) .inr) fun a z => .inl (.inr z))⟩
/-- .. whose value is one's own down to the depth that the def gives; vs: what is frozen for it -/
theorem ve_ncall {vs : List Nat} {f : Ev → Option (List D)} (c : Fn X.prog X.w X.K X.mg X.base k x n g dds) (hn : lenOk n g) (hr : Room j X.A) (hk : k ≤ j) (hg : Gl X x) (hd : ∀ d ∈ dds, d.isS = true) (ha : NA X vs (e :: es) f)
    (hdb : (x == ("__debug__" : Str)) = false := by decide) (he : starEach (e :: es) X.env = (false, eval e X.env) :: starEach es X.env := by rfl) (hpl : (backTo pos (starEach es X.env)).any (·.1) = false := by rfl) :
    VE X (.Call (.Name x p) (e :: es) [] pos) (fun ρ => (nCall g dds f ρ).map fun r => (r, if r.1.isS then ρ else frz vs ρ)) :=
  ⟨(pe_fn c hr hk hg ha.pa hdb he hpl).imp fun σ H Q ⟨F, os, ρ, r, R, e, k⟩ => by
    obtain ⟨av, e1, rfl⟩ := Option.map_eq_some_iff.mp e
    refine ncall_core (vs := vs) hd hn R e1 fun v H' F' Lv s hL hF q nd => ?_
    by_cases hs : av.1.isS = true
    · have k := k v H' F' os []
      simp only [if_pos hs] at k
      exact k (s.step.weak (fun _ z => z) fun a z => z.elim .inl fun z => nomatch z) (R.ext0 s) (q.up hs) List.nodup_nil fun _ z => nomatch z
    · simp only [if_neg hs] at k
      obtain ⟨F2, os2, R2, s2, h1, h2⟩ := frz_rl vs (R.ext0 s)
      have far : ∀ a ∈ Lv, ¬ F2 a := fun a z w => by
        rcases s2.frz a w with w | ⟨i, w⟩ | w
        · exact hF a w z
        · obtain ⟨o, e⟩ := R.there w; rw [hL a z] at e; cases e
        · obtain ⟨o, e⟩ := q.there a z; rw [w] at e; cases e
      refine k v H' F2 os2 Lv ((s.step.trans s2).weak (fun _ z => z) fun a z => z.elim .inl fun z => .inr (.inr (hL a z))) R2 (q.ext h1 (fun _ _ _ z => z) (fun _ _ _ z => z) far) nd fun a z i w => ?_
      obtain ⟨o, e⟩ := R.there (h2 i a w)
      rw [hL a z] at e; cases e⟩
end
end Dv
/-! DvI: a def by its body; loops. -/
namespace Dv
open PySem PySem.Spec PyProof.Rows L2

/-! ### a def by its body -/
def outsF (pm : List Nat) (ρ : Ev) : Nat → List AV → Option (List AV)
  | _, [] => some []
  | i, a :: as => if i ∈ pm then (match ρ[i]? with
      | some (some b) => (outsF pm ρ (i + 1) as).map (b :: ·)
      | _ => none) else (outsF pm ρ (i + 1) as).map (a :: ·)
def okPm (pm : List Nat) : Nat → List AV → Bool
  | _, [] => true
  | i, a :: as => (decide (i ∈ pm) || a.2 == 0) && okPm pm (i + 1) as
def startE (nN : Nat) (as : List AV) : Ev := as.map some ++ List.replicate (nN - as.length) none
def runF (np nN : Nat) (pm : List Nat) (b : Ev → Option Out) : PF := fun as => if as.length = np ∧ okPm pm 0 as = true then (b (startE nN as)).bind fun o => match o with
    | .rt r ρ => (outsF pm ρ 0 as).map fun q => (r, q)
    | .nx ρ => (outsF pm ρ 0 as).map fun q => ((.non, 0), q)
    | _ => none
  else none
theorem runF_len {np nN : Nat} {pm : List Nat} {b : Ev → Option Out} : lenOk np (runF np nN pm b) := fun as r h => by
  unfold runF at h
  split at h
  · rename_i z; exact z.1
  · cases h
section
variable {K : PySem.W.Frag} {F F' : AS} {H H' : Hp} {vs : List V} {as : List AV} {Ls : List (List Addr)}
theorem RA.flat_mem (r : RA K F H vs as Ls) {a : Addr} (h : a ∈ Ls.flatten) : ∃ i : Nat, a ∈ Ls.getD i [] := by
  obtain ⟨L, h1, h2⟩ := List.mem_flatten.mp h
  obtain ⟨i, hi⟩ := List.mem_iff_getElem?.mp h1
  exact ⟨i, by rw [List.getD_eq_getElem?_getD, hi]; exact h2⟩
theorem getD_flat {Ls : List (List Addr)} {i : Nat} {a : Addr} (h : a ∈ Ls.getD i []) : a ∈ Ls.flatten := by
  rw [List.getD_eq_getElem?_getD] at h
  cases e : Ls[i]? with
  | none => rw [e] at h; exact nomatch h
  | some L => rw [e] at h; exact List.mem_flatten.mpr ⟨L, List.mem_of_getElem? e, h⟩
theorem flat_dj : ∀ {Ls : List (List Addr)}, Ls.flatten.Nodup → ∀ (i j : Nat) (a : Addr), a ∈ Ls.getD i [] → a ∈ Ls.getD j [] → i = j
  | [], _, i, j, a, h, _ => by simp at h
  | L :: Ls, nd, i, j, a, h1, h2 => by
    obtain ⟨_, m2, m3⟩ := List.nodup_append.mp (show (L ++ Ls.flatten).Nodup from nd)
    cases i with
    | zero =>
      cases j with
      | zero => rfl
      | succ j => exact absurd rfl (m3 a (by simpa using h1) a (getD_flat (by simpa using h2)))
    | succ i =>
      cases j with
      | zero => exact absurd rfl (m3 a (by simpa using h2) a (getD_flat (by simpa using h1)))
      | succ j => exact congrArg Nat.succ (flat_dj m2 i j a (by simpa using h1) (by simpa using h2))
theorem getD_nd : ∀ {Ls : List (List Addr)}, Ls.flatten.Nodup → ∀ i : Nat, (Ls.getD i []).Nodup
  | [], _, i => by simp
  | L :: Ls, nd, i => by
    obtain ⟨m1, m2, _⟩ := List.nodup_append.mp (show (L ++ Ls.flatten).Nodup from nd)
    cases i with
    | zero => simpa using m1
    | succ i => simpa using getD_nd m2 i
theorem start_rl {N : List Str} (hd : ∀ a, F a → ∃ o, H a = some o) (r : RA K F H vs as Ls) (nd : Ls.flatten.Nodup) (hl : vs.length ≤ N.length) : Rl K F (fun i => Ls.getD i []) (startE N.length as) (L2.start N vs) H := by
  have e1 := r.length
  have low : ∀ (i : Nat) (d : D) (n : Nat), (startE N.length as)[i]? = some (some (d, n)) → as[i]? = some (d, n) := fun i d n h => by
    unfold startE at h
    by_cases hi : i < as.length
    · rw [List.getElem?_append_left (by simpa using hi), List.getElem?_map] at h
      cases q : as[i]? with
      | none => rw [q] at h; cases h
      | some a => rw [q] at h; cases h; rfl
    · rw [List.getElem?_append_right (by simpa using hi), List.getElem?_replicate] at h
      split at h <;> cases h
  refine ⟨hd, fun i d n h => ?_, fun i h => ?_, getD_nd nd, flat_dj nd, ?_⟩
  · obtain ⟨v, L, h1, h2, q⟩ := r.get i (d, n) (low i d n h)
    refine ⟨v, ?_, ?_⟩
    · unfold L2.start
      have hi : i < vs.length := (List.getElem?_eq_some_iff.mp h1).1
      rw [List.getElem?_append_left (by simpa using hi), List.getElem?_map, h1]
      rfl
    · show R1 K F H v d n (Ls.getD i [])
      rw [List.getD_eq_getElem?_getD, h2]
      exact q
  · show Ls.getD i [] = []
    rw [List.getD_eq_getElem?_getD]
    cases q : Ls[i]? with
    | none => rfl
    | some L =>
      exfalso
      have hi : i < as.length := by rw [← e1.2]; exact (List.getElem?_eq_some_iff.mp q).1
      refine h as[i].1 as[i].2 ?_
      unfold startE
      rw [List.getElem?_append_left (by simpa using hi), List.getElem?_map, List.getElem?_eq_getElem hi]
      rfl
  · unfold startE L2.start
    simp only [List.length_append, List.length_map, List.length_replicate]
    rw [e1.1]
theorem okPm_get {pm : List Nat} : ∀ {as : List AV} {j : Nat}, okPm pm j as = true → ∀ (i : Nat) (a : AV), as[i]? = some a → (j + i) ∈ pm ∨ a.2 = 0
  | [], j, _, i, a, e => by simp at e
  | b :: as, j, h, i, a, e => by
    obtain ⟨h1, h2⟩ := (Bool.and_eq_true _ _).mp (show ((decide (j ∈ pm) || b.2 == 0) && okPm pm (j + 1) as) = true from h)
    cases i with
    | zero =>
      simp at e; subst e
      rcases (Bool.or_eq_true _ _).mp h1 with h1 | h1
      · exact .inl (of_decide_eq_true h1)
      · exact .inr (beq_iff_eq.mp h1)
    | succ i =>
      have := okPm_get h2 i a (by simpa using e)
      rw [show j + 1 + i = j + (i + 1) by omega] at this
      exact this
theorem outs_ra {pm : List Nat} {os : Nat → List Addr} {ρ : Ev} {σ : L2.St} {F' : AS} {H' : Hp} (R : Rl K F' os ρ σ H') : ∀ {as : List AV} {vs : List V} {outs : List AV} {j : Nat}, outsF pm ρ j as = some outs → vs.length = as.length →
    (∀ (i : Nat) v, vs[i]? = some v → (j + i) ∈ pm → σ[j + i]? = some (some v)) → (∀ (i : Nat) a v, as[i]? = some a → vs[i]? = some v → (j + i) ∉ pm → R1 K F' H' v a.1 a.2 []) →
    ∃ Ls, RA K F' H' vs outs Ls ∧ Ls.flatten.Nodup ∧ ∀ a ∈ Ls.flatten, ∃ i, j ≤ i ∧ a ∈ os i
  | [], vs, outs, j, h, hl, _, _ => by
    cases h
    cases vs with
    | nil => exact ⟨[], .nil, List.nodup_nil, fun a z => by simp at z⟩
    | cons => simp at hl
  | a :: as, [], outs, j, h, hl, _, _ => by simp at hl
  | a :: as, v :: vs, outs, j, h, hl, h1, h2 => by
    have h1' : ∀ (i : Nat) w, vs[i]? = some w → (j + 1 + i) ∈ pm → σ[j + 1 + i]? = some (some w) := fun i w e hm => by
      have := h1 (i + 1) w (by simpa using e) (by rw [show j + (i + 1) = j + 1 + i by omega]; exact hm)
      rw [show j + (i + 1) = j + 1 + i by omega] at this
      exact this
    have h2' : ∀ (i : Nat) b w, as[i]? = some b → vs[i]? = some w → (j + 1 + i) ∉ pm → R1 K F' H' w b.1 b.2 [] := fun i b w e e' hm => h2 (i + 1) b w (by simpa using e) (by simpa using e') (by rw [show j + (i + 1) = j + 1 + i by omega]; exact hm)
    unfold outsF at h
    split at h
    · rename_i hj
      split at h
      · rename_i b eb
        obtain ⟨outs', e1, rfl⟩ := Option.map_eq_some_iff.mp h
        obtain ⟨Ls, ra, nd, hm⟩ := outs_ra R e1 (by simpa using hl) h1' h2'
        obtain ⟨w, ew, q⟩ := R.slot j b.1 b.2 eb
        have ev := h1 0 v rfl hj
        rw [show j + 0 = j from rfl, ew] at ev
        cases ev
        refine ⟨os j :: Ls, .cons q ra, ?_, fun x z => ?_⟩
        · show (os j ++ Ls.flatten).Nodup
          refine List.nodup_append.mpr ⟨R.nd j, nd, fun x z y w e => ?_⟩
          subst e
          obtain ⟨i, hi, z2⟩ := hm x w
          have := R.dj j i x z z2
          omega
        · rcases List.mem_append.mp (show x ∈ os j ++ Ls.flatten from z) with z | z
          · exact ⟨j, Nat.le_refl j, z⟩
          · obtain ⟨i, hi, z⟩ := hm x z
            exact ⟨i, by omega, z⟩
      · cases h
    · rename_i hj
      obtain ⟨outs', e1, rfl⟩ := Option.map_eq_some_iff.mp h
      obtain ⟨Ls, ra, nd, hm⟩ := outs_ra R e1 (by simpa using hl) h1' h2'
      refine ⟨[] :: Ls, .cons (h2 0 a v rfl rfl hj) ra, nd, fun x z => ?_⟩
      obtain ⟨i, hi, z⟩ := hm x (show x ∈ Ls.flatten from z)
      exact ⟨i, by omega, z⟩
end
/-- THE RULE for a def -/
theorem fn_v {P : Program} {w : World} {K : PySem.W.Frag} {mg : Str → Option Value} {base : Heap} {x qual : Str} {st : Stmt} {f : Addr} {fd : FuncData} {N ps : List Str} {k np : Nat} (pm : List Nat) {b : Ev → Option Out} (F : Fun K x qual st f fd) (S : FnScope N ps (defScope st)) (hnp : ps.length = np) (hN : np ≤ N.length) (hpm : ∀ i ∈ pm, i < np)
    (hb : ∀ (cdv : Value) (A : Around) (outer : List Env) (s : Shared) (H : Hp) (E : XK), Room k (A.deeper (envOfC qual (defScope st) s.heap.objs.size f cdv)) → VSs (cxOf CX0 P w K mg base N qual (defScope st) f cdv A outer s H E).nox pm (defBody st) b) :
    FnOk P w K mg base CX0 (k + 1) f fd ps (spV K np (runF np N.length pm b)) := by
  refine F.ok S (fun vs H Q E h => by rw [hnp]; exact h.1) (fun cdv A outer s H vs Q E hr h => ?_)
  obtain ⟨hlen, F0, Ls, as, r, hd, ra, nd, e, kk⟩ := h
  refine ⟨_, (hb cdv A outer s H E hr).pss, ?_⟩
  unfold runF at e
  split at e
  · rename_i hok
    obtain ⟨o, e1, e2⟩ := Option.bind_eq_some_iff.mp e
    have R0 := start_rl (N := N) hd ra nd (by rw [hlen]; exact hN)
    -- the end
    have fin : ∀ {av : AV} {ρ' : Ev} {outs : List AV} {v : V} {σ' : L2.St} {H' : Hp} {F' : AS} {os' : Nat → List Addr} {Lv : List Addr}, outsF pm ρ' 0 as = some outs → r = (av, outs) → Step F0 (Own fun i => Ls.getD i []) H F' (fun a => Own os' a ∨ a ∈ Lv) H' → Rl K F' os' ρ' σ' H' → R1 K F' H' v av.1 av.2 Lv → Lv.Nodup → (∀ a ∈ Lv, ∀ i, a ∉ os' i) → Fix pm (L2.start N vs) σ' → Q v H' := by
      intro av ρ' outs v σ' H' F' os' Lv eo er s R q n dj fx
      subst er
      obtain ⟨Ls', ra', nd', hm⟩ := outs_ra (K := K) R eo ra.length.1 (fun i v hv hp => by
        have hi : i < vs.length := (List.getElem?_eq_some_iff.mp hv).1
        rw [Nat.zero_add] at hp ⊢
        rw [fx.2 i hp]
        unfold L2.start
        rw [List.getElem?_append_left (by simpa using hi), List.getElem?_map, hv]
        rfl) (fun i a v ha hv hp => by
        rw [Nat.zero_add] at hp
        have h0 : a.2 = 0 := by
          rcases okPm_get hok.2 i a ha with z | z
          · rw [Nat.zero_add] at z; exact absurd z hp
          · exact z
        obtain ⟨v', L, h1, h2, q'⟩ := ra.get i a ha
        rw [hv] at h1
        cases h1
        rw [h0] at q' ⊢
        have := q'.zero rfl
        subst this
        refine q'.ext s.mono (fun b o z h => s.keep b o h fun ⟨j, w⟩ => ?_) (fun _ _ z => nomatch z) fun _ z => nomatch z
        exact R0.noF w z)
      refine kk v H' F' Lv Ls' (s.weak (fun a ⟨j, z⟩ => getD_flat z) fun a z => ?_) q ra' (List.nodup_append.mpr ⟨n, nd', fun a z b w e => ?_⟩)
      · rcases z with z | z
        · exact .inl (.inr z)
        · obtain ⟨i, _, z⟩ := hm a z
          exact .inl (.inl ⟨i, z⟩)
      · subst e
        obtain ⟨i, _, w⟩ := hm a w
        exact dj a z i w
    refine ⟨F0, _, _, o, R0, e1, ?_⟩
    cases o with
    | rt av ρ' =>
      obtain ⟨outs, e3, e4⟩ := Option.map_eq_some_iff.mp e2
      exact fun v σ' H' F' os' Lv s R q n dj fx => fin e3 e4.symm s R q n dj fx
    | nx ρ' =>
      obtain ⟨outs, e3, e4⟩ := Option.map_eq_some_iff.mp e2
      exact fun σ' H' F' os' s R fx => fin (Lv := []) e3 e4.symm (s.weak (fun _ z => z) fun a z => z.elim .inl fun z => nomatch z) R .non List.nodup_nil (fun _ z => nomatch z) fx
    | bk ρ' => cases e2
    | ct ρ' => cases e2
  · cases e
/-- .. as it is called -/
theorem fn_mk {P : Program} {w : World} {K : PySem.W.Frag} {mg : Str → Option Value} {base : Heap} {x qual : Str} {st : Stmt} {f : Addr} {fd : FuncData} {ps : List Str} {k np : Nat} {g : PF} (F : Fun K x qual st f fd) (G : FnOk P w K mg base CX0 k f fd ps (spV K np g)) (hg : mg x = some (.ref f)) (hb : Binds K fd ps []) : Fn P w K mg base k x np g [] :=
  ⟨f, fd, ps, [], G, hg, F.kp, hb, .nil⟩

/-! ### what a loop walks -/
structure Wlk (K : PySem.W.Frag) (ds : List D) (J : It) (kp : AS → Hp → Prop) : Prop where
  stay : ∀ {F O H F' O' H'}, kp F H → Step F O H F' O' H' → (∀ a, O a → ¬ F a) → kp F' H'
  go : ∀ {F H}, kp F H → (∀ a, F a → ∃ o, H a = some o) → ∀ i d, ds[i]? = some d → J.go i H ∧ ∀ x H', J.yld i H x H' → ∃ F', Ext F H F' H' ∧ R1 K F' H' x d 0 []
  stop : ∀ {F H}, kp F H → J.stop ds.length H
def tI (K : PySem.W.Frag) (f : Ev → Option (List D × Ev)) : TI := fun σ H R => ∃ F os ρ r, Rl K F os ρ σ H ∧ f ρ = some r ∧
  ∀ J kp H' F' os', Step F (Own os) H F' (Own os') H' → Rl K F' os' r.2 σ H' → Wlk K r.1 J kp → kp F' H' → R J H'
structure VI (X : Cx) (tg iter : Expr) (f : Ev → Option (List D × Ev)) : Prop where
  pi : PI X tg iter (tI X.K f)
section
variable {X : Cx} {tg e : Expr} {pos p : Pos} {a c : Expr}
def iLst (g : Ev → Option (AV × Ev)) : Ev → Option (List D × Ev) := fun ρ => (g ρ).bind fun r => match r.1.1 with
  | .lst ds => some (ds, r.2)
  | _ => none
theorem frz_all {K : PySem.W.Frag} {F F1 : AS} {H H1 : Hp} {os os1 : Nat → List Addr} {ρ : Ev} {σ : L2.St} {v : V} {d : D} {n : Nat} {L : List Addr} (s : Step F (Own os) H F1 (fun a => Own os1 a ∨ a ∈ L) H1) (R : Rl K F1 os1 ρ σ H1) (q : R1 K F1 H1 v d n L) (dj : ∀ a ∈ L, ∀ i, a ∉ os1 i) :
    Step F (Own os) H (fun a => F1 a ∨ a ∈ L) (Own os1) H1 ∧ Rl K (fun a => F1 a ∨ a ∈ L) os1 ρ σ H1 ∧ R1 K (fun a => F1 a ∨ a ∈ L) H1 v d 0 [] :=
  ⟨s.trans (Step.moreF (fun _ z => .inl z) (fun a z => z.elim .inl fun z => .inr ⟨.inr z, q.there a z⟩) fun _ z => .inl z), R.moreF (fun _ z => .inl z) (fun a z => z.elim .inl fun z => .inr ⟨q.there a z, dj a z⟩), q.freeze (fun _ z => .inl z) fun _ z => .inr z⟩
theorem vi_list {g : Ev → Option (AV × Ev)} (h : VE X e g) : VI X tg e (iLst g) := ⟨(pi_list h.pe).imp fun σ H R ⟨F, os, ρ, r, Rr, e, k⟩ => by
  obtain ⟨⟨⟨d, m⟩, ρ1⟩, e1, e2⟩ := Option.bind_eq_some_iff.mp e
  cases d <;> first | (cases e2; done) | skip
  cases e2
  rename_i ds
  refine ⟨F, os, ρ, _, Rr, e1, fun v H1 F1 os1 L1 s1 R1' q1 n1 dj1 => ?_⟩
  obtain ⟨s2, R2, q2⟩ := frz_all s1 R1' q1 dj1
  obtain ⟨b, xs, rfl, hq, q⟩ := R1.lst0 q2
  refine ⟨b, rfl, ⟨xs, hq.sq⟩, k _ (fun F H => R1 X.K F H (.ref b) (.lst ds) 0 []) H1 _ os1 s2 R2 ⟨fun z s hO => z.ext s.mono (fun a o w h => s.keep a o h fun y => hO a y w) (fun _ _ z => nomatch z) fun _ z => (nomatch z), fun z hd i d hi => ?_, fun z => ?_⟩ q2⟩
  · obtain ⟨b', ys, eb, hq', q'⟩ := R1.lst0 z
    cases eb
    obtain ⟨v, ev, qv⟩ := q'.get0 hi
    refine ⟨⟨ys, v, hq'.sq, ev⟩, fun x H' hy => ?_⟩
    obtain ⟨rfl, hy⟩ := hy
    have ex := hy ys hq'.sq
    rw [ev] at ex
    cases ex
    exact ⟨_, .refl, qv⟩
  · obtain ⟨b', ys, eb, hq', q'⟩ := R1.lst0 z
    cases eb
    exact ⟨ys, hq'.sq, Nat.le_of_eq q'.length⟩⟩
def iTupl (g : Ev → Option (AV × Ev)) : Ev → Option (List D × Ev) := fun ρ => (g ρ).bind fun r => match r.1.1 with
  | .tup ds => some (ds, r.2)
  | _ => none
theorem vi_tup {g : Ev → Option (AV × Ev)} (h : VE X e g) : VI X tg e (iTupl g) := ⟨(pi_tup h.pe).imp fun σ H R ⟨F, os, ρ, r, Rr, e, k⟩ => by
  obtain ⟨⟨⟨d, m⟩, ρ1⟩, e1, e2⟩ := Option.bind_eq_some_iff.mp e
  cases d <;> first | (cases e2; done) | skip
  cases e2
  rename_i ds
  refine ⟨F, os, ρ, _, Rr, e1, fun v H1 F1 os1 L1 s1 R1' q1 n1 dj1 => ?_⟩
  obtain ⟨s2, R2, q2⟩ := frz_all s1 R1' q1 dj1
  obtain ⟨b, xs, rfl, hq, q⟩ := R1.tup0 q2
  refine ⟨b, rfl, ⟨xs, hq.sq⟩, k _ (fun F H => R1 X.K F H (.ref b) (.tup ds) 0 []) H1 _ os1 s2 R2 ⟨fun z s hO => z.ext s.mono (fun a o w h => s.keep a o h fun y => hO a y w) (fun _ _ z => nomatch z) fun _ z => (nomatch z), fun z hd i d hi => ?_, fun z => ?_⟩ q2⟩
  · obtain ⟨b', ys, eb, hq', q'⟩ := R1.tup0 z
    cases eb
    obtain ⟨v, ev, qv⟩ := q'.get0 hi
    refine ⟨⟨ys, v, hq'.sq, ev⟩, fun x H' hy => ?_⟩
    obtain ⟨rfl, hy⟩ := hy
    have ex := hy ys hq'.sq
    rw [ev] at ex
    cases ex
    exact ⟨_, .refl, qv⟩
  · obtain ⟨b', ys, eb, hq', q'⟩ := R1.tup0 z
    cases eb
    exact ⟨ys, hq'.sq, Nat.le_of_eq q'.length⟩⟩
/-- the ints of a range -/
def rng (lo hi : Int) : List D := (List.range (hi - lo).toNat).map fun i : Nat => .int (lo + i)
def bnd (i : Int) : Bool := decide (-(2 ^ 62) ≤ i ∧ i < 2 ^ 62)
theorem wlk_rng (K : PySem.W.Frag) (lo hi : Int) : Wlk K (rng lo hi) (Itr lo (hi - lo).toNat) (fun _ _ => True) where
  stay := fun _ _ _ => trivial
  go := fun {F H} _ _ i d hi => by
    unfold rng at hi
    rw [List.getElem?_map] at hi
    obtain ⟨j, e1, e2⟩ := Option.map_eq_some_iff.mp hi
    obtain ⟨h1, h2⟩ := List.getElem?_eq_some_iff.mp e1
    rw [List.getElem_range] at h2
    subst h2 e2
    refine ⟨?_, fun x H' hy => ?_⟩
    · rw [List.length_range] at h1; exact h1
    · obtain ⟨rfl, rfl⟩ := hy
      exact ⟨F, .refl, .int _⟩
  stop := fun _ => by
    show (hi - lo).toNat ≤ _
    unfold rng
    rw [List.length_map, List.length_range]
    exact Nat.le_refl _
def iRg1 (f : Ev → Option (List D × Ev)) : Ev → Option (List D × Ev) := fun ρ => (f ρ).bind fun r => match r.1 with
  | [.int j] => if bnd j = true then some (rng 0 j, r.2) else none
  | _ => none
def iRg2 (f : Ev → Option (List D × Ev)) : Ev → Option (List D × Ev) := fun ρ => (f ρ).bind fun r => match r.1 with
  | [.int i, .int j] => if bnd i = true ∧ bnd j = true then some (rng i j, r.2) else none
  | _ => none
theorem vi_rng1 {f : Ev → Option (List D × Ev)} (hg : Gl X "range") (hm : X.mg "range" = none) (ha : VA X 0 [a] f) (hs : starEach [a] X.env = [(false, eval a X.env)] := by rfl) : VI X tg (.Call (.Name "range" p) [a] [] pos) (iRg1 f) :=
  ⟨(pi_range1 hg hm ha.pa hs).imp fun σ H R ⟨F, os, ρ, r, Rr, e, k⟩ => by
    obtain ⟨⟨ds, ρ1⟩, e1, e2⟩ := Option.bind_eq_some_iff.mp e
    split at e2
    · split at e2
      · rename_i j ej hb
        subst ej
        cases e2
        refine ⟨F, os, ρ, _, Rr, e1, fun xs H1 F1 os1 L1 s1 R1' q1 n1 dj1 => ?_⟩
        have q1' := q1.zero rfl
        subst q1'
        obtain ⟨x, rfl, qx⟩ := Rs.one_inv q1
        cases qx
        have hb := of_decide_eq_true hb
        refine ⟨j, rfl, hb.1, hb.2, k _ (fun _ _ => True) H1 F1 os1 (s1.weak (fun _ z => z) fun a z => .inl (.inl z)) R1' ?_ trivial⟩
        have := wlk_rng X.K 0 j
        rw [Int.sub_zero] at this
        exact this
      · cases e2
    · cases e2⟩
theorem vi_rng2 {f : Ev → Option (List D × Ev)} (hg : Gl X "range") (hm : X.mg "range" = none) (ha : VA X 0 [a, c] f) (hs : starEach [a, c] X.env = [(false, eval a X.env), (false, eval c X.env)] := by rfl) (hs2 : starEach [c] X.env = [(false, eval c X.env)] := by rfl) : VI X tg (.Call (.Name "range" p) [a, c] [] pos) (iRg2 f) :=
  ⟨(pi_range2 hg hm ha.pa hs hs2).imp fun σ H R ⟨F, os, ρ, r, Rr, e, k⟩ => by
    obtain ⟨⟨ds, ρ1⟩, e1, e2⟩ := Option.bind_eq_some_iff.mp e
    split at e2
    · split at e2
      · rename_i i j ej hb
        subst ej
        cases e2
        refine ⟨F, os, ρ, _, Rr, e1, fun xs H1 F1 os1 L1 s1 R1' q1 n1 dj1 => ?_⟩
        have q1' := q1.zero rfl
        subst q1'
        obtain ⟨x, y, rfl, qx, qy⟩ := Rs.two_inv q1
        cases qx
        cases qy
        have hb1 := of_decide_eq_true hb.1
        have hb2 := of_decide_eq_true hb.2
        exact ⟨i, j, rfl, ⟨hb1.1, hb1.2, hb2.1, hb2.2⟩, k _ (fun _ _ => True) H1 F1 os1 (s1.weak (fun _ z => z) fun a z => .inl (.inl z)) R1' (wlk_rng X.K i j) trivial⟩
      · cases e2
    · cases e2⟩

/-! ### targets -/
def tG (K : PySem.W.Frag) (pm : List Nat) (b : D → Ev → Option Ev) : TG := fun v σ H Q => ∃ F os ρ d ρ', Rl K F os ρ σ H ∧ R1 K F H v d 0 [] ∧ b d ρ = some ρ' ∧ ∀ σ' os', Step F (Own os) H F (Own os') H → Rl K F os' ρ' σ' H → Fix pm σ σ' → Q σ' H
structure VG (X : Cx) (pm : List Nat) (tg : Expr) (b : D → Ev → Option Ev) : Prop where
  pg : PG X tg (tG X.K pm b)
def gNm (i : Nat) : D → Ev → Option Ev := fun d ρ => putE i ((d, 0), ρ)
theorem _root_.L2.PG.imp {X : Cx} {e : Expr} {t t' : TG} (h : PG X e t) (w : ∀ v σ H Q, t' v σ H Q → t v σ H Q) : PG X e t' := ⟨fun pins s σ H v u Q I r q => h.run pins s σ H v u Q I r (w v σ H Q q)⟩
theorem _root_.L2.PGs.imp {X : Cx} {e : List Expr} {t t' : TGs} (h : PGs X e t) (w : ∀ v σ H Q, t' v σ H Q → t v σ H Q) : PGs X e t' := ⟨fun pins s σ H v u Q I r q => h.run pins s σ H v u Q I r (w v σ H Q q)⟩
theorem vg_name {pm : List Nat} (i : Nat) {x : Str} (hN : X.N.Nodup) (hi : X.N[i]? = some x) (hx : Loc X.env.scope x) (hf : X.fn x = true ∨ X.env.scope.names.lookup x = some .local := by first | exact .inl rfl | exact .inr rfl | assumption) (hp : i ∉ pm := by decide) : VG X pm (.Name x pos) (gNm i) :=
  ⟨(pg_name hN hi hx hf).imp fun v σ H Q ⟨F, os, ρ, d, ρ', R, q, e, k⟩ => by
    obtain ⟨os', s', R', f'⟩ := put_ok (L := []) (F := F) (H := H) (O := Own os) hp e (Step.refl.weak (fun _ z => z) fun a z => z.elim .inl fun z => nomatch z) R q List.nodup_nil fun _ z => nomatch z
    exact k _ os' s' R' f'⟩
def tGs (K : PySem.W.Frag) (pm : List Nat) (b : List D → Ev → Option Ev) : TGs := fun vs σ H Q => ∃ F os ρ ds ρ', Rl K F os ρ σ H ∧ Rs K F H vs ds 0 [] ∧ b ds ρ = some ρ' ∧ ∀ σ' os', Step F (Own os) H F (Own os') H → Rl K F os' ρ' σ' H → Fix pm σ σ' → Q σ' H
structure VGs (X : Cx) (pm : List Nat) (tg : List Expr) (b : List D → Ev → Option Ev) : Prop where
  pgs : PGs X tg (tGs X.K pm b)
def gsNil : List D → Ev → Option Ev
  | [], ρ => some ρ
  | _, _ => none
def gsCons (b : D → Ev → Option Ev) (c : List D → Ev → Option Ev) : List D → Ev → Option Ev
  | d :: ds, ρ => (b d ρ).bind (c ds)
  | _, _ => none
theorem vgs_nil {pm : List Nat} : VGs X pm [] gsNil := ⟨pgs_nil.imp fun v σ H Q ⟨F, os, ρ, ds, ρ', R, q, e, k⟩ => by
  cases ds with
  | nil => cases q; cases e; exact ⟨rfl, k σ os .refl R .refl⟩
  | cons => cases e⟩
theorem vgs_cons {pm : List Nat} {es : List Expr} {b : D → Ev → Option Ev} {c : List D → Ev → Option Ev} (h1 : VG X pm e b) (h2 : VGs X pm es c) (hs : (assignEach (e :: es) X.env).map (·.2) = assign e X.env :: (assignEach es X.env).map (·.2) := by rfl) : VGs X pm (e :: es) (gsCons b c) :=
  ⟨(pgs_cons h1.pg h2.pgs hs).imp fun vs σ H Q ⟨F, os, ρ, ds, ρ', R, q, e, k⟩ => by
    cases ds with
    | nil => cases e
    | cons d ds =>
      obtain ⟨ρ1, e1, e2⟩ := Option.bind_eq_some_iff.mp (show (b d ρ).bind (c ds) = some ρ' from e)
      cases vs with
      | nil => cases q
      | cons v vs =>
        obtain ⟨L1, L2, eL, r1, r2⟩ := q.cons_inv
        obtain ⟨rfl, rfl⟩ : L1 = [] ∧ L2 = [] := by simpa using eL.symm
        exact ⟨v, vs, rfl, F, os, ρ, d, ρ1, R, r1, e1, fun σ1 os1 s1 R1 f1 => ⟨F, os1, ρ1, ds, ρ', R1, r2, e2, fun σ2 os2 s2 R2 f2 => k σ2 os2 (s1.trans s2) R2 (f1.trans f2)⟩⟩⟩
def gTupl (n : Nat) (b : List D → Ev → Option Ev) : D → Ev → Option Ev
  | .tup ds, ρ => if ds.length = n then b ds ρ else none
  | _, _ => none
theorem vg_tup {pm : List Nat} {es : List Expr} {k : Nat} {n : Nat} {b : List D → Ev → Option Ev} (hc : X.calm = true) (h : VGs X pm es b) (hn : (assignEach es X.env).length = n := by rfl) (hst : (assignEach es X.env).findIdx? (·.1) = none := by rfl) : VG X pm (.Tuple es k pos) (gTupl n b) :=
  ⟨(pg_tup hc h.pgs hn hst).imp fun v σ H Q ⟨F, os, ρ, d, ρ', R, q, e, k⟩ => by
    cases d <;> first | (cases e; done) | skip
    rename_i ds
    have e : (if ds.length = n then b ds ρ else none) = some ρ' := e
    split at e
    · rename_i hl
      obtain ⟨a, xs, rfl, hq, qs⟩ := R1.tup0 q
      exact ⟨a, xs, rfl, hq.sq, qs.length.trans hl, F, os, ρ, ds, ρ', R, qs, e, k⟩
    · cases e⟩
def gLstl (n : Nat) (b : List D → Ev → Option Ev) : D → Ev → Option Ev
  | .lst ds, ρ => if ds.length = n then b ds ρ else none
  | _, _ => none
theorem vg_unl {pm : List Nat} {es : List Expr} {k : Nat} {n : Nat} {b : List D → Ev → Option Ev} (hc : X.calm = true) (h : VGs X pm es b) (hn : (assignEach es X.env).length = n := by rfl) (hst : (assignEach es X.env).findIdx? (·.1) = none := by rfl) : VG X pm (.Tuple es k pos) (gLstl n b) :=
  ⟨(pg_unl hc h.pgs hn hst).imp fun v σ H Q ⟨F, os, ρ, d, ρ', R, q, e, k⟩ => by
    cases d <;> first | (cases e; done) | skip
    rename_i ds
    have e : (if ds.length = n then b ds ρ else none) = some ρ' := e
    split at e
    · rename_i hl
      obtain ⟨a, xs, rfl, hq, qs⟩ := R1.lst0 q
      exact ⟨a, xs, rfl, hq.sq, qs.length.trans hl, F, os, ρ, ds, ρ', R, qs, e, k⟩
    · cases e⟩
/-- a, b = e -/
def sAsg (b : D → Ev → Option Ev) (f : Ev → Option (AV × Ev)) : Ev → Option Out := fun ρ => (f ρ).bind fun r => (b r.1.1 r.2).map .nx
theorem vs_asg {pm : List Nat} {b : D → Ev → Option Ev} {f : Ev → Option (AV × Ev)} (he : VE X e f) (hg : VG X pm tg b) (hs : swapsWithSole [tg] e pos.line X.env = pure false := by rfl) (hw : swappedStores [tg] e X.env = pure none := by rfl) (h1 : (assignEach [tg] X.env).map (·.2) = [assign tg X.env] := by rfl) :
    VS X pm (.Assign [tg] e pos) (sAsg b f) := ⟨(ps_asg he.pe hg.pg hs hw h1).imp fun D σ H ⟨F, os, ρ, o, R, e, k⟩ => by
  obtain ⟨r, e1, e2⟩ := Option.bind_eq_some_iff.mp e
  obtain ⟨ρ', e3, rfl⟩ := Option.map_eq_some_iff.mp e2
  refine ⟨F, os, ρ, r, R, e1, fun v H' F' os' Lv s R' q n dj => ?_⟩
  obtain ⟨s2, R2, q2⟩ := frz_all s R' q dj
  exact ⟨_, os', r.2, _, ρ', R2, q2, e3, fun σ1 os1 s1 R1 f1 => k σ1 H' _ os1 (s2.trans s1) R1 f1⟩⟩

/-! ### for, while -/
def forL (b : D → Ev → Option Ev) (g : Ev → Option Out) : List D → Ev → Option Out
  | [], ρ => some (.nx ρ)
  | d :: ds, ρ => (b d ρ).bind fun ρ1 => (g ρ1).bind fun o => match o with
    | .nx ρ2 => forL b g ds ρ2
    | .ct ρ2 => forL b g ds ρ2
    | .bk ρ2 => some (.nx ρ2)
    | .rt v ρ2 => some (.rt v ρ2)
def sFor (i : Ev → Option (List D × Ev)) (b : D → Ev → Option Ev) (g : Ev → Option Out) : Ev → Option Out := fun ρ => (i ρ).bind fun r => forL b g r.1 r.2
theorem vs_for {pm : List Nat} {body : List Stmt} {i : Ev → Option (List D × Ev)} {b : D → Ev → Option Ev} {g : Ev → Option Out} (hp : PassesOwn (model X.prog X.w) X.A X.env X.xe) (hc : X.calm = true) (hi : VI X tg e i) (hg : VG X pm tg b) (hb : VSs X pm body g)
    (hs : ∀ x, foldedSetIterable e X.env x = pure x := by intro _; rfl) : VS X pm (.For tg e body [] pos) (sFor i b g) := ⟨(ps_for hp hc hi.pi hg.pg hb.pss hs).imp fun D σ0 H0 ⟨F0, os0, ρ0, o, R0, e, k⟩ => by
  obtain ⟨⟨ds, ρ1⟩, e1, e2⟩ := Option.bind_eq_some_iff.mp e
  refine ⟨F0, os0, ρ0, _, R0, e1, fun J kp H1 F1 os1 s1 R1 wl k1 => ?_⟩
  refine ⟨fun i m σ H => ∃ F os ρ, Step F1 (Own os1) H1 F (Own os) H ∧ Rl X.K F os ρ σ H ∧ Fix pm σ0 σ ∧ kp F H ∧ m + i = ds.length ∧ forL b g (ds.drop i) ρ = some o, ⟨ds.length, F1, os1, ρ1, .refl, R1, .refl, k1, rfl, e2⟩, ?_⟩
  rintro i m σ H ⟨F, os, ρ, s2, R2, f2, k2, hm, e3⟩
  by_cases hi : i < ds.length
  · have hd : ds[i]? = some ds[i] := List.getElem?_eq_getElem hi
    rw [List.drop_eq_getElem_cons hi] at e3
    obtain ⟨ρ2, e4, e5⟩ := Option.bind_eq_some_iff.mp (show (b ds[i] ρ).bind _ = some o from e3)
    obtain ⟨o1, e6, e7⟩ := Option.bind_eq_some_iff.mp e5
    obtain ⟨go, yl⟩ := wl.go k2 R2.dom i ds[i] hd
    refine .inr ⟨go, fun σ' H' => ∃ F os ρ, Step F1 (Own os1) H1 F (Own os) H' ∧ Rl X.K F os ρ σ' H' ∧ Fix pm σ0 σ' ∧ kp F H' ∧ forL b g (ds.drop (i + 1)) ρ = some o, ?_, fun x H2 hy => ?_⟩
    · rintro σ' H' ⟨F', os', ρ', a1, a2, a3, a4, a5⟩
      exact ⟨m - 1, by omega, F', os', ρ', a1, a2, a3, a4, by omega, a5⟩
    · obtain ⟨F2, s3, q⟩ := yl x H2 hy
      have R3 := R2.ext0 s3
      have k3 := wl.stay k2 s3 fun _ z => z.elim
      refine ⟨F2, os, ρ, ds[i], ρ2, R3, q, e4, fun σ3 os3 s4 R4 f4 => ⟨F2, os3, ρ2, o1, R4, e6, ?_⟩⟩
      have k4 := wl.stay k3 s4 fun a ⟨j, z⟩ => R3.noF z
      have st := (s2.trans s3.step).trans s4
      cases o1 with
      | nx ρ3 => exact fun σ4 H4 F4 os4 s5 R5 f5 => ⟨F4, os4, ρ3, st.trans s5, R5, (f2.trans f4).trans f5, wl.stay k4 s5 (fun a ⟨j, z⟩ => R4.noF z), e7⟩
      | ct ρ3 => exact fun σ4 H4 F4 os4 s5 R5 f5 => ⟨F4, os4, ρ3, st.trans s5, R5, (f2.trans f4).trans f5, wl.stay k4 s5 (fun a ⟨j, z⟩ => R4.noF z), e7⟩
      | bk ρ3 =>
        cases e7
        exact fun σ4 H4 F4 os4 s5 R5 f5 => k σ4 H4 F4 os4 (s1.trans (st.trans s5)) R5 ((f2.trans f4).trans f5)
      | rt v ρ3 =>
        cases e7
        exact fun v σ4 H4 F4 os4 L4 s5 R5 q5 n5 d5 f5 => k v σ4 H4 F4 os4 L4 (s1.trans (st.trans s5)) R5 q5 n5 d5 ((f2.trans f4).trans f5)
  · have ei : i = ds.length := by omega
    subst ei
    rw [List.drop_length] at e3
    cases e3
    exact .inl ⟨wl.stop k2, k σ H F os (s1.trans s2) R2 f2⟩⟩
def whileL (t : Ev → Option (Bool × Ev)) (g : Ev → Option Out) : Nat → Ev → Option Out
  | 0, _ => none
  | n + 1, ρ => (t ρ).bind fun r => if r.1 then (g r.2).bind fun o => match o with
      | .nx ρ2 => whileL t g n ρ2
      | .ct ρ2 => whileL t g n ρ2
      | .bk ρ2 => some (.nx ρ2)
      | .rt v ρ2 => some (.rt v ρ2)
    else some (.nx r.2)
theorem vs_while {pm : List Nat} {body : List Stmt} {t : Ev → Option (Bool × Ev)} {g : Ev → Option Out} (n : Ev → Nat) (hp : PassesOwn (model X.prog X.w) X.A X.env X.xe) (ht : VT X e t) (hb : VSs X pm body g) : VS X pm (.While e body [] pos) (fun ρ => whileL t g (n ρ) ρ) := ⟨(ps_while hp ht.pt hb.pss).imp fun D σ0 H0 ⟨F0, os0, ρ0, o, R0, e, k⟩ => by
  refine ⟨fun m σ H => ∃ F os ρ, Step F0 (Own os0) H0 F (Own os) H ∧ Rl X.K F os ρ σ H ∧ Fix pm σ0 σ ∧ whileL t g m ρ = some o, ⟨n ρ0, F0, os0, ρ0, .refl, R0, .refl, e⟩, ?_⟩
  rintro m σ H ⟨F, os, ρ, s1, R1, f1, e1⟩
  cases m with
  | zero => cases e1
  | succ m =>
    obtain ⟨⟨b, ρ1⟩, e2, e3⟩ := Option.bind_eq_some_iff.mp (show (t ρ).bind _ = some o from e1)
    refine ⟨F, os, ρ, _, R1, e2, fun H2 F2 os2 s2 R2 => ?_⟩
    cases b with
    | true =>
      simp only [if_true] at e3 ⊢
      obtain ⟨o1, e4, e5⟩ := Option.bind_eq_some_iff.mp e3
      refine ⟨fun σ' H' => ∃ F os ρ, Step F0 (Own os0) H0 F (Own os) H' ∧ Rl X.K F os ρ σ' H' ∧ Fix pm σ0 σ' ∧ whileL t g m ρ = some o, fun σ' H' w => ⟨m, Nat.lt_succ_self m, w⟩, F2, os2, ρ1, o1, R2, e4, ?_⟩
      have st := s1.trans s2
      cases o1 with
      | nx ρ3 => exact fun σ4 H4 F4 os4 s5 R5 f5 => ⟨F4, os4, ρ3, st.trans s5, R5, f1.trans f5, e5⟩
      | ct ρ3 => exact fun σ4 H4 F4 os4 s5 R5 f5 => ⟨F4, os4, ρ3, st.trans s5, R5, f1.trans f5, e5⟩
      | bk ρ3 =>
        cases e5
        exact fun σ4 H4 F4 os4 s5 R5 f5 => k σ4 H4 F4 os4 (st.trans s5) R5 (f1.trans f5)
      | rt v ρ3 =>
        cases e5
        exact fun v σ4 H4 F4 os4 L4 s5 R5 q5 n5 d5 f5 => k v σ4 H4 F4 os4 L4 (st.trans s5) R5 q5 n5 d5 (f1.trans f5)
    | false =>
      simp only [Bool.false_eq_true, if_false] at e3 ⊢
      cases e3
      exact k σ H2 F2 os2 (s1.trans s2) R2 f1⟩
end
end Dv
/-! DvJ: comprehensions. -/
namespace Dv
open PySem PySem.Spec PyProof.Rows L2

/-! ### what a comprehension walks, where nothing changes -/
def tNI (K : PySem.W.Frag) (vs : List Nat) (f : Ev → Option (List D)) : TI := fun σ H R => ∃ F os ρ ds, Rl K F os ρ σ H ∧ f ρ = some ds ∧
  ∀ J kp H' F', Ext F H F' H' → Wlk K ds J kp → kp (Gs F' os vs) H' → R J H'
structure NI (X : Cx) (vs : List Nat) (tg iter : Expr) (f : Ev → Option (List D)) : Prop where
  pi : PI X tg iter (tNI X.K vs f)
section
variable {X : Cx} {tg e : Expr} {pos p : Pos} {a c : Expr} {vs : List Nat}
def niL (g : Ev → Option D) : Ev → Option (List D) := fun ρ => (g ρ).bind fun d => match d with
  | .lst ds => some ds
  | _ => none
def niT (g : Ev → Option D) : Ev → Option (List D) := fun ρ => (g ρ).bind fun d => match d with
  | .tup ds => some ds
  | _ => none
theorem wlk_lst (K : PySem.W.Frag) (b : Addr) (ds : List D) : Wlk K ds (Itl K b) (fun F H => R1 K F H (.ref b) (.lst ds) 0 []) :=
  ⟨fun z s hO => z.ext s.mono (fun a o w h => s.keep a o h fun y => hO a y w) (fun _ _ z => nomatch z) fun _ z => (nomatch z), fun {F H} z hd i d hi => by
    obtain ⟨b', ys, eb, hq', q'⟩ := R1.lst0 z
    cases eb
    obtain ⟨v, ev, qv⟩ := q'.get0 hi
    refine ⟨⟨ys, v, hq'.sq, ev⟩, fun x H' hy => ?_⟩
    obtain ⟨rfl, hy⟩ := hy
    have ex := hy ys hq'.sq
    rw [ev] at ex
    cases ex
    exact ⟨_, .refl, qv⟩, fun {F H} z => by
    obtain ⟨b', ys, eb, hq', q'⟩ := R1.lst0 z
    cases eb
    exact ⟨ys, hq'.sq, Nat.le_of_eq q'.length⟩⟩
theorem wlk_tup (K : PySem.W.Frag) (b : Addr) (ds : List D) : Wlk K ds (Itt K b) (fun F H => R1 K F H (.ref b) (.tup ds) 0 []) :=
  ⟨fun z s hO => z.ext s.mono (fun a o w h => s.keep a o h fun y => hO a y w) (fun _ _ z => nomatch z) fun _ z => (nomatch z), fun {F H} z hd i d hi => by
    obtain ⟨b', ys, eb, hq', q'⟩ := R1.tup0 z
    cases eb
    obtain ⟨v, ev, qv⟩ := q'.get0 hi
    refine ⟨⟨ys, v, hq'.sq, ev⟩, fun x H' hy => ?_⟩
    obtain ⟨rfl, hy⟩ := hy
    have ex := hy ys hq'.sq
    rw [ev] at ex
    cases ex
    exact ⟨_, .refl, qv⟩, fun {F H} z => by
    obtain ⟨b', ys, eb, hq', q'⟩ := R1.tup0 z
    cases eb
    exact ⟨ys, hq'.sq, Nat.le_of_eq q'.length⟩⟩
theorem ni_list {g : Ev → Option D} (h : NE X vs e g) : NI X vs tg e (niL g) := ⟨(pi_list h.pe).imp fun σ H R ⟨F, os, ρ, r, Rr, e, k⟩ => by
  obtain ⟨d, e1, e2⟩ := Option.bind_eq_some_iff.mp e
  cases d <;> first | (cases e2; done) | skip
  cases e2
  refine ⟨F, os, ρ, _, Rr, e1, fun v H1 F1 s1 q1 => ?_⟩
  obtain ⟨b, xs, rfl, hq, q⟩ := R1.lst0 q1
  exact ⟨b, rfl, ⟨xs, hq.sq⟩, k _ _ H1 F1 s1 (wlk_lst X.K b _) q1⟩⟩
theorem ni_tup {g : Ev → Option D} (h : NE X vs e g) : NI X vs tg e (niT g) := ⟨(pi_tup h.pe).imp fun σ H R ⟨F, os, ρ, r, Rr, e, k⟩ => by
  obtain ⟨d, e1, e2⟩ := Option.bind_eq_some_iff.mp e
  cases d <;> first | (cases e2; done) | skip
  cases e2
  refine ⟨F, os, ρ, _, Rr, e1, fun v H1 F1 s1 q1 => ?_⟩
  obtain ⟨b, xs, rfl, hq, q⟩ := R1.tup0 q1
  exact ⟨b, rfl, ⟨xs, hq.sq⟩, k _ _ H1 F1 s1 (wlk_tup X.K b _) q1⟩⟩
def nRg1 (f : Ev → Option (List D)) : Ev → Option (List D) := fun ρ => (f ρ).bind fun r => match r with
  | [.int j] => if bnd j = true then some (rng 0 j) else none
  | _ => none
def nRg2 (f : Ev → Option (List D)) : Ev → Option (List D) := fun ρ => (f ρ).bind fun r => match r with
  | [.int i, .int j] => if bnd i = true ∧ bnd j = true then some (rng i j) else none
  | _ => none
theorem ni_rng1 {f : Ev → Option (List D)} (hg : Gl X "range") (hm : X.mg "range" = none) (ha : NA X vs [a] f) (hs : starEach [a] X.env = [(false, eval a X.env)] := by rfl) : NI X vs tg (.Call (.Name "range" p) [a] [] pos) (nRg1 f) :=
  ⟨(pi_range1 hg hm ha.pa hs).imp fun σ H R ⟨F, os, ρ, r, Rr, e, k⟩ => by
    obtain ⟨ds, e1, e2⟩ := Option.bind_eq_some_iff.mp e
    split at e2
    · split at e2
      · rename_i j hb
        cases e2
        refine ⟨F, os, ρ, _, Rr, e1, fun xs H1 F1 s1 q1 => ?_⟩
        obtain ⟨x, rfl, qx⟩ := Rs.one_inv q1
        cases qx
        have hb := of_decide_eq_true hb
        refine ⟨j, rfl, hb.1, hb.2, k _ (fun _ _ => True) H1 F1 s1 ?_ trivial⟩
        have := wlk_rng X.K 0 j
        rw [Int.sub_zero] at this
        exact this
      · cases e2
    · cases e2⟩
theorem ni_rng2 {f : Ev → Option (List D)} (hg : Gl X "range") (hm : X.mg "range" = none) (ha : NA X vs [a, c] f) (hs : starEach [a, c] X.env = [(false, eval a X.env), (false, eval c X.env)] := by rfl) (hs2 : starEach [c] X.env = [(false, eval c X.env)] := by rfl) : NI X vs tg (.Call (.Name "range" p) [a, c] [] pos) (nRg2 f) :=
  ⟨(pi_range2 hg hm ha.pa hs hs2).imp fun σ H R ⟨F, os, ρ, r, Rr, e, k⟩ => by
    obtain ⟨ds, e1, e2⟩ := Option.bind_eq_some_iff.mp e
    split at e2
    · split at e2
      · rename_i i j hb
        cases e2
        refine ⟨F, os, ρ, _, Rr, e1, fun xs H1 F1 s1 q1 => ?_⟩
        obtain ⟨x, y, rfl, qx, qy⟩ := Rs.two_inv q1
        cases qx
        cases qy
        have hb1 := of_decide_eq_true hb.1
        have hb2 := of_decide_eq_true hb.2
        exact ⟨i, j, rfl, ⟨hb1.1, hb1.2, hb2.1, hb2.2⟩, k _ (fun _ _ => True) H1 F1 s1 (wlk_rng X.K i j) trivial⟩
      · cases e2
    · cases e2⟩
/-- a loop over it: what vs own is frozen for it -/
theorem vi_ni {f : Ev → Option (List D)} (h : NI X vs tg e f) : VI X tg e (fun ρ => (f ρ).map fun ds => (ds, frz vs ρ)) := ⟨h.pi.imp fun σ H R ⟨F, os, ρ, r, Rr, e, k⟩ => by
  obtain ⟨ds, e1, rfl⟩ := Option.map_eq_some_iff.mp e
  refine ⟨F, os, ρ, ds, Rr, e1, fun J kp H1 F1 s1 wl k1 => ?_⟩
  obtain ⟨F2, os2, R2, s2, h1, h2, h3⟩ := frz_rl' vs (Rr.ext0 s1)
  refine k J kp H1 F2 os2 (s1.step.trans s2) R2 wl (wl.stay (O := Emp) (O' := Emp) k1 ⟨h1, fun _ _ h _ => h, fun _ z => z.elim, fun a z => ?_, fun _ o h => ⟨o, h⟩, fun _ a z => R2.dom a z⟩ fun _ z => z.elim)
  exact .inl (h3 a z)⟩
end
end Dv
/-! DvK: list comprehensions: of what changes nothing (NF), of what may (VE). -/
namespace Dv
open PySem PySem.Spec PyProof.Rows L2

def wipeE (ρ : Ev) : List Nat → Ev
  | [] => ρ
  | v :: vs => (wipeE ρ vs).set v none
section
variable {K : PySem.W.Frag} {F F' : AS} {H H' : Hp} {os os' : Nat → List Addr} {ρ ρ' : Ev} {σ σ' : L2.St}
theorem Rl.wipe (r : Rl K F os ρ σ H) : ∀ own : List Nat, ∃ os', Rl K F os' (wipeE ρ own) (L2.wipe σ own) H ∧ (∀ i, ∀ a ∈ os' i, a ∈ os i) ∧ ∀ i, i ∉ own → os' i = os i
  | [] => ⟨os, r, fun _ _ z => z, fun _ _ => rfl⟩
  | v :: own => by
    obtain ⟨os', r', h1, h2⟩ := r.wipe own
    have z := r'.kill v
    refine ⟨upo os' v [], ⟨z.dom, fun i d n e => ?_, z.off, z.nd, z.dj, ?_⟩, fun i a w => ?_, fun i hi => ?_⟩
    · obtain ⟨x, e1, q⟩ := z.slot i d n e
      refine ⟨x, ?_, q⟩
      show ((L2.wipe σ own).set v none)[i]? = _
      have hv : v ≠ i := fun e2 => by
        subst e2
        rw [show wipeE ρ (v :: own) = (wipeE ρ own).set v none from rfl, List.getElem?_set] at e
        simp only [if_true] at e
        split at e <;> cases e
      rw [List.getElem?_set_ne hv]
      exact e1
    · show ((wipeE ρ own).set v none).length = ((L2.wipe σ own).set v none).length
      rw [List.length_set, List.length_set]
      exact r'.len
    · rcases upo_mem w with ⟨_, w⟩ | ⟨_, w⟩
      · exact nomatch w
      · exact h1 i a w
    · have n1 : i ≠ v := fun e => hi (e ▸ List.mem_cons_self)
      rw [upo_ne n1]
      exact h2 i fun w => hi (List.mem_cons_of_mem _ w)
/-- slots that are known less of -/
theorem Rl.sub (r : Rl K F os ρ σ H) (hl : σ.length = σ'.length) (h : ∀ (i : Nat) (v : V), σ[i]? = some (some v) → σ'[i]? = some (some v)) : Rl K F os ρ σ' H :=
  ⟨r.dom, fun i d n e => by obtain ⟨v, e1, q⟩ := r.slot i d n e; exact ⟨v, h i v e1, q⟩, r.off, r.nd, r.dj, r.len.trans hl⟩
end
theorem wipe_in {σ : L2.St} {i : Nat} : ∀ {vs : List Nat}, i ∈ vs → i < σ.length → (L2.wipe σ vs)[i]? = some none
  | v :: vs, h, hl => by
    show ((L2.wipe σ vs).set v none)[i]? = some none
    by_cases e : v = i
    · subst e; exact List.getElem?_set_self (by rw [wipe_length]; exact hl)
    · rw [List.getElem?_set_ne e]
      exact wipe_in ((List.mem_cons.mp h).resolve_left fun z => e z.symm) hl
theorem wipe_ext {σ σ' : L2.St} {vs : List Nat} (hl : σ'.length = σ.length) (h : ∀ i, i < σ.length → i ∉ vs → σ'[i]? = σ[i]?) : L2.wipe σ' vs = L2.wipe σ vs := by
  refine List.ext_getElem? fun i => ?_
  by_cases hi : i < σ.length
  · by_cases hv : i ∈ vs
    · rw [wipe_in hv hi, wipe_in hv (by rw [hl]; exact hi)]
    · rw [wipe_out hv, wipe_out hv]
      exact h i hi hv
  · rw [List.getElem?_eq_none (by rw [wipe_length, hl]; omega), List.getElem?_eq_none (by rw [wipe_length]; omega)]
theorem wipe_wipe (σ : L2.St) (vs : List Nat) : L2.wipe (L2.wipe σ vs) vs = L2.wipe σ vs :=
  wipe_ext (wipe_length σ vs) fun i _ hv => wipe_out hv
/-- all slots but a comprehension's own -/
def cpl (own : List Nat) (n : Nat) : List Nat := (List.range n).filter fun i => !own.contains i
theorem mem_cpl {own : List Nat} {n i : Nat} (h : i < n) (h2 : i ∉ own) : i ∈ cpl own n := List.mem_filter.mpr ⟨List.mem_range.mpr h, by simp [h2]⟩
theorem fix_wipe {σ σ2 : L2.St} {own : List Nat} {n : Nat} (f : Fix (cpl own n) (L2.wipe σ own) σ2) (hn : σ.length ≤ n) : L2.wipe σ2 own = L2.wipe σ own := by
  rw [← wipe_wipe σ own]
  refine wipe_ext f.1 fun i hi hv => f.2 i (mem_cpl (by rw [wipe_length] at hi; omega) hv)

section
variable {X : Cx} {tg iter elt e c : Expr} {ifs : List Expr} {pos p : Pos} {vs : List Nat} {scope : Scope} {own : List (Str × Nat)}
/-! ### tests of a clause -/
structure NTs (X : Cx) (ifs : List Expr) (f : Ev → Option Bool) : Prop where
  pts : PTs X ifs (tNT X.K f)
structure VTs (X : Cx) (ifs : List Expr) (f : Ev → Option (Bool × Ev)) : Prop where
  pts : PTs X ifs (tVT X.K f)
theorem _root_.L2.PTs.imp {X : Cx} {e : List Expr} {t t' : TT} (h : PTs X e t) (w : ∀ σ H Q, t' σ H Q → t σ H Q) : PTs X e t' := ⟨fun pins s σ H Q I q => h.run pins s σ H Q I (w σ H Q q)⟩
theorem nts_nil : NTs X [] (fun _ => some true) := ⟨pts_nil.imp fun σ H Q ⟨F, os, ρ, b, R, e, k⟩ => by cases e; exact k H F .refl⟩
theorem nts_one {f : Ev → Option Bool} (h : NT X e f) : NTs X [e] f := ⟨pts_one h.pt⟩
theorem vts_nil : VTs X [] (fun ρ => some (true, ρ)) := ⟨pts_nil.imp fun σ H Q ⟨F, os, ρ, b, R, e, k⟩ => by cases e; exact k H F os .refl R⟩
theorem vts_one {f : Ev → Option (Bool × Ev)} (h : VT X e f) : VTs X [e] f := ⟨pts_one h.pt⟩

/-- the slots vs own nothing -/
def frzOk (vs : List Nat) (ρ : Ev) : Bool := vs.all fun i => match ρ[i]? with
  | some (some (_, _ + 1)) => false
  | _ => true
theorem frzOk_os {K : PySem.W.Frag} {F : AS} {H : Hp} {os : Nat → List Addr} {ρ : Ev} {σ : L2.St} (h : frzOk vs ρ = true) (R : Rl K F os ρ σ H) : ∀ i ∈ vs, os i = [] := fun i hi => by
  have z := List.all_eq_true.mp h i hi
  cases q : ρ[i]? with
  | none => exact R.off i fun d n e => by rw [q] at e; cases e
  | some x =>
    cases x with
    | none => exact R.off i fun d n e => by rw [q] at e; cases e
    | some x =>
      obtain ⟨d, n⟩ := x
      cases n with
      | zero => obtain ⟨v, _, w⟩ := R.slot i d 0 q; exact w.zero rfl
      | succ n => rw [q] at z; cases z
theorem frzOk_gs {K : PySem.W.Frag} {F : AS} {H : Hp} {os : Nat → List Addr} {ρ : Ev} {σ : L2.St} (h : frzOk vs ρ = true) (R : Rl K F os ρ σ H) : ∀ a, Gs F os vs a → F a := fun a z => z.elim id fun ⟨i, hi, w⟩ => by rw [frzOk_os h R i hi] at w; exact nomatch w
def lcN (vs : List Nat) (b : D → Ev → Option Ev) (t : Ev → Option Bool) (f : Ev → Option D) : List D → Ev → Option (List D)
  | [], _ => some []
  | d :: ds, ρ => (b d ρ).bind fun ρ1 => if frzOk vs ρ1 = true then (t ρ1).bind fun k => if k then (f ρ1).bind fun x => (lcN vs b t f ds ρ).map (x :: ·) else lcN vs b t f ds ρ else none
def nLc (vs vs' own : List Nat) (i : Ev → Option (List D)) (b : D → Ev → Option Ev) (t : Ev → Option Bool) (f : Ev → Option D) : Ev → Option (List D) := fun ρ => (i ρ).bind fun ds => if ds.length ≤ sizeLine ∧ ρ.length ≤ 1000 then lcN vs' b t f ds (wipeE (frz vs ρ) own) else none
abbrev AllB (X : Cx) (scope : Scope) (P : Cx → Prop) : Prop := ∀ (s : Shared) (H : Hp) (C : Addr) (cl : List (Str × Addr)) (fp : List Addr), P (X.blk s H scope (compEnvC scope cl C X.env) fp)
theorem write_step {F : AS} {H : Hp} {p : Addr} {o : HO} (hp : ∃ o, H p = some o) : Step F (fun a => a = p) H F (fun a => a = p) (upd H p o) :=
  ⟨fun _ z => z, fun a x e n => by rw [upd_ne n]; exact e, fun a z => .inl z, fun a z => .inl z, fun a x e => by
    by_cases h : a = p
    · subst h; exact ⟨o, upd_same⟩
    · exact ⟨x, by rw [upd_ne h]; exact e⟩, fun h a z => by
    obtain ⟨x, e⟩ := h a z
    by_cases h : a = p
    · subst h; exact ⟨o, upd_same⟩
    · exact ⟨x, by rw [upd_ne h]; exact e⟩⟩
theorem nlc_core {i : Ev → Option (List D)} {b : D → Ev → Option Ev} {t : Ev → Option Bool} {f : Ev → Option D} {K : PySem.W.Frag} {vs' : List Nat} {σ : L2.St} {H : Hp} {Q : VK} {ow : List Nat} {F : AS} {os : Nat → List Addr} {ρ : Ev} {r : List D} (R : Rl K F os ρ σ H) (e : nLc vs vs' ow i b t f ρ = some r)
    (k : ∀ p xs H' F', Ext F H F' H' → H p = none → ¬ F' p → H' p = some (.lst xs) → Rs K (Gs F' os vs) H' xs r 0 [] → Q (.ref p) H') :
    tLc (tNI K vs i) (tG K (cpl ow 1000) b) (tNT K t) (tN K vs' f) ow σ H Q := by
  obtain ⟨ds, e1, e2⟩ := Option.bind_eq_some_iff.mp e
  split at e2
  · rename_i hz
    have hσ : σ.length ≤ 1000 := by rw [← R.len]; exact hz.2
    refine ⟨F, os, ρ, ds, R, e1, fun J kp H1 F1 s1 wl k1 D hD => ?_⟩
    have Ra := R.ext0 s1
    obtain ⟨F2, os2, R2, s2, h1, h2, h3⟩ := frz_rl' vs Ra
    obtain ⟨os3, R3, h4, _⟩ := R2.wipe ow
    have k2 : kp F2 H1 := wl.stay (O := Emp) (O' := Emp) k1 ⟨h1, fun _ _ h _ => h, fun _ z => z.elim, fun a z => .inl (h3 a z), fun _ o h => ⟨o, h⟩, fun _ a z => R2.dom a z⟩ fun _ z => z.elim
    have nD : ¬ F2 D := fun z => by obtain ⟨o, e⟩ := R2.dom D z; rw [hD] at e; cases e
    have al : Ext F2 H1 F2 (upd H1 D (.lst [])) := Step.alloc hD
    have R4 := R3.ext0 al
    have k3 := wl.stay k2 al fun _ z => z.elim
    have oD : ∀ i, ∀ a ∈ os3 i, ¬ a = D := fun i a z w => by
      subst w
      obtain ⟨o, e⟩ := R3.there z
      rw [hD] at e; cases e
    refine ⟨fun j m H' => ∃ F' acc dacc, Step F2 (fun a => a = D) (upd H1 D (.lst [])) F' (fun a => a = D) H' ∧ H' D = some (.lst acc) ∧ ¬ F' D ∧ Rs K F' H' acc dacc 0 [] ∧ dacc.length ≤ j ∧ m + j = ds.length ∧ kp F' H' ∧ ∃ r', lcN vs' b t f (ds.drop j) (wipeE (frz vs ρ) ow) = some r' ∧ dacc ++ r' = r,
      ⟨ds.length, F2, [], [], .refl, upd_same, nD, .nil, Nat.zero_le _, rfl, k3, r, e2, rfl⟩, ?_⟩
    rintro j m H' ⟨F', acc, dacc, s3, hacc, nF', ra, hj, hm, k4, r', e3, e4⟩
    have Rw : Rl K F' os3 _ (L2.wipe σ ow) H' := R4.ext s3 oD fun a z w => nD (z ▸ w)
    by_cases hi : j < ds.length
    · have hd : ds[j]? = some ds[j] := List.getElem?_eq_getElem hi
      rw [List.drop_eq_getElem_cons hi] at e3
      obtain ⟨ρ2, e5, e6⟩ := Option.bind_eq_some_iff.mp (show (b ds[j] _).bind _ = some r' from e3)
      split at e6
      · rename_i hfz
        obtain ⟨kb, e7, e8⟩ := Option.bind_eq_some_iff.mp e6
        obtain ⟨go, yl⟩ := wl.go k4 Rw.dom j ds[j] hd
        refine .inr ⟨go, fun H' => ∃ F' acc dacc, Step F2 (fun a => a = D) (upd H1 D (.lst [])) F' (fun a => a = D) H' ∧ H' D = some (.lst acc) ∧ ¬ F' D ∧ Rs K F' H' acc dacc 0 [] ∧ dacc.length ≤ j + 1 ∧ kp F' H' ∧ ∃ r', lcN vs' b t f (ds.drop (j + 1)) (wipeE (frz vs ρ) ow) = some r' ∧ dacc ++ r' = r, ?_, fun x H2 hy => ?_⟩
        · rintro H5 ⟨F5, acc5, dacc5, a1, a2, a3, a4, a5, a6, a7⟩
          exact ⟨m - 1, by omega, F5, acc5, dacc5, a1, a2, a3, a4, a5, by omega, a6, a7⟩
        · obtain ⟨F'', s4, q⟩ := yl x H2 hy
          refine ⟨F'', os3, _, ds[j], ρ2, Rw.ext0 s4, q, e5, fun σ2 os4 s5 R5 f5 => ⟨fix_wipe f5 hσ, F'', os4, ρ2, kb, R5, e7, fun H4 F4 s6 => ?_⟩⟩
          have sx : Ext F' H' F4 H4 := s4.trans s6
          have far : ¬ F4 D := fun z => by
            rcases sx.frz D z with z | z | z
            · exact nF' z
            · exact z
            · rw [hacc] at z; cases z
          have st := s3.trans (sx.step (O := fun a => a = D))
          have ra4 : Rs K F4 H4 acc dacc 0 [] := ra.ext sx.mono (fun a o _ h => sx.keep a o h fun z => z) (fun _ _ z => nomatch z) fun _ z => nomatch z
          have hD4 : H4 D = some (.lst acc) := sx.keep D _ hacc fun z => z
          have k5 := wl.stay k4 sx fun _ z => z.elim
          cases kb with
          | false =>
            simp only [Bool.false_eq_true, if_false] at e8 ⊢
            exact ⟨F4, acc, dacc, st, hD4, far, ra4, by omega, k5, r', e8, e4⟩
          | true =>
            simp only [if_true] at e8 ⊢
            obtain ⟨x', e9, e10⟩ := Option.bind_eq_some_iff.mp e8
            obtain ⟨r2, e11, rfl⟩ := Option.map_eq_some_iff.mp e10
            have R6 := R5.ext0 s6
            refine ⟨F4, os4, ρ2, x', R6, e9, fun v H5 F5 s7 q7 => ⟨acc, s7.keep D _ hD4 fun z => z, ?_, F5, acc ++ [v], dacc ++ [x'], ?_⟩⟩
            · rw [ra.length]
              exact Nat.lt_of_le_of_lt hj (Nat.lt_of_lt_of_le hi hz.1)
            · have hD5 : H5 D = some (.lst acc) := s7.keep D _ hD4 fun z => z
              have far5 : ¬ F5 D := fun z => by
                rcases s7.frz D z with z | z | z
                · exact far z
                · exact z
                · rw [hD4] at z; cases z
              have ws : Step F5 (fun a => a = D) H5 F5 (fun a => a = D) (upd H5 D (.lst (acc ++ [v]))) := write_step ⟨_, hD5⟩
              have q8 : R1 K F5 H5 v x' 0 [] := q7.freeze (frzOk_gs hfz (R6.ext0 s7)) fun _ z => nomatch z
              have rall : Rs K F5 H5 (acc ++ [v]) (dacc ++ [x']) 0 [] := Rs.app0 (ra4.ext s7.mono (fun a o _ h => s7.keep a o h fun z => z) (fun _ _ z => nomatch z) fun _ z => nomatch z) (Rs.one q8)
              refine ⟨(st.trans (s7.step (O := fun a => a = D))).trans ws, upd_same, far5, rall.ext (fun _ z => z) (fun a o w h => ws.keep a o h fun z => far5 (z ▸ w)) (fun _ _ z => nomatch z) (fun _ z => nomatch z), by simp; omega, wl.stay (wl.stay k5 s7 fun _ z => z.elim) ws (fun a z w => far5 (z ▸ w)), r2, e11, by rw [← e4]; simp⟩
      · cases e6
    · have ej : j = ds.length := by omega
      subst ej
      rw [List.drop_length] at e3
      cases e3
      rw [List.append_nil] at e4
      subst e4
      refine .inl ⟨wl.stop k4, k D acc H' (fun a => F1 a ∨ (F' a ∧ H1 a = none)) (s1.trans ?_) ?_ ?_ hacc ?_⟩
      · refine ⟨fun _ z => .inl z, fun a o h _ => s3.keep a o (by rw [upd_ne (ne_of_none h hD)]; exact h) (ne_of_none h hD), fun _ z => z.elim, fun a z => ?_, fun a o h => s3.dom a o (by rw [upd_ne (ne_of_none h hD)]; exact h), fun h a z => ?_⟩
        · rcases z with z | z
          · exact .inl z
          · exact .inr (.inr z.2)
        · rcases z with z | z
          · obtain ⟨o, e⟩ := h a z
            exact s3.dom a o (by rw [upd_ne (ne_of_none e hD)]; exact e)
          · exact Rw.dom a z.1
      · cases q : H D with
        | none => rfl
        | some o => obtain ⟨o', e'⟩ := s1.dom D o q; rw [hD] at e'; cases e'
      · rintro (z | ⟨z, _⟩)
        · exact nD (h1 D (.inl z))
        · exact nF' z
      · refine ra.ext (fun a z => ?_) (fun _ _ _ z => z) (fun _ _ z => nomatch z) fun _ z => nomatch z
        rcases s3.frz a z with w | w | w
        · exact (h3 a w).imp (fun w => .inl w) id
        · exact absurd (w ▸ z) nF'
        · refine .inl (.inr ⟨z, ?_⟩)
          by_cases hq : a = D
          · rw [hq]; exact hD
          · rw [upd_ne hq] at w; exact w
  · cases e2
/-- [elt for target in iter if ..], all of it read alone -/
theorem nf_lc {i : Ev → Option (List D)} {b : D → Ev → Option Ev} {t : Ev → Option Bool} {f : Ev → Option D} {vs' : List Nat} (hc : X.calm = true) (hN : X.N.Nodup) (hi : NI X vs tg iter i) (ok : BlkOk X.N X.env.scope scope own) (hg : AllB X scope fun Y => VG Y (cpl (own.map (·.2)) 1000) tg b) (ht : AllB X scope fun Y => NTs Y ifs t) (he : AllB X scope fun Y => NE Y vs' elt f)
    (hs : ∀ x, foldedSetIterable iter X.env x = pure x := by intro _; rfl) : NF X vs (.ListComp elt [⟨tg, iter, ifs, 0⟩] scope pos) (nLc vs vs' (own.map (·.2)) i b t f) :=
  ⟨(pe_lc hc hN hi.pi ok (fun s H C cl fp => (hg s H C cl fp).pg) (fun s H C cl fp => (ht s H C cl fp).pts) (fun s H C cl fp => (he s H C cl fp).pe) hs).imp fun σ H Q ⟨F, os, ρ, r, R, e, k⟩ => nlc_core R e k⟩
end
end Dv
/-! DvL: comprehensions whose parts may change the state; a comprehension given to a name. -/
namespace Dv
open PySem PySem.Spec PyProof.Rows L2

/-- what is out of sight stays so -/
theorem far_step {K : PySem.W.Frag} {F F1 P : AS} {H H1 : Hp} {O : AS} {a : Addr} {o : HO} (s : Step F O H F1 P H1) (ha : H a = some o) (hO : ¬ O a) (hF : ¬ F a) : ¬ F1 a ∧ ¬ P a ∧ H1 a = some o :=
  by
  refine ⟨fun z => ?_, fun z => ?_, s.keep a o ha hO⟩
  · rcases s.frz a z with z | z | z
    · exact hF z
    · exact hO z
    · rw [ha] at z; cases z
  · rcases s.own a z with z | z
    · exact hO z
    · rw [ha] at z; cases z
def lcV (n : Nat) (ow : List Nat) (b : D → Ev → Option Ev) (t : Ev → Option (Bool × Ev)) (f : Ev → Option (AV × Ev)) : List D → Ev → Option (List D × Ev)
  | [], ρ => some ([], ρ)
  | d :: ds, ρ => (b d ρ).bind fun ρ1 => (t ρ1).bind fun r => if r.1 then (f r.2).bind fun q => if fit n q.1 = true then (lcV n ow b t f ds (wipeE q.2 ow)).map fun z => (q.1.1 :: z.1, z.2) else none else lcV n ow b t f ds (wipeE r.2 ow)
def restE : List Nat → Ev → Ev → Ev
  | [], _, ρ => ρ
  | i :: ow, ρf, ρ => match ρf[i]? with
    | some (some (d, 0)) => (restE ow ρf ρ).set i (some (d, 0))
    | _ => restE ow ρf ρ
def vLc (n : Nat) (ow : List Nat) (i : Ev → Option (List D × Ev)) (b : D → Ev → Option Ev) (t : Ev → Option (Bool × Ev)) (f : Ev → Option (AV × Ev)) : Ev → Option (AV × Ev) := fun ρ => (i ρ).bind fun r => if r.1.length ≤ sizeLine ∧ r.2.length ≤ 1000 then (lcV n ow b t f r.1 (wipeE (frz ow r.2) ow)).map fun z => ((.lst z.1, n + 1), restE ow (frz ow r.2) z.2) else none
theorem rest_rl {K : PySem.W.Frag} {F : AS} {H : Hp} {ρf : Ev} {σ : L2.St} : ∀ {ow : List Nat} {os : Nat → List Addr} {ρ : Ev}, Rl K F os ρ σ H → (∀ (i : Nat) (d : D), ρf[i]? = some (some (d, 0)) → ∃ v, σ[i]? = some (some v) ∧ R1 K F H v d 0 []) → ∃ os', Rl K F os' (restE ow ρf ρ) σ H ∧ ∀ i, ∀ a ∈ os' i, a ∈ os i
  | [], os, ρ, R, _ => ⟨os, R, fun _ _ z => z⟩
  | i :: ow, os, ρ, R, h => by
    obtain ⟨os', R', h'⟩ := rest_rl (ow := ow) R h
    unfold restE
    split
    · rename_i d e
      obtain ⟨v, ev, q⟩ := h i d e
      refine ⟨upo os' i [], R'.put ev q List.nodup_nil (fun _ z => nomatch z), fun j a w => ?_⟩
      rcases upo_mem w with ⟨_, w⟩ | ⟨_, w⟩
      · exact nomatch w
      · exact h' j a w
    · exact ⟨os', R', h'⟩
section
variable {X : Cx} {tg iter elt : Expr} {ifs : List Expr} {pos : Pos} {scope : Scope} {own : List (Str × Nat)}
theorem vlc_core {n : Nat} {i : Ev → Option (List D × Ev)} {b : D → Ev → Option Ev} {t : Ev → Option (Bool × Ev)} {f : Ev → Option (AV × Ev)} {K : PySem.W.Frag} {σ : L2.St} {H : Hp} {Q : VK} {ow : List Nat} : tV K (vLc n ow i b t f) σ H Q → tLc (tI K i) (tG K (cpl ow 1000) b) (tVT K t) (tV K f) ow σ H Q := fun ⟨F, os, ρ, r, R, e, k⟩ => by
  obtain ⟨⟨ds, ρ1⟩, e1, e2⟩ := Option.bind_eq_some_iff.mp e
  split at e2
  · rename_i hz
    obtain ⟨z, ez, rfl⟩ := Option.map_eq_some_iff.mp e2
    refine ⟨F, os, ρ, _, R, e1, fun J kp H1 F1 os1 s1 Ra wl k1 Dd hD => ?_⟩
    have hσ : σ.length ≤ 1000 := by rw [← Ra.len]; exact hz.2
    obtain ⟨F2, os2, R2, s2, h1, h2⟩ := frz_rl ow Ra
    obtain ⟨os3, R3, h4, _⟩ := R2.wipe ow
    have nD : ¬ F2 Dd := fun z => by obtain ⟨o, e⟩ := R2.dom Dd z; rw [hD] at e; cases e
    have nO2 : ∀ i, Dd ∉ os2 i := fun i z => by obtain ⟨o, e⟩ := R2.there z; rw [hD] at e; cases e
    have al : Ext F2 H1 F2 (upd H1 Dd (.lst [])) := Step.alloc hD
    have R4 := R3.ext0 al
    have k2 : kp F2 (upd H1 Dd (.lst [])) := wl.stay (wl.stay k1 s2 fun a ⟨j, z⟩ => Ra.noF z) al fun _ z => z.elim
    -- the base of the loop
    have sb : Step F (Own os) H F2 (fun a => Own os3 a ∨ a = Dd) (upd H1 Dd (.lst [])) := (s1.trans s2).trans (al.weak (fun _ z => z.elim) fun a z => by
      rcases z with ⟨i, z⟩ | z
      · exact .inr (.inl ⟨i, h4 i a z⟩)
      · exact .inr (.inr (z ▸ hD)))
    refine ⟨fun j m H' => ∃ F' os' ρ' acc dacc L, Step F2 (fun a => Own os3 a ∨ a = Dd) (upd H1 Dd (.lst [])) F' (fun a => Own os' a ∨ a ∈ Dd :: L) H' ∧ Rl K F' os' ρ' (L2.wipe σ ow) H' ∧ H' Dd = some (.lst acc) ∧ ¬ F' Dd ∧ (∀ i, Dd ∉ os' i) ∧ (Dd :: L).Nodup ∧ Rs K F' H' acc dacc n L ∧ (∀ a ∈ L, ∀ i, a ∉ os' i) ∧ dacc.length ≤ j ∧ m + j = ds.length ∧ kp F' H' ∧ ∃ r', lcV n ow b t f (ds.drop j) ρ' = some r' ∧ (dacc ++ r'.1, r'.2) = z,
      ⟨ds.length, F2, os3, _, [], [], [], Step.refl.weak (fun _ z => z) (fun a z => z.elim (fun z => .inl (.inl z)) fun z => .inl (.inr (List.mem_singleton.mp z))), R4, upd_same, nD, fun i z => nO2 i (h4 i Dd z), by simp, .nil, fun _ z => (nomatch z), Nat.zero_le _, rfl, k2, z, ez, rfl⟩, ?_⟩
    rintro j m H' ⟨F', os', ρ', acc, dacc, L, s3, Rw, hacc, nF', nO', nd', ra, djL, hj, hm, k4, r', e3, e4⟩
    obtain ⟨nDL, ndL⟩ := List.nodup_cons.mp nd'
    by_cases hi : j < ds.length
    · have hd : ds[j]? = some ds[j] := List.getElem?_eq_getElem hi
      rw [List.drop_eq_getElem_cons hi] at e3
      obtain ⟨ρ2, e5, e6⟩ := Option.bind_eq_some_iff.mp (show (b ds[j] _).bind _ = some r' from e3)
      obtain ⟨⟨kb, ρ3⟩, e7, e8⟩ := Option.bind_eq_some_iff.mp e6
      obtain ⟨go, yl⟩ := wl.go k4 Rw.dom j ds[j] hd
      refine .inr ⟨go, fun H' => ∃ F' os' ρ' acc dacc L, Step F2 (fun a => Own os3 a ∨ a = Dd) (upd H1 Dd (.lst [])) F' (fun a => Own os' a ∨ a ∈ Dd :: L) H' ∧ Rl K F' os' ρ' (L2.wipe σ ow) H' ∧ H' Dd = some (.lst acc) ∧ ¬ F' Dd ∧ (∀ i, Dd ∉ os' i) ∧ (Dd :: L).Nodup ∧ Rs K F' H' acc dacc n L ∧ (∀ a ∈ L, ∀ i, a ∉ os' i) ∧ dacc.length ≤ j + 1 ∧ kp F' H' ∧ ∃ r', lcV n ow b t f (ds.drop (j + 1)) ρ' = some r' ∧ (dacc ++ r'.1, r'.2) = z, ?_, fun x H2 hy => ?_⟩
      · rintro H5 ⟨F5, os5, ρ5, acc5, dacc5, L5, a1, a2, a3, a4, a5, a6, a7, a8, a9, a10, a11⟩
        exact ⟨m - 1, by omega, F5, os5, ρ5, acc5, dacc5, L5, a1, a2, a3, a4, a5, a6, a7, a8, a9, by omega, a10, a11⟩
      · obtain ⟨F'', s4, q⟩ := yl x H2 hy
        have Rx := Rw.ext0 s4
        refine ⟨F'', os', _, ds[j], ρ2, Rx, q, e5, fun σ2 os4 s5 R5 f5 => ?_⟩
        have hw : L2.wipe σ2 ow = L2.wipe σ ow := fix_wipe f5 hσ
        refine ⟨hw, F'', os4, ρ2, _, R5, e7, fun H4 F4 os5 s6 R6 => ?_⟩
        -- from the turn's start to here
        have sA : Step F' (Own os') H' F4 (Own os5) H4 := (s4.step.trans s5).trans s6
        have kA : kp F4 H4 := wl.stay k4 sA fun a ⟨i, z⟩ => Rw.noF z
        have DA := far_step (K := K) sA hacc (fun ⟨i, z⟩ => nO' i z) nF'
        have raA : Rs K F4 H4 acc dacc n L := ra.tmp Rw djL sA
        have djA : ∀ a ∈ L, ∀ i, a ∉ os5 i := fun a z i w => by
          obtain ⟨o, eo⟩ := ra.there a z
          exact (far_step (K := K) sA eo (fun ⟨i, y⟩ => djL a z i y) (ra.notF a z)).2.1 ⟨i, w⟩
        have stA : Step F2 (fun a => Own os3 a ∨ a = Dd) (upd H1 Dd (.lst [])) F4 (fun a => Own os5 a ∨ a ∈ Dd :: L) H4 := s3.trans (sA.add (fun a => a ∈ Dd :: L) fun a z => by
          rcases List.mem_cons.mp z with rfl | z
          · exact ⟨_, hacc⟩
          · exact ra.there a z)
        cases kb with
        | false =>
          simp only [Bool.false_eq_true, if_false] at e8 ⊢
          obtain ⟨os6, R7, h6, _⟩ := R6.wipe ow
          rw [hw] at R7
          exact ⟨F4, os6, _, acc, dacc, L, stA.trans (Step.refl.weak (fun _ z => z) fun a z => .inl (z.imp (fun ⟨i, z⟩ => ⟨i, h6 i a z⟩) id)), R7, DA.2.2, DA.1, fun i z => DA.2.1 ⟨i, h6 i Dd z⟩, nd', raA, fun a z i w => djA a z i (h6 i a w), by omega, kA, r', e8, e4⟩
        | true =>
          simp only [if_true] at e8 ⊢
          obtain ⟨⟨av, ρ4⟩, e9, e10⟩ := Option.bind_eq_some_iff.mp e8
          split at e10
          · rename_i hfit
            obtain ⟨r2, e11, rfl⟩ := Option.map_eq_some_iff.mp e10
            refine ⟨F4, os5, ρ3, _, R6, e9, fun v H5 F5 os6 Lv s7 R7 q7 n7 dj7 => ?_⟩
            obtain ⟨F6, L6, s8, R8, q8, n8, dj8⟩ := fit_st hfit R7 q7 n7 dj7
            have sB := s7.trans s8
            have DB := far_step (K := K) sB DA.2.2 (fun ⟨i, z⟩ => DA.2.1 ⟨i, z⟩) DA.1
            have raB : Rs K F6 H5 acc dacc n L := raA.tmp R6 djA sB
            have farB : ∀ a ∈ L, ¬ (Own os6 a ∨ a ∈ L6) := fun a z => by
              obtain ⟨o, eo⟩ := raA.there a z
              exact (far_step (K := K) sB eo (fun ⟨i, y⟩ => djA a z i y) (raA.notF a z)).2.1
            have stB : Step F2 (fun a => Own os3 a ∨ a = Dd) (upd H1 Dd (.lst [])) F6 (fun a => (Own os6 a ∨ a ∈ L6) ∨ a ∈ Dd :: L) H5 := stA.trans (sB.add (fun a => a ∈ Dd :: L) fun a z => by
              rcases List.mem_cons.mp z with rfl | z
              · exact ⟨_, DA.2.2⟩
              · exact raA.there a z)
            have kB : kp F6 H5 := wl.stay kA sB fun a ⟨i, z⟩ => R6.noF z
            have ws : Step F6 (fun a => a = Dd) H5 F6 (fun a => a = Dd) (upd H5 Dd (.lst (acc ++ [v]))) := write_step ⟨_, DB.2.2⟩
            have nO6 : ∀ i, Dd ∉ os6 i := fun i z => DB.2.1 (.inl ⟨i, z⟩)
            have nL6 : Dd ∉ L6 := fun z => DB.2.1 (.inr z)
            have Rn : Rl K F6 os6 ρ4 σ2 (upd H5 Dd (.lst (acc ++ [v]))) := R8.ext ws (fun i a z w => nO6 i (w ▸ z)) fun a z w => DB.1 (z ▸ w)
            obtain ⟨os7, R9, h7, _⟩ := Rn.wipe ow
            rw [hw] at R9
            have rall : Rs K F6 H5 (acc ++ [v]) (dacc ++ [av.1]) n (L ++ L6) := Rs.app raB (Rs.one q8)
            have ndall : (Dd :: (L ++ L6)).Nodup := List.nodup_cons.mpr ⟨fun z => (List.mem_append.mp z).elim nDL nL6, List.nodup_append.mpr ⟨ndL, n8, fun a z b w e => farB a z (.inr (e ▸ w))⟩⟩
            have rall' : Rs K F6 (upd H5 Dd (.lst (acc ++ [v]))) (acc ++ [v]) (dacc ++ [av.1]) n (L ++ L6) := rall.ext (fun _ z => z) (fun a o w h => ws.keep a o h fun z => DB.1 (z ▸ w)) (fun a o w h => ws.keep a o h fun z => (List.nodup_cons.mp ndall).1 (z ▸ w)) rall.notF
            refine ⟨acc, DB.2.2, ?_, F6, os7, _, acc ++ [v], dacc ++ [av.1], L ++ L6, ?_, R9, upd_same, DB.1, fun i z => nO6 i (h7 i Dd z), ndall, rall', ?_, by simp; omega, wl.stay kB ws (fun a z w => DB.1 (z ▸ w)), r2, e11, by rw [← e4]; simp⟩
            · rw [ra.length]
              exact Nat.lt_of_le_of_lt hj (Nat.lt_of_lt_of_le hi hz.1)
            · refine stB.trans (ws.weak (fun a z => .inr (z ▸ List.mem_cons_self)) fun a z => ?_)
              rcases z with ⟨i, z⟩ | z
              · exact .inr (.inl (.inl (.inl ⟨i, h7 i a z⟩)))
              · rcases List.mem_cons.mp z with z | z
                · exact .inl z
                · rcases List.mem_append.mp z with z | z
                  · exact .inr (.inl (.inr (List.mem_cons_of_mem _ z)))
                  · exact .inr (.inl (.inl (.inr z)))
            · intro a z i w
              rcases List.mem_append.mp z with z | z
              · exact farB a z (.inl ⟨i, h7 i a w⟩)
              · exact dj8 a z i (h7 i a w)
          · cases e10
    · have ej : j = ds.length := by omega
      subst ej
      rw [List.drop_length] at e3
      cases e3
      rw [List.append_nil] at e4
      subst e4
      -- back to the slots as they were
      have R5 : Rl K F' os' ρ' σ H' := Rw.sub (wipe_length σ ow) fun i v h => (wipe_some h).1
      obtain ⟨os8, R8, h8⟩ := rest_rl (ow := ow) (ρf := frz ow ρ1) R5 fun i d hq => by
        obtain ⟨v, ev, q⟩ := R2.slot i d 0 hq
        have q0 := q.zero rfl
        rw [q0] at q
        refine ⟨v, ev, ?_⟩
        have q1 : R1 K F2 (upd H1 Dd (.lst [])) v d 0 [] := q.ext (fun _ z => z) (fun a o _ h => al.keep a o h fun z => z) (fun _ _ z => nomatch z) fun _ z => nomatch z
        exact q1.ext s3.mono (fun a o w h => s3.keep a o h fun z => z.elim (fun ⟨i, z⟩ => R4.noF z w) fun z => nD (z ▸ w)) (fun _ _ z => nomatch z) fun _ z => nomatch z
      refine .inl ⟨wl.stop k4, k (.ref Dd) H' F' os8 (Dd :: L) ((sb.trans s3).weak (fun _ z => z) fun a z => .inl (z.imp (fun ⟨i, z⟩ => ⟨i, h8 i a z⟩) id)) R8 (.lstO nF' hacc ra) nd' fun a z i w => ?_⟩
      have w := h8 i a w
      rcases List.mem_cons.mp z with rfl | z
      · exact nO' i w
      · exact djL a z i w
  · cases e2
theorem ve_lc (n : Nat) {i : Ev → Option (List D × Ev)} {b : D → Ev → Option Ev} {t : Ev → Option (Bool × Ev)} {f : Ev → Option (AV × Ev)} (hc : X.calm = true) (hN : X.N.Nodup) (hi : VI X tg iter i) (ok : BlkOk X.N X.env.scope scope own) (hg : AllB X scope fun Y => VG Y (cpl (own.map (·.2)) 1000) tg b) (ht : AllB X scope fun Y => VTs Y ifs t) (he : AllB X scope fun Y => VE Y elt f)
    (hs : ∀ x, foldedSetIterable iter X.env x = pure x := by intro _; rfl) : VE X (.ListComp elt [⟨tg, iter, ifs, 0⟩] scope pos) (vLc n (own.map (·.2)) i b t f) :=
  ⟨(pe_lc hc hN hi.pi ok (fun s H C cl fp => (hg s H C cl fp).pg) (fun s H C cl fp => (ht s H C cl fp).pts) (fun s H C cl fp => (he s H C cl fp).pe) hs).imp fun σ H Q z => vlc_core z⟩
/-- name = [..], the name a local -/
theorem vs_setLc {pm : List Nat} (j : Nat) (n : Nat) {y : Str} {py spos : Pos} {i : Ev → Option (List D × Ev)} {b : D → Ev → Option Ev} {t : Ev → Option (Bool × Ev)} {f : Ev → Option (AV × Ev)} (hc : X.calm = true) (hN : X.N.Nodup) (hy : X.N[j]? = some y) (hyl : X.env.scope.names.lookup y = some .local) (hsw : swapsWith (.ListComp elt [⟨tg, iter, ifs, 0⟩] scope pos) (some (.Name y py)) spos.line X.env = pure true)
    (hi : VI X tg iter i) (ok : BlkOk X.N X.env.scope scope own) (hg : AllB X scope fun Y => VG Y (cpl (own.map (·.2)) 1000) tg b) (ht : AllB X scope fun Y => VTs Y ifs t) (he : AllB X scope fun Y => VE Y elt f)
    (hs : ∀ x, foldedSetIterable iter X.env x = pure x := by intro _; rfl) (hp : j ∉ pm := by decide) : VS X pm (.Assign [.Name y py] (.ListComp elt [⟨tg, iter, ifs, 0⟩] scope pos) spos) (sSet j (vLc n (own.map (·.2)) i b t f)) :=
  ⟨(ps_setLc hc hN hy hyl hsw hi.pi ok (fun s H C cl fp => (hg s H C cl fp).pg) (fun s H C cl fp => (ht s H C cl fp).pts) (fun s H C cl fp => (he s H C cl fp).pe) hs).imp fun D σ H z => vlc_core (set_v hp z)⟩
theorem vs_setNLc {pm vs : List Nat} (j : Nat) {y : Str} {py spos : Pos} {i : Ev → Option (List D)} {b : D → Ev → Option Ev} {t : Ev → Option Bool} {f : Ev → Option D} {vs' : List Nat} (hc : X.calm = true) (hN : X.N.Nodup) (hy : X.N[j]? = some y) (hyl : X.env.scope.names.lookup y = some .local) (hsw : swapsWith (.ListComp elt [⟨tg, iter, ifs, 0⟩] scope pos) (some (.Name y py)) spos.line X.env = pure true)
    (hi : NI X vs tg iter i) (ok : BlkOk X.N X.env.scope scope own) (hg : AllB X scope fun Y => VG Y (cpl (own.map (·.2)) 1000) tg b) (ht : AllB X scope fun Y => NTs Y ifs t) (he : AllB X scope fun Y => NE Y vs' elt f)
    (hs : ∀ x, foldedSetIterable iter X.env x = pure x := by intro _; rfl) (hp : j ∉ pm := by decide) : VS X pm (.Assign [.Name y py] (.ListComp elt [⟨tg, iter, ifs, 0⟩] scope pos) spos) (sSet j (vF vs (nLc vs vs' (own.map (·.2)) i b t f))) :=
  ⟨(ps_setLc hc hN hy hyl hsw hi.pi ok (fun s H C cl fp => (hg s H C cl fp).pg) (fun s H C cl fp => (ht s H C cl fp).pts) (fun s H C cl fp => (he s H C cl fp).pe) hs).imp fun D σ H z => by
    obtain ⟨F, os, ρ, r, R, e, k⟩ := nf_v (set_v hp z)
    exact nlc_core R e k⟩
end
end Dv
/-! DvM: changes of lists in place; slices, sums of lists, list(), tuple(), in, sum, min, max, any, all. -/
namespace Dv
open PySem PySem.Spec PyProof.Rows L2

section
variable {K : PySem.W.Frag} {F : AS} {H : Hp} {os : Nat → List Addr} {ρ : Ev} {σ : L2.St} {i : Nat} {v : V} {d' : D} {n' : Nat} {L' : List Addr} {a : Addr} {o : HO}
/-- an object that slot i owns is written -/
theorem Rl.upd (R : Rl K F os ρ σ H) (hi : σ[i]? = some (some v)) (ha : a ∈ os i) (q : R1 K F (L2.upd H a o) v d' n' L') (nd : L'.Nodup) (sub : ∀ b ∈ L', b ∈ os i ∨ ∀ j, b ∉ os j) : Rl K F (upo os i L') (ρ.set i (some (d', n'))) σ (L2.upd H a o) := by
  have R0 := R.kill i
  have ws : Step F (fun b => b = a) H F (fun b => b = a) (L2.upd H a o) := write_step (R.there ha)
  have R1' : Rl K F (upo os i []) (ρ.set i none) σ (L2.upd H a o) := R0.ext ws (fun j b z w => by
    rcases upo_mem z with ⟨_, z⟩ | ⟨h, z⟩
    · exact nomatch z
    · exact h (R.dj j i b z (w ▸ ha))) fun b z w => R.noF ha (z ▸ w)
  have z := R1'.put hi q nd fun b z j w => by
    rcases upo_mem w with ⟨_, w⟩ | ⟨h, w⟩
    · exact nomatch w
    · rcases sub b z with z | z
      · exact h (R.dj j i b w z)
      · exact z j w
  have e : upo (upo os i []) i L' = upo os i L' := by
    funext j
    by_cases h : j = i
    · subst h; rw [upo_same, upo_same]
    · rw [upo_ne h, upo_ne h, upo_ne h]
  rw [e, List.set_set] at z
  exact z
theorem step_upd {O : AS} {F0 : AS} {H0 : Hp} {P : AS} (s : Step F0 O H0 F P H) (ha : ∃ x, H a = some x) (hP : ∀ j, ∀ b ∈ os j, P b) (hpa : P a) (hL : ∀ b ∈ L', P b) : Step F0 O H0 F (Own (upo os i L')) (L2.upd H a o) := by
  refine s.trans ((write_step ha).weak (fun b z => by rw [z]; exact hpa) fun b ⟨j, z⟩ => .inr (.inl ?_))
  rcases upo_mem z with ⟨_, z⟩ | ⟨_, z⟩
  · exact hL b z
  · exact hP j b z
end
section
variable {X : Cx} {pm vs : List Nat} {e c a : Expr} {pos : Pos}
/-! ### x.append(e) -/
def sApp (i : Nat) (f : Ev → Option (AV × Ev)) : Ev → Option Out := fun ρ => match ρ[i]? with
  | some (some (.lst _, _ + 1)) => (f ρ).bind fun r => (match r.2[i]? with
    | some (some (.lst ds, n + 1)) => if fit n r.1 = true ∧ ds.length < sizeLine then some (.nx (r.2.set i (some (.lst (ds ++ [r.1.1]), n + 1)))) else none
    | _ => none)
  | _ => none
theorem lstO_inv {K : PySem.W.Frag} {F : AS} {H : Hp} {v : V} {ds : List D} {n : Nat} {L : List Addr} (r : R1 K F H v (.lst ds) (n + 1) L) : ∃ p xs L', v = .ref p ∧ L = p :: L' ∧ ¬ F p ∧ H p = some (.lst xs) ∧ Rs K F H xs ds n L' := by
  cases r with
  | lstO h1 h2 r => exact ⟨_, _, _, rfl, rfl, h1, h2, r⟩
theorem app_core {i : Nat} {f : Ev → Option (AV × Ev)} {K : PySem.W.Frag} {D : Ends} {σ : L2.St} {H : Hp} : tS K pm (sApp i f) D σ H → tDrop (tBM K "list" rAppend (tVar i) (tCons (tV K f) tNil)) D σ H := fun ⟨F, os, ρ, o, R, e, k⟩ => by
  unfold sApp at e
  split at e
  · rename_i ds0 n0 e0
    obtain ⟨r, e1, e2⟩ := Option.bind_eq_some_iff.mp e
    split at e2
    · rename_i ds n e3
      split at e2
      · rename_i hf
        cases e2
        obtain ⟨v, ev, q0⟩ := R.slot i _ _ e0
        obtain ⟨p, xs0, L0, rfl, eL0, nF0, hp0, _⟩ := lstO_inv q0
        refine ⟨.ref p, ev, .inl ⟨rfl, _, SqL.of hp0⟩, F, os, ρ, r, R, e1, fun x H1 F1 os1 Lx s1 R1' qx nx djx => ?_⟩
        obtain ⟨F2, L2', s2, R2, q2, n2, dj2⟩ := fit_st hf.1 R1' qx nx djx
        obtain ⟨v', ev', q⟩ := R2.slot i _ _ e3
        rw [ev] at ev'
        cases ev'
        obtain ⟨p', xs, L, ep, eL, nF, hp, qs⟩ := lstO_inv q
        cases ep
        have hpo : p ∈ os1 i := by rw [eL]; exact List.mem_cons_self
        refine ⟨p, xs, x, rfl, rfl, hp, by rw [qs.length]; exact hf.2, ?_⟩
        have ndi := R2.nd i
        rw [eL] at ndi
        obtain ⟨m1, m2⟩ := List.nodup_cons.mp ndi
        have pL : p ∉ L2' := fun z => dj2 p z i hpo
        have ws : Step F2 (fun b => b = p) H1 F2 (fun b => b = p) (upd H1 p (.lst (xs ++ [x]))) := write_step ⟨_, hp⟩
        have qn : R1 K F2 (upd H1 p (.lst (xs ++ [x]))) (.ref p) (.lst (ds ++ [r.1.1])) (n + 1) (p :: (L ++ L2')) := by
          refine .lstO nF upd_same (Rep.ext (Rs.app qs (Rs.one q2)) (fun _ z => z) (fun b o w h => ws.keep b o h fun z => nF (z ▸ w)) (fun b o w h => ws.keep b o h fun z => ?_) (Rs.app qs (Rs.one q2)).notF)
          subst z
          exact (List.mem_append.mp w).elim m1 pL
        have ndn : (p :: (L ++ L2')).Nodup := List.nodup_cons.mpr ⟨fun z => (List.mem_append.mp z).elim m1 pL, List.nodup_append.mpr ⟨m2, n2, fun b z c w e => dj2 c w i (by rw [eL]; exact List.mem_cons_of_mem _ (e ▸ z))⟩⟩
        have Rn := R2.upd ev hpo qn ndn fun b z => by
          rcases List.mem_cons.mp z with rfl | z
          · exact .inl hpo
          · rcases List.mem_append.mp z with z | z
            · exact .inl (by rw [eL]; exact List.mem_cons_of_mem _ z)
            · exact .inr (dj2 b z)
        refine k σ _ F2 _ (step_upd (s1.trans s2) ⟨_, hp⟩ (fun j b z => .inl ⟨j, z⟩) (.inl ⟨i, hpo⟩) fun b z => ?_) Rn .refl
        rcases List.mem_cons.mp z with rfl | z
        · exact .inl ⟨i, hpo⟩
        · rcases List.mem_append.mp z with z | z
          · exact .inl ⟨i, by rw [eL]; exact List.mem_cons_of_mem _ z⟩
          · exact .inr z
      · cases e2
    · cases e2
  · cases e
theorem vs_app (i : Nat) {x : Str} {f : Ev → Option (AV × Ev)} {xp apos cpos : Pos} (he : VE X e f) (hN : X.N[i]? = some x := by rfl) (hv : Vis X.env.scope x := by first | exact Or.inl rfl | exact Or.inr (Or.inl rfl) | exact Or.inr (Or.inr rfl)) (hd : (x == ("__debug__" : Str)) = false := by decide)
    (hcd : (x == ("__classdict__" : Str)) = false := by decide) (h1 : starEach [e] X.env = (false, eval e X.env) :: starEach [] X.env := by rfl) (h2 : attributeBase (.Name x xp) "append" X.env (eval (.Name x xp) X.env) = eval (.Name x xp) X.env := by rfl)
    (h3 : ((backTo cpos (starEach [e] X.env)).all (fun x => !x.1) && (backToKw cpos (keywordEach [] X.env)).all (fun x => x.1.isSome) && decide ([e].length + ([] : List Keyword).length + (if ([] : List Keyword).isEmpty then 0 else 1) < 30)) = true := by rfl)
    (h4 : (apos.endLine == cpos.line) = true := by rfl) (h5 : (backTo cpos (starEach [] X.env)).any (·.1) = false := by rfl)
    (hs : swapsWith (.Call (.Attribute (.Name x xp) "append" apos) [e] [] cpos) none pos.line X.env = pure false := by rfl) : VS X pm (.Expr (.Call (.Attribute (.Name x xp) "append" apos) [e] [] cpos) pos) (sApp i f) :=
  ⟨(ps_expr (pe_bm PySem.F.plainAttrs_list PySem.F.slot_list_append PySem.F.type_list_append mt_append (pv i hN hv hd hcd) (pa_cons he.pe pa_nil h1) h2 h3 h4 h1 h5) hs).imp fun D σ H z => app_core z⟩

/-! ### x[k] = e, x[k][l] = e -/
def sSetIx (i : Nat) (fk : Ev → Option D) (f : Ev → Option (AV × Ev)) : Ev → Option Out := fun ρ => (f ρ).bind fun r => (fk r.2).bind fun kd => match kd, r.2[i]? with
  | .int k, some (some (.lst ds, n + 1)) => (ixN ds.length k).bind fun j => if fit n r.1 = true then some (.nx (r.2.set i (some (.lst (ds.set j r.1.1), n + 1)))) else none
  | _, _ => none
theorem ixN_lt {n : Nat} {k : Int} {j : Nat} (h : ixN n k = some j) : j < n := (ixN_seq h).2.1
theorem vs_setIx (i : Nat) {x : Str} {fk : Ev → Option D} {f : Ev → Option (AV × Ev)} {xp spos : Pos} (he : VE X e f) (hk : NE X vs c fk) (hN : X.N[i]? = some x := by rfl) (hv : Vis X.env.scope x := by first | exact Or.inl rfl | exact Or.inr (Or.inl rfl) | exact Or.inr (Or.inr rfl)) (hd : (x == ("__debug__" : Str)) = false := by decide)
    (hcd : (x == ("__classdict__" : Str)) = false := by decide) (ha : ∀ v, assign (.Subscript (.Name x xp) c spos) X.env v = (do
      let ov ← holding [v] (eval (.Name x xp) X.env)
      let iv ← holding [v, ov] (eval c X.env)
      standAt spos
      holding [v, ov, iv] (setItem ov iv v)
      release [v, ov, iv] []) := by intro _; rfl) (hs : swapsWithSole [.Subscript (.Name x xp) c spos] e pos.line X.env = pure false := by rfl) (hw : swappedStores [.Subscript (.Name x xp) c spos] e X.env = pure none := by rfl) (h1 : (assignEach [.Subscript (.Name x xp) c spos] X.env).map (·.2) = [assign (.Subscript (.Name x xp) c spos) X.env] := by rfl) :
    VS X pm (.Assign [.Subscript (.Name x xp) c spos] e pos) (sSetIx i fk f) :=
  ⟨(ps_asg he.pe (pg_sub (pv i hN hv hd hcd) hk.pe set_list ha) hs hw h1).imp fun D σ H ⟨F, os, ρ, o, R, e, k⟩ => by
    obtain ⟨r, e1, e2⟩ := Option.bind_eq_some_iff.mp e
    obtain ⟨kd, e3, e4⟩ := Option.bind_eq_some_iff.mp e2
    split at e4
    · rename_i ki ds n e5
      obtain ⟨j, e6, e7⟩ := Option.bind_eq_some_iff.mp e4
      split at e7
      · rename_i hf
        cases e7
        refine ⟨F, os, ρ, r, R, e1, fun x H1 F1 os1 Lx s1 R1' qx nx djx => ?_⟩
        obtain ⟨F2, L2', s2, R2, q2, n2, dj2⟩ := fit_st hf R1' qx nx djx
        obtain ⟨v, ev, q0⟩ := R2.slot i _ _ e5
        refine ⟨v, ev, F2, os1, r.2, _, R2, e3, fun kv H3 F3 s3 q3 => ?_⟩
        cases q3
        have R3 := R2.ext0 s3
        have q2' : R1 X.K F3 H3 x r.1.1 n L2' := q2.tmp2 (P := Emp) (fun _ z => z.elim) (fun _ _ z => z) s3
        obtain ⟨v', ev', q⟩ := R3.slot i _ _ e5
        rw [ev] at ev'
        cases ev'
        obtain ⟨p, xs, L, rfl, eL, nF, hp, qs⟩ := lstO_inv q
        have hpo : p ∈ os1 i := by rw [eL]; exact List.mem_cons_self
        refine ⟨p, xs, ki, j, rfl, rfl, hp, by rw [qs.length]; exact e6, ?_⟩
        have ndi := R3.nd i
        rw [eL] at ndi
        obtain ⟨m1, m2⟩ := List.nodup_cons.mp ndi
        have pL : p ∉ L2' := fun z => dj2 p z i hpo
        obtain ⟨L3, q4, h4, h5⟩ := Rs.set qs q2' (ixN_lt e6)
        have pL3 : p ∉ L3 := fun z => (h4 p z).elim m1 pL
        have nd3 : L3.Nodup := h5 m2 n2 fun b z w => dj2 b z i (by rw [eL]; exact List.mem_cons_of_mem _ w)
        have ws : Step F3 (fun b => b = p) H3 F3 (fun b => b = p) (upd H3 p (.lst (xs.set j x))) := write_step ⟨_, hp⟩
        have qn : R1 X.K F3 (upd H3 p (.lst (xs.set j x))) (.ref p) (.lst (ds.set j r.1.1)) (n + 1) (p :: L3) :=
          .lstO nF upd_same (q4.ext (fun _ z => z) (fun b o w h => ws.keep b o h fun z => nF (z ▸ w)) (fun b o w h => ws.keep b o h fun z => pL3 (z ▸ w)) q4.notF)
        have Rn := R3.upd ev hpo qn (List.nodup_cons.mpr ⟨pL3, nd3⟩) fun b z => by
          rcases List.mem_cons.mp z with rfl | z
          · exact .inl hpo
          · rcases h4 b z with z | z
            · exact .inl (by rw [eL]; exact List.mem_cons_of_mem _ z)
            · exact .inr (dj2 b z)
        have st : Step F (Own os) H F3 (fun b => Own os1 b ∨ b ∈ L2') H3 := (s1.trans s2).trans s3.step
        refine k σ _ F3 _ (step_upd st ⟨_, hp⟩ (fun j b z => .inl ⟨j, z⟩) (.inl ⟨i, hpo⟩) fun b z => ?_) Rn .refl
        rcases List.mem_cons.mp z with rfl | z
        · exact .inl ⟨i, hpo⟩
        · rcases h4 b z with z | z
          · exact .inl ⟨i, by rw [eL]; exact List.mem_cons_of_mem _ z⟩
          · exact .inr z
      · cases e7
    · cases e4⟩
/-- one row changed -/
theorem Rs.upd_at {K : PySem.W.Frag} {F : AS} {H H' : Hp} {xs : List V} {ds : List D} {n : Nat} {L : List Addr} {b : Addr} (r : Rs K F H xs ds n L) (nd : L.Nodup) (hb : ∀ a o, a ≠ b → H a = some o → H' a = some o) (nF : ¬ F b) {j : Nat} {d : D} (hd : ds[j]? = some d) :
    ∃ v Lj, xs[j]? = some v ∧ R1 K F H v d n Lj ∧ Lj.Sublist L ∧ (b ∈ Lj → ∀ {d' : D} {Lj' : List Addr}, R1 K F H' v d' n Lj' → Lj'.Nodup → (∀ a ∈ Lj', a ∈ Lj ∨ a ∉ L) → ∃ L', Rs K F H' xs (ds.set j d') n L' ∧ L'.Nodup ∧ ∀ a ∈ L', a ∈ L ∨ a ∈ Lj') := by
  refine Rs.ind (P := fun xs ds L => L.Nodup → ∀ (j : Nat) (d : D), ds[j]? = some d → ∃ v Lj, xs[j]? = some v ∧ R1 K F H v d n Lj ∧ Lj.Sublist L ∧ (b ∈ Lj → ∀ {d' : D} {Lj' : List Addr}, R1 K F H' v d' n Lj' → Lj'.Nodup → (∀ a ∈ Lj', a ∈ Lj ∨ a ∉ L) → ∃ L', Rs K F H' xs (ds.set j d') n L' ∧ L'.Nodup ∧ ∀ a ∈ L', a ∈ L ∨ a ∈ Lj')) r (fun _ j d h => by simp at h) (fun v vs d ds L1 L2 r1 r2 ih nd j x h => ?_) nd j d hd
  obtain ⟨m1, m2, m3⟩ := List.nodup_append.mp nd
  have keepR : ∀ {bb : Bool} {vs : List V} {ds : List D} {L : List Addr}, Rep K F H bb vs ds n L → b ∉ L → Rep K F H' bb vs ds n L := fun q hn => q.ext (fun _ z => z) (fun a o w h => hb a o (fun z => nF (z ▸ w)) h) (fun a o w h => hb a o (fun z => hn (z ▸ w)) h) q.notF
  cases j with
  | zero =>
    simp at h
    subst h
    refine ⟨v, L1, rfl, r1, List.sublist_append_left _ _, fun hbm d' Lj' q nd' sub => ⟨Lj' ++ L2, .cons q (keepR r2 fun z => m3 b hbm b z rfl) rfl, List.nodup_append.mpr ⟨nd', m2, fun a z c w e => ?_⟩, fun a z => ?_⟩⟩
    · subst e
      rcases sub a z with z | z
      · exact m3 a z a w rfl
      · exact z (List.mem_append_right _ w)
    · exact (List.mem_append.mp z).elim .inr fun z => .inl (List.mem_append_right _ z)
  | succ j =>
    obtain ⟨w, Lj, e1, q, s, go⟩ := ih m2 j x (by simpa using h)
    refine ⟨w, Lj, by simpa using e1, q, s.trans (List.sublist_append_right _ _), fun hbm d' Lj' q' nd' sub => ?_⟩
    obtain ⟨L', q2, n2, h2⟩ := go hbm q' nd' fun a z => (sub a z).imp id fun z w => z (List.mem_append_right _ w)
    refine ⟨L1 ++ L', .cons (keepR r1 fun z => m3 b z b (s.subset hbm) rfl) q2 rfl, List.nodup_append.mpr ⟨m1, n2, fun a z c w e => ?_⟩, fun a z => ?_⟩
    · subst e
      rcases h2 a w with w | w
      · exact m3 a z a w rfl
      · rcases sub a w with w | w
        · exact m3 a z a (s.subset w) rfl
        · exact w (List.mem_append_left _ z)
    · rcases List.mem_append.mp z with z | z
      · exact .inl (List.mem_append_left _ z)
      · exact (h2 a z).imp (fun z => List.mem_append_right _ z) id
def sSetIx2 (i : Nat) (fk fl : Ev → Option D) (f : Ev → Option (AV × Ev)) : Ev → Option Out := fun ρ => (f ρ).bind fun r => (fk r.2).bind fun kd => (fl r.2).bind fun ld => match kd, ld, r.2[i]? with
  | .int k, .int l, some (some (.lst ds, n + 2)) => (ixN ds.length k).bind fun j => (match ds[j]? with
    | some (.lst rs) => (ixN rs.length l).bind fun m => if fit n r.1 = true then some (.nx (r.2.set i (some (.lst (ds.set j (.lst (rs.set m r.1.1))), n + 2)))) else none
    | _ => none)
  | _, _, _ => none
theorem vs_setIx2 (i : Nat) {x : Str} {fk fl : Ev → Option D} {f : Ev → Option (AV × Ev)} {xp rpos spos : Pos} (he : VE X e f) (hk : NE X vs c fk) (hl : NE X vs a fl) (hN : X.N[i]? = some x := by rfl) (hv : Vis X.env.scope x := by first | exact Or.inl rfl | exact Or.inr (Or.inl rfl) | exact Or.inr (Or.inr rfl)) (hd : (x == ("__debug__" : Str)) = false := by decide)
    (hcd : (x == ("__classdict__" : Str)) = false := by decide) (hpl : PlainIx c := by intro _ _; rfl) (ha : ∀ v, assign (.Subscript (.Subscript (.Name x xp) c rpos) a spos) X.env v = (do
      let ov ← holding [v] (eval (.Subscript (.Name x xp) c rpos) X.env)
      let iv ← holding [v, ov] (eval a X.env)
      standAt spos
      holding [v, ov, iv] (setItem ov iv v)
      release [v, ov, iv] []) := by intro _; rfl) (hs : swapsWithSole [.Subscript (.Subscript (.Name x xp) c rpos) a spos] e pos.line X.env = pure false := by rfl) (hw : swappedStores [.Subscript (.Subscript (.Name x xp) c rpos) a spos] e X.env = pure none := by rfl)
    (h1 : (assignEach [.Subscript (.Subscript (.Name x xp) c rpos) a spos] X.env).map (·.2) = [assign (.Subscript (.Subscript (.Name x xp) c rpos) a spos) X.env] := by rfl) :
    VS X pm (.Assign [.Subscript (.Subscript (.Name x xp) c rpos) a spos] e pos) (sSetIx2 i fk fl f) :=
  ⟨(ps_asg he.pe (pg_sub (pe_ix ix_seq (pv i hN hv hd hcd) hk.pe hpl) hl.pe set_list ha) hs hw h1).imp fun D σ H ⟨F, os, ρ, o, R, e, k⟩ => by
    obtain ⟨r, e1, e2⟩ := Option.bind_eq_some_iff.mp e
    obtain ⟨kd, e3, e2'⟩ := Option.bind_eq_some_iff.mp e2
    obtain ⟨ld, e3', e4⟩ := Option.bind_eq_some_iff.mp e2'
    split at e4
    · rename_i ki li ds n e5
      obtain ⟨j, e6, e7⟩ := Option.bind_eq_some_iff.mp e4
      split at e7
      · rename_i rs er
        obtain ⟨m, e8, e9⟩ := Option.bind_eq_some_iff.mp e7
        split at e9
        · rename_i hf
          cases e9
          refine ⟨F, os, ρ, r, R, e1, fun x H1 F1 os1 Lx s1 R1' qx nx djx => ?_⟩
          obtain ⟨F2, L2', s2, R2, q2, n2, dj2⟩ := fit_st hf R1' qx nx djx
          obtain ⟨v, ev, q0⟩ := R2.slot i _ _ e5
          obtain ⟨p, xs, L0, rfl, eL0, nF0, hp0, qs0⟩ := lstO_inv q0
          refine ⟨_, ev, F2, os1, r.2, _, R2, e3, fun kv H3 F3 s3 q3 => ?_⟩
          cases q3
          have R3 := R2.ext0 s3
          have hp3 : H3 p = some (.lst xs) := s3.keep p _ hp0 fun z => z
          obtain ⟨v3, ev3, q3'⟩ := R3.slot i _ _ e5
          rw [ev] at ev3
          cases ev3
          obtain ⟨p3, xs3, L, ep, eL, nF, hp, qs⟩ := lstO_inv q3'
          cases ep
          obtain ⟨w, Lw, ew, _, qw⟩ := qs.get er
          obtain ⟨b, ys, Lb, rfl, eLb, nFb, hb, qrs⟩ := lstO_inv qw
          refine .inl ⟨p, xs3, ki, .ref b, rfl, rfl, SqL.of hp, ?_, F3, os1, r.2, _, R3, e3', fun lv H4 F4 s4 q4 => ?_⟩
          · show (ixN xs3.length ki).bind _ = _
            rw [qs.length, e6]
            exact ew
          · cases q4
            have R4 := R3.ext0 s4
            have q2' : R1 X.K F4 H4 x r.1.1 n L2' := (q2.tmp2 (P := Emp) (fun _ z => z.elim) (fun _ _ z => z) s3).tmp2 (P := Emp) (fun _ z => z.elim) (fun _ _ z => z) s4
            obtain ⟨v4, ev4, q4'⟩ := R4.slot i _ _ e5
            rw [ev] at ev4
            cases ev4
            obtain ⟨p4, xs4, L4, ep4, eL4, nF4, hp4, qs4⟩ := lstO_inv q4'
            cases ep4
            have hxs : xs4 = xs3 := by
              have := s4.keep p _ hp fun z => z
              rw [hp4] at this
              cases this
              rfl
            subst hxs
            have ndi := R4.nd i
            rw [eL4] at ndi
            obtain ⟨m1, m2⟩ := List.nodup_cons.mp ndi
            have hb4 : H4 b = some (.lst ys) := s4.keep b _ hb fun z => z
            have keep4 : ∀ a o, a ≠ b → H4 a = some o → (upd H4 b (.lst (ys.set m x))) a = some o := fun a o hne h => by rw [upd_ne hne]; exact h
            obtain ⟨vj, Lj, ej, qj, sj, go⟩ := Rs.upd_at (b := b) (H' := upd H4 b (.lst (ys.set m x))) qs4 m2 keep4 (fun z => by
              obtain ⟨w', Lw', ew', sw', qw'⟩ := qs4.get er
              rw [ew] at ew'
              cases ew'
              obtain ⟨b', ys', Lb', eb', eLb', nFb', _, _⟩ := lstO_inv qw'
              cases eb'
              exact nFb' z) er
            rw [ew] at ej
            cases ej
            obtain ⟨b', ys', Lb', eb', eLj, nFb', hb', qrs'⟩ := lstO_inv qj
            cases eb'
            rw [hb4] at hb'
            cases hb'
            have hbL : b ∈ L4 := sj.subset (by rw [eLj]; exact List.mem_cons_self)
            have hbo : b ∈ os1 i := by rw [eL4]; exact List.mem_cons_of_mem _ hbL
            have hpo : p ∈ os1 i := by rw [eL4]; exact List.mem_cons_self
            refine ⟨b, ys, li, m, rfl, rfl, hb4, by rw [qrs'.length]; exact e8, ?_⟩
            have ndj : (b :: Lb').Nodup := by rw [← eLj]; exact m2.sublist sj
            obtain ⟨j1, j2⟩ := List.nodup_cons.mp ndj
            have subL : ∀ z ∈ L4, z ∈ os1 i := fun z h => by rw [eL4]; exact List.mem_cons_of_mem _ h
            have subLb : ∀ z ∈ Lb', z ∈ L4 := fun z h => sj.subset (by rw [eLj]; exact List.mem_cons_of_mem _ h)
            have far2 : ∀ z ∈ L2', z ∉ L4 := fun z h w => dj2 z h i (subL z w)
            obtain ⟨L5, q5, h5, h5'⟩ := Rs.set qrs' q2' (ixN_lt e8)
            have nd5 : L5.Nodup := h5' j2 n2 fun z h w => far2 z h (subLb z w)
            have b5 : b ∉ L5 := fun z => (h5 b z).elim j1 fun z => far2 b z hbL
            have ws : Step F4 (fun z => z = b) H4 F4 (fun z => z = b) (upd H4 b (.lst (ys.set m x))) := write_step ⟨_, hb4⟩
            have qb : R1 X.K F4 (upd H4 b (.lst (ys.set m x))) (.ref b) (.lst (rs.set m r.1.1)) (n + 1) (b :: L5) :=
              .lstO nFb' upd_same (q5.ext (fun _ z => z) (fun z o w h => ws.keep z o h fun y => nFb' (y ▸ w)) (fun z o w h => ws.keep z o h fun y => b5 (y ▸ w)) q5.notF)
            obtain ⟨L6, q6, n6, h6⟩ := go (by rw [eLj]; exact List.mem_cons_self) qb (List.nodup_cons.mpr ⟨b5, nd5⟩) fun z h => by
              rcases List.mem_cons.mp h with rfl | h
              · exact .inl (by rw [eLj]; exact List.mem_cons_self)
              · rcases h5 z h with h | h
                · exact .inl (by rw [eLj]; exact List.mem_cons_of_mem _ h)
                · exact .inr (far2 z h)
            have in6 : ∀ z ∈ L6, z ∈ L4 ∨ z ∈ L2' := fun z h => by
              rcases h6 z h with h | h
              · exact .inl h
              · rcases List.mem_cons.mp h with rfl | h
                · exact .inl hbL
                · exact (h5 z h).imp (subLb z) id
            have p6 : p ∉ L6 := fun z => (in6 p z).elim m1 fun z => dj2 p z i hpo
            have pb : p ≠ b := fun z => m1 (z ▸ hbL)
            have qn : R1 X.K F4 (upd H4 b (.lst (ys.set m x))) (.ref p) (.lst (ds.set j (.lst (rs.set m r.1.1)))) (n + 2) (p :: L6) :=
              .lstO nF4 (by rw [upd_ne pb]; exact hp4) q6
            have Rn := R4.upd ev hbo qn (List.nodup_cons.mpr ⟨p6, n6⟩) fun z h => by
              rcases List.mem_cons.mp h with rfl | h
              · exact .inl hpo
              · exact (in6 z h).imp (subL z) (dj2 z)
            have st : Step F (Own os) H F4 (fun b => Own os1 b ∨ b ∈ L2') H4 := ((s1.trans s2).trans s3.step).trans s4.step
            refine k σ _ F4 _ (step_upd st ⟨_, hb4⟩ (fun j b z => .inl ⟨j, z⟩) (.inl ⟨i, hbo⟩) fun z h => ?_) Rn .refl
            rcases List.mem_cons.mp h with rfl | h
            · exact .inl ⟨i, hpo⟩
            · exact (in6 z h).imp (fun h => ⟨i, subL z h⟩) id
        · cases e9
      · cases e7
    · cases e4⟩
end
end Dv
/-! DvN: slices, lists joined and repeated, list(), tuple(), in, sum, min, max, any, all. -/
namespace Dv
open PySem PySem.Spec PyProof.Rows L2
section
variable {X : Cx} {vs : List Nat} {a c e : Expr} {es : List Expr} {pos p p2 : Pos} {fa fc : Ev → Option D}
theorem new_none {F F1 : AS} {H H1 : Hp} {q : Addr} (s : Ext F H F1 H1) (h : H1 q = none) : H q = none := by
  cases e : H q with
  | none => rfl
  | some o => obtain ⟨o', e'⟩ := s.dom q o e; rw [h] at e'; cases e'
/-- what a rule that lays a new list hands on -/
theorem nf_new {K : PySem.W.Frag} {F F1 : AS} {H H1 : Hp} {os : Nat → List Addr} {ρ : Ev} {σ : L2.St} {ds : List D} {ys : List V} {q : Addr} {Q : VK} (R : Rl K F os ρ σ H) (s1 : Ext F H F1 H1) (hq : H1 q = none) (r : Rs K (Gs F1 os vs) H1 ys ds 0 [])
    (k : ∀ p xs H' F', Ext F H F' H' → H p = none → ¬ F' p → H' p = some (.lst xs) → Rs K (Gs F' os vs) H' xs ds 0 [] → Q (.ref p) H') : Q (.ref q) (upd H1 q (.lst ys)) := by
  refine k q ys _ F1 (s1.trans (Step.alloc hq)) (new_none s1 hq) (fun z => ?_) upd_same (r.ext (fun _ z => z) (fun b o _ h => by rw [upd_ne (ne_of_none h hq)]; exact h) (fun _ _ z => nomatch z) fun _ z => nomatch z)
  obtain ⟨o, e⟩ := s1.domF R.dom q z
  rw [hq] at e; cases e
theorem ne_new {K : PySem.W.Frag} {F F1 : AS} {H H1 : Hp} {os : Nat → List Addr} {ds : List D} {ys : List V} {q : Addr} {Q : VK} (s1 : Ext F H F1 H1) (hq : H1 q = none) (r : Rs K (Gs F1 os vs) H1 ys ds 0 [])
    (k : ∀ v H' F', Ext F H F' H' → R1 K (Gs F' os vs) H' v (.tup ds) 0 [] → Q v H') : Q (.ref q) (upd H1 q (.tup ys)) :=
  k _ _ (fun a => F1 a ∨ a = q) (s1.trans (Step.allocF hq)) (.tupF (.inl ⟨.inl (.inr rfl), upd_same⟩) (r.ext (fun a z => z.elim (fun z => .inl (.inl z)) .inr) (fun b o _ h => by rw [upd_ne (ne_of_none h hq)]; exact h) (fun _ _ z => nomatch z) fun _ z => nomatch z))
/-! ### xs + ys, xs * k -/
def lOf (f : Ev → Option D) : Ev → Option (List D) := fun ρ => (f ρ).bind fun d => match d with
  | .lst ds => some ds
  | _ => none
theorem lOf_some {f : Ev → Option D} {ρ : Ev} {ds : List D} (h : lOf f ρ = some ds) : f ρ = some (.lst ds) := by
  obtain ⟨d, e1, e2⟩ := Option.bind_eq_some_iff.mp h
  cases d <;> first | (cases e2; done) | skip
  cases e2
  exact e1
theorem nf_cat (ha : NE X vs a fa) (hc : NE X vs c fc) : NF X vs (.BinOp a .Add c pos) (fun ρ => (lOf fa ρ).bind fun x => (lOf fc ρ).bind fun y => if x.length + y.length ≤ sizeLine then some (x ++ y) else none) :=
  ⟨(pe_op op_cat ha.pe hc.pe).imp fun σ H Q ⟨F, os, ρ, d, R, e, k⟩ => by
    obtain ⟨x, e1, e⟩ := Option.bind_eq_some_iff.mp e
    obtain ⟨y, e2, e⟩ := Option.bind_eq_some_iff.mp e
    split at e
    · rename_i hz
      cases e
      refine ⟨F, os, ρ, _, R, lOf_some e1, fun v1 H1 F1 s1 q1 => ⟨F1, os, ρ, _, R.ext0 s1, lOf_some e2, fun v2 H2 F2 s2 q2 => ?_⟩⟩
      obtain ⟨l, xs, rfl, h1, r1⟩ := R1.lst0 (q1.ne s2)
      obtain ⟨b, ys, rfl, h2, r2⟩ := R1.lst0 q2
      exact ⟨l, b, xs, ys, rfl, rfl, h1.2, h2.2, by rw [r1.length, r2.length]; exact hz, fun q hq => nf_new R (s1.trans s2) hq (Rs.app0 r1 r2) k⟩
    · cases e⟩
theorem Rs.rep {K : PySem.W.Frag} {F : AS} {H : Hp} {xs : List V} {ds : List D} (r : Rs K F H xs ds 0 []) : ∀ n : Nat, Rs K F H (List.replicate n xs).flatten (List.replicate n ds).flatten 0 []
  | 0 => .nil
  | n + 1 => by
    simp only [List.replicate_succ, List.flatten_cons]
    exact r.app0 (Rs.rep r n)
theorem nf_rep (ha : NE X vs a fa) (hc : NE X vs c fc) : NF X vs (.BinOp a .Mult c pos) (fun ρ => (lOf fa ρ).bind fun x => (fc ρ).bind fun y => match y with
    | .int k => if (-(2 ^ 63) ≤ k ∧ k < 2 ^ 63) ∧ x.length * k.toNat ≤ sizeLine then some (List.replicate k.toNat x).flatten else none
    | _ => none) :=
  ⟨(pe_op op_rep ha.pe hc.pe).imp fun σ H Q ⟨F, os, ρ, d, R, e, k⟩ => by
    obtain ⟨x, e1, e⟩ := Option.bind_eq_some_iff.mp e
    obtain ⟨y, e2, e⟩ := Option.bind_eq_some_iff.mp e
    split at e
    · split at e
      · rename_i hz
        cases e
        refine ⟨F, os, ρ, _, R, lOf_some e1, fun v1 H1 F1 s1 q1 => ⟨F1, os, ρ, _, R.ext0 s1, e2, fun v2 H2 F2 s2 q2 => ?_⟩⟩
        obtain ⟨l, xs, rfl, h1, r1⟩ := R1.lst0 (q1.ne s2)
        cases q2
        exact ⟨l, _, xs, rfl, rfl, h1.2, hz.1.1, hz.1.2, by rw [r1.length]; exact hz.2, fun q hq => nf_new R (s1.trans s2) hq (Rs.rep r1 _) k⟩
      · cases e
    · cases e⟩

/-! ### slices -/
def cutL {α : Type} (xs : List α) (lo hi : Option Int) : List α := (xs.drop (HT.sIx xs.length 0 lo)).take (HT.sIx xs.length xs.length hi - HT.sIx xs.length 0 lo)
def tNO (K : PySem.W.Frag) (f : Ev → Option (Option Int)) : L2.TO := fun σ H Q => ∃ F os ρ d, Rl K F os ρ σ H ∧ f ρ = some d ∧ ∀ H' F', Ext F H F' H' → Q d H'
structure NO (X : Cx) (e : Option Expr) (f : Ev → Option (Option Int)) : Prop where
  po : PO X e (tNO X.K f)
theorem _root_.L2.PO.imp {X : Cx} {e : Option Expr} {t t' : L2.TO} (h : PO X e t) (w : ∀ σ H Q, t' σ H Q → t σ H Q) : PO X e t' := ⟨fun pins s σ H Q I q => h.run pins s σ H Q I (w σ H Q q)⟩
theorem no_none : NO X none (fun _ => some none) := ⟨po_none.imp fun σ H Q ⟨F, os, ρ, d, R, e, k⟩ => by cases e; exact k H F .refl⟩
theorem no_some (h : NE X vs e fa) : NO X (some e) (fun ρ => (fa ρ).bind fun d => match d with | .int i => some (some i) | _ => none) := ⟨(po_some h.pe).imp fun σ H Q ⟨F, os, ρ, d, R, e, k⟩ => by
  obtain ⟨x, e1, e2⟩ := Option.bind_eq_some_iff.mp e
  cases x <;> first | (cases e2; done) | skip
  cases e2
  exact ⟨F, os, ρ, _, R, e1, fun v H1 F1 s1 q1 => by cases q1; exact ⟨_, rfl, k H1 F1 s1⟩⟩⟩
theorem nf_sl {lo hi : Option Expr} {fl fh : Ev → Option (Option Int)} (ha : NE X vs a fa) (hl : NO X lo fl) (hh : NO X hi fh) : NF X vs (.Subscript a (.Slice lo hi none p2) pos) (fun ρ => (lOf fa ρ).bind fun x => (fl ρ).bind fun l => (fh ρ).bind fun h => some (cutL x l h)) :=
  ⟨(pe_slice sl_list ha.pe hl.po hh.po).imp fun σ H Q ⟨F, os, ρ, d, R, e, k⟩ => by
    obtain ⟨x, e1, e⟩ := Option.bind_eq_some_iff.mp e
    obtain ⟨l, e2, e⟩ := Option.bind_eq_some_iff.mp e
    obtain ⟨h, e3, e⟩ := Option.bind_eq_some_iff.mp e
    cases e
    refine ⟨F, os, ρ, _, R, lOf_some e1, fun v1 H1 F1 s1 q1 => ⟨F1, os, ρ, _, R.ext0 s1, e2, fun H2 F2 s2 => ⟨F2, os, ρ, _, (R.ext0 s1).ext0 s2, e3, fun H3 F3 s3 => ?_⟩⟩⟩
    obtain ⟨b, xs, rfl, hb, r⟩ := R1.lst0 ((q1.ne s2).ne s3)
    refine ⟨b, xs, rfl, hb.sq, fun q hq => nf_new R ((s1.trans s2).trans s3) hq ?_ k⟩
    unfold cutV cutL
    rw [r.length]
    exact (r.drop _).take _⟩
/-- a text's part -/
theorem ne_sls {lo hi : Option Expr} {fl fh : Ev → Option (Option Int)} {r : Str → Option Int → Option Int → Option Str} (hr : SlR X (fun x lo hi H Q => ∃ z y, x = .str z ∧ r z lo hi = some y ∧ Q (.str y) H)) (ha : NE X vs a fa) (hl : NO X lo fl) (hh : NO X hi fh) : NE X vs (.Subscript a (.Slice lo hi none p2) pos) (fun ρ => (fa ρ).bind fun x => (fl ρ).bind fun l => (fh ρ).bind fun h => match x with | .str z => (r z l h).map .str | _ => none) :=
  ⟨(pe_slice hr ha.pe hl.po hh.po).imp fun σ H Q ⟨F, os, ρ, d, R, e, k⟩ => by
    obtain ⟨x, e1, e⟩ := Option.bind_eq_some_iff.mp e
    obtain ⟨l, e2, e⟩ := Option.bind_eq_some_iff.mp e
    obtain ⟨h, e3, e⟩ := Option.bind_eq_some_iff.mp e
    split at e
    · obtain ⟨y, e4, rfl⟩ := Option.map_eq_some_iff.mp e
      exact ⟨F, os, ρ, _, R, e1, fun v1 H1 F1 s1 q1 => ⟨F1, os, ρ, _, R.ext0 s1, e2, fun H2 F2 s2 => ⟨F2, os, ρ, _, (R.ext0 s1).ext0 s2, e3, fun H3 F3 s3 => by cases q1; exact ⟨_, y, rfl, e4, k _ H3 F3 ((s1.trans s2).trans s3) (.str y)⟩⟩⟩⟩
    · cases e⟩

/-! ### list(x), tuple(x) -/
def seqOf : List D → Option (List D)
  | [.lst xs] => some xs
  | [.frl xs] => some xs
  | [.tup xs] => some xs
  | _ => none
def sOf (f : Ev → Option (List D)) : Ev → Option (List D) := fun ρ => (f ρ).bind seqOf
theorem seqOf_some {ds ys : List D} (h : seqOf ds = some ys) : ds = [.lst ys] ∨ ds = [.frl ys] ∨ ds = [.tup ys] := by
  unfold seqOf at h
  split at h <;> first | (cases h; simp; done) | (cases h; done)
theorem sOf_seq {K : PySem.W.Frag} {G : AS} {H : Hp} {xs : List V} {ds ys : List D} (q : Rs K G H xs ds 0 []) (h : seqOf ds = some ys) : ∃ p zs, xs = [.ref p] ∧ (SqL K H p zs ∨ SqT K H p zs) ∧ Rs K G H zs ys 0 [] := by
  rcases seqOf_some h with rfl | rfl | rfl
  · obtain ⟨x, rfl, q1⟩ := Rs.one_inv q
    obtain ⟨b, zs, rfl, hb, r⟩ := R1.lst0 q1
    exact ⟨b, zs, rfl, .inl hb.sq, r⟩
  · obtain ⟨x, rfl, q1⟩ := Rs.one_inv q
    obtain ⟨b, zs, rfl, hb, r⟩ := R1.frl0 q1
    exact ⟨b, zs, rfl, .inl hb.sq, r⟩
  · obtain ⟨x, rfl, q1⟩ := Rs.one_inv q
    obtain ⟨b, zs, rfl, hb, r⟩ := R1.tup0 q1
    exact ⟨b, zs, rfl, .inr hb.sq, r⟩
theorem nf_list {f : Ev → Option (List D)} (hg : Gl X "list") (hm : X.mg "list" = none) (ha : NA X vs [e] f)
    (he : starEach [e] X.env = (false, eval e X.env) :: starEach [] X.env := by rfl) (hpl : (backTo pos (starEach [] X.env)).any (·.1) = false := by rfl) : NF X vs (.Call (.Name "list" p) [e] [] pos) (sOf f) :=
  ⟨(pe_callTy call_list_of hg hm (by decide +kernel) ha.pa (by decide) (by decide) he hpl).imp fun σ H Q ⟨F, os, ρ, d, R, e, k⟩ => by
    obtain ⟨ds, e1, e2⟩ := Option.bind_eq_some_iff.mp e
    refine ⟨F, os, ρ, ds, R, e1, fun xs H1 F1 s1 q1 => ?_⟩
    obtain ⟨b, zs, rfl, hq, r⟩ := sOf_seq q1 e2
    exact ⟨b, zs, rfl, hq, fun q hq => nf_new R s1 hq r k⟩⟩
theorem nf_listRg1 {f : Ev → Option D} (hg : Gl X "list") (hm : X.mg "list" = none) (hg2 : Gl X "range") (hm2 : X.mg "range" = none) (hc : X.calm = true) (ha : NE X vs e f) (ne1 : starEach [e] X.env = (false, eval e X.env) :: starEach [] X.env := by rfl)
    (na : starEach [.Call (.Name "range" p2) [e] [] p] X.env = (false, eval (.Call (.Name "range" p2) [e] [] p) X.env) :: starEach [] X.env := by rfl) : NF X vs (.Call (.Name "list" p) [.Call (.Name "range" p2) [e] [] p] [] pos) (fun ρ => (f ρ).bind fun d => match d with | .int j => if 0 ≤ j ∧ j ≤ 16777216 then some (rng 0 j) else none | _ => none) :=
  ⟨(pe_listRg hc hg hm (prg_1 hg2 hm2 ha.pe ne1) na).imp fun σ H Q ⟨F, os, ρ, d, R, e, k⟩ => by
    obtain ⟨x, e1, e2⟩ := Option.bind_eq_some_iff.mp e
    cases x <;> first | (cases e2; done) | skip
    rename_i j
    have e2 : (if 0 ≤ j ∧ j ≤ 16777216 then some (rng 0 j) else none) = some d := e2
    split at e2
    · rename_i hj
      cases e2
      refine ⟨F, os, ρ, _, R, e1, fun v H1 F1 s1 q1 => ?_⟩
      cases q1
      refine ⟨j, rfl, .of_le (by omega) hj.2 (by omega) hj.1, fun q hq => nf_new R s1 hq ?_ k⟩
      have e : rgV 0 j = (rng 0 j).map D.toV := by unfold rgV rng; rw [List.map_map]; rfl
      rw [e]
      refine Rs.of fun d hd => ?_
      obtain ⟨i, _, rfl⟩ := List.mem_map.mp hd
      rfl
    · cases e2⟩
theorem ne_tupleOf {f : Ev → Option (List D)} (hg : Gl X "tuple") (hm : X.mg "tuple" = none) (ha : NA X vs [e] f)
    (he : starEach [e] X.env = (false, eval e X.env) :: starEach [] X.env := by rfl) (hpl : (backTo pos (starEach [] X.env)).any (·.1) = false := by rfl) : NE X vs (.Call (.Name "tuple" p) [e] [] pos) (fun ρ => (sOf f ρ).map .tup) :=
  ⟨(pe_callTy call_tuple_of hg hm (by decide +kernel) ha.pa (by decide) (by decide) he hpl).imp fun σ H Q ⟨F, os, ρ, d, R, e, k⟩ => by
    obtain ⟨ys, e0, rfl⟩ := Option.map_eq_some_iff.mp e
    obtain ⟨ds, e1, e2⟩ := Option.bind_eq_some_iff.mp e0
    refine ⟨F, os, ρ, ds, R, e1, fun xs H1 F1 s1 q1 => ?_⟩
    rcases seqOf_some e2 with rfl | rfl | rfl
    · obtain ⟨x, rfl, q2⟩ := Rs.one_inv q1
      obtain ⟨b, zs, rfl, hb, r⟩ := R1.lst0 q2
      exact ⟨b, zs, rfl, .inl ⟨hb.sq, fun l hl => ne_new s1 hl r k⟩⟩
    · obtain ⟨x, rfl, q2⟩ := Rs.one_inv q1
      obtain ⟨b, zs, rfl, hb, r⟩ := R1.frl0 q2
      exact ⟨b, zs, rfl, .inl ⟨hb.sq, fun l hl => ne_new s1 hl r k⟩⟩
    · obtain ⟨x, rfl, q2⟩ := Rs.one_inv q1
      obtain ⟨b, zs, rfl, hb, r⟩ := R1.tup0 q2
      exact ⟨b, zs, rfl, .inr ⟨hb.sq, k _ H1 F1 s1 q2⟩⟩⟩

/-! ### x in xs -/
def cIn (x y : D) : Option Bool := match x.py, y with
  | some p, .lst ds => (match D.py.pys ds with
    | some qs => if SeqAt.shaped p = true ∧ SeqAt.shaped (.list qs) = true then some (qs.any fun z => PyData.eqv z p) else none
    | none => none)
  | _, _ => none
def cNotIn (x y : D) : Option Bool := (cIn x y).map not
theorem cIn_some {x y : D} {k : Bool} (h : cIn x y = some k) : ∃ p ds qs, x.py = some p ∧ y = .lst ds ∧ D.py.pys ds = some qs ∧ SeqAt.shaped p = true ∧ SeqAt.shaped (.list qs) = true ∧ k = qs.any fun z => PyData.eqv z p := by
  unfold cIn at h
  split at h
  · rename_i p ds e1
    split at h
    · rename_i qs e2
      split at h
      · rename_i hs; cases h; exact ⟨p, ds, qs, e1, rfl, e2, hs.1, hs.2, rfl⟩
      · cases h
    · cases h
  · cases h
theorem cd_in (hu : X.A.units + 65 < cLine) : CmD X .In cIn := .mk' fun d1 d2 k h K G H x y hK r1 r2 => by
  subst hK
  obtain ⟨p, ds, qs, e1, rfl, e2, s1, s2, rfl⟩ := cIn_some h
  exact ⟨_, op_inD hu, fun Q w => ⟨p, qs, R1.dp _ _ _ r1 e1, R1.dp (.lst ds) _ _ r2 (by show (D.py.pys ds).map PyData.list = _; rw [e2]; rfl), s1, s2, w⟩⟩
theorem cd_notin (hu : X.A.units + 65 < cLine) : CmD X .NotIn cNotIn := .mk' fun d1 d2 k h K G H x y hK r1 r2 => by
  subst hK
  obtain ⟨k, h', rfl⟩ := Option.map_eq_some_iff.mp h
  obtain ⟨p, ds, qs, e1, rfl, e2, s1, s2, rfl⟩ := cIn_some h'
  exact ⟨_, op_notInD hu, fun Q w => ⟨p, qs, R1.dp _ _ _ r1 e1, R1.dp (.lst ds) _ _ r2 (by show (D.py.pys ds).map PyData.list = _; rw [e2]; rfl), s1, s2, w⟩⟩

/-! ### sum, min, max, any, all -/
def intsOf : List D → Option (List Int)
  | [] => some []
  | .int i :: ds => (intsOf ds).map (i :: ·)
  | _ => none
def boolsOf : List D → Option (List Bool)
  | [] => some []
  | .bl i :: ds => (boolsOf ds).map (i :: ·)
  | _ => none
theorem intsOf_some : ∀ {ds : List D} {ns : List Int}, intsOf ds = some ns → ds = ns.map D.int
  | [], ns, h => by cases h; rfl
  | d :: ds, ns, h => by
    cases d <;> first | (cases h; done) | skip
    obtain ⟨ms, e, rfl⟩ := Option.map_eq_some_iff.mp (show (intsOf ds).map _ = some ns from h)
    rw [intsOf_some e]
    rfl
theorem boolsOf_some : ∀ {ds : List D} {ns : List Bool}, boolsOf ds = some ns → ds = ns.map D.bl
  | [], ns, h => by cases h; rfl
  | d :: ds, ns, h => by
    cases d <;> first | (cases h; done) | skip
    obtain ⟨ms, e, rfl⟩ := Option.map_eq_some_iff.mp (show (boolsOf ds).map _ = some ns from h)
    rw [boolsOf_some e]
    rfl
theorem intsOf_map (ns : List Int) : intsOf (ns.map D.int) = some ns := by
  induction ns with
  | nil => rfl
  | cons n ns ih => show (intsOf (ns.map D.int)).map _ = _; rw [ih]; rfl
theorem boolsOf_map (ns : List Bool) : boolsOf (ns.map D.bl) = some ns := by
  induction ns with
  | nil => rfl
  | cons n ns ih => show (boolsOf (ns.map D.bl)).map _ = _; rw [ih]; rfl
def iArg : List D → Option (List Int)
  | [.lst ds] => intsOf ds
  | _ => none
def bArg : List D → Option (List Bool)
  | [.lst ds] => boolsOf ds
  | _ => none
theorem iArg_some {K : PySem.W.Frag} {G : AS} {H : Hp} {xs : List V} {ds : List D} {ns : List Int} (q : Rs K G H xs ds 0 []) (h : iArg ds = some ns) : ∃ a, xs = [.ref a] ∧ SqL K H a (ns.map V.int) := by
  unfold iArg at h
  split at h
  · obtain ⟨x, rfl, q1⟩ := Rs.one_inv q
    obtain ⟨b, zs, rfl, hb, r⟩ := R1.lst0 q1
    have e := intsOf_some h
    subst e
    obtain ⟨ez, _⟩ := r.scal fun d hd => by obtain ⟨i, _, rfl⟩ := List.mem_map.mp hd; rfl
    rw [List.map_map] at ez
    exact ⟨b, rfl, by have := hb.sq; rw [ez] at this; exact this⟩
  · cases h
theorem bArg_some {K : PySem.W.Frag} {G : AS} {H : Hp} {xs : List V} {ds : List D} {ns : List Bool} (q : Rs K G H xs ds 0 []) (h : bArg ds = some ns) : ∃ a, xs = [.ref a] ∧ SqL K H a (ns.map V.bl) := by
  unfold bArg at h
  split at h
  · obtain ⟨x, rfl, q1⟩ := Rs.one_inv q
    obtain ⟨b, zs, rfl, hb, r⟩ := R1.lst0 q1
    have e := boolsOf_some h
    subst e
    obtain ⟨ez, _⟩ := r.scal fun d hd => by obtain ⟨i, _, rfl⟩ := List.mem_map.mp hd; rfl
    rw [List.map_map] at ez
    exact ⟨b, rfl, by have := hb.sq; rw [ez] at this; exact this⟩
  · cases h
def cSum (ds : List D) : Option D := (iArg ds).map fun ns => .int ns.sum
def least : List Int → Int
  | [] => 0
  | [x] => x
  | x :: y :: r => min x (least (y :: r))
def most : List Int → Int
  | [] => 0
  | [x] => x
  | x :: y :: r => max x (most (y :: r))
theorem least_ok : ∀ (x : Int) (r : List Int), least (x :: r) ∈ x :: r ∧ ∀ y ∈ x :: r, least (x :: r) ≤ y
  | x, [] => ⟨List.mem_cons_self, fun y h => by simp at h; subst h; exact Int.le_refl _⟩
  | x, y :: r => by
    obtain ⟨h1, h2⟩ := least_ok y r
    have e : least (x :: y :: r) = min x (least (y :: r)) := rfl
    rw [e]
    refine ⟨?_, fun z hz => ?_⟩
    · rcases Int.le_total x (least (y :: r)) with h | h
      · rw [Int.min_eq_left h]; exact List.mem_cons_self
      · rw [Int.min_eq_right h]; exact List.mem_cons_of_mem _ h1
    · rcases List.mem_cons.mp hz with rfl | hz
      · exact Int.min_le_left _ _
      · exact Int.le_trans (Int.min_le_right _ _) (h2 z hz)
theorem most_ok : ∀ (x : Int) (r : List Int), most (x :: r) ∈ x :: r ∧ ∀ y ∈ x :: r, y ≤ most (x :: r)
  | x, [] => ⟨List.mem_cons_self, fun y h => by simp at h; subst h; exact Int.le_refl _⟩
  | x, y :: r => by
    obtain ⟨h1, h2⟩ := most_ok y r
    have e : most (x :: y :: r) = max x (most (y :: r)) := rfl
    rw [e]
    refine ⟨?_, fun z hz => ?_⟩
    · rcases Int.le_total x (most (y :: r)) with h | h
      · rw [Int.max_eq_right h]; exact List.mem_cons_of_mem _ h1
      · rw [Int.max_eq_left h]; exact List.mem_cons_self
    · rcases List.mem_cons.mp hz with rfl | hz
      · exact Int.le_max_left _ _
      · exact Int.le_trans (h2 z hz) (Int.le_max_right _ _)
def cMin (ds : List D) : Option D := (iArg ds).bind fun ns => if ns = [] then none else some (.int (least ns))
def cMax (ds : List D) : Option D := (iArg ds).bind fun ns => if ns = [] then none else some (.int (most ns))
def cAny (ds : List D) : Option D := (bArg ds).map fun ns => .bl (ns.any id)
def cAll (ds : List D) : Option D := (bArg ds).map fun ns => .bl (ns.all id)
theorem map_sc {α : Type} {o : Option α} {f : α → D} (hf : ∀ x, (f x).isS = true) : ∀ d, o.map f = some d → d.isS = true := fun d h => by
  obtain ⟨x, _, rfl⟩ := Option.map_eq_some_iff.mp h
  exact hf x
theorem ca_sum (hc : X.calm = true) : CaD X (.builtin "sum") cSum where
  run := fun pins s σ H xs us Q I r ⟨G, ds, d, q, e, w⟩ => by
    obtain ⟨ns, e1, rfl⟩ := Option.map_eq_some_iff.mp e
    obtain ⟨a, rfl, h⟩ := iArg_some q e1
    exact cr_sum hc pins s σ H _ us Q I r ⟨a, ns, rfl, h, w⟩
  sc := fun ds d e => map_sc (fun _ => rfl) d e
theorem ca_min (hc : X.calm = true) : CaD X (.builtin "min") cMin where
  run := fun pins s σ H xs us Q I r ⟨G, ds, d, q, e, w⟩ => by
    obtain ⟨ns, e1, e2⟩ := Option.bind_eq_some_iff.mp e
    obtain ⟨a, rfl, h⟩ := iArg_some q e1
    cases ns with
    | nil => rw [if_pos rfl] at e2; cases e2
    | cons n ns =>
      rw [if_neg (by intro z; cases z)] at e2
      cases e2
      refine cr_min hc pins s σ H _ us Q I r ⟨a, n :: ns, rfl, h, by simp, fun m hm hle => ?_⟩
      obtain ⟨h1, h2⟩ := least_ok n ns
      have : m = least (n :: ns) := Int.le_antisymm (hle _ h1) (h2 m hm)
      rw [this]
      exact w
  sc := fun ds d e => by
    obtain ⟨ns, e1, e2⟩ := Option.bind_eq_some_iff.mp e
    split at e2
    · cases e2
    · cases e2; rfl
theorem ca_max (hc : X.calm = true) : CaD X (.builtin "max") cMax where
  run := fun pins s σ H xs us Q I r ⟨G, ds, d, q, e, w⟩ => by
    obtain ⟨ns, e1, e2⟩ := Option.bind_eq_some_iff.mp e
    obtain ⟨a, rfl, h⟩ := iArg_some q e1
    cases ns with
    | nil => rw [if_pos rfl] at e2; cases e2
    | cons n ns =>
      rw [if_neg (by intro z; cases z)] at e2
      cases e2
      refine cr_max hc pins s σ H _ us Q I r ⟨a, n :: ns, rfl, h, by simp, fun m hm hle => ?_⟩
      obtain ⟨h1, h2⟩ := most_ok n ns
      have : m = most (n :: ns) := Int.le_antisymm (h2 m hm) (hle _ h1)
      rw [this]
      exact w
  sc := fun ds d e => by
    obtain ⟨ns, e1, e2⟩ := Option.bind_eq_some_iff.mp e
    split at e2
    · cases e2
    · cases e2; rfl
theorem ca_any (hc : X.calm = true) : CaD X (.builtin "any") cAny where
  run := fun pins s σ H xs us Q I r ⟨G, ds, d, q, e, w⟩ => by
    obtain ⟨ns, e1, rfl⟩ := Option.map_eq_some_iff.mp e
    obtain ⟨a, rfl, h⟩ := bArg_some q e1
    exact cr_any hc pins s σ H _ us Q I r ⟨a, ns, rfl, h, w⟩
  sc := fun ds d e => map_sc (fun _ => rfl) d e
theorem ca_all (hc : X.calm = true) : CaD X (.builtin "all") cAll where
  run := fun pins s σ H xs us Q I r ⟨G, ds, d, q, e, w⟩ => by
    obtain ⟨ns, e1, rfl⟩ := Option.map_eq_some_iff.mp e
    obtain ⟨a, rfl, h⟩ := bArg_some q e1
    exact cr_all hc pins s σ H _ us Q I r ⟨a, ns, rfl, h, w⟩
  sc := fun ds d e => map_sc (fun _ => rfl) d e
end
end Dv
/-! DvO: the rules with named functions (what the generator prints). -/
namespace Dv
open PySem PySem.Spec PyProof.Rows L2
section
variable {X : Cx} {vs : List Nat} {a c e tg : Expr} {es : List Expr} {pos p p2 : Pos} {fa fc : Ev → Option D} {pm : List Nat}
def nFr (f : Ev → Option (List D)) : Ev → Option D := fun ρ => (f ρ).map .lst
theorem ne_fr {f : Ev → Option (List D)} (h : NF X vs e f) : NE X vs e (nFr f) := h.ne
def nB (t : Ev → Option Bool) : Ev → Option D := fun ρ => (t ρ).map .bl
theorem ne_chainB {op op' : CmpOp} {q q' : D → D → Option Bool} {fe : Ev → Option D} (ho : CmD X op q) (ho' : CmD X op' q') (ha : NE X vs a fa) (hc : NE X vs c fc) (he : NE X vs e fe)
    (hm : lastMarks [op, op'] [c, e] = false := by with_unfolding_all rfl) : NE X vs (.Compare a [op, op'] [c, e] pos) (nB (nChain q q' fa fc fe)) := ne_chain ho ho' ha hc he hm
def nIsiV (T : String) (fa : Ev → Option D) : Ev → Option D := fun ρ => (nIsi T fa ρ).map .bl
theorem ne_isiV {p p2 : Pos} {T : Str} {Tn : String} (hg : Gl X "isinstance") (hm : X.mg "isinstance" = none) (hgT : Gl X T) (hmT : X.mg T = none) (hvT : bootBuiltins T = some (.type Tn)) (ha : NE X vs a fa) (hnT : T ≠ "__name__" := by decide) (hdT : (T == ("__debug__" : Str)) = false := by decide)
    (he : starEach [a, .Name T p2] X.env = (false, eval a X.env) :: starEach [.Name T p2] X.env := by rfl) (he2 : starEach [.Name T p2] X.env = (false, eval (.Name T p2) X.env) :: starEach [] X.env := by rfl) (hpl : (backTo pos (starEach [.Name T p2] X.env)).any (·.1) = false := by rfl) :
    NE X vs (.Call (.Name "isinstance" p) [a, .Name T p2] [] pos) (nIsiV Tn fa) := ne_isi hg hm hgT hmT hvT ha hnT hdT he he2 hpl
def nTup (f : Ev → Option (List D)) : Ev → Option D := fun ρ => (f ρ).bind fun ds => if ds.length ≤ sizeLine then some (.tup ds) else none
theorem ne_tupl {k} {f : Ev → Option (List D)} (h : NA X vs es f) : NE X vs (.Tuple es k pos) (nTup f) := ne_tup h
def fLst (f : Ev → Option (List D)) : Ev → Option (List D) := fun ρ => (f ρ).bind fun ds => if ds.length ≤ sizeLine then some ds else none
theorem nf_lstl {f : Ev → Option (List D)} (h : NA X vs es f) : NF X vs (.List es pos) (fLst f) := nf_lst h
def fCat (fa fc : Ev → Option D) : Ev → Option (List D) := fun ρ => (lOf fa ρ).bind fun x => (lOf fc ρ).bind fun y => if x.length + y.length ≤ sizeLine then some (x ++ y) else none
theorem nf_catl (ha : NE X vs a fa) (hc : NE X vs c fc) : NF X vs (.BinOp a .Add c pos) (fCat fa fc) := nf_cat ha hc
def fRep (fa fc : Ev → Option D) : Ev → Option (List D) := fun ρ => (lOf fa ρ).bind fun x => (fc ρ).bind fun y => match y with
    | .int k => if (-(2 ^ 63) ≤ k ∧ k < 2 ^ 63) ∧ x.length * k.toNat ≤ sizeLine then some (List.replicate k.toNat x).flatten else none
    | _ => none
theorem nf_repl (ha : NE X vs a fa) (hc : NE X vs c fc) : NF X vs (.BinOp a .Mult c pos) (fRep fa fc) := nf_rep ha hc
def oNone : Ev → Option (Option Int) := fun _ => some none
theorem no_no : NO X none oNone := no_none
def oSome (fa : Ev → Option D) : Ev → Option (Option Int) := fun ρ => (fa ρ).bind fun d => match d with | .int i => some (some i) | _ => none
theorem no_so (h : NE X vs e fa) : NO X (some e) (oSome fa) := no_some h
def fSl (fa : Ev → Option D) (fl fh : Ev → Option (Option Int)) : Ev → Option (List D) := fun ρ => (lOf fa ρ).bind fun x => (fl ρ).bind fun l => (fh ρ).bind fun h => some (cutL x l h)
theorem nf_sll {lo hi : Option Expr} {fl fh : Ev → Option (Option Int)} (ha : NE X vs a fa) (hl : NO X lo fl) (hh : NO X hi fh) : NF X vs (.Subscript a (.Slice lo hi none p2) pos) (fSl fa fl fh) := nf_sl ha hl hh
def fRgL (f : Ev → Option D) : Ev → Option (List D) := fun ρ => (f ρ).bind fun d => match d with | .int j => if 0 ≤ j ∧ j ≤ 16777216 then some (rng 0 j) else none | _ => none
theorem nf_listRg {f : Ev → Option D} (hg : Gl X "list") (hm : X.mg "list" = none) (hg2 : Gl X "range") (hm2 : X.mg "range" = none) (hc : X.calm = true) (ha : NE X vs e f) (ne1 : starEach [e] X.env = (false, eval e X.env) :: starEach [] X.env := by rfl)
    (na : starEach [.Call (.Name "range" p2) [e] [] p] X.env = (false, eval (.Call (.Name "range" p2) [e] [] p) X.env) :: starEach [] X.env := by rfl) : NF X vs (.Call (.Name "list" p) [.Call (.Name "range" p2) [e] [] p] [] pos) (fRgL f) := nf_listRg1 hg hm hg2 hm2 hc ha ne1 na
def nTupOf (f : Ev → Option (List D)) : Ev → Option D := fun ρ => (sOf f ρ).map .tup
theorem ne_tupOf {f : Ev → Option (List D)} (hg : Gl X "tuple") (hm : X.mg "tuple" = none) (ha : NA X vs [e] f)
    (he : starEach [e] X.env = (false, eval e X.env) :: starEach [] X.env := by rfl) (hpl : (backTo pos (starEach [] X.env)).any (·.1) = false := by rfl) : NE X vs (.Call (.Name "tuple" p) [e] [] pos) (nTupOf f) := ne_tupleOf hg hm ha he hpl
def vtN (f : Ev → Option Bool) : Ev → Option (Bool × Ev) := fun ρ => (f ρ).map fun b => (b, ρ)
theorem vt_n {f : Ev → Option Bool} (h : NT X e f) : VT X e (vtN f) := vt_nt h
def vtVal (g : Ev → Option (AV × Ev)) : Ev → Option (Bool × Ev) := fun ρ => (g ρ).bind fun r => match r.1.1 with | .bl b => some (b, r.2) | _ => none
theorem vt_vl {g : Ev → Option (AV × Ev)} (ha : VE X a g) (he : ∀ whole, isTrue a X.env whole = (do let v ← whole; standAt a.pos; holding [v] (truthy v)) := by intro _; rfl) : VT X a (vtVal g) := vt_val ha he
def iNI (vs : List Nat) (f : Ev → Option (List D)) : Ev → Option (List D × Ev) := fun ρ => (f ρ).map fun ds => (ds, frz vs ρ)
theorem vi_n {f : Ev → Option (List D)} (h : NI X vs tg e f) : VI X tg e (iNI vs f) := vi_ni h
def nCl (g : PF) (dds : List D) (f : Ev → Option (List D)) : Ev → Option D := fun ρ => (nCall g dds f ρ).map (·.1)
theorem ne_cl {k j n : Nat} {x : Str} {g : PF} {dds : List D} {f : Ev → Option (List D)} (c : Fn X.prog X.w X.K X.mg X.base k x n g dds) (hn : lenOk n g) (hr : Room j X.A) (hk : k ≤ j) (hg : Gl X x) (hd : ∀ d ∈ dds, d.isS = true) (ha : NA X vs (e :: es) f)
    (hdb : (x == ("__debug__" : Str)) = false := by decide) (he : starEach (e :: es) X.env = (false, eval e X.env) :: starEach es X.env := by rfl) (hpl : (backTo pos (starEach es X.env)).any (·.1) = false := by rfl) :
    NE X vs (.Call (.Name x p) (e :: es) [] pos) (nCl g dds f) := ne_call c hn hr hk hg hd ha hdb he hpl
def vCl (vs : List Nat) (g : PF) (dds : List D) (f : Ev → Option (List D)) : Ev → Option (AV × Ev) := fun ρ => (nCall g dds f ρ).map fun r => (r, if r.1.isS then ρ else frz vs ρ)
theorem ve_cl {k j n : Nat} {x : Str} {g : PF} {dds : List D} {f : Ev → Option (List D)} (c : Fn X.prog X.w X.K X.mg X.base k x n g dds) (hn : lenOk n g) (hr : Room j X.A) (hk : k ≤ j) (hg : Gl X x) (hd : ∀ d ∈ dds, d.isS = true) (ha : NA X vs (e :: es) f)
    (hdb : (x == ("__debug__" : Str)) = false := by decide) (he : starEach (e :: es) X.env = (false, eval e X.env) :: starEach es X.env := by rfl) (hpl : (backTo pos (starEach es X.env)).any (·.1) = false := by rfl) :
    VE X (.Call (.Name x p) (e :: es) [] pos) (vCl vs g dds f) := ve_ncall c hn hr hk hg hd ha hdb he hpl
def sBk : Ev → Option Out := fun ρ => some (.bk ρ)
def sCt : Ev → Option Out := fun ρ => some (.ct ρ)
def sRN : Ev → Option Out := fun ρ => some (.rt (.non, 0) ρ)
def sNev : Ev → Option Out := fun _ => none
theorem vs_bk : VS X pm (.Break pos) sBk := vs_break
theorem vs_ct : VS X pm (.Continue pos) sCt := vs_cont
theorem vs_rn : VS X pm (.Return none pos) sRN := vs_retN
theorem vs_nev {st : Stmt} : VS X pm st sNev := vs_never
def tTrue : Ev → Option Bool := fun _ => some true
def vtTrue : Ev → Option (Bool × Ev) := fun ρ => some (true, ρ)
theorem nts_no : NTs X [] tTrue := nts_nil
theorem vts_no : VTs X [] vtTrue := vts_nil
def sWh (t : Ev → Option (Bool × Ev)) (g : Ev → Option Out) (n : Ev → Nat) : Ev → Option Out := fun ρ => whileL t g (n ρ) ρ
theorem vs_wh {body : List Stmt} {t : Ev → Option (Bool × Ev)} {g : Ev → Option Out} (n : Ev → Nat) (hp : PassesOwn (model X.prog X.w) X.A X.env X.xe) (ht : VT X e t) (hb : VSs X pm body g) : VS X pm (.While e body [] pos) (sWh t g n) := vs_while n hp ht hb
end
theorem noD : ∀ d ∈ ([] : List D), d.isS = true := fun _ h => nomatch h
theorem units1 {k : Nat} {A : Around} (r : Room k A) : A.units + 1 < cLine := by have := r.un; omega
theorem units65 {k : Nat} {A : Around} (r : Room k A) : A.units + 65 < cLine := by have := r.un; omega
/-- a def that is not called to its end -/
theorem fn_none {P : Program} {w : World} {K : PySem.W.Frag} {mg : Str → Option Value} {base : Heap} {x qual : Str} {st : Stmt} {f : Addr} {fd : FuncData} {N ps : List Str} {np : Nat} {k : Nat} (F : Fun K x qual st f fd) (S : FnScope N ps (defScope st)) :
    FnOk P w K mg base CX0 (k + 1) f fd ps (spV K np fun _ => none) := by
  refine F.ok S (fun vs H Q E h => ?_) (fun cdv A outer s H vs Q E hr h => ?_)
  · obtain ⟨_, F, Ls, as, r, _, _, _, e, _⟩ := h; cases e
  · obtain ⟨_, F, Ls, as, r, _, _, _, e, _⟩ := h; cases e
end Dv
/-! DvP: how the plain functions are reckoned with. -/
namespace Dv
open PySem PySem.Spec PyProof.Rows L2

/-- the law's end -/
theorem law_end {K : PySem.W.Frag} {g : PF} {H : Hp} {a : Addr} {ns : List Int} (hS : SqL K H a (ns.map V.int)) (h : ∃ q, g [(.frl (ns.map D.int), 0)] = some ((.bl true, 0), q)) : spV K 1 g [.ref a] H (fun v _ => v = .bl true) fun _ _ _ => False := by
  obtain ⟨q, e⟩ := h
  refine ⟨rfl, fun b => b = a ∧ ∃ o, H b = some o, [[]], _, _, fun b z => z.2, .cons (.frlF (xs := ns.map V.int) ?_ ?_) .nil, List.nodup_nil, e, fun v H' F' Lv Ls' _ r _ _ => ?_⟩
  · rcases hS with z | z
    · refine .inl ⟨⟨rfl, ?_⟩, z⟩
      rcases z with z | ⟨o, z⟩
      · exact ⟨_, z⟩
      · exact ⟨_, z⟩
    · exact .inr z
  · have := Rs.of (K := K) (F := fun b => b = a ∧ ∃ o, H b = some o) (H := H) (n := 0) (ds := ns.map D.int) fun d hd => by obtain ⟨i, _, rfl⟩ := List.mem_map.mp hd; rfl
    rw [List.map_map] at this
    exact this
  · cases r; rfl

/-! ### one after the other -/
section
variable {g h : Ev → Option Out} {f : Ev → Option (AV × Ev)} {t : Ev → Option (Bool × Ev)} {ρ ρ1 ρ2 : Ev} {o : Out} {av : AV}
theorem seq_nx (e1 : g ρ = some (.nx ρ1)) (e2 : h ρ1 = some o) : sSeq g h ρ = some o := by unfold sSeq; rw [e1]; exact e2
theorem seq_rt (e1 : g ρ = some (.rt av ρ1)) : sSeq g h ρ = some (.rt av ρ1) := by unfold sSeq; rw [e1]; rfl
theorem seq_ct (e1 : g ρ = some (.ct ρ1)) : sSeq g h ρ = some (.ct ρ1) := by unfold sSeq; rw [e1]; rfl
theorem seq_bk (e1 : g ρ = some (.bk ρ1)) : sSeq g h ρ = some (.bk ρ1) := by unfold sSeq; rw [e1]; rfl
theorem if_t (e1 : t ρ = some (true, ρ1)) (e2 : g ρ1 = some o) : sIf t g h ρ = some o := by unfold sIf; rw [e1]; exact e2
theorem if_f (e1 : t ρ = some (false, ρ1)) (e2 : h ρ1 = some o) : sIf t g h ρ = some o := by unfold sIf; rw [e1]; exact e2
theorem set_nx {i : Nat} (e1 : f ρ = some (av, ρ1)) (hi : i < ρ1.length) : sSet i f ρ = some (.nx (ρ1.set i (some av))) := by unfold sSet putE; rw [e1]; simp [hi]
theorem ret_rt (e1 : f ρ = some (av, ρ1)) : sRet f ρ = some (.rt av ρ1) := by unfold sRet; rw [e1]; rfl
theorem expr_nx (e1 : f ρ = some (av, ρ1)) : sExpr f ρ = some (.nx ρ1) := by unfold sExpr; rw [e1]; rfl
theorem for_of {i : Ev → Option (List D × Ev)} {b : D → Ev → Option Ev} {ds : List D} (e1 : i ρ = some (ds, ρ1)) (e2 : forL b g ds ρ1 = some o) : sFor i b g ρ = some o := by unfold sFor; rw [e1]; exact e2
theorem forL_nil {b : D → Ev → Option Ev} : forL b g [] ρ = some (.nx ρ) := rfl
theorem forL_nx {b : D → Ev → Option Ev} {d : D} {ds : List D} (e1 : b d ρ = some ρ1) (e2 : g ρ1 = some (.nx ρ2)) (e3 : forL b g ds ρ2 = some o) : forL b g (d :: ds) ρ = some o := by
  show (b d ρ).bind _ = _; rw [e1]; show (g ρ1).bind _ = _; rw [e2]; exact e3
theorem forL_ct {b : D → Ev → Option Ev} {d : D} {ds : List D} (e1 : b d ρ = some ρ1) (e2 : g ρ1 = some (.ct ρ2)) (e3 : forL b g ds ρ2 = some o) : forL b g (d :: ds) ρ = some o := by
  show (b d ρ).bind _ = _; rw [e1]; show (g ρ1).bind _ = _; rw [e2]; exact e3
theorem forL_bk {b : D → Ev → Option Ev} {d : D} {ds : List D} (e1 : b d ρ = some ρ1) (e2 : g ρ1 = some (.bk ρ2)) : forL b g (d :: ds) ρ = some (.nx ρ2) := by
  show (b d ρ).bind _ = _; rw [e1]; show (g ρ1).bind _ = _; rw [e2]; rfl
theorem forL_rt {b : D → Ev → Option Ev} {d : D} {ds : List D} (e1 : b d ρ = some ρ1) (e2 : g ρ1 = some (.rt av ρ2)) : forL b g (d :: ds) ρ = some (.rt av ρ2) := by
  show (b d ρ).bind _ = _; rw [e1]; show (g ρ1).bind _ = _; rw [e2]; rfl
/-- a loop that is always gone through to its end -/
theorem forL_inv {b : D → Ev → Option Ev} {I : Ev → Prop} : ∀ (ds : List D) (ρ : Ev), (∀ d ∈ ds, ∀ ρ, I ρ → ∃ ρ1 ρ2, b d ρ = some ρ1 ∧ g ρ1 = some (.nx ρ2) ∧ I ρ2) → I ρ → ∃ ρ', forL b g ds ρ = some (.nx ρ') ∧ I ρ'
  | [], ρ, _, h => ⟨ρ, rfl, h⟩
  | d :: ds, ρ, H, h => by
    obtain ⟨ρ1, ρ2, e1, e2, h2⟩ := H d List.mem_cons_self ρ h
    obtain ⟨ρ', e3, h3⟩ := forL_inv ds ρ2 (fun x hx => H x (List.mem_cons_of_mem _ hx)) h2
    exact ⟨ρ', forL_nx e1 e2 e3, h3⟩
/-- .. with what is left to do -/
theorem forL_ind {b : D → Ev → Option Ev} {I : List D → Ev → Prop} : ∀ (ds : List D) (ρ : Ev), (∀ d ds ρ, I (d :: ds) ρ → ∃ ρ1 ρ2, b d ρ = some ρ1 ∧ g ρ1 = some (.nx ρ2) ∧ I ds ρ2) → I ds ρ → ∃ ρ', forL b g ds ρ = some (.nx ρ') ∧ I [] ρ'
  | [], ρ, _, h => ⟨ρ, rfl, h⟩
  | d :: ds, ρ, H, h => by
    obtain ⟨ρ1, ρ2, e1, e2, h2⟩ := H d ds ρ h
    obtain ⟨ρ', e3, h3⟩ := forL_ind ds ρ2 H h2
    exact ⟨ρ', forL_nx e1 e2 e3, h3⟩
end
/-! ### comprehensions -/
theorem lcN_map {vs : List Nat} {b : D → Ev → Option Ev} {t : Ev → Option Bool} {f : Ev → Option D} {ρ : Ev} (h : D → D) : ∀ ds : List D, (∀ d ∈ ds, ∃ ρ1, b d ρ = some ρ1 ∧ frzOk vs ρ1 = true ∧ t ρ1 = some true ∧ f ρ1 = some (h d)) → lcN vs b t f ds ρ = some (ds.map h)
  | [], _ => rfl
  | d :: ds, H => by
    obtain ⟨ρ1, e1, e2, e3, e4⟩ := H d List.mem_cons_self
    rw [lcN, e1]
    simp only [Option.bind_some, e2, if_true, e3, e4, lcN_map h ds fun x hx => H x (List.mem_cons_of_mem _ hx), Option.map_some, List.map_cons]
theorem lcV_map {n : Nat} {ow : List Nat} {b : D → Ev → Option Ev} {t : Ev → Option (Bool × Ev)} {f : Ev → Option (AV × Ev)} {ρ : Ev} (h : D → D) : ∀ ds : List D, (∀ d ∈ ds, ∃ ρ1 ρ2 m ρ3, b d ρ = some ρ1 ∧ t ρ1 = some (true, ρ2) ∧ f ρ2 = some ((h d, m), ρ3) ∧ fit n (h d, m) = true ∧ wipeE ρ3 ow = ρ) → lcV n ow b t f ds ρ = some (ds.map h, ρ)
  | [], _ => rfl
  | d :: ds, H => by
    obtain ⟨ρ1, ρ2, m, ρ3, e1, e2, e3, e4, e5⟩ := H d List.mem_cons_self
    rw [lcV, e1]
    simp only [Option.bind_some, e2, if_true, e3, e4, e5, lcV_map h ds fun x hx => H x (List.mem_cons_of_mem _ hx), Option.map_some, List.map_cons]
theorem lcV_inv {n : Nat} {ow : List Nat} {b : D → Ev → Option Ev} {t : Ev → Option (Bool × Ev)} {f : Ev → Option (AV × Ev)} {I : Ev → Prop} {J : D → D → Prop} : ∀ (ds : List D) (ρ : Ev), (∀ d ∈ ds, ∀ ρ, I ρ → ∃ ρ1 ρ2 x m ρ3, b d ρ = some ρ1 ∧ t ρ1 = some (true, ρ2) ∧ f ρ2 = some ((x, m), ρ3) ∧ fit n (x, m) = true ∧ J d x ∧ I (wipeE ρ3 ow)) → I ρ → ∃ xs ρ', lcV n ow b t f ds ρ = some (xs, ρ') ∧ I ρ' ∧ xs.length = ds.length ∧ ∀ x ∈ xs, ∃ d ∈ ds, J d x
  | [], ρ, _, h => ⟨[], ρ, rfl, h, rfl, fun x z => nomatch z⟩
  | d :: ds, ρ, H, h => by
    obtain ⟨ρ1, ρ2, x, m, ρ3, e1, e2, e3, e4, e5, e6⟩ := H d List.mem_cons_self ρ h
    obtain ⟨xs, ρ', e7, h2, hl, hJ⟩ := lcV_inv ds _ (fun x hx => H x (List.mem_cons_of_mem _ hx)) e6
    refine ⟨x :: xs, ρ', ?_, h2, by simp [hl], fun y hy => ?_⟩
    · rw [lcV, e1]
      simp only [Option.bind_some, e2, if_true, e3, e4, e7, Option.map_some]
    · rcases List.mem_cons.mp hy with rfl | hy
      · exact ⟨d, List.mem_cons_self, e5⟩
      · obtain ⟨z, hz, hj⟩ := hJ y hy
        exact ⟨z, List.mem_cons_of_mem _ hz, hj⟩

/-! ### trees with a type -/
class Em (α : Type) [DecidableEq α] [PySem.W.Datum α] where
  d : α → D
  py : ∀ x, (d x).py = some (PySem.W.Datum.toD x)
  lay : ∀ x : α, (PySem.W.Datum.toD x).canLay0 = true
instance : Em Int := ⟨.int, fun _ => rfl, fun _ => rfl⟩
instance : Em Bool := ⟨.bl, fun _ => rfl, fun _ => rfl⟩
section
variable {α β : Type} [DecidableEq α] [PySem.W.Datum α] [Em α] [DecidableEq β] [PySem.W.Datum β] [Em β]
theorem pys_em : ∀ xs : List α, D.py.pys (xs.map Em.d) = some (xs.map PySem.W.Datum.toD)
  | [] => rfl
  | x :: xs => by
    rw [List.map_cons]
    unfold D.py.pys
    rw [Em.py x, pys_em xs]
    rfl
theorem layAll_em : ∀ xs : List α, PyData.canLayAll0 (xs.map PySem.W.Datum.toD) = true
  | [] => rfl
  | x :: xs => by
    rw [List.map_cons, PyData.canLayAll0, Em.lay x, layAll_em xs]
    rfl
instance : Em (List α) := ⟨fun xs => .lst (xs.map Em.d), fun xs => by
  show (D.py.pys (xs.map Em.d)).map PyData.list = _
  rw [pys_em]; rfl, fun xs => by show PyData.canLay0 (.list _) = true; rw [PyData.canLay0]; exact layAll_em xs⟩
instance : Em (PySem.W.Tup α) := ⟨fun xs => .tup (xs.items.map Em.d), fun xs => by
  show (D.py.pys (xs.items.map Em.d)).map PyData.tuple = _
  rw [pys_em]; rfl, fun xs => by show PyData.canLay0 (.tuple _) = true; rw [PyData.canLay0]; exact layAll_em xs.items⟩
instance : Em (α × β) := ⟨fun p => .tup [Em.d p.1, Em.d p.2], fun p => by
  show (D.py.pys [Em.d p.1, Em.d p.2]).map PyData.tuple = _
  unfold D.py.pys
  rw [Em.py]
  unfold D.py.pys
  rw [Em.py]
  rfl, fun p => by show PyData.canLay0 (.tuple [_, _]) = true; rw [PyData.canLay0, PyData.canLayAll0, PyData.canLayAll0, PyData.canLayAll0, Em.lay, Em.lay]; rfl⟩
theorem shaped_em (x : α) (h : PySem.W.Datum.depth α ≤ 64) : SeqAt.shaped (PySem.W.Datum.toD x) = true := by
  unfold SeqAt.shaped
  rw [Em.lay x, decide_eq_true (Nat.le_trans (PySem.W.Datum.depth_le x) h)]
  rfl
theorem eqD_em (x y : α) (h : PySem.W.Datum.depth α ≤ 64 := by decide) : eqD (Em.d x) (Em.d y) = some (decide (x = y)) := by
  unfold eqD
  rw [Em.py, Em.py]
  show (if _ then _ else _) = _
  rw [if_pos ⟨shaped_em x h, shaped_em y h⟩, PySem.W.Datum.eqv]
theorem em_list (xs : List α) : (Em.d xs : D) = .lst (xs.map Em.d) := rfl
end
end Dv
namespace Dv
open PySem PySem.Spec PyProof.Rows L2
theorem bMul_r {i j : Int} (h : -(2 ^ 64) < j ∧ j < 2 ^ 64) : bMul (.int i) (.int j) = some (.int (i * j)) := if_pos (.inr (.inl h))
theorem bMul_l {i j : Int} (h : -(2 ^ 64) < i ∧ i < 2 ^ 64) : bMul (.int i) (.int j) = some (.int (i * j)) := if_pos (.inl h)
theorem abs_small {i : Int} (h : 0 ≤ i) (h2 : i < 2 ^ 200) : i.natAbs < 2 ^ 1000 :=
  Nat.lt_of_lt_of_le (by omega : i.natAbs < 2 ^ 200) (Nat.pow_le_pow_right (by decide) (by decide))
theorem bMul_w {i j : Int} (h : 0 ≤ i) (h2 : i < 2 ^ 200) (k : 0 ≤ j) (k2 : j < 2 ^ 200) : bMul (.int i) (.int j) = some (.int (i * j)) := if_pos (.inr (.inr ⟨abs_small h h2, abs_small k k2⟩))
theorem bMod_p {i j : Int} (h : 0 < j) : bMod (.int i) (.int j) = some (.int (i % j)) := if_pos h
theorem bFdiv_p {i j : Int} (h : 0 < j) (h2 : j < 2 ^ 200) : bFdiv (.int i) (.int j) = some (.int (i / j)) := if_pos ⟨h, abs_small (Int.le_of_lt h) h2⟩
theorem bAdd_i {i j : Int} : bAdd (.int i) (.int j) = some (.int (i + j)) := rfl
theorem bSub_i {i j : Int} : bSub (.int i) (.int j) = some (.int (i - j)) := rfl
theorem eqD_int (i j : Int) : eqD (.int i) (.int j) = some (decide (i = j)) := eqD_em i j
theorem eqD_bl (i j : Bool) : eqD (.bl i) (.bl j) = some (decide (i = j)) := eqD_em i j
theorem atI_get {α : Type} {xs : List α} {i : Int} {x : α} (h0 : 0 ≤ i) (h : xs[i.toNat]? = some x) : atI xs i = some x := by
  have hl : i.toNat < xs.length := (List.getElem?_eq_some_iff.mp h).1
  unfold atI ixN
  rw [if_pos h0, if_pos (by omega)]
  exact h
theorem atI_map {α β : Type} {f : α → β} {xs : List α} {i : Int} (h0 : 0 ≤ i) (h : i.toNat < xs.length) : atI (xs.map f) i = some (f xs[i.toNat]) :=
  atI_get h0 (by rw [List.getElem?_map, List.getElem?_eq_getElem h]; rfl)
end Dv
/-! DvQ: more of the same: defs, comprehensions over ranges and typed lists. -/
namespace Dv
open PySem PySem.Spec PyProof.Rows L2
theorem sz {n : Nat} (h : n < 1000) : n ≤ sizeLine := Nat.le_of_lt (small1000 (Nat.le_of_lt h))
/-! ### a def that changes none of its arguments -/
def Rt (g : Ev → Option Out) (ρ : Ev) (av : AV) : Prop := ∃ ρ', g ρ = some (.rt av ρ')
section
variable {g h : Ev → Option Out} {f : Ev → Option (AV × Ev)} {t : Ev → Option (Bool × Ev)} {ρ ρ1 ρ2 : Ev} {av : AV}
theorem Rt.seq (e1 : g ρ = some (.nx ρ1)) (e2 : Rt h ρ1 av) : Rt (sSeq g h) ρ av := by obtain ⟨ρ', e⟩ := e2; exact ⟨ρ', seq_nx e1 e⟩
theorem Rt.seqr (e : Rt g ρ av) : Rt (sSeq g h) ρ av := by obtain ⟨ρ', e⟩ := e; exact ⟨ρ', seq_rt e⟩
theorem Rt.ift (e1 : t ρ = some (true, ρ1)) (e2 : Rt g ρ1 av) : Rt (sIf t g h) ρ av := by obtain ⟨ρ', e⟩ := e2; exact ⟨ρ', if_t e1 e⟩
theorem Rt.iff (e1 : t ρ = some (false, ρ1)) (e2 : Rt h ρ1 av) : Rt (sIf t g h) ρ av := by obtain ⟨ρ', e⟩ := e2; exact ⟨ρ', if_f e1 e⟩
theorem Rt.ret (e1 : f ρ = some (av, ρ1)) : Rt (sRet f) ρ av := ⟨_, ret_rt e1⟩
theorem Rt.ret' (e1 : ∃ ρ1, f ρ = some (av, ρ1)) : Rt (sRet f) ρ av := by obtain ⟨_, e1⟩ := e1; exact ⟨_, ret_rt e1⟩
theorem Rt.for {i : Ev → Option (List D × Ev)} {b : D → Ev → Option Ev} {ds : List D} (e1 : i ρ = some (ds, ρ1)) (e2 : Rt (forL b g ds) ρ1 av) : Rt (sFor i b g) ρ av := by obtain ⟨ρ', e⟩ := e2; exact ⟨ρ', for_of e1 e⟩
theorem vF_of {vs : List Nat} {f : Ev → Option (List D)} {ds : List D} (e : f ρ = some ds) : ∃ ρ1, vF vs f ρ = some ((.lst ds, 1), ρ1) := by
  unfold vF; rw [e]
  by_cases h : ds.all D.isS = true
  · exact ⟨ρ, by rw [Option.map_some, if_pos h]⟩
  · exact ⟨frz vs ρ, by rw [Option.map_some, if_neg h]⟩
theorem vF_sc {vs : List Nat} {f : Ev → Option (List D)} {ds : List D} (e : f ρ = some ds) (h : ds.all D.isS = true) : vF vs f ρ = some ((.lst ds, 1), ρ) := by
  unfold vF; rw [e, Option.map_some, if_pos h]
theorem vN_of {vs : List Nat} {f : Ev → Option D} {d : D} (e : f ρ = some d) : ∃ ρ1, vN vs f ρ = some ((d, 0), ρ1) := by
  unfold vN; rw [e]
  by_cases h : d.isS = true
  · exact ⟨ρ, by simp [h]⟩
  · exact ⟨frz vs ρ, by simp [h]⟩
theorem outsF0 : ∀ (as : List AV) (i : Nat), outsF [] ρ i as = some as
  | [], _ => rfl
  | a :: as, i => by unfold outsF; rw [if_neg (by simp), outsF0 as]; rfl
theorem runF0 {np nN : Nat} {as : List AV} (hl : as.length = np) (ok : okPm [] 0 as = true) (e : Rt g (startE nN as) av) : runF np nN [] g as = some (av, as) := by
  obtain ⟨ρ', e⟩ := e
  unfold runF
  rw [if_pos ⟨hl, ok⟩, e]
  show (outsF [] ρ' 0 as).map _ = _
  rw [outsF0]
  rfl
/-- a loop that may return -/
theorem forL_ret {b : D → Ev → Option Ev} {I : List D → Ev → Prop} : ∀ (ds : List D) (ρ : Ev), (∀ d ds ρ, I (d :: ds) ρ → ∃ ρ1, b d ρ = some ρ1 ∧ ((∃ ρ2, g ρ1 = some (.nx ρ2) ∧ I ds ρ2) ∨ Rt g ρ1 av)) → I ds ρ → (∃ ρ', forL b g ds ρ = some (.nx ρ') ∧ I [] ρ') ∨ Rt (forL b g ds) ρ av
  | [], ρ, _, h => .inl ⟨ρ, rfl, h⟩
  | d :: ds, ρ, H, h => by
    obtain ⟨ρ1, e1, ⟨ρ2, e2, h2⟩ | ⟨ρ2, e2⟩⟩ := H d ds ρ h
    · rcases forL_ret ds ρ2 H h2 with ⟨ρ', e3, h3⟩ | ⟨ρ', e3⟩
      · exact .inl ⟨ρ', forL_nx e1 e2 e3, h3⟩
      · exact .inr ⟨ρ', forL_nx e1 e2 e3⟩
    · exact .inr ⟨ρ2, forL_rt e1 e2⟩
end
/-! ### ranges -/
theorem rng0 (n : Nat) : rng 0 n = (List.range n).map fun j : Nat => D.int j := by
  unfold rng
  simp
theorem lcN_rng {vs : List Nat} {b : D → Ev → Option Ev} {t : Ev → Option Bool} {f : Ev → Option D} {ρ : Ev} (n : Nat) (k : Nat → D) (H : ∀ j : Nat, j < n → ∃ ρ1, b (.int j) ρ = some ρ1 ∧ frzOk vs ρ1 = true ∧ t ρ1 = some true ∧ f ρ1 = some (k j)) : lcN vs b t f (rng 0 n) ρ = some ((List.range n).map k) := by
  have := lcN_map (vs := vs) (b := b) (t := t) (f := f) (ρ := ρ) (fun d => match d with | .int j => k j.toNat | _ => .non) (rng 0 n) fun d hd => by
    rw [rng0] at hd
    obtain ⟨j, hj, rfl⟩ := List.mem_map.mp hd
    exact H j (List.mem_range.mp hj)
  rw [this, rng0, List.map_map]
  rfl
theorem nLc_rng {vs vs' own : List Nat} {i : Ev → Option (List D)} {b : D → Ev → Option Ev} {t : Ev → Option Bool} {f : Ev → Option D} {ρ : Ev} (n : Nat) (k : Nat → D) (hi : i ρ = some (rng 0 n)) (hn : n < 1000) (hl : ρ.length ≤ 1000) (H : ∀ j : Nat, j < n → ∃ ρ1, b (.int j) (wipeE (frz vs ρ) own) = some ρ1 ∧ frzOk vs' ρ1 = true ∧ t ρ1 = some true ∧ f ρ1 = some (k j)) : nLc vs vs' own i b t f ρ = some ((List.range n).map k) := by
  unfold nLc
  rw [hi]
  show (if _ then _ else none) = _
  rw [if_pos ⟨by rw [rng0]; simp; exact sz hn, hl⟩]
  exact lcN_rng n k H
theorem nLc_lst {vs vs' own : List Nat} {i : Ev → Option (List D)} {b : D → Ev → Option Ev} {t : Ev → Option Bool} {f : Ev → Option D} {ρ : Ev} {α : Type} (xs : List α) (e : α → D) (k : α → D) (hi : i ρ = some (xs.map e)) (hn : xs.length < 1000) (hl : ρ.length ≤ 1000) (H : ∀ x ∈ xs, ∃ ρ1, b (e x) (wipeE (frz vs ρ) own) = some ρ1 ∧ frzOk vs' ρ1 = true ∧ t ρ1 = some true ∧ f ρ1 = some (k x)) : nLc vs vs' own i b t f ρ = some (xs.map k) := by
  unfold nLc
  rw [hi]
  show (if _ then _ else none) = _
  rw [if_pos ⟨by simp; exact sz hn, hl⟩]
  clear hi hn
  induction xs with
  | nil => rfl
  | cons x xs ih =>
    obtain ⟨ρ1, e1, e2, e3, e4⟩ := H x List.mem_cons_self
    rw [List.map_cons, lcN, e1]
    simp only [Option.bind_some, e2, if_true, e3, e4, ih fun y hy => H y (List.mem_cons_of_mem _ hy), Option.map_some, List.map_cons]
theorem lcV_lst {n : Nat} {ow : List Nat} {b : D → Ev → Option Ev} {t : Ev → Option (Bool × Ev)} {f : Ev → Option (AV × Ev)} {ρ : Ev} {α : Type} (e k : α → D) : ∀ xs : List α, (∀ x ∈ xs, ∃ ρ1 ρ2 m ρ3, b (e x) ρ = some ρ1 ∧ t ρ1 = some (true, ρ2) ∧ f ρ2 = some ((k x, m), ρ3) ∧ fit n (k x, m) = true ∧ wipeE ρ3 ow = ρ) → lcV n ow b t f (xs.map e) ρ = some (xs.map k, ρ)
  | [], _ => rfl
  | x :: xs, H => by
    obtain ⟨ρ1, ρ2, m, ρ3, e1, e2, e3, e4, e5⟩ := H x List.mem_cons_self
    rw [List.map_cons, lcV, e1]
    simp only [Option.bind_some, e2, if_true, e3, e4, e5, lcV_lst e k xs fun x hx => H x (List.mem_cons_of_mem _ hx), Option.map_some, List.map_cons]
theorem vLc_lst {n : Nat} {ow : List Nat} {i : Ev → Option (List D × Ev)} {b : D → Ev → Option Ev} {t : Ev → Option (Bool × Ev)} {f : Ev → Option (AV × Ev)} {ρ ρ0 : Ev} {α : Type} (xs : List α) (e k : α → D) (hi : i ρ = some (xs.map e, ρ0)) (hn : xs.length < 1000) (hl : ρ0.length ≤ 1000)
    (H : ∀ x ∈ xs, ∃ ρ1 ρ2 m ρ3, b (e x) (wipeE (frz ow ρ0) ow) = some ρ1 ∧ t ρ1 = some (true, ρ2) ∧ f ρ2 = some ((k x, m), ρ3) ∧ fit n (k x, m) = true ∧ wipeE ρ3 ow = wipeE (frz ow ρ0) ow) : vLc n ow i b t f ρ = some ((.lst (xs.map k), n + 1), restE ow (frz ow ρ0) (wipeE (frz ow ρ0) ow)) := by
  unfold vLc
  rw [hi]
  show (if _ then _ else none) = _
  rw [if_pos ⟨by simp; exact sz hn, hl⟩]
  show (lcV n ow b t f (xs.map e) _).map _ = _
  rw [lcV_lst e k xs H]
  rfl
theorem vLc_rng {n : Nat} {ow : List Nat} {i : Ev → Option (List D × Ev)} {b : D → Ev → Option Ev} {t : Ev → Option (Bool × Ev)} {f : Ev → Option (AV × Ev)} {ρ ρ0 : Ev} (m : Nat) (k : Nat → D) (hi : i ρ = some (rng 0 m, ρ0)) (hn : m < 1000) (hl : ρ0.length ≤ 1000)
    (H : ∀ j : Nat, j < m → ∃ ρ1 ρ2 q ρ3, b (.int j) (wipeE (frz ow ρ0) ow) = some ρ1 ∧ t ρ1 = some (true, ρ2) ∧ f ρ2 = some ((k j, q), ρ3) ∧ fit n (k j, q) = true ∧ wipeE ρ3 ow = wipeE (frz ow ρ0) ow) : vLc n ow i b t f ρ = some ((.lst ((List.range m).map k), n + 1), restE ow (frz ow ρ0) (wipeE (frz ow ρ0) ow)) := by
  rw [rng0] at hi
  exact vLc_lst (List.range m) (fun j : Nat => D.int j) k hi (by simpa using hn) hl fun x hx => H x (List.mem_range.mp hx)
/-- a comprehension whose turns change what is one's own -/
theorem vLc_inv {n : Nat} {ow : List Nat} {i : Ev → Option (List D × Ev)} {b : D → Ev → Option Ev} {t : Ev → Option (Bool × Ev)} {f : Ev → Option (AV × Ev)} {ρ ρ0 : Ev} {I : Ev → Prop} {J : D → Prop} (m : Nat) (hi : i ρ = some (rng 0 m, ρ0)) (hn : m < 1000) (hl : ρ0.length ≤ 1000)
    (h0 : I (wipeE (frz ow ρ0) ow)) (H : ∀ (j : Nat) ρ, j < m → I ρ → ∃ ρ1 ρ2 x q ρ3, b (.int j) ρ = some ρ1 ∧ t ρ1 = some (true, ρ2) ∧ f ρ2 = some ((x, q), ρ3) ∧ fit n (x, q) = true ∧ J x ∧ I (wipeE ρ3 ow)) : ∃ xs ρ', vLc n ow i b t f ρ = some ((.lst xs, n + 1), restE ow (frz ow ρ0) ρ') ∧ I ρ' ∧ xs.length = m ∧ ∀ x ∈ xs, J x := by
  obtain ⟨xs, ρ', e, h1, h2, h3⟩ := lcV_inv (n := n) (ow := ow) (b := b) (t := t) (f := f) (I := I) (J := fun _ x => J x) (rng 0 m) _ (fun d hd ρ hI => by
    rw [rng0] at hd
    obtain ⟨j, hj, rfl⟩ := List.mem_map.mp hd
    exact H j ρ (List.mem_range.mp hj) hI) h0
  refine ⟨xs, ρ', ?_, h1, by rw [h2, rng0]; simp, fun x hx => ?_⟩
  · unfold vLc
    rw [hi]
    show (if _ then _ else none) = _
    rw [if_pos ⟨by rw [rng0]; simp; exact sz hn, hl⟩, e]
    rfl
  · obtain ⟨_, _, h⟩ := h3 x hx
    exact h
theorem bnd_nat {n : Nat} (h : n < 1000) : bnd (n : Int) = true := by
  unfold bnd
  exact decide_eq_true (by omega)
theorem nRg1_of {f : Ev → Option (List D)} {ρ : Ev} {n : Nat} (e : f ρ = some [.int n]) (h : n < 1000) : nRg1 f ρ = some (rng 0 n) := by
  unfold nRg1
  rw [e, Option.bind_some]
  simp only
  rw [if_pos (bnd_nat h)]
theorem nRg2_of {f : Ev → Option (List D)} {ρ : Ev} {i j : Int} (e : f ρ = some [.int i, .int j]) (h : bnd i = true) (h2 : bnd j = true) : nRg2 f ρ = some (rng i j) := by
  unfold nRg2
  rw [e, Option.bind_some]
  simp only
  rw [if_pos ⟨h, h2⟩]
theorem iNI_of {vs : List Nat} {f : Ev → Option (List D)} {ρ : Ev} {ds : List D} (e : f ρ = some ds) : iNI vs f ρ = some (ds, frz vs ρ) := by
  unfold iNI
  rw [e]
  rfl
end Dv
/-! DvR: xs[e], e changing what is one's own. -/
namespace Dv
open PySem PySem.Spec PyProof.Rows L2
def bIxL : D → D → Option D
  | .lst xs, .int i => atI xs i
  | .frl xs, .int i => atI xs i
  | .tup xs, .int i => atI xs i
  | _, _ => none
def vIx (ga gc : Ev → Option (AV × Ev)) : Ev → Option (AV × Ev) := fun ρ => (ga ρ).bind fun r => (gc r.2).bind fun r2 => (bIxL r.1.1 r2.1.1).map fun d => ((d, 0), r2.2)
section
variable {X : Cx} {a c : Expr} {pos : Pos} {ga gc : Ev → Option (AV × Ev)}
theorem ve_ix (ha : VE X a ga) (hc : VE X c gc) (h1 : PlainIx c := by intro _ _; rfl) : VE X (.Subscript a c pos) (vIx ga gc) :=
  ⟨(pe_ix ix_seq ha.pe hc.pe h1).imp fun σ H Q ⟨F, os, ρ, r0, R, e, k⟩ => by
    obtain ⟨r, e1, e⟩ := Option.bind_eq_some_iff.mp e
    obtain ⟨r2, e2, e⟩ := Option.bind_eq_some_iff.mp e
    obtain ⟨d, e3, rfl⟩ := Option.map_eq_some_iff.mp e
    refine ⟨F, os, ρ, r, R, e1, fun v1 H1 F1 os1 L1 s1 R1' q1 n1 dj1 => ?_⟩
    have s1' : Step F (Own os) H (fun a => F1 a ∨ a ∈ L1) (Own os1) H1 := s1.trans (Step.moreF (fun _ z => .inl z) (fun a z => z.elim .inl fun z => .inr ⟨.inr z, q1.there a z⟩) fun _ z => .inl z)
    have R1'' : Rl X.K (fun a => F1 a ∨ a ∈ L1) os1 r.2 σ H1 := R1'.moreF (fun _ z => .inl z) fun a z => z.elim .inl fun z => .inr ⟨q1.there a z, dj1 a z⟩
    have q1' : R1 X.K (fun a => F1 a ∨ a ∈ L1) H1 v1 r.1.1 0 [] := q1.freeze (fun _ z => .inl z) fun _ z => .inr z
    refine ⟨_, os1, r.2, r2, R1'', e2, fun v2 H2 F2 os2 L2 s2 R2' q2 n2 dj2 => ?_⟩
    have q3 : R1 X.K F2 H2 v1 r.1.1 0 [] := q1'.tmp R1'' (fun _ z => nomatch z) s2
    have fin : ∀ v, R1 X.K F2 H2 v d 0 [] → L2 = [] → Q v H2 := fun v qv hl => by
      subst hl
      exact k v H2 F2 os2 [] (s1'.trans s2) R2' qv List.nodup_nil fun _ z => nomatch z
    obtain ⟨⟨x, m⟩, ρx⟩ := r
    obtain ⟨⟨y, m2⟩, ρy⟩ := r2
    change bIxL x y = some d at e3
    change R1 X.K F2 H2 v1 x 0 [] at q3
    change R1 X.K F2 H2 v2 y m2 L2 at q2
    unfold bIxL at e3
    split at e3
    · obtain ⟨a, xs, rfl, h, q⟩ := R1.lst0 q3
      cases q2
      obtain ⟨v, ev, qv⟩ := atI_rs q e3
      exact .inl ⟨a, xs, _, v, rfl, rfl, h.sq, ev, fin v qv rfl⟩
    · obtain ⟨a, xs, rfl, h, q⟩ := R1.frl0 q3
      cases q2
      obtain ⟨v, ev, qv⟩ := atI_rs q e3
      exact .inl ⟨a, xs, _, v, rfl, rfl, h.sq, ev, fin v qv rfl⟩
    · obtain ⟨a, xs, rfl, h, q⟩ := R1.tup0 q3
      cases q2
      obtain ⟨v, ev, qv⟩ := atI_rs q e3
      exact .inr (.inl ⟨a, xs, _, v, rfl, rfl, h.sq, ev, fin v qv rfl⟩)
    · cases e3⟩
end
/-! ### a, b = e1, e2: no tuple is made -/
def sPar (vs : List Nat) (i j : Nat) (f : Ev → Option (List D)) : Ev → Option Out := fun ρ => (f ρ).bind fun ds => match ds with
  | [x, y] => if i < (frz vs ρ).length ∧ j < (frz vs ρ).length then some (.nx (((frz vs ρ).set i (some (x, 0))).set j (some (y, 0)))) else none
  | _ => none
theorem vs_par {X : Cx} {pm vs : List Nat} (i j : Nat) {x y : Str} {a b : Expr} {px py pt pos : Pos} {kt k2 pt2} {f : Ev → Option (List D)} (hc : X.calm = true) (hN : X.N.Nodup) (hi : X.N[i]? = some x) (hj : X.N[j]? = some y)
    (hx : X.env.scope.names.lookup x = some .local) (hy : X.env.scope.names.lookup y = some .local) (ha : NA X vs [a, b] f) (hij : i ≠ j := by decide) (hp : i ∉ pm := by decide) (hp2 : j ∉ pm := by decide)
    (hw : swappedStores [.Tuple [.Name x px, .Name y py] kt pt] (.Tuple [a, b] k2 pt2) X.env = pure (some [x, y]) := by rfl)
    (hs : swapsWithSole [.Tuple [.Name x px, .Name y py] kt pt] (.Tuple [a, b] k2 pt2) pos.line X.env = pure false := by rfl) :
    VS X pm (.Assign [.Tuple [.Name x px, .Name y py] kt pt] (.Tuple [a, b] k2 pt2) pos) (sPar vs i j f) :=
  ⟨(ps_par hc hN hi hj hij hx hy ha.pa hw hs).imp fun D σ H ⟨F, os, ρ, o, R, e, k⟩ => by
    obtain ⟨ds, e1, e2⟩ := Option.bind_eq_some_iff.mp e
    split at e2
    · rename_i d1 d2
      split at e2
      · rename_i hl
        cases e2
        refine ⟨F, os, ρ, _, R, e1, fun xs H1 F1 s1 q1 => ?_⟩
        obtain ⟨v, w, rfl, q2, q3⟩ := Rs.two_inv q1
        refine ⟨v, w, rfl, ?_⟩
        obtain ⟨F2, os2, R2, s2, h1, h2⟩ := frz_rl vs (R.ext0 s1)
        have q2' : R1 X.K F2 H1 v d1 0 [] := q2.ext h1 (fun _ _ _ z => z) (fun _ _ z => nomatch z) fun _ z => nomatch z
        have q3' : R1 X.K F2 H1 w d2 0 [] := q3.ext h1 (fun _ _ _ z => z) (fun _ _ z => nomatch z) fun _ z => nomatch z
        have st : Step F (Own os) H F2 (fun a => Own os2 a ∨ a ∈ ([] : List Addr)) H1 := (s1.step.trans s2).weak (fun _ z => z) fun a z => z.elim .inl fun z => nomatch z
        have R3 := R2.store hl.1 q2' List.nodup_nil fun _ z => nomatch z
        have s3 := step_store (i := i) st
        have R4 := R3.store (by rw [List.length_set]; exact hl.2) q3' List.nodup_nil fun _ z => nomatch z
        have s4 : Step F (Own os) H F2 (Own (upo (upo os2 i []) j [])) H1 := step_store (i := j) (s3.weak (fun _ z => z) fun a z => z.elim .inl fun z => nomatch z)
        exact k _ H1 F2 _ s4 R4 ((fix_set hp).trans (fix_set hp2))
      · cases e2
    · cases e2⟩
end Dv
/-! DvS: how values, tests, calls are reckoned with, one lemma each. -/
namespace Dv
open PySem PySem.Spec PyProof.Rows L2
/-- a loop over a range with what it gathers -/
theorem forL_fold {S : Type} {g : Ev → Option Out} {b : D → Ev → Option Ev} (st : S → Nat → S) (mk : S → Ev → Prop) : ∀ (js : List Nat) (a : S) (ρ : Ev), (∀ j ∈ js, ∀ a ρ, mk a ρ → ∃ ρ1 ρ2, b (.int j) ρ = some ρ1 ∧ g ρ1 = some (.nx ρ2) ∧ mk (st a j) ρ2) → mk a ρ → ∃ ρ', forL b g (js.map fun j : Nat => D.int j) ρ = some (.nx ρ') ∧ mk (js.foldl st a) ρ'
  | [], a, ρ, _, h => ⟨ρ, rfl, h⟩
  | j :: js, a, ρ, H, h => by
    obtain ⟨ρ1, ρ2, e1, e2, h2⟩ := H j List.mem_cons_self a ρ h
    obtain ⟨ρ', e3, h3⟩ := forL_fold st mk js (st a j) ρ2 (fun x hx => H x (List.mem_cons_of_mem _ hx)) h2
    exact ⟨ρ', forL_nx e1 e2 e3, h3⟩
/-- a loop that returns the first number of a kind -/
theorem forL_first {g : Ev → Option Out} {b : D → Ev → Option Ev} {I : Ev → Prop} (P : Nat → Bool) : ∀ (js : List Nat) (ρ : Ev), (∀ j ∈ js, ∀ ρ, I ρ → ∃ ρ1, b (.int j) ρ = some ρ1 ∧ (P j = true → Rt g ρ1 (.int j, 0)) ∧ (P j = false → ∃ ρ2, g ρ1 = some (.nx ρ2) ∧ I ρ2)) → I ρ →
    match js.find? P with
    | some j => Rt (forL b g (js.map fun j : Nat => D.int j)) ρ (.int j, 0)
    | none => ∃ ρ', forL b g (js.map fun j : Nat => D.int j) ρ = some (.nx ρ') ∧ I ρ'
  | [], ρ, _, h => ⟨ρ, rfl, h⟩
  | j :: js, ρ, H, h => by
    obtain ⟨ρ1, e1, h1, h2⟩ := H j List.mem_cons_self ρ h
    cases hp : P j with
    | true =>
      rw [List.find?_cons_of_pos hp]
      obtain ⟨ρ2, e2⟩ := h1 hp
      exact ⟨ρ2, forL_rt e1 e2⟩
    | false =>
      obtain ⟨ρ2, e2, hI⟩ := h2 hp
      rw [List.find?_cons_of_neg (by simp [hp])]
      have := forL_first P js ρ2 (fun x hx => H x (List.mem_cons_of_mem _ hx)) hI
      split at this
      · obtain ⟨ρ3, e3⟩ := this; exact ⟨ρ3, forL_nx e1 e2 e3⟩
      · obtain ⟨ρ3, e3, h3⟩ := this; exact ⟨ρ3, forL_nx e1 e2 e3, h3⟩
def firstD (P : Nat → Bool) (m : Nat) : D := match (List.range m).find? P with
  | some j => .int j
  | none => .non
theorem firstD_congr {P Q : Nat → Bool} {m : Nat} (h : ∀ j, P j = Q j) : firstD P m = firstD Q m := by rw [show P = Q from funext h]
theorem vN_fr {vs : List Nat} {f : Ev → Option D} {ρ : Ev} {d : D} (e : f ρ = some d) (h : d.isS = false) : vN vs f ρ = some ((d, 0), frz vs ρ) := by
  unfold vN; rw [e, Option.map_some, if_neg (by rw [h]; decide)]
theorem vN_s {vs : List Nat} {f : Ev → Option D} {ρ : Ev} {d : D} (e : f ρ = some d) (h : d.isS = true) : vN vs f ρ = some ((d, 0), ρ) := by
  unfold vN; rw [e, Option.map_some, if_pos h]
theorem nCl2 {g : PF} {a b : Ev → Option D} {ρ : Ev} {x y : D} {av : AV} {q : List AV} (ea : a ρ = some x) (eb : b ρ = some y) (e : g [(x, 0), (y, 0)] = some (av, q)) : nCl g [] (aCons a (aCons b aNil)) ρ = some av.1 := by
  unfold nCl nCall aCons aNil
  rw [ea, eb]
  show ((g [(x, 0), (y, 0)]).map (·.1)).map (·.1) = _
  rw [e]
  rfl
theorem nCl1 {g : PF} {a : Ev → Option D} {ρ : Ev} {x : D} {av : AV} {q : List AV} (ea : a ρ = some x) (e : g [(x, 0)] = some (av, q)) : nCl g [] (aCons a aNil) ρ = some av.1 := by
  unfold nCl nCall aCons aNil
  rw [ea]
  show ((g [(x, 0)]).map (·.1)).map (·.1) = _
  rw [e]
  rfl
theorem vCl1 {vs : List Nat} {g : PF} {a : Ev → Option D} {ρ : Ev} {x : D} {av : AV} {q : List AV} (ea : a ρ = some x) (e : g [(x, 0)] = some (av, q)) (h : av.1.isS = false) : vCl vs g [] (aCons a aNil) ρ = some (av, frz vs ρ) := by
  unfold vCl nCall aCons aNil
  rw [ea]
  show ((g [(x, 0)]).map (·.1)).map _ = _
  rw [e]
  show some (av, if av.1.isS = true then ρ else frz vs ρ) = _
  rw [if_neg (by rw [h]; decide)]
theorem vCl2 {vs : List Nat} {g : PF} {a b : Ev → Option D} {ρ : Ev} {x y : D} {av : AV} {q : List AV} (ea : a ρ = some x) (eb : b ρ = some y) (e : g [(x, 0), (y, 0)] = some (av, q)) (h : av.1.isS = false) : vCl vs g [] (aCons a (aCons b aNil)) ρ = some (av, frz vs ρ) := by
  unfold vCl nCall aCons aNil
  rw [ea, eb]
  show ((g [(x, 0), (y, 0)]).map (·.1)).map _ = _
  rw [e]
  show some (av, if av.1.isS = true then ρ else frz vs ρ) = _
  rw [if_neg (by rw [h]; decide)]
theorem nIf_t {t : Ev → Option Bool} {fa fc : Ev → Option D} {ρ : Ev} {d : D} (e : t ρ = some true) (e2 : fa ρ = some d) : nIf t fa fc ρ = some d := by unfold nIf; rw [e]; exact e2
theorem nIf_f {t : Ev → Option Bool} {fa fc : Ev → Option D} {ρ : Ev} {d : D} (e : t ρ = some false) (e2 : fc ρ = some d) : nIf t fa fc ρ = some d := by unfold nIf; rw [e]; exact e2
theorem nOp_of {b : D → D → Option D} {fa fc : Ev → Option D} {ρ : Ev} {x y d : D} (ea : fa ρ = some x) (ec : fc ρ = some y) (e : b x y = some d) : nOp b fa fc ρ = some d := by unfold nOp; rw [ea, ec]; exact e
theorem tCmp_of {q : D → D → Option Bool} {fa fc : Ev → Option D} {ρ : Ev} {x y : D} {k : Bool} (ea : fa ρ = some x) (ec : fc ρ = some y) (e : q x y = some k) : tCmpB q fa fc ρ = some k := by unfold tCmpB; rw [ea, ec]; exact e
theorem nAndV_of {fa fc : Ev → Option D} {ρ : Ev} {a c : Bool} (ea : fa ρ = some (.bl a)) (ec : fc ρ = some (.bl c)) : nAndV fa fc ρ = some (.bl (a && c)) := by
  unfold nAndV nBool; rw [ea]
  cases a with
  | true => simp [ec]
  | false => simp
theorem cB_of {q : D → D → Option Bool} {x y : D} {k : Bool} (e : q x y = some k) : cB q x y = some (.bl k) := by unfold cB; rw [e]; rfl
theorem len_of {f : Ev → Option D} {ρ : Ev} {d : D} {r : D} (e : f ρ = some d) (h : cLen [d] = some r) : nCa cLen (aCons f aNil) ρ = some r := by
  unfold nCa aCons aNil; rw [e]; exact h
theorem cLt_int (i j : Int) : cLt (.int i) (.int j) = some (decide (i < j)) := rfl
theorem runF1 {np nN : Nat} {g : Ev → Option Out} {a b : AV} {as : List AV} {av : AV} {ρ' : Ev} (hl : (a :: as).length = np) (ok : okPm [0] 0 (a :: as) = true) (e : g (startE nN (a :: as)) = some (.rt av ρ')) (h0 : ρ'[0]? = some (some b)) : runF np nN [0] g (a :: as) = some (av, b :: as) := by
  have rest : ∀ (as : List AV) (i : Nat), 0 < i → outsF [0] ρ' i as = some as := by
    intro as
    induction as with
    | nil => intro i _; rfl
    | cons x xs ih => intro i hi; unfold outsF; rw [if_neg (by simp; omega), ih (i + 1) (by omega)]; rfl
  unfold runF
  rw [if_pos ⟨hl, ok⟩, e]
  show (outsF [0] ρ' 0 (a :: as)).map _ = _
  unfold outsF
  rw [if_pos (by simp), h0]
  show ((outsF [0] ρ' 1 as).map _).map _ = _
  rw [rest as 1 (by decide)]
  rfl
theorem cut_all {α : Type} (xs : List α) : cutL xs none none = xs := by
  unfold cutL
  show (xs.drop 0).take (xs.length - 0) = xs
  rw [List.drop_zero, Nat.sub_zero, List.take_length]
theorem app_nx {i n : Nat} {f : Ev → Option (AV × Ev)} {ρ ρ1 : Ev} {ds ds' : List D} {av : AV} {m : Nat} (h0 : ρ[i]? = some (some (.lst ds', m + 1))) (e : f ρ = some (av, ρ1)) (h : ρ1[i]? = some (some (.lst ds, n + 1))) (hf : fit n av = true) (hl : ds.length < 1000) : sApp i f ρ = some (.nx (ρ1.set i (some (.lst (ds ++ [av.1]), n + 1)))) := by
  unfold sApp
  rw [h0]
  simp only [e, Option.bind_some, h]
  rw [if_pos ⟨hf, L2.small1000 (Nat.le_of_lt hl)⟩]
theorem vF_or {vs : List Nat} {f : Ev → Option (List D)} {ρ : Ev} {ds : List D} (e : f ρ = some ds) : vF vs f ρ = some ((.lst ds, 1), ρ) ∨ vF vs f ρ = some ((.lst ds, 1), frz vs ρ) := by
  unfold vF; rw [e]
  by_cases h : ds.all D.isS = true
  · exact .inl (by rw [Option.map_some, if_pos h])
  · exact .inr (by rw [Option.map_some, if_neg h])
theorem nFr_of {f : Ev → Option (List D)} {ρ : Ev} {ds : List D} (e : f ρ = some ds) : nFr f ρ = some (.lst ds) := by unfold nFr; rw [e]; rfl
theorem sl_all {f : Ev → Option D} {ρ : Ev} {ds : List D} (e : f ρ = some (.lst ds)) : fSl f oNone oNone ρ = some ds := by
  unfold fSl lOf
  rw [e]
  show some (cutL ds none none) = _
  rw [cut_all]
theorem vtN_of {t : Ev → Option Bool} {ρ : Ev} {b : Bool} (e : t ρ = some b) : vtN t ρ = some (b, ρ) := by unfold vtN; rw [e]; rfl
theorem nAnd_of {t u : Ev → Option Bool} {ρ : Ev} {a b : Bool} (e : t ρ = some a) (e2 : u ρ = some b) : nAnd t u ρ = some (a && b) := by
  unfold nAnd; rw [e]
  cases a
  · rfl
  · show u ρ = _; rw [e2]; rfl
theorem nNotV_of {f : Ev → Option D} {ρ : Ev} {b : Bool} (e : f ρ = some (.bl b)) : nNotV f ρ = some (.bl (!b)) := by unfold nNotV nBool; rw [e]; rfl
theorem if_nx {t : Ev → Option (Bool × Ev)} {g h : Ev → Option Out} {ρ ρ1 : Ev} {b : Bool} {o : Out} (e : t ρ = some (b, ρ1)) (ht : b = true → g ρ1 = some o) (hf : b = false → h ρ1 = some o) : sIf t g h ρ = some o := by
  cases b
  · exact if_f e (hf rfl)
  · exact if_t e (ht rfl)
theorem foldl_count (js : List Nat) : ∀ k : Nat, js.foldl (fun k _ => k + 1) k = k + js.length := by
  induction js with
  | nil => intro k; rfl
  | cons j js ih => intro k; rw [List.foldl_cons, ih, List.length_cons]; omega
theorem int1_of {f : Ev → Option D} {ρ : Ev} {i : Int} (e : f ρ = some (.int i)) : nCa cInt (aCons f aNil) ρ = some (.int i) := by unfold nCa aCons aNil; rw [e]; rfl
theorem vCall_of {g : PF} {f : Ev → Option (List Ag × Ev)} {ρ ρ1 : Ev} {as : List Ag} {avs outs : List AV} {av : AV} (e1 : f ρ = some (as, ρ1)) (nd : (ioOf as).Nodup) (e2 : getA as ρ1 = some avs) (e3 : g avs = some (av, outs)) : vCall g [] f ρ = some (av, putA as outs (killA as ρ1)) := by
  unfold vCall
  rw [e1]
  simp only [Option.bind_some]
  rw [if_pos nd, e2]
  simp only [Option.bind_some, List.map_nil, List.append_nil]
  rw [e3]
  rfl
theorem caIo_of {i : Nat} {f : Ev → Option (List Ag × Ev)} {ρ ρ1 : Ev} {a : AV} {as : List Ag} (h : ρ[i]? = some (some a)) (e : f ρ = some (as, ρ1)) : caIo i f ρ = some (.inl i :: as, ρ1) := by
  unfold caIo; rw [h, e]; rfl
theorem caVe_of {g : Ev → Option (AV × Ev)} {f : Ev → Option (List Ag × Ev)} {ρ ρ1 ρ2 : Ev} {a : AV} {as : List Ag} (h : g ρ = some (a, ρ1)) (e : f ρ1 = some (as, ρ2)) : caVe g f ρ = some (.inr a.1 :: as, ρ2) := by
  unfold caVe; rw [h]; simp only [Option.bind_some]; rw [e]; rfl
theorem nOr_of {t u : Ev → Option Bool} {ρ : Ev} {a b : Bool} (e : t ρ = some a) (e2 : u ρ = some b) : nOr t u ρ = some (a || b) := by
  unfold nOr; rw [e]
  cases a
  · show u ρ = _; rw [e2]; rfl
  · rfl
theorem nBool_of {f : Ev → Option D} {ρ : Ev} {b : Bool} (e : f ρ = some (.bl b)) : nBool f ρ = some b := by unfold nBool; rw [e]; rfl
theorem nNot_of {t : Ev → Option Bool} {ρ : Ev} {b : Bool} (e : t ρ = some b) : nNot t ρ = some (!b) := by unfold nNot; rw [e]; rfl
theorem arg1_of {f : Ev → Option D} {ρ : Ev} {d : D} (e : f ρ = some d) : aCons f aNil ρ = some [d] := by unfold aCons aNil; rw [e]; rfl
theorem foldl_and (Q : Nat → Bool) : ∀ (js : List Nat) (a : Bool), js.foldl (fun a y => a && Q y) a = (a && js.all Q)
  | [], a => by simp
  | j :: js, a => by rw [List.foldl_cons, foldl_and Q js, List.all_cons, Bool.and_assoc]
theorem lst1 {d : D} {ρ : Ev} {f : Ev → Option D} (e : f ρ = some d) : fLst (aCons f aNil) ρ = some [d] := by
  unfold fLst aCons aNil
  rw [e]
  simp only [Option.bind_some, Option.map_some]
  rw [if_pos (sz (by simp))]
theorem cLe_int (i j : Int) : cLe (.int i) (.int j) = some (decide (i ≤ j)) := rfl
theorem ixN_nat {n j : Nat} (h : j < n) : ixN n (j : Int) = some j := by
  unfold ixN
  rw [if_pos (Int.natCast_nonneg j), if_pos (by omega), Int.toNat_natCast]
end Dv
namespace K47
open PySem PySem.Spec PyProof.Rows L2 Dv
def topS (i : Nat) : Stmt := PySem.Challenge.pw_loomwork_k47_whole_shortest_ways.main.body.getD i (.Pass ⟨0, 0, 0, 0⟩)
section
variable {P : Program} {w : World} {K : PySem.W.Frag} {mg : Str → Option Value} {base : Heap}
def redFuel (ρ : Ev) : Nat := match ρ[2]?, ρ[3]? with
  | some (some (Dv.D.tup [Dv.D.int a, Dv.D.int b], _)), some (some (Dv.D.tup [Dv.D.int c, Dv.D.int d], _)) => (2 * (a * a + b * b + (c * c + d * d))).toNat + 3
  | _, _ => 0
/-! ### l_mixed -/
def b_l_mixed : Ev → Option Out :=
  (sSeq (sSet 2 (vN [0, 1] (nOp bMod (nCa cInt (aCons (nOp bAdd (nOp bAdd (nOp bMul (nVar 0) (nC (.int 48271))) (nOp bMul (nVar 1) (nC (.int 69621)))) (nC (.int 11))) aNil)) (nC (.int 618970019642690137449562111))))) (sSeq (sSet 3 (vN [1, 2] (nOp bMod (nCa cInt (aCons (nOp bAdd (nOp bAdd (nOp bMul (nVar 2) (nVar 2)) (nOp bMul (nC (.int 7)) (nVar 2))) (nVar 1)) aNil)) (nC (.int 162259276829213363391578010288127))))) (sSeq (sSet 4 (vN [2, 3] (nOp bMod (nCa cInt (aCons (nOp bAdd (nOp bMul (nVar 3) (nVar 3)) (nVar 2)) aNil)) (nC (.int 618970019642690137449562111))))) (sRet (vN [3, 4] (nOp bAdd (nOp bMul (nVar 3) (nC (.int 618970019642690137449562111))) (nVar 4)))))))
def g_l_mixed : PF := runF 2 5 [] b_l_mixed
theorem sc_l_mixed : FnScope ["number", "place", "first", "second", "third"] ["number", "place"] (defScope (topS 7)) := ⟨rfl, rfl, rfl, by decide +kernel, rfl, by decide +kernel, by decide +kernel⟩
theorem ok_l_mixed {f : Addr} {fd : FuncData} (F : Fun K "_law_mixed" "_law_mixed" (topS 7) f fd) (z_int : mg "int" = none) : FnOk P w K mg base CX0 1 f fd ["number", "place"] (spV K 2 g_l_mixed) :=
  fn_v [] F sc_l_mixed rfl (by decide) (by decide) fun cdv A outer s H E hr =>
    (vss_cons (vs_set 2 sc_l_mixed.nd rfl (by first | exact .inl rfl | exact .inr rfl) (ve_ne (vs := [0, 1]) (ne_op od_mod (ne_callTy ca_int (by rfl) z_int (by decide +kernel) (na_cons (ne_op od_add (ne_op od_add (ne_op od_mul (ne_var 0) ne_int) (ne_op od_mul (ne_var 1) ne_int)) ne_int) na_nil)) ne_int)))
    (vss_cons (vs_set 3 sc_l_mixed.nd rfl (by first | exact .inl rfl | exact .inr rfl) (ve_ne (vs := [1, 2]) (ne_op od_mod (ne_callTy ca_int (by rfl) z_int (by decide +kernel) (na_cons (ne_op od_add (ne_op od_add (ne_op od_mul (ne_var 2) (ne_var 2)) (ne_op od_mul ne_int (ne_var 2))) (ne_var 1)) na_nil)) ne_int)))
    (vss_cons (vs_set 4 sc_l_mixed.nd rfl (by first | exact .inl rfl | exact .inr rfl) (ve_ne (vs := [2, 3]) (ne_op od_mod (ne_callTy ca_int (by rfl) z_int (by decide +kernel) (na_cons (ne_op od_add (ne_op od_mul (ne_var 3) (ne_var 3)) (ne_var 2)) na_nil)) ne_int)))
    (vss_one (vs_ret (ve_ne (vs := [3, 4]) (ne_op od_add (ne_op od_mul (ne_var 3) ne_int) (ne_var 4))))))))
/-! ### p_nearest -/
def b_p_nearest : Ev → Option Out :=
  (sRet (vN [0, 1] (nOp bFdiv (nOp bAdd (nOp bMul (nC (.int 2)) (nVar 0)) (nVar 1)) (nOp bMul (nC (.int 2)) (nVar 1)))))
def g_p_nearest : PF := runF 2 2 [] b_p_nearest
theorem sc_p_nearest : FnScope ["p", "q"] ["p", "q"] (defScope (topS 3)) := ⟨rfl, rfl, rfl, by decide +kernel, rfl, by decide +kernel, by decide +kernel⟩
theorem ok_p_nearest {f : Addr} {fd : FuncData} (F : Fun K "nearest" "nearest" (topS 3) f fd)  : FnOk P w K mg base CX0 1 f fd ["p", "q"] (spV K 2 g_p_nearest) :=
  fn_v [] F sc_p_nearest rfl (by decide) (by decide) fun cdv A outer s H E hr =>
    (vss_one (vs_ret (ve_ne (vs := [0, 1]) (ne_op od_fdiv (ne_op od_add (ne_op od_mul ne_int (ne_var 0)) (ne_var 1)) (ne_op od_mul ne_int (ne_var 1))))))
/-! ### p_distance -/
def b_p_distance : Ev → Option Out :=
  (sRet (vN [0] (nOp bAdd (nOp bMul (nOp bIx (nVar 0) (nC (.int 0))) (nOp bIx (nVar 0) (nC (.int 0)))) (nOp bMul (nOp bIx (nVar 0) (nC (.int 1))) (nOp bIx (nVar 0) (nC (.int 1)))))))
def g_p_distance : PF := runF 1 1 [] b_p_distance
theorem sc_p_distance : FnScope ["way"] ["way"] (defScope (topS 1)) := ⟨rfl, rfl, rfl, by decide +kernel, rfl, by decide +kernel, by decide +kernel⟩
theorem ok_p_distance {f : Addr} {fd : FuncData} (F : Fun K "distance" "distance" (topS 1) f fd)  : FnOk P w K mg base CX0 1 f fd ["way"] (spV K 1 g_p_distance) :=
  fn_v [] F sc_p_distance rfl (by decide) (by decide) fun cdv A outer s H E hr =>
    (vss_one (vs_ret (ve_ne (vs := [0]) (ne_op od_add (ne_op od_mul (ne_ix (units1 hr) (ne_var 0) ne_int) (ne_ix (units1 hr) (ne_var 0) ne_int)) (ne_op od_mul (ne_ix (units1 hr) (ne_var 0) ne_int) (ne_ix (units1 hr) (ne_var 0) ne_int))))))
/-! ### p_inner -/
def b_p_inner : Ev → Option Out :=
  (sRet (vN [0, 1] (nOp bAdd (nOp bMul (nOp bIx (nVar 0) (nC (.int 0))) (nOp bIx (nVar 1) (nC (.int 0)))) (nOp bMul (nOp bIx (nVar 0) (nC (.int 1))) (nOp bIx (nVar 1) (nC (.int 1)))))))
def g_p_inner : PF := runF 2 2 [] b_p_inner
theorem sc_p_inner : FnScope ["one", "other"] ["one", "other"] (defScope (topS 2)) := ⟨rfl, rfl, rfl, by decide +kernel, rfl, by decide +kernel, by decide +kernel⟩
theorem ok_p_inner {f : Addr} {fd : FuncData} (F : Fun K "inner" "inner" (topS 2) f fd)  : FnOk P w K mg base CX0 1 f fd ["one", "other"] (spV K 2 g_p_inner) :=
  fn_v [] F sc_p_inner rfl (by decide) (by decide) fun cdv A outer s H E hr =>
    (vss_one (vs_ret (ve_ne (vs := [0, 1]) (ne_op od_add (ne_op od_mul (ne_ix (units1 hr) (ne_var 0) ne_int) (ne_ix (units1 hr) (ne_var 1) ne_int)) (ne_op od_mul (ne_ix (units1 hr) (ne_var 0) ne_int) (ne_ix (units1 hr) (ne_var 1) ne_int))))))
/-! ### l_least -/
def b_l_least : Ev → Option Out :=
  (sSeq (sSet 2 (vN [0] (nOp bMul (nVar 0) (nVar 0)))) (sSeq (sFor (iNI [0] (nRg1 (aCons (nVar 0) aNil))) (gNm 3) (sIf (vtN (tCmpB cLt (nOp bMul (nVar 3) (nVar 3)) (nVar 2))) (sSeq (sSet 4 (vN [0, 1, 3] (nOp bMod (nCa cInt (aCons (nOp bMul (nVar 1) (nVar 3)) aNil)) (nVar 0)))) (sFor (iNI [0, 4] (niL (nFr (fLst (aCons (nVar 4) (aCons (nOp bSub (nVar 4) (nVar 0)) aNil)))))) (gNm 5) (sSeq (sSet 6 (vN [3, 5] (nOp bAdd (nOp bMul (nVar 5) (nVar 5)) (nOp bMul (nVar 3) (nVar 3))))) (sIf (vtN (nChain cLt cLt (nC (.int 0)) (nVar 6) (nVar 2))) (sSet 2 (vN [6] (nVar 6))) sNil)))) sNil)) (sRet (vN [2] (nVar 2)))))
def g_l_least : PF := runF 2 7 [] b_l_least
theorem sc_l_least : FnScope ["n", "step", "best", "y", "x", "near", "far"] ["n", "step"] (defScope (topS 13)) := ⟨rfl, rfl, rfl, by decide +kernel, rfl, by decide +kernel, by decide +kernel⟩
theorem ok_l_least {f : Addr} {fd : FuncData} (F : Fun K "_law_least" "_law_least" (topS 13) f fd) (z_int : mg "int" = none) (z_range : mg "range" = none) : FnOk P w K mg base CX0 1 f fd ["n", "step"] (spV K 2 g_l_least) :=
  fn_v [] F sc_l_least rfl (by decide) (by decide) fun cdv A outer s H E hr =>
    (vss_cons (vs_set 2 sc_l_least.nd rfl (by first | exact .inl rfl | exact .inr rfl) (ve_ne (vs := [0]) (ne_op od_mul (ne_var 0) (ne_var 0))))
    (vss_cons (vs_for PassesOwn.never rfl (vi_n (vs := [0]) (ni_rng1 (by rfl) z_range (na_cons (ne_var 0) na_nil))) (vg_name 3 sc_l_least.nd rfl (by first | exact .inl rfl | exact .inr rfl)) (vss_one (vs_if (vt_n (nt_cmp (vs := [2, 3]) cd_lt (ne_op od_mul (ne_var 3) (ne_var 3)) (ne_var 2))) (vss_cons (vs_set 4 sc_l_least.nd rfl (by first | exact .inl rfl | exact .inr rfl) (ve_ne (vs := [0, 1, 3]) (ne_op od_mod (ne_callTy ca_int (by rfl) z_int (by decide +kernel) (na_cons (ne_op od_mul (ne_var 1) (ne_var 3)) na_nil)) (ne_var 0))))
    (vss_one (vs_for PassesOwn.never rfl (vi_n (vs := [0, 4]) (ni_list (ne_fr (nf_lstl (na_cons (ne_var 4) (na_cons (ne_op od_sub (ne_var 4) (ne_var 0)) na_nil)))))) (vg_name 5 sc_l_least.nd rfl (by first | exact .inl rfl | exact .inr rfl)) (vss_cons (vs_set 6 sc_l_least.nd rfl (by first | exact .inl rfl | exact .inr rfl) (ve_ne (vs := [3, 5]) (ne_op od_add (ne_op od_mul (ne_var 5) (ne_var 5)) (ne_op od_mul (ne_var 3) (ne_var 3)))))
    (vss_one (vs_if (vt_n (nt_chain (vs := [2, 6]) cd_lt cd_lt ne_int (ne_var 6) (ne_var 2))) (vss_one (vs_set 2 sc_l_least.nd rfl (by first | exact .inl rfl | exact .inr rfl) (ve_ne (vs := [6]) (ne_var 6)))) vss_nil)))))) vss_nil)))
    (vss_one (vs_ret (ve_ne (vs := [2]) (ne_var 2))))))
/-! ### l_length -/
def b_l_length : Ev → Option Out :=
  (sRet (vN [0] (nOp bAdd (nOp bMul (nOp bIx (nVar 0) (nC (.int 0))) (nOp bIx (nVar 0) (nC (.int 0)))) (nOp bMul (nOp bIx (nVar 0) (nC (.int 1))) (nOp bIx (nVar 0) (nC (.int 1)))))))
def g_l_length : PF := runF 1 1 [] b_l_length
theorem sc_l_length : FnScope ["pair"] ["pair"] (defScope (topS 15)) := ⟨rfl, rfl, rfl, by decide +kernel, rfl, by decide +kernel, by decide +kernel⟩
theorem ok_l_length {f : Addr} {fd : FuncData} (F : Fun K "_law_length" "_law_length" (topS 15) f fd)  : FnOk P w K mg base CX0 1 f fd ["pair"] (spV K 1 g_l_length) :=
  fn_v [] F sc_l_length rfl (by decide) (by decide) fun cdv A outer s H E hr =>
    (vss_one (vs_ret (ve_ne (vs := [0]) (ne_op od_add (ne_op od_mul (ne_ix (units1 hr) (ne_var 0) ne_int) (ne_ix (units1 hr) (ne_var 0) ne_int)) (ne_op od_mul (ne_ix (units1 hr) (ne_var 0) ne_int) (ne_ix (units1 hr) (ne_var 0) ne_int))))))
/-! ### l_second -/
def b_l_second : Ev → Option Out :=
  (sSeq (sSet 3 (vN [] (nC .non))) (sSeq (sFor (iNI [0] (nRg2 (aCons (nUn uNeg (nVar 0)) (aCons (nOp bAdd (nVar 0) (nC (.int 1))) aNil)))) (gNm 4) (sSeq (sSet 5 (vN [0, 1, 4] (nOp bMod (nCa cInt (aCons (nOp bMul (nVar 1) (nVar 4)) aNil)) (nVar 0)))) (sFor (iNI [0, 5] (niL (nFr (fLst (aCons (nVar 5) (aCons (nOp bSub (nVar 5) (nVar 0)) aNil)))))) (gNm 6) (sSeq (sSet 7 (vN [4, 6] (nOp bAdd (nOp bMul (nVar 6) (nVar 6)) (nOp bMul (nVar 4) (nVar 4))))) (sIf (vtN (nAnd (tCmpB cNe (nOp bMul (nVar 6) (nOp bIx (nVar 2) (nC (.int 1)))) (nOp bMul (nVar 4) (nOp bIx (nVar 2) (nC (.int 0))))) (nOr (tCmpB cIs (nVar 3) (nC .non)) (tCmpB cLt (nVar 7) (nVar 3))))) (sSet 3 (vN [7] (nVar 7))) sNil))))) (sRet (vN [3] (nVar 3)))))
def g_l_second : PF := runF 3 8 [] b_l_second
theorem sc_l_second : FnScope ["n", "step", "one", "best", "y", "x", "near", "far"] ["n", "step", "one"] (defScope (topS 16)) := ⟨rfl, rfl, rfl, by decide +kernel, rfl, by decide +kernel, by decide +kernel⟩
theorem ok_l_second {f : Addr} {fd : FuncData} (F : Fun K "_law_second" "_law_second" (topS 16) f fd) (z_int : mg "int" = none) (z_range : mg "range" = none) : FnOk P w K mg base CX0 1 f fd ["n", "step", "one"] (spV K 3 g_l_second) :=
  fn_v [] F sc_l_second rfl (by decide) (by decide) fun cdv A outer s H E hr =>
    (vss_cons (vs_set 3 sc_l_second.nd rfl (by first | exact .inl rfl | exact .inr rfl) (ve_ne (vs := []) ne_non))
    (vss_cons (vs_for PassesOwn.never rfl (vi_n (vs := [0]) (ni_rng2 (by rfl) z_range (na_cons (ne_un ud_neg (ne_var 0)) (na_cons (ne_op od_add (ne_var 0) ne_int) na_nil)))) (vg_name 4 sc_l_second.nd rfl (by first | exact .inl rfl | exact .inr rfl)) (vss_cons (vs_set 5 sc_l_second.nd rfl (by first | exact .inl rfl | exact .inr rfl) (ve_ne (vs := [0, 1, 4]) (ne_op od_mod (ne_callTy ca_int (by rfl) z_int (by decide +kernel) (na_cons (ne_op od_mul (ne_var 1) (ne_var 4)) na_nil)) (ne_var 0))))
    (vss_one (vs_for PassesOwn.never rfl (vi_n (vs := [0, 5]) (ni_list (ne_fr (nf_lstl (na_cons (ne_var 5) (na_cons (ne_op od_sub (ne_var 5) (ne_var 0)) na_nil)))))) (vg_name 6 sc_l_second.nd rfl (by first | exact .inl rfl | exact .inr rfl)) (vss_cons (vs_set 7 sc_l_second.nd rfl (by first | exact .inl rfl | exact .inr rfl) (ve_ne (vs := [4, 6]) (ne_op od_add (ne_op od_mul (ne_var 6) (ne_var 6)) (ne_op od_mul (ne_var 4) (ne_var 4)))))
    (vss_one (vs_if (vt_n (nw_and (nt_cmp (vs := [2, 4, 6]) (cd_ne hr.units) (ne_op od_mul (ne_var 6) (ne_ix (units1 hr) (ne_var 2) ne_int)) (ne_op od_mul (ne_var 4) (ne_ix (units1 hr) (ne_var 2) ne_int))) (nw_and1 (nw_or (nt_cmp (vs := [3]) cd_is (ne_var 3) ne_non) (nw_or1 (nt_cmp (vs := [3, 7]) cd_lt (ne_var 7) (ne_var 3)))).nt)).nt) (vss_one (vs_set 3 sc_l_second.nd rfl (by first | exact .inl rfl | exact .inr rfl) (ve_ne (vs := [7]) (ne_var 7)))) vss_nil)))))))
    (vss_one (vs_ret (ve_ne (vs := [3]) (ne_var 3))))))
/-! ### l_same -/
def b_l_same (gn : PF) : Ev → Option Out :=
  (sSeq (sIf (vtN (tCmpB cIs (nVar 1) (nC .non))) (sRet (vN [0] (nOp (cB cIs) (nVar 0) (nC .non)))) sNil) (sSeq (sIf (vtN (tCmpB cIs (nVar 1) (nC (.bl true)))) (sRet (vN [0] (nOp (cB cIs) (nVar 0) (nC (.bl true))))) sNil) (sSeq (sIf (vtN (tCmpB cIs (nVar 1) (nC (.bl false)))) (sRet (vN [0] (nOp (cB cIs) (nVar 0) (nC (.bl false))))) sNil) (sSeq (sIf (vtN (nBool (nIsiV "int" (nVar 1)))) (sRet (vN [0, 1] (nAndV (nIsiV "int" (nVar 0)) (nAndV (nNotV (nIsiV "bool" (nVar 0))) (nOp (cB eqD) (nVar 0) (nVar 1)))))) sNil) (sSeq (sIf (vtN (nBool (nIsiV "str" (nVar 1)))) (sRet (vN [0, 1] (nAndV (nIsiV "str" (nVar 0)) (nOp (cB eqD) (nVar 0) (nVar 1))))) sNil) (sSeq (sIf (vtN (nBool (nIsiV "dict" (nVar 1)))) (sSeq sNev (sSeq sNev (sRet (vN [] (nC (.bl true)))))) sNil) (sSeq (sIf (vtN (nOr (tCmpB cNe (nIsiV "tuple" (nVar 0)) (nIsiV "tuple" (nVar 1))) (tCmpB cNe (nIsiV "list" (nVar 0)) (nIsiV "list" (nVar 1))))) (sRet (vN [] (nC (.bl false)))) sNil) (sSeq (sIf (vtN (tCmpB cNe (nCa cLen (aCons (nVar 0) aNil)) (nCa cLen (aCons (nVar 1) aNil)))) (sRet (vN [] (nC (.bl false)))) sNil) (sSeq (sFor (iNI [1] (nRg1 (aCons (nCa cLen (aCons (nVar 1) aNil)) aNil))) (gNm 2) (sIf (vtN (nNot (nBool (nCl gn [] (aCons (nOp bIx (nVar 0) (nVar 2)) (aCons (nOp bIx (nVar 1) (nVar 2)) aNil)))))) (sRet (vN [] (nC (.bl false)))) sNil)) (sRet (vN [] (nC (.bl true)))))))))))))
def g_l_same : Nat → PF
  | 0 => fun _ => none
  | n + 1 => runF 2 4 [] (b_l_same (g_l_same n))
theorem sc_l_same : FnScope ["actual", "due", "k", "key"] ["actual", "due"] (defScope (topS 14)) := ⟨rfl, rfl, rfl, by decide +kernel, rfl, by decide +kernel, by decide +kernel⟩
theorem ln_l_same : ∀ n, lenOk 2 (g_l_same n)
  | 0 => fun _ _ h => nomatch h
  | _ + 1 => runF_len
theorem ok_l_same {f : Addr} {fd : FuncData} (F : Fun K "_law_same" "_law_same" (topS 14) f fd) (hm : mg "_law_same" = some (.ref f)) (hb : Binds K fd ["actual", "due"] []) (z_bool : mg "bool" = none) (z_dict : mg "dict" = none) (z_int : mg "int" = none) (z_isinstance : mg "isinstance" = none) (z_len : mg "len" = none) (z_list : mg "list" = none) (z_range : mg "range" = none) (z_str : mg "str" = none) (z_tuple : mg "tuple" = none) : ∀ n : Nat, FnOk P w K mg base CX0 (1 + n) f fd ["actual", "due"] (spV K 2 (g_l_same n))
  | 0 => fn_none F sc_l_same
  | n + 1 =>
    have ih : Fn P w K mg base (1 + n) "_law_same" 2 (g_l_same n) [] := fn_mk F (ok_l_same F hm hb z_bool z_dict z_int z_isinstance z_len z_list z_range z_str z_tuple n) hm hb
    fn_v (k := 1 + n) [] F sc_l_same rfl (by decide) (by decide) fun cdv A outer s H E hr =>
    (vss_cons (vs_if (vt_n (nt_cmp (vs := [1]) cd_is (ne_var 1) ne_non)) (vss_one (vs_ret (ve_ne (vs := [0]) (ne_cmp cd_is (ne_var 0) ne_non)))) vss_nil)
    (vss_cons (vs_if (vt_n (nt_cmp (vs := [1]) cd_is (ne_var 1) ne_bl)) (vss_one (vs_ret (ve_ne (vs := [0]) (ne_cmp cd_is (ne_var 0) ne_bl)))) vss_nil)
    (vss_cons (vs_if (vt_n (nt_cmp (vs := [1]) cd_is (ne_var 1) ne_bl)) (vss_one (vs_ret (ve_ne (vs := [0]) (ne_cmp cd_is (ne_var 0) ne_bl)))) vss_nil)
    (vss_cons (vs_if (vt_n (nt_val (vs := [1]) (ne_isiV (by rfl) z_isinstance (by rfl) z_int (by decide +kernel) (ne_var 1)))) (vss_one (vs_ret (ve_ne (vs := [0, 1]) (ne_and (ne_isiV (by rfl) z_isinstance (by rfl) z_int (by decide +kernel) (ne_var 0)) (ne_and (ne_not (ne_isiV (by rfl) z_isinstance (by rfl) z_bool (by decide +kernel) (ne_var 0))) (ne_one (ne_cmp (cd_eq hr.units) (ne_var 0) (ne_var 1)))))))) vss_nil)
    (vss_cons (vs_if (vt_n (nt_val (vs := [1]) (ne_isiV (by rfl) z_isinstance (by rfl) z_str (by decide +kernel) (ne_var 1)))) (vss_one (vs_ret (ve_ne (vs := [0, 1]) (ne_and (ne_isiV (by rfl) z_isinstance (by rfl) z_str (by decide +kernel) (ne_var 0)) (ne_one (ne_cmp (cd_eq hr.units) (ne_var 0) (ne_var 1))))))) vss_nil)
    (vss_cons (vs_if (vt_n (nt_val (vs := [1]) (ne_isiV (by rfl) z_isinstance (by rfl) z_dict (by decide +kernel) (ne_var 1)))) (vss_cons vs_nev
    (vss_cons vs_nev
    (vss_one (vs_ret (ve_ne (vs := []) ne_bl))))) vss_nil)
    (vss_cons (vs_if (vt_n (nw_or (nt_cmp (vs := [0, 1]) (cd_ne hr.units) (ne_isiV (by rfl) z_isinstance (by rfl) z_tuple (by decide +kernel) (ne_var 0)) (ne_isiV (by rfl) z_isinstance (by rfl) z_tuple (by decide +kernel) (ne_var 1))) (nw_or1 (nt_cmp (vs := [0, 1]) (cd_ne hr.units) (ne_isiV (by rfl) z_isinstance (by rfl) z_list (by decide +kernel) (ne_var 0)) (ne_isiV (by rfl) z_isinstance (by rfl) z_list (by decide +kernel) (ne_var 1))))).nt) (vss_one (vs_ret (ve_ne (vs := []) ne_bl))) vss_nil)
    (vss_cons (vs_if (vt_n (nt_cmp (vs := [0, 1]) (cd_ne hr.units) (ne_callB (ca_len) (by rfl) z_len (by decide +kernel) (na_cons (ne_var 0) na_nil)) (ne_callB (ca_len) (by rfl) z_len (by decide +kernel) (na_cons (ne_var 1) na_nil)))) (vss_one (vs_ret (ve_ne (vs := []) ne_bl))) vss_nil)
    (vss_cons (vs_for PassesOwn.never rfl (vi_n (vs := [1]) (ni_rng1 (by rfl) z_range (na_cons (ne_callB (ca_len) (by rfl) z_len (by decide +kernel) (na_cons (ne_var 1) na_nil)) na_nil))) (vg_name 2 sc_l_same.nd rfl (by first | exact .inl rfl | exact .inr rfl)) (vss_one (vs_if (vt_n (nt_not (nt_val (vs := [0, 1, 2]) (ne_cl ih (ln_l_same _) hr (Nat.le_refl _) (by rfl) noD (na_cons (ne_ix (units1 hr) (ne_var 0) (ne_var 2)) (na_cons (ne_ix (units1 hr) (ne_var 1) (ne_var 2)) na_nil)))))) (vss_one (vs_ret (ve_ne (vs := []) ne_bl))) vss_nil)))
    (vss_one (vs_ret (ve_ne (vs := []) ne_bl))))))))))))
/-! ### l_rest -/
def b_l_rest : Ev → Option Out :=
  (sSeq (sSet 3 (vN [] (nC (.int 0)))) (sSeq (sIf (vtN (tCmpB cGt (nCa cLen (aCons (nVar 0) aNil)) (nC (.int 0)))) (sSet 3 (vN [0, 1] (nCa cInt (aCons (nOp bIx (nVar 0) (nOp bMod (nCa cInt (aCons (nVar 1) aNil)) (nCa cLen (aCons (nVar 0) aNil)))) aNil)))) sNil) (sSeq (sIf (vtN (tCmpB cLt (nVar 3) (nC (.int 0)))) (sSet 3 (vN [3] (nOp bSub (nC (.int 1)) (nOp bMul (nC (.int 2)) (nVar 3))))) sNil) (sSeq (sIf (vtN (nAnd (tCmpB eqD (nVar 2) (nC (.int 0))) (nAnd (tCmpB cLt (nVar 1) (nCa cLen (aCons (nVar 0) aNil))) (tCmpB cGe (nVar 3) (nOp bPow (nC (.int 10)) (nC (.int 18))))))) (sRet (vN [3] (nOp bSub (nVar 3) (nOp bPow (nC (.int 10)) (nC (.int 18)))))) sNil) (sRet (vCl [1, 2, 3] g_l_mixed [] (aCons (nOp bAdd (nVar 3) (nOp bMul (nVar 2) (nC (.int 1000003)))) (aCons (nVar 1) aNil))))))))
def g_l_rest : PF := runF 3 4 [] b_l_rest
theorem sc_l_rest : FnScope ["script", "place", "fills", "number"] ["script", "place", "fills"] (defScope (topS 8)) := ⟨rfl, rfl, rfl, by decide +kernel, rfl, by decide +kernel, by decide +kernel⟩
theorem ok_l_rest {f : Addr} {fd : FuncData} (F : Fun K "_law_rest" "_law_rest" (topS 8) f fd) (z_int : mg "int" = none) (z_len : mg "len" = none) (c_l_mixed : Fn P w K mg base 1 "_law_mixed" 2 g_l_mixed []) : FnOk P w K mg base CX0 2 f fd ["script", "place", "fills"] (spV K 3 g_l_rest) :=
  fn_v [] F sc_l_rest rfl (by decide) (by decide) fun cdv A outer s H E hr =>
    (vss_cons (vs_set 3 sc_l_rest.nd rfl (by first | exact .inl rfl | exact .inr rfl) (ve_ne (vs := []) ne_int))
    (vss_cons (vs_if (vt_n (nt_cmp (vs := [0]) cd_gt (ne_callB (ca_len) (by rfl) z_len (by decide +kernel) (na_cons (ne_var 0) na_nil)) ne_int)) (vss_one (vs_set 3 sc_l_rest.nd rfl (by first | exact .inl rfl | exact .inr rfl) (ve_ne (vs := [0, 1]) (ne_callTy ca_int (by rfl) z_int (by decide +kernel) (na_cons (ne_ix (units1 hr) (ne_var 0) (ne_op od_mod (ne_callTy ca_int (by rfl) z_int (by decide +kernel) (na_cons (ne_var 1) na_nil)) (ne_callB (ca_len) (by rfl) z_len (by decide +kernel) (na_cons (ne_var 0) na_nil)))) na_nil))))) vss_nil)
    (vss_cons (vs_if (vt_n (nt_cmp (vs := [3]) cd_lt (ne_var 3) ne_int)) (vss_one (vs_set 3 sc_l_rest.nd rfl (by first | exact .inl rfl | exact .inr rfl) (ve_ne (vs := [3]) (ne_op od_sub ne_int (ne_op od_mul ne_int (ne_var 3)))))) vss_nil)
    (vss_cons (vs_if (vt_n (nw_and (nt_cmp (vs := [2]) (cd_eq hr.units) (ne_var 2) ne_int) (nw_and (nt_cmp (vs := [0, 1]) cd_lt (ne_var 1) (ne_callB (ca_len) (by rfl) z_len (by decide +kernel) (na_cons (ne_var 0) na_nil))) (nw_and1 (nt_cmp (vs := [3]) cd_ge (ne_var 3) (ne_op od_pow ne_int ne_int))))).nt) (vss_one (vs_ret (ve_ne (vs := [3]) (ne_op od_sub (ne_var 3) (ne_op od_pow ne_int ne_int))))) vss_nil)
    (vss_one (vs_ret (ve_cl (vs := [1, 2, 3]) c_l_mixed runF_len hr (by decide) (by rfl) noD (na_cons (ne_op od_add (ne_var 3) (ne_op od_mul (ne_var 2) ne_int)) (na_cons (ne_var 1) na_nil)))))))))
/-! ### p_reduced -/
def b_p_reduced : Ev → Option Out :=
  (sSeq (sSet 2 (vN [0] (nTup (aCons (nVar 0) (aCons (nC (.int 0)) aNil))))) (sSeq (sSet 3 (vN [1] (nTup (aCons (nVar 1) (aCons (nC (.int 1)) aNil))))) (sWh (vtN (nBool (nC (.bl true)))) (sSeq (sIf (vtN (tCmpB cLt (nCl g_p_distance [] (aCons (nVar 3) aNil)) (nCl g_p_distance [] (aCons (nVar 2) aNil)))) (sPar [2, 3] 2 3 (aCons (nVar 3) (aCons (nVar 2) aNil))) sNil) (sSeq (sSet 4 (vCl [2, 3] g_p_nearest [] (aCons (nCl g_p_inner [] (aCons (nVar 2) (aCons (nVar 3) aNil))) (aCons (nCl g_p_distance [] (aCons (nVar 2) aNil)) aNil)))) (sSeq (sIf (vtN (tCmpB eqD (nVar 4) (nC (.int 0)))) (sRet (vN [2, 3] (nTup (aCons (nVar 2) (aCons (nVar 3) aNil))))) sNil) (sSet 3 (vN [2, 3, 4] (nTup (aCons (nOp bSub (nOp bIx (nVar 3) (nC (.int 0))) (nOp bMul (nVar 4) (nOp bIx (nVar 2) (nC (.int 0))))) (aCons (nOp bSub (nOp bIx (nVar 3) (nC (.int 1))) (nOp bMul (nVar 4) (nOp bIx (nVar 2) (nC (.int 1))))) aNil)))))))) (redFuel))))
def g_p_reduced : PF := runF 2 5 [] b_p_reduced
theorem sc_p_reduced : FnScope ["n", "step", "one", "other", "factor"] ["n", "step"] (defScope (topS 4)) := ⟨rfl, rfl, rfl, by decide +kernel, rfl, by decide +kernel, by decide +kernel⟩
theorem ok_p_reduced {f : Addr} {fd : FuncData} (F : Fun K "reduced" "reduced" (topS 4) f fd)  (c_p_distance : Fn P w K mg base 1 "distance" 1 g_p_distance []) (c_p_inner : Fn P w K mg base 1 "inner" 2 g_p_inner []) (c_p_nearest : Fn P w K mg base 1 "nearest" 2 g_p_nearest []) : FnOk P w K mg base CX0 2 f fd ["n", "step"] (spV K 2 g_p_reduced) :=
  fn_v [] F sc_p_reduced rfl (by decide) (by decide) fun cdv A outer s H E hr =>
    (vss_cons (vs_set 2 sc_p_reduced.nd rfl (by first | exact .inl rfl | exact .inr rfl) (ve_ne (vs := [0]) (ne_tupl (na_cons (ne_var 0) (na_cons ne_int na_nil)))))
    (vss_cons (vs_set 3 sc_p_reduced.nd rfl (by first | exact .inl rfl | exact .inr rfl) (ve_ne (vs := [1]) (ne_tupl (na_cons (ne_var 1) (na_cons ne_int na_nil)))))
    (vss_one (vs_wh (redFuel) PassesOwn.never (vt_n (nt_val (vs := []) ne_bl)) (vss_cons (vs_if (vt_n (nt_cmp (vs := [2, 3]) cd_lt (ne_cl c_p_distance runF_len hr (by decide) (by rfl) noD (na_cons (ne_var 3) na_nil)) (ne_cl c_p_distance runF_len hr (by decide) (by rfl) noD (na_cons (ne_var 2) na_nil)))) (vss_one (vs_par (vs := [2, 3]) 2 3 rfl sc_p_reduced.nd rfl rfl rfl rfl (na_cons (ne_var 3) (na_cons (ne_var 2) na_nil)))) vss_nil)
    (vss_cons (vs_set 4 sc_p_reduced.nd rfl (by first | exact .inl rfl | exact .inr rfl) (ve_cl (vs := [2, 3]) c_p_nearest runF_len hr (by decide) (by rfl) noD (na_cons (ne_cl c_p_inner runF_len hr (by decide) (by rfl) noD (na_cons (ne_var 2) (na_cons (ne_var 3) na_nil))) (na_cons (ne_cl c_p_distance runF_len hr (by decide) (by rfl) noD (na_cons (ne_var 2) na_nil)) na_nil))))
    (vss_cons (vs_if (vt_n (nt_cmp (vs := [4]) (cd_eq hr.units) (ne_var 4) ne_int)) (vss_one (vs_ret (ve_ne (vs := [2, 3]) (ne_tupl (na_cons (ne_var 2) (na_cons (ne_var 3) na_nil)))))) vss_nil)
    (vss_one (vs_set 3 sc_p_reduced.nd rfl (by first | exact .inl rfl | exact .inr rfl) (ve_ne (vs := [2, 3, 4]) (ne_tupl (na_cons (ne_op od_sub (ne_ix (units1 hr) (ne_var 3) ne_int) (ne_op od_mul (ne_var 4) (ne_ix (units1 hr) (ne_var 2) ne_int))) (na_cons (ne_op od_sub (ne_ix (units1 hr) (ne_var 3) ne_int) (ne_op od_mul (ne_var 4) (ne_ix (units1 hr) (ne_var 2) ne_int))) na_nil)))))))))))))
/-! ### l_pool -/
def b_l_pool : Ev → Option Out :=
  (sRet (vF [0] (fLst (aCons (nVar 0) (aCons (nC (.int 0)) (aCons (nCl g_l_rest [] (aCons (nVar 0) (aCons (nC (.int 0)) (aCons (nC (.int 0)) aNil)))) (aCons (nC (.int 0)) aNil)))))))
def g_l_pool : PF := runF 1 1 [] b_l_pool
theorem sc_l_pool : FnScope ["script"] ["script"] (defScope (topS 9)) := ⟨rfl, rfl, rfl, by decide +kernel, rfl, by decide +kernel, by decide +kernel⟩
theorem ok_l_pool {f : Addr} {fd : FuncData} (F : Fun K "_law_pool" "_law_pool" (topS 9) f fd)  (c_l_rest : Fn P w K mg base 2 "_law_rest" 3 g_l_rest []) : FnOk P w K mg base CX0 3 f fd ["script"] (spV K 1 g_l_pool) :=
  fn_v [] F sc_l_pool rfl (by decide) (by decide) fun cdv A outer s H E hr =>
    (vss_one (vs_ret (ve_nf (vs := [0]) (nf_lstl (na_cons (ne_var 0) (na_cons ne_int (na_cons (ne_cl c_l_rest runF_len hr (by decide) (by rfl) noD (na_cons (ne_var 0) (na_cons ne_int (na_cons ne_int na_nil)))) (na_cons ne_int na_nil))))))))
/-! ### l_next -/
def b_l_next : Ev → Option Out :=
  (sSeq (sSetIx 0 (nC (.int 1)) (vN [0] (nOp bAdd (nOp bIx (nVar 0) (nC (.int 1))) (nC (.int 1))))) (sSeq (sSetIx 0 (nC (.int 2)) (vCl [0] g_l_rest [] (aCons (nOp bIx (nVar 0) (nC (.int 0))) (aCons (nOp bIx (nVar 0) (nC (.int 1))) (aCons (nC (.int 0)) aNil))))) (sSetIx 0 (nC (.int 3)) (vN [] (nC (.int 0))))))
def g_l_next : PF := runF 1 1 [0] b_l_next
theorem sc_l_next : FnScope ["pool"] ["pool"] (defScope (topS 10)) := ⟨rfl, rfl, rfl, by decide +kernel, rfl, by decide +kernel, by decide +kernel⟩
theorem ok_l_next {f : Addr} {fd : FuncData} (F : Fun K "_law_next" "_law_next" (topS 10) f fd)  (c_l_rest : Fn P w K mg base 2 "_law_rest" 3 g_l_rest []) : FnOk P w K mg base CX0 3 f fd ["pool"] (spV K 1 g_l_next) :=
  fn_v [0] F sc_l_next rfl (by decide) (by decide) fun cdv A outer s H E hr =>
    (vss_cons (vs_setIx (vs := []) 0 (ve_ne (vs := [0]) (ne_op od_add (ne_ix (units1 hr) (ne_var 0) ne_int) ne_int)) ne_int)
    (vss_cons (vs_setIx (vs := []) 0 (ve_cl (vs := [0]) c_l_rest runF_len hr (by decide) (by rfl) noD (na_cons (ne_ix (units1 hr) (ne_var 0) ne_int) (na_cons (ne_ix (units1 hr) (ne_var 0) ne_int) (na_cons ne_int na_nil)))) ne_int)
    (vss_one (vs_setIx (vs := []) 0 (ve_ne (vs := []) ne_int) ne_int))))
/-! ### l_draw -/
def b_l_draw : Ev → Option Out :=
  (sSeq (sIf (vtN (tCmpB cLe (nOp bIx (nVar 0) (nC (.int 2))) (nC (.int 1)))) (sSeq (sSetIx 0 (nC (.int 3)) (vN [0] (nOp bAdd (nOp bIx (nVar 0) (nC (.int 3))) (nC (.int 1))))) (sSetIx 0 (nC (.int 2)) (vCl [0] g_l_rest [] (aCons (nOp bIx (nVar 0) (nC (.int 0))) (aCons (nOp bIx (nVar 0) (nC (.int 1))) (aCons (nOp bIx (nVar 0) (nC (.int 3))) aNil)))))) sNil) (sSeq (sSet 2 (vN [0, 1] (nOp bMod (nCa cInt (aCons (nOp bIx (nVar 0) (nC (.int 2))) aNil)) (nVar 1)))) (sSeq (sSetIx 0 (nC (.int 2)) (vN [0, 1] (nOp bFdiv (nCa cInt (aCons (nOp bIx (nVar 0) (nC (.int 2))) aNil)) (nVar 1)))) (sRet (vN [2] (nVar 2))))))
def g_l_draw : PF := runF 2 3 [0] b_l_draw
theorem sc_l_draw : FnScope ["pool", "limit", "value"] ["pool", "limit"] (defScope (topS 11)) := ⟨rfl, rfl, rfl, by decide +kernel, rfl, by decide +kernel, by decide +kernel⟩
theorem ok_l_draw {f : Addr} {fd : FuncData} (F : Fun K "_law_draw" "_law_draw" (topS 11) f fd) (z_int : mg "int" = none) (c_l_rest : Fn P w K mg base 2 "_law_rest" 3 g_l_rest []) : FnOk P w K mg base CX0 3 f fd ["pool", "limit"] (spV K 2 g_l_draw) :=
  fn_v [0] F sc_l_draw rfl (by decide) (by decide) fun cdv A outer s H E hr =>
    (vss_cons (vs_if (vt_n (nt_cmp (vs := [0]) cd_le (ne_ix (units1 hr) (ne_var 0) ne_int) ne_int)) (vss_cons (vs_setIx (vs := []) 0 (ve_ne (vs := [0]) (ne_op od_add (ne_ix (units1 hr) (ne_var 0) ne_int) ne_int)) ne_int)
    (vss_one (vs_setIx (vs := []) 0 (ve_cl (vs := [0]) c_l_rest runF_len hr (by decide) (by rfl) noD (na_cons (ne_ix (units1 hr) (ne_var 0) ne_int) (na_cons (ne_ix (units1 hr) (ne_var 0) ne_int) (na_cons (ne_ix (units1 hr) (ne_var 0) ne_int) na_nil)))) ne_int))) vss_nil)
    (vss_cons (vs_set 2 sc_l_draw.nd rfl (by first | exact .inl rfl | exact .inr rfl) (ve_ne (vs := [0, 1]) (ne_op od_mod (ne_callTy ca_int (by rfl) z_int (by decide +kernel) (na_cons (ne_ix (units1 hr) (ne_var 0) ne_int) na_nil)) (ne_var 1))))
    (vss_cons (vs_setIx (vs := []) 0 (ve_ne (vs := [0, 1]) (ne_op od_fdiv (ne_callTy ca_int (by rfl) z_int (by decide +kernel) (na_cons (ne_ix (units1 hr) (ne_var 0) ne_int) na_nil)) (ne_var 1))) ne_int)
    (vss_one (vs_ret (ve_ne (vs := [2]) (ne_var 2)))))))
/-! ### p_least_distance -/
def b_p_least_distance : Ev → Option Out :=
  (sRet (vCl [0, 1] g_p_distance [] (aCons (nOp bIx (nCl g_p_reduced [] (aCons (nVar 0) (aCons (nVar 1) aNil))) (nC (.int 0))) aNil)))
def g_p_least_distance : PF := runF 2 2 [] b_p_least_distance
theorem sc_p_least_distance : FnScope ["n", "step"] ["n", "step"] (defScope (topS 5)) := ⟨rfl, rfl, rfl, by decide +kernel, rfl, by decide +kernel, by decide +kernel⟩
theorem ok_p_least_distance {f : Addr} {fd : FuncData} (F : Fun K "least_distance" "least_distance" (topS 5) f fd)  (c_p_distance : Fn P w K mg base 1 "distance" 1 g_p_distance []) (c_p_reduced : Fn P w K mg base 2 "reduced" 2 g_p_reduced []) : FnOk P w K mg base CX0 3 f fd ["n", "step"] (spV K 2 g_p_least_distance) :=
  fn_v [] F sc_p_least_distance rfl (by decide) (by decide) fun cdv A outer s H E hr =>
    (vss_one (vs_ret (ve_cl (vs := [0, 1]) c_p_distance runF_len hr (by decide) (by rfl) noD (na_cons (ne_ix (units1 hr) (ne_cl c_p_reduced runF_len hr (by decide) (by rfl) noD (na_cons (ne_var 0) (na_cons (ne_var 1) na_nil))) ne_int) na_nil))))
/-! ### l_pick -/
def b_l_pick : Ev → Option Out :=
  (sRet (vIx (vN [1] (nVar 1)) (vCall g_l_draw [] (caIo 0 (caVe (vN [1] (nCa cLen (aCons (nVar 1) aNil))) caNil)))))
def g_l_pick : PF := runF 2 2 [0] b_l_pick
theorem sc_l_pick : FnScope ["pool", "options"] ["pool", "options"] (defScope (topS 12)) := ⟨rfl, rfl, rfl, by decide +kernel, rfl, by decide +kernel, by decide +kernel⟩
theorem ok_l_pick {f : Addr} {fd : FuncData} (F : Fun K "_law_pick" "_law_pick" (topS 12) f fd) (z_len : mg "len" = none) (c_l_draw : Fn P w K mg base 3 "_law_draw" 2 g_l_draw []) : FnOk P w K mg base CX0 4 f fd ["pool", "options"] (spV K 2 g_l_pick) :=
  fn_v [0] F sc_l_pick rfl (by decide) (by decide) fun cdv A outer s H E hr =>
    (vss_one (vs_ret (ve_ix (ve_ne (vs := [1]) (ne_var 1)) (ve_call c_l_draw runF_len hr (by decide) (by rfl) noD (ca_io 0 (ca_ve (ve_ne (vs := [1]) (ne_callB (ca_len) (by rfl) z_len (by decide +kernel) (na_cons (ne_var 1) na_nil))) ca_nil))))))
/-! ### law -/
def b_law : Ev → Option Out :=
  (sSeq (sSet 1 (vCl [0] g_l_pool [] (aCons (nVar 0) aNil))) (sSeq (sFor (iNI [] (nRg1 (aCons (nC (.int 3)) aNil))) (gNm 2) (sSeq (sExpr (vCall g_l_next [] (caIo 1 caNil))) (sSeq (sSet 3 (vOp bAdd (vN [] (nC (.int 2))) (vCall g_l_draw [] (caIo 1 (caVe (vCall g_l_pick [] (caIo 1 (caVe (vF [] (fLst (aCons (nC (.int 5)) (aCons (nC (.int 23)) (aCons (nC (.int 59)) aNil))))) caNil))) caNil))))) (sSeq (sSet 4 (vCall g_l_draw [] (caIo 1 (caVe (vN [3] (nVar 3)) caNil)))) (sSeq (sAsg (gTupl 2 (gsCons (gNm 6) (gsCons (gNm 7) gsNil))) (vCl [3, 4] g_p_reduced [] (aCons (nVar 3) (aCons (nVar 4) aNil)))) (sSeq (sSet 5 (vCl [3, 4] g_l_least [] (aCons (nVar 3) (aCons (nVar 4) aNil)))) (sSeq (sIf (vtN (nOr (nNot (nBool (nCl (g_l_same 5) [] (aCons (nCl g_p_least_distance [] (aCons (nVar 3) (aCons (nVar 4) aNil))) (aCons (nVar 5) aNil))))) (tCmpB cNe (nCl g_l_length [] (aCons (nVar 6) aNil)) (nVar 5)))) (sRet (vN [] (nC (.bl false)))) sNil) (sSeq (sIf (vtN (tCmpB cNe (nCl g_l_length [] (aCons (nVar 7) aNil)) (nCl g_l_second [] (aCons (nVar 3) (aCons (nVar 4) (aCons (nVar 6) aNil)))))) (sRet (vN [] (nC (.bl false)))) sNil) (sIf (vtN (nNot (nBool (nCl (g_l_same 5) [] (aCons (nCl g_p_least_distance [] (aCons (nVar 3) (aCons (nOp bMod (nCa cInt (aCons (nUn uNeg (nVar 4)) aNil)) (nVar 3)) aNil))) (aCons (nVar 5) aNil)))))) (sRet (vN [] (nC (.bl false)))) sNil))))))))) (sRet (vN [] (nC (.bl true))))))
def g_law : PF := runF 1 8 [] b_law
theorem sc_law : FnScope ["script", "pool", "turn", "n", "step", "due", "one", "other"] ["script"] (defScope (topS 17)) := ⟨rfl, rfl, rfl, by decide +kernel, rfl, by decide +kernel, by decide +kernel⟩
theorem ok_law {f : Addr} {fd : FuncData} (F : Fun K "law" "law" (topS 17) f fd) (z_int : mg "int" = none) (z_range : mg "range" = none) (c_l_draw : Fn P w K mg base 3 "_law_draw" 2 g_l_draw []) (c_l_least : Fn P w K mg base 1 "_law_least" 2 g_l_least []) (c_l_length : Fn P w K mg base 1 "_law_length" 1 g_l_length []) (c_l_next : Fn P w K mg base 3 "_law_next" 1 g_l_next []) (c_l_pick : Fn P w K mg base 4 "_law_pick" 2 g_l_pick []) (c_l_pool : Fn P w K mg base 3 "_law_pool" 1 g_l_pool []) (c_l_same : Fn P w K mg base 6 "_law_same" 2 (g_l_same 5) []) (c_l_second : Fn P w K mg base 1 "_law_second" 3 g_l_second []) (c_p_least_distance : Fn P w K mg base 3 "least_distance" 2 g_p_least_distance []) (c_p_reduced : Fn P w K mg base 2 "reduced" 2 g_p_reduced []) : FnOk P w K mg base CX0 7 f fd ["script"] (spV K 1 g_law) :=
  fn_v [] F sc_law rfl (by decide) (by decide) fun cdv A outer s H E hr =>
    (vss_cons (vs_set 1 sc_law.nd rfl (by first | exact .inl rfl | exact .inr rfl) (ve_cl (vs := [0]) c_l_pool runF_len hr (by decide) (by rfl) noD (na_cons (ne_var 0) na_nil)))
    (vss_cons (vs_for PassesOwn.never rfl (vi_n (vs := []) (ni_rng1 (by rfl) z_range (na_cons ne_int na_nil))) (vg_name 2 sc_law.nd rfl (by first | exact .inl rfl | exact .inr rfl)) (vss_cons (vs_expr (ve_call c_l_next runF_len hr (by decide) (by rfl) noD (ca_io 1 ca_nil)))
    (vss_cons (vs_set 3 sc_law.nd rfl (by first | exact .inl rfl | exact .inr rfl) (ve_op od_add (ve_ne (vs := []) ne_int) (ve_call c_l_draw runF_len hr (by decide) (by rfl) noD (ca_io 1 (ca_ve (ve_call c_l_pick runF_len hr (by decide) (by rfl) noD (ca_io 1 (ca_ve (ve_nf (vs := []) (nf_lstl (na_cons ne_int (na_cons ne_int (na_cons ne_int na_nil))))) ca_nil))) ca_nil)))))
    (vss_cons (vs_set 4 sc_law.nd rfl (by first | exact .inl rfl | exact .inr rfl) (ve_call c_l_draw runF_len hr (by decide) (by rfl) noD (ca_io 1 (ca_ve (ve_ne (vs := [3]) (ne_var 3)) ca_nil))))
    (vss_cons (vs_asg (ve_cl (vs := [3, 4]) c_p_reduced runF_len hr (by decide) (by rfl) noD (na_cons (ne_var 3) (na_cons (ne_var 4) na_nil))) (vg_tup rfl (vgs_cons (vg_name 6 sc_law.nd rfl (by first | exact .inl rfl | exact .inr rfl)) (vgs_cons (vg_name 7 sc_law.nd rfl (by first | exact .inl rfl | exact .inr rfl)) vgs_nil))))
    (vss_cons (vs_set 5 sc_law.nd rfl (by first | exact .inl rfl | exact .inr rfl) (ve_cl (vs := [3, 4]) c_l_least runF_len hr (by decide) (by rfl) noD (na_cons (ne_var 3) (na_cons (ne_var 4) na_nil))))
    (vss_cons (vs_if (vt_n (nw_or (nt_not (nt_val (vs := [3, 4, 5]) (ne_cl c_l_same (ln_l_same _) hr (by decide) (by rfl) noD (na_cons (ne_cl c_p_least_distance runF_len hr (by decide) (by rfl) noD (na_cons (ne_var 3) (na_cons (ne_var 4) na_nil))) (na_cons (ne_var 5) na_nil))))) (nw_or1 (nt_cmp (vs := [5, 6]) (cd_ne hr.units) (ne_cl c_l_length runF_len hr (by decide) (by rfl) noD (na_cons (ne_var 6) na_nil)) (ne_var 5)))).nt) (vss_one (vs_ret (ve_ne (vs := []) ne_bl))) vss_nil)
    (vss_cons (vs_if (vt_n (nt_cmp (vs := [3, 4, 6, 7]) (cd_ne hr.units) (ne_cl c_l_length runF_len hr (by decide) (by rfl) noD (na_cons (ne_var 7) na_nil)) (ne_cl c_l_second runF_len hr (by decide) (by rfl) noD (na_cons (ne_var 3) (na_cons (ne_var 4) (na_cons (ne_var 6) na_nil)))))) (vss_one (vs_ret (ve_ne (vs := []) ne_bl))) vss_nil)
    (vss_one (vs_if (vt_n (nt_not (nt_val (vs := [3, 4, 5]) (ne_cl c_l_same (ln_l_same _) hr (by decide) (by rfl) noD (na_cons (ne_cl c_p_least_distance runF_len hr (by decide) (by rfl) noD (na_cons (ne_var 3) (na_cons (ne_op od_mod (ne_callTy ca_int (by rfl) z_int (by decide +kernel) (na_cons (ne_un ud_neg (ne_var 4)) na_nil)) (ne_var 3)) na_nil))) (na_cons (ne_var 5) na_nil)))))) (vss_one (vs_ret (ve_ne (vs := []) ne_bl))) vss_nil))))))))))
    (vss_one (vs_ret (ve_ne (vs := []) ne_bl)))))
end
set_option maxHeartbeats 4000000 in
theorem all_mk {l : PySem.W.OpenLaw} {w : World} {K : PySem.W.Frag} {h : Heap} {mg : Str → Option Value} {fa : Addr} (X : K.In h) (G : h.Ns mainGlobals mg) (hfa : mg "law" = some (.ref fa))
    {od_l_mixed an_l_mixed : Option Addr} {sl_l_mixed : Array (Option Value)} {oc_l_mixed kV_l_mixed dc_l_mixed pm_l_mixed cd_l_mixed ct_l_mixed : Value} {f_l_mixed : Addr}
    (a_l_mixed : PySem.W.nsIn K mainGlobals "_law_mixed" = some (some (.ref f_l_mixed))) (l_l_mixed : K.lookup f_l_mixed = some ⟨oc_l_mixed, od_l_mixed, .func (PySem.W.fnOf "_law_mixed" "_law_mixed" (defArgs (topS 7)) (defBody (topS 7)) (defScope (topS 7)) .none kV_l_mixed dc_l_mixed pm_l_mixed an_l_mixed cd_l_mixed ct_l_mixed), sl_l_mixed⟩) (d_l_mixed : PySem.W.codeIn K cd_l_mixed "_law_mixed" = true) (k_l_mixed : PySem.W.keepIn K (.ref f_l_mixed) = true)
    {od_p_nearest an_p_nearest : Option Addr} {sl_p_nearest : Array (Option Value)} {oc_p_nearest kV_p_nearest dc_p_nearest pm_p_nearest cd_p_nearest ct_p_nearest : Value} {f_p_nearest : Addr}
    (a_p_nearest : PySem.W.nsIn K mainGlobals "nearest" = some (some (.ref f_p_nearest))) (l_p_nearest : K.lookup f_p_nearest = some ⟨oc_p_nearest, od_p_nearest, .func (PySem.W.fnOf "nearest" "nearest" (defArgs (topS 3)) (defBody (topS 3)) (defScope (topS 3)) .none kV_p_nearest dc_p_nearest pm_p_nearest an_p_nearest cd_p_nearest ct_p_nearest), sl_p_nearest⟩) (d_p_nearest : PySem.W.codeIn K cd_p_nearest "nearest" = true) (k_p_nearest : PySem.W.keepIn K (.ref f_p_nearest) = true)
    {od_p_distance an_p_distance : Option Addr} {sl_p_distance : Array (Option Value)} {oc_p_distance kV_p_distance dc_p_distance pm_p_distance cd_p_distance ct_p_distance : Value} {f_p_distance : Addr}
    (a_p_distance : PySem.W.nsIn K mainGlobals "distance" = some (some (.ref f_p_distance))) (l_p_distance : K.lookup f_p_distance = some ⟨oc_p_distance, od_p_distance, .func (PySem.W.fnOf "distance" "distance" (defArgs (topS 1)) (defBody (topS 1)) (defScope (topS 1)) .none kV_p_distance dc_p_distance pm_p_distance an_p_distance cd_p_distance ct_p_distance), sl_p_distance⟩) (d_p_distance : PySem.W.codeIn K cd_p_distance "distance" = true) (k_p_distance : PySem.W.keepIn K (.ref f_p_distance) = true)
    {od_p_inner an_p_inner : Option Addr} {sl_p_inner : Array (Option Value)} {oc_p_inner kV_p_inner dc_p_inner pm_p_inner cd_p_inner ct_p_inner : Value} {f_p_inner : Addr}
    (a_p_inner : PySem.W.nsIn K mainGlobals "inner" = some (some (.ref f_p_inner))) (l_p_inner : K.lookup f_p_inner = some ⟨oc_p_inner, od_p_inner, .func (PySem.W.fnOf "inner" "inner" (defArgs (topS 2)) (defBody (topS 2)) (defScope (topS 2)) .none kV_p_inner dc_p_inner pm_p_inner an_p_inner cd_p_inner ct_p_inner), sl_p_inner⟩) (d_p_inner : PySem.W.codeIn K cd_p_inner "inner" = true) (k_p_inner : PySem.W.keepIn K (.ref f_p_inner) = true)
    {od_l_least an_l_least : Option Addr} {sl_l_least : Array (Option Value)} {oc_l_least kV_l_least dc_l_least pm_l_least cd_l_least ct_l_least : Value} {f_l_least : Addr}
    (a_l_least : PySem.W.nsIn K mainGlobals "_law_least" = some (some (.ref f_l_least))) (l_l_least : K.lookup f_l_least = some ⟨oc_l_least, od_l_least, .func (PySem.W.fnOf "_law_least" "_law_least" (defArgs (topS 13)) (defBody (topS 13)) (defScope (topS 13)) .none kV_l_least dc_l_least pm_l_least an_l_least cd_l_least ct_l_least), sl_l_least⟩) (d_l_least : PySem.W.codeIn K cd_l_least "_law_least" = true) (k_l_least : PySem.W.keepIn K (.ref f_l_least) = true)
    {od_l_length an_l_length : Option Addr} {sl_l_length : Array (Option Value)} {oc_l_length kV_l_length dc_l_length pm_l_length cd_l_length ct_l_length : Value} {f_l_length : Addr}
    (a_l_length : PySem.W.nsIn K mainGlobals "_law_length" = some (some (.ref f_l_length))) (l_l_length : K.lookup f_l_length = some ⟨oc_l_length, od_l_length, .func (PySem.W.fnOf "_law_length" "_law_length" (defArgs (topS 15)) (defBody (topS 15)) (defScope (topS 15)) .none kV_l_length dc_l_length pm_l_length an_l_length cd_l_length ct_l_length), sl_l_length⟩) (d_l_length : PySem.W.codeIn K cd_l_length "_law_length" = true) (k_l_length : PySem.W.keepIn K (.ref f_l_length) = true)
    {od_l_second an_l_second : Option Addr} {sl_l_second : Array (Option Value)} {oc_l_second kV_l_second dc_l_second pm_l_second cd_l_second ct_l_second : Value} {f_l_second : Addr}
    (a_l_second : PySem.W.nsIn K mainGlobals "_law_second" = some (some (.ref f_l_second))) (l_l_second : K.lookup f_l_second = some ⟨oc_l_second, od_l_second, .func (PySem.W.fnOf "_law_second" "_law_second" (defArgs (topS 16)) (defBody (topS 16)) (defScope (topS 16)) .none kV_l_second dc_l_second pm_l_second an_l_second cd_l_second ct_l_second), sl_l_second⟩) (d_l_second : PySem.W.codeIn K cd_l_second "_law_second" = true) (k_l_second : PySem.W.keepIn K (.ref f_l_second) = true)
    {od_l_same an_l_same : Option Addr} {sl_l_same : Array (Option Value)} {oc_l_same kV_l_same dc_l_same pm_l_same cd_l_same ct_l_same : Value} {f_l_same : Addr}
    (a_l_same : PySem.W.nsIn K mainGlobals "_law_same" = some (some (.ref f_l_same))) (l_l_same : K.lookup f_l_same = some ⟨oc_l_same, od_l_same, .func (PySem.W.fnOf "_law_same" "_law_same" (defArgs (topS 14)) (defBody (topS 14)) (defScope (topS 14)) .none kV_l_same dc_l_same pm_l_same an_l_same cd_l_same ct_l_same), sl_l_same⟩) (d_l_same : PySem.W.codeIn K cd_l_same "_law_same" = true) (k_l_same : PySem.W.keepIn K (.ref f_l_same) = true)
    {od_l_rest an_l_rest : Option Addr} {sl_l_rest : Array (Option Value)} {oc_l_rest kV_l_rest dc_l_rest pm_l_rest cd_l_rest ct_l_rest : Value} {f_l_rest : Addr}
    (a_l_rest : PySem.W.nsIn K mainGlobals "_law_rest" = some (some (.ref f_l_rest))) (l_l_rest : K.lookup f_l_rest = some ⟨oc_l_rest, od_l_rest, .func (PySem.W.fnOf "_law_rest" "_law_rest" (defArgs (topS 8)) (defBody (topS 8)) (defScope (topS 8)) .none kV_l_rest dc_l_rest pm_l_rest an_l_rest cd_l_rest ct_l_rest), sl_l_rest⟩) (d_l_rest : PySem.W.codeIn K cd_l_rest "_law_rest" = true) (k_l_rest : PySem.W.keepIn K (.ref f_l_rest) = true)
    {od_p_reduced an_p_reduced : Option Addr} {sl_p_reduced : Array (Option Value)} {oc_p_reduced kV_p_reduced dc_p_reduced pm_p_reduced cd_p_reduced ct_p_reduced : Value} {f_p_reduced : Addr}
    (a_p_reduced : PySem.W.nsIn K mainGlobals "reduced" = some (some (.ref f_p_reduced))) (l_p_reduced : K.lookup f_p_reduced = some ⟨oc_p_reduced, od_p_reduced, .func (PySem.W.fnOf "reduced" "reduced" (defArgs (topS 4)) (defBody (topS 4)) (defScope (topS 4)) .none kV_p_reduced dc_p_reduced pm_p_reduced an_p_reduced cd_p_reduced ct_p_reduced), sl_p_reduced⟩) (d_p_reduced : PySem.W.codeIn K cd_p_reduced "reduced" = true) (k_p_reduced : PySem.W.keepIn K (.ref f_p_reduced) = true)
    {od_l_pool an_l_pool : Option Addr} {sl_l_pool : Array (Option Value)} {oc_l_pool kV_l_pool dc_l_pool pm_l_pool cd_l_pool ct_l_pool : Value} {f_l_pool : Addr}
    (a_l_pool : PySem.W.nsIn K mainGlobals "_law_pool" = some (some (.ref f_l_pool))) (l_l_pool : K.lookup f_l_pool = some ⟨oc_l_pool, od_l_pool, .func (PySem.W.fnOf "_law_pool" "_law_pool" (defArgs (topS 9)) (defBody (topS 9)) (defScope (topS 9)) .none kV_l_pool dc_l_pool pm_l_pool an_l_pool cd_l_pool ct_l_pool), sl_l_pool⟩) (d_l_pool : PySem.W.codeIn K cd_l_pool "_law_pool" = true) (k_l_pool : PySem.W.keepIn K (.ref f_l_pool) = true)
    {od_l_next an_l_next : Option Addr} {sl_l_next : Array (Option Value)} {oc_l_next kV_l_next dc_l_next pm_l_next cd_l_next ct_l_next : Value} {f_l_next : Addr}
    (a_l_next : PySem.W.nsIn K mainGlobals "_law_next" = some (some (.ref f_l_next))) (l_l_next : K.lookup f_l_next = some ⟨oc_l_next, od_l_next, .func (PySem.W.fnOf "_law_next" "_law_next" (defArgs (topS 10)) (defBody (topS 10)) (defScope (topS 10)) .none kV_l_next dc_l_next pm_l_next an_l_next cd_l_next ct_l_next), sl_l_next⟩) (d_l_next : PySem.W.codeIn K cd_l_next "_law_next" = true) (k_l_next : PySem.W.keepIn K (.ref f_l_next) = true)
    {od_l_draw an_l_draw : Option Addr} {sl_l_draw : Array (Option Value)} {oc_l_draw kV_l_draw dc_l_draw pm_l_draw cd_l_draw ct_l_draw : Value} {f_l_draw : Addr}
    (a_l_draw : PySem.W.nsIn K mainGlobals "_law_draw" = some (some (.ref f_l_draw))) (l_l_draw : K.lookup f_l_draw = some ⟨oc_l_draw, od_l_draw, .func (PySem.W.fnOf "_law_draw" "_law_draw" (defArgs (topS 11)) (defBody (topS 11)) (defScope (topS 11)) .none kV_l_draw dc_l_draw pm_l_draw an_l_draw cd_l_draw ct_l_draw), sl_l_draw⟩) (d_l_draw : PySem.W.codeIn K cd_l_draw "_law_draw" = true) (k_l_draw : PySem.W.keepIn K (.ref f_l_draw) = true)
    {od_p_least_distance an_p_least_distance : Option Addr} {sl_p_least_distance : Array (Option Value)} {oc_p_least_distance kV_p_least_distance dc_p_least_distance pm_p_least_distance cd_p_least_distance ct_p_least_distance : Value} {f_p_least_distance : Addr}
    (a_p_least_distance : PySem.W.nsIn K mainGlobals "least_distance" = some (some (.ref f_p_least_distance))) (l_p_least_distance : K.lookup f_p_least_distance = some ⟨oc_p_least_distance, od_p_least_distance, .func (PySem.W.fnOf "least_distance" "least_distance" (defArgs (topS 5)) (defBody (topS 5)) (defScope (topS 5)) .none kV_p_least_distance dc_p_least_distance pm_p_least_distance an_p_least_distance cd_p_least_distance ct_p_least_distance), sl_p_least_distance⟩) (d_p_least_distance : PySem.W.codeIn K cd_p_least_distance "least_distance" = true) (k_p_least_distance : PySem.W.keepIn K (.ref f_p_least_distance) = true)
    {od_l_pick an_l_pick : Option Addr} {sl_l_pick : Array (Option Value)} {oc_l_pick kV_l_pick dc_l_pick pm_l_pick cd_l_pick ct_l_pick : Value} {f_l_pick : Addr}
    (a_l_pick : PySem.W.nsIn K mainGlobals "_law_pick" = some (some (.ref f_l_pick))) (l_l_pick : K.lookup f_l_pick = some ⟨oc_l_pick, od_l_pick, .func (PySem.W.fnOf "_law_pick" "_law_pick" (defArgs (topS 12)) (defBody (topS 12)) (defScope (topS 12)) .none kV_l_pick dc_l_pick pm_l_pick an_l_pick cd_l_pick ct_l_pick), sl_l_pick⟩) (d_l_pick : PySem.W.codeIn K cd_l_pick "_law_pick" = true) (k_l_pick : PySem.W.keepIn K (.ref f_l_pick) = true)
    {od_law an_law : Option Addr} {sl_law : Array (Option Value)} {oc_law kV_law dc_law pm_law cd_law ct_law : Value} {f_law : Addr}
    (a_law : PySem.W.nsIn K mainGlobals "law" = some (some (.ref f_law))) (l_law : K.lookup f_law = some ⟨oc_law, od_law, .func (PySem.W.fnOf "law" "law" (defArgs (topS 17)) (defBody (topS 17)) (defScope (topS 17)) .none kV_law dc_law pm_law an_law cd_law ct_law), sl_law⟩) (d_law : PySem.W.codeIn K cd_law "law" = true) (k_law : PySem.W.keepIn K (.ref f_law) = true)
    (y_bool : PySem.W.nsIn K mainGlobals "bool" = some none) (y_dict : PySem.W.nsIn K mainGlobals "dict" = some none) (y_int : PySem.W.nsIn K mainGlobals "int" = some none) (y_isinstance : PySem.W.nsIn K mainGlobals "isinstance" = some none) (y_len : PySem.W.nsIn K mainGlobals "len" = some none) (y_list : PySem.W.nsIn K mainGlobals "list" = some none) (y_range : PySem.W.nsIn K mainGlobals "range" = some none) (y_str : PySem.W.nsIn K mainGlobals "str" = some none) (y_tuple : PySem.W.nsIn K mainGlobals "tuple" = some none) :
    ∃ fd : FuncData, (∀ (s : Shared) (v : Value), BindsTo s fd ⟨[v], []⟩ [("script", v)]) ∧ ∀ base : Heap, K.In base → base.Ns mainGlobals mg → FnOk l.prog w K mg base CX0 7 fa fd ["script"] (spV K 1 g_law) := by
  have e := hfa.symm.trans (PySem.W.mg_of X G a_law)
  cases e
  have F_l_mixed := fun_mk (st := topS 7) l_l_mixed d_l_mixed k_l_mixed
  have b_l_mixed := F_l_mixed.binds (ps := ["number", "place"]) fun _ _ _ _ _ _ us hl => match us, hl with | [_, _], _ => rfl
  have F_p_nearest := fun_mk (st := topS 3) l_p_nearest d_p_nearest k_p_nearest
  have b_p_nearest := F_p_nearest.binds (ps := ["p", "q"]) fun _ _ _ _ _ _ us hl => match us, hl with | [_, _], _ => rfl
  have F_p_distance := fun_mk (st := topS 1) l_p_distance d_p_distance k_p_distance
  have b_p_distance := F_p_distance.binds (ps := ["way"]) fun _ _ _ _ _ _ us hl => match us, hl with | [_], _ => rfl
  have F_p_inner := fun_mk (st := topS 2) l_p_inner d_p_inner k_p_inner
  have b_p_inner := F_p_inner.binds (ps := ["one", "other"]) fun _ _ _ _ _ _ us hl => match us, hl with | [_, _], _ => rfl
  have F_l_least := fun_mk (st := topS 13) l_l_least d_l_least k_l_least
  have b_l_least := F_l_least.binds (ps := ["n", "step"]) fun _ _ _ _ _ _ us hl => match us, hl with | [_, _], _ => rfl
  have F_l_length := fun_mk (st := topS 15) l_l_length d_l_length k_l_length
  have b_l_length := F_l_length.binds (ps := ["pair"]) fun _ _ _ _ _ _ us hl => match us, hl with | [_], _ => rfl
  have F_l_second := fun_mk (st := topS 16) l_l_second d_l_second k_l_second
  have b_l_second := F_l_second.binds (ps := ["n", "step", "one"]) fun _ _ _ _ _ _ us hl => match us, hl with | [_, _, _], _ => rfl
  have F_l_same := fun_mk (st := topS 14) l_l_same d_l_same k_l_same
  have b_l_same := F_l_same.binds (ps := ["actual", "due"]) fun _ _ _ _ _ _ us hl => match us, hl with | [_, _], _ => rfl
  have F_l_rest := fun_mk (st := topS 8) l_l_rest d_l_rest k_l_rest
  have b_l_rest := F_l_rest.binds (ps := ["script", "place", "fills"]) fun _ _ _ _ _ _ us hl => match us, hl with | [_, _, _], _ => rfl
  have F_p_reduced := fun_mk (st := topS 4) l_p_reduced d_p_reduced k_p_reduced
  have b_p_reduced := F_p_reduced.binds (ps := ["n", "step"]) fun _ _ _ _ _ _ us hl => match us, hl with | [_, _], _ => rfl
  have F_l_pool := fun_mk (st := topS 9) l_l_pool d_l_pool k_l_pool
  have b_l_pool := F_l_pool.binds (ps := ["script"]) fun _ _ _ _ _ _ us hl => match us, hl with | [_], _ => rfl
  have F_l_next := fun_mk (st := topS 10) l_l_next d_l_next k_l_next
  have b_l_next := F_l_next.binds (ps := ["pool"]) fun _ _ _ _ _ _ us hl => match us, hl with | [_], _ => rfl
  have F_l_draw := fun_mk (st := topS 11) l_l_draw d_l_draw k_l_draw
  have b_l_draw := F_l_draw.binds (ps := ["pool", "limit"]) fun _ _ _ _ _ _ us hl => match us, hl with | [_, _], _ => rfl
  have F_p_least_distance := fun_mk (st := topS 5) l_p_least_distance d_p_least_distance k_p_least_distance
  have b_p_least_distance := F_p_least_distance.binds (ps := ["n", "step"]) fun _ _ _ _ _ _ us hl => match us, hl with | [_, _], _ => rfl
  have F_l_pick := fun_mk (st := topS 12) l_l_pick d_l_pick k_l_pick
  have b_l_pick := F_l_pick.binds (ps := ["pool", "options"]) fun _ _ _ _ _ _ us hl => match us, hl with | [_, _], _ => rfl
  have F_law := fun_mk (st := topS 17) l_law d_law k_law
  have b_law := F_law.binds (ps := ["script"]) fun _ _ _ _ _ _ us hl => match us, hl with | [_], _ => rfl
  refine ⟨PySem.W.fnOf "law" "law" (defArgs (topS 17)) (defBody (topS 17)) (defScope (topS 17)) .none kV_law dc_law pm_law an_law cd_law ct_law, fun s v => .of_eq rfl, fun base _ _ => ?_⟩
  have c_l_mixed : Fn l.prog w K mg base 1 "_law_mixed" 2 g_l_mixed [] := fn_mk F_l_mixed (ok_l_mixed F_l_mixed (PySem.W.mg_none_of X G y_int) ) (PySem.W.mg_of X G a_l_mixed) b_l_mixed
  have c_p_nearest : Fn l.prog w K mg base 1 "nearest" 2 g_p_nearest [] := fn_mk F_p_nearest (ok_p_nearest F_p_nearest  ) (PySem.W.mg_of X G a_p_nearest) b_p_nearest
  have c_p_distance : Fn l.prog w K mg base 1 "distance" 1 g_p_distance [] := fn_mk F_p_distance (ok_p_distance F_p_distance  ) (PySem.W.mg_of X G a_p_distance) b_p_distance
  have c_p_inner : Fn l.prog w K mg base 1 "inner" 2 g_p_inner [] := fn_mk F_p_inner (ok_p_inner F_p_inner  ) (PySem.W.mg_of X G a_p_inner) b_p_inner
  have c_l_least : Fn l.prog w K mg base 1 "_law_least" 2 g_l_least [] := fn_mk F_l_least (ok_l_least F_l_least (PySem.W.mg_none_of X G y_int) (PySem.W.mg_none_of X G y_range) ) (PySem.W.mg_of X G a_l_least) b_l_least
  have c_l_length : Fn l.prog w K mg base 1 "_law_length" 1 g_l_length [] := fn_mk F_l_length (ok_l_length F_l_length  ) (PySem.W.mg_of X G a_l_length) b_l_length
  have c_l_second : Fn l.prog w K mg base 1 "_law_second" 3 g_l_second [] := fn_mk F_l_second (ok_l_second F_l_second (PySem.W.mg_none_of X G y_int) (PySem.W.mg_none_of X G y_range) ) (PySem.W.mg_of X G a_l_second) b_l_second
  have c_l_same : Fn l.prog w K mg base 6 "_law_same" 2 (g_l_same 5) [] := fn_mk F_l_same (ok_l_same F_l_same (PySem.W.mg_of X G a_l_same) b_l_same (PySem.W.mg_none_of X G y_bool) (PySem.W.mg_none_of X G y_dict) (PySem.W.mg_none_of X G y_int) (PySem.W.mg_none_of X G y_isinstance) (PySem.W.mg_none_of X G y_len) (PySem.W.mg_none_of X G y_list) (PySem.W.mg_none_of X G y_range) (PySem.W.mg_none_of X G y_str) (PySem.W.mg_none_of X G y_tuple)  5) (PySem.W.mg_of X G a_l_same) b_l_same
  have c_l_rest : Fn l.prog w K mg base 2 "_law_rest" 3 g_l_rest [] := fn_mk F_l_rest (ok_l_rest F_l_rest (PySem.W.mg_none_of X G y_int) (PySem.W.mg_none_of X G y_len) c_l_mixed) (PySem.W.mg_of X G a_l_rest) b_l_rest
  have c_p_reduced : Fn l.prog w K mg base 2 "reduced" 2 g_p_reduced [] := fn_mk F_p_reduced (ok_p_reduced F_p_reduced  c_p_distance c_p_inner c_p_nearest) (PySem.W.mg_of X G a_p_reduced) b_p_reduced
  have c_l_pool : Fn l.prog w K mg base 3 "_law_pool" 1 g_l_pool [] := fn_mk F_l_pool (ok_l_pool F_l_pool  c_l_rest) (PySem.W.mg_of X G a_l_pool) b_l_pool
  have c_l_next : Fn l.prog w K mg base 3 "_law_next" 1 g_l_next [] := fn_mk F_l_next (ok_l_next F_l_next  c_l_rest) (PySem.W.mg_of X G a_l_next) b_l_next
  have c_l_draw : Fn l.prog w K mg base 3 "_law_draw" 2 g_l_draw [] := fn_mk F_l_draw (ok_l_draw F_l_draw (PySem.W.mg_none_of X G y_int) c_l_rest) (PySem.W.mg_of X G a_l_draw) b_l_draw
  have c_p_least_distance : Fn l.prog w K mg base 3 "least_distance" 2 g_p_least_distance [] := fn_mk F_p_least_distance (ok_p_least_distance F_p_least_distance  c_p_distance c_p_reduced) (PySem.W.mg_of X G a_p_least_distance) b_p_least_distance
  have c_l_pick : Fn l.prog w K mg base 4 "_law_pick" 2 g_l_pick [] := fn_mk F_l_pick (ok_l_pick F_l_pick (PySem.W.mg_none_of X G y_len) c_l_draw) (PySem.W.mg_of X G a_l_pick) b_l_pick
  exact ok_law F_law (PySem.W.mg_none_of X G y_int) (PySem.W.mg_none_of X G y_range) c_l_draw c_l_least c_l_length c_l_next c_l_pick c_l_pool c_l_same c_l_second c_p_least_distance c_p_reduced
end K47
namespace K47
open PySem PySem.Spec PyProof.Rows L2 Dv
/-! ### what is drawn -/
theorem ev_mixed (a b : Int) : ∃ r, g_l_mixed [(.int a, 0), (.int b, 0)] = some ((.int r, 0), [(.int a, 0), (.int b, 0)]) := by
  have h1 : (0 : Int) ≤ (a * 48271 + b * 69621 + 11) % 618970019642690137449562111 := Int.emod_nonneg _ (by decide)
  have h2 : (a * 48271 + b * 69621 + 11) % 618970019642690137449562111 < 618970019642690137449562111 := Int.emod_lt_of_pos _ (by decide)
  generalize e1 : (a * 48271 + b * 69621 + 11) % 618970019642690137449562111 = F at h1 h2
  have h3 : (0 : Int) ≤ (F * F + 7 * F + b) % 162259276829213363391578010288127 := Int.emod_nonneg _ (by decide)
  have h4 : (F * F + 7 * F + b) % 162259276829213363391578010288127 < 162259276829213363391578010288127 := Int.emod_lt_of_pos _ (by decide)
  generalize e2 : (F * F + 7 * F + b) % 162259276829213363391578010288127 = S at h3 h4
  refine ⟨S * 618970019642690137449562111 + (S * S + F) % 618970019642690137449562111, ?_⟩
  have m1 : bMul (.int a) (.int 48271) = some (.int (a * 48271)) := bMul_r (by decide)
  have m2 : bMul (.int b) (.int 69621) = some (.int (b * 69621)) := bMul_r (by decide)
  have m3 : bMul (.int F) (.int F) = some (.int (F * F)) := bMul_w h1 (by omega) h1 (by omega)
  have m4 : bMul (.int 7) (.int F) = some (.int (7 * F)) := bMul_l (by decide)
  have m5 : bMul (.int S) (.int S) = some (.int (S * S)) := bMul_w h3 (by omega) h3 (by omega)
  have m6 : bMul (.int S) (.int 618970019642690137449562111) = some (.int (S * 618970019642690137449562111)) := bMul_w h3 (by omega) (by decide) (by decide)
  unfold g_l_mixed b_l_mixed
  simp [sNil, sIf, nVar, nC, nOp, nUn, nCa, aCons, aNil, vN, vF, vCl, nCall, nCl, vCall, caVe, caIo, caNil, ioOf, getA, killA, putA, frz, frz1, D.isS, tCmpB, vtN, nB, nAnd, nOr, nNot, nBool, nAndV, nOrV, nNotV, cB, cLt, cLe, cGt, cGe, bAdd, bSub, cInt, cLen, sOf, seqOf, iNI, niL, vOp, vtCmp, nFr, fLst, vLst, vaNil, vaCons, fit, eqD_int, eqD_bl, bIx, uNeg, vIf, nIf, nIsi, nIsiV, runF, okPm, startE, outsF, sSet, putE, sSeq, sExpr, sRet, m1, m2, m3, m4, m5, m6, bMod_p, e1, e2]
noncomputable def mixI (a b : Int) : Int := Classical.choose (ev_mixed a b)
theorem mix_eq (a b : Int) : g_l_mixed [(.int a, 0), (.int b, 0)] = some ((.int (mixI a b), 0), [(.int a, 0), (.int b, 0)]) := Classical.choose_spec (ev_mixed a b)
abbrev Sc (ns : List Int) : D := .frl (ns.map D.int)
theorem pow18 : bPow (.int 10) (.int 18) = some (.int 1000000000000000000) := by
  unfold bPow
  simp only
  rw [if_pos (by decide)]
  rfl
theorem ev_rest (ns : List Int) (p f : Int) : ∃ r, g_l_rest [(Sc ns, 0), (.int p, 0), (.int f, 0)] = some ((.int r, 0), [(Sc ns, 0), (.int p, 0), (.int f, 0)]) := by
  have m1 : ∀ x, bMul (.int x) (.int 1000003) = some (.int (x * 1000003)) := fun x => bMul_r (by decide)
  have m2 : ∀ n, bMul (.int 2) (.int n) = some (.int (2 * n)) := fun n => bMul_l (by decide)
  unfold g_l_rest b_l_rest
  by_cases h : ns = []
  · subst h
    by_cases c : f = 0 <;> simp [sNil, sIf, nVar, nC, nOp, nUn, nCa, aCons, aNil, vN, vF, vCl, nCall, nCl, vCall, caVe, caIo, caNil, ioOf, getA, killA, putA, frz, frz1, D.isS, tCmpB, vtN, nB, nAnd, nOr, nNot, nBool, nAndV, nOrV, nNotV, cB, cLt, cLe, cGt, cGe, bAdd, bSub, cInt, cLen, sOf, seqOf, iNI, niL, vOp, vtCmp, nFr, fLst, vLst, vaNil, vaCons, fit, eqD_int, eqD_bl, bIx, uNeg, vIf, nIf, nIsi, nIsiV, runF, okPm, startE, outsF, sSet, putE, sSeq, sExpr, sRet, mix_eq, m1, m2, pow18, c]
  · have hp : 0 < ns.length := List.length_pos_iff.mpr h
    have h0 : 0 ≤ p % (ns.length : Int) := Int.emod_nonneg _ (by omega)
    have h1 : p % (ns.length : Int) < ns.length := Int.emod_lt_of_pos _ (by omega)
    have hx := atI_map (f := D.int) (xs := ns) h0 (by omega)
    have hm : bMod (.int p) (.int (ns.length : Int)) = some (.int (p % ns.length)) := bMod_p (by omega)
    generalize ns[(p % (ns.length : Int)).toNat] = n at hx
    by_cases c : f = 0 <;> by_cases d : n < 0 <;> by_cases e : p < (ns.length : Int) <;> by_cases k : (1000000000000000000 : Int) ≤ (if n < 0 then 1 - 2 * n else n) <;> simp only [d, if_true, if_false] at k <;> simp [sNil, sIf, nVar, nC, nOp, nUn, nCa, aCons, aNil, vN, vF, vCl, nCall, nCl, vCall, caVe, caIo, caNil, ioOf, getA, killA, putA, frz, frz1, D.isS, tCmpB, vtN, nB, nAnd, nOr, nNot, nBool, nAndV, nOrV, nNotV, cB, cLt, cLe, cGt, cGe, bAdd, bSub, cInt, cLen, sOf, seqOf, iNI, niL, vOp, vtCmp, nFr, fLst, vLst, vaNil, vaCons, fit, eqD_int, eqD_bl, bIx, uNeg, vIf, nIf, nIsi, nIsiV, runF, okPm, startE, outsF, sSet, putE, sSeq, sExpr, sRet, mix_eq, m1, m2, pow18, c, d, e, k, hp, hm, hx]
noncomputable def rstI (ns : List Int) (p f : Int) : Int := Classical.choose (ev_rest ns p f)
theorem rst_eq (ns : List Int) (p f : Int) : g_l_rest [(Sc ns, 0), (.int p, 0), (.int f, 0)] = some ((.int (rstI ns p f), 0), [(Sc ns, 0), (.int p, 0), (.int f, 0)]) := Classical.choose_spec (ev_rest ns p f)
abbrev Po (ns : List Int) (p n f : Int) : AV := (.lst [Sc ns, .int p, .int n, .int f], 1)
theorem at4_0 {a b c d : D} : atI [a, b, c, d] 0 = some a := rfl
theorem at4_1 {a b c d : D} : atI [a, b, c, d] 1 = some b := rfl
theorem at4_2 {a b c d : D} : atI [a, b, c, d] 2 = some c := rfl
theorem at4_3 {a b c d : D} : atI [a, b, c, d] 3 = some d := rfl
theorem ix4_1 : ixN 4 1 = some 1 := rfl
theorem ix4_2 : ixN 4 2 = some 2 := rfl
theorem ix4_3 : ixN 4 3 = some 3 := rfl
theorem sz4 : (4 : Nat) ≤ sizeLine := sz (by decide)
theorem ev_pool (ns : List Int) : ∃ n, g_l_pool [(Sc ns, 0)] = some (Po ns 0 n 0, [(Sc ns, 0)]) := by
  refine ⟨rstI ns 0 0, ?_⟩
  unfold g_l_pool b_l_pool
  simp [sNil, sIf, nVar, nC, nOp, nUn, nCa, aCons, aNil, vN, vF, vCl, nCall, nCl, vCall, caVe, caIo, caNil, ioOf, getA, killA, putA, frz, frz1, D.isS, tCmpB, vtN, nB, nAnd, nOr, nNot, nBool, nAndV, nOrV, nNotV, cB, cLt, cLe, cGt, cGe, bAdd, bSub, cInt, cLen, sOf, seqOf, iNI, niL, vOp, vtCmp, nFr, fLst, vLst, vaNil, vaCons, fit, eqD_int, eqD_bl, bIx, uNeg, vIf, nIf, nIsi, nIsiV, runF, okPm, startE, outsF, sSet, putE, sSeq, sExpr, sRet, rst_eq, sz4]
theorem ev_next (ns : List Int) (p n f : Int) : ∃ n', g_l_next [Po ns p n f] = some ((.non, 0), [Po ns (p + 1) n' 0]) := by
  refine ⟨rstI ns (p + 1) 0, ?_⟩
  unfold g_l_next b_l_next
  simp [sNil, sIf, nVar, nC, nOp, nUn, nCa, aCons, aNil, vN, vF, vCl, nCall, nCl, vCall, caVe, caIo, caNil, ioOf, getA, killA, putA, frz, frz1, D.isS, tCmpB, vtN, nB, nAnd, nOr, nNot, nBool, nAndV, nOrV, nNotV, cB, cLt, cLe, cGt, cGe, bAdd, bSub, cInt, cLen, sOf, seqOf, iNI, niL, vOp, vtCmp, nFr, fLst, vLst, vaNil, vaCons, fit, eqD_int, eqD_bl, bIx, uNeg, vIf, nIf, nIsi, nIsiV, runF, okPm, startE, outsF, sSet, putE, sSeq, sExpr, sRet, rst_eq, sSetIx, at4_0, at4_1, at4_2, at4_3, ix4_1, ix4_2, ix4_3]
theorem ev_draw (ns : List Int) (p n f L : Int) (h : 0 < L) (h2 : L < 1000000) : ∃ v n' f', 0 ≤ v ∧ v < L ∧ g_l_draw [Po ns p n f, (.int L, 0)] = some ((.int v, 0), [Po ns p n' f', (.int L, 0)]) := by
  have hm : ∀ x, bMod (.int x) (.int L) = some (.int (x % L)) := fun x => bMod_p h
  have hf : ∀ x, bFdiv (.int x) (.int L) = some (.int (x / L)) := fun x => bFdiv_p h (by omega)
  unfold g_l_draw b_l_draw
  by_cases c : n ≤ 1
  · refine ⟨rstI ns p (f + 1) % L, rstI ns p (f + 1) / L, f + 1, Int.emod_nonneg _ (by omega), Int.emod_lt_of_pos _ h, ?_⟩
    simp [sNil, sIf, nVar, nC, nOp, nUn, nCa, aCons, aNil, vN, vF, vCl, nCall, nCl, vCall, caVe, caIo, caNil, ioOf, getA, killA, putA, frz, frz1, D.isS, tCmpB, vtN, nB, nAnd, nOr, nNot, nBool, nAndV, nOrV, nNotV, cB, cLt, cLe, cGt, cGe, bAdd, bSub, cInt, cLen, sOf, seqOf, iNI, niL, vOp, vtCmp, nFr, fLst, vLst, vaNil, vaCons, fit, eqD_int, eqD_bl, bIx, uNeg, vIf, nIf, nIsi, nIsiV, runF, okPm, startE, outsF, sSet, putE, sSeq, sExpr, sRet, rst_eq, sSetIx, at4_0, at4_1, at4_2, at4_3, ix4_1, ix4_2, ix4_3, hm, hf, c]
  · refine ⟨n % L, n / L, f, Int.emod_nonneg _ (by omega), Int.emod_lt_of_pos _ h, ?_⟩
    simp [sNil, sIf, nVar, nC, nOp, nUn, nCa, aCons, aNil, vN, vF, vCl, nCall, nCl, vCall, caVe, caIo, caNil, ioOf, getA, killA, putA, frz, frz1, D.isS, tCmpB, vtN, nB, nAnd, nOr, nNot, nBool, nAndV, nOrV, nNotV, cB, cLt, cLe, cGt, cGe, bAdd, bSub, cInt, cLen, sOf, seqOf, iNI, niL, vOp, vtCmp, nFr, fLst, vLst, vaNil, vaCons, fit, eqD_int, eqD_bl, bIx, uNeg, vIf, nIf, nIsi, nIsiV, runF, okPm, startE, outsF, sSet, putE, sSeq, sExpr, sRet, rst_eq, sSetIx, at4_0, at4_1, at4_2, at4_3, ix4_1, ix4_2, ix4_3, hm, hf, c]
theorem draw_v {ns : List Int} {p n f : Int} {i : Nat} {vs : List Nat} {g : Ev → Option D} {L : Int} {ρ : Ev} (hi : ρ[i]? = some (some (Po ns p n f))) (hg : g ρ = some (.int L)) (h : 0 < L) (h2 : L < 1000000) :
    ∃ v n' f', 0 ≤ v ∧ v < L ∧ vCall g_l_draw [] (caIo i (caVe (vN vs g) caNil)) ρ = some ((.int v, 0), ρ.set i (some (Po ns p n' f'))) := by
  obtain ⟨v, n', f', h3, h4, e⟩ := ev_draw ns p n f L h h2
  refine ⟨v, n', f', h3, h4, ?_⟩
  have e1 : caIo i (caVe (vN vs g) caNil) ρ = some ([.inl i, .inr (.int L)], ρ) := by
    unfold caIo
    rw [hi]
    unfold caVe
    rw [vN_s hg rfl]
    rfl
  have e2 : getA [.inl i, .inr (.int L)] ρ = some [Po ns p n f, (.int L, 0)] := by
    unfold getA
    rw [hi]
    rfl
  unfold vCall
  rw [e1]
  simp only [Option.bind_some]
  rw [if_pos (by simp [ioOf]), e2]
  show (g_l_draw [Po ns p n f, (.int L, 0)]).map _ = _
  rw [e]
  show some (_, (ρ.set i none).set i _) = _
  rw [List.set_set]
theorem eq0_v {g : Ev → Option (AV × Ev)} {ρ ρ1 : Ev} {v : Int} (e : g ρ = some ((.int v, 0), ρ1)) : vOp (cB eqD) g (vN [] (nC (.int 0))) ρ = some ((.bl (decide (v = 0)), 0), ρ1) := by
  unfold vOp
  rw [e]
  simp only [Option.bind_some]
  rw [vN_s (d := .int 0) rfl rfl]
  simp only [Option.bind_some]
  rw [cB_of (eqD_int v 0)]
  rfl
theorem bools_of {xs : List D} (h : ∀ x ∈ xs, ∃ b, x = D.bl b) : ∃ r : List Bool, xs = r.map D.bl := by
  induction xs with
  | nil => exact ⟨[], rfl⟩
  | cons x xs ih =>
    obtain ⟨b, rfl⟩ := h x List.mem_cons_self
    obtain ⟨r, rfl⟩ := ih fun y hy => h y (List.mem_cons_of_mem _ hy)
    exact ⟨b :: r, rfl⟩
/-- [draw(pool, 2) == 0 for x in range(m)], x in slot k, the pool in slot i -/
theorem bits_v {ns : List Int} {p : Int} {i k m : Nat} {it : Ev → Option (List D)} {vs ws : List Nat} (ρ : Ev) (mk : Int → Int → Ev) (n f : Int) (hm : m < 1000) (hit : it ρ = some (rng 0 m)) (h0 : wipeE (frz [k] (frz vs ρ)) [k] = mk n f) (hl : (frz vs ρ).length ≤ 1000)
    (hb : ∀ n f (j : Nat), ∃ ρ1, gNm k (.int j) (mk n f) = some ρ1 ∧ ρ1[i]? = some (some (Po ns p n f)) ∧ ∀ n' f', wipeE (ρ1.set i (some (Po ns p n' f'))) [k] = mk n' f') :
    ∃ (r : List Bool) (n' f' : Int), r.length = m ∧ vLc 0 [k] (iNI vs it) (gNm k) vtTrue (vOp (cB eqD) (vCall g_l_draw [] (caIo i (caVe (vN ws (nC (.int 2))) caNil))) (vN [] (nC (.int 0)))) ρ = some ((D.lst (r.map D.bl), 1), restE [k] (frz [k] (frz vs ρ)) (mk n' f')) := by
  obtain ⟨xs, ρ', e, ⟨n', f', rfl⟩, hlen, hx⟩ := vLc_inv (n := 0) (ow := [k]) (b := gNm k) (t := vtTrue) (f := vOp (cB eqD) (vCall g_l_draw [] (caIo i (caVe (vN ws (nC (.int 2))) caNil))) (vN [] (nC (.int 0)))) (ρ := ρ) (I := fun ρ => ∃ n f, ρ = mk n f) (J := fun x => ∃ b, x = D.bl b) m (iNI_of (vs := vs) hit) hm hl ⟨n, f, h0⟩ (fun j ρ hj hI => by
    obtain ⟨n, f, rfl⟩ := hI
    obtain ⟨ρ1, e1, e2, e3⟩ := hb n f j
    obtain ⟨v, n', f', _, _, e4⟩ := draw_v (vs := ws) (g := nC (.int 2)) (L := 2) e2 rfl (by decide) (by decide)
    exact ⟨ρ1, ρ1, .bl (decide (v = 0)), 0, _, e1, rfl, eq0_v e4, rfl, ⟨_, rfl⟩, n', f', e3 n' f'⟩)
  obtain ⟨r, rfl⟩ := bools_of hx
  exact ⟨r, n', f', by simpa using hlen, e⟩
theorem add1_v {g : Ev → Option (AV × Ev)} {ρ ρ1 : Ev} {v : Int} (e : g ρ = some ((.int v, 0), ρ1)) : vOp bAdd (vN [] (nC (.int 1))) g ρ = some ((.int (1 + v), 0), ρ1) := by
  unfold vOp
  rw [vN_s (d := .int 1) rfl rfl]
  simp only [Option.bind_some]
  rw [e]
  rfl

end K47
namespace K47
open PySem PySem.Spec PyProof.Rows L2 Dv
/-! ### what is the same -/
def okS : Nat → D → Prop
  | 0, _ => False
  | _ + 1, .non => True
  | _ + 1, .bl _ => True
  | _ + 1, .int _ => True
  | _ + 1, .str x => PyData.canLay0 (.str x) = true
  | n + 1, .lst xs => xs.length < 1000 ∧ ∀ x ∈ xs, okS n x
  | n + 1, .tup xs => xs.length < 1000 ∧ ∀ x ∈ xs, okS n x
  | _ + 1, _ => False
theorem kt_ii : kitB "int" "int" = some true := by decide +kernel
theorem kt_ib : kitB "int" "bool" = some false := by decide +kernel
theorem kt_si : kitB "str" "int" = some false := by decide +kernel
theorem kt_ss : kitB "str" "str" = some true := by decide +kernel
theorem kt_li : kitB "list" "int" = some false := by decide +kernel
theorem kt_ls : kitB "list" "str" = some false := by decide +kernel
theorem kt_ld : kitB "list" "dict" = some false := by decide +kernel
theorem kt_lt : kitB "list" "tuple" = some false := by decide +kernel
theorem kt_ll : kitB "list" "list" = some true := by decide +kernel
theorem kt_ti : kitB "tuple" "int" = some false := by decide +kernel
theorem kt_ts : kitB "tuple" "str" = some false := by decide +kernel
theorem kt_td : kitB "tuple" "dict" = some false := by decide +kernel
theorem kt_tt : kitB "tuple" "tuple" = some true := by decide +kernel
theorem kt_tl : kitB "tuple" "list" = some false := by decide +kernel
theorem eqD_str (x : Str) (h : PyData.canLay0 (.str x) = true) : eqD (.str x) (.str x) = some true := by
  unfold eqD
  have hs : SeqAt.shaped (.str x) = true := by unfold SeqAt.shaped; rw [h]; rfl
  show (if _ then _ else _) = _
  rw [if_pos ⟨hs, hs⟩]
  rw [show PyData.eqv (.str x) (.str x) = true by simp only [PyData.eqv]; exact beq_self_eq_true _]
theorem cNe_bl (a : Bool) : cNe (.bl a) (.bl a) = some false := by unfold cNe; rw [eqD_bl]; simp
theorem cNe_int (a : Int) : cNe (.int a) (.int a) = some false := by unfold cNe; rw [eqD_int]; simp
theorem same_loop {gn : PF} {d : D} {xs : List D} (hd : d = .lst xs ∨ d = .tup xs) (hl : xs.length < 1000) (hx : ∀ x ∈ xs, ∃ q, gn [(x, 0), (x, 0)] = some ((.bl true, 0), q)) :
    ∃ ρ', sFor (iNI [1] (nRg1 (aCons (nCa cLen (aCons (nVar 1) aNil)) aNil))) (gNm 2) (sIf (vtN (nNot (nBool (nCl gn [] (aCons (nOp bIx (nVar 0) (nVar 2)) (aCons (nOp bIx (nVar 1) (nVar 2)) aNil)))))) (sRet (vN [] (nC (.bl false)))) sNil) [some (d, 0), some (d, 0), none, none] = some (.nx ρ') := by
  have hb : ∀ (j : Nat) x, xs[j]? = some x → bIx d (.int j) = some x := fun j x e => by
    rcases hd with rfl | rfl <;> exact atI_get (by omega) (by simpa using e)
  have hc : cLen [d] = some (.int xs.length) := by rcases hd with rfl | rfl <;> rfl
  obtain ⟨ρ', e, _⟩ := forL_inv (g := sIf (vtN (nNot (nBool (nCl gn [] (aCons (nOp bIx (nVar 0) (nVar 2)) (aCons (nOp bIx (nVar 1) (nVar 2)) aNil)))))) (sRet (vN [] (nC (.bl false)))) sNil) (b := gNm 2) (I := fun ρ => ∃ z, ρ = [some (d, 0), some (d, 0), z, none]) (rng 0 xs.length) (frz [1] [some (d, 0), some (d, 0), none, none]) (fun x hx' ρ hI => by
    obtain ⟨z, rfl⟩ := hI
    rw [rng0] at hx'
    obtain ⟨j, hj, rfl⟩ := List.mem_map.mp hx'
    have hj := List.mem_range.mp hj
    have e0 : xs[j]? = some xs[j] := List.getElem?_eq_getElem hj
    obtain ⟨q, eq⟩ := hx _ (List.mem_of_getElem? e0)
    refine ⟨[some (d, 0), some (d, 0), some (.int j, 0), none], [some (d, 0), some (d, 0), some (.int j, 0), none], by simp [sNil, sIf, nVar, nC, nOp, nUn, nCa, aCons, aNil, vN, vF, vCl, nCall, nCl, vCall, caVe, caIo, caNil, ioOf, getA, killA, putA, frz, frz1, D.isS, tCmpB, vtN, nB, nAnd, nOr, nNot, nBool, nAndV, nOrV, nNotV, cB, cLt, cLe, cGt, cGe, bAdd, bSub, cInt, cLen, sOf, seqOf, iNI, niL, vOp, vtCmp, nFr, fLst, vLst, vaNil, vaCons, fit, eqD_int, eqD_bl, bIx, uNeg, vIf, nIf, nIsi, nIsiV, runF, okPm, startE, outsF, sSet, putE, sSeq, sExpr, sRet, gNm], ?_, _, rfl⟩
    refine if_f (ρ1 := [some (d, 0), some (d, 0), some (.int j, 0), none]) ?_ rfl
    have := hb j _ e0
    simp [vtN, nNot, nBool, nCl, nCall, aCons, aNil, nOp, nVar, this, eq]) ⟨none, rfl⟩
  exact ⟨ρ', for_of (iNI_of (nRg1_of (by simp [aCons, aNil, nCa, nVar, hc]) hl)) e⟩
theorem same_refl : ∀ (n : Nat) (d : D), okS n d → g_l_same n [(d, 0), (d, 0)] = some ((.bl true, 0), [(d, 0), (d, 0)])
  | 0, _, h => h.elim
  | n + 1, d, h => by
    refine runF0 rfl rfl ?_
    cases d with
    | non => exact ⟨[some (.non, 0), some (.non, 0), none, none], by unfold b_l_same; simp [sNil, sIf, nVar, nC, nOp, nUn, nCa, aCons, aNil, vN, vF, vCl, nCall, nCl, vCall, caVe, caIo, caNil, ioOf, getA, killA, putA, frz, frz1, D.isS, tCmpB, vtN, nB, nAnd, nOr, nNot, nBool, nAndV, nOrV, nNotV, cB, cLt, cLe, cGt, cGe, bAdd, bSub, cInt, cLen, sOf, seqOf, iNI, niL, vOp, vtCmp, nFr, fLst, vLst, vaNil, vaCons, fit, eqD_int, eqD_bl, bIx, uNeg, vIf, nIf, nIsi, nIsiV, runF, okPm, startE, outsF, sSet, putE, sSeq, sExpr, sRet, cIs]⟩
    | bl b =>
      refine ⟨[some (.bl b, 0), some (.bl b, 0), none, none], ?_⟩
      cases b <;> (unfold b_l_same; simp [sNil, sIf, nVar, nC, nOp, nUn, nCa, aCons, aNil, vN, vF, vCl, nCall, nCl, vCall, caVe, caIo, caNil, ioOf, getA, killA, putA, frz, frz1, D.isS, tCmpB, vtN, nB, nAnd, nOr, nNot, nBool, nAndV, nOrV, nNotV, cB, cLt, cLe, cGt, cGe, bAdd, bSub, cInt, cLen, sOf, seqOf, iNI, niL, vOp, vtCmp, nFr, fLst, vLst, vaNil, vaCons, fit, eqD_int, eqD_bl, bIx, uNeg, vIf, nIf, nIsi, nIsiV, runF, okPm, startE, outsF, sSet, putE, sSeq, sExpr, sRet, cIs])
    | int i => exact ⟨[some (.int i, 0), some (.int i, 0), none, none], by unfold b_l_same; simp [sNil, sIf, nVar, nC, nOp, nUn, nCa, aCons, aNil, vN, vF, vCl, nCall, nCl, vCall, caVe, caIo, caNil, ioOf, getA, killA, putA, frz, frz1, D.isS, tCmpB, vtN, nB, nAnd, nOr, nNot, nBool, nAndV, nOrV, nNotV, cB, cLt, cLe, cGt, cGe, bAdd, bSub, cInt, cLen, sOf, seqOf, iNI, niL, vOp, vtCmp, nFr, fLst, vLst, vaNil, vaCons, fit, eqD_int, eqD_bl, bIx, uNeg, vIf, nIf, nIsi, nIsiV, runF, okPm, startE, outsF, sSet, putE, sSeq, sExpr, sRet, cIs, cIsi, D.tyS, kt_ii, kt_ib]⟩
    | str x =>
      have h' : PyData.canLay0 (.str x) = true := h
      exact ⟨[some (.str x, 0), some (.str x, 0), none, none], by unfold b_l_same; simp [sNil, sIf, nVar, nC, nOp, nUn, nCa, aCons, aNil, vN, vF, vCl, nCall, nCl, vCall, caVe, caIo, caNil, ioOf, getA, killA, putA, frz, frz1, D.isS, tCmpB, vtN, nB, nAnd, nOr, nNot, nBool, nAndV, nOrV, nNotV, cB, cLt, cLe, cGt, cGe, bAdd, bSub, cInt, cLen, sOf, seqOf, iNI, niL, vOp, vtCmp, nFr, fLst, vLst, vaNil, vaCons, fit, eqD_int, eqD_bl, bIx, uNeg, vIf, nIf, nIsi, nIsiV, runF, okPm, startE, outsF, sSet, putE, sSeq, sExpr, sRet, cIs, cIsi, D.tyS, kt_si, kt_ss, eqD_str x h']⟩
    | lst xs =>
      obtain ⟨ρ', e⟩ := same_loop (d := .lst xs) (.inl rfl) h.1 fun x hx => ⟨_, same_refl n x (h.2 x hx)⟩
      have e := fun X => Rt.seq (h := X) (av := (.bl true, 0)) e
      unfold b_l_same
      refine Rt.seq (ρ1 := [some (.lst xs, 0), some (.lst xs, 0), none, none]) (by simp [sNil, sIf, nVar, nC, nOp, nUn, nCa, aCons, aNil, vN, vF, vCl, nCall, nCl, vCall, caVe, caIo, caNil, ioOf, getA, killA, putA, frz, frz1, D.isS, tCmpB, vtN, nB, nAnd, nOr, nNot, nBool, nAndV, nOrV, nNotV, cB, cLt, cLe, cGt, cGe, bAdd, bSub, cInt, cLen, sOf, seqOf, iNI, niL, vOp, vtCmp, nFr, fLst, vLst, vaNil, vaCons, fit, eqD_int, eqD_bl, bIx, uNeg, vIf, nIf, nIsi, nIsiV, runF, okPm, startE, outsF, sSet, putE, sSeq, sExpr, sRet, cIs]) ?_
      refine Rt.seq (ρ1 := [some (.lst xs, 0), some (.lst xs, 0), none, none]) (by simp [sNil, sIf, nVar, nC, nOp, nUn, nCa, aCons, aNil, vN, vF, vCl, nCall, nCl, vCall, caVe, caIo, caNil, ioOf, getA, killA, putA, frz, frz1, D.isS, tCmpB, vtN, nB, nAnd, nOr, nNot, nBool, nAndV, nOrV, nNotV, cB, cLt, cLe, cGt, cGe, bAdd, bSub, cInt, cLen, sOf, seqOf, iNI, niL, vOp, vtCmp, nFr, fLst, vLst, vaNil, vaCons, fit, eqD_int, eqD_bl, bIx, uNeg, vIf, nIf, nIsi, nIsiV, runF, okPm, startE, outsF, sSet, putE, sSeq, sExpr, sRet, cIs]) ?_
      refine Rt.seq (ρ1 := [some (.lst xs, 0), some (.lst xs, 0), none, none]) (by simp [sNil, sIf, nVar, nC, nOp, nUn, nCa, aCons, aNil, vN, vF, vCl, nCall, nCl, vCall, caVe, caIo, caNil, ioOf, getA, killA, putA, frz, frz1, D.isS, tCmpB, vtN, nB, nAnd, nOr, nNot, nBool, nAndV, nOrV, nNotV, cB, cLt, cLe, cGt, cGe, bAdd, bSub, cInt, cLen, sOf, seqOf, iNI, niL, vOp, vtCmp, nFr, fLst, vLst, vaNil, vaCons, fit, eqD_int, eqD_bl, bIx, uNeg, vIf, nIf, nIsi, nIsiV, runF, okPm, startE, outsF, sSet, putE, sSeq, sExpr, sRet, cIs]) ?_
      refine Rt.seq (ρ1 := [some (.lst xs, 0), some (.lst xs, 0), none, none]) (by simp [sNil, sIf, nVar, nC, nOp, nUn, nCa, aCons, aNil, vN, vF, vCl, nCall, nCl, vCall, caVe, caIo, caNil, ioOf, getA, killA, putA, frz, frz1, D.isS, tCmpB, vtN, nB, nAnd, nOr, nNot, nBool, nAndV, nOrV, nNotV, cB, cLt, cLe, cGt, cGe, bAdd, bSub, cInt, cLen, sOf, seqOf, iNI, niL, vOp, vtCmp, nFr, fLst, vLst, vaNil, vaCons, fit, eqD_int, eqD_bl, bIx, uNeg, vIf, nIf, nIsi, nIsiV, runF, okPm, startE, outsF, sSet, putE, sSeq, sExpr, sRet, cIsi, D.tyS, kt_li]) ?_
      refine Rt.seq (ρ1 := [some (.lst xs, 0), some (.lst xs, 0), none, none]) (by simp [sNil, sIf, nVar, nC, nOp, nUn, nCa, aCons, aNil, vN, vF, vCl, nCall, nCl, vCall, caVe, caIo, caNil, ioOf, getA, killA, putA, frz, frz1, D.isS, tCmpB, vtN, nB, nAnd, nOr, nNot, nBool, nAndV, nOrV, nNotV, cB, cLt, cLe, cGt, cGe, bAdd, bSub, cInt, cLen, sOf, seqOf, iNI, niL, vOp, vtCmp, nFr, fLst, vLst, vaNil, vaCons, fit, eqD_int, eqD_bl, bIx, uNeg, vIf, nIf, nIsi, nIsiV, runF, okPm, startE, outsF, sSet, putE, sSeq, sExpr, sRet, cIsi, D.tyS, kt_ls]) ?_
      refine Rt.seq (ρ1 := [some (.lst xs, 0), some (.lst xs, 0), none, none]) (by simp [sNil, sIf, nVar, nC, nOp, nUn, nCa, aCons, aNil, vN, vF, vCl, nCall, nCl, vCall, caVe, caIo, caNil, ioOf, getA, killA, putA, frz, frz1, D.isS, tCmpB, vtN, nB, nAnd, nOr, nNot, nBool, nAndV, nOrV, nNotV, cB, cLt, cLe, cGt, cGe, bAdd, bSub, cInt, cLen, sOf, seqOf, iNI, niL, vOp, vtCmp, nFr, fLst, vLst, vaNil, vaCons, fit, eqD_int, eqD_bl, bIx, uNeg, vIf, nIf, nIsi, nIsiV, runF, okPm, startE, outsF, sSet, putE, sSeq, sExpr, sRet, cIsi, D.tyS, kt_ld]) ?_
      refine Rt.seq (ρ1 := [some (.lst xs, 0), some (.lst xs, 0), none, none]) (by simp [sNil, sIf, nVar, nC, nOp, nUn, nCa, aCons, aNil, vN, vF, vCl, nCall, nCl, vCall, caVe, caIo, caNil, ioOf, getA, killA, putA, frz, frz1, D.isS, tCmpB, vtN, nB, nAnd, nOr, nNot, nBool, nAndV, nOrV, nNotV, cB, cLt, cLe, cGt, cGe, bAdd, bSub, cInt, cLen, sOf, seqOf, iNI, niL, vOp, vtCmp, nFr, fLst, vLst, vaNil, vaCons, fit, eqD_int, eqD_bl, bIx, uNeg, vIf, nIf, nIsi, nIsiV, runF, okPm, startE, outsF, sSet, putE, sSeq, sExpr, sRet, cIsi, D.tyS, kt_lt, kt_ll, cNe_bl]) ?_
      refine Rt.seq (ρ1 := [some (.lst xs, 0), some (.lst xs, 0), none, none]) (by simp [sNil, sIf, nVar, nC, nOp, nUn, nCa, aCons, aNil, vN, vF, vCl, nCall, nCl, vCall, caVe, caIo, caNil, ioOf, getA, killA, putA, frz, frz1, D.isS, tCmpB, vtN, nB, nAnd, nOr, nNot, nBool, nAndV, nOrV, nNotV, cB, cLt, cLe, cGt, cGe, bAdd, bSub, cInt, cLen, sOf, seqOf, iNI, niL, vOp, vtCmp, nFr, fLst, vLst, vaNil, vaCons, fit, eqD_int, eqD_bl, bIx, uNeg, vIf, nIf, nIsi, nIsiV, runF, okPm, startE, outsF, sSet, putE, sSeq, sExpr, sRet, cNe_int]) ?_
      exact e _ (Rt.ret (by simp [sNil, sIf, nVar, nC, nOp, nUn, nCa, aCons, aNil, vN, vF, vCl, nCall, nCl, vCall, caVe, caIo, caNil, ioOf, getA, killA, putA, frz, frz1, D.isS, tCmpB, vtN, nB, nAnd, nOr, nNot, nBool, nAndV, nOrV, nNotV, cB, cLt, cLe, cGt, cGe, bAdd, bSub, cInt, cLen, sOf, seqOf, iNI, niL, vOp, vtCmp, nFr, fLst, vLst, vaNil, vaCons, fit, eqD_int, eqD_bl, bIx, uNeg, vIf, nIf, nIsi, nIsiV, runF, okPm, startE, outsF, sSet, putE, sSeq, sExpr, sRet]; rfl))
    | tup xs =>
      obtain ⟨ρ', e⟩ := same_loop (d := .tup xs) (.inr rfl) h.1 fun x hx => ⟨_, same_refl n x (h.2 x hx)⟩
      have e := fun X => Rt.seq (h := X) (av := (.bl true, 0)) e
      unfold b_l_same
      refine Rt.seq (ρ1 := [some (.tup xs, 0), some (.tup xs, 0), none, none]) (by simp [sNil, sIf, nVar, nC, nOp, nUn, nCa, aCons, aNil, vN, vF, vCl, nCall, nCl, vCall, caVe, caIo, caNil, ioOf, getA, killA, putA, frz, frz1, D.isS, tCmpB, vtN, nB, nAnd, nOr, nNot, nBool, nAndV, nOrV, nNotV, cB, cLt, cLe, cGt, cGe, bAdd, bSub, cInt, cLen, sOf, seqOf, iNI, niL, vOp, vtCmp, nFr, fLst, vLst, vaNil, vaCons, fit, eqD_int, eqD_bl, bIx, uNeg, vIf, nIf, nIsi, nIsiV, runF, okPm, startE, outsF, sSet, putE, sSeq, sExpr, sRet, cIs]) ?_
      refine Rt.seq (ρ1 := [some (.tup xs, 0), some (.tup xs, 0), none, none]) (by simp [sNil, sIf, nVar, nC, nOp, nUn, nCa, aCons, aNil, vN, vF, vCl, nCall, nCl, vCall, caVe, caIo, caNil, ioOf, getA, killA, putA, frz, frz1, D.isS, tCmpB, vtN, nB, nAnd, nOr, nNot, nBool, nAndV, nOrV, nNotV, cB, cLt, cLe, cGt, cGe, bAdd, bSub, cInt, cLen, sOf, seqOf, iNI, niL, vOp, vtCmp, nFr, fLst, vLst, vaNil, vaCons, fit, eqD_int, eqD_bl, bIx, uNeg, vIf, nIf, nIsi, nIsiV, runF, okPm, startE, outsF, sSet, putE, sSeq, sExpr, sRet, cIs]) ?_
      refine Rt.seq (ρ1 := [some (.tup xs, 0), some (.tup xs, 0), none, none]) (by simp [sNil, sIf, nVar, nC, nOp, nUn, nCa, aCons, aNil, vN, vF, vCl, nCall, nCl, vCall, caVe, caIo, caNil, ioOf, getA, killA, putA, frz, frz1, D.isS, tCmpB, vtN, nB, nAnd, nOr, nNot, nBool, nAndV, nOrV, nNotV, cB, cLt, cLe, cGt, cGe, bAdd, bSub, cInt, cLen, sOf, seqOf, iNI, niL, vOp, vtCmp, nFr, fLst, vLst, vaNil, vaCons, fit, eqD_int, eqD_bl, bIx, uNeg, vIf, nIf, nIsi, nIsiV, runF, okPm, startE, outsF, sSet, putE, sSeq, sExpr, sRet, cIs]) ?_
      refine Rt.seq (ρ1 := [some (.tup xs, 0), some (.tup xs, 0), none, none]) (by simp [sNil, sIf, nVar, nC, nOp, nUn, nCa, aCons, aNil, vN, vF, vCl, nCall, nCl, vCall, caVe, caIo, caNil, ioOf, getA, killA, putA, frz, frz1, D.isS, tCmpB, vtN, nB, nAnd, nOr, nNot, nBool, nAndV, nOrV, nNotV, cB, cLt, cLe, cGt, cGe, bAdd, bSub, cInt, cLen, sOf, seqOf, iNI, niL, vOp, vtCmp, nFr, fLst, vLst, vaNil, vaCons, fit, eqD_int, eqD_bl, bIx, uNeg, vIf, nIf, nIsi, nIsiV, runF, okPm, startE, outsF, sSet, putE, sSeq, sExpr, sRet, cIsi, D.tyS, kt_ti]) ?_
      refine Rt.seq (ρ1 := [some (.tup xs, 0), some (.tup xs, 0), none, none]) (by simp [sNil, sIf, nVar, nC, nOp, nUn, nCa, aCons, aNil, vN, vF, vCl, nCall, nCl, vCall, caVe, caIo, caNil, ioOf, getA, killA, putA, frz, frz1, D.isS, tCmpB, vtN, nB, nAnd, nOr, nNot, nBool, nAndV, nOrV, nNotV, cB, cLt, cLe, cGt, cGe, bAdd, bSub, cInt, cLen, sOf, seqOf, iNI, niL, vOp, vtCmp, nFr, fLst, vLst, vaNil, vaCons, fit, eqD_int, eqD_bl, bIx, uNeg, vIf, nIf, nIsi, nIsiV, runF, okPm, startE, outsF, sSet, putE, sSeq, sExpr, sRet, cIsi, D.tyS, kt_ts]) ?_
      refine Rt.seq (ρ1 := [some (.tup xs, 0), some (.tup xs, 0), none, none]) (by simp [sNil, sIf, nVar, nC, nOp, nUn, nCa, aCons, aNil, vN, vF, vCl, nCall, nCl, vCall, caVe, caIo, caNil, ioOf, getA, killA, putA, frz, frz1, D.isS, tCmpB, vtN, nB, nAnd, nOr, nNot, nBool, nAndV, nOrV, nNotV, cB, cLt, cLe, cGt, cGe, bAdd, bSub, cInt, cLen, sOf, seqOf, iNI, niL, vOp, vtCmp, nFr, fLst, vLst, vaNil, vaCons, fit, eqD_int, eqD_bl, bIx, uNeg, vIf, nIf, nIsi, nIsiV, runF, okPm, startE, outsF, sSet, putE, sSeq, sExpr, sRet, cIsi, D.tyS, kt_td]) ?_
      refine Rt.seq (ρ1 := [some (.tup xs, 0), some (.tup xs, 0), none, none]) (by simp [sNil, sIf, nVar, nC, nOp, nUn, nCa, aCons, aNil, vN, vF, vCl, nCall, nCl, vCall, caVe, caIo, caNil, ioOf, getA, killA, putA, frz, frz1, D.isS, tCmpB, vtN, nB, nAnd, nOr, nNot, nBool, nAndV, nOrV, nNotV, cB, cLt, cLe, cGt, cGe, bAdd, bSub, cInt, cLen, sOf, seqOf, iNI, niL, vOp, vtCmp, nFr, fLst, vLst, vaNil, vaCons, fit, eqD_int, eqD_bl, bIx, uNeg, vIf, nIf, nIsi, nIsiV, runF, okPm, startE, outsF, sSet, putE, sSeq, sExpr, sRet, cIsi, D.tyS, kt_tl, kt_tt, cNe_bl]) ?_
      refine Rt.seq (ρ1 := [some (.tup xs, 0), some (.tup xs, 0), none, none]) (by simp [sNil, sIf, nVar, nC, nOp, nUn, nCa, aCons, aNil, vN, vF, vCl, nCall, nCl, vCall, caVe, caIo, caNil, ioOf, getA, killA, putA, frz, frz1, D.isS, tCmpB, vtN, nB, nAnd, nOr, nNot, nBool, nAndV, nOrV, nNotV, cB, cLt, cLe, cGt, cGe, bAdd, bSub, cInt, cLen, sOf, seqOf, iNI, niL, vOp, vtCmp, nFr, fLst, vLst, vaNil, vaCons, fit, eqD_int, eqD_bl, bIx, uNeg, vIf, nIf, nIsi, nIsiV, runF, okPm, startE, outsF, sSet, putE, sSeq, sExpr, sRet, cNe_int]) ?_
      exact e _ (Rt.ret (by simp [sNil, sIf, nVar, nC, nOp, nUn, nCa, aCons, aNil, vN, vF, vCl, nCall, nCl, vCall, caVe, caIo, caNil, ioOf, getA, killA, putA, frz, frz1, D.isS, tCmpB, vtN, nB, nAnd, nOr, nNot, nBool, nAndV, nOrV, nNotV, cB, cLt, cLe, cGt, cGe, bAdd, bSub, cInt, cLen, sOf, seqOf, iNI, niL, vOp, vtCmp, nFr, fLst, vLst, vaNil, vaCons, fit, eqD_int, eqD_bl, bIx, uNeg, vIf, nIf, nIsi, nIsiV, runF, okPm, startE, outsF, sSet, putE, sSeq, sExpr, sRet]; rfl))
    | frl _ => exact h.elim
    | dic _ _ => exact h.elim
    | dit _ _ => exact h.elim

end K47
namespace K47
open PySem PySem.Spec PyProof.Rows L2 Dv
abbrev pr (a b : Int) : D := .tup [.int a, .int b]
def Sm (a : Int) : Prop := -(2 ^ 40) < a ∧ a < 2 ^ 40
theorem Sm.mul {a b : Int} (h : Sm a) : bMul (.int a) (.int b) = some (.int (a * b)) := bMul_l (by unfold Sm at h; omega)
theorem Sm.mulr {a b : Int} (h : Sm b) : bMul (.int a) (.int b) = some (.int (a * b)) := bMul_r (by unfold Sm at h; omega)
theorem px {a b : Int} : bIx (pr a b) (.int 0) = some (.int a) := atI_get (Int.le_refl 0) rfl
theorem py {a b : Int} : bIx (pr a b) (.int 1) = some (.int b) := atI_get (by decide) rfl
theorem add_of {fa fc : Ev → Option D} {ρ : Ev} {i j : Int} (ea : fa ρ = some (.int i)) (ec : fc ρ = some (.int j)) : nOp bAdd fa fc ρ = some (.int (i + j)) := nOp_of ea ec rfl
theorem sub_of {fa fc : Ev → Option D} {ρ : Ev} {i j : Int} (ea : fa ρ = some (.int i)) (ec : fc ρ = some (.int j)) : nOp bSub fa fc ρ = some (.int (i - j)) := nOp_of ea ec rfl
theorem mul_of {fa fc : Ev → Option D} {ρ : Ev} {i j : Int} (ea : fa ρ = some (.int i)) (ec : fc ρ = some (.int j)) (h : Sm i ∨ Sm j) : nOp bMul fa fc ρ = some (.int (i * j)) := nOp_of ea ec (h.elim Sm.mul Sm.mulr)
theorem px_of {f : Ev → Option D} {ρ : Ev} {a b : Int} (e : f ρ = some (pr a b)) : nOp bIx f (nC (.int 0)) ρ = some (.int a) := nOp_of e rfl px
theorem py_of {f : Ev → Option D} {ρ : Ev} {a b : Int} (e : f ρ = some (pr a b)) : nOp bIx f (nC (.int 1)) ρ = some (.int b) := nOp_of e rfl py
theorem modp_of {fa fc : Ev → Option D} {ρ : Ev} {i j : Int} (ea : fa ρ = some (.int i)) (ec : fc ρ = some (.int j)) (h : 0 < j) : nOp bMod fa fc ρ = some (.int (i % j)) := nOp_of ea ec (bMod_p h)
theorem eqi_of {fa fc : Ev → Option D} {ρ : Ev} {i j : Int} (ea : fa ρ = some (.int i)) (ec : fc ρ = some (.int j)) : nOp (cB eqD) fa fc ρ = some (.bl (decide (i = j))) := nOp_of ea ec (cB_of (eqD_int _ _))
theorem teq_of {fa fc : Ev → Option D} {ρ : Ev} {i j : Int} (ea : fa ρ = some (.int i)) (ec : fc ρ = some (.int j)) : tCmpB eqD fa fc ρ = some (decide (i = j)) := tCmp_of ea ec (eqD_int _ _)
theorem tlt_of {fa fc : Ev → Option D} {ρ : Ev} {i j : Int} (ea : fa ρ = some (.int i)) (ec : fc ρ = some (.int j)) : tCmpB cLt fa fc ρ = some (decide (i < j)) := tCmp_of ea ec rfl
theorem tgt_of {fa fc : Ev → Option D} {ρ : Ev} {i j : Int} (ea : fa ρ = some (.int i)) (ec : fc ρ = some (.int j)) : tCmpB cGt fa fc ρ = some (decide (j < i)) := tCmp_of ea ec rfl
def absI (i : Int) : Int := if i < 0 then -i else i
theorem abs_of {f : Ev → Option D} {ρ : Ev} {i : Int} (e : f ρ = some (.int i)) : nCa cAbs (aCons f aNil) ρ = some (.int (absI i)) := by unfold nCa aCons aNil; rw [e]; rfl
theorem tup2_of {f g : Ev → Option D} {ρ : Ev} {x y : D} (e : f ρ = some x) (e2 : g ρ = some y) : nTup (aCons f (aCons g aNil)) ρ = some (.tup [x, y]) := by
  unfold nTup aCons aNil
  rw [e, e2]
  show (if [x, y].length ≤ sizeLine then some (D.tup [x, y]) else none) = _
  rw [if_pos (show [x, y].length ≤ sizeLine from sz (show 2 < 1000 by decide))]
theorem nCl3 {g : PF} {a b c : Ev → Option D} {ρ : Ev} {x y z : D} {av : AV} {q : List AV} (ea : a ρ = some x) (eb : b ρ = some y) (ec : c ρ = some z) (e : g [(x, 0), (y, 0), (z, 0)] = some (av, q)) : nCl g [] (aCons a (aCons b (aCons c aNil))) ρ = some av.1 := by
  unfold nCl nCall aCons aNil
  rw [ea, eb, ec]
  show ((g [(x, 0), (y, 0), (z, 0)]).map (·.1)).map (·.1) = _
  rw [e]
  rfl
theorem nCl4 {g : PF} {a b c d : Ev → Option D} {ρ : Ev} {x y z w : D} {av : AV} {q : List AV} (ea : a ρ = some x) (eb : b ρ = some y) (ec : c ρ = some z) (ed : d ρ = some w) (e : g [(x, 0), (y, 0), (z, 0), (w, 0)] = some (av, q)) : nCl g [] (aCons a (aCons b (aCons c (aCons d aNil)))) ρ = some av.1 := by
  unfold nCl nCall aCons aNil
  rw [ea, eb, ec, ed]
  show ((g [(x, 0), (y, 0), (z, 0), (w, 0)]).map (·.1)).map (·.1) = _
  rw [e]
  rfl
/-- a call whose value is a plain one -/
theorem vCl_s {vs : List Nat} {g : PF} {f : Ev → Option (List D)} {ρ : Ev} {d : D} (e : nCl g [] f ρ = some d) (h : d.isS = true) : ∃ m, vCl vs g [] f ρ = some ((d, m), ρ) := by
  unfold nCl at e
  obtain ⟨⟨d', m⟩, e1, rfl⟩ := Option.map_eq_some_iff.mp e
  refine ⟨m, ?_⟩
  unfold vCl
  rw [e1, Option.map_some, if_pos h]
theorem rt_vCl {vs : List Nat} {g : PF} {f : Ev → Option (List D)} {ρ : Ev} {d : D} (e : nCl g [] f ρ = some d) : ∃ m, Rt (sRet (vCl vs g [] f)) ρ (d, m) := by
  unfold nCl at e
  obtain ⟨⟨d', m⟩, e1, rfl⟩ := Option.map_eq_some_iff.mp e
  refine ⟨m, Rt.ret' ?_⟩
  unfold vCl
  rw [e1, Option.map_some]
  exact ⟨_, rfl⟩
def ln (a b : Int) : Int := a * a + b * b
def inr (a b c d : Int) : Int := a * c + b * d
def way (n s a b : Int) : Bool := decide ((a - s * b) % n = 0)
theorem ev_distance {a b : Int} (ha : Sm a) (hb : Sm b) : g_p_distance [(pr a b, 0)] = some ((.int (ln a b), 0), [(pr a b, 0)]) :=
  runF0 rfl rfl (Rt.ret (vN_s (add_of (mul_of (px_of rfl) (px_of rfl) (.inl ha)) (mul_of (py_of rfl) (py_of rfl) (.inl hb))) rfl))
theorem ev_length {a b : Int} (ha : Sm a) (hb : Sm b) : g_l_length [(pr a b, 0)] = some ((.int (ln a b), 0), [(pr a b, 0)]) :=
  runF0 rfl rfl (Rt.ret (vN_s (add_of (mul_of (px_of rfl) (px_of rfl) (.inl ha)) (mul_of (py_of rfl) (py_of rfl) (.inl hb))) rfl))
theorem ev_inner {a b c d : Int} (ha : Sm a) (hb : Sm b) : g_p_inner [(pr a b, 0), (pr c d, 0)] = some ((.int (inr a b c d), 0), [(pr a b, 0), (pr c d, 0)]) :=
  runF0 rfl rfl (Rt.ret (vN_s (add_of (mul_of (px_of rfl) (px_of rfl) (.inl ha)) (mul_of (py_of rfl) (py_of rfl) (.inl hb))) rfl))
theorem two_sm : Sm 2 := by unfold Sm; decide
theorem ev_nearest {p q : Int} (h : 0 < q) (h2 : q < 2 ^ 190) : g_p_nearest [(.int p, 0), (.int q, 0)] = some ((.int ((2 * p + q) / (2 * q)), 0), [(.int p, 0), (.int q, 0)]) :=
  runF0 rfl rfl (Rt.ret (vN_s (nOp_of (add_of (mul_of rfl rfl (.inl two_sm)) rfl) (mul_of rfl rfl (.inl two_sm)) (bFdiv_p (by omega) (by omega))) rfl))
end K47
namespace K47
open PySem PySem.Spec PyProof.Rows L2 Dv
/-! ### the reduction -/
theorem sq0 (a : Int) : 0 ≤ a * a := by
  rcases Int.le_total 0 a with h | h
  · exact Int.mul_nonneg h h
  · exact Int.mul_nonneg_of_nonpos_of_nonpos h h
theorem sq_le {a : Int} (h : a * a ≤ 4000000) : Sm a := by
  have h1 : ¬ 2001 ≤ a := fun z => by
    have := Int.mul_le_mul z z (by decide) (by omega)
    omega
  have h2 : ¬ 2001 ≤ -a := fun z => by
    have := Int.mul_le_mul z z (by decide) (by omega)
    rw [Int.neg_mul_neg] at this
    omega
  unfold Sm
  omega
theorem ln_sm {a b : Int} (h : ln a b ≤ 4000000) : Sm a ∧ Sm b := by
  have := sq0 a
  have := sq0 b
  unfold ln at h
  exact ⟨sq_le (by omega), sq_le (by omega)⟩
structure RI (n s a b c d : Int) : Prop where
  w1 : (a - s * b) % n = 0
  w2 : (c - s * d) % n = 0
  dt : a * d - b * c = n ∨ a * d - b * c = -n
  b1 : ln a b ≤ 4000000
  b2 : ln c d ≤ 4000000
theorem RI.swap {n s a b c d : Int} (h : RI n s a b c d) : RI n s c d a b :=
  ⟨h.w2, h.w1, by rcases h.dt with z | z; exact .inr (by grind); exact .inl (by grind), h.b2, h.b1⟩
theorem RI.pos {n s a b c d : Int} (h : RI n s a b c d) (hn : 0 < n) : 0 < ln a b := by
  have h1 := sq0 a
  have h2 := sq0 b
  unfold ln
  by_cases z : a * a + b * b = 0
  · have ha : a * a = 0 := by omega
    have hb : b * b = 0 := by omega
    have ha : a = 0 := by rcases Int.mul_eq_zero.mp ha with z | z <;> exact z
    have hb : b = 0 := by rcases Int.mul_eq_zero.mp hb with z | z <;> exact z
    have := h.dt
    rw [ha, hb, Int.zero_mul, Int.zero_mul] at this
    omega
  · omega
theorem ln_sub (a b c d f : Int) : ln (c - f * a) (d - f * b) = ln c d - f * (2 * inr a b c d - f * ln a b) := by
  unfold ln inr
  grind
theorem RI.sub {n s a b c d f : Int} (h : RI n s a b c d) (hl : ln (c - f * a) (d - f * b) ≤ ln c d) : RI n s a b (c - f * a) (d - f * b) := by
  refine ⟨h.w1, ?_, ?_, h.b1, Int.le_trans hl h.b2⟩
  · have e : c - f * a - s * (d - f * b) = (c - s * d) - f * (a - s * b) := by grind
    rw [e]
    exact Int.emod_eq_zero_of_dvd (Int.dvd_sub (Int.dvd_of_emod_eq_zero h.w2) (Int.dvd_mul_of_dvd_right (Int.dvd_of_emod_eq_zero h.w1)))
  · have e : a * (d - f * b) - b * (c - f * a) = a * d - b * c := by grind
    rw [e]
    exact h.dt
theorem near_eq {p q : Int} (hq : 0 < q) : ∃ r, 0 ≤ r ∧ r < 2 * q ∧ 2 * p + q = 2 * q * ((2 * p + q) / (2 * q)) + r :=
  ⟨(2 * p + q) % (2 * q), Int.emod_nonneg _ (by omega), Int.emod_lt_of_pos _ (by omega), (Int.mul_ediv_add_emod _ _).symm⟩
theorem near_zero {p q : Int} (hq : 0 < q) (h : (2 * p + q) / (2 * q) = 0) : 2 * absI p ≤ q := by
  obtain ⟨r, h0, h1, e⟩ := near_eq (p := p) hq
  rw [h, Int.mul_zero] at e
  unfold absI
  split <;> omega
theorem near_less {p q f : Int} (hq : 0 < q) (hf : (2 * p + q) / (2 * q) = f) (h : f ≠ 0) : 0 < f * (2 * p - f * q) ∨ (f = 1 ∧ 2 * p = q) := by
  obtain ⟨r, h0, h1, e⟩ := near_eq (p := p) hq
  rw [hf] at e
  have eg : 2 * p - f * q = q * (f - 1) + r := by grind
  rw [eg]
  rcases (show f < 1 ∨ 1 ≤ f by omega) with c | c
  · -- f ≤ -1
    have h2 : 0 ≤ q * (-1 - f) := Int.mul_nonneg (by omega) (by omega)
    have h3 : q * (f - 1) = -(q * (-1 - f)) - 2 * q := by grind
    exact .inl (Int.mul_pos_of_neg_of_neg (by omega) (by omega))
  · by_cases c1 : f = 1
    · subst c1
      by_cases c2 : r = 0
      · exact .inr ⟨rfl, by omega⟩
      · exact .inl (by rw [Int.one_mul]; omega)
    · have h2 : 0 ≤ q * (f - 2) := Int.mul_nonneg (by omega) (by omega)
      have h3 : q * (f - 1) = q * (f - 2) + q := by grind
      exact .inl (Int.mul_pos (by omega) (by omega))
theorem wh_nx {t : Ev → Option (Bool × Ev)} {g : Ev → Option Out} {n : Nat} {ρ ρ1 ρ2 : Ev} {o : Out} (e1 : t ρ = some (true, ρ1)) (e2 : g ρ1 = some (.nx ρ2)) (e3 : whileL t g n ρ2 = some o) : whileL t g (n + 1) ρ = some o := by
  rw [whileL, e1]
  simp only [Option.bind_some, if_true, e2]
  exact e3
theorem wh_rt {t : Ev → Option (Bool × Ev)} {g : Ev → Option Out} {n : Nat} {ρ ρ1 ρ2 : Ev} {v : AV} (e1 : t ρ = some (true, ρ1)) (e2 : g ρ1 = some (.rt v ρ2)) : whileL t g (n + 1) ρ = some (.rt v ρ2) := by
  rw [whileL, e1]
  simp only [Option.bind_some, if_true, e2]
abbrev Q5 (n s a b c d : Int) (z : Option AV) : Ev := [some (.int n, 0), some (.int s, 0), some (pr a b, 0), some (pr c d, 0), z]
def rdS : Ev → Option Out := (sIf (vtN (tCmpB cLt (nCl g_p_distance [] (aCons (nVar 3) aNil)) (nCl g_p_distance [] (aCons (nVar 2) aNil)))) (sPar [2, 3] 2 3 (aCons (nVar 3) (aCons (nVar 2) aNil))) sNil)
def rdB : Ev → Option Out := (sSeq rdS (sSeq (sSet 4 (vCl [2, 3] g_p_nearest [] (aCons (nCl g_p_inner [] (aCons (nVar 2) (aCons (nVar 3) aNil))) (aCons (nCl g_p_distance [] (aCons (nVar 2) aNil)) aNil)))) (sSeq (sIf (vtN (tCmpB eqD (nVar 4) (nC (.int 0)))) (sRet (vN [2, 3] (nTup (aCons (nVar 2) (aCons (nVar 3) aNil))))) sNil) (sSet 3 (vN [2, 3, 4] (nTup (aCons (nOp bSub (nOp bIx (nVar 3) (nC (.int 0))) (nOp bMul (nVar 4) (nOp bIx (nVar 2) (nC (.int 0))))) (aCons (nOp bSub (nOp bIx (nVar 3) (nC (.int 1))) (nOp bMul (nVar 4) (nOp bIx (nVar 2) (nC (.int 1))))) aNil))))))))
def rdT : Ev → Option (Bool × Ev) := vtN (nBool (nC (.bl true)))
section
variable {n s a b c d : Int} {z : Option AV}
theorem rd_swap (h : RI n s a b c d) : rdS (Q5 n s a b c d z) = some (.nx (if ln c d < ln a b then Q5 n s c d a b z else Q5 n s a b c d z)) := by
  obtain ⟨ha, hb⟩ := ln_sm h.b1
  obtain ⟨hc, hd⟩ := ln_sm h.b2
  have t := tlt_of (ρ := Q5 n s a b c d z) (nCl1 (a := nVar 3) rfl (ev_distance hc hd)) (nCl1 (a := nVar 2) rfl (ev_distance ha hb))
  by_cases k : ln c d < ln a b
  · rw [if_pos k]
    exact if_t (by rw [vtN_of t, decide_eq_true k]) rfl
  · rw [if_neg k]
    exact if_f (by rw [vtN_of t, decide_eq_false k]) rfl
/-- what is behind the swap -/
theorem rd_near (h : RI n s a b c d) (hn : 0 < n) : ∃ m, (sSet 4 (vCl [2, 3] g_p_nearest [] (aCons (nCl g_p_inner [] (aCons (nVar 2) (aCons (nVar 3) aNil))) (aCons (nCl g_p_distance [] (aCons (nVar 2) aNil)) aNil)))) (Q5 n s a b c d z) = some (.nx (Q5 n s a b c d (some (.int ((2 * inr a b c d + ln a b) / (2 * ln a b)), m)))) := by
  obtain ⟨ha, hb⟩ := ln_sm h.b1
  have hp := h.pos hn
  have h1 := h.b1
  obtain ⟨m, e⟩ := vCl_s (vs := [2, 3]) (nCl2 (ρ := Q5 n s a b c d z) (nCl2 (a := nVar 2) (b := nVar 3) rfl rfl (ev_inner (c := c) (d := d) ha hb)) (nCl1 (a := nVar 2) rfl (ev_distance ha hb)) (ev_nearest (p := inr a b c d) hp (by omega))) rfl
  exact ⟨m, set_nx e (show 4 < 5 by decide)⟩
theorem rd_exit (h : RI n s a b c d) (hn : 0 < n) (hl : ¬ ln c d < ln a b) (hf : (2 * inr a b c d + ln a b) / (2 * ln a b) = 0) : ∃ ρ', rdB (Q5 n s a b c d z) = some (.rt (.tup [pr a b, pr c d], 0) ρ') := by
  have e1 := rd_swap (z := z) h
  rw [if_neg hl] at e1
  obtain ⟨m, e2⟩ := rd_near (z := z) h hn
  rw [hf] at e2
  exact ⟨_, seq_nx e1 (seq_nx e2 (seq_rt (if_t (ρ1 := Q5 n s a b c d (some (.int 0, m))) (by rw [vtN_of (teq_of (i := 0) (j := 0) rfl rfl)]; rfl) (ret_rt (vN_fr (tup2_of (x := pr a b) (y := pr c d) rfl rfl) rfl)))))⟩
theorem rd_turn (h : RI n s a b c d) (hn : 0 < n) (hl : ¬ ln c d < ln a b) {f : Int} (hf : (2 * inr a b c d + ln a b) / (2 * ln a b) = f) (h0 : f ≠ 0) : ∃ z', rdB (Q5 n s a b c d z) = some (.nx (Q5 n s a b (c - f * a) (d - f * b) z')) := by
  have e1 := rd_swap (z := z) h
  rw [if_neg hl] at e1
  obtain ⟨m, e2⟩ := rd_near (z := z) h hn
  obtain ⟨ha, hb⟩ := ln_sm h.b1
  rw [hf] at e2
  have e3 : nTup (aCons (nOp bSub (nOp bIx (nVar 3) (nC (.int 0))) (nOp bMul (nVar 4) (nOp bIx (nVar 2) (nC (.int 0))))) (aCons (nOp bSub (nOp bIx (nVar 3) (nC (.int 1))) (nOp bMul (nVar 4) (nOp bIx (nVar 2) (nC (.int 1))))) aNil)) (Q5 n s a b c d (some (.int f, m))) = some (pr (c - f * a) (d - f * b)) :=
    tup2_of (sub_of (px_of rfl) (mul_of rfl (px_of rfl) (.inr ha))) (sub_of (py_of rfl) (mul_of rfl (py_of rfl) (.inr hb)))
  exact ⟨some (.int f, 0), seq_nx e1 (seq_nx e2 (seq_nx (if_f (ρ1 := Q5 n s a b c d (some (.int f, m))) (by rw [vtN_of (teq_of (i := f) (j := 0) rfl rfl), decide_eq_false h0]) rfl) (set_nx (vN_fr e3 rfl) (show 3 < 5 by decide))))⟩
end
structure Done (n s a b c d : Int) : Prop where
  ri : RI n s a b c d
  le : ln a b ≤ ln c d
  inn : 2 * absI (inr a b c d) ≤ ln a b
/-- no swap is wanted -/
theorem rd_run0 {n s : Int} (hn : 0 < n) (k : Nat) (ih : ∀ (a b c d : Int) (z : Option AV) (fuel : Nat), RI n s a b c d → (ln a b + ln c d).toNat < k → 2 * k + 1 ≤ fuel → ∃ a' b' c' d', Done n s a' b' c' d' ∧ Rt (whileL rdT rdB fuel) (Q5 n s a b c d z) (.tup [pr a' b', pr c' d'], 0))
    {a b c d : Int} {z : Option AV} {fuel : Nat} (h : RI n s a b c d) (hl : ¬ ln c d < ln a b) (hk : (ln a b + ln c d).toNat ≤ k) (hf : 2 * k + 2 ≤ fuel) : ∃ a' b' c' d', Done n s a' b' c' d' ∧ Rt (whileL rdT rdB (fuel + 1)) (Q5 n s a b c d z) (.tup [pr a' b', pr c' d'], 0) := by
  have hp := h.pos hn
  by_cases f0 : (2 * inr a b c d + ln a b) / (2 * ln a b) = 0
  · obtain ⟨ρ', e⟩ := rd_exit (z := z) h hn hl f0
    exact ⟨a, b, c, d, ⟨h, by omega, near_zero hp f0⟩, _, wh_rt rfl e⟩
  · generalize ef : (2 * inr a b c d + ln a b) / (2 * ln a b) = f at f0
    obtain ⟨z', e⟩ := rd_turn (z := z) h hn hl ef f0
    have hs := ln_sub a b c d f
    rcases near_less hp ef f0 with hd | ⟨rfl, hd⟩
    · have h' : RI n s a b (c - f * a) (d - f * b) := h.sub (by omega)
      have hq := (RI.swap h').pos hn
      obtain ⟨a', b', c', d', hD, ρ', e'⟩ := ih a b (c - f * a) (d - f * b) z' fuel h' (by omega) (by omega)
      exact ⟨a', b', c', d', hD, ρ', wh_nx rfl e e'⟩
    · have e0 : (1 : Int) * (2 * inr a b c d - 1 * ln a b) = 0 := by omega
      rw [e0] at hs
      have h' : RI n s a b (c - 1 * a) (d - 1 * b) := h.sub (by omega)
      have ei : inr a b (c - 1 * a) (d - 1 * b) = inr a b c d - ln a b := by unfold inr ln; grind
      have f1 : (2 * inr a b (c - 1 * a) (d - 1 * b) + ln a b) / (2 * ln a b) = 0 := by
        rw [show 2 * inr a b (c - 1 * a) (d - 1 * b) + ln a b = 0 by omega, Int.zero_ediv]
      obtain ⟨ρ', e'⟩ := rd_exit (z := z') h' hn (by omega) f1
      obtain ⟨fuel', rfl⟩ : ∃ fuel', fuel = fuel' + 1 := ⟨fuel - 1, by omega⟩
      exact ⟨a, b, c - 1 * a, d - 1 * b, ⟨h', by omega, near_zero hp f1⟩, ρ', wh_nx rfl e (wh_rt rfl e')⟩
theorem rd_run {n s : Int} (hn : 0 < n) : ∀ (k : Nat) (a b c d : Int) (z : Option AV) (fuel : Nat), RI n s a b c d → (ln a b + ln c d).toNat < k → 2 * k + 1 ≤ fuel → ∃ a' b' c' d', Done n s a' b' c' d' ∧ Rt (whileL rdT rdB fuel) (Q5 n s a b c d z) (.tup [pr a' b', pr c' d'], 0)
  | 0, _, _, _, _, _, _, _, h, _ => by omega
  | k + 1, a, b, c, d, z, fuel, h, hk, hf => by
    obtain ⟨fuel', rfl⟩ : ∃ fuel', fuel = fuel' + 1 := ⟨fuel - 1, by omega⟩
    by_cases hl : ln c d < ln a b
    · -- the swap, then as if the two stood the other way round
      obtain ⟨a', b', c', d', hD, ρ', e⟩ := rd_run0 hn k (fun a b c d z fuel => rd_run hn k a b c d z fuel) (z := z) (fuel := fuel') h.swap (by omega) (by omega) (by omega)
      refine ⟨a', b', c', d', hD, ρ', ?_⟩
      have e1 := rd_swap (z := z) h
      rw [if_pos hl] at e1
      have e2 := rd_swap (z := z) h.swap
      rw [if_neg (by omega)] at e2
      rw [whileL] at e ⊢
      have : rdB (Q5 n s a b c d z) = rdB (Q5 n s c d a b z) := by
        unfold rdB sSeq
        rw [e1, e2]
      show ((rdT (Q5 n s a b c d z)).bind _) = _
      rw [show rdT (Q5 n s a b c d z) = some (true, Q5 n s a b c d z) from rfl]
      rw [show rdT (Q5 n s c d a b z) = some (true, Q5 n s c d a b z) from rfl] at e
      simp only [Option.bind_some, if_true] at e ⊢
      rw [this]
      exact e
    · exact rd_run0 hn k (fun a b c d z fuel => rd_run hn k a b c d z fuel) h hl (by omega) (by omega)
theorem ev_reduced {n s : Int} (hn : 0 < n) (hn2 : n ≤ 1001) (hs : 0 ≤ s) (hs2 : s < n) : ∃ a b c d, Done n s a b c d ∧ g_p_reduced [(.int n, 0), (.int s, 0)] = some ((.tup [pr a b, pr c d], 0), [(.int n, 0), (.int s, 0)]) := by
  have hnn : n * n ≤ 1001 * 1001 := Int.mul_le_mul hn2 hn2 (by omega) (by decide)
  have hss : s * s ≤ 1001 * 1001 := Int.mul_le_mul (by omega) (by omega) hs (by decide)
  have h : RI n s n 0 s 1 := by
    refine ⟨by simp, by simp, .inl (by omega), ?_, ?_⟩ <;> unfold ln <;> omega
  obtain ⟨a, b, c, d, hD, r⟩ := rd_run hn ((ln n 0 + ln s 1).toNat + 1) n 0 s 1 none (redFuel (Q5 n s n 0 s 1 none)) h (by omega) (by
    show _ ≤ (2 * (ln n 0 + ln s 1)).toNat + 3
    omega)
  refine ⟨a, b, c, d, hD, runF0 (np := 2) rfl rfl ?_⟩
  refine Rt.seq (set_nx (vN_fr (d := pr n 0) (tup2_of rfl rfl) rfl) (show 2 < 5 by decide)) (Rt.seq (set_nx (vN_fr (d := pr s 1) (tup2_of rfl rfl) rfl) (show 3 < 5 by decide)) ?_)
  exact r
end K47
namespace K47
open PySem PySem.Spec PyProof.Rows L2 Dv
/-! ### the shortest ways -/
def Lt (n s x y : Int) : Prop := (x - s * y) % n = 0
theorem Lt.dvd {n s x y : Int} (h : Lt n s x y) : n ∣ x - s * y := Int.dvd_of_emod_eq_zero h
theorem Lt.of {n s x y : Int} (h : n ∣ x - s * y) : Lt n s x y := Int.emod_eq_zero_of_dvd h
theorem Lt.neg {n s x y : Int} (h : Lt n s x y) : Lt n s (-x) (-y) := .of (by
  have e : -x - s * -y = -(x - s * y) := by grind
  rw [e]
  exact Int.dvd_neg.mpr h.dvd)
theorem ln_neg (x y : Int) : ln (-x) (-y) = ln x y := by unfold ln; grind
theorem comb {n s a b c d x y : Int} (hn : 0 < n) (h : RI n s a b c d) (hx : Lt n s x y) : ∃ u v, x = u * a + v * c ∧ y = u * b + v * d := by
  obtain ⟨k1, e1⟩ := hx.dvd
  obtain ⟨k2, e2⟩ := Lt.dvd (x := a) (y := b) h.w1
  obtain ⟨k3, e3⟩ := Lt.dvd (x := c) (y := d) h.w2
  have f1 : x * d - y * c = n * (k1 * d - y * k3) := by grind
  have f2 : a * y - b * x = n * (k2 * y - b * k1) := by grind
  rcases h.dt with dt | dt
  · refine ⟨k1 * d - y * k3, k2 * y - b * k1, ?_, ?_⟩
    · have : n * x = n * ((k1 * d - y * k3) * a + (k2 * y - b * k1) * c) := by grind
      exact Int.eq_of_mul_eq_mul_left (by omega) this
    · have : n * y = n * ((k1 * d - y * k3) * b + (k2 * y - b * k1) * d) := by grind
      exact Int.eq_of_mul_eq_mul_left (by omega) this
  · refine ⟨-(k1 * d - y * k3), -(k2 * y - b * k1), ?_, ?_⟩
    · have : n * x = n * (-(k1 * d - y * k3) * a + -(k2 * y - b * k1) * c) := by grind
      exact Int.eq_of_mul_eq_mul_left (by omega) this
    · have : n * y = n * (-(k1 * d - y * k3) * b + -(k2 * y - b * k1) * d) := by grind
      exact Int.eq_of_mul_eq_mul_left (by omega) this
theorem ln_comb (a b c d u v : Int) : ln (u * a + v * c) (u * b + v * d) = u * u * ln a b + 2 * (u * v) * inr a b c d + v * v * ln c d := by
  unfold ln inr
  grind
theorem absI_le {p q : Int} (h : 2 * absI p ≤ q) : 2 * p ≤ q ∧ -q ≤ 2 * p := by
  unfold absI at h
  split at h <;> omega
theorem sq_pos {v : Int} (h : v ≠ 0) : 1 ≤ v * v := by
  rcases (show v < 0 ∨ 0 < v by omega) with h | h
  · have := Int.mul_pos_of_neg_of_neg h h; omega
  · have := Int.mul_pos h h; omega
/-- u² - |u v| + v² -/
theorem quad {u v : Int} (hv : v ≠ 0) : 1 ≤ u * u - u * v + v * v ∧ 1 ≤ u * u + u * v + v * v := by
  have h1 := sq0 (2 * u - v)
  have h2 := sq0 (2 * u + v)
  have h3 := sq_pos hv
  have e1 : (2 * u - v) * (2 * u - v) = 4 * (u * u - u * v + v * v) - 3 * (v * v) := by grind
  have e2 : (2 * u + v) * (2 * u + v) = 4 * (u * u + u * v + v * v) - 3 * (v * v) := by grind
  omega
theorem long {la lc p u v : Int} (h0 : 0 < la) (hl : la ≤ lc) (hp : 2 * p ≤ la ∧ -la ≤ 2 * p) (hv : v ≠ 0) : lc ≤ u * u * la + 2 * (u * v) * p + v * v * lc := by
  have q := quad (u := u) hv
  have h3 := sq_pos hv
  have g1 : 0 ≤ (v * v - 1) * (lc - la) := Int.mul_nonneg (by omega) (by omega)
  rcases Int.le_total 0 (u * v) with t | t
  · have g2 : 0 ≤ (u * v) * (2 * p + la) := Int.mul_nonneg t (by omega)
    have g3 : 0 ≤ (u * u - u * v + v * v - 1) * la := Int.mul_nonneg (by omega) (by omega)
    grind
  · have g2 : 0 ≤ (-(u * v)) * (la - 2 * p) := Int.mul_nonneg (by omega) (by omega)
    have g3 : 0 ≤ (u * u + u * v + v * v - 1) * la := Int.mul_nonneg (by omega) (by omega)
    grind
theorem Done.pp {n s a b c d : Int} (h : Done n s a b c d) : 2 * inr a b c d ≤ ln a b ∧ -ln a b ≤ 2 * inr a b c d := absI_le h.inn
/-- every way but parallel ones is as long as the second -/
theorem second_least {n s a b c d x y : Int} (hn : 0 < n) (h : Done n s a b c d) (hx : Lt n s x y) (hp : x * b ≠ y * a) : ln c d ≤ ln x y := by
  obtain ⟨u, v, rfl, rfl⟩ := comb hn h.ri hx
  rw [ln_comb]
  refine long (h.ri.pos hn) h.le h.pp fun z => hp ?_
  subst z
  grind
/-- every way is as long as the first -/
theorem first_least {n s a b c d x y : Int} (hn : 0 < n) (h : Done n s a b c d) (hx : Lt n s x y) (h0 : 0 < ln x y) : ln a b ≤ ln x y := by
  by_cases hp : x * b = y * a
  · obtain ⟨u, v, rfl, rfl⟩ := comb hn h.ri hx
    have hv : v = 0 := by
      have e : v * (a * d - b * c) = 0 := by grind
      rcases Int.mul_eq_zero.mp e with z | z
      · exact z
      · have := h.ri.dt; omega
    subst hv
    have hu : u ≠ 0 := fun z => by
      subst z
      simp [ln] at h0
    rw [ln_comb] at h0 ⊢
    have h1 := sq_pos hu
    have hp := h.ri.pos hn
    have : 0 ≤ (u * u - 1) * ln a b := Int.mul_nonneg (by omega) (by omega)
    grind
  · exact Int.le_trans h.le (second_least hn h hx hp)
theorem swap_first {n s a b c d : Int} (hn : 0 < n) (h : Done n s a b c d) : Lt n s a b ∧ Lt n s c d ∧ 0 < ln a b ∧ c * b ≠ d * a := by
  refine ⟨h.ri.w1, h.ri.w2, h.ri.pos hn, fun z => ?_⟩
  have := h.ri.dt
  have : a * d - b * c = 0 := by grind
  omega
theorem Lt.full {n s : Int} : Lt n s n 0 := .of (by rw [Int.mul_zero, Int.sub_zero]; exact Int.dvd_refl n)
theorem sq_lt {x n : Int} (hn : 0 ≤ n) (h : x * x ≤ n * n) : -n ≤ x ∧ x ≤ n := by
  have h1 : ¬ n + 1 ≤ x := fun z => by
    have := Int.mul_le_mul z z (by omega) (by omega)
    have e : (n + 1) * (n + 1) = n * n + 2 * n + 1 := by grind
    omega
  have h2 : ¬ n + 1 ≤ -x := fun z => by
    have := Int.mul_le_mul z z (by omega) (by omega)
    rw [Int.neg_mul_neg] at this
    have e : (n + 1) * (n + 1) = n * n + 2 * n + 1 := by grind
    omega
  omega
theorem first_small {n s a b c d : Int} (hn : 0 < n) (h : Done n s a b c d) : ln a b ≤ n * n := by
  have e : ln n 0 = n * n := by unfold ln; grind
  rw [← e]
  refine first_least hn h Lt.full ?_
  rw [e]
  exact Int.mul_pos hn hn
theorem det_eq (a b c d : Int) : ln a b * ln c d = (a * d - b * c) * (a * d - b * c) + inr a b c d * inr a b c d := by
  unfold ln inr
  grind
theorem second_small {n s a b c d : Int} (hn : 0 < n) (h : Done n s a b c d) : ln c d ≤ n * n := by
  have e := det_eq a b c d
  have hd : (a * d - b * c) * (a * d - b * c) = n * n := by rcases h.ri.dt with z | z <;> rw [z] <;> grind
  rw [hd] at e
  have hp := h.ri.pos hn
  have pp := h.pp
  have hl := h.le
  generalize ln a b = A at *
  generalize ln c d = C at *
  generalize inr a b c d = p at *
  by_cases h1 : A = 1
  · subst h1
    have : p = 0 := by omega
    subst this
    omega
  · have g1 : 0 ≤ (A - 2 * p) * (A + 2 * p) := Int.mul_nonneg (by omega) (by omega)
    have g2 : 0 ≤ A * (C - A) := Int.mul_nonneg (by omega) (by omega)
    have g3 : 0 ≤ (A - 2) * C := Int.mul_nonneg (by omega) (by omega)
    have g4 : (A - 2 * p) * (A + 2 * p) = A * A - 4 * (p * p) := by grind
    have g5 : A * (C - A) = A * C - A * A := by grind
    have g6 : (A - 2) * C = A * C - 2 * C := by grind
    omega
/-- where a way stands in the search -/
theorem place {n s x y : Int} (hn : 0 < n) (h : Lt n s x y) (h1 : -n ≤ x) (h2 : x < n) : x = (s * y) % n ∨ x = (s * y) % n - n := by
  obtain ⟨k, e⟩ := h.dvd
  have e2 : s * y = x + n * -k := by grind
  rw [e2, Int.add_mul_emod_self_left]
  rcases (show x < 0 ∨ 0 ≤ x by omega) with z | z
  · have : x % n = x + n := by
      rw [← Int.add_emod_right, Int.emod_eq_of_lt (by omega) (by omega)]
    omega
  · rw [Int.emod_eq_of_lt z h2]
    exact .inl rfl
theorem Lt.near {n s y : Int} : Lt n s ((s * y) % n) y ∧ Lt n s ((s * y) % n - n) y := by
  have e := Int.mul_ediv_add_emod (s * y) n
  constructor
  · exact .of ⟨-((s * y) / n), by grind⟩
  · exact .of ⟨-((s * y) / n) - 1, by grind⟩
/-- seen in a mirror -/
theorem mirror {n s a b c d a' b' c' d' : Int} (hn : 0 < n) (h : Done n s a b c d) (h' : Done n (-s % n) a' b' c' d') : ln a' b' = ln a b := by
  have e := Int.mul_ediv_add_emod (-s) n
  have m1 : Lt n s a' (-b') := by
    obtain ⟨k, ek⟩ := Lt.dvd (x := a') (y := b') h'.ri.w1
    exact .of ⟨k - (-s / n) * b', by grind⟩
  have m2 : Lt n (-s % n) a (-b) := by
    obtain ⟨k, ek⟩ := Lt.dvd (x := a) (y := b) h.ri.w1
    exact .of ⟨k - (-s / n) * b, by grind⟩
  have l1 : ∀ x y : Int, ln x (-y) = ln x y := fun x y => by unfold ln; grind
  have := first_least hn h m1 (by rw [l1]; exact h'.ri.pos hn)
  have := first_least hn h' m2 (by rw [l1]; exact h.ri.pos hn)
  rw [l1] at *
  omega
end K47
namespace Dv
open PySem PySem.Spec PyProof.Rows L2
theorem forL_up {g : Ev → Option Out} {b : D → Ev → Option Ev} {I : Nat → Ev → Prop} (lo : Int) (n : Nat) (H : ∀ (j : Nat) (ρ : Ev), j < n → I j ρ → ∃ ρ1 ρ2, b (.int (lo + j)) ρ = some ρ1 ∧ g ρ1 = some (.nx ρ2) ∧ I (j + 1) ρ2) {ρ : Ev} (h0 : I 0 ρ) : ∃ ρ', forL b g ((List.range n).map fun j : Nat => .int (lo + j)) ρ = some (.nx ρ') ∧ I n ρ' := by
  have key : ∀ (k j : Nat) (ρ : Ev), j + k = n → I j ρ → ∃ ρ', forL b g ((List.range' j k).map fun j : Nat => .int (lo + j)) ρ = some (.nx ρ') ∧ I n ρ' := by
    intro k
    induction k with
    | zero => intro j ρ e h; rw [Nat.add_zero] at e; subst e; exact ⟨ρ, rfl, h⟩
    | succ k ih =>
      intro j ρ e h
      obtain ⟨ρ1, ρ2, e1, e2, h2⟩ := H j ρ (by omega) h
      obtain ⟨ρ', e3, h3⟩ := ih (j + 1) ρ2 (by omega) h2
      rw [List.range'_succ, List.map_cons]
      exact ⟨ρ', forL_nx e1 e2 e3, h3⟩
  rw [List.range_eq_range']
  exact key n 0 ρ (by omega) h0
theorem chain_lt {fa fc fe : Ev → Option D} {ρ : Ev} {i j k : Int} (ea : fa ρ = some (.int i)) (ec : fc ρ = some (.int j)) (ee : fe ρ = some (.int k)) : nChain cLt cLt fa fc fe ρ = some (decide (i < j) && decide (j < k)) := by
  unfold nChain
  rw [ea, ec]
  simp only [Option.bind_some, cLt_int]
  cases decide (i < j)
  · rfl
  · rw [if_pos rfl, ee]
    rfl
theorem lst2_of {a b : Ev → Option D} {ρ : Ev} {x y : D} (ea : a ρ = some x) (eb : b ρ = some y) : fLst (aCons a (aCons b aNil)) ρ = some [x, y] := by
  unfold fLst aCons aNil
  rw [ea, eb]
  show (if [x, y].length ≤ sizeLine then some [x, y] else none) = _
  rw [if_pos (show [x, y].length ≤ sizeLine from sz (show 2 < 1000 by decide))]
theorem niL_of {f : Ev → Option D} {ρ : Ev} {ds : List D} (e : f ρ = some (.lst ds)) : niL f ρ = some ds := by unfold niL; rw [e]; rfl
theorem nOr_t {t u : Ev → Option Bool} {ρ : Ev} (e : t ρ = some true) : nOr t u ρ = some true := by unfold nOr; rw [e]; rfl
theorem nAnd_f {t u : Ev → Option Bool} {ρ : Ev} (e : t ρ = some false) : nAnd t u ρ = some false := by unfold nAnd; rw [e]; rfl
end Dv
namespace K47
open PySem PySem.Spec PyProof.Rows L2 Dv
theorem nsm {n : Nat} (h : n < 1000) : Sm n := by unfold Sm; omega
/-! ### _law_least -/
abbrev L7 (n s B : Int) (y x w f : Option AV) : Ev := [some (.int n, 0), some (.int s, 0), some (.int B, 0), y, x, w, f]
def up (B w y : Int) : Int := if 0 < ln w y ∧ ln w y < B then ln w y else B
def leI : Ev → Option Out := (sSeq (sSet 6 (vN [3, 5] (nOp bAdd (nOp bMul (nVar 5) (nVar 5)) (nOp bMul (nVar 3) (nVar 3))))) (sIf (vtN (nChain cLt cLt (nC (.int 0)) (nVar 6) (nVar 2))) (sSet 2 (vN [6] (nVar 6))) sNil))
theorem ev_leI {n s B y w : Int} {x f : Option AV} (hw : Sm w) (hy : Sm y) : leI (L7 n s B (some (.int y, 0)) x (some (.int w, 0)) f) = some (.nx (L7 n s (up B w y) (some (.int y, 0)) x (some (.int w, 0)) (some (.int (ln w y), 0)))) := by
  refine seq_nx (set_nx (vN_s (add_of (mul_of rfl rfl (.inl hw)) (mul_of rfl rfl (.inl hy))) rfl) (show 6 < 7 by decide)) ?_
  have t := chain_lt (fa := nC (.int 0)) (fc := nVar 6) (fe := nVar 2) (ρ := L7 n s B (some (.int y, 0)) x (some (.int w, 0)) (some (.int (ln w y), 0))) (i := 0) (j := ln w y) (k := B) rfl rfl rfl
  unfold up
  by_cases c : 0 < ln w y ∧ ln w y < B
  · rw [if_pos c]
    rw [decide_eq_true c.1, decide_eq_true c.2] at t
    exact if_t (vtN_of t) (set_nx (vN_s (d := .int (ln w y)) rfl rfl) (show 2 < 7 by decide))
  · rw [if_neg c]
    rw [← Bool.decide_and, decide_eq_false c] at t
    exact if_f (vtN_of t) rfl
def leF : Ev → Option Out := (sFor (iNI [0, 4] (niL (nFr (fLst (aCons (nVar 4) (aCons (nOp bSub (nVar 4) (nVar 0)) aNil)))))) (gNm 5) leI)
theorem ev_leF {n s B y x : Int} {w f : Option AV} (hx : Sm x) (hx2 : Sm (x - n)) (hy : Sm y) : ∃ w' f', leF (L7 n s B (some (.int y, 0)) (some (.int x, 0)) w f) = some (.nx (L7 n s (up (up B x y) (x - n) y) (some (.int y, 0)) (some (.int x, 0)) w' f')) := by
  have e : niL (nFr (fLst (aCons (nVar 4) (aCons (nOp bSub (nVar 4) (nVar 0)) aNil)))) (L7 n s B (some (.int y, 0)) (some (.int x, 0)) w f) = some [.int x, .int (x - n)] := niL_of (nFr_of (lst2_of rfl (sub_of rfl rfl)))
  exact ⟨_, _, for_of (iNI_of e) (forL_nx rfl (ev_leI hx hy) (forL_nx rfl (ev_leI hx2 hy) rfl))⟩
def leB : Ev → Option Out := (sIf (vtN (tCmpB cLt (nOp bMul (nVar 3) (nVar 3)) (nVar 2))) (sSeq (sSet 4 (vN [0, 1, 3] (nOp bMod (nCa cInt (aCons (nOp bMul (nVar 1) (nVar 3)) aNil)) (nVar 0)))) leF) sNil)
def stp (n s B y : Int) : Int := if y * y < B then up (up B (s * y % n) y) (s * y % n - n) y else B
theorem ev_leB {n s B y : Int} {x w f : Option AV} (hn : 0 < n) (hn2 : n < 1000) (hy : Sm y) : ∃ x' w' f', leB (L7 n s B (some (.int y, 0)) x w f) = some (.nx (L7 n s (stp n s B y) (some (.int y, 0)) x' w' f')) := by
  have t := tlt_of (fa := nOp bMul (nVar 3) (nVar 3)) (fc := nVar 2) (ρ := L7 n s B (some (.int y, 0)) x w f) (mul_of rfl rfl (.inl hy)) rfl
  have h0 := Int.emod_nonneg (s * y) (b := n) (by omega)
  have h1 := Int.emod_lt_of_pos (s * y) hn
  unfold stp
  by_cases c : y * y < B
  · rw [if_pos c]
    rw [decide_eq_true c] at t
    obtain ⟨w', f', e⟩ := ev_leF (n := n) (s := s) (B := B) (y := y) (x := s * y % n) (w := w) (f := f) (by unfold Sm; omega) (by unfold Sm; omega) hy
    exact ⟨_, w', f', if_t (vtN_of t) (seq_nx (set_nx (vN_s (modp_of (int1_of (mul_of rfl rfl (.inr hy))) rfl hn) rfl) (show 4 < 7 by decide)) e)⟩
  · rw [if_neg c]
    rw [decide_eq_false c] at t
    exact ⟨x, w, f, if_f (vtN_of t) rfl⟩
/-- what the search knows behind the first k rows -/
structure LK (n s : Int) (k : Nat) (B : Int) : Prop where
  ex : ∃ u v, Lt n s u v ∧ 0 < ln u v ∧ ln u v = B
  all : ∀ y : Nat, y < k → ∀ w, (w = s * y % n ∨ w = s * y % n - n) → 0 < ln w y → B ≤ ln w y
  top : B ≤ n * n
theorem up_le (B w y : Int) : up B w y ≤ B ∧ (0 < ln w y → up B w y ≤ ln w y) := by
  unfold up
  split <;> omega
theorem up_ex {n s B w y : Int} (hw : Lt n s w y) (h : ∃ u v, Lt n s u v ∧ 0 < ln u v ∧ ln u v = B) : ∃ u v, Lt n s u v ∧ 0 < ln u v ∧ ln u v = up B w y := by
  unfold up
  split
  · rename_i c; exact ⟨w, y, hw, c.1, rfl⟩
  · exact h
theorem LK.next {n s B : Int} {k : Nat} (h : LK n s k B) : LK n s (k + 1) (stp n s B k) := by
  unfold stp
  have u1 := up_le B (s * k % n) k
  have u2 := up_le (up B (s * k % n) k) (s * k % n - n) k
  by_cases c : (k : Int) * k < B
  · rw [if_pos c]
    refine ⟨up_ex Lt.near.2 (up_ex Lt.near.1 h.ex), fun y hy w hw h0 => ?_, by have := h.top; omega⟩
    rcases (show y < k ∨ y = k by omega) with z | rfl
    · have := h.all y z w hw h0
      omega
    · rcases hw with rfl | rfl
      · have := u1.2 h0; omega
      · exact u2.2 h0
  · rw [if_neg c]
    refine ⟨h.ex, fun y hy w hw h0 => ?_, h.top⟩
    rcases (show y < k ∨ y = k by omega) with z | rfl
    · exact h.all y z w hw h0
    · have := sq0 w
      unfold ln
      omega
theorem LK.first {n s : Int} (hn : 0 < n) : LK n s 0 (n * n) :=
  ⟨⟨n, 0, Lt.full, by unfold ln; have := Int.mul_pos hn hn; omega, by unfold ln; omega⟩, fun y hy => absurd hy (Nat.not_lt_zero y), Int.le_refl _⟩
theorem LK.done {s B a b c d : Int} {m : Nat} (hn : 0 < m) (h : LK m s m B) (hD : Done m s a b c d) : B = ln a b := by
  have hm : (0 : Int) < m := by omega
  obtain ⟨u, v, h1, h2, h3⟩ := h.ex
  have lo := first_least hm hD h1 h2
  have hs := first_small hm hD
  have hp := hD.ri.pos hm
  have key : ∀ a b : Int, Lt m s a b → 0 < ln a b → ln a b ≤ m * m → 0 ≤ b → B ≤ ln a b := by
    intro a b h4 h5 h6 h7
    have ha := sq0 a
    have hb := sq0 b
    have e : ln a b = a * a + b * b := rfl
    have ra := sq_lt (x := a) (n := (m : Int)) (by omega) (by omega)
    have rb := sq_lt (x := b) (n := (m : Int)) (by omega) (by omega)
    have tp := h.top
    by_cases c1 : b = m
    · subst c1; omega
    · by_cases c2 : a = m
      · subst c2; omega
      · obtain ⟨y, rfl⟩ := Int.eq_ofNat_of_zero_le h7
        exact h.all y (by omega) a (place hm h4 ra.1 (by omega)) h5
  rcases Int.le_total 0 b with z | z
  · have := key a b hD.ri.w1 hp hs z
    omega
  · have := key (-a) (-b) (Lt.neg hD.ri.w1) (by rw [ln_neg]; exact hp) (by rw [ln_neg]; exact hs) (by omega)
    rw [ln_neg] at this
    omega
theorem ev_least_l {s a b c d : Int} {m : Nat} (hn : 0 < m) (hm : m < 1000) (hD : Done m s a b c d) : g_l_least [(.int m, 0), (.int s, 0)] = some ((.int (ln a b), 0), [(.int m, 0), (.int s, 0)]) := by
  refine runF0 (np := 2) rfl rfl ?_
  obtain ⟨ρ', e, B, z3, z4, z5, z6, hk, rfl⟩ := forL_up (g := leB) (b := gNm 3) (I := fun j ρ => ∃ B z3 z4 z5 z6, LK m s j B ∧ ρ = L7 m s B z3 z4 z5 z6) 0 m (fun j ρ hj hI => by
    obtain ⟨B, z3, z4, z5, z6, hk, rfl⟩ := hI
    obtain ⟨x', w', f', e⟩ := ev_leB (n := m) (s := s) (B := B) (y := j) (x := z4) (w := z5) (f := z6) (by omega) (by omega) (nsm (by omega))
    exact ⟨L7 m s B (some (.int j, 0)) z4 z5 z6, _, by rw [Int.zero_add]; rfl, e, _, _, _, _, _, hk.next, rfl⟩) (ρ := L7 m s (m * m) none none none none) ⟨_, _, _, _, _, LK.first (by omega), rfl⟩
  rw [hk.done hn hD] at e
  simp only [Int.zero_add] at e
  have e2 : sFor (iNI [0] (nRg1 (aCons (nVar 0) aNil))) (gNm 3) leB (L7 m s (m * m) none none none none) = some (.nx (L7 m s (ln a b) z3 z4 z5 z6)) := for_of (iNI_of (nRg1_of (n := m) rfl hm)) (by rw [rng0]; exact e)
  refine Rt.seq (set_nx (vN_s (mul_of rfl rfl (.inl (nsm hm))) rfl) (show 2 < 7 by decide)) (Rt.seq e2 ?_)
  exact Rt.ret (vN_s (d := .int (ln a b)) rfl rfl)
end K47
namespace K47
open PySem PySem.Spec PyProof.Rows L2 Dv
/-! ### _law_second -/
def oD : Option Int → D
  | none => .non
  | some B => .int B
abbrev L8 (n s a b : Int) (B : Option Int) (y x w f : Option AV) : Ev := [some (.int n, 0), some (.int s, 0), some (pr a b, 0), some (oD B, 0), y, x, w, f]
def less (f : Int) : Option Int → Bool
  | none => true
  | some B => decide (f < B)
def u2 (a b : Int) (B : Option Int) (w y : Int) : Option Int := if w * b ≠ y * a ∧ less (ln w y) B = true then some (ln w y) else B
def seI : Ev → Option Out := (sSeq (sSet 7 (vN [4, 6] (nOp bAdd (nOp bMul (nVar 6) (nVar 6)) (nOp bMul (nVar 4) (nVar 4))))) (sIf (vtN (nAnd (tCmpB cNe (nOp bMul (nVar 6) (nOp bIx (nVar 2) (nC (.int 1)))) (nOp bMul (nVar 4) (nOp bIx (nVar 2) (nC (.int 0))))) (nOr (tCmpB cIs (nVar 3) (nC .non)) (tCmpB cLt (nVar 7) (nVar 3))))) (sSet 3 (vN [7] (nVar 7))) sNil))
theorem cNe_i (i j : Int) : cNe (.int i) (.int j) = some (!decide (i = j)) := by unfold cNe; rw [eqD_int]; rfl
theorem oD_s (B : Option Int) : (oD B).isS = true := by cases B <;> rfl
theorem ev_seI {n s a b y w : Int} {B : Option Int} {x f : Option AV} (hw : Sm w) (hy : Sm y) : seI (L8 n s a b B (some (.int y, 0)) x (some (.int w, 0)) f) = some (.nx (L8 n s a b (u2 a b B w y) (some (.int y, 0)) x (some (.int w, 0)) (some (.int (ln w y), 0)))) := by
  refine seq_nx (set_nx (vN_s (add_of (mul_of rfl rfl (.inl hw)) (mul_of rfl rfl (.inl hy))) rfl) (show 7 < 8 by decide)) ?_
  have t1 : tCmpB cNe (nOp bMul (nVar 6) (nOp bIx (nVar 2) (nC (.int 1)))) (nOp bMul (nVar 4) (nOp bIx (nVar 2) (nC (.int 0)))) (L8 n s a b B (some (.int y, 0)) x (some (.int w, 0)) (some (.int (ln w y), 0))) = some (!decide (w * b = y * a)) := tCmp_of (mul_of rfl (py_of rfl) (.inl hw)) (mul_of rfl (px_of rfl) (.inl hy)) (cNe_i _ _)
  have t2 : nOr (tCmpB cIs (nVar 3) (nC .non)) (tCmpB cLt (nVar 7) (nVar 3)) (L8 n s a b B (some (.int y, 0)) x (some (.int w, 0)) (some (.int (ln w y), 0))) = some (less (ln w y) B) := by
    cases B with
    | none => exact nOr_t (tCmp_of rfl rfl rfl)
    | some B => exact nOr_of (a := false) (tCmp_of (x := .int B) (y := .non) rfl rfl rfl) (tlt_of rfl rfl)
  have t := nAnd_of t1 t2
  unfold u2
  by_cases c : w * b ≠ y * a ∧ less (ln w y) B = true
  · rw [if_pos c]
    rw [decide_eq_false c.1, c.2] at t
    exact if_t (vtN_of t) (set_nx (vN_s (d := .int (ln w y)) rfl rfl) (show 3 < 8 by decide))
  · rw [if_neg c]
    have : (!decide (w * b = y * a) && less (ln w y) B) = false := by
      cases h : less (ln w y) B
      · simp
      · have : w * b = y * a := by
          by_cases z : w * b = y * a
          · exact z
          · exact absurd ⟨z, h⟩ c
        rw [decide_eq_true this]
        rfl
    rw [this] at t
    exact if_f (vtN_of t) rfl
def seF : Ev → Option Out := (sFor (iNI [0, 5] (niL (nFr (fLst (aCons (nVar 5) (aCons (nOp bSub (nVar 5) (nVar 0)) aNil)))))) (gNm 6) seI)
theorem ev_seF {n s a b y x : Int} {B : Option Int} {w f : Option AV} (hx : Sm x) (hx2 : Sm (x - n)) (hy : Sm y) : ∃ w' f', seF (L8 n s a b B (some (.int y, 0)) (some (.int x, 0)) w f) = some (.nx (L8 n s a b (u2 a b (u2 a b B x y) (x - n) y) (some (.int y, 0)) (some (.int x, 0)) w' f')) := by
  have e : niL (nFr (fLst (aCons (nVar 5) (aCons (nOp bSub (nVar 5) (nVar 0)) aNil)))) (L8 n s a b B (some (.int y, 0)) (some (.int x, 0)) w f) = some [.int x, .int (x - n)] := niL_of (nFr_of (lst2_of rfl (sub_of rfl rfl)))
  exact ⟨_, _, for_of (iNI_of e) (forL_nx rfl (ev_seI hx hy) (forL_nx rfl (ev_seI hx2 hy) rfl))⟩
def seB : Ev → Option Out := (sSeq (sSet 5 (vN [0, 1, 4] (nOp bMod (nCa cInt (aCons (nOp bMul (nVar 1) (nVar 4)) aNil)) (nVar 0)))) seF)
def stp2 (n s a b : Int) (B : Option Int) (y : Int) : Option Int := u2 a b (u2 a b B (s * y % n) y) (s * y % n - n) y
theorem ev_seB {n s a b y : Int} {B : Option Int} {x w f : Option AV} (hn : 0 < n) (hn2 : n < 1000) (hy : Sm y) : ∃ x' w' f', seB (L8 n s a b B (some (.int y, 0)) x w f) = some (.nx (L8 n s a b (stp2 n s a b B y) (some (.int y, 0)) x' w' f')) := by
  have h0 := Int.emod_nonneg (s * y) (b := n) (by omega)
  have h1 := Int.emod_lt_of_pos (s * y) hn
  obtain ⟨w', f', e⟩ := ev_seF (n := n) (s := s) (a := a) (b := b) (B := B) (y := y) (x := s * y % n) (w := w) (f := f) (by unfold Sm; omega) (by unfold Sm; omega) hy
  exact ⟨_, w', f', seq_nx (set_nx (vN_s (modp_of (int1_of (mul_of rfl rfl (.inr hy))) rfl hn) rfl) (show 5 < 8 by decide)) e⟩
structure SK (n s a b : Int) (k : Nat) (B : Option Int) : Prop where
  ex : ∀ m, B = some m → ∃ u v, Lt n s u v ∧ u * b ≠ v * a ∧ ln u v = m
  all : ∀ j : Nat, j < k → ∀ w, (w = s * (-n + j) % n ∨ w = s * (-n + j) % n - n) → w * b ≠ (-n + j) * a → ∃ m, B = some m ∧ m ≤ ln w (-n + j)
theorem u2_ex {n s a b w y : Int} {B : Option Int} (hw : Lt n s w y) (h : ∀ m, B = some m → ∃ u v, Lt n s u v ∧ u * b ≠ v * a ∧ ln u v = m) : ∀ m, u2 a b B w y = some m → ∃ u v, Lt n s u v ∧ u * b ≠ v * a ∧ ln u v = m := by
  intro m e
  unfold u2 at e
  split at e
  · rename_i c
    cases e
    exact ⟨w, y, hw, c.1, rfl⟩
  · exact h m e
theorem u2_le {a b w y : Int} {B : Option Int} : (∀ m, B = some m → ∃ m', u2 a b B w y = some m' ∧ m' ≤ m) ∧ (w * b ≠ y * a → ∃ m', u2 a b B w y = some m' ∧ m' ≤ ln w y) := by
  unfold u2
  constructor
  · rintro m rfl
    split
    · rename_i c
      have := of_decide_eq_true c.2
      exact ⟨_, rfl, by omega⟩
    · exact ⟨m, rfl, Int.le_refl _⟩
  · intro c
    split
    · exact ⟨_, rfl, Int.le_refl _⟩
    · rename_i h
      cases B with
      | none => exact absurd ⟨c, rfl⟩ h
      | some m =>
        refine ⟨m, rfl, ?_⟩
        have : ¬ ln w y < m := fun z => h ⟨c, decide_eq_true z⟩
        omega
theorem SK.next {n s a b : Int} {k : Nat} {B : Option Int} (h : SK n s a b k B) : SK n s a b (k + 1) (stp2 n s a b B (-n + k)) := by
  unfold stp2
  refine ⟨u2_ex Lt.near.2 (u2_ex Lt.near.1 h.ex), fun j hj w hw hp => ?_⟩
  have q1 := u2_le (a := a) (b := b) (w := s * (-n + k) % n) (y := -n + k) (B := B)
  have q2 := u2_le (a := a) (b := b) (w := s * (-n + k) % n - n) (y := -n + k) (B := u2 a b B (s * (-n + k) % n) (-n + k))
  rcases (show j < k ∨ j = k by omega) with z | rfl
  · obtain ⟨m, e, l⟩ := h.all j z w hw hp
    obtain ⟨m1, e1, l1⟩ := q1.1 m e
    obtain ⟨m2, e2, l2⟩ := q2.1 m1 e1
    exact ⟨m2, e2, by omega⟩
  · rcases hw with rfl | rfl
    · obtain ⟨m1, e1, l1⟩ := q1.2 hp
      obtain ⟨m2, e2, l2⟩ := q2.1 m1 e1
      exact ⟨m2, e2, by omega⟩
    · exact q2.2 hp
theorem SK.done {s a b c d : Int} {m : Nat} {B : Option Int} (hn : 0 < m) (h : SK m s a b (2 * m + 1) B) (hD : Done m s a b c d) : B = some (ln c d) := by
  have hm : (0 : Int) < m := by omega
  obtain ⟨_, hc, _, hp⟩ := swap_first hm hD
  have hs := second_small hm hD
  have lo : ∀ k, B = some k → ln c d ≤ k := fun k e => by
    obtain ⟨u, v, h1, h2, h3⟩ := h.ex k e
    rw [← h3]
    exact second_least hm hD h1 h2
  have key : ∀ c d : Int, Lt m s c d → c * b ≠ d * a → ln c d ≤ m * m → c < m → ∃ k, B = some k ∧ k ≤ ln c d := by
    intro c d h1 h2 h3 h4
    have hc := sq0 c
    have hd := sq0 d
    have e : ln c d = c * c + d * d := rfl
    have rc := sq_lt (x := c) (n := (m : Int)) (by omega) (by omega)
    have rd := sq_lt (x := d) (n := (m : Int)) (by omega) (by omega)
    obtain ⟨j, hj⟩ := Int.eq_ofNat_of_zero_le (show 0 ≤ d + m by omega)
    have ej : d = -(m : Int) + j := by omega
    subst ej
    exact h.all j (by omega) c (place hm h1 rc.1 h4) h2
  have hc2 := sq0 c
  have hd2 := sq0 d
  have e : ln c d = c * c + d * d := rfl
  have rc := sq_lt (x := c) (n := (m : Int)) (by omega) (by omega)
  by_cases z : c < m
  · obtain ⟨k, e1, l⟩ := key c d hc hp hs z
    have := lo k e1
    rw [e1, show k = ln c d by omega]
  · obtain ⟨k, e1, l⟩ := key (-c) (-d) hc.neg (fun q => hp (by grind)) (by rw [ln_neg]; exact hs) (by omega)
    rw [ln_neg] at l
    have := lo k e1
    rw [e1, show k = ln c d by omega]
theorem bnd_i {i : Int} (h : -2000 < i ∧ i < 2000) : bnd i = true := by
  unfold bnd
  exact decide_eq_true (by omega)
theorem ev_second {s a b c d : Int} {m : Nat} (hn : 0 < m) (hm : m < 1000) (hD : Done m s a b c d) : g_l_second [(.int m, 0), (.int s, 0), (pr a b, 0)] = some ((.int (ln c d), 0), [(.int m, 0), (.int s, 0), (pr a b, 0)]) := by
  refine runF0 (np := 3) rfl rfl ?_
  obtain ⟨ρ', e, B, z4, z5, z6, z7, hk, rfl⟩ := forL_up (g := seB) (b := gNm 4) (I := fun j ρ => ∃ B z4 z5 z6 z7, SK m s a b j B ∧ ρ = L8 m s a b B z4 z5 z6 z7) (-(m : Int)) (2 * m + 1) (fun j ρ hj hI => by
    obtain ⟨B, z4, z5, z6, z7, hk, rfl⟩ := hI
    obtain ⟨x', w', f', e⟩ := ev_seB (n := m) (s := s) (a := a) (b := b) (B := B) (y := -(m : Int) + j) (x := z5) (w := z6) (f := z7) (by omega) (by omega) (by unfold Sm; omega)
    exact ⟨L8 m s a b B (some (.int (-(m : Int) + j), 0)) z5 z6 z7, _, rfl, e, _, _, _, _, _, hk.next, rfl⟩) (ρ := L8 m s a b none none none none none) ⟨none, none, none, none, none, ⟨(fun m z => (by cases z)), (fun _ z => absurd z (Nat.not_lt_zero _))⟩, rfl⟩
  have hB := hk.done hn hD
  subst hB
  have er : rng (-(m : Int)) ((m : Int) + 1) = (List.range (2 * m + 1)).map fun j : Nat => D.int (-(m : Int) + j) := by
    unfold rng
    rw [show (((m : Int) + 1) - -(m : Int)).toNat = 2 * m + 1 by omega]
  have e2 : sFor (iNI [0] (nRg2 (aCons (nUn uNeg (nVar 0)) (aCons (nOp bAdd (nVar 0) (nC (.int 1))) aNil)))) (gNm 4) seB (L8 m s a b none none none none none) = some (.nx (L8 m s a b (some (ln c d)) z4 z5 z6 z7)) := for_of (iNI_of (nRg2_of (i := -(m : Int)) (j := (m : Int) + 1) rfl (bnd_i (by omega)) (bnd_i (by omega)))) (by rw [er]; exact e)
  refine Rt.seq (ρ1 := L8 m s a b none none none none none) rfl (Rt.seq e2 ?_)
  exact Rt.ret (vN_s (d := .int (ln c d)) rfl rfl)
end K47
namespace Dv
open PySem PySem.Spec PyProof.Rows L2
theorem vCl2s {vs : List Nat} {g : PF} {a b : Ev → Option D} {ρ : Ev} {x y : D} {av : AV} {q : List AV} (ea : a ρ = some x) (eb : b ρ = some y) (e : g [(x, 0), (y, 0)] = some (av, q)) (h : av.1.isS = true) : vCl vs g [] (aCons a (aCons b aNil)) ρ = some (av, ρ) := by
  unfold vCl nCall aCons aNil
  rw [ea, eb]
  show ((g [(x, 0), (y, 0)]).map (·.1)).map _ = _
  rw [e]
  show some (av, if av.1.isS = true then ρ else frz vs ρ) = _
  rw [if_pos h]
theorem lst3_of {a b c : Ev → Option D} {ρ : Ev} {x y z : D} (ea : a ρ = some x) (eb : b ρ = some y) (ec : c ρ = some z) : fLst (aCons a (aCons b (aCons c aNil))) ρ = some [x, y, z] := by
  unfold fLst aCons aNil
  rw [ea, eb, ec]
  show (if [x, y, z].length ≤ sizeLine then some [x, y, z] else none) = _
  rw [if_pos (show [x, y, z].length ≤ sizeLine from sz (show 3 < 1000 by decide))]
end Dv
namespace K47
open PySem PySem.Spec PyProof.Rows L2 Dv
theorem same_int (i : Int) : g_l_same 5 [(.int i, 0), (.int i, 0)] = some ((.bl true, 0), [(.int i, 0), (.int i, 0)]) := same_refl 5 _ trivial
theorem add2_v {g : Ev → Option (AV × Ev)} {ρ ρ1 : Ev} {v : Int} (e : g ρ = some ((.int v, 0), ρ1)) : vOp bAdd (vN [] (nC (.int 2))) g ρ = some ((.int (2 + v), 0), ρ1) := by
  unfold vOp
  rw [vN_s (d := .int 2) rfl rfl]
  simp only [Option.bind_some]
  rw [e]
  rfl
theorem draw_vc {ns : List Int} {p n f n0 f0 : Int} {i m : Nat} {g : Ev → Option (AV × Ev)} {L : Int} {ρ ρ1 : Ev} (hi0 : ρ[i]? = some (some (Po ns p n0 f0))) (hg : g ρ = some ((.int L, m), ρ1)) (hi : ρ1[i]? = some (some (Po ns p n f))) (h : 0 < L) (h2 : L < 1000000) :
    ∃ v n' f', 0 ≤ v ∧ v < L ∧ vCall g_l_draw [] (caIo i (caVe g caNil)) ρ = some ((.int v, 0), ρ1.set i (some (Po ns p n' f'))) := by
  obtain ⟨v, n', f', h3, h4, e⟩ := ev_draw ns p n f L h h2
  refine ⟨v, n', f', h3, h4, ?_⟩
  have e1 : caIo i (caVe g caNil) ρ = some ([.inl i, .inr (.int L)], ρ1) := caIo_of hi0 (caVe_of hg rfl)
  have e2 : getA [.inl i, .inr (.int L)] ρ1 = some [Po ns p n f, (.int L, 0)] := by
    unfold getA
    rw [hi]
    rfl
  rw [vCall_of e1 (by simp [ioOf]) e2 e]
  show some (_, (ρ1.set i none).set i _) = _
  rw [List.set_set]
theorem ev_pick (ns : List Int) (p n f : Int) (xs : List D) (h0 : xs ≠ []) (hl : xs.length < 1000) : ∃ x n' f', x ∈ xs ∧ g_l_pick [Po ns p n f, (.lst xs, 0)] = some ((x, 0), [Po ns p n' f', (.lst xs, 0)]) := by
  have hp : 0 < xs.length := List.length_pos_iff.mpr h0
  obtain ⟨v, n', f', h1, h2, e⟩ := draw_v (ns := ns) (p := p) (n := n) (f := f) (i := 0) (vs := [1]) (g := nCa cLen (aCons (nVar 1) aNil)) (L := (xs.length : Int)) (ρ := [some (Po ns p n f), some (.lst xs, 0)]) rfl (len_of rfl rfl) (by omega) (by omega)
  have hv : v.toNat < xs.length := by omega
  refine ⟨xs[v.toNat], n', f', List.getElem_mem hv, runF1 (np := 2) (ρ' := [some (Po ns p n' f'), some (.lst xs, 0)]) rfl rfl (ret_rt ?_) rfl⟩
  show vIx (vN [1] (nVar 1)) _ [some (Po ns p n f), some (.lst xs, 0)] = _
  unfold vIx
  rw [vN_fr (d := .lst xs) rfl rfl]
  simp only [Option.bind_some]
  show Option.bind (vCall g_l_draw [] _ [some (Po ns p n f), some (.lst xs, 0)]) _ = _
  rw [e]
  simp only [Option.bind_some]
  rw [show bIxL (.lst xs) (.int v) = some xs[v.toNat] from atI_get h1 (List.getElem?_eq_getElem hv)]
  rfl
theorem qx {x y : D} : bIx (.tup [x, y]) (.int 0) = some x := atI_get (Int.le_refl 0) rfl
theorem ev_least {n s a b c d : Int} {q : List AV} (h : Done n s a b c d) (e : g_p_reduced [(.int n, 0), (.int s, 0)] = some ((.tup [pr a b, pr c d], 0), q)) : ∃ m q, g_p_least_distance [(.int n, 0), (.int s, 0)] = some ((.int (ln a b), m), q) := by
  obtain ⟨ha, hb⟩ := ln_sm h.ri.b1
  obtain ⟨m, r⟩ := rt_vCl (vs := [0, 1]) (ρ := startE 2 [(.int n, 0), (.int s, 0)]) (nCl1 (a := nOp bIx (nCl g_p_reduced [] (aCons (nVar 0) (aCons (nVar 1) aNil))) (nC (.int 0))) (nOp_of (nCl2 rfl rfl e) rfl qx) (ev_distance ha hb))
  exact ⟨m, _, runF0 (np := 2) rfl rfl r⟩
abbrev T8 (ns : List Int) (P : AV) (z2 z3 z4 z5 z6 z7 : Option AV) : Ev := [some (Sc ns, 0), some P, z2, z3, z4, z5, z6, z7]
def Inv (ns : List Int) (ρ : Ev) : Prop := ∃ p n f z2 z3 z4 z5 z6 z7, ρ = T8 ns (Po ns p n f) z2 z3 z4 z5 z6 z7
def nB' : Ev → Option (AV × Ev) := (vOp bAdd (vN [] (nC (.int 2))) (vCall g_l_draw [] (caIo 1 (caVe (vCall g_l_pick [] (caIo 1 (caVe (vF [] (fLst (aCons (nC (.int 5)) (aCons (nC (.int 23)) (aCons (nC (.int 59)) aNil))))) caNil))) caNil))))
def c1 : Ev → Option Bool := (nOr (nNot (nBool (nCl (g_l_same 5) [] (aCons (nCl g_p_least_distance [] (aCons (nVar 3) (aCons (nVar 4) aNil))) (aCons (nVar 5) aNil))))) (tCmpB cNe (nCl g_l_length [] (aCons (nVar 6) aNil)) (nVar 5)))
def c2 : Ev → Option Bool := (tCmpB cNe (nCl g_l_length [] (aCons (nVar 7) aNil)) (nCl g_l_second [] (aCons (nVar 3) (aCons (nVar 4) (aCons (nVar 6) aNil)))))
def c3 : Ev → Option Bool := (nNot (nBool (nCl (g_l_same 5) [] (aCons (nCl g_p_least_distance [] (aCons (nVar 3) (aCons (nOp bMod (nCa cInt (aCons (nUn uNeg (nVar 4)) aNil)) (nVar 3)) aNil))) (aCons (nVar 5) aNil)))))
def turnB : Ev → Option Out := (sSeq (sExpr (vCall g_l_next [] (caIo 1 caNil))) (sSeq (sSet 3 nB') (sSeq (sSet 4 (vCall g_l_draw [] (caIo 1 (caVe (vN [3] (nVar 3)) caNil)))) (sSeq (sAsg (gTupl 2 (gsCons (gNm 6) (gsCons (gNm 7) gsNil))) (vCl [3, 4] g_p_reduced [] (aCons (nVar 3) (aCons (nVar 4) aNil)))) (sSeq (sSet 5 (vCl [3, 4] g_l_least [] (aCons (nVar 3) (aCons (nVar 4) aNil)))) (sSeq (sIf (vtN c1) (sRet (vN [] (nC (.bl false)))) sNil) (sSeq (sIf (vtN c2) (sRet (vN [] (nC (.bl false)))) sNil) (sIf (vtN c3) (sRet (vN [] (nC (.bl false)))) sNil))))))))
theorem law_eq : b_law = (sSeq (sSet 1 (vCl [0] g_l_pool [] (aCons (nVar 0) aNil))) (sSeq (sFor (iNI [] (nRg1 (aCons (nC (.int 3)) aNil))) (gNm 2) turnB) (sRet (vN [] (nC (.bl true)))))) := rfl
section
variable {ns : List Int} {z2 z3 z4 z5 z6 z7 : Option AV}
theorem ev_next_v (p n f : Int) : ∃ n', sExpr (vCall g_l_next [] (caIo 1 caNil)) (T8 ns (Po ns p n f) z2 z3 z4 z5 z6 z7) = some (.nx (T8 ns (Po ns (p + 1) n' 0) z2 z3 z4 z5 z6 z7)) := by
  obtain ⟨n', e⟩ := ev_next ns p n f
  exact ⟨n', expr_nx (vCall_of (as := [.inl 1]) (ρ1 := T8 ns (Po ns p n f) z2 z3 z4 z5 z6 z7) (caIo_of (a := Po ns p n f) rfl rfl) (by simp [ioOf]) rfl e)⟩
theorem ev_n (p n f : Int) : ∃ (m : Nat) (n' f' : Int), 2 ≤ m ∧ m ≤ 60 ∧ nB' (T8 ns (Po ns p n f) z2 z3 z4 z5 z6 z7) = some ((.int m, 0), T8 ns (Po ns p n' f') z2 z3 z4 z5 z6 z7) := by
  obtain ⟨x, n1, f1, hx, e⟩ := ev_pick ns p n f [.int 5, .int 23, .int 59] (by simp) (show 3 < 1000 by decide)
  obtain ⟨L, rfl, h0, h1⟩ : ∃ L : Int, x = .int L ∧ 0 < L ∧ L ≤ 59 := by
    simp only [List.mem_cons, List.not_mem_nil, or_false] at hx
    rcases hx with rfl | rfl | rfl <;> exact ⟨_, rfl, by decide, by decide⟩
  have e0 : vF [] (fLst (aCons (nC (.int 5)) (aCons (nC (.int 23)) (aCons (nC (.int 59)) aNil)))) (T8 ns (Po ns p n f) z2 z3 z4 z5 z6 z7) = some ((.lst [.int 5, .int 23, .int 59], 1), T8 ns (Po ns p n f) z2 z3 z4 z5 z6 z7) := vF_sc (lst3_of rfl rfl rfl) rfl
  have e1 : vCall g_l_pick [] (caIo 1 (caVe (vF [] (fLst (aCons (nC (.int 5)) (aCons (nC (.int 23)) (aCons (nC (.int 59)) aNil))))) caNil)) (T8 ns (Po ns p n f) z2 z3 z4 z5 z6 z7) = some ((.int L, 0), T8 ns (Po ns p n1 f1) z2 z3 z4 z5 z6 z7) :=
    vCall_of (as := [.inl 1, .inr (.lst [.int 5, .int 23, .int 59])]) (ρ1 := T8 ns (Po ns p n f) z2 z3 z4 z5 z6 z7) (caIo_of (a := Po ns p n f) rfl (caVe_of e0 rfl)) (by simp [ioOf]) rfl e
  obtain ⟨v, n', f', h2, h3, e2⟩ := draw_vc (ns := ns) (p := p) (n := n1) (f := f1) (n0 := n) (f0 := f) (i := 1) (ρ1 := T8 ns (Po ns p n1 f1) z2 z3 z4 z5 z6 z7) rfl e1 rfl h0 (by omega)
  obtain ⟨m, hm⟩ := Int.eq_ofNat_of_zero_le (show 0 ≤ 2 + v by omega)
  have e3 := add2_v e2
  rw [hm] at e3
  exact ⟨m, n', f', by omega, by omega, e3⟩
theorem ev_turn (p n f : Int) : ∃ ρ', turnB (T8 ns (Po ns p n f) z2 z3 z4 z5 z6 z7) = some (.nx ρ') ∧ Inv ns ρ' := by
  obtain ⟨n0, e0⟩ := ev_next_v (ns := ns) (z2 := z2) (z3 := z3) (z4 := z4) (z5 := z5) (z6 := z6) (z7 := z7) p n f
  obtain ⟨m, n1, f1, h2, h3, e1⟩ := ev_n (ns := ns) (z2 := z2) (z3 := z3) (z4 := z4) (z5 := z5) (z6 := z6) (z7 := z7) (p + 1) n0 0
  obtain ⟨s, n2, f2, a2, b2, e2⟩ := draw_v (ns := ns) (p := p + 1) (n := n1) (f := f1) (i := 1) (vs := [3]) (g := nVar 3) (L := m) (ρ := T8 ns (Po ns (p + 1) n1 f1) z2 (some (.int m, 0)) z4 z5 z6 z7) rfl rfl (by omega) (by omega)
  have hm : (0 : Int) < m := by omega
  obtain ⟨a, b, c, d, hD, er⟩ := ev_reduced (n := m) (s := s) hm (by omega) a2 b2
  obtain ⟨a', b', c', d', hD', er'⟩ := ev_reduced (n := m) (s := -s % m) hm (by omega) (Int.emod_nonneg _ (by omega)) (Int.emod_lt_of_pos _ hm)
  have hmir := mirror hm hD hD'
  obtain ⟨ha, hb⟩ := ln_sm hD.ri.b1
  obtain ⟨hc, hd⟩ := ln_sm hD.ri.b2
  have e3 : sAsg (gTupl 2 (gsCons (gNm 6) (gsCons (gNm 7) gsNil))) (vCl [3, 4] g_p_reduced [] (aCons (nVar 3) (aCons (nVar 4) aNil))) (T8 ns (Po ns (p + 1) n2 f2) z2 (some (.int m, 0)) (some (.int s, 0)) z5 z6 z7) = some (.nx (T8 ns (Po ns (p + 1) n2 f2) z2 (some (.int m, 0)) (some (.int s, 0)) z5 (some (pr a b, 0)) (some (pr c d, 0)))) := by
    have := vCl2 (vs := [3, 4]) (a := nVar 3) (b := nVar 4) (ρ := T8 ns (Po ns (p + 1) n2 f2) z2 (some (.int m, 0)) (some (.int s, 0)) z5 z6 z7) rfl rfl er rfl
    unfold sAsg
    rw [this]
    rfl
  have e4 := vCl2s (vs := [3, 4]) (a := nVar 3) (b := nVar 4) (ρ := T8 ns (Po ns (p + 1) n2 f2) z2 (some (.int m, 0)) (some (.int s, 0)) z5 (some (pr a b, 0)) (some (pr c d, 0))) rfl rfl (ev_least_l (by omega) (by omega) hD) rfl
  obtain ⟨k1, q1, el⟩ := ev_least hD er
  obtain ⟨k2, q2, el'⟩ := ev_least hD' er'
  rw [hmir] at el'
  have t1 : c1 (T8 ns (Po ns (p + 1) n2 f2) z2 (some (.int m, 0)) (some (.int s, 0)) (some (.int (ln a b), 0)) (some (pr a b, 0)) (some (pr c d, 0))) = some false := by
    have := nOr_of (nNot_of (nBool_of (nCl2 (ρ := T8 ns (Po ns (p + 1) n2 f2) z2 (some (.int m, 0)) (some (.int s, 0)) (some (.int (ln a b), 0)) (some (pr a b, 0)) (some (pr c d, 0))) (nCl2 (a := nVar 3) (b := nVar 4) rfl rfl el) (b := nVar 5) rfl (same_int _)))) (tCmp_of (nCl1 (a := nVar 6) rfl (ev_length ha hb)) (fc := nVar 5) rfl (cNe_int (ln a b)))
    exact this
  have t2 : c2 (T8 ns (Po ns (p + 1) n2 f2) z2 (some (.int m, 0)) (some (.int s, 0)) (some (.int (ln a b), 0)) (some (pr a b, 0)) (some (pr c d, 0))) = some false :=
    tCmp_of (nCl1 (a := nVar 7) rfl (ev_length hc hd)) (nCl3 (a := nVar 3) (b := nVar 4) (c := nVar 6) rfl rfl rfl (ev_second (by omega) (by omega) hD)) (cNe_int (ln c d))
  have t3 : c3 (T8 ns (Po ns (p + 1) n2 f2) z2 (some (.int m, 0)) (some (.int s, 0)) (some (.int (ln a b), 0)) (some (pr a b, 0)) (some (pr c d, 0))) = some false := by
    have := nNot_of (nBool_of (nCl2 (ρ := T8 ns (Po ns (p + 1) n2 f2) z2 (some (.int m, 0)) (some (.int s, 0)) (some (.int (ln a b), 0)) (some (pr a b, 0)) (some (pr c d, 0))) (nCl2 (a := nVar 3) (b := nOp bMod (nCa cInt (aCons (nUn uNeg (nVar 4)) aNil)) (nVar 3)) rfl (modp_of (int1_of (f := nUn uNeg (nVar 4)) (i := -s) rfl) rfl hm) el') (b := nVar 5) rfl (same_int _)))
    exact this
  refine ⟨T8 ns (Po ns (p + 1) n2 f2) z2 (some (.int m, 0)) (some (.int s, 0)) (some (.int (ln a b), 0)) (some (pr a b, 0)) (some (pr c d, 0)), ?_, ⟨p + 1, n2, f2, _, _, _, _, _, _, rfl⟩⟩
  exact seq_nx e0 (seq_nx (set_nx e1 (show 3 < 8 by decide)) (seq_nx (set_nx e2 (show 4 < 8 by decide)) (seq_nx e3 (seq_nx (set_nx e4 (show 5 < 8 by decide)) (seq_nx (if_f (vtN_of t1) rfl) (seq_nx (if_f (vtN_of t2) rfl) (if_f (vtN_of t3) rfl)))))))
end
theorem ev_law (ns : List Int) : ∃ q, g_law [(.frl (ns.map D.int), 0)] = some ((.bl true, 0), q) := by
  refine ⟨_, runF0 rfl rfl ?_⟩
  rw [law_eq]
  obtain ⟨n, e⟩ := ev_pool ns
  obtain ⟨ρ', e2, _⟩ := forL_inv (g := turnB) (b := gNm 2) (I := Inv ns) (rng 0 3) (T8 ns (Po ns 0 n 0) none none none none none none) (fun d hd ρ hI => by
    obtain ⟨p, n, f, z2, z3, z4, z5, z6, z7, rfl⟩ := hI
    obtain ⟨ρ2, e3, h⟩ := ev_turn (ns := ns) (z2 := some (d, 0)) (z3 := z3) (z4 := z4) (z5 := z5) (z6 := z6) (z7 := z7) p n f
    exact ⟨_, ρ2, rfl, e3, h⟩) ⟨_, _, _, _, _, _, _, _, _, rfl⟩
  exact Rt.seq (set_nx (vCl1 (a := nVar 0) (vs := [0]) (ρ := startE 8 [(Sc ns, 0)]) rfl e rfl) (show 1 < 8 by decide)) (Rt.seq (for_of (iNI_of (nRg1_of (n := 3) rfl (by decide))) e2) (Rt.ret (vN_s rfl rfl)))
theorem law_ok {K : PySem.W.Frag} {H : Hp} {a : Addr} {ns : List Int} (hl : ns.length ≤ 63) (ho : Only H) (hS : SqL K H a (ns.map V.int)) : spV K 1 g_law [.ref a] H (fun v _ => v = .bl true) fun _ _ _ => False := law_end hS (ev_law ns)
end K47
open PySem PySem.W PyProof.Rows
set_option maxHeartbeats 0 in
theorem PySem.Challenge.cw_loomwork_k47_whole_shortest_ways_holds : PySem.Challenge.rw_loomwork_k47_whole_shortest_ways.Holds := by
  w_on; o_law; k_head; (case hw => w_witness2)
  k_fill
  refine L2.walk_of (l := PySem.Challenge.rw_loomwork_k47_whole_shortest_ways) (n := 63) (k := 7) (x := "script") (CX := fun _ => L2.CX0) (sp := fun w => Dv.spV _ 1 K47.g_law) rfl (by decide) rfl ⟨rfl, by decide, by decide⟩ (fun w h Y => PySem.W.kIn_of Y) ?F (fun w H a ns hl ho hS => K47.law_ok hl ho hS) (fun _ _ _ _ _ h => h)
  case F =>
    intro w mg fa h KX G hmg
    refine' K47.all_mk KX G hmg ?a_l_mixed ?l_l_mixed ?d_l_mixed ?k_l_mixed ?a_p_nearest ?l_p_nearest ?d_p_nearest ?k_p_nearest ?a_p_distance ?l_p_distance ?d_p_distance ?k_p_distance ?a_p_inner ?l_p_inner ?d_p_inner ?k_p_inner ?a_l_least ?l_l_least ?d_l_least ?k_l_least ?a_l_length ?l_l_length ?d_l_length ?k_l_length ?a_l_second ?l_l_second ?d_l_second ?k_l_second ?a_l_same ?l_l_same ?d_l_same ?k_l_same ?a_l_rest ?l_l_rest ?d_l_rest ?k_l_rest ?a_p_reduced ?l_p_reduced ?d_p_reduced ?k_p_reduced ?a_l_pool ?l_l_pool ?d_l_pool ?k_l_pool ?a_l_next ?l_l_next ?d_l_next ?k_l_next ?a_l_draw ?l_l_draw ?d_l_draw ?k_l_draw ?a_p_least_distance ?l_p_least_distance ?d_p_least_distance ?k_p_least_distance ?a_l_pick ?l_l_pick ?d_l_pick ?k_l_pick ?a_law ?l_law ?d_law ?k_law ?y_bool ?y_dict ?y_int ?y_isinstance ?y_len ?y_list ?y_range ?y_str ?y_tuple
    (case a_l_mixed => k_is); (case l_l_mixed => k_is); (case d_l_mixed => k_is); (case k_l_mixed => k_is); (case a_p_nearest => k_is); (case l_p_nearest => k_is); (case d_p_nearest => k_is); (case k_p_nearest => k_is); (case a_p_distance => k_is); (case l_p_distance => k_is); (case d_p_distance => k_is); (case k_p_distance => k_is); (case a_p_inner => k_is); (case l_p_inner => k_is); (case d_p_inner => k_is); (case k_p_inner => k_is); (case a_l_least => k_is); (case l_l_least => k_is); (case d_l_least => k_is); (case k_l_least => k_is); (case a_l_length => k_is); (case l_l_length => k_is); (case d_l_length => k_is); (case k_l_length => k_is); (case a_l_second => k_is); (case l_l_second => k_is); (case d_l_second => k_is); (case k_l_second => k_is); (case a_l_same => k_is); (case l_l_same => k_is); (case d_l_same => k_is); (case k_l_same => k_is); (case a_l_rest => k_is); (case l_l_rest => k_is); (case d_l_rest => k_is); (case k_l_rest => k_is); (case a_p_reduced => k_is); (case l_p_reduced => k_is); (case d_p_reduced => k_is); (case k_p_reduced => k_is); (case a_l_pool => k_is); (case l_l_pool => k_is); (case d_l_pool => k_is); (case k_l_pool => k_is); (case a_l_next => k_is); (case l_l_next => k_is); (case d_l_next => k_is); (case k_l_next => k_is); (case a_l_draw => k_is); (case l_l_draw => k_is); (case d_l_draw => k_is); (case k_l_draw => k_is); (case a_p_least_distance => k_is); (case l_p_least_distance => k_is); (case d_p_least_distance => k_is); (case k_p_least_distance => k_is); (case a_l_pick => k_is); (case l_l_pick => k_is); (case d_l_pick => k_is); (case k_l_pick => k_is); (case a_law => k_is); (case l_law => k_is); (case d_law => k_is); (case k_law => k_is); (case y_bool => k_is); (case y_dict => k_is); (case y_int => k_is); (case y_isinstance => k_is); (case y_len => k_is); (case y_list => k_is); (case y_range => k_is); (case y_str => k_is); (case y_tuple => k_is)
