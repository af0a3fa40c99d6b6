import PyProof.Rows.All
import Wide.All
import OpenK.AllK
import Wide.FinOn
import HandS.Codes
import HandS.ForMost
import HandS.Deep
import HandS.Walk
import HandS.FStr
import HandS.IsInst
import HandS.Conv
import HandS.Strs
import HandS.RaiseMore
import PyProof.EqAt
import PyProof.EqKinds
import PyProof.TupleCall
import PyProof.FString
import PyProof.FString4
import KE.KDictZip
import HandS.Base
import HandS.Call
import HandS.List
import HandS.Dict
import HandS.Set
import HandS.SetFor
import HandS.Zip
import KE.KCallOwn
import HandS.More
import HandS.Words
import HandS.Property
import HandS.ClsMeth
import HandS.SlotsOwn
import KE.GoesEnum
import HandS.Comp
import HandS.Iter
import HandS.Star
import HandS.Text
import HandS.Evl
import HandS.Ends
import PyProof.Rows.ReprR
import KE.KStateDown
import HandS.WordsExc
import HandS.Defaults
import HandS.Head0
import HandS.Head1
import HandS.Head2
import HandS.HeadEnd
import HandS.HeadHook1
import HandS.HeadHook2
import HandS.HeadHook3
import HandS.HeadNt
import PySem.Challenge.RW_sixasone_k89_whole_texts_of_webs
set_option Elab.async false
set_option linter.all false
set_option maxRecDepth 100000
set_option maxHeartbeats 0
/-! The plain law, part A: shapes, their sizes, their order of links, rows and bunches as a monoid. -/
namespace Wb
open PySem PySem.Spec

/-- a shape: open, shut, a link, a net, a row (true) or a bunch (false) -/
inductive Sh where
  | opn | sht
  | link (n : List Nat)
  | net (ls : List (List Nat × Nat × Nat))
  | join (k : Bool) (ps : List Sh)
abbrev Lk := List Nat × Nat × Nat

theorem Sh.ind {P : Sh → Prop} (h1 : P .opn) (h2 : P .sht) (h3 : ∀ n, P (.link n)) (h4 : ∀ ls, P (.net ls))
    (h5 : ∀ k ps, (∀ p ∈ ps, P p) → P (.join k ps)) (s : Sh) : P s :=
  Sh.rec (motive_1 := P) (motive_2 := fun ps => ∀ p ∈ ps, P p) h1 h2 h3 h4 h5 (fun _ h => nomatch h)
    (fun p ps hp hps q hq => by
      rcases List.mem_cons.mp hq with rfl | hq
      · exact hp
      · exact hps q hq) s

mutual
def size : Sh → Nat
  | .opn => 0
  | .sht => 0
  | .link _ => 1
  | .net ls => ls.length
  | .join _ ps => sizes ps
def sizes : List Sh → Nat
  | [] => 0
  | p :: r => size p + sizes r
end
mutual
def dep : Sh → Nat
  | .opn => 0
  | .sht => 0
  | .link _ => 0
  | .net _ => 0
  | .join _ ps => deps ps + 1
def deps : List Sh → Nat
  | [] => 0
  | p :: r => max (dep p) (deps r)
end
theorem sizes_app : ∀ a b : List Sh, sizes (a ++ b) = sizes a + sizes b
  | [], b => by simp [sizes]
  | p :: r, b => by simp [sizes, sizes_app r b]; omega
theorem size_mem {p : Sh} : ∀ {ps : List Sh}, p ∈ ps → size p ≤ sizes ps
  | q :: r, h => by
    rcases List.mem_cons.mp h with rfl | h
    · simp [sizes]
    · have := size_mem h; simp [sizes]; omega
theorem dep_mem {p : Sh} : ∀ {ps : List Sh}, p ∈ ps → dep p ≤ deps ps
  | q :: r, h => by
    rcases List.mem_cons.mp h with rfl | h
    · simp [deps]; omega
    · have := dep_mem h; simp [deps]; omega
theorem deps_le {n : Nat} : ∀ {ps : List Sh}, (∀ p ∈ ps, dep p ≤ n) → deps ps ≤ n
  | [], _ => by simp [deps]
  | q :: r, h => by
    have h1 := h q (List.mem_cons_self ..)
    have h2 := deps_le (ps := r) fun p hp => h p (List.mem_cons_of_mem _ hp)
    simp [deps]; omega

/-! ### names, links, their keys -/
def nOpen : List Nat := [111, 112, 101, 110]
def nShut : List Nat := [115, 104, 117, 116]
def nNet : List Nat := [110, 101, 116]
structure NameOk (n : List Nat) : Prop where
  pos : 1 ≤ n.length
  le : n.length ≤ 8
  let_ : ∀ c ∈ n, 97 ≤ c ∧ c ≤ 122
  o : n ≠ nOpen
  s : n ≠ nShut
  n : n ≠ nNet
structure LkOk (l : Lk) : Prop where
  nm : NameOk l.1
  u : l.2.1 < 100
  v : l.2.2 < 100
def turn (l : Lk) : Lk := if l.2.1 ≤ l.2.2 then l else (l.1, l.2.2, l.2.1)
theorem turn_turn (l : Lk) : turn (turn l) = turn l := by
  unfold turn
  by_cases h : l.2.1 ≤ l.2.2
  · simp [h]
  · have : l.2.2 ≤ l.2.1 := by omega
    simp [h, this]
theorem turn_flip (n : List Nat) (u v : Nat) : turn (n, v, u) = turn (n, u, v) := by
  unfold turn
  by_cases h : u ≤ v
  · by_cases h2 : v ≤ u
    · have : u = v := by omega
      subst this; rfl
    · simp [h, h2]
  · have : v ≤ u := by omega
    simp [h, this]
theorem LkOk.turn {l : Lk} (h : LkOk l) : LkOk (turn l) := by
  unfold Wb.turn
  split
  · exact h
  · exact ⟨h.nm, h.v, h.u⟩
/-- a joint by two figures or more -/
def d2 (u : Nat) : List Nat := if u < 10 then 48 :: TL.numL u else TL.numL u
def key (l : Lk) : List Nat := TL.joinL [32] [l.1, d2 l.2.1, d2 l.2.2]
theorem d2_val : ∀ u, u < 100 → NumText.digitsVal (d2 u) = u := by decide +kernel
theorem d2_dig : ∀ u, u < 100 → (d2 u).all (fun c => decide (48 ≤ c) && decide (c ≤ 57)) = true := by decide +kernel
theorem d2_len : ∀ u, u < 100 → (d2 u).length = 2 := by decide +kernel
theorem d2_free {u : Nat} (h : u < 100) : 32 ∉ d2 u := fun hm => by
  have := List.all_eq_true.mp (d2_dig u h) 32 hm
  simp at this
theorem nm_free {n : List Nat} (h : NameOk n) {c : Nat} (hc : c < 97) : c ∉ n := fun hm => by
  have := h.let_ c hm
  omega
theorem key_spl {l : Lk} (h : LkOk l) : TL.spl [32] 0 [] (key l) = [l.1, d2 l.2.1, d2 l.2.2] := by
  unfold key
  refine TL.spl_join (by simp) fun p hp => ?_
  simp at hp
  rcases hp with rfl | rfl | rfl
  · exact nm_free h.nm (by omega)
  · exact d2_free h.u
  · exact d2_free h.v
theorem key_inj {l m : Lk} (h : LkOk l) (h' : LkOk m) (e : key l = key m) : l = m := by
  have e2 := key_spl h
  rw [e, key_spl h'] at e2
  simp only [List.cons.injEq, and_true] at e2
  obtain ⟨e3, e4, e5⟩ := e2
  have e6 := congrArg NumText.digitsVal e4
  have e7 := congrArg NumText.digitsVal e5
  rw [d2_val _ h.u, d2_val _ h'.u] at e6
  rw [d2_val _ h.v, d2_val _ h'.v] at e7
  obtain ⟨a, b, c⟩ := l
  obtain ⟨a', b', c'⟩ := m
  simp only at e3 e6 e7
  subst e3 e6 e7
  rfl

/-! ### the order of texts -/
theorem lt_irrefl : ∀ a : List Nat, ltCps a a = false
  | [] => rfl
  | a :: r => by simp [ltCps, lt_irrefl r]
theorem lt_asymm : ∀ {a b : List Nat}, ltCps a b = true → ltCps b a = false
  | [], [], h => by simp [ltCps] at h
  | [], _ :: _, _ => rfl
  | _ :: _, [], h => by simp [ltCps] at h
  | a :: r, b :: t, h => by
    simp only [ltCps, Bool.or_eq_true, decide_eq_true_eq, Bool.and_eq_true, beq_iff_eq] at h
    simp only [ltCps, Bool.or_eq_false_iff, decide_eq_false_iff_not, Bool.and_eq_false_iff, beq_eq_false_iff_ne]
    rcases h with h | ⟨rfl, h⟩
    · exact ⟨by omega, .inl (by omega)⟩
    · exact ⟨by omega, .inr (lt_asymm h)⟩
theorem le_antisymm : ∀ {a b : List Nat}, ltCps a b = false → ltCps b a = false → a = b
  | [], [], _, _ => rfl
  | [], _ :: _, h, _ => by simp [ltCps] at h
  | _ :: _, [], _, h => by simp [ltCps] at h
  | a :: r, b :: t, h, h' => by
    simp only [ltCps, Bool.or_eq_false_iff, decide_eq_false_iff_not, Bool.and_eq_false_iff, beq_eq_false_iff_ne] at h h'
    have : a = b := by omega
    subst this
    rw [le_antisymm (a := r) (b := t) (h.2.resolve_left (fun z => z rfl)) (h'.2.resolve_left (fun z => z rfl))]
theorem le_trans : ∀ {a b c : List Nat}, ltCps b a = false → ltCps c b = false → ltCps c a = false
  | [], _, [], _, _ => rfl
  | [], [], _ :: _, _, h => by simp [ltCps] at h ⊢
  | [], _ :: _, _ :: _, _, _ => by simp [ltCps]
  | _ :: _, [], _, h, _ => by simp [ltCps] at h
  | _ :: _, _ :: _, [], _, h => by simp [ltCps] at h
  | a :: r, b :: t, c :: q, h, h' => by
    simp only [ltCps, Bool.or_eq_false_iff, decide_eq_false_iff_not, Bool.and_eq_false_iff, beq_eq_false_iff_ne] at h h' ⊢
    refine ⟨by omega, ?_⟩
    by_cases e : c = a
    · right
      have e1 : b = a := by omega
      subst e1 e
      exact le_trans (h.2.resolve_left (fun z => z rfl)) (h'.2.resolve_left (fun z => z rfl))
    · exact .inl e
theorem le_total (a b : List Nat) : ltCps b a = false ∨ ltCps a b = false := by
  cases h : ltCps b a with
  | false => exact .inl rfl
  | true => exact .inr (lt_asymm h)
def leK (a b : Lk) : Bool := !ltCps (key b) (key a)
def ordered (ls : List Lk) : List Lk := (ls.map turn).mergeSort leK
theorem ordered_perm (ls : List Lk) : (ordered ls).Perm (ls.map turn) := List.mergeSort_perm _ _
theorem ordered_sorted (ls : List Lk) : (ordered ls).Pairwise fun a b => leK a b = true := by
  refine List.pairwise_mergeSort (fun a b c h1 h2 => ?_) (fun a b => ?_) _
  · simp only [leK, Bool.not_eq_true', Bool.not_eq_eq_eq_not, Bool.not_true] at h1 h2 ⊢
    exact le_trans h1 h2
  · simp only [leK, Bool.or_eq_true, Bool.not_eq_true']
    exact le_total _ _
theorem ordered_len (ls : List Lk) : (ordered ls).length = ls.length := by
  rw [(ordered_perm ls).length_eq, List.length_map]
theorem ordered_mem {ls : List Lk} {l : Lk} (h : l ∈ ordered ls) : ∃ m ∈ ls, l = turn m := by
  obtain ⟨m, hm, e⟩ := List.mem_map.mp ((ordered_perm ls).mem_iff.mp h)
  exact ⟨m, hm, e.symm⟩
theorem ordered_ok {ls : List Lk} (h : ∀ l ∈ ls, LkOk l) : ∀ l ∈ ordered ls, LkOk l := fun l hl => by
  obtain ⟨m, hm, rfl⟩ := ordered_mem hl
  exact (h m hm).turn
/-- the one sorted list of these links -/
theorem ordered_uniq {ls m : List Lk} (h : ∀ l ∈ ls, LkOk l) (hp : m.Perm (ls.map turn)) (hs : m.Pairwise fun a b => leK a b = true) : m = ordered ls := by
  have ok : ∀ l ∈ m, LkOk l := fun l hl => by
    obtain ⟨x, hx, rfl⟩ := List.mem_map.mp (hp.mem_iff.mp hl)
    exact (h x hx).turn
  refine List.Perm.eq_of_pairwise (fun a b ha hb h1 h2 => ?_) hs (ordered_sorted ls) (hp.trans (ordered_perm ls).symm)
  simp only [leK, Bool.not_eq_true'] at h1 h2
  exact key_inj (ok a ha) (ordered_ok h b hb) (le_antisymm h2 h1)
/-- by keys: what a program that sorts the keys' texts gets -/
theorem ordered_keys {ls : List Lk} {ks : List (List Nat)} (h : ∀ l ∈ ls, LkOk l) (hp : ks.Perm ((ls.map turn).map key)) (hs : ks.Pairwise fun a b => ltCps b a = false) :
    ks = (ordered ls).map key := by
  refine List.Perm.eq_of_pairwise (fun a b ha hb h1 h2 => le_antisymm h2 h1) hs ?_ (hp.trans ((ordered_perm ls).symm.map key))
  rw [List.pairwise_map]
  refine (ordered_sorted ls).imp fun {a b} z => ?_
  simpa [leK] using z
theorem ordered_eq {ls m : List Lk} (h : ∀ l ∈ ls, LkOk l) (hm : ∀ l ∈ m, LkOk l) (hp : (m.map turn).Perm (ls.map turn)) : ordered m = ordered ls :=
  ordered_uniq h ((ordered_perm m).trans hp) (ordered_sorted m)
theorem ordered_turn (ls : List Lk) : (ordered ls).map turn = ordered ls := by
  have : ∀ l ∈ ordered ls, turn l = id l := fun l hl => by
    obtain ⟨m, _, rfl⟩ := ordered_mem hl
    exact turn_turn m
  rw [List.map_congr_left this, List.map_id]
theorem ordered_idem {ls : List Lk} (h : ∀ l ∈ ls, LkOk l) : ordered (ordered ls) = ordered ls :=
  (ordered_uniq (ordered_ok h) (by rw [ordered_turn]) (ordered_sorted ls)).symm
theorem ordered_ne {ls : List Lk} (h : ls ≠ []) : ordered ls ≠ [] := fun e => by
  have := ordered_len ls
  rw [e] at this
  cases ls with
  | nil => exact h rfl
  | cons _ _ => simp at this

/-! ### rows and bunches -/
def idle (k : Bool) : Sh := if k then .opn else .sht
def rul (k : Bool) : Sh := if k then .sht else .opn
def isOpn : Sh → Bool
  | .opn => true
  | _ => false
def isSht : Sh → Bool
  | .sht => true
  | _ => false
def isIdle (k : Bool) (s : Sh) : Bool := if k then isOpn s else isSht s
def isRul (k : Bool) (s : Sh) : Bool := if k then isSht s else isOpn s
def fl1 (k : Bool) : Sh → List Sh
  | .join k' ps => if k' = k then ps else [.join k' ps]
  | s => [s]
def pick (k : Bool) : List Sh → Sh
  | [] => idle k
  | [x] => x
  | l => .join k l
/-- as the program makes it -/
def joined (k : Bool) (ps : List Sh) : Sh :=
  if (ps.flatMap (fl1 k)).any (isRul k) then rul k else pick k ((ps.flatMap (fl1 k)).filter fun s => !isIdle k s)
mutual
def made : Sh → Sh
  | .opn => .opn
  | .sht => .sht
  | .link n => .link n
  | .net ls => if ls.isEmpty then .sht else .net (ordered ls)
  | .join k ps => joined k (mades ps)
def mades : List Sh → List Sh
  | [] => []
  | p :: r => made p :: mades r
end
theorem mades_map : ∀ ps : List Sh, mades ps = ps.map made
  | [] => rfl
  | p :: r => by simp [mades, mades_map r]
/-- what may stand in a made row (k true) or bunch -/
def Atom (k : Bool) : Sh → Prop
  | .opn => False
  | .sht => False
  | .join k' _ => k' ≠ k
  | _ => True
mutual
def Norm : Sh → Prop
  | .opn => True
  | .sht => True
  | .link n => NameOk n
  | .net ls => ls ≠ [] ∧ (∀ l ∈ ls, LkOk l) ∧ ordered ls = ls
  | .join k ps => 2 ≤ ps.length ∧ Norms k ps
def Norms (k : Bool) : List Sh → Prop
  | [] => True
  | p :: r => (Norm p ∧ Atom k p) ∧ Norms k r
end
theorem norms_iff {k : Bool} : ∀ {ps : List Sh}, Norms k ps ↔ ∀ p ∈ ps, Norm p ∧ Atom k p
  | [] => by simp [Norms]
  | p :: r => by
    simp only [Norms, List.forall_mem_cons]
    rw [norms_iff]
mutual
def PlanOk : Sh → Prop
  | .opn => True
  | .sht => True
  | .link n => NameOk n
  | .net ls => ∀ l ∈ ls, LkOk l
  | .join _ ps => PlanOks ps
def PlanOks : List Sh → Prop
  | [] => True
  | p :: r => PlanOk p ∧ PlanOks r
end
theorem planOks_iff : ∀ {ps : List Sh}, PlanOks ps ↔ ∀ p ∈ ps, PlanOk p
  | [] => by simp [PlanOks]
  | p :: r => by
    simp only [PlanOks, List.forall_mem_cons]
    rw [planOks_iff]
mutual
/-- a tree that can be written -/
def TreeOk : Sh → Prop
  | .opn => False
  | .sht => False
  | .link n => NameOk n
  | .net ls => ls ≠ [] ∧ ∀ l ∈ ls, LkOk l
  | .join _ ps => 2 ≤ ps.length ∧ TreeOks ps
def TreeOks : List Sh → Prop
  | [] => True
  | p :: r => TreeOk p ∧ TreeOks r
end
theorem treeOks_iff : ∀ {ps : List Sh}, TreeOks ps ↔ ∀ p ∈ ps, TreeOk p
  | [] => by simp [TreeOks]
  | p :: r => by
    simp only [TreeOks, List.forall_mem_cons]
    rw [treeOks_iff]

/-- the monoid: none is the ruling one -/
def fl (k : Bool) (s : Sh) : Option (List Sh) := if isRul k s then none else if isIdle k s then some [] else some (fl1 k s)
def unfl (k : Bool) : Option (List Sh) → Sh
  | none => rul k
  | some l => pick k l
def cmul : Option (List Sh) → Option (List Sh) → Option (List Sh)
  | some a, some b => some (a ++ b)
  | _, _ => none
def cat : List (Option (List Sh)) → Option (List Sh)
  | [] => some []
  | a :: r => cmul a (cat r)
theorem cmul_nil (a : Option (List Sh)) : cmul (some []) a = a := by cases a <;> simp [cmul]
theorem cmul_nil' (a : Option (List Sh)) : cmul a (some []) = a := by cases a <;> simp [cmul]
theorem cmul_assoc (a b c : Option (List Sh)) : cmul (cmul a b) c = cmul a (cmul b c) := by
  cases a <;> cases b <;> cases c <;> simp [cmul, List.append_assoc]
theorem cat_app : ∀ a b : List (Option (List Sh)), cat (a ++ b) = cmul (cat a) (cat b)
  | [], b => (cmul_nil _).symm
  | x :: a, b => by
    show cmul x (cat (a ++ b)) = cmul (cmul x (cat a)) (cat b)
    rw [cat_app a b, cmul_assoc]
theorem cat_one (a : Option (List Sh)) : cat [a] = a := cmul_nil' a
def FlOk (k : Bool) (o : Option (List Sh)) : Prop := ∀ l, o = some l → ∀ x ∈ l, Norm x ∧ Atom k x
theorem atom_not {k : Bool} {s : Sh} (h : Atom k s) : isRul k s = false ∧ isIdle k s = false ∧ fl1 k s = [s] := by
  cases s with
  | opn => exact h.elim
  | sht => exact h.elim
  | link n => cases k <;> exact ⟨rfl, rfl, rfl⟩
  | net ls => cases k <;> exact ⟨rfl, rfl, rfl⟩
  | join k' ps =>
    have h' : k' ≠ k := h
    refine ⟨by cases k <;> rfl, by cases k <;> rfl, ?_⟩
    show (if k' = k then ps else [.join k' ps]) = _
    rw [if_neg h']
theorem fl_atom {k : Bool} {s : Sh} (h : Atom k s) : fl k s = some [s] := by
  obtain ⟨a, b, c⟩ := atom_not h
  unfold fl
  rw [a, b, c]
  rfl
theorem fl_rul (k : Bool) : fl k (rul k) = none := by cases k <;> rfl
theorem fl_idle (k : Bool) : fl k (idle k) = some [] := by cases k <;> rfl
theorem fl_join (k : Bool) (ps : List Sh) : fl k (.join k ps) = some ps := by
  have a : isRul k (.join k ps) = false := by cases k <;> rfl
  have b : isIdle k (.join k ps) = false := by cases k <;> rfl
  unfold fl
  rw [a, b]
  show some (if k = k then ps else [.join k ps]) = some ps
  rw [if_pos rfl]
theorem fl_unfl {k : Bool} {o : Option (List Sh)} (h : FlOk k o) : fl k (unfl k o) = o := by
  cases o with
  | none => exact fl_rul k
  | some l =>
    cases l with
    | nil => exact fl_idle k
    | cons x r =>
      cases r with
      | nil => exact fl_atom (h _ rfl x (List.mem_cons_self ..)).2
      | cons y r => exact fl_join k _
theorem unfl_norm {k : Bool} {o : Option (List Sh)} (h : FlOk k o) : Norm (unfl k o) := by
  cases o with
  | none => cases k <;> exact trivial
  | some l =>
    cases l with
    | nil => cases k <;> exact trivial
    | cons x r =>
      cases r with
      | nil => exact (h _ rfl x (List.mem_cons_self ..)).1
      | cons y r =>
        show 2 ≤ _ ∧ Norms k _
        exact ⟨by simp, norms_iff.mpr (h _ rfl)⟩
/-- a normal shape: ruling, idle, a join of this kind, or an atom -/
theorem norm_cases {k : Bool} {s : Sh} (h : Norm s) : s = rul k ∨ s = idle k ∨ (∃ ps, s = .join k ps ∧ 2 ≤ ps.length ∧ ∀ p ∈ ps, Norm p ∧ Atom k p) ∨ Atom k s := by
  cases s with
  | opn => cases k <;> simp [rul, idle]
  | sht => cases k <;> simp [rul, idle]
  | link n => exact .inr (.inr (.inr trivial))
  | net ls => exact .inr (.inr (.inr trivial))
  | join k' ps =>
    by_cases e : k' = k
    · subst e
      have h' : 2 ≤ ps.length ∧ Norms k' ps := h
      exact .inr (.inr (.inl ⟨ps, rfl, h'.1, norms_iff.mp h'.2⟩))
    · exact .inr (.inr (.inr e))
theorem fl_ok {k : Bool} {s : Sh} (h : Norm s) : FlOk k (fl k s) := by
  intro l e x hx
  rcases norm_cases (k := k) h with rfl | rfl | ⟨ps, rfl, _, hp⟩ | ha
  · rw [fl_rul] at e; cases e
  · rw [fl_idle] at e; cases e; cases hx
  · rw [fl_join] at e; cases e; exact hp x hx
  · rw [fl_atom ha] at e
    cases e
    rw [List.mem_singleton.mp hx]
    exact ⟨h, ha⟩
theorem unfl_fl {k : Bool} {s : Sh} (h : Norm s) : unfl k (fl k s) = s := by
  rcases norm_cases (k := k) h with rfl | rfl | ⟨ps, rfl, hl, hp⟩ | ha
  · rw [fl_rul]; rfl
  · rw [fl_idle]; rfl
  · rw [fl_join]
    match ps, hl with
    | _ :: _ :: _, _ => rfl
  · rw [fl_atom ha]; rfl
theorem cmul_ok {k : Bool} {a b : Option (List Sh)} (ha : FlOk k a) (hb : FlOk k b) : FlOk k (cmul a b) := by
  intro l e x hx
  cases a with
  | none => cases e
  | some a =>
    cases b with
    | none => cases e
    | some b =>
      cases e
      rcases List.mem_append.mp hx with h | h
      · exact ha _ rfl x h
      · exact hb _ rfl x h
theorem cat_ok {k : Bool} : ∀ {os : List (Option (List Sh))}, (∀ o ∈ os, FlOk k o) → FlOk k (cat os)
  | [], _ => fun l e x hx => by cases e; cases hx
  | o :: r, h => cmul_ok (h o (List.mem_cons_self ..)) (cat_ok fun z hz => h z (List.mem_cons_of_mem _ hz))
/-- the flat list of normal parts -/
theorem flat_cat {k : Bool} : ∀ {ps : List Sh}, (∀ p ∈ ps, Norm p) →
    (match cat (ps.map (fl k)) with
      | none => (ps.flatMap (fl1 k)).any (isRul k) = true
      | some l => (ps.flatMap (fl1 k)).any (isRul k) = false ∧ (ps.flatMap (fl1 k)).filter (fun s => !isIdle k s) = l)
  | [], _ => ⟨rfl, rfl⟩
  | p :: r, h => by
    have ih := flat_cat (k := k) (ps := r) fun q hq => h q (List.mem_cons_of_mem _ hq)
    have hp := h p (List.mem_cons_self ..)
    show (match cmul (fl k p) (cat (r.map (fl k))) with
      | none => _
      | some l => _)
    simp only [List.flatMap_cons, List.any_append, List.filter_append]
    rcases norm_cases (k := k) hp with rfl | rfl | ⟨ps, rfl, _, hq⟩ | ha
    · have e1 : (fl1 k (rul k)).any (isRul k) = true := by cases k <;> rfl
      rw [fl_rul, e1]
      simp [cmul]
    · have e1 : (fl1 k (idle k)).any (isRul k) = false := by cases k <;> rfl
      have e2 : (fl1 k (idle k)).filter (fun s => !isIdle k s) = [] := by cases k <;> rfl
      rw [fl_idle, e1, e2, cmul_nil]
      simpa using ih
    · have e0 : fl1 k (.join k ps) = ps := if_pos rfl
      have e1 : ps.any (isRul k) = false := by
        rw [List.any_eq_false]
        intro x hx
        rw [(atom_not (hq x hx).2).1]
        simp
      have e2 : ps.filter (fun s => !isIdle k s) = ps := by
        rw [List.filter_eq_self]
        intro x hx
        rw [(atom_not (hq x hx).2).2.1]
        rfl
      rw [fl_join, e0, e1, e2]
      cases q : cat (r.map (fl k)) with
      | none => rw [q] at ih; simpa [cmul] using ih
      | some l => rw [q] at ih; simpa [cmul] using ih
    · obtain ⟨a1, a2, a3⟩ := atom_not ha
      have e1 : (fl1 k p).any (isRul k) = false := by rw [a3]; simp [a1]
      have e2 : (fl1 k p).filter (fun s => !isIdle k s) = [p] := by rw [a3]; simp [a2]
      rw [fl_atom ha, e1, e2]
      cases q : cat (r.map (fl k)) with
      | none => rw [q] at ih; simpa [cmul] using ih
      | some l => rw [q] at ih; simpa [cmul] using ih
theorem joined_eq {k : Bool} {ps : List Sh} (h : ∀ p ∈ ps, Norm p) : joined k ps = unfl k (cat (ps.map (fl k))) := by
  have z := flat_cat (k := k) h
  unfold joined
  cases q : cat (ps.map (fl k)) with
  | none =>
    rw [q] at z
    rw [if_pos z]
    rfl
  | some l =>
    rw [q] at z
    rw [if_neg (by rw [z.1]; simp), z.2]
    rfl
theorem maps_ok {k : Bool} {ps : List Sh} (h : ∀ p ∈ ps, Norm p) : ∀ o ∈ ps.map (fl k), FlOk k o := fun o ho => by
  obtain ⟨p, hp, rfl⟩ := List.mem_map.mp ho
  exact fl_ok (h p hp)
theorem joined_norm {k : Bool} {ps : List Sh} (h : ∀ p ∈ ps, Norm p) : Norm (joined k ps) := by
  rw [joined_eq h]
  exact unfl_norm (cat_ok (maps_ok h))
theorem fl_joined {k : Bool} {ps : List Sh} (h : ∀ p ∈ ps, Norm p) : fl k (joined k ps) = cat (ps.map (fl k)) := by
  rw [joined_eq h]
  exact fl_unfl (cat_ok (maps_ok h))
theorem made_norm : ∀ s : Sh, PlanOk s → Norm (made s) := by
  refine Sh.ind (fun _ => trivial) (fun _ => trivial) (fun n h => h) (fun ls h => ?_) (fun k ps ih h => ?_)
  · have h' : ∀ l ∈ ls, LkOk l := h
    show Norm (if ls.isEmpty then .sht else .net (ordered ls))
    cases e : ls.isEmpty with
    | true => exact trivial
    | false =>
      have hne : ls ≠ [] := fun z => by rw [z] at e; cases e
      exact ⟨ordered_ne hne, ordered_ok h', ordered_idem h'⟩
  · have h' : PlanOks ps := h
    show Norm (joined k (mades ps))
    rw [mades_map]
    refine joined_norm fun p hp => ?_
    obtain ⟨q, hq, rfl⟩ := List.mem_map.mp hp
    exact ih q hq (planOks_iff.mp h' q hq)
theorem joined_atoms {k : Bool} {ps : List Sh} (h : ∀ p ∈ ps, Norm p ∧ Atom k p) : joined k ps = pick k ps := by
  rw [joined_eq fun p hp => (h p hp).1]
  have e : ∀ l : List Sh, (∀ p ∈ l, Atom k p) → cat (l.map (fl k)) = some l := by
    intro l
    induction l with
    | nil => intro _; rfl
    | cons x r ih =>
      intro hl
      show cmul (fl k x) (cat (r.map (fl k))) = _
      rw [fl_atom (hl x (List.mem_cons_self ..)), ih fun p hp => hl p (List.mem_cons_of_mem _ hp)]
      rfl
  rw [e ps fun p hp => (h p hp).2]
  rfl
theorem pick_two {k : Bool} {ps : List Sh} (h : 2 ≤ ps.length) : pick k ps = .join k ps := by
  match ps, h with
  | _ :: _ :: _, _ => rfl
/-- what is made stays -/
theorem made_self : ∀ s : Sh, Norm s → made s = s := by
  refine Sh.ind (fun _ => rfl) (fun _ => rfl) (fun n _ => rfl) (fun ls h => ?_) (fun k ps ih h => ?_)
  · have h' : ls ≠ [] ∧ (∀ l ∈ ls, LkOk l) ∧ ordered ls = ls := h
    show (if ls.isEmpty then Sh.sht else .net (ordered ls)) = _
    cases ls with
    | nil => exact absurd rfl h'.1
    | cons x r => rw [h'.2.2]; rfl
  · have h' : 2 ≤ ps.length ∧ Norms k ps := h
    have hn := norms_iff.mp h'.2
    show joined k (mades ps) = _
    have e : ps.map made = ps := by
      have : ∀ p ∈ ps, made p = id p := fun p hp => ih p hp (hn p hp).1
      rw [List.map_congr_left this, List.map_id]
    rw [mades_map, e, joined_atoms hn, pick_two h'.1]
theorem made_made {s : Sh} (h : PlanOk s) : made (made s) = made s := made_self _ (made_norm s h)

/-! ### sizes -/
theorem size_pick (k : Bool) (l : List Sh) : size (pick k l) = sizes l := by
  match l with
  | [] => cases k <;> rfl
  | [x] => simp [pick, sizes]
  | x :: y :: r => rfl
theorem size_fl {k : Bool} {s : Sh} (h : Norm s) : ∀ l, fl k s = some l → sizes l = size s := by
  intro l e
  rcases norm_cases (k := k) h with rfl | rfl | ⟨ps, rfl, _, _⟩ | ha
  · rw [fl_rul] at e; cases e
  · rw [fl_idle] at e; cases e; cases k <;> rfl
  · rw [fl_join] at e; cases e; rfl
  · rw [fl_atom ha] at e; cases e; simp [sizes]
theorem size_cat {k : Bool} : ∀ {ps : List Sh}, (∀ p ∈ ps, Norm p) → ∀ l, cat (ps.map (fl k)) = some l → sizes l ≤ sizes ps
  | [], _, l, e => by cases e; exact Nat.le_refl _
  | p :: r, h, l, e => by
    have e' : cmul (fl k p) (cat (r.map (fl k))) = some l := e
    cases q : fl k p with
    | none => rw [q] at e'; cases e'
    | some a =>
      cases q2 : cat (r.map (fl k)) with
      | none => rw [q, q2] at e'; cases e'
      | some b =>
        rw [q, q2] at e'
        cases e'
        have h1 := size_fl (h p (List.mem_cons_self ..)) a q
        have h2 := size_cat (ps := r) (fun z hz => h z (List.mem_cons_of_mem _ hz)) b q2
        rw [sizes_app]
        simp only [sizes]
        omega
theorem size_joined {k : Bool} {ps : List Sh} (h : ∀ p ∈ ps, Norm p) : size (joined k ps) ≤ sizes ps := by
  rw [joined_eq h]
  cases q : cat (ps.map (fl k)) with
  | none => cases k <;> exact Nat.zero_le _
  | some l =>
    show size (pick k l) ≤ _
    rw [size_pick]
    exact size_cat h l q
theorem sizes_made {ps : List Sh} (h : ∀ p ∈ ps, size (made p) ≤ size p) : sizes (ps.map made) ≤ sizes ps := by
  induction ps with
  | nil => exact Nat.le_refl _
  | cons x r ih =>
    have h1 := h x (List.mem_cons_self ..)
    have h2 := ih fun p hp => h p (List.mem_cons_of_mem _ hp)
    simp only [List.map_cons, sizes]
    omega
theorem size_made : ∀ s : Sh, PlanOk s → size (made s) ≤ size s := by
  refine Sh.ind (fun _ => Nat.le_refl _) (fun _ => Nat.le_refl _) (fun n _ => Nat.le_refl _) (fun ls h => ?_) (fun k ps ih h => ?_)
  · show size (if ls.isEmpty then .sht else .net (ordered ls)) ≤ ls.length
    cases ls.isEmpty with
    | true => exact Nat.zero_le _
    | false =>
      show (ordered ls).length ≤ _
      rw [ordered_len]
      exact Nat.le_refl _
  · have h' := planOks_iff.mp (show PlanOks ps from h)
    show size (joined k (mades ps)) ≤ sizes ps
    rw [mades_map]
    refine Nat.le_trans (size_joined fun p hp => ?_) (sizes_made fun p hp => ih p hp (h' p hp))
    obtain ⟨q, hq, rfl⟩ := List.mem_map.mp hp
    exact made_norm q (h' q hq)
theorem tree_size : ∀ s : Sh, TreeOk s → dep s + 1 ≤ size s := by
  refine Sh.ind (fun h => h.elim) (fun h => h.elim) (fun n _ => Nat.le_refl _) (fun ls h => ?_) (fun k ps ih h => ?_)
  · have h' : ls ≠ [] ∧ _ := h
    cases ls with
    | nil => exact absurd rfl h'.1
    | cons x r => show 0 + 1 ≤ r.length + 1; omega
  · have h' : 2 ≤ ps.length ∧ TreeOks ps := h
    have ht := treeOks_iff.mp h'.2
    have all : ∀ l : List Sh, (∀ p ∈ l, dep p + 1 ≤ size p) → l.length ≤ sizes l ∧ (l ≠ [] → deps l + l.length ≤ sizes l) := by
      intro l
      induction l with
      | nil => intro _; exact ⟨Nat.le_refl _, fun z => absurd rfl z⟩
      | cons x r ihl =>
        intro hl
        have h1 := hl x (List.mem_cons_self ..)
        obtain ⟨h2, h3⟩ := ihl fun p hp => hl p (List.mem_cons_of_mem _ hp)
        simp only [sizes, List.length_cons, deps]
        refine ⟨by omega, fun _ => ?_⟩
        cases r with
        | nil => simp [deps, sizes]; omega
        | cons y r =>
          have h4 := h3 (List.cons_ne_nil _ _)
          simp only [List.length_cons] at h2 h4 ⊢
          omega
    have := (all ps fun p hp => ih p hp (ht p hp)).2 (fun e => by rw [e] at h'; exact absurd h'.1 (by simp))
    show deps ps + 1 + 1 ≤ sizes ps
    omega
theorem atom_tree {k : Bool} {s : Sh} (h : Norm s) (a : Atom k s) (ih : s ≠ .opn → s ≠ .sht → TreeOk s) : TreeOk s :=
  ih (fun e => by rw [e] at a; exact a) (fun e => by rw [e] at a; exact a)
theorem norm_tree : ∀ s : Sh, Norm s → s ≠ .opn → s ≠ .sht → TreeOk s := by
  refine Sh.ind (fun _ h _ => absurd rfl h) (fun _ _ h => absurd rfl h) (fun n h _ _ => h) (fun ls h _ _ => ?_) (fun k ps ih h _ _ => ?_)
  · have h' : ls ≠ [] ∧ (∀ l ∈ ls, LkOk l) ∧ ordered ls = ls := h
    exact ⟨h'.1, h'.2.1⟩
  · have h' : 2 ≤ ps.length ∧ Norms k ps := h
    have hn := norms_iff.mp h'.2
    exact ⟨h'.1, treeOks_iff.mpr fun p hp => atom_tree (hn p hp).1 (hn p hp).2 (ih p hp (hn p hp).1)⟩
theorem tree_plan : ∀ s : Sh, TreeOk s → PlanOk s := by
  refine Sh.ind (fun h => h.elim) (fun h => h.elim) (fun n h => h) (fun ls h => h.2) (fun k ps ih h => ?_)
  have h' : 2 ≤ ps.length ∧ TreeOks ps := h
  have ht := treeOks_iff.mp h'.2
  exact planOks_iff.mpr fun p hp => ih p hp (ht p hp)
theorem norm_plan (s : Sh) (h : Norm s) : PlanOk s := by
  cases s with
  | opn => trivial
  | sht => trivial
  | _ => exact tree_plan _ (norm_tree _ h (fun e => nomatch e) (fun e => nomatch e))
end Wb

/-! The frame of the walk: data, what is hidden from them, the store, and what readings come to. -/
namespace Wb
open PySem PySem.Spec PyProof.Rows L2 SX

/-- data of any depth; webs too -/
inductive Dt where
  | non | bl (b : Bool) | int (i : Int) | str (s : List Nat) | lst (ds : List Dt) | tup (ds : List Dt) | web (d : Dt) | dci (kvs : List (Int × Int)) | dcs (kvs : List (List Nat × List Nat))
/-- what is fixed: the written part, the classes Web and Cursor -/
structure Cf where
  K : PySem.W.Frag
  C : Addr
  CC : Addr
  aO : Addr
  aS : Addr
  aB : Addr
  aG : Addr
def shF (v : V) : List (Str × V) := [("shape", v)]
def curF (t : List Nat) (i g : Nat) : List (Str × V) := [("text", V.str (S t)), ("at", V.int (i : Int)), ("begun", V.int (g : Int))]
mutual
inductive R (c : Cf) (H : Hp) : V → Dt → Prop where
  | non : R c H .non .non
  | bl (b : Bool) : R c H (.bl b) (.bl b)
  | int (i : Int) : R c H (.int i) (.int i)
  | str (l : List Nat) : R c H (.str (S l)) (.str l)
  | lst {a : Addr} {xs : List V} {ds : List Dt} : H a = some (.lst xs) → RA c H xs ds → R c H (.ref a) (.lst ds)
  | tup {a : Addr} {xs : List V} {ds : List Dt} : SqT c.K H a xs → RA c H xs ds → R c H (.ref a) (.tup ds)
  | web {a dx : Addr} {v : V} {d : Dt} : H a = some (.ins c.C dx (shF v)) → R c H v d → R c H (.ref a) (.web d)
  | dci {a : Addr} {kvs : List (Int × Int)} : H a = some (.dK (kvs.map fun p => ((Sum.inl p.1 : Key), V.int p.2))) → R c H (.ref a) (.dci kvs)
  | dcs {a : Addr} {kvs : List (List Nat × List Nat)} : H a = some (.dK (kvs.map fun p => ((Sum.inr (S p.1) : Key), V.str (S p.2)))) → R c H (.ref a) (.dcs kvs)
inductive RA (c : Cf) (H : Hp) : List V → List Dt → Prop where
  | nil : RA c H [] []
  | cons {v : V} {vs : List V} {d : Dt} {ds : List Dt} : R c H v d → RA c H vs ds → RA c H (v :: vs) (d :: ds)
end
theorem same_t {K : PySem.W.Frag} {H H' : Hp} {a : Addr} {xs : List V} (e : Same H H') (h : SqT K H a xs) : SqT K H' a xs := by
  rcases h with (h | ⟨o, h⟩) | h
  · exact .inl (.inl (e _ _ h))
  · exact .inl (.inr ⟨o, e _ _ h⟩)
  · exact .inr h
section
variable {c : Cf} {H H' : Hp}
mutual
theorem R.mono (e : Same H H') : ∀ {v : V} {d : Dt}, R c H v d → R c H' v d
  | _, _, .non => .non
  | _, _, .bl b => .bl b
  | _, _, .int i => .int i
  | _, _, .str l => .str l
  | _, _, .lst h r => .lst (e _ _ h) (RA.mono e r)
  | _, _, .tup h r => .tup (same_t e h) (RA.mono e r)
  | _, _, .web h r => .web (e _ _ h) (R.mono e r)
  | _, _, .dci h => .dci (e _ _ h)
  | _, _, .dcs h => .dcs (e _ _ h)
theorem RA.mono (e : Same H H') : ∀ {vs : List V} {ds : List Dt}, RA c H vs ds → RA c H' vs ds
  | _, _, .nil => .nil
  | _, _, .cons r t => .cons (R.mono e r) (RA.mono e t)
end
theorem RA.len : ∀ {vs : List V} {ds : List Dt}, RA c H vs ds → vs.length = ds.length
  | _, _, .nil => rfl
  | _, _, .cons _ t => by simp [RA.len t]
theorem RA.get : ∀ {vs : List V} {ds : List Dt} {i : Nat} {d : Dt}, RA c H vs ds → ds[i]? = some d → ∃ v, vs[i]? = some v ∧ R c H v d
  | _, _, _, _, .nil, e => by simp at e
  | _, _, 0, _, .cons r _, e => by simp at e; subst e; exact ⟨_, rfl, r⟩
  | _, _, i + 1, d, .cons _ t, e => by
    obtain ⟨v, h1, h2⟩ := RA.get (i := i) (d := d) t (by simpa using e)
    exact ⟨v, by simpa using h1, h2⟩
theorem RA.get' : ∀ {vs : List V} {ds : List Dt} {i : Nat} {v : V}, RA c H vs ds → vs[i]? = some v → ∃ d, ds[i]? = some d ∧ R c H v d
  | _, _, _, _, .nil, e => by simp at e
  | _, _, 0, _, .cons r _, e => by simp at e; subst e; exact ⟨_, rfl, r⟩
  | _, _, i + 1, v, .cons _ t, e => by
    obtain ⟨d, h1, h2⟩ := RA.get' (i := i) (v := v) t (by simpa using e)
    exact ⟨d, by simpa using h1, h2⟩
theorem RA.app : ∀ {xs ys : List V} {ds es : List Dt}, RA c H xs ds → RA c H ys es → RA c H (xs ++ ys) (ds ++ es)
  | _, _, _, _, .nil, s => s
  | _, _, _, _, .cons r t, s => .cons r (RA.app t s)
theorem RA.snoc {xs : List V} {ds : List Dt} {v : V} {d : Dt} (h : RA c H xs ds) (r : R c H v d) : RA c H (xs ++ [v]) (ds ++ [d]) := h.app (.cons r .nil)
theorem RA.strs : ∀ {xs : List V} {ls : List (List Nat)}, RA c H xs (ls.map Dt.str) → xs = (ls.map S).map V.str
  | [], [], _ => rfl
  | _, l :: r, .cons (.str _) t => by simp [RA.strs t]
theorem RA.ints : ∀ {xs : List V} {ls : List Int}, RA c H xs (ls.map Dt.int) → xs = ls.map V.int
  | [], [], _ => rfl
  | _, l :: r, .cons (.int _) t => by simp [RA.ints t]
theorem RA.bls : ∀ {xs : List V} {ls : List Bool}, RA c H xs (ls.map Dt.bl) → xs = ls.map V.bl
  | [], [], _ => rfl
  | _, l :: r, .cons (.bl _) t => by simp [RA.bls t]
theorem ra_strs : ∀ ls : List (List Nat), RA c H ((ls.map S).map V.str) (ls.map Dt.str)
  | [] => .nil
  | l :: r => .cons (.str l) (ra_strs r)
theorem ra_ints : ∀ ls : List Int, RA c H (ls.map V.int) (ls.map Dt.int)
  | [] => .nil
  | l :: r => .cons (.int l) (ra_ints r)
end

/-! ### what is hidden -/
abbrev WS := Addr → Bool
def hide (W : WS) (H : Hp) : Hp := fun b => if W b = true then none else H b
def add (W : WS) (o : Addr) : WS := fun b => W b || decide (b = o)
def Live (W : WS) (H : Hp) : Prop := ∀ b, W b = true → H b ≠ none
theorem add_self {W : WS} {o : Addr} : add W o o = true := by simp [add]
theorem add_of {W : WS} {o b : Addr} (h : W b = true) : add W o b = true := by simp [add, h]
theorem add_ne {W : WS} {o b : Addr} (h : b ≠ o) : add W o b = W b := by simp [add, h]
section
variable {W : WS} {H H' : Hp} {o p b : Addr} {u : HO}
theorem hide_same (e : Same H H') : Same (hide W H) (hide W H') := fun b x h => by
  unfold hide at h ⊢
  split at h
  · cases h
  · rename_i z
    rw [if_neg z]
    exact e b x h
theorem hide_sub : Same (hide W H) H := fun b x h => by
  unfold hide at h
  split at h
  · cases h
  · exact h
theorem hide_less {W' : WS} (h : ∀ b, W b = true → W' b = true) : Same (hide W' H) (hide W H) := fun b x e => by
  unfold hide at e ⊢
  split at e
  · cases e
  · rename_i z
    rw [if_neg fun y => z (h b y)]
    exact e
/-- all but hidden cells stay -/
theorem hide_but (e : ∀ b x, H b = some x → W b = false → H' b = some x) : Same (hide W H) (hide W H') := fun b x h => by
  unfold hide at h ⊢
  split at h
  · cases h
  · rename_i z
    rw [if_neg z]
    exact e b x h (by simpa using z)
theorem hide_at (h : H b = some u) (w : W b = false) : hide W H b = some u := by
  unfold hide
  rw [if_neg (by simp [w])]
  exact h
theorem hide_of (h : hide W H b = some u) : H b = some u ∧ W b = false := by
  unfold hide at h
  split at h
  · cases h
  · rename_i z
    exact ⟨h, by simpa using z⟩
theorem Live.fresh (l : Live W H) (h : H p = none) : W p = false := by
  cases e : W p with
  | false => rfl
  | true => exact absurd h (l p e)
theorem Live.same (l : Live W H) (e : Same H H') : Live W H' := fun b hb => by
  cases q : H b with
  | none => exact absurd q (l b hb)
  | some x => rw [e b x q]; simp
theorem Live.add (l : Live W H) (h : H o = some u) : Live (add W o) H := fun b hb => by
  by_cases e : b = o
  · subst e; rw [h]; simp
  · rw [add_ne e] at hb; exact l b hb
theorem same_upd (h : H p = none) : Same H (upd H p u) := fun b x e => by
  rw [upd_ne (ne_of_none e h)]
  exact e
theorem new_at (l : Live W H) (h : H p = none) : hide W (upd H p u) p = some u := hide_at upd_same (l.fresh h)
end

/-! ### the store -/
inductive Mem where
  | no | pen (b : Nat) | cur (t : List Nat) (i g : Nat)
def Mem.kind : Mem → Nat
  | .no => 0
  | .pen _ => 1
  | .cur _ _ _ => 2
structure Sto where
  c : Option (List Dt)
  m : Mem
def eff (W : WS) (o : Addr) (s : Sto) : WS := match s.c with
  | none => W
  | some _ => add W o
inductive SV where
  | un | d (d : Dt) | own | mem | v (v : V)
def SlOk (c : Cf) (o p : Addr) (H : Hp) : SV → Option V → Prop
  | .un, _ => True
  | .d d, x => ∃ v, x = some v ∧ R c H v d
  | .own, x => x = some (.ref o)
  | .mem, x => x = some (.ref p)
  | .v v, x => x = some v
def Sl (c : Cf) (o p : Addr) (H : Hp) (D : List SV) (st : L2.St) : Prop := ∀ (i : Nat) (s : SV), D[i]? = some s → ∃ x, st[i]? = some x ∧ SlOk c o p H s x
def MemAt (c : Cf) (p : Addr) (W : WS) (H : Hp) : Mem → Prop
  | .no => True
  | .pen b => W p = true ∧ ∃ (l : Addr) (ns : List Int) (i r : Int), H p = some (.lst [.ref l, .int i, .int r]) ∧ SqL c.K (hide W H) l (ns.map V.int) ∧ ns.length ≤ 63 ∧ 0 ≤ i ∧ i + b ≤ 4000000 ∧ 0 ≤ r
  | .cur t i g => W p = true ∧ ∃ dx : Addr, H p = some (.ins c.CC dx (curF t i g))
structure As (c : Cf) (W : WS) (o p : Addr) (s : Sto) (D : List SV) (st : L2.St) (H : Hp) : Prop where
  live : Live W H
  own : ∀ ds, s.c = some ds → W o = false ∧ ∃ xs, H o = some (.lst xs) ∧ RA c (hide (add W o) H) xs ds
  mem : MemAt c p (eff W o s) H s.m
  wp : s.m.kind ≠ 0 → W p = true
  sl : Sl c o p (hide (eff W o s) H) D st
section
variable {c : Cf} {W W' : WS} {o p : Addr} {H H' : Hp} {D : List SV} {st : L2.St} {s : Sto}
theorem SlOk.mono (e : Same H H') : ∀ {s : SV} {x : Option V}, SlOk c o p H s x → SlOk c o p H' s x
  | .un, _, _ => trivial
  | .d _, _, ⟨v, h, r⟩ => ⟨v, h, r.mono e⟩
  | .own, _, h => h
  | .mem, _, h => h
  | .v _, _, h => h
theorem Sl.mono (e : Same H H') (h : Sl c o p H D st) : Sl c o p H' D st := fun i s hs => by
  obtain ⟨x, hx, r⟩ := h i s hs
  exact ⟨x, hx, r.mono e⟩
theorem Sl.set {i : Nat} {v : V} {s : SV} (h : Sl c o p H D st) (r : SlOk c o p H s (some v)) : Sl c o p H (D.set i s) (st.set i (some v)) := fun j z hz => by
  rw [List.getElem?_set] at hz
  by_cases e : i = j
  · subst e
    rw [if_pos rfl] at hz
    split at hz
    · rename_i hl
      cases hz
      obtain ⟨x, hx, _⟩ := h i D[i] (by simp [hl])
      have hl2 : i < st.length := (List.getElem?_eq_some_iff.mp hx).1
      exact ⟨some v, by rw [List.getElem?_set, if_pos rfl, if_pos hl2], r⟩
    · cases hz
  · rw [if_neg e] at hz
    obtain ⟨x, hx, q⟩ := h j z hz
    exact ⟨x, by rw [List.getElem?_set, if_neg e]; exact hx, q⟩
theorem Sl.setd {i : Nat} {v : V} {d : Dt} (h : Sl c o p H D st) (r : R c H v d) : Sl c o p H (D.set i (.d d)) (st.set i (some v)) := h.set (s := .d d) ⟨v, rfl, r⟩
theorem MemAt.same (e : Same H H') : ∀ {m : Mem}, MemAt c p W H m → MemAt c p W H' m
  | .no, _ => trivial
  | .pen b, ⟨w, l, ns, i, r, h1, h2, h3⟩ => ⟨w, l, ns, i, r, e _ _ h1, (hide_same e).seq h2, h3⟩
  | .cur t i g, ⟨w, dx, h1⟩ => ⟨w, dx, e _ _ h1⟩
theorem As.same (a : As c W o p s D st H) (e : Same H H') : As c W o p s D st H' :=
  ⟨a.live.same e, fun ds h => let ⟨w, xs, h1, h2⟩ := a.own ds h; ⟨w, xs, e _ _ h1, h2.mono (hide_same e)⟩, a.mem.same e, a.wp, a.sl.mono (hide_same e)⟩
theorem As.lv (a : As c W o p s D st H) : Live (eff W o s) H := by
  unfold eff
  cases q : s.c with
  | none => exact a.live
  | some ds =>
    obtain ⟨_, xs, h, _⟩ := a.own ds q
    exact a.live.add h
theorem As.slots (a : As c W o p s D st H) {D' : List SV} {st' : L2.St} (h : Sl c o p (hide (eff W o s) H) D' st') : As c W o p s D' st' H := ⟨a.live, a.own, a.mem, a.wp, h⟩
end
structure Step (o p : Addr) (s : Sto) (H : Hp) (o2 : Addr) (s2 : Sto) (H2 : Hp) : Prop where
  keep : ∀ b x, H b = some x → (s.c ≠ none → b ≠ o) → (s.m.kind ≠ 0 → b ≠ p) → H2 b = some x
  nw : s2.c ≠ none → (s.c ≠ none ∧ o2 = o) ∨ H o2 = none
  kind : s2.m.kind = s.m.kind
section
variable {c : Cf} {W : WS} {o p o1 o2 : Addr} {H H1 H2 : Hp} {s s1 s2 : Sto} {D : List SV} {st : L2.St}
theorem MemAt.here {W : WS} {H : Hp} {m : Mem} (h : MemAt c p W H m) (k : m.kind ≠ 0) : H p ≠ none ∧ W p = true := by
  cases m with
  | no => exact absurd rfl k
  | pen b => obtain ⟨w, l, ns, i, r, e, _⟩ := h; exact ⟨by rw [e]; simp, w⟩
  | cur t i g => obtain ⟨w, dx, e⟩ := h; exact ⟨by rw [e]; simp, w⟩
theorem Step.pure (e : Same H H2) : Step o p s H o s H2 := ⟨fun b x h _ _ => e b x h, fun h => .inl ⟨h, rfl⟩, rfl⟩
theorem Step.trans {st' : L2.St} {D' : List SV} (a : Step o p s H o1 s1 H1) (m : As c W o1 p s1 D' st' H1) (b : Step o1 p s1 H1 o2 s2 H2) : Step o p s H o2 s2 H2 := by
  refine ⟨fun z x h h1 h2 => b.keep z x (a.keep z x h h1 h2) (fun n => ?_) (fun k => h2 (a.kind ▸ k)), fun n => ?_, b.kind.trans a.kind⟩
  · rcases a.nw n with ⟨h3, e⟩ | h3
    · rw [e]; exact h1 h3
    · exact ne_of_none h h3
  · rcases b.nw n with ⟨h3, e⟩ | h3
    · rw [e]; exact a.nw h3
    · by_cases q : s.c ≠ none ∧ o2 = o
      · exact .inl q
      · right
        cases z : H o2 with
        | none => rfl
        | some x =>
          have : H1 o2 = some x := a.keep o2 x z (fun y e => q ⟨y, e⟩) fun k e => by
            subst e
            have := (m.mem.here (a.kind ▸ k)).1
            exact this h3
          rw [h3] at this
          cases this
end

/-! ### what readings come to -/
/-- pure: the store is not asked, nothing is changed -/
def X (c : Cf) (te : TE) (D : List SV) (d : Dt) : Prop := ∀ (W : WS) (o p : Addr) (st : L2.St) (H : Hp) (Q : VK), Live W H → Sl c o p (hide W H) D st →
  (∀ v H2, Same H H2 → R c (hide W H2) v d → Q v H2) → te st H Q
def XA (c : Cf) (ta : TA) (D : List SV) (ds : List Dt) : Prop := ∀ (W : WS) (o p : Addr) (st : L2.St) (H : Hp) (Q : List V → Hp → Prop), Live W H → Sl c o p (hide W H) D st →
  (∀ vs H2, Same H H2 → RA c (hide W H2) vs ds → Q vs H2) → ta st H Q
def XT (c : Cf) (tt : TT) (D : List SV) (b : Bool) : Prop := ∀ (W : WS) (o p : Addr) (st : L2.St) (H : Hp) (Q : Bool → Hp → Prop), Live W H → Sl c o p (hide W H) D st →
  (∀ H2, Same H H2 → Q b H2) → tt st H Q
/-- with the store -/
def E (c : Cf) (te : TE) (D : List SV) (s : Sto) (P : Dt → Sto → Prop) : Prop := ∀ (W : WS) (o p : Addr) (st : L2.St) (H : Hp) (Q : VK), As c W o p s D st H →
  (∀ v H2 d s2, P d s2 → Step o p s H o s2 H2 → As c W o p s2 D st H2 → R c (hide (eff W o s2) H2) v d → Q v H2) → te st H Q
def EA (c : Cf) (ta : TA) (D : List SV) (s : Sto) (P : List Dt → Sto → Prop) : Prop := ∀ (W : WS) (o p : Addr) (st : L2.St) (H : Hp) (Q : List V → Hp → Prop), As c W o p s D st H →
  (∀ vs H2 ds s2, P ds s2 → Step o p s H o s2 H2 → As c W o p s2 D st H2 → RA c (hide (eff W o s2) H2) vs ds → Q vs H2) → ta st H Q
def ET (c : Cf) (tt : TT) (D : List SV) (s : Sto) (P : Bool → Sto → Prop) : Prop := ∀ (W : WS) (o p : Addr) (st : L2.St) (H : Hp) (Q : Bool → Hp → Prop), As c W o p s D st H →
  (∀ H2 b s2, P b s2 → Step o p s H o s2 H2 → As c W o p s2 D st H2 → Q b H2) → tt st H Q
/-- statements: what follows, what is returned -/
def Z (c : Cf) (ts : TS) (D : List SV) (s : Sto) (Pn : List SV → Sto → Prop) (Pr : Dt → Sto → Prop) : Prop := ∀ (W : WS) (o p : Addr) (st : L2.St) (H : Hp) (F : Ends), As c W o p s D st H →
  (∀ o2 st2 H2 D2 s2, Pn D2 s2 → Step o p s H o2 s2 H2 → As c W o2 p s2 D2 st2 H2 → F.nx st2 H2) →
  (∀ o2 v H2 d s2, Pr d s2 → Step o p s H o2 s2 H2 → As c W o2 p s2 [] [] H2 → R c (hide W H2) v d → F.rt v H2) → ts F st H

section
variable {c : Cf} {te ta tb : TE} {tl tl2 : TA} {D : List SV} {d e : Dt} {ds : List Dt} {s : Sto} {b : Bool} {tt tu : TT}
theorem X.E (h : X c te D d) : E c te D s (fun d' s' => d' = d ∧ s' = s) := fun W o p st H Q a k =>
  h _ o p st H Q a.lv a.sl fun v H2 e r => k v H2 d s ⟨rfl, rfl⟩ (.pure e) (a.same e) r
theorem XA.E (h : XA c tl D ds) : EA c tl D s (fun d' s' => d' = ds ∧ s' = s) := fun W o p st H Q a k =>
  h _ o p st H Q a.lv a.sl fun v H2 e r => k v H2 ds s ⟨rfl, rfl⟩ (.pure e) (a.same e) r
theorem XT.E (h : XT c tt D b) : ET c tt D s (fun d' s' => d' = b ∧ s' = s) := fun W o p st H Q a k =>
  h _ o p st H Q a.lv a.sl fun H2 e => k H2 b s ⟨rfl, rfl⟩ (.pure e) (a.same e)
theorem E.imp {P P' : Dt → Sto → Prop} (h : E c te D s P) (i : ∀ d s', P d s' → P' d s') : E c te D s P' := fun W o p st H Q a k =>
  h W o p st H Q a fun v H2 d s2 q => k v H2 d s2 (i d s2 q)
theorem ET.imp {P P' : Bool → Sto → Prop} (h : ET c tt D s P) (i : ∀ d s', P d s' → P' d s') : ET c tt D s P' := fun W o p st H Q a k =>
  h W o p st H Q a fun H2 d s2 q => k H2 d s2 (i d s2 q)

/-! #### pure expressions -/
theorem x_var {i : Nat} (h : D[i]? = some (.d d)) : X c (tVar i) D d := fun W o p st H Q l a k => by
  obtain ⟨x, hx, v, rfl, r⟩ := a i _ h
  exact ⟨v, hx, k v H (.refl H) r⟩
theorem x_v {i : Nat} {v : V} (h : D[i]? = some (.v v)) (r : ∀ H, R c H v d) : X c (tVar i) D d := fun W o p st H Q l a k => by
  obtain ⟨x, hx, rfl⟩ := a i _ h
  exact ⟨v, hx, k v H (.refl H) (r _)⟩
theorem x_c {v : V} (r : ∀ H, R c H v d) : X c (tC v) D d := fun W o p st H Q l a k => k v H (.refl H) (r _)
theorem x_int {i : Int} : X c (tC (.int i)) D (.int i) := x_c fun _ => .int i
theorem x_bl {b : Bool} : X c (tC (.bl b)) D (.bl b) := x_c fun _ => .bl b
theorem x_non : X c (tC .non) D .non := x_c fun _ => .non
theorem x_str {z : Str} {l : List Nat} (h : z = S l) : X c (tC (.str z)) D (.str l) := x_c fun _ => by rw [h]; exact .str l
theorem xa_nil : XA c tNil D [] := fun W o p st H Q l a k => k [] H (.refl H) .nil
theorem xa_cons (h : X c te D d) (t : XA c tl D ds) : XA c (tCons te tl) D (d :: ds) := fun W o p st H Q l a k =>
  h W o p st H _ l a fun v H1 e1 r => t W o p st H1 _ (l.same e1) (a.mono (hide_same e1)) fun vs H2 e2 rs =>
    k _ H2 (e1.trans e2) (.cons (r.mono (hide_same e2)) rs)
theorem x_tup (h : XA c tl D ds) (hz : ds.length ≤ 100000) : X c (tTup tl) D (.tup ds) := fun W o p st H Q l a k =>
  h W o p st H _ l a fun vs H1 e1 rs => ⟨by rw [rs.len]; exact Nat.le_trans hz (by decide), fun q hq =>
    k _ _ (e1.trans (same_upd hq)) (.tup (SqT.of (new_at (l.same e1) hq)) (rs.mono (hide_same (same_upd hq))))⟩
theorem x_lst (h : XA c tl D ds) (hz : ds.length ≤ 100000) : X c (tLst tl) D (.lst ds) := fun W o p st H Q l a k =>
  h W o p st H _ l a fun vs H1 e1 rs => ⟨by rw [rs.len]; exact Nat.le_trans hz (by decide), fun q hq =>
    k _ _ (e1.trans (same_upd hq)) (.lst (new_at (l.same e1) hq) (rs.mono (hide_same (same_upd hq))))⟩
/-- two places, by a rule on data -/
theorem x_op {r : R2} (ha : X c ta D d) (hb : X c tb D e) {f : Dt}
    (hr : ∀ (W : WS) (H : Hp) (x y : V) (Q : VK), Live W H → R c (hide W H) x d → R c (hide W H) y e → (∀ v H2, Same H H2 → R c (hide W H2) v f → Q v H2) → r x y H Q) : X c (tOp r ta tb) D f := fun W o p st H Q l a k =>
  ha W o p st H _ l a fun x H1 e1 r1 => hb W o p st H1 _ (l.same e1) (a.mono (hide_same e1)) fun y H2 e2 r2 =>
    hr W H2 x y Q ((l.same e1).same e2) (r1.mono (hide_same e2)) r2 fun v H3 e3 r3 => k v H3 ((e1.trans e2).trans e3) r3
theorem x_cb {r : List V → Hp → VK → Prop} (h : XA c tl D ds) {f : Dt}
    (hr : ∀ (W : WS) (H : Hp) (vs : List V) (Q : VK), Live W H → RA c (hide W H) vs ds → (∀ v H2, Same H H2 → R c (hide W H2) v f → Q v H2) → r vs H Q) : X c (tCB r tl) D f := fun W o p st H Q l a k =>
  h W o p st H _ l a fun vs H1 e1 rs => hr W H1 vs Q (l.same e1) rs fun v H2 e2 r2 => k v H2 (e1.trans e2) r2
theorem x_if (ht : XT c tt D b) (ha : b = true → X c ta D d) (hb : b = false → X c tb D d) : X c (tIf tt ta tb) D d := fun W o p st H Q l a k =>
  ht W o p st H _ l a fun H1 e1 => by
    cases b with
    | true => exact iteT (ha rfl W o p st H1 Q (l.same e1) (a.mono (hide_same e1)) fun v H2 e2 => k v H2 (e1.trans e2))
    | false => exact iteF (hb rfl W o p st H1 Q (l.same e1) (a.mono (hide_same e1)) fun v H2 e2 => k v H2 (e1.trans e2))
theorem xt_test (h : X c te D (.bl b)) : XT c (tTest te) D b := fun W o p st H Q l a k =>
  h W o p st H _ l a fun v H1 e1 r => by cases r; exact ⟨b, rfl, k H1 e1⟩
theorem xt_B (h : X c te D (.bl b)) : XT c (tB te) D b := fun W o p st H Q l a k =>
  h W o p st H _ l a fun v H1 e1 r => by cases r; exact ⟨b, rfl, k H1 e1⟩
theorem xt_not (h : XT c tt D b) : XT c (tNot tt) D (!b) := fun W o p st H Q l a k => h W o p st H _ l a k
theorem xt_and {b2 : Bool} (h : XT c tt D b) (h2 : b = true → XT c tu D b2) : XT c (tAnd tt tu) D (b && b2) := fun W o p st H Q l a k =>
  h W o p st H _ l a fun H1 e1 => by
    cases b with
    | true => exact iteT (h2 rfl W o p st H1 Q (l.same e1) (a.mono (hide_same e1)) fun H2 e2 => k H2 (e1.trans e2))
    | false => exact iteF (k H1 e1)
theorem xt_or {b2 : Bool} (h : XT c tt D b) (h2 : b = false → XT c tu D b2) : XT c (tOr tt tu) D (b || b2) := fun W o p st H Q l a k =>
  h W o p st H _ l a fun H1 e1 => by
    cases b with
    | true => exact iteT (k H1 e1)
    | false => exact iteF (h2 rfl W o p st H1 Q (l.same e1) (a.mono (hide_same e1)) fun H2 e2 => k H2 (e1.trans e2))
theorem x_andV {b2 : Bool} (h : X c ta D (.bl b)) (h2 : b = true → X c tb D (.bl b2)) : X c (tAndV ta tb) D (.bl (b && b2)) := fun W o p st H Q l a k =>
  h W o p st H _ l a fun v H1 e1 r => by
    cases r
    refine ⟨b, rfl, ?_⟩
    cases b with
    | true => exact iteT (h2 rfl W o p st H1 Q (l.same e1) (a.mono (hide_same e1)) fun v H2 e2 => k v H2 (e1.trans e2))
    | false => exact iteF (k _ H1 e1 (.bl _))
theorem x_orV {b2 : Bool} (h : X c ta D (.bl b)) (h2 : b = false → X c tb D (.bl b2)) : X c (tOrV ta tb) D (.bl (b || b2)) := fun W o p st H Q l a k =>
  h W o p st H _ l a fun v H1 e1 r => by
    cases r
    refine ⟨b, rfl, ?_⟩
    cases b with
    | true => exact iteT (k _ H1 e1 (.bl _))
    | false => exact iteF (h2 rfl W o p st H1 Q (l.same e1) (a.mono (hide_same e1)) fun v H2 e2 => k v H2 (e1.trans e2))
theorem x_notV (h : X c ta D (.bl b)) : X c (tNotV ta) D (.bl (!b)) := fun W o p st H Q l a k =>
  h W o p st H _ l a fun v H1 e1 r => by
    cases r
    exact ⟨b, rfl, k _ H1 e1 (.bl _)⟩
end

/-! ### promises -/
/-- a def that changes nothing: Rel of its arguments' data and its answer's -/
def spP (c : Cf) (n : Nat) (Rel : List Dt → Dt → Prop) : Sp := fun vs H Q _ => vs.length = n ∧ ∃ (W : WS) (ds : List Dt) (d : Dt), Live W H ∧ RA c (hide W H) vs ds ∧ Rel ds d ∧
  ∀ v H2, Same H H2 → R c (hide W H2) v d → Q v H2
/-- a def with the pen or the cursor as its first argument -/
def spM (c : Cf) (n : Nat) (Pre : List Dt → Mem → Prop) (Post : List Dt → Mem → Dt → Mem → Prop) : Sp := fun vs H Q _ => ∃ (p : Addr) (us : List V), vs = .ref p :: us ∧ us.length = n ∧
  ∃ (W : WS) (ds : List Dt) (m : Mem), Live W H ∧ RA c (hide W H) us ds ∧ MemAt c p W H m ∧ m.kind ≠ 0 ∧ Pre ds m ∧
  ∀ v H2 d m2, Post ds m d m2 → m2.kind = m.kind → (∀ b x, H b = some x → b ≠ p → H2 b = some x) → MemAt c p W H2 m2 → R c (hide W H2) v d → Q v H2
theorem spP_len {c : Cf} {n : Nat} {Rel : List Dt → Dt → Prop} (vs : List V) (H : Hp) (Q : VK) (E : XK) (h : spP c n Rel vs H Q E) : vs.length = n := h.1
theorem spM_len {c : Cf} {n : Nat} {Pre : List Dt → Mem → Prop} {Post : List Dt → Mem → Dt → Mem → Prop} (vs : List V) (H : Hp) (Q : VK) (E : XK) (h : spM c n Pre Post vs H Q E) : vs.length = n + 1 := by
  obtain ⟨p, us, rfl, e, _⟩ := h
  simp [e]
section
variable {c : Cf} {tl : TA} {D : List SV} {d : Dt} {ds : List Dt} {s : Sto} {n : Nat} {XE : XK}
theorem x_call {Rel : List Dt → Dt → Prop} (h : XA c tl D ds) (r : Rel ds d) (hn : ds.length = n := by rfl) : X c (tCall (spP c n Rel) [] XE tl) D d := fun W o p st H Q l a k =>
  h W o p st H _ l a fun vs H1 e1 rs => by
    rw [List.append_nil]
    exact ⟨by rw [rs.len]; exact hn, W, ds, d, l.same e1, rs, r, fun v H2 e2 r2 => k v H2 (e1.trans e2) r2⟩
/-- the entry of a def's body -/
theorem start_sl {o p : Addr} {H : Hp} : ∀ {vs : List V} {ds : List Dt} (n : Nat), RA c H vs ds → Sl c o p H (ds.map SV.d ++ List.replicate n .un) (vs.map some ++ List.replicate n none) := fun {vs ds} n r i z hz => by
  have hl := r.len
  rw [List.getElem?_append] at hz
  split at hz
  · rename_i hi
    rw [List.length_map] at hi
    rw [List.getElem?_map] at hz
    cases q : ds[i]? with
    | none => rw [q] at hz; cases hz
    | some d =>
      rw [q] at hz
      cases hz
      obtain ⟨v, hv, rv⟩ := r.get q
      refine ⟨some v, ?_, v, rfl, rv⟩
      rw [List.getElem?_append, List.length_map, if_pos (by omega), List.getElem?_map, hv]
      rfl
  · rename_i hi
    rw [List.length_map] at hi hz
    have hz2 := List.getElem?_eq_some_iff.mp hz
    obtain ⟨h1, h2⟩ := hz2
    rw [List.length_replicate] at h1
    refine ⟨none, ?_, ?_⟩
    · rw [List.getElem?_append, List.length_map, if_neg (by omega), List.getElem?_replicate, if_pos (by omega)]
    · rw [List.getElem_replicate] at h2
      subst h2
      trivial
/-- a pure def's body -/
theorem body_p {N : List Str} {ts : TS} {vs : List V} {H : Hp} {Q : VK} {E : XK} {Rel : List Dt → Dt → Prop} (h : spP c n Rel vs H Q E)
    (hb : ∀ ds d, ds.length = n → Rel ds d → Z c ts (ds.map SV.d ++ List.replicate (N.length - n) .un) ⟨none, .no⟩ (fun _ _ => d = .non) (fun d' _ => d' = d)) :
    ts { nx := fun _ H' => Q .non H', rt := Q } (L2.start N vs) H := by
  obtain ⟨hn, W, ds, d, l, rs, r, k⟩ := h
  have hz := hb ds d (by rw [← rs.len]; exact hn) r
  have hs : L2.start N vs = vs.map some ++ List.replicate (N.length - n) none := by unfold L2.start; rw [hn]
  rw [hs]
  refine hz W 0 0 _ H _ ⟨l, (fun _ e => nomatch e), trivial, (fun k => absurd rfl k), start_sl _ rs⟩ (fun o2 st2 H2 D2 s2 pn sp a => ?_) (fun o2 v H2 d2 s2 pr sp a r2 => ?_)
  · subst pn
    exact k .non H2 (fun b x e => sp.keep b x e (fun q => absurd rfl q) fun q => absurd rfl q) .non
  · subst pr
    exact k v H2 (fun b x e => sp.keep b x e (fun q => absurd rfl q) fun q => absurd rfl q) r2
/-- a def's body with the pen or the cursor -/
theorem body_m {N : List Str} {ts : TS} {vs : List V} {H : Hp} {Q : VK} {E : XK} {Pre : List Dt → Mem → Prop} {Post : List Dt → Mem → Dt → Mem → Prop} (h : spM c n Pre Post vs H Q E)
    (hb : ∀ ds m, ds.length = n → m.kind ≠ 0 → Pre ds m → Z c ts (SV.mem :: (ds.map SV.d ++ List.replicate (N.length - (n + 1)) .un)) ⟨none, m⟩ (fun _ s => Post ds m .non s.m) (fun d' s => Post ds m d' s.m)) :
    ts { nx := fun _ H' => Q .non H', rt := Q } (L2.start N vs) H := by
  obtain ⟨p, us, rfl, hn, W, ds, m, l, rs, hm, hk, pre, k⟩ := h
  have hz := hb ds m (by rw [← rs.len]; exact hn) hk pre
  have hs : L2.start N (.ref p :: us) = some (.ref p) :: (us.map some ++ List.replicate (N.length - (n + 1)) none) := by
    unfold L2.start
    rw [show (V.ref p :: us).length = n + 1 by simp [hn]]
    rfl
  rw [hs]
  have hsl : Sl c 0 p (hide W H) (SV.mem :: (ds.map SV.d ++ List.replicate (N.length - (n + 1)) .un)) (some (.ref p) :: (us.map some ++ List.replicate (N.length - (n + 1)) none)) := fun i z hz => by
    cases i with
    | zero => cases hz; exact ⟨_, rfl, rfl⟩
    | succ i => exact start_sl (o := 0) (p := p) _ rs i z hz
  have fin : ∀ (o2 : Addr) (s2 : Sto) (D2 : List SV) (st2 : L2.St) (H2 : Hp), Step 0 p ⟨none, m⟩ H o2 s2 H2 → As c W o2 p s2 D2 st2 H2 → (∀ b x, H b = some x → b ≠ p → H2 b = some x) ∧ MemAt c p W H2 s2.m ∧ s2.m.kind = m.kind := by
    intro o2 s2 D2 st2 H2 sp a
    refine ⟨fun b x e hb => sp.keep b x e (fun q => absurd rfl q) fun _ => hb, ?_, sp.kind⟩
    have am := a.mem
    unfold eff at am
    cases q : s2.c with
    | none => rw [q] at am; exact am
    | some cs =>
      rw [q] at am
      have hw := (hm.here hk).2
      have hwo := (a.own cs q).1
      revert am
      generalize s2.m = m2
      intro am
      cases m2 with
      | no => trivial
      | pen b =>
        obtain ⟨_, l', ns, i, r, h1, h2, h3⟩ := am
        exact ⟨hw, l', ns, i, r, h1, (hide_less fun b hb => add_of hb).seq h2, h3⟩
      | cur t i g =>
        obtain ⟨_, dx, h1⟩ := am
        exact ⟨hw, dx, h1⟩
  refine hz W 0 p _ H _ ⟨l, (fun _ e => nomatch e), hm, (fun k => (hm.here k).2), hsl⟩ (fun o2 st2 H2 D2 s2 pn sp a => ?_) (fun o2 v H2 d2 s2 pr sp a r2 => ?_)
  · obtain ⟨f1, f2, f3⟩ := fin _ _ _ _ _ sp a
    exact k .non H2 .non s2.m pn f3 f1 f2 .non
  · obtain ⟨f1, f2, f3⟩ := fin _ _ _ _ _ sp a
    exact k v H2 d2 s2.m pr f3 f1 f2 r2
end
end Wb

/-! What single readings come to, on data. -/
namespace Wb
open PySem PySem.Spec PyProof.Rows L2 SX

/-! ### data compared -/
mutual
def deq : Dt → Dt → Bool
  | .int i, .int j => i == j
  | .str x, .str y => x == y
  | .lst xs, .lst ys => deqA xs ys
  | .tup xs, .tup ys => deqA xs ys
  | _, _ => false
def deqA : List Dt → List Dt → Bool
  | [], [] => true
  | x :: xs, y :: ys => deq x y && deqA xs ys
  | _, _ => false
end
mutual
def toP : Dt → PyData
  | .int i => .int i
  | .str s => .str (S s)
  | .lst ds => .list (toPA ds)
  | .tup ds => .tuple (toPA ds)
  | _ => .none
def toPA : List Dt → List PyData
  | [] => []
  | d :: r => toP d :: toPA r
end
mutual
/-- ints, texts of plain signs, lists and tuples of such -/
def Tm : Dt → Bool
  | .int _ => true
  | .str s => s.all (· < 128)
  | .lst ds => TmA ds
  | .tup ds => TmA ds
  | _ => false
def TmA : List Dt → Bool
  | [] => true
  | d :: r => Tm d && TmA r
end
mutual
def dpt : Dt → Nat
  | .lst ds => dptA ds + 1
  | .tup ds => dptA ds + 1
  | _ => 0
def dptA : List Dt → Nat
  | [] => 0
  | d :: r => max (dpt d) (dptA r)
end
theorem toPA_map : ∀ ds : List Dt, toPA ds = ds.map toP
  | [] => rfl
  | d :: r => by simp [toPA, toPA_map r]
theorem tmA_iff : ∀ {ds : List Dt}, TmA ds = true ↔ ∀ d ∈ ds, Tm d = true
  | [] => by simp [TmA]
  | d :: r => by
    simp only [TmA, Bool.and_eq_true, List.forall_mem_cons]
    rw [tmA_iff]
theorem dptA_le {n : Nat} : ∀ {ds : List Dt}, (∀ d ∈ ds, dpt d ≤ n) → dptA ds ≤ n
  | [], _ => by simp [dptA]
  | q :: r, h => by
    have h1 := h q (List.mem_cons_self ..)
    have h2 := dptA_le (ds := r) fun p hp => h p (List.mem_cons_of_mem _ hp)
    simp [dptA]; omega
theorem dpt_mem {d : Dt} : ∀ {ds : List Dt}, d ∈ ds → dpt d ≤ dptA ds
  | q :: r, h => by
    rcases List.mem_cons.mp h with rfl | h
    · simp [dptA]; omega
    · have := dpt_mem h; simp [dptA]; omega
theorem Dt.ind {P : Dt → Prop} (h1 : P .non) (h2 : ∀ b, P (.bl b)) (h3 : ∀ i, P (.int i)) (h4 : ∀ s, P (.str s)) (h5 : ∀ ds, (∀ d ∈ ds, P d) → P (.lst ds)) (h6 : ∀ ds, (∀ d ∈ ds, P d) → P (.tup ds))
    (h7 : ∀ d, P d → P (.web d)) (h8 : ∀ k, P (.dci k)) (h9 : ∀ k, P (.dcs k)) (d : Dt) : P d :=
  Dt.rec (motive_1 := P) (motive_2 := fun ds => ∀ d ∈ ds, P d) h1 h2 h3 h4 h5 h6 h7 h8 h9 (fun _ h => nomatch h)
    (fun p ps hp hps q hq => by
      rcases List.mem_cons.mp hq with rfl | hq
      · exact hp
      · exact hps q hq) d
mutual
theorem eqv_deq : ∀ d e : Dt, Tm d = true → Tm e = true → PyData.eqv (toP d) (toP e) = deq d e
  | .int i, .int j, _, _ => by simp [toP, PyData.eqv, deq]
  | .int i, .str s, _, _ => by simp [toP, PyData.eqv, deq]
  | .int i, .lst s, _, _ => by simp [toP, PyData.eqv, deq]
  | .int i, .tup s, _, _ => by simp [toP, PyData.eqv, deq]
  | .str i, .int j, _, _ => by simp [toP, PyData.eqv, deq]
  | .str i, .str s, _, _ => by
    simp only [toP, PyData.eqv, deq]
    exact S_beq i s
  | .str i, .lst s, _, _ => by simp [toP, PyData.eqv, deq]
  | .str i, .tup s, _, _ => by simp [toP, PyData.eqv, deq]
  | .lst i, .int j, _, _ => by simp [toP, PyData.eqv, deq]
  | .lst i, .str s, _, _ => by simp [toP, PyData.eqv, deq]
  | .lst i, .lst s, h, h' => by
    simp only [toP, PyData.eqv, deq]
    exact eqv_deqA i s h h'
  | .lst i, .tup s, _, _ => by simp [toP, PyData.eqv, deq]
  | .tup i, .int j, _, _ => by simp [toP, PyData.eqv, deq]
  | .tup i, .str s, _, _ => by simp [toP, PyData.eqv, deq]
  | .tup i, .lst s, _, _ => by simp [toP, PyData.eqv, deq]
  | .tup i, .tup s, h, h' => by
    simp only [toP, PyData.eqv, deq]
    exact eqv_deqA i s h h'
theorem eqv_deqA : ∀ ds es : List Dt, TmA ds = true → TmA es = true → PyData.eqvAll (toPA ds) (toPA es) = deqA ds es
  | [], [], _, _ => by simp [toPA, PyData.eqvAll, deqA]
  | [], e :: es, _, _ => by simp [toPA, PyData.eqvAll, deqA]
  | d :: ds, [], _, _ => by simp [toPA, PyData.eqvAll, deqA]
  | d :: ds, e :: es, h, h' => by
    simp only [TmA, Bool.and_eq_true] at h h'
    simp only [toPA, PyData.eqvAll, deqA]
    rw [eqv_deq d e h.1 h'.1, eqv_deqA ds es h.2 h'.2]
end
mutual
theorem deq_self : ∀ d : Dt, Tm d = true → deq d d = true
  | .int i, _ => by simp [deq]
  | .str s, _ => by simp [deq]
  | .lst ds, h => by
    simp only [deq]
    exact deqA_self ds h
  | .tup ds, h => by
    simp only [deq]
    exact deqA_self ds h
theorem deqA_self : ∀ ds : List Dt, TmA ds = true → deqA ds ds = true
  | [], _ => by simp [deqA]
  | d :: ds, h => by
    simp only [TmA, Bool.and_eq_true] at h
    simp [deqA, deq_self d h.1, deqA_self ds h.2]
end
mutual
theorem deq_eq : ∀ {d e : Dt}, deq d e = true → d = e
  | .int i, .int j, h => by simp [deq] at h; rw [h]
  | .str i, .str s, h => by simp [deq] at h; rw [h]
  | .lst i, .lst s, h => by simp only [deq] at h; rw [deqA_eq h]
  | .tup i, .tup s, h => by simp only [deq] at h; rw [deqA_eq h]
theorem deqA_eq : ∀ {d e : List Dt}, deqA d e = true → d = e
  | [], [], _ => rfl
  | [], _ :: _, h => by simp [deqA] at h
  | _ :: _, [], h => by simp [deqA] at h
  | d :: ds, e :: es, h => by
    simp only [deqA, Bool.and_eq_true] at h
    rw [deq_eq h.1, deqA_eq h.2]
end
mutual
theorem tm_lay : ∀ d : Dt, Tm d = true → (toP d).canLay0 = true
  | .int i, _ => by simp [toP, PyData.canLay0]
  | .str s, h => by
    simp only [toP, PyData.canLay0]
    unfold Tm at h
    show (S s).cps.all _ = true
    rw [Array.all_eq_true']
    intro x hx
    have hx2 : x ∈ s := by simpa using hx
    have := List.all_eq_true.mp h x hx2
    simp only [decide_eq_true_eq] at this ⊢
    omega
  | .lst ds, h => by
    simp only [toP, PyData.canLay0]
    exact tm_layA ds h
  | .tup ds, h => by
    simp only [toP, PyData.canLay0]
    exact tm_layA ds h
theorem tm_layA : ∀ ds : List Dt, TmA ds = true → PyData.canLayAll0 (toPA ds) = true
  | [], _ => by simp [toPA, PyData.canLayAll0]
  | d :: ds, h => by
    simp only [TmA, Bool.and_eq_true] at h
    simp [toPA, PyData.canLayAll0, tm_lay d h.1, tm_layA ds h.2]
end
mutual
theorem dpt_eq : ∀ d : Dt, Tm d = true → (toP d).depth = dpt d
  | .int i, _ => by simp [toP, PyData.depth, dpt]
  | .str s, h => by simp [toP, PyData.depth, dpt]
  | .lst ds, h => by
    simp only [toP, PyData.depth, dpt]
    rw [dpt_eqA ds h]
  | .tup ds, h => by
    simp only [toP, PyData.depth, dpt]
    rw [dpt_eqA ds h]
theorem dpt_eqA : ∀ ds : List Dt, TmA ds = true → PyData.depthAll (toPA ds) = dptA ds
  | [], _ => by simp [toPA, PyData.depthAll, dptA]
  | d :: ds, h => by
    simp only [TmA, Bool.and_eq_true] at h
    simp [toPA, PyData.depthAll, dptA, dpt_eq d h.1, dpt_eqA ds h.2]
end
/-- data that may be compared -/
structure Cm (d : Dt) : Prop where
  tm : Tm d = true
  dp : dpt d ≤ 60
theorem Cm.shaped {d : Dt} (h : Cm d) : SeqAt.shaped (toP d) = true := by
  show ((toP d).canLay0 && decide ((toP d).depth ≤ 64)) = true
  rw [tm_lay d h.tm, dpt_eq d h.tm, Bool.true_and]
  exact decide_eq_true (by have := h.dp; omega)
section
variable {c : Cf} {H : Hp}
mutual
theorem R.dp : ∀ {v : V} {d : Dt}, R c H v d → Tm d = true → Dp c.K H v (toP d)
  | _, _, .non, h => by simp [Tm] at h
  | _, _, .bl b, h => by simp [Tm] at h
  | _, _, .int i, _ => .int i
  | _, _, .str l, _ => .str (S l)
  | _, _, .lst e r, h => by
    simp only [toP]
    exact .lst (SqL.of e) (RA.dp r h)
  | _, _, .tup e r, h => by
    simp only [toP]
    exact .tup e (RA.dp r h)
  | _, _, .web _ _, h => by simp [Tm] at h
  | _, _, .dci _, h => by simp [Tm] at h
  | _, _, .dcs _, h => by simp [Tm] at h
theorem RA.dp : ∀ {vs : List V} {ds : List Dt}, RA c H vs ds → TmA ds = true → DpAll c.K H vs (toPA ds)
  | _, _, .nil, _ => .nil
  | _, _, .cons r t, h => by
    simp only [TmA, Bool.and_eq_true] at h
    exact .cons (R.dp r h.1) (RA.dp t h.2)
end
theorem Dp.unhide {K : PySem.W.Frag} {H H' : Hp} (e : Same H H') {v : V} {d : PyData} (h : Dp K H v d) : Dp K H' v d := by
  refine Dp.rec (K := K) (H := H) (motive_1 := fun v d _ => Dp K H' v d) (motive_2 := fun vs ds _ => DpAll K H' vs ds) .non .bl .int .str (fun h _ r => .lst (e.seq h) r) (fun h _ r => .tup (same_t e h) r) .nil (fun _ _ r t => .cons r t) h
end

section
variable {c : Cf} {te ta tb : TE} {tl : TA} {D : List SV} {d e : Dt} {ds es : List Dt} {s t : List Nat} {i j : Int} {b : Bool}
/-! ### places -/
theorem x_ixT {n : Nat} (ha : X c ta D (.tup ds)) (hb : X c tb D (.int i)) (hi : i = (n : Int)) (h : ds[n]? = some d) : X c (tOp (rIx c.K) ta tb) D d :=
  x_op ha hb fun W H x y Q l rx ry k => by
    cases rx with
    | tup e r =>
      cases ry
      obtain ⟨v, hv, rv⟩ := r.get h
      exact .inr (.inl ⟨_, _, _, v, rfl, rfl, same_t hide_sub e, at_of hi hv, k v H (.refl H) rv⟩)
theorem x_ixL {n : Nat} (ha : X c ta D (.lst ds)) (hb : X c tb D (.int i)) (hi : i = (n : Int)) (h : ds[n]? = some d) : X c (tOp (rIx c.K) ta tb) D d :=
  x_op ha hb fun W H x y Q l rx ry k => by
    cases rx with
    | lst e r =>
      cases ry
      obtain ⟨v, hv, rv⟩ := r.get h
      exact .inl ⟨_, _, _, v, rfl, rfl, SqL.of (hide_sub _ _ e), at_of hi hv, k v H (.refl H) rv⟩
theorem x_ixS {n ch : Nat} (ha : X c ta D (.str s)) (hb : X c tb D (.int i)) (hi : i = (n : Int)) (h : s[n]? = some ch) (hz : s.length ≤ 100000) : X c (tOp (rIx c.K) ta tb) D (.str [ch]) :=
  x_op ha hb fun W H x y Q l rx ry k => by
    cases rx
    cases ry
    refine .inr (.inr ⟨_, _, ch, rfl, rfl, ?_, by rw [hi]; exact atI_nat h, k _ H (.refl H) (.str [ch])⟩)
    rw [S_len]
    exact Nat.le_trans hz (by decide)
/-! ### comparisons -/
theorem x_eq (ha : X c ta D d) (hb : X c tb D e) (hd : Cm d) (he : Cm e) : X c (tOp (rEqD c.K) ta tb) D (.bl (deq d e)) :=
  x_op ha hb fun W H x y Q l rx ry k => ⟨_, _, Dp.unhide hide_sub (rx.dp hd.tm), Dp.unhide hide_sub (ry.dp he.tm), hd.shaped, he.shaped, by rw [eqv_deq _ _ hd.tm he.tm]; exact k _ H (.refl H) (.bl _)⟩
theorem x_ne (ha : X c ta D d) (hb : X c tb D e) (hd : Cm d) (he : Cm e) : X c (tOp (rNeD c.K) ta tb) D (.bl (!deq d e)) :=
  x_op ha hb fun W H x y Q l rx ry k => ⟨_, _, Dp.unhide hide_sub (rx.dp hd.tm), Dp.unhide hide_sub (ry.dp he.tm), hd.shaped, he.shaped, by rw [eqv_deq _ _ hd.tm he.tm]; exact k _ H (.refl H) (.bl _)⟩
theorem inV_str (s : List Nat) : ∀ ls : List (List Nat), inV (.str (S s)) ((ls.map S).map V.str) = ls.contains s
  | [] => rfl
  | l :: r => by
    have ih := inV_str s r
    unfold inV at ih ⊢
    simp only [List.map_cons, List.any_cons, List.contains_cons]
    rw [ih]
    congr 1
    show (S l == S s) = _
    rw [S_beq, Bool.beq_comm]
theorem flat_strs : ∀ ls : List (List Nat), ((ls.map S).map V.str).all flatV = true
  | [] => rfl
  | l :: r => by simp only [List.map_cons, List.all_cons, flat_strs r]; rfl
theorem x_inT {ls : List (List Nat)} {neg : Bool} (ha : X c ta D (.str s)) (hb : X c tb D (.tup (ls.map Dt.str))) : X c (tOp (rIn c.K neg) ta tb) D (.bl (if neg then !ls.contains s else ls.contains s)) :=
  x_op ha hb fun W H x y Q l rx ry k => by
    cases rx
    cases ry with
    | tup e r =>
      rw [RA.strs r] at e
      refine ⟨_, _, rfl, .inr (same_t hide_sub e), rfl, flat_strs ls, ?_⟩
      rw [inV_str]
      exact k _ H (.refl H) (.bl _)
theorem x_inL {ls : List (List Nat)} {neg : Bool} (ha : X c ta D (.str s)) (hb : X c tb D (.lst (ls.map Dt.str))) : X c (tOp (rIn c.K neg) ta tb) D (.bl (if neg then !ls.contains s else ls.contains s)) :=
  x_op ha hb fun W H x y Q l rx ry k => by
    cases rx
    cases ry with
    | lst e r =>
      rw [RA.strs r] at e
      refine ⟨_, _, rfl, .inl (SqL.of (hide_sub _ _ e)), rfl, flat_strs ls, ?_⟩
      rw [inV_str]
      exact k _ H (.refl H) (.bl _)
theorem any_eqv (d : Dt) (hd : Tm d = true) : ∀ ds : List Dt, TmA ds = true → ((toPA ds).any fun z => PyData.eqv z (toP d)) = ds.any fun z => deq z d
  | [], _ => rfl
  | e :: r, h => by
    simp only [TmA, Bool.and_eq_true] at h
    simp only [toPA, List.any_cons]
    rw [eqv_deq e d h.1 hd, any_eqv d hd r h.2]
/-- in, over a list of data of any depth -/
theorem x_inD (ha : X c ta D d) (hb : X c tb D (.lst ds)) (hd : Cm d) (hs : Cm (.lst ds)) : X c (tOp (rInD c.K) ta tb) D (.bl (ds.any fun z => deq z d)) :=
  x_op ha hb fun W H x y Q l rx ry k => by
    have h2 := Dp.unhide hide_sub (ry.dp hs.tm)
    have h3 := hs.shaped
    simp only [toP] at h2 h3
    refine ⟨_, _, Dp.unhide hide_sub (rx.dp hd.tm), h2, hd.shaped, h3, ?_⟩
    rw [any_eqv d hd.tm ds hs.tm]
    exact k _ H (.refl H) (.bl _)
/-- one sign in a text -/
theorem x_inS {ch : Nat} (ha : X c ta D (.str [ch])) (hb : X c tb D (.str s)) : X c (tOp (fun x y H Q => ∃ (c : Nat) (z : Str), x = .str ⟨#[c]⟩ ∧ y = .str z ∧ Q (.bl (decide (c ∈ z.cps.toList))) H) ta tb) D (.bl (decide (ch ∈ s))) :=
  x_op ha hb fun W H x y Q l rx ry k => by
    cases rx
    cases ry
    exact ⟨ch, S s, rfl, rfl, k _ H (.refl H) (.bl _)⟩
/-! ### ints -/
theorem x_I0 {g : Int → Int → V} {f : Dt} (ha : X c ta D (.int i)) (hb : X c tb D (.int j)) (h : ∀ H, R c H (g i j) f) : X c (tOp (rI0 g) ta tb) D f :=
  x_op ha hb fun W H x y Q l rx ry k => by
    cases rx
    cases ry
    exact ⟨i, j, rfl, rfl, k _ H (.refl H) (h _)⟩
theorem x_I {C : Int → Int → Prop} {g : Int → Int → V} {f : Dt} (ha : X c ta D (.int i)) (hb : X c tb D (.int j)) (hc : C i j) (h : ∀ H, R c H (g i j) f) : X c (tOp (rI C g) ta tb) D f :=
  x_op ha hb fun W H x y Q l rx ry k => by
    cases rx
    cases ry
    exact ⟨i, j, rfl, rfl, hc, k _ H (.refl H) (h _)⟩
theorem x_sub (ha : X c ta D (.int i)) (hb : X c tb D (.int j)) : X c (tOp (rI0 fun i j => .int (i - j)) ta tb) D (.int (i - j)) := x_I0 ha hb fun _ => .int _
theorem x_lt (ha : X c ta D (.int i)) (hb : X c tb D (.int j)) : X c (tOp (rI0 fun i j => .bl (decide (i < j))) ta tb) D (.bl (decide (i < j))) := x_I0 ha hb fun _ => .bl _
theorem x_le (ha : X c ta D (.int i)) (hb : X c tb D (.int j)) : X c (tOp (rI0 fun i j => .bl (decide (i ≤ j))) ta tb) D (.bl (decide (i ≤ j))) := x_I0 ha hb fun _ => .bl _
theorem x_gt (ha : X c ta D (.int i)) (hb : X c tb D (.int j)) : X c (tOp (rI0 fun i j => .bl (decide (j < i))) ta tb) D (.bl (decide (j < i))) := x_I0 ha hb fun _ => .bl _
/-! ### + of ints, of texts, of lists -/
def rAddU : R2 := fun x y H Q => (∃ i j, x = V.int i ∧ y = V.int j ∧ Q (.int (i + j)) H) ∨ (∃ i j, x = V.str i ∧ y = V.str j ∧ i.length + j.length ≤ sizeLine ∧ Q (.str (i ++ j)) H) ∨ rCat x y H Q
theorem op_addU {X : Cx} : OpR X (binaryOp .Add) rAddU := OpR.or op_add (OpR.or op_add_str op_cat)
theorem x_addI (ha : X c ta D (.int i)) (hb : X c tb D (.int j)) : X c (tOp rAddU ta tb) D (.int (i + j)) :=
  x_op ha hb fun W H x y Q l rx ry k => by
    cases rx
    cases ry
    exact .inl ⟨i, j, rfl, rfl, k _ H (.refl H) (.int _)⟩
theorem x_addS (ha : X c ta D (.str s)) (hb : X c tb D (.str t)) (hz : s.length + t.length ≤ 100000) : X c (tOp rAddU ta tb) D (.str (s ++ t)) :=
  x_op ha hb fun W H x y Q l rx ry k => by
    cases rx
    cases ry
    refine .inr (.inl ⟨S s, S t, rfl, rfl, ?_, ?_⟩)
    · rw [S_len, S_len]
      exact Nat.le_trans hz (by decide)
    · rw [S_cat]
      exact k _ H (.refl H) (.str _)
theorem x_addL (ha : X c ta D (.lst ds)) (hb : X c tb D (.lst es)) (hz : ds.length + es.length ≤ 100000) : X c (tOp rAddU ta tb) D (.lst (ds ++ es)) :=
  x_op ha hb fun W H x y Q l rx ry k => by
    cases rx with
    | lst e1 r1 =>
      cases ry with
      | lst e2 r2 =>
        refine .inr (.inr ⟨_, _, _, _, rfl, rfl, hide_sub _ _ e1, hide_sub _ _ e2, ?_, fun p hp => ?_⟩)
        · rw [r1.len, r2.len]
          exact Nat.le_trans hz (by decide)
        · exact k _ _ (same_upd hp) (.lst (new_at l hp) ((r1.app r2).mono (hide_same (same_upd hp))))
/-! ### built-ins -/
theorem ra_one {W : WS} {H : Hp} {vs : List V} (h : RA c (hide W H) vs [d]) : ∃ v, vs = [v] ∧ R c (hide W H) v d := by
  cases h with
  | cons r t =>
    cases t
    exact ⟨_, rfl, r⟩
theorem x_lenS (ha : X c ta D (.str s)) (hz : s.length ≤ 100000) : X c (tCB (fun xs H Q => ∃ x n, xs = [x] ∧ LenV c.K x H n ∧ Q (.int n) H) (tCons ta tNil)) D (.int (s.length : Nat)) :=
  x_cb (xa_cons ha xa_nil) fun W H vs Q l rs k => by
    obtain ⟨v, rfl, r⟩ := ra_one rs
    cases r
    exact ⟨_, s.length, rfl, ⟨by rw [S_len]; exact Nat.le_trans hz (by decide), (S_len s).symm⟩, k _ H (.refl H) (.int _)⟩
theorem x_lenL (ha : X c ta D (.lst ds)) : X c (tCB (fun xs H Q => ∃ x n, xs = [x] ∧ LenV c.K x H n ∧ Q (.int n) H) (tCons ta tNil)) D (.int (ds.length : Nat)) :=
  x_cb (xa_cons ha xa_nil) fun W H vs Q l rs k => by
    obtain ⟨v, rfl, r⟩ := ra_one rs
    cases r with
    | lst e r => exact ⟨_, ds.length, rfl, .inl ⟨_, SqL.of (hide_sub _ _ e), r.len.symm⟩, k _ H (.refl H) (.int _)⟩
theorem x_lenT (ha : X c ta D (.tup ds)) : X c (tCB (fun xs H Q => ∃ x n, xs = [x] ∧ LenV c.K x H n ∧ Q (.int n) H) (tCons ta tNil)) D (.int (ds.length : Nat)) :=
  x_cb (xa_cons ha xa_nil) fun W H vs Q l rs k => by
    obtain ⟨v, rfl, r⟩ := ra_one rs
    cases r with
    | tup e r => exact ⟨_, ds.length, rfl, .inr ⟨_, same_t hide_sub e, r.len.symm⟩, k _ H (.refl H) (.int _)⟩
theorem x_tupL (ha : X c ta D (.lst ds)) : X c (tCB (fun xs H Q => ∃ p ys, xs = [.ref p] ∧ ((SqL c.K H p ys ∧ ∀ l, H l = none → Q (.ref l) (upd H l (.tup ys))) ∨ (SqT c.K H p ys ∧ Q (.ref p) H))) (tCons ta tNil)) D (.tup ds) :=
  x_cb (xa_cons ha xa_nil) fun W H vs Q l rs k => by
    obtain ⟨v, rfl, r⟩ := ra_one rs
    cases r with
    | lst e r => exact ⟨_, _, rfl, .inl ⟨SqL.of (hide_sub _ _ e), fun p hp => k _ _ (same_upd hp) (.tup (SqT.of (new_at l hp)) (r.mono (hide_same (same_upd hp))))⟩⟩
theorem x_lstL (ha : X c ta D (.lst ds)) : X c (tCB (fun xs H Q => ∃ p ys, xs = [.ref p] ∧ (SqL c.K H p ys ∨ SqT c.K H p ys) ∧ ∀ l, H l = none → Q (.ref l) (upd H l (.lst ys))) (tCons ta tNil)) D (.lst ds) :=
  x_cb (xa_cons ha xa_nil) fun W H vs Q l rs k => by
    obtain ⟨v, rfl, r⟩ := ra_one rs
    cases r with
    | lst e r => exact ⟨_, _, rfl, .inl (SqL.of (hide_sub _ _ e)), fun p hp => k _ _ (same_upd hp) (.lst (new_at l hp) (r.mono (hide_same (same_upd hp))))⟩
/-- str of an int, of a text -/
def rStrU : List V → Hp → VK → Prop := fun xs H Q => (∃ i, xs = [V.int i] ∧ i.natAbs.log2 < 1920 ∧ Q (.str (toString i)) H) ∨ (∃ a, xs = [V.str a] ∧ Q (.str a) H)
theorem call_strU {X : Cx} : CallR X (.type "str") rStrU := CallR.or call_str_int SkE.call_str_str
theorem x_strS (ha : X c ta D (.str s)) : X c (tCB rStrU (tCons ta tNil)) D (.str s) :=
  x_cb (xa_cons ha xa_nil) fun W H vs Q l rs k => by
    obtain ⟨v, rfl, r⟩ := ra_one rs
    cases r
    exact .inr ⟨_, rfl, k _ H (.refl H) (.str _)⟩
theorem num_str (n : Nat) : Str.ofString (toString ((n : Nat) : Int)) = S (TL.numL n) := num_S n
theorem log_small {n : Nat} (h : n < 1000) : ((n : Int)).natAbs.log2 < 1920 := by
  have e : ((n : Int)).natAbs = n := Int.natAbs_natCast n
  rw [e]
  have : n.log2 ≤ n := by
    have := Nat.log2_le_self n
    exact this
  omega
theorem x_strI {n : Nat} (ha : X c ta D (.int (n : Int))) (hn : n < 1000) : X c (tCB rStrU (tCons ta tNil)) D (.str (TL.numL n)) :=
  x_cb (xa_cons ha xa_nil) fun W H vs Q l rs k => by
    obtain ⟨v, rfl, r⟩ := ra_one rs
    cases r
    exact .inl ⟨_, rfl, log_small hn, k _ H (.refl H) (by
      show R c _ (.str (Str.ofString (toString (n : Int)))) _
      rw [num_str]
      exact .str _)⟩
/-- int of an int, a bool, a text of figures -/
def rIntU : List V → Hp → VK → Prop := fun xs H Q => ((∃ i, xs = [V.int i] ∧ Q (.int i) H) ∨ ∃ k, xs = [V.bl k] ∧ Q (.int (if k then 1 else 0)) H) ∨ (∃ a n, xs = [V.str a] ∧ PySem.intText? a = some n ∧ a.length ≤ 640 ∧ Q (.int n) H)
theorem call_intU {X : Cx} : CallR X (.type "int") rIntU := CallR.or call_int1 call_int_str
theorem x_intI (ha : X c ta D (.int i)) : X c (tCB rIntU (tCons ta tNil)) D (.int i) :=
  x_cb (xa_cons ha xa_nil) fun W H vs Q l rs k => by
    obtain ⟨v, rfl, r⟩ := ra_one rs
    cases r
    exact .inl (.inl ⟨_, rfl, k _ H (.refl H) (.int _)⟩)
theorem x_intB (ha : X c ta D (.bl b)) : X c (tCB rIntU (tCons ta tNil)) D (.int (if b then 1 else 0)) :=
  x_cb (xa_cons ha xa_nil) fun W H vs Q l rs k => by
    obtain ⟨v, rfl, r⟩ := ra_one rs
    cases r
    exact .inl (.inr ⟨_, rfl, k _ H (.refl H) (.int _)⟩)
theorem x_intS {n : Nat} (ha : X c ta D (.str s)) (h : s.all (fun c => decide (48 ≤ c) && decide (c ≤ 57)) = true) (hne : s ≠ []) (hl : s.length ≤ 600) (hv : NumText.digitsVal s = n) : X c (tCB rIntU (tCons ta tNil)) D (.int (n : Int)) :=
  x_cb (xa_cons ha xa_nil) fun W H vs Q l rs k => by
    obtain ⟨v, rfl, r⟩ := ra_one rs
    cases r
    exact .inr ⟨_, _, rfl, int_S h hne (by omega), by rw [S_len]; omega, k _ H (.refl H) (by rw [hv]; exact .int _)⟩
theorem x_sum {ns : List Int} (ha : X c ta D (.lst (ns.map Dt.int))) : X c (tCB (rSum c.K) (tCons ta tNil)) D (.int ns.sum) :=
  x_cb (xa_cons ha xa_nil) fun W H vs Q l rs k => by
    obtain ⟨v, rfl, r⟩ := ra_one rs
    cases r with
    | lst e r =>
      rw [RA.ints r] at e
      exact ⟨_, ns, rfl, SqL.of (hide_sub _ _ e), k _ H (.refl H) (.int _)⟩
theorem x_all {bs : List Bool} (ha : X c ta D (.lst (bs.map Dt.bl))) : X c (tCB (rAll c.K) (tCons ta tNil)) D (.bl (bs.all id)) :=
  x_cb (xa_cons ha xa_nil) fun W H vs Q l rs k => by
    obtain ⟨v, rfl, r⟩ := ra_one rs
    cases r with
    | lst e r =>
      rw [RA.bls r] at e
      exact ⟨_, bs, rfl, SqL.of (hide_sub _ _ e), k _ H (.refl H) (.bl _)⟩
/-- sorted texts -/
theorem sorted_pw : ∀ {ys : List (List Nat)}, sortedS (ys.map S) = true → ys.Pairwise fun a b => ltCps b a = false := by
  have go : ∀ (l : List (List Nat)) (p : List Nat), risingS (S p) (l.map S) = true → (∀ b ∈ l, ltCps b p = false) ∧ l.Pairwise fun a b => ltCps b a = false := by
    intro l
    induction l with
    | nil => intro p _; exact ⟨fun _ h => (nomatch h), .nil⟩
    | cons x r ih =>
      intro p h
      have h' : (!ltCps x p && risingS (S x) (r.map S)) = true := h
      simp only [Bool.and_eq_true, Bool.not_eq_true'] at h'
      obtain ⟨h1, h2⟩ := ih x h'.2
      refine ⟨fun b hb => ?_, List.pairwise_cons.mpr ⟨h1, h2⟩⟩
      rcases List.mem_cons.mp hb with rfl | hb
      · exact h'.1
      · exact le_trans h'.1 (h1 b hb)
  intro ys h
  cases ys with
  | nil => exact .nil
  | cons x r =>
    obtain ⟨h1, h2⟩ := go r x h
    exact List.pairwise_cons.mpr ⟨h1, h2⟩
theorem strs_back : ∀ ys : List Str, ∃ zs : List (List Nat), ys = zs.map S := fun ys => ⟨ys.map fun y => y.cps.toList, by
  rw [List.map_map]
  exact (List.map_id ys).symm.trans (List.map_congr_left fun y _ => (S_tl y).symm)⟩
theorem x_sorted {ls ks : List (List Nat)} (ha : X c ta D (.lst (ls.map Dt.str))) (hz : ls.length < 64) (hk : ∀ ys : List (List Nat), ys.Perm ls → (ys.Pairwise fun a b => ltCps b a = false) → ys = ks) :
    X c (tCB (rSortedS c.K) (tCons ta tNil)) D (.lst (ks.map Dt.str)) :=
  x_cb (xa_cons ha xa_nil) fun W H vs Q l rs k => by
    obtain ⟨v, rfl, r⟩ := ra_one rs
    cases r with
    | lst e r =>
      rw [RA.strs r] at e
      refine ⟨_, ls.map S, rfl, SqL.of (hide_sub _ _ e), by rw [List.length_map]; exact hz, fun ys p hp hs hn => ?_⟩
      obtain ⟨zs, rfl⟩ := strs_back ys
      have hp2 : zs.Perm ls := by
        have := hp.map TL.tl
        rwa [map_S_tl, map_S_tl] at this
      have ez := hk zs hp2 (sorted_pw hs)
      subst ez
      exact k _ _ (same_upd hn) (.lst (new_at l hn) ((ra_strs zs).mono (.refl _)))
/-! ### texts -/
theorem joinL_len (a : List Nat) : ∀ ys : List (List Nat), (TL.joinL a ys).length ≤ (ys.map (·.length)).sum + ys.length * a.length
  | [] => Nat.zero_le _
  | [p] => by simp [TL.joinL]
  | p :: q :: r => by
    have ih := joinL_len a (q :: r)
    simp only [TL.joinL, List.length_append, List.map_cons, List.sum_cons, List.length_cons, Nat.add_mul, Nat.one_mul] at ih ⊢
    omega
theorem x_join {ls : List (List Nat)} (ha : X c ta D (.str s)) (hb : X c tb D (.lst (ls.map Dt.str))) (hz : (ls.map (·.length)).sum + ls.length * s.length ≤ 100000) :
    X c (tM1 (fun x xs H Q => ∃ a p, ∃ ys : List Str, x = .str a ∧ xs = [.ref p] ∧ (SqL c.K H p (ys.map V.str) ∨ SqT c.K H p (ys.map V.str)) ∧ (ys.map (·.length)).sum + ys.length * a.length ≤ 16777216 ∧ Q (.str (Txt.join a ys)) H) ta tb) D (.str (TL.joinL s ls)) := fun W o p st H Q l a k =>
  ha W o p st H _ l a fun x H1 e1 rx => by
    cases rx
    refine ⟨⟨_, rfl⟩, hb W o p st H1 _ (l.same e1) (a.mono (hide_same e1)) fun y H2 e2 ry => ?_⟩
    cases ry with
    | lst e r =>
      rw [RA.strs r] at e
      refine ⟨_, _, ls.map S, rfl, rfl, .inl (SqL.of (hide_sub _ _ e)), ?_, ?_⟩
      · rw [lens, List.length_map, S_len]
        exact Nat.le_trans hz (by decide)
      · rw [join_S]
        exact k _ H2 (e1.trans e2) (.str _)
theorem x_split {ls : List (List Nat)} (ha : X c ta D (.str s)) (hb : X c tb D (.str [32])) (hz : s.length ≤ 100000) (hs : TL.spl [32] 0 [] s = ls) :
    X c (tM1 (fun x xs H Q => ∃ a b, x = .str a ∧ xs = [.str b] ∧ (b.length == 0) = false ∧ a.length + 2 ≤ sizeLine ∧ rNewStrs (Txt.split a b) H Q) ta tb) D (.lst (ls.map Dt.str)) := fun W o p st H Q l a k =>
  ha W o p st H _ l a fun x H1 e1 rx => by
    cases rx
    refine ⟨⟨_, rfl⟩, hb W o p st H1 _ (l.same e1) (a.mono (hide_same e1)) fun y H2 e2 ry => ?_⟩
    cases ry
    refine ⟨_, _, rfl, rfl, by decide, ?_, fun q hq => ?_⟩
    · rw [S_len]
      exact Nat.le_trans (Nat.add_le_add_right hz 2) (by decide)
    · rw [split_S (by simp) (by decide), hs]
      exact k _ _ ((e1.trans e2).trans (same_upd hq)) (.lst (new_at ((l.same e1).same e2) hq) ((ra_strs ls).mono (.refl _)))
/-! ### f-strings -/
def XJ (c : Cf) (ts : List TE) (D : List SV) (ps : List (List Nat)) : Prop := Paired (fun t s => X c t D (.str s)) ts ps
theorem x_fmtS (ha : X c ta D (.str s)) (hz : s.length ≤ 100000) : X c (tFmt ta) D (.str s) := fun W o p st H Q l a k =>
  ha W o p st H _ l a fun x H1 e1 rx => by
    cases rx
    exact .inl ⟨_, rfl, by rw [S_len]; exact Nat.le_trans hz (by decide), k _ H1 e1 (.str _)⟩
theorem x_fmtI {n : Nat} (ha : X c ta D (.int (n : Int))) (hn : n < 1000) : X c (tFmt ta) D (.str (TL.numL n)) := fun W o p st H Q l a k =>
  ha W o p st H _ l a fun x H1 e1 rx => by
    cases rx
    exact .inr ⟨_, rfl, log_small hn, k _ H1 e1 (by
      show R c _ (.str (Str.ofString (toString (n : Int)))) _
      rw [num_str]
      exact .str _)⟩
theorem xj_run : ∀ {ts : List TE} {ps : List (List Nat)} (acc : List Nat) {D : List SV}, XJ c ts D ps → acc.length + ps.flatten.length ≤ 100000 → ∀ (W : WS) (o p : Addr) (st : L2.St) (H : Hp) (Q : Str → Hp → Prop), Live W H → Sl c o p (hide W H) D st →
    (∀ H2, Same H H2 → Q (S (acc ++ ps.flatten)) H2) → tJs ts (S acc) st H Q
  | [], _, acc, D, .nil, _, W, o, p, st, H, Q, l, a, k => by
    have := k H (.refl H)
    show Q (S acc) H
    simpa using this
  | t :: ts, _, acc, D, @Paired.cons _ _ _ _ s _ ps h r, hz, W, o, p, st, H, Q, l, a, k => by
    refine h W o p st H _ l a fun v H1 e1 rv => ?_
    cases rv
    simp only [List.flatten_cons, List.length_append] at hz
    refine ⟨_, rfl, ?_, ?_⟩
    · rw [S_cat, S_len, List.length_append]
      exact Nat.le_trans (show acc.length + s.length ≤ 100000 by omega) (by decide)
    · rw [S_cat]
      refine xj_run (acc ++ s) r (by rw [List.length_append]; omega) W o p st H1 Q (l.same e1) (a.mono (hide_same e1)) fun H2 e2 => ?_
      have := k H2 (e1.trans e2)
      simpa [List.append_assoc] using this
theorem x_joined {ts : List TE} {ps : List (List Nat)} (h : XJ c ts D ps) (hz : ps.flatten.length ≤ 100000) : X c (fun σ H Q => tJs ts Str.empty σ H fun out H1 => Q (.str out) H1) D (.str ps.flatten) := fun W o p st H Q l a k => by
  have e : Str.empty = S [] := rfl
  show tJs ts Str.empty st H _
  rw [e]
  exact xj_run [] h (by simpa using hz) W o p st H _ l a fun H2 e2 => by
    have := k _ H2 e2 (.str ps.flatten)
    simpa using this
end
end Wb

/-! Statements, loops, comprehensions: what they come to, on data and the store. -/
namespace Wb
open PySem PySem.Spec PyProof.Rows L2 SX

section
variable {c : Cf} {W W' : WS} {o p o2 q : Addr} {H H' H1 H2 H3 : Hp} {D D1 D2 : List SV} {st st2 : L2.St} {s s1 s2 : Sto} {u : HO}
theorem eff_W {b : Addr} (h : eff W o s b = false) : W b = false := by
  unfold eff at h
  cases q : s.c with
  | none => rw [q] at h; exact h
  | some ds =>
    rw [q] at h
    unfold add at h
    simp only [Bool.or_eq_false_iff] at h
    exact h.1
theorem eff_o {b : Addr} (h : eff W o s b = false) (n : s.c ≠ none) : b ≠ o := by
  unfold eff at h
  cases q : s.c with
  | none => exact absurd q n
  | some ds =>
    rw [q] at h
    unfold add at h
    simp only [Bool.or_eq_false_iff, decide_eq_false_iff_not] at h
    exact h.2
theorem eff_of {b : Addr} (h : W b = false) (n : s.c ≠ none → b ≠ o) : eff W o s b = false := by
  unfold eff
  cases q : s.c with
  | none => exact h
  | some ds =>
    unfold add
    simp [h, n (by rw [q]; simp)]
theorem W_eff {b : Addr} (h : W b = true) : eff W o s b = true := by
  unfold eff
  cases q : s.c with
  | none => exact h
  | some ds => exact add_of h
theorem Step.hide (sp : Step o p s H o2 s2 H2) (a : As c W o p s D st H) : Same (hide (eff W o s) H) (hide (eff W o2 s2) H2) := fun b x h => by
  obtain ⟨h1, w⟩ := hide_of h
  have wb : W b = false := eff_W w
  have hp : s.m.kind ≠ 0 → b ≠ p := fun k e => by subst e; rw [a.wp k] at wb; cases wb
  have h2 := sp.keep b x h1 (fun n => eff_o w n) hp
  refine hide_at h2 (eff_of wb fun n => ?_)
  rcases sp.nw n with ⟨n1, e⟩ | hn
  · rw [e]; exact eff_o w n1
  · exact ne_of_none h1 hn
theorem hide_new (h : H q = none) : Same (hide W H) (hide (add W q) (upd H q u)) := fun b x e => by
  obtain ⟨h1, w⟩ := hide_of e
  have n : b ≠ q := ne_of_none h1 h
  exact hide_at (by rw [upd_ne n]; exact h1) (by rw [add_ne n]; exact w)
theorem MemAt.to {m : Mem} (w : W p = true → W' p = true) (e : ∀ x, H p = some x → H' p = some x) (hs : Same (hide W H) (hide W' H')) (h : MemAt c p W H m) : MemAt c p W' H' m := by
  cases m with
  | no => trivial
  | pen b => obtain ⟨w1, l, ns, i, r, h1, h2, h3⟩ := h; exact ⟨w w1, l, ns, i, r, e _ h1, hs.seq h2, h3⟩
  | cur t i g => obtain ⟨w1, dx, h1⟩ := h; exact ⟨w w1, dx, e _ h1⟩
theorem Sl.nil : Sl c o p H [] [] := fun i s h => by simp at h
theorem Sl.nils : Sl c o p H [] st := fun i s h => by simp at h
theorem Step.refl : Step o p s H o s H := .pure (.refl H)

/-! ### statements -/
variable {te : TE} {ta : TA} {tc : TT} {t t2 : TS} {d : Dt} {ds : List Dt} {i j : Nat} {b : Bool} {P : Dt → Sto → Prop} {Pn Pm : List SV → Sto → Prop} {Pr : Dt → Sto → Prop}
theorem Z.imp {Pn' : List SV → Sto → Prop} {Pr' : Dt → Sto → Prop} (h : Z c t D s Pn Pr) (i : ∀ D' s', Pn D' s' → Pn' D' s') (k : ∀ d s', Pr d s' → Pr' d s') : Z c t D s Pn' Pr' := fun W o p st H F a kn kr =>
  h W o p st H F a (fun o2 st2 H2 D2 s2 q => kn o2 st2 H2 D2 s2 (i D2 s2 q)) fun o2 v H2 d s2 q => kr o2 v H2 d s2 (k d s2 q)
theorem z_seq (h : Z c t D s Pm Pr) (k : ∀ D1 s1, Pm D1 s1 → Z c t2 D1 s1 Pn Pr) : Z c (tSeq t t2) D s Pn Pr := fun W o p st H F a kn kr =>
  h W o p st H { F with nx := t2 F } a (fun o1 st1 H1 D1 s1 pm sp a1 => k D1 s1 pm W o1 p st1 H1 F a1
    (fun o2 st2 H2 D2 s2 pn sp2 a2 => kn o2 st2 H2 D2 s2 pn (sp.trans a1 sp2) a2) (fun o2 v H2 d s2 pr sp2 a2 r => kr o2 v H2 d s2 pr (sp.trans a1 sp2) a2 r)) kr
theorem z_set (h : E c te D s P) : Z c (tAsg te (gName i)) D s (fun D' s' => ∃ d, P d s' ∧ D' = D.set i (.d d)) (fun _ _ => False) := fun W o p st H F a kn _ =>
  h W o p st H _ a fun v H1 d s1 pd sp a1 r => kn o (st.set i (some v)) H1 (D.set i (.d d)) s1 ⟨d, pd, rfl⟩ sp (a1.slots (a1.sl.set ⟨v, rfl, r⟩))
theorem z_setx (h : X c te D d) (k : Z c t2 (D.set i (.d d)) s Pn Pr) : Z c (tSeq (tAsg te (gName i)) t2) D s Pn Pr :=
  z_seq ((z_set h.E).imp (fun _ _ z => z) fun _ _ z => z.elim) fun D1 s1 ⟨d', ⟨e1, e2⟩, e3⟩ => by subst e1 e2 e3; exact k
theorem z_ret (h : E c te D s P) : Z c (tRet te) D s (fun _ _ => False) P := fun W o p st H F a _ kr =>
  h W o p st H _ a fun v H1 d s1 pd sp a1 r => kr o v H1 d s1 pd sp (a1.slots Sl.nil) (r.mono (hide_less fun b hb => W_eff hb))
theorem z_retx (h : X c te D d) (hr : Pr d s) : Z c (tRet te) D s Pn Pr :=
  (z_ret h.E).imp (fun _ _ z => z.elim) fun d' s' ⟨e1, e2⟩ => by subst e1 e2; exact hr
theorem z_next : Z c tNext D s (fun D' s' => D' = D ∧ s' = s) (fun _ _ => False) := fun W o p st H F a kn _ => kn o st H D s ⟨rfl, rfl⟩ .refl a
theorem z_nextx (h : Pn D s) : Z c tNext D s Pn Pr := z_next.imp (fun _ _ ⟨e1, e2⟩ => by subst e1 e2; exact h) fun _ _ z => z.elim
theorem z_drop (h : E c te D s P) : Z c (tDrop te) D s (fun D' s' => D' = D ∧ ∃ d, P d s') (fun _ _ => False) := fun W o p st H F a kn _ =>
  h W o p st H _ a fun v H1 d s1 pd sp a1 r => kn o st H1 D s1 ⟨rfl, d, pd⟩ sp a1
theorem z_if {Pb : Bool → Sto → Prop} (h : ET c tc D s Pb) (k : ∀ s1, Pb true s1 → Z c t D s1 Pn Pr) (k2 : ∀ s1, Pb false s1 → Z c t2 D s1 Pn Pr) : Z c (tIfS tc t t2) D s Pn Pr := fun W o p st H F a kn kr =>
  h W o p st H _ a fun H1 b s1 pb sp a1 => by
    have kn' : ∀ o2 st2 H2 D2 s2, Pn D2 s2 → Step o p s1 H1 o2 s2 H2 → As c W o2 p s2 D2 st2 H2 → F.nx st2 H2 := fun o2 st2 H2 D2 s2 pn sp2 a2 => kn o2 st2 H2 D2 s2 pn (sp.trans a1 sp2) a2
    have kr' : ∀ o2 v H2 d s2, Pr d s2 → Step o p s1 H1 o2 s2 H2 → As c W o2 p s2 [] [] H2 → R c (Wb.hide W H2) v d → F.rt v H2 := fun o2 v H2 d s2 pr sp2 a2 r => kr o2 v H2 d s2 pr (sp.trans a1 sp2) a2 r
    cases b with
    | true => exact iteT (k s1 pb W o p st H1 F a1 kn' kr')
    | false => exact iteF (k2 s1 pb W o p st H1 F a1 kn' kr')
theorem z_ifx (h : XT c tc D b) (k : b = true → Z c t D s Pn Pr) (k2 : b = false → Z c t2 D s Pn Pr) : Z c (tIfS tc t t2) D s Pn Pr :=
  z_if h.E (fun s1 ⟨e1, e2⟩ => by subst e2; exact k e1.symm) fun s1 ⟨e1, e2⟩ => by subst e2; exact k2 e1.symm
/-- if t: return ..; then the rest -/
theorem z_ifr {t3 : TS} (h : XT c tc D b) (k : b = true → Z c t D s (fun _ _ => False) Pr) (k2 : b = false → Z c t3 D s Pn Pr) : Z c (tSeq (tIfS tc t tNext) t3) D s Pn Pr :=
  z_seq (Pm := fun D' s' => b = false ∧ D' = D ∧ s' = s) (z_ifx h (fun e => (k e).imp (fun _ _ z => z.elim) fun _ _ z => z) fun e => z_nextx ⟨e, rfl, rfl⟩) fun D1 s1 ⟨e1, e2, e3⟩ => by subst e2 e3; exact k2 e1
def noOwn : List SV → Bool
  | [] => true
  | .own :: _ => false
  | _ :: r => noOwn r
theorem noOwn_at : ∀ {D : List SV} {i : Nat}, noOwn D = true → D[i]? ≠ some .own
  | [], i, _, e => by simp at e
  | x :: r, 0, h, e => by
    have : x = .own := by simpa using e
    subst this
    cases h
  | x :: r, i + 1, h, e => by
    have h2 : noOwn r = true := by cases x <;> first | exact h | cases h
    exact noOwn_at (i := i) h2 (by simpa using e)
/-- name = [] -/
theorem z_new (hc : s.c = none) (hn : noOwn D = true := by rfl) : Z c (tAsg (tLst tNil) (gName j)) D s (fun D' s' => D' = D.set j .own ∧ s' = ⟨some [], s.m⟩) (fun _ _ => False) := fun W o p st H F a kn _ => by
  refine ⟨Nat.zero_le _, fun q hq => ?_⟩
  have wq : W q = false := a.live.fresh hq
  have eW : eff W o s = W := by unfold eff; rw [hc]
  have hs : Same (hide W H) (hide (add W q) (upd H q (.lst []))) := hide_new hq
  refine kn q (st.set j (some (.ref q))) (upd H q (.lst [])) (D.set j .own) ⟨some [], s.m⟩ ⟨rfl, rfl⟩ ⟨fun b x h _ _ => same_upd hq b x h, fun _ => .inr hq, rfl⟩ ?_
  have sl := a.sl
  have mm := a.mem
  rw [eW] at sl mm
  refine ⟨a.live.same (same_upd hq), fun ds e => ?_, MemAt.to (m := s.m) (fun w => add_of w) (fun x e => same_upd hq _ _ e) hs mm, a.wp, ?_⟩
  · cases e
    exact ⟨wq, [], upd_same, .nil⟩
  · have z : Sl c q p (hide W H) D st → Sl c q p (hide (add W q) (upd H q (.lst []))) D st := fun z => z.mono hs
    intro i sv hi
    rw [List.getElem?_set] at hi
    by_cases e : j = i
    · subst e
      rw [if_pos rfl] at hi
      split at hi
      · rename_i hl
        cases hi
        obtain ⟨x, hx, _⟩ := sl j D[j] (by simp [hl])
        have hl2 : j < st.length := (List.getElem?_eq_some_iff.mp hx).1
        exact ⟨some (.ref q), by rw [List.getElem?_set, if_pos rfl, if_pos hl2], rfl⟩
      · cases hi
    · rw [if_neg e] at hi
      obtain ⟨x, hx, r⟩ := sl i sv hi
      refine ⟨x, by rw [List.getElem?_set, if_neg e]; exact hx, ?_⟩
      cases sv with
      | own => exact absurd hi (noOwn_at hn)
      | un => trivial
      | d d => obtain ⟨v, e1, r1⟩ := r; exact ⟨v, e1, r1.mono hs⟩
      | mem => exact r
      | v v => exact r

/-! ### the own list -/
/-- from here on the own list is data as any other -/
theorem z_freeze (hc : s.c = some ds) (hj : D[j]? = some .own) (hn : noOwn (D.set j .un) = true) (h : Z c t (D.set j (.d (.lst ds))) ⟨none, s.m⟩ Pn Pr) : Z c t D s Pn Pr := fun W o p st H F a kn kr => by
  obtain ⟨wo, xs, hx, rx⟩ := a.own ds hc
  have eW : eff W o s = add W o := by unfold eff; rw [hc]
  have hs : Same (hide (add W o) H) (hide W H) := hide_less fun b hb => add_of hb
  have sl := a.sl
  have mm := a.mem
  rw [eW] at sl mm
  have st' : ∀ {o2 s2 H2}, Step o p ⟨none, s.m⟩ H o2 s2 H2 → Step o p s H o2 s2 H2 := fun {o2 s2 H2} sp => ⟨fun b x e _ k => sp.keep b x e (fun n => absurd rfl n) k, fun n => .inr ((sp.nw n).resolve_left fun z => z.1 rfl), sp.kind⟩
  have mm' : MemAt c p W H s.m := by
    by_cases hk : s.m.kind = 0
    · cases hm : s.m with
      | no => trivial
      | _ => rw [hm] at hk; cases hk
    · exact MemAt.to (fun _ => a.wp hk) (fun _ e => e) hs mm
  refine h W o p st H F ⟨a.live, (fun _ e => nomatch e), mm', a.wp, ?_⟩ (fun o2 st2 H2 D2 s2 pn sp a2 => kn o2 st2 H2 D2 s2 pn (st' sp) a2) (fun o2 v H2 d s2 pr sp a2 r => kr o2 v H2 d s2 pr (st' sp) a2 r)
  · intro i sv hi
    rw [List.getElem?_set] at hi
    by_cases e : j = i
    · subst e
      rw [if_pos rfl] at hi
      split at hi
      · cases hi
        obtain ⟨x, hx2, r⟩ := sl j .own hj
        exact ⟨x, hx2, .ref o, r, .lst (hide_at hx wo) (rx.mono hs)⟩
      · cases hi
    · rw [if_neg e] at hi
      obtain ⟨x, hx2, r⟩ := sl i sv hi
      refine ⟨x, hx2, ?_⟩
      cases sv with
      | own =>
        exfalso
        refine noOwn_at (i := i) hn ?_
        rw [List.getElem?_set, if_neg e]
        exact hi
      | un => trivial
      | d d => obtain ⟨v, e1, r1⟩ := r; exact ⟨v, e1, r1.mono hs⟩
      | mem => exact r
      | v v => exact r
/-- a change of the own list -/
theorem As.put {xs : List V} (a : As c W o p s D st H) (hc : s.c ≠ none) (hx : RA c (hide (add W o) H) xs ds) : As c W o p ⟨some ds, s.m⟩ D st (upd H o (.lst xs)) ∧ Step o p s H o ⟨some ds, s.m⟩ (upd H o (.lst xs)) := by
  obtain ⟨cs, hcs⟩ : ∃ cs, s.c = some cs := by
    cases q : s.c with
    | none => exact absurd q hc
    | some cs => exact ⟨cs, rfl⟩
  obtain ⟨wo, ys, hy, ry⟩ := a.own cs hcs
  have eW : eff W o s = add W o := by unfold eff; rw [hcs]
  have hs : Same (hide (add W o) H) (hide (add W o) (upd H o (.lst xs))) := hide_but fun b x e w => by
    have n : b ≠ o := fun z => by rw [z, add_self] at w; cases w
    rw [upd_ne n]
    exact e
  have sl := a.sl
  have mm := a.mem
  rw [eW] at sl mm
  refine ⟨⟨fun b hb => ?_, fun ds' e => ?_, ?_, a.wp, sl.mono hs⟩, ⟨fun b x e n _ => by rw [upd_ne (n hc)]; exact e, fun _ => .inl ⟨hc, rfl⟩, rfl⟩⟩
  · by_cases e : b = o
    · subst e; rw [upd_same]; simp
    · rw [upd_ne e]; exact a.live b hb
  · cases e
    exact ⟨wo, xs, upd_same, hx.mono hs⟩
  · by_cases hk : s.m.kind = 0
    · show MemAt c p _ _ s.m
      cases hm : s.m with
      | no => trivial
      | _ => rw [hm] at hk; cases hk
    · have hp : p ≠ o := fun e => by have := a.wp hk; rw [e, wo] at this; cases this
      exact MemAt.to (fun w => w) (fun x e => by rw [upd_ne hp]; exact e) hs mm
theorem z_append (hj : D[j]? = some .own) (hc : s.c ≠ none) (h : E c te D s P) (hl : ∀ d s1, P d s1 → ∃ es, s1.c = some es ∧ es.length ≤ 99999) :
    Z c (tDrop (tBM c.K "list" rAppend (tVar j) (tCons te tNil))) D s (fun D' s' => D' = D ∧ ∃ d s1 es, P d s1 ∧ s1.c = some es ∧ s' = ⟨some (es ++ [d]), s1.m⟩) (fun _ _ => False) := fun W o p st H F a kn _ => by
  obtain ⟨x, hx, e⟩ := a.sl j .own hj
  subst e
  obtain ⟨cs, hcs⟩ : ∃ cs, s.c = some cs := by
    cases q : s.c with
    | none => exact absurd q hc
    | some cs => exact ⟨cs, rfl⟩
  obtain ⟨wo, ys, hy, ry⟩ := a.own cs hcs
  refine ⟨.ref o, hx, .inl ⟨rfl, _, SqL.of hy⟩, h W o p st H _ a fun v H1 d s1 pd sp a1 r => ?_⟩
  obtain ⟨es, hes, hlen⟩ := hl d s1 pd
  obtain ⟨wo1, zs, hz, rz⟩ := a1.own es hes
  have eW : eff W o s1 = add W o := by unfold eff; rw [hes]
  rw [eW] at r
  obtain ⟨a2, sp2⟩ := a1.put (by rw [hes]; simp) (rz.snoc r)
  refine ⟨o, zs, v, rfl, rfl, hz, ?_, kn o st _ D _ ⟨rfl, d, s1, es, pd, hes, rfl⟩ (sp.trans a1 sp2) a2⟩
  rw [rz.len]
  exact Nat.lt_of_le_of_lt hlen (by decide)
/-- name.append(e), e pure -/
theorem z_appendx (hj : D[j]? = some .own) (hc : s.c = some ds) (hl : ds.length ≤ 99999) (h : X c te D d) (k : Z c t D ⟨some (ds ++ [d]), s.m⟩ Pn Pr) : Z c (tSeq (tDrop (tBM c.K "list" rAppend (tVar j) (tCons te tNil))) t) D s Pn Pr :=
  z_seq ((z_append hj (by rw [hc]; simp) h.E fun d' s1 ⟨e1, e2⟩ => ⟨ds, by rw [e2]; exact hc, hl⟩).imp (fun _ _ z => z) fun _ _ z => z.elim) fun D1 s1 ⟨e0, d', s2, es, ⟨e1, e2⟩, e3, e4⟩ => by
    subst e0 e1 e2 e4
    rw [hc] at e3
    cases e3
    exact k
/-- list.extend by a list or a tuple -/
def rExtU (K : PySem.W.Frag) : V → List V → Hp → VK → Prop := fun x vs H Q => ∃ l b xs zs, x = .ref l ∧ vs = [.ref b] ∧ H l = some (.lst xs) ∧ (H b = some (.lst zs) ∨ SqT K H b zs) ∧ xs.length + zs.length ≤ sizeLine ∧ Q .non (upd H l (.lst (xs ++ zs)))
theorem z_extend {es : List Dt} (hj : D[j]? = some .own) (hc : s.c = some ds) (hl : ds.length + es.length ≤ 99999) (h : X c te D d) (hd : d = .lst es ∨ d = .tup es) :
    Z c (tDrop (tBM c.K "list" (rExtU c.K) (tVar j) (tCons te tNil))) D s (fun D' s' => D' = D ∧ s' = ⟨some (ds ++ es), s.m⟩) (fun _ _ => False) := fun W o p st H F a kn _ => by
  obtain ⟨x, hx, e⟩ := a.sl j .own hj
  subst e
  obtain ⟨wo, ys, hy, ry⟩ := a.own ds hc
  refine ⟨.ref o, hx, .inl ⟨rfl, _, SqL.of hy⟩, h.E W o p st H _ a fun v H1 d1 s1 pd sp a1 r => ?_⟩
  obtain ⟨e1, e2⟩ := pd
  subst e1 e2
  obtain ⟨_, zs, hz, rz⟩ := a1.own ds hc
  have eW : eff W o s1 = add W o := by unfold eff; rw [hc]
  rw [eW] at r
  have go : ∀ {b : Addr} {ws : List V}, v = .ref b → (H1 b = some (.lst ws) ∨ SqT c.K H1 b ws) → RA c (hide (add W o) H1) ws es → rExtU c.K (.ref o) [v] H1 fun _ H2 => F.nx st H2 := fun {b ws} ev hb rw' => by
    subst ev
    obtain ⟨a2, sp2⟩ := a1.put (by rw [hc]; simp) (rz.app rw')
    refine ⟨o, b, zs, ws, rfl, rfl, hz, hb, ?_, kn o st _ _ _ ⟨rfl, rfl⟩ (sp.trans a1 sp2) a2⟩
    rw [rz.len, rw'.len]
    exact Nat.le_trans hl (by decide)
  rcases hd with rfl | rfl
  · cases r with
    | lst e r => exact go rfl (.inl (hide_sub _ _ e)) r
  · cases r with
    | tup e r => exact go rfl (.inr (same_t hide_sub e)) r
end

/-! ### what is walked -/
/-- J gives these data, one a turn, while what was there stands -/
structure Src (c : Cf) (W : WS) (H1 : Hp) (J : It) (ds : List Dt) : Prop where
  go : ∀ (W' : WS) (H2 : Hp) (i : Nat), Same (hide W H1) (hide W' H2) → i < ds.length → J.go i H2
  stop : ∀ (W' : WS) (H2 : Hp), Same (hide W H1) (hide W' H2) → J.stop ds.length H2
  yld : ∀ (W' : WS) (H2 : Hp) (i : Nat) (v : V) (H3 : Hp) (d : Dt), Same (hide W H1) (hide W' H2) → Live W' H2 → ds[i]? = some d → J.yld i H2 v H3 → Same H2 H3 ∧ R c (hide W' H3) v d
def XS (c : Cf) (wi : TI) (D : List SV) (ds : List Dt) : Prop := ∀ (W : WS) (o p : Addr) (st : L2.St) (H : Hp) (Q : It → Hp → Prop), Live W H → Sl c o p (hide W H) D st → (∀ J H1, Same H H1 → Src c W H1 J ds → Q J H1) → wi st H Q
def ES (c : Cf) (wi : TI) (D : List SV) (s : Sto) (P : List Dt → Sto → Prop) : Prop := ∀ (W : WS) (o p : Addr) (st : L2.St) (H : Hp) (Q : It → Hp → Prop), As c W o p s D st H →
  (∀ J H1 ds s1, P ds s1 → Step o p s H o s1 H1 → As c W o p s1 D st H1 → Src c (eff W o s1) H1 J ds → Q J H1) → wi st H Q
/-- a target: what it binds; vs: the slots that it writes -/
def G (c : Cf) (g : TG) (vs : List Nat) (d : Dt) (D D' : List SV) : Prop := ∀ (W : WS) (o p : Addr) (st : L2.St) (H : Hp) (v : V) (Q : L2.St → Hp → Prop), Live W H → Sl c o p (hide W H) D st → R c (hide W H) v d →
  (∀ st', Sl c o p (hide W H) D' st' → st'.length = st.length → (∀ j, j ∉ vs → st'[j]? = st[j]?) → Q st' H) → g v st H Q
section
variable {c : Cf} {W W' : WS} {o p o2 q : Addr} {H H' H1 H2 H3 : Hp} {D D1 D2 : List SV} {st st2 : L2.St} {s s1 s2 : Sto} {te : TE} {ta : TA} {tc : TT} {t t2 tb : TS} {d : Dt} {ds : List Dt} {i j : Nat} {b : Bool} {wi : TI} {g : TG}
  {Pn Pm : List SV → Sto → Prop} {Pr : Dt → Sto → Prop}
theorem XS.E (h : XS c wi D ds) : ES c wi D s (fun ds' s' => ds' = ds ∧ s' = s) := fun W o p st H Q a k => h _ o p st H Q a.lv a.sl fun J H1 e sc => k J H1 ds s ⟨rfl, rfl⟩ (.pure e) (a.same e) sc
theorem src_list {a : Addr} {xs : List V} (e : hide W H1 a = some (.lst xs)) (r : RA c (hide W H1) xs ds) : Src c W H1 (Itl c.K a) ds where
  go := fun W' H2 i h hi => by
    rw [← r.len] at hi
    exact walk_list.goes i H2 hi (SqL.of (hide_sub _ _ (h _ _ e)))
  stop := fun W' H2 h => by
    rw [← r.len]
    exact walk_list.stops H2 (SqL.of (hide_sub _ _ (h _ _ e)))
  yld := fun W' H2 i v H3 d h l hd y => by
    have hi : i < xs.length := by rw [r.len]; exact (List.getElem?_eq_some_iff.mp hd).1
    obtain ⟨e3, hv⟩ := walk_list.yields i H2 v H3 hi (SqL.of (hide_sub _ _ (h _ _ e))) y
    subst e3
    obtain ⟨d', hd', rv⟩ := r.get' hv
    rw [hd] at hd'
    cases hd'
    exact ⟨.refl _, rv.mono h⟩
theorem src_tup {a : Addr} {xs : List V} (e : SqT c.K (hide W H1) a xs) (r : RA c (hide W H1) xs ds) : Src c W H1 (Itt c.K a) ds where
  go := fun W' H2 i h hi => by
    rw [← r.len] at hi
    exact walk_tup.goes i H2 hi (same_t hide_sub (same_t h e))
  stop := fun W' H2 h => by
    rw [← r.len]
    exact walk_tup.stops H2 (same_t hide_sub (same_t h e))
  yld := fun W' H2 i v H3 d h l hd y => by
    have hi : i < xs.length := by rw [r.len]; exact (List.getElem?_eq_some_iff.mp hd).1
    obtain ⟨e3, hv⟩ := walk_tup.yields i H2 v H3 hi (same_t hide_sub (same_t h e)) y
    subst e3
    obtain ⟨d', hd', rv⟩ := r.get' hv
    rw [hd] at hd'
    cases hd'
    exact ⟨.refl _, rv.mono h⟩
theorem xs_list (h : X c te D (.lst ds)) : XS c (iList c.K te) D ds := fun W o p st H Q l a k =>
  h W o p st H _ l a fun v H1 e r => by
    cases r with
    | lst e1 r1 => exact ⟨_, rfl, ⟨_, SqL.of (hide_sub _ _ e1)⟩, k _ H1 e (src_list e1 r1)⟩
theorem xs_tup (h : X c te D (.tup ds)) : XS c (iTup c.K te) D ds := fun W o p st H Q l a k =>
  h W o p st H _ l a fun v H1 e r => by
    cases r with
    | tup e1 r1 => exact ⟨_, rfl, ⟨_, same_t hide_sub e1⟩, k _ H1 e (src_tup e1 r1)⟩
def rgD (n : Nat) : List Dt := (List.range n).map fun i : Nat => Dt.int (i : Int)
theorem rgD_at {n : Nat} {d : Dt} (h : (rgD n)[i]? = some d) : i < n ∧ d = .int (i : Int) := by
  unfold rgD at h
  rw [List.getElem?_map] at h
  cases q : (List.range n)[i]? with
  | none => rw [q] at h; cases h
  | some x =>
    rw [q] at h
    cases h
    obtain ⟨h1, h2⟩ := List.getElem?_eq_some_iff.mp q
    rw [List.length_range] at h1
    rw [List.getElem_range] at h2
    subst h2
    exact ⟨h1, rfl⟩
theorem rgD_len {n : Nat} : (rgD n).length = n := by simp [rgD]
theorem src_range {n : Nat} : Src c W H1 (Itr 0 n) (rgD n) where
  go := fun W' H2 i h hi => by rw [rgD_len] at hi; exact hi
  stop := fun W' H2 h => by rw [rgD_len]; exact Nat.le_refl _
  yld := fun W' H2 i v H3 d h l hd y => by
    obtain ⟨e3, e4⟩ := y
    subst e3 e4
    obtain ⟨_, rfl⟩ := rgD_at hd
    refine ⟨.refl _, ?_⟩
    rw [Int.zero_add]
    exact .int _
theorem es_range {P : Dt → Sto → Prop} (h : E c te D s P) (hz : ∀ d s1, P d s1 → ∃ n : Nat, d = .int (n : Int) ∧ n ≤ 100000) : ES c (iRng1 (tCons te tNil)) D s (fun ds s1 => ∃ n : Nat, P (.int (n : Int)) s1 ∧ n ≤ 100000 ∧ ds = rgD n) := fun W o p st H Q a k =>
  h W o p st H _ a fun v H1 d s1 pd sp a1 r => by
    obtain ⟨n, rfl, hn⟩ := hz d s1 pd
    cases r
    refine ⟨(n : Int), rfl, by omega, by omega, ?_⟩
    rw [Int.toNat_natCast]
    exact k _ H1 (rgD n) s1 ⟨n, pd, hn, rfl⟩ sp a1 src_range

theorem g_name (hi : i ∈ vs) : G c (gName i) vs d D (D.set i (.d d)) := fun W o p st H v Q l a r k =>
  k _ (a.setd r) (by simp) fun j hj => by
    rw [List.getElem?_set, if_neg fun e => hj (by subst e; exact hi)]
theorem g_tup2 {d1 d2 : Dt} {i1 i2 : Nat} (h1 : i1 ∈ vs) (h2 : i2 ∈ vs) : G c (gTup c.K 2 (gCons (gName i1) (gCons (gName i2) gNil))) vs (.tup [d1, d2]) D ((D.set i1 (.d d1)).set i2 (.d d2)) := fun W o p st H v Q l a r k => by
  cases r with
  | tup e r =>
    cases r with
    | cons r1 r => cases r with
      | cons r2 r =>
        cases r
        refine ⟨_, _, rfl, same_t hide_sub e, rfl, _, _, rfl, _, _, rfl, rfl, ?_⟩
        exact k _ ((a.setd r1).setd r2) (by simp) fun j hj => by
          rw [List.getElem?_set, if_neg fun e => hj (by subst e; exact h2), List.getElem?_set, if_neg fun e => hj (by subst e; exact h1)]
theorem g_tup3 {d1 d2 d3 : Dt} {i1 i2 i3 : Nat} (h1 : i1 ∈ vs) (h2 : i2 ∈ vs) (h3 : i3 ∈ vs) : G c (gTup c.K 3 (gCons (gName i1) (gCons (gName i2) (gCons (gName i3) gNil)))) vs (.tup [d1, d2, d3]) D (((D.set i1 (.d d1)).set i2 (.d d2)).set i3 (.d d3)) := fun W o p st H v Q l a r k => by
  cases r with
  | tup e r =>
    cases r with
    | cons r1 r => cases r with
      | cons r2 r => cases r with
        | cons r3 r =>
          cases r
          refine ⟨_, _, rfl, same_t hide_sub e, rfl, _, _, rfl, _, _, rfl, _, _, rfl, rfl, ?_⟩
          exact k _ (((a.setd r1).setd r2).setd r3) (by simp) fun j hj => by
            rw [List.getElem?_set, if_neg fun e => hj (by subst e; exact h3), List.getElem?_set, if_neg fun e => hj (by subst e; exact h2), List.getElem?_set, if_neg fun e => hj (by subst e; exact h1)]
/-- name, .. = e -/
theorem z_asg {P : Dt → Sto → Prop} {Q : List SV → Sto → Prop} {vs : List Nat} (h : E c te D s P) (hg : ∀ d s1, P d s1 → ∃ D', G c g vs d D D' ∧ Q D' s1) : Z c (tAsg te g) D s Q (fun _ _ => False) := fun W o p st H F a kn _ =>
  h W o p st H _ a fun v H1 d s1 pd sp a1 r => by
    obtain ⟨D', g1, q⟩ := hg d s1 pd
    exact g1 _ o p st H1 v _ a1.lv a1.sl r fun st' sl _ _ => kn o st' H1 D' s1 q sp (a1.slots sl)
theorem z_for {P0 : List Dt → Sto → Prop} {vs : List Nat} (hs : ES c wi D s P0) (I : List Dt → Nat → List SV → Sto → Prop) (h0 : ∀ ds s1, P0 ds s1 → I ds 0 D s1)
    (hb : ∀ ds i d D1 s1, ds[i]? = some d → I ds i D1 s1 → ∃ D2, G c g vs d D1 D2 ∧ Z c tb D2 s1 (I ds (i + 1)) Pr) (hd : ∀ ds D1 s1, I ds ds.length D1 s1 → Pn D1 s1) : Z c (tFor wi g tb) D s Pn Pr := fun W o p st H F a kn kr =>
  hs W o p st H _ a fun J H1 ds s1 p0 sp a1 sc => by
    refine ⟨fun i m σ H2 => m = ds.length - i ∧ i ≤ ds.length ∧ ∃ o2 D2 s2, I ds i D2 s2 ∧ Step o p s1 H1 o2 s2 H2 ∧ As c W o2 p s2 D2 σ H2, ⟨_, rfl, Nat.zero_le _, o, D, s1, h0 ds s1 p0, .refl, a1⟩, ?_⟩
    rintro i m σ H2 ⟨rfl, hi, o2, D2, s2, hI, sp2, a2⟩
    have hsm := sp2.hide a1
    rcases Nat.lt_or_ge i ds.length with hlt | hge
    · refine .inr ⟨sc.go _ H2 i hsm hlt, fun σ' H' => i + 1 ≤ ds.length ∧ ∃ o3 D3 s3, I ds (i + 1) D3 s3 ∧ Step o p s1 H1 o3 s3 H' ∧ As c W o3 p s3 D3 σ' H', fun σ' H' q => ⟨_, by omega, rfl, q.1, q.2⟩, fun x H' y => ?_⟩
      have hds : ds[i]? = some ds[i] := by simp [hlt]
      obtain ⟨e3, rx⟩ := sc.yld _ H2 i x H' ds[i] hsm a2.lv hds y
      have a3 := a2.same e3
      obtain ⟨D3, g3, z3⟩ := hb ds i ds[i] D2 s2 hds hI
      refine g3 _ o2 p σ H' x _ a3.lv a3.sl rx fun st' sl _ _ => ?_
      have sp3 : Step o2 p s2 H2 o2 s2 H' := .pure e3
      refine z3 W o2 p st' H' _ (a3.slots sl) (fun o4 st4 H4 D4 s4 hI4 sp4 a4 => ⟨hlt, o4, D4, s4, hI4, (sp2.trans a2 sp3).trans a3 sp4, a4⟩) fun o4 v H4 d s4 pr sp4 a4 r => ?_
      exact kr o4 v H4 d s4 pr (sp.trans a1 ((sp2.trans a2 sp3).trans a3 sp4)) a4 r
    · have e : i = ds.length := by omega
      subst e
      exact .inl ⟨sc.stop _ H2 hsm, kn o2 σ H2 D2 s2 (hd ds D2 s2 hI) (sp.trans a1 sp2) a2⟩
theorem z_while (I : List SV → Sto → Prop) (μ : List SV → Sto → Nat) (h0 : I D s) (hb : ∀ D1 s1, I D1 s1 → ∃ Pb : Bool → Sto → Prop, ET c tc D1 s1 Pb ∧ (∀ s2, Pb true s2 → Z c tb D1 s2 (fun D3 s3 => I D3 s3 ∧ μ D3 s3 < μ D1 s1) Pr) ∧ ∀ s2, Pb false s2 → Pn D1 s2) : Z c (tWhile tc tb) D s Pn Pr := fun W o p st H F a kn kr => by
  refine ⟨fun m σ H2 => ∃ o2 D2 s2, m = μ D2 s2 ∧ I D2 s2 ∧ Step o p s H o2 s2 H2 ∧ As c W o2 p s2 D2 σ H2, ⟨_, o, D, s, rfl, h0, .refl, a⟩, ?_⟩
  rintro m σ H2 ⟨o2, D2, s2, rfl, hI, sp2, a2⟩
  obtain ⟨Pb, ht, hy, hn⟩ := hb D2 s2 hI
  refine ht W o2 p σ H2 _ a2 fun H3 b s3 pb sp3 a3 => ?_
  have sp4 := sp2.trans a2 sp3
  cases b with
  | true =>
    refine iteT ⟨fun σ' H' => ∃ o5 D5 s5, μ D5 s5 < μ D2 s2 ∧ I D5 s5 ∧ Step o p s H o5 s5 H' ∧ As c W o5 p s5 D5 σ' H', fun σ' H' ⟨o5, D5, s5, q1, q2, q3, q4⟩ => ⟨_, q1, o5, D5, s5, rfl, q2, q3, q4⟩, ?_⟩
    exact hy s3 pb W o2 p σ H3 _ a3 (fun o5 st5 H5 D5 s5 ⟨q1, q2⟩ sp5 a5 => ⟨o5, D5, s5, q2, q1, sp4.trans a3 sp5, a5⟩) fun o5 v H5 d s5 pr sp5 a5 r => kr o5 v H5 d s5 pr (sp4.trans a3 sp5) a5 r
  | false => exact iteF (kn o2 σ H3 D2 s3 (hn s3 pb) sp4 a3)

/-! ### comprehensions -/
theorem wipe_at : ∀ (vs : List Nat) (σ : L2.St) (j : Nat), (wipe σ vs)[j]? = if j ∈ vs then (σ[j]?).map (fun _ => none) else σ[j]?
  | [], σ, j => by simp [wipe]
  | v :: vs, σ, j => by
    show ((wipe σ vs).set v none)[j]? = _
    rw [List.getElem?_set, wipe_length, wipe_at vs σ j]
    by_cases e : v = j
    · subst e
      rw [if_pos rfl, if_pos (List.mem_cons_self ..)]
      by_cases hl : v < σ.length
      · rw [if_pos hl]; simp [hl]
      · rw [if_neg hl]; simp [hl]
    · rw [if_neg e]
      have : (j ∈ v :: vs) ↔ j ∈ vs := by simp; intro z; exact absurd z.symm e
      simp only [this]
theorem wipe_eq {vs : List Nat} {σ σ' : L2.St} (hl : σ'.length = σ.length) (h : ∀ j, j ∉ vs → σ'[j]? = σ[j]?) : wipe σ' vs = wipe σ vs := by
  apply List.ext_getElem?
  intro j
  rw [wipe_at, wipe_at]
  by_cases e : j ∈ vs
  · rw [if_pos e, if_pos e]
    by_cases hj : j < σ.length
    · have hj' : j < σ'.length := by omega
      simp [hj, hj']
    · have hj' : ¬ j < σ'.length := by omega
      simp [hj, hj']
  · rw [if_neg e, if_neg e, h j e]
theorem wipe_wipe (vs : List Nat) (σ : L2.St) : wipe (wipe σ vs) vs = wipe σ vs := wipe_eq (wipe_length σ vs) fun j hj => by rw [wipe_at, if_neg hj]
/-- the slots of a comprehension's own names, forgotten -/
def unAt : List SV → List Nat → List SV
  | D, [] => D
  | D, v :: vs => (unAt D vs).set v .un
theorem unAt_sl {H : Hp} : ∀ {vs : List Nat} {D : List SV} {st : L2.St}, Sl c o p H D st → Sl c o p H (unAt D vs) (wipe st vs)
  | [], _, _, h => h
  | v :: vs, D, st, h => by
    have ih := unAt_sl (vs := vs) h
    intro j sv hj
    have hj' : ((unAt D vs).set v .un)[j]? = some sv := hj
    rw [List.getElem?_set] at hj'
    show ∃ x, ((wipe st vs).set v none)[j]? = some x ∧ _
    rw [List.getElem?_set]
    by_cases e : v = j
    · subst e
      rw [if_pos rfl] at hj'
      split at hj'
      · rename_i hl
        cases hj'
        obtain ⟨x, hx, _⟩ := ih v (unAt D vs)[v] (by simp [hl])
        have hl2 : v < (wipe st vs).length := (List.getElem?_eq_some_iff.mp hx).1
        exact ⟨none, by rw [if_pos rfl, if_pos hl2], trivial⟩
      · cases hj'
    · rw [if_neg e] at hj' ⊢
      exact ih j sv hj'
theorem As.hidden {Dn : Addr} {u : HO} (a : As c W o p s D st H) (hn : H Dn = none) : As c (add W Dn) o p s D st (upd H Dn u) := by
  have wn : eff W o s Dn = false := a.lv.fresh hn
  have hW : ∀ b, eff (add W Dn) o s b = (eff W o s b || decide (b = Dn)) := fun b => by
    unfold eff
    cases q : s.c with
    | none => rfl
    | some ds => simp [add, Bool.or_assoc, Bool.or_comm, Bool.or_left_comm]
  have hs : Same (hide (eff W o s) H) (hide (eff (add W Dn) o s) (upd H Dn u)) := fun b x e => by
    obtain ⟨h1, w⟩ := hide_of e
    have n : b ≠ Dn := ne_of_none h1 hn
    exact hide_at (by rw [upd_ne n]; exact h1) (by rw [hW, w]; simp [n])
  refine ⟨fun b hb => ?_, fun ds e => ?_, MemAt.to (fun w => ?_) (fun x e => ?_) hs a.mem, fun k => add_of (a.wp k), a.sl.mono hs⟩
  · by_cases e : b = Dn
    · subst e; rw [upd_same]; simp
    · rw [add_ne e] at hb
      rw [upd_ne e]
      exact a.live b hb
  · obtain ⟨wo, xs, h1, h2⟩ := a.own ds e
    have n : o ≠ Dn := ne_of_none h1 hn
    have eW : eff W o s = add W o := by unfold eff; rw [e]
    have eW2 : eff (add W Dn) o s = add (add W Dn) o := by unfold eff; rw [e]
    rw [eW, eW2] at hs
    exact ⟨by rw [add_ne n]; exact wo, xs, by rw [upd_ne n]; exact h1, h2.mono hs⟩
  · rw [hW, w]; rfl
  · have n : p ≠ Dn := ne_of_none e hn
    rw [upd_ne n]; exact e
/-- the comprehension's list is seen again -/
theorem As.shown {Dn : Addr} {xs : List V} (a : As c (add W Dn) o p s D st H) (hw : W Dn = false) (hx : H Dn = some (.lst xs)) (hr : RA c (hide (eff (add W Dn) o s) H) xs ds) (hp : s.m.kind ≠ 0 → W p = true) (ho : s.c ≠ none → o ≠ Dn) :
    As c W o p s D st H ∧ R c (hide (eff W o s) H) (.ref Dn) (.lst ds) := by
  have hs : Same (hide (eff (add W Dn) o s) H) (hide (eff W o s) H) := hide_less fun b hb => by
    unfold eff at hb ⊢
    cases q : s.c with
    | none => rw [q] at hb; exact add_of hb
    | some ds =>
      rw [q] at hb
      unfold add at hb ⊢
      simp only [Bool.or_eq_true] at hb ⊢
      rcases hb with h | h
      · exact .inl (.inl h)
      · exact .inr h
  refine ⟨⟨fun b hb => a.live b (add_of hb), fun ds' e => ?_, ?_, hp, a.sl.mono hs⟩, .lst (hide_at hx (eff_of hw fun n => (ho n).symm)) (hr.mono hs)⟩
  · obtain ⟨wo, ys, h1, h2⟩ := a.own ds' e
    have n : o ≠ Dn := ho (by rw [e]; simp)
    have eW : eff W o s = add W o := by unfold eff; rw [e]
    have eW2 : eff (add W Dn) o s = add (add W Dn) o := by unfold eff; rw [e]
    rw [eW, eW2] at hs
    rw [add_ne n] at wo
    exact ⟨wo, ys, h1, h2.mono hs⟩
  · by_cases hk : s.m.kind = 0
    · cases hm : s.m with
      | no => trivial
      | _ => rw [hm] at hk; cases hk
    · exact MemAt.to (fun _ => W_eff (hp hk)) (fun _ e => e) hs a.mem
/-- [elt for target in source if test]: the element may change the store -/
theorem e_lc {tt : TT} {vs : List Nat} {P0 : List Dt → Sto → Prop} {P : Dt → Sto → Prop} (hs : ES c wi D s P0) (I : List Dt → Nat → List Dt → Sto → Prop) (h0 : ∀ ds s1, P0 ds s1 → I ds 0 [] s1)
    (hb : ∀ ds i d es s1, ds[i]? = some d → I ds i es s1 → ∃ D2 b, G c g vs d (unAt D vs) D2 ∧ XT c tt D2 b ∧ (b = false → I ds (i + 1) es s1) ∧ (b = true → es.length ≤ 99999 ∧ E c te D2 s1 (fun y s2 => I ds (i + 1) (es ++ [y]) s2)))
    (hd : ∀ ds es s1, I ds ds.length es s1 → P (.lst es) s1) : E c (tLc wi g tt te vs) D s P := fun W o p st H Q a k =>
  hs W o p st H _ a fun J H1 ds s1 p0 sp a1 sc => fun Dn hn => by
    have wD : W Dn = false := a1.live.fresh hn
    have a0 := a1.hidden (u := .lst []) hn
    have sl0 := unAt_sl (vs := vs) a0.sl
    have hs0 : Same (hide (eff W o s1) H1) (hide (eff (add W Dn) o s1) (upd H1 Dn (.lst []))) := fun b x e => by
      obtain ⟨h1, w⟩ := hide_of e
      have n : b ≠ Dn := ne_of_none h1 hn
      refine hide_at (by rw [upd_ne n]; exact h1) (eff_of (by rw [add_ne n]; exact eff_W w) fun n => eff_o w n)
    have nD : ∀ {s2 : Sto} {D2 : List SV} {st2 : L2.St} {H2 : Hp}, As c (add W Dn) o p s2 D2 st2 H2 → s2.c ≠ none → Dn ≠ o := fun {s2 D2 st2 H2} a2 n e => by
      obtain ⟨cs, hcs⟩ : ∃ cs, s2.c = some cs := by
        cases q : s2.c with
        | none => exact absurd q n
        | some cs => exact ⟨cs, rfl⟩
      have := (a2.own cs hcs).1
      rw [← e, add_self] at this
      cases this
    have nP : s1.m.kind ≠ 0 → Dn ≠ p := fun k e => by
      have := a1.wp k
      rw [← e, wD] at this
      cases this
    have hsm : ∀ {s2 : Sto} {D2 : List SV} {st2 : L2.St} {H2 : Hp}, Step o p s1 H1 o s2 H2 → As c (add W Dn) o p s2 D2 st2 H2 → Same (hide (eff W o s1) H1) (hide (eff (add W Dn) o s2) H2) := fun {s2 D2 st2 H2} sp2 a2 b x e => by
      obtain ⟨h1, w⟩ := hide_of (sp2.hide a1 b x e)
      have n : b ≠ Dn := ne_of_none (hide_of e).1 hn
      exact hide_at h1 (eff_of (by rw [add_ne n]; exact eff_W w) fun n => eff_o w n)
    refine ⟨fun i m H2 => m = ds.length - i ∧ i ≤ ds.length ∧ ∃ es acc s2, I ds i es s2 ∧ H2 Dn = some (.lst acc) ∧ RA c (hide (eff (add W Dn) o s2) H2) acc es ∧ Step o p s1 H1 o s2 H2 ∧ As c (add W Dn) o p s2 (unAt D vs) (wipe st vs) H2,
      ⟨_, rfl, Nat.zero_le _, [], [], s1, h0 ds s1 p0, upd_same, .nil, .pure (same_upd hn), a0.slots sl0⟩, ?_⟩
    rintro i m H2 ⟨rfl, hi, es, acc, s2, hI, hD, hacc, sp2, a2⟩
    have hsm2 := hsm sp2 a2
    rcases Nat.lt_or_ge i ds.length with hlt | hge
    · refine .inr ⟨sc.go _ H2 i hsm2 hlt, fun H' => i + 1 ≤ ds.length ∧ ∃ es acc s2, I ds (i + 1) es s2 ∧ H' Dn = some (.lst acc) ∧ RA c (hide (eff (add W Dn) o s2) H') acc es ∧ Step o p s1 H1 o s2 H' ∧ As c (add W Dn) o p s2 (unAt D vs) (wipe st vs) H',
        fun H' q => ⟨_, by omega, rfl, q.1, q.2⟩, fun x H' y => ?_⟩
      have hds : ds[i]? = some ds[i] := by simp [hlt]
      obtain ⟨e3, rx⟩ := sc.yld _ H2 i x H' ds[i] hsm2 a2.lv hds y
      have a3 := a2.same e3
      obtain ⟨D2, b, g1, t1, hF, hT⟩ := hb ds i ds[i] es s2 hds hI
      refine g1 _ o p (wipe st vs) H' x _ a3.lv a3.sl rx fun st' sl hl hj => ⟨(wipe_eq hl hj).trans (wipe_wipe vs st), t1 _ o p st' H' _ a3.lv sl fun H4 e4 => ?_⟩
      have a4 := a3.same e4
      have e24 : Same H2 H4 := e3.trans e4
      have sp4 : Step o p s1 H1 o s2 H4 := sp2.trans a2 (.pure e24)
      cases b with
      | false => exact iteF ⟨hlt, es, acc, s2, hF rfl, e24 _ _ hD, hacc.mono (hide_same e24), sp4, a4⟩
      | true =>
        obtain ⟨hlen, hE⟩ := hT rfl
        refine iteT (hE (add W Dn) o p st' H4 _ (a4.slots (sl.mono (hide_same e4))) fun v H5 y s3 py sp5 a5 r => ?_)
        have hD5 : H5 Dn = some (.lst acc) := sp5.keep Dn _ (e24 _ _ hD) (fun n => nD a4 n) (fun k => nP (sp2.kind ▸ k))
        refine ⟨acc, hD5, ?_, hlt, es ++ [y], acc ++ [v], s3, py, upd_same, ?_, ?_, ?_⟩
        · rw [hacc.len]
          exact Nat.lt_of_le_of_lt hlen (by decide)
        all_goals
          have s45 := sp5.hide a4
          have hs6 : Same (hide (eff (add W Dn) o s3) H5) (hide (eff (add W Dn) o s3) (upd H5 Dn (.lst (acc ++ [v])))) := hide_but fun b x e w => by
            have n : b ≠ Dn := fun z => by
              have := eff_W w
              rw [z, add_self] at this
              cases this
            rw [upd_ne n]
            exact e
        · exact (((hacc.mono (hide_same e24)).mono s45).snoc r).mono hs6
        · have sp6 := sp4.trans a4 sp5
          exact ⟨fun b x e n1 n2 => by rw [upd_ne (ne_of_none e hn)]; exact sp6.keep b x e n1 n2, sp6.nw, sp6.kind⟩
        · refine ⟨fun b hb => ?_, fun ds' e => ?_, ?_, a5.wp, (a4.sl.mono s45).mono hs6⟩
          · by_cases e : b = Dn
            · subst e; rw [upd_same]; simp
            · rw [upd_ne e]; exact a5.live b hb
          · obtain ⟨wo, xs, h1, h2⟩ := a5.own ds' e
            have eW : eff (add W Dn) o s3 = add (add W Dn) o := by unfold eff; rw [e]
            rw [eW] at hs6
            exact ⟨wo, xs, by rw [upd_ne (nD a5 (by rw [e]; simp)).symm]; exact h1, h2.mono hs6⟩
          · by_cases hk : s3.m.kind = 0
            · cases hm : s3.m with
              | no => trivial
              | _ => rw [hm] at hk; cases hk
            · have hp : Dn ≠ p := nP (by rw [← (sp4.trans a4 sp5).kind]; exact hk)
              exact MemAt.to (fun w => w) (fun x e => by rw [upd_ne hp.symm]; exact e) hs6 a5.mem
    · have e : i = ds.length := by omega
      subst e
      have s12 := sp2.hide a1
      obtain ⟨a6, r6⟩ := a2.shown wD hD hacc (fun k => a1.wp (sp2.kind ▸ k)) fun n => (nD a2 n).symm
      exact .inl ⟨sc.stop _ H2 hsm2, k _ H2 _ s2 (hd ds es s2 hI) (sp.trans a1 sp2) (a6.slots (a1.sl.mono s12)) r6⟩
/-- pure: a list of the elements whose test holds -/
theorem x_lc {tt : TT} {vs : List Nat} (hs : XS c wi D ds) (f : Dt → Dt) (b : Dt → Bool) (hl : ds.length ≤ 99999) (hb : ∀ d ∈ ds, ∃ D2, G c g vs d (unAt D vs) D2 ∧ XT c tt D2 (b d) ∧ (b d = true → X c te D2 (f d))) :
    ∀ s, E c (tLc wi g tt te vs) D s (fun d' s' => d' = .lst ((ds.filter b).map f) ∧ s' = s) := fun s =>
  e_lc hs.E (fun ds' i es s1 => ds' = ds ∧ s1 = s ∧ es = ((ds.take i).filter b).map f) (fun ds' s1 ⟨e1, e2⟩ => ⟨e1, e2, by simp⟩)
    (fun ds' i d es s1 hd ⟨e1, e2, e3⟩ => by
      subst e1 e2
      obtain ⟨D2, g1, t1, x1⟩ := hb d (List.mem_of_getElem? hd)
      have ht : ds'.take (i + 1) = ds'.take i ++ [d] := by
        rw [List.take_add_one, hd]
        rfl
      refine ⟨D2, b d, g1, t1, fun h => ⟨rfl, rfl, ?_⟩, fun h => ⟨?_, ((x1 h).E).imp fun y s2 ⟨e4, e5⟩ => ⟨rfl, e5, ?_⟩⟩⟩
      · rw [e3, ht, List.filter_append]
        simp [h]
      · rw [e3, List.length_map]
        have := List.length_filter_le b (ds'.take i)
        rw [List.length_take] at this
        omega
      · rw [e3, e4, ht, List.filter_append, List.map_append]
        simp [h])
    fun ds' es s1 ⟨e1, e2, e3⟩ => by
      subst e1 e2 e3
      rw [List.take_length]
      exact ⟨rfl, rfl⟩
theorem X_of_E (h : E c te D ⟨none, .no⟩ (fun d' s' => d' = d ∧ s' = ⟨none, .no⟩)) : X c te D d := fun W o p st H Q l a k =>
  h W o p st H Q ⟨l, (fun _ e => nomatch e), trivial, (fun z => absurd rfl z), a⟩ fun v H2 d' s2 ⟨e1, e2⟩ sp a2 r => by
    subst e1 e2
    exact k v H2 (fun b x e => sp.keep b x e (fun n => absurd rfl n) fun n => absurd rfl n) r
theorem x_comp {tt : TT} {vs : List Nat} (hs : XS c wi D ds) (f : Dt → Dt) (b : Dt → Bool) (hl : ds.length ≤ 99999) (hb : ∀ d ∈ ds, ∃ D2, G c g vs d (unAt D vs) D2 ∧ XT c tt D2 (b d) ∧ (b d = true → X c te D2 (f d))) :
    X c (tLc wi g tt te vs) D (.lst ((ds.filter b).map f)) := X_of_E (x_lc hs f b hl hb _)
theorem xt_yes : XT c tYes D true := fun W o p st H Q l a k => k H (.refl H)
/-- without a test -/
theorem x_map {vs : List Nat} (hs : XS c wi D ds) (f : Dt → Dt) (hl : ds.length ≤ 99999) (hb : ∀ d ∈ ds, ∃ D2, G c g vs d (unAt D vs) D2 ∧ X c te D2 (f d)) :
    X c (tLc wi g tYes te vs) D (.lst (ds.map f)) := by
  have h := x_comp (tt := tYes) hs f (fun _ => true) hl fun d hd => by
    obtain ⟨D2, g1, x1⟩ := hb d hd
    exact ⟨D2, g1, xt_yes, fun _ => x1⟩
  rwa [List.filter_eq_self.mpr fun _ _ => rfl] at h
end
end Wb

/-! Rules that the layer lacks: {n:02d}, extend by a tuple, sorted(set(ints)), dict(zip(..)), text * int. -/
namespace Wb
open PySem PySem.Spec PyProof.Rows L2 SX
theorem ns_none {K : PySem.W.Frag} {h : Heap} {a : Addr} {mc : Str → Option Value} {nm : Str} (XK : K.In h) (n1 : h.Ns a mc) (e : PySem.W.nsIn K a nm = some none) : mc nm = none := by
  obtain ⟨o, es, ep, h1, h2, _, h4⟩ := n1
  unfold PySem.W.nsIn at e
  split at e
  · rename_i c d es2 n2 sl q
    have z := XK _ _ q
    rw [h1] at z
    obtain rfl := Option.some.inj z
    obtain ⟨rfl, rfl⟩ : es2 = es ∧ n2 = ep := by
      have : Data.dict es2 n2 = Data.dict es ep := h2
      injection this with a1 a2
      exact ⟨a1, a2⟩
    split at e
    · cases e
    · rename_i y
      rw [← h4]
      unfold nsFind findBy
      rw [← Array.find?_toList, y]
      rfl
  · cases e
section
variable {X : Cx}
/-! ### {n:02d} -/
def NoDg (K : PySem.W.Frag) : Prop := PySem.W.nsIn K cStatics "sys.int_max_str_digits" = some none
theorem nodg {pn : List (Addr × Obj)} {τ : L2.St} {H : Hp} {s : Shared} (I : Inv X pn τ H s) (h : NoDg X.K) : s.heap.NoDigits := by
  obtain ⟨mc, n1, _⟩ := I.nolimit
  exact ⟨mc, n1, ns_none I.kIn n1 h⟩
abbrev p02 (a : Int) : Str := if decide (a < 10) = true then (⟨#[48]⟩ : Str) ++ Str.ofString (toString a) else Str.ofString (toString a)
def tFmt2 (te : TE) : TE := fun τ H Q => te τ H fun x H1 => ∃ i : Int, x = .int i ∧ 0 ≤ i ∧ i < 100 ∧ Q (.str (p02 i)) H1
theorem pe_fmt2 {e sp : Expr} {te : TE} {pos : Pos} (hd : NoDg X.K) (hs : PE X sp (tC (.str "02d"))) (he : PE X e te) : PE X (.FormattedValue e (-1) (some sp) pos) (tFmt2 te) := by
  refine ⟨fun pn s τ H Q I h => ?_⟩
  refine wpAny_FormattedValue_spec (thn (he.run pn s τ H _ I h) fun v s1 hv => ?_)
  obtain ⟨x, H1, I1, r1, i, rfl, h0, h1, q⟩ := hv
  obtain ⟨t, rfl⟩ := r1
  refine thn (hs.run pn s1 τ H1 (fun y H2 => y = .str "02d" ∧ H2 = H1) I1 ⟨rfl, rfl⟩) fun u s2 ⟨y, H2, I2, r2, e1, e2⟩ => ?_
  subst e1 e2
  obtain ⟨t2, rfl⟩ := r2
  refine ⟨_, t2, rfl, ?_⟩
  refine formatField_int_specOf (nodg I2 hd) (lt_digitLimit_of_lt (by omega)) (by decide +kernel) (fun W hW f => ?_)
  have e := f.pad2 (by decide +kernel) (hW.trans (by decide +kernel)) h0 h1
  rw [e]
  exact ⟨.str (p02 i), H2, I2.tok _, ⟨_, rfl⟩, q⟩

/-! ### list.extend by a list or a tuple -/
theorem ext_tup (l : Addr) (xs : Array Value) (n : Nat) (b : Addr) (ys : Array Value) (n2 : Nat) (dd : Option Addr) (sl : Array (Option Value)) (h0 : ¬(!xs.isEmpty && Builtin.List.listTooLong (xs.size + ys.size)) = true) (h1 : xs.size ≤ sizeLine) (h2 : xs.size + ys.size ≤ sizeLine + 1) :
    Meets (Builtin.«list.extend» ⟨[.ref l, .ref b], []⟩) (fun _ R s => s.heap.get? l = some { cls := .type "list", dict := none, data := .seq xs n, slots := #[] } ∧ s.heap.get? b = some { cls := .type "tuple", dict := dd, data := .seq ys n2, slots := sl } ∧
      R (.ok (.ret Value.none)) { s with heap := s.heap.update l (Obj.mapSeq fun x => x ++ ys), toks := s.toks }) :=
  .of_wp fun prog w A R s h => by
    obtain ⟨hp, g, d, tk, os⟩ := s
    obtain ⟨hl, hb, h⟩ := h
    have f1 := AutoSeq1.idx_int
    have f2 := AutoSeq1.sub_tuple_tuple
    have f3 := AutoSeq1.sub_list_list
    have f4 := AutoSeq1.sub_tuple_list
    have f5 := AutoSeq1.sub_list_tuple
    have hz : (xs ++ ys).size ≤ sizeLine + 1 := by
      rw [Array.size_append]
      exact h2
    wp_walk using (wpAny_updateSeq hl rfl (hz := h1) (_hz' := hz)), AutoSeq1.wpAny_loadPart' hl, AutoSeq1.wpAny_loadPart' hb
    exact ⟨_, rfl, h⟩
theorem mt_extU : MtM X "list.extend" (rExtU X.K) := by
  intro pn s τ H x vs v us Q I rx rv h
  obtain ⟨l, b, xs, zs, rfl, rfl, hH, hB, hz, q⟩ := h
  rcases hB with hB | hB
  · exact mt_extend pn s τ H _ _ v us Q I rx rv ⟨l, b, xs, zs, rfl, rfl, hH, hB, hz, q⟩
  · cases rx
    obtain ⟨u, rfl, ru⟩ := rv.one
    cases ru
    obtain ⟨z, its, n, r, hl, e⟩ := I.lstM hH
    obtain ⟨its2, r2, hT, z2⟩ := I.tuple hB
    have e1 := r.length
    have e2 := r2.length
    obtain ⟨⟨oc, dd, dt, sl⟩, ho, hc, n2, hd⟩ := hT
    simp only at hc hd
    subst hc hd
    have long : ¬ (!its.toArray.isEmpty && Builtin.List.listTooLong (its.toArray.size + its2.toArray.size)) = true := by
      rw [notLongL (by rw [List.size_toArray, List.size_toArray]; omega), Bool.and_false]
      exact Bool.false_ne_true
    refine call_meets F.slot_list_extend ⟨_, e, rfl⟩ F.entry_list_extend (F.args_list_extend_2 _ _) (ext_tup l its.toArray n b its2.toArray n2 dd sl long (by rw [List.size_toArray]; omega) (by simp; omega)) ⟨e, ho, ?_⟩
    refine ⟨.non, _, I.lset (its' := its ++ its2) hH e (by simp) (r.append r2) ?_, rfl, q⟩
    rw [List.length_append]
    omega

/-! ### text * int -/
def rMulS : R2 := fun x y H Q => ∃ (z : Str) (n : Nat), x = .str z ∧ y = .int (n : Int) ∧ z.length ≤ 1000 ∧ n ≤ 1 ∧ Q (.str (if n = 0 then Str.empty else z)) H
theorem op_mulS : OpR X (binaryOp .Mult) rMulS := by
  intro pn s τ H x y v u Q I rx ry h
  obtain ⟨z, n, rfl, rfl, hz, hn, q⟩ := h
  obtain ⟨t, rfl⟩ := rx
  obtain ⟨t2, rfl⟩ := ry
  by_cases e : n = 0
  · subst e
    rw [if_pos rfl] at q
    exact PySem.P.mul_str_none (by decide) (by decide) ⟨.str Str.empty, H, I.tok _, ⟨_, rfl⟩, q⟩
  · have e1 : n = 1 := by omega
    subst e1
    rw [if_neg (by decide)] at q
    refine PySem.P.mul_str (by decide) (fun _ h => by simp at h) (fun _ h => by simp at h) ?_
    exact ⟨.str z, H, I, ⟨_, rfl⟩, q⟩
/-- *: of ints, of a text by 0 or 1 -/
def rMulU : R2 := fun x y H Q => rI CMul (fun i j => .int (i * j)) x y H Q ∨ rMulS x y H Q
theorem op_mulU : OpR X (binaryOp .Mult) rMulU := OpR.or op_mul op_mulS

/-! ### dict(zip(xs, ys)), distinct ints to ints -/
def tDictZ (K : PySem.W.Frag) (t : TA) : TE := fun τ H Q => t τ H fun vs H1 => ∃ (a b : Addr) (ks ns : List Int), vs = [.ref a, .ref b] ∧ SqL K H1 a (ks.map V.int) ∧ SqL K H1 b (ns.map V.int) ∧ ks.Nodup ∧ ks.length ≤ 1000 ∧
  ∀ d, H1 d = none → Q (.ref d) (upd H1 d (.dK ((ks.zip ns).map fun p => ((Sum.inl p.1 : Key), V.int p.2))))
theorem zip_at {ks : List Int} {us ws : List Value} {ns : List Int} (r : Vals (ks.map V.int) us) (r' : Vals (ns.map V.int) ws) {P : Program} {w : World} :
    ∃ kvs : List (Key × Value), KV ((ks.zip ns).map fun p => ((Sum.inl p.1 : Key), V.int p.2)) kvs ∧ PairsHave (mixKind P w) (min us.toArray.size ws.toArray.size) (fun i k v => us.toArray[i]? = some k ∧ ws.toArray[i]? = some v) kvs ∧ kvs.map (·.1) = (ks.zip ns).map fun p => (Sum.inl p.1 : Key) := by
  induction ks generalizing us ws ns with
  | nil =>
    cases r
    exact ⟨[], .nil, ⟨by simp, fun i k v h => by simp at h⟩, rfl⟩
  | cons k ks ih =>
    cases r with
    | cons rk r =>
      cases ns with
      | nil =>
        cases r'
        exact ⟨[], .nil, ⟨by simp, fun i k v h => by simp at h⟩, rfl⟩
      | cons n ns =>
        cases r' with
        | cons rn r' =>
          obtain ⟨kvs, h1, ⟨h2, h3⟩, h4⟩ := ih r r'
          rename_i u us w0 ws
          refine ⟨(Sum.inl k, w0) :: kvs, .cons ⟨rfl, rn⟩ h1, ⟨?_, fun i key v hr => ?_⟩, ?_⟩
          · simp only [List.size_toArray, List.length_cons] at h2 ⊢
            omega
          · cases i with
            | zero =>
              obtain ⟨t, rfl⟩ := rk
              obtain ⟨e1, e2⟩ := hr
              simp at e1 e2
              subst e1 e2
              exact ⟨Sum.inl k, rfl, keyIs_int k t⟩
            | succ i =>
              obtain ⟨e1, e2⟩ := hr
              obtain ⟨kk, a1, a2⟩ := h3 i key v ⟨by simpa using e1, by simpa using e2⟩
              exact ⟨kk, by simpa using a1, a2⟩
          · simp [h4]
theorem zip_nodup : ∀ {ks ns : List Int}, ks.Nodup → ((ks.zip ns).map fun p => (Sum.inl p.1 : Key)).Nodup
  | [], _, _ => by simp
  | _ :: _, [], _ => by simp
  | k :: ks, n :: ns, h => by
    obtain ⟨h1, h2⟩ := List.nodup_cons.mp h
    simp only [List.zip_cons_cons, List.map_cons]
    refine List.nodup_cons.mpr ⟨fun hm => ?_, zip_nodup h2⟩
    obtain ⟨p, hp, e⟩ := List.mem_map.mp hm
    have : p.1 = k := by injection e
    exact h1 (this ▸ (List.of_mem_zip (show (p.1, p.2) ∈ ks.zip ns from hp)).1)
theorem pe_dictZ {e1 e2 : Expr} {t : TA} {p p2 q pos : Pos} (hc : X.calm = true) (hg : Gl X "dict") (hm : X.mg "dict" = none) (hg2 : Gl X "zip") (hm2 : X.mg "zip" = none) (ha : PA X [e1, e2] t)
    (hs : starEach [e1, e2] X.env = (false, eval e1 X.env) :: starEach [e2] X.env := by rfl) (hp : (backTo q (starEach [e2] X.env)).any (·.1) = false := by rfl) :
    PE X (.Call (.Name "dict" p) [.Call (.Name "zip" p2) [e1, e2] [] q] [] pos) (tDictZ X.K t) := by
  refine ⟨fun pn s τ H Q I h => ?_⟩
  refine Call_ (ld_blt I hg hm PyProof.Rows.boot_dict ?_)
  refine PyProof.Rows.callWith_type1 (PyProof.Rows.args_cons ?_ rfl) rfl rfl
  refine Call_ (ld_blt I hg2 hm2 PyProof.Rows.boot_zip (PyProof.Rows.callWith_type1 (thn (ha.run q pn s τ H _ I h) fun us s1 ⟨vs, H1, I1, r1, q1⟩ => ?_) hs hp))
  obtain ⟨a, b, ks, ns, rfl, hqx, hqy, nd, hl, q1⟩ := q1
  cases r1 with
  | cons r rr =>
    cases rr with
    | cons r' rr =>
      cases rr
      cases r
      cases r'
      obtain ⟨us, rv, p1, _⟩ := I1.list hqx
      obtain ⟨ws, rv2, p2, _⟩ := I1.list hqy
      refine call_zip_2 p1.isList p2.isList fun h' hz hTI hTO h1 h2 hsz hk => PyProof.Rows.args_nil ?_
      have I2 : Inv X pn τ H1 { s1 with heap := h' } := I1.kept (t' := s1.toks) hk
      obtain ⟨kvs, k1, k2, k3⟩ := zip_at (P := X.prog) (w := X.w) rv rv2
      have ap := PySem.W.ktu_apart s1.heap.objs.size a b p1.lt p2.lt
      refine call_dict_pairs (knd := mixKind X.prog X.w) (kvs := kvs) (PairArg.zip _ _ _ _ _ a b ap us.toArray ws.toArray) (I2.ok.hd hc)
        ⟨hz, hTI, ⟨_, _, hTO⟩, h1, h2, p1.isList.at fun o e => hk a o e, p2.isList.at fun o e => hk b o e⟩ k2 ?_ fun h2 tk hd hk2 => ?_
      · refine Nat.le_trans (Nat.min_le_left _ _) ?_
        rw [List.size_toArray, ← rv.length, List.length_map]
        exact Nat.le_trans hl (by decide)
      · rw [merged_nil_of_nodup kvs (by rw [k3]; exact zip_nodup nd)] at hd
        have fresh : ∀ b ∈ [s1.heap.objs.size + 4, s1.heap.objs.size + 3, s1.heap.objs.size, s1.heap.objs.size + 1], s1.heap.objs.size ≤ b := fun b hb => by
          simp only [List.mem_cons, List.not_mem_nil, or_false] at hb
          omega
        have hk3 : ∀ b o, s1.heap.get? b = some o → h2.get? b = some o := fun b o e => hk2 b o (fun hb => absurd (Heap.lt_size e) (Nat.not_lt.mpr (fresh b hb))) (hk b o e)
        have hle : s1.heap.objs.size ≤ h'.objs.size := by rw [hsz]; omega
        have hbig : (h'.objs.size == sysModules) = false := beq_eq_false_iff_ne.mpr (Nat.ne_of_gt I2.big)
        have hn : H1 h'.objs.size = none := I1.hok.fresh hle
        refine ⟨.ref h'.objs.size, upd H1 h'.objs.size (.dK ((ks.zip ns).map fun p => ((Sum.inl p.1 : Key), V.int p.2))), ?_, rfl, q1 _ hn⟩
        refine I1.laid (t' := tk) hk3 hle (show ObjOk X.prog X.w _ _ _ (.dK _) from ⟨?_, hbig, kvs, k1, hd⟩)
        rw [List.length_map, List.length_zip]
        exact Nat.le_trans (Nat.le_trans (Nat.min_le_left _ _) hl) (by decide)
end
end Wb

/-! sorted(set(list of ints)). -/
namespace Wb
open PySem PySem.Spec PyProof.Rows L2 SX
abbrev setNew (w : World) : Obj := { cls := .type "set", dict := none, data := .set #[] 0 (.fresh 0 0 (!w.params.followText "set-order")) }
section
variable {P : Program} {w : World} {A : Around} {E : Value → Shared → Prop} {s : Shared}
theorem set_of_list {b : Addr} {xs : Array Value} (ns : List Int) {Q : Value → Shared → Prop} (ha : A.handled = none) (hx : s.heap.IsList b xs) (hi : IntsAre xs.toList ns) (hz : ns.length + 1 < scanBound)
    (fin : ∀ (h2 : Heap) (tk c : Nat), SetR w h2 s.heap.objs.size (fun j => decide (j ∈ ns)) c → c ≤ ns.length → (∀ d o, s.heap.get? d = some o → h2.get? d = some o) → Q (.ref s.heap.objs.size) { s with heap := h2, toks := tk }) :
    wpAny (model P w) A (call (.type "set") [.ref b]) Q E s := by
  have size_eq : xs.size = ns.length := by
    have z := IntsAre.length hi
    rw [Array.length_toList] at z
    exact z
  obtain ⟨c0, cl, hmro⟩ := F.called_set.mro
  have hmade := F.called_set.made
  have hsub := F.called_set.sub
  refine wpAny_call (codeAny_of_tree ?_)
  show wpAny _ _ (callAny (.type "set") _) _ _ _
  refine wpAny_pure ⟨Code.quiet_builtin _ (by decide +kernel), codeAny_builtin F.entry_type_call ?_⟩
  rw [Around.under_plain (weight_type_call_type "set" [.ref b] []) rfl]
  have k1 := F.called_set.notType
  have k2 := F.called_set.canCreate
  have k3 := F.typeCall_set_1 (.ref b)
  repeat (any_goals (first | assumption | wp_step))
  refine codeAny_mono (code_set_led1 (.ref b) (E := E) (Q₁ := fun ob s1 => ob = .ref s.heap.objs.size ∧ s1 = { s with heap := s.heap.push (setNew w) }) ⟨rfl, rfl⟩) fun r s1 hr => ?_
  cases r with
  | error e => exact hr
  | ok fl =>
    cases fl with
    | ret ob =>
      obtain ⟨rfl, rfl⟩ := hr
      have at0 : (s.heap.push (setNew w)).get? s.heap.objs.size = some (setNew w) := Heap.get?_push_size _ rfl
      have ty0 : Shared.TypeIs { s with heap := s.heap.push (setNew w) } (.ref s.heap.objs.size) "set" := ⟨_, at0, rfl⟩
      have k4 := F.called_set.init.lookup
      have k5 := F.called_set.init.bind (.ref s.heap.objs.size)
      repeat (any_goals (first | assumption | wp_step))
      refine codeAny_mono (codeAny_call_builtin (R := wants (fun r s2 => r = .none ∧ ∃ h2 tk c, s2 = { s with heap := h2, toks := tk } ∧ SetR w h2 s.heap.objs.size (fun j => decide (j ∈ ns)) c ∧ c ≤ ns.length ∧
          (∀ d o, s.heap.get? d = some o → h2.get? d = some o)) E) F.called_set.init.plain F.entry_set_init (check_set_init_1 ty0 ?_)) fun r2 s2 hr2 => ?_
      · obtain ⟨ol, e1, e2, nl, e3⟩ := hx
        obtain ⟨oc, od, dt, osl⟩ := ol
        simp only at e2 e3
        subst e2; subst e3
        have e4 : (s.heap.push (setNew w)).get? b = some { cls := .type "list", dict := od, data := .seq xs nl, slots := osl } := Heap.get?_push_of_some _ e1
        have f1 := F.sub_list_set
        have f2 := F.sub_list_frozenset
        have f3 : (Value.type "list" == Value.type "dict") = false := by decide
        have e5 : (s.heap.push (setNew w)).IsList b xs := ⟨_, e4, rfl, nl, rfl⟩
        unfold Builtin.«set.__init__» noKeywords Builtin.Frozenset.updateFrom
        generalize hPI : pyIter = PI
        wp_walk
        subst hPI
        refine wpAny_pyIter_list e5 ?_
        refine wpAny_bind (wpAny_runValue ?_)
        have lt0 : b < s.heap.objs.size := Heap.lt_size e1
        have ha3 : A.in1.in1.in1.handled = none := by simp [ha]
        have z1 : (s.heap.push (setNew w)).objs.size = s.heap.objs.size + 1 := Heap.size_push ..
        have n1 : b ≠ (s.heap.push (setNew w)).objs.size := z1 ▸ Nat.ne_of_lt (Nat.lt_succ_of_lt lt0)
        have n2 : s.heap.objs.size ∉ [(s.heap.push (setNew w)).objs.size, b] := by
          simp only [List.mem_cons, List.mem_singleton, List.not_mem_nil, or_false, not_or]
          exact ⟨z1 ▸ Nat.ne_of_lt (Nat.lt_succ_self _), Nat.ne_of_gt lt0⟩
        have vals : ∀ (i : Nat) (v : Value), xs[i]? = some v → ∃ k t, ns[i]? = some k ∧ v = .int k t := fun i v hv => by
          have hl : i < ns.length := by
            rw [← size_eq]
            exact (Array.getElem?_eq_some_iff.mp hv).1
          obtain ⟨t, e⟩ := PyProof.Rows.IntsAre.int_at hi i v (by rw [Array.getElem?_toList]; exact hv)
          refine ⟨ns[i], t, List.getElem?_eq_getElem hl, ?_⟩
          rw [e, List.getD_eq_getElem?_getD, List.getElem?_eq_getElem hl]
          rfl
        refine set_update_ints ((Walks.list ha3 _ b n1 xs).toS) s.heap.objs.size n2 ns size_eq hz vals (xs.size - 0) 0 _ (by omega) (Nat.zero_le _) ⟨⟨_, Heap.get?_push_size _ rfl, rfl, rfl⟩, (e5.push _)⟩ ?start ?stop
        case start =>
          exact ⟨0, Nat.le_refl 0, setR_new_at (Heap.get?_push_of_some _ at0)⟩
        case stop =>
          intro s3 c3 hm hc3 hS
          obtain ⟨h3, g3, d3, t3, o3⟩ := s3
          obtain rfl : g3 = s.gens := hm.gens
          obtain rfl : d3 = s.drawn := hm.drawn
          obtain rfl : o3 = s.os := hm.os
          show wpAny _ _ _ _ _ _
          refine wpAny_pure ?_
          show wpAny _ _ (ret Value.none) _ _ _
          rw [size_eq] at hc3
          refine wpAny_pure ⟨rfl, h3, t3, c3, rfl, hS, hc3, fun d o e => ?_⟩
          have m0 : d < s.heap.objs.size := Heap.lt_size e
          refine hm.heap d o ?_ (Heap.get?_push_of_some _ (Heap.get?_push_of_some _ e))
          simp only [List.mem_cons, List.mem_singleton, List.not_mem_nil, or_false, not_or]
          exact ⟨Nat.ne_of_lt m0, z1 ▸ Nat.ne_of_lt (Nat.lt_succ_of_lt m0)⟩
      · cases r2 with
        | error e => exact hr2
        | ok f2 =>
          cases f2 with
          | ret r =>
            obtain ⟨rfl, h3, t3, c3, rfl, hS, hc3, hk⟩ := hr2
            repeat (any_goals (first | assumption | wp_step))
            exact fin _ _ _ hS hc3 hk
          | _ => exact hr2.elim
    | _ => exact hr.elim
end
/-- sorted(set(ns)): the members, rising -/
def tSortSet (K : PySem.W.Frag) (ta : TE) : TE := fun τ H Q => ta τ H fun x H1 => ∃ (l : Addr) (ns : List Int), x = .ref l ∧ SqL K H1 l (ns.map V.int) ∧ ns.length < 64 ∧
  ∀ (ks : List Int) (p : Addr), ks.Pairwise (· < ·) → (∀ k, k ∈ ks ↔ k ∈ ns) → H1 p = none → Q (.ref p) (upd H1 p (.lst (ks.map V.int)))
theorem pe_sortSet {X : Cx} {a : Expr} {ta : TE} {p p2 q pos : Pos} (hc : X.calm = true) (hg : Gl X "sorted") (hm : X.mg "sorted" = none) (hg2 : Gl X "set") (hm2 : X.mg "set" = none) (ha : PE X a ta)
    (na : starEach [a] X.env = (false, eval a X.env) :: starEach [] X.env := by rfl) : PE X (.Call (.Name "sorted" p) [.Call (.Name "set" p2) [a] [] q] [] pos) (tSortSet X.K ta) := by
  refine ⟨fun pn s τ H Q I h => ?_⟩
  refine Call_ (ld_blt I hg hm boot_sorted ?_)
  refine PyProof.Rows.callWith_builtin1 (PyProof.Rows.args_cons ?_ rfl) rfl rfl
  refine Call_ (ld_blt I hg2 hm2 boot_set ?_)
  refine PyProof.Rows.callWith_type1 (PyProof.Rows.args_cons (thn (ha.run pn s τ H _ I h) fun v s1 ⟨x, H1, I1, r1, q1⟩ => PyProof.Rows.args_nil ?_) na) na rfl
  obtain ⟨l, ns, rfl, hq, hl, q1⟩ := q1
  cases r1
  obtain ⟨its, r, pl, hz⟩ := I1.list hq
  refine set_of_list ns (I1.ok.hd hc) pl.isList (by simpa using RZ.intsAre_vals r) (by unfold scanBound; omega) fun h2 tk c R hcn k => ?_
  refine PyProof.Rows.args_nil ?_
  have I2 : Inv X pn τ H1 { s1 with heap := h2, toks := tk } := I1.kept k
  refine sorted_set (s := { s1 with heap := h2, toks := tk }) R (I2.ok.hd hc) (by omega) fun s3 p out c3 ks k3 g3 o3 hp hg3 hi3 hs3 hm3 hl3 => ?_
  have hn : H1 p = none := I2.hok.fresh hp
  have hlen : (ks.map V.int).length ≤ sizeLine := by
    rw [List.length_map, hl3, sizeLine_eq]
    omega
  have J : Inv X pn τ (upd H1 p (.lst (ks.map V.int))) s3 := I2.call' (ch := []) o3 (Un.laid k3 hp hn) (I2.hok.laid k3 hp ⟨hlen, out.toList, c3, vals_of_ints hi3, hg3⟩) (by rw [g3]; exact I2.bare) (fun _ z => nomatch z)
  exact ⟨.ref p, _, J, rfl, q1 ks p hs3 (fun j => by rw [hm3 j, decide_eq_true_eq]) hn⟩
end Wb

/-! Promises of defs, methods, properties, static methods; operators of own instances. -/
namespace Wb
open PySem PySem.Spec PyProof.Rows L2 SX
section
variable (P : Program) (w : World) (K : PySem.W.Frag) (mg : Str → Option Value) (base : Heap)
/-- the def at f keeps its promise -/
structure Prom (k : Nat) (f : Addr) (sp : Sp) : Prop where
  ex : ∃ (fd : FuncData) (ps : List Str), FnOk P w K mg base CX0 k f fd ps sp ∧ Binds K fd ps []
structure Cal (k : Nat) (x : Str) (sp : Sp) : Prop where
  ex : ∃ f, Prom P w K mg base k f sp ∧ mg x = some (.ref f) ∧ PySem.W.keepIn K (.ref f) = true
structure MCal (k : Nat) (C : Addr) (m : Str) (sp : Sp) : Prop where
  ex : ∃ f, Prom P w K mg base k f sp ∧ Meth K C m f
structure Mak (k : Nat) (C : Addr) (sp : Sp) : Prop where
  ex : ∃ f, Prom P w K mg base k f sp ∧ Mk K C f
structure PCal (k : Nat) (C : Addr) (m : Str) (sp : Sp) : Prop where
  ex : ∃ p g, Prom P w K mg base k g sp ∧ PropOf K C m p g
/-- C.m is a static method: its record at p, its def at g -/
structure SMet (C : Addr) (m : Str) (p g : Addr) : Prop where
  at_ : PySem.W.findCls K (.ref C) (.type "type") m = some (.get (.builtin "staticmethod.__get__") (.ref p) .none (.ref C))
  rc : ∃ r, PySem.W.recIn K p "staticmethod" = some (.ref g :: r)
  kp : PySem.W.keepIn K (.ref g) = true
structure SCal (k : Nat) (C : Addr) (m : Str) (sp : Sp) : Prop where
  ex : ∃ p g, Prom P w K mg base k g sp ∧ SMet K C m p g
structure KCal (k : Nat) (C : Addr) (m : Str) (sp : Sp) : Prop where
  ex : ∃ p g, Prom P w K mg base k g sp ∧ ClX.CMet K C (.type "type") m p g
/-- a special method -/
structure DCal (k : Nat) (C : Addr) (m : Str) (sp : Sp) : Prop where
  ex : ∃ f, Prom P w K mg base k f sp ∧ PySem.W.findIn K (.ref C) m = some (some (.ref f)) ∧ PySem.W.isFn K (.ref f) = true
/-- a def's body -/
abbrev Bd (qual : Str) (st : Stmt) (N : List Str) (k : Nat) (sp : Sp) : Prop := ∀ (f : Addr) (cdv : Value) (A : Around) (outer : List Env) (s : Shared) (H : Hp) (vs : List V) (Q : VK) (E : XK),
  Room k (A.deeper (envOfC qual (defScope st) s.heap.objs.size f cdv)) → sp vs H Q E →
    ∃ t, PSs (cxOf CX0 P w K mg base N qual (defScope st) f cdv A outer s H E).nox (defBody st) t ∧ t { nx := fun _ H' => Q .non H', rt := Q } (L2.start N vs) H
end
section
variable {P : Program} {w : World} {K : PySem.W.Frag} {mg : Str → Option Value} {base : Heap} {k j : Nat} {f : Addr} {sp sp' : Sp}
theorem prom_of {x qual : Str} {st : Stmt} {fd : FuncData} {N ps : List Str} (F : L2.Fun K x qual st f fd) (S : FnScope N ps (defScope st))
    (hb : ∀ (kV doc pm : Value) (an : Option Addr) (cdv ct : Value) (us : List Value), us.length = ps.length → bindArgs (PySem.W.fnOf x qual (defArgs st) (defBody st) (defScope st) .none kV doc pm an cdv ct) ⟨us, []⟩ = pure (ps.zip us))
    (len : ∀ vs H Q E, sp vs H Q E → vs.length = ps.length) (h : Bd P w K mg base qual st N k sp) : Prom P w K mg base (k + 1) f sp :=
  ⟨fd, ps, F.ok S len fun cdv A outer s H vs Q E hr hs => h f cdv A outer s H vs Q E hr hs, F.binds hb⟩
theorem Prom.mono (h : Prom P w K mg base j f sp) (z : j ≤ k) : Prom P w K mg base k f sp := by
  obtain ⟨fd, ps, F, b⟩ := h.ex
  exact ⟨fd, ps, F.mono z, b⟩
theorem Prom.raw (h : Prom P w K mg base k f sp) : FnR P w K mg base CX0 k f sp := by
  obtain ⟨fd, ps, F, b⟩ := h.ex
  exact (F.raw b .nil).imp fun vs H Q E q => by rwa [List.append_nil]
theorem Prom.imp (h : Prom P w K mg base k f sp) (z : ∀ vs H Q E, sp' vs H Q E → sp vs H Q E) : Prom P w K mg base k f sp' := by
  obtain ⟨fd, ps, F, b⟩ := h.ex
  exact ⟨fd, ps, F.imp z, b⟩
theorem Cal.mono {x : Str} (h : Cal P w K mg base j x sp) (z : j ≤ k) : Cal P w K mg base k x sp := by
  obtain ⟨f, p, g⟩ := h.ex
  exact ⟨f, p.mono z, g⟩
theorem Cal.imp {x : Str} (h : Cal P w K mg base k x sp) (z : ∀ vs H Q E, sp' vs H Q E → sp vs H Q E) : Cal P w K mg base k x sp' := by
  obtain ⟨f, p, g⟩ := h.ex
  exact ⟨f, p.imp z, g⟩
theorem DCal.mono {x : Str} {C : Addr} (h : DCal P w K mg base j C x sp) (z : j ≤ k) : DCal P w K mg base k C x sp := by
  obtain ⟨f, p, g⟩ := h.ex
  exact ⟨f, p.mono z, g⟩
end
section
variable {X : Cx} {k j : Nat} {C : Addr} {x m : Str} {sp : Sp} {o e : Expr} {es : List Expr} {ta : TE} {t : TA} {p pos apos : Pos}
theorem pe_c (F : Cal X.prog X.w X.K X.mg X.base k x sp) (hr : Room j X.A) (hk : k ≤ j) (hg : Gl X x) (ha : PA X (e :: es) t) (hd : (x == ("__debug__" : Str)) = false := by decide)
    (he : starEach (e :: es) X.env = (false, eval e X.env) :: starEach es X.env := by rfl) (hp : (backTo pos (starEach es X.env)).any (·.1) = false := by rfl) : PE X (.Call (.Name x p) (e :: es) [] pos) (tCall sp [] E0 t) := by
  obtain ⟨f, ⟨fd, ps, F, b⟩, g, kp⟩ := F.ex
  exact pe_call F (hr.mono hk) hg g kp b .nil pass0 ha hd he hp
theorem pe_mt {pl : Sem Bool} (M : MCal X.prog X.w X.K X.mg X.base k C m sp) (hr : Room j X.A) (hk : k ≤ j) (c : Cls X.K C) (he : PE X o ta) (ha : PA X (e :: es) t)
    (hs : starEach (e :: es) X.env = (false, eval e X.env) :: starEach es X.env := by rfl) (hp : (backTo pos (starEach es X.env)).any (·.1) = false := by rfl)
    (ht : eval (.Call (.Attribute o m apos) (e :: es) [] pos) X.env = (do
      let ov ← eval o X.env
      standAt apos.atName
      let (f, first) ← holding [ov] (getMethod ov m pl)
      callWith pos f first (backTo pos (starEach (e :: es) X.env)) (backToKw pos (keywordEach [] X.env))) := by rfl) : PE X (.Call (.Attribute o m apos) (e :: es) [] pos) (tMeth C m sp [] E0 ta t) := by
  obtain ⟨f, ⟨fd, ps, F, b⟩, g⟩ := M.ex
  exact pe_meth he c g F (hr.mono hk) b .nil pass0 ha hs hp ht
theorem pe_mt0 {pl : Sem Bool} (M : MCal X.prog X.w X.K X.mg X.base k C m sp) (hr : Room j X.A) (hk : k ≤ j) (c : Cls X.K C) (he : PE X o ta)
    (ht : eval (.Call (.Attribute o m apos) [] [] pos) X.env = (do
      let ov ← eval o X.env
      standAt apos.atName
      let (f, first) ← holding [ov] (getMethod ov m pl)
      callWith pos f first (backTo pos (starEach [] X.env)) (backToKw pos (keywordEach [] X.env))) := by rfl) : PE X (.Call (.Attribute o m apos) [] [] pos) (tMeth C m sp [] E0 ta tNil) := by
  obtain ⟨f, ⟨fd, ps, F, b⟩, g⟩ := M.ex
  exact pe_meth0 he c g F (hr.mono hk) b .nil pass0 ht
theorem pe_mk (M : Mak X.prog X.w X.K X.mg X.base k C sp) (hr : Room j X.A) (hk : k + 1 ≤ j) (hg : Gl X x) (hm : X.mg x = some (.ref C)) (ha : PA X (e :: es) t) (hd : (x == ("__debug__" : Str)) = false := by decide)
    (he : starEach (e :: es) X.env = (false, eval e X.env) :: starEach es X.env := by rfl) (hp : (backTo pos (starEach es X.env)).any (·.1) = false := by rfl) : PE X (.Call (.Name x p) (e :: es) [] pos) (tMake C sp [] E0 t) := by
  obtain ⟨f, ⟨fd, ps, F, b⟩, g⟩ := M.ex
  exact pe_make g F (hr.mono hk) hg hm b .nil pass0 ha hd he hp
/-- a local name that holds the class -/
def tMakeL (i : Nat) (C : Addr) (sp : Sp) (t : TA) : TE := fun τ H Q => τ[i]? = some (some (.ref C)) ∧ tMake C sp [] E0 t τ H Q
theorem pe_mkL {i : Nat} (M : Mak X.prog X.w X.K X.mg X.base k C sp) (hr : Room j X.A) (hk : k + 1 ≤ j) (hN : X.N[i]? = some x) (hv : Vis X.env.scope x) (ha : PA X (e :: es) t) (hd : (x == ("__debug__" : Str)) = false := by decide) (hcd : (x == ("__classdict__" : Str)) = false := by decide)
    (he : starEach (e :: es) X.env = (false, eval e X.env) :: starEach es X.env := by rfl) (hp : (backTo pos (starEach es X.env)).any (·.1) = false := by rfl) : PE X (.Call (.Name x p) (e :: es) [] pos) (tMakeL i C sp t) := by
  obtain ⟨f, ⟨fd, ps, F, b⟩, g⟩ := M.ex
  refine ⟨fun pn s τ H Q I ⟨h0, h⟩ => ?_⟩
  refine wpAny_Call_Name_kw (thn ((pe_var (pos := p) hN hv hd hcd).run pn s τ H (fun v H1 => v = .ref C ∧ H1 = H) I ⟨.ref C, h0, rfl, rfl⟩) fun u s1 ⟨v, H1, I1, r1, e1, e2⟩ => ?_)
  subst e1 e2
  cases r1
  exact PySem.W.callWith_K (h₀ := X.base) I.ok.mod.kin g.kp (thn (ha.run pos pn s1 τ H1 _ I1 h) fun us s2 ⟨vs, H2, I2, r, q⟩ => ⟨I2.kIn, run_make g F (hr.mono hk) b .nil pass0 I2 r q⟩) he hp
theorem pe_pr (M : PCal X.prog X.w X.K X.mg X.base k C m sp) (hr : Room j X.A) (hk : k + 1 ≤ j) (c : Cls X.K C) (he : PE X e ta) (hab : attributeBase e m X.env (eval e X.env) = eval e X.env := by rfl) : PE X (.Attribute e m pos) (tProp C sp [] E0 ta) := by
  obtain ⟨p, g, ⟨fd, ps, F, b⟩, z⟩ := M.ex
  exact pe_prop he c z F (hr.mono hk) b .nil pass0 hab
/-- C.m(..), a static method -/
def tSMeth (C : Addr) (sp : Sp) (ta : TE) (t : TA) : TE := fun τ H Q => ta τ H fun x H1 => x = .ref C ∧ t τ H1 fun vs H2 => sp vs H2 Q E0
theorem getmeth_sm {pn : List (Addr × Obj)} {τ : L2.St} {H : Hp} {s : Shared} {A : Around} {E : Value → Shared → Prop} {pl : Sem Bool} {q g : Addr} {Q : Value × List Value → Shared → Prop} (I : Inv X pn τ H s) (r : ClX.CRead X.K C (.type "type")) (z : SMet X.K C m q g)
    (h : ∀ s', Inv X pn τ H s' → Q (.ref g, []) s') : wpAny (model X.prog X.w) A (getMethod (.ref C) m pl) Q E s := by
  obtain ⟨rest, hp⟩ := z.rc
  refine PySem.W.method_cls I.kIn r.ga (PySem.W.cls_bind I.kIn r.rd z.at_ ?_)
  exact wpAny_call (PySem.W.sm_get (s := { s with toks := s.toks + 1 }) I.kIn hp (PySem.W.handed_on rfl (h _ (I.tok _))))
theorem pe_sm {pl : Sem Bool} (M : SCal X.prog X.w X.K X.mg X.base k C m sp) (hr : Room j X.A) (hk : k ≤ j) (r : ClX.CRead X.K C (.type "type")) (he : PE X o ta) (ha : PA X (e :: es) t)
    (hs : starEach (e :: es) X.env = (false, eval e X.env) :: starEach es X.env := by rfl) (hp : (backTo pos (starEach es X.env)).any (·.1) = false := by rfl)
    (ht : eval (.Call (.Attribute o m apos) (e :: es) [] pos) X.env = (do
      let ov ← eval o X.env
      standAt apos.atName
      let (f, first) ← holding [ov] (getMethod ov m pl)
      callWith pos f first (backTo pos (starEach (e :: es) X.env)) (backToKw pos (keywordEach [] X.env))) := by rfl) : PE X (.Call (.Attribute o m apos) (e :: es) [] pos) (tSMeth C sp ta t) := by
  obtain ⟨q, g, F, z⟩ := M.ex
  obtain ⟨fd, ps, F, b⟩ := F.ex
  refine ⟨fun pn s τ H Q I h => ?_⟩
  refine PySem.W.methodCall_KW (pl := pl) (thn (he.run pn s τ H _ I h) fun u s1 ⟨v, H1, I1, rx, ex, h1⟩ => ?_) ht
  subst ex
  obtain rfl : u = Value.ref C := rx
  refine getmeth_sm I1 r z fun s2 I2 => ?_
  exact PySem.W.callWith_K (first := []) (h₀ := X.base) I.ok.mod.kin z.kp (thn (ha.run pos pn s2 τ H1 _ I2 h1) fun us s3 ⟨vs, H2, I3, rv, h2⟩ => ⟨I3.kIn, run_fn F (hr.mono hk) b .nil pass0 I3 rv (by rw [List.append_nil]; exact h2)⟩) hs hp
theorem pe_sm0 {pl : Sem Bool} (M : SCal X.prog X.w X.K X.mg X.base k C m sp) (hr : Room j X.A) (hk : k ≤ j) (r : ClX.CRead X.K C (.type "type")) (he : PE X o ta)
    (ht : eval (.Call (.Attribute o m apos) [] [] pos) X.env = (do
      let ov ← eval o X.env
      standAt apos.atName
      let (f, first) ← holding [ov] (getMethod ov m pl)
      callWith pos f first (backTo pos (starEach [] X.env)) (backToKw pos (keywordEach [] X.env))) := by rfl) : PE X (.Call (.Attribute o m apos) [] [] pos) (tSMeth C sp ta tNil) := by
  obtain ⟨q, g, F, z⟩ := M.ex
  obtain ⟨fd, ps, F, b⟩ := F.ex
  refine ⟨fun pn s τ H Q I h => ?_⟩
  refine PySem.W.methodCall_KW (pl := pl) (thn (he.run pn s τ H _ I h) fun u s1 ⟨v, H1, I1, rx, ex, h1⟩ => ?_) ht
  subst ex
  obtain rfl : u = Value.ref C := rx
  refine getmeth_sm I1 r z fun s2 I2 => ?_
  exact PySem.W.callWith_K0 (first := []) I2.kIn z.kp (run_fn (us := []) (vs := []) F (hr.mono hk) b .nil pass0 I2 .nil h1)
theorem pe_cm {pl : Sem Bool} (M : KCal X.prog X.w X.K X.mg X.base k C m sp) (hr : Room j X.A) (hk : k ≤ j) (r : ClX.CRead X.K C (.type "type")) (he : PE X o ta) (ha : PA X (e :: es) t)
    (hs : starEach (e :: es) X.env = (false, eval e X.env) :: starEach es X.env := by rfl) (hp : (backTo pos (starEach es X.env)).any (·.1) = false := by rfl)
    (ht : eval (.Call (.Attribute o m apos) (e :: es) [] pos) X.env = (do
      let ov ← eval o X.env
      standAt apos.atName
      let (f, first) ← holding [ov] (getMethod ov m pl)
      callWith pos f first (backTo pos (starEach (e :: es) X.env)) (backToKw pos (keywordEach [] X.env))) := by rfl) : PE X (.Call (.Attribute o m apos) (e :: es) [] pos) (ClX.tCMeth C sp E0 ta t) := by
  obtain ⟨q, g, F, z⟩ := M.ex
  exact ClX.pe_cmeth he r z F.raw (hr.mono hk) pass0 ha hs hp ht
/-! ### operators, str -/
/-- x op y, x and y instances of the class at C -/
def rOwn2 (C : Addr) (sp : Sp) : R2 := fun x y H Q => ∃ a dx fs b dy gs, x = .ref a ∧ y = .ref b ∧ H a = some (.ins C dx fs) ∧ H b = some (.ins C dy gs) ∧ sp [x, y] H Q E0
theorem op_own2 {op : Operator} (M : DCal X.prog X.w X.K X.mg X.base k C (PySem.dunder op.info.2) sp) (hr : Room j X.A) (hk : k ≤ j) (hc : PySem.W.selfFirst X.K C = true) : OpR X (binaryOp op) (rOwn2 C sp) := by
  obtain ⟨g, F, hs, hf⟩ := M.ex
  intro pn s τ H x y v u Q I rx ry h
  obtain ⟨a, dx, fs, b, dy, gs, rfl, rfl, ha, hb, q⟩ := h
  cases (show v = Value.ref a from rx)
  cases (show u = Value.ref b from ry)
  obtain ⟨mA, O, _⟩ := ins_get I.hok ha
  obtain ⟨mB, O', _⟩ := ins_get I.hok hb
  obtain ⟨od, J, _⟩ := O.look
  obtain ⟨od', J', _⟩ := O'.look
  obtain ⟨mm, hF⟩ := I.fr
  refine PySem.W.binop_K hF I.ok.mod.kin J J'.type hc hs hf ?_
  refine wpAny_mono (wpAny_call (run_fnR (us := [.ref a, .ref b]) (vs := [.ref a, .ref b]) F.raw (hr.mono hk) pass0 I (.cons rfl (.cons rfl .nil)) q)) (fun w s' z => ?_) fun _ _ x => x
  obtain ⟨z', H', I', rz, qz⟩ := z
  exact SlX.cmpback rz ⟨z', H', I', rz, qz⟩
theorem op_eq2 (M : DCal X.prog X.w X.K X.mg X.base k C "__eq__" sp) (hr : Room j X.A) (hk : k ≤ j) (hn : PySem.W.notFirst X.K C (.ref C) = true) : OpR X (compareOp .Eq) (rOwn2 C sp) := by
  obtain ⟨g, F, hs, hf⟩ := M.ex
  intro pn s τ H x y v u Q I rx ry h
  obtain ⟨a, dx, fs, b, dy, gs, rfl, rfl, ha, hb, q⟩ := h
  cases (show v = Value.ref a from rx)
  cases (show u = Value.ref b from ry)
  obtain ⟨mA, O, _⟩ := ins_get I.hok ha
  obtain ⟨mB, O', _⟩ := ins_get I.hok hb
  obtain ⟨od, J, _⟩ := O.look
  obtain ⟨od', J', _⟩ := O'.look
  obtain ⟨mm, hF⟩ := I.fr
  show wpAny _ _ (richCompare .Eq (.ref a) (.ref b)) _ _ _
  refine PySem.W.cmp_K (op := .Eq) (tb := .ref C) hr.units0 hF I.ok.mod.kin J J'.type hn hs hf ?_
  refine wpAny_mono (wpAny_call (run_fnR (us := [.ref a, .ref b]) (vs := [.ref a, .ref b]) F.raw (hr.mono hk) pass0 I (.cons rfl (.cons rfl .nil)) q)) (fun w s' z => ?_) fun _ _ x => x
  obtain ⟨z', H', I', rz, qz⟩ := z
  exact SlX.cmpback rz ⟨z', H', I', rz, qz⟩
/-- str(x) of an instance -/
def rStrO (C : Addr) (sp : Sp) : List V → Hp → VK → Prop := fun xs H Q => ∃ a dx fs, xs = [V.ref a] ∧ H a = some (.ins C dx fs) ∧ sp [.ref a] H (fun z H' => ∃ y, z = .str y ∧ Q z H') E0
theorem call_strO (M : DCal X.prog X.w X.K X.mg X.base k C "__str__" sp) (hr : Room j X.A) (hk : k + 2 ≤ j) : CallR X (.type "str") (rStrO C sp) := by
  obtain ⟨g, F, hs, hf⟩ := M.ex
  intro pn s τ H xs us Q I r h
  obtain ⟨a, dx, fs, rfl, ha, q⟩ := h
  obtain ⟨u, rfl, ru⟩ := r.one
  cases (show u = Value.ref a from ru)
  obtain ⟨mA, O, _⟩ := ins_get I.hok ha
  obtain ⟨od, J, _⟩ := O.look
  have hr1 : Room (k + 1) X.A.in1 := Room.in1 (hr.mono (show k + 1 + 1 ≤ j from hk))
  have hr2 : Room k X.A.in1.in1 := hr1.in1
  refine PySem.W.kso_call hr2.units0 I.kIn J hs hf (wpAny_mono (wpAny_call (SlX.run_at (us := [.ref a]) (ws := [.ref a]) F.raw hr2 I.env0.in1.in1 pass0 I (.cons rfl .nil) q)) (fun w s' z => ?_) fun _ _ x => x)
  obtain ⟨z', H', I', rz, y, ey, qz⟩ := z
  subst ey
  obtain ⟨t, e⟩ := (show ∃ t, w = Value.str y t from rz)
  cases e
  exact ⟨.str y, H', I', ⟨t, rfl⟩, qz⟩
end
end Wb

/-! The text: where each def stands, what the names mean. -/
namespace Wb
open PySem PySem.Spec PyProof.Rows L2 SX
def top (i : Nat) : Stmt := PySem.Challenge.pw_sixasone_k89_whole_texts_of_webs.main.body.getD i (.Pass ⟨0, 0, 0, 0⟩)
/-- the defs: name, place -/
def defs : List (Str × Nat) := [("ordered", 13), ("net_shape", 14), ("joined_shape", 15), ("joints_of", 16), ("renamed_joints", 17), ("laid_between", 18), ("laid", 19), ("places_in", 20), ("shape_text", 21),
  ("is_whole", 27), ("is_name", 28), ("is_joint", 29), ("is_link", 30), ("cursor_of", 55), ("need_end", 56), ("read_letters", 57), ("read_name", 58), ("read_number", 59), ("read_joint", 60), ("read_link", 61), ("goes_on", 62), ("read_net", 63),
  ("read_sign", 64), ("read_joined", 65), ("read_part", 66), ("read_shape", 67), ("shape_of", 70), ("need_few", 71), ("joined_web", 72)]
def lawDefs : List (Str × Nat) := [("_law_pen", 78), ("_law_draw", 79), ("_law_pick", 80), ("_law_words", 81), ("_law_net", 82), ("_law_plan", 83), ("_law_size", 84), ("_law_joined", 85), ("_law_in_rows", 86),
  ("_law_netted", 87), ("_law_made", 88), ("_law_shown", 89), ("_law_web", 90), ("_law_stirred", 91), ("_law_loosely", 92), ("_law_right", 93), ("_law_deep_right", 94), ("law", 95)]
/-- methods of Cursor -/
def mcs : List (Str × Str × Nat) := [("seen", "Cursor.seen", 1), ("take", "Cursor.take", 2), ("taken_while", "Cursor.taken_while", 3)]
/-- static methods, properties, special methods of Web -/
def sms : List (Str × Str × Nat) := [("link", "Web.link", 2), ("net", "Web.net", 3), ("always", "Web.always", 6), ("never", "Web.never", 7)]
def prs : List (Str × Str × Nat) := [("kind", "Web.kind", 9), ("links", "Web.links", 11)]
def sps : List (Str × Str × Nat) := [("__str__", "Web.__str__", 21), ("__eq__", "Web.__eq__", 25), ("__and__", "Web.__and__", 26), ("__or__", "Web.__or__", 28)]
def frees : List Str := ["len", "str", "int", "tuple", "list", "sorted", "sum", "all", "isinstance", "abs", "set", "dict", "zip", "range", "enumerate", "bool", "repr"]
structure Tx (c : Cf) (w : World) (mg : Str → Option Value) : Prop where
  fn : ∀ {i : Nat} {x : Str} {j : Nat}, defs[i]? = some (x, j) → ∃ f fd, L2.Fun c.K x x (top j) f fd ∧ mg x = some (.ref f)
  lf : ∀ {i : Nat} {x : Str} {j : Nat}, lawDefs[i]? = some (x, j) → ∃ f fd, L2.Fun c.K x x (top j) f fd ∧ mg x = some (.ref f)
  mc : ∀ {i : Nat} {m q : Str} {j : Nat}, mcs[i]? = some (m, q, j) → ∃ f fd, L2.Fun c.K m q (inClass (top 54) j) f fd ∧ Meth c.K c.CC m f
  ic : ∃ f fd, L2.Fun c.K "__init__" "Cursor.__init__" (inClass (top 54) 0) f fd ∧ Mk c.K c.CC f
  iw : ∃ f fd, L2.Fun c.K "__init__" "Web.__init__" (inClass (top 76) 1) f fd ∧ Mk c.K c.C f
  sm : ∀ {i : Nat} {m q : Str} {j : Nat}, sms[i]? = some (m, q, j) → ∃ p g fd, L2.Fun c.K m q (inClass (top 76) j) g fd ∧ SMet c.K c.C m p g
  cm : ∃ p g fd, L2.Fun c.K "read" "Web.read" (inClass (top 76) 8) g fd ∧ ClX.CMet c.K c.C (.type "type") "read" p g
  pr : ∀ {i : Nat} {m q : Str} {j : Nat}, prs[i]? = some (m, q, j) → ∃ p g fd, L2.Fun c.K m q (inClass (top 76) j) g fd ∧ PropOf c.K c.C m p g
  sp : ∀ {i : Nat} {m q : Str} {j : Nat}, sps[i]? = some (m, q, j) → ∃ f fd, L2.Fun c.K m q (inClass (top 76) j) f fd ∧ PySem.W.findIn c.K (.ref c.C) m = some (some (.ref f)) ∧ PySem.W.isFn c.K (.ref f) = true
  rd : ClX.CRead c.K c.C (.type "type")
  cw : Cls c.K c.C
  cc : Cls c.K c.CC
  ins : C8.InsC c.K c.C
  na : NoAttr c.K c.C "shape"
  nt : NoAttr c.K c.CC "text"
  nb : NoAttr c.K c.CC "at"
  nc : NoAttr c.K c.CC "begun"
  nf : PySem.W.notFirst c.K c.C (.ref c.C) = true
  sf : PySem.W.selfFirst c.K c.C = true
  dg : NoDg c.K
  mC : mg "Web" = some (.ref c.C)
  mCC : mg "Cursor" = some (.ref c.CC)
  fr : ∀ {i : Nat} {x : Str}, frees[i]? = some x → mg x = none
  g_OPEN : ∃ u, mg "OPEN" = some u ∧ RelV (.ref c.aO) u
  g_SHUT : ∃ u, mg "SHUT" = some u ∧ RelV (.ref c.aS) u
  g_FIRST_INNER : ∃ u, mg "FIRST_INNER" = some u ∧ RelV (.int 2) u
  g_LETTERS : ∃ u, mg "LETTERS" = some u ∧ RelV (.str "abcdefghijklmnopqrstuvwxyz") u
  g_BARRED : ∃ u, mg "BARRED" = some u ∧ RelV (.ref c.aB) u
  g_MOST_LETTERS : ∃ u, mg "MOST_LETTERS" = some u ∧ RelV (.int 8) u
  g_LAST_JOINT : ∃ u, mg "LAST_JOINT" = some u ∧ RelV (.int 99) u
  g_FIGURES : ∃ u, mg "FIGURES" = some u ∧ RelV (.str "0123456789") u
  g_MOST_PLACES_reading : ∃ u, mg "MOST_PLACES_reading" = some u ∧ RelV (.int 14) u
  g_MOST_PLACES_webs : ∃ u, mg "MOST_PLACES_webs" = some u ∧ RelV (.int 14) u
  g_SIGNS : ∃ u, mg "SIGNS" = some u ∧ RelV (.ref c.aG) u
  t_O : ∀ H, SqT c.K H c.aO [.str "open"]
  t_S : ∀ H, SqT c.K H c.aS [.str "shut"]
  t_B : ∀ H, SqT c.K H c.aB [.str "open", .str "shut", .str "net"]
  d_G : ∃ es n, KDict c.K w c.aG es n
  v_G1 : ∃ u, PySem.W.nsIn c.K c.aG "&" = some (some u) ∧ RelV (.str "row") u
  v_G2 : ∃ u, PySem.W.nsIn c.K c.aG "|" = some (some u) ∧ RelV (.str "bunch") u
section
variable {c : Cf} {P : Program} {w : World} {mg : Str → Option Value} {base : Heap} {k : Nat} {sp : Sp}
theorem Tx.b_len (T : Tx c w mg) : mg "len" = none := T.fr (i := 0) rfl
theorem Tx.b_str (T : Tx c w mg) : mg "str" = none := T.fr (i := 1) rfl
theorem Tx.b_int (T : Tx c w mg) : mg "int" = none := T.fr (i := 2) rfl
theorem Tx.b_tuple (T : Tx c w mg) : mg "tuple" = none := T.fr (i := 3) rfl
theorem Tx.b_list (T : Tx c w mg) : mg "list" = none := T.fr (i := 4) rfl
theorem Tx.b_sorted (T : Tx c w mg) : mg "sorted" = none := T.fr (i := 5) rfl
theorem Tx.b_sum (T : Tx c w mg) : mg "sum" = none := T.fr (i := 6) rfl
theorem Tx.b_all (T : Tx c w mg) : mg "all" = none := T.fr (i := 7) rfl
theorem Tx.b_isinstance (T : Tx c w mg) : mg "isinstance" = none := T.fr (i := 8) rfl
theorem Tx.b_abs (T : Tx c w mg) : mg "abs" = none := T.fr (i := 9) rfl
theorem Tx.b_set (T : Tx c w mg) : mg "set" = none := T.fr (i := 10) rfl
theorem Tx.b_dict (T : Tx c w mg) : mg "dict" = none := T.fr (i := 11) rfl
theorem Tx.b_zip (T : Tx c w mg) : mg "zip" = none := T.fr (i := 12) rfl
theorem Tx.b_range (T : Tx c w mg) : mg "range" = none := T.fr (i := 13) rfl
theorem Tx.b_enumerate (T : Tx c w mg) : mg "enumerate" = none := T.fr (i := 14) rfl
theorem Tx.b_bool (T : Tx c w mg) : mg "bool" = none := T.fr (i := 15) rfl
theorem Tx.b_repr (T : Tx c w mg) : mg "repr" = none := T.fr (i := 16) rfl
abbrev BindOk (x qual : Str) (st : Stmt) (ps : List Str) : Prop := ∀ (kV doc pm : Value) (an : Option Addr) (cdv ct : Value) (us : List Value), us.length = ps.length →
  bindArgs (PySem.W.fnOf x qual (defArgs st) (defBody st) (defScope st) .none kV doc pm an cdv ct) ⟨us, []⟩ = pure (ps.zip us)
theorem mk_cal {x : Str} {j : Nat} {N ps : List Str} (T : Tx c w mg) (i : Nat) (S : FnScope N ps (defScope (top j))) (hb : BindOk x x (top j) ps) (len : ∀ vs H Q E, sp vs H Q E → vs.length = ps.length)
    (h : Bd P w c.K mg base x (top j) N k sp) (hi : defs[i]? = some (x, j) := by rfl) : Cal P w c.K mg base (k + 1) x sp := by
  obtain ⟨f, fd, F, g⟩ := T.fn hi
  exact ⟨f, prom_of F S hb len h, g, F.kp⟩
theorem mk_law {x : Str} {j : Nat} {N ps : List Str} (T : Tx c w mg) (i : Nat) (S : FnScope N ps (defScope (top j))) (hb : BindOk x x (top j) ps) (len : ∀ vs H Q E, sp vs H Q E → vs.length = ps.length)
    (h : Bd P w c.K mg base x (top j) N k sp) (hi : lawDefs[i]? = some (x, j) := by rfl) : Cal P w c.K mg base (k + 1) x sp := by
  obtain ⟨f, fd, F, g⟩ := T.lf hi
  exact ⟨f, prom_of F S hb len h, g, F.kp⟩
theorem mk_mc {m q : Str} {j : Nat} {N ps : List Str} (T : Tx c w mg) (i : Nat) (S : FnScope N ps (defScope (inClass (top 54) j))) (hb : BindOk m q (inClass (top 54) j) ps) (len : ∀ vs H Q E, sp vs H Q E → vs.length = ps.length)
    (h : Bd P w c.K mg base q (inClass (top 54) j) N k sp) (hi : mcs[i]? = some (m, q, j) := by rfl) : MCal P w c.K mg base (k + 1) c.CC m sp := by
  obtain ⟨f, fd, F, g⟩ := T.mc hi
  exact ⟨f, prom_of F S hb len h, g⟩
theorem mk_ic {N ps : List Str} (T : Tx c w mg) (S : FnScope N ps (defScope (inClass (top 54) 0))) (hb : BindOk "__init__" "Cursor.__init__" (inClass (top 54) 0) ps) (len : ∀ vs H Q E, sp vs H Q E → vs.length = ps.length)
    (h : Bd P w c.K mg base "Cursor.__init__" (inClass (top 54) 0) N k sp) : Mak P w c.K mg base (k + 1) c.CC sp := by
  obtain ⟨f, fd, F, g⟩ := T.ic
  exact ⟨f, prom_of F S hb len h, g⟩
theorem mk_iw {N ps : List Str} (T : Tx c w mg) (S : FnScope N ps (defScope (inClass (top 76) 1))) (hb : BindOk "__init__" "Web.__init__" (inClass (top 76) 1) ps) (len : ∀ vs H Q E, sp vs H Q E → vs.length = ps.length)
    (h : Bd P w c.K mg base "Web.__init__" (inClass (top 76) 1) N k sp) : Mak P w c.K mg base (k + 1) c.C sp := by
  obtain ⟨f, fd, F, g⟩ := T.iw
  exact ⟨f, prom_of F S hb len h, g⟩
theorem mk_sm {m q : Str} {j : Nat} {N ps : List Str} (T : Tx c w mg) (i : Nat) (S : FnScope N ps (defScope (inClass (top 76) j))) (hb : BindOk m q (inClass (top 76) j) ps) (len : ∀ vs H Q E, sp vs H Q E → vs.length = ps.length)
    (h : Bd P w c.K mg base q (inClass (top 76) j) N k sp) (hi : sms[i]? = some (m, q, j) := by rfl) : SCal P w c.K mg base (k + 1) c.C m sp := by
  obtain ⟨p, f, fd, F, g⟩ := T.sm hi
  exact ⟨p, f, prom_of F S hb len h, g⟩
theorem mk_cm {N ps : List Str} (T : Tx c w mg) (S : FnScope N ps (defScope (inClass (top 76) 8))) (hb : BindOk "read" "Web.read" (inClass (top 76) 8) ps) (len : ∀ vs H Q E, sp vs H Q E → vs.length = ps.length)
    (h : Bd P w c.K mg base "Web.read" (inClass (top 76) 8) N k sp) : KCal P w c.K mg base (k + 1) c.C "read" sp := by
  obtain ⟨p, f, fd, F, g⟩ := T.cm
  exact ⟨p, f, prom_of F S hb len h, g⟩
theorem mk_pr {m q : Str} {j : Nat} {N ps : List Str} (T : Tx c w mg) (i : Nat) (S : FnScope N ps (defScope (inClass (top 76) j))) (hb : BindOk m q (inClass (top 76) j) ps) (len : ∀ vs H Q E, sp vs H Q E → vs.length = ps.length)
    (h : Bd P w c.K mg base q (inClass (top 76) j) N k sp) (hi : prs[i]? = some (m, q, j) := by rfl) : PCal P w c.K mg base (k + 1) c.C m sp := by
  obtain ⟨p, f, fd, F, g⟩ := T.pr hi
  exact ⟨p, f, prom_of F S hb len h, g⟩
theorem mk_sp {m q : Str} {j : Nat} {N ps : List Str} (T : Tx c w mg) (i : Nat) (S : FnScope N ps (defScope (inClass (top 76) j))) (hb : BindOk m q (inClass (top 76) j) ps) (len : ∀ vs H Q E, sp vs H Q E → vs.length = ps.length)
    (h : Bd P w c.K mg base q (inClass (top 76) j) N k sp) (hi : sps[i]? = some (m, q, j) := by rfl) : DCal P w c.K mg base (k + 1) c.C m sp := by
  obtain ⟨f, fd, F, g⟩ := T.sp hi
  exact ⟨f, prom_of F S hb len h, g⟩
end
end Wb

/-! Shapes as data: of the program (true, tuples), of the law (false, lists). -/
namespace Wb
open PySem PySem.Spec PyProof.Rows L2 SX
def nLink : List Nat := [108, 105, 110, 107]
def nRow : List Nat := [114, 111, 119]
def nBunch : List Nat := [98, 117, 110, 99, 104]
def kn (k : Bool) : List Nat := if k then nRow else nBunch
def lkD (l : Lk) : Dt := .tup [.str l.1, .int (l.2.1 : Int), .int (l.2.2 : Int)]
def seqD (b : Bool) (ds : List Dt) : Dt := if b then .tup ds else .lst ds
mutual
def dat (b : Bool) : Sh → Dt
  | .opn => .tup [.str nOpen]
  | .sht => .tup [.str nShut]
  | .link n => .tup [.str nLink, .str n]
  | .net ls => .tup [.str nNet, seqD b (ls.map lkD)]
  | .join k ps => .tup [.str (kn k), seqD b (dats b ps)]
def dats (b : Bool) : List Sh → List Dt
  | [] => []
  | p :: r => dat b p :: dats b r
end
theorem dats_map (b : Bool) : ∀ ps : List Sh, dats b ps = ps.map (dat b)
  | [] => rfl
  | p :: r => by simp [dats, dats_map b r]
def tag : Sh → List Nat
  | .opn => nOpen
  | .sht => nShut
  | .link _ => nLink
  | .net _ => nNet
  | .join k _ => kn k
def arg (b : Bool) : Sh → Option Dt
  | .opn => none
  | .sht => none
  | .link n => some (.str n)
  | .net ls => some (seqD b (ls.map lkD))
  | .join _ ps => some (seqD b (ps.map (dat b)))
theorem dat_eq (b : Bool) (s : Sh) : dat b s = .tup (.str (tag s) :: (arg b s).toList) := by
  cases s <;> simp [dat, tag, arg, dats_map]
def isLink : Sh → Bool
  | .link _ => true
  | _ => false
def isNet : Sh → Bool
  | .net _ => true
  | _ => false
def isJoin : Sh → Bool
  | .join _ _ => true
  | _ => false
theorem tag_link (s : Sh) : (tag s == nLink) = isLink s := by
  cases s with
  | join k ps => cases k <;> rfl
  | _ => rfl
theorem tag_net (s : Sh) : (tag s == nNet) = isNet s := by
  cases s with
  | join k ps => cases k <;> rfl
  | _ => rfl
theorem tag_open (s : Sh) : (tag s == nOpen) = isOpn s := by
  cases s with
  | join k ps => cases k <;> rfl
  | _ => rfl
theorem tag_join (s : Sh) : [nRow, nBunch].contains (tag s) = isJoin s := by
  cases s with
  | join k ps => cases k <;> rfl
  | _ => rfl
def isK (k : Bool) : Sh → Bool
  | .join k' _ => k' == k
  | _ => false
theorem tag_kn (k : Bool) (s : Sh) : (tag s == kn k) = isK k s := by
  cases s with
  | join k' ps => cases k <;> cases k' <;> rfl
  | _ => cases k <;> rfl
theorem kn_row (k : Bool) : (kn k == nRow) = k := by cases k <;> rfl
/-! ### comparable -/
def Asc (l : List Nat) : Prop := ∀ c ∈ l, c < 128
theorem nm_asc {n : List Nat} (h : NameOk n) : Asc n := fun c hc => by
  have := h.let_ c hc
  omega
theorem asc_tm {l : List Nat} (h : Asc l) : Tm (.str l) = true := by
  simp only [Tm, List.all_eq_true, decide_eq_true_eq]
  exact h
theorem cm_str {l : List Nat} (h : Asc l) : Cm (.str l) := ⟨asc_tm h, by simp [dpt]⟩
theorem cm_int {i : Int} : Cm (.int i) := ⟨rfl, by simp [dpt]⟩
theorem kn_asc (k : Bool) : Asc (kn k) := by
  cases k <;> (intro c hc; revert c hc; decide)
theorem tag_asc (s : Sh) : Asc (tag s) := by
  cases s with
  | join k ps => exact kn_asc k
  | _ => intro c hc; revert c hc; first | (simp only [tag]; decide)
theorem lkD_cm {l : Lk} (h : Asc l.1) : Tm (lkD l) = true ∧ dpt (lkD l) = 1 := by
  refine ⟨?_, by simp [lkD, dpt, dptA]⟩
  simp only [lkD, Tm, TmA, Bool.and_true, Bool.and_eq_true, and_true]
  have := asc_tm h
  simpa [Tm] using this
theorem seqD_cm {b : Bool} {ds : List Dt} {n : Nat} (h : ∀ d ∈ ds, Tm d = true ∧ dpt d ≤ n) : Tm (seqD b ds) = true ∧ dpt (seqD b ds) ≤ n + 1 := by
  have h1 : TmA ds = true := tmA_iff.mpr fun d hd => (h d hd).1
  have h2 : dptA ds ≤ n := dptA_le fun d hd => (h d hd).2
  cases b
  · exact ⟨h1, by show dptA ds + 1 ≤ n + 1; omega⟩
  · exact ⟨h1, by show dptA ds + 1 ≤ n + 1; omega⟩
theorem pair_cm {t : List Nat} {d : Dt} {n : Nat} (ht : Asc t) (h : Tm d = true ∧ dpt d ≤ n) : Tm (.tup [.str t, d]) = true ∧ dpt (.tup [.str t, d]) ≤ n + 1 := by
  have e := asc_tm ht
  refine ⟨?_, ?_⟩
  · simp only [Tm, TmA, Bool.and_true, Bool.and_eq_true]
    exact ⟨by simpa [Tm] using e, h.1⟩
  · simp only [dpt, dptA]
    have := h.2
    omega
theorem dat_cm (b : Bool) : ∀ s : Sh, PlanOk s → Tm (dat b s) = true ∧ dpt (dat b s) ≤ 2 * dep s + 3 := by
  refine Sh.ind (fun _ => ⟨by rfl, by simp [dat, dpt, dptA]⟩) (fun _ => ⟨by rfl, by simp [dat, dpt, dptA]⟩) (fun n h => ?_) (fun ls h => ?_) (fun k ps ih h => ?_)
  · have := pair_cm (t := nLink) (d := .str n) (n := 0) (tag_asc (.link n)) ⟨asc_tm (nm_asc h), by simp [dpt]⟩
    exact ⟨this.1, by have := this.2; show dpt (.tup [.str nLink, .str n]) ≤ _; omega⟩
  · have h1 := seqD_cm (b := b) (ds := ls.map lkD) (n := 1) fun d hd => by
      obtain ⟨l, hl, rfl⟩ := List.mem_map.mp hd
      obtain ⟨a1, a2⟩ := lkD_cm (nm_asc (h l hl).nm)
      exact ⟨a1, by omega⟩
    have := pair_cm (t := nNet) (tag_asc (.net ls)) h1
    exact ⟨this.1, by have := this.2; show dpt (.tup [.str nNet, seqD b (ls.map lkD)]) ≤ 2 * 0 + 3; omega⟩
  · have h' := planOks_iff.mp (show PlanOks ps from h)
    have h1 := seqD_cm (b := b) (ds := dats b ps) (n := 2 * deps ps + 3) fun d hd => by
      rw [dats_map] at hd
      obtain ⟨p, hp, rfl⟩ := List.mem_map.mp hd
      obtain ⟨a1, a2⟩ := ih p hp (h' p hp)
      have := dep_mem hp
      exact ⟨a1, by omega⟩
    have := pair_cm (kn_asc k) h1
    exact ⟨this.1, by have := this.2; show dpt (.tup [.str (kn k), seqD b (dats b ps)]) ≤ 2 * (deps ps + 1) + 3; omega⟩
theorem cm_dat {b : Bool} {s : Sh} (h : PlanOk s) (hd : dep s ≤ 20) : Cm (dat b s) := by
  obtain ⟨a1, a2⟩ := dat_cm b s h
  exact ⟨a1, by omega⟩
theorem cm_dats {b : Bool} {ps : List Sh} (h : ∀ p ∈ ps, PlanOk p ∧ dep p ≤ 20) : Cm (.lst (ps.map (dat b))) := by
  have := seqD_cm (b := false) (ds := ps.map (dat b)) (n := 43) fun d hd => by
    obtain ⟨p, hp, rfl⟩ := List.mem_map.mp hd
    obtain ⟨a1, a2⟩ := dat_cm b p (h p hp).1
    have := (h p hp).2
    exact ⟨a1, by omega⟩
  exact ⟨this.1, by have := this.2; show dpt (.lst _) ≤ _; exact Nat.le_trans this (by omega)⟩
theorem deq_opn (b : Bool) (s : Sh) : deq (dat b s) (dat b .opn) = isOpn s := by
  cases s with
  | join k ps => cases k <;> simp [dat, deq, deqA, isOpn]
  | _ => simp [dat, deq, deqA, isOpn, nShut, nOpen]
theorem deq_sht (b : Bool) (s : Sh) : deq (dat b s) (dat b .sht) = isSht s := by
  cases s with
  | join k ps => cases k <;> simp [dat, deq, deqA, isSht]
  | _ => simp [dat, deq, deqA, isSht, nShut, nOpen]
theorem deq_idle (b k : Bool) (s : Sh) : deq (dat b s) (dat b (idle k)) = isIdle k s := by
  cases k
  · exact deq_sht b s
  · exact deq_opn b s
theorem deq_rul (b k : Bool) (s : Sh) : deq (dat b s) (dat b (rul k)) = isRul k s := by
  cases k
  · exact deq_opn b s
  · exact deq_sht b s
section
variable {c : Cf} {te : TE} {D : List SV} {s : Sh} {b : Bool}
theorem x_tag (h : X c te D (dat b s)) : X c (tOp (rIx c.K) te (tC (.int 0))) D (.str (tag s)) := x_ixT (n := 0) (by rw [← dat_eq]; exact h) x_int rfl rfl
theorem x_arg {d : Dt} (h : X c te D (dat b s)) (e : arg b s = some d) : X c (tOp (rIx c.K) te (tC (.int 1))) D d := x_ixT (n := 1) (by rw [← dat_eq]; exact h) x_int rfl (by rw [e]; rfl)
theorem x_tagEq {z : Str} {n : List Nat} (h : X c te D (dat b s)) (hz : z = S n) (hn : Asc n) : X c (tOp (rEqD c.K) (tOp (rIx c.K) te (tC (.int 0))) (tC (.str z))) D (.bl (tag s == n)) :=
  x_eq (x_tag h) (x_str hz) (cm_str (tag_asc s)) (cm_str hn)
theorem x_tagLink (h : X c te D (dat b s)) : X c (tOp (rEqD c.K) (tOp (rIx c.K) te (tC (.int 0))) (tC (.str "link"))) D (.bl (isLink s)) := tag_link s ▸ x_tagEq h rfl (tag_asc (.link []))
theorem x_tagNet (h : X c te D (dat b s)) : X c (tOp (rEqD c.K) (tOp (rIx c.K) te (tC (.int 0))) (tC (.str "net"))) D (.bl (isNet s)) := tag_net s ▸ x_tagEq h rfl (tag_asc (.net []))
theorem x_tagOpen (h : X c te D (dat b s)) : X c (tOp (rEqD c.K) (tOp (rIx c.K) te (tC (.int 0))) (tC (.str "open"))) D (.bl (isOpn s)) := tag_open s ▸ x_tagEq h rfl (tag_asc .opn)
theorem x_tagRow (h : X c te D (dat b s)) : X c (tOp (rEqD c.K) (tOp (rIx c.K) te (tC (.int 0))) (tC (.str "row"))) D (.bl (isK true s)) := tag_kn true s ▸ x_tagEq h rfl (kn_asc true)
theorem x_kinds : X c (tTup (tCons (tC (.str "row")) (tCons (tC (.str "bunch")) tNil))) D (.tup ([nRow, nBunch].map Dt.str)) := x_tup (xa_cons (x_str rfl) (xa_cons (x_str rfl) xa_nil)) (by decide)
theorem x_tagJoin (h : X c te D (dat b s)) : X c (tOp (rIn c.K false) (tOp (rIx c.K) te (tC (.int 0))) (tTup (tCons (tC (.str "row")) (tCons (tC (.str "bunch")) tNil)))) D (.bl (isJoin s)) :=
  tag_join s ▸ x_inT (neg := false) (x_tag h) x_kinds
theorem x_tagNoJoin (h : X c te D (dat b s)) : X c (tOp (rIn c.K true) (tOp (rIx c.K) te (tC (.int 0))) (tTup (tCons (tC (.str "row")) (tCons (tC (.str "bunch")) tNil)))) D (.bl (!isJoin s)) :=
  tag_join s ▸ x_inT (neg := true) (x_tag h) x_kinds
end
end Wb

/-! enumerate(tuple); loops and lists over typed sources. -/
namespace Wb
open PySem PySem.Spec PyProof.Rows L2 SX
theorem enum_newB {v : Value} {o : Obj} {G : Heap → Prop} (B : Begins v o G) : Meets (Builtin.«enumerate.__new__» ⟨[.type "enumerate", v], []⟩) (fun _ R s => G s.heap ∧
      R (.ok (.ret (.ref (s.heap.push o).objs.size))) { s with heap := (s.heap.push o).push { cls := .type "enumerate", data := .fields #[.none, .bool false, .ref s.heap.objs.size, rawInt 0, .none, .none] } }) :=
  .of_wp fun prog w A R s h => by
    obtain ⟨hp, g, d, tk, os⟩ := s
    obtain ⟨h1, h⟩ := h
    have sub := sub_enumerate
    have begin_ : ∀ {A2 : Around} {E Q : Value → Shared → Prop}, Q (.ref hp.objs.size) ⟨hp.push o, g, d, tk, os⟩ → wpAny (model prog w) A2 (pyIter v) Q E ⟨hp, g, d, tk, os⟩ := fun q => B.iter prog w _ _ ⟨hp, g, d, tk, os⟩ _ h1 q
    wp_walk using begin_
    refine wpAny_stack_any fun st => wpAny_pure ?_
    split
    · rename_i c _ _ _ _ _
      cases (c == Value.type "enumerate")
      all_goals (wp_walk using begin_; exact ⟨_, rfl, h⟩)
    · (wp_walk using begin_; exact ⟨_, rfl, h⟩)
section
variable {prog : Program} {w : World} {A : Around} {E : Value → Shared → Prop} {s : Shared}
theorem call_enumB {v : Value} {o : Obj} {G : Heap → Prop} {Q : Value → Shared → Prop} (B : Begins v o G) (h1 : G s.heap)
    (h : ∀ h2, IsEnum h2 (s.heap.objs.size + 1) s.heap.objs.size 0 .none → h2.get? s.heap.objs.size = some o → (∀ b o', s.heap.get? b = some o' → h2.get? b = some o') → Q (.ref (s.heap.objs.size + 1)) { s with heap := h2 }) :
    wpAny (model prog w) A (call (.type "enumerate") [v]) Q E s := by
  refine callType_new F.called_enumerate (by decide) (F.typeCall_enumerate_1 _) (F.newCall_enumerate_1 _) (fun ob => F.args_object_init_2 ob _) F.entry_enumerate_new (enum_newB B) ⟨h1, ?_⟩
  have z : (s.heap.push o).objs.size = s.heap.objs.size + 1 := Heap.size_push ..
  show _ ∧ _
  rw [z]
  have e1 := Heap.get?_push_size (s.heap.push o) (o := { cls := .type "enumerate", data := .fields #[.none, .bool false, .ref s.heap.objs.size, rawInt 0, .none, .none] }) rfl
  rw [z] at e1
  exact ⟨⟨_, e1, rfl⟩, h _ e1 (Heap.get?_push_of_some _ (Heap.get?_push_size _ B.free)) fun b o' x => Heap.get?_push_of_some _ (Heap.get?_push_of_some _ x)⟩
end
/-- the tuple at a, item by item, in new pairs -/
def Itu (K : PySem.W.Frag) (a : Addr) : It where
  go := fun i H => ∃ (xs : List V) (x : V), SqT K H a xs ∧ xs[i]? = some x
  yld := fun i H v H2 => ∃ T x, v = .ref T ∧ H T = none ∧ H2 = upd H T (.tup [.int (i : Nat), x]) ∧ ∀ xs, SqT K H a xs → xs[i]? = some x
  stop := fun i H => ∃ xs : List V, SqT K H a xs ∧ xs.length = i
theorem turn_enumT {P : Program} {w : World} {K : PySem.W.Frag} {elts : List Expr} {kk : Nat} {tpos : Pos} (a e it : Addr) :
    Turn P w K (.Tuple elts kk tpos) (Itu K a) [e, it] e (fun i h => (∃ old, IsEnum h e it ((i : Nat) : Int) old) ∧ h.IsTupleIter it a i ∧ e ≠ it ∧ e ≠ a ∧ a ≠ it) where
  mem := by simp
  obj := fun i h st b hb => by
    obtain ⟨⟨old, he⟩, ⟨o, ho, hc, hd⟩, _⟩ := st
    rcases List.mem_cons.mp hb with z | z
    · rw [z]
      exact ⟨_, he, fun v q => nomatch q⟩
    · rw [List.mem_singleton.mp z]
      exact ⟨o, ho, fun v q => by rw [hd] at q; cases q⟩
  keep := fun i h h' st k => let ⟨⟨old, he⟩, hi, hne⟩ := st; ⟨⟨old, k e (by simp) _ he⟩, hi.at fun o q => k it (by simp) o q, hne⟩
  item := by
    intro X hP hw hK hc i pn s τ H E I hf st hg
    subst hP hw hK
    obtain ⟨⟨old, he⟩, hit, hne, hea, hai⟩ := st
    obtain ⟨xs, x, hq, hx⟩ := hg
    obtain ⟨its, rv, p, hz⟩ := I.tuple hq
    obtain ⟨u, hu, ru⟩ := rv.get hx
    have l1 : e < s.heap.objs.size := Heap.lt_size he
    have l2 : it < s.heap.objs.size := by
      obtain ⟨_, q, _⟩ := hit
      exact Heap.lt_size q
    have hlt : i < its.toArray.size := by
      rw [List.size_toArray]
      exact (List.getElem?_eq_some_iff.mp hu).1
    refine wpAny_pyNext_enum_itemD (Draws.tuple (A := X.A.in1) (I.ok.hd hc) it a hai its.toArray) he ⟨hit, p⟩ hlt hne (by simp [hne, hea]) fun y h2 tk hy ho hs2 hT hsz hk => ?_
    have ey : y = u := by
      have z : its.toArray[i]? = some u := by simpa using hu
      rw [hy] at z
      exact Option.some.inj z
    subst ey
    refine ⟨_, rfl, wpAny_letOwnedTupleGo_enum (s := { s with heap := h2, toks := tk + 1 }) ho fun h3 he3 sb => ?_⟩
    have hT3 : h3.get? s.heap.objs.size = some { cls := .type "tuple", data := .seq #[.int i tk, y] } := (sb.2 _ (Nat.ne_of_gt l1)).trans hT
    have new : ObjOk X.prog X.w (upd H s.heap.objs.size (.tup [.int (i : Nat), x])) h3 s.heap.objs.size (.tup [.int (i : Nat), x]) :=
      ⟨by show 2 ≤ sizeLine; decide, [.int i tk, y], .cons ⟨_, rfl⟩ (.cons ru .nil), ⟨_, hT3, rfl, _, rfl⟩⟩
    have I2 : Inv X pn τ (upd H s.heap.objs.size (.tup [.int (i : Nat), x])) { s with heap := h3, toks := tk + 1 } :=
      I.turnedNew (ch := [e, it]) (fun b ob hb q => (sb.2 b (fun z => hb (by simp [z]))).trans (hk b ob (fun z => hb (by simp [z])) (fun z => hb (by simp [z])) q)) hf (Nat.le_refl _) new
    refine ⟨.ref s.heap.objs.size, _, I2, rfl, ⟨_, x, rfl, I.hok.fresh (Nat.le_refl _), rfl, fun ys hy => by rw [I.tuple_inj hy hq]; exact hx⟩, ⟨⟨y, ?_⟩, hs2.1.at fun o q => (sb.2 it (Ne.symm hne)).trans q, hne, hea, hai⟩, fun b hb => ?_⟩
    · have e1 : ((i + 1 : Nat) : Int) = (i : Int) + 1 := by omega
      rw [e1]
      exact he3
    · have hb' : b < s.heap.objs.size := by
        rcases List.mem_cons.mp hb with z | z
        · rw [z]; exact l1
        · rw [List.mem_singleton.mp z]; exact l2
      rw [upd_ne (Nat.ne_of_lt hb')]
      exact (hf b hb).1
  done := by
    intro X hP hw hK hc i pn s τ H E I hf st hg
    subst hP hw hK
    obtain ⟨⟨old, he⟩, hit, hne, hea, hai⟩ := st
    obtain ⟨xs, hq, hx⟩ := hg
    obtain ⟨its, rv, p, hz⟩ := I.tuple hq
    obtain ⟨f0, f1, f2, f3, f4, f5⟩ := hf it (by simp)
    have hl := rv.length
    have hi : its.toArray.size = i := by
      rw [List.size_toArray, ← hl, hx]
    refine wpAny_pyNext_enum_endD (Draws.tuple (A := X.A.in1) (I.ok.hd hc) it a hai its.toArray) he (by rw [hi]; exact ⟨hit, p⟩) fun h2 eb => ⟨rfl, I.turned (t' := s.toks) (fun b o hb q => eb b o hb q) f0 f1 f3 f4 f5⟩
  self := fun A i s Q E st h => let ⟨⟨_, he⟩, _⟩ := st; wpAny_pyIter_enum he h
/-- enumerate(e), e a tuple -/
def iEnumT (K : PySem.W.Frag) (ta : TA) : TI := fun τ H R => ta τ H fun vs H1 => ∃ a xs, vs = [.ref a] ∧ SqT K H1 a xs ∧ R (Itu K a) H1
theorem pi_enumT {X : Cx} {e : Expr} {ta : TA} {p pos tpos : Pos} {elts : List Expr} {kk : Nat} (hg : Gl X "enumerate") (hm : X.mg "enumerate" = none) (ha : PA X [e] ta) (hs : starEach [e] X.env = [(false, eval e X.env)] := by rfl) :
    PI X (.Tuple elts kk tpos) (.Call (.Name "enumerate" p) [e] [] pos) (iEnumT X.K ta) := by
  refine ⟨fun pn s τ H R I h => ?_⟩
  refine Call_ (ld_blt I hg hm boot_enumerate (PyProof.Rows.callWith_type1 (thn (ha.run pos pn s τ H _ I h) fun us s1 ⟨vs, H1, I1, r1, q1⟩ => ?_) hs rfl))
  obtain ⟨a, xs, rfl, hq, q⟩ := q1
  cases r1 with
  | cons r rr =>
    cases rr
    cases r
    obtain ⟨its, rv, pt, hz⟩ := I1.tuple hq
    have la : a < s1.heap.objs.size := by
      obtain ⟨o, ho, _⟩ := pt
      exact Heap.lt_size ho
    refine call_enumB (begins_tuple a its.toArray) pt fun h2 he hit hk => wpAny_pyIter_enum he ?_
    have I2 : Inv X pn τ H1 { s1 with heap := h2 } := I1.kept (t' := s1.toks) hk
    refine ⟨s1.heap.objs.size + 1, [s1.heap.objs.size + 1, s1.heap.objs.size], _, _, H1, rfl, I2, turn_enumT a (s1.heap.objs.size + 1) s1.heap.objs.size, ⟨⟨.none, he⟩, ⟨_, hit, rfl, rfl⟩, Nat.succ_ne_self _, Nat.ne_of_gt (Nat.lt_succ_of_lt la), Nat.ne_of_lt la⟩, fun b hb => ?_, q⟩
    have hle : s1.heap.objs.size ≤ b := by
      rcases List.mem_cons.mp hb with z | z
      · rw [z]
        exact Nat.le_add_right _ _
      · rw [List.mem_singleton.mp z]
        exact Nat.le_refl _
    exact I1.fpOk hle (I1.hok.fresh hle)
section
variable {c : Cf} {W W2 : WS} {H1 : Hp} {D : List SV} {ds : List Dt} {te : TE} {wi : TI} {g : TG} {tt : TT} {vs : List Nat} {d : Dt}
/-- the pairs (index, item) -/
def prs_ (ds : List Dt) : List Dt := (List.range ds.length).zipWith (fun i d => Dt.tup [.int (i : Nat), d]) ds
theorem prs_len : (prs_ ds).length = ds.length := by simp [prs_]
theorem prs_at {i : Nat} {d : Dt} (h : (prs_ ds)[i]? = some d) : ∃ e, ds[i]? = some e ∧ d = .tup [.int (i : Nat), e] := by
  unfold prs_ at h
  rw [List.getElem?_zipWith] at h
  cases q : ds[i]? with
  | none => rw [q] at h; simp at h
  | some e =>
    have hl := (List.getElem?_eq_some_iff.mp q).1
    rw [q, List.getElem?_range hl] at h
    simp at h
    exact ⟨e, rfl, h.symm⟩
theorem src_enum_of {J : It} {a : Addr} {xs : List V} (r : RA c (hide W H1) xs ds) (there : ∀ (W' : WS) (H2 : Hp), Same (hide W H1) (hide W' H2) → ∀ i, (i < xs.length → J.go i H2) ∧ J.stop xs.length H2)
    (gives : ∀ (W' : WS) (H2 : Hp) (i : Nat) (v : V) (H3 : Hp), Same (hide W H1) (hide W' H2) → J.yld i H2 v H3 → ∃ T x, v = .ref T ∧ H2 T = none ∧ H3 = upd H2 T (.tup [.int (i : Nat), x]) ∧ xs[i]? = some x) : Src c W H1 J (prs_ ds) where
  go := fun W' H2 i h hi => (there W' H2 h i).1 (by rw [r.len, ← prs_len (ds := ds)]; exact hi)
  stop := fun W' H2 h => by
    rw [prs_len, ← r.len]
    exact (there W' H2 h 0).2
  yld := fun W' H2 i v H3 d h l hd y => by
    obtain ⟨e, he, rfl⟩ := prs_at hd
    obtain ⟨T, x, rfl, hT, rfl, hx⟩ := gives W' H2 i v H3 h y
    obtain ⟨d', hd', rv⟩ := r.get' hx
    rw [he] at hd'
    cases hd'
    exact ⟨same_upd hT, .tup (SqT.of (new_at l hT)) (.cons (.int _) (.cons ((rv.mono h).mono (hide_same (same_upd hT))) .nil))⟩
theorem xs_enumT (h : X c te D (.tup ds)) : XS c (iEnumT c.K (tCons te tNil)) D (prs_ ds) := fun W o p st H Q l a k =>
  h W o p st H _ l a fun v H1 e r => by
    cases r with
    | tup e1 r1 =>
      refine ⟨_, _, rfl, same_t hide_sub e1, k _ H1 e (src_enum_of (a := 0) r1 (fun W' H2 hs i => ?_) fun W' H2 i v H3 hs y => ?_)⟩
      · have z := same_t hide_sub (same_t hs e1)
        exact ⟨fun hi => ⟨_, _, z, List.getElem?_eq_getElem hi⟩, _, z, rfl⟩
      · obtain ⟨T, x, h1, h2, h3, h4⟩ := y
        exact ⟨T, x, h1, h2, h3, h4 _ (same_t hide_sub (same_t hs e1))⟩
theorem xs_enumL (h : X c te D (.lst ds)) : XS c (iEnum c.K (tCons te tNil)) D (prs_ ds) := fun W o p st H Q l a k =>
  h W o p st H _ l a fun v H1 e r => by
    cases r with
    | lst e1 r1 =>
      refine ⟨_, _, rfl, SqL.of (hide_sub _ _ e1), k _ H1 e (src_enum_of (a := 0) r1 (fun W' H2 hs i => ?_) fun W' H2 i v H3 hs y => ?_)⟩
      · have z := SqL.of (K := c.K) (hide_sub _ _ (hs _ _ e1))
        exact ⟨fun hi => ⟨_, _, z, List.getElem?_eq_getElem hi⟩, _, z, Nat.le_refl _⟩
      · obtain ⟨T, x, h1, h2, h3, h4⟩ := y
        exact ⟨T, x, h1, h2, h3, h4 _ (SqL.of (hide_sub _ _ (hs _ _ e1)))⟩
/-- a text, sign by sign -/
theorem xs_str {t : List Nat} (h : X c te D (.str t)) : XS c (iStr te) D (t.map fun ch => Dt.str [ch]) := fun W o p st H Q l a k =>
  h W o p st H _ l a fun v H1 e r => by
    cases r
    refine ⟨_, rfl, k _ H1 e ⟨fun W' H2 i hs hi => ?_, fun W' H2 hs => ?_, fun W' H2 i v H3 d hs l hd y => ?_⟩⟩
    · rw [List.length_map] at hi
      show i < (S t).cps.size
      simpa using hi
    · rw [List.length_map]
      show (S t).cps.size ≤ t.length
      simp
    · obtain ⟨e1, ch, e2, e3⟩ := (show H3 = H2 ∧ ∃ ch, (S t).cps[i]? = some ch ∧ v = .str ⟨#[ch]⟩ from y)
      subst e1 e3
      rw [List.getElem?_map] at hd
      have e4 : t[i]? = some ch := by simpa using e2
      rw [e4] at hd
      cases hd
      exact ⟨.refl _, .str [ch]⟩
/-! ### typed -/
variable {α : Type} {zs : List α} {F G2 : α → Dt}
theorem x_fil (b : α → Bool) (hs : XS c wi D (zs.map F)) (hl : zs.length ≤ 99999) (hb : ∀ z ∈ zs, ∃ D2, G c g vs (F z) (unAt D vs) D2 ∧ XT c tt D2 (b z) ∧ (b z = true → X c te D2 (G2 z))) :
    X c (tLc wi g tt te vs) D (.lst ((zs.filter b).map G2)) := X_of_E (e_lc hs.E (fun ds i es s1 => ds = zs.map F ∧ s1 = ⟨none, .no⟩ ∧ es = ((zs.take i).filter b).map G2) (fun ds s1 ⟨e1, e2⟩ => ⟨e1, e2, by simp⟩)
    (fun ds i d es s1 hd ⟨e1, e2, e3⟩ => by
      subst e1 e2
      rw [List.getElem?_map] at hd
      cases q : zs[i]? with
      | none => rw [q] at hd; cases hd
      | some z =>
        rw [q] at hd
        cases hd
        obtain ⟨D2, g1, t1, x1⟩ := hb z (List.mem_of_getElem? q)
        have ht : zs.take (i + 1) = zs.take i ++ [z] := by
          rw [List.take_add_one, q]
          rfl
        refine ⟨D2, b z, g1, t1, fun h => ⟨rfl, rfl, ?_⟩, fun h => ⟨?_, ((x1 h).E).imp fun y s2 ⟨e4, e5⟩ => ⟨rfl, e5, ?_⟩⟩⟩
        · rw [e3, ht, List.filter_append]
          simp [h]
        · rw [e3, List.length_map]
          have := List.length_filter_le b (zs.take i)
          rw [List.length_take] at this
          omega
        · rw [e3, e4, ht, List.filter_append, List.map_append]
          simp [h])
    fun ds es s1 ⟨e1, e2, e3⟩ => by
      subst e1 e2 e3
      rw [List.length_map, List.take_length]
      exact ⟨rfl, rfl⟩)
theorem x_each (hs : XS c wi D (zs.map F)) (hl : zs.length ≤ 99999) (hb : ∀ z ∈ zs, ∃ D2, G c g vs (F z) (unAt D vs) D2 ∧ X c te D2 (G2 z)) : X c (tLc wi g tYes te vs) D (.lst (zs.map G2)) := by
  have h := x_fil (tt := tYes) (fun _ => true) hs hl fun z hz => by
    obtain ⟨D2, g1, x1⟩ := hb z hz
    exact ⟨D2, g1, xt_yes, fun _ => x1⟩
  rwa [List.filter_eq_self.mpr fun _ _ => rfl] at h
/-- a loop over a typed source -/
theorem z_each {tb : TS} {s : Sto} {Pn : List SV → Sto → Prop} {Pr : Dt → Sto → Prop} (hs : XS c wi D (zs.map F)) (I : Nat → List SV → Sto → Prop) (h0 : I 0 D s)
    (hb : ∀ i z D1 s1, zs[i]? = some z → I i D1 s1 → ∃ D2, G c g vs (F z) D1 D2 ∧ Z c tb D2 s1 (I (i + 1)) Pr) (hd : ∀ D1 s1, I zs.length D1 s1 → Pn D1 s1) : Z c (tFor wi g tb) D s Pn Pr :=
  z_for hs.E (fun ds i D1 s1 => ds = zs.map F ∧ I i D1 s1) (fun ds s1 ⟨e1, e2⟩ => ⟨e1, by rw [e2]; exact h0⟩)
    (fun ds i d D1 s1 hd ⟨e1, e2⟩ => by
      subst e1
      rw [List.getElem?_map] at hd
      cases q : zs[i]? with
      | none => rw [q] at hd; cases hd
      | some z =>
        rw [q] at hd
        cases hd
        obtain ⟨D2, g1, z1⟩ := hb i z D1 s1 q e2
        exact ⟨D2, g1, z1.imp (fun D' s' q => ⟨rfl, q⟩) fun _ _ q => q⟩)
    fun ds D1 s1 ⟨e1, e2⟩ => by
      subst e1
      rw [List.length_map] at e2
      exact hd D1 s1 e2
end
end Wb

/-! Rules with the written part named: for a list's own block. -/
namespace Wb
open PySem PySem.Spec PyProof.Rows L2 SX StX
section
variable {X : Cx} {K : PySem.W.Frag}
theorem pg_tupK {es : List Expr} {k : Nat} {t : TGs} {n : Nat} {pos : Pos} (hK : X.K = K) (hc : X.calm = true) (h : PGs X es t) (hn : (assignEach es X.env).length = n := by rfl) (hst : (assignEach es X.env).findIdx? (·.1) = none := by rfl) : PG X (.Tuple es k pos) (gTup K n t) := by
  subst hK
  exact pg_tup hc h hn hst
theorem ix_seqK (hK : X.K = K) : IxR X (rIx K) := by subst hK; exact ix_seq
theorem op_eqDK (hK : X.K = K) (hu : X.A.units + 64 < cLine) : OpR X (compareOp .Eq) (rEqD K) := by subst hK; exact op_eqD hu
theorem op_neDK (hK : X.K = K) (hu : X.A.units + 64 < cLine) : OpR X (compareOp .NotEq) (rNeD K) := by subst hK; exact op_neD hu
theorem op_inDK (hK : X.K = K) (hu : X.A.units + 65 < cLine) : OpR X (compareOp .In) (rInD K) := by subst hK; exact op_inD hu
theorem op_inK (hK : X.K = K) : OpR X (compareOp .In) (rIn K false) := by subst hK; exact op_in_seq
theorem op_notInK (hK : X.K = K) : OpR X (compareOp .NotIn) (rIn K true) := by subst hK; exact op_notIn_seq
theorem call_lenK (hK : X.K = K) : CallR X (.builtin "len") (fun xs H Q => ∃ x n, xs = [x] ∧ LenV K x H n ∧ Q (.int n) H) := by subst hK; exact call_len
theorem call_tupK (hK : X.K = K) : CallR X (.type "tuple") (fun xs H Q => ∃ p ys, xs = [.ref p] ∧ ((SqL K H p ys ∧ ∀ l, H l = none → Q (.ref l) (upd H l (.tup ys))) ∨ (SqT K H p ys ∧ Q (.ref p) H))) := by subst hK; exact call_tuple_of
theorem call_lstK (hK : X.K = K) : CallR X (.type "list") (fun xs H Q => ∃ p ys, xs = [.ref p] ∧ (SqL K H p ys ∨ SqT K H p ys) ∧ ∀ l, H l = none → Q (.ref l) (upd H l (.lst ys))) := by subst hK; exact call_list_of
theorem cr_sumK (hK : X.K = K) (hc : X.calm = true) : CallR X (.builtin "sum") (rSum K) := by subst hK; exact cr_sum hc
theorem cr_allK (hK : X.K = K) (hc : X.calm = true) : CallR X (.builtin "all") (rAll K) := by subst hK; exact cr_all hc
theorem cr_sortedK (hK : X.K = K) : CallR X (.builtin "sorted") (rSortedS K) := by subst hK; exact cr_sortedS
theorem call_isiK2 (hK : X.K = K) : CallR X (.builtin "isinstance") (rIsi K) := by subst hK; exact call_isi
theorem call_isiTK (hK : X.K = K) : CallR X (.builtin "isinstance") (rIsiT K) := by subst hK; exact call_isiT
theorem mt_extUK (hK : X.K = K) : MtM X "list.extend" (rExtU K) := by subst hK; exact mt_extU
theorem pe_bmK {o e : Expr} {es : List Expr} {to : TE} {t : TA} {name : Str} {apos cpos : Pos} {T id : String} {r : V → List V → Hp → VK → Prop} (hK : X.K = K) (pa : PlainAttrs T) (slot : Slot T name id) (hty : typeOf (.builtin id) = pure (.type "method_descriptor")) (hm : MtR X id r) (ho : PE X o to) (ha : PA X (e :: es) t)
    (hb : attributeBase o name X.env (eval o X.env) = eval o X.env := by rfl)
    (hf : ((backTo cpos (starEach (e :: es) X.env)).all (fun x => !x.1) && (backToKw cpos (keywordEach [] X.env)).all (fun x => x.1.isSome)
      && decide ((e :: es).length + ([] : List Keyword).length + (if ([] : List Keyword).isEmpty then 0 else 1) < 30)) = true := by rfl)
    (hl : (apos.endLine == cpos.line) = true := by rfl) (hs : starEach (e :: es) X.env = (false, eval e X.env) :: starEach es X.env := by rfl) (hp : (backTo cpos (starEach es X.env)).any (·.1) = false := by rfl) :
    PE X (.Call (.Attribute o name apos) (e :: es) [] cpos) (tBM K T r to t) := by
  subst hK
  exact pe_bm pa slot hty hm ho ha hb hf hl hs hp
theorem pe_fldK {e : Expr} {f : Str} {ta : TE} {pos : Pos} (hK : X.K = K) (he : PE X e ta) (hb : attributeBase e f X.env (eval e X.env) = eval e X.env := by rfl) : PE X (.Attribute e f pos) (tFld K ta f) := by
  subst hK
  exact pe_fld he hb
theorem pi_listK {tg l : Expr} {tl : TE} (hK : X.K = K) (hl : PE X l tl) : PI X tg l (iList K tl) := by subst hK; exact pi_list hl
theorem pi_tupK {tg l : Expr} {tl : TE} (hK : X.K = K) (hl : PE X l tl) : PI X tg l (iTup K tl) := by subst hK; exact pi_tup hl
theorem pa_starK {e : Expr} {es : List Expr} {te : TE} {t : TA} {p : Pos} (hK : X.K = K) (he : PE X e te) (hr : PA X es t) (hs : starEach (.Starred e p :: es) X.env = (true, eval e X.env) :: starEach es X.env := by rfl) : PA X (.Starred e p :: es) (tStar K te t) := by
  subst hK
  exact pa_star he hr hs
end
section
variable {c : Cf} {D D2 : List SV} {s : Sto} {te : TE} {g : TG} {vs : List Nat} {d : Dt} {ds es : List Dt} {j : Nat} {t t2 : TS} {Pm Pn : List SV → Sto → Prop} {Pr : Dt → Sto → Prop}
theorem z_then (h : Z c t D s Pm (fun _ _ => False)) (k : ∀ D1 s1, Pm D1 s1 → Z c t2 D1 s1 Pn Pr) : Z c (tSeq t t2) D s Pn Pr := z_seq (h.imp (fun _ _ q => q) fun _ _ q => q.elim) k
theorem z_asgx (h : X c te D d) (hg : G c g vs d D D2) (k : Z c t2 D2 s Pn Pr) : Z c (tSeq (tAsg te g) t2) D s Pn Pr :=
  z_then (z_asg (vs := vs) (Q := fun D' s' => D' = D2 ∧ s' = s) h.E fun d' s1 ⟨e1, e2⟩ => by subst e1; exact ⟨_, hg, rfl, e2⟩) fun D1 s1 ⟨e1, e2⟩ => by subst e1 e2; exact k
theorem z_newx (hc : s.c = none) (k : Z c t2 (D.set j .own) ⟨some [], s.m⟩ Pn Pr) (hn : noOwn D = true := by rfl) : Z c (tSeq (tAsg (tLst tNil) (gName j)) t2) D s Pn Pr :=
  z_then (z_new hc hn) fun D1 s1 ⟨e1, e2⟩ => by subst e1 e2; exact k
theorem z_ext1 (hj : D[j]? = some .own) (hc : s.c = some ds) (hl : ds.length + es.length ≤ 99999) (h : X c te D d) (hd : d = .lst es ∨ d = .tup es) (q : Pn D ⟨some (ds ++ es), s.m⟩) : Z c (tDrop (tBM c.K "list" (rExtU c.K) (tVar j) (tCons te tNil))) D s Pn Pr :=
  (z_extend hj hc hl h hd).imp (fun D' s' ⟨e1, e2⟩ => by subst e1 e2; exact q) fun _ _ q => q.elim
theorem z_app1 (hj : D[j]? = some .own) (hc : s.c = some ds) (hl : ds.length ≤ 99999) (h : X c te D d) (q : Pn D ⟨some (ds ++ [d]), s.m⟩) : Z c (tDrop (tBM c.K "list" rAppend (tVar j) (tCons te tNil))) D s Pn Pr :=
  (z_append hj (by rw [hc]; simp) h.E fun d' s1 ⟨e1, e2⟩ => ⟨ds, by rw [e2]; exact hc, hl⟩).imp (fun D' s' ⟨e0, d', s2, fs, ⟨e1, e2⟩, e3, e4⟩ => by
    subst e0 e1 e2 e4
    rw [hc] at e3
    cases e3
    exact q) fun _ _ q => q.elim
theorem z_set1 {i : Nat} (h : X c te D d) (q : Pn (D.set i (.d d)) s) : Z c (tAsg te (gName i)) D s Pn Pr :=
  (z_set h.E).imp (fun D' s' ⟨d', ⟨e1, e2⟩, e3⟩ => by subst e1 e2 e3; exact q) fun _ _ q => q.elim
theorem z_asg1 (h : X c te D d) (hg : G c g vs d D D2) (q : Pn D2 s) : Z c (tAsg te g) D s Pn Pr :=
  (z_asg (vs := vs) (Q := fun D' s' => D' = D2 ∧ s' = s) h.E fun d' s1 ⟨e1, e2⟩ => by subst e1; exact ⟨_, hg, rfl, e2⟩).imp (fun D' s' ⟨e1, e2⟩ => by subst e1 e2; exact q) fun _ _ q => q.elim
theorem z_drop1 (h : X c te D d) (q : Pn D s) : Z c (tDrop te) D s Pn Pr :=
  (z_drop h.E).imp (fun D' s' ⟨e1, d', e2, e3⟩ => by subst e1 e3; exact q) fun _ _ q => q.elim
end
end Wb

/-! The program's defs, first part: names, joints, links. -/
namespace Wb
open PySem PySem.Spec PyProof.Rows L2 SX
abbrev s_is_whole : Stmt := top 27
abbrev N_is_whole : List Str := ["thing"]
theorem sc_is_whole : FnScope N_is_whole ["thing"] (defScope s_is_whole) := ⟨rfl, rfl, rfl, by decide +kernel, rfl, by decide +kernel, by decide +kernel⟩

abbrev s_is_name : Stmt := top 28
abbrev N_is_name : List Str := ["thing", "sign"]
theorem sc_is_name : FnScope N_is_name ["thing"] (defScope s_is_name) := ⟨rfl, rfl, rfl, by decide +kernel, rfl, by decide +kernel, by decide +kernel⟩

abbrev s_is_joint : Stmt := top 29
abbrev N_is_joint : List Str := ["thing"]
theorem sc_is_joint : FnScope N_is_joint ["thing"] (defScope s_is_joint) := ⟨rfl, rfl, rfl, by decide +kernel, rfl, by decide +kernel, by decide +kernel⟩

abbrev s_is_link : Stmt := top 30
abbrev N_is_link : List Str := ["thing"]
theorem sc_is_link : FnScope N_is_link ["thing"] (defScope s_is_link) := ⟨rfl, rfl, rfl, by decide +kernel, rfl, by decide +kernel, by decide +kernel⟩

section
variable {c : Cf} {P : Program} {w : World} {mg : Str → Option Value} {base : Heap}
def letters : List Nat := [97, 98, 99, 100, 101, 102, 103, 104, 105, 106, 107, 108, 109, 110, 111, 112, 113, 114, 115, 116, 117, 118, 119, 120, 121, 122]
theorem letters_in {ch : Nat} (h : 97 ≤ ch ∧ ch ≤ 122) : ch ∈ letters := by
  have : ∀ n, n < 123 → 97 ≤ n → n ∈ letters := by decide +kernel
  exact this ch (by omega) h.1
theorem tyx_tup {K : PySem.W.Frag} {H : Hp} {a : Addr} {xs : List V} (h : SqT K H a xs) : TyX K H (.ref a) (.type "tuple") := by
  rcases h with (h | ⟨o, h⟩) | ⟨o, its, n, h1, h2, _⟩
  · exact .base (.tup h)
  · exact .fTuple h
  · exact .kTuple h1 h2
theorem x_isiI {ta : TE} {D : List SV} {i : Int} {n : String} {b : Bool} (ha : X c ta D (.int i)) (h : PySem.W.kitOne c.K (.type "int") (.type n) = some b) : X c (tCB (rIsi c.K) (tCons ta (tCons (tC (.ty n)) tNil))) D (.bl b) := fun W o p st H Q l a k =>
  ha W o p st H _ l a fun v H1 e1 r => by
    cases r
    exact ⟨_, .ty n, _, .type n, b, rfl, .ty n, .base (.int i), h, k _ H1 e1 (.bl b)⟩
theorem x_isiS {ta : TE} {D : List SV} {s : List Nat} {n : String} {b : Bool} (ha : X c ta D (.str s)) (h : PySem.W.kitOne c.K (.type "str") (.type n) = some b) : X c (tCB (rIsi c.K) (tCons ta (tCons (tC (.ty n)) tNil))) D (.bl b) := fun W o p st H Q l a k =>
  ha W o p st H _ l a fun v H1 e1 r => by
    cases r
    exact ⟨_, .ty n, _, .type n, b, rfl, .ty n, .base (.str (S s)), h, k _ H1 e1 (.bl b)⟩
theorem x_isiT {ta : TE} {D : List SV} {ds : List Dt} {n : String} {b : Bool} (ha : X c ta D (.tup ds)) (h : PySem.W.kitOne c.K (.type "tuple") (.type n) = some b) : X c (tCB (rIsi c.K) (tCons ta (tCons (tC (.ty n)) tNil))) D (.bl b) := fun W o p st H Q l a k =>
  ha W o p st H _ l a fun v H1 e1 r => by
    cases r with
    | tup e r => exact ⟨_, .ty n, _, .type n, b, rfl, .ty n, tyx_tup (same_t hide_sub e), h, k _ H1 e1 (.bl b)⟩
theorem x_tO {D : List SV} (T : Tx c w mg) : X c (tC (.ref c.aO)) D (dat true .opn) := x_c fun H => .tup (T.t_O H) (.cons (.str nOpen) .nil)
theorem x_tS {D : List SV} (T : Tx c w mg) : X c (tC (.ref c.aS)) D (dat true .sht) := x_c fun H => .tup (T.t_S H) (.cons (.str nShut) .nil)
theorem x_tB {D : List SV} (T : Tx c w mg) : X c (tC (.ref c.aB)) D (.tup ([nOpen, nShut, nNet].map Dt.str)) := x_c fun H => .tup (T.t_B H) (.cons (.str nOpen) (.cons (.str nShut) (.cons (.str nNet) .nil)))
theorem x_chain {r1 r2 : R2} {ta tb tc : TE} {D : List SV} {i j k : Int} {C1 C2 : Int → Int → Bool} (e1 : r1 = rI0 fun i j => .bl (C1 i j)) (e2 : r2 = rI0 fun i j => .bl (C2 i j)) (ha : X c ta D (.int i)) (hb : X c tb D (.int j)) (hc : X c tc D (.int k)) (h1 : C1 i j = true) : X c (tChain r1 r2 ta tb tc) D (.bl (C2 j k)) := fun W o p st H Q l a kk =>
  ha W o p st H _ l a fun x H1 s1 rx => hb W o p st H1 _ (l.same s1) (a.mono (hide_same s1)) fun y H2 s2 ry => by
    subst e1 e2
    cases rx
    cases ry
    refine ⟨i, j, rfl, rfl, C1 i j, rfl, ?_⟩
    rw [h1]
    refine iteT (hc W o p st H2 _ ((l.same s1).same s2) ((a.mono (hide_same s1)).mono (hide_same s2)) fun z H3 s3 rz => ?_)
    cases rz
    exact ⟨j, k, rfl, rfl, kk _ H3 ((s1.trans s2).trans s3) (.bl _)⟩
/-! ### is_whole, is_joint, is_name, is_link -/
theorem c_is_whole (T : Tx c w mg) : Cal P w c.K mg base 1 "is_whole" (spP c 1 fun ds d => ∃ i, ds = [.int i] ∧ d = .bl true) := by
  refine mk_cal T 9 sc_is_whole (fun _ _ _ _ _ _ us hl => match us, hl with | [_], _ => rfl) spP_len fun f cdv A outer s H vs Q E hr h => ⟨_, PSs.nox (pss_one (ps_ret (pe_and (pe_callB (call_isiK2 (K := c.K) rfl) (by rfl) T.b_isinstance boot_isinstance (pa_cons (pv 0) (pa_cons (pe_bltn (v := .ty "int") (by rfl) T.b_int boot_int rfl) pa_nil))) (pe_one (pe_not (pe_callB (call_isiK2 (K := c.K) rfl) (by rfl) T.b_isinstance boot_isinstance (pa_cons (pv 0) (pa_cons (pe_bltn (v := .ty "bool") (by rfl) T.b_bool boot_bool rfl) pa_nil)))))))), body_p h fun ds d hn hR => ?_⟩
  obtain ⟨i, rfl, rfl⟩ := hR
  exact z_retx (x_andV (x_isiI (x_var rfl) rfl) fun _ => x_notV (x_isiI (b := false) (x_var rfl) rfl)) rfl
theorem c_is_joint (T : Tx c w mg) : Cal P w c.K mg base 2 "is_joint" (spP c 1 fun ds d => ∃ i : Nat, i < 100 ∧ ds = [.int (i : Int)] ∧ d = .bl true) := by
  have c_is_whole := c_is_whole (P := P) (base := base) T
  refine mk_cal T 11 sc_is_joint (fun _ _ _ _ _ _ us hl => match us, hl with | [_], _ => rfl) spP_len fun f cdv A outer s H vs Q E hr h => ⟨_, PSs.nox (pss_one (ps_ret (pe_and (pe_c c_is_whole hr (by decide) (by rfl) (pa_cons (pv 0) pa_nil)) (pe_one (pe_chain op_le op_le pe_int (pv 0) (C8.pe_gc (by rfl) T.g_LAST_JOINT)))))), body_p h fun ds d hn hR => ?_⟩
  obtain ⟨i, hi, rfl, rfl⟩ := hR
  refine z_retx (x_andV (b2 := true) (x_call (xa_cons (x_var rfl) xa_nil) ⟨_, rfl, rfl⟩) fun _ => ?_) rfl
  have z := x_chain (c := c) (C1 := fun i j => decide (i ≤ j)) (C2 := fun i j => decide (i ≤ j)) rfl rfl (x_int (i := 0)) (x_var (D := [SV.d (.int (i : Int))]) (i := 0) rfl) (x_int (i := 99)) (by simp)
  rwa [show decide ((i : Int) ≤ 99) = true by simp; omega] at z
theorem x_andT {ta tb : TE} {D : List SV} (h : X c ta D (.bl true)) (h2 : X c tb D (.bl true)) : X c (tAndV ta tb) D (.bl true) := x_andV (b := true) (b2 := true) h fun _ => h2
theorem x_allB {ta : TE} {D : List SV} {bs : List Bool} {b : Bool} (ha : X c ta D (.lst (bs.map Dt.bl))) (e : bs.all id = b) : X c (tCB (rAll c.K) (tCons ta tNil)) D (.bl b) := e ▸ x_all ha
theorem S_tl2 (l : List Nat) : (S l).cps.toList = l := by simp
theorem c_is_name (T : Tx c w mg) : Cal P w c.K mg base 1 "is_name" (spP c 1 fun ds d => ∃ n, NameOk n ∧ ds = [.str n] ∧ d = .bl true) := by
  refine mk_cal T 10 sc_is_name (fun _ _ _ _ _ _ us hl => match us, hl with | [_], _ => rfl) spP_len fun f cdv A outer s H vs Q E hr h => ⟨_, PSs.nox (pss_cons (ps_if (PW.pt (pw_or (pt_not (pt_val (pe_callB (call_isiK2 (K := c.K) rfl) (by rfl) T.b_isinstance boot_isinstance (pa_cons (pv 0) (pa_cons (pe_bltn (v := .ty "str") (by rfl) T.b_str boot_str rfl) pa_nil))))) (pw_or (pt_not (pt_chain op_le op_le pe_int (pe_callB (call_lenK (K := c.K) rfl) (by rfl) T.b_len boot_len (pa_cons (pv 0) pa_nil)) (C8.pe_gc (by rfl) T.g_MOST_LETTERS))) (pw_or1 (pt_cmpR (op_inK (K := c.K) rfl) (pv 0) (C8.pe_gc (by rfl) T.g_BARRED) rfl)))))
        (pss_one (ps_ret pe_bl))
        pss_nil) 
      (pss_one (ps_ret (pe_callB (cr_allK (K := c.K) rfl rfl) (by rfl) T.b_all boot_all (pa_cons (pe_lc (own := [("sign", 1)]) rfl sc_is_name.nd (pi_str (pv 0)) (blkOk_by (own := [("sign", 1)]) (N := N_is_name) (sc := defScope s_is_name) (by decide +kernel)) (fun _ _ _ _ _ => (pg_name (i := 1) sc_is_name.nd rfl (by first | exact Or.inl rfl | exact Or.inr rfl))) (fun _ _ _ _ _ => pts_nil) (fun _ _ _ _ _ => (pe_cmpR op_in_sign (pv 1) (C8.pe_gc (by rfl) T.g_LETTERS) rfl))) pa_nil))))), body_p h fun ds d hn hR => ?_⟩
  obtain ⟨n, ok, rfl, rfl⟩ := hR
  have l1 := ok.pos
  have l2 := ok.le
  refine z_ifr (b := false) ?_ (fun e => nomatch e) fun _ => ?_
  · have t1 := xt_not (xt_B (x_isiS (c := c) (n := "str") (b := true) (x_var (D := [SV.d (.str n), SV.un]) (i := 0) rfl) rfl))
    refine xt_or t1 fun _ => xt_or (b := false) (b2 := false) (xt_not (b := true) (xt_test ?_)) fun _ => ?_
    · have z := x_chain (c := c) (C1 := fun i j => decide (i ≤ j)) (C2 := fun i j => decide (i ≤ j)) rfl rfl (x_int (i := 1)) (x_lenS (x_var (D := [SV.d (.str n), SV.un]) (i := 0) rfl) (by omega)) (x_int (i := 8)) (by simp; omega)
      rwa [show decide (((n.length : Nat) : Int) ≤ 8) = true by simp; omega] at z
    · refine xt_test ?_
      have z := x_inT (c := c) (neg := false) (x_var (D := [SV.d (.str n), SV.un]) (i := 0) rfl) (x_tB T)
      have e : [nOpen, nShut, nNet].contains n = false := by simp [ok.o, ok.s, ok.n]
      rwa [e] at z
  · refine z_retx ?_ rfl
    refine x_allB (bs := n.map fun ch => decide (ch ∈ letters)) ?_ (by
      rw [List.all_map]
      exact List.all_eq_true.mpr fun ch hc => by simp [letters_in (ok.let_ ch hc)])
    rw [List.map_map]
    refine x_each (G2 := fun ch => Dt.bl (decide (ch ∈ letters))) (xs_str (x_var rfl)) (by omega) fun ch hc => ⟨_, g_name (by simp), ?_⟩
    exact x_inS (x_var rfl) (x_str rfl)
theorem c_is_link (T : Tx c w mg) : Cal P w c.K mg base 3 "is_link" (spP c 1 fun ds d => ∃ l, LkOk l ∧ ds = [lkD l] ∧ d = .bl true) := by
  have c_is_name := c_is_name (P := P) (base := base) T
  have c_is_joint := c_is_joint (P := P) (base := base) T
  refine mk_cal T 12 sc_is_link (fun _ _ _ _ _ _ us hl => match us, hl with | [_], _ => rfl) spP_len fun f cdv A outer s H vs Q E hr h => ⟨_, PSs.nox (pss_cons (ps_if (PW.pt (pw_or (pt_not (pt_val (pe_callB (call_isiK2 (K := c.K) rfl) (by rfl) T.b_isinstance boot_isinstance (pa_cons (pv 0) (pa_cons (pe_bltn (v := .ty "tuple") (by rfl) T.b_tuple boot_tuple rfl) pa_nil))))) (pw_or1 (pt_cmpR (op_neDK (K := c.K) rfl hr.units) (pe_callB (call_lenK (K := c.K) rfl) (by rfl) T.b_len boot_len (pa_cons (pv 0) pa_nil)) pe_int (nomark _)))))
        (pss_one (ps_ret pe_bl))
        pss_nil) 
      (pss_one (ps_ret (pe_and (pe_c c_is_name hr (by decide) (by rfl) (pa_cons (pe_ix (ix_seqK (K := c.K) rfl) (pv 0) pe_int (fun _ _ => rfl)) pa_nil)) (pe_and (pe_c c_is_joint hr (by decide) (by rfl) (pa_cons (pe_ix (ix_seqK (K := c.K) rfl) (pv 0) pe_int (fun _ _ => rfl)) pa_nil)) (pe_one (pe_c c_is_joint hr (by decide) (by rfl) (pa_cons (pe_ix (ix_seqK (K := c.K) rfl) (pv 0) pe_int (fun _ _ => rfl)) pa_nil)))))))), body_p h fun ds d hn hR => ?_⟩
  obtain ⟨⟨n, u, v⟩, ok, rfl, rfl⟩ := hR
  have sv : X c (tVar 0) [SV.d (lkD (n, u, v))] (.tup [.str n, .int (u : Int), .int (v : Int)]) := x_var rfl
  have i0 := x_ixT (n := 0) sv (x_int (i := 0)) rfl rfl
  have i1 := x_ixT (n := 1) sv (x_int (i := 1)) rfl rfl
  have i2 := x_ixT (n := 2) sv (x_int (i := 2)) rfl rfl
  refine z_ifr (b := false) ?_ (fun e => nomatch e) fun _ => ?_
  · refine xt_or (b := false) (b2 := false) (xt_not (b := true) (xt_B (x_isiT (n := "tuple") sv rfl))) fun _ => ?_
    have z := x_ne (x_lenT sv) (x_int (i := 3)) cm_int cm_int
    have e : (!deq (.int (([Dt.str n, .int (u : Int), .int (v : Int)].length : Nat) : Int)) (.int 3)) = false := by simp [deq]
    rw [e] at z
    exact xt_test z
  · exact z_retx (x_andT (x_call (xa_cons i0 xa_nil) ⟨n, ok.nm, rfl, rfl⟩) (x_andT (x_call (xa_cons i1 xa_nil) ⟨u, ok.u, rfl, rfl⟩) (x_call (xa_cons i2 xa_nil) ⟨v, ok.v, rfl, rfl⟩))) rfl
end
end Wb

/-! The program's defs, second part: links in order, nets, rows and bunches. -/
namespace Wb
open PySem PySem.Spec PyProof.Rows L2 SX
abbrev s_ordered : Stmt := top 13
abbrev N_ordered : List Str := ["links", "turned", "rows", "name", "u", "v", "row"]
theorem sc_ordered : FnScope N_ordered ["links"] (defScope s_ordered) := ⟨rfl, rfl, rfl, by decide +kernel, rfl, by decide +kernel, by decide +kernel⟩

abbrev s_net_shape : Stmt := top 14
abbrev N_net_shape : List Str := ["links"]
theorem sc_net_shape : FnScope N_net_shape ["links"] (defScope s_net_shape) := ⟨rfl, rfl, rfl, by decide +kernel, rfl, by decide +kernel, by decide +kernel⟩

abbrev s_joined_shape : Stmt := top 15
abbrev N_joined_shape : List Str := ["kind", "shapes", "idle", "ruling", "flat", "shape", "kept"]
theorem sc_joined_shape : FnScope N_joined_shape ["kind", "shapes"] (defScope s_joined_shape) := ⟨rfl, rfl, rfl, by decide +kernel, rfl, by decide +kernel, by decide +kernel⟩

theorem Room.u65 {k : Nat} {A : Around} (r : Room k A) : A.units + 65 < cLine := by have := r.un; omega
section
variable {c : Cf} {P : Program} {w : World} {mg : Str → Option Value} {base : Heap}
theorem p02_S {n : Nat} : p02 (n : Int) = S (d2 n) := by
  unfold p02 d2
  by_cases h : n < 10
  · rw [if_pos (decide_eq_true (by omega)), if_pos h, num_str]
    rw [show (48 :: TL.numL n) = [48] ++ TL.numL n from rfl, ← S_cat]
  · rw [if_neg (by rw [decide_eq_true_eq]; omega), if_neg h, num_str]
theorem x_fmt2 {ta : TE} {D : List SV} {n : Nat} (ha : X c ta D (.int (n : Int))) (hn : n < 100) : X c (tFmt2 ta) D (.str (d2 n)) := fun W o p st H Q l a k =>
  ha W o p st H _ l a fun v H1 e1 r => by
    cases r
    exact ⟨_, rfl, by omega, by omega, k _ H1 e1 (by rw [p02_S]; exact .str _)⟩
theorem key_len {l : Lk} (h : LkOk l) : (key l).length ≤ 14 := by
  have h1 := h.nm.le
  have h2 := d2_len _ h.u
  have h3 := d2_len _ h.v
  simp [key, TL.joinL]
  omega
theorem x_lk {D : List SV} {i j k : Nat} {l : Lk} (h1 : D[i]? = some (.d (.str l.1))) (h2 : D[j]? = some (.d (.int (l.2.1 : Int)))) (h3 : D[k]? = some (.d (.int (l.2.2 : Int)))) : X c (tTup (tCons (tVar i) (tCons (tVar j) (tCons (tVar k) tNil)))) D (lkD l) :=
  x_tup (xa_cons (x_var h1) (xa_cons (x_var h2) (xa_cons (x_var h3) xa_nil))) (by simp)
/-- for name, u, v in .. -/
theorem g_lk {vs : List Nat} {i j k : Nat} {D : List SV} (l : Lk) (h1 : i ∈ vs) (h2 : j ∈ vs) (h3 : k ∈ vs) : G c (gTup c.K 3 (gCons (gName i) (gCons (gName j) (gCons (gName k) gNil)))) vs (lkD l) D (((D.set i (.d (.str l.1))).set j (.d (.int (l.2.1 : Int)))).set k (.d (.int (l.2.2 : Int)))) := g_tup3 h1 h2 h3
theorem c_ordered (T : Tx c w mg) : Cal P w c.K mg base 1 "ordered" (spP c 1 fun ds d => ∃ ls : List Lk, ls.length ≤ 60 ∧ (∀ l ∈ ls, LkOk l) ∧ ds = [.lst (ls.map lkD)] ∧ d = .tup ((ordered ls).map lkD)) := by
  refine mk_cal T 0 sc_ordered (fun _ _ _ _ _ _ us hl => match us, hl with | [_], _ => rfl) spP_len fun f cdv A outer s H vs Q E hr h => ⟨_, PSs.nox (pss_cons (ps_setLc (i := 1) (own := [("name", 3), ("u", 4), ("v", 5)]) rfl sc_ordered.nd rfl rfl (sw_true rfl rfl rfl (by decide +kernel)) (pi_listK (K := c.K) rfl (pv 0)) (blkOk_by (own := [("name", 3), ("u", 4), ("v", 5)]) (N := N_ordered) (sc := defScope s_ordered) (by decide +kernel)) (fun _ _ _ _ _ => (pg_tupK (n := 3) (K := c.K) rfl rfl (pgs_cons (pg_name (i := 3) sc_ordered.nd rfl (by first | exact Or.inl rfl | exact Or.inr rfl)) (pgs_cons (pg_name (i := 4) sc_ordered.nd rfl (by first | exact Or.inl rfl | exact Or.inr rfl)) (pgs_cons (pg_name (i := 5) sc_ordered.nd rfl (by first | exact Or.inl rfl | exact Or.inr rfl)) pgs_nil))))) (fun _ _ _ _ _ => pts_nil) (fun _ _ _ _ _ => (pe_ifExp (pt_cmpR op_le (pv 4) (pv 5) (nomark _)) (pe_tup (pa_cons (pv 3) (pa_cons (pv 4) (pa_cons (pv 5) pa_nil)))) (pe_tup (pa_cons (pv 3) (pa_cons (pv 5) (pa_cons (pv 4) pa_nil))))))) 
      (pss_cons (ps_setLc (i := 2) (own := [("row", 6)]) rfl sc_ordered.nd rfl rfl (sw_true rfl rfl rfl (by decide +kernel)) (pi_listK (K := c.K) rfl (pe_callB (cr_sortedK (K := c.K) rfl) (by rfl) T.b_sorted boot_sorted (pa_cons (pe_lc (own := [("name", 3), ("u", 4), ("v", 5)]) rfl sc_ordered.nd (pi_listK (K := c.K) rfl (pv 1)) (blkOk_by (own := [("name", 3), ("u", 4), ("v", 5)]) (N := N_ordered) (sc := defScope s_ordered) (by decide +kernel)) (fun _ _ _ _ _ => (pg_tupK (n := 3) (K := c.K) rfl rfl (pgs_cons (pg_name (i := 3) sc_ordered.nd rfl (by first | exact Or.inl rfl | exact Or.inr rfl)) (pgs_cons (pg_name (i := 4) sc_ordered.nd rfl (by first | exact Or.inl rfl | exact Or.inr rfl)) (pgs_cons (pg_name (i := 5) sc_ordered.nd rfl (by first | exact Or.inl rfl | exact Or.inr rfl)) pgs_nil))))) (fun _ _ _ _ _ => pts_nil) (fun _ _ _ _ _ => (pe_joined (PJ.cons (pe_fmt (pv 3)) (PJ.cons pe_str (PJ.cons (pe_fmt2 T.dg (pe_joined1 pe_str) (pv 4)) (PJ.cons pe_str (PJ.cons (pe_fmt2 T.dg (pe_joined1 pe_str) (pv 5)) PJ.nil)))))))) pa_nil))) (blkOk_by (own := [("row", 6)]) (N := N_ordered) (sc := defScope s_ordered) (by decide +kernel)) (fun _ _ _ _ _ => (pg_name (i := 6) sc_ordered.nd rfl (by first | exact Or.inl rfl | exact Or.inr rfl))) (fun _ _ _ _ _ => pts_nil) (fun _ _ _ _ _ => (pe_split (pv 6) pe_str))) 
      (pss_one (ps_ret (pe_callTy (call_tupK (K := c.K) rfl) (by rfl) T.b_tuple boot_tuple (pa_cons (pe_lc (own := [("row", 6)]) rfl sc_ordered.nd (pi_listK (K := c.K) rfl (pv 2)) (blkOk_by (own := [("row", 6)]) (N := N_ordered) (sc := defScope s_ordered) (by decide +kernel)) (fun _ _ _ _ _ => (pg_name (i := 6) sc_ordered.nd rfl (by first | exact Or.inl rfl | exact Or.inr rfl))) (fun _ _ _ _ _ => pts_nil) (fun _ _ _ _ _ => (pe_tup (pa_cons (pe_ix (ix_seqK (K := c.K) rfl) (pv 6) pe_int (fun _ _ => rfl)) (pa_cons (pe_callTy call_intU (by rfl) T.b_int boot_int (pa_cons (pe_ix (ix_seqK (K := c.K) rfl) (pv 6) pe_int (fun _ _ => rfl)) pa_nil)) (pa_cons (pe_callTy call_intU (by rfl) T.b_int boot_int (pa_cons (pe_ix (ix_seqK (K := c.K) rfl) (pv 6) pe_int (fun _ _ => rfl)) pa_nil)) pa_nil)))))) pa_nil)))))), body_p h fun ds d hn hR => ?_⟩
  obtain ⟨ls, hlen, ok, rfl, rfl⟩ := hR
  refine z_setx (d := .lst (ls.map fun l => lkD (turn l))) (x_each (F := lkD) (G2 := fun l => lkD (turn l)) (xs_list (x_var rfl)) (by omega) fun l hl => ⟨_, g_lk l (by simp) (by simp) (by simp), ?_⟩) ?_
  · refine x_if (b := decide ((l.2.1 : Int) ≤ l.2.2)) (xt_test (x_le (x_var rfl) (x_var rfl))) (fun e => ?_) fun e => ?_
    · have e2 : turn l = l := if_pos (by simpa using e)
      rw [e2]
      exact x_lk rfl rfl rfl
    · have e2 : turn l = (l.1, l.2.2, l.2.1) := if_neg (by simpa using e)
      rw [e2]
      exact x_lk (l := (l.1, l.2.2, l.2.1)) rfl rfl rfl
  have oko := ordered_ok ok
  have leno := ordered_len ls
  refine z_setx (d := .lst ((ordered ls).map fun l => Dt.lst ([l.1, d2 l.2.1, d2 l.2.2].map Dt.str))) ?_ ?_
  · refine x_each (zs := ordered ls) (F := fun l => Dt.str (key l)) (G2 := fun l => Dt.lst ([l.1, d2 l.2.1, d2 l.2.2].map Dt.str)) (xs_list ?_) (by omega) fun l hl => ⟨_, g_name (by simp), ?_⟩
    · rw [show ((ordered ls).map fun l => Dt.str (key l)) = ((ordered ls).map key).map Dt.str by rw [List.map_map]; rfl]
      refine x_sorted (ls := (ls.map turn).map key) ?_ (by simp; omega) (fun ys hp hs => ordered_keys ok hp hs)
      rw [show ((ls.map turn).map key).map Dt.str = ls.map fun l => Dt.str (key (turn l)) by rw [List.map_map, List.map_map]; rfl]
      refine x_each (zs := ls) (F := fun l => lkD (turn l)) (G2 := fun l => Dt.str (key (turn l))) (xs_list (x_var rfl)) (by omega) fun l hl => ⟨_, g_lk (turn l) (by simp) (by simp) (by simp), ?_⟩
      have hk := (ok l hl).turn
      have e : key (turn l) = [(turn l).1, [32], d2 (turn l).2.1, [32], d2 (turn l).2.2].flatten := by simp [key, TL.joinL]
      have hz := key_len hk
      rw [e] at hz ⊢
      exact x_joined (.cons (x_fmtS (x_var rfl) (by have := hk.nm.le; omega)) (.cons (x_str rfl) (.cons (x_fmt2 (x_var rfl) hk.u) (.cons (x_str rfl) (.cons (x_fmt2 (x_var rfl) hk.v) .nil))))) (by omega)
    · exact x_split (s := key l) (x_var rfl) (x_str rfl) (by have := key_len (oko l hl); omega) (key_spl (oko l hl))
  · refine z_retx (x_tupL (x_each (zs := ordered ls) (F := fun l => Dt.lst ([l.1, d2 l.2.1, d2 l.2.2].map Dt.str)) (G2 := lkD) (xs_list (x_var rfl)) (by omega) fun l hl => ⟨_, g_name (by simp), ?_⟩)) rfl
    have hk := oko l hl
    have dne : ∀ u, u < 100 → d2 u ≠ [] := fun u hu e => by
      have := d2_len u hu
      rw [e] at this
      cases this
    exact x_tup (xa_cons (x_ixL (n := 0) (x_var rfl) x_int rfl rfl) (xa_cons (x_intS (x_ixL (n := 1) (x_var rfl) x_int rfl rfl) (d2_dig _ hk.u) (dne _ hk.u) (by rw [d2_len _ hk.u]; omega) (d2_val _ hk.u)) (xa_cons (x_intS (x_ixL (n := 2) (x_var rfl) x_int rfl rfl) (d2_dig _ hk.v) (dne _ hk.v) (by rw [d2_len _ hk.v]; omega) (d2_val _ hk.v)) xa_nil))) (by simp)
theorem c_net_shape (T : Tx c w mg) : Cal P w c.K mg base 2 "net_shape" (spP c 1 fun ds d => ∃ ls : List Lk, ls.length ≤ 60 ∧ (∀ l ∈ ls, LkOk l) ∧ ds = [.lst (ls.map lkD)] ∧ d = dat true (made (.net ls))) := by
  have c_ordered := c_ordered (P := P) (base := base) T
  refine mk_cal T 1 sc_net_shape (fun _ _ _ _ _ _ us hl => match us, hl with | [_], _ => rfl) spP_len fun f cdv A outer s H vs Q E hr h => ⟨_, PSs.nox (pss_one (ps_ret (pe_ifExp (pt_cmpR op_gt (pe_callB (call_lenK (K := c.K) rfl) (by rfl) T.b_len boot_len (pa_cons (pv 0) pa_nil)) pe_int (nomark _)) (pe_tup (pa_cons pe_str (pa_cons (pe_c c_ordered hr (by decide) (by rfl) (pa_cons (pv 0) pa_nil)) pa_nil))) (C8.pe_gc (by rfl) T.g_SHUT)))), body_p h fun ds d hn hR => ?_⟩
  obtain ⟨ls, hlen, ok, rfl, rfl⟩ := hR
  have z := x_gt (x_lenL (c := c) (ta := tVar 0) (D := [SV.d (.lst (ls.map lkD))]) (x_var rfl)) (x_int (i := 0))
  refine z_retx (x_if (xt_test z) (fun e => ?_) fun e => ?_) rfl
  · have hne : ls ≠ [] := fun e2 => by subst e2; simp at e
    have e2 : made (.net ls) = .net (ordered ls) := if_neg (by simpa using hne)
    rw [e2]
    exact x_tup (xa_cons (x_str rfl) (xa_cons (x_call (xa_cons (x_var rfl) xa_nil) ⟨ls, hlen, ok, rfl, rfl⟩) xa_nil)) (by simp)
  · have hne : ls = [] := by
      cases ls with
      | nil => rfl
      | cons x r => simp at e
    subst hne
    exact x_tS T
theorem fl1_plan {k : Bool} {p q : Sh} {n : Nat} (h : PlanOk p ∧ dep p ≤ n) (hq : q ∈ fl1 k p) : PlanOk q ∧ dep q ≤ n := by
  cases p with
  | join k' ps =>
    by_cases e : k' = k
    · rw [show fl1 k (.join k' ps) = ps from if_pos e] at hq
      have := dep_mem hq
      have h2 : deps ps + 1 ≤ n := h.2
      exact ⟨planOks_iff.mp h.1 q hq, by omega⟩
    · rw [show fl1 k (.join k' ps) = [.join k' ps] from if_neg e] at hq
      rw [List.mem_singleton.mp hq]
      exact h
  | _ =>
    rw [List.mem_singleton.mp hq]
    exact h
theorem fl1_k {k : Bool} {p : Sh} (e : isK k p = true) : ∃ qs, p = .join k qs ∧ fl1 k p = qs := by
  cases p with
  | join k' qs =>
    have e2 : k' = k := by simpa [isK] using e
    subst e2
    exact ⟨qs, rfl, if_pos rfl⟩
  | _ => cases e
theorem fl1_not {k : Bool} {p : Sh} (e : isK k p = false) : fl1 k p = [p] := by
  cases p with
  | join k' qs =>
    have e2 : k' ≠ k := by simpa [isK] using e
    exact if_neg e2
  | _ => rfl
theorem any_rul {b k : Bool} (fs : List Sh) : ((fs.map (dat b)).any fun z => deq z (dat b (rul k))) = fs.any (isRul k) := by
  rw [List.any_map]
  congr 1
  funext s
  exact deq_rul b k s
theorem cm_rul {b k : Bool} : Cm (dat b (rul k)) := cm_dat (by cases k <;> trivial) (by cases k <;> exact Nat.zero_le _)
theorem cm_idle {b k : Bool} : Cm (dat b (idle k)) := cm_dat (by cases k <;> trivial) (by cases k <;> exact Nat.zero_le _)
theorem c_joined_shape (T : Tx c w mg) : Cal P w c.K mg base 1 "joined_shape" (spP c 2 fun ds d => ∃ (k : Bool) (ps : List Sh), (∀ p ∈ ps, PlanOk p ∧ dep p ≤ 20) ∧ ps.length ≤ 1000 ∧ (ps.flatMap (fl1 k)).length ≤ 1000 ∧
    ds = [.str (kn k), .lst (ps.map (dat true))] ∧ d = dat true (joined k ps)) := by
  refine mk_cal T 2 sc_joined_shape (fun _ _ _ _ _ _ us hl => match us, hl with | [_, _], _ => rfl) spP_len fun f cdv A outer s H vs Q E hr h => ⟨_, PSs.nox (pss_cons (ps_asg (pe_ifExp (pt_cmpR (op_eqDK (K := c.K) rfl hr.units) (pv 0) pe_str (nomark _)) (pe_tup (pa_cons (C8.pe_gc (by rfl) T.g_OPEN) (pa_cons (C8.pe_gc (by rfl) T.g_SHUT) pa_nil))) (pe_tup (pa_cons (C8.pe_gc (by rfl) T.g_SHUT) (pa_cons (C8.pe_gc (by rfl) T.g_OPEN) pa_nil)))) (pg_tupK (n := 2) (K := c.K) rfl rfl (pgs_cons (pg_name (i := 2) sc_joined_shape.nd rfl (by first | exact Or.inl rfl | exact Or.inr rfl)) (pgs_cons (pg_name (i := 3) sc_joined_shape.nd rfl (by first | exact Or.inl rfl | exact Or.inr rfl)) pgs_nil)))) 
      (pss_cons (ps_set (i := 4) sc_joined_shape.nd rfl (by first | exact Or.inl rfl | exact Or.inr rfl) (pe_lst pa_nil)) 
      (pss_cons (ps_for PassesOwn.never rfl (pi_listK (K := c.K) rfl (pv 1)) (pg_name (i := 5) sc_joined_shape.nd rfl (by first | exact Or.inl rfl | exact Or.inr rfl))
        (pss_one (ps_expr (pe_bmK (K := c.K) rfl PySem.F.plainAttrs_list PySem.F.slot_list_extend PySem.F.type_list_extend (mt_extUK (K := c.K) rfl) (pv 4) (pa_cons (pe_ifExp (pt_cmpR (op_eqDK (K := c.K) rfl hr.units) (pe_ix (ix_seqK (K := c.K) rfl) (pv 5) pe_int (fun _ _ => rfl)) (pv 0) (nomark _)) (pe_ix (ix_seqK (K := c.K) rfl) (pv 5) pe_int (fun _ _ => rfl)) (pe_tup (pa_cons (pv 5) pa_nil))) pa_nil))))) 
      (pss_cons (ps_if (pt_cmpR (op_inDK (K := c.K) rfl (Room.u65 hr)) (pv 3) (pv 4) rfl)
        (pss_one (ps_ret (pv 3)))
        pss_nil) 
      (pss_cons (ps_set (i := 6) sc_joined_shape.nd rfl (by first | exact Or.inl rfl | exact Or.inr rfl) (pe_callTy (call_tupK (K := c.K) rfl) (by rfl) T.b_tuple boot_tuple (pa_cons (pe_lc (own := [("shape", 5)]) rfl sc_joined_shape.nd (pi_listK (K := c.K) rfl (pv 4)) (blkOk_by (own := [("shape", 5)]) (N := N_joined_shape) (sc := defScope s_joined_shape) (by decide +kernel)) (fun _ _ _ _ _ => (pg_name (i := 5) sc_joined_shape.nd rfl (by first | exact Or.inl rfl | exact Or.inr rfl))) (fun _ _ _ _ _ => (pts_one (pt_cmpR (op_neDK (K := c.K) rfl hr.units) (pv 5) (pv 2) (nomark _)))) (fun _ _ _ _ _ => (pv 5))) pa_nil))) 
      (pss_cons (ps_if (pt_cmpR (op_eqDK (K := c.K) rfl hr.units) (pe_callB (call_lenK (K := c.K) rfl) (by rfl) T.b_len boot_len (pa_cons (pv 6) pa_nil)) pe_int (nomark _))
        (pss_one (ps_ret (pv 2)))
        pss_nil) 
      (pss_one (ps_ret (pe_ifExp (pt_cmpR (op_eqDK (K := c.K) rfl hr.units) (pe_callB (call_lenK (K := c.K) rfl) (by rfl) T.b_len boot_len (pa_cons (pv 6) pa_nil)) pe_int (nomark _)) (pe_ix (ix_seqK (K := c.K) rfl) (pv 6) pe_int (fun _ _ => rfl)) (pe_tup (pa_cons (pv 0) (pa_cons (pv 6) pa_nil)))))))))))), body_p h fun ds d hn hR => ?_⟩
  obtain ⟨k, ps, ok, hl1, hl2, rfl, rfl⟩ := hR
  have okf : ∀ q ∈ ps.flatMap (fl1 k), PlanOk q ∧ dep q ≤ 20 := fun q hq => by
    obtain ⟨p, hp, hq⟩ := List.mem_flatMap.mp hq
    exact fl1_plan (ok p hp) hq
  refine z_asgx (d := .tup [dat true (idle k), dat true (rul k)]) (vs := [2, 3]) ?_ (g_tup2 (by simp) (by simp)) ?_
  · refine x_if (b := k) (xt_test ?_) (fun e => ?_) fun e => ?_
    · have z := x_eq (c := c) (ta := tVar 0) (D := [SV.d (.str (kn k)), .d (.lst (ps.map (dat true))), .un, .un, .un, .un, .un]) (x_var rfl) (x_str (z := "row") (l := nRow) rfl) (cm_str (kn_asc k)) (cm_str (kn_asc true))
      rwa [show deq (.str (kn k)) (.str nRow) = k from kn_row k] at z
    · subst e
      exact x_tup (xa_cons (x_tO T) (xa_cons (x_tS T) xa_nil)) (by decide)
    · subst e
      exact x_tup (xa_cons (x_tS T) (xa_cons (x_tO T) xa_nil)) (by decide)
  refine z_newx (j := 4) rfl ?_
  refine z_seq (Pm := fun D' s' => (∃ x, D' = [.d (.str (kn k)), .d (.lst (ps.map (dat true))), .d (dat true (idle k)), .d (dat true (rul k)), .own, x, .un] ∧ (x = .un ∨ ∃ d, x = .d d)) ∧ s' = ⟨some ((ps.flatMap (fl1 k)).map (dat true)), .no⟩)
    (z_each (zs := ps) (F := dat true) (vs := [5]) (xs_list (x_var rfl)) (fun i D' s' => (∃ x, D' = [.d (.str (kn k)), .d (.lst (ps.map (dat true))), .d (dat true (idle k)), .d (dat true (rul k)), .own, x, .un] ∧ (x = .un ∨ ∃ d, x = .d d)) ∧ s' = ⟨some (((ps.take i).flatMap (fl1 k)).map (dat true)), .no⟩)
      ⟨⟨.un, rfl, .inl rfl⟩, rfl⟩ ?_ ?_) ?_
  · rintro i p D1 s1 hp ⟨⟨x, rfl, -⟩, rfl⟩
    refine ⟨_, g_name (by simp), ?_⟩
    have mp : p ∈ ps := List.mem_of_getElem? hp
    have ht : ps.take (i + 1) = ps.take i ++ [p] := by
      rw [List.take_add_one, hp]
      rfl
    have hle : ((ps.take i).flatMap (fl1 k)).length + (fl1 k p).length ≤ 1000 := by
      have e : ps.take (i + 1) ++ ps.drop (i + 1) = ps := List.take_append_drop ..
      have z : ((ps.take (i + 1)).flatMap (fl1 k)).length ≤ (ps.flatMap (fl1 k)).length := by
        conv => rhs; rw [← e, List.flatMap_append, List.length_append]
        omega
      rw [ht, List.flatMap_append, List.length_append, show [p].flatMap (fl1 k) = fl1 k p by simp] at z
      omega
    refine z_ext1 (es := (fl1 k p).map (dat true)) (d := .tup ((fl1 k p).map (dat true))) (j := 4) rfl rfl (by simp only [List.length_map]; omega) ?_ (.inr rfl) ?_
    · refine x_if (b := isK k p) (xt_test ?_) (fun e => ?_) fun e => ?_
      · have z := x_eq (c := c) (x_tag (te := tVar 5) (s := p) (b := true) (D := [.d (.str (kn k)), .d (.lst (ps.map (dat true))), .d (dat true (idle k)), .d (dat true (rul k)), .own, .d (dat true p), .un]) (x_var rfl)) (x_var (i := 0) rfl) (cm_str (tag_asc p)) (cm_str (kn_asc k))
        rwa [show deq (.str (tag p)) (.str (kn k)) = isK k p from tag_kn k p] at z
      · obtain ⟨qs, rfl, e2⟩ := fl1_k e
        rw [e2]
        exact x_arg (s := .join k qs) (b := true) (x_var rfl) rfl
      · rw [fl1_not e]
        exact x_tup (xa_cons (x_var rfl) xa_nil) (by simp)
    · refine ⟨⟨_, rfl, .inr ⟨_, rfl⟩⟩, ?_⟩
      rw [ht, List.flatMap_append, List.map_append]
      simp
  · rintro D1 s1 ⟨h1, rfl⟩
    exact ⟨h1, by rw [List.take_length]⟩
  rintro D1 s1 ⟨⟨x, rfl, hx⟩, rfl⟩
  refine z_freeze (j := 4) rfl rfl (by rcases hx with rfl | ⟨d, rfl⟩ <;> rfl) ?_
  have cmf : Cm (.lst ((ps.flatMap (fl1 k)).map (dat true))) := cm_dats okf
  have z1 := x_inD (c := c) (ta := tVar 3) (tb := tVar 4) (D := [.d (.str (kn k)), .d (.lst (ps.map (dat true))), .d (dat true (idle k)), .d (dat true (rul k)), .d (.lst ((ps.flatMap (fl1 k)).map (dat true))), x, .un]) (x_var rfl) (x_var rfl) cm_rul cmf
  rw [any_rul] at z1
  refine z_ifr (xt_test z1) (fun e => z_retx (x_var rfl) ?_) fun e => ?_
  · unfold joined
    rw [if_pos e]
  have ej : joined k ps = pick k ((ps.flatMap (fl1 k)).filter fun s => !isIdle k s) := by
    unfold joined
    rw [if_neg (by rw [e]; simp)]
  rw [ej]
  generalize hk : ((ps.flatMap (fl1 k)).filter fun s => !isIdle k s) = kept
  refine z_setx (d := .tup (kept.map (dat true))) (x_tupL ?_) ?_
  · rw [← hk]
    refine x_fil (F := dat true) (G2 := dat true) (fun s => !isIdle k s) (xs_list (x_var rfl)) (by omega) fun q hq => ⟨_, g_name (by simp), xt_test ?_, fun _ => x_var rfl⟩
    have z := x_ne (c := c) (ta := tVar 5) (tb := tVar 2) (D := [.d (.str (kn k)), .d (.lst (ps.map (dat true))), .d (dat true (idle k)), .d (dat true (rul k)), .d (.lst ((ps.flatMap (fl1 k)).map (dat true))), .d (dat true q), .un]) (x_var rfl) (x_var rfl) (cm_dat (okf q hq).1 (okf q hq).2) cm_idle
    rwa [deq_idle] at z
  have zl : ∀ n : Int, X c (tOp (rEqD c.K) (tCB (fun xs H Q => ∃ x n, xs = [x] ∧ LenV c.K x H n ∧ Q (.int n) H) (tCons (tVar 6) tNil)) (tC (.int n))) [.d (.str (kn k)), .d (.lst (ps.map (dat true))), .d (dat true (idle k)), .d (dat true (rul k)), .d (.lst ((ps.flatMap (fl1 k)).map (dat true))), x, .d (.tup (kept.map (dat true)))] (.bl (decide ((kept.length : Int) = n))) := fun n => by
    have z := x_eq (c := c) (x_lenT (ta := tVar 6) (D := [.d (.str (kn k)), .d (.lst (ps.map (dat true))), .d (dat true (idle k)), .d (dat true (rul k)), .d (.lst ((ps.flatMap (fl1 k)).map (dat true))), x, .d (.tup (kept.map (dat true)))]) (x_var rfl)) (x_int (i := n)) cm_int cm_int
    have e : deq (.int (((kept.map (dat true)).length : Nat) : Int)) (.int n) = decide ((kept.length : Int) = n) := by
      rw [List.length_map]
      show ((kept.length : Int) == n) = _
      rfl
    rwa [e] at z
  refine z_ifr (xt_test (zl 0)) (fun e => z_retx (x_var rfl) ?_) fun e => ?_
  · have : kept = [] := by
      have e2 : (kept.length : Int) = 0 := of_decide_eq_true e
      exact List.length_eq_zero_iff.mp (by omega)
    subst this
    rfl
  refine z_retx (x_if (xt_test (zl 1)) (fun e2 => ?_) fun e2 => ?_) rfl
  · match kept, e2 with
    | [q], _ => exact x_ixT (n := 0) (x_var rfl) x_int rfl rfl
    | [], h => simp at h
    | _ :: _ :: _, h => simp at h; omega
  · have e3 : pick k kept = .join k kept := by
      match kept, e, e2 with
      | [], h, _ => simp at h
      | [q], _, h => simp at h
      | _ :: _ :: _, _, _ => rfl
    rw [e3, show dat true (.join k kept) = .tup [.str (kn k), .tup (kept.map (dat true))] by simp [dat, dats_map, seqD]]
    exact x_tup (xa_cons (x_var rfl) (xa_cons (x_var rfl) xa_nil)) (by simp)
end
end Wb

/-! The plain law, part B: joints, laying, texts. -/
namespace Wb
open PySem PySem.Spec

/-! ### joints -/
def jIn (ls : List Lk) (j : Nat) : Bool := (j == 0 || j == 1) || ls.any fun l => l.2.1 == j || l.2.2 == j
def jts (ls : List Lk) : List Nat := (List.range 100).filter (jIn ls)
theorem jts_sorted (ls : List Lk) : (jts ls).Pairwise (· < ·) := List.pairwise_lt_range.sublist List.filter_sublist
theorem jts_lt {ls : List Lk} {j : Nat} (h : j ∈ jts ls) : j < 100 := List.mem_range.mp (List.mem_filter.mp h).1
theorem jts_two (ls : List Lk) : ∃ r, jts ls = 0 :: 1 :: r := by
  unfold jts
  rw [show List.range 100 = [0, 1] ++ (List.range 98).map (· + 2) by decide +kernel, List.filter_append]
  exact ⟨_, rfl⟩
theorem mem_jts {ls : List Lk} (h : ∀ l ∈ ls, LkOk l) (j : Nat) : j ∈ jts ls ↔ j = 0 ∨ j = 1 ∨ (∃ l ∈ ls, l.2.1 = j) ∨ ∃ l ∈ ls, l.2.2 = j := by
  unfold jts
  rw [List.mem_filter, List.mem_range]
  unfold jIn
  simp only [Bool.or_eq_true, beq_iff_eq, List.any_eq_true]
  constructor
  · rintro ⟨_, (h1 | h1) | ⟨l, hl, h1 | h1⟩⟩
    · exact .inl h1
    · exact .inr (.inl h1)
    · exact .inr (.inr (.inl ⟨l, hl, h1⟩))
    · exact .inr (.inr (.inr ⟨l, hl, h1⟩))
  · rintro (h1 | h1 | ⟨l, hl, h1⟩ | ⟨l, hl, h1⟩)
    · exact ⟨by omega, .inl (.inl h1)⟩
    · exact ⟨by omega, .inl (.inr h1)⟩
    · exact ⟨h1 ▸ (h l hl).u, .inr ⟨l, hl, .inl h1⟩⟩
    · exact ⟨h1 ▸ (h l hl).v, .inr ⟨l, hl, .inr h1⟩⟩
theorem filter_or (p q : Nat → Bool) : ∀ l : List Nat, (l.filter fun j => p j || q j).length ≤ (l.filter p).length + (l.filter q).length
  | [] => Nat.zero_le _
  | x :: r => by
    have ih := filter_or p q r
    simp only [List.filter_cons]
    cases p x <;> cases q x <;> simp <;> omega
theorem filter_one (a : Nat) : ∀ l : List Nat, l.Nodup → (l.filter fun j => a == j).length ≤ 1
  | [], _ => Nat.zero_le _
  | x :: r, h => by
    obtain ⟨h1, h2⟩ := List.nodup_cons.mp h
    simp only [List.filter_cons]
    by_cases e : a = x
    · subst e
      have : r.filter (fun j => a == j) = [] := by
        rw [List.filter_eq_nil_iff]
        intro y hy e
        have : a = y := by simpa using e
        exact h1 (this ▸ hy)
      simp [this]
    · have := filter_one a r h2
      simpa [e] using this
theorem filter_zero (a : Nat) (l : List Nat) (h : l.Nodup) : (l.filter fun j => j == a).length ≤ 1 := by
  have e : (fun j : Nat => j == a) = fun j => a == j := by
    funext j
    exact Bool.beq_comm
  rw [e]
  exact filter_one a l h
theorem jts_len : ∀ ls : List Lk, (jts ls).length ≤ 2 + 2 * ls.length
  | [] => by
    have nd : (List.range 100).Nodup := List.nodup_range
    have h := filter_or (fun j => j == 0) (fun j => j == 1) (List.range 100)
    have h0 := filter_zero 0 _ nd
    have h1 := filter_zero 1 _ nd
    have e : jts [] = (List.range 100).filter fun j => j == 0 || j == 1 := by
      unfold jts
      congr 1
      funext j
      simp [jIn]
    rw [e]
    simp only [List.length_nil]
    omega
  | l :: ls => by
    have nd : (List.range 100).Nodup := List.nodup_range
    have ih := jts_len ls
    have e : jts (l :: ls) = (List.range 100).filter fun j => jIn ls j || (l.2.1 == j || l.2.2 == j) := by
      unfold jts
      congr 1
      funext j
      simp only [jIn, List.any_cons]
      cases (j == 0 || j == 1) <;> cases (ls.any fun l => l.2.1 == j || l.2.2 == j) <;> simp
    have h := filter_or (jIn ls) (fun j => l.2.1 == j || l.2.2 == j) (List.range 100)
    have h2 := filter_or (fun j => l.2.1 == j) (fun j => l.2.2 == j) (List.range 100)
    have h3 := filter_one l.2.1 _ nd
    have h4 := filter_one l.2.2 _ nd
    have e2 : (jts ls).length = ((List.range 100).filter (jIn ls)).length := rfl
    rw [e]
    simp only [List.length_cons]
    omega
theorem rise_uniq {a b : List Int} (ha : a.Pairwise (· < ·)) (hb : b.Pairwise (· < ·)) (h : ∀ k, k ∈ a ↔ k ∈ b) : a = b := by
  have na : a.Nodup := ha.imp fun h => Int.ne_of_lt h
  have nb : b.Nodup := hb.imp fun h => Int.ne_of_lt h
  have p : a.Perm b := (List.perm_ext_iff_of_nodup na nb).mpr h
  exact List.Perm.eq_of_pairwise (fun x y _ _ h1 h2 => absurd h1 (by omega)) ha hb p
theorem jts_uniq {ls : List Lk} (h : ∀ l ∈ ls, LkOk l) {ks : List Int} (hs : ks.Pairwise (· < ·)) (hm : ∀ k : Int, k ∈ ks ↔ k ∈ ([0, 1] : List Int) ++ (ls.map (fun l => (l.2.1 : Int)) ++ ls.map fun l => (l.2.2 : Int))) : ks = (jts ls).map Int.ofNat := by
  refine rise_uniq hs (List.pairwise_map.mpr ((jts_sorted ls).imp fun {a b} z => Int.ofNat_lt.mpr z)) fun k => ?_
  rw [hm k, List.mem_map]
  simp only [List.mem_append, List.mem_map, List.mem_cons, List.not_mem_nil, or_false]
  constructor
  · rintro ((e | e) | ⟨l, hl, e⟩ | ⟨l, hl, e⟩)
    · exact ⟨0, (mem_jts h 0).mpr (.inl rfl), e.symm⟩
    · exact ⟨1, (mem_jts h 1).mpr (.inr (.inl rfl)), e.symm⟩
    · exact ⟨l.2.1, (mem_jts h _).mpr (.inr (.inr (.inl ⟨l, hl, rfl⟩))), e⟩
    · exact ⟨l.2.2, (mem_jts h _).mpr (.inr (.inr (.inr ⟨l, hl, rfl⟩))), e⟩
  · rintro ⟨j, hj, e⟩
    subst e
    rcases (mem_jts h j).mp hj with rfl | rfl | ⟨l, hl, rfl⟩ | ⟨l, hl, rfl⟩
    · exact .inl (.inl rfl)
    · exact .inl (.inr rfl)
    · exact .inr (.inl ⟨l, hl, rfl⟩)
    · exact .inr (.inr ⟨l, hl, rfl⟩)

/-! ### renaming -/
def news (ls : List Lk) (l r f : Nat) : List Nat := l :: r :: (List.range ((jts ls).length - 2)).map (f + ·)
def rho (ls : List Lk) (l r f j : Nat) : Nat := (((jts ls).zip (news ls l r f)).lookup j).getD 0
def ren (ls : List Lk) (l r f : Nat) : List Lk := ls.map fun x => (x.1, rho ls l r f x.2.1, rho ls l r f x.2.2)
theorem news_len (ls : List Lk) (l r f : Nat) : (news ls l r f).length = (jts ls).length := by
  obtain ⟨t, e⟩ := jts_two ls
  simp [news, e]
theorem lookup_mem {j : Nat} : ∀ {js vs : List Nat}, j ∈ js → js.length ≤ vs.length → ∃ v ∈ vs, (js.zip vs).lookup j = some v
  | x :: js, [], _, h => by simp at h
  | x :: js, v :: vs, hj, h => by
    simp only [List.zip_cons_cons, List.lookup_cons]
    by_cases e : j = x
    · subst e
      exact ⟨v, List.mem_cons_self .., by simp⟩
    · have hj2 : j ∈ js := (List.mem_cons.mp hj).resolve_left e
      obtain ⟨u, hu, e2⟩ := lookup_mem (vs := vs) hj2 (by simpa using h)
      have : (j == x) = false := by simpa using e
      rw [this]
      exact ⟨u, List.mem_cons_of_mem _ hu, e2⟩
theorem rho_at {ls : List Lk} {l r f j : Nat} (h : j ∈ jts ls) : ((jts ls).zip (news ls l r f)).lookup j = some (rho ls l r f j) ∧ rho ls l r f j ∈ news ls l r f := by
  obtain ⟨v, hv, e⟩ := lookup_mem h (Nat.le_of_eq (news_len ls l r f).symm)
  unfold rho
  rw [e]
  exact ⟨rfl, hv⟩
theorem find_zip (j : Nat) : ∀ js vs : List Nat, (((js.map Int.ofNat).zip (vs.map Int.ofNat)).find? fun p => decide (p.1 = (j : Int))).map (·.2) = ((js.zip vs).lookup j).map Int.ofNat
  | [], _ => rfl
  | _ :: _, [] => rfl
  | x :: js, v :: vs => by
    have ih := find_zip j js vs
    simp only [List.map_cons, List.zip_cons_cons, List.find?_cons, List.lookup_cons]
    by_cases e : j = x
    · subst e
      simp
    · have e1 : (j == x) = false := by simpa using e
      have e2 : decide (Int.ofNat x = (j : Int)) = false := by
        rw [decide_eq_false_iff_not]
        intro z
        have : (x : Int) = j := z
        omega
      rw [e1, e2]
      exact ih
theorem news_lt {ls : List Lk} {l r f : Nat} (hl : l < 100) (hr : r < 100) (hf : f + (jts ls).length - 2 ≤ 100) : ∀ v ∈ news ls l r f, v < 100 := by
  intro v hv
  rcases List.mem_cons.mp hv with rfl | hv
  · exact hl
  · rcases List.mem_cons.mp hv with rfl | hv
    · exact hr
    · obtain ⟨i, hi, rfl⟩ := List.mem_map.mp hv
      have := List.mem_range.mp hi
      omega
theorem ren_ok {ls : List Lk} {l r f : Nat} (h : ∀ x ∈ ls, LkOk x) (hl : l < 100) (hr : r < 100) (hf : f + (jts ls).length - 2 ≤ 100) : ∀ x ∈ ren ls l r f, LkOk x := by
  intro x hx
  obtain ⟨y, hy, rfl⟩ := List.mem_map.mp hx
  have n := news_lt (ls := ls) hl hr hf
  exact ⟨(h y hy).nm, n _ (rho_at ((mem_jts h _).mpr (.inr (.inr (.inl ⟨y, hy, rfl⟩))))).2, n _ (rho_at ((mem_jts h _).mpr (.inr (.inr (.inr ⟨y, hy, rfl⟩))))).2⟩

/-! ### laying -/
mutual
def laidB : Sh → Nat → Nat → Nat → List Lk × Nat
  | .opn, _, _, f => ([], f)
  | .sht, _, _, f => ([], f)
  | .link n, l, r, f => ([(n, l, r)], f)
  | .net ls, l, r, f => (ren ls l r f, f + (jts ls).length - 2)
  | .join k ps, l, r, f => laidBs k ps l l r f
def laidBs (k : Bool) : List Sh → Nat → Nat → Nat → Nat → List Lk × Nat
  | [], _, _, _, f => ([], f)
  | p :: ps, b, l, r, f =>
    let e := if k && !ps.isEmpty then f else r
    let g := if k && !ps.isEmpty then f + 1 else f
    let x := laidB p b e g
    let y := laidBs k ps (if k then e else l) l r x.2
    (x.1 ++ y.1, y.2)
end
/-- what a laying keeps -/
structure LOk (s : Nat) (f : Nat) (x : List Lk × Nat) : Prop where
  ok : ∀ l ∈ x.1, LkOk l
  len : x.1.length = s
  lo : f ≤ x.2
theorem tree_pos {s : Sh} (h : TreeOk s) : 1 ≤ size s := by
  have := tree_size s h
  omega
theorem laidB_ok : ∀ s : Sh, TreeOk s → ∀ l r f, l < 100 → r < 100 → f + 3 * size s ≤ 100 → LOk (size s) f (laidB s l r f) ∧ (laidB s l r f).2 + 1 ≤ f + 3 * size s := by
  refine Sh.ind (fun h => h.elim) (fun h => h.elim) (fun n h l r f hl hr hf => ?_) (fun ls h l r f hl hr hf => ?_) (fun k ps ih h l r f hl hr hf => ?_)
  · refine ⟨⟨fun x hx => ?_, rfl, Nat.le_refl _⟩, by show f + 1 ≤ f + 3 * 1; omega⟩
    rw [List.mem_singleton.mp hx]
    exact ⟨h, hl, hr⟩
  · have h' : ls ≠ [] ∧ ∀ x ∈ ls, LkOk x := h
    have hz : f + 3 * ls.length ≤ 100 := hf
    have hj := jts_len ls
    have hp : 1 ≤ ls.length := by
      cases ls with
      | nil => exact absurd rfl h'.1
      | cons _ _ => simp
    obtain ⟨t, e⟩ := jts_two ls
    have h2 : 2 ≤ (jts ls).length := by rw [e]; simp
    refine ⟨⟨ren_ok h'.2 hl hr (by omega), ?_, ?_⟩, ?_⟩
    · show (ren ls l r f).length = ls.length
      simp [ren]
    · show f ≤ f + (jts ls).length - 2
      omega
    · show f + (jts ls).length - 2 + 1 ≤ f + 3 * ls.length
      omega
  · have h' : 2 ≤ ps.length ∧ TreeOks ps := h
    have ht := treeOks_iff.mp h'.2
    have go : ∀ (qs : List Sh), (∀ q ∈ qs, q ∈ ps) → ∀ b l f, b < 100 → l < 100 → f + 3 * sizes qs ≤ 100 → LOk (sizes qs) f (laidBs k qs b l r f) ∧ (laidBs k qs b l r f).2 + (if qs = [] then 0 else 1) ≤ f + 3 * sizes qs := by
      intro qs
      induction qs with
      | nil => intro _ b l f _ _ _; exact ⟨⟨fun x hx => (nomatch hx), rfl, Nat.le_refl _⟩, by simp [laidBs, sizes]⟩
      | cons p qs ihq =>
        intro hm b l f hb hl hf
        simp only [sizes] at hf ⊢
        have hp := tree_pos (ht p (hm p (List.mem_cons_self ..)))
        have he : ∀ b : Bool, (if b then f else r) < 100 := fun b => by cases b <;> simp <;> omega
        have hg : ∀ b : Bool, (if b then f + 1 else f) + 3 * size p ≤ 100 + 1 := fun b => by cases b <;> simp <;> omega
        have hg2 : (if k && !qs.isEmpty then f + 1 else f) + 3 * size p ≤ 100 := by
          cases q : qs with
          | nil => simp; omega
          | cons z zs =>
            have := tree_pos (ht z (hm z (by rw [q]; simp)))
            rw [q] at hf
            simp only [sizes] at hf
            split <;> omega
        obtain ⟨x1, x2⟩ := ih p (hm p (List.mem_cons_self ..)) (ht p (hm p (List.mem_cons_self ..))) b (if k && !qs.isEmpty then f else r) (if k && !qs.isEmpty then f + 1 else f) hb (he _) hg2
        have hf2 : (laidB p b (if k && !qs.isEmpty then f else r) (if k && !qs.isEmpty then f + 1 else f)).2 + 3 * sizes qs ≤ 100 := by
          revert x2
          split <;> intro x2 <;> omega
        obtain ⟨y1, y2⟩ := ihq (fun q hq => hm q (List.mem_cons_of_mem _ hq)) (if k then (if k && !qs.isEmpty then f else r) else l) l _ (by split; exact he _; exact hl) hl hf2
        have lo1 := x1.lo
        have lo2 := y1.lo
        refine ⟨⟨fun z hz => ?_, ?_, ?_⟩, ?_⟩
        · rcases List.mem_append.mp hz with hz | hz
          · exact x1.ok z hz
          · exact y1.ok z hz
        · show (_ ++ _ : List Lk).length = _
          rw [List.length_append, x1.len, y1.len]
        · show f ≤ (laidBs k qs _ l r _).2
          refine Nat.le_trans ?_ lo2
          refine Nat.le_trans ?_ lo1
          split <;> omega
        · show (laidBs k qs _ l r _).2 + 1 ≤ _
          cases q : qs with
          | nil =>
            rw [q] at x2 y2
            simp [laidBs, sizes] at x2 y2 ⊢
            omega
          | cons z zs =>
            rw [q] at x2 y2
            simp only [List.isEmpty_cons, Bool.not_false, Bool.and_true, reduceCtorEq, if_false] at x2 y2 ⊢
            revert x2 y2
            split <;> intro x2 y2 <;> omega
    obtain ⟨g1, g2⟩ := go ps (fun q hq => hq) l l f hl hl hf
    refine ⟨g1, ?_⟩
    have hne : ps ≠ [] := fun e => by rw [e] at h'; exact absurd h'.1 (by simp)
    rw [if_neg hne] at g2
    exact g2
def laidM : Sh → List Lk
  | .net ls => ls
  | s => ordered (laidB s 0 1 2).1
theorem laidM_ok {s : Sh} (h : Norm s) (hz : size s ≤ 14) : (∀ l ∈ laidM s, LkOk l) ∧ (laidM s).length = size s := by
  by_cases ho : s = .opn
  · subst ho
    exact ⟨fun l hl => absurd (show l ∈ ordered [] from hl) (by simp [ordered]), by simp [laidM, laidB, ordered, size]⟩
  · by_cases hs : s = .sht
    · subst hs
      exact ⟨fun l hl => absurd (show l ∈ ordered [] from hl) (by simp [ordered]), by simp [laidM, laidB, ordered, size]⟩
    · have ht := norm_tree s h ho hs
      obtain ⟨g, _⟩ := laidB_ok s ht 0 1 2 (by omega) (by omega) (by omega)
      cases s with
      | net ls => exact ⟨ht.2, rfl⟩
      | opn => exact absurd rfl ho
      | sht => exact absurd rfl hs
      | link n => exact ⟨ordered_ok g.ok, (ordered_len _).trans g.len⟩
      | join k ps => exact ⟨ordered_ok g.ok, (ordered_len _).trans g.len⟩

/-! ### texts -/
def lkT (l : Lk) : List Nat := TL.numL l.2.1 ++ ([45] ++ (l.1 ++ ([45] ++ TL.numL l.2.2)))
def sgn (k : Bool) : List Nat := if k then [32, 38, 32] else [32, 124, 32]
mutual
def txt : Sh → List Nat
  | .opn => nOpen
  | .sht => nShut
  | .link n => n
  | .net ls => [91] ++ (TL.joinL [32] (ls.map lkT) ++ [93])
  | .join k ps => [40] ++ (TL.joinL (sgn k) (txts ps) ++ [41])
def txts : List Sh → List (List Nat)
  | [] => []
  | p :: r => txt p :: txts r
end
theorem txts_map : ∀ ps : List Sh, txts ps = ps.map txt
  | [] => rfl
  | p :: r => by simp [txts, txts_map r]
theorem num_len : ∀ u, u < 100 → (TL.numL u).length ≤ 2 := by decide +kernel
theorem lkT_len {l : Lk} (h : LkOk l) : (lkT l).length ≤ 14 := by
  have h1 := num_len _ h.u
  have h2 := num_len _ h.v
  have h3 := h.nm.le
  simp [lkT]
  omega
theorem joinL_le (a : List Nat) : ∀ ys : List (List Nat), (TL.joinL a ys).length ≤ (ys.map (·.length)).sum + ys.length * a.length
  | [] => Nat.zero_le _
  | [p] => by simp [TL.joinL]
  | p :: q :: r => by
    have ih := joinL_le a (q :: r)
    simp only [TL.joinL, List.length_append, List.map_cons, List.sum_cons, List.length_cons, Nat.add_mul, Nat.one_mul] at ih ⊢
    omega
theorem sum_le {α : Type} (f : α → Nat) (m : Nat) : ∀ l : List α, (∀ x ∈ l, f x ≤ m) → (l.map f).sum ≤ m * l.length
  | [], _ => by simp
  | x :: r, h => by
    have h1 := h x (List.mem_cons_self ..)
    have h2 := sum_le f m r fun y hy => h y (List.mem_cons_of_mem _ hy)
    simp only [List.map_cons, List.sum_cons, List.length_cons, Nat.mul_add, Nat.mul_one]
    omega
theorem txt_len : ∀ s : Sh, TreeOk s → (txt s).length + 8 ≤ 30 * size s := by
  refine Sh.ind (fun h => h.elim) (fun h => h.elim) (fun n h => ?_) (fun ls h => ?_) (fun k ps ih h => ?_)
  · have h1 : n.length ≤ 8 := NameOk.le h
    show n.length + 8 ≤ 30 * 1
    omega
  · have h' : ls ≠ [] ∧ ∀ x ∈ ls, LkOk x := h
    have hp : 1 ≤ ls.length := by
      cases ls with
      | nil => exact absurd rfl h'.1
      | cons _ _ => simp
    have h1 := joinL_le [32] (ls.map lkT)
    rw [List.map_map] at h1
    have h2 := sum_le ((fun z : List Nat => z.length) ∘ lkT) 14 ls fun l hl => lkT_len (h'.2 l hl)
    simp only [List.length_map, List.length_cons, List.length_nil] at h1
    show ([91] ++ (TL.joinL [32] (ls.map lkT) ++ [93])).length + 8 ≤ 30 * ls.length
    simp only [List.length_append, List.length_cons, List.length_nil]
    omega
  · have h' : 2 ≤ ps.length ∧ TreeOks ps := h
    have ht := treeOks_iff.mp h'.2
    have h1 := joinL_le (sgn k) (txts ps)
    rw [txts_map, List.map_map, List.length_map, show (sgn k).length = 3 by cases k <;> rfl] at h1
    have h2 : ∀ qs : List Sh, (∀ q ∈ qs, (txt q).length + 8 ≤ 30 * size q) → (qs.map ((fun z : List Nat => z.length) ∘ txt)).sum + 8 * qs.length ≤ 30 * sizes qs := by
      intro qs
      induction qs with
      | nil => intro _; simp [sizes]
      | cons q r ihr =>
        intro hq
        have a1 := hq q (List.mem_cons_self ..)
        have a2 := ihr fun p hp => hq p (List.mem_cons_of_mem _ hp)
        simp only [List.map_cons, List.sum_cons, List.length_cons, sizes, Function.comp] at a2 ⊢
        omega
    have h3 := h2 ps fun q hq => ih q hq (ht q hq)
    show ([40] ++ (TL.joinL (sgn k) (txts ps) ++ [41])).length + 8 ≤ 30 * sizes ps
    rw [txts_map]
    simp only [List.length_append, List.length_cons, List.length_nil]
    omega
end Wb

/-! The program's defs, third part: joints, laying, texts. -/
namespace Wb
open PySem PySem.Spec PyProof.Rows L2 SX StX
abbrev s_joints_of : Stmt := top 16
abbrev N_joints_of : List Str := ["links", "touched", "name", "u", "v", "joint"]
theorem sc_joints_of : FnScope N_joints_of ["links"] (defScope s_joints_of) := ⟨rfl, rfl, rfl, by decide +kernel, rfl, by decide +kernel, by decide +kernel⟩

abbrev s_renamed_joints : Stmt := top 17
abbrev N_renamed_joints : List Str := ["links", "left", "right", "inner", "numbers", "name", "u", "v"]
theorem sc_renamed_joints : FnScope N_renamed_joints ["links", "left", "right", "inner"] (defScope s_renamed_joints) := ⟨rfl, rfl, rfl, by decide +kernel, rfl, by decide +kernel, by decide +kernel⟩

abbrev s_laid_between : Stmt := top 18
abbrev N_laid_between : List Str := ["shape", "left", "right", "fresh", "later", "found", "begin", "parts", "at", "part", "end", "links"]
theorem sc_laid_between : FnScope N_laid_between ["shape", "left", "right", "fresh"] (defScope s_laid_between) := ⟨rfl, rfl, rfl, by decide +kernel, rfl, by decide +kernel, by decide +kernel⟩

abbrev s_laid : Stmt := top 19
abbrev N_laid : List Str := ["shape"]
theorem sc_laid : FnScope N_laid ["shape"] (defScope s_laid) := ⟨rfl, rfl, rfl, by decide +kernel, rfl, by decide +kernel, by decide +kernel⟩

abbrev s_places_in : Stmt := top 20
abbrev N_places_in : List Str := ["shape", "name", "u", "v"]
theorem sc_places_in : FnScope N_places_in ["shape"] (defScope s_places_in) := ⟨rfl, rfl, rfl, by decide +kernel, rfl, by decide +kernel, by decide +kernel⟩

abbrev s_shape_text : Stmt := top 21
abbrev N_shape_text : List Str := ["shape", "words", "sign", "name", "u", "v", "part"]
theorem sc_shape_text : FnScope N_shape_text ["shape"] (defScope s_shape_text) := ⟨rfl, rfl, rfl, by decide +kernel, rfl, by decide +kernel, by decide +kernel⟩

section
variable {c : Cf} {P : Program} {w : World} {mg : Str → Option Value} {base : Heap} {D : List SV} {ta tb te : TE} {tl : TA}
theorem z_par {i j : Nat} {d1 d2 : Dt} {s : Sto} {t2 : TS} {Pn : List SV → Sto → Prop} {Pr : Dt → Sto → Prop} (h : XA c tl D [d1, d2]) (k : Z c t2 ((D.set i (.d d1)).set j (.d d2)) s Pn Pr) : Z c (tSeq (tPar i j tl) t2) D s Pn Pr := fun W o p st H F a kn kr =>
  h _ o p st H _ a.lv a.sl fun vs H1 e1 rs => by
    cases rs with
    | cons r1 rs =>
      cases rs with
      | cons r2 rs =>
        cases rs
        have a1 := a.same e1
        have a2 := a1.slots ((a1.sl.setd (i := i) r1).setd (i := j) r2)
        refine ⟨_, _, rfl, ?_⟩
        exact k W o p _ H1 F a2 (fun o2 st2 H2 D2 s2 pn sp a3 => kn o2 st2 H2 D2 s2 pn ((Step.pure e1).trans a1 sp) a3) (fun o2 v H2 d s2 pr sp a3 r => kr o2 v H2 d s2 pr ((Step.pure e1).trans a1 sp) a3 r)
theorem xa_star {ds es : List Dt} (h : X c te D (.lst ds)) (t : XA c tl D es) : XA c (tStar c.K te tl) D (ds ++ es) := fun W o p st H Q l a k =>
  h W o p st H _ l a fun v H1 e1 r => by
    cases r with
    | lst e r => exact ⟨_, _, rfl, .inr (SqL.of (hide_sub _ _ e)), t W o p st H1 _ (l.same e1) (a.mono (hide_same e1)) fun vs H2 e2 rs => k _ H2 (e1.trans e2) ((r.mono (hide_same e2)).app rs)⟩
theorem x_dictZ {ks ns : List Int} (h : XA c tl D [.lst (ks.map Dt.int), .lst (ns.map Dt.int)]) (nd : ks.Nodup) (hl : ks.length ≤ 1000) : X c (tDictZ c.K tl) D (.dci (ks.zip ns)) := fun W o p st H Q l a k =>
  h W o p st H _ l a fun vs H1 e1 rs => by
    cases rs with
    | cons r1 rs =>
      cases rs with
      | cons r2 rs =>
        cases rs
        cases r1 with
        | lst h1 r1 =>
          cases r2 with
          | lst h2 r2 =>
            rw [RA.ints r1] at h1
            rw [RA.ints r2] at h2
            exact ⟨_, _, ks, ns, rfl, SqL.of (hide_sub _ _ h1), SqL.of (hide_sub _ _ h2), nd, hl, fun q hq => k _ _ (e1.trans (same_upd hq)) (.dci (new_at (l.same e1) hq))⟩
theorem x_sortSet {ns out : List Int} (h : X c ta D (.lst (ns.map Dt.int))) (hl : ns.length < 64) (hk : ∀ ks : List Int, ks.Pairwise (· < ·) → (∀ k, k ∈ ks ↔ k ∈ ns) → ks = out) : X c (tSortSet c.K ta) D (.lst (out.map Dt.int)) := fun W o p st H Q l a k =>
  h W o p st H _ l a fun v H1 e1 r => by
    cases r with
    | lst e r =>
      rw [RA.ints r] at e
      refine ⟨_, ns, rfl, SqL.of (hide_sub _ _ e), hl, fun ks q h1 h2 hq => ?_⟩
      have ez := hk ks h1 h2
      subst ez
      exact k _ _ (e1.trans (same_upd hq)) (.lst (new_at (l.same e1) hq) (ra_ints ks))
theorem valV_ints {kvs : List (Int × Int)} {k : Int} : valV (kvs.map fun p => ((Sum.inl p.1 : Key), V.int p.2)) (Sum.inl k : Key) = ((kvs.find? fun p => decide (p.1 = k)).map (·.2)).map V.int := by
  induction kvs with
  | nil => rfl
  | cons x r ih =>
    by_cases e : x.1 = k
    · rw [List.map_cons, valV_pos (by rw [e])]
      simp [List.find?_cons, e]
    · rw [List.map_cons, valV_neg (fun z => e (by injection z)), ih]
      simp [List.find?_cons, e]
theorem x_dget {kvs : List (Int × Int)} {k v : Int} (h : X c ta D (.dci kvs)) (hb : X c tb D (.int k)) (e : (kvs.find? fun p => decide (p.1 = k)).map (·.2) = some v) : X c (tDGet ta tb) D (.int v) := fun W o p st H Q l a kk =>
  h W o p st H _ l a fun x H1 e1 rx => hb W o p st H1 _ (l.same e1) (a.mono (hide_same e1)) fun y H2 e2 ry => by
    cases rx with
    | dci h1 =>
      cases ry
      have h2 := hide_sub _ _ (hide_same e2 _ _ h1)
      have g := DGet.k (k := Sum.inl k) h2
      rw [valV_ints, e] at g
      exact ⟨_, _, rfl, g, kk _ H2 (e1.trans e2) (.int _)⟩
theorem x_listRg {i j : Nat} (ha : X c ta D (.int (i : Int))) (hb : X c tb D (.int (j : Int))) (hj : i ≤ j) (hl : j ≤ 1000) : X c (tLstRg (tRg2 ta tb)) D (.lst (((List.range (j - i)).map (i + ·)).map fun n : Nat => Dt.int (n : Int))) := fun W o p st H Q l a k =>
  ha W o p st H _ l a fun x H1 e1 rx => hb W o p st H1 _ (l.same e1) (a.mono (hide_same e1)) fun y H2 e2 ry => by
    cases rx
    cases ry
    refine ⟨_, _, rfl, rfl, RgOk.of_le (by omega) (by omega) (by omega) (by omega), fun q hq => ?_⟩
    have e : rgV (i : Int) (j : Int) = (((List.range (j - i)).map (i + ·)).map Int.ofNat).map V.int := by
      unfold rgV
      rw [show ((j : Int) - (i : Int)).toNat = j - i by omega, List.map_map, List.map_map]
      exact List.map_congr_left fun n _ => by simp
    rw [e]
    have z := ra_ints (c := c) (H := hide W (upd H2 q (.lst ((((List.range (j - i)).map (i + ·)).map Int.ofNat).map V.int)))) (((List.range (j - i)).map (i + ·)).map Int.ofNat)
    refine k _ _ ((e1.trans e2).trans (same_upd hq)) (.lst (new_at ((l.same e1).same e2) hq) ?_)
    rw [show ((((List.range (j - i)).map (i + ·)).map Int.ofNat).map Dt.int) = ((List.range (j - i)).map (i + ·)).map fun n : Nat => Dt.int (n : Int) by rw [List.map_map]; rfl] at z
    exact z
theorem c_joints_of (T : Tx c w mg) : Cal P w c.K mg base 1 "joints_of" (spP c 1 fun ds d => ∃ ls : List Lk, ls.length ≤ 30 ∧ (∀ l ∈ ls, LkOk l) ∧ ds = [.tup (ls.map lkD)] ∧ d = .lst (((jts ls).map Int.ofNat).map Dt.int)) := by
  refine mk_cal T 3 sc_joints_of (fun _ _ _ _ _ _ us hl => match us, hl with | [_], _ => rfl) spP_len fun f cdv A outer s H vs Q E hr h => ⟨_, PSs.nox (pss_cons (ps_set (i := 1) sc_joints_of.nd rfl (by first | exact Or.inl rfl | exact Or.inr rfl) (pe_op op_addU (pe_lc (own := [("name", 2), ("u", 3), ("v", 4)]) rfl sc_joints_of.nd (pi_tupK (K := c.K) rfl (pv 0)) (blkOk_by (own := [("name", 2), ("u", 3), ("v", 4)]) (N := N_joints_of) (sc := defScope s_joints_of) (by decide +kernel)) (fun _ _ _ _ _ => (pg_tupK (n := 3) (K := c.K) rfl rfl (pgs_cons (pg_name (i := 2) sc_joints_of.nd rfl (by first | exact Or.inl rfl | exact Or.inr rfl)) (pgs_cons (pg_name (i := 3) sc_joints_of.nd rfl (by first | exact Or.inl rfl | exact Or.inr rfl)) (pgs_cons (pg_name (i := 4) sc_joints_of.nd rfl (by first | exact Or.inl rfl | exact Or.inr rfl)) pgs_nil))))) (fun _ _ _ _ _ => pts_nil) (fun _ _ _ _ _ => (pv 3))) (pe_lc (own := [("name", 2), ("u", 3), ("v", 4)]) rfl sc_joints_of.nd (pi_tupK (K := c.K) rfl (pv 0)) (blkOk_by (own := [("name", 2), ("u", 3), ("v", 4)]) (N := N_joints_of) (sc := defScope s_joints_of) (by decide +kernel)) (fun _ _ _ _ _ => (pg_tupK (n := 3) (K := c.K) rfl rfl (pgs_cons (pg_name (i := 2) sc_joints_of.nd rfl (by first | exact Or.inl rfl | exact Or.inr rfl)) (pgs_cons (pg_name (i := 3) sc_joints_of.nd rfl (by first | exact Or.inl rfl | exact Or.inr rfl)) (pgs_cons (pg_name (i := 4) sc_joints_of.nd rfl (by first | exact Or.inl rfl | exact Or.inr rfl)) pgs_nil))))) (fun _ _ _ _ _ => pts_nil) (fun _ _ _ _ _ => (pv 4))))) 
      (pss_one (ps_ret (pe_sortSet rfl (by rfl) T.b_sorted (by rfl) T.b_set (pe_lc (own := [("joint", 5)]) rfl sc_joints_of.nd (pi_listK (K := c.K) rfl (pe_lst (pa_cons pe_int (pa_cons pe_int (pa_starK (K := c.K) rfl (pv 1) pa_nil))))) (blkOk_by (own := [("joint", 5)]) (N := N_joints_of) (sc := defScope s_joints_of) (by decide +kernel)) (fun _ _ _ _ _ => (pg_name (i := 5) sc_joints_of.nd rfl (by first | exact Or.inl rfl | exact Or.inr rfl))) (fun _ _ _ _ _ => pts_nil) (fun _ _ _ _ _ => (pe_callTy call_intU (by rfl) T.b_int boot_int (pa_cons (pv 5) pa_nil)))))))), body_p h fun ds d hn hR => ?_⟩
  obtain ⟨ls, hlen, ok, rfl, rfl⟩ := hR
  refine z_setx (d := .lst ((ls.map fun l => Dt.int (l.2.1 : Int)) ++ ls.map fun l => Dt.int (l.2.2 : Int))) (x_addL (x_each (F := lkD) (G2 := fun l => Dt.int (l.2.1 : Int)) (xs_tup (x_var rfl)) (by omega) fun l hl => ⟨_, g_lk l (by simp) (by simp) (by simp), x_var rfl⟩)
    (x_each (F := lkD) (G2 := fun l => Dt.int (l.2.2 : Int)) (xs_tup (x_var rfl)) (by omega) fun l hl => ⟨_, g_lk l (by simp) (by simp) (by simp), x_var rfl⟩) (by simp; omega)) ?_
  refine z_retx (x_sortSet (ns := ([0, 1] : List Int) ++ (ls.map (fun l => (l.2.1 : Int)) ++ ls.map fun l => (l.2.2 : Int))) ?_ (by simp; omega) fun ks h1 h2 => jts_uniq ok h1 h2) rfl
  refine x_each (zs := ([0, 1] : List Int) ++ (ls.map (fun l => (l.2.1 : Int)) ++ ls.map fun l => (l.2.2 : Int))) (F := Dt.int) (G2 := Dt.int) (xs_list ?_) (by simp; omega) fun i hi => ⟨_, g_name (by simp), x_intI (x_var rfl)⟩
  rw [List.map_append, List.map_append, List.map_map, List.map_map]
  refine x_lst (xa_cons x_int (xa_cons x_int ?_)) (by simp; omega)
  have z := xa_star (c := c) (tl := tNil) (D := [SV.d (.tup (ls.map lkD)), .d (.lst ((ls.map fun l => Dt.int (l.2.1 : Int)) ++ ls.map fun l => Dt.int (l.2.2 : Int))), .un, .un, .un, .un]) (te := tVar 1) (x_var rfl) xa_nil
  rw [List.append_nil] at z
  exact z
theorem jts_nodup (ls : List Lk) : ((jts ls).map Int.ofNat).Nodup := by
  have h := (jts_sorted ls).imp fun {a b} (z : a < b) => Nat.ne_of_lt z
  exact List.pairwise_map.mpr (h.imp fun {a b} z e => z (by injection e))
theorem rho_find {ls : List Lk} {l r f j : Nat} (h : j ∈ jts ls) : ((((jts ls).map Int.ofNat).zip ((news ls l r f).map Int.ofNat)).find? fun p => decide (p.1 = (j : Int))).map (·.2) = some ((rho ls l r f j : Nat) : Int) := by
  rw [find_zip, (rho_at h).1]
  rfl
theorem c_renamed_joints (T : Tx c w mg) : Cal P w c.K mg base 2 "renamed_joints" (spP c 4 fun ds d => ∃ (ls : List Lk) (l r f : Nat), ls.length ≤ 30 ∧ (∀ x ∈ ls, LkOk x) ∧
    ds = [.tup (ls.map lkD), .int (l : Int), .int (r : Int), .lst (((List.range ((jts ls).length - 2)).map (f + ·)).map fun n : Nat => Dt.int (n : Int))] ∧ d = .lst ((ren ls l r f).map lkD)) := by
  have c_joints_of := c_joints_of (P := P) (base := base) T
  refine mk_cal T 4 sc_renamed_joints (fun _ _ _ _ _ _ us hl => match us, hl with | [_, _, _, _], _ => rfl) spP_len fun f cdv A outer s H vs Q E hr h => ⟨_, PSs.nox (pss_cons (ps_set (i := 4) sc_renamed_joints.nd rfl (by first | exact Or.inl rfl | exact Or.inr rfl) (pe_dictZ rfl (by rfl) T.b_dict (by rfl) T.b_zip (pa_cons (pe_c c_joints_of hr (by first | decide | omega) (by rfl) (pa_cons (pv 0) pa_nil)) (pa_cons (pe_lst (pa_cons (pv 1) (pa_cons (pv 2) (pa_starK (K := c.K) rfl (pv 3) pa_nil)))) pa_nil)))) 
      (pss_one (ps_ret (pe_lc (own := [("name", 5), ("u", 6), ("v", 7)]) rfl sc_renamed_joints.nd (pi_tupK (K := c.K) rfl (pv 0)) (blkOk_by (own := [("name", 5), ("u", 6), ("v", 7)]) (N := N_renamed_joints) (sc := defScope s_renamed_joints) (by decide +kernel)) (fun _ _ _ _ _ => (pg_tupK (n := 3) (K := c.K) rfl rfl (pgs_cons (pg_name (i := 5) sc_renamed_joints.nd rfl (by first | exact Or.inl rfl | exact Or.inr rfl)) (pgs_cons (pg_name (i := 6) sc_renamed_joints.nd rfl (by first | exact Or.inl rfl | exact Or.inr rfl)) (pgs_cons (pg_name (i := 7) sc_renamed_joints.nd rfl (by first | exact Or.inl rfl | exact Or.inr rfl)) pgs_nil))))) (fun _ _ _ _ _ => pts_nil) (fun _ _ _ _ _ => (pe_tup (pa_cons (pv 5) (pa_cons (pe_dget (hu_of hr) (pv 4) (pv 6) (fun _ _ => rfl)) (pa_cons (pe_dget (hu_of hr) (pv 4) (pv 7) (fun _ _ => rfl)) pa_nil))))))))), body_p h fun ds d hn hR => ?_⟩
  obtain ⟨ls, l, r, f0, hlen, ok, rfl, rfl⟩ := hR
  have hj := jts_len ls
  refine z_setx (d := .dci (((jts ls).map Int.ofNat).zip ((news ls l r f0).map Int.ofNat))) (x_dictZ (xa_cons (x_call (xa_cons (x_var rfl) xa_nil) ⟨ls, hlen, ok, rfl, rfl⟩) (xa_cons ?_ xa_nil)) (jts_nodup ls) (by simp; omega)) ?_
  · rw [show ((news ls l r f0).map Int.ofNat).map Dt.int = Dt.int (l : Int) :: Dt.int (r : Int) :: ((((List.range ((jts ls).length - 2)).map (f0 + ·)).map fun n : Nat => Dt.int (n : Int)) ++ []) by simp [news]]
    exact x_lst (xa_cons (x_var rfl) (xa_cons (x_var rfl) (xa_star (x_var rfl) xa_nil))) (by simp; omega)
  · refine z_retx (x_each (F := lkD) (G2 := fun x => lkD (x.1, rho ls l r f0 x.2.1, rho ls l r f0 x.2.2)) (xs_tup (x_var rfl)) (by omega) fun x hx => ⟨_, g_lk x (by simp) (by simp) (by simp), ?_⟩) (by simp [ren])
    have h1 : x.2.1 ∈ jts ls := (mem_jts ok _).mpr (.inr (.inr (.inl ⟨x, hx, rfl⟩)))
    have h2 : x.2.2 ∈ jts ls := (mem_jts ok _).mpr (.inr (.inr (.inr ⟨x, hx, rfl⟩)))
    exact x_tup (xa_cons (x_var rfl) (xa_cons (x_dget (x_var rfl) (x_var rfl) (rho_find h1)) (xa_cons (x_dget (x_var rfl) (x_var rfl) (rho_find h2)) xa_nil))) (by simp)
/-- the rest of a join, from a part on -/
theorem laidBs_cons (k : Bool) (p : Sh) (ps : List Sh) (b l r f : Nat) : laidBs k (p :: ps) b l r f =
    ((laidB p b (if k && !ps.isEmpty then f else r) (if k && !ps.isEmpty then f + 1 else f)).1 ++ (laidBs k ps (if k then (if k && !ps.isEmpty then f else r) else l) l r (laidB p b (if k && !ps.isEmpty then f else r) (if k && !ps.isEmpty then f + 1 else f)).2).1,
      (laidBs k ps (if k then (if k && !ps.isEmpty then f else r) else l) l r (laidB p b (if k && !ps.isEmpty then f else r) (if k && !ps.isEmpty then f + 1 else f)).2).2) := by
  simp only [laidBs]
abbrev RelLaid (n : Nat) : List Dt → Dt → Prop := fun ds d => ∃ (s : Sh) (l r f : Nat), dep s < n ∧ (TreeOk s ∨ s = .opn ∨ s = .sht) ∧ l < 100 ∧ r < 100 ∧ f + 3 * size s ≤ 90 ∧
  ds = [dat true s, .int (l : Int), .int (r : Int), .int (f : Int)] ∧ d = .tup [.lst ((laidB s l r f).1.map lkD), .int (((laidB s l r f).2 : Nat) : Int)]
theorem prs_map {ps : List Sh} {F : Sh → Dt} : prs_ (ps.map F) = ps.zipIdx.map fun z => Dt.tup [.int (z.2 : Nat), F z.1] := by
  apply List.ext_getElem?
  intro i
  unfold prs_
  rw [List.getElem?_zipWith, List.getElem?_map, List.getElem?_map, List.getElem?_zipIdx]
  cases q : ps[i]? with
  | none => simp
  | some p =>
    have hl := (List.getElem?_eq_some_iff.mp q).1
    rw [List.getElem?_range (by simpa using hl)]
    simp
theorem z_par1 {i j : Nat} {d1 d2 : Dt} {s : Sto} {Pn : List SV → Sto → Prop} {Pr : Dt → Sto → Prop} (h : XA c tl D [d1, d2]) (q : Pn ((D.set i (.d d1)).set j (.d d2)) s) : Z c (tPar i j tl) D s Pn Pr := fun W o p st H F a kn kr =>
  h _ o p st H _ a.lv a.sl fun vs H1 e1 rs => by
    cases rs with
    | cons r1 rs =>
      cases rs with
      | cons r2 rs =>
        cases rs
        have a1 := a.same e1
        have a2 := a1.slots ((a1.sl.setd (i := i) r1).setd (i := j) r2)
        exact ⟨_, _, rfl, kn o _ H1 _ s q (Step.pure e1) a2⟩
/-- a slot that the own list does not stand in -/
def Dul (x : SV) : Prop := x = .un ∨ ∃ d, x = .d d
theorem c_laid_between (T : Tx c w mg) : ∀ n : Nat, Cal P w c.K mg base (3 + n) "laid_between" (spP c 4 (RelLaid n)) := by
  have c_joints_of := c_joints_of (P := P) (base := base) T
  have c_renamed_joints := c_renamed_joints (P := P) (base := base) T
  intro n
  induction n with
  | zero => exact mk_cal (k := 2) T 5 sc_laid_between (fun _ _ _ _ _ _ us hl => match us, hl with | [_, _, _, _], _ => rfl) spP_len fun f cdv A outer s H vs Q E hr h =>
      let ⟨_, _, _, _, _, _, ⟨_, _, _, _, h0, _⟩, _⟩ := h; absurd h0 (Nat.not_lt_zero _)
  | succ n c_laid_between =>
    refine mk_cal (k := 3 + n) T 5 sc_laid_between (fun _ _ _ _ _ _ us hl => match us, hl with | [_, _, _, _], _ => rfl) spP_len fun f cdv A outer s H vs Q E hr h => ⟨_, PSs.nox (pss_cons (ps_if (pt_cmpR (op_eqDK (K := c.K) rfl hr.units) (pe_ix (ix_seqK (K := c.K) rfl) (pv 0) pe_int (fun _ _ => rfl)) pe_str (nomark _))
        (pss_one (ps_ret (pe_tup (pa_cons (pe_lst (pa_cons (pe_tup (pa_cons (pe_ix (ix_seqK (K := c.K) rfl) (pv 0) pe_int (fun _ _ => rfl)) (pa_cons (pv 1) (pa_cons (pv 2) pa_nil)))) pa_nil)) (pa_cons (pv 3) pa_nil)))))
        pss_nil) 
      (pss_cons (ps_if (pt_cmpR (op_eqDK (K := c.K) rfl hr.units) (pe_ix (ix_seqK (K := c.K) rfl) (pv 0) pe_int (fun _ _ => rfl)) pe_str (nomark _))
        (pss_cons (ps_set (i := 4) sc_laid_between.nd rfl (by first | exact Or.inl rfl | exact Or.inr rfl) (pe_op op_sub (pe_op op_addU (pv 3) (pe_callB (call_lenK (K := c.K) rfl) (by rfl) T.b_len boot_len (pa_cons (pe_c c_joints_of hr (by first | decide | omega) (by rfl) (pa_cons (pe_ix (ix_seqK (K := c.K) rfl) (pv 0) pe_int (fun _ _ => rfl)) pa_nil)) pa_nil))) pe_int)) 
        (pss_one (ps_ret (pe_tup (pa_cons (pe_c c_renamed_joints hr (by first | decide | omega) (by rfl) (pa_cons (pe_ix (ix_seqK (K := c.K) rfl) (pv 0) pe_int (fun _ _ => rfl)) (pa_cons (pv 1) (pa_cons (pv 2) (pa_cons (pe_listRg rfl (by rfl) T.b_list (prg_2 (by rfl) T.b_range (pv 3) (pv 4))) pa_nil))))) (pa_cons (pv 4) pa_nil))))))
        pss_nil) 
      (pss_cons (ps_set (i := 5) sc_laid_between.nd rfl (by first | exact Or.inl rfl | exact Or.inr rfl) (pe_lst pa_nil)) 
      (pss_cons (ps_set (i := 6) sc_laid_between.nd rfl (by first | exact Or.inl rfl | exact Or.inr rfl) (pv 1)) 
      (pss_cons (ps_set (i := 7) sc_laid_between.nd rfl (by first | exact Or.inl rfl | exact Or.inr rfl) (pe_ifExp (pt_cmpR (op_inK (K := c.K) rfl) (pe_ix (ix_seqK (K := c.K) rfl) (pv 0) pe_int (fun _ _ => rfl)) (pe_tup (pa_cons pe_str (pa_cons pe_str pa_nil))) rfl) (pe_ix (ix_seqK (K := c.K) rfl) (pv 0) pe_int (fun _ _ => rfl)) (pe_tup pa_nil))) 
      (pss_cons (ps_for PassesOwn.never rfl (pi_enumT (by rfl) T.b_enumerate (pa_cons (pv 7) pa_nil)) (pg_tupK (n := 2) (K := c.K) rfl rfl (pgs_cons (pg_name (i := 8) sc_laid_between.nd rfl (by first | exact Or.inl rfl | exact Or.inr rfl)) (pgs_cons (pg_name (i := 9) sc_laid_between.nd rfl (by first | exact Or.inl rfl | exact Or.inr rfl)) pgs_nil)))
        (pss_cons (ps_set (i := 10) sc_laid_between.nd rfl (by first | exact Or.inl rfl | exact Or.inr rfl) (pv 2)) 
        (pss_cons (ps_if (PW.pt (pw_and (pt_cmpR (op_eqDK (K := c.K) rfl hr.units) (pe_ix (ix_seqK (K := c.K) rfl) (pv 0) pe_int (fun _ _ => rfl)) pe_str (nomark _)) (pw_and1 (pt_cmpR op_lt (pv 8) (pe_op op_sub (pe_callB (call_lenK (K := c.K) rfl) (by rfl) T.b_len boot_len (pa_cons (pv 7) pa_nil)) pe_int) (nomark _)))))
          (pss_one (ps_par (i := 10) (j := 3) rfl sc_laid_between.nd rfl rfl (by decide) rfl rfl (pa_cons (pv 3) (pa_cons (pe_op op_addU (pv 3) pe_int) pa_nil)) (by rfl)))
          pss_nil) 
        (pss_cons (ps_asg (pe_c c_laid_between hr (by first | decide | omega) (by rfl) (pa_cons (pv 9) (pa_cons (pv 6) (pa_cons (pv 10) (pa_cons (pv 3) pa_nil))))) (pg_tupK (n := 2) (K := c.K) rfl rfl (pgs_cons (pg_name (i := 11) sc_laid_between.nd rfl (by first | exact Or.inl rfl | exact Or.inr rfl)) (pgs_cons (pg_name (i := 3) sc_laid_between.nd rfl (by first | exact Or.inl rfl | exact Or.inr rfl)) pgs_nil)))) 
        (pss_cons (ps_expr (pe_bmK (K := c.K) rfl PySem.F.plainAttrs_list PySem.F.slot_list_extend PySem.F.type_list_extend (mt_extUK (K := c.K) rfl) (pv 5) (pa_cons (pv 11) pa_nil))) 
        (pss_one (ps_set (i := 6) sc_laid_between.nd rfl (by first | exact Or.inl rfl | exact Or.inr rfl) (pe_ifExp (pt_cmpR (op_eqDK (K := c.K) rfl hr.units) (pe_ix (ix_seqK (K := c.K) rfl) (pv 0) pe_int (fun _ _ => rfl)) pe_str (nomark _)) (pv 10) (pv 1))))))))) 
      (pss_one (ps_ret (pe_tup (pa_cons (pv 5) (pa_cons (pv 3) pa_nil))))))))))), body_p h fun ds d hn hR => ?_⟩
    obtain ⟨s, l, r, f0, hdep, hok, hl, hr2, hf, rfl, rfl⟩ := hR
    refine z_ifr (xt_test (x_tagLink (s := s) (b := true) (x_var rfl))) (fun e => ?_) fun e1 => ?_
    · obtain ⟨n, rfl⟩ : ∃ n, s = .link n := by cases s <;> first | exact ⟨_, rfl⟩ | cases e
      refine z_retx (x_tup (xa_cons (x_lst (xa_cons (x_tup (xa_cons (x_arg (s := .link n) (b := true) (x_var rfl) rfl) (xa_cons (x_var rfl) (xa_cons (x_var rfl) xa_nil))) (by simp)) xa_nil) (by simp)) (xa_cons (x_var rfl) xa_nil)) (by simp)) rfl
    refine z_ifr (xt_test (x_tagNet (s := s) (b := true) (x_var rfl))) (fun e => ?_) fun e2 => ?_
    · obtain ⟨ls, rfl⟩ : ∃ ls, s = .net ls := by cases s <;> first | exact ⟨_, rfl⟩ | cases e
      have h' : ls ≠ [] ∧ ∀ x ∈ ls, LkOk x := by
        rcases hok with h | h | h
        · exact h
        · cases h
        · cases h
      have hz : f0 + 3 * ls.length ≤ 90 := hf
      have hj := jts_len ls
      have h2 : 2 ≤ (jts ls).length := by
        obtain ⟨t, e⟩ := jts_two ls
        rw [e]
        simp
      have lt : f0 ≤ f0 + (jts ls).length - 2 := by omega
      refine z_setx (d := .int ((f0 + (jts ls).length - 2 : Nat) : Int)) ?_ ?_
      · have e : ((f0 + (jts ls).length - 2 : Nat) : Int) = (f0 : Int) + ((((jts ls).map Int.ofNat).map Dt.int).length : Nat) - 2 := by
          simp only [List.length_map]
          omega
        rw [e]
        exact x_sub (x_addI (x_var rfl) (x_lenL (x_call (xa_cons (x_arg (s := .net ls) (b := true) (x_var rfl) rfl) xa_nil) ⟨ls, by omega, h'.2, rfl, rfl⟩))) x_int
      · refine z_retx (x_tup (xa_cons (x_call (xa_cons (x_arg (s := .net ls) (b := true) (x_var rfl) rfl) (xa_cons (x_var rfl) (xa_cons (x_var rfl) (xa_cons (x_listRg (x_var rfl) (x_var rfl) lt (by omega)) xa_nil)))) ⟨ls, l, r, f0, by omega, h'.2, ?_, rfl⟩) (xa_cons (x_var rfl) xa_nil)) (by simp)) rfl
        rw [show f0 + (jts ls).length - 2 - f0 = (jts ls).length - 2 by omega]
        rfl
    obtain ⟨k, ps, hs⟩ : ∃ k ps, s = .join k ps ∨ (ps = [] ∧ (s = .opn ∨ s = .sht)) := by
      cases s with
      | opn => exact ⟨true, [], .inr ⟨rfl, .inl rfl⟩⟩
      | sht => exact ⟨true, [], .inr ⟨rfl, .inr rfl⟩⟩
      | link n => cases e1
      | net ls => cases e2
      | join k ps => exact ⟨k, ps, .inl rfl⟩
    have htot : laidB s l r f0 = laidBs k ps l l r f0 := by
      rcases hs with rfl | ⟨rfl, rfl | rfl⟩ <;> rfl
    have hsz : size s = sizes ps := by
      rcases hs with rfl | ⟨rfl, rfl | rfl⟩ <;> rfl
    have hps : ∀ p ∈ ps, TreeOk p ∧ dep p < n := fun p hp => by
      rcases hs with rfl | ⟨rfl, _⟩
      · have h' : TreeOk (.join k ps) := by
          rcases hok with h | h | h
          · exact h
          · cases h
          · cases h
        have h1 := treeOks_iff.mp (show TreeOks ps from h'.2)
        have := dep_mem hp
        have h2 : deps ps + 1 < n + 1 := hdep
        exact ⟨h1 p hp, by omega⟩
      · cases hp
    have hkk : ps ≠ [] → isK true s = k := fun hne => by
      rcases hs with rfl | ⟨rfl, _⟩
      · cases k <;> rfl
      · exact absurd rfl hne
    rw [htot]
    rw [hsz] at hf
    refine z_newx (j := 5) rfl ?_
    refine z_setx (x_var (i := 1) (d := .int (l : Int)) rfl) ?_
    refine z_setx (d := .tup (ps.map (dat true))) (x_if (xt_test (x_tagJoin (s := s) (b := true) (x_var rfl))) (fun e => ?_) fun e => ?_) ?_
    · rcases hs with rfl | ⟨rfl, rfl | rfl⟩
      · exact x_arg (s := .join k ps) (b := true) (x_var rfl) rfl
      · cases e
      · cases e
    · rcases hs with rfl | ⟨rfl, _⟩
      · cases e
      · exact x_tup xa_nil (by simp)
    have XSp := xs_enumT (c := c) (te := tVar 7) (D := [SV.d (dat true s), .d (.int (l : Int)), .d (.int (r : Int)), .d (.int (f0 : Int)), .un, .own, .d (.int (l : Int)), .d (.tup (ps.map (dat true))), .un, .un, .un, .un]) (x_var rfl)
    rw [prs_map] at XSp
    refine z_then (Pm := fun D' s' => ∃ x8 x9 x10 x11 b f, Dul x8 ∧ Dul x9 ∧ Dul x10 ∧ Dul x11 ∧ f = (laidBs k ps l l r f0).2 ∧ D' = [SV.d (dat true s), .d (.int (l : Int)), .d (.int (r : Int)), .d (.int (f : Int)), .un, .own, .d (.int b), .d (.tup (ps.map (dat true))), x8, x9, x10, x11] ∧ s' = ⟨some ((laidBs k ps l l r f0).1.map lkD), .no⟩)
      (z_each (vs := [8, 9]) XSp (fun i D' s' => ∃ x8 x9 x10 x11 b f acc, Dul x8 ∧ Dul x9 ∧ Dul x10 ∧ Dul x11 ∧ b < 100 ∧ f + 3 * sizes (ps.drop i) ≤ 90 ∧ acc.length + sizes (ps.drop i) = sizes ps ∧
          laidBs k ps l l r f0 = (acc ++ (laidBs k (ps.drop i) b l r f).1, (laidBs k (ps.drop i) b l r f).2) ∧
          D' = [SV.d (dat true s), .d (.int (l : Int)), .d (.int (r : Int)), .d (.int (f : Int)), .un, .own, .d (.int (b : Int)), .d (.tup (ps.map (dat true))), x8, x9, x10, x11] ∧ s' = ⟨some (acc.map lkD), .no⟩)
        ⟨.un, .un, .un, .un, l, f0, [], .inl rfl, .inl rfl, .inl rfl, .inl rfl, hl, hf, by simp, by simp, rfl, rfl⟩ ?_ ?_) ?_
    · rintro i z D1 s1 hz ⟨x8, x9, x10, x11, b, f, acc, -, -, -, -, hb, hf2, hacc, hrec, rfl, rfl⟩
      rw [List.getElem?_zipIdx] at hz
      cases q : ps[i]? with
      | none => rw [q] at hz; cases hz
      | some p =>
        rw [q] at hz
        cases hz
        have hlt := (List.getElem?_eq_some_iff.mp q).1
        have hdr : ps.drop i = p :: ps.drop (i + 1) := by
          rw [List.drop_eq_getElem_cons hlt, (List.getElem?_eq_some_iff.mp q).2]
        obtain ⟨tp, dp⟩ := hps p (List.mem_of_getElem? q)
        have hpp := tree_pos tp
        rw [hdr] at hf2 hacc hrec
        simp only [sizes] at hf2 hacc
        rw [laidBs_cons] at hrec
        generalize hrest : ps.drop (i + 1) = rest at hf2 hacc hrec
        have hk : isK true s = k := hkk fun e => by rw [e] at q; cases q
        have hie : decide ((i : Int) < ((ps.length : Nat) : Int) - 1) = !rest.isEmpty := by
          rw [← hrest]
          cases q2 : (ps.drop (i + 1)) with
          | nil =>
            have := List.drop_eq_nil_iff.mp q2
            simp
            omega
          | cons y ys =>
            have h3 : ¬ ps.length ≤ i + 1 := fun h => by
              rw [List.drop_eq_nil_of_le h] at q2
              cases q2
            simp
            omega
        have hrp : rest ≠ [] → 1 ≤ sizes rest := fun hne => by
          cases q3 : rest with
          | nil => exact absurd q3 hne
          | cons y ys =>
            have hy : y ∈ ps := by
              have : y ∈ ps.drop (i + 1) := by rw [hrest, q3]; simp
              exact List.mem_of_mem_drop this
            have := tree_pos (hps y hy).1
            simp only [sizes]
            omega
        generalize he : (if k && !rest.isEmpty then f else r) = e at hrec
        generalize hg : (if k && !rest.isEmpty then f + 1 else f) = g at hrec
        have hfg : f ≤ g ∧ g ≤ f + 1 ∧ g + 3 * size p ≤ 90 ∧ e < 100 := by
          rw [← he, ← hg]
          cases q4 : (k && !rest.isEmpty) with
          | false => simp; omega
          | true =>
            have : rest ≠ [] := fun e => by rw [e] at q4; simp at q4
            have := hrp this
            simp
            omega
        obtain ⟨x1, x2⟩ := laidB_ok p tp b e g hb hfg.2.2.2 (by omega)
        refine ⟨_, g_tup2 (by simp) (by simp), ?_⟩
        refine z_setx (x_var (i := 2) (d := .int (r : Int)) rfl) ?_
        refine z_seq (Pm := fun D' s' => D' = [SV.d (dat true s), .d (.int (l : Int)), .d (.int (r : Int)), .d (.int (g : Int)), .un, .own, .d (.int (b : Int)), .d (.tup (ps.map (dat true))), .d (.int (i : Nat)), .d (dat true p), .d (.int (e : Int)), x11] ∧ s' = ⟨some (acc.map lkD), .no⟩) (z_ifx (b := k && !rest.isEmpty) (xt_and (b := k) (b2 := !rest.isEmpty) (xt_test ?_) fun _ => xt_test ?_) (fun e4 => ?_) fun e4 => ?_) ?_
        · rw [← hk]
          exact x_tagRow (s := s) (b := true) (x_var rfl)
        · rw [← hie]
          have z := x_lt (c := c) (ta := tVar 8) (tb := tOp (rI0 fun i j => .int (i - j)) (tCB (fun xs H Q => ∃ x n, xs = [x] ∧ LenV c.K x H n ∧ Q (.int n) H) (tCons (tVar 7) tNil)) (tC (.int 1))) (D := [SV.d (dat true s), .d (.int (l : Int)), .d (.int (r : Int)), .d (.int (f : Int)), .un, .own, .d (.int (b : Int)), .d (.tup (ps.map (dat true))), .d (.int (i : Nat)), .d (dat true p), .d (.int (r : Int)), x11]) (x_var rfl) (x_sub (x_lenT (x_var rfl)) x_int)
          rw [List.length_map] at z
          rw [Nat.zero_add]
          exact z
        · rw [if_pos e4] at he hg
          subst he hg
          rw [Nat.zero_add]
          exact z_par1 (d1 := .int (f : Int)) (d2 := .int ((f + 1 : Nat) : Int)) (xa_cons (x_var rfl) (xa_cons (show X c _ _ (.int ((f : Int) + 1)) from x_addI (x_var rfl) x_int) xa_nil)) ⟨rfl, rfl⟩
        · rw [if_neg (by rw [e4]; simp)] at he hg
          subst he hg
          rw [Nat.zero_add]
          exact z_nextx ⟨rfl, rfl⟩
        rintro D1 s1 ⟨rfl, rfl⟩
        refine z_asgx (d := .tup [.lst ((laidB p b e g).1.map lkD), .int (((laidB p b e g).2 : Nat) : Int)]) (vs := [11, 3]) (x_call (xa_cons (x_var rfl) (xa_cons (x_var rfl) (xa_cons (x_var rfl) (xa_cons (x_var rfl) xa_nil)))) ⟨p, b, e, g, dp, .inl tp, hb, hfg.2.2.2, hfg.2.2.1, rfl, rfl⟩) (g_tup2 (by simp) (by simp)) ?_
        refine z_then (z_ext1 (Pn := fun D' s' => D' = [SV.d (dat true s), .d (.int (l : Int)), .d (.int (r : Int)), .d (.int (((laidB p b e g).2 : Nat) : Int)), .un, .own, .d (.int (b : Int)), .d (.tup (ps.map (dat true))), .d (.int (i : Nat)), .d (dat true p), .d (.int (e : Int)), .d (.lst ((laidB p b e g).1.map lkD))] ∧ s' = ⟨some (acc.map lkD ++ (laidB p b e g).1.map lkD), .no⟩) (j := 5) rfl rfl (by simp only [List.length_map, x1.len]; omega) (x_var rfl) (.inl rfl) ⟨rfl, rfl⟩) ?_
        rintro D1 s1 ⟨rfl, rfl⟩
        refine z_set1 (d := .int ((if k then e else l : Nat) : Int)) (x_if (b := k) (xt_test ?_) (fun e5 => ?_) fun e5 => ?_) ?_
        · rw [← hk]
          exact x_tagRow (s := s) (b := true) (x_var rfl)
        · rw [if_pos e5]
          exact x_var rfl
        · rw [if_neg (by rw [e5]; simp)]
          exact x_var rfl
        refine ⟨_, _, _, _, _, _, acc ++ (laidB p b e g).1, .inr ⟨_, rfl⟩, .inr ⟨_, rfl⟩, .inr ⟨_, rfl⟩, .inr ⟨_, rfl⟩, ?_, ?_, ?_, ?_, rfl, ?_⟩
        · split
          · exact hfg.2.2.2
          · exact hl
        · omega
        · rw [List.length_append, x1.len]
          omega
        · rw [hrec, List.append_assoc]
        · rw [List.map_append]
    · rintro D1 s1 ⟨x8, x9, x10, x11, b, f, acc, h8, h9, h10, h11, hb, hf2, hacc, hrec, rfl, rfl⟩
      rw [List.length_zipIdx, List.drop_length] at hrec
      simp only [laidBs, List.append_nil] at hrec
      refine ⟨x8, x9, x10, x11, (b : Int), f, h8, h9, h10, h11, by rw [hrec], rfl, by rw [hrec]⟩
    rintro D1 s1 ⟨x8, x9, x10, x11, b, f, h8, h9, h10, h11, rfl, rfl, rfl⟩
    refine z_freeze (j := 5) rfl rfl (by rcases h8 with rfl | ⟨_, rfl⟩ <;> rcases h9 with rfl | ⟨_, rfl⟩ <;> rcases h10 with rfl | ⟨_, rfl⟩ <;> rcases h11 with rfl | ⟨_, rfl⟩ <;> rfl) ?_
    exact z_retx (x_tup (xa_cons (x_var rfl) (xa_cons (x_var rfl) xa_nil)) (by simp)) rfl
theorem norm_laid {s : Sh} (h : Norm s) : TreeOk s ∨ s = .opn ∨ s = .sht := by
  by_cases h1 : s = .opn
  · exact .inr (.inl h1)
  · by_cases h2 : s = .sht
    · exact .inr (.inr h2)
    · exact .inl (norm_tree s h h1 h2)
theorem norm_dep {s : Sh} (h : Norm s) (hz : size s ≤ 14) : dep s ≤ 13 := by
  rcases norm_laid h with h | rfl | rfl
  · have := tree_size s h
    omega
  · exact Nat.zero_le _
  · exact Nat.zero_le _
theorem laidB_ok' {s : Sh} (h : Norm s) (hz : size s ≤ 14) : LOk (size s) 2 (laidB s 0 1 2) := by
  rcases norm_laid h with h | rfl | rfl
  · exact (laidB_ok s h 0 1 2 (by omega) (by omega) (by omega)).1
  · exact ⟨fun l hl => absurd hl (by simp [laidB]), rfl, Nat.le_refl _⟩
  · exact ⟨fun l hl => absurd hl (by simp [laidB]), rfl, Nat.le_refl _⟩
theorem c_laid (T : Tx c w mg) : Cal P w c.K mg base 18 "laid" (spP c 1 fun ds d => ∃ s, Norm s ∧ size s ≤ 14 ∧ ds = [dat true s] ∧ d = .tup ((laidM s).map lkD)) := by
  have c_ordered := c_ordered (P := P) (base := base) T
  have c_laid_between := c_laid_between (P := P) (base := base) T 14
  refine mk_cal T 6 sc_laid (fun _ _ _ _ _ _ us hl => match us, hl with | [_], _ => rfl) spP_len fun f cdv A outer s H vs Q E hr h => ⟨_, PSs.nox (pss_one (ps_ret (pe_ifExp (pt_cmpR (op_eqDK (K := c.K) rfl hr.units) (pe_ix (ix_seqK (K := c.K) rfl) (pv 0) pe_int (fun _ _ => rfl)) pe_str (nomark _)) (pe_ix (ix_seqK (K := c.K) rfl) (pv 0) pe_int (fun _ _ => rfl)) (pe_c c_ordered hr (by first | decide | omega) (by rfl) (pa_cons (pe_ix (ix_seqK (K := c.K) rfl) (pe_c c_laid_between hr (by first | decide | omega) (by rfl) (pa_cons (pv 0) (pa_cons pe_int (pa_cons pe_int (pa_cons (C8.pe_gc (by rfl) T.g_FIRST_INNER) pa_nil))))) pe_int (fun _ _ => rfl)) pa_nil))))), body_p h fun ds d hn hR => ?_⟩
  obtain ⟨s, hs, hz, rfl, rfl⟩ := hR
  refine z_retx (x_if (xt_test (x_tagNet (s := s) (b := true) (x_var rfl))) (fun e => ?_) fun e => ?_) rfl
  · obtain ⟨ls, rfl⟩ : ∃ ls, s = .net ls := by cases s <;> first | exact ⟨_, rfl⟩ | cases e
    exact x_arg (s := .net ls) (b := true) (x_var rfl) rfl
  · have e2 : laidM s = ordered (laidB s 0 1 2).1 := by cases s <;> first | rfl | cases e
    have hL := laidB_ok' hs hz
    have hd := norm_dep hs hz
    have hlen := hL.len
    rw [e2]
    refine x_call (xa_cons (x_ixT (n := 0) (x_call (xa_cons (x_var rfl) (xa_cons x_int (xa_cons x_int (xa_cons (x_c fun _ => .int 2) xa_nil)))) ⟨s, 0, 1, 2, by omega, norm_laid hs, by omega, by omega, by omega, rfl, rfl⟩) x_int rfl rfl) xa_nil) ⟨(laidB s 0 1 2).1, by omega, hL.ok, rfl, rfl⟩
theorem c_places_in (T : Tx c w mg) : Cal P w c.K mg base 19 "places_in" (spP c 1 fun ds d => ∃ s, Norm s ∧ size s ≤ 14 ∧ ds = [dat true s] ∧ d = .lst ((laidM s).map fun l => Dt.str l.1)) := by
  have c_laid := c_laid (P := P) (base := base) T
  refine mk_cal T 7 sc_places_in (fun _ _ _ _ _ _ us hl => match us, hl with | [_], _ => rfl) spP_len fun f cdv A outer s H vs Q E hr h => ⟨_, PSs.nox (pss_one (ps_ret (pe_lc (own := [("name", 1), ("u", 2), ("v", 3)]) rfl sc_places_in.nd (pi_tupK (K := c.K) rfl (pe_c c_laid hr (by first | decide | omega) (by rfl) (pa_cons (pv 0) pa_nil))) (blkOk_by (own := [("name", 1), ("u", 2), ("v", 3)]) (N := N_places_in) (sc := defScope s_places_in) (by decide +kernel)) (fun _ _ _ _ _ => (pg_tupK (n := 3) (K := c.K) rfl rfl (pgs_cons (pg_name (i := 1) sc_places_in.nd rfl (by first | exact Or.inl rfl | exact Or.inr rfl)) (pgs_cons (pg_name (i := 2) sc_places_in.nd rfl (by first | exact Or.inl rfl | exact Or.inr rfl)) (pgs_cons (pg_name (i := 3) sc_places_in.nd rfl (by first | exact Or.inl rfl | exact Or.inr rfl)) pgs_nil))))) (fun _ _ _ _ _ => pts_nil) (fun _ _ _ _ _ => (pv 1))))), body_p h fun ds d hn hR => ?_⟩
  obtain ⟨s, hs, hz, rfl, rfl⟩ := hR
  have hL := (laidM_ok hs hz).2
  refine z_retx (x_each (zs := laidM s) (F := lkD) (G2 := fun l => Dt.str l.1) (xs_tup (x_call (xa_cons (x_var rfl) xa_nil) ⟨s, hs, hz, rfl, rfl⟩)) (by omega) fun l hl => ⟨_, g_lk l (by simp) (by simp) (by simp), x_var rfl⟩) rfl
abbrev RelText (n : Nat) : List Dt → Dt → Prop := fun ds d => ∃ s : Sh, dep s < n ∧ (TreeOk s ∨ s = .opn ∨ s = .sht) ∧ size s ≤ 14 ∧ ds = [dat true s] ∧ d = .str (txt s)
theorem txt_small {s : Sh} (h : TreeOk s ∨ s = .opn ∨ s = .sht) (hz : size s ≤ 14) : (txt s).length ≤ 420 := by
  rcases h with h | rfl | rfl
  · have := txt_len s h
    omega
  · exact (by decide : (txt .opn).length ≤ 420)
  · exact (by decide : (txt .sht).length ≤ 420)
theorem c_shape_text (T : Tx c w mg) : ∀ n : Nat, Cal P w c.K mg base (1 + n) "shape_text" (spP c 1 (RelText n)) := by
  intro n
  induction n with
  | zero => exact mk_cal (k := 0) T 8 sc_shape_text (fun _ _ _ _ _ _ us hl => match us, hl with | [_], _ => rfl) spP_len fun f cdv A outer s H vs Q E hr h =>
      let ⟨_, _, _, _, _, _, ⟨_, h0, _⟩, _⟩ := h; absurd h0 (Nat.not_lt_zero _)
  | succ n c_shape_text =>
    refine mk_cal (k := 1 + n) T 8 sc_shape_text (fun _ _ _ _ _ _ us hl => match us, hl with | [_], _ => rfl) spP_len fun f cdv A outer s H vs Q E hr h => ⟨_, PSs.nox (pss_cons (ps_if (pt_cmpR (op_eqDK (K := c.K) rfl hr.units) (pe_ix (ix_seqK (K := c.K) rfl) (pv 0) pe_int (fun _ _ => rfl)) pe_str (nomark _))
        (pss_one (ps_ret (pe_callTy call_strU (by rfl) T.b_str boot_str (pa_cons (pe_ix (ix_seqK (K := c.K) rfl) (pv 0) pe_int (fun _ _ => rfl)) pa_nil))))
        pss_nil) 
      (pss_cons (ps_if (pt_cmpR (op_eqDK (K := c.K) rfl hr.units) (pe_ix (ix_seqK (K := c.K) rfl) (pv 0) pe_int (fun _ _ => rfl)) pe_str (nomark _))
        (pss_cons (ps_setLc (i := 1) (own := [("name", 3), ("u", 4), ("v", 5)]) rfl sc_shape_text.nd rfl rfl (sw_true rfl rfl rfl (by decide +kernel)) (pi_tupK (K := c.K) rfl (pe_ix (ix_seqK (K := c.K) rfl) (pv 0) pe_int (fun _ _ => rfl))) (blkOk_by (own := [("name", 3), ("u", 4), ("v", 5)]) (N := N_shape_text) (sc := defScope s_shape_text) (by decide +kernel)) (fun _ _ _ _ _ => (pg_tupK (n := 3) (K := c.K) rfl rfl (pgs_cons (pg_name (i := 3) sc_shape_text.nd rfl (by first | exact Or.inl rfl | exact Or.inr rfl)) (pgs_cons (pg_name (i := 4) sc_shape_text.nd rfl (by first | exact Or.inl rfl | exact Or.inr rfl)) (pgs_cons (pg_name (i := 5) sc_shape_text.nd rfl (by first | exact Or.inl rfl | exact Or.inr rfl)) pgs_nil))))) (fun _ _ _ _ _ => pts_nil) (fun _ _ _ _ _ => (pe_joined (PJ.cons (pe_fmt (pv 4)) (PJ.cons pe_str (PJ.cons (pe_fmt (pv 3)) (PJ.cons pe_str (PJ.cons (pe_fmt (pv 5)) PJ.nil)))))))) 
        (pss_one (ps_ret (pe_joined (PJ.cons pe_str (PJ.cons (pe_fmt (pe_join pe_str (pv 1))) (PJ.cons pe_str PJ.nil)))))))
        pss_nil) 
      (pss_cons (ps_if (pt_cmpR (op_inK (K := c.K) rfl) (pe_ix (ix_seqK (K := c.K) rfl) (pv 0) pe_int (fun _ _ => rfl)) (pe_tup (pa_cons pe_str (pa_cons pe_str pa_nil))) rfl)
        (pss_cons (ps_set (i := 2) sc_shape_text.nd rfl (by first | exact Or.inl rfl | exact Or.inr rfl) (pe_ifExp (pt_cmpR (op_eqDK (K := c.K) rfl hr.units) (pe_ix (ix_seqK (K := c.K) rfl) (pv 0) pe_int (fun _ _ => rfl)) pe_str (nomark _)) pe_str pe_str)) 
        (pss_one (ps_ret (pe_joined (PJ.cons pe_str (PJ.cons (pe_fmt (pe_join (pv 2) (pe_lc (own := [("part", 6)]) rfl sc_shape_text.nd (pi_tupK (K := c.K) rfl (pe_ix (ix_seqK (K := c.K) rfl) (pv 0) pe_int (fun _ _ => rfl))) (blkOk_by (own := [("part", 6)]) (N := N_shape_text) (sc := defScope s_shape_text) (by decide +kernel)) (fun _ _ _ _ _ => (pg_name (i := 6) sc_shape_text.nd rfl (by first | exact Or.inl rfl | exact Or.inr rfl))) (fun _ _ _ _ _ => pts_nil) (fun _ _ _ _ _ => (pe_c c_shape_text hr (by first | decide | omega) (by rfl) (pa_cons (pv 6) pa_nil)))))) (PJ.cons pe_str PJ.nil)))))))
        pss_nil) 
      (pss_one (ps_ret (pe_callTy call_strU (by rfl) T.b_str boot_str (pa_cons (pe_ix (ix_seqK (K := c.K) rfl) (pv 0) pe_int (fun _ _ => rfl)) pa_nil))))))), body_p h fun ds d hn hR => ?_⟩
    obtain ⟨s, hdep, hok, hz, rfl, rfl⟩ := hR
    have hsm := txt_small hok hz
    refine z_ifr (xt_test (x_tagLink (s := s) (b := true) (x_var rfl))) (fun e => ?_) fun e1 => ?_
    · obtain ⟨n, rfl⟩ : ∃ n, s = .link n := by cases s <;> first | exact ⟨_, rfl⟩ | cases e
      exact z_retx (x_strS (x_arg (s := .link n) (b := true) (x_var rfl) rfl)) rfl
    refine z_ifr (xt_test (x_tagNet (s := s) (b := true) (x_var rfl))) (fun e => ?_) fun e2 => ?_
    · obtain ⟨ls, rfl⟩ : ∃ ls, s = .net ls := by cases s <;> first | exact ⟨_, rfl⟩ | cases e
      have h' : ls ≠ [] ∧ ∀ x ∈ ls, LkOk x := by
        rcases hok with h | h | h
        · exact h
        · cases h
        · cases h
      have hl : ls.length ≤ 14 := hz
      have hsm2 : ([91] ++ (TL.joinL [32] (ls.map lkT) ++ [93])).length ≤ 420 := hsm
      simp only [List.length_append, List.length_cons, List.length_nil] at hsm2
      refine z_setx (d := .lst ((ls.map lkT).map Dt.str)) ?_ ?_
      · rw [List.map_map]
        refine x_each (F := lkD) (G2 := fun l => Dt.str (lkT l)) (xs_tup (x_arg (s := .net ls) (b := true) (x_var rfl) rfl)) (by omega) fun l hl => ⟨_, g_lk l (by simp) (by simp) (by simp), ?_⟩
        have hk := h'.2 l hl
        have hlt := lkT_len hk
        have e : lkT l = [TL.numL l.2.1, [45], l.1, [45], TL.numL l.2.2].flatten := by simp [lkT]
        rw [e] at hlt ⊢
        exact x_joined (.cons (x_fmtI (x_var rfl) (by have := hk.u; omega)) (.cons (x_str rfl) (.cons (x_fmtS (x_var rfl) (by have := hk.nm.le; omega)) (.cons (x_str rfl) (.cons (x_fmtI (x_var rfl) (by have := hk.v; omega)) .nil))))) (by omega)
      · have hs := sum_le (fun z : List Nat => z.length) 14 (ls.map lkT) fun z hz => by
          obtain ⟨l, hl, rfl⟩ := List.mem_map.mp hz
          exact lkT_len (h'.2 l hl)
        rw [List.length_map] at hs
        have e : txt (.net ls) = [[91], TL.joinL [32] (ls.map lkT), [93]].flatten := by simp [txt]
        refine z_retx (d := .str (txt (.net ls))) ?_ rfl
        rw [e]
        exact x_joined (.cons (x_str rfl) (.cons (x_fmtS (x_join (x_str rfl) (x_var rfl) (by simp only [List.length_map, List.length_cons, List.length_nil]; omega)) (by omega)) (.cons (x_str rfl) .nil))) (by simp only [List.flatten_cons, List.flatten_nil, List.length_append, List.length_cons, List.length_nil]; omega)
    refine z_ifr (xt_test (x_tagJoin (s := s) (b := true) (x_var rfl))) (fun e => ?_) fun e3 => ?_
    · obtain ⟨k, ps, rfl⟩ : ∃ k ps, s = .join k ps := by cases s <;> first | exact ⟨_, _, rfl⟩ | cases e
      have h' : TreeOk (.join k ps) := by
        rcases hok with h | h | h
        · exact h
        · cases h
        · cases h
      have ht := treeOks_iff.mp (show TreeOks ps from h'.2)
      have hsp : ∀ p ∈ ps, size p ≤ 14 ∧ dep p < n := fun p hp => by
        have h1 := size_mem hp
        have h2 := dep_mem hp
        have h3 : sizes ps ≤ 14 := hz
        have h4 : deps ps + 1 < n + 1 := hdep
        exact ⟨by omega, by omega⟩
      have hpl : ps.length ≤ 14 := by
        have : ∀ qs : List Sh, (∀ q ∈ qs, TreeOk q) → qs.length ≤ sizes qs := by
          intro qs
          induction qs with
          | nil => intro _; exact Nat.zero_le _
          | cons q r ih =>
            intro hq
            have a1 := tree_pos (hq q (List.mem_cons_self ..))
            have a2 := ih fun p hp => hq p (List.mem_cons_of_mem _ hp)
            simp only [List.length_cons, sizes]
            omega
        have h3 : sizes ps ≤ 14 := hz
        have := this ps ht
        omega
      have hsm2 : ([40] ++ (TL.joinL (sgn k) (txts ps) ++ [41])).length ≤ 420 := hsm
      simp only [List.length_append, List.length_cons, List.length_nil] at hsm2
      have hs := sum_le (fun z : List Nat => z.length) 420 (txts ps) fun z hz => by
        rw [txts_map] at hz
        obtain ⟨p, hp, rfl⟩ := List.mem_map.mp hz
        exact txt_small (.inl (ht p hp)) (hsp p hp).1
      have hl2 : (txts ps).length = ps.length := by rw [txts_map, List.length_map]
      have hl3 : (sgn k).length = 3 := by cases k <;> rfl
      refine z_setx (d := .str (sgn k)) (x_if (xt_test (x_tagRow (s := .join k ps) (b := true) (x_var rfl))) (fun e => ?_) fun e => ?_) ?_
      · have : k = true := by simpa [isK] using e
        subst this
        exact x_str rfl
      · have : k = false := by simpa [isK] using e
        subst this
        exact x_str rfl
      have e : txt (.join k ps) = [[40], TL.joinL (sgn k) (txts ps), [41]].flatten := by simp [txt]
      refine z_retx (d := .str (txt (.join k ps))) ?_ rfl
      rw [e]
      refine x_joined (.cons (x_str rfl) (.cons (x_fmtS (x_join (x_var rfl) ?_ (by rw [hl2, hl3]; omega)) (by omega)) (.cons (x_str rfl) .nil))) (by simp only [List.flatten_cons, List.flatten_nil, List.length_append, List.length_cons, List.length_nil]; omega)
      rw [txts_map, List.map_map]
      exact x_each (F := dat true) (G2 := fun p => Dt.str (txt p)) (xs_tup (x_arg (s := .join k ps) (b := true) (x_var rfl) rfl)) (by omega) fun p hp => ⟨_, g_name (by simp), x_call (xa_cons (x_var rfl) xa_nil) ⟨p, (hsp p hp).2, .inl (ht p hp), (hsp p hp).1, rfl, rfl⟩⟩
    · have e4 : txt s = tag s := by
        cases s with
        | opn => rfl
        | sht => rfl
        | link n => cases e1
        | net ls => cases e2
        | join k ps => cases e3
      exact z_retx (x_strS (x_tag (s := s) (b := true) (x_var rfl))) (by rw [e4])
end
end Wb

/-! Expressions that change the store. -/
namespace Wb
open PySem PySem.Spec PyProof.Rows L2 SX
section
variable {c : Cf} {W : WS} {o p o2 : Addr} {H H2 : Hp} {D : List SV} {st : L2.St} {s s1 s2 : Sto} {m2 : Mem}
/-- the cell at p changes alone -/
theorem As.memo (a : As c W o p s D st H) (hk : s.m.kind ≠ 0) (k2 : m2.kind = s.m.kind) (keep : ∀ b x, H b = some x → b ≠ p → H2 b = some x) (hm : MemAt c p (eff W o s) H2 m2) : As c W o p ⟨s.c, m2⟩ D st H2 ∧ Step o p s H o ⟨s.c, m2⟩ H2 := by
  have wp := a.wp hk
  have e1 : eff W o ⟨s.c, m2⟩ = eff W o s := rfl
  have hs : Same (hide (eff W o s) H) (hide (eff W o s) H2) := hide_but fun b x e w => keep b x e fun z => by
    rw [z, W_eff wp] at w
    cases w
  refine ⟨⟨fun b hb => ?_, fun ds e => ?_, hm, fun _ => wp, a.sl.mono hs⟩, ⟨fun b x e _ n => keep b x e (n hk), fun n => .inl ⟨n, rfl⟩, k2⟩⟩
  · by_cases z : b = p
    · subst z
      exact (hm.here (by rw [k2]; exact hk)).1
    · cases q : H b with
      | none => exact absurd q (a.live b hb)
      | some x => rw [keep b x q z]; simp
  · obtain ⟨wo, xs, h1, h2⟩ := a.own ds e
    have n : o ≠ p := fun z => by rw [z, wp] at wo; cases wo
    have eW : eff W o s = add W o := by unfold eff; rw [show s.c = some ds from e]
    rw [eW] at hs
    exact ⟨wo, xs, keep _ _ h1 n, h2.mono hs⟩
variable {te ta tb : TE} {tl : TA} {tt tu : TT} {d : Dt} {ds : List Dt} {i n : Nat} {P : Dt → Sto → Prop} {PA : List Dt → Sto → Prop}
theorem ea_nil (h : PA [] s) : EA c tNil D s PA := fun W o p st H Q a k => k [] H [] s h .refl a .nil
theorem ea_cons {P1 : Dt → Sto → Prop} {P2 : Dt → Sto → List Dt → Sto → Prop} (h : E c te D s P1) (t : ∀ d s1, P1 d s1 → EA c tl D s1 (P2 d s1)) (z : ∀ d s1 ds s2, P1 d s1 → P2 d s1 ds s2 → PA (d :: ds) s2) : EA c (tCons te tl) D s PA := fun W o p st H Q a k =>
  h W o p st H _ a fun v H1 d s1 p1 sp a1 r => t d s1 p1 W o p st H1 _ a1 fun vs H2 ds s2 p2 sp2 a2 rs =>
    k _ H2 (d :: ds) s2 (z d s1 ds s2 p1 p2) (sp.trans a1 sp2) a2 (.cons (r.mono (sp2.hide a1)) rs)
theorem e_op {r : R2} {P1 : Dt → Sto → Prop} {P2 : Dt → Sto → Dt → Sto → Prop} (ha : E c ta D s P1) (hb : ∀ d s1, P1 d s1 → E c tb D s1 (P2 d s1)) (hr : ∀ d s1 e s2, P1 d s1 → P2 d s1 e s2 → ∃ f, X c (tOp r (tVar 0) (tVar 1)) [.d d, .d e] f ∧ P f s2) : E c (tOp r ta tb) D s P := fun W o p st H Q a k =>
  ha W o p st H _ a fun x H1 d s1 p1 sp a1 rx => hb d s1 p1 W o p st H1 _ a1 fun y H2 e s2 p2 sp2 a2 ry => by
    obtain ⟨f, hx, pf⟩ := hr d s1 e s2 p1 p2
    have sl : Sl c o p (hide (eff W o s2) H2) [SV.d d, .d e] [some x, some y] := fun i z hz => by
      match i, hz with
      | 0, hz => cases hz; exact ⟨_, rfl, x, rfl, rx.mono (sp2.hide a1)⟩
      | 1, hz => cases hz; exact ⟨_, rfl, y, rfl, ry⟩
    have z := hx _ o p [some x, some y] H2 Q a2.lv sl fun v H3 e3 rv => k v H3 f s2 pf (((sp.trans a1 sp2)).trans a2 (.pure e3)) (a2.same e3) rv
    obtain ⟨v1, h1, v2, h2, q⟩ := z
    cases h1
    cases h2
    exact q
/-- one side effectful, the other pure -/
theorem e_opx {r : R2} {P1 : Dt → Sto → Prop} {e : Dt} (ha : E c ta D s P1) (hb : X c tb D e) (hr : ∀ d s1, P1 d s1 → ∃ f, X c (tOp r (tVar 0) (tVar 1)) [.d d, .d e] f ∧ P f s1) : E c (tOp r ta tb) D s P :=
  e_op ha (fun d s1 _ => hb.E) fun d s1 e' s2 p1 ⟨e1, e2⟩ => by
    subst e1 e2
    exact hr d s2 p1
theorem e_xop {r : R2} {P2 : Dt → Sto → Prop} {d : Dt} (ha : X c ta D d) (hb : E c tb D s P2) (hr : ∀ e s1, P2 e s1 → ∃ f, X c (tOp r (tVar 0) (tVar 1)) [.d d, .d e] f ∧ P f s1) : E c (tOp r ta tb) D s P :=
  e_op ha.E (P2 := fun d' s1 e s2 => P2 e s2) (fun d' s1 ⟨e1, e2⟩ => by subst e2; exact hb) fun d' s1 e s2 ⟨e1, e2⟩ p2 => by
    subst e1
    exact hr e s2 p2
theorem e_cb {r : List V → Hp → VK → Prop} {PB : List Dt → Sto → Prop} (h : EA c tl D s PB) (hr : ∀ ds s1, PB ds s1 → ∃ f, (∀ (W : WS) (H : Hp) (vs : List V) (Q : VK), Live W H → RA c (hide W H) vs ds → (∀ v H2, Same H H2 → R c (hide W H2) v f → Q v H2) → r vs H Q) ∧ P f s1) : E c (tCB r tl) D s P := fun W o p st H Q a k =>
  h W o p st H _ a fun vs H1 ds s1 p1 sp a1 rs => by
    obtain ⟨f, hx, pf⟩ := hr ds s1 p1
    exact hx _ H1 vs Q a1.lv rs fun v H3 e3 rv => k v H3 f s1 pf (sp.trans a1 (.pure e3)) (a1.same e3) rv
/-- a built-in of one argument: by its reading at a slot -/
theorem e_cb1 {r : List V → Hp → VK → Prop} {P1 : Dt → Sto → Prop} (h : E c te D s P1) (hr : ∀ d s1, P1 d s1 → ∃ f, X c (tCB r (tCons (tVar 0) tNil)) [.d d] f ∧ P f s1) : E c (tCB r (tCons te tNil)) D s P := fun W o p st H Q a k =>
  h W o p st H _ a fun x H1 d s1 p1 sp a1 rx => by
    obtain ⟨f, hx, pf⟩ := hr d s1 p1
    have sl : Sl c o p (hide (eff W o s1) H1) [SV.d d] [some x] := fun i z hz => by
      match i, hz with
      | 0, hz => cases hz; exact ⟨_, rfl, x, rfl, rx⟩
    have z := hx _ o p [some x] H1 Q a1.lv sl fun v H3 e3 rv => k v H3 f s1 pf (sp.trans a1 (.pure e3)) (a1.same e3) rv
    obtain ⟨v1, h1, q⟩ := z
    cases h1
    exact q
theorem e_tup {PB : List Dt → Sto → Prop} (h : EA c tl D s PB) (hz : ∀ ds s1, PB ds s1 → ds.length ≤ 100000 ∧ P (.tup ds) s1) : E c (tTup tl) D s P := fun W o p st H Q a k =>
  h W o p st H _ a fun vs H1 ds s1 p1 sp a1 rs => ⟨by rw [rs.len]; exact Nat.le_trans (hz ds s1 p1).1 (by decide), fun q hq =>
    k _ _ (.tup ds) s1 (hz ds s1 p1).2 (sp.trans a1 (.pure (same_upd hq))) (a1.same (same_upd hq)) (.tup (SqT.of (new_at a1.lv hq)) (rs.mono (hide_same (same_upd hq))))⟩
theorem e_lst {PB : List Dt → Sto → Prop} (h : EA c tl D s PB) (hz : ∀ ds s1, PB ds s1 → ds.length ≤ 100000 ∧ P (.lst ds) s1) : E c (tLst tl) D s P := fun W o p st H Q a k =>
  h W o p st H _ a fun vs H1 ds s1 p1 sp a1 rs => ⟨by rw [rs.len]; exact Nat.le_trans (hz ds s1 p1).1 (by decide), fun q hq =>
    k _ _ (.lst ds) s1 (hz ds s1 p1).2 (sp.trans a1 (.pure (same_upd hq))) (a1.same (same_upd hq)) (.lst (new_at a1.lv hq) (rs.mono (hide_same (same_upd hq))))⟩
theorem et_test {Pb : Bool → Sto → Prop} (h : E c te D s fun d s1 => ∃ b, d = .bl b ∧ Pb b s1) : ET c (tTest te) D s Pb := fun W o p st H Q a k =>
  h W o p st H _ a fun v H1 d s1 ⟨b, e, pb⟩ sp a1 r => by subst e; cases r; exact ⟨b, rfl, k H1 b s1 pb sp a1⟩
theorem et_B {Pb : Bool → Sto → Prop} (h : E c te D s fun d s1 => ∃ b, d = .bl b ∧ Pb b s1) : ET c (tB te) D s Pb := fun W o p st H Q a k =>
  h W o p st H _ a fun v H1 d s1 ⟨b, e, pb⟩ sp a1 r => by subst e; cases r; exact ⟨b, rfl, k H1 b s1 pb sp a1⟩
theorem et_not {Pb : Bool → Sto → Prop} (h : ET c tt D s fun b s1 => Pb (!b) s1) : ET c (tNot tt) D s Pb := fun W o p st H Q a k =>
  h W o p st H _ a fun H1 b s1 pb sp a1 => k H1 (!b) s1 pb sp a1
theorem et_and {Pa Pb : Bool → Sto → Prop} (h : ET c tt D s Pa) (h1 : ∀ s1, Pa true s1 → ET c tu D s1 Pb) (h0 : ∀ s1, Pa false s1 → Pb false s1) : ET c (tAnd tt tu) D s Pb := fun W o p st H Q a k =>
  h W o p st H _ a fun H1 b s1 pa sp a1 => by
    cases b with
    | true => exact iteT (h1 s1 pa W o p st H1 _ a1 fun H2 b2 s2 pb sp2 a2 => k H2 b2 s2 pb (sp.trans a1 sp2) a2)
    | false => exact iteF (k H1 false s1 (h0 s1 pa) sp a1)
theorem et_or {Pa Pb : Bool → Sto → Prop} (h : ET c tt D s Pa) (h1 : ∀ s1, Pa false s1 → ET c tu D s1 Pb) (h0 : ∀ s1, Pa true s1 → Pb true s1) : ET c (tOr tt tu) D s Pb := fun W o p st H Q a k =>
  h W o p st H _ a fun H1 b s1 pa sp a1 => by
    cases b with
    | false => exact iteF (h1 s1 pa W o p st H1 _ a1 fun H2 b2 s2 pb sp2 a2 => k H2 b2 s2 pb (sp.trans a1 sp2) a2)
    | true => exact iteT (k H1 true s1 (h0 s1 pa) sp a1)
theorem e_andV {Pa : Bool → Sto → Prop} (h : E c ta D s fun d s1 => ∃ b, d = .bl b ∧ Pa b s1) (h1 : ∀ s1, Pa true s1 → E c tb D s1 P) (h0 : ∀ s1, Pa false s1 → P (.bl false) s1) : E c (tAndV ta tb) D s P := fun W o p st H Q a k =>
  h W o p st H _ a fun v H1 d s1 ⟨b, e, pa⟩ sp a1 r => by
    subst e
    cases r
    refine ⟨b, rfl, ?_⟩
    cases b with
    | true => exact iteT (h1 s1 pa W o p st H1 _ a1 fun v2 H2 d2 s2 pb sp2 a2 r2 => k v2 H2 d2 s2 pb (sp.trans a1 sp2) a2 r2)
    | false => exact iteF (k _ H1 _ s1 (h0 s1 pa) sp a1 (.bl _))
theorem e_if {Pb : Bool → Sto → Prop} (h : ET c tt D s Pb) (h1 : ∀ s1, Pb true s1 → E c ta D s1 P) (h0 : ∀ s1, Pb false s1 → E c tb D s1 P) : E c (tIf tt ta tb) D s P := fun W o p st H Q a k =>
  h W o p st H _ a fun H1 b s1 pb sp a1 => by
    cases b with
    | true => exact iteT (h1 s1 pb W o p st H1 _ a1 fun v2 H2 d2 s2 pb sp2 a2 r2 => k v2 H2 d2 s2 pb (sp.trans a1 sp2) a2 r2)
    | false => exact iteF (h0 s1 pb W o p st H1 _ a1 fun v2 H2 d2 s2 pb sp2 a2 r2 => k v2 H2 d2 s2 pb (sp.trans a1 sp2) a2 r2)
/-- a def that changes nothing, its arguments may -/
theorem e_call {Rel : List Dt → Dt → Prop} {PB : List Dt → Sto → Prop} {XE : XK} (h : EA c tl D s PB) (hr : ∀ ds s1, PB ds s1 → ds.length = n ∧ ∃ d, Rel ds d ∧ P d s1) : E c (tCall (spP c n Rel) [] XE tl) D s P := fun W o p st H Q a k =>
  h W o p st H _ a fun vs H1 ds s1 p1 sp a1 rs => by
    obtain ⟨hn, d, r, pd⟩ := hr ds s1 p1
    rw [List.append_nil]
    exact ⟨by rw [rs.len]; exact hn, eff W o s1, ds, d, a1.lv, rs, r, fun v H2 e2 r2 => k v H2 d s1 pd (sp.trans a1 (.pure e2)) (a1.same e2) r2⟩
/-- what a call at the cell comes to -/
theorem memo_run {Pre : List Dt → Mem → Prop} {Post : List Dt → Mem → Dt → Mem → Prop} {us : List V} {Q : VK} {XE : XK} (a : As c W o p s D st H) (hn : ds.length = n) (hk : s.m.kind ≠ 0) (hp : Pre ds s.m) (rs : RA c (hide (eff W o s) H) us ds)
    (k : ∀ v H2 d m2, Post ds s.m d m2 → Step o p s H o ⟨s.c, m2⟩ H2 → As c W o p ⟨s.c, m2⟩ D st H2 → R c (hide (eff W o ⟨s.c, m2⟩) H2) v d → Q v H2) : spM c n Pre Post (.ref p :: us) H Q XE :=
  ⟨p, us, rfl, by rw [rs.len]; exact hn, eff W o s, ds, s.m, a.lv, rs, a.mem, hk, hp, fun v H2 d m2 po k2 keep hm r => by
    obtain ⟨a2, sp⟩ := a.memo hk k2 keep hm
    exact k v H2 d m2 po sp a2 r⟩
/-- f(cursor, ..) -/
theorem e_callM {Pre : List Dt → Mem → Prop} {Post : List Dt → Mem → Dt → Mem → Prop} {PB : List Dt → Sto → Prop} {XE : XK} (hi : D[i]? = some .mem) (h : EA c tl D s PB) (hr : ∀ ds s1, PB ds s1 → ds.length = n ∧ s1.m.kind ≠ 0 ∧ Pre ds s1.m ∧ ∀ d m2, Post ds s1.m d m2 → P d ⟨s1.c, m2⟩) : E c (tCall (spM c n Pre Post) [] XE (tCons (tVar i) tl)) D s P := fun W o p st H Q a k => by
  obtain ⟨x, hx, e⟩ := a.sl i _ hi
  subst e
  refine ⟨.ref p, hx, h W o p st H _ a fun vs H1 ds s1 p1 sp a1 rs => ?_⟩
  obtain ⟨hn, hk, hp, hP⟩ := hr ds s1 p1
  rw [List.append_nil]
  exact memo_run a1 hn hk hp rs fun v H2 d m2 po sp2 a2 r => k v H2 d ⟨s1.c, m2⟩ (hP d m2 po) (sp.trans a1 sp2) a2 r
/-- cursor.m(..) -/
theorem e_meth {m : Str} {Pre : List Dt → Mem → Prop} {Post : List Dt → Mem → Dt → Mem → Prop} {PB : List Dt → Sto → Prop} {XE : XK} {t : List Nat} {j g : Nat} (hi : D[i]? = some .mem) (hm : s.m = .cur t j g) (hl : (curF t j g).lookup m = none) (h : EA c tl D s PB) (hr : ∀ ds s1, PB ds s1 → ds.length = n ∧ s1.m.kind ≠ 0 ∧ Pre ds s1.m ∧ ∀ d m2, Post ds s1.m d m2 → P d ⟨s1.c, m2⟩) : E c (tMeth c.CC m (spM c n Pre Post) [] XE (tVar i) tl) D s P := fun W o p st H Q a k => by
  obtain ⟨x, hx, e⟩ := a.sl i _ hi
  subst e
  have am := a.mem
  rw [hm] at am
  obtain ⟨_, dx, h1⟩ := am
  refine ⟨.ref p, hx, p, dx, _, rfl, h1, hl, h W o p st H _ a fun vs H1 ds s1 p1 sp a1 rs => ?_⟩
  obtain ⟨hn, hk, hp, hP⟩ := hr ds s1 p1
  rw [List.append_nil]
  exact memo_run a1 hn hk hp rs fun v H2 d m2 po sp2 a2 r => k v H2 d ⟨s1.c, m2⟩ (hP d m2 po) (sp.trans a1 sp2) a2 r
/-- a field of the cursor -/
theorem e_cfld {f : Str} {t : List Nat} {j g : Nat} {v : V} {d : Dt} (T : Cls c.K c.CC) (na : NoAttr c.K c.CC f) (hi : D[i]? = some .mem) (hm : s.m = .cur t j g) (hl : (curF t j g).lookup f = some v) (hv : ∀ H, R c H v d) (hP : P d s) : E c (tFld c.K (tVar i) f) D s P := fun W o p st H Q a k => by
  obtain ⟨x, hx, e⟩ := a.sl i _ hi
  subst e
  have am := a.mem
  rw [hm] at am
  obtain ⟨_, dx, h1⟩ := am
  exact ⟨.ref p, hx, p, c.CC, dx, _, v, rfl, h1, T, na, hl, k v H d s hP .refl a (hv _)⟩
/-- cursor.f = e, e an int -/
theorem z_cset {f : Str} {te : TE} {P1 : Dt → Sto → Prop} {Pn : List SV → Sto → Prop} {Pr : Dt → Sto → Prop} (T : Cls c.K c.CC) (na : NoAttr c.K c.CC f) (hi : D[i]? = some .mem) (h : E c te D s P1)
    (hr : ∀ d s1, P1 d s1 → ∃ t j g n t2 j2 g2, d = .int (n : Int) ∧ s1.m = .cur t j g ∧ putF f (.int n) (curF t j g) = curF t2 j2 g2 ∧ Pn D ⟨s1.c, .cur t2 j2 g2⟩) : Z c (sFld c.K (tVar i) te f) D s Pn Pr := fun W o p st H F a kn kr =>
  h W o p st H _ a fun v H1 d s1 p1 sp a1 r => by
    obtain ⟨t, j, g, n, t2, j2, g2, rfl, hm, hput, hP⟩ := hr d s1 p1
    cases r
    obtain ⟨x, hx, e⟩ := a1.sl i _ hi
    subst e
    have am := a1.mem
    rw [hm] at am
    obtain ⟨wp, dx, h1⟩ := am
    refine ⟨.ref p, hx, p, c.CC, dx, _, rfl, h1, T, na, (by show 3 < 1000; decide), ?_⟩
    rw [hput]
    obtain ⟨a2, sp2⟩ := a1.memo (m2 := .cur t2 j2 g2) (H2 := upd H1 p (.ins c.CC dx (curF t2 j2 g2))) (by rw [hm]; simp [Mem.kind]) (by rw [hm]; rfl) (fun b x e n => by rw [upd_ne n]; exact e) ⟨wp, dx, upd_same⟩
    exact kn o st _ D _ hP (sp.trans a1 sp2) a2
end
end Wb

/-! Promises with a parameter that the caller chooses; slices of texts; a new own list. -/
namespace Wb
open PySem PySem.Spec PyProof.Rows L2 SX
def spQ {α : Type} (c : Cf) (n : Nat) (In : α → List Dt → Mem → Prop) (Out : α → Dt → Mem → Prop) : Sp := fun vs H Q E => ∃ x, spM c n (In x) (fun _ _ => Out x) vs H Q E
theorem spQ_len {α : Type} {c : Cf} {n : Nat} {In : α → List Dt → Mem → Prop} {Out : α → Dt → Mem → Prop} (vs : List V) (H : Hp) (Q : VK) (E : XK) (h : spQ c n In Out vs H Q E) : vs.length = n + 1 := by
  obtain ⟨x, h⟩ := h
  exact spM_len vs H Q E h
theorem body_q {α : Type} {c : Cf} {n : Nat} {In : α → List Dt → Mem → Prop} {Out : α → Dt → Mem → Prop} {N : List Str} {ts : TS} {vs : List V} {H : Hp} {Q : VK} {E : XK} (h : spQ c n In Out vs H Q E)
    (hb : ∀ x ds m, ds.length = n → m.kind ≠ 0 → In x ds m → Z c ts (SV.mem :: (ds.map SV.d ++ List.replicate (N.length - (n + 1)) .un)) ⟨none, m⟩ (fun _ s => Out x .non s.m) (fun d' s => Out x d' s.m)) :
    ts { nx := fun _ H' => Q .non H', rt := Q } (L2.start N vs) H := by
  obtain ⟨x, h⟩ := h
  exact body_m h fun ds m h1 h2 h3 => hb x ds m h1 h2 h3
theorem cut_nat {t : List Nat} {i j : Nat} (hij : i ≤ j) : cutS (S t) (some (i : Int)) (some (j : Int)) = S ((t.drop i).take (j - i)) := by
  unfold cutS
  rw [HT.sIx_nat, HT.sIx_nat, S_len]
  show (⟨((t.drop (min i t.length)).take (min j t.length - min i t.length)).toArray⟩ : Str) = ⟨((t.drop i).take (j - i)).toArray⟩
  congr 2
  by_cases h : i ≤ t.length
  · rw [Nat.min_eq_left h]
    by_cases h2 : j ≤ t.length
    · rw [Nat.min_eq_left h2]
    · rw [Nat.min_eq_right (by omega), List.take_of_length_le (by simp), List.take_of_length_le (by simp; omega)]
  · rw [List.drop_eq_nil_of_le (show t.length ≤ min i t.length by omega), List.drop_eq_nil_of_le (show t.length ≤ i by omega)]
    simp
theorem cut_to {t : List Nat} {j : Nat} : cutS (S t) none (some (j : Int)) = S (t.take j) := by
  unfold cutS
  rw [HT.sIx_nat, HT.sIx_none, S_len]
  show (⟨((t.drop 0).take (min j t.length - 0)).toArray⟩ : Str) = ⟨(t.take j).toArray⟩
  congr 2
  rw [List.drop_zero, Nat.sub_zero]
  by_cases h2 : j ≤ t.length
  · rw [Nat.min_eq_left h2]
  · rw [Nat.min_eq_right (by omega), List.take_of_length_le (Nat.le_refl _), List.take_of_length_le (by omega)]
theorem cut_from {t : List Nat} {i : Nat} : cutS (S t) (some (i : Int)) none = S (t.drop i) := by
  unfold cutS
  rw [HT.sIx_nat, HT.sIx_none, S_len]
  show (⟨((t.drop (min i t.length)).take (t.length - min i t.length)).toArray⟩ : Str) = ⟨(t.drop i).toArray⟩
  congr 2
  by_cases h : i ≤ t.length
  · rw [Nat.min_eq_left h, List.take_of_length_le (by simp)]
  · rw [List.drop_eq_nil_of_le (show t.length ≤ min i t.length by omega), List.drop_eq_nil_of_le (show t.length ≤ i by omega)]
    simp
section
variable {c : Cf} {W : WS} {o p o2 : Addr} {H H2 : Hp} {D : List SV} {st : L2.St} {s s1 s2 : Sto} {te tl th : TE} {ta : TA} {d : Dt} {ds : List Dt} {i j n : Nat} {P : Dt → Sto → Prop} {α : Type} {In : α → List Dt → Mem → Prop} {Out : α → Dt → Mem → Prop}
theorem e_callQ {PB : List Dt → Sto → Prop} {XE : XK} (hi : D[i]? = some .mem) (h : EA c ta D s PB) (hr : ∀ ds s1, PB ds s1 → ds.length = n ∧ s1.m.kind ≠ 0 ∧ ∃ x, In x ds s1.m ∧ ∀ d m2, Out x d m2 → P d ⟨s1.c, m2⟩) : E c (tCall (spQ c n In Out) [] XE (tCons (tVar i) ta)) D s P := fun W o p st H Q a k => by
  obtain ⟨x, hx, e⟩ := a.sl i _ hi
  subst e
  refine ⟨.ref p, hx, h W o p st H _ a fun vs H1 ds s1 p1 sp a1 rs => ?_⟩
  obtain ⟨hn, hk, x, hp, hP⟩ := hr ds s1 p1
  rw [List.append_nil]
  exact ⟨x, memo_run a1 hn hk hp rs fun v H2 d m2 po sp2 a2 r => k v H2 d ⟨s1.c, m2⟩ (hP d m2 po) (sp.trans a1 sp2) a2 r⟩
theorem e_methQ {m : Str} {PB : List Dt → Sto → Prop} {XE : XK} {t : List Nat} {jj g : Nat} (hi : D[i]? = some .mem) (hm : s.m = .cur t jj g) (hl : (curF t jj g).lookup m = none) (h : EA c ta D s PB) (hr : ∀ ds s1, PB ds s1 → ds.length = n ∧ s1.m.kind ≠ 0 ∧ ∃ x, In x ds s1.m ∧ ∀ d m2, Out x d m2 → P d ⟨s1.c, m2⟩) : E c (tMeth c.CC m (spQ c n In Out) [] XE (tVar i) ta) D s P := fun W o p st H Q a k => by
  obtain ⟨x, hx, e⟩ := a.sl i _ hi
  subst e
  have am := a.mem
  rw [hm] at am
  obtain ⟨_, dx, h1⟩ := am
  refine ⟨.ref p, hx, p, dx, _, rfl, h1, hl, h W o p st H _ a fun vs H1 ds s1 p1 sp a1 rs => ?_⟩
  obtain ⟨hn, hk, x, hp, hP⟩ := hr ds s1 p1
  rw [List.append_nil]
  exact ⟨x, memo_run a1 hn hk hp rs fun v H2 d m2 po sp2 a2 r => k v H2 d ⟨s1.c, m2⟩ (hP d m2 po) (sp.trans a1 sp2) a2 r⟩
/-- text[lo:hi] of what the store gives -/
theorem e_slS {t : List Nat} (h : E c te D s fun d s1 => s1 = s ∧ d = .str t) (hl : E c tl D s fun d s1 => s1 = s ∧ d = .int (i : Int)) (hh : E c th D s fun d s1 => s1 = s ∧ d = .int (j : Int)) (hij : i ≤ j) (hz : t.length ≤ 100000) (hP : P (.str ((t.drop i).take (j - i))) s) : E c (tSl rSlS te (tPart tl) (tPart th)) D s P := fun W o p st H Q a k =>
  h W o p st H _ a fun v H1 d s1 ⟨e1, e2⟩ sp a1 r => by
    subst e1 e2
    refine hl W o p st H1 _ a1 fun v2 H2 d2 s2 ⟨e3, e4⟩ sp2 a2 r2 => ?_
    subst e3 e4
    cases r2
    refine ⟨_, rfl, hh W o p st H2 _ a2 fun v3 H3 d3 s3 ⟨e5, e6⟩ sp3 a3 r3 => ?_⟩
    subst e5 e6
    cases r3
    refine ⟨_, rfl, ?_⟩
    cases r
    refine ⟨S t, rfl, by rw [S_len]; exact Nat.le_trans hz (by decide), ?_⟩
    rw [cut_nat hij]
    exact k _ H3 _ _ hP ((sp.trans a1 sp2).trans a2 sp3) a3 (.str _)
/-- name = [..], an own list from here on -/
theorem z_newL {PB : List Dt → Sto → Prop} (hc : ∀ ds s1, PB ds s1 → s1.c = none ∧ ds.length ≤ 100000) (h : EA c ta D s PB) (hn : noOwn D = true := by rfl) : Z c (tAsg (tLst ta) (gName j)) D s (fun D' s' => ∃ ds s1, PB ds s1 ∧ D' = D.set j .own ∧ s' = ⟨some ds, s1.m⟩) (fun _ _ => False) := fun W o p st H F a kn _ =>
  h W o p st H _ a fun vs H1 ds s1 p1 sp a1 rs => by
    obtain ⟨hc1, hl⟩ := hc ds s1 p1
    refine ⟨by rw [rs.len]; exact Nat.le_trans hl (by decide), fun q hq => ?_⟩
    have eW : eff W o s1 = W := by unfold eff; rw [hc1]
    have wq : W q = false := a1.live.fresh hq
    have hs : Same (hide W H1) (hide (add W q) (upd H1 q (.lst vs))) := hide_new hq
    have hs2 : Same (hide W H1) (hide W (upd H1 q (.lst vs))) := hide_same (same_upd hq)
    refine kn q (st.set j (some (.ref q))) (upd H1 q (.lst vs)) (D.set j .own) ⟨some ds, s1.m⟩ ⟨ds, s1, p1, rfl, rfl⟩ (sp.trans a1 ⟨fun b x h _ _ => same_upd hq b x h, fun _ => .inr hq, rfl⟩) ?_
    have sl := a1.sl
    have mm := a1.mem
    rw [eW] at sl mm rs
    refine ⟨a1.live.same (same_upd hq), fun ds' e => ?_, MemAt.to (m := s1.m) (fun w => add_of w) (fun x e => same_upd hq _ _ e) hs mm, a1.wp, ?_⟩
    · cases e
      exact ⟨wq, vs, upd_same, rs.mono hs⟩
    · intro i sv hi
      rw [List.getElem?_set] at hi
      by_cases e : j = i
      · subst e
        rw [if_pos rfl] at hi
        split at hi
        · rename_i hl
          cases hi
          obtain ⟨x, hx, _⟩ := sl j D[j] (by simp [hl])
          have hl2 : j < st.length := (List.getElem?_eq_some_iff.mp hx).1
          exact ⟨some (.ref q), by rw [List.getElem?_set, if_pos rfl, if_pos hl2], rfl⟩
        · cases hi
      · rw [if_neg e] at hi
        obtain ⟨x, hx, r⟩ := sl i sv hi
        refine ⟨x, by rw [List.getElem?_set, if_neg e]; exact hx, ?_⟩
        cases sv with
        | own => exact absurd hi (noOwn_at hn)
        | un => trivial
        | d d => obtain ⟨v, e1, r1⟩ := r; exact ⟨v, e1, r1.mono hs⟩
        | mem => exact r
        | v v => exact r
end
end Wb

/-! The cursor: its methods; names, joints, links read. -/
namespace Wb
open PySem PySem.Spec PyProof.Rows L2 SX
abbrev s_Cursor_seen : Stmt := inClass (top 54) 1
abbrev N_Cursor_seen : List Str := ["self"]
theorem sc_Cursor_seen : FnScope N_Cursor_seen ["self"] (defScope s_Cursor_seen) := ⟨rfl, rfl, rfl, by decide +kernel, rfl, by decide +kernel, by decide +kernel⟩

abbrev s_Cursor_take : Stmt := inClass (top 54) 2
abbrev N_Cursor_take : List Str := ["self", "signs", "sign"]
theorem sc_Cursor_take : FnScope N_Cursor_take ["self", "signs"] (defScope s_Cursor_take) := ⟨rfl, rfl, rfl, by decide +kernel, rfl, by decide +kernel, by decide +kernel⟩

abbrev s_Cursor_taken_while : Stmt := inClass (top 54) 3
abbrev N_Cursor_taken_while : List Str := ["self", "signs", "most", "first"]
theorem sc_Cursor_taken_while : FnScope N_Cursor_taken_while ["self", "signs", "most"] (defScope s_Cursor_taken_while) := ⟨rfl, rfl, rfl, by decide +kernel, rfl, by decide +kernel, by decide +kernel⟩

/-- a text that may be read -/
structure TxtOk (t : List Nat) : Prop where
  len : t.length ≤ 1000
  asc : Asc t
theorem TxtOk.part {t : List Nat} (h : TxtOk t) (i j : Nat) : Asc ((t.drop i).take j) := fun ch hc => h.asc ch (List.mem_of_mem_drop (List.mem_of_mem_take hc))
theorem drop_cons {t : List Nat} {i ch : Nat} {r : List Nat} (h : t.drop i = ch :: r) : t.drop (i + 1) = r := by
  rw [← List.drop_drop, h]
  rfl
theorem drop_app {t a r : List Nat} {i : Nat} (h : t.drop i = a ++ r) : t.drop (i + a.length) = r := by
  rw [← List.drop_drop, h, List.drop_left]
theorem deq_str {a b : List Nat} : deq (.str a) (.str b) = (a == b) := rfl
section
variable {c : Cf} {P : Program} {w : World} {mg : Str → Option Value} {base : Heap} {D : List SV} {ta tb te : TE} {tl : TA} {s : Sto} {t : List Nat} {i g j : Nat}
def InSeen : List Nat × Nat × Nat → List Dt → Mem → Prop := fun x ds m => m = .cur x.1 x.2.1 x.2.2 ∧ x.1.length ≤ 1000 ∧ ds = []
def OutSeen : List Nat × Nat × Nat → Dt → Mem → Prop := fun x d m => m = .cur x.1 x.2.1 x.2.2 ∧ d = .str ((x.1.drop x.2.1).take 1)
theorem m_seen (T : Tx c w mg) : MCal P w c.K mg base 1 c.CC "seen" (spQ c 0 InSeen OutSeen) := by
  refine mk_mc T 0 sc_Cursor_seen (fun _ _ _ _ _ _ us hl => match us, hl with | [_], _ => rfl) spQ_len fun f cdv A outer s H vs Q E hr h => ⟨_, PSs.nox (pss_one (ps_ret (pe_slice sl_str (pe_fldK (K := c.K) rfl (pv 0)) (po_some (pe_fldK (K := c.K) rfl (pv 0))) (po_some (pe_op op_addU (pe_fldK (K := c.K) rfl (pv 0)) pe_int))))), body_q h fun x ds m hn hk hR => ?_⟩
  obtain ⟨t, i, g⟩ := x
  obtain ⟨rfl, hz, rfl⟩ := hR
  simp only at hz
  have fT := e_cfld (s := ⟨none, .cur t i g⟩) (D := [SV.mem]) (i := 0) (P := fun d s1 => s1 = ⟨none, .cur t i g⟩ ∧ d = .str t) T.cc T.nt rfl rfl rfl (fun H => .str t) ⟨rfl, rfl⟩
  have fA := e_cfld (s := ⟨none, .cur t i g⟩) (D := [SV.mem]) (i := 0) (P := fun d s1 => s1 = ⟨none, .cur t i g⟩ ∧ d = .int (i : Int)) T.cc T.nb rfl rfl rfl (fun H => .int _) ⟨rfl, rfl⟩
  refine (z_ret (P := fun d s1 => OutSeen (t, i, g) d s1.m) (e_slS (j := i + 1) fT fA (e_opx fA (x_int (i := 1)) fun d s1 ⟨e1, e2⟩ => ?_) (by omega) (by omega) ⟨rfl, by rw [Nat.add_sub_cancel_left]⟩)).imp (fun _ _ q => q.elim) fun _ _ q => q
  subst e1 e2
  exact ⟨_, x_addI (x_var rfl) (x_var rfl), rfl, rfl⟩
theorem e_seen (hi : D[j]? = some .mem) (hm : s.m = .cur t i g) (hz : t.length ≤ 1000) : E c (tMeth c.CC "seen" (spQ c 0 InSeen OutSeen) [] E0 (tVar j) tNil) D s (fun d s1 => s1 = s ∧ d = .str ((t.drop i).take 1)) :=
  e_methQ (PB := fun ds s1 => ds = [] ∧ s1 = s) hi hm rfl (ea_nil ⟨rfl, rfl⟩) fun ds s1 ⟨e1, e2⟩ => by
    subst e1 e2
    refine ⟨rfl, by rw [hm]; simp [Mem.kind], (t, i, g), ⟨hm, hz, rfl⟩, fun d m2 ⟨h1, h2⟩ => ⟨?_, h2⟩⟩
    rw [h1, ← hm]
/-- seen() against a text -/
theorem e_seenEq {z : Str} {l : List Nat} (hi : D[j]? = some .mem) (hm : s.m = .cur t i g) (ok : TxtOk t) (hl : z = S l) (hL : Asc l) : E c (tOp (rEqD c.K) (tMeth c.CC "seen" (spQ c 0 InSeen OutSeen) [] E0 (tVar j) tNil) (tC (.str z))) D s (fun d s1 => s1 = s ∧ d = .bl ((t.drop i).take 1 == l)) :=
  e_opx (e_seen hi hm ok.len) (x_str hl) fun d s1 ⟨e1, e2⟩ => by
    subst e1 e2
    exact ⟨_, x_eq (x_var rfl) (x_var rfl) (cm_str (ok.part i 1)) (cm_str hL), rfl, rfl⟩
theorem e_seenNe {l : List Nat} (hi : D[j]? = some .mem) (hm : s.m = .cur t i g) (ok : TxtOk t) (hb : X c tb D (.str l)) (hL : Asc l) : E c (tOp (rNeD c.K) (tMeth c.CC "seen" (spQ c 0 InSeen OutSeen) [] E0 (tVar j) tNil) tb) D s (fun d s1 => s1 = s ∧ d = .bl (!((t.drop i).take 1 == l))) :=
  e_opx (e_seen hi hm ok.len) hb fun d s1 ⟨e1, e2⟩ => by
    subst e1 e2
    exact ⟨_, x_ne (x_var rfl) (x_var rfl) (cm_str (ok.part i 1)) (cm_str hL), rfl, rfl⟩
theorem E.bl {b : Bool} {te : TE} (h : E c te D s (fun d s1 => s1 = s ∧ d = .bl b)) : E c te D s (fun d s1 => ∃ b', d = .bl b' ∧ (b' = b ∧ s1 = s)) := h.imp fun d s1 ⟨e1, e2⟩ => ⟨b, e2, rfl, e1⟩
theorem putF_at {t : List Nat} {i g n : Nat} : putF "at" (.int (n : Int)) (curF t i g) = curF t n g := rfl
theorem putF_begun {t : List Nat} {i g n : Nat} : putF "begun" (.int (n : Int)) (curF t i g) = curF t i n := rfl
/-- cursor.at = cursor.at + 1 -/
theorem z_step {Pn : List SV → Sto → Prop} {Pr : Dt → Sto → Prop} (T : Tx c w mg) (hi : D[j]? = some .mem) (hm : s.m = .cur t i g) (hP : Pn D ⟨s.c, .cur t (i + 1) g⟩) : Z c (sFld c.K (tVar j) (tOp rAddU (tFld c.K (tVar j) "at") (tC (.int 1))) "at") D s Pn Pr :=
  z_cset (P1 := fun d s1 => s1 = s ∧ d = .int ((i : Int) + 1)) T.cc T.nb hi (e_opx (P1 := fun d s1 => s1 = s ∧ d = .int (i : Int)) (e_cfld T.cc T.nb hi hm rfl (fun H => .int _) ⟨rfl, rfl⟩) (x_int (i := 1)) fun d s1 ⟨e1, e2⟩ => by
    subst e1 e2
    exact ⟨_, x_addI (x_var rfl) (x_var rfl), rfl, rfl⟩) fun d s1 ⟨e1, e2⟩ => by
    subst e1 e2
    exact ⟨t, i, g, i + 1, t, i + 1, g, rfl, hm, rfl, hP⟩
theorem z_begin {Pn : List SV → Sto → Prop} {Pr : Dt → Sto → Prop} (T : Tx c w mg) (hi : D[j]? = some .mem) (hm : s.m = .cur t i g) (hP : Pn D ⟨s.c, .cur t i (g + 1)⟩) : Z c (sFld c.K (tVar j) (tOp rAddU (tFld c.K (tVar j) "begun") (tC (.int 1))) "begun") D s Pn Pr :=
  z_cset (P1 := fun d s1 => s1 = s ∧ d = .int ((g : Int) + 1)) T.cc T.nc hi (e_opx (P1 := fun d s1 => s1 = s ∧ d = .int (g : Int)) (e_cfld T.cc T.nc hi hm rfl (fun H => .int _) ⟨rfl, rfl⟩) (x_int (i := 1)) fun d s1 ⟨e1, e2⟩ => by
    subst e1 e2
    exact ⟨_, x_addI (x_var rfl) (x_var rfl), rfl, rfl⟩) fun d s1 ⟨e1, e2⟩ => by
    subst e1 e2
    exact ⟨t, i, g, g + 1, t, i, g + 1, rfl, hm, rfl, hP⟩
theorem z_never {Pn : List SV → Sto → Prop} {Pr : Dt → Sto → Prop} (h : False) {ts : TS} : Z c ts D s Pn Pr := h.elim
/-- if t: raise -/
theorem z_guard {tt : TT} {ts t2 : TS} {Pn : List SV → Sto → Prop} {Pr : Dt → Sto → Prop} (h : ET c tt D s fun b s1 => b = false ∧ s1 = s) (k : Z c t2 D s Pn Pr) : Z c (tSeq (tIfS tt ts tNext) t2) D s Pn Pr :=
  z_seq (Pm := fun D' s' => D' = D ∧ s' = s) (z_if h (fun s1 ⟨e, _⟩ => nomatch e) fun s1 ⟨_, e⟩ => by subst e; exact z_nextx ⟨rfl, rfl⟩) fun D1 s1 ⟨e1, e2⟩ => by subst e1 e2; exact k
theorem z_guard1 {tt : TT} {ts : TS} {Pn : List SV → Sto → Prop} {Pr : Dt → Sto → Prop} (h : ET c tt D s fun b s1 => b = false ∧ s1 = s) (k : Pn D s) : Z c (tIfS tt ts tNext) D s Pn Pr :=
  z_if h (fun s1 ⟨e, _⟩ => nomatch e) fun s1 ⟨_, e⟩ => by subst e; exact z_nextx k
theorem ET.of {b : Bool} {te : TE} (h : E c te D s (fun d s1 => s1 = s ∧ d = .bl b)) : ET c (tTest te) D s fun b' s1 => b' = b ∧ s1 = s := et_test h.bl
def InTake : List Nat × Nat × Nat × List Nat × List Nat → List Dt → Mem → Prop := fun x ds m => m = .cur x.1 x.2.1 x.2.2.1 ∧ TxtOk x.1 ∧ x.1.drop x.2.1 = x.2.2.2.1 ++ x.2.2.2.2 ∧ ds = [.str x.2.2.2.1]
def OutTake : List Nat × Nat × Nat × List Nat × List Nat → Dt → Mem → Prop := fun x d m => m = .cur x.1 (x.2.1 + x.2.2.2.1.length) x.2.2.1
theorem m_take (T : Tx c w mg) : MCal P w c.K mg base 2 c.CC "take" (spQ c 1 InTake OutTake) := by
  have m_seen := m_seen (P := P) (base := base) T
  refine mk_mc T 1 sc_Cursor_take (fun _ _ _ _ _ _ us hl => match us, hl with | [_, _], _ => rfl) spQ_len fun f cdv A outer s H vs Q E hr h => ⟨_, PSs.nox (pss_one (ps_for PassesOwn.never rfl (pi_str (pv 1)) (pg_name (i := 2) sc_Cursor_take.nd rfl (by first | exact Or.inl rfl | exact Or.inr rfl))
        (pss_cons (ps_if (pt_cmpR (op_neDK (K := c.K) rfl hr.units) (pe_mt0 m_seen hr (by first | decide | omega) T.cc (pv 0)) (pv 2) (nomark _))
          (pss_one ps_never)
          pss_nil) 
        (pss_one (ps_fld (pv 0) (pe_op op_addU (pe_fldK (K := c.K) rfl (pv 0)) pe_int) rfl))))), body_q h fun x ds m hn hk hR => ?_⟩
  obtain ⟨t, i, g, sg, rest⟩ := x
  obtain ⟨rfl, ok, hd, rfl⟩ := hR
  simp only at ok hd
  refine z_each (zs := sg) (F := fun ch => Dt.str [ch]) (vs := [2]) (xs_str (x_var rfl)) (fun n D' s' => n ≤ sg.length ∧ (∃ x, D' = [.mem, .d (.str sg), x]) ∧ s' = ⟨none, .cur t (i + n) g⟩) ⟨Nat.zero_le _, ⟨_, rfl⟩, rfl⟩ ?_ ?_
  · rintro n ch D1 s1 hch ⟨hn, ⟨x, rfl⟩, rfl⟩
    have hlt := (List.getElem?_eq_some_iff.mp hch).1
    have e1 : (t.drop (i + n)).take 1 = [ch] := by
      rw [← List.drop_drop, hd, List.drop_append_of_le_length (by omega), List.drop_eq_getElem_cons hlt, (List.getElem?_eq_some_iff.mp hch).2]
      rfl
    have hA : Asc [ch] := by
      rw [← e1]
      exact ok.part _ _
    refine ⟨_, g_name (by simp), ?_⟩
    refine z_guard ?_ (z_step T rfl rfl ⟨hlt, ⟨_, rfl⟩, rfl⟩)
    have z := ET.of (e_seenNe (c := c) (D := [SV.mem, .d (.str sg), .d (.str [ch])]) (j := 0) (s := ⟨none, .cur t (i + n) g⟩) (tb := tVar 2) rfl rfl ok (x_var rfl) hA)
    rw [e1] at z
    rw [show (!(([ch] : List Nat) == [ch])) = false by simp] at z
    exact z
  · rintro D1 s1 ⟨_, _, rfl⟩
    rfl
theorem e_take {z : Str} {sg rest : List Nat} (hi : D[j]? = some .mem) (hm : s.m = .cur t i g) (ok : TxtOk t) (hz : X c ta D (.str sg)) (hd : t.drop i = sg ++ rest) : E c (tMeth c.CC "take" (spQ c 1 InTake OutTake) [] E0 (tVar j) (tCons ta tNil)) D s (fun d s1 => s1 = ⟨s.c, .cur t (i + sg.length) g⟩) :=
  e_methQ (PB := fun ds s1 => ds = [.str sg] ∧ s1 = s) hi hm rfl (xa_cons hz xa_nil).E fun ds s1 ⟨e1, e2⟩ => by
    subst e1 e2
    refine ⟨rfl, by rw [hm]; simp [Mem.kind], (t, i, g, sg, rest), ⟨hm, ok, hd, rfl⟩, fun d m2 h1 => ?_⟩
    rw [show m2 = _ from h1]
/-- cursor.take(e), then the rest -/
theorem z_take {sg rest : List Nat} {t2 : TS} {Pn : List SV → Sto → Prop} {Pr : Dt → Sto → Prop} (hi : D[j]? = some .mem) (hm : s.m = .cur t i g) (ok : TxtOk t) (hz : X c ta D (.str sg)) (hd : t.drop i = sg ++ rest) (k : Z c t2 D ⟨s.c, .cur t (i + sg.length) g⟩ Pn Pr) :
    Z c (tSeq (tDrop (tMeth c.CC "take" (spQ c 1 InTake OutTake) [] E0 (tVar j) (tCons ta tNil))) t2) D s Pn Pr :=
  z_then (z_drop (e_take (z := "") hi hm ok hz hd)) fun D1 s1 ⟨e1, d, e2⟩ => by subst e1 e2; exact k
structure RunIn (x : List Nat × Nat × Nat × List Nat × Nat × List Nat × List Nat) : Prop where
  ok : TxtOk x.1
  dr : x.1.drop x.2.1 = x.2.2.2.2.2.1 ++ x.2.2.2.2.2.2
  al : ∀ ch ∈ x.2.2.2.2.2.1, ch ∈ x.2.2.2.1
  le : x.2.2.2.2.2.1.length ≤ x.2.2.2.2.1
  en : x.2.2.2.2.2.1.length = x.2.2.2.2.1 ∨ x.2.2.2.2.2.2 = [] ∨ ∃ ch r, x.2.2.2.2.2.2 = ch :: r ∧ ch ∉ x.2.2.2.1
/-- text, at, begun, signs, most, what is taken, what is left -/
def InRun : List Nat × Nat × Nat × List Nat × Nat × List Nat × List Nat → List Dt → Mem → Prop := fun x ds m => m = .cur x.1 x.2.1 x.2.2.1 ∧ RunIn x ∧ ds = [.str x.2.2.2.1, .int (x.2.2.2.2.1 : Int)]
def OutRun : List Nat × Nat × Nat × List Nat × Nat × List Nat × List Nat → Dt → Mem → Prop := fun x d m => m = .cur x.1 (x.2.1 + x.2.2.2.2.2.1.length) x.2.2.1 ∧ d = .str x.2.2.2.2.2.1
theorem m_taken_while (T : Tx c w mg) : MCal P w c.K mg base 2 c.CC "taken_while" (spQ c 2 InRun OutRun) := by
  have m_seen := m_seen (P := P) (base := base) T
  refine mk_mc T 2 sc_Cursor_taken_while (fun _ _ _ _ _ _ us hl => match us, hl with | [_, _, _], _ => rfl) spQ_len fun f cdv A outer s H vs Q E hr h => ⟨_, PSs.nox (pss_cons (ps_set (i := 3) sc_Cursor_taken_while.nd rfl (by first | exact Or.inl rfl | exact Or.inr rfl) (pe_fldK (K := c.K) rfl (pv 0))) 
      (pss_cons (ps_while PassesOwn.never (PW.pt (pw_and (pt_cmpR (op_neDK (K := c.K) rfl hr.units) (pe_mt0 m_seen hr (by first | decide | omega) T.cc (pv 0)) pe_str (nomark _)) (pw_and (pt_cmpR op_in_sign (pe_mt0 m_seen hr (by first | decide | omega) T.cc (pv 0)) (pv 1) rfl) (pw_and1 (pt_cmpR op_lt (pe_op op_sub (pe_fldK (K := c.K) rfl (pv 0)) (pv 3)) (pv 2) (nomark _))))))
        (pss_one (ps_fld (pv 0) (pe_op op_addU (pe_fldK (K := c.K) rfl (pv 0)) pe_int) rfl))) 
      (pss_one (ps_ret (pe_slice sl_str (pe_fldK (K := c.K) rfl (pv 0)) (po_some (pv 3)) (po_some (pe_fldK (K := c.K) rfl (pv 0)))))))), body_q h fun x ds m hn hk hR => ?_⟩
  obtain ⟨t, i, g, sg, most, wd, rest⟩ := x
  obtain ⟨rfl, ⟨ok, hd, hal, hle, hen⟩, rfl⟩ := hR
  simp only at ok hd hal hle hen
  have fA : ∀ (n : Nat) (D : List SV), D[0]? = some .mem → Wb.E c (tFld c.K (tVar 0) "at") D ⟨none, .cur t (i + n) g⟩ (fun d s1 => s1 = ⟨none, .cur t (i + n) g⟩ ∧ d = .int ((i + n : Nat) : Int)) := fun n D h0 => e_cfld T.cc T.nb h0 rfl rfl (fun H => .int _) ⟨rfl, rfl⟩
  refine z_then (z_set (fA 0 _ rfl)) ?_
  rintro D1 s1 ⟨d, ⟨rfl, rfl⟩, rfl⟩
  refine z_then (Pm := fun D' s' => D' = [.mem, .d (.str sg), .d (.int (most : Int)), .d (.int (i : Int))] ∧ s' = ⟨none, .cur t (i + wd.length) g⟩) (z_while (fun D' s' => D' = [.mem, .d (.str sg), .d (.int (most : Int)), .d (.int (i : Int))] ∧ ∃ n, n ≤ wd.length ∧ s' = ⟨none, .cur t (i + n) g⟩)
    (fun D' s' => match s'.m with | .cur _ k _ => i + wd.length - k | _ => 0) ⟨rfl, 0, Nat.zero_le _, rfl⟩ ?_) ?_
  · rintro D1 s1 ⟨rfl, n, hn, rfl⟩
    have edr : t.drop (i + n) = wd.drop n ++ rest := by rw [← List.drop_drop, hd, List.drop_append_of_le_length hn]
    refine ⟨fun b s2 => s2 = ⟨none, .cur t (i + n) g⟩ ∧ b = decide (n < wd.length), ?_, ?_, ?_⟩
    · have third : ET c (tTest (tOp (rI0 fun i j => .bl (decide (i < j))) (tOp (rI0 fun i j => .int (i - j)) (tFld c.K (tVar 0) "at") (tVar 3)) (tVar 2))) [.mem, .d (.str sg), .d (.int (most : Int)), .d (.int (i : Int))] ⟨none, .cur t (i + n) g⟩ (fun b s1 => b = decide (n < most) ∧ s1 = ⟨none, .cur t (i + n) g⟩) := by
        refine ET.of (e_opx (P1 := fun d s1 => s1 = ⟨none, .cur t (i + n) g⟩ ∧ d = .int (((i + n : Nat) : Int) - i)) (e_opx (fA n _ rfl) (x_var (i := 3) rfl) fun d s1 ⟨e1, e2⟩ => ?_) (x_var (i := 2) rfl) fun d s1 ⟨e1, e2⟩ => ?_)
        · subst e1 e2
          exact ⟨_, x_sub (x_var rfl) (x_var rfl), rfl, rfl⟩
        · subst e1 e2
          refine ⟨_, x_lt (x_var rfl) (x_var rfl), rfl, ?_⟩
          congr 1
          rw [decide_eq_decide]
          omega
      by_cases hlt : n < wd.length
      · have e2 : t.drop (i + n) = wd[n] :: (wd.drop (n + 1) ++ rest) := by rw [edr, List.drop_eq_getElem_cons hlt]; rfl
        have e1 : (t.drop (i + n)).take 1 = [wd[n]] := by rw [e2]; rfl
        refine et_and (Pa := fun b s1 => b = true ∧ s1 = ⟨none, .cur t (i + n) g⟩) ?_ (fun s1 ⟨_, e⟩ => ?_) fun s1 ⟨e, _⟩ => nomatch e
        · have z := ET.of (e_seenNe (c := c) (D := [SV.mem, .d (.str sg), .d (.int (most : Int)), .d (.int (i : Int))]) (j := 0) (s := ⟨none, .cur t (i + n) g⟩) (tb := tC (.str "")) (l := []) rfl rfl ok (x_str rfl) (fun _ h => nomatch h))
          rw [e1] at z
          exact z
        · subst e
          refine et_and (Pa := fun b s1 => b = true ∧ s1 = ⟨none, .cur t (i + n) g⟩) ?_ (fun s1 ⟨_, e⟩ => ?_) fun s1 ⟨e, _⟩ => nomatch e
          · refine ET.of (e_opx (e_seen (j := 0) rfl rfl ok.len) (x_var (i := 1) rfl) fun d s1 ⟨h1, h2⟩ => ?_)
            subst h1 h2
            rw [e1]
            refine ⟨_, x_inS (x_var rfl) (x_var rfl), rfl, ?_⟩
            rw [decide_eq_true (hal _ (List.getElem_mem hlt))]
          · subst e
            refine third.imp fun b s2 ⟨h1, h2⟩ => ⟨h2, h1.trans ?_⟩
            rw [decide_eq_true hlt, decide_eq_true (by omega)]
      · have hnn : n = wd.length := by omega
        have e2 : t.drop (i + n) = rest := by rw [edr, List.drop_eq_nil_of_le (by omega)]; rfl
        rw [decide_eq_false hlt]
        cases hrest : rest with
        | nil =>
          refine et_and (Pa := fun b s1 => b = false ∧ s1 = ⟨none, .cur t (i + n) g⟩) ?_ (fun s1 ⟨e, _⟩ => nomatch e) fun s1 ⟨_, e⟩ => ⟨e, rfl⟩
          have z := ET.of (e_seenNe (c := c) (D := [SV.mem, .d (.str sg), .d (.int (most : Int)), .d (.int (i : Int))]) (j := 0) (s := ⟨none, .cur t (i + n) g⟩) (tb := tC (.str "")) (l := []) rfl rfl ok (x_str rfl) (fun _ h => nomatch h))
          rw [e2, hrest] at z
          exact z
        | cons ch r =>
          have e1 : (t.drop (i + n)).take 1 = [ch] := by rw [e2, hrest]; rfl
          refine et_and (Pa := fun b s1 => b = true ∧ s1 = ⟨none, .cur t (i + n) g⟩) ?_ (fun s1 ⟨_, e⟩ => ?_) fun s1 ⟨e, _⟩ => nomatch e
          · have z := ET.of (e_seenNe (c := c) (D := [SV.mem, .d (.str sg), .d (.int (most : Int)), .d (.int (i : Int))]) (j := 0) (s := ⟨none, .cur t (i + n) g⟩) (tb := tC (.str "")) (l := []) rfl rfl ok (x_str rfl) (fun _ h => nomatch h))
            rw [e1] at z
            exact z
          · subst e
            refine et_and (Pa := fun b s1 => b = decide (ch ∈ sg) ∧ s1 = ⟨none, .cur t (i + n) g⟩) ?_ (fun s1 ⟨e3, e⟩ => ?_) fun s1 ⟨_, e⟩ => ⟨e, rfl⟩
            · refine ET.of (e_opx (e_seen (j := 0) rfl rfl ok.len) (x_var (i := 1) rfl) fun d s1 ⟨h1, h2⟩ => ?_)
              subst h1 h2
              rw [e1]
              exact ⟨_, x_inS (x_var rfl) (x_var rfl), rfl, rfl⟩
            · subst e
              refine third.imp fun b s2 ⟨h1, h2⟩ => ⟨h2, h1.trans (decide_eq_false ?_)⟩
              rcases hen with h | h | ⟨ch', r', h, hni⟩
              · omega
              · rw [hrest] at h
                cases h
              · rw [hrest] at h
                cases h
                exact absurd (of_decide_eq_true e3.symm) hni
    · rintro s2 ⟨rfl, hb⟩
      have hlt : n < wd.length := of_decide_eq_true hb.symm
      refine z_step T rfl rfl ⟨⟨rfl, n + 1, hlt, rfl⟩, ?_⟩
      show i + wd.length - (i + n + 1) < i + wd.length - (i + n)
      omega
    · rintro s2 ⟨rfl, hb⟩
      have hge : ¬ n < wd.length := of_decide_eq_false hb.symm
      rw [show n = wd.length by omega]
      exact ⟨rfl, rfl⟩
  rintro D1 s1 ⟨rfl, rfl⟩
  have fT := e_cfld (s := ⟨none, .cur t (i + wd.length) g⟩) (D := [.mem, .d (.str sg), .d (.int (most : Int)), .d (.int (i : Int))]) (i := 0) (P := fun d s1 => s1 = ⟨none, .cur t (i + wd.length) g⟩ ∧ d = .str t) T.cc T.nt rfl rfl rfl (fun H => .str t) ⟨rfl, rfl⟩
  refine (z_ret (P := fun d s1 => OutRun (t, i, g, sg, most, wd, rest) d s1.m) (e_slS (i := i) (j := i + wd.length) fT ((x_var (i := 3) (d := .int (i : Int)) rfl).E.imp fun d s1 ⟨e1, e2⟩ => ⟨e2, e1⟩) (fA wd.length _ rfl) (by omega) (by have := ok.len; omega) ⟨rfl, ?_⟩)).imp (fun _ _ q => q.elim) fun _ _ q => q
  rw [Nat.add_sub_cancel_left, hd, List.take_left]
end
end Wb

/-! Names, joints, links, nets read. -/
namespace Wb
open PySem PySem.Spec PyProof.Rows L2 SX
abbrev s_need_end : Stmt := top 56
abbrev N_need_end : List Str := ["cursor"]
theorem sc_need_end : FnScope N_need_end ["cursor"] (defScope s_need_end) := ⟨rfl, rfl, rfl, by decide +kernel, rfl, by decide +kernel, by decide +kernel⟩

abbrev s_read_letters : Stmt := top 57
abbrev N_read_letters : List Str := ["cursor", "word"]
theorem sc_read_letters : FnScope N_read_letters ["cursor"] (defScope s_read_letters) := ⟨rfl, rfl, rfl, by decide +kernel, rfl, by decide +kernel, by decide +kernel⟩

abbrev s_read_name : Stmt := top 58
abbrev N_read_name : List Str := ["cursor", "word"]
theorem sc_read_name : FnScope N_read_name ["cursor"] (defScope s_read_name) := ⟨rfl, rfl, rfl, by decide +kernel, rfl, by decide +kernel, by decide +kernel⟩

abbrev s_read_number : Stmt := top 59
abbrev N_read_number : List Str := ["cursor", "most", "figures"]
theorem sc_read_number : FnScope N_read_number ["cursor", "most"] (defScope s_read_number) := ⟨rfl, rfl, rfl, by decide +kernel, rfl, by decide +kernel, by decide +kernel⟩

abbrev s_read_joint : Stmt := top 60
abbrev N_read_joint : List Str := ["cursor"]
theorem sc_read_joint : FnScope N_read_joint ["cursor"] (defScope s_read_joint) := ⟨rfl, rfl, rfl, by decide +kernel, rfl, by decide +kernel, by decide +kernel⟩

abbrev s_read_link : Stmt := top 61
abbrev N_read_link : List Str := ["cursor", "u", "name"]
theorem sc_read_link : FnScope N_read_link ["cursor"] (defScope s_read_link) := ⟨rfl, rfl, rfl, by decide +kernel, rfl, by decide +kernel, by decide +kernel⟩

abbrev s_goes_on : Stmt := top 62
abbrev N_goes_on : List Str := ["cursor", "wanted"]
theorem sc_goes_on : FnScope N_goes_on ["cursor", "wanted"] (defScope s_goes_on) := ⟨rfl, rfl, rfl, by decide +kernel, rfl, by decide +kernel, by decide +kernel⟩

abbrev s_read_net : Stmt := top 63
abbrev N_read_net : List Str := ["cursor", "wanted", "links"]
theorem sc_read_net : FnScope N_read_net ["cursor", "wanted"] (defScope s_read_net) := ⟨rfl, rfl, rfl, by decide +kernel, rfl, by decide +kernel, by decide +kernel⟩

def figs : List Nat := [48, 49, 50, 51, 52, 53, 54, 55, 56, 57]
def NoLet (r : List Nat) : Prop := r = [] ∨ ∃ ch q, r = ch :: q ∧ ch ∉ letters
def NoFig (r : List Nat) : Prop := r = [] ∨ ∃ ch q, r = ch :: q ∧ ch ∉ figs
theorem num_zero : TL.numL 0 = [48] := by decide +kernel
theorem num_facts : ∀ n, n < 100 → (TL.numL n).all (fun c => decide (c ∈ figs)) = true ∧ TL.numL n ≠ [] ∧ (n ≠ 0 → (TL.numL n).head? ≠ some 48) ∧ (TL.numL n).all (fun c => decide (48 ≤ c) && decide (c ≤ 57)) = true ∧ NumText.digitsVal (TL.numL n) = n := by decide +kernel
section
variable {c : Cf} {P : Program} {w : World} {mg : Str → Option Value} {base : Heap} {D : List SV} {ta tb te : TE} {tl : TA} {s : Sto} {t : List Nat} {i g j : Nat}
def InEnd : List Nat × Nat → List Dt → Mem → Prop := fun x ds m => m = .cur x.1 x.1.length x.2 ∧ TxtOk x.1 ∧ ds = []
def OutEnd : List Nat × Nat → Dt → Mem → Prop := fun x d m => m = .cur x.1 x.1.length x.2
theorem c_need_end (T : Tx c w mg) : Cal P w c.K mg base 2 "need_end" (spQ c 0 InEnd OutEnd) := by
  have m_seen := m_seen (P := P) (base := base) T
  refine mk_cal T 14 sc_need_end (fun _ _ _ _ _ _ us hl => match us, hl with | [_], _ => rfl) spQ_len fun f cdv A outer s H vs Q E hr h => ⟨_, PSs.nox (pss_one (ps_if (pt_cmpR (op_neDK (K := c.K) rfl hr.units) (pe_mt0 m_seen hr (by first | decide | omega) T.cc (pv 0)) pe_str (nomark _))
        (pss_one ps_never)
        pss_nil)), body_q h fun x ds m hn hk hR => ?_⟩
  obtain ⟨t, g⟩ := x
  obtain ⟨rfl, ok, rfl⟩ := hR
  simp only at ok
  refine z_guard1 ?_ rfl
  have z := ET.of (e_seenNe (c := c) (D := [SV.mem]) (j := 0) (s := ⟨none, .cur t t.length g⟩) (tb := tC (.str "")) (l := []) rfl rfl ok (x_str rfl) (fun _ h => nomatch h))
  rw [List.drop_length] at z
  exact z
/-- cursor.taken_while(..) -/
theorem e_run {sg wd rest : List Nat} {most : Nat} (hi : D[j]? = some .mem) (hm : s.m = .cur t i g) (ha : X c ta D (.str sg)) (hb : X c tb D (.int (most : Int))) (h : RunIn (t, i, g, sg, most, wd, rest)) : E c (tMeth c.CC "taken_while" (spQ c 2 InRun OutRun) [] E0 (tVar j) (tCons ta (tCons tb tNil))) D s (fun d s1 => s1 = ⟨s.c, .cur t (i + wd.length) g⟩ ∧ d = .str wd) :=
  e_methQ (PB := fun ds s1 => ds = [.str sg, .int (most : Int)] ∧ s1 = s) hi hm rfl (xa_cons ha (xa_cons hb xa_nil)).E fun ds s1 ⟨e1, e2⟩ => by
    subst e1 e2
    refine ⟨rfl, by rw [hm]; simp [Mem.kind], (t, i, g, sg, most, wd, rest), ⟨hm, h, rfl⟩, fun d m2 h1 => ?_⟩
    obtain ⟨h1, h2⟩ := h1
    exact ⟨by rw [show m2 = _ from h1], h2⟩
structure LetIn (t : List Nat) (i : Nat) (wd rest : List Nat) : Prop where
  ok : TxtOk t
  dr : t.drop i = wd ++ rest
  al : ∀ ch ∈ wd, 97 ≤ ch ∧ ch ≤ 122
  ps : 1 ≤ wd.length
  le : wd.length ≤ 8
  en : NoLet rest
def InLet : List Nat × Nat × Nat × List Nat × List Nat → List Dt → Mem → Prop := fun x ds m => m = .cur x.1 x.2.1 x.2.2.1 ∧ LetIn x.1 x.2.1 x.2.2.2.1 x.2.2.2.2 ∧ ds = []
def OutLet : List Nat × Nat × Nat × List Nat × List Nat → Dt → Mem → Prop := fun x d m => m = .cur x.1 (x.2.1 + x.2.2.2.1.length) x.2.2.1 ∧ d = .str x.2.2.2.1
theorem c_read_letters (T : Tx c w mg) : Cal P w c.K mg base 3 "read_letters" (spQ c 0 InLet OutLet) := by
  have m_taken_while := m_taken_while (P := P) (base := base) T
  refine mk_cal T 15 sc_read_letters (fun _ _ _ _ _ _ us hl => match us, hl with | [_], _ => rfl) spQ_len fun f cdv A outer s H vs Q E hr h => ⟨_, PSs.nox (pss_cons (ps_set (i := 1) sc_read_letters.nd rfl (by first | exact Or.inl rfl | exact Or.inr rfl) (pe_mt m_taken_while hr (by first | decide | omega) T.cc (pv 0) (pa_cons (C8.pe_gc (by rfl) T.g_LETTERS) (pa_cons (C8.pe_gc (by rfl) T.g_MOST_LETTERS) pa_nil)))) 
      (pss_cons (ps_if (pt_cmpR (op_eqDK (K := c.K) rfl hr.units) (pv 1) pe_str (nomark _))
        (pss_one ps_never)
        pss_nil) 
      (pss_one (ps_ret (pv 1))))), body_q h fun x ds m hn hk hR => ?_⟩
  obtain ⟨t, i, g, wd, rest⟩ := x
  obtain ⟨rfl, hw, rfl⟩ := hR
  simp only at hw
  refine z_then (z_set (e_run (j := 0) (sg := letters) (most := 8) rfl rfl (x_str rfl) x_int ⟨hw.ok, hw.dr, fun ch hc => letters_in (hw.al ch hc), hw.le, .inr hw.en⟩)) ?_
  rintro D1 s1 ⟨d, ⟨rfl, rfl⟩, rfl⟩
  refine z_guard ?_ (z_retx (x_var rfl) ⟨rfl, rfl⟩)
  have hA : Asc wd := fun ch hc => by have := hw.al ch hc; omega
  have z := xt_test (x_eq (c := c) (ta := tVar 1) (tb := tC (.str "")) (D := [SV.mem, .d (.str wd)]) (x_var rfl) (x_str (l := []) rfl) (cm_str hA) (cm_str fun _ h => nomatch h))
  have e : deq (.str wd) (.str []) = false := by
    rw [deq_str]
    cases wd with
    | nil => exact absurd hw.ps (by simp)
    | cons a r => rfl
  rw [e] at z
  exact z.E
theorem c_read_name (T : Tx c w mg) : Cal P w c.K mg base 4 "read_name" (spQ c 0 (fun x ds m => InLet x ds m ∧ NameOk x.2.2.2.1) OutLet) := by
  have c_read_letters := c_read_letters (P := P) (base := base) T
  refine mk_cal T 16 sc_read_name (fun _ _ _ _ _ _ us hl => match us, hl with | [_], _ => rfl) spQ_len fun f cdv A outer s H vs Q E hr h => ⟨_, PSs.nox (pss_cons (ps_set (i := 1) sc_read_name.nd rfl (by first | exact Or.inl rfl | exact Or.inr rfl) (pe_c c_read_letters hr (by first | decide | omega) (by rfl) (pa_cons (pv 0) pa_nil))) 
      (pss_cons (ps_if (pt_cmpR (op_inK (K := c.K) rfl) (pv 1) (C8.pe_gc (by rfl) T.g_BARRED) rfl)
        (pss_one ps_never)
        pss_nil) 
      (pss_one (ps_ret (pv 1))))), body_q h fun x ds m hn hk hR => ?_⟩
  obtain ⟨t, i, g, wd, rest⟩ := x
  obtain ⟨⟨rfl, hw, rfl⟩, ok⟩ := hR
  simp only at hw ok
  refine z_then (z_set (e_callQ (P := fun d s1 => s1 = ⟨none, .cur t (i + wd.length) g⟩ ∧ d = .str wd) (PB := fun ds s1 => ds = [] ∧ s1 = ⟨none, .cur t i g⟩) rfl (ea_nil ⟨rfl, rfl⟩) fun ds s1 ⟨e1, e2⟩ => ?_)) ?_
  · subst e1 e2
    refine ⟨rfl, by simp [Mem.kind], (t, i, g, wd, rest), ⟨rfl, hw, rfl⟩, fun d m2 h1 => ?_⟩
    obtain ⟨h1, h2⟩ := h1
    exact ⟨by rw [show m2 = _ from h1], h2⟩
  rintro D1 s1 ⟨d, ⟨rfl, rfl⟩, rfl⟩
  refine z_guard ?_ (z_retx (x_var rfl) ⟨rfl, rfl⟩)
  have z := xt_test (x_inT (c := c) (neg := false) (ta := tVar 1) (D := [SV.mem, .d (.str wd)]) (x_var rfl) (x_tB T))
  have e : [nOpen, nShut, nNet].contains wd = false := by simp [ok.o, ok.s, ok.n]
  rw [e] at z
  exact z.E
theorem e_name {wd rest : List Nat} (hi : D[j]? = some .mem) (hm : s.m = .cur t i g) (hw : LetIn t i wd rest) (ok : NameOk wd) : E c (tCall (spQ c 0 (fun x ds m => InLet x ds m ∧ NameOk x.2.2.2.1) OutLet) [] E0 (tCons (tVar j) tNil)) D s (fun d s1 => s1 = ⟨s.c, .cur t (i + wd.length) g⟩ ∧ d = .str wd) :=
  e_callQ (PB := fun ds s1 => ds = [] ∧ s1 = s) hi (ea_nil ⟨rfl, rfl⟩) fun ds s1 ⟨e1, e2⟩ => by
    subst e1 e2
    refine ⟨rfl, by rw [hm]; simp [Mem.kind], (t, i, g, wd, rest), ⟨⟨hm, hw, rfl⟩, ok⟩, fun d m2 h1 => ?_⟩
    obtain ⟨h1, h2⟩ := h1
    exact ⟨by rw [show m2 = _ from h1], h2⟩
structure NumIn (t : List Nat) (i n : Nat) (rest : List Nat) : Prop where
  ok : TxtOk t
  dr : t.drop i = TL.numL n ++ rest
  lt : n < 100
  en : NoFig rest
def InNum (ds0 : List Dt) : List Nat × Nat × Nat × Nat × List Nat → List Dt → Mem → Prop := fun x ds m => m = .cur x.1 x.2.1 x.2.2.1 ∧ NumIn x.1 x.2.1 x.2.2.2.1 x.2.2.2.2 ∧ ds = ds0
def OutNum : List Nat × Nat × Nat × Nat × List Nat → Dt → Mem → Prop := fun x d m => m = .cur x.1 (x.2.1 + (TL.numL x.2.2.2.1).length) x.2.2.1 ∧ d = .str (TL.numL x.2.2.2.1)
def OutJt : List Nat × Nat × Nat × Nat × List Nat → Dt → Mem → Prop := fun x d m => m = .cur x.1 (x.2.1 + (TL.numL x.2.2.2.1).length) x.2.2.1 ∧ d = .int (x.2.2.2.1 : Int)
theorem c_read_number (T : Tx c w mg) : Cal P w c.K mg base 3 "read_number" (spQ c 1 (InNum [.int 2]) OutNum) := by
  have m_seen := m_seen (P := P) (base := base) T
  have m_take := m_take (P := P) (base := base) T
  have m_taken_while := m_taken_while (P := P) (base := base) T
  refine mk_cal T 17 sc_read_number (fun _ _ _ _ _ _ us hl => match us, hl with | [_, _], _ => rfl) spQ_len fun f cdv A outer s H vs Q E hr h => ⟨_, PSs.nox (pss_cons (ps_if (pt_cmpR (op_eqDK (K := c.K) rfl hr.units) (pe_mt0 m_seen hr (by first | decide | omega) T.cc (pv 0)) pe_str (nomark _))
        (pss_cons (ps_expr (pe_mt m_take hr (by first | decide | omega) T.cc (pv 0) (pa_cons pe_str pa_nil))) 
        (pss_one (ps_ret pe_str)))
        pss_nil) 
      (pss_cons (ps_set (i := 2) sc_read_number.nd rfl (by first | exact Or.inl rfl | exact Or.inr rfl) (pe_mt m_taken_while hr (by first | decide | omega) T.cc (pv 0) (pa_cons (C8.pe_gc (by rfl) T.g_FIGURES) (pa_cons (pv 1) pa_nil)))) 
      (pss_cons (ps_if (pt_cmpR (op_eqDK (K := c.K) rfl hr.units) (pv 2) pe_str (nomark _))
        (pss_one ps_never)
        pss_nil) 
      (pss_one (ps_ret (pv 2)))))), body_q h fun x ds m hn hk hR => ?_⟩
  obtain ⟨t, i, g, n, rest⟩ := x
  obtain ⟨rfl, hw, rfl⟩ := hR
  simp only at hw
  have nf := num_facts n hw.lt
  have z := ET.of (e_seenEq (c := c) (D := [SV.mem, .d (.int 2), .un]) (j := 0) (s := ⟨none, .cur t i g⟩) (z := "0") (l := [48]) rfl rfl hw.ok rfl (by intro ch hc; simp at hc; omega))
  by_cases h0 : n = 0
  · subst h0
    have hd := hw.dr
    rw [num_zero] at hd
    rw [hd, show (([48] ++ rest : List Nat).take 1 == [48]) = true by rfl] at z
    refine z_seq (Pm := fun _ _ => False) (z_if z (fun s1 ⟨_, e⟩ => ?_) fun s1 ⟨e, _⟩ => nomatch e) fun _ _ q => q.elim
    subst e
    refine z_take (sg := [48]) rfl rfl hw.ok (x_str rfl) hd (z_retx (x_str (l := [48]) rfl) ⟨?_, ?_⟩)
    · rw [num_zero]
    · rw [num_zero]
  · have e0 : ((t.drop i).take 1 == [48]) = false := by
      rw [hw.dr]
      obtain ⟨_, h1, h2, _⟩ := nf
      have h2 := h2 h0
      cases q : TL.numL n with
      | nil => exact absurd q h1
      | cons a r =>
        rw [q] at h2
        simp at h2
        simp [h2]
    rw [e0] at z
    refine z_guard z ?_
    refine z_then (z_set (e_run (j := 0) (sg := figs) (most := 2) (wd := TL.numL n) rfl rfl (x_str rfl) (x_var rfl) ⟨hw.ok, hw.dr, fun ch hc => of_decide_eq_true (List.all_eq_true.mp nf.1 ch hc), num_len n hw.lt, .inr hw.en⟩)) ?_
    rintro D1 s1 ⟨d, ⟨rfl, rfl⟩, rfl⟩
    refine z_guard ?_ (z_retx (x_var rfl) ⟨rfl, rfl⟩)
    have hA : Asc (TL.numL n) := fun ch hc => by
      have := List.all_eq_true.mp nf.2.2.2.1 ch hc
      simp at this
      omega
    have z := xt_test (x_eq (c := c) (ta := tVar 2) (tb := tC (.str "")) (D := [SV.mem, .d (.int 2), .d (.str (TL.numL n))]) (x_var rfl) (x_str (l := []) rfl) (cm_str hA) (cm_str fun _ h => nomatch h))
    have e : deq (.str (TL.numL n)) (.str []) = false := by
      rw [deq_str]
      cases q : TL.numL n with
      | nil => exact absurd q nf.2.1
      | cons a r => rfl
    rw [e] at z
    exact z.E
theorem c_read_joint (T : Tx c w mg) : Cal P w c.K mg base 4 "read_joint" (spQ c 0 (InNum []) OutJt) := by
  have c_read_number := c_read_number (P := P) (base := base) T
  refine mk_cal T 18 sc_read_joint (fun _ _ _ _ _ _ us hl => match us, hl with | [_], _ => rfl) spQ_len fun f cdv A outer s H vs Q E hr h => ⟨_, PSs.nox (pss_one (ps_ret (pe_callTy call_intU (by rfl) T.b_int boot_int (pa_cons (pe_c c_read_number hr (by first | decide | omega) (by rfl) (pa_cons (pv 0) (pa_cons (pe_callB (call_lenK (K := c.K) rfl) (by rfl) T.b_len boot_len (pa_cons (pe_callTy call_strU (by rfl) T.b_str boot_str (pa_cons (C8.pe_gc (by rfl) T.g_LAST_JOINT) pa_nil)) pa_nil)) pa_nil))) pa_nil)))), body_q h fun x ds m hn hk hR => ?_⟩
  obtain ⟨t, i, g, n, rest⟩ := x
  obtain ⟨rfl, hw, rfl⟩ := hR
  simp only at hw
  have nf := num_facts n hw.lt
  have h2 := x_lenS (x_strI (c := c) (D := [SV.mem]) (x_int (i := ((99 : Nat) : Int))) (by omega)) (by decide +kernel)
  rw [show (((TL.numL 99).length : Nat) : Int) = 2 by decide +kernel] at h2
  refine (z_ret (P := fun d s1 => OutJt (t, i, g, n, rest) d s1.m) (e_cb1 (P1 := fun d s1 => s1 = ⟨none, .cur t (i + (TL.numL n).length) g⟩ ∧ d = .str (TL.numL n)) (e_callQ (PB := fun ds s1 => ds = [.int 2] ∧ s1 = ⟨none, .cur t i g⟩) rfl (xa_cons h2 xa_nil).E fun ds s1 ⟨e1, e2⟩ => ?_) fun d s1 ⟨e1, e2⟩ => ?_)).imp (fun _ _ q => q.elim) fun _ _ q => q
  · subst e1 e2
    refine ⟨rfl, by simp [Mem.kind], (t, i, g, n, rest), ⟨rfl, hw, rfl⟩, fun d m2 h1 => ?_⟩
    obtain ⟨h1, h2⟩ := h1
    exact ⟨by rw [show m2 = _ from h1], h2⟩
  · subst e1 e2
    exact ⟨_, x_intS (x_var rfl) nf.2.2.2.1 nf.2.1 (by have := num_len n hw.lt; omega) nf.2.2.2.2, rfl, rfl⟩
theorem e_joint {n : Nat} {rest : List Nat} (hi : D[j]? = some .mem) (hm : s.m = .cur t i g) (hw : NumIn t i n rest) : E c (tCall (spQ c 0 (InNum []) OutJt) [] E0 (tCons (tVar j) tNil)) D s (fun d s1 => s1 = ⟨s.c, .cur t (i + (TL.numL n).length) g⟩ ∧ d = .int (n : Int)) :=
  e_callQ (PB := fun ds s1 => ds = [] ∧ s1 = s) hi (ea_nil ⟨rfl, rfl⟩) fun ds s1 ⟨e1, e2⟩ => by
    subst e1 e2
    refine ⟨rfl, by rw [hm]; simp [Mem.kind], (t, i, g, n, rest), ⟨hm, hw, rfl⟩, fun d m2 h1 => ?_⟩
    obtain ⟨h1, h2⟩ := h1
    exact ⟨by rw [show m2 = _ from h1], h2⟩
structure LinkIn (t : List Nat) (i : Nat) (l : Lk) (rest : List Nat) : Prop where
  ok : TxtOk t
  dr : t.drop i = lkT l ++ rest
  lk : LkOk l
  en : NoFig rest
def InLk : List Nat × Nat × Nat × Lk × List Nat → List Dt → Mem → Prop := fun x ds m => m = .cur x.1 x.2.1 x.2.2.1 ∧ LinkIn x.1 x.2.1 x.2.2.2.1 x.2.2.2.2 ∧ ds = []
def OutLk : List Nat × Nat × Nat × Lk × List Nat → Dt → Mem → Prop := fun x d m => m = .cur x.1 (x.2.1 + (lkT x.2.2.2.1).length) (x.2.2.1 + 1) ∧ d = lkD x.2.2.2.1
theorem nofig_dash {r : List Nat} : NoFig ([45] ++ r) := .inr ⟨45, r, rfl, by decide⟩
theorem nolet_dash {r : List Nat} : NoLet ([45] ++ r) := .inr ⟨45, r, rfl, by decide⟩
theorem c_read_link (T : Tx c w mg) : Cal P w c.K mg base 5 "read_link" (spQ c 0 InLk OutLk) := by
  have m_take := m_take (P := P) (base := base) T
  have c_read_joint := c_read_joint (P := P) (base := base) T
  have c_read_name := c_read_name (P := P) (base := base) T
  refine mk_cal T 19 sc_read_link (fun _ _ _ _ _ _ us hl => match us, hl with | [_], _ => rfl) spQ_len fun f cdv A outer s H vs Q E hr h => ⟨_, PSs.nox (pss_cons (ps_fld (pv 0) (pe_op op_addU (pe_fldK (K := c.K) rfl (pv 0)) pe_int) rfl) 
      (pss_cons (ps_set (i := 1) sc_read_link.nd rfl (by first | exact Or.inl rfl | exact Or.inr rfl) (pe_c c_read_joint hr (by first | decide | omega) (by rfl) (pa_cons (pv 0) pa_nil))) 
      (pss_cons (ps_expr (pe_mt m_take hr (by first | decide | omega) T.cc (pv 0) (pa_cons pe_str pa_nil))) 
      (pss_cons (ps_set (i := 2) sc_read_link.nd rfl (by first | exact Or.inl rfl | exact Or.inr rfl) (pe_c c_read_name hr (by first | decide | omega) (by rfl) (pa_cons (pv 0) pa_nil))) 
      (pss_cons (ps_expr (pe_mt m_take hr (by first | decide | omega) T.cc (pv 0) (pa_cons pe_str pa_nil))) 
      (pss_one (ps_ret (pe_tup (pa_cons (pv 2) (pa_cons (pv 1) (pa_cons (pe_c c_read_joint hr (by first | decide | omega) (by rfl) (pa_cons (pv 0) pa_nil)) pa_nil))))))))))), body_q h fun x ds m hn hk hR => ?_⟩
  obtain ⟨t, i, g, ⟨n, u, v⟩, rest⟩ := x
  obtain ⟨rfl, hw, rfl⟩ := hR
  simp only at hw
  have ok := hw.ok
  have d0 : t.drop i = TL.numL u ++ ([45] ++ (n ++ ([45] ++ (TL.numL v ++ rest)))) := by
    rw [hw.dr]
    simp [lkT]
  have d1 := drop_app d0
  have d2 := drop_app d1
  have d3 := drop_app d2
  have d4 := drop_app d3
  refine z_then (Pm := fun D' s' => D' = [.mem, .un, .un] ∧ s' = ⟨none, .cur t i (g + 1)⟩) (z_begin T rfl rfl ⟨rfl, rfl⟩) ?_
  rintro D1 s1 ⟨rfl, rfl⟩
  refine z_then (z_set (e_joint (j := 0) rfl rfl ⟨ok, d0, hw.lk.u, nofig_dash⟩)) ?_
  rintro D1 s1 ⟨d, ⟨rfl, rfl⟩, rfl⟩
  refine z_take (sg := [45]) rfl rfl ok (x_str rfl) d1 ?_
  refine z_then (z_set (e_name (j := 0) rfl rfl ⟨ok, d2, hw.lk.nm.let_, hw.lk.nm.pos, hw.lk.nm.le, nolet_dash⟩ hw.lk.nm)) ?_
  rintro D1 s1 ⟨d, ⟨rfl, rfl⟩, rfl⟩
  refine z_take (sg := [45]) rfl rfl ok (x_str rfl) d3 ?_
  refine (z_ret (P := fun d s1 => OutLk (t, i, g, (n, u, v), rest) d s1.m) (e_tup (PB := fun ds s1 => ds = [.str n, .int (u : Int), .int (v : Int)] ∧ s1.m = .cur t (i + (lkT (n, u, v)).length) (g + 1))
    (ea_cons (P2 := fun d s1 ds s2 => ds = [.int (u : Int), .int (v : Int)] ∧ s2.m = .cur t (i + (lkT (n, u, v)).length) (g + 1)) (x_var (i := 2) (d := .str n) rfl).E
      (fun d s1 ⟨e1, e2⟩ => by
        subst e1 e2
        refine ea_cons (P2 := fun d s1 ds s2 => ds = [.int (v : Int)] ∧ s2.m = .cur t (i + (lkT (n, u, v)).length) (g + 1)) (x_var (i := 1) (d := .int (u : Int)) rfl).E (fun d s1 ⟨e1, e2⟩ => ?_) fun d s1 ds s2 ⟨e1, _⟩ ⟨e2, e3⟩ => ⟨by rw [e1, e2], e3⟩
        subst e1 e2
        refine ea_cons (P2 := fun d s1 ds s2 => ds = [] ∧ s2 = s1) (e_joint (j := 0) rfl rfl ⟨ok, d4, hw.lk.v, hw.en⟩) (fun d s1 _ => ea_nil ⟨rfl, rfl⟩) fun d s1 ds s2 ⟨e1, e2⟩ ⟨e3, e4⟩ => ⟨by rw [e2, e3], ?_⟩
        rw [e4, e1]
        show Mem.cur t _ _ = _
        congr 1
        simp [lkT]
        omega)
      fun d s1 ds s2 ⟨e1, _⟩ ⟨e2, e3⟩ => ⟨by rw [e1, e2], e3⟩)
    fun ds s1 ⟨e1, e2⟩ => ⟨by rw [e1]; simp, e2, by rw [e1]; rfl⟩)).imp (fun _ _ q => q.elim) fun _ _ q => q
theorem e_link {l : Lk} {rest : List Nat} (hi : D[j]? = some .mem) (hm : s.m = .cur t i g) (hw : LinkIn t i l rest) : E c (tCall (spQ c 0 InLk OutLk) [] E0 (tCons (tVar j) tNil)) D s (fun d s1 => s1 = ⟨s.c, .cur t (i + (lkT l).length) (g + 1)⟩ ∧ d = lkD l) :=
  e_callQ (PB := fun ds s1 => ds = [] ∧ s1 = s) hi (ea_nil ⟨rfl, rfl⟩) fun ds s1 ⟨e1, e2⟩ => by
    subst e1 e2
    refine ⟨rfl, by rw [hm]; simp [Mem.kind], (t, i, g, l, rest), ⟨hm, hw, rfl⟩, fun d m2 h1 => ?_⟩
    obtain ⟨h1, h2⟩ := h1
    exact ⟨by rw [show m2 = _ from h1], h2⟩
def InGo : List Nat × Nat × Nat × Nat → List Dt → Mem → Prop := fun x ds m => m = .cur x.1 x.2.1 x.2.2.1 ∧ TxtOk x.1 ∧ ds = [.int (x.2.2.2 : Int)]
def OutGo : List Nat × Nat × Nat × Nat → Dt → Mem → Prop := fun x d m => m = .cur x.1 x.2.1 x.2.2.1 ∧ d = .bl (((x.1.drop x.2.1).take 1 == [32]) && decide (x.2.2.1 + 1 + x.2.2.2 ≤ 14))
theorem c_goes_on (T : Tx c w mg) : Cal P w c.K mg base 2 "goes_on" (spQ c 1 InGo OutGo) := by
  have m_seen := m_seen (P := P) (base := base) T
  refine mk_cal T 20 sc_goes_on (fun _ _ _ _ _ _ us hl => match us, hl with | [_, _], _ => rfl) spQ_len fun f cdv A outer s H vs Q E hr h => ⟨_, PSs.nox (pss_one (ps_ret (pe_and (pe_cmpR (op_eqDK (K := c.K) rfl hr.units) (pe_mt0 m_seen hr (by first | decide | omega) T.cc (pv 0)) pe_str (nomark _)) (pe_one (pe_cmpR op_le (pe_op op_addU (pe_op op_addU (pe_fldK (K := c.K) rfl (pv 0)) pe_int) (pv 1)) (C8.pe_gc (by rfl) T.g_MOST_PLACES_reading) (nomark _)))))), body_q h fun x ds m hn hk hR => ?_⟩
  obtain ⟨t, i, g, wt⟩ := x
  obtain ⟨rfl, ok, rfl⟩ := hR
  simp only at ok
  refine (z_ret (P := fun d s1 => OutGo (t, i, g, wt) d s1.m) (e_andV (Pa := fun b s1 => b = ((t.drop i).take 1 == [32]) ∧ s1 = ⟨none, .cur t i g⟩) (e_seenEq (c := c) (j := 0) rfl rfl ok rfl (by intro ch hc; simp at hc; omega)).bl (fun s1 ⟨e1, e2⟩ => ?_) fun s1 ⟨e1, e2⟩ => ⟨by rw [e2], by rw [← e1]; rfl⟩)).imp (fun _ _ q => q.elim) fun _ _ q => q
  subst e2
  refine e_opx (P1 := fun d s1 => s1 = ⟨none, .cur t i g⟩ ∧ d = .int ((g : Int) + 1 + wt)) (e_opx (P1 := fun d s1 => s1 = ⟨none, .cur t i g⟩ ∧ d = .int ((g : Int) + 1)) (e_opx (P1 := fun d s1 => s1 = ⟨none, .cur t i g⟩ ∧ d = .int (g : Int)) (e_cfld T.cc T.nc rfl rfl rfl (fun H => .int _) ⟨rfl, rfl⟩) (x_int (i := 1)) fun d s1 ⟨h1, h2⟩ => ?_) (x_var (i := 1) rfl) fun d s1 ⟨h1, h2⟩ => ?_) (x_int (i := 14)) fun d s1 ⟨h1, h2⟩ => ?_
  · subst h1 h2
    exact ⟨_, x_addI (x_var rfl) (x_var rfl), rfl, rfl⟩
  · subst h1 h2
    exact ⟨_, x_addI (x_var rfl) (x_var rfl), rfl, rfl⟩
  · subst h1 h2
    refine ⟨_, x_le (x_var rfl) (x_var rfl), rfl, ?_⟩
    rw [← e1, Bool.true_and]
    congr 1
    rw [decide_eq_decide]
    show ((g : Int) + 1 + wt ≤ 14) ↔ (g + 1 + wt ≤ 14)
    omega
theorem e_goes {wt : Nat} (hi : D[j]? = some .mem) (hm : s.m = .cur t i g) (ok : TxtOk t) (hb : X c tb D (.int (wt : Int))) : E c (tCall (spQ c 1 InGo OutGo) [] E0 (tCons (tVar j) (tCons tb tNil))) D s (fun d s1 => s1 = s ∧ d = .bl (((t.drop i).take 1 == [32]) && decide (g + 1 + wt ≤ 14))) :=
  e_callQ (PB := fun ds s1 => ds = [.int (wt : Int)] ∧ s1 = s) hi (xa_cons hb xa_nil).E fun ds s1 ⟨e1, e2⟩ => by
    subst e1 e2
    refine ⟨rfl, by rw [hm]; simp [Mem.kind], (t, i, g, wt), ⟨hm, ok, rfl⟩, fun d m2 h1 => ?_⟩
    obtain ⟨h1, h2⟩ := h1
    refine ⟨?_, h2⟩
    rw [show m2 = _ from h1, ← hm]
theorem joinL_cons (a : List Nat) : ∀ (p : List Nat) (r : List (List Nat)), TL.joinL a (p :: r) = p ++ r.flatMap (a ++ ·)
  | p, [] => by simp [TL.joinL]
  | p, q :: r => by
    have ih := joinL_cons a q r
    simp only [TL.joinL] at ih ⊢
    rw [ih]
    simp
/-- the links behind the first -/
def tailL (ls : List Lk) : List Nat := (ls.map lkT).flatMap ([32] ++ ·)
theorem tailL_cons (l : Lk) (r : List Lk) : tailL (l :: r) = [32] ++ (lkT l ++ tailL r) := by simp [tailL]
theorem txt_net (l : Lk) (r : List Lk) : txt (.net (l :: r)) = [91] ++ (lkT l ++ (tailL r ++ [93])) := by
  show [91] ++ (TL.joinL [32] ((l :: r).map lkT) ++ [93]) = _
  rw [List.map_cons, joinL_cons]
  simp [tailL]
structure NetIn (t : List Nat) (i g wt : Nat) (ls : List Lk) (rest : List Nat) : Prop where
  ok : TxtOk t
  dr : t.drop i = txt (.net ls) ++ rest
  ne : ls ≠ []
  lk : ∀ l ∈ ls, LkOk l
  le : g + ls.length + wt ≤ 14
def InNt : List Nat × Nat × Nat × Nat × List Lk × List Nat → List Dt → Mem → Prop := fun x ds m => m = .cur x.1 x.2.1 x.2.2.1 ∧ NetIn x.1 x.2.1 x.2.2.1 x.2.2.2.1 x.2.2.2.2.1 x.2.2.2.2.2 ∧ ds = [.int (x.2.2.2.1 : Int)]
def OutNt : List Nat × Nat × Nat × Nat × List Lk × List Nat → Dt → Mem → Prop := fun x d m => m = .cur x.1 (x.2.1 + (txt (.net x.2.2.2.2.1)).length) (x.2.2.1 + x.2.2.2.2.1.length) ∧ d = dat true (made (.net x.2.2.2.2.1))
theorem c_read_net (T : Tx c w mg) : Cal P w c.K mg base 6 "read_net" (spQ c 1 InNt OutNt) := by
  have m_take := m_take (P := P) (base := base) T
  have c_read_link := c_read_link (P := P) (base := base) T
  have c_goes_on := c_goes_on (P := P) (base := base) T
  have c_net_shape := c_net_shape (P := P) (base := base) T
  refine mk_cal T 21 sc_read_net (fun _ _ _ _ _ _ us hl => match us, hl with | [_, _], _ => rfl) spQ_len fun f cdv A outer s H vs Q E hr h => ⟨_, PSs.nox (pss_cons (ps_expr (pe_mt m_take hr (by first | decide | omega) T.cc (pv 0) (pa_cons pe_str pa_nil))) 
      (pss_cons (ps_set (i := 2) sc_read_net.nd rfl (by first | exact Or.inl rfl | exact Or.inr rfl) (pe_lst (pa_cons (pe_c c_read_link hr (by first | decide | omega) (by rfl) (pa_cons (pv 0) pa_nil)) pa_nil))) 
      (pss_cons (ps_while PassesOwn.never (pt_val (pe_c c_goes_on hr (by first | decide | omega) (by rfl) (pa_cons (pv 0) (pa_cons (pv 1) pa_nil))))
        (pss_cons (ps_expr (pe_mt m_take hr (by first | decide | omega) T.cc (pv 0) (pa_cons pe_str pa_nil))) 
        (pss_one (ps_expr (pe_bmK (K := c.K) rfl PySem.F.plainAttrs_list PySem.F.slot_list_append PySem.F.type_list_append mt_append (pv 2) (pa_cons (pe_c c_read_link hr (by first | decide | omega) (by rfl) (pa_cons (pv 0) pa_nil)) pa_nil)))))) 
      (pss_cons (ps_expr (pe_mt m_take hr (by first | decide | omega) T.cc (pv 0) (pa_cons pe_str pa_nil))) 
      (pss_one (ps_ret (pe_c c_net_shape hr (by first | decide | omega) (by rfl) (pa_cons (pv 2) pa_nil)))))))), body_q h fun x ds m hn hk hR => ?_⟩
  obtain ⟨t, i, g, wt, ls, rest⟩ := x
  obtain ⟨rfl, hw, rfl⟩ := hR
  simp only at hw
  obtain ⟨l0, lr, rfl⟩ : ∃ l0 lr, ls = l0 :: lr := by
    cases ls with
    | nil => exact absurd rfl hw.ne
    | cons a r => exact ⟨a, r, rfl⟩
  have ok := hw.ok
  have hle : g + (lr.length + 1) + wt ≤ 14 := hw.le
  have d0 : t.drop i = [91] ++ (lkT l0 ++ (tailL lr ++ ([93] ++ rest))) := by
    rw [hw.dr, txt_net]
    simp
  have d1 := drop_app d0
  have d2 := drop_app d1
  have fence : ∀ r : List Lk, NoFig (tailL r ++ ([93] ++ rest)) := fun r => by
    cases r with
    | nil => exact .inr ⟨93, rest, rfl, by decide⟩
    | cons a r => exact .inr ⟨32, lkT a ++ tailL r ++ ([93] ++ rest), by rw [tailL_cons]; simp, by decide⟩
  refine z_take (sg := [91]) rfl rfl ok (x_str rfl) d0 ?_
  refine z_then (z_newL (PB := fun ds s1 => ds = [lkD l0] ∧ s1 = ⟨none, .cur t (i + [91].length + (lkT l0).length) (g + 1)⟩) (fun ds s1 ⟨e1, e2⟩ => by subst e1 e2; exact ⟨rfl, by simp⟩) (ea_cons (P2 := fun d s1 ds s2 => ds = [] ∧ s2 = s1) (e_link (j := 0) rfl rfl ⟨ok, d1, hw.lk l0 (by simp), fence lr⟩) (fun d s1 _ => ea_nil ⟨rfl, rfl⟩) fun d s1 ds s2 ⟨e1, e2⟩ ⟨e3, e4⟩ => ⟨by rw [e2, e3], by rw [e4, e1]⟩)) ?_
  rintro D1 s1 ⟨ds, s2, ⟨rfl, rfl⟩, rfl, rfl⟩
  refine z_then (Pm := fun D' s' => D' = [.mem, .d (.int (wt : Int)), .own] ∧ ∃ q, t.drop q = [93] ++ rest ∧ q = i + [91].length + (lkT l0).length + (tailL lr).length ∧ s' = ⟨some ((l0 :: lr).map lkD), .cur t q (g + 1 + lr.length)⟩)
    (z_while (fun D' s' => D' = [.mem, .d (.int (wt : Int)), .own] ∧ ∃ n q, n ≤ lr.length ∧ t.drop q = tailL (lr.drop n) ++ ([93] ++ rest) ∧ q + (tailL (lr.drop n)).length = i + [91].length + (lkT l0).length + (tailL lr).length ∧ s' = ⟨some ((l0 :: lr.take n).map lkD), .cur t q (g + 1 + n)⟩)
      (fun D' s' => lr.length + 1 - (s'.c.getD []).length) ⟨rfl, 0, _, Nat.zero_le _, d2, rfl, by simp⟩ ?_) ?_
  · rintro D1 s1 ⟨rfl, n, q, hn, hd, hq, rfl⟩
    have hg := e_goes (c := c) (D := [.mem, .d (.int (wt : Int)), .own]) (j := 0) (s := ⟨some ((l0 :: lr.take n).map lkD), .cur t q (g + 1 + n)⟩) (wt := wt) (tb := tVar 1) rfl rfl ok (x_var rfl)
    refine ⟨fun b s2 => b = decide (n < lr.length) ∧ s2 = ⟨some ((l0 :: lr.take n).map lkD), .cur t q (g + 1 + n)⟩, et_B (hg.imp fun d s2 ⟨e1, e2⟩ => ⟨_, e2, ?_, e1⟩), ?_, ?_⟩
    · by_cases hlt : n < lr.length
      · rw [hd, List.drop_eq_getElem_cons hlt, tailL_cons, decide_eq_true hlt, decide_eq_true (by omega)]
        rfl
      · rw [hd, List.drop_eq_nil_of_le (by omega), decide_eq_false hlt]
        rfl
    · rintro s2 ⟨hb, rfl⟩
      have hlt : n < lr.length := of_decide_eq_true hb.symm
      have e2 : lr.drop n = lr[n] :: lr.drop (n + 1) := List.drop_eq_getElem_cons hlt
      rw [e2, tailL_cons] at hd hq
      have dd0 : t.drop q = [32] ++ (lkT lr[n] ++ (tailL (lr.drop (n + 1)) ++ ([93] ++ rest))) := by
        rw [hd]
        simp
      have dd1 := drop_app dd0
      have dd2 := drop_app dd1
      refine z_take (sg := [32]) rfl rfl ok (x_str rfl) dd0 ?_
      refine (z_append (j := 2) rfl (by simp) (e_link (j := 0) rfl rfl ⟨ok, dd1, hw.lk _ (by simp), fence _⟩) fun d s1 ⟨e3, e4⟩ => ⟨_, by rw [e3], by simp; omega⟩).imp (fun D' s' ⟨e5, d, s1, es, ⟨e6, e7⟩, e8, e9⟩ => ?_) fun _ _ q => q.elim
      subst e5 e6 e7 e9
      cases e8
      refine ⟨⟨rfl, n + 1, _, hlt, dd2, ?_, ?_⟩, ?_⟩
      · simp only [List.length_append, List.length_cons, List.length_nil] at hq ⊢
        omega
      · have e9 : lr.take (n + 1) = lr.take n ++ [lr[n]] := by
          rw [List.take_add_one, List.getElem?_eq_getElem hlt]
          rfl
        rw [e9, ← List.cons_append, List.map_append]
        rfl
      · simp
        omega
    · rintro s2 ⟨hb, rfl⟩
      have hge : ¬ n < lr.length := of_decide_eq_false hb.symm
      have en : n = lr.length := by omega
      subst en
      rw [List.drop_length] at hd hq
      refine ⟨rfl, q, hd, by simpa [tailL] using hq, ?_⟩
      rw [List.take_length]
  rintro D1 s1 ⟨rfl, q, hd, hq, rfl⟩
  refine z_freeze (j := 2) rfl rfl rfl ?_
  refine z_take (sg := [93]) rfl rfl ok (x_str rfl) hd ?_
  refine z_retx (x_call (xa_cons (x_var rfl) xa_nil) ⟨l0 :: lr, by simp; omega, hw.lk, rfl, rfl⟩) ⟨?_, rfl⟩
  show Mem.cur t _ _ = Mem.cur t _ _
  rw [hq, txt_net]
  congr 1
  · simp only [List.length_append, List.length_cons, List.length_nil]
    omega
  · simp only [List.length_cons]
    omega
end
end Wb

/-! Rows and bunches read, parts read. -/
namespace Wb
open PySem PySem.Spec PyProof.Rows L2 SX
abbrev s_read_sign : Stmt := top 64
abbrev N_read_sign : List Str := ["cursor", "sign"]
theorem sc_read_sign : FnScope N_read_sign ["cursor"] (defScope s_read_sign) := ⟨rfl, rfl, rfl, by decide +kernel, rfl, by decide +kernel, by decide +kernel⟩

abbrev s_read_joined : Stmt := top 65
abbrev N_read_joined : List Str := ["cursor", "wanted", "parts", "sign"]
theorem sc_read_joined : FnScope N_read_joined ["cursor", "wanted"] (defScope s_read_joined) := ⟨rfl, rfl, rfl, by decide +kernel, rfl, by decide +kernel, by decide +kernel⟩

abbrev s_read_part : Stmt := top 66
abbrev N_read_part : List Str := ["cursor", "wanted"]
theorem sc_read_part : FnScope N_read_part ["cursor", "wanted"] (defScope s_read_part) := ⟨rfl, rfl, rfl, by decide +kernel, rfl, by decide +kernel, by decide +kernel⟩

def sc (k : Bool) : List Nat := if k then [38] else [124]
theorem sgn_eq (k : Bool) : sgn k = [32] ++ (sc k ++ [32]) := by cases k <;> rfl
def tailP (k : Bool) (ps : List Sh) : List Nat := (ps.map txt).flatMap (sgn k ++ ·)
theorem tailP_cons (k : Bool) (p : Sh) (r : List Sh) : tailP k (p :: r) = sgn k ++ (txt p ++ tailP k r) := by simp [tailP]
theorem txt_join (k : Bool) (p : Sh) (r : List Sh) : txt (.join k (p :: r)) = [40] ++ (txt p ++ (tailP k r ++ [41])) := by
  show [40] ++ (TL.joinL (sgn k) (txts (p :: r)) ++ [41]) = _
  rw [txts_map, List.map_cons, joinL_cons]
  simp [tailP]
theorem fl1_len {k : Bool} {p : Sh} (h : Norm p) (hz : size p ≤ 14) : (fl1 k p).length ≤ 14 := by
  cases p with
  | join k' ps =>
    by_cases e : k' = k
    · rw [show fl1 k (.join k' ps) = ps from if_pos e]
      have h' : 2 ≤ ps.length ∧ Norms k' ps := h
      have hn := norms_iff.mp h'.2
      have : ∀ qs : List Sh, (∀ q ∈ qs, Norm q ∧ Atom k' q) → qs.length ≤ sizes qs := by
        intro qs
        induction qs with
        | nil => intro _; exact Nat.zero_le _
        | cons q r ih =>
          intro hq
          obtain ⟨a1, a2⟩ := hq q (List.mem_cons_self ..)
          have a3 := tree_pos (atom_tree a1 a2 fun h1 h2 => norm_tree q a1 h1 h2)
          have a4 := ih fun p hp => hq p (List.mem_cons_of_mem _ hp)
          simp only [List.length_cons, sizes]
          omega
      have h2 := this ps hn
      have h3 : sizes ps ≤ 14 := hz
      omega
    · rw [show fl1 k (.join k' ps) = [.join k' ps] from if_neg e]
      simp
  | opn => exact (by decide : 1 ≤ 14)
  | sht => exact (by decide : 1 ≤ 14)
  | link n => exact (by decide : 1 ≤ 14)
  | net ls => exact (by decide : 1 ≤ 14)
theorem flat_len {k : Bool} : ∀ {ps : List Sh}, (∀ p ∈ ps, Norm p ∧ size p ≤ 14) → (ps.flatMap (fl1 k)).length ≤ 14 * ps.length
  | [], _ => Nat.zero_le _
  | p :: r, h => by
    have h1 := fl1_len (k := k) (h p (List.mem_cons_self ..)).1 (h p (List.mem_cons_self ..)).2
    have h2 := flat_len (k := k) (ps := r) fun q hq => h q (List.mem_cons_of_mem _ hq)
    simp only [List.flatMap_cons, List.length_append, List.length_cons]
    omega
theorem tree_made {s : Sh} (h : TreeOk s) (hz : size s ≤ 14) : Norm (made s) ∧ size (made s) ≤ 14 := by
  have h1 := tree_plan s h
  have h2 := size_made s h1
  exact ⟨made_norm s h1, by omega⟩
section
variable {c : Cf} {P : Program} {w : World} {mg : Str → Option Value} {base : Heap} {D : List SV} {ta tb te : TE} {tl : TA} {s : Sto} {t : List Nat} {i g j : Nat}
theorem z_go {tt : TT} {ts t2 : TS} {Pn : List SV → Sto → Prop} {Pr : Dt → Sto → Prop} (h : ET c tt D s fun b s1 => b = true ∧ s1 = s) (k : Z c ts D s (fun _ _ => False) Pr) : Z c (tSeq (tIfS tt ts tNext) t2) D s Pn Pr :=
  z_seq (Pm := fun _ _ => False) (z_if h (fun s1 ⟨_, e⟩ => by subst e; exact k) fun s1 ⟨e, _⟩ => nomatch e) fun _ _ q => q.elim
theorem x_notInG {l : List Nat} {u : Value} (ha : X c ta D (.str l)) (e : PySem.W.nsIn c.K c.aG (S l) = some (some u)) : X c (tOp (fun x y H Q => ∃ (z : Str) (r : Option Value), x = .str z ∧ y = .ref c.aG ∧ PySem.W.nsIn c.K c.aG z = some r ∧ Q (.bl (!r.isSome)) H) ta (tC (.ref c.aG))) D (.bl false) := fun W o p st H Q l a k =>
  ha W o p st H _ l a fun v H1 e1 r => by
    cases r
    exact ⟨_, _, rfl, rfl, e, k _ H1 e1 (.bl _)⟩
theorem x_ixG {l z : List Nat} {u : Value} (T : Tx c w mg) (hb : X c tb D (.str l)) (e : PySem.W.nsIn c.K c.aG (S l) = some (some u)) (r : RelV (.str (S z)) u) : X c (tOp (rIxD c.K w) (tC (.ref c.aG)) tb) D (.str z) := fun W o p st H Q l a k =>
  hb W o p st H _ l a fun v H1 e1 rv => by
    obtain ⟨es, n, hG⟩ := T.d_G
    cases rv
    exact ⟨_, _, _, rfl, rfl, ⟨es, n, u, hG.at_, hG.lit, e, r⟩, k _ H1 e1 (.str _)⟩
theorem sign_at (T : Tx c w mg) (k : Bool) : ∃ u, PySem.W.nsIn c.K c.aG (S (sc k)) = some (some u) ∧ RelV (.str (S (kn k))) u := by
  cases k
  · exact T.v_G2
  · exact T.v_G1
theorem sc_asc (k : Bool) : Asc (sc k) := by
  cases k <;> (intro ch hc; simp [sc] at hc; omega)
def InSg : List Nat × Nat × Nat × Bool × List Nat → List Dt → Mem → Prop := fun x ds m => m = .cur x.1 x.2.1 x.2.2.1 ∧ TxtOk x.1 ∧ x.1.drop x.2.1 = sgn x.2.2.2.1 ++ x.2.2.2.2 ∧ ds = []
def OutSg : List Nat × Nat × Nat × Bool × List Nat → Dt → Mem → Prop := fun x d m => m = .cur x.1 (x.2.1 + 3) x.2.2.1 ∧ d = .str (sc x.2.2.2.1)
theorem c_read_sign (T : Tx c w mg) : Cal P w c.K mg base 3 "read_sign" (spQ c 0 InSg OutSg) := by
  have m_seen := m_seen (P := P) (base := base) T
  have m_take := m_take (P := P) (base := base) T
  obtain ⟨es, n, hG⟩ := T.d_G
  refine mk_cal T 22 sc_read_sign (fun _ _ _ _ _ _ us hl => match us, hl with | [_], _ => rfl) spQ_len fun f cdv A outer s H vs Q E hr h => ⟨_, PSs.nox (pss_cons (ps_expr (pe_mt m_take hr (by first | decide | omega) T.cc (pv 0) (pa_cons pe_str pa_nil))) 
      (pss_cons (ps_set (i := 1) sc_read_sign.nd rfl (by first | exact Or.inl rfl | exact Or.inr rfl) (pe_mt0 m_seen hr (by first | decide | omega) T.cc (pv 0))) 
      (pss_cons (ps_if (PW.pt (pw_or (pt_cmpR (op_eqDK (K := c.K) rfl hr.units) (pv 1) pe_str (nomark _)) (pw_or1 (pt_cmpR (op_notIn_kd hG) (pv 1) (C8.pe_gc (by rfl) T.g_SIGNS) rfl))))
        (pss_one ps_never)
        pss_nil) 
      (pss_cons (ps_expr (pe_mt m_take hr (by first | decide | omega) T.cc (pv 0) (pa_cons (pe_joined (PJ.cons (pe_fmt (pv 1)) (PJ.cons pe_str PJ.nil))) pa_nil))) 
      (pss_one (ps_ret (pv 1))))))), body_q h fun x ds m hn hk hR => ?_⟩
  obtain ⟨t, i, g, k, rest⟩ := x
  obtain ⟨rfl, ok, hd, rfl⟩ := hR
  simp only at ok hd
  rw [sgn_eq] at hd
  have d0 : t.drop i = [32] ++ (sc k ++ [32] ++ rest) := by rw [hd]; simp
  have d1 := drop_app d0
  have l1 : (sc k).length = 1 := by cases k <;> rfl
  have e1 : (t.drop (i + [32].length)).take 1 = sc k := by
    rw [d1]
    cases k <;> rfl
  refine z_take (sg := [32]) rfl rfl ok (x_str rfl) d0 ?_
  refine z_then (z_set (e_seen (j := 0) rfl rfl ok.len)) ?_
  rintro D1 s1 ⟨d, ⟨rfl, rfl⟩, rfl⟩
  rw [e1]
  obtain ⟨u, hu, ru⟩ := sign_at T k
  refine z_guard ?_ ?_
  · have z1 := xt_test (x_eq (c := c) (ta := tVar 1) (tb := tC (.str "")) (D := [SV.mem, .d (.str (sc k))]) (x_var rfl) (x_str (l := []) rfl) (cm_str (sc_asc k)) (cm_str fun _ h => nomatch h))
    rw [show deq (.str (sc k)) (.str []) = false by cases k <;> rfl] at z1
    exact (xt_or (b2 := false) z1 fun _ => xt_test (x_notInG (x_var rfl) hu)).E
  · refine z_take (sg := sc k ++ [32]) (rest := rest) rfl rfl ok ?_ d1 (z_retx (x_var rfl) ⟨?_, rfl⟩)
    · have z := x_joined (c := c) (D := [SV.mem, .d (.str (sc k))]) (ps := [sc k, [32]]) (.cons (x_fmtS (ta := tVar 1) (x_var rfl) (by omega)) (.cons (x_str (z := " ") rfl) .nil)) (by simp; omega)
      rwa [show [sc k, [32]].flatten = sc k ++ [32] by simp] at z
    · show Mem.cur t _ _ = Mem.cur t _ _
      congr 1
      simp only [List.length_append, l1, List.length_cons, List.length_nil]
structure PtIn (n : Nat) (t : List Nat) (i g wt : Nat) (s : Sh) (rest : List Nat) : Prop where
  ok : TxtOk t
  dr : t.drop i = txt s ++ rest
  tr : TreeOk s
  dp : dep s < n
  le : g + size s + wt ≤ 14
  en : NoLet rest
def InPt (n : Nat) : List Nat × Nat × Nat × Nat × Sh × List Nat → List Dt → Mem → Prop := fun x ds m => m = .cur x.1 x.2.1 x.2.2.1 ∧ PtIn n x.1 x.2.1 x.2.2.1 x.2.2.2.1 x.2.2.2.2.1 x.2.2.2.2.2 ∧ ds = [.int (x.2.2.2.1 : Int)]
def OutPt : List Nat × Nat × Nat × Nat × Sh × List Nat → Dt → Mem → Prop := fun x d m => m = .cur x.1 (x.2.1 + (txt x.2.2.2.2.1).length) (x.2.2.1 + size x.2.2.2.2.1) ∧ d = dat true (made x.2.2.2.2.1)
theorem e_part {n wt : Nat} {sh : Sh} {rest : List Nat} (hi : D[j]? = some .mem) (hm : s.m = .cur t i g) (hb : X c tb D (.int (wt : Int))) (hw : PtIn n t i g wt sh rest) : E c (tCall (spQ c 1 (InPt n) OutPt) [] E0 (tCons (tVar j) (tCons tb tNil))) D s (fun d s1 => s1 = ⟨s.c, .cur t (i + (txt sh).length) (g + size sh)⟩ ∧ d = dat true (made sh)) :=
  e_callQ (PB := fun ds s1 => ds = [.int (wt : Int)] ∧ s1 = s) hi (xa_cons hb xa_nil).E fun ds s1 ⟨e1, e2⟩ => by
    subst e1 e2
    refine ⟨rfl, by rw [hm]; simp [Mem.kind], (t, i, g, wt, sh, rest), ⟨hm, hw, rfl⟩, fun d m2 h1 => ?_⟩
    obtain ⟨h1, h2⟩ := h1
    exact ⟨by rw [show m2 = _ from h1], h2⟩
theorem e_sign {k : Bool} {rest : List Nat} (hi : D[j]? = some .mem) (hm : s.m = .cur t i g) (ok : TxtOk t) (hd : t.drop i = sgn k ++ rest) : E c (tCall (spQ c 0 InSg OutSg) [] E0 (tCons (tVar j) tNil)) D s (fun d s1 => s1 = ⟨s.c, .cur t (i + 3) g⟩ ∧ d = .str (sc k)) :=
  e_callQ (PB := fun ds s1 => ds = [] ∧ s1 = s) hi (ea_nil ⟨rfl, rfl⟩) fun ds s1 ⟨e1, e2⟩ => by
    subst e1 e2
    refine ⟨rfl, by rw [hm]; simp [Mem.kind], (t, i, g, k, rest), ⟨hm, ok, hd, rfl⟩, fun d m2 h1 => ?_⟩
    obtain ⟨h1, h2⟩ := h1
    exact ⟨by rw [show m2 = _ from h1], h2⟩
theorem sizes_len {ps : List Sh} (h : ∀ p ∈ ps, TreeOk p) : ps.length ≤ sizes ps := by
  induction ps with
  | nil => exact Nat.zero_le _
  | cons q r ih =>
    have a1 := tree_pos (h q (List.mem_cons_self ..))
    have a2 := ih fun p hp => h p (List.mem_cons_of_mem _ hp)
    simp only [List.length_cons, sizes]
    omega
def InJn (n : Nat) : List Nat × Nat × Nat × Nat × Sh × List Nat → List Dt → Mem → Prop := fun x ds m => InPt n x ds m ∧ isJoin x.2.2.2.2.1 = true
theorem c_read_joined {n : Nat} (T : Tx c w mg) (c_read_part : Cal P w c.K mg base (7 + 2 * n) "read_part" (spQ c 1 (InPt n) OutPt)) : Cal P w c.K mg base (7 + 2 * n + 1) "read_joined" (spQ c 1 (InJn (n + 1)) OutPt) := by
  have m_take := m_take (P := P) (base := base) T
  have c_read_sign := c_read_sign (P := P) (base := base) T
  have c_goes_on := c_goes_on (P := P) (base := base) T
  have c_joined_shape := c_joined_shape (P := P) (base := base) T
  refine mk_cal T 23 sc_read_joined (fun _ _ _ _ _ _ us hl => match us, hl with | [_, _], _ => rfl) spQ_len fun f cdv A outer s H vs Q E hr h => ⟨_, PSs.nox (pss_cons (ps_if (pt_cmpR op_gt (pe_op op_addU (pe_op op_addU (pe_fldK (K := c.K) rfl (pv 0)) pe_int) (pv 1)) (C8.pe_gc (by rfl) T.g_MOST_PLACES_reading) (nomark _))
        (pss_one ps_never)
        pss_nil) 
      (pss_cons (ps_expr (pe_mt m_take hr (by first | decide | omega) T.cc (pv 0) (pa_cons pe_str pa_nil))) 
      (pss_cons (ps_set (i := 2) sc_read_joined.nd rfl (by first | exact Or.inl rfl | exact Or.inr rfl) (pe_lst (pa_cons (pe_c c_read_part hr (by first | decide | omega) (by rfl) (pa_cons (pv 0) (pa_cons (pe_op op_addU (pv 1) pe_int) pa_nil))) pa_nil))) 
      (pss_cons (ps_set (i := 3) sc_read_joined.nd rfl (by first | exact Or.inl rfl | exact Or.inr rfl) (pe_c c_read_sign hr (by first | decide | omega) (by rfl) (pa_cons (pv 0) pa_nil))) 
      (pss_cons (ps_expr (pe_bmK (K := c.K) rfl PySem.F.plainAttrs_list PySem.F.slot_list_append PySem.F.type_list_append mt_append (pv 2) (pa_cons (pe_c c_read_part hr (by first | decide | omega) (by rfl) (pa_cons (pv 0) (pa_cons (pv 1) pa_nil))) pa_nil))) 
      (pss_cons (ps_while PassesOwn.never (pt_val (pe_c c_goes_on hr (by first | decide | omega) (by rfl) (pa_cons (pv 0) (pa_cons (pv 1) pa_nil))))
        (pss_cons (ps_expr (pe_mt m_take hr (by first | decide | omega) T.cc (pv 0) (pa_cons (pe_joined (PJ.cons pe_str (PJ.cons (pe_fmt (pv 3)) (PJ.cons pe_str PJ.nil)))) pa_nil))) 
        (pss_one (ps_expr (pe_bmK (K := c.K) rfl PySem.F.plainAttrs_list PySem.F.slot_list_append PySem.F.type_list_append mt_append (pv 2) (pa_cons (pe_c c_read_part hr (by first | decide | omega) (by rfl) (pa_cons (pv 0) (pa_cons (pv 1) pa_nil))) pa_nil)))))) 
      (pss_cons (ps_expr (pe_mt m_take hr (by first | decide | omega) T.cc (pv 0) (pa_cons pe_str pa_nil))) 
      (pss_one (ps_ret (pe_c c_joined_shape hr (by first | decide | omega) (by rfl) (pa_cons (pe_ix ix_kdict (C8.pe_gc (by rfl) T.g_SIGNS) (pv 3) (fun _ _ => rfl)) (pa_cons (pv 2) pa_nil)))))))))))), body_q h fun x ds m hn hk hR => ?_⟩
  obtain ⟨t, i, g, wt, sh, rest⟩ := x
  obtain ⟨⟨rfl, hw, rfl⟩, hj⟩ := hR
  simp only at hw hj
  dsimp only
  obtain ⟨k, ps, rfl⟩ : ∃ k ps, sh = .join k ps := by cases sh <;> first | exact ⟨_, _, rfl⟩ | cases hj
  have h' : 2 ≤ ps.length ∧ TreeOks ps := hw.tr
  have ht := treeOks_iff.mp h'.2
  obtain ⟨p0, p1, pr, rfl⟩ : ∃ p0 p1 pr, ps = p0 :: p1 :: pr := by
    match ps, h'.1 with
    | a :: b :: r, _ => exact ⟨a, b, r, rfl⟩
  have ok := hw.ok
  have hdp : ∀ p ∈ p0 :: p1 :: pr, dep p < n := fun p hp => by
    have h1 := dep_mem hp
    have h2 : deps (p0 :: p1 :: pr) + 1 < n + 1 := hw.dp
    omega
  have hle : g + (size p0 + (size p1 + sizes pr)) + wt ≤ 14 := hw.le
  have pp0 := tree_pos (ht p0 (by simp))
  have pp1 := tree_pos (ht p1 (by simp))
  have hpr := sizes_len (ps := pr) fun p hp => ht p (by simp [hp])
  have d0 : t.drop i = [40] ++ (txt p0 ++ (sgn k ++ (txt p1 ++ (tailP k pr ++ ([41] ++ rest))))) := by
    rw [hw.dr, txt_join, tailP_cons]
    simp
  have d1 := drop_app d0
  have d2 := drop_app d1
  have d3 := drop_app d2
  have d4 := drop_app d3
  rw [show (sgn k).length = 3 by cases k <;> rfl] at d3 d4
  have f32 : ∀ r : List Nat, NoLet (sgn k ++ r) := fun r => by
    rw [sgn_eq]
    exact .inr ⟨32, sc k ++ [32] ++ r, by simp, by decide⟩
  have fence : ∀ r : List Sh, NoLet (tailP k r ++ ([41] ++ rest)) := fun r => by
    cases r with
    | nil => exact .inr ⟨41, rest, rfl, by decide⟩
    | cons a r =>
      rw [tailP_cons]
      have := f32 (txt a ++ tailP k r ++ ([41] ++ rest))
      simpa using this
  refine z_guard ?_ ?_
  · refine ET.of (e_opx (P1 := fun d s1 => s1 = ⟨none, .cur t i g⟩ ∧ d = .int ((g : Int) + 2 + wt)) (e_opx (P1 := fun d s1 => s1 = ⟨none, .cur t i g⟩ ∧ d = .int ((g : Int) + 2)) (e_opx (P1 := fun d s1 => s1 = ⟨none, .cur t i g⟩ ∧ d = .int (g : Int)) (e_cfld T.cc T.nc rfl rfl rfl (fun H => .int _) ⟨rfl, rfl⟩) (x_int (i := 2)) fun d s1 ⟨h1, h2⟩ => ?_) (x_var (i := 1) rfl) fun d s1 ⟨h1, h2⟩ => ?_) (x_int (i := 14)) fun d s1 ⟨h1, h2⟩ => ?_)
    · subst h1 h2
      exact ⟨_, x_addI (x_var rfl) (x_var rfl), rfl, rfl⟩
    · subst h1 h2
      exact ⟨_, x_addI (x_var rfl) (x_var rfl), rfl, rfl⟩
    · subst h1 h2
      refine ⟨_, x_gt (x_var rfl) (x_var rfl), rfl, ?_⟩
      congr 1
      rw [decide_eq_false]
      show ¬ ((14 : Int) < (g : Int) + 2 + wt)
      omega
  refine z_take (sg := [40]) rfl rfl ok (x_str rfl) d0 ?_
  refine z_then (z_newL (PB := fun ds s1 => ds = [dat true (made p0)] ∧ s1 = ⟨none, .cur t (i + [40].length + (txt p0).length) (g + size p0)⟩) (fun ds s1 ⟨e1, e2⟩ => by subst e1 e2; exact ⟨rfl, by simp⟩)
    (ea_cons (P2 := fun d s1 ds s2 => ds = [] ∧ s2 = s1) (e_part (j := 0) (wt := wt + 1) rfl rfl (show X c _ _ (.int ((wt : Int) + 1)) from x_addI (x_var rfl) x_int) ⟨ok, d1, ht p0 (by simp), hdp p0 (by simp), by omega, f32 _⟩) (fun d s1 _ => ea_nil ⟨rfl, rfl⟩) fun d s1 ds s2 ⟨e1, e2⟩ ⟨e3, e4⟩ => ⟨by rw [e2, e3], by rw [e4, e1]⟩)) ?_
  rintro D1 s1 ⟨ds, s2, ⟨rfl, rfl⟩, rfl, rfl⟩
  refine z_then (z_set (e_sign (j := 0) rfl rfl ok d2)) ?_
  rintro D1 s1 ⟨d, ⟨rfl, rfl⟩, rfl⟩
  refine z_then (Pm := fun D' s' => D' = [.mem, .d (.int (wt : Int)), .own, .d (.str (sc k))] ∧ s' = ⟨some ([p0, p1].map fun p => dat true (made p)), .cur t (i + [40].length + (txt p0).length + 3 + (txt p1).length) (g + size p0 + size p1)⟩) ((z_append (j := 2) rfl (by simp) (e_part (j := 0) rfl rfl (x_var rfl) ⟨ok, d3, ht p1 (by simp), hdp p1 (by simp), by omega, fence pr⟩) fun d s1 ⟨e3, e4⟩ => ⟨_, by rw [e3], by simp⟩).imp (fun D' s' ⟨e5, d, s1, es, ⟨e6, e7⟩, e8, e9⟩ => by
    subst e5 e6 e7 e9
    cases e8
    exact ⟨rfl, rfl⟩) fun _ _ q => q.elim) ?_
  rintro D1 s1 ⟨rfl, rfl⟩
  refine z_then (Pm := fun D' s' => D' = [.mem, .d (.int (wt : Int)), .own, .d (.str (sc k))] ∧ ∃ q, t.drop q = [41] ++ rest ∧ q = i + [40].length + (txt p0).length + 3 + (txt p1).length + (tailP k pr).length ∧ s' = ⟨some ((p0 :: p1 :: pr).map fun p => dat true (made p)), .cur t q (g + size p0 + size p1 + sizes pr)⟩)
    (z_while (fun D' s' => D' = [.mem, .d (.int (wt : Int)), .own, .d (.str (sc k))] ∧ ∃ m q, m ≤ pr.length ∧ t.drop q = tailP k (pr.drop m) ++ ([41] ++ rest) ∧ q + (tailP k (pr.drop m)).length = i + [40].length + (txt p0).length + 3 + (txt p1).length + (tailP k pr).length ∧ s' = ⟨some ((p0 :: p1 :: pr.take m).map fun p => dat true (made p)), .cur t q (g + size p0 + size p1 + sizes (pr.take m))⟩)
      (fun D' s' => pr.length + 2 - (s'.c.getD []).length) ⟨rfl, 0, _, Nat.zero_le _, d4, rfl, by simp [sizes]⟩ ?_) ?_
  · rintro D1 s1 ⟨rfl, m, q, hm, hd, hq, rfl⟩
    have hspl : sizes (pr.take m) + sizes (pr.drop m) = sizes pr := by
      have := sizes_app (pr.take m) (pr.drop m)
      rw [List.take_append_drop] at this
      exact this.symm
    have hdl := sizes_len (ps := pr.drop m) fun p hp => ht p (by simp [List.mem_of_mem_drop hp])
    rw [List.length_drop] at hdl
    have hg := e_goes (c := c) (D := [.mem, .d (.int (wt : Int)), .own, .d (.str (sc k))]) (j := 0) (s := ⟨some ((p0 :: p1 :: pr.take m).map fun p => dat true (made p)), .cur t q (g + size p0 + size p1 + sizes (pr.take m))⟩) (wt := wt) (tb := tVar 1) rfl rfl ok (x_var rfl)
    refine ⟨fun b s2 => b = decide (m < pr.length) ∧ s2 = ⟨some ((p0 :: p1 :: pr.take m).map fun p => dat true (made p)), .cur t q (g + size p0 + size p1 + sizes (pr.take m))⟩, et_B (hg.imp fun d s2 ⟨e1, e2⟩ => ⟨_, e2, ?_, e1⟩), ?_, ?_⟩
    · by_cases hlt : m < pr.length
      · rw [hd, List.drop_eq_getElem_cons hlt, tailP_cons, sgn_eq, decide_eq_true hlt, decide_eq_true (by omega)]
        rfl
      · rw [hd, List.drop_eq_nil_of_le (by omega), decide_eq_false hlt]
        rfl
    · rintro s2 ⟨hb, rfl⟩
      have hlt : m < pr.length := of_decide_eq_true hb.symm
      have e2 : pr.drop m = pr[m] :: pr.drop (m + 1) := List.drop_eq_getElem_cons hlt
      have hmem : pr[m] ∈ p0 :: p1 :: pr := by simp
      have hspl2 : sizes (pr.drop m) = size pr[m] + sizes (pr.drop (m + 1)) := by rw [e2]; rfl
      rw [e2, tailP_cons] at hd hq
      have dd0 : t.drop q = sgn k ++ (txt pr[m] ++ (tailP k (pr.drop (m + 1)) ++ ([41] ++ rest))) := by
        rw [hd]
        simp
      have dd1 := drop_app dd0
      have dd2 := drop_app dd1
      refine z_take (sg := sgn k) rfl rfl ok ?_ dd0 ?_
      · have z := x_joined (c := c) (D := [SV.mem, .d (.int (wt : Int)), .own, .d (.str (sc k))]) (ps := [[32], sc k, [32]]) (.cons (x_str (z := " ") rfl) (.cons (x_fmtS (ta := tVar 3) (x_var rfl) (by cases k <;> simp [sc])) (.cons (x_str (z := " ") rfl) .nil))) (by cases k <;> simp [sc])
        rwa [show [[32], sc k, [32]].flatten = sgn k by cases k <;> rfl] at z
      refine (z_append (j := 2) rfl (by simp) (e_part (j := 0) rfl rfl (x_var rfl) ⟨ok, dd1, ht _ hmem, hdp _ hmem, by omega, fence _⟩) fun d s1 ⟨e3, e4⟩ => ⟨_, by rw [e3], by simp; omega⟩).imp (fun D' s' ⟨e5, d, s1, es, ⟨e6, e7⟩, e8, e9⟩ => ?_) fun _ _ q => q.elim
      subst e5 e6 e7 e9
      cases e8
      have e9 : pr.take (m + 1) = pr.take m ++ [pr[m]] := by
        rw [List.take_add_one, List.getElem?_eq_getElem hlt]
        rfl
      refine ⟨⟨rfl, m + 1, _, hlt, dd2, ?_, ?_⟩, ?_⟩
      · simp only [List.length_append] at hq ⊢
        omega
      · have e10 : sizes (pr.take (m + 1)) = sizes (pr.take m) + size pr[m] := by
          rw [e9, sizes_app]
          simp [sizes]
        rw [e10, e9, show p0 :: p1 :: (pr.take m ++ [pr[m]]) = (p0 :: p1 :: pr.take m) ++ [pr[m]] from rfl, List.map_append, ← Nat.add_assoc]
        rfl
      · simp
        omega
    · rintro s2 ⟨hb, rfl⟩
      have hge : ¬ m < pr.length := of_decide_eq_false hb.symm
      have en : m = pr.length := by omega
      subst en
      rw [List.drop_length] at hd hq
      refine ⟨rfl, q, hd, by simpa [tailP] using hq, ?_⟩
      rw [List.take_length]
  rintro D1 s1 ⟨rfl, q, hd, hq, rfl⟩
  refine z_freeze (j := 2) rfl rfl rfl ?_
  refine z_take (sg := [41]) rfl rfl ok (x_str rfl) hd ?_
  obtain ⟨u, hu, ru⟩ := sign_at T k
  have hall : ∀ p ∈ p0 :: p1 :: pr, size p ≤ 14 := fun p hp => by
    have := size_mem hp
    have h2 : sizes (p0 :: p1 :: pr) = size p0 + (size p1 + sizes pr) := rfl
    omega
  have hnm : ∀ q ∈ (p0 :: p1 :: pr).map made, Norm q ∧ size q ≤ 14 := fun q hq => by
    obtain ⟨p, hp, rfl⟩ := List.mem_map.mp hq
    exact tree_made (ht p hp) (hall p hp)
  have hfl := flat_len (k := k) hnm
  refine z_retx (x_call (xa_cons (x_ixG T (x_var (i := 3) rfl) hu ru) (xa_cons (x_var (i := 2) rfl) xa_nil)) ⟨k, (p0 :: p1 :: pr).map made, fun q hq => ⟨norm_plan q (hnm q hq).1, by have := norm_dep (hnm q hq).1 (hnm q hq).2; omega⟩, ?_, ?_, ?_, rfl⟩) ⟨?_, ?_⟩
  · simp
    omega
  · refine Nat.le_trans hfl ?_
    simp
    omega
  · rw [List.map_map]
    rfl
  · show Mem.cur t _ _ = Mem.cur t _ _
    rw [hq, txt_join, tailP_cons]
    congr 1
    · simp only [List.length_append, List.length_cons, List.length_nil, show (sgn k).length = 3 by cases k <;> rfl]
      omega
    · show _ = g + (size p0 + (size p1 + sizes pr))
      omega
  · show _ = dat true (made (.join k (p0 :: p1 :: pr)))
    rw [show made (.join k (p0 :: p1 :: pr)) = joined k (mades (p0 :: p1 :: pr)) from rfl, mades_map]
theorem c_read_part1 {n : Nat} (T : Tx c w mg) (c_read_joined : Cal P w c.K mg base (7 + 2 * n + 1) "read_joined" (spQ c 1 (InJn (n + 1)) OutPt)) : Cal P w c.K mg base (7 + 2 * (n + 1)) "read_part" (spQ c 1 (InPt (n + 1)) OutPt) := by
  have m_seen := m_seen (P := P) (base := base) T
  have c_read_net := c_read_net (P := P) (base := base) T
  have c_read_name := c_read_name (P := P) (base := base) T
  refine mk_cal (k := 7 + 2 * n + 1) T 24 sc_read_part (fun _ _ _ _ _ _ us hl => match us, hl with | [_, _], _ => rfl) spQ_len fun f cdv A outer s H vs Q E hr h => ⟨_, PSs.nox (pss_cons (ps_if (pt_cmpR (op_eqDK (K := c.K) rfl hr.units) (pe_mt0 m_seen hr (by first | decide | omega) T.cc (pv 0)) pe_str (nomark _))
        (pss_one (ps_ret (pe_c c_read_joined hr (by first | decide | omega) (by rfl) (pa_cons (pv 0) (pa_cons (pv 1) pa_nil)))))
        pss_nil) 
      (pss_cons (ps_if (pt_cmpR (op_eqDK (K := c.K) rfl hr.units) (pe_mt0 m_seen hr (by first | decide | omega) T.cc (pv 0)) pe_str (nomark _))
        (pss_one (ps_ret (pe_c c_read_net hr (by first | decide | omega) (by rfl) (pa_cons (pv 0) (pa_cons (pv 1) pa_nil)))))
        pss_nil) 
      (pss_cons (ps_fld (pv 0) (pe_op op_addU (pe_fldK (K := c.K) rfl (pv 0)) pe_int) rfl) 
      (pss_one (ps_ret (pe_tup (pa_cons pe_str (pa_cons (pe_c c_read_name hr (by first | decide | omega) (by rfl) (pa_cons (pv 0) pa_nil)) pa_nil)))))))), body_q h fun x ds m hn hk hR => ?_⟩
  obtain ⟨t, i, g, wt, sh, rest⟩ := x
  obtain ⟨rfl, hw, rfl⟩ := hR
  simp only at hw
  dsimp only
  have ok := hw.ok
  have z0 := ET.of (e_seenEq (c := c) (D := [SV.mem, .d (.int (wt : Int))]) (j := 0) (s := ⟨none, .cur t i g⟩) (z := "(") (l := [40]) rfl rfl ok rfl (by intro ch hc; simp at hc; omega))
  have z1 := ET.of (e_seenEq (c := c) (D := [SV.mem, .d (.int (wt : Int))]) (j := 0) (s := ⟨none, .cur t i g⟩) (z := "[") (l := [91]) rfl rfl ok rfl (by intro ch hc; simp at hc; omega))
  have hdr := hw.dr
  cases sh with
  | opn => exact absurd hw.tr (fun h => h)
  | sht => exact absurd hw.tr (fun h => h)
  | join k ps =>
    rw [hdr, show (txt (.join k ps) ++ rest).take 1 = [40] from rfl] at z0
    refine z_go z0 ?_
    refine (z_ret (P := fun d s1 => OutPt (t, i, g, wt, .join k ps, rest) d s1.m) (e_callQ (PB := fun ds s1 => ds = [.int (wt : Int)] ∧ s1 = ⟨none, .cur t i g⟩) rfl (xa_cons (x_var (i := 1) rfl) xa_nil).E fun ds s1 ⟨e1, e2⟩ => ?_)).imp (fun _ _ q => q.elim) fun _ _ q => q
    subst e1 e2
    exact ⟨rfl, by simp [Mem.kind], (t, i, g, wt, .join k ps, rest), ⟨⟨rfl, hw, rfl⟩, rfl⟩, fun d m2 h1 => h1⟩
  | net ls =>
    have h' : ls ≠ [] ∧ ∀ x ∈ ls, LkOk x := hw.tr
    have e : (t.drop i).take 1 = [91] := by rw [hdr]; rfl
    rw [e] at z0 z1
    refine z_guard z0 (z_go z1 ?_)
    refine (z_ret (P := fun d s1 => OutPt (t, i, g, wt, .net ls, rest) d s1.m) (e_callQ (PB := fun ds s1 => ds = [.int (wt : Int)] ∧ s1 = ⟨none, .cur t i g⟩) rfl (xa_cons (x_var (i := 1) rfl) xa_nil).E fun ds s1 ⟨e1, e2⟩ => ?_)).imp (fun _ _ q => q.elim) fun _ _ q => q
    subst e1 e2
    exact ⟨rfl, by simp [Mem.kind], (t, i, g, wt, ls, rest), ⟨rfl, ⟨ok, hdr, h'.1, h'.2, hw.le⟩, rfl⟩, fun d m2 h1 => h1⟩
  | link n0 =>
    have nm : NameOk n0 := hw.tr
    obtain ⟨a, r, rfl⟩ : ∃ a r, n0 = a :: r := by
      cases n0 with
      | nil => exact absurd nm.pos (by simp)
      | cons a r => exact ⟨a, r, rfl⟩
    have ha := nm.let_ a (by simp)
    have e : (t.drop i).take 1 = [a] := by rw [hdr]; rfl
    rw [e] at z0 z1
    rw [show (([a] : List Nat) == [40]) = false by simp; omega] at z0
    rw [show (([a] : List Nat) == [91]) = false by simp; omega] at z1
    refine z_guard z0 (z_guard z1 ?_)
    refine z_then (Pm := fun D' s' => D' = [.mem, .d (.int (wt : Int))] ∧ s' = ⟨none, .cur t i (g + 1)⟩) (z_begin T rfl rfl ⟨rfl, rfl⟩) ?_
    rintro D1 s1 ⟨rfl, rfl⟩
    refine (z_ret (P := fun d s1 => OutPt (t, i, g, wt, .link (a :: r), rest) d s1.m) (e_tup (PB := fun ds s1 => ds = [.str nLink, .str (a :: r)] ∧ s1 = ⟨none, .cur t (i + (a :: r).length) (g + 1)⟩)
      (ea_cons (P2 := fun d s1 ds s2 => ds = [.str (a :: r)] ∧ s2 = ⟨none, .cur t (i + (a :: r).length) (g + 1)⟩) (x_str (z := "link") (l := nLink) rfl).E
        (fun d s1 ⟨e1, e2⟩ => by
          subst e1 e2
          exact ea_cons (P2 := fun d s1 ds s2 => ds = [] ∧ s2 = s1) (e_name (j := 0) (wd := a :: r) rfl rfl ⟨ok, hdr, nm.let_, nm.pos, nm.le, hw.en⟩ nm) (fun d s1 _ => ea_nil ⟨rfl, rfl⟩) fun d s1 ds s2 ⟨e1, e2⟩ ⟨e3, e4⟩ => ⟨by rw [e2, e3], by rw [e4, e1]⟩)
        fun d s1 ds s2 ⟨e1, _⟩ ⟨e2, e3⟩ => ⟨by rw [e1, e2], e3⟩)
      fun ds s1 ⟨e1, e2⟩ => ⟨by rw [e1]; simp, by rw [e2]; rfl, by rw [e1]; rfl⟩)).imp (fun _ _ q => q.elim) fun _ _ q => q
theorem c_read_part (T : Tx c w mg) : ∀ n : Nat, Cal P w c.K mg base (7 + 2 * n) "read_part" (spQ c 1 (InPt n) OutPt)
  | 0 => mk_cal (k := 6) T 24 sc_read_part (fun _ _ _ _ _ _ us hl => match us, hl with | [_, _], _ => rfl) spQ_len fun f cdv A outer s H vs Q E hr h =>
      let ⟨_, _, _, _, _, _, _, _, _, _, _, _, ⟨_, hw, _⟩, _⟩ := h; absurd hw.dp (Nat.not_lt_zero _)
  | n + 1 => c_read_part1 T (c_read_joined T (c_read_part T n))
end
end Wb

/-! Whole texts read. -/
namespace Wb
open PySem PySem.Spec PyProof.Rows L2 SX
abbrev s_Cursor___init__ : Stmt := inClass (top 54) 0
abbrev N_Cursor___init__ : List Str := ["self", "text"]
theorem sc_Cursor___init__ : FnScope N_Cursor___init__ ["self", "text"] (defScope s_Cursor___init__) := ⟨rfl, rfl, rfl, by decide +kernel, rfl, by decide +kernel, by decide +kernel⟩

abbrev s_cursor_of : Stmt := top 55
abbrev N_cursor_of : List Str := ["text"]
theorem sc_cursor_of : FnScope N_cursor_of ["text"] (defScope s_cursor_of) := ⟨rfl, rfl, rfl, by decide +kernel, rfl, by decide +kernel, by decide +kernel⟩

abbrev s_read_shape : Stmt := top 67
abbrev N_read_shape : List Str := ["text", "cursor", "found"]
theorem sc_read_shape : FnScope N_read_shape ["text"] (defScope s_read_shape) := ⟨rfl, rfl, rfl, by decide +kernel, rfl, by decide +kernel, by decide +kernel⟩

theorem join_asc {a : List Nat} (ha : Asc a) : ∀ (ys : List (List Nat)), (∀ y ∈ ys, Asc y) → Asc (TL.joinL a ys)
  | [], _ => fun ch hc => by simp [TL.joinL] at hc
  | p :: r, h => by
    rw [joinL_cons]
    intro ch hc
    rcases List.mem_append.mp hc with hc | hc
    · exact h p (by simp) ch hc
    · obtain ⟨y, hy, hc⟩ := List.mem_flatMap.mp hc
      rcases List.mem_append.mp hc with hc | hc
      · exact ha ch hc
      · exact h y (List.mem_cons_of_mem _ hy) ch hc
theorem num_asc {n : Nat} (h : n < 100) : Asc (TL.numL n) := fun ch hc => by
  have := List.all_eq_true.mp (num_facts n h).2.2.2.1 ch hc
  simp at this
  omega
theorem app_asc {a b : List Nat} (h1 : Asc a) (h2 : Asc b) : Asc (a ++ b) := fun ch hc => (List.mem_append.mp hc).elim (h1 ch) (h2 ch)
theorem one_asc {a : Nat} (h : a < 128) : Asc [a] := fun ch hc => by
  rw [List.mem_singleton.mp hc]
  exact h
theorem txt_asc : ∀ s : Sh, TreeOk s → Asc (txt s) := by
  refine Sh.ind (fun h => h.elim) (fun h => h.elim) (fun n h => nm_asc h) (fun ls h => ?_) (fun k ps ih h => ?_)
  · have h' : ls ≠ [] ∧ ∀ x ∈ ls, LkOk x := h
    refine app_asc (one_asc (by omega)) (app_asc (join_asc (one_asc (by omega)) _ fun y hy => ?_) (one_asc (by omega)))
    obtain ⟨l, hl, rfl⟩ := List.mem_map.mp hy
    have ok := h'.2 l hl
    exact app_asc (num_asc ok.u) (app_asc (one_asc (by omega)) (app_asc (nm_asc ok.nm) (app_asc (one_asc (by omega)) (num_asc ok.v))))
  · have h' : 2 ≤ ps.length ∧ TreeOks ps := h
    have ht := treeOks_iff.mp h'.2
    show Asc ([40] ++ (TL.joinL (sgn k) (txts ps) ++ [41]))
    rw [txts_map]
    refine app_asc (one_asc (by omega)) (app_asc (join_asc ?_ _ fun y hy => ?_) (one_asc (by omega)))
    · cases k <;> (intro ch hc; simp [sgn] at hc; omega)
    · obtain ⟨p, hp, rfl⟩ := List.mem_map.mp hy
      exact ih p hp (ht p hp)
theorem txt_ok {s : Sh} (h : TreeOk s) (hz : size s ≤ 14) : TxtOk (txt s) := ⟨by have := txt_len s h; omega, txt_asc s h⟩
theorem txt_not {s : Sh} (h : TreeOk s) : txt s ≠ nOpen ∧ txt s ≠ nShut := by
  cases s with
  | opn => exact absurd h (fun h => h)
  | sht => exact absurd h (fun h => h)
  | link n => exact ⟨NameOk.o h, NameOk.s h⟩
  | net ls => exact ⟨fun e => by injection e with e1; exact absurd e1 (by decide), fun e => by injection e with e1; exact absurd e1 (by decide)⟩
  | join k ps => exact ⟨fun e => by injection e with e1; exact absurd e1 (by decide), fun e => by injection e with e1; exact absurd e1 (by decide)⟩
section
variable {c : Cf} {P : Program} {w : World} {mg : Str → Option Value} {base : Heap}
/-- Cursor.__init__ -/
def spCi (c : Cf) : Sp := fun vs H Q _ => ∃ (x dx : Addr) (t : List Nat), vs = [.ref x, .str (S t)] ∧ H x = some (.ins c.CC dx []) ∧ Q .non (upd H x (.ins c.CC dx (curF t 0 0)))
theorem i_Cursor (T : Tx c w mg) : Mak P w c.K mg base 1 c.CC (spCi c) := by
  refine mk_ic T sc_Cursor___init__ (fun _ _ _ _ _ _ us hl => match us, hl with | [_, _], _ => rfl) (fun vs H Q E h => by obtain ⟨_, _, _, rfl, _⟩ := h; rfl) fun f cdv A outer s H vs Q E hr h => ⟨_, PSs.nox (pss_cons (ps_fld (pv 0) (pv 1) rfl) 
      (pss_cons (ps_fld (pv 0) pe_int rfl) 
      (pss_one (ps_fld (pv 0) pe_int rfl)))), ?_⟩
  obtain ⟨x, dx, t, rfl, hx, q⟩ := h
  refine ⟨.str (S t), rfl, .ref x, rfl, x, c.CC, dx, [], rfl, hx, T.cc, T.nt, by decide, ?_⟩
  refine ⟨.ref x, rfl, x, c.CC, dx, _, rfl, upd_same, T.cc, T.nb, (by show 1 < 1000; decide), ?_⟩
  rw [upd_upd]
  refine ⟨.ref x, rfl, x, c.CC, dx, _, rfl, upd_same, T.cc, T.nc, (by show 2 < 1000; decide), ?_⟩
  rw [upd_upd]
  exact q
/-- cursor_of -/
def spCo (c : Cf) : Sp := fun vs H Q _ => ∃ t : List Nat, vs = [.str (S t)] ∧ ∀ q dx H2, H q = none → Same H H2 → H2 q = some (.ins c.CC dx (curF t 0 0)) → Q (.ref q) H2
theorem c_cursor_of (T : Tx c w mg) : Cal P w c.K mg base 3 "cursor_of" (spCo c) := by
  have i_Cursor := i_Cursor (P := P) (base := base) T
  refine mk_cal T 13 sc_cursor_of (fun _ _ _ _ _ _ us hl => match us, hl with | [_], _ => rfl) (fun vs H Q E h => by obtain ⟨_, rfl, _⟩ := h; rfl) fun f cdv A outer s H vs Q E hr h => ⟨_, PSs.nox (pss_cons (ps_if (pt_not (pt_val (pe_callB (call_isiK2 (K := c.K) rfl) (by rfl) T.b_isinstance boot_isinstance (pa_cons (pv 0) (pa_cons (pe_bltn (v := .ty "str") (by rfl) T.b_str boot_str rfl) pa_nil)))))
        (pss_one ps_never)
        pss_nil) 
      (pss_one (ps_ret (pe_mk i_Cursor hr (by first | decide | omega) (by rfl) T.mCC (pa_cons (pv 0) pa_nil))))), ?_⟩
  obtain ⟨t, rfl, q⟩ := h
  refine ⟨.str (S t), rfl, _, .ty "str", _, .type "str", true, rfl, .ty "str", .base (.str (S t)), rfl, true, rfl, iteF ?_⟩
  refine ⟨.str (S t), rfl, fun x dx hx hdx hne => ⟨x, dx, t, rfl, upd_same, rfl, q x dx _ hx (fun b u e => ?_) upd_same⟩⟩
  have n1 : b ≠ x := ne_of_none e hx
  have n2 : b ≠ dx := ne_of_none e hdx
  rw [upd_ne n1, upd_ne n1, upd_ne n2]
  exact e
abbrev RelRead : List Dt → Dt → Prop := fun ds d => ∃ s : Sh, (TreeOk s ∨ s = .opn ∨ s = .sht) ∧ size s ≤ 14 ∧ ds = [.str (txt s)] ∧ d = dat true (made s)
/-- from here on the cell at q is the cursor -/
theorem z_cur {ts : TS} {W : WS} {q : Addr} {H H2 : Hp} {dx : Addr} {t : List Nat} {D : List SV} {st : L2.St} {Q : VK} {d0 : Dt} {nx : L2.St → Hp → Prop} (h : Z c ts D ⟨none, .cur t 0 0⟩ (fun _ _ => False) (fun d _ => d = d0)) (l : Live W H) (hq : H q = none) (hs : Same H H2) (h2 : H2 q = some (.ins c.CC dx (curF t 0 0)))
    (sl : Sl c 0 q (hide (add W q) H2) D st) (k : ∀ v H3, Same H H3 → R c (hide W H3) v d0 → Q v H3) : ts { nx := nx, rt := Q } st H2 := by
  have l2 : Live (add W q) H2 := (l.same hs).add h2
  refine h (add W q) 0 q st H2 _ ⟨l2, (fun _ e => nomatch e), ⟨add_self, dx, h2⟩, fun _ => add_self, sl⟩ (fun _ _ _ _ _ q => q.elim) fun o2 v H3 d s3 e sp a r => ?_
  subst e
  refine k v H3 (fun b x e => sp.keep b x (hs b x e) (fun n => absurd rfl n) fun _ => ne_of_none e hq) (r.mono (hide_less fun b hb => add_of hb))
theorem c_read_shape (T : Tx c w mg) : Cal P w c.K mg base 36 "read_shape" (spP c 1 RelRead) := by
  have c_cursor_of := c_cursor_of (P := P) (base := base) T
  have c_read_part := c_read_part (P := P) (base := base) T 14
  have c_need_end := c_need_end (P := P) (base := base) T
  refine mk_cal T 25 sc_read_shape (fun _ _ _ _ _ _ us hl => match us, hl with | [_], _ => rfl) spP_len fun f cdv A outer s H vs Q E hr h => ⟨_, PSs.nox (pss_cons (ps_set (i := 1) sc_read_shape.nd rfl (by first | exact Or.inl rfl | exact Or.inr rfl) (pe_c c_cursor_of hr (by first | decide | omega) (by rfl) (pa_cons (pv 0) pa_nil))) 
      (pss_cons (ps_if (pt_cmpR (op_eqDK (K := c.K) rfl hr.units) (pv 0) pe_str (nomark _))
        (pss_one (ps_ret (C8.pe_gc (by rfl) T.g_OPEN)))
        pss_nil) 
      (pss_cons (ps_if (pt_cmpR (op_eqDK (K := c.K) rfl hr.units) (pv 0) pe_str (nomark _))
        (pss_one (ps_ret (C8.pe_gc (by rfl) T.g_SHUT)))
        pss_nil) 
      (pss_cons (ps_set (i := 2) sc_read_shape.nd rfl (by first | exact Or.inl rfl | exact Or.inr rfl) (pe_c c_read_part hr (by first | decide | omega) (by rfl) (pa_cons (pv 1) (pa_cons pe_int pa_nil)))) 
      (pss_cons (ps_expr (pe_c c_need_end hr (by first | decide | omega) (by rfl) (pa_cons (pv 1) pa_nil))) 
      (pss_one (ps_ret (pv 2)))))))), ?_⟩
  obtain ⟨hn, W, ds, d, l, rs, ⟨s, hs, hz, rfl, rfl⟩, k⟩ := h
  obtain ⟨v, rfl, r⟩ := ra_one rs
  have rv : v = .str (S (txt s)) := by cases r; rfl
  subst rv
  refine ⟨.str (S (txt s)), rfl, txt s, rfl, fun q dx H2 hq hs2 h2 => ?_⟩
  have hasc : Asc (txt s) := by
    rcases hs with h | rfl | rfl
    · exact txt_asc s h
    · exact tag_asc .opn
    · exact tag_asc .sht
  change (tSeq _ _) { nx := _, rt := Q } ((L2.start N_read_shape [V.str (S (txt s))]).set 1 (some (.ref q))) H2
  refine z_cur (D := [.d (.str (txt s)), .mem, .un]) (t := txt s) (d0 := dat true (made s)) ?_ l hq hs2 h2 (fun i z hz => ?_) k
  · have zo := x_eq (c := c) (ta := tVar 0) (tb := tC (.str "open")) (D := [.d (.str (txt s)), .mem, .un]) (x_var rfl) (x_str (l := nOpen) rfl) (cm_str hasc) (cm_str (tag_asc .opn))
    have zs := x_eq (c := c) (ta := tVar 0) (tb := tC (.str "shut")) (D := [.d (.str (txt s)), .mem, .un]) (x_var rfl) (x_str (l := nShut) rfl) (cm_str hasc) (cm_str (tag_asc .sht))
    rw [deq_str] at zo zs
    rcases hs with h | rfl | rfl
    · obtain ⟨no, ns⟩ := txt_not h
      rw [show (txt s == nOpen) = false by simpa using no] at zo
      rw [show (txt s == nShut) = false by simpa using ns] at zs
      refine z_guard (xt_test zo).E (z_guard (xt_test zs).E ?_)
      refine z_then (z_set (e_part (j := 1) (n := 14) (wt := 0) (rest := []) rfl rfl (show X c _ _ (.int ((0 : Nat) : Int)) from x_int) ⟨txt_ok h hz, by simp, h, by have := tree_size s h; omega, by omega, .inl rfl⟩)) ?_
      rintro D1 s1 ⟨d, ⟨rfl, rfl⟩, rfl⟩
      refine z_then (z_drop (P := fun d s1 => s1.m.kind = 2) (e_callQ (PB := fun ds s1 => ds = [] ∧ s1 = ⟨none, .cur (txt s) (0 + (txt s).length) (0 + size s)⟩) (i := 1) rfl (ea_nil ⟨rfl, rfl⟩) fun ds s1 ⟨e1, e2⟩ => ?_)) ?_
      · subst e1 e2
        refine ⟨rfl, by simp [Mem.kind], (txt s, 0 + size s), ⟨by rw [Nat.zero_add], txt_ok h hz, rfl⟩, fun d m2 h1 => ?_⟩
        rw [show m2 = _ from h1]
        rfl
      rintro D1 s1 ⟨rfl, -⟩
      exact z_retx (x_var (i := 2) rfl) rfl
    · rw [show (txt .opn == nOpen) = true from rfl] at zo
      refine z_go (xt_test zo).E ?_
      exact z_retx (x_tO T) rfl
    · rw [show (txt .sht == nOpen) = false from rfl] at zo
      rw [show (txt .sht == nShut) = true from rfl] at zs
      refine z_guard (xt_test zo).E (z_go (xt_test zs).E ?_)
      exact z_retx (x_tS T) rfl
  · match i, hz with
    | 0, hz => cases hz; exact ⟨_, rfl, _, rfl, .str _⟩
    | 1, hz => cases hz; exact ⟨_, rfl, rfl⟩
    | 2, hz => cases hz; exact ⟨_, rfl, trivial⟩
end
end Wb

/-! Webs. -/
namespace Wb
open PySem PySem.Spec PyProof.Rows L2 SX
abbrev s_Web___init__ : Stmt := inClass (top 76) 1
abbrev N_Web___init__ : List Str := ["self", "shape"]
theorem sc_Web___init__ : FnScope N_Web___init__ ["self", "shape"] (defScope s_Web___init__) := ⟨rfl, rfl, rfl, by decide +kernel, rfl, by decide +kernel, by decide +kernel⟩

abbrev s_shape_of : Stmt := top 70
abbrev N_shape_of : List Str := ["thing", "at"]
theorem sc_shape_of : FnScope N_shape_of ["thing", "at"] (defScope s_shape_of) := ⟨rfl, rfl, rfl, by decide +kernel, rfl, by decide +kernel, by decide +kernel⟩

abbrev s_need_few : Stmt := top 71
abbrev N_need_few : List Str := ["many"]
theorem sc_need_few : FnScope N_need_few ["many"] (defScope s_need_few) := ⟨rfl, rfl, rfl, by decide +kernel, rfl, by decide +kernel, by decide +kernel⟩

abbrev s_joined_web : Stmt := top 72
abbrev N_joined_web : List Str := ["kind", "parts", "shape", "at", "part"]
theorem sc_joined_web : FnScope N_joined_web ["kind", "parts"] (defScope s_joined_web) := ⟨rfl, rfl, rfl, by decide +kernel, rfl, by decide +kernel, by decide +kernel⟩

abbrev s_Web_link : Stmt := inClass (top 76) 2
abbrev N_Web_link : List Str := ["name"]
theorem sc_Web_link : FnScope N_Web_link ["name"] (defScope s_Web_link) := ⟨rfl, rfl, rfl, by decide +kernel, rfl, by decide +kernel, by decide +kernel⟩

abbrev s_Web_net : Stmt := inClass (top 76) 3
abbrev N_Web_net : List Str := ["links", "at", "thing"]
theorem sc_Web_net : FnScope N_Web_net ["links"] (defScope s_Web_net) := ⟨rfl, rfl, rfl, by decide +kernel, rfl, by decide +kernel, by decide +kernel⟩

abbrev s_Web_always : Stmt := inClass (top 76) 6
abbrev N_Web_always : List Str := []
theorem sc_Web_always : FnScope N_Web_always [] (defScope s_Web_always) := ⟨rfl, rfl, rfl, by decide +kernel, rfl, by decide +kernel, by decide +kernel⟩

abbrev s_Web_never : Stmt := inClass (top 76) 7
abbrev N_Web_never : List Str := []
theorem sc_Web_never : FnScope N_Web_never [] (defScope s_Web_never) := ⟨rfl, rfl, rfl, by decide +kernel, rfl, by decide +kernel, by decide +kernel⟩

abbrev s_Web_read : Stmt := inClass (top 76) 8
abbrev N_Web_read : List Str := ["cls", "text"]
theorem sc_Web_read : FnScope N_Web_read ["cls", "text"] (defScope s_Web_read) := ⟨rfl, rfl, rfl, by decide +kernel, rfl, by decide +kernel, by decide +kernel⟩

abbrev s_Web_kind : Stmt := inClass (top 76) 9
abbrev N_Web_kind : List Str := ["self"]
theorem sc_Web_kind : FnScope N_Web_kind ["self"] (defScope s_Web_kind) := ⟨rfl, rfl, rfl, by decide +kernel, rfl, by decide +kernel, by decide +kernel⟩

abbrev s_Web_links : Stmt := inClass (top 76) 11
abbrev N_Web_links : List Str := ["self"]
theorem sc_Web_links : FnScope N_Web_links ["self"] (defScope s_Web_links) := ⟨rfl, rfl, rfl, by decide +kernel, rfl, by decide +kernel, by decide +kernel⟩

abbrev s_Web___str__ : Stmt := inClass (top 76) 21
abbrev N_Web___str__ : List Str := ["self"]
theorem sc_Web___str__ : FnScope N_Web___str__ ["self"] (defScope s_Web___str__) := ⟨rfl, rfl, rfl, by decide +kernel, rfl, by decide +kernel, by decide +kernel⟩

abbrev s_Web___eq__ : Stmt := inClass (top 76) 25
abbrev N_Web___eq__ : List Str := ["self", "other"]
theorem sc_Web___eq__ : FnScope N_Web___eq__ ["self", "other"] (defScope s_Web___eq__) := ⟨rfl, rfl, rfl, by decide +kernel, rfl, by decide +kernel, by decide +kernel⟩

abbrev s_Web___and__ : Stmt := inClass (top 76) 26
abbrev N_Web___and__ : List Str := ["self", "other"]
theorem sc_Web___and__ : FnScope N_Web___and__ ["self", "other"] (defScope s_Web___and__) := ⟨rfl, rfl, rfl, by decide +kernel, rfl, by decide +kernel, by decide +kernel⟩

abbrev s_Web___or__ : Stmt := inClass (top 76) 28
abbrev N_Web___or__ : List Str := ["self", "other"]
theorem sc_Web___or__ : FnScope N_Web___or__ ["self", "other"] (defScope s_Web___or__) := ⟨rfl, rfl, rfl, by decide +kernel, rfl, by decide +kernel, by decide +kernel⟩

section
variable {c : Cf} {P : Program} {w : World} {mg : Str → Option Value} {base : Heap} {D : List SV} {ta tb te : TE} {d : Dt}
def spWi (c : Cf) : Sp := fun vs H Q _ => ∃ (x dx : Addr) (v : V), vs = [.ref x, v] ∧ H x = some (.ins c.C dx []) ∧ Q .non (upd H x (.ins c.C dx (shF v)))
theorem i_Web (T : Tx c w mg) : Mak P w c.K mg base 1 c.C (spWi c) := by
  refine mk_iw T sc_Web___init__ (fun _ _ _ _ _ _ us hl => match us, hl with | [_, _], _ => rfl) (fun vs H Q E h => by obtain ⟨_, _, _, rfl, _⟩ := h; rfl) fun f cdv A outer s H vs Q E hr h => ⟨_, PSs.nox (pss_one (ps_fld (pv 0) (pv 1) rfl)), ?_⟩
  obtain ⟨x, dx, v, rfl, hx, q⟩ := h
  exact ⟨v, rfl, .ref x, rfl, x, c.C, dx, [], rfl, hx, T.cw, T.na, by decide, q⟩
theorem x_web (h : X c te D d) : X c (tMake c.C (spWi c) [] E0 (tCons te tNil)) D (.web d) := fun W o p st H Q l a k =>
  h W o p st H _ l a fun v H1 e1 r => by
    intro x dx hx hdx hne
    refine ⟨x, dx, v, rfl, upd_same, rfl, ?_⟩
    rw [upd_upd]
    have s2 : Same H1 (upd (upd H1 dx (.own x)) x (.ins c.C dx (shF v))) := fun b u e => by
      rw [upd_ne (ne_of_none e hx), upd_ne (ne_of_none e hdx)]
      exact e
    exact k _ _ (e1.trans s2) (.web (hide_at upd_same ((l.same e1).fresh hx)) (r.mono (hide_same s2)))
theorem x_webL {i : Nat} (hi : D[i]? = some (.v (.ref c.C))) (h : X c te D d) : X c (tMakeL i c.C (spWi c) (tCons te tNil)) D (.web d) := fun W o p st H Q l a k => by
  obtain ⟨x, hx, e⟩ := a i _ hi
  subst e
  exact ⟨hx, x_web h W o p st H Q l a k⟩
theorem x_shape (T : Tx c w mg) (h : X c te D (.web d)) : X c (tFld c.K te "shape") D d := fun W o p st H Q l a k =>
  h W o p st H _ l a fun v H1 e1 r => by
    cases r with
    | web h1 r1 => exact ⟨_, c.C, _, _, _, rfl, hide_sub _ _ h1, T.cw, T.na, rfl, k _ H1 e1 r1⟩
theorem x_prop {Rel : List Dt → Dt → Prop} {e : Dt} (h : X c te D (.web d)) (r : Rel [.web d] e) : X c (tProp c.C (spP c 1 Rel) [] E0 te) D e := fun W o p st H Q l a k =>
  h W o p st H _ l a fun v H1 e1 rv => by
    have rv2 := rv
    cases rv with
    | web h1 r1 => exact ⟨_, _, _, rfl, hide_sub _ _ h1, rfl, W, [.web d], e, l.same e1, .cons rv2 .nil, r, fun v H2 e2 r2 => k v H2 (e1.trans e2) r2⟩
theorem x_strW {Rel : List Dt → Dt → Prop} {z : List Nat} (h : X c te D (.web d)) (r : Rel [.web d] (.str z)) : X c (tCB (rStrO c.C (spP c 1 Rel)) (tCons te tNil)) D (.str z) := fun W o p st H Q l a k =>
  h W o p st H _ l a fun v H1 e1 rv => by
    have rv2 := rv
    cases rv with
    | web h1 r1 => exact ⟨_, _, _, rfl, hide_sub _ _ h1, rfl, W, [.web d], .str z, l.same e1, .cons rv2 .nil, r, fun v H2 e2 r2 => by
        have r3 := r2
        cases r3
        exact ⟨_, rfl, k _ H2 (e1.trans e2) r2⟩⟩
theorem x_own2 {Rel : List Dt → Dt → Prop} {d2 e : Dt} (ha : X c ta D (.web d)) (hb : X c tb D (.web d2)) (r : Rel [.web d, .web d2] e) : X c (tOp (rOwn2 c.C (spP c 2 Rel)) ta tb) D e :=
  x_op ha hb fun W H x y Q l rx ry k => by
    have rx2 := rx
    have ry2 := ry
    cases rx with
    | web h1 r1 =>
      cases ry with
      | web h2 r2 => exact ⟨_, _, _, _, _, _, rfl, rfl, hide_sub _ _ h1, hide_sub _ _ h2, rfl, W, [.web d, .web d2], e, l, .cons rx2 (.cons ry2 .nil), r, k⟩
theorem x_sm {n : Nat} {Rel : List Dt → Dt → Prop} {tl : TA} {ds : List Dt} {e : Dt} (h : XA c tl D ds) (r : Rel ds e) (hn : ds.length = n := by rfl) : X c (tSMeth c.C (spP c n Rel) (tC (.ref c.C)) tl) D e := fun W o p st H Q l a k =>
  ⟨rfl, h W o p st H _ l a fun vs H1 e1 rs => ⟨by rw [rs.len]; exact hn, W, ds, e, l.same e1, rs, r, fun v H2 e2 r2 => k v H2 (e1.trans e2) r2⟩⟩
theorem x_isW (T : Tx c w mg) (h : X c te D (.web d)) : X c (tCB (fun xs H Q => ∃ a dx fs, xs = [.ref a, .ref c.C] ∧ H a = some (.ins c.C dx fs) ∧ Q (.bl true) H) (tCons te (tCons (tC (.ref c.C)) tNil))) D (.bl true) := fun W o p st H Q l a k =>
  h W o p st H _ l a fun v H1 e1 r => by
    cases r with
    | web h1 r1 => exact ⟨_, _, _, rfl, hide_sub _ _ h1, k _ H1 e1 (.bl true)⟩
/-! ### the defs -/
theorem c_shape_of (T : Tx c w mg) : Cal P w c.K mg base 1 "shape_of" (spP c 2 fun ds d => ∃ i : Int, ds = [.web d, .int i]) := by
  refine mk_cal T 26 sc_shape_of (fun _ _ _ _ _ _ us hl => match us, hl with | [_, _], _ => rfl) spP_len fun f cdv A outer s H vs Q E hr h => ⟨_, PSs.nox (pss_cons (ps_if (pt_val (pe_callB (C8.call_isC T.ins) (by rfl) T.b_isinstance boot_isinstance (pa_cons (pv 0) (pa_cons (pe_glob (v := .ref c.C) (by rfl) T.mC rfl) pa_nil))))
        (pss_one (ps_ret (pe_fldK (K := c.K) rfl (pv 0))))
        pss_nil) 
      (pss_cons ps_never 
      (pss_one (ps_ret (pe_tup (pa_cons pe_str (pa_cons (pv 0) pa_nil))))))), body_p h fun ds d hn hR => ?_⟩
  obtain ⟨i, rfl⟩ := hR
  exact z_go ((xt_B (x_isW T (x_var rfl))).E) (z_retx (x_shape T (x_var rfl)) rfl)
theorem c_need_few (T : Tx c w mg) : Cal P w c.K mg base 1 "need_few" (spP c 1 fun ds d => ∃ n : Nat, n ≤ 14 ∧ ds = [.int (n : Int)] ∧ d = .non) := by
  refine mk_cal T 27 sc_need_few (fun _ _ _ _ _ _ us hl => match us, hl with | [_], _ => rfl) spP_len fun f cdv A outer s H vs Q E hr h => ⟨_, PSs.nox (pss_one (ps_if (pt_cmpR op_gt (pv 0) (C8.pe_gc (by rfl) T.g_MOST_PLACES_webs) (nomark _))
        (pss_one ps_never)
        pss_nil)), body_p h fun ds d hn hR => ?_⟩
  obtain ⟨n, hn14, rfl, rfl⟩ := hR
  refine z_guard1 ?_ rfl
  have z := xt_test (x_gt (c := c) (ta := tVar 0) (tb := tC (.int 14)) (D := [SV.d (.int (n : Int))]) (x_var rfl) x_int)
  rw [show decide ((14 : Int) < (n : Int)) = false by rw [decide_eq_false_iff_not]; omega] at z
  exact z.E
abbrev RelJw (k : Bool) (parts : List Dt) (d : Dt) : Prop := ∃ ps : List Sh, (∀ p ∈ ps, Norm p) ∧ sizes ps ≤ 14 ∧ ps.length ≤ 14 ∧ parts = ps.map (fun p => Dt.web (dat true p)) ∧ d = .web (dat true (joined k ps))
theorem c_joined_web (T : Tx c w mg) : Cal P w c.K mg base 20 "joined_web" (spP c 2 fun ds d => ∃ (k : Bool) (parts : List Dt), ds = [.str (kn k), .tup parts] ∧ RelJw k parts d) := by
  have c_joined_shape := c_joined_shape (P := P) (base := base) T
  have c_shape_of := c_shape_of (P := P) (base := base) T
  have c_need_few := c_need_few (P := P) (base := base) T
  have c_places_in := c_places_in (P := P) (base := base) T
  have i_Web := i_Web (P := P) (base := base) T
  refine mk_cal T 28 sc_joined_web (fun _ _ _ _ _ _ us hl => match us, hl with | [_, _], _ => rfl) spP_len fun f cdv A outer s H vs Q E hr h => ⟨_, PSs.nox (pss_cons (ps_set (i := 2) sc_joined_web.nd rfl (by first | exact Or.inl rfl | exact Or.inr rfl) (pe_c c_joined_shape hr (by first | decide | omega) (by rfl) (pa_cons (pv 0) (pa_cons (pe_lc (own := [("at", 3), ("part", 4)]) rfl sc_joined_web.nd (pi_enumT (by rfl) T.b_enumerate (pa_cons (pv 1) pa_nil)) (blkOk_by (own := [("at", 3), ("part", 4)]) (N := N_joined_web) (sc := defScope s_joined_web) (by decide +kernel)) (fun _ _ _ _ _ => (pg_tupK (n := 2) (K := c.K) rfl rfl (pgs_cons (pg_name (i := 3) sc_joined_web.nd rfl (by first | exact Or.inl rfl | exact Or.inr rfl)) (pgs_cons (pg_name (i := 4) sc_joined_web.nd rfl (by first | exact Or.inl rfl | exact Or.inr rfl)) pgs_nil)))) (fun _ _ _ _ _ => pts_nil) (fun _ _ _ _ _ => (pe_c c_shape_of hr (by first | decide | omega) (by rfl) (pa_cons (pv 4) (pa_cons (pv 3) pa_nil))))) pa_nil)))) 
      (pss_cons (ps_expr (pe_c c_need_few hr (by first | decide | omega) (by rfl) (pa_cons (pe_callB (call_lenK (K := c.K) rfl) (by rfl) T.b_len boot_len (pa_cons (pe_c c_places_in hr (by first | decide | omega) (by rfl) (pa_cons (pv 2) pa_nil)) pa_nil)) pa_nil))) 
      (pss_one (ps_ret (pe_mk i_Web hr (by first | decide | omega) (by rfl) T.mC (pa_cons (pv 2) pa_nil)))))), body_p h fun ds d hn hR => ?_⟩
  obtain ⟨k, parts, rfl, ps, hnorm, hz, hl, rfl, rfl⟩ := hR
  have hsz : ∀ p ∈ ps, size p ≤ 14 := fun p hp => by
    have := size_mem hp
    omega
  have hfl := flat_len (k := k) (ps := ps) fun p hp => ⟨hnorm p hp, hsz p hp⟩
  have hj := joined_norm (k := k) hnorm
  have hjz : size (joined k ps) ≤ 14 := by
    have := size_joined (k := k) hnorm
    omega
  refine z_setx (d := dat true (joined k ps)) (x_call (xa_cons (x_var (i := 0) rfl) (xa_cons (d := .lst (ps.map (dat true))) ?_ xa_nil)) ⟨k, ps, fun p hp => ⟨norm_plan p (hnorm p hp), by have := norm_dep (hnorm p hp) (hsz p hp); omega⟩, by omega, by omega, rfl, rfl⟩) ?_
  · have XSp := xs_enumT (c := c) (te := tVar 1) (D := [SV.d (.str (kn k)), .d (.tup (ps.map fun p => Dt.web (dat true p))), .un, .un, .un]) (x_var rfl)
    rw [prs_map] at XSp
    have z := x_each (c := c) (zs := ps.zipIdx) (G2 := fun z => dat true z.1) XSp (by simp; omega) (vs := [3, 4]) (g := gTup c.K 2 (gCons (gName 3) (gCons (gName 4) gNil))) (te := tCall (spP c 2 fun ds d => ∃ i : Int, ds = [.web d, .int i]) [] E0 (tCons (tVar 4) (tCons (tVar 3) tNil))) fun z hz => ⟨_, g_tup2 (by simp) (by simp), x_call (xa_cons (x_var (i := 4) rfl) (xa_cons (x_var (i := 3) rfl) xa_nil)) ⟨_, rfl⟩⟩
    have e : (ps.zipIdx.map fun z => dat true z.1) = ps.map (dat true) := by
      rw [show (fun z : Sh × Nat => dat true z.1) = dat true ∘ Prod.fst from rfl, ← List.map_map, List.zipIdx_map_fst]
    rw [e] at z
    exact z
  have hlen : ((laidM (joined k ps)).map fun l => Dt.str l.1).length = size (joined k ps) := by
    rw [List.length_map]
    exact (laidM_ok hj hjz).2
  refine z_then (z_drop (P := fun d s1 => s1 = ⟨none, .no⟩) ((x_call (n := 1) (d := .non) (xa_cons (x_lenL (x_call (n := 1) (d := .lst ((laidM (joined k ps)).map fun l => Dt.str l.1)) (xa_cons (x_var (i := 2) rfl) xa_nil) ⟨joined k ps, hj, hjz, rfl, rfl⟩)) xa_nil) ⟨_, by rw [hlen]; exact hjz, rfl, rfl⟩).E.imp fun d s1 ⟨_, e⟩ => e)) ?_
  rintro D1 s1 ⟨rfl, d, rfl⟩
  exact z_retx (x_web (x_var (i := 2) rfl)) rfl
theorem sp_and (T : Tx c w mg) : DCal P w c.K mg base 21 c.C "__and__" (spP c 2 fun ds d => RelJw true ds d) := by
  have c_joined_web := c_joined_web (P := P) (base := base) T
  refine mk_sp T 2 sc_Web___and__ (fun _ _ _ _ _ _ us hl => match us, hl with | [_, _], _ => rfl) spP_len fun f cdv A outer s H vs Q E hr h => ⟨_, PSs.nox (pss_one (ps_ret (pe_c c_joined_web hr (by first | decide | omega) (by rfl) (pa_cons pe_str (pa_cons (pe_tup (pa_cons (pv 0) (pa_cons (pv 1) pa_nil))) pa_nil))))), body_p h fun ds d hn hR => ?_⟩
  match ds, hn with
  | [a, b], _ => exact z_retx (x_call (xa_cons (x_str (l := nRow) rfl) (xa_cons (x_tup (xa_cons (x_var (i := 0) rfl) (xa_cons (x_var (i := 1) rfl) xa_nil)) (by simp)) xa_nil)) ⟨true, [a, b], rfl, hR⟩) rfl
theorem sp_or (T : Tx c w mg) : DCal P w c.K mg base 21 c.C "__or__" (spP c 2 fun ds d => RelJw false ds d) := by
  have c_joined_web := c_joined_web (P := P) (base := base) T
  refine mk_sp T 3 sc_Web___or__ (fun _ _ _ _ _ _ us hl => match us, hl with | [_, _], _ => rfl) spP_len fun f cdv A outer s H vs Q E hr h => ⟨_, PSs.nox (pss_one (ps_ret (pe_c c_joined_web hr (by first | decide | omega) (by rfl) (pa_cons pe_str (pa_cons (pe_tup (pa_cons (pv 0) (pa_cons (pv 1) pa_nil))) pa_nil))))), body_p h fun ds d hn hR => ?_⟩
  match ds, hn with
  | [a, b], _ => exact z_retx (x_call (xa_cons (x_str (l := nBunch) rfl) (xa_cons (x_tup (xa_cons (x_var (i := 0) rfl) (xa_cons (x_var (i := 1) rfl) xa_nil)) (by simp)) xa_nil)) ⟨false, [a, b], rfl, hR⟩) rfl
abbrev RelEq (ds : List Dt) (d : Dt) : Prop := ∃ d1 d2, Cm d1 ∧ Cm d2 ∧ ds = [.web d1, .web d2] ∧ d = .bl (deq d1 d2)
theorem sp_eq (T : Tx c w mg) : DCal P w c.K mg base 1 c.C "__eq__" (spP c 2 RelEq) := by
  refine mk_sp T 1 sc_Web___eq__ (fun _ _ _ _ _ _ us hl => match us, hl with | [_, _], _ => rfl) spP_len fun f cdv A outer s H vs Q E hr h => ⟨_, PSs.nox (pss_one (ps_ret (pe_and (pe_callB (C8.call_isC T.ins) (by rfl) T.b_isinstance boot_isinstance (pa_cons (pv 1) (pa_cons (pe_glob (v := .ref c.C) (by rfl) T.mC rfl) pa_nil))) (pe_one (pe_cmpR (op_eqDK (K := c.K) rfl hr.units) (pe_fldK (K := c.K) rfl (pv 0)) (pe_fldK (K := c.K) rfl (pv 1)) (nomark _)))))), body_p h fun ds d hn hR => ?_⟩
  obtain ⟨d1, d2, h1, h2, rfl, rfl⟩ := hR
  exact z_retx (x_andV (x_isW T (x_var (i := 1) rfl)) fun _ => x_eq (x_shape T (x_var (i := 0) rfl)) (x_shape T (x_var (i := 1) rfl)) h1 h2) (by rw [Bool.true_and])
abbrev RelSt (ds : List Dt) (d : Dt) : Prop := ∃ s, Norm s ∧ size s ≤ 14 ∧ ds = [.web (dat true s)] ∧ d = .str (txt s)
theorem sp_str (T : Tx c w mg) : DCal P w c.K mg base 17 c.C "__str__" (spP c 1 RelSt) := by
  have c_shape_text := c_shape_text (P := P) (base := base) T 14
  refine mk_sp (k := 16) T 0 sc_Web___str__ (fun _ _ _ _ _ _ us hl => match us, hl with | [_], _ => rfl) spP_len fun f cdv A outer s H vs Q E hr h => ⟨_, PSs.nox (pss_one (ps_ret (pe_callTy call_strU (by rfl) T.b_str boot_str (pa_cons (pe_c c_shape_text hr (by first | decide | omega) (by rfl) (pa_cons (pe_fldK (K := c.K) rfl (pv 0)) pa_nil)) pa_nil)))), body_p h fun ds d hn hR => ?_⟩
  obtain ⟨s, hs, hz, rfl, rfl⟩ := hR
  have := norm_dep hs hz
  exact z_retx (x_strS (x_call (xa_cons (x_shape T (x_var (i := 0) rfl)) xa_nil) ⟨s, by omega, norm_laid hs, hz, rfl, rfl⟩)) rfl
theorem p_kind (T : Tx c w mg) : PCal P w c.K mg base 1 c.C "kind" (spP c 1 fun ds d => ∃ s, ds = [.web (dat true s)] ∧ d = .str (tag s)) := by
  refine mk_pr T 0 sc_Web_kind (fun _ _ _ _ _ _ us hl => match us, hl with | [_], _ => rfl) spP_len fun f cdv A outer s H vs Q E hr h => ⟨_, PSs.nox (pss_one (ps_ret (pe_ix (ix_seqK (K := c.K) rfl) (pe_fldK (K := c.K) rfl (pv 0)) pe_int (fun _ _ => rfl)))), body_p h fun ds d hn hR => ?_⟩
  obtain ⟨s, rfl, rfl⟩ := hR
  exact z_retx (x_tag (x_shape T (x_var (i := 0) rfl))) rfl
theorem p_links (T : Tx c w mg) : PCal P w c.K mg base 19 c.C "links" (spP c 1 fun ds d => ∃ s, Norm s ∧ size s ≤ 14 ∧ ds = [.web (dat true s)] ∧ d = .tup ((laidM s).map lkD)) := by
  have c_laid := c_laid (P := P) (base := base) T
  refine mk_pr T 1 sc_Web_links (fun _ _ _ _ _ _ us hl => match us, hl with | [_], _ => rfl) spP_len fun f cdv A outer s H vs Q E hr h => ⟨_, PSs.nox (pss_one (ps_ret (pe_c c_laid hr (by first | decide | omega) (by rfl) (pa_cons (pe_fldK (K := c.K) rfl (pv 0)) pa_nil)))), body_p h fun ds d hn hR => ?_⟩
  obtain ⟨s, hs, hz, rfl, rfl⟩ := hR
  exact z_retx (x_call (xa_cons (x_shape T (x_var (i := 0) rfl)) xa_nil) ⟨s, hs, hz, rfl, rfl⟩) rfl
theorem t_always (T : Tx c w mg) : SCal P w c.K mg base 3 c.C "always" (spP c 0 fun ds d => d = .web (dat true .opn)) := by
  have i_Web := i_Web (P := P) (base := base) T
  refine mk_sm (k := 2) T 2 sc_Web_always (fun _ _ _ _ _ _ us hl => match us, hl with | [], _ => rfl) spP_len fun f cdv A outer s H vs Q E hr h => ⟨_, PSs.nox (pss_one (ps_ret (pe_mk i_Web hr (by first | decide | omega) (by rfl) T.mC (pa_cons (C8.pe_gc (by rfl) T.g_OPEN) pa_nil)))), body_p h fun ds d hn hR => ?_⟩
  exact z_retx (x_web (x_tO T)) hR.symm
theorem t_never (T : Tx c w mg) : SCal P w c.K mg base 3 c.C "never" (spP c 0 fun ds d => d = .web (dat true .sht)) := by
  have i_Web := i_Web (P := P) (base := base) T
  refine mk_sm (k := 2) T 3 sc_Web_never (fun _ _ _ _ _ _ us hl => match us, hl with | [], _ => rfl) spP_len fun f cdv A outer s H vs Q E hr h => ⟨_, PSs.nox (pss_one (ps_ret (pe_mk i_Web hr (by first | decide | omega) (by rfl) T.mC (pa_cons (C8.pe_gc (by rfl) T.g_SHUT) pa_nil)))), body_p h fun ds d hn hR => ?_⟩
  exact z_retx (x_web (x_tS T)) hR.symm
theorem t_link (T : Tx c w mg) : SCal P w c.K mg base 3 c.C "link" (spP c 1 fun ds d => ∃ n, NameOk n ∧ ds = [.str n] ∧ d = .web (dat true (.link n))) := by
  have i_Web := i_Web (P := P) (base := base) T
  have c_is_name := c_is_name (P := P) (base := base) T
  refine mk_sm (k := 2) T 0 sc_Web_link (fun _ _ _ _ _ _ us hl => match us, hl with | [_], _ => rfl) spP_len fun f cdv A outer s H vs Q E hr h => ⟨_, PSs.nox (pss_cons (ps_if (pt_not (pt_val (pe_c c_is_name hr (by first | decide | omega) (by rfl) (pa_cons (pv 0) pa_nil))))
        (pss_one ps_never)
        pss_nil) 
      (pss_one (ps_ret (pe_mk i_Web hr (by first | decide | omega) (by rfl) T.mC (pa_cons (pe_tup (pa_cons pe_str (pa_cons (pv 0) pa_nil))) pa_nil))))), body_p h fun ds d hn hR => ?_⟩
  obtain ⟨n, ok, rfl, rfl⟩ := hR
  refine z_guard (xt_not (b := true) (xt_B (x_call (xa_cons (x_var (i := 0) rfl) xa_nil) ⟨n, ok, rfl, rfl⟩))).E ?_
  exact z_retx (x_web (x_tup (xa_cons (x_str (l := nLink) rfl) (xa_cons (x_var (i := 0) rfl) xa_nil)) (by simp))) rfl
theorem x_isLT {ds : List Dt} (h : X c te D (.lst ds)) : X c (tCB (rIsiT c.K) (tCons te (tCons (tTup (tCons (tC (.ty "list")) (tCons (tC (.ty "tuple")) tNil))) tNil))) D (.bl true) := fun W o p st H Q l a k =>
  h W o p st H _ l a fun v H1 e1 r => by
    cases r with
    | lst h1 r1 =>
      refine ⟨by decide, fun q hq => ?_⟩
      have h2 := same_upd (u := .tup [.ty "list", .ty "tuple"]) hq _ _ (hide_sub _ _ h1)
      exact ⟨_, q, [.ty "list", .ty "tuple"], .type "list", [.type "list", .type "tuple"], true, rfl, upd_same, .cons (.ty _) (.cons (.ty _) .nil), .base (.lst h2), rfl, k _ _ (e1.trans (same_upd hq)) (.bl true)⟩
theorem t_net (T : Tx c w mg) : SCal P w c.K mg base 4 c.C "net" (spP c 1 fun ds d => ∃ ls : List Lk, ls.length ≤ 14 ∧ (∀ l ∈ ls, LkOk l) ∧ ds = [.lst (ls.map lkD)] ∧ d = .web (dat true (made (.net ls)))) := by
  have i_Web := i_Web (P := P) (base := base) T
  have c_is_link := c_is_link (P := P) (base := base) T
  have c_need_few := c_need_few (P := P) (base := base) T
  have c_net_shape := c_net_shape (P := P) (base := base) T
  refine mk_sm (k := 3) T 1 sc_Web_net (fun _ _ _ _ _ _ us hl => match us, hl with | [_], _ => rfl) spP_len fun f cdv A outer s H vs Q E hr h => ⟨_, PSs.nox (pss_cons (ps_if (pt_not (pt_val (pe_callB (call_isiTK (K := c.K) rfl) (by rfl) T.b_isinstance boot_isinstance (pa_cons (pv 0) (pa_cons (pe_tup (pa_cons (pe_bltn (v := .ty "list") (by rfl) T.b_list boot_list rfl) (pa_cons (pe_bltn (v := .ty "tuple") (by rfl) T.b_tuple boot_tuple rfl) pa_nil))) pa_nil)))))
        (pss_one ps_never)
        pss_nil) 
      (pss_cons (ps_expr (pe_c c_need_few hr (by first | decide | omega) (by rfl) (pa_cons (pe_callB (call_lenK (K := c.K) rfl) (by rfl) T.b_len boot_len (pa_cons (pv 0) pa_nil)) pa_nil))) 
      (pss_cons (ps_for PassesOwn.never rfl (pi_enum (by rfl) T.b_enumerate (pa_cons (pv 0) pa_nil)) (pg_tupK (n := 2) (K := c.K) rfl rfl (pgs_cons (pg_name (i := 1) sc_Web_net.nd rfl (by first | exact Or.inl rfl | exact Or.inr rfl)) (pgs_cons (pg_name (i := 2) sc_Web_net.nd rfl (by first | exact Or.inl rfl | exact Or.inr rfl)) pgs_nil)))
        (pss_one (ps_if (pt_not (pt_val (pe_c c_is_link hr (by first | decide | omega) (by rfl) (pa_cons (pv 2) pa_nil))))
          (pss_one ps_never)
          pss_nil))) 
      (pss_one (ps_ret (pe_mk i_Web hr (by first | decide | omega) (by rfl) T.mC (pa_cons (pe_c c_net_shape hr (by first | decide | omega) (by rfl) (pa_cons (pv 0) pa_nil)) pa_nil))))))), body_p h fun ds d hn hR => ?_⟩
  obtain ⟨ls, hl, ok, rfl, rfl⟩ := hR
  refine z_guard (xt_not (b := true) (xt_B (x_isLT (x_var (i := 0) rfl)))).E ?_
  refine z_then (z_drop (P := fun d s1 => s1 = ⟨none, .no⟩) ((x_call (n := 1) (d := .non) (xa_cons (x_lenL (x_var (i := 0) rfl)) xa_nil) ⟨_, by rw [List.length_map]; exact hl, rfl, rfl⟩).E.imp fun d s1 ⟨_, e⟩ => e)) ?_
  rintro D1 s1 ⟨rfl, d, rfl⟩
  have XSp := xs_enumL (c := c) (te := tVar 0) (D := [SV.d (.lst (ls.map lkD)), .un, .un]) (x_var rfl)
  have epr : prs_ (ls.map lkD) = ls.zipIdx.map fun z => Dt.tup [.int (z.2 : Nat), lkD z.1] := by
    apply List.ext_getElem?
    intro i
    unfold prs_
    rw [List.getElem?_zipWith, List.getElem?_map, List.getElem?_map, List.getElem?_zipIdx]
    cases q : ls[i]? with
    | none => simp
    | some p =>
      have hl := (List.getElem?_eq_some_iff.mp q).1
      rw [List.getElem?_range (by simpa using hl)]
      simp
  rw [epr] at XSp
  refine z_then (Pm := fun D' s' => (∃ x y, D' = [SV.d (.lst (ls.map lkD)), x, y]) ∧ s' = ⟨none, .no⟩) (z_each (vs := [1, 2]) XSp (fun i D' s' => (∃ x y, D' = [SV.d (.lst (ls.map lkD)), x, y]) ∧ s' = ⟨none, .no⟩) ⟨⟨_, _, rfl⟩, rfl⟩ ?_ fun D1 s1 h => h) ?_
  · rintro i z D1 s1 hz ⟨⟨x, y, rfl⟩, rfl⟩
    refine ⟨_, g_tup2 (by simp) (by simp), ?_⟩
    have mz : z.1 ∈ ls := by
      rw [List.getElem?_zipIdx] at hz
      cases q : ls[i]? with
      | none => rw [q] at hz; cases hz
      | some p =>
        rw [q] at hz
        cases hz
        exact List.mem_of_getElem? q
    exact z_guard1 (xt_not (b := true) (xt_B (x_call (xa_cons (x_var (i := 2) rfl) xa_nil) ⟨z.1, ok z.1 mz, rfl, rfl⟩))).E ⟨⟨_, _, rfl⟩, rfl⟩
  rintro D1 s1 ⟨⟨x, y, rfl⟩, rfl⟩
  exact z_retx (x_web (x_call (xa_cons (x_var (i := 0) rfl) xa_nil) ⟨ls, by omega, ok, rfl, rfl⟩)) rfl
/-- Web.read -/
def spRd (c : Cf) : Sp := fun vs H Q _ => ∃ (v : V) (W : WS) (s : Sh), vs = [.ref c.C, v] ∧ Live W H ∧ R c (hide W H) v (.str (txt s)) ∧ (TreeOk s ∨ s = .opn ∨ s = .sht) ∧ size s ≤ 14 ∧ ∀ v' H2, Same H H2 → R c (hide W H2) v' (.web (dat true (made s))) → Q v' H2
theorem k_read (T : Tx c w mg) : KCal P w c.K mg base 38 c.C "read" (spRd c) := by
  have i_Web := i_Web (P := P) (base := base) T
  have c_read_shape := c_read_shape (P := P) (base := base) T
  refine mk_cm (k := 37) T sc_Web_read (fun _ _ _ _ _ _ us hl => match us, hl with | [_, _], _ => rfl) (fun vs H Q E h => by obtain ⟨_, _, _, rfl, _⟩ := h; rfl) fun f cdv A outer s H vs Q E hr h => ⟨_, PSs.nox (pss_one (ps_ret (pe_mkL (i := 0) i_Web hr (by first | decide | omega) rfl (Or.inl rfl) (pa_cons (pe_c c_read_shape hr (by first | decide | omega) (by rfl) (pa_cons (pv 1) pa_nil)) pa_nil)))), ?_⟩
  obtain ⟨v, W, s, rfl, l, r, hs, hz, k⟩ := h
  have hZ : Z c (tRet (tMakeL 0 c.C (spWi c) (tCons (tCall (spP c 1 RelRead) [] E0 (tCons (tVar 1) tNil)) tNil))) [.v (.ref c.C), .d (.str (txt s))] ⟨none, .no⟩ (fun _ _ => False) (fun d _ => d = .web (dat true (made s))) :=
    z_retx (x_webL rfl (x_call (xa_cons (x_var (i := 1) rfl) xa_nil) ⟨s, hs, hz, rfl, rfl⟩)) rfl
  refine hZ W 0 0 _ H _ ⟨l, (fun _ e => nomatch e), trivial, (fun k => absurd rfl k), fun i z hz => ?_⟩ (fun _ _ _ _ _ q => q.elim) fun o2 v2 H2 d2 s2 pr sp a r2 => ?_
  · match i, hz with
    | 0, hz => cases hz; exact ⟨_, rfl, rfl⟩
    | 1, hz => cases hz; exact ⟨_, rfl, v, rfl, r⟩
  · subst pr
    exact k v2 H2 (fun b x e => sp.keep b x e (fun q => absurd rfl q) fun q => absurd rfl q) r2
theorem x_read {sh : Sh} (h : X c te D (.str (txt sh))) (hs : TreeOk sh ∨ sh = .opn ∨ sh = .sht) (hz : size sh ≤ 14) : X c (ClX.tCMeth c.C (spRd c) E0 (tC (.ref c.C)) (tCons te tNil)) D (.web (dat true (made sh))) := fun W o p st H Q l a k =>
  ⟨rfl, h W o p st H _ l a fun v H1 e1 r => ⟨v, W, sh, rfl, l.same e1, r, hs, hz, fun v' H2 e2 r2 => k v' H2 (e1.trans e2) r2⟩⟩
end
end Wb

/-! The law's defs that draw nothing. -/
namespace Wb
open PySem PySem.Spec PyProof.Rows L2 SX
abbrev s__law_size : Stmt := top 84
abbrev N__law_size : List Str := ["_law_plan_here", "_law_part"]
theorem sc__law_size : FnScope N__law_size ["_law_plan_here"] (defScope s__law_size) := ⟨rfl, rfl, rfl, by decide +kernel, rfl, by decide +kernel, by decide +kernel⟩

abbrev s__law_joined : Stmt := top 85
abbrev N__law_joined : List Str := ["_law_kind", "_law_parts", "_law_idle_one", "_law_ruling", "_law_flat", "_law_part", "_law_kept"]
theorem sc__law_joined : FnScope N__law_joined ["_law_kind", "_law_parts"] (defScope s__law_joined) := ⟨rfl, rfl, rfl, by decide +kernel, rfl, by decide +kernel, by decide +kernel⟩

abbrev s__law_in_rows : Stmt := top 86
abbrev N__law_in_rows : List Str := ["_law_links", "_law_texts", "_law_name", "_law_u", "_law_v", "_law_low", "_law_high", "_law_cut_up", "_law_line"]
theorem sc__law_in_rows : FnScope N__law_in_rows ["_law_links"] (defScope s__law_in_rows) := ⟨rfl, rfl, rfl, by decide +kernel, rfl, by decide +kernel, by decide +kernel⟩

abbrev s__law_netted : Stmt := top 87
abbrev N__law_netted : List Str := ["_law_links"]
theorem sc__law_netted : FnScope N__law_netted ["_law_links"] (defScope s__law_netted) := ⟨rfl, rfl, rfl, by decide +kernel, rfl, by decide +kernel, by decide +kernel⟩

mutual
/-- no join has more than fifty parts -/
def Nar : Sh → Prop
  | .opn => True
  | .sht => True
  | .link _ => True
  | .net ls => ls.length ≤ 50
  | .join _ ps => ps.length ≤ 50 ∧ Nars ps
def Nars : List Sh → Prop
  | [] => True
  | p :: r => Nar p ∧ Nars r
end
theorem nars_iff : ∀ {ps : List Sh}, Nars ps ↔ ∀ p ∈ ps, Nar p
  | [] => by simp [Nars]
  | p :: r => by
    simp only [Nars, List.forall_mem_cons]
    rw [nars_iff]
theorem norm_nar : ∀ s : Sh, Norm s → size s ≤ 14 → Nar s := by
  refine Sh.ind (fun _ _ => trivial) (fun _ _ => trivial) (fun n _ _ => trivial) (fun ls h hz => ?_) (fun k ps ih h hz => ?_)
  · have : ls.length ≤ 14 := hz
    show ls.length ≤ 50
    omega
  · have h' : 2 ≤ ps.length ∧ Norms k ps := h
    have hn := norms_iff.mp h'.2
    have h3 : sizes ps ≤ 14 := hz
    have hl := sizes_len (ps := ps) fun p hp => atom_tree (hn p hp).1 (hn p hp).2 fun h1 h2 => norm_tree p (hn p hp).1 h1 h2
    refine ⟨by omega, nars_iff.mpr fun p hp => ih p hp (hn p hp).1 ?_⟩
    have := size_mem hp
    omega
/-- a plan that the law draws -/
structure Pl (s : Sh) : Prop where
  ok : PlanOk s
  nar : Nar s
  dp : dep s ≤ 20
theorem Pl.part {k : Bool} {ps : List Sh} (h : Pl (.join k ps)) {p : Sh} (hp : p ∈ ps) : Pl p := by
  have h2 := nars_iff.mp (show Nars ps from (show ps.length ≤ 50 ∧ Nars ps from h.nar).2)
  have h3 := planOks_iff.mp (show PlanOks ps from h.ok)
  have h4 := dep_mem hp
  have h5 : deps ps + 1 ≤ 20 := h.dp
  exact ⟨h3 p hp, h2 p hp, by omega⟩
section
variable {c : Cf} {P : Program} {w : World} {mg : Str → Option Value} {base : Heap} {D : List SV} {ta tb te : TE} {d : Dt}
abbrev RelSize (n : Nat) : List Dt → Dt → Prop := fun ds d => ∃ s : Sh, dep s < n ∧ Nar s ∧ ds = [dat false s] ∧ d = .int (size s : Nat)
theorem sum_sizes : ∀ ps : List Sh, (ps.map fun p => ((size p : Nat) : Int)).sum = ((sizes ps : Nat) : Int)
  | [] => rfl
  | p :: r => by
    rw [List.map_cons, List.sum_cons, sum_sizes r]
    simp [sizes]
theorem c__law_size (T : Tx c w mg) : ∀ n : Nat, Cal P w c.K mg base (1 + n) "_law_size" (spP c 1 (RelSize n)) := by
  intro n
  induction n with
  | zero => exact mk_law (k := 0) T 6 sc__law_size (fun _ _ _ _ _ _ us hl => match us, hl with | [_], _ => rfl) spP_len fun f cdv A outer s H vs Q E hr h =>
      let ⟨_, _, _, _, _, _, ⟨_, h0, _⟩, _⟩ := h; absurd h0 (Nat.not_lt_zero _)
  | succ n c__law_size =>
    refine mk_law (k := 1 + n) T 6 sc__law_size (fun _ _ _ _ _ _ us hl => match us, hl with | [_], _ => rfl) spP_len fun f cdv A outer s H vs Q E hr h => ⟨_, PSs.nox (pss_cons (ps_if (pt_cmpR (op_inK (K := c.K) rfl) (pe_ix (ix_seqK (K := c.K) rfl) (pv 0) pe_int (fun _ _ => rfl)) (pe_tup (pa_cons pe_str (pa_cons pe_str pa_nil))) rfl)
        (pss_one (ps_ret (pe_callB (cr_sumK (K := c.K) rfl rfl) (by rfl) T.b_sum boot_sum (pa_cons (pe_lc (own := [("_law_part", 1)]) rfl sc__law_size.nd (pi_listK (K := c.K) rfl (pe_ix (ix_seqK (K := c.K) rfl) (pv 0) pe_int (fun _ _ => rfl))) (blkOk_by (own := [("_law_part", 1)]) (N := N__law_size) (sc := defScope s__law_size) (by decide +kernel)) (fun _ _ _ _ _ => (pg_name (i := 1) sc__law_size.nd rfl (by first | exact Or.inl rfl | exact Or.inr rfl))) (fun _ _ _ _ _ => pts_nil) (fun _ _ _ _ _ => (pe_c c__law_size hr (by first | decide | omega) (by rfl) (pa_cons (pv 1) pa_nil)))) pa_nil))))
        pss_nil) 
      (pss_one (ps_ret (pe_ifExp (pt_cmpR (op_eqDK (K := c.K) rfl hr.units) (pe_ix (ix_seqK (K := c.K) rfl) (pv 0) pe_int (fun _ _ => rfl)) pe_str (nomark _)) (pe_callB (call_lenK (K := c.K) rfl) (by rfl) T.b_len boot_len (pa_cons (pe_ix (ix_seqK (K := c.K) rfl) (pv 0) pe_int (fun _ _ => rfl)) pa_nil)) (pe_callTy call_intU (by rfl) T.b_int boot_int (pa_cons (pe_cmpR (op_eqDK (K := c.K) rfl hr.units) (pe_ix (ix_seqK (K := c.K) rfl) (pv 0) pe_int (fun _ _ => rfl)) pe_str (nomark _)) pa_nil)))))), body_p h fun ds d hn hR => ?_⟩
    obtain ⟨s, hdep, hnar, rfl, rfl⟩ := hR
    by_cases hj : isJoin s = true
    · have z := xt_test (x_tagJoin (c := c) (s := s) (b := false) (te := tVar 0) (D := [SV.d (dat false s), .un]) (x_var rfl))
      rw [hj] at z
      obtain ⟨k, ps, rfl⟩ : ∃ k ps, s = .join k ps := by cases s <;> first | exact ⟨_, _, rfl⟩ | cases hj
      have h' : ps.length ≤ 50 ∧ Nars ps := hnar
      have hn2 := nars_iff.mp h'.2
      refine z_go z.E ?_
      have e : Dt.int ((size (.join k ps) : Nat) : Int) = .int (ps.map fun p => ((size p : Nat) : Int)).sum := by
        rw [sum_sizes]
        rfl
      refine z_retx (d := .int ((size (.join k ps) : Nat) : Int)) ?_ rfl
      rw [e]
      refine x_sum ?_
      rw [List.map_map]
      refine x_each (zs := ps) (F := dat false) (G2 := fun p => Dt.int ((size p : Nat) : Int)) (xs_list (x_arg (s := .join k ps) (b := false) (x_var (i := 0) rfl) rfl)) (by omega) fun p hp => ⟨_, g_name (by simp), x_call (xa_cons (x_var (i := 1) rfl) xa_nil) ⟨p, ?_, hn2 p hp, rfl, rfl⟩⟩
      have h1 := dep_mem hp
      have h2 : deps ps + 1 < n + 1 := hdep
      omega
    · have hj2 : isJoin s = false := by simpa using hj
      have z := xt_test (x_tagJoin (c := c) (s := s) (b := false) (te := tVar 0) (D := [SV.d (dat false s), .un]) (x_var rfl))
      rw [hj2] at z
      refine z_guard z.E (z_retx (x_if (xt_test (x_tagNet (s := s) (b := false) (x_var (i := 0) rfl))) (fun e => ?_) fun e => ?_) rfl)
      · obtain ⟨ls, rfl⟩ : ∃ ls, s = .net ls := by cases s <;> first | exact ⟨_, rfl⟩ | cases e
        have z2 := x_lenL (x_arg (c := c) (s := .net ls) (b := false) (te := tVar 0) (D := [SV.d (dat false (.net ls)), .un]) (x_var rfl) rfl)
        rw [List.length_map] at z2
        exact z2
      · have e2 : (if isLink s then (1 : Int) else 0) = ((size s : Nat) : Int) := by
          cases s with
          | net ls => cases e
          | join k ps => cases hj2
          | _ => rfl
        rw [← e2]
        exact x_intB (x_tagLink (s := s) (b := false) (x_var (i := 0) rfl))
theorem c__law_joined (T : Tx c w mg) : Cal P w c.K mg base 1 "_law_joined" (spP c 2 fun ds d => ∃ (k : Bool) (ps : List Sh), (∀ p ∈ ps, PlanOk p ∧ dep p ≤ 20) ∧ ps.length ≤ 1000 ∧ (ps.flatMap (fl1 k)).length ≤ 1000 ∧
    ds = [.str (kn k), .lst (ps.map (dat false))] ∧ d = dat false (joined k ps)) := by
  refine mk_law T 7 sc__law_joined (fun _ _ _ _ _ _ us hl => match us, hl with | [_, _], _ => rfl) spP_len fun f cdv A outer s H vs Q E hr h => ⟨_, PSs.nox (pss_cons (ps_asg (pe_ifExp (pt_cmpR (op_eqDK (K := c.K) rfl hr.units) (pv 0) pe_str (nomark _)) (pe_tup (pa_cons (pe_tup (pa_cons pe_str pa_nil)) (pa_cons (pe_tup (pa_cons pe_str pa_nil)) pa_nil))) (pe_tup (pa_cons (pe_tup (pa_cons pe_str pa_nil)) (pa_cons (pe_tup (pa_cons pe_str pa_nil)) pa_nil)))) (pg_tupK (n := 2) (K := c.K) rfl rfl (pgs_cons (pg_name (i := 2) sc__law_joined.nd rfl (by first | exact Or.inl rfl | exact Or.inr rfl)) (pgs_cons (pg_name (i := 3) sc__law_joined.nd rfl (by first | exact Or.inl rfl | exact Or.inr rfl)) pgs_nil)))) 
      (pss_cons (ps_set (i := 4) sc__law_joined.nd rfl (by first | exact Or.inl rfl | exact Or.inr rfl) (pe_lst pa_nil)) 
      (pss_cons (ps_for PassesOwn.never rfl (pi_listK (K := c.K) rfl (pv 1)) (pg_name (i := 5) sc__law_joined.nd rfl (by first | exact Or.inl rfl | exact Or.inr rfl))
        (pss_one (ps_set (i := 4) sc__law_joined.nd rfl (by first | exact Or.inl rfl | exact Or.inr rfl) (pe_op op_addU (pv 4) (pe_ifExp (pt_cmpR (op_eqDK (K := c.K) rfl hr.units) (pe_ix (ix_seqK (K := c.K) rfl) (pv 5) pe_int (fun _ _ => rfl)) (pv 0) (nomark _)) (pe_ix (ix_seqK (K := c.K) rfl) (pv 5) pe_int (fun _ _ => rfl)) (pe_lst (pa_cons (pv 5) pa_nil))))))) 
      (pss_cons (ps_if (pt_cmpR (op_inDK (K := c.K) rfl (Room.u65 hr)) (pv 3) (pv 4) rfl)
        (pss_one (ps_ret (pv 3)))
        pss_nil) 
      (pss_cons (ps_setLc (i := 6) (own := [("_law_part", 5)]) rfl sc__law_joined.nd rfl rfl (sw_true rfl rfl rfl (by decide +kernel)) (pi_listK (K := c.K) rfl (pv 4)) (blkOk_by (own := [("_law_part", 5)]) (N := N__law_joined) (sc := defScope s__law_joined) (by decide +kernel)) (fun _ _ _ _ _ => (pg_name (i := 5) sc__law_joined.nd rfl (by first | exact Or.inl rfl | exact Or.inr rfl))) (fun _ _ _ _ _ => (pts_one (pt_cmpR (op_neDK (K := c.K) rfl hr.units) (pv 5) (pv 2) (nomark _)))) (fun _ _ _ _ _ => (pv 5))) 
      (pss_cons (ps_if (pt_cmpR (op_eqDK (K := c.K) rfl hr.units) (pv 6) (pe_lst pa_nil) (nomark _))
        (pss_one (ps_ret (pv 2)))
        pss_nil) 
      (pss_one (ps_ret (pe_ifExp (pt_cmpR (op_eqDK (K := c.K) rfl hr.units) (pe_callB (call_lenK (K := c.K) rfl) (by rfl) T.b_len boot_len (pa_cons (pv 6) pa_nil)) pe_int (nomark _)) (pe_ix (ix_seqK (K := c.K) rfl) (pv 6) pe_int (fun _ _ => rfl)) (pe_tup (pa_cons (pv 0) (pa_cons (pv 6) pa_nil)))))))))))), body_p h fun ds d hn hR => ?_⟩
  obtain ⟨k, ps, ok, hl1, hl2, rfl, rfl⟩ := hR
  have okf : ∀ q ∈ ps.flatMap (fl1 k), PlanOk q ∧ dep q ≤ 20 := fun q hq => by
    obtain ⟨p, hp, hq⟩ := List.mem_flatMap.mp hq
    exact fl1_plan (ok p hp) hq
  have xO : ∀ D : List SV, X c (tTup (tCons (tC (.str "open")) tNil)) D (dat false .opn) := fun D => x_tup (xa_cons (x_str (l := nOpen) rfl) xa_nil) (by simp)
  have xS : ∀ D : List SV, X c (tTup (tCons (tC (.str "shut")) tNil)) D (dat false .sht) := fun D => x_tup (xa_cons (x_str (l := nShut) rfl) xa_nil) (by simp)
  refine z_asgx (d := .tup [dat false (idle k), dat false (rul k)]) (vs := [2, 3]) ?_ (g_tup2 (by simp) (by simp)) ?_
  · refine x_if (b := k) (xt_test ?_) (fun e => ?_) fun e => ?_
    · have z := x_eq (c := c) (ta := tVar 0) (D := [SV.d (.str (kn k)), .d (.lst (ps.map (dat false))), .un, .un, .un, .un, .un]) (x_var rfl) (x_str (z := "row") (l := nRow) rfl) (cm_str (kn_asc k)) (cm_str (kn_asc true))
      rwa [show deq (.str (kn k)) (.str nRow) = k from kn_row k] at z
    · subst e
      exact x_tup (xa_cons (xO _) (xa_cons (xS _) xa_nil)) (by decide)
    · subst e
      exact x_tup (xa_cons (xS _) (xa_cons (xO _) xa_nil)) (by decide)
  refine z_setx (d := .lst []) (x_lst xa_nil (by simp)) ?_
  refine z_then (Pm := fun D' s' => (∃ x, D' = [.d (.str (kn k)), .d (.lst (ps.map (dat false))), .d (dat false (idle k)), .d (dat false (rul k)), .d (.lst ((ps.flatMap (fl1 k)).map (dat false))), x, .un]) ∧ s' = ⟨none, .no⟩)
    (z_each (zs := ps) (F := dat false) (vs := [5]) (xs_list (x_var rfl)) (fun i D' s' => (∃ x, D' = [.d (.str (kn k)), .d (.lst (ps.map (dat false))), .d (dat false (idle k)), .d (dat false (rul k)), .d (.lst (((ps.take i).flatMap (fl1 k)).map (dat false))), x, .un]) ∧ s' = ⟨none, .no⟩)
      ⟨⟨.un, rfl⟩, rfl⟩ ?_ ?_) ?_
  · rintro i p D1 s1 hp ⟨⟨x, rfl⟩, rfl⟩
    refine ⟨_, g_name (by simp), ?_⟩
    have ht : ps.take (i + 1) = ps.take i ++ [p] := by
      rw [List.take_add_one, hp]
      rfl
    have hle : ((ps.take i).flatMap (fl1 k)).length + (fl1 k p).length ≤ 1000 := by
      have e : ps.take (i + 1) ++ ps.drop (i + 1) = ps := List.take_append_drop ..
      have z : ((ps.take (i + 1)).flatMap (fl1 k)).length ≤ (ps.flatMap (fl1 k)).length := by
        conv => rhs; rw [← e, List.flatMap_append, List.length_append]
        omega
      rw [ht, List.flatMap_append, List.length_append, show [p].flatMap (fl1 k) = fl1 k p by simp] at z
      omega
    refine z_set1 (d := .lst (((ps.take i).flatMap (fl1 k)).map (dat false) ++ (fl1 k p).map (dat false))) (x_addL (x_var (i := 4) rfl) ?_ (by simp only [List.length_map]; omega)) ?_
    · refine x_if (b := isK k p) (xt_test ?_) (fun e => ?_) fun e => ?_
      · have z := x_eq (c := c) (x_tag (te := tVar 5) (s := p) (b := false) (D := [.d (.str (kn k)), .d (.lst (ps.map (dat false))), .d (dat false (idle k)), .d (dat false (rul k)), .d (.lst (((ps.take i).flatMap (fl1 k)).map (dat false))), .d (dat false p), .un]) (x_var rfl)) (x_var (i := 0) rfl) (cm_str (tag_asc p)) (cm_str (kn_asc k))
        rwa [show deq (.str (tag p)) (.str (kn k)) = isK k p from tag_kn k p] at z
      · obtain ⟨qs, rfl, e2⟩ := fl1_k e
        rw [e2]
        exact x_arg (s := .join k qs) (b := false) (x_var rfl) rfl
      · rw [fl1_not e]
        exact x_lst (xa_cons (x_var rfl) xa_nil) (by simp)
    · refine ⟨⟨.d (dat false p), ?_⟩, rfl⟩
      rw [ht, List.flatMap_append, List.map_append, show [p].flatMap (fl1 k) = fl1 k p by simp]
      rfl
  · rintro D1 s1 ⟨⟨x, rfl⟩, rfl⟩
    rw [List.take_length]
    exact ⟨⟨x, rfl⟩, rfl⟩
  rintro D1 s1 ⟨⟨x, rfl⟩, rfl⟩
  have cmf : Cm (.lst ((ps.flatMap (fl1 k)).map (dat false))) := cm_dats okf
  have z1 := x_inD (c := c) (ta := tVar 3) (tb := tVar 4) (D := [.d (.str (kn k)), .d (.lst (ps.map (dat false))), .d (dat false (idle k)), .d (dat false (rul k)), .d (.lst ((ps.flatMap (fl1 k)).map (dat false))), x, .un]) (x_var rfl) (x_var rfl) cm_rul cmf
  rw [any_rul] at z1
  refine z_ifr (xt_test z1) (fun e => z_retx (x_var rfl) ?_) fun e => ?_
  · unfold joined
    rw [if_pos e]
  have ej : joined k ps = pick k ((ps.flatMap (fl1 k)).filter fun s => !isIdle k s) := by
    unfold joined
    rw [if_neg (by rw [e]; simp)]
  rw [ej]
  have hflt := List.length_filter_le (fun s => !isIdle k s) (ps.flatMap (fl1 k))
  have okk : ∀ q ∈ (ps.flatMap (fl1 k)).filter (fun s => !isIdle k s), PlanOk q ∧ dep q ≤ 20 := fun q hq => okf q ((List.mem_filter.mp hq).1)
  refine z_setx (d := .lst (((ps.flatMap (fl1 k)).filter fun s => !isIdle k s).map (dat false))) ?_ ?_
  · refine x_fil (F := dat false) (G2 := dat false) (fun s => !isIdle k s) (xs_list (x_var rfl)) (by omega) fun q hq => ⟨_, g_name (by simp), xt_test ?_, fun _ => x_var rfl⟩
    have z := x_ne (c := c) (ta := tVar 5) (tb := tVar 2) (D := [.d (.str (kn k)), .d (.lst (ps.map (dat false))), .d (dat false (idle k)), .d (dat false (rul k)), .d (.lst ((ps.flatMap (fl1 k)).map (dat false))), .d (dat false q), .un]) (x_var rfl) (x_var rfl) (cm_dat (okf q hq).1 (okf q hq).2) cm_idle
    rwa [deq_idle] at z
  generalize hk : ((ps.flatMap (fl1 k)).filter fun s => !isIdle k s) = kept at okk
  have ze := x_eq (c := c) (ta := tVar 6) (tb := tLst tNil) (D := [.d (.str (kn k)), .d (.lst (ps.map (dat false))), .d (dat false (idle k)), .d (dat false (rul k)), .d (.lst ((ps.flatMap (fl1 k)).map (dat false))), x, .d (.lst (kept.map (dat false)))]) (x_var rfl) (x_lst xa_nil (by simp)) (cm_dats okk) ⟨rfl, by simp [dpt, dptA]⟩
  rw [show deq (.lst (kept.map (dat false))) (.lst []) = decide (kept = []) by cases kept <;> simp [deq, deqA]] at ze
  refine z_ifr (xt_test ze) (fun e => z_retx (x_var rfl) ?_) fun e => ?_
  · rw [of_decide_eq_true e]
    rfl
  have zl := x_eq (c := c) (x_lenL (ta := tVar 6) (D := [.d (.str (kn k)), .d (.lst (ps.map (dat false))), .d (dat false (idle k)), .d (dat false (rul k)), .d (.lst ((ps.flatMap (fl1 k)).map (dat false))), x, .d (.lst (kept.map (dat false)))]) (x_var rfl)) (x_int (i := 1)) cm_int cm_int
  rw [show deq (.int (((kept.map (dat false)).length : Nat) : Int)) (.int 1) = decide ((kept.length : Int) = 1) by rw [List.length_map]; rfl] at zl
  refine z_retx (x_if (xt_test zl) (fun e2 => ?_) fun e2 => ?_) rfl
  · match kept, e2 with
    | [q], _ => exact x_ixL (n := 0) (x_var rfl) x_int rfl rfl
    | [], h => simp at h
    | _ :: _ :: _, h => simp at h; omega
  · have e3 : pick k kept = .join k kept := by
      match kept, e, e2 with
      | [], h, _ => simp at h
      | [q], _, h => simp at h
      | _ :: _ :: _, _, _ => rfl
    rw [e3, show dat false (.join k kept) = .tup [.str (kn k), .lst (kept.map (dat false))] by simp [dat, dats_map, seqD]]
    exact x_tup (xa_cons (x_var rfl) (xa_cons (x_var rfl) xa_nil)) (by simp)
theorem drop2 : ∀ u, u < 100 → ((48 :: TL.numL u).drop ((48 :: TL.numL u).length - 2)) = d2 u := by decide +kernel
theorem cut_last2 {t : List Nat} (h : 2 ≤ t.length) : cutS (S t) (some (-2)) none = S (t.drop (t.length - 2)) := by
  have e : HT.sIx t.length 0 (some (-2)) = t.length - 2 := by
    show (if (-2 : Int) < 0 then ((-2 : Int) + (t.length : Int)).toNat else min (-2 : Int).toNat t.length) = t.length - 2
    rw [if_pos (by decide)]
    omega
  unfold cutS
  rw [S_len, e, HT.sIx_none]
  show (⟨((t.drop (t.length - 2)).take (t.length - (t.length - 2))).toArray⟩ : Str) = ⟨(t.drop (t.length - 2)).toArray⟩
  rw [List.take_of_length_le (by simp)]
/-- ('0' + str(u))[-2:] -/
theorem x_d2 {u : Nat} (h : X c te D (.int (u : Int))) (hu : u < 100) : X c (tSl rSlS (tOp rAddU (tC (.str "0")) (tCB rStrU (tCons te tNil))) (tPart (tUn (rU fun i => .int (-i)) (tC (.int 2)))) tNoPart) D (.str (d2 u)) := fun W o p st H Q l a k => by
  have z := x_addS (x_str (c := c) (z := "0") (l := [48]) (D := D) rfl) (x_strI h (by omega)) (by have := num_len u hu; simp; omega)
  have h2 : 2 ≤ (48 :: TL.numL u).length := by
    have := (num_facts u hu).2.1
    cases q : TL.numL u with
    | nil => exact absurd q this
    | cons a r => simp
  refine z W o p st H _ l a fun v H1 e1 r => ?_
  refine ⟨2, rfl, -2, rfl, ?_⟩
  cases r
  refine ⟨S (48 :: TL.numL u), rfl, ?_, ?_⟩
  · rw [S_len]
    have := num_len u hu
    exact Nat.le_trans (show (48 :: TL.numL u).length ≤ 100 by simp; omega) (by decide)
  · rw [cut_last2 h2, drop2 u hu]
    exact k _ H1 e1 (.str _)
theorem turn_min (l : Lk) : turn l = (l.1, min l.2.1 l.2.2, max l.2.1 l.2.2) := by
  unfold turn
  split
  · rename_i h
    rw [Nat.min_eq_left h, Nat.max_eq_right h]
  · rename_i h
    rw [Nat.min_eq_right (by omega), Nat.max_eq_left (by omega)]
theorem c__law_in_rows (T : Tx c w mg) : Cal P w c.K mg base 1 "_law_in_rows" (spP c 1 fun ds d => ∃ ls : List Lk, ls.length ≤ 60 ∧ (∀ l ∈ ls, LkOk l) ∧ ds = [.lst (ls.map lkD)] ∧ d = .lst ((ordered ls).map lkD)) := by
  refine mk_law T 8 sc__law_in_rows (fun _ _ _ _ _ _ us hl => match us, hl with | [_], _ => rfl) spP_len fun f cdv A outer s H vs Q E hr h => ⟨_, PSs.nox (pss_cons (ps_set (i := 1) sc__law_in_rows.nd rfl (by first | exact Or.inl rfl | exact Or.inr rfl) (pe_lst pa_nil)) 
      (pss_cons (ps_for PassesOwn.never rfl (pi_listK (K := c.K) rfl (pv 0)) (pg_tupK (n := 3) (K := c.K) rfl rfl (pgs_cons (pg_name (i := 2) sc__law_in_rows.nd rfl (by first | exact Or.inl rfl | exact Or.inr rfl)) (pgs_cons (pg_name (i := 3) sc__law_in_rows.nd rfl (by first | exact Or.inl rfl | exact Or.inr rfl)) (pgs_cons (pg_name (i := 4) sc__law_in_rows.nd rfl (by first | exact Or.inl rfl | exact Or.inr rfl)) pgs_nil))))
        (pss_cons (ps_asg (pe_ifExp (pt_cmpR op_le (pv 3) (pv 4) (nomark _)) (pe_tup (pa_cons (pv 3) (pa_cons (pv 4) pa_nil))) (pe_tup (pa_cons (pv 4) (pa_cons (pv 3) pa_nil)))) (pg_tupK (n := 2) (K := c.K) rfl rfl (pgs_cons (pg_name (i := 5) sc__law_in_rows.nd rfl (by first | exact Or.inl rfl | exact Or.inr rfl)) (pgs_cons (pg_name (i := 6) sc__law_in_rows.nd rfl (by first | exact Or.inl rfl | exact Or.inr rfl)) pgs_nil)))) 
        (pss_one (ps_expr (pe_bmK (K := c.K) rfl PySem.F.plainAttrs_list PySem.F.slot_list_append PySem.F.type_list_append mt_append (pv 1) (pa_cons (pe_op op_addU (pe_op op_addU (pe_op op_addU (pe_op op_addU (pv 2) pe_str) (pe_slice sl_str (pe_op op_addU pe_str (pe_callTy call_strU (by rfl) T.b_str boot_str (pa_cons (pv 5) pa_nil))) (po_some (pe_un un_neg pe_int)) po_none)) pe_str) (pe_slice sl_str (pe_op op_addU pe_str (pe_callTy call_strU (by rfl) T.b_str boot_str (pa_cons (pv 6) pa_nil))) (po_some (pe_un un_neg pe_int)) po_none)) pa_nil)))))) 
      (pss_cons (ps_setLc (i := 7) (own := [("_law_line", 8)]) rfl sc__law_in_rows.nd rfl rfl (sw_true rfl rfl rfl (by decide +kernel)) (pi_listK (K := c.K) rfl (pe_callB (cr_sortedK (K := c.K) rfl) (by rfl) T.b_sorted boot_sorted (pa_cons (pe_lc (own := [("_law_line", 8)]) rfl sc__law_in_rows.nd (pi_listK (K := c.K) rfl (pv 1)) (blkOk_by (own := [("_law_line", 8)]) (N := N__law_in_rows) (sc := defScope s__law_in_rows) (by decide +kernel)) (fun _ _ _ _ _ => (pg_name (i := 8) sc__law_in_rows.nd rfl (by first | exact Or.inl rfl | exact Or.inr rfl))) (fun _ _ _ _ _ => pts_nil) (fun _ _ _ _ _ => (pe_callTy call_strU (by rfl) T.b_str boot_str (pa_cons (pv 8) pa_nil)))) pa_nil))) (blkOk_by (own := [("_law_line", 8)]) (N := N__law_in_rows) (sc := defScope s__law_in_rows) (by decide +kernel)) (fun _ _ _ _ _ => (pg_name (i := 8) sc__law_in_rows.nd rfl (by first | exact Or.inl rfl | exact Or.inr rfl))) (fun _ _ _ _ _ => pts_nil) (fun _ _ _ _ _ => (pe_split (pv 8) pe_str))) 
      (pss_one (ps_ret (pe_lc (own := [("_law_line", 8)]) rfl sc__law_in_rows.nd (pi_listK (K := c.K) rfl (pv 7)) (blkOk_by (own := [("_law_line", 8)]) (N := N__law_in_rows) (sc := defScope s__law_in_rows) (by decide +kernel)) (fun _ _ _ _ _ => (pg_name (i := 8) sc__law_in_rows.nd rfl (by first | exact Or.inl rfl | exact Or.inr rfl))) (fun _ _ _ _ _ => pts_nil) (fun _ _ _ _ _ => (pe_tup (pa_cons (pe_ix (ix_seqK (K := c.K) rfl) (pv 8) pe_int (fun _ _ => rfl)) (pa_cons (pe_callTy call_intU (by rfl) T.b_int boot_int (pa_cons (pe_ix (ix_seqK (K := c.K) rfl) (pv 8) pe_int (fun _ _ => rfl)) pa_nil)) (pa_cons (pe_callTy call_intU (by rfl) T.b_int boot_int (pa_cons (pe_ix (ix_seqK (K := c.K) rfl) (pv 8) pe_int (fun _ _ => rfl)) pa_nil)) pa_nil))))))))))), body_p h fun ds d hn hR => ?_⟩
  obtain ⟨ls, hlen, ok, rfl, rfl⟩ := hR
  have oko := ordered_ok ok
  have leno := ordered_len ls
  refine z_newx (j := 1) rfl ?_
  refine z_then (Pm := fun D' s' => (∃ a b c' d' e, Dul a ∧ Dul b ∧ Dul c' ∧ Dul d' ∧ Dul e ∧ D' = [.d (.lst (ls.map lkD)), .own, a, b, c', d', e, .un, .un]) ∧ s' = ⟨some ((ls.map turn).map fun l => Dt.str (key l)), .no⟩)
    (z_each (zs := ls) (F := lkD) (vs := [2, 3, 4]) (xs_list (x_var rfl)) (fun i D' s' => (∃ a b c' d' e, Dul a ∧ Dul b ∧ Dul c' ∧ Dul d' ∧ Dul e ∧ D' = [.d (.lst (ls.map lkD)), .own, a, b, c', d', e, .un, .un]) ∧ s' = ⟨some (((ls.take i).map turn).map fun l => Dt.str (key l)), .no⟩)
      ⟨⟨.un, .un, .un, .un, .un, .inl rfl, .inl rfl, .inl rfl, .inl rfl, .inl rfl, rfl⟩, rfl⟩ ?_ ?_) ?_
  · rintro i l D1 s1 hl ⟨⟨a, b, c', d', e, -, -, -, -, -, rfl⟩, rfl⟩
    have hk := ok l (List.mem_of_getElem? hl)
    have hk2 := hk.turn
    refine ⟨_, g_lk l (by simp) (by simp) (by simp), ?_⟩
    refine z_asgx (d := .tup [.int ((turn l).2.1 : Int), .int ((turn l).2.2 : Int)]) (vs := [5, 6]) (x_if (b := decide ((l.2.1 : Int) ≤ l.2.2)) (xt_test (x_le (x_var (i := 3) rfl) (x_var (i := 4) rfl))) (fun e => ?_) fun e => ?_) (g_tup2 (by simp) (by simp)) ?_
    · have e2 : turn l = l := if_pos (by simpa using e)
      rw [e2]
      exact x_tup (xa_cons (x_var rfl) (xa_cons (x_var rfl) xa_nil)) (by simp)
    · have e2 : turn l = (l.1, l.2.2, l.2.1) := if_neg (by simpa using e)
      rw [e2]
      exact x_tup (xa_cons (x_var rfl) (xa_cons (x_var rfl) xa_nil)) (by simp)
    have ht1 : (turn l).1 = l.1 := by unfold turn; split <;> rfl
    have hz := key_len hk2
    have hn8 := hk.nm.le
    have h2u := d2_len _ hk2.u
    have h2v := d2_len _ hk2.v
    refine z_app1 (ds := ((ls.take i).map turn).map fun l => Dt.str (key l)) (d := .str (key (turn l))) (j := 1) rfl rfl (by simp; omega) ?_ ?_
    · have e : key (turn l) = (((l.1 ++ [32]) ++ d2 (turn l).2.1) ++ [32]) ++ d2 (turn l).2.2 := by
        simp [key, TL.joinL, ht1]
      rw [e]
      exact x_addS (x_addS (x_addS (x_addS (x_var (i := 2) rfl) (x_str (l := [32]) rfl) (by simp; omega)) (x_d2 (x_var (i := 5) rfl) hk2.u) (by simp; omega)) (x_str (l := [32]) rfl) (by simp; omega)) (x_d2 (x_var (i := 6) rfl) hk2.v) (by simp; omega)
    · refine ⟨⟨_, _, _, _, _, .inr ⟨_, rfl⟩, .inr ⟨_, rfl⟩, .inr ⟨_, rfl⟩, .inr ⟨_, rfl⟩, .inr ⟨_, rfl⟩, rfl⟩, ?_⟩
      rw [List.take_add_one, hl]
      simp
  · rintro D1 s1 ⟨h1, rfl⟩
    exact ⟨h1, by rw [List.take_length]⟩
  rintro D1 s1 ⟨⟨a, b, c', d', e, ha, hb, hc, hd, he, rfl⟩, rfl⟩
  refine z_freeze (j := 1) rfl rfl (by rcases ha with rfl | ⟨_, rfl⟩ <;> rcases hb with rfl | ⟨_, rfl⟩ <;> rcases hc with rfl | ⟨_, rfl⟩ <;> rcases hd with rfl | ⟨_, rfl⟩ <;> rcases he with rfl | ⟨_, rfl⟩ <;> rfl) ?_
  refine z_setx (d := .lst ((ordered ls).map fun l => Dt.lst ([l.1, d2 l.2.1, d2 l.2.2].map Dt.str))) ?_ ?_
  · refine x_each (zs := ordered ls) (F := fun l => Dt.str (key l)) (G2 := fun l => Dt.lst ([l.1, d2 l.2.1, d2 l.2.2].map Dt.str)) (xs_list ?_) (by omega) fun l hl => ⟨_, g_name (by simp), ?_⟩
    · rw [show ((ordered ls).map fun l => Dt.str (key l)) = ((ordered ls).map key).map Dt.str by rw [List.map_map]; rfl]
      refine x_sorted (ls := (ls.map turn).map key) ?_ (by simp; omega) (fun ys hp hs => ordered_keys ok hp hs)
      rw [show ((ls.map turn).map key).map Dt.str = (ls.map turn).map fun l => Dt.str (key l) by rw [List.map_map]; rfl]
      exact x_each (zs := ls.map turn) (F := fun l => Dt.str (key l)) (G2 := fun l => Dt.str (key l)) (xs_list (x_var (i := 1) rfl)) (by simp; omega) fun l hl => ⟨_, g_name (by simp), x_strS (x_var (i := 8) rfl)⟩
    · exact x_split (s := key l) (x_var (i := 8) rfl) (x_str rfl) (by have := key_len (oko l hl); omega) (key_spl (oko l hl))
  · refine z_retx (x_each (zs := ordered ls) (F := fun l => Dt.lst ([l.1, d2 l.2.1, d2 l.2.2].map Dt.str)) (G2 := lkD) (xs_list (x_var (i := 7) rfl)) (by omega) fun l hl => ⟨_, g_name (by simp), ?_⟩) rfl
    have hk := oko l hl
    have dne : ∀ u, u < 100 → d2 u ≠ [] := fun u hu e => by
      have := d2_len u hu
      rw [e] at this
      cases this
    exact x_tup (xa_cons (x_ixL (n := 0) (x_var rfl) x_int rfl rfl) (xa_cons (x_intS (x_ixL (n := 1) (x_var rfl) x_int rfl rfl) (d2_dig _ hk.u) (dne _ hk.u) (by rw [d2_len _ hk.u]; omega) (d2_val _ hk.u)) (xa_cons (x_intS (x_ixL (n := 2) (x_var rfl) x_int rfl rfl) (d2_dig _ hk.v) (dne _ hk.v) (by rw [d2_len _ hk.v]; omega) (d2_val _ hk.v)) xa_nil))) (by simp)
theorem cm_lks {ls : List Lk} (h : ∀ l ∈ ls, LkOk l) : Cm (.lst (ls.map lkD)) := by
  have h1 := seqD_cm (b := false) (ds := ls.map lkD) (n := 1) fun d hd => by
    obtain ⟨l, hl, rfl⟩ := List.mem_map.mp hd
    obtain ⟨a1, a2⟩ := lkD_cm (nm_asc (h l hl).nm)
    exact ⟨a1, by omega⟩
  exact ⟨h1.1, by have := h1.2; show dpt (.lst _) ≤ 60; exact Nat.le_trans this (by omega)⟩
theorem c__law_netted (T : Tx c w mg) : Cal P w c.K mg base 2 "_law_netted" (spP c 1 fun ds d => ∃ ls : List Lk, ls.length ≤ 60 ∧ (∀ l ∈ ls, LkOk l) ∧ ds = [.lst (ls.map lkD)] ∧ d = dat false (made (.net ls))) := by
  have c__law_in_rows := c__law_in_rows (P := P) (base := base) T
  refine mk_law T 9 sc__law_netted (fun _ _ _ _ _ _ us hl => match us, hl with | [_], _ => rfl) spP_len fun f cdv A outer s H vs Q E hr h => ⟨_, PSs.nox (pss_one (ps_ret (pe_ifExp (pt_cmpR (op_neDK (K := c.K) rfl hr.units) (pv 0) (pe_lst pa_nil) (nomark _)) (pe_tup (pa_cons pe_str (pa_cons (pe_c c__law_in_rows hr (by first | decide | omega) (by rfl) (pa_cons (pv 0) pa_nil)) pa_nil))) (pe_tup (pa_cons pe_str pa_nil))))), body_p h fun ds d hn hR => ?_⟩
  obtain ⟨ls, hlen, ok, rfl, rfl⟩ := hR
  have z := x_ne (c := c) (ta := tVar 0) (tb := tLst tNil) (D := [SV.d (.lst (ls.map lkD))]) (x_var rfl) (x_lst xa_nil (by simp)) (cm_lks ok) ⟨rfl, by simp [dpt, dptA]⟩
  rw [show deq (.lst (ls.map lkD)) (.lst []) = decide (ls = []) by cases ls <;> simp [deq, deqA]] at z
  refine z_retx (x_if (xt_test z) (fun e => ?_) fun e => ?_) rfl
  · have hne : ls ≠ [] := by simpa using e
    have e2 : made (.net ls) = .net (ordered ls) := if_neg (by simpa using hne)
    rw [e2]
    exact x_tup (xa_cons (x_str (l := nNet) rfl) (xa_cons (x_call (xa_cons (x_var (i := 0) rfl) xa_nil) ⟨ls, hlen, ok, rfl, rfl⟩) xa_nil)) (by simp)
  · have hne : ls = [] := by simpa using e
    subst hne
    exact x_tup (xa_cons (x_str (l := nShut) rfl) xa_nil) (by simp)
end
end Wb

/-! The law's defs that draw nothing: what is due, its text, its web. -/
namespace Wb
open PySem PySem.Spec PyProof.Rows L2 SX
abbrev s__law_made : Stmt := top 88
abbrev N__law_made : List Str := ["_law_plan_here", "_law_part"]
theorem sc__law_made : FnScope N__law_made ["_law_plan_here"] (defScope s__law_made) := ⟨rfl, rfl, rfl, by decide +kernel, rfl, by decide +kernel, by decide +kernel⟩

abbrev s__law_shown : Stmt := top 89
abbrev N__law_shown : List Str := ["_law_plan_here", "_law_name", "_law_u", "_law_v", "_law_part"]
theorem sc__law_shown : FnScope N__law_shown ["_law_plan_here"] (defScope s__law_shown) := ⟨rfl, rfl, rfl, by decide +kernel, rfl, by decide +kernel, by decide +kernel⟩

abbrev s__law_web : Stmt := top 90
abbrev N__law_web : List Str := ["_law_plan_here", "_law_found", "_law_part"]
theorem sc__law_web : FnScope N__law_web ["_law_plan_here"] (defScope s__law_web) := ⟨rfl, rfl, rfl, by decide +kernel, rfl, by decide +kernel, by decide +kernel⟩

section
variable {c : Cf} {P : Program} {w : World} {mg : Str → Option Value} {base : Heap} {D : List SV} {ta tb te : TE} {d : Dt}
theorem x_signs {tk : TE} {k : Bool} (h : X c tk D (.str (kn k))) : X c (tDGet (tDisp [(tC (.str "row"), tC (.str " & ")), (tC (.str "bunch"), tC (.str " | "))]) tk) D (.str (sgn k)) := fun W o p st H Q l a kk => by
  intro q hq
  refine ⟨upd_same, [((Sum.inr "row" : Key), V.str " & "), ((Sum.inr "bunch" : Key), V.str " | ")], rfl, by decide, ?_⟩
  have hs : Same H (upd (upd H q (.dK [])) q (.dK (mergeK [] [((Sum.inr "row" : Key), V.str " & "), ((Sum.inr "bunch" : Key), V.str " | ")]))) := fun b x e => by
    rw [upd_ne (ne_of_none e hq), upd_ne (ne_of_none e hq)]
    exact e
  refine h W o p st _ _ (l.same hs) (a.mono (hide_same hs)) fun v H2 e2 r => ?_
  cases r
  have hq2 : H2 q = some (.dK (mergeK [] [((Sum.inr "row" : Key), V.str " & "), ((Sum.inr "bunch" : Key), V.str " | ")])) := e2 _ _ upd_same
  have g := DGet.k (k := Sum.inr (S (kn k))) hq2
  rw [show valV (mergeK [] [((Sum.inr "row" : Key), V.str " & "), ((Sum.inr "bunch" : Key), V.str " | ")]) (Sum.inr (S (kn k)) : Key) = some (V.str (S (sgn k))) by cases k <;> decide +kernel] at g
  exact ⟨_, _, rfl, g, kk _ H2 (hs.trans e2) (.str _)⟩
theorem Pl.small {s : Sh} (h : Pl s) (hz : size s ≤ 14) : Norm (made s) ∧ size (made s) ≤ 14 := by
  have := size_made s h.ok
  exact ⟨made_norm s h.ok, by omega⟩
abbrev RelMade (n : Nat) : List Dt → Dt → Prop := fun ds d => ∃ s : Sh, dep s < n ∧ Pl s ∧ size s ≤ 14 ∧ ds = [dat false s] ∧ d = dat false (made s)
theorem c__law_made (T : Tx c w mg) : ∀ n : Nat, Cal P w c.K mg base (3 + n) "_law_made" (spP c 1 (RelMade n)) := by
  have c__law_joined := c__law_joined (P := P) (base := base) T
  have c__law_netted := c__law_netted (P := P) (base := base) T
  intro n
  induction n with
  | zero => exact mk_law (k := 2) T 10 sc__law_made (fun _ _ _ _ _ _ us hl => match us, hl with | [_], _ => rfl) spP_len fun f cdv A outer s H vs Q E hr h =>
      let ⟨_, _, _, _, _, _, ⟨_, h0, _⟩, _⟩ := h; absurd h0 (Nat.not_lt_zero _)
  | succ n c__law_made =>
    refine mk_law (k := 3 + n) T 10 sc__law_made (fun _ _ _ _ _ _ us hl => match us, hl with | [_], _ => rfl) spP_len fun f cdv A outer s H vs Q E hr h => ⟨_, PSs.nox (pss_cons (ps_if (pt_cmpR (op_inK (K := c.K) rfl) (pe_ix (ix_seqK (K := c.K) rfl) (pv 0) pe_int (fun _ _ => rfl)) (pe_tup (pa_cons pe_str (pa_cons pe_str pa_nil))) rfl)
        (pss_one (ps_ret (pe_c c__law_joined hr (by first | decide | omega) (by rfl) (pa_cons (pe_ix (ix_seqK (K := c.K) rfl) (pv 0) pe_int (fun _ _ => rfl)) (pa_cons (pe_lc (own := [("_law_part", 1)]) rfl sc__law_made.nd (pi_listK (K := c.K) rfl (pe_ix (ix_seqK (K := c.K) rfl) (pv 0) pe_int (fun _ _ => rfl))) (blkOk_by (own := [("_law_part", 1)]) (N := N__law_made) (sc := defScope s__law_made) (by decide +kernel)) (fun _ _ _ _ _ => (pg_name (i := 1) sc__law_made.nd rfl (by first | exact Or.inl rfl | exact Or.inr rfl))) (fun _ _ _ _ _ => pts_nil) (fun _ _ _ _ _ => (pe_c c__law_made hr (by first | decide | omega) (by rfl) (pa_cons (pv 1) pa_nil)))) pa_nil)))))
        pss_nil) 
      (pss_one (ps_ret (pe_ifExp (pt_cmpR (op_eqDK (K := c.K) rfl hr.units) (pe_ix (ix_seqK (K := c.K) rfl) (pv 0) pe_int (fun _ _ => rfl)) pe_str (nomark _)) (pe_c c__law_netted hr (by first | decide | omega) (by rfl) (pa_cons (pe_ix (ix_seqK (K := c.K) rfl) (pv 0) pe_int (fun _ _ => rfl)) pa_nil)) (pv 0))))), body_p h fun ds d hn hR => ?_⟩
    obtain ⟨s, hdep, hp, hz, rfl, rfl⟩ := hR
    have z := xt_test (x_tagJoin (c := c) (s := s) (b := false) (te := tVar 0) (D := [SV.d (dat false s), .un]) (x_var rfl))
    by_cases hj : isJoin s = true
    · rw [hj] at z
      obtain ⟨k, ps, rfl⟩ : ∃ k ps, s = .join k ps := by cases s <;> first | exact ⟨_, _, rfl⟩ | cases hj
      have hlen : ps.length ≤ 50 := (show ps.length ≤ 50 ∧ Nars ps from hp.nar).1
      have hsz : ∀ p ∈ ps, size p ≤ 14 := fun p hq => by
        have := size_mem hq
        have h2 : sizes ps ≤ 14 := hz
        omega
      have hnm : ∀ q ∈ ps.map made, Norm q ∧ size q ≤ 14 := fun q hq => by
        obtain ⟨p, hq2, rfl⟩ := List.mem_map.mp hq
        exact (hp.part hq2).small (hsz p hq2)
      have hfl := flat_len (k := k) hnm
      rw [List.length_map] at hfl
      refine z_go z.E ?_
      refine z_retx (x_call (xa_cons (x_tag (s := .join k ps) (b := false) (x_var (i := 0) rfl)) (xa_cons (d := .lst ((ps.map made).map (dat false))) ?_ xa_nil)) ⟨k, ps.map made, fun q hq => ⟨norm_plan q (hnm q hq).1, by have := norm_dep (hnm q hq).1 (hnm q hq).2; omega⟩, by simp; omega, by omega, rfl, rfl⟩) ?_
      · rw [List.map_map]
        refine x_each (zs := ps) (F := dat false) (G2 := fun p => dat false (made p)) (xs_list (x_arg (s := .join k ps) (b := false) (x_var (i := 0) rfl) rfl)) (by omega) fun p hq => ⟨_, g_name (by simp), x_call (xa_cons (x_var (i := 1) rfl) xa_nil) ⟨p, ?_, hp.part hq, hsz p hq, rfl, rfl⟩⟩
        have h1 := dep_mem hq
        have h2 : deps ps + 1 < n + 1 := hdep
        omega
      · rw [show made (.join k ps) = joined k (mades ps) from rfl, mades_map]
    · have hj2 : isJoin s = false := by simpa using hj
      rw [hj2] at z
      refine z_guard z.E (z_retx (x_if (xt_test (x_tagNet (s := s) (b := false) (x_var (i := 0) rfl))) (fun e => ?_) fun e => ?_) rfl)
      · obtain ⟨ls, rfl⟩ : ∃ ls, s = .net ls := by cases s <;> first | exact ⟨_, rfl⟩ | cases e
        exact x_call (xa_cons (x_arg (s := .net ls) (b := false) (x_var (i := 0) rfl) rfl) xa_nil) ⟨ls, by have : ls.length ≤ 14 := hz; omega, hp.ok, rfl, rfl⟩
      · have e2 : made s = s := by
          cases s with
          | net ls => cases e
          | join k ps => cases hj2
          | _ => rfl
        rw [e2]
        exact x_var rfl
abbrev RelShown (n : Nat) : List Dt → Dt → Prop := fun ds d => ∃ s : Sh, dep s < n ∧ (TreeOk s ∨ s = .opn ∨ s = .sht) ∧ size s ≤ 14 ∧ ds = [dat false s] ∧ d = .str (txt s)
theorem c__law_shown (T : Tx c w mg) : ∀ n : Nat, Cal P w c.K mg base (1 + n) "_law_shown" (spP c 1 (RelShown n)) := by
  intro n
  induction n with
  | zero => exact mk_law (k := 0) T 11 sc__law_shown (fun _ _ _ _ _ _ us hl => match us, hl with | [_], _ => rfl) spP_len fun f cdv A outer s H vs Q E hr h =>
      let ⟨_, _, _, _, _, _, ⟨_, h0, _⟩, _⟩ := h; absurd h0 (Nat.not_lt_zero _)
  | succ n c__law_shown =>
    refine mk_law (k := 1 + n) T 11 sc__law_shown (fun _ _ _ _ _ _ us hl => match us, hl with | [_], _ => rfl) spP_len fun f cdv A outer s H vs Q E hr h => ⟨_, PSs.nox (pss_cons (ps_if (pt_cmpR (op_eqDK (K := c.K) rfl hr.units) (pe_ix (ix_seqK (K := c.K) rfl) (pv 0) pe_int (fun _ _ => rfl)) pe_str (nomark _))
        (pss_one (ps_ret (pe_ix (ix_seqK (K := c.K) rfl) (pv 0) pe_int (fun _ _ => rfl))))
        pss_nil) 
      (pss_cons (ps_if (pt_cmpR (op_eqDK (K := c.K) rfl hr.units) (pe_ix (ix_seqK (K := c.K) rfl) (pv 0) pe_int (fun _ _ => rfl)) pe_str (nomark _))
        (pss_one (ps_ret (pe_op op_addU (pe_op op_addU pe_str (pe_join pe_str (pe_lc (own := [("_law_name", 1), ("_law_u", 2), ("_law_v", 3)]) rfl sc__law_shown.nd (pi_listK (K := c.K) rfl (pe_ix (ix_seqK (K := c.K) rfl) (pv 0) pe_int (fun _ _ => rfl))) (blkOk_by (own := [("_law_name", 1), ("_law_u", 2), ("_law_v", 3)]) (N := N__law_shown) (sc := defScope s__law_shown) (by decide +kernel)) (fun _ _ _ _ _ => (pg_tupK (n := 3) (K := c.K) rfl rfl (pgs_cons (pg_name (i := 1) sc__law_shown.nd rfl (by first | exact Or.inl rfl | exact Or.inr rfl)) (pgs_cons (pg_name (i := 2) sc__law_shown.nd rfl (by first | exact Or.inl rfl | exact Or.inr rfl)) (pgs_cons (pg_name (i := 3) sc__law_shown.nd rfl (by first | exact Or.inl rfl | exact Or.inr rfl)) pgs_nil))))) (fun _ _ _ _ _ => pts_nil) (fun _ _ _ _ _ => (pe_op op_addU (pe_op op_addU (pe_op op_addU (pe_op op_addU (pe_callTy call_strU (by rfl) T.b_str boot_str (pa_cons (pv 2) pa_nil)) pe_str) (pv 1)) pe_str) (pe_callTy call_strU (by rfl) T.b_str boot_str (pa_cons (pv 3) pa_nil))))))) pe_str)))
        pss_nil) 
      (pss_cons (ps_if (pt_cmpR (op_inK (K := c.K) rfl) (pe_ix (ix_seqK (K := c.K) rfl) (pv 0) pe_int (fun _ _ => rfl)) (pe_tup (pa_cons pe_str (pa_cons pe_str pa_nil))) rfl)
        (pss_one (ps_ret (pe_op op_addU (pe_op op_addU pe_str (pe_join (pe_dget (hu_of hr) (pe_disp (pps_cons pe_str pe_str (pps_cons pe_str pe_str pps_nil)) (by rfl) (by rfl) (fun z => by cases z) (by decide)) (pe_ix (ix_seqK (K := c.K) rfl) (pv 0) pe_int (fun _ _ => rfl)) (fun _ _ => rfl)) (pe_lc (own := [("_law_part", 4)]) rfl sc__law_shown.nd (pi_listK (K := c.K) rfl (pe_ix (ix_seqK (K := c.K) rfl) (pv 0) pe_int (fun _ _ => rfl))) (blkOk_by (own := [("_law_part", 4)]) (N := N__law_shown) (sc := defScope s__law_shown) (by decide +kernel)) (fun _ _ _ _ _ => (pg_name (i := 4) sc__law_shown.nd rfl (by first | exact Or.inl rfl | exact Or.inr rfl))) (fun _ _ _ _ _ => pts_nil) (fun _ _ _ _ _ => (pe_c c__law_shown hr (by first | decide | omega) (by rfl) (pa_cons (pv 4) pa_nil)))))) pe_str)))
        pss_nil) 
      (pss_one (ps_ret (pe_ix (ix_seqK (K := c.K) rfl) (pv 0) pe_int (fun _ _ => rfl))))))), body_p h fun ds d hn hR => ?_⟩
    obtain ⟨s, hdep, hok, hz, rfl, rfl⟩ := hR
    have hsm := txt_small hok hz
    refine z_ifr (xt_test (x_tagLink (s := s) (b := false) (x_var rfl))) (fun e => ?_) fun e1 => ?_
    · obtain ⟨n, rfl⟩ : ∃ n, s = .link n := by cases s <;> first | exact ⟨_, rfl⟩ | cases e
      exact z_retx (x_arg (s := .link n) (b := false) (x_var rfl) rfl) rfl
    refine z_ifr (xt_test (x_tagNet (s := s) (b := false) (x_var rfl))) (fun e => ?_) fun e2 => ?_
    · obtain ⟨ls, rfl⟩ : ∃ ls, s = .net ls := by cases s <;> first | exact ⟨_, rfl⟩ | cases e
      have h' : ls ≠ [] ∧ ∀ x ∈ ls, LkOk x := by
        rcases hok with h | h | h
        · exact h
        · cases h
        · cases h
      have hl : ls.length ≤ 14 := hz
      have hsm2 : ([91] ++ (TL.joinL [32] (ls.map lkT) ++ [93])).length ≤ 420 := hsm
      simp only [List.length_append, List.length_cons, List.length_nil] at hsm2
      have hs := sum_le (fun z : List Nat => z.length) 14 (ls.map lkT) fun z hz => by
        obtain ⟨l, hl, rfl⟩ := List.mem_map.mp hz
        exact lkT_len (h'.2 l hl)
      rw [List.length_map] at hs
      have e : txt (.net ls) = ([91] ++ TL.joinL [32] (ls.map lkT)) ++ [93] := by simp [txt]
      refine z_retx (d := .str (txt (.net ls))) ?_ rfl
      rw [e]
      refine x_addS (x_addS (x_str rfl) (x_join (x_str rfl) ?_ (by simp only [List.length_map, List.length_cons, List.length_nil]; omega)) (by simp only [List.length_cons, List.length_nil]; omega)) (x_str rfl) (by simp only [List.length_append, List.length_cons, List.length_nil]; omega)
      rw [List.map_map]
      refine x_each (F := lkD) (G2 := fun l => Dt.str (lkT l)) (xs_list (x_arg (s := .net ls) (b := false) (x_var rfl) rfl)) (by omega) fun l hl => ⟨_, g_lk l (by simp) (by simp) (by simp), ?_⟩
      have hk := h'.2 l hl
      have h1 := num_len _ hk.u
      have h2 := num_len _ hk.v
      have h3 := hk.nm.le
      have hu := hk.u
      have hv := hk.v
      rw [show lkT l = (((TL.numL l.2.1 ++ [45]) ++ l.1) ++ [45]) ++ TL.numL l.2.2 by simp [lkT]]
      exact x_addS (x_addS (x_addS (x_addS (x_strI (x_var rfl) (by omega)) (x_str rfl) (by simp; omega)) (x_var rfl) (by simp; omega)) (x_str rfl) (by simp; omega)) (x_strI (x_var rfl) (by omega)) (by simp; omega)
    refine z_ifr (xt_test (x_tagJoin (s := s) (b := false) (x_var rfl))) (fun e => ?_) fun e3 => ?_
    · obtain ⟨k, ps, rfl⟩ : ∃ k ps, s = .join k ps := by cases s <;> first | exact ⟨_, _, rfl⟩ | cases e
      have h' : TreeOk (.join k ps) := by
        rcases hok with h | h | h
        · exact h
        · cases h
        · cases h
      have ht := treeOks_iff.mp (show TreeOks ps from h'.2)
      have hsp : ∀ p ∈ ps, size p ≤ 14 ∧ dep p < n := fun p hp => by
        have h1 := size_mem hp
        have h2 := dep_mem hp
        have h3 : sizes ps ≤ 14 := hz
        have h4 : deps ps + 1 < n + 1 := hdep
        exact ⟨by omega, by omega⟩
      have hpl : ps.length ≤ 14 := by
        have h3 : sizes ps ≤ 14 := hz
        have := sizes_len ht
        omega
      have hsm2 : ([40] ++ (TL.joinL (sgn k) (txts ps) ++ [41])).length ≤ 420 := hsm
      simp only [List.length_append, List.length_cons, List.length_nil] at hsm2
      have hs := sum_le (fun z : List Nat => z.length) 420 (txts ps) fun z hz => by
        rw [txts_map] at hz
        obtain ⟨p, hp, rfl⟩ := List.mem_map.mp hz
        exact txt_small (.inl (ht p hp)) (hsp p hp).1
      have hl2 : (txts ps).length = ps.length := by rw [txts_map, List.length_map]
      have hl3 : (sgn k).length = 3 := by cases k <;> rfl
      have e : txt (.join k ps) = ([40] ++ TL.joinL (sgn k) (txts ps)) ++ [41] := by simp [txt]
      refine z_retx (d := .str (txt (.join k ps))) ?_ rfl
      rw [e]
      refine x_addS (x_addS (x_str rfl) (x_join (x_signs (x_tag (s := .join k ps) (b := false) (x_var rfl))) ?_ (by rw [hl2, hl3]; omega)) (by simp only [List.length_cons, List.length_nil]; omega)) (x_str rfl) (by simp only [List.length_append, List.length_cons, List.length_nil]; omega)
      rw [txts_map, List.map_map]
      exact x_each (F := dat false) (G2 := fun p => Dt.str (txt p)) (xs_list (x_arg (s := .join k ps) (b := false) (x_var rfl) rfl)) (by omega) fun p hp => ⟨_, g_name (by simp), x_call (xa_cons (x_var rfl) xa_nil) ⟨p, (hsp p hp).2, .inl (ht p hp), (hsp p hp).1, rfl, rfl⟩⟩
    · have e4 : txt s = tag s := by
        cases s with
        | opn => rfl
        | sht => rfl
        | link n => cases e1
        | net ls => cases e2
        | join k ps => cases e3
      exact z_retx (x_tag (s := s) (b := false) (x_var rfl)) (by rw [e4])
/-- the fold of webs -/
def fold (k : Bool) : Sh → List Sh → Sh
  | a, [] => a
  | a, p :: r => fold k (joined k [a, made p]) r
theorem fold_fl {k : Bool} : ∀ (ps : List Sh) (a : Sh), Norm a → (∀ p ∈ ps, PlanOk p) → Norm (fold k a ps) ∧ fl k (fold k a ps) = cmul (fl k a) (cat ((ps.map made).map (fl k)))
  | [], a, ha, _ => ⟨ha, (cmul_nil' _).symm⟩
  | p :: r, a, ha, h => by
    have h1 : ∀ q ∈ [a, made p], Norm q := fun q hq => by
      rcases List.mem_cons.mp hq with rfl | hq
      · exact ha
      · rw [List.mem_singleton.mp hq]
        exact made_norm p (h p (List.mem_cons_self ..))
    obtain ⟨i1, i2⟩ := fold_fl (k := k) r (joined k [a, made p]) (joined_norm h1) fun q hq => h q (List.mem_cons_of_mem _ hq)
    refine ⟨i1, ?_⟩
    rw [show fold k a (p :: r) = fold k (joined k [a, made p]) r from rfl, i2, fl_joined h1]
    show cmul (cmul (fl k a) (cmul (fl k (made p)) (some []))) _ = cmul (fl k a) (cmul (fl k (made p)) _)
    rw [cmul_nil', cmul_assoc]
theorem fold_made {k : Bool} {ps : List Sh} (h : ∀ p ∈ ps, PlanOk p) : fold k (idle k) ps = made (.join k ps) := by
  have hi : Norm (idle k) := by cases k <;> exact trivial
  obtain ⟨h1, h2⟩ := fold_fl (k := k) ps (idle k) hi h
  rw [fl_idle, cmul_nil] at h2
  rw [← unfl_fl (k := k) h1, h2, show made (.join k ps) = joined k (mades ps) from rfl, mades_map, joined_eq fun q hq => ?_]
  obtain ⟨p, hp, rfl⟩ := List.mem_map.mp hq
  exact made_norm p (h p hp)
theorem fold_app {k : Bool} : ∀ (a : Sh) (xs ys : List Sh), fold k a (xs ++ ys) = fold k (fold k a xs) ys
  | _, [], _ => rfl
  | a, x :: xs, ys => fold_app (joined k [a, made x]) xs ys
theorem fold_size {k : Bool} : ∀ (ps : List Sh) (a : Sh), Norm a → (∀ p ∈ ps, PlanOk p) → size (fold k a ps) ≤ size a + sizes ps
  | [], a, _, _ => Nat.le_refl _
  | p :: r, a, ha, h => by
    have h1 : ∀ q ∈ [a, made p], Norm q := fun q hq => by
      rcases List.mem_cons.mp hq with rfl | hq
      · exact ha
      · rw [List.mem_singleton.mp hq]
        exact made_norm p (h p (List.mem_cons_self ..))
    have i := fold_size (k := k) r (joined k [a, made p]) (joined_norm h1) fun q hq => h q (List.mem_cons_of_mem _ hq)
    have j := size_joined (k := k) h1
    have m := size_made p (h p (List.mem_cons_self ..))
    simp only [sizes] at j ⊢
    show size (fold k (joined k [a, made p]) r) ≤ _
    omega
abbrev RelWeb (n : Nat) : List Dt → Dt → Prop := fun ds d => ∃ s : Sh, dep s < n ∧ Pl s ∧ size s ≤ 14 ∧ ds = [dat false s] ∧ d = .web (dat true (made s))
theorem c__law_web (T : Tx c w mg) : ∀ n : Nat, Cal P w c.K mg base (22 + n) "_law_web" (spP c 1 (RelWeb n)) := by
  have t_link := t_link (P := P) (base := base) T
  have t_net := t_net (P := P) (base := base) T
  have t_always := t_always (P := P) (base := base) T
  have t_never := t_never (P := P) (base := base) T
  have sp_and := sp_and (P := P) (base := base) T
  have sp_or := sp_or (P := P) (base := base) T
  intro n
  induction n with
  | zero => exact mk_law (k := 21) T 12 sc__law_web (fun _ _ _ _ _ _ us hl => match us, hl with | [_], _ => rfl) spP_len fun f cdv A outer s H vs Q E hr h =>
      let ⟨_, _, _, _, _, _, ⟨_, h0, _⟩, _⟩ := h; absurd h0 (Nat.not_lt_zero _)
  | succ n c__law_web =>
    refine mk_law (k := 22 + n) T 12 sc__law_web (fun _ _ _ _ _ _ us hl => match us, hl with | [_], _ => rfl) spP_len fun f cdv A outer s H vs Q E hr h => ⟨_, PSs.nox (pss_cons (ps_if (pt_cmpR (op_eqDK (K := c.K) rfl hr.units) (pe_ix (ix_seqK (K := c.K) rfl) (pv 0) pe_int (fun _ _ => rfl)) pe_str (nomark _))
        (pss_one (ps_ret (pe_sm t_link hr (by first | decide | omega) T.rd (pe_glob (v := .ref c.C) (by rfl) T.mC rfl) (pa_cons (pe_ix (ix_seqK (K := c.K) rfl) (pv 0) pe_int (fun _ _ => rfl)) pa_nil))))
        pss_nil) 
      (pss_cons (ps_if (pt_cmpR (op_eqDK (K := c.K) rfl hr.units) (pe_ix (ix_seqK (K := c.K) rfl) (pv 0) pe_int (fun _ _ => rfl)) pe_str (nomark _))
        (pss_one (ps_ret (pe_sm t_net hr (by first | decide | omega) T.rd (pe_glob (v := .ref c.C) (by rfl) T.mC rfl) (pa_cons (pe_callTy (call_lstK (K := c.K) rfl) (by rfl) T.b_list boot_list (pa_cons (pe_ix (ix_seqK (K := c.K) rfl) (pv 0) pe_int (fun _ _ => rfl)) pa_nil)) pa_nil))))
        pss_nil) 
      (pss_cons (ps_if (pt_cmpR (op_notInK (K := c.K) rfl) (pe_ix (ix_seqK (K := c.K) rfl) (pv 0) pe_int (fun _ _ => rfl)) (pe_tup (pa_cons pe_str (pa_cons pe_str pa_nil))) rfl)
        (pss_one (ps_ret (pe_ifExp (pt_cmpR (op_eqDK (K := c.K) rfl hr.units) (pe_ix (ix_seqK (K := c.K) rfl) (pv 0) pe_int (fun _ _ => rfl)) pe_str (nomark _)) (pe_sm0 t_always hr (by first | decide | omega) T.rd (pe_glob (v := .ref c.C) (by rfl) T.mC rfl)) (pe_sm0 t_never hr (by first | decide | omega) T.rd (pe_glob (v := .ref c.C) (by rfl) T.mC rfl)))))
        pss_nil) 
      (pss_cons (ps_set (i := 1) sc__law_web.nd rfl (by first | exact Or.inl rfl | exact Or.inr rfl) (pe_ifExp (pt_cmpR (op_eqDK (K := c.K) rfl hr.units) (pe_ix (ix_seqK (K := c.K) rfl) (pv 0) pe_int (fun _ _ => rfl)) pe_str (nomark _)) (pe_sm0 t_always hr (by first | decide | omega) T.rd (pe_glob (v := .ref c.C) (by rfl) T.mC rfl)) (pe_sm0 t_never hr (by first | decide | omega) T.rd (pe_glob (v := .ref c.C) (by rfl) T.mC rfl)))) 
      (pss_cons (ps_for PassesOwn.never rfl (pi_listK (K := c.K) rfl (pe_ix (ix_seqK (K := c.K) rfl) (pv 0) pe_int (fun _ _ => rfl))) (pg_name (i := 2) sc__law_web.nd rfl (by first | exact Or.inl rfl | exact Or.inr rfl))
        (pss_one (ps_set (i := 1) sc__law_web.nd rfl (by first | exact Or.inl rfl | exact Or.inr rfl) (pe_ifExp (pt_cmpR (op_eqDK (K := c.K) rfl hr.units) (pe_ix (ix_seqK (K := c.K) rfl) (pv 0) pe_int (fun _ _ => rfl)) pe_str (nomark _)) (pe_op (op_own2 (op := .BitAnd) sp_and hr (by first | decide | omega) T.sf) (pv 1) (pe_c c__law_web hr (by first | decide | omega) (by rfl) (pa_cons (pv 2) pa_nil))) (pe_op (op_own2 (op := .BitOr) sp_or hr (by first | decide | omega) T.sf) (pv 1) (pe_c c__law_web hr (by first | decide | omega) (by rfl) (pa_cons (pv 2) pa_nil))))))) 
      (pss_one (ps_ret (pv 1)))))))), body_p h fun ds d hn hR => ?_⟩
    obtain ⟨s, hdep, hp, hz, rfl, rfl⟩ := hR
    refine z_ifr (xt_test (x_tagLink (s := s) (b := false) (x_var rfl))) (fun e => ?_) fun e1 => ?_
    · obtain ⟨n, rfl⟩ : ∃ n, s = .link n := by cases s <;> first | exact ⟨_, rfl⟩ | cases e
      exact z_retx (x_sm (xa_cons (x_arg (s := .link n) (b := false) (x_var (i := 0) rfl) rfl) xa_nil) ⟨n, hp.ok, rfl, rfl⟩) rfl
    refine z_ifr (xt_test (x_tagNet (s := s) (b := false) (x_var rfl))) (fun e => ?_) fun e2 => ?_
    · obtain ⟨ls, rfl⟩ : ∃ ls, s = .net ls := by cases s <;> first | exact ⟨_, rfl⟩ | cases e
      exact z_retx (x_sm (xa_cons (x_lstL (x_arg (s := .net ls) (b := false) (x_var (i := 0) rfl) rfl)) xa_nil) ⟨ls, hz, hp.ok, rfl, rfl⟩) rfl
    refine z_ifr (xt_test (x_tagNoJoin (s := s) (b := false) (x_var rfl))) (fun e => ?_) fun e3 => ?_
    · refine z_retx (d := .web (dat true (made s))) (x_if (xt_test (x_tagOpen (s := s) (b := false) (x_var rfl))) (fun e4 => ?_) fun e4 => ?_) rfl
      · have : s = .opn := by cases s <;> first | rfl | cases e4
        subst this
        exact x_sm (n := 0) xa_nil rfl
      · have : s = .sht := by
          cases s with
          | sht => rfl
          | opn => cases e4
          | link n => cases e1
          | net ls => cases e2
          | join k ps => cases e
        subst this
        exact x_sm (n := 0) xa_nil rfl
    obtain ⟨k, ps, rfl⟩ : ∃ k ps, s = .join k ps := by
      cases s with
      | join k ps => exact ⟨k, ps, rfl⟩
      | _ => cases e3
    have hok : ∀ p ∈ ps, PlanOk p := fun p hq => (hp.part hq).ok
    have hlen : ps.length ≤ 50 := (show ps.length ≤ 50 ∧ Nars ps from hp.nar).1
    have h14 : sizes ps ≤ 14 := hz
    have hi : Norm (idle k) := by cases k <;> exact trivial
    have hi0 : size (idle k) = 0 := by cases k <;> rfl
    refine z_setx (d := .web (dat true (idle k))) (x_if (xt_test (x_tagRow (s := .join k ps) (b := false) (x_var rfl))) (fun e => ?_) fun e => ?_) ?_
    · have : k = true := by simpa [isK] using e
      subst this
      exact x_sm (n := 0) xa_nil rfl
    · have : k = false := by simpa [isK] using e
      subst this
      exact x_sm (n := 0) xa_nil rfl
    refine z_then (Pm := fun D' s' => (∃ x, D' = [.d (dat false (.join k ps)), .d (.web (dat true (fold k (idle k) ps))), x]) ∧ s' = ⟨none, .no⟩)
      (z_each (zs := ps) (F := dat false) (vs := [2]) (xs_list (x_arg (s := .join k ps) (b := false) (x_var (i := 0) rfl) rfl)) (fun i D' s' => (∃ x, D' = [.d (dat false (.join k ps)), .d (.web (dat true (fold k (idle k) (ps.take i)))), x]) ∧ s' = ⟨none, .no⟩) ⟨⟨_, rfl⟩, rfl⟩ ?_ ?_) ?_
    · rintro i p D1 s1 hq ⟨⟨x, rfl⟩, rfl⟩
      have mp := List.mem_of_getElem? hq
      have ht : ps.take (i + 1) = ps.take i ++ [p] := by
        rw [List.take_add_one, hq]
        rfl
      have hot : ∀ q ∈ ps.take i, PlanOk q := fun q hq => hok q (List.mem_of_mem_take hq)
      obtain ⟨fn, _⟩ := fold_fl (k := k) (ps.take i) (idle k) hi hot
      have fz := fold_size (k := k) (ps.take i) (idle k) hi hot
      have hsz : sizes (ps.take i) + size p ≤ 14 := by
        have e : ps.take (i + 1) ++ ps.drop (i + 1) = ps := List.take_append_drop ..
        have e2 := sizes_app (ps.take (i + 1)) (ps.drop (i + 1))
        rw [e, ht, sizes_app] at e2
        simp only [sizes] at e2
        omega
      have hmp := (hp.part mp).small (by omega)
      have hm := size_made p (hok p mp)
      have hdp : dep p < n := by
        have h1 := dep_mem mp
        have h2 : deps ps + 1 < n + 1 := hdep
        omega
      refine ⟨_, g_name (by simp), ?_⟩
      have jw : RelJw k [.web (dat true (fold k (idle k) (ps.take i))), .web (dat true (made p))] (.web (dat true (joined k [fold k (idle k) (ps.take i), made p]))) := by
        refine ⟨[fold k (idle k) (ps.take i), made p], fun q hq => ?_, ?_, by simp, rfl, rfl⟩
        · rcases List.mem_cons.mp hq with rfl | hq
          · exact fn
          · rw [List.mem_singleton.mp hq]
            exact hmp.1
        · simp only [sizes]
          omega
      refine z_set1 (d := .web (dat true (joined k [fold k (idle k) (ps.take i), made p]))) (x_if (xt_test (x_tagRow (s := .join k ps) (b := false) (x_var rfl))) (fun e => ?_) fun e => ?_) ⟨⟨.d (dat false p), ?_⟩, rfl⟩
      · have : k = true := by simpa [isK] using e
        subst this
        exact x_own2 (x_var (i := 1) rfl) (x_call (xa_cons (x_var (i := 2) rfl) xa_nil) ⟨p, hdp, hp.part mp, by omega, rfl, rfl⟩) jw
      · have : k = false := by simpa [isK] using e
        subst this
        exact x_own2 (x_var (i := 1) rfl) (x_call (xa_cons (x_var (i := 2) rfl) xa_nil) ⟨p, hdp, hp.part mp, by omega, rfl, rfl⟩) jw
      · rw [ht, fold_app]
        rfl
    · rintro D1 s1 ⟨h1, rfl⟩
      rw [List.take_length] at h1
      exact ⟨h1, rfl⟩
    rintro D1 s1 ⟨⟨x, rfl⟩, rfl⟩
    exact z_retx (x_var (i := 1) rfl) (by rw [fold_made hok])
end
end Wb

/-! The law's draws. -/
namespace Wb
open PySem PySem.Spec PyProof.Rows L2 SX Evl
section
variable {K : PySem.W.Frag} {σ : L2.St} {H : Hp} {ta tb te : TE} {i j : Int} {b : Bool}
theorem v_I {C : Int → Int → Prop} {g : Int → Int → V} (ha : Ev ta σ H (.int i)) (hb : Ev tb σ H (.int j)) (hc : C i j) : Ev (tOp (rI C g) ta tb) σ H (g i j) := ev_op ha hb (rv_I hc)
theorem v_I0 {g : Int → Int → V} (ha : Ev ta σ H (.int i)) (hb : Ev tb σ H (.int j)) : Ev (tOp (rI0 g) ta tb) σ H (g i j) := ev_op ha hb rv_I0
theorem v_add (ha : Ev ta σ H (.int i)) (hb : Ev tb σ H (.int j)) : Ev (tOp rAddU ta tb) σ H (.int (i + j)) := ev_op ha hb fun H1 _ Q q => .inl ⟨i, j, rfl, rfl, q H1 (Ex.refl H1)⟩
theorem v_mul (ha : Ev ta σ H (.int i)) (hb : Ev tb σ H (.int j)) (hc : CMul i j) : Ev (tOp rMulU ta tb) σ H (.int (i * j)) := ev_op ha hb fun H1 _ Q q => .inl ⟨i, j, rfl, rfl, hc, q H1 (Ex.refl H1)⟩
theorem v_int (ha : Ev ta σ H (.int i)) : Ev (tCB rIntU (tCons ta tNil)) σ H (.int i) := fun H1 e Q q => ha H1 e _ fun H2 e2 => .inl (.inl ⟨i, rfl, q H2 e2⟩)
theorem v_intB (ha : Ev ta σ H (.bl b)) : Ev (tCB rIntU (tCons ta tNil)) σ H (.int (if b then 1 else 0)) := fun H1 e Q q => ha H1 e _ fun H2 e2 => .inl (.inr ⟨b, rfl, q H2 e2⟩)
theorem v_abs (ha : Ev ta σ H (.int i)) : Ev (tCB (fun xs H Q => ∃ i, xs = [V.int i] ∧ Q (.int (if i < 0 then -i else i)) H) (tCons ta tNil)) σ H (.int (if i < 0 then -i else i)) := fun H1 e Q q => ha H1 e _ fun H2 e2 => ⟨i, rfl, q H2 e2⟩
theorem v_ix {a : Addr} {xs : List V} {v : V} {n : Nat} (ha : Ev ta σ H (.ref a)) (hb : Ev tb σ H (.int i)) (hs : SqL K H a xs) (hi : i = (n : Int)) (h : xs[n]? = some v) : Ev (tOp (rIx K) ta tb) σ H v := ev_op ha hb fun H1 e Q q => .inl ⟨a, xs, i, v, rfl, rfl, ex_l e hs, at_of hi h, q H1 (Ex.refl H1)⟩
theorem v_len {a : Addr} {xs : List V} (ha : Ev ta σ H (.ref a)) (hs : SqL K H a xs) : Ev (tCB (fun xs H Q => ∃ x n, xs = [x] ∧ LenV K x H n ∧ Q (.int n) H) (tCons ta tNil)) σ H (.int (xs.length : Int)) := fun H1 e Q q =>
  ha H1 e _ fun H2 e2 => ⟨_, xs.length, rfl, .inl ⟨xs, ex_l (e.trans e2) hs, rfl⟩, q H2 e2⟩
end
theorem fmod_in {x : Int} {m : Int} (h : 0 < m) : 0 ≤ x.fmod m ∧ x.fmod m < m := by
  rw [Int.fmod_eq_emod_of_nonneg x (by omega)]
  exact ⟨Int.emod_nonneg x (by omega), Int.emod_lt_of_pos x h⟩
theorem fdiv_nn {x : Int} {m : Int} (h : 0 < m) (hx : 0 ≤ x) : 0 ≤ x.fdiv m := by
  rw [Int.fdiv_eq_ediv_of_nonneg x (by omega)]
  exact Int.ediv_nonneg hx (by omega)
theorem tm_ints : ∀ ns : List Int, TmA (ns.map Dt.int) = true
  | [] => rfl
  | _ :: r => by simp [TmA, Tm, tm_ints r]
theorem dpt_ints : ∀ ns : List Int, dptA (ns.map Dt.int) = 0
  | [] => rfl
  | _ :: r => by simp [dptA, dpt, dpt_ints r]
theorem cm_ints (ns : List Int) : Cm (.lst (ns.map Dt.int)) := ⟨by simp [Tm, tm_ints], by simp [dpt, dpt_ints]⟩
/-- at least n draws are left -/
def Bud (n : Nat) (m : Mem) : Prop := ∃ b, m = .pen b ∧ n ≤ b
theorem Bud.le {n k : Nat} {m : Mem} (h : Bud n m) (z : k ≤ n) : Bud k m := by
  obtain ⟨b, e, hb⟩ := h
  exact ⟨b, e, by omega⟩
theorem Bud.kind {n : Nat} {m : Mem} (h : Bud n m) : m.kind ≠ 0 := by
  obtain ⟨b, rfl, _⟩ := h
  exact Nat.one_ne_zero
/-- a draw: below many; the budget is one less -/
abbrev InDraw : Nat × Int → List Dt → Mem → Prop := fun x ds m => ds = [.int x.2] ∧ 0 < x.2 ∧ x.2 < 1000000 ∧ Bud (x.1 + 1) m
abbrev OutDraw : Nat × Int → Dt → Mem → Prop := fun x d m => (∃ r : Int, d = .int r ∧ 0 ≤ r ∧ r < x.2) ∧ Bud x.1 m
section
variable {c : Cf} {P : Program} {w : World} {mg : Str → Option Value} {base : Heap}
abbrev s__law_draw : Stmt := top 79
abbrev N__law_draw : List Str := ["_law_pen_here", "_law_many", "_law_digit", "_law_at", "_law_cell", "_law_great", "_law_blend"]
theorem sc__law_draw : FnScope N__law_draw ["_law_pen_here", "_law_many"] (defScope s__law_draw) := ⟨rfl, rfl, rfl, by decide +kernel, rfl, by decide +kernel, by decide +kernel⟩

theorem pen_same {W : WS} {p : Addr} {H H2 : Hp} {l : Addr} {ns : List Int} (wp : W p = true) (hs : SqL c.K (hide W H) l (ns.map V.int)) (keep : ∀ b x, H b = some x → b ≠ p → H2 b = some x) : SqL c.K (hide W H2) l (ns.map V.int) := by
  have e : Same (hide W H) (hide W H2) := hide_but fun b x e w => keep b x e fun z => by rw [z, wp] at w; cases w
  exact e.seq hs
theorem c__law_draw (T : Tx c w mg) : Cal P w c.K mg base 1 "_law_draw" (spQ c 1 InDraw OutDraw) := by
  refine mk_law T 1 sc__law_draw (fun _ _ _ _ _ _ us hl => match us, hl with | [_, _], _ => rfl) spQ_len fun f cdv A outer s H vs Q E hr h => ⟨_, PSs.nox (pss_cons (ps_if (pt_cmpR op_gt (pe_ix (ix_seqK (K := c.K) rfl) (pv 0) pe_int (fun _ _ => rfl)) pe_int (nomark _))
        (pss_cons (ps_set (i := 2) sc__law_draw.nd rfl (by first | exact Or.inl rfl | exact Or.inr rfl) (pe_op op_modN (pe_callTy call_intU (by rfl) T.b_int boot_int (pa_cons (pe_ix (ix_seqK (K := c.K) rfl) (pv 0) pe_int (fun _ _ => rfl)) pa_nil)) (pv 1))) 
        (pss_cons (ps_asg (pe_op op_fdivN (pe_callTy call_intU (by rfl) T.b_int boot_int (pa_cons (pe_ix (ix_seqK (K := c.K) rfl) (pv 0) pe_int (fun _ _ => rfl)) pa_nil)) (pv 1)) (pg_sub (pv 0) pe_int set_list)) 
        (pss_one (ps_ret (pv 2)))))
        pss_nil) 
      (pss_cons (ps_set (i := 3) sc__law_draw.nd rfl (by first | exact Or.inl rfl | exact Or.inr rfl) (pe_ix (ix_seqK (K := c.K) rfl) (pv 0) pe_int (fun _ _ => rfl))) 
      (pss_cons (ps_asg (pe_op op_addU (pv 3) pe_int) (pg_sub (pv 0) pe_int set_list)) 
      (pss_cons (ps_set (i := 4) sc__law_draw.nd rfl (by first | exact Or.inl rfl | exact Or.inr rfl) (pe_op op_addU (pe_op op_mulU pe_int (pv 3)) pe_int)) 
      (pss_cons (ps_if (pt_cmpR (op_neDK (K := c.K) rfl hr.units) (pe_ix (ix_seqK (K := c.K) rfl) (pv 0) pe_int (fun _ _ => rfl)) (pe_lst pa_nil) (nomark _))
        (pss_one (ps_set (i := 4) sc__law_draw.nd rfl (by first | exact Or.inl rfl | exact Or.inr rfl) (pe_ix (ix_seqK (K := c.K) rfl) (pe_ix (ix_seqK (K := c.K) rfl) (pv 0) pe_int (fun _ _ => rfl)) (pe_op op_modN (pe_callTy call_intU (by rfl) T.b_int boot_int (pa_cons (pv 3) pa_nil)) (pe_callB (call_lenK (K := c.K) rfl) (by rfl) T.b_len boot_len (pa_cons (pe_ix (ix_seqK (K := c.K) rfl) (pv 0) pe_int (fun _ _ => rfl)) pa_nil))) (fun _ _ => rfl))))
        pss_nil) 
      (pss_cons (ps_if (PW.pt (pw_and (pt_cmpR op_lt (pv 3) (pe_callB (call_lenK (K := c.K) rfl) (by rfl) T.b_len boot_len (pa_cons (pe_ix (ix_seqK (K := c.K) rfl) (pv 0) pe_int (fun _ _ => rfl)) pa_nil)) (nomark _)) (pw_and1 (pt_cmpR op_ge (pe_callB call_abs (by rfl) T.b_abs boot_abs (pa_cons (pv 4) pa_nil)) (pe_op op_pow pe_int pe_int) (nomark _)))))
        (pss_cons (ps_set (i := 5) sc__law_draw.nd rfl (by first | exact Or.inl rfl | exact Or.inr rfl) (pe_op op_addU (pe_op op_mulU pe_int (pe_op op_sub (pe_callB call_abs (by rfl) T.b_abs boot_abs (pa_cons (pv 4) pa_nil)) (pe_op op_pow pe_int pe_int))) (pe_callTy call_intU (by rfl) T.b_int boot_int (pa_cons (pe_cmpR op_lt (pv 4) pe_int (nomark _)) pa_nil)))) 
        (pss_cons (ps_asg (pe_op op_fdivN (pe_callTy call_intU (by rfl) T.b_int boot_int (pa_cons (pv 5) pa_nil)) (pv 1)) (pg_sub (pv 0) pe_int set_list)) 
        (pss_one (ps_ret (pe_op op_modN (pe_callTy call_intU (by rfl) T.b_int boot_int (pa_cons (pv 5) pa_nil)) (pv 1))))))
        pss_nil) 
      (pss_cons (ps_set (i := 6) sc__law_draw.nd rfl (by first | exact Or.inl rfl | exact Or.inr rfl) (pe_op op_modN (pe_callTy call_intU (by rfl) T.b_int boot_int (pa_cons (pe_op op_pow (pe_op op_addU (pe_op op_addU (pe_op op_modN (pe_callTy call_intU (by rfl) T.b_int boot_int (pa_cons (pv 4) pa_nil)) pe_int) (pe_op op_mulU pe_int (pv 3))) pe_int) pe_int) pa_nil)) pe_int)) 
      (pss_cons (ps_set (i := 6) sc__law_draw.nd rfl (by first | exact Or.inl rfl | exact Or.inr rfl) (pe_op op_modN (pe_callTy call_intU (by rfl) T.b_int boot_int (pa_cons (pe_op op_pow (pe_op op_addU (pe_op op_addU (pe_op op_mulU (pv 6) (pe_op op_addU (pe_op op_mulU pe_int (pv 3)) pe_int)) (pe_op op_mulU (pe_op op_mulU pe_int (pv 3)) (pv 3))) pe_int) pe_int) pa_nil)) pe_int)) 
      (pss_one (ps_ret (pe_op op_modN (pe_callTy call_intU (by rfl) T.b_int boot_int (pa_cons (pe_op op_fdivN (pv 6) pe_int) pa_nil)) (pv 1)))))))))))), ?_⟩
  obtain ⟨⟨b0, many⟩, p, us, rfl, hn, W, ds, m, lv, rs, hm, hk, ⟨rfl, hm0, hm1, b1, rfl, hb1⟩, k⟩ := h
  obtain ⟨b, rfl⟩ : ∃ b, b1 = b + 1 := ⟨b1 - 1, by omega⟩
  have hb0 : b0 ≤ b := by simp only at hb1; omega
  cases rs with
  | cons rv rr =>
  cases rr
  cases rv
  obtain ⟨wp, l, ns, i, r, hp, hsq, hns, hi0, hib, hr0⟩ := hm
  have hl : SqL c.K H l (ns.map V.int) := hide_sub.seq hsq
  have lp : ∀ H2 : Hp, (∀ b x, H b = some x → b ≠ p → H2 b = some x) → SqL c.K (hide W H2) l (ns.map V.int) := fun H2 kp => pen_same wp hsq kp
  -- the end
  have fin : ∀ (H2 : Hp) (v i2 r2 : Int), (∀ b x, H b = some x → b ≠ p → H2 b = some x) → H2 p = some (.lst [.ref l, .int i2, .int r2]) → 0 ≤ i2 → i2 + b ≤ 4000000 → 0 ≤ r2 → 0 ≤ v → v < many → Q (.int v) H2 := fun H2 v i2 r2 kp h2 a1 a2 a3 a4 a5 =>
    k (.int v) H2 (.int v) (.pen b) ⟨⟨v, rfl, a4, a5⟩, b, rfl, hb0⟩ rfl kp ⟨wp, l, ns, i2, r2, h2, lp H2 kp, hns, a1, a2, a3⟩ (.int v)
  have hpl : SqL c.K H p [.ref l, .int i, .int r] := SqL.of hp
  have e2 : Ev (tOp (rIx c.K) (tVar 0) (tC (.int 2))) (L2.start N__law_draw [V.ref p, V.int many]) H (.int r) := v_ix (n := 2) (ev_var rfl) ev_c hpl rfl rfl
  refine q_when (b := decide (r > 0)) (Evl.et_test (v_I0 e2 ev_c)) (fun hc H1 x1 => ?_) (fun hc H1 x1 => ?_)
  · refine q_asg (v := .int (r.fmod many)) (v_I (v_int (e2.mono x1)) (ev_var rfl) (by omega)) fun H2 x2 => ?_
    have x12 := x1.trans x2
    refine q_setL (j := 2) (xs := [.ref l, .int i, .int r]) (l := p) (x12 _ _ hp) (v_I (v_int (v_ix (n := 2) (ev_var rfl) ev_c (ex_l x12 hpl) rfl rfl)) (ev_var (i := 1) rfl) ⟨by omega, by omega⟩) (ev_var rfl) ev_c (by simp) fun H3 x3 => ?_
    refine s_ret (ev_var rfl) fun H4 x4 => ?_
    have f := fmod_in (x := r) hm0
    refine fin H4 _ i (r.fdiv many) (fun b x e n => x4 b x ?_) (x4 p _ upd_same) hi0 (by omega) (fdiv_nn hm0 hr0) f.1 f.2
    rw [upd_ne n]
    exact x3 b x (x12 b x e)
  refine q_asg (v := .int i) (v_ix (n := 1) (ev_var rfl) ev_c (ex_l x1 hpl) rfl rfl) fun H2 x2 => ?_
  have x12 := x1.trans x2
  refine q_setL (j := 1) (xs := [.ref l, .int i, .int r]) (l := p) (x12 _ _ hp) (v_add (ev_var (i := 3) rfl) ev_c) (ev_var rfl) ev_c (by simp) fun H3' x3 => ?_
  generalize hH3 : upd H3' p (.lst ([V.ref l, .int i, .int r].set 1 (.int (i + 1)))) = H3
  have kp3 : ∀ b x, H b = some x → b ≠ p → H3 b = some x := fun b x e n => by
    rw [← hH3, upd_ne n]
    exact x3 b x (x12 b x e)
  have hp3 : H3 p = some (.lst [.ref l, .int (i + 1), .int r]) := by
    rw [← hH3]
    exact upd_same
  have hpl3 : SqL c.K H3 p [.ref l, .int (i + 1), .int r] := SqL.of hp3
  have hl3 : SqL c.K H3 l (ns.map V.int) := hide_sub.seq (lp H3 kp3)
  have e0 : ∀ {σ : L2.St} {H4 : Hp}, σ[0]? = some (some (.ref p)) → Ex H3 H4 → Ev (tOp (rIx c.K) (tVar 0) (tC (.int 0))) σ H4 (.ref l) := fun h0 x => v_ix (n := 0) (ev_var h0) ev_c (ex_l x hpl3) rfl rfl
  obtain ⟨cv, hcv1, hcv2⟩ : ∃ cv : Int, (ns ≠ [] → (ns.map V.int)[(i.fmod (((ns.map V.int).length : Nat) : Int)).toNat]? = some (V.int cv)) ∧ (ns = [] → cv = 53279 * i + 727) := by
    by_cases e : ns = []
    · exact ⟨_, fun h => absurd e h, fun _ => rfl⟩
    · have hl0 : 0 < ns.length := List.length_pos_iff.mpr e
      have f := fmod_in (x := i) (m := (((ns.map V.int).length : Nat) : Int)) (by rw [List.length_map]; omega)
      have hlt : (i.fmod (((ns.map V.int).length : Nat) : Int)).toNat < ns.length := by
        rw [List.length_map] at f ⊢
        omega
      refine ⟨ns[(i.fmod (((ns.map V.int).length : Nat) : Int)).toNat], fun _ => ?_, fun h => absurd h e⟩
      rw [List.getElem?_map, List.getElem?_eq_getElem hlt]
      rfl
  refine q_asg (v := .int (53279 * i + 727)) (v_add (v_mul ev_c (ev_var (i := 3) rfl) (.inl (by decide))) ev_c) fun H4 x4 => ?_
  refine q_ifAsg (b := !decide (ns = [])) (v := .int cv) (Evl.et_test (ev_opL (e0 rfl x4) (el_lst Evl.ea_nil (by decide)) fun q H5 hq x5 H6 x6 Q6 k6 => ?_)) (fun hc2 => ?_) (fun hc2 => ?_) fun H5 x5 => ?_
  · have hd1 : ∀ zs : List Int, DpAll c.K H6 (zs.map V.int) (toPA (zs.map Dt.int)) := fun zs => by
      induction zs with
      | nil => exact .nil
      | cons z zs ih => exact .cons (.int z) ih
    have cm1 : Cm (.lst (ns.map Dt.int)) := cm_ints ns
    have cm2 : Cm (.lst []) := ⟨rfl, by simp [dpt, dptA]⟩
    refine ⟨toP (.lst (ns.map Dt.int)), toP (.lst []), .lst (ex_l (x4.trans (x5.trans x6)) hl3) (hd1 ns), .lst (SqL.of (x6 _ _ hq)) .nil, cm1.shaped, cm2.shaped, ?_⟩
    rw [eqv_deq _ _ cm1.tm cm2.tm, show deq (.lst (ns.map Dt.int)) (.lst []) = decide (ns = []) by cases ns <;> simp [deq, deqA]]
    exact k6 H6 (Ex.refl _)
  · have e : ns ≠ [] := by simpa using hc2
    have hl0 : 0 < ns.length := List.length_pos_iff.mpr e
    have hl1 : 0 < (ns.map V.int).length := by rw [List.length_map]; exact hl0
    have f := fmod_in (x := i) (m := (((ns.map V.int).length : Nat) : Int)) (by omega)
    exact v_ix (n := (i.fmod (((ns.map V.int).length : Nat) : Int)).toNat) (e0 rfl x4) (v_I (v_int (ev_var rfl)) (v_len (e0 rfl x4) (ex_l x4 hl3)) (by omega)) (ex_l x4 hl3) (by omega) (hcv1 e)
  · have e : ns = [] := by simpa using hc2
    rw [hcv2 e]
    rfl
  have x35 := x4.trans x5
  generalize hab : (if cv < 0 then -cv else cv) = ab
  have eab : ∀ {σ : L2.St} {H6 : Hp}, σ[4]? = some (some (.int cv)) → Ev (tCB (fun xs H Q => ∃ i, xs = [V.int i] ∧ Q (.int (if i < 0 then -i else i)) H) (tCons (tVar 4) tNil)) σ H6 (.int ab) := fun h => by
    rw [← hab]
    exact v_abs (ev_var h)
  refine q_when (b := decide (i < (((ns.map V.int).length : Nat) : Int)) && decide (ab ≥ (10 : Int) ^ (18 : Int).toNat)) (Evl.et_and (Evl.et_test (v_I0 (ev_var rfl) (v_len (e0 rfl x35) (ex_l x35 hl3)))) fun _ => Evl.et_test (v_I0 (eab rfl) (v_I (C := CPow) ev_c ev_c ⟨by decide, by decide, by decide⟩))) (fun hc3 H6 x6 => ?_) (fun hc3 H6 x6 => ?_)
  · simp only [Bool.and_eq_true, decide_eq_true_eq] at hc3
    have x36 := x35.trans x6
    generalize hg : (2 * (ab - (10 : Int) ^ (18 : Int).toNat) + (if decide (cv < 0) = true then (1 : Int) else 0)) = great
    have hg0 : 0 ≤ great := by
      rw [← hg]
      have := hc3.2
      split <;> omega
    refine q_asg (v := .int great) (ev_is (v_add (v_mul ev_c (v_I0 (eab rfl) (v_I (C := CPow) ev_c ev_c ⟨by decide, by decide, by decide⟩)) (.inl (by decide))) (v_intB (b := decide (cv < 0)) (v_I0 (ev_var (i := 4) rfl) ev_c))) (by rw [← hg])) fun H7 x7 => ?_
    have x37 := x36.trans x7
    refine q_setL (j := 2) (xs := [.ref l, .int (i + 1), .int r]) (l := p) (x37 _ _ hp3) (v_I (v_int (ev_var (i := 5) rfl)) (ev_var (i := 1) rfl) ⟨by omega, by omega⟩) (ev_var rfl) ev_c (by simp) fun H8 x8 => ?_
    refine s_ret (v_I (v_int (ev_var (i := 5) rfl)) (ev_var (i := 1) rfl) (by omega)) fun H9 x9 => ?_
    have f := fmod_in (x := great) hm0
    refine fin H9 _ (i + 1) (great.fdiv many) (fun b x e n => x9 b x ?_) (x9 p _ upd_same) (by omega) (by omega) (fdiv_nn hm0 hg0) f.1 f.2
    rw [upd_ne n]
    exact x8 b x (x37 b x (kp3 b x e n))
  have x36 := x35.trans x6
  have hi1 : i < 4000000 := by omega
  have f1 := fmod_in (x := cv) (m := 2147483563) (by decide)
  refine q_asg (v_I (v_int (v_I (C := CPow) (v_add (v_add (v_I (v_int (ev_var (i := 4) rfl)) ev_c (by decide)) (v_mul ev_c (ev_var (i := 3) rfl) (.inl (by decide)))) ev_c) ev_c ⟨by decide, by decide, by omega⟩)) ev_c (by decide)) fun H7 x7 => ?_
  generalize hbl : Int.fmod _ (2147483587 : Int) = b1
  have f2 : 0 ≤ b1 ∧ b1 < 2147483587 := by
    rw [← hbl]
    exact fmod_in (by decide)
  have m1 : b1 * (2 * i + 157) ≤ 2147483587 * (2 * i + 157) := Int.mul_le_mul_of_nonneg_right (by omega) (by omega)
  have m2 : 0 ≤ b1 * (2 * i + 157) := Int.mul_nonneg (by omega) (by omega)
  have m3 : 66413 * i * i ≤ 66413 * 4000000 * 4000000 := Int.mul_le_mul (by omega) (by omega) (by omega) (by omega)
  have m4 : 0 ≤ 66413 * i * i := Int.mul_nonneg (by omega) (by omega)
  refine q_asg (v_I (v_int (v_I (C := CPow) (v_add (v_add (v_mul (ev_var (i := 6) rfl) (v_add (v_mul ev_c (ev_var (i := 3) rfl) (.inl (by decide))) ev_c) (.inl ⟨by omega, by omega⟩)) (v_mul (v_mul ev_c (ev_var (i := 3) rfl) (.inl (by decide))) (ev_var (i := 3) rfl) (.inr ⟨by omega, by omega⟩))) ev_c) ev_c ⟨by decide, by decide, by omega⟩)) ev_c (by decide)) fun H8 x8 => ?_
  refine s_ret (v_I (v_int (v_I (ev_var (i := 6) rfl) ev_c ⟨by decide, by decide⟩)) (ev_var (i := 1) rfl) (by omega)) fun H9 x9 => ?_
  have x39 := ((x36.trans x7).trans x8).trans x9
  exact fin H9 _ (i + 1) r (fun b x e n => x39 b x (kp3 b x e n)) (x39 p _ hp3) (by omega) (by omega) hr0 (fmod_in hm0).1 (fmod_in hm0).2
variable {D : List SV} {s : Sto} {te : TE} {i n : Nat} {XE : XK}
theorem e_draw {many : Int} (n : Nat) (hi : D[i]? = some .mem) (h : X c te D (.int many)) (h0 : 0 < many) (h1 : many < 1000000) (hb : Bud (n + 1) s.m) :
    E c (tCall (spQ c 1 InDraw OutDraw) [] XE (tCons (tVar i) (tCons te tNil))) D s (fun d s2 => (∃ r : Nat, d = .int (r : Int) ∧ (r : Int) < many) ∧ s2.c = s.c ∧ Bud n s2.m) :=
  e_callQ hi (xa_cons h xa_nil).E fun ds s1 ⟨e1, e2⟩ => by
    subst e1 e2
    refine ⟨rfl, hb.kind, (n, many), ⟨rfl, h0, h1, hb⟩, fun d m2 ⟨⟨r, e, h2, h3⟩, h4⟩ => ⟨⟨r.toNat, ?_, ?_⟩, rfl, h4⟩⟩
    · rw [e, Int.toNat_of_nonneg h2]
    · rw [Int.toNat_of_nonneg h2]
      exact h3
/-- one of some -/
abbrev InPick : Nat × List Dt → List Dt → Mem → Prop := fun x ds m => (ds = [.lst x.2] ∨ ∃ t, t.length ≤ 1000 ∧ ds = [.str t] ∧ x.2 = t.map fun ch => Dt.str [ch]) ∧ x.2 ≠ [] ∧ x.2.length ≤ 1000 ∧ Bud (x.1 + 1) m
abbrev OutPick : Nat × List Dt → Dt → Mem → Prop := fun x d m => d ∈ x.2 ∧ Bud x.1 m
abbrev s__law_pick : Stmt := top 80
abbrev N__law_pick : List Str := ["_law_pen_here", "_law_some"]
theorem sc__law_pick : FnScope N__law_pick ["_law_pen_here", "_law_some"] (defScope s__law_pick) := ⟨rfl, rfl, rfl, by decide +kernel, rfl, by decide +kernel, by decide +kernel⟩

theorem c__law_pick (T : Tx c w mg) : Cal P w c.K mg base 2 "_law_pick" (spQ c 1 InPick OutPick) := by
  have c__law_draw := c__law_draw (P := P) (base := base) T
  refine mk_law (k := 1) T 2 sc__law_pick (fun _ _ _ _ _ _ us hl => match us, hl with | [_, _], _ => rfl) spQ_len fun f cdv A outer s H vs Q E hr h => ⟨_, PSs.nox (pss_one (ps_ret (pe_ix (ix_seqK (K := c.K) rfl) (pv 1) (pe_c c__law_draw hr (by first | decide | omega) (by rfl) (pa_cons (pv 0) (pa_cons (pe_callB (call_lenK (K := c.K) rfl) (by rfl) T.b_len boot_len (pa_cons (pv 1) pa_nil)) pa_nil))) (fun _ _ => rfl)))), body_q h fun x ds m hn hk hR => ?_⟩
  obtain ⟨b, es⟩ := x
  obtain ⟨hd, hne, hlen, hb⟩ := hR
  have hl0 : 0 < es.length := List.length_pos_iff.mpr hne
  rcases hd with rfl | ⟨t, ht, rfl, rfl⟩
  · refine (z_ret (e_xop (P2 := fun d s2 => (∃ r : Nat, d = .int (r : Int) ∧ (r : Int) < ((es.length : Nat) : Int)) ∧ Bud b s2.m) (P := fun d s2 => OutPick (b, es) d s2.m) (d := .lst es) (x_var rfl) ((e_draw b rfl (x_lenL (x_var (i := 1) rfl)) (by omega) (by simp only at hlen; omega) hb).imp fun d s2 h => ⟨h.1, h.2.2⟩) ?_)).imp (fun _ _ z => z.elim) fun _ _ z => z
    rintro e s1 ⟨⟨r, rfl, hr2⟩, h4⟩
    have hr3 : r < es.length := by omega
    exact ⟨es[r], x_ixL (n := r) (x_var rfl) (x_var rfl) rfl (by simp [hr3]), List.getElem_mem .., h4⟩
  · refine (z_ret (e_xop (P2 := fun d s2 => (∃ r : Nat, d = .int (r : Int) ∧ (r : Int) < ((t.length : Nat) : Int)) ∧ Bud b s2.m) (P := fun d s2 => OutPick (b, t.map fun ch => Dt.str [ch]) d s2.m) (d := .str t) (x_var rfl) ((e_draw b rfl (x_lenS (x_var (i := 1) rfl) (by omega)) (by simp at hl0; omega) (by omega) hb).imp fun d s2 h => ⟨h.1, h.2.2⟩) ?_)).imp (fun _ _ z => z.elim) fun _ _ z => z
    rintro e s1 ⟨⟨r, rfl, hr2⟩, h4⟩
    have hr3 : r < t.length := by omega
    exact ⟨.str [t[r]], x_ixS (n := r) (ch := t[r]) (x_var rfl) (x_var rfl) rfl (by simp [hr3]) (by omega), List.mem_map.mpr ⟨t[r], List.getElem_mem .., rfl⟩, h4⟩
theorem e_pick {es : List Dt} (n : Nat) (hi : D[i]? = some .mem) (h : X c te D (.lst es)) (h0 : es ≠ []) (h1 : es.length ≤ 1000) (hb : Bud (n + 1) s.m) :
    E c (tCall (spQ c 1 InPick OutPick) [] XE (tCons (tVar i) (tCons te tNil))) D s (fun d s2 => d ∈ es ∧ s2.c = s.c ∧ Bud n s2.m) :=
  e_callQ hi (xa_cons h xa_nil).E fun ds s1 ⟨e1, e2⟩ => by
    subst e1 e2
    exact ⟨rfl, hb.kind, (n, es), ⟨.inl rfl, h0, h1, hb⟩, fun d m2 ⟨h2, h3⟩ => ⟨h2, rfl, h3⟩⟩
theorem e_pickS {t : List Nat} (n : Nat) (hi : D[i]? = some .mem) (h : X c te D (.str t)) (h0 : t ≠ []) (h1 : t.length ≤ 1000) (hb : Bud (n + 1) s.m) :
    E c (tCall (spQ c 1 InPick OutPick) [] XE (tCons (tVar i) (tCons te tNil))) D s (fun d s2 => (∃ ch ∈ t, d = .str [ch]) ∧ s2.c = s.c ∧ Bud n s2.m) :=
  e_callQ hi (xa_cons h xa_nil).E fun ds s1 ⟨e1, e2⟩ => by
    subst e1 e2
    refine ⟨rfl, hb.kind, (n, t.map fun ch => Dt.str [ch]), ⟨.inr ⟨t, h1, rfl, rfl⟩, by simpa using h0, by simpa using h1, hb⟩, fun d m2 ⟨h2, h3⟩ => ⟨?_, rfl, h3⟩⟩
    obtain ⟨ch, hc, e⟩ := List.mem_map.mp h2
    exact ⟨ch, hc, e.symm⟩
end
end Wb

/-! The law's names and nets. -/
namespace Wb
open PySem PySem.Spec PyProof.Rows L2 SX
section
variable {c : Cf} {D : List SV} {s : Sto} {ta tb te tl th : TE} {tt : TA} {d : Dt} {ds : List Dt} {t : List Nat} {i j : Nat} {P : Dt → Sto → Prop}
theorem x_mulI {a b : Int} (ha : X c ta D (.int a)) (hb : X c tb D (.int b)) (hc : CMul a b) : X c (tOp rMulU ta tb) D (.int (a * b)) :=
  x_op ha hb fun W H x y Q l rx ry k => by
    cases rx
    cases ry
    exact .inl ⟨_, _, rfl, rfl, hc, k _ H (.refl H) (.int _)⟩
theorem x_mulS {b : Bool} (ha : X c ta D (.str t)) (hb : X c tb D (.int (if b then 1 else 0))) (hz : t.length ≤ 1000) : X c (tOp rMulU ta tb) D (.str (if b then t else [])) :=
  x_op ha hb fun W H x y Q l rx ry k => by
    cases rx
    cases ry
    refine .inr ⟨S t, if b then 1 else 0, rfl, by cases b <;> rfl, by rw [S_len]; exact hz, by cases b <;> simp, ?_⟩
    cases b
    · exact k _ H (.refl H) (.str [])
    · exact k _ H (.refl H) (.str t)
theorem x_modI {a m : Int} (ha : X c ta D (.int a)) (hb : X c tb D (.int m)) (h : m ≠ 0) : X c (tOp (rI (fun _ j => j ≠ 0) fun i j => .int (i.fmod j)) ta tb) D (.int (a.fmod m)) :=
  x_op ha hb fun W H x y Q l rx ry k => by
    cases rx
    cases ry
    exact ⟨_, _, rfl, rfl, h, k _ H (.refl H) (.int _)⟩
theorem x_modN {a m : Nat} (ha : X c ta D (.int (a : Int))) (hb : X c tb D (.int (m : Int))) (h : 0 < m) : X c (tOp (rI (fun _ j => j ≠ 0) fun i j => .int (i.fmod j)) ta tb) D (.int ((a % m : Nat) : Int)) := by
  have z := x_modI ha hb (by omega)
  rwa [Int.fmod_eq_emod_of_nonneg _ (by omega), ← Int.natCast_emod] at z
theorem x_slTo (ha : X c te D (.str t)) (hb : X c th D (.int (j : Int))) (hz : t.length ≤ 100000) : X c (tSl rSlS te tNoPart (tPart th)) D (.str (t.take j)) := fun W o p st H Q l a k =>
  ha W o p st H _ l a fun x H1 e1 rx => hb W o p st H1 _ (l.same e1) (a.mono (hide_same e1)) fun y H2 e2 ry => by
    cases rx
    cases ry
    refine ⟨_, rfl, S t, rfl, by rw [S_len]; exact Nat.le_trans hz (by decide), ?_⟩
    rw [cut_to]
    exact k _ H2 (e1.trans e2) (.str _)
theorem x_slFrom (ha : X c te D (.str t)) (hb : X c tl D (.int (j : Int))) (hz : t.length ≤ 100000) : X c (tSl rSlS te (tPart tl) tNoPart) D (.str (t.drop j)) := fun W o p st H Q l a k =>
  ha W o p st H _ l a fun x H1 e1 rx => hb W o p st H1 _ (l.same e1) (a.mono (hide_same e1)) fun y H2 e2 ry => by
    cases rx
    cases ry
    refine ⟨_, rfl, S t, rfl, by rw [S_len]; exact Nat.le_trans hz (by decide), ?_⟩
    rw [cut_from]
    exact k _ H2 (e1.trans e2) (.str _)
/-- s.join(what the store gives) -/
theorem e_join {P1 : Dt → Sto → Prop} (ha : X c ta D (.str t)) (hb : E c tb D s P1) (hr : ∀ d s1, P1 d s1 → ∃ ls : List (List Nat), d = .lst (ls.map Dt.str) ∧ (ls.map (·.length)).sum + ls.length * t.length ≤ 100000 ∧ P (.str (TL.joinL t ls)) s1) :
    E c (tM1 (fun x xs H Q => ∃ a p, ∃ ys : List Str, x = .str a ∧ xs = [.ref p] ∧ (SqL c.K H p (ys.map V.str) ∨ SqT c.K H p (ys.map V.str)) ∧ (ys.map (·.length)).sum + ys.length * a.length ≤ 16777216 ∧ Q (.str (Txt.join a ys)) H) ta tb) D s P := fun W o p st H Q a k =>
  ha.E W o p st H _ a fun x H1 d1 s1 ⟨h1, h2⟩ sp a1 rx => by
    subst h1 h2
    cases rx
    refine ⟨⟨_, rfl⟩, hb W o p st H1 _ a1 fun y H2 d2 s2 p2 sp2 a2 ry => ?_⟩
    obtain ⟨ls, rfl, hz, hP⟩ := hr d2 s2 p2
    have sl : Sl c o p (hide (eff W o s2) H2) [SV.d (.str t), .d (.lst (ls.map Dt.str))] [some (.str (S t)), some y] := fun i z hz => by
      match i, hz with
      | 0, hz => cases hz; exact ⟨_, rfl, _, rfl, .str t⟩
      | 1, hz => cases hz; exact ⟨_, rfl, y, rfl, ry⟩
    have z := x_join (c := c) (ta := tVar 0) (tb := tVar 1) (x_var rfl) (x_var rfl) hz _ o p [some (.str (S t)), some y] H2 Q a2.lv sl fun v H3 e3 rv => k v H3 _ s2 hP ((sp.trans a1 sp2).trans a2 (.pure e3)) (a2.same e3) rv
    obtain ⟨v1, h1, q1, v2, h2, q⟩ := z
    cases h1
    cases h2
    exact q
/-- a, b = x, y, the places may change the store -/
theorem z_parE {PA : List Dt → Sto → Prop} {t2 : TS} {Pn : List SV → Sto → Prop} {Pr : Dt → Sto → Prop} (h : EA c tt D s PA) (k : ∀ ds s1, PA ds s1 → ∃ d1 d2, ds = [d1, d2] ∧ Z c t2 ((D.set i (.d d1)).set j (.d d2)) s1 Pn Pr) : Z c (tSeq (tPar i j tt) t2) D s Pn Pr := fun W o p st H F a kn kr =>
  h W o p st H _ a fun vs H1 ds s1 p1 sp a1 rs => by
    obtain ⟨d1, d2, rfl, hk⟩ := k ds s1 p1
    cases rs with
    | cons r1 rs =>
      cases rs with
      | cons r2 rs =>
        cases rs
        have a2 := a1.slots ((a1.sl.setd (i := i) r1).setd (i := j) r2)
        refine ⟨_, _, rfl, ?_⟩
        exact hk W o p _ H1 F a2 (fun o2 st2 H2 D2 s2 pn sp2 a3 => kn o2 st2 H2 D2 s2 pn (sp.trans a1 sp2) a3) (fun o2 v H2 d s2 pr sp2 a3 r => kr o2 v H2 d s2 pr (sp.trans a1 sp2) a3 r)
theorem z_setE {t2 : TS} {Pn : List SV → Sto → Prop} {Pr : Dt → Sto → Prop} (h : E c te D s P) (k : ∀ d s1, P d s1 → Z c t2 (D.set i (.d d)) s1 Pn Pr) : Z c (tSeq (tAsg te (gName i)) t2) D s Pn Pr :=
  z_then (z_set h) fun D1 s1 ⟨d, pd, e⟩ => by
    subst e
    exact k d s1 pd
theorem e_x (h : X c te D d) (hP : P d s) : E c te D s P := h.E.imp fun d' s' ⟨e1, e2⟩ => by
  subst e1 e2
  exact hP
/-- two places of arguments -/
theorem ea_two {P1 : Dt → Sto → Prop} {P2 : Dt → Sto → Dt → Sto → Prop} {PA : List Dt → Sto → Prop} (h : E c ta D s P1) (t : ∀ d s1, P1 d s1 → E c tb D s1 (P2 d s1)) (z : ∀ d s1 e s2, P1 d s1 → P2 d s1 e s2 → PA [d, e] s2) : EA c (tCons ta (tCons tb tNil)) D s PA :=
  ea_cons (P2 := fun d s1 ds s2 => ∃ e, ds = [e] ∧ P2 d s1 e s2) h (fun d s1 p1 => ea_cons (P2 := fun e s2 ds s3 => ds = [] ∧ s3 = s2) (t d s1 p1) (fun e s2 p2 => ea_nil ⟨rfl, rfl⟩) fun e s2 ds s3 p2 ⟨e1, e2⟩ => by
    subst e1 e2
    exact ⟨e, rfl, p2⟩) fun d s1 ds s2 p1 ⟨e, e1, p2⟩ => by
    subst e1
    exact z d s1 e s2 p1 p2
end
abbrev abc : List Nat := [97, 98, 99, 100, 101, 102, 103, 104, 105, 106, 107, 108, 109, 110, 111, 112, 113, 114, 115, 116, 117, 118, 119, 120, 121, 122]
def Low (t : List Nat) : Prop := ∀ ch ∈ t, 97 ≤ ch ∧ ch ≤ 122
theorem low_abc : Low abc := by unfold Low; decide
theorem join_one : ∀ ts : List Nat, TL.joinL [] (ts.map fun ch => [ch]) = ts
  | [] => rfl
  | [_] => rfl
  | x :: y :: r => by
    have := join_one (y :: r)
    simp only [List.map_cons] at this ⊢
    show [x] ++ [] ++ TL.joinL [] ([y] :: r.map fun ch => [ch]) = _
    rw [this]
    rfl
/-- the word that is kept -/
def wordq (t : List Nat) : List Nat := t ++ (if [nOpen, nShut, nNet].contains t then [113] else [])
theorem wordq_ok {t : List Nat} (h1 : 1 ≤ t.length) (h2 : t.length ≤ 8) (h3 : Low t) : NameOk (wordq t) := by
  unfold wordq
  by_cases h : [nOpen, nShut, nNet].contains t = true
  · rw [if_pos h]
    have : t = nOpen ∨ t = nShut ∨ t = nNet := by simpa using h
    rcases this with rfl | rfl | rfl <;> exact ⟨by decide, by decide, by decide, by decide, by decide, by decide⟩
  · rw [if_neg h, List.append_nil]
    have : t ≠ nOpen ∧ t ≠ nShut ∧ t ≠ nNet := by simpa using h
    exact ⟨h1, h2, h3, this.1, this.2.1, this.2.2⟩
section
variable {c : Cf} {P : Program} {w : World} {mg : Str → Option Value} {base : Heap}
abbrev InWords : Nat × Nat → List Dt → Mem → Prop := fun x ds m => ds = [.int (x.2 : Int)] ∧ x.2 ≤ 9 ∧ Bud (x.1 + 12) m
abbrev OutWords : Nat × Nat → Dt → Mem → Prop := fun x d m => (∃ ws : List (List Nat), d = .lst (ws.map Dt.str) ∧ ws.length = x.2 ∧ ∀ z ∈ ws, NameOk z) ∧ Bud x.1 m
abbrev s__law_words : Stmt := top 81
abbrev N__law_words : List Str := ["_law_pen_here", "_law_many", "_law_letters", "_law_stem", "_law_spot", "_law_front", "_law_found", "_law_k", "_law_word"]
theorem sc__law_words : FnScope N__law_words ["_law_pen_here", "_law_many"] (defScope s__law_words) := ⟨rfl, rfl, rfl, by decide +kernel, rfl, by decide +kernel, by decide +kernel⟩

theorem c__law_words (T : Tx c w mg) : Cal P w c.K mg base 3 "_law_words" (spQ c 1 InWords OutWords) := by
  have c__law_draw := c__law_draw (P := P) (base := base) T
  have c__law_pick := c__law_pick (P := P) (base := base) T
  refine mk_law (k := 2) T 3 sc__law_words (fun _ _ _ _ _ _ us hl => match us, hl with | [_, _], _ => rfl) spQ_len fun f cdv A outer s H vs Q E hr h => ⟨_, PSs.nox (pss_cons (ps_set (i := 2) sc__law_words.nd rfl (by first | exact Or.inl rfl | exact Or.inr rfl) pe_str) 
      (pss_cons (ps_set (i := 3) sc__law_words.nd rfl (by first | exact Or.inl rfl | exact Or.inr rfl) (pe_join pe_str (pe_lc (own := [("_law_k", 7)]) rfl sc__law_words.nd (pi_range1 rfl T.b_range (pa_cons (pe_c c__law_pick hr (by first | decide | omega) (by rfl) (pa_cons (pv 0) (pa_cons (pe_lst (pa_cons pe_int (pa_cons pe_int (pa_cons pe_int (pa_cons pe_int (pa_cons pe_int pa_nil)))))) pa_nil))) pa_nil)) (blkOk_by (own := [("_law_k", 7)]) (N := N__law_words) (sc := defScope s__law_words) (by decide +kernel)) (fun _ _ _ _ _ => (pg_name (i := 7) sc__law_words.nd rfl (by first | exact Or.inl rfl | exact Or.inr rfl))) (fun _ _ _ _ _ => pts_nil) (fun _ _ _ _ _ => (pe_c c__law_pick hr (by first | decide | omega) (by rfl) (pa_cons (pv 0) (pa_cons (pv 2) pa_nil))))))) 
      (pss_cons (ps_set (i := 3) sc__law_words.nd rfl (by first | exact Or.inl rfl | exact Or.inr rfl) (pe_c c__law_pick hr (by first | decide | omega) (by rfl) (pa_cons (pv 0) (pa_cons (pe_lst (pa_cons (pv 3) (pa_cons (pv 3) (pa_cons (pv 3) (pa_cons pe_str (pa_cons pe_str (pa_cons pe_str pa_nil))))))) pa_nil)))) 
      (pss_cons (ps_par (i := 4) (j := 5) rfl sc__law_words.nd rfl rfl (by decide) rfl rfl (pa_cons (pe_c c__law_draw hr (by first | decide | omega) (by rfl) (pa_cons (pv 0) (pa_cons (pe_op op_addU (pe_callB (call_lenK (K := c.K) rfl) (by rfl) T.b_len boot_len (pa_cons (pv 3) pa_nil)) pe_int) pa_nil))) (pa_cons (pe_c c__law_draw hr (by first | decide | omega) (by rfl) (pa_cons (pv 0) (pa_cons pe_int pa_nil))) pa_nil)) (by rfl)) 
      (pss_cons (ps_set (i := 6) sc__law_words.nd rfl (by first | exact Or.inl rfl | exact Or.inr rfl) (pe_lst pa_nil)) 
      (pss_cons (ps_for PassesOwn.never rfl (pi_range1 rfl T.b_range (pa_cons (pv 1) pa_nil)) (pg_name (i := 7) sc__law_words.nd rfl (by first | exact Or.inl rfl | exact Or.inr rfl))
        (pss_cons (ps_set (i := 8) sc__law_words.nd rfl (by first | exact Or.inl rfl | exact Or.inr rfl) (pe_op op_addU (pe_op op_addU (pe_slice sl_str (pv 3) po_none (po_some (pv 4))) (pe_ix (ix_seqK (K := c.K) rfl) (pv 2) (pe_op op_modN (pe_callTy call_intU (by rfl) T.b_int boot_int (pa_cons (pe_op op_addU (pv 5) (pe_op op_mulU pe_int (pv 7))) pa_nil)) pe_int) (fun _ _ => rfl))) (pe_slice sl_str (pv 3) (po_some (pv 4)) po_none))) 
        (pss_one (ps_expr (pe_bmK (K := c.K) rfl PySem.F.plainAttrs_list PySem.F.slot_list_append PySem.F.type_list_append mt_append (pv 6) (pa_cons (pe_op op_addU (pv 8) (pe_op op_mulU pe_str (pe_callTy call_intU (by rfl) T.b_int boot_int (pa_cons (pe_cmpR (op_inK (K := c.K) rfl) (pv 8) (pe_lst (pa_cons pe_str (pa_cons pe_str (pa_cons pe_str pa_nil)))) rfl) pa_nil)))) pa_nil)))))) 
      (pss_one (ps_ret (pv 6))))))))), body_q h fun x ds m hn hk hR => ?_⟩
  obtain ⟨b, many⟩ := x
  obtain ⟨rfl, hm, hb⟩ := hR
  simp only at hm hb
  refine z_setx (d := .str abc) (x_str (by rfl)) ?_
  -- the stem
  refine z_setE (P := fun d s1 => ∃ t, d = .str t ∧ t.length ≤ 7 ∧ Low t ∧ s1.c = none ∧ Bud (b + 4) s1.m) (e_join (P1 := fun d s1 => ∃ ts : List Nat, d = .lst (ts.map fun ch => Dt.str [ch]) ∧ ts.length ≤ 7 ∧ Low ts ∧ s1.c = none ∧ Bud (b + 4) s1.m) (x_str (l := []) rfl) ?_ ?_) ?_
  · refine e_lc (P0 := fun ds s1 => ∃ n : Nat, n ≤ 7 ∧ s1.c = none ∧ Bud (b + 11) s1.m ∧ ds = rgD n) ?_ (fun ds i es s1 => ∃ n : Nat, n ≤ 7 ∧ ds = rgD n ∧ ∃ ts : List Nat, es = ts.map (fun ch => Dt.str [ch]) ∧ ts.length = i ∧ Low ts ∧ s1.c = none ∧ Bud (b + 11 - i) s1.m) ?_ ?_ ?_
    · refine (fun W o p st H Q a k => es_range (P := fun d s1 => ∃ n : Nat, n ≤ 7 ∧ d = .int (n : Int) ∧ s1.c = none ∧ Bud (b + 11) s1.m) ((e_pick (b + 11) rfl (x_lst (xa_cons x_int (xa_cons x_int (xa_cons x_int (xa_cons x_int (xa_cons x_int xa_nil))))) (by simp)) (by simp) (by simp) hb).imp fun d s2 h => ?_) (fun d s1 h => ?_) W o p st H Q a fun J H1 ds s1 p0 => k J H1 ds s1 ?_)
      · obtain ⟨h1, h2, h3⟩ := h
        simp only [List.mem_cons, List.not_mem_nil, or_false] at h1
        rcases h1 with rfl | rfl | rfl | rfl | rfl
        · exact ⟨0, by omega, rfl, h2, h3⟩
        · exact ⟨0, by omega, rfl, h2, h3⟩
        · exact ⟨1, by omega, rfl, h2, h3⟩
        · exact ⟨3, by omega, rfl, h2, h3⟩
        · exact ⟨7, by omega, rfl, h2, h3⟩
      · obtain ⟨n, h1, h2, _⟩ := h
        exact ⟨n, h2, by omega⟩
      · obtain ⟨n, ⟨n2, h1, h2, h3, h4⟩, _, h5⟩ := p0
        have : n = n2 := by injection h2 with h2; omega
        subst this
        exact ⟨n, h1, h3, h4, h5⟩
    · rintro ds s1 ⟨n, h1, h2, h3, h4⟩
      exact ⟨n, h1, h4, [], rfl, rfl, (fun _ h => by cases h), h2, h3⟩
    · rintro ds i d es s1 hd ⟨n, h1, h2, ts, h3, h4, h5, h6, h7⟩
      subst h2 h3
      obtain ⟨hi, rfl⟩ := rgD_at hd
      refine ⟨_, true, g_name (by simp), xt_yes, (fun z => by cases z), fun _ => ⟨by rw [List.length_map]; omega, ?_⟩⟩
      refine (e_pickS (t := abc) (b + 10 - i) rfl (x_var rfl) (by decide) (by decide) (h7.le (by omega))).imp fun d s2 hh => ?_
      obtain ⟨⟨ch, hc, rfl⟩, h8, h9⟩ := hh
      refine ⟨n, h1, rfl, ts ++ [ch], by simp, by simp; omega, ?_, by rw [h8]; exact h6, h9.le (by omega)⟩
      intro z hz
      rcases List.mem_append.mp hz with hz | hz
      · exact h5 z hz
      · rw [List.mem_singleton.mp hz]
        exact low_abc _ hc
    · rintro ds es s1 ⟨n, h1, h2, ts, h3, h4, h5, h6, h7⟩
      subst h2 h3
      rw [rgD_len] at h4 h7
      exact ⟨ts, rfl, by omega, h5, h6, h7.le (by omega)⟩
  · rintro d s1 ⟨ts, rfl, h1, h2, h3, h4⟩
    refine ⟨ts.map fun ch => [ch], by simp, ?_, ts, by rw [join_one], h1, h2, h3, h4⟩
    have : ((ts.map fun ch => [ch]).map (·.length)).sum ≤ ts.length := by
      clear h1 h2
      induction ts <;> simp_all <;> omega
    simp only [List.length_nil, Nat.mul_zero]
    omega
  rintro d s1 ⟨t0, rfl, ht0, hw0, hc1, hb1⟩
  refine z_setE (P := fun d s1 => ∃ t, d = .str t ∧ t.length ≤ 7 ∧ Low t ∧ s1.c = none ∧ Bud (b + 3) s1.m) ((e_pick (es := [.str t0, .str t0, .str t0, .str [111, 112, 101], .str [115, 104, 117], .str [110, 101]]) (b + 3) rfl (x_lst (xa_cons (x_var rfl) (xa_cons (x_var rfl) (xa_cons (x_var rfl) (xa_cons (x_str rfl) (xa_cons (x_str rfl) (xa_cons (x_str rfl) xa_nil)))))) (by simp)) (by simp) (by simp) hb1).imp fun d s2 h => ?_) ?_
  · obtain ⟨h1, h2, h3⟩ := h
    simp only [List.mem_cons, List.not_mem_nil, or_false] at h1
    rw [hc1] at h2
    rcases h1 with rfl | rfl | rfl | rfl | rfl | rfl
    · exact ⟨_, rfl, ht0, hw0, h2, h3⟩
    · exact ⟨_, rfl, ht0, hw0, h2, h3⟩
    · exact ⟨_, rfl, ht0, hw0, h2, h3⟩
    · exact ⟨_, rfl, by decide, by unfold Low; decide, h2, h3⟩
    · exact ⟨_, rfl, by decide, by unfold Low; decide, h2, h3⟩
    · exact ⟨_, rfl, by decide, by unfold Low; decide, h2, h3⟩
  rintro d s2 ⟨t, rfl, ht, hw, hc2, hb2⟩
  refine z_parE (PA := fun ds s1 => ∃ a f : Nat, ds = [.int (a : Int), .int (f : Int)] ∧ a ≤ t.length ∧ f < 26 ∧ s1.c = none ∧ Bud b s1.m) (ea_two (P1 := fun d s1 => (∃ a : Nat, d = .int (a : Int) ∧ a ≤ t.length) ∧ s1.c = none ∧ Bud (b + 2) s1.m) (P2 := fun _ _ d s1 => (∃ a : Nat, d = .int (a : Int) ∧ a < 26) ∧ s1.c = none ∧ Bud b s1.m) ((e_draw (b + 2) rfl (x_addI (x_lenS (x_var rfl) (by omega)) x_int) (by omega) (by omega) hb2).imp ?_) ?_ ?_) ?_
  · rintro d s3 ⟨⟨r, e, hr2⟩, h2, h3⟩
    exact ⟨⟨r, e, by omega⟩, by rw [h2]; exact hc2, h3⟩
  · rintro d s3 ⟨_, h2, h3⟩
    refine (e_draw (b + 1) rfl x_int (by decide) (by decide) h3).imp ?_
    rintro d s4 ⟨⟨r, e, hr2⟩, h5, h6⟩
    exact ⟨⟨r, e, by omega⟩, by rw [h5]; exact h2, h6.le (by omega)⟩
  · rintro d s3 e s4 ⟨⟨a, rfl, ha⟩, _⟩ ⟨⟨f, rfl, hf⟩, h2, h3⟩
    exact ⟨a, f, rfl, ha, hf, h2, h3⟩
  rintro ds s3 ⟨a, f, rfl, ha, hf, hc3, hb3⟩
  refine ⟨_, _, rfl, ?_⟩
  obtain ⟨c3, m3⟩ := s3
  simp only at hc3 hb3
  subst hc3
  refine z_newx rfl ?_
  refine z_then (Pm := fun D' s' => (∃ x y, Dul x ∧ Dul y ∧ D' = [.mem, .d (.int (many : Int)), .d (.str abc), .d (.str t), .d (.int (a : Int)), .d (.int (f : Int)), .own, x, y]) ∧ ∃ ws : List (List Nat), s' = ⟨some (ws.map Dt.str), m3⟩ ∧ ws.length = many ∧ ∀ z ∈ ws, NameOk z)
    (z_for (vs := [7]) (es_range (P := fun d s1 => d = .int (many : Int) ∧ s1 = ⟨some [], m3⟩) (x_var (i := 1) rfl).E fun d s1 h => ⟨many, h.1, by omega⟩) (fun ds i D' s' => ds = rgD many ∧ (∃ x y, Dul x ∧ Dul y ∧ D' = [.mem, .d (.int (many : Int)), .d (.str abc), .d (.str t), .d (.int (a : Int)), .d (.int (f : Int)), .own, x, y]) ∧ ∃ ws : List (List Nat), s' = ⟨some (ws.map Dt.str), m3⟩ ∧ ws.length = i ∧ ∀ z ∈ ws, NameOk z)
      ?_ ?_ ?_) ?_
  · rintro ds s1 ⟨n, ⟨e1, e2⟩, _, e3⟩
    have : n = many := by injection e1 with e1; omega
    subst this e2 e3
    exact ⟨rfl, ⟨_, _, .inl rfl, .inl rfl, rfl⟩, [], rfl, rfl, fun _ h => by cases h⟩
  · rintro ds i d D1 s1 hd ⟨rfl, ⟨x, y, _, _, rfl⟩, ws, rfl, hl, hall⟩
    obtain ⟨hi, rfl⟩ := rgD_at hd
    refine ⟨_, g_name (by simp), ?_⟩
    have hlt : (f + 5 * i) % 26 < 26 := Nat.mod_lt _ (by decide)
    have xm : X c (tOp (rI (fun _ j => j ≠ 0) fun i j => V.int (i.fmod j)) (tCB rIntU (tCons (tOp rAddU (tVar 5) (tOp rMulU (tC (.int 5)) (tVar 7))) tNil)) (tC (.int 26))) [.mem, .d (.int (many : Int)), .d (.str abc), .d (.str t), .d (.int (a : Int)), .d (.int (f : Int)), .own, .d (.int (i : Int)), y] (.int (((f + 5 * i) % 26 : Nat) : Int)) := by
      refine x_modN (a := f + 5 * i) (m := 26) ?_ x_int (by decide)
      refine x_intI ?_
      have e : (((f + 5 * i : Nat) : Int)) = (f : Int) + 5 * (i : Int) := by omega
      rw [e]
      exact x_addI (x_var rfl) (x_mulI x_int (x_var rfl) (.inl (by decide)))
    have hl1 : (t.take a).length ≤ 7 := by rw [List.length_take]; omega
    have hl2 : (t.take a).length + (t.drop a).length = t.length := by rw [List.length_take, List.length_drop]; omega
    refine z_setx (d := .str ((t.take a ++ [abc[(f + 5 * i) % 26]'hlt]) ++ t.drop a)) (x_addS (x_addS (x_slTo (x_var (i := 3) rfl) (x_var (i := 4) rfl) (by omega)) (x_ixS (ch := abc[(f + 5 * i) % 26]'hlt) (x_var rfl) xm rfl (List.getElem?_eq_getElem hlt) (by decide)) (by simp; omega)) (x_slFrom (x_var (i := 3) rfl) (x_var (i := 4) rfl) (by omega)) (by simp; omega)) ?_
    generalize hwd : (t.take a ++ [abc[(f + 5 * i) % 26]'hlt]) ++ t.drop a = wd
    have l1 : 1 ≤ wd.length := by rw [← hwd]; simp; omega
    have l2 : wd.length ≤ 8 := by rw [← hwd]; simp; omega
    have l3 : Low wd := by
      rw [← hwd]
      intro z hz
      simp only [List.mem_append, List.mem_singleton] at hz
      rcases hz with (hz | rfl) | hz
      · exact hw z (List.mem_of_mem_take hz)
      · exact low_abc _ (List.getElem_mem ..)
      · exact hw z (List.mem_of_mem_drop hz)
    refine z_app1 (ds := ws.map Dt.str) (d := .str (wordq wd)) rfl rfl (by rw [List.length_map]; omega) ?_ ⟨rfl, ⟨_, _, .inr ⟨_, rfl⟩, .inr ⟨_, rfl⟩, rfl⟩, ws ++ [wordq wd], by simp, by simp [hl], fun z hz => ?_⟩
    · exact x_addS (x_var rfl) (x_mulS (b := [nOpen, nShut, nNet].contains wd) (x_str (l := [113]) rfl) (x_intB (x_inL (neg := false) (ls := [nOpen, nShut, nNet]) (x_var rfl) (x_lst (xa_cons (x_str rfl) (xa_cons (x_str rfl) (xa_cons (x_str rfl) xa_nil))) (by simp)))) (by simp)) (by split <;> simp <;> omega)
    · rcases List.mem_append.mp hz with hz | hz
      · exact hall z hz
      · rw [List.mem_singleton.mp hz]
        exact wordq_ok l1 l2 l3
  · rintro ds D1 s1 ⟨rfl, h1, ws, h2, h3, h4⟩
    rw [rgD_len] at h3
    exact ⟨h1, ws, h2, h3, h4⟩
  rintro D1 s1 ⟨⟨x, y, hx, hy, rfl⟩, ws, rfl, hl, hall⟩
  refine z_freeze (j := 6) rfl rfl (by rcases hx with rfl | ⟨_, rfl⟩ <;> rcases hy with rfl | ⟨_, rfl⟩ <;> rfl) ?_
  exact z_retx (x_var rfl) ⟨⟨ws, rfl, hl, hall⟩, hb3⟩
end
end Wb

/-! The law's nets and plans. -/
namespace Wb
open PySem PySem.Spec PyProof.Rows L2 SX
section
variable {c : Cf} {D : List SV} {s : Sto} {ta tb te tl th : TE} {tt : TA} {d : Dt} {ds : List Dt} {t : List Nat} {i j : Nat} {P : Dt → Sto → Prop} {Pn : List SV → Sto → Prop} {Pr : Dt → Sto → Prop} {t2 : TS}
theorem z_retE (h : E c te D s P) (hp : ∀ d s1, P d s1 → Pr d s1) : Z c (tRet te) D s Pn Pr := (z_ret h).imp (fun _ _ z => z.elim) hp
theorem z_ofF {t1 : TS} (h : Z c t1 D s (fun _ _ => False) Pr) : Z c t1 D s Pn Pr := h.imp (fun _ _ z => z.elim) fun _ _ z => z
/-- a, b = x, [] -/
theorem z_parN {m : Mem} (h : X c ta D d) (k : Z c t2 ((D.set i (.d d)).set j .own) ⟨some [], m⟩ Pn Pr) (hn : noOwn (D.set i (.d d)) = true := by rfl) : Z c (tSeq (tPar i j (tCons ta (tCons (tLst tNil) tNil))) t2) D ⟨none, m⟩ Pn Pr := fun W o p st H F a kn kr =>
  h.E W o p st H _ a fun v H1 d1 s1 ⟨e1, e2⟩ sp a1 r => by
    subst e1 e2
    have a2 := a1.slots (a1.sl.setd (i := i) r)
    have z := z_new (c := c) (D := D.set i (.d d1)) (s := ⟨none, m⟩) (j := j) rfl hn W o p (st.set i (some v)) H1 { F with nx := t2 F } a2
      (fun o2 st2 H2 D2 s2 ⟨e1, e2⟩ sp2 a3 => by
        subst e1 e2
        exact k W o2 p st2 H2 F a3 (fun o3 st3 H3 D3 s3 pn sp3 a4 => kn o3 st3 H3 D3 s3 pn ((sp.trans a1 sp2).trans a3 sp3) a4) fun o3 v3 H3 d3 s3 pr sp3 a4 r4 => kr o3 v3 H3 d3 s3 pr ((sp.trans a1 sp2).trans a3 sp3) a4 r4) (fun _ _ _ _ _ z => z.elim)
    exact ⟨z.1, fun q hq => ⟨v, .ref q, rfl, z.2 q hq⟩⟩
end
section
variable {c : Cf} {P : Program} {w : World} {mg : Str → Option Value} {base : Heap}
structure NIn where
  b : Nat
  ws : List (List Nat)
  room : Nat
abbrev InNet : NIn → List Dt → Mem → Prop := fun x ds m => ds = [.lst (x.ws.map Dt.str), .int (x.room : Int)] ∧ x.ws ≠ [] ∧ x.ws.length ≤ 9 ∧ (∀ z ∈ x.ws, NameOk z) ∧ Bud (x.b + 50) m
abbrev OutNet : NIn → Dt → Mem → Prop := fun x d m => (∃ ls : List Lk, d = dat false (.net ls) ∧ ls.length ≤ x.room ∧ ls.length ≤ 14 ∧ ∀ l ∈ ls, LkOk l) ∧ Bud x.b m
def nums (ns : List Nat) : List Dt := ns.map fun n : Nat => Dt.int (n : Int)
theorem mem_nums {ns : List Nat} {d : Dt} (h : d ∈ nums ns) (hn : ∀ n ∈ ns, n < 100) : ∃ n : Nat, d = .int (n : Int) ∧ n < 100 := by
  obtain ⟨n, h1, rfl⟩ := List.mem_map.mp h
  exact ⟨n, rfl, hn n h1⟩
abbrev s__law_net : Stmt := top 82
abbrev N__law_net : List Str := ["_law_pen_here", "_law_names", "_law_room", "_law_inner", "_law_many", "_law_found", "_law_k", "_law_joints"]
theorem sc__law_net : FnScope N__law_net ["_law_pen_here", "_law_names", "_law_room"] (defScope s__law_net) := ⟨rfl, rfl, rfl, by decide +kernel, rfl, by decide +kernel, by decide +kernel⟩

theorem c__law_net (T : Tx c w mg) : Cal P w c.K mg base 3 "_law_net" (spQ c 2 InNet OutNet) := by
  have c__law_pick := c__law_pick (P := P) (base := base) T
  refine mk_law (k := 2) T 4 sc__law_net (fun _ _ _ _ _ _ us hl => match us, hl with | [_, _, _], _ => rfl) spQ_len fun f cdv A outer s H vs Q E hr h => ⟨_, PSs.nox (pss_cons (ps_set (i := 3) sc__law_net.nd rfl (by first | exact Or.inl rfl | exact Or.inr rfl) (pe_c c__law_pick hr (by first | decide | omega) (by rfl) (pa_cons (pv 0) (pa_cons (pe_lst (pa_cons (pe_lst (pa_cons pe_int (pa_cons pe_int pa_nil))) (pa_cons (pe_lst (pa_cons pe_int (pa_cons pe_int (pa_cons pe_int pa_nil)))) (pa_cons (pe_lst (pa_cons pe_int (pa_cons pe_int (pa_cons pe_int pa_nil)))) (pa_cons (pe_lst (pa_cons pe_int pa_nil)) (pa_cons (pe_lst pa_nil) pa_nil)))))) pa_nil)))) 
      (pss_cons (ps_set (i := 4) sc__law_net.nd rfl (by first | exact Or.inl rfl | exact Or.inr rfl) (pe_c c__law_pick hr (by first | decide | omega) (by rfl) (pa_cons (pv 0) (pa_cons (pe_lst (pa_cons pe_int (pa_cons pe_int (pa_cons pe_int (pa_cons pe_int (pa_cons pe_int (pa_cons pe_int pa_nil))))))) pa_nil)))) 
      (pss_cons (ps_set (i := 5) sc__law_net.nd rfl (by first | exact Or.inl rfl | exact Or.inr rfl) (pe_lst pa_nil)) 
      (pss_cons (ps_for PassesOwn.never rfl (pi_range1 rfl T.b_range (pa_cons (pv 4) pa_nil)) (pg_name (i := 6) sc__law_net.nd rfl (by first | exact Or.inl rfl | exact Or.inr rfl))
        (pss_one (ps_if (pt_cmpR op_lt (pv 6) (pv 2) (nomark _))
          (pss_cons (ps_set (i := 7) sc__law_net.nd rfl (by first | exact Or.inl rfl | exact Or.inr rfl) (pe_lst (pa_cons (pe_c c__law_pick hr (by first | decide | omega) (by rfl) (pa_cons (pv 0) (pa_cons (pe_op op_addU (pe_lst (pa_cons pe_int (pa_cons pe_int pa_nil))) (pv 3)) pa_nil))) (pa_cons (pe_c c__law_pick hr (by first | decide | omega) (by rfl) (pa_cons (pv 0) (pa_cons (pe_op op_addU (pe_lst (pa_cons pe_int (pa_cons pe_int pa_nil))) (pv 3)) pa_nil))) pa_nil)))) 
          (pss_one (ps_expr (pe_bmK (K := c.K) rfl PySem.F.plainAttrs_list PySem.F.slot_list_append PySem.F.type_list_append mt_append (pv 5) (pa_cons (pe_tup (pa_cons (pe_c c__law_pick hr (by first | decide | omega) (by rfl) (pa_cons (pv 0) (pa_cons (pv 1) pa_nil))) (pa_cons (pe_ix (ix_seqK (K := c.K) rfl) (pv 7) pe_int (fun _ _ => rfl)) (pa_cons (pe_ix (ix_seqK (K := c.K) rfl) (pv 7) pe_int (fun _ _ => rfl)) pa_nil)))) pa_nil)))))
          pss_nil))) 
      (pss_one (ps_ret (pe_tup (pa_cons pe_str (pa_cons (pv 5) pa_nil))))))))), body_q h fun x ds m hn hk hR => ?_⟩
  obtain ⟨b, ws, room⟩ := x
  obtain ⟨rfl, hne, hlen, hok, hb⟩ := hR
  simp only at hne hlen hok hb
  refine z_setE (P := fun d s1 => ∃ inn : List Nat, d = .lst (nums inn) ∧ inn.length ≤ 3 ∧ (∀ n ∈ inn, n < 100) ∧ s1.c = none ∧ Bud (b + 49) s1.m) ((e_pick (es := [.lst (nums [2, 3]), .lst (nums [2, 3, 4]), .lst (nums [99, 7, 40]), .lst (nums [2]), .lst (nums [])]) (b + 49) rfl (x_lst (xa_cons (x_lst (xa_cons x_int (xa_cons x_int xa_nil)) (by simp [nums])) (xa_cons (x_lst (xa_cons x_int (xa_cons x_int (xa_cons x_int xa_nil))) (by simp [nums])) (xa_cons (x_lst (xa_cons x_int (xa_cons x_int (xa_cons x_int xa_nil))) (by simp [nums])) (xa_cons (x_lst (xa_cons x_int xa_nil) (by simp [nums])) (xa_cons (x_lst xa_nil (by simp [nums])) xa_nil))))) (by simp [nums])) (by simp [nums]) (by simp [nums]) hb).imp ?_) ?_
  · rintro d s1 ⟨h1, h2, h3⟩
    simp only [List.mem_cons, List.not_mem_nil, or_false] at h1
    rcases h1 with rfl | rfl | rfl | rfl | rfl
    all_goals exact ⟨_, rfl, by decide, by decide, h2, h3⟩
  rintro d s1 ⟨inn, rfl, hi1, hi2, hc1, hb1⟩
  refine z_setE (P := fun d s1 => ∃ many : Nat, d = .int (many : Int) ∧ many ≤ 14 ∧ s1.c = none ∧ Bud (b + 48) s1.m) ((e_pick (es := nums [1, 2, 3, 5, 7, 14]) (b + 48) rfl (x_lst (xa_cons x_int (xa_cons x_int (xa_cons x_int (xa_cons x_int (xa_cons x_int (xa_cons x_int xa_nil)))))) (by simp [nums])) (by simp [nums]) (by simp [nums]) hb1).imp ?_) ?_
  · rintro d s2 ⟨h1, h2, h3⟩
    obtain ⟨n, hn, rfl⟩ := List.mem_map.mp h1
    rw [hc1] at h2
    have hn' : ∀ n ∈ [1, 2, 3, 5, 7, 14], n ≤ 14 := by decide
    exact ⟨n, rfl, hn' n hn, h2, h3⟩
  rintro d s2 ⟨many, rfl, hm, hc2, hb2⟩
  obtain ⟨c2, m2⟩ := s2
  simp only at hc2 hb2
  subst hc2
  refine z_newx rfl ?_
  refine z_then (Pm := fun D' s' => (∃ x y, Dul x ∧ Dul y ∧ D' = [.mem, .d (.lst (ws.map Dt.str)), .d (.int (room : Int)), .d (.lst (nums inn)), .d (.int (many : Int)), .own, x, y]) ∧ ∃ ls : List Lk, s'.c = some (ls.map lkD) ∧ Bud b s'.m ∧ ls.length ≤ room ∧ ls.length ≤ 14 ∧ ∀ l ∈ ls, LkOk l)
    (z_for (vs := [6]) (es_range (P := fun d s1 => d = .int (many : Int) ∧ s1 = ⟨some [], m2⟩) (x_var (i := 4) rfl).E fun d s1 h => ⟨many, h.1, by omega⟩) (fun ds i D' s' => ds = rgD many ∧ (∃ x y, Dul x ∧ Dul y ∧ D' = [.mem, .d (.lst (ws.map Dt.str)), .d (.int (room : Int)), .d (.lst (nums inn)), .d (.int (many : Int)), .own, x, y]) ∧ ∃ ls : List Lk, s'.c = some (ls.map lkD) ∧ Bud (b + 3 * (16 - i)) s'.m ∧ ls.length ≤ room ∧ ls.length ≤ i ∧ ∀ l ∈ ls, LkOk l)
      ?_ ?_ ?_) ?_
  · rintro ds s1 ⟨n, ⟨e1, e2⟩, _, e3⟩
    have : n = many := by injection e1 with e1; omega
    subst this e2 e3
    exact ⟨rfl, ⟨_, _, .inl rfl, .inl rfl, rfl⟩, [], rfl, hb2.le (by omega), by simp, by simp, fun _ h => by cases h⟩
  · rintro ds i d D1 s1 hd ⟨rfl, ⟨x, y, hx, hy, rfl⟩, ls, hcs, hbs, hl1, hl2, hall⟩
    obtain ⟨hi, rfl⟩ := rgD_at hd
    refine ⟨_, g_name (by simp), ?_⟩
    refine z_ifx (xt_test (x_lt (x_var (i := 6) rfl) (x_var (i := 2) rfl))) (fun e => ?_) fun e => z_nextx ⟨rfl, ⟨_, _, .inr ⟨_, rfl⟩, hy, rfl⟩, ls, hcs, hbs.le (by omega), hl1, by omega, hall⟩
    have e1 : i < room := by
      have := of_decide_eq_true e
      omega
    have pk : ∀ (n : Nat) (s3 : Sto), s3.c = some (ls.map lkD) → Bud (n + 1) s3.m → Wb.E c (tCall (spQ c 1 InPick OutPick) [] E0 (tCons (tVar 0) (tCons (tOp rAddU (tLst (tCons (tC (.int 0)) (tCons (tC (.int 1)) tNil))) (tVar 3)) tNil))) [.mem, .d (.lst (ws.map Dt.str)), .d (.int (room : Int)), .d (.lst (nums inn)), .d (.int (many : Int)), .own, .d (.int (i : Int)), y] s3 (fun d s4 => (∃ u : Nat, d = .int (u : Int) ∧ u < 100) ∧ s4.c = some (ls.map lkD) ∧ Bud n s4.m) := fun n s3 h1 h2 => by
      refine (e_pick (es := [.int 0, .int 1] ++ nums inn) n rfl (x_addL (x_lst (xa_cons x_int (xa_cons x_int xa_nil)) (by simp)) (x_var rfl) (by simp [nums]; omega)) (by simp) (by simp [nums]; omega) h2).imp ?_
      rintro d s4 ⟨h3, h4, h5⟩
      refine ⟨mem_nums (ns := [0, 1] ++ inn) (by simpa [nums] using h3) fun n hn => ?_, by rw [h4]; exact h1, h5⟩
      rcases List.mem_append.mp hn with hn | hn
      · have hn' : ∀ n ∈ [0, 1], n < 100 := by decide
        exact hn' n hn
      · exact hi2 n hn
    refine z_setE (P := fun d s3 => ∃ u v : Nat, d = .lst [.int (u : Int), .int (v : Int)] ∧ u < 100 ∧ v < 100 ∧ s3.c = some (ls.map lkD) ∧ Bud (b + 3 * (16 - (i + 1)) + 1) s3.m)
      (e_lst (PB := fun ds s3 => ∃ u v : Nat, ds = [.int (u : Int), .int (v : Int)] ∧ u < 100 ∧ v < 100 ∧ s3.c = some (ls.map lkD) ∧ Bud (b + 3 * (16 - (i + 1)) + 1) s3.m)
        (ea_two (pk (b + 3 * (16 - (i + 1)) + 2) s1 hcs (hbs.le (by omega))) (fun d s3 h => pk (b + 3 * (16 - (i + 1)) + 1) s3 h.2.1 h.2.2) ?_) ?_) ?_
    · rintro d s3 e' s4 ⟨⟨u, rfl, hu⟩, _⟩ ⟨⟨v, rfl, hv⟩, h3, h4⟩
      exact ⟨u, v, rfl, hu, hv, h3, h4⟩
    · rintro ds s3 ⟨u, v, rfl, h⟩
      exact ⟨by simp, u, v, rfl, h⟩
    rintro d s3 ⟨u, v, rfl, hu, hv, hc3, hb3⟩
    refine (z_append (P := fun d s4 => ∃ z : List Nat, NameOk z ∧ d = lkD (z, u, v) ∧ s4.c = some (ls.map lkD) ∧ Bud (b + 3 * (16 - (i + 1))) s4.m) (j := 5) rfl (by rw [hc3]; simp) ?_ ?_).imp ?_ fun _ _ z => z.elim
    · refine e_tup (PB := fun ds s4 => ∃ z : List Nat, NameOk z ∧ ds = [.str z, .int (u : Int), .int (v : Int)] ∧ s4.c = some (ls.map lkD) ∧ Bud (b + 3 * (16 - (i + 1))) s4.m) (ea_cons (P2 := fun d s4 ds s5 => ds = [.int (u : Int), .int (v : Int)] ∧ s5 = s4) (e_pick (b + 3 * (16 - (i + 1))) rfl (x_var rfl) (by simpa using hne) (by simp; omega) hb3) (fun d s4 _ => (xa_cons (x_ixL (n := 0) (x_var (i := 7) rfl) x_int rfl rfl) (xa_cons (x_ixL (n := 1) (x_var (i := 7) rfl) x_int rfl rfl) xa_nil)).E) ?_) ?_
      · rintro d s4 ds s5 ⟨h1, h2, h3⟩ ⟨rfl, rfl⟩
        obtain ⟨z, hz, rfl⟩ := List.mem_map.mp h1
        exact ⟨z, hok z hz, rfl, by rw [h2]; exact hc3, h3⟩
      · rintro ds s4 ⟨z, h1, rfl, h2⟩
        exact ⟨by simp, z, h1, rfl, h2⟩
    · rintro d s4 ⟨z, _, _, h1, _⟩
      exact ⟨_, h1, by rw [List.length_map]; omega⟩
    · rintro D' s' ⟨rfl, d, s4, es, ⟨z, h1, rfl, h2, h3⟩, h4, rfl⟩
      rw [h2] at h4
      cases h4
      refine ⟨rfl, ⟨_, _, .inr ⟨_, rfl⟩, .inr ⟨_, rfl⟩, rfl⟩, ls ++ [(z, u, v)], by simp, h3, by simp; omega, by simp; omega, fun l hl => ?_⟩
      rcases List.mem_append.mp hl with hl | hl
      · exact hall l hl
      · rw [List.mem_singleton.mp hl]
        exact ⟨h1, hu, hv⟩
  · rintro ds D1 s1 ⟨rfl, h1, ls, h2, h3, h4, h5, h6⟩
    rw [rgD_len] at h5
    exact ⟨h1, ls, h2, h3.le (by omega), h4, by omega, h6⟩
  rintro D1 s1 ⟨⟨x, y, hx, hy, rfl⟩, ls, hcs, hbs, hl1, hl2, hall⟩
  refine z_freeze (j := 5) hcs rfl (by rcases hx with rfl | ⟨_, rfl⟩ <;> rcases hy with rfl | ⟨_, rfl⟩ <;> rfl) ?_
  exact z_retx (x_tup (xa_cons (x_str (l := nNet) rfl) (xa_cons (x_var rfl) xa_nil)) (by simp)) ⟨⟨ls, rfl, hl1, hl2, hall⟩, hbs⟩
structure PIn where
  b : Nat
  ws : List (List Nat)
  room : Nat
  deep : Nat
def pc : Nat → Nat
  | 0 => 60
  | d + 1 => 5 * pc d
theorem pc_le : ∀ d, 60 ≤ pc d
  | 0 => Nat.le_refl _
  | d + 1 => by
    have := pc_le d
    show 60 ≤ 5 * pc d
    omega
abbrev InPlan (n : Nat) : PIn → List Dt → Mem → Prop := fun x ds m => ds = [.lst (x.ws.map Dt.str), .int (x.room : Int), .int (x.deep : Int)] ∧ x.deep < n ∧ 1 ≤ x.room ∧ x.room ≤ 14 ∧ x.ws ≠ [] ∧ x.ws.length ≤ 9 ∧ (∀ z ∈ x.ws, NameOk z) ∧ Bud (x.b + pc x.deep) m
abbrev OutPlan : PIn → Dt → Mem → Prop := fun x d m => (∃ s : Sh, d = dat false s ∧ PlanOk s ∧ Nar s ∧ dep s ≤ x.deep ∧ size s ≤ x.room) ∧ Bud x.b m
abbrev s__law_plan : Stmt := top 83
abbrev N__law_plan : List Str := ["_law_pen_here", "_law_names", "_law_room", "_law_deep", "_law_way", "_law_left", "_law_parts", "_law_k", "_law_part"]
theorem sc__law_plan : FnScope N__law_plan ["_law_pen_here", "_law_names", "_law_room", "_law_deep"] (defScope s__law_plan) := ⟨rfl, rfl, rfl, by decide +kernel, rfl, by decide +kernel, by decide +kernel⟩

theorem c__law_plan (T : Tx c w mg) : ∀ n : Nat, n ≤ 20 → Cal P w c.K mg base (25 + n) "_law_plan" (spQ c 3 (InPlan n) OutPlan) := by
  have c__law_draw := c__law_draw (P := P) (base := base) T
  have c__law_pick := c__law_pick (P := P) (base := base) T
  have c__law_net := c__law_net (P := P) (base := base) T
  have c__law_size := c__law_size (P := P) (base := base) T 21
  intro n
  induction n with
  | zero =>
    intro _
    exact mk_law (k := 24) T 5 sc__law_plan (fun _ _ _ _ _ _ us hl => match us, hl with | [_, _, _, _], _ => rfl) spQ_len fun f cdv A outer s H vs Q E hr h => by
      obtain ⟨x, p, us, _, _, W, ds, m, _, _, _, _, ⟨_, h0, _⟩, _⟩ := h
      exact absurd h0 (Nat.not_lt_zero _)
  | succ n ihn =>
    intro hn20
    have c__law_plan := ihn (by omega)
    refine mk_law (k := 25 + n) T 5 sc__law_plan (fun _ _ _ _ _ _ us hl => match us, hl with | [_, _, _, _], _ => rfl) spQ_len fun f cdv A outer s H vs Q E hr h => ⟨_, PSs.nox (pss_cons (ps_set (i := 4) sc__law_plan.nd rfl (by first | exact Or.inl rfl | exact Or.inr rfl) (pe_c c__law_draw hr (by first | decide | omega) (by rfl) (pa_cons (pv 0) (pa_cons pe_int pa_nil)))) 
      (pss_cons (ps_if (PW.pt (pw_or (pt_cmpR op_lt (pv 2) pe_int (nomark _)) (pw_or (pt_cmpR (op_eqDK (K := c.K) rfl hr.units) (pv 3) pe_int (nomark _)) (pw_or1 (pt_cmpR op_lt (pv 4) pe_int (nomark _))))))
        (pss_one (ps_ret (pe_tup (pa_cons pe_str (pa_cons (pe_c c__law_pick hr (by first | decide | omega) (by rfl) (pa_cons (pv 0) (pa_cons (pv 1) pa_nil))) pa_nil)))))
        pss_nil) 
      (pss_cons (ps_if (pt_cmpR op_lt (pv 4) pe_int (nomark _))
        (pss_one (ps_ret (pe_c c__law_net hr (by first | decide | omega) (by rfl) (pa_cons (pv 0) (pa_cons (pv 1) (pa_cons (pv 2) pa_nil))))))
        pss_nil) 
      (pss_cons (ps_if (pt_cmpR (op_eqDK (K := c.K) rfl hr.units) (pv 4) pe_int (nomark _))
        (pss_one (ps_ret (pe_c c__law_pick hr (by first | decide | omega) (by rfl) (pa_cons (pv 0) (pa_cons (pe_lst (pa_cons (pe_tup (pa_cons pe_str pa_nil)) (pa_cons (pe_tup (pa_cons pe_str pa_nil)) pa_nil))) pa_nil)))))
        pss_nil) 
      (pss_cons (ps_par (i := 5) (j := 6) rfl sc__law_plan.nd rfl rfl (by decide) rfl rfl (pa_cons (pv 2) (pa_cons (pe_lst pa_nil) pa_nil)) (by rfl)) 
      (pss_cons (ps_for PassesOwn.never rfl (pi_range1 rfl T.b_range (pa_cons (pe_op op_addU pe_int (pe_c c__law_draw hr (by first | decide | omega) (by rfl) (pa_cons (pv 0) (pa_cons pe_int pa_nil)))) pa_nil)) (pg_name (i := 7) sc__law_plan.nd rfl (by first | exact Or.inl rfl | exact Or.inr rfl))
        (pss_one (ps_if (pt_cmpR op_gt (pv 5) pe_int (nomark _))
          (pss_cons (ps_set (i := 8) sc__law_plan.nd rfl (by first | exact Or.inl rfl | exact Or.inr rfl) (pe_c c__law_plan hr (by first | decide | omega) (by rfl) (pa_cons (pv 0) (pa_cons (pv 1) (pa_cons (pe_op op_addU pe_int (pe_c c__law_draw hr (by first | decide | omega) (by rfl) (pa_cons (pv 0) (pa_cons (pv 5) pa_nil)))) (pa_cons (pe_op op_sub (pv 3) pe_int) pa_nil)))))) 
          (pss_cons (ps_set (i := 5) sc__law_plan.nd rfl (by first | exact Or.inl rfl | exact Or.inr rfl) (pe_op op_sub (pv 5) (pe_c c__law_size hr (by first | decide | omega) (by rfl) (pa_cons (pv 8) pa_nil)))) 
          (pss_one (ps_expr (pe_bmK (K := c.K) rfl PySem.F.plainAttrs_list PySem.F.slot_list_append PySem.F.type_list_append mt_append (pv 6) (pa_cons (pv 8) pa_nil))))))
          pss_nil))) 
      (pss_one (ps_ret (pe_tup (pa_cons (pe_c c__law_pick hr (by first | decide | omega) (by rfl) (pa_cons (pv 0) (pa_cons (pe_lst (pa_cons pe_str (pa_cons pe_str pa_nil))) pa_nil))) (pa_cons (pv 6) pa_nil))))))))))), body_q h fun x ds m hn hk hR => ?_⟩
    obtain ⟨b, ws, room, deep⟩ := x
    obtain ⟨rfl, hdn, hr1, hr2, hne, hlen, hok, hb⟩ := hR
    simp only at hdn hr1 hr2 hne hlen hok hb
    have hpc := pc_le deep
    refine z_setE (P := fun d s1 => ∃ way : Nat, d = .int (way : Int) ∧ s1.c = none ∧ Bud (b + pc deep - 1) s1.m) ((e_draw (b + pc deep - 1) rfl x_int (by decide) (by decide) (hb.le (by omega))).imp ?_) ?_
    · rintro d s1 ⟨⟨r, e, _⟩, h2, h3⟩
      exact ⟨r, e, h2, h3⟩
    rintro d s1 ⟨way, rfl, hc1, hb1⟩
    obtain ⟨c1, m1⟩ := s1
    simp only at hc1 hb1
    subst hc1
    refine z_ifr (xt_or (xt_test (x_lt (x_var (i := 2) rfl) x_int)) fun _ => xt_or (xt_test (x_eq (x_var (i := 3) rfl) x_int cm_int cm_int)) fun _ => xt_test (x_lt (x_var (i := 4) rfl) x_int)) (fun e => ?_) fun e => ?_
    · refine z_retE (e_tup (PB := fun ds s2 => ∃ z : List Nat, NameOk z ∧ ds = [.str nLink, .str z] ∧ Bud b s2.m) (ea_two (P1 := fun d s2 => d = .str nLink ∧ s2 = ⟨none, m1⟩) (P2 := fun _ _ d s3 => (∃ z : List Nat, NameOk z ∧ d = .str z) ∧ Bud b s3.m) (x_str (l := nLink) rfl).E (fun d s2 h => ?_) ?_) ?_) (P := fun d s2 => OutPlan ⟨b, ws, room, deep⟩ d s2.m) ?_
      · obtain ⟨_, rfl⟩ := h
        refine (e_pick b rfl (x_var rfl) (by simpa using hne) (by simp; omega) (hb1.le (by omega))).imp ?_
        rintro d s3 ⟨h1, h2, h3⟩
        obtain ⟨z, hz, rfl⟩ := List.mem_map.mp h1
        exact ⟨⟨z, hok z hz, rfl⟩, h3⟩
      · rintro d s2 e' s3 ⟨rfl, _⟩ ⟨⟨z, hz, rfl⟩, h3⟩
        exact ⟨z, hz, rfl, h3⟩
      · rintro ds s2 ⟨z, hz, rfl, h3⟩
        exact ⟨by simp, (⟨⟨.link z, rfl, hz, trivial, Nat.zero_le _, hr1⟩, h3⟩ : OutPlan ⟨b, ws, room, deep⟩ (.tup [.str nLink, .str z]) s2.m)⟩
      · intro d s2 h
        exact h
    simp only [Bool.or_eq_false_iff, decide_eq_false_iff_not] at e
    obtain ⟨e1, e2, e3⟩ := e
    have hdeep : deep ≠ 0 := fun z => by
      subst z
      simp [deq] at e2
    obtain ⟨dp, rfl⟩ : ∃ dp, deep = dp + 1 := ⟨deep - 1, by omega⟩
    have hpc2 := pc_le dp
    have hpce : pc (dp + 1) = 5 * pc dp := rfl
    refine z_ifr (xt_test (x_lt (x_var (i := 4) rfl) x_int)) (fun e => ?_) fun e => ?_
    · refine z_retE (e_callQ rfl (xa_cons (x_var (i := 1) rfl) (xa_cons (x_var (i := 2) rfl) xa_nil)).E fun ds s2 ⟨e1, e2⟩ => ?_) fun d s2 h => h
      subst e1 e2
      exact ⟨rfl, hb1.kind, ⟨b, ws, room⟩, ⟨rfl, hne, hlen, hok, hb1.le (by simp only; omega)⟩, fun d m2 ⟨⟨ls, h1, h2, h3, h4⟩, h5⟩ => ⟨⟨.net ls, h1, h4, by show ls.length ≤ 50; omega, Nat.zero_le _, h2⟩, h5⟩⟩
    refine z_ifr (xt_test (x_eq (x_var (i := 4) rfl) x_int cm_int cm_int)) (fun e => ?_) fun e => ?_
    · refine z_retE (e_pick (es := [dat false .opn, dat false .sht]) b rfl (x_lst (xa_cons (x_tup (xa_cons (x_str (l := nOpen) rfl) xa_nil) (by simp)) (xa_cons (x_tup (xa_cons (x_str (l := nShut) rfl) xa_nil) (by simp)) xa_nil)) (by simp)) (by simp) (by simp) (hb1.le (by omega))) ?_
      rintro d s2 ⟨h1, h2, h3⟩
      simp only [List.mem_cons, List.not_mem_nil, or_false] at h1
      rcases h1 with rfl | rfl
      · exact ⟨⟨.opn, rfl, trivial, trivial, Nat.zero_le _, Nat.zero_le _⟩, h3⟩
      · exact ⟨⟨.sht, rfl, trivial, trivial, Nat.zero_le _, Nat.zero_le _⟩, h3⟩
    refine z_parN (x_var rfl) ?_
    refine z_then (Pm := fun D' s' => (∃ (x y : SV) (left : Nat), Dul x ∧ Dul y ∧ D' = [.mem, .d (.lst (ws.map Dt.str)), .d (.int (room : Int)), .d (.int ((dp + 1 : Nat) : Int)), .d (.int (way : Int)), .d (.int (left : Int)), .own, x, y]) ∧ ∃ ps : List Sh, s'.c = some (ps.map (dat false)) ∧ Bud (b + 1) s'.m ∧ ps.length ≤ 4 ∧ sizes ps ≤ room ∧ ∀ p ∈ ps, PlanOk p ∧ Nar p ∧ dep p ≤ dp)
      (z_for (vs := [7]) (es_range (P := fun d s1 => ∃ n : Nat, d = .int (n : Int) ∧ n ≤ 4 ∧ s1.c = some [] ∧ Bud (b + 5 * pc dp - 2) s1.m) (e_xop (d := .int 2) x_int (P2 := fun d s1 => ∃ n : Nat, d = .int (n : Int) ∧ n ≤ 2 ∧ s1.c = some [] ∧ Bud (b + 5 * pc dp - 2) s1.m) ((e_draw (b + 5 * pc dp - 2) rfl x_int (by decide) (by decide) (hb1.le (by omega))).imp ?_) ?_) ?_)
        (fun ds i D' s' => ds.length ≤ 4 ∧ (∃ (x y : SV) (left : Nat), Dul x ∧ Dul y ∧ D' = [.mem, .d (.lst (ws.map Dt.str)), .d (.int (room : Int)), .d (.int ((dp + 1 : Nat) : Int)), .d (.int (way : Int)), .d (.int (left : Int)), .own, x, y] ∧ ∃ ps : List Sh, s'.c = some (ps.map (dat false)) ∧ Bud (b + 1 + (4 - i) * (pc dp + 2)) s'.m ∧ ps.length ≤ i ∧ sizes ps + left = room ∧ ∀ p ∈ ps, PlanOk p ∧ Nar p ∧ dep p ≤ dp))
        ?_ ?_ ?_) ?_
    · rintro d s2 ⟨⟨r, e, hr2⟩, h2, h3⟩
      exact ⟨r, e, by omega, h2, h3⟩
    · rintro d s2 ⟨r, rfl, hr2, h2, h3⟩
      exact ⟨_, x_addI (x_var rfl) (x_var rfl), 2 + r, by rw [Int.natCast_add]; rfl, by omega, h2, h3⟩
    · rintro d s2 ⟨r, rfl, hr2, _⟩
      exact ⟨r, rfl, by omega⟩
    · rintro ds s2 ⟨k, ⟨k2, e1, hk2, h2, h3⟩, _, rfl⟩
      have : k = k2 := by injection e1 with e1; omega
      subst this
      exact ⟨by rw [rgD_len]; exact hk2, _, _, room, .inl rfl, .inl rfl, rfl, [], h2, h3.le (by omega), by simp, by simp [sizes], fun _ h => by cases h⟩
    · rintro ds i d D1 s1 hd ⟨hds, x, y, left, hx, hy, rfl, ps, hcs, hbs, hl1, hsz, hall⟩
      have hi4 : i < 4 := by
        have := (List.getElem?_eq_some_iff.mp hd).1
        omega
      have hd2 : Dul (.d d) := .inr ⟨_, rfl⟩
      refine ⟨_, g_name (by simp), ?_⟩
      have hm3 : (4 - (i + 1)) * (pc dp + 2) + (pc dp + 2) = (4 - i) * (pc dp + 2) := by
        have : 4 - i = (4 - (i + 1)) + 1 := by omega
        rw [this, Nat.add_mul, Nat.one_mul]
      refine z_ifx (xt_test (x_gt (x_var (i := 5) rfl) x_int)) (fun e => ?_) fun e => z_nextx ⟨hds, _, y, left, hd2, hy, rfl, ps, hcs, hbs.le (by omega), by omega, hsz, hall⟩
      have e1 : 0 < left := by
        have := of_decide_eq_true e
        omega
      refine z_setE (P := fun d s2 => ∃ q : Sh, d = dat false q ∧ PlanOk q ∧ Nar q ∧ dep q ≤ dp ∧ size q ≤ left ∧ s2.c = s1.c ∧ Bud (b + 1 + (4 - (i + 1)) * (pc dp + 2)) s2.m)
        (e_callQ rfl (PB := fun ds s2 => ∃ r : Nat, ds = [.lst (ws.map Dt.str), .int ((1 + r : Nat) : Int), .int (dp : Int)] ∧ r < left ∧ s2.c = s1.c ∧ Bud (b + 1 + (4 - (i + 1)) * (pc dp + 2) + pc dp) s2.m)
          (ea_cons (P2 := fun d s2 ds s3 => ∃ r : Nat, ds = [.int ((1 + r : Nat) : Int), .int (dp : Int)] ∧ r < left ∧ s3.c = s1.c ∧ Bud (b + 1 + (4 - (i + 1)) * (pc dp + 2) + pc dp) s3.m) (x_var (i := 1) rfl).E (fun d s2 h => ea_two (P1 := fun d s3 => ∃ r : Nat, d = .int ((1 + r : Nat) : Int) ∧ r < left ∧ s3.c = s1.c ∧ Bud (b + 1 + (4 - (i + 1)) * (pc dp + 2) + pc dp) s3.m) (P2 := fun _ s3 d s4 => d = .int (dp : Int) ∧ s4 = s3) ?_ (fun d3 s3 h3 => ?_) ?_) ?_) ?_) ?_
      · obtain ⟨_, rfl⟩ := h
        refine e_xop (d := .int 1) x_int (P2 := fun d s3 => ∃ r : Nat, d = .int (r : Int) ∧ r < left ∧ s3.c = s2.c ∧ Bud (b + 1 + (4 - (i + 1)) * (pc dp + 2) + pc dp) s3.m) ((e_draw (b + 1 + (4 - (i + 1)) * (pc dp + 2) + pc dp) rfl (x_var rfl) (by omega) (by omega) (hbs.le (by omega))).imp ?_) ?_
        · rintro d s3 ⟨⟨r, e, hr2⟩, h2, h3⟩
          exact ⟨r, e, by omega, h2, h3⟩
        · rintro d s3 ⟨r, rfl, hr2, h2, h3⟩
          exact ⟨_, x_addI (x_var rfl) (x_var rfl), r, by rw [Int.natCast_add]; rfl, hr2, h2, h3⟩
      · exact (x_sub (x_var (i := 3) rfl) x_int).E.imp fun d4 s4 ⟨e4, e5⟩ => ⟨by rw [e4]; congr 1; omega, e5⟩
      · rintro d3 s3 e4 s4 ⟨r, rfl, h3⟩ ⟨rfl, rfl⟩
        exact ⟨r, rfl, h3⟩
      · rintro d s2 ds s3 ⟨rfl, _⟩ ⟨r, rfl, h3⟩
        exact ⟨r, rfl, h3⟩
      · rintro ds s2 ⟨r, rfl, hrl, h2, h3⟩
        refine ⟨rfl, h3.kind, ⟨b + 1 + (4 - (i + 1)) * (pc dp + 2), ws, 1 + r, dp⟩, ⟨rfl, by simp only; omega, by simp only; omega, by simp only; omega, hne, hlen, hok, h3⟩, ?_⟩
        rintro d m2 ⟨⟨q, h4, h5, h6, h7, h8⟩, h9⟩
        simp only at h7 h8 h9
        exact ⟨q, h4, h5, h6, h7, by omega, h2, h9⟩
      rintro d5 s2 ⟨q, rfl, h5, h6, h7, h8, h9, h10⟩
      refine z_setx (d := .int ((left - size q : Nat) : Int)) ?_ ?_
      · rw [Int.ofNat_sub h8]
        exact x_sub (x_var (i := 5) rfl) (x_call (xa_cons (x_var (i := 8) rfl) xa_nil) ⟨q, by omega, h6, rfl, rfl⟩)
      · refine z_app1 (ds := ps.map (dat false)) (d := dat false q) rfl (by rw [h9]; exact hcs) (by rw [List.length_map]; omega) (x_var rfl) ⟨hds, _, _, left - size q, hd2, .inr ⟨_, rfl⟩, rfl, ps ++ [q], by simp, h10, by simp; omega, ?_, fun p hp => ?_⟩
        · rw [sizes_app]
          simp only [sizes]
          omega
        · rcases List.mem_append.mp hp with hp | hp
          · exact hall p hp
          · rw [List.mem_singleton.mp hp]
            exact ⟨h5, h6, h7⟩
    · rintro ds D1 s1 ⟨hds, x, y, left, hx, hy, rfl, ps, hcs, hbs, hl1, hsz, hall⟩
      exact ⟨⟨x, y, left, hx, hy, rfl⟩, ps, hcs, hbs.le (by omega), by omega, by omega, hall⟩
    rintro D1 s1 ⟨⟨x, y, left, hx, hy, rfl⟩, ps, hcs, hbs, hl1, hsz, hall⟩
    refine z_freeze (j := 6) hcs rfl (by rcases hx with rfl | ⟨_, rfl⟩ <;> rcases hy with rfl | ⟨_, rfl⟩ <;> rfl) ?_
    refine z_retE (e_tup (PB := fun ds s2 => ∃ k : Bool, ds = [.str (kn k), .lst (ps.map (dat false))] ∧ Bud b s2.m) (ea_two (P2 := fun _ s2 d s3 => d = .lst (ps.map (dat false)) ∧ s3 = s2) (e_pick (es := [.str nRow, .str nBunch]) b rfl (x_lst (xa_cons (x_str rfl) (xa_cons (x_str rfl) xa_nil)) (by simp)) (by simp) (by simp) hbs) (fun d s2 h => (x_var (i := 6) rfl).E) ?_) ?_) (P := fun d s2 => ∃ k : Bool, d = dat false (.join k ps) ∧ Bud b s2.m) ?_
    · rintro d s2 e' s3 ⟨h1, h2, h3⟩ ⟨rfl, rfl⟩
      simp only [List.mem_cons, List.not_mem_nil, or_false] at h1
      rcases h1 with rfl | rfl
      · exact ⟨true, rfl, h3⟩
      · exact ⟨false, rfl, h3⟩
    · rintro ds s2 ⟨k, rfl, h3⟩
      exact ⟨by simp, k, by simp [dat, dats_map, seqD], h3⟩
    · rintro d s2 ⟨k, rfl, h3⟩
      refine ⟨⟨.join k ps, rfl, planOks_iff.mpr fun p hp => (hall p hp).1, ⟨by omega, nars_iff.mpr fun p hp => (hall p hp).2.1⟩, ?_, hsz⟩, h3⟩
      have := deps_le fun p hp => (hall p hp).2.2
      show deps ps + 1 ≤ dp + 1
      omega
end
end Wb

/-! The law's other texts of a web. -/
namespace Wb
open PySem PySem.Spec PyProof.Rows L2 SX
section
variable {c : Cf} {H : Hp} {D : List SV} {s : Sto} {ta tb te tl th : TE} {tt : TA} {d : Dt} {ds : List Dt} {t : List Nat} {i j : Nat} {P : Dt → Sto → Prop} {Pn : List SV → Sto → Prop} {Pr : Dt → Sto → Prop} {t2 : TS}
theorem RA.take : ∀ {xs : List V} {ds : List Dt} (n : Nat), RA c H xs ds → RA c H (xs.take n) (ds.take n)
  | _, _, 0, _ => by simp only [List.take_zero]; exact .nil
  | _, _, n + 1, .nil => by simp only [List.take_nil]; exact .nil
  | _, _, n + 1, .cons r t => by simp only [List.take_succ_cons]; exact .cons r (RA.take n t)
theorem RA.drop : ∀ {xs : List V} {ds : List Dt} (n : Nat), RA c H xs ds → RA c H (xs.drop n) (ds.drop n)
  | _, _, 0, h => h
  | _, _, n + 1, .nil => by simp only [List.drop_nil]; exact .nil
  | _, _, n + 1, .cons r t => by simp only [List.drop_succ_cons]; exact RA.drop n t
theorem RA.erase {xs : List V} {ds : List Dt} (n : Nat) (h : RA c H xs ds) : RA c H (xs.eraseIdx n) (ds.eraseIdx n) := by
  rw [List.eraseIdx_eq_take_drop_succ, List.eraseIdx_eq_take_drop_succ]
  exact (h.take n).app (h.drop (n + 1))
theorem cutV_to {xs : List V} {j : Nat} : cutV xs none (some (j : Int)) = xs.take j := by
  unfold cutV
  rw [HT.sIx_nat, HT.sIx_none, List.drop_zero, Nat.sub_zero]
  by_cases h2 : j ≤ xs.length
  · rw [Nat.min_eq_left h2]
  · rw [Nat.min_eq_right (by omega), List.take_of_length_le (Nat.le_refl _), List.take_of_length_le (by omega)]
theorem cutV_from {xs : List V} {i : Nat} : cutV xs (some (i : Int)) none = xs.drop i := by
  unfold cutV
  rw [HT.sIx_nat, HT.sIx_none]
  by_cases h : i ≤ xs.length
  · rw [Nat.min_eq_left h, List.take_of_length_le (by simp)]
  · rw [List.drop_eq_nil_of_le (show xs.length ≤ min i xs.length by omega), List.drop_eq_nil_of_le (show xs.length ≤ i by omega)]
    simp
theorem x_lTo (ha : X c te D (.lst ds)) (hb : X c th D (.int (j : Int))) : X c (tSl (rSlL c.K) te tNoPart (tPart th)) D (.lst (ds.take j)) := fun W o p st H Q l a k =>
  ha W o p st H _ l a fun x H1 e1 rx => hb W o p st H1 _ (l.same e1) (a.mono (hide_same e1)) fun y H2 e2 ry => by
    cases ry
    cases rx with
    | lst e r =>
      refine ⟨_, rfl, _, _, rfl, SqL.of (e2 _ _ (hide_sub _ _ e)), fun q hq => ?_⟩
      rw [cutV_to]
      exact k _ _ ((e1.trans e2).trans (same_upd hq)) (.lst (new_at ((l.same e1).same e2) hq) (((r.mono (hide_same e2)).mono (hide_same (same_upd hq))).take j))
theorem x_lFrom (ha : X c te D (.lst ds)) (hb : X c tl D (.int (j : Int))) : X c (tSl (rSlL c.K) te (tPart tl) tNoPart) D (.lst (ds.drop j)) := fun W o p st H Q l a k =>
  ha W o p st H _ l a fun x H1 e1 rx => hb W o p st H1 _ (l.same e1) (a.mono (hide_same e1)) fun y H2 e2 ry => by
    cases ry
    cases rx with
    | lst e r =>
      refine ⟨_, rfl, _, _, rfl, SqL.of (e2 _ _ (hide_sub _ _ e)), fun q hq => ?_⟩
      rw [cutV_from]
      exact k _ _ ((e1.trans e2).trans (same_upd hq)) (.lst (new_at ((l.same e1).same e2) hq) (((r.mono (hide_same e2)).mono (hide_same (same_upd hq))).drop j))
/-- name.pop(e) of the own list -/
theorem e_popAt {P1 : Dt → Sto → Prop} (hj : D[j]? = some .own) (hc : s.c ≠ none) (h : E c te D s P1) (hr : ∀ d s1, P1 d s1 → ∃ (es : List Dt) (k : Nat) (y : Dt), s1.c = some es ∧ d = .int (k : Int) ∧ es[k]? = some y ∧ es.length ≤ 1000 ∧ P y ⟨some (es.eraseIdx k), s1.m⟩) :
    E c (tBM c.K "list" rPopAt (tVar j) (tCons te tNil)) D s P := fun W o p st H Q a kk => by
  obtain ⟨x, hx, e⟩ := a.sl j .own hj
  subst e
  obtain ⟨cs, hcs⟩ : ∃ cs, s.c = some cs := by
    cases q : s.c with
    | none => exact absurd q hc
    | some cs => exact ⟨cs, rfl⟩
  obtain ⟨wo, ys, hy, ry⟩ := a.own cs hcs
  refine ⟨.ref o, hx, .inl ⟨rfl, _, SqL.of hy⟩, h W o p st H _ a fun v H1 d s1 pd sp a1 r => ?_⟩
  obtain ⟨es, k, y, hes, rfl, hk, hlen, hP⟩ := hr d s1 pd
  obtain ⟨wo1, zs, hz, rz⟩ := a1.own es hes
  have eW : eff W o s1 = add W o := by unfold eff; rw [hes]
  cases r
  obtain ⟨u, hu, ru⟩ := rz.get hk
  obtain ⟨a2, sp2⟩ := a1.put (by rw [hes]; simp) (rz.erase k)
  have hkl : k < zs.length := (List.getElem?_eq_some_iff.mp hu).1
  have hzl : zs.length ≤ 1000 := by rw [rz.len]; exact hlen
  refine ⟨o, zs, (k : Int), k, u, rfl, rfl, hz, by omega, by omega, ?_, hu, kk u _ y _ hP (sp.trans a1 sp2) a2 ?_⟩
  · rw [seqIndex_of (by omega) (by omega)]
    simp
  · have s2 := sp2.hide a1
    rw [eW] at s2
    exact ru.mono s2
/-- name = list(e), an own list -/
theorem z_newC (hc : s.c = none) (h : X c te D (.lst ds)) (hn : noOwn D = true := by rfl) (k : Z c t2 (D.set j .own) ⟨some ds, s.m⟩ Pn Pr) : Z c (tSeq (tAsg (tCB (fun xs H Q => ∃ p ys, xs = [.ref p] ∧ (SqL c.K H p ys ∨ SqT c.K H p ys) ∧ ∀ l, H l = none → Q (.ref l) (upd H l (.lst ys))) (tCons te tNil)) (gName j)) t2) D s Pn Pr := fun W o p st H F a kn kr =>
  h.E W o p st H _ a fun v H1 d1 s1 ⟨e1, e2⟩ sp a1 r => by
    subst e1 e2
    cases r with
    | lst e r =>
    refine ⟨_, _, rfl, .inl (SqL.of (hide_sub _ _ e)), fun q hq => ?_⟩
    have eW : eff W o s1 = W := by unfold eff; rw [hc]
    have wq : W q = false := a1.live.fresh hq
    rename_i a0 vs
    have hs : Same (hide W H1) (hide (add W q) (upd H1 q (.lst vs))) := hide_new hq
    rw [eW] at r
    have sl := a1.sl
    have mm := a1.mem
    rw [eW] at sl mm
    have stp : Step o p s1 H q ⟨some ds, s1.m⟩ (upd H1 q (.lst vs)) := sp.trans a1 ⟨fun b x h _ _ => same_upd hq b x h, fun _ => .inr hq, rfl⟩
    have as2 : As c W q p ⟨some ds, s1.m⟩ (D.set j .own) (st.set j (some (.ref q))) (upd H1 q (.lst vs)) := by
      refine ⟨a1.live.same (same_upd hq), fun ds' e => ?_, MemAt.to (m := s1.m) (fun w => add_of w) (fun x e => same_upd hq _ _ e) hs mm, a1.wp, ?_⟩
      · cases e
        exact ⟨wq, vs, upd_same, r.mono hs⟩
      · intro i sv hi
        rw [List.getElem?_set] at hi
        by_cases e : j = i
        · subst e
          rw [if_pos rfl] at hi
          split at hi
          · rename_i hl
            cases hi
            obtain ⟨x, hx, _⟩ := sl j D[j] (by simp [hl])
            have hl2 : j < st.length := (List.getElem?_eq_some_iff.mp hx).1
            exact ⟨some (.ref q), by rw [List.getElem?_set, if_pos rfl, if_pos hl2], rfl⟩
          · cases hi
        · rw [if_neg e] at hi
          obtain ⟨x, hx, r⟩ := sl i sv hi
          refine ⟨x, by rw [List.getElem?_set, if_neg e]; exact hx, ?_⟩
          cases sv with
          | own => exact absurd hi (noOwn_at hn)
          | un => trivial
          | d d => obtain ⟨v, e1, r1⟩ := r; exact ⟨v, e1, r1.mono hs⟩
          | mem => exact r
          | v v => exact r
    exact k W q p _ _ F as2 (fun o2 st2 H2 D2 s2 pn sp2 a3 => kn o2 st2 H2 D2 s2 pn (stp.trans as2 sp2) a3) (fun o2 v H2 d s2 pr sp2 a3 r => kr o2 v H2 d s2 pr (stp.trans as2 sp2) a3 r)
end
section
variable {c : Cf} {P : Program} {w : World} {mg : Str → Option Value} {base : Heap}
abbrev InStir : Nat × List Lk → List Dt → Mem → Prop := fun x ds m => ds = [.lst (x.2.map lkD)] ∧ x.2.length ≤ 60 ∧ Bud (x.1 + x.2.length) m
abbrev OutStir : Nat × List Lk → Dt → Mem → Prop := fun x d m => (∃ ls : List Lk, ls.Perm x.2 ∧ d = .lst (ls.map lkD)) ∧ Bud x.1 m
theorem erase_perm {α : Type} : ∀ {l : List α} {k : Nat} {x : α}, l[k]? = some x → (x :: l.eraseIdx k).Perm l
  | [], _, _, h => by simp at h
  | y :: l, 0, x, h => by
    simp at h
    subst h
    exact .refl _
  | y :: l, k + 1, x, h => by
    have := erase_perm (l := l) (k := k) (x := x) (by simpa using h)
    simp only [List.eraseIdx_cons_succ]
    exact (List.Perm.swap y x _).trans (this.cons y)
abbrev s__law_stirred : Stmt := top 91
abbrev N__law_stirred : List Str := ["_law_pen_here", "_law_some", "_law_left", "_law_again"]
theorem sc__law_stirred : FnScope N__law_stirred ["_law_pen_here", "_law_some"] (defScope s__law_stirred) := ⟨rfl, rfl, rfl, by decide +kernel, rfl, by decide +kernel, by decide +kernel⟩

theorem c__law_stirred (T : Tx c w mg) : Cal P w c.K mg base 2 "_law_stirred" (spQ c 1 InStir OutStir) := by
  have c__law_draw := c__law_draw (P := P) (base := base) T
  refine mk_law (k := 1) T 13 sc__law_stirred (fun _ _ _ _ _ _ us hl => match us, hl with | [_, _], _ => rfl) spQ_len fun f cdv A outer s H vs Q E hr h => ⟨_, PSs.nox (pss_cons (ps_set (i := 2) sc__law_stirred.nd rfl (by first | exact Or.inl rfl | exact Or.inr rfl) (pe_callTy (call_lstK (K := c.K) rfl) (by rfl) T.b_list boot_list (pa_cons (pv 1) pa_nil))) 
      (pss_one (ps_ret (pe_lc (own := [("_law_again", 3)]) rfl sc__law_stirred.nd (pi_range1 rfl T.b_range (pa_cons (pe_callB (call_lenK (K := c.K) rfl) (by rfl) T.b_len boot_len (pa_cons (pv 2) pa_nil)) pa_nil)) (blkOk_by (own := [("_law_again", 3)]) (N := N__law_stirred) (sc := defScope s__law_stirred) (by decide +kernel)) (fun _ _ _ _ _ => (pg_name (i := 3) sc__law_stirred.nd rfl (by first | exact Or.inl rfl | exact Or.inr rfl))) (fun _ _ _ _ _ => pts_nil) (fun _ _ _ _ _ => (pe_bmK (K := c.K) rfl PySem.F.plainAttrs_list PySem.F.slot_list_pop PySem.F.type_list_pop mt_popAt (pv 2) (pa_cons (pe_c c__law_draw hr (by first | decide | omega) (by rfl) (pa_cons (pv 0) (pa_cons (pe_callB (call_lenK (K := c.K) rfl) (by rfl) T.b_len boot_len (pa_cons (pv 2) pa_nil)) pa_nil))) pa_nil))))))), body_q h fun x ds m hn hk hR => ?_⟩
  obtain ⟨b, ls⟩ := x
  obtain ⟨rfl, hl, hb⟩ := hR
  simp only at hl hb
  refine z_newC (ds := ls.map lkD) rfl (x_var rfl) rfl ?_
  refine z_retE (P := fun d s2 => (∃ ls2 : List Lk, ls2.Perm ls ∧ d = .lst (ls2.map lkD)) ∧ Bud b s2.m) (e_lc (P0 := fun ds s1 => ds = rgD ls.length ∧ s1 = ⟨some (ls.map lkD), m⟩) ?_ (fun ds i es s1 => ds = rgD ls.length ∧ ∃ as bs : List Lk, es = as.map lkD ∧ as.length = i ∧ (as ++ bs).Perm ls ∧ s1.c = some (bs.map lkD) ∧ Bud (b + bs.length) s1.m) ?_ ?_ ?_) fun d s2 h => h
  · intro W o p st H Q a k
    obtain ⟨x, hx, e⟩ := a.sl 2 .own rfl
    subst e
    obtain ⟨wo, ys, hy, ry⟩ := a.own _ rfl
    refine ⟨.ref o, hx, _, ys.length, rfl, .inl ⟨ys, SqL.of hy, rfl⟩, _, rfl, by omega, by have := ry.len; simp at this; omega, ?_⟩
    have e : ys.length = ls.length := by have := ry.len; simpa using this
    rw [Int.toNat_natCast, e]
    exact k _ H _ ⟨some (ls.map lkD), m⟩ ⟨rfl, rfl⟩ .refl a src_range
  · rintro ds s1 ⟨rfl, rfl⟩
    exact ⟨rfl, [], ls, rfl, rfl, .refl _, rfl, hb⟩
  · rintro ds i d es s1 hd ⟨rfl, as, bs, rfl, hla, hp, hcs, hbs⟩
    obtain ⟨hi, rfl⟩ := rgD_at hd
    have hpl := hp.length_eq
    rw [List.length_append] at hpl
    obtain ⟨bn, hbn⟩ : ∃ bn, bs.length = bn + 1 := ⟨bs.length - 1, by omega⟩
    refine ⟨_, true, g_name (by simp), xt_yes, (fun z => by cases z), fun _ => ⟨by rw [List.length_map]; omega, ?_⟩⟩
    refine e_popAt (P1 := fun d s2 => (∃ r : Nat, d = .int (r : Int) ∧ r < bs.length) ∧ s2.c = some (bs.map lkD) ∧ Bud (b + bn) s2.m) rfl (by rw [hcs]; simp) ?_ ?_
    · intro W o p st H Q a k
      have hx := a.sl 2 .own rfl
      obtain ⟨x, hx, e⟩ := hx
      subst e
      obtain ⟨wo, ys, hy, ry⟩ := a.own _ hcs
      have e : ys.length = bs.length := by have := ry.len; simpa using this
      have hm := a.sl 0 .mem rfl
      obtain ⟨x0, hx0, e0⟩ := hm
      subst e0
      refine ⟨.ref p, hx0, .ref o, hx, _, ys.length, rfl, .inl ⟨ys, SqL.of hy, rfl⟩, ?_⟩
      refine ⟨(b + bn, ((ys.length : Nat) : Int)), memo_run a rfl (hbs.kind) ⟨rfl, by simp only; omega, by simp only; omega, hbs.le (by simp only; omega)⟩ (.cons (.int _) .nil) fun v H2 d m2 po sp2 a2 rr => ?_⟩
      obtain ⟨⟨r, rfl, h0, h1⟩, h2⟩ := po
      simp only at h1 h2
      exact k v H2 (.int ((r.toNat : Nat) : Int)) ⟨s1.c, m2⟩ ⟨⟨r.toNat, rfl, by omega⟩, hcs, h2⟩ sp2 a2 (by rw [Int.toNat_of_nonneg h0]; exact rr)
    · rintro d s2 ⟨⟨r, rfl, hr2⟩, h2, h3⟩
      refine ⟨_, r, lkD bs[r], h2, rfl, by simp [hr2], by rw [List.length_map]; omega, rfl, as ++ [bs[r]], bs.eraseIdx r, by simp, by simp [hla], ?_, ?_, ?_⟩
      · refine List.Perm.trans ?_ hp
        rw [List.append_assoc]
        exact (erase_perm (l := bs) (k := r) (x := bs[r]) (List.getElem?_eq_getElem hr2)).append_left as
      · show some ((bs.map lkD).eraseIdx r) = some ((bs.eraseIdx r).map lkD)
        rw [List.eraseIdx_eq_take_drop_succ, List.eraseIdx_eq_take_drop_succ, List.map_append, List.map_take, List.map_drop]
      · rw [List.length_eraseIdx_of_lt hr2, hbn]
        exact h3.le (by omega)
  · rintro ds es s1 ⟨rfl, as, bs, rfl, hla, hp, hcs, hbs⟩
    rw [rgD_len] at hla
    have hpl := hp.length_eq
    rw [List.length_append] at hpl
    have : bs = [] := List.length_eq_zero_iff.mp (by omega)
    subst this
    rw [List.append_nil] at hp
    exact ⟨⟨as, hp, rfl⟩, hbs.le (by omega)⟩
end
end Wb

/-! The law's other texts of a web: the walk. -/
namespace Wb
open PySem PySem.Spec PyProof.Rows L2 SX
mutual
def lc : Sh → Nat
  | .net ls => 2 * ls.length + 2
  | .join _ ps => lcs ps + 2 * ps.length + 2
  | _ => 0
def lcs : List Sh → Nat
  | [] => 0
  | p :: r => lc p + lcs r
end
theorem lcs_le {ps : List Sh} (h : ∀ p ∈ ps, lc p + 6 ≤ 10 * size p) : lcs ps + 6 * ps.length ≤ 10 * sizes ps := by
  induction ps with
  | nil => simp [lcs, sizes]
  | cons p r ih =>
    have h1 := h p (List.mem_cons_self ..)
    have h2 := ih fun q hq => h q (List.mem_cons_of_mem _ hq)
    simp only [lcs, sizes, List.length_cons]
    omega
theorem lc_le : ∀ s : Sh, TreeOk s → lc s + 6 ≤ 10 * size s := by
  refine Sh.ind (fun h => h.elim) (fun h => h.elim) (fun n h => ?_) (fun ls h => ?_) (fun k ps ih h => ?_)
  · show 0 + 6 ≤ 10 * 1
    omega
  · have h' : ls ≠ [] := (show ls ≠ [] ∧ _ from h).1
    have := List.length_pos_iff.mpr h'
    show 2 * ls.length + 2 + 6 ≤ 10 * ls.length
    omega
  · have h' : 2 ≤ ps.length ∧ TreeOks ps := h
    have := lcs_le fun p hp => ih p hp (treeOks_iff.mp h'.2 p hp)
    show lcs ps + 2 * ps.length + 2 + 6 ≤ 10 * sizes ps
    omega
/-- parts that come to s -/
structure Jn (k : Bool) (qs : List Sh) (s : Sh) : Prop where
  ok : ∀ q ∈ qs, TreeOk q
  pl : ∀ q ∈ qs, PlanOk q
  two : 2 ≤ qs.length
  cat : cat ((qs.map made).map (fl k)) = fl k s
  sz : sizes qs ≤ size s
theorem Jn.made {k : Bool} {qs : List Sh} {s : Sh} (h : Jn k qs s) (hs : Norm s) : made (.join k qs) = s := by
  rw [show Wb.made (.join k qs) = joined k (mades qs) from rfl, mades_map, joined_eq fun q hq => ?_, h.cat, unfl_fl hs]
  obtain ⟨p, hp, rfl⟩ := List.mem_map.mp hq
  exact made_norm p (h.pl p hp)
theorem Jn.merge {k : Bool} {a b : List Sh} {x y : Sh} {s : Sh} (h : Jn k (a ++ x :: y :: b) s) (hl : 3 ≤ (a ++ x :: y :: b).length) : Jn k (a ++ .join k [x, y] :: b) s := by
  have hx := h.ok x (by simp)
  have hy := h.ok y (by simp)
  have tj : TreeOk (.join k [x, y]) := ⟨by simp, treeOks_iff.mpr fun q hq => by
    rcases List.mem_cons.mp hq with rfl | hq
    · exact hx
    · rw [List.mem_singleton.mp hq]
      exact hy⟩
  have ok2 : ∀ q ∈ a ++ .join k [x, y] :: b, TreeOk q := fun q hq => by
    simp only [List.mem_append, List.mem_cons] at hq
    rcases hq with hq | rfl | hq
    · exact h.ok q (by simp [hq])
    · exact tj
    · exact h.ok q (by simp [hq])
  refine ⟨ok2, fun q hq => tree_plan q (ok2 q hq), by simp at hl ⊢; omega, ?_, ?_⟩
  · rw [← h.cat]
    simp only [List.map_append, List.map_cons, cat_app, Wb.cat]
    rw [show Wb.made (.join k [x, y]) = joined k [Wb.made x, Wb.made y] from rfl, fl_joined fun q hq => ?_]
    · simp only [List.map_cons, List.map_nil, Wb.cat, cmul_nil', cmul_assoc]
    · rcases List.mem_cons.mp hq with rfl | hq
      · exact made_norm x (tree_plan x hx)
      · rw [List.mem_singleton.mp hq]
        exact made_norm y (tree_plan y hy)
  · have := h.sz
    rw [sizes_app] at this ⊢
    simp only [sizes, size] at this ⊢
    omega
theorem split2 {α : Type} {l : List α} {n : Nat} (h : n + 1 < l.length) : l = l.take n ++ l[n] :: l[n + 1] :: l.drop (n + 2) := by
  conv => lhs; rw [← List.take_append_drop n l]
  rw [List.drop_eq_getElem_cons (by omega), List.drop_eq_getElem_cons h]
/-- a text that is read as s -/
structure Lo (s t : Sh) : Prop where
  ok : TreeOk t ∨ (t = .opn ∨ t = .sht)
  tr : TreeOk s → TreeOk t
  eq : made t = s
  sz : size t ≤ size s
theorem txts_sum {qs : List Sh} (h : ∀ q ∈ qs, TreeOk q) : ((qs.map txt).map (·.length)).sum + 8 * qs.length ≤ 30 * sizes qs := by
  induction qs with
  | nil => simp [sizes]
  | cons p r ih =>
    have h1 := txt_len p (h p (List.mem_cons_self ..))
    have h2 := ih fun q hq => h q (List.mem_cons_of_mem _ hq)
    simp only [List.map_cons, List.sum_cons, sizes, List.length_cons]
    omega
section
variable {c : Cf} {P : Program} {w : World} {mg : Str → Option Value} {base : Heap}
abbrev InLo (n : Nat) : Nat × Sh → List Dt → Mem → Prop := fun x ds m => ds = [dat false x.2] ∧ dep x.2 < n ∧ Norm x.2 ∧ size x.2 ≤ 14 ∧ Bud (x.1 + lc x.2) m
abbrev OutLo : Nat × Sh → Dt → Mem → Prop := fun x d m => (∃ t : Sh, Lo x.2 t ∧ d = .str (txt t)) ∧ Bud x.1 m
def lenAt : List SV → Nat
  | [_, _, _, _, _, _, _, _, .d (.lst l), _, _, _] => l.length
  | _ => 0
abbrev s__law_loosely : Stmt := top 92
abbrev N__law_loosely : List Str := ["_law_pen_here", "_law_plan_here", "_law_words_here", "_law_sign", "_law_u", "_law_v", "_law_ends", "_law_between", "_law_inside", "_law_at", "_law_joined_so", "_law_part"]
theorem sc__law_loosely : FnScope N__law_loosely ["_law_pen_here", "_law_plan_here"] (defScope s__law_loosely) := ⟨rfl, rfl, rfl, by decide +kernel, rfl, by decide +kernel, by decide +kernel⟩

theorem c__law_loosely (T : Tx c w mg) : ∀ n : Nat, n ≤ 21 → Cal P w c.K mg base (25 + n) "_law_loosely" (spQ c 1 (InLo n) OutLo) := by
  have c__law_draw := c__law_draw (P := P) (base := base) T
  have c__law_stirred := c__law_stirred (P := P) (base := base) T
  have c__law_shown := c__law_shown (P := P) (base := base) T 21
  intro n
  induction n with
  | zero =>
    intro _
    exact mk_law (k := 24) T 14 sc__law_loosely (fun _ _ _ _ _ _ us hl => match us, hl with | [_, _], _ => rfl) spQ_len fun f cdv A outer s H vs Q E hr h => by
      obtain ⟨x, p, us, _, _, W, ds, m, _, _, _, _, ⟨_, h0, _⟩, _⟩ := h
      exact absurd h0 (Nat.not_lt_zero _)
  | succ n ihn =>
    intro hn20
    have c__law_loosely := ihn (by omega)
    refine mk_law (k := 25 + n) T 14 sc__law_loosely (fun _ _ _ _ _ _ us hl => match us, hl with | [_, _], _ => rfl) spQ_len fun f cdv A outer s H vs Q E hr h => ⟨_, PSs.nox (pss_cons (ps_if (pt_cmpR (op_eqDK (K := c.K) rfl hr.units) (pe_ix (ix_seqK (K := c.K) rfl) (pv 1) pe_int (fun _ _ => rfl)) pe_str (nomark _))
        (pss_cons (ps_set (i := 2) sc__law_loosely.nd rfl (by first | exact Or.inl rfl | exact Or.inr rfl) (pe_lst pa_nil)) 
        (pss_cons (ps_for PassesOwn.never rfl (pi_listK (K := c.K) rfl (pe_c c__law_stirred hr (by first | decide | omega) (by rfl) (pa_cons (pv 0) (pa_cons (pe_ix (ix_seqK (K := c.K) rfl) (pv 1) pe_int (fun _ _ => rfl)) pa_nil)))) (pg_tupK (n := 3) (K := c.K) rfl rfl (pgs_cons (pg_name (i := 3) sc__law_loosely.nd rfl (by first | exact Or.inl rfl | exact Or.inr rfl)) (pgs_cons (pg_name (i := 4) sc__law_loosely.nd rfl (by first | exact Or.inl rfl | exact Or.inr rfl)) (pgs_cons (pg_name (i := 5) sc__law_loosely.nd rfl (by first | exact Or.inl rfl | exact Or.inr rfl)) pgs_nil))))
          (pss_cons (ps_set (i := 6) sc__law_loosely.nd rfl (by first | exact Or.inl rfl | exact Or.inr rfl) (pe_ifExp (pt_cmpR (op_eqDK (K := c.K) rfl hr.units) (pe_c c__law_draw hr (by first | decide | omega) (by rfl) (pa_cons (pv 0) (pa_cons pe_int pa_nil))) pe_int (nomark _)) (pe_lst (pa_cons (pe_callTy call_strU (by rfl) T.b_str boot_str (pa_cons (pv 4) pa_nil)) (pa_cons (pe_callTy call_strU (by rfl) T.b_str boot_str (pa_cons (pv 5) pa_nil)) pa_nil))) (pe_lst (pa_cons (pe_callTy call_strU (by rfl) T.b_str boot_str (pa_cons (pv 5) pa_nil)) (pa_cons (pe_callTy call_strU (by rfl) T.b_str boot_str (pa_cons (pv 4) pa_nil)) pa_nil))))) 
          (pss_one (ps_expr (pe_bmK (K := c.K) rfl PySem.F.plainAttrs_list PySem.F.slot_list_append PySem.F.type_list_append mt_append (pv 2) (pa_cons (pe_op op_addU (pe_op op_addU (pe_op op_addU (pe_op op_addU (pe_ix (ix_seqK (K := c.K) rfl) (pv 6) pe_int (fun _ _ => rfl)) pe_str) (pv 3)) pe_str) (pe_ix (ix_seqK (K := c.K) rfl) (pv 6) pe_int (fun _ _ => rfl))) pa_nil)))))) 
        (pss_one (ps_ret (pe_op op_addU (pe_op op_addU pe_str (pe_join pe_str (pv 2))) pe_str)))))
        pss_nil) 
      (pss_cons (ps_if (pt_cmpR (op_notInK (K := c.K) rfl) (pe_ix (ix_seqK (K := c.K) rfl) (pv 1) pe_int (fun _ _ => rfl)) (pe_tup (pa_cons pe_str (pa_cons pe_str pa_nil))) rfl)
        (pss_one (ps_ret (pe_c c__law_shown hr (by first | decide | omega) (by rfl) (pa_cons (pv 1) pa_nil))))
        pss_nil) 
      (pss_cons (ps_set (i := 7) sc__law_loosely.nd rfl (by first | exact Or.inl rfl | exact Or.inr rfl) (pe_dget (hu_of hr) (pe_disp (pps_cons pe_str pe_str (pps_cons pe_str pe_str pps_nil)) (by rfl) (by rfl) (fun z => by cases z) (by decide)) (pe_ix (ix_seqK (K := c.K) rfl) (pv 1) pe_int (fun _ _ => rfl)) (fun _ _ => rfl))) 
      (pss_cons (ps_setLc (i := 8) (own := [("_law_part", 11)]) rfl sc__law_loosely.nd rfl rfl (sw_true rfl rfl rfl (by decide +kernel)) (pi_listK (K := c.K) rfl (pe_ix (ix_seqK (K := c.K) rfl) (pv 1) pe_int (fun _ _ => rfl))) (blkOk_by (own := [("_law_part", 11)]) (N := N__law_loosely) (sc := defScope s__law_loosely) (by decide +kernel)) (fun _ _ _ _ _ => (pg_name (i := 11) sc__law_loosely.nd rfl (by first | exact Or.inl rfl | exact Or.inr rfl))) (fun _ _ _ _ _ => pts_nil) (fun _ _ _ _ _ => (pe_c c__law_loosely hr (by first | decide | omega) (by rfl) (pa_cons (pv 0) (pa_cons (pv 11) pa_nil))))) 
      (pss_cons (ps_while PassesOwn.never (PW.pt (pw_and (pt_cmpR op_gt (pe_callB (call_lenK (K := c.K) rfl) (by rfl) T.b_len boot_len (pa_cons (pv 8) pa_nil)) pe_int (nomark _)) (pw_and1 (pt_cmpR (op_eqDK (K := c.K) rfl hr.units) (pe_c c__law_draw hr (by first | decide | omega) (by rfl) (pa_cons (pv 0) (pa_cons pe_int pa_nil))) pe_int (nomark _)))))
        (pss_cons (ps_set (i := 9) sc__law_loosely.nd rfl (by first | exact Or.inl rfl | exact Or.inr rfl) (pe_c c__law_draw hr (by first | decide | omega) (by rfl) (pa_cons (pv 0) (pa_cons (pe_op op_sub (pe_callB (call_lenK (K := c.K) rfl) (by rfl) T.b_len boot_len (pa_cons (pv 8) pa_nil)) pe_int) pa_nil)))) 
        (pss_cons (ps_set (i := 10) sc__law_loosely.nd rfl (by first | exact Or.inl rfl | exact Or.inr rfl) (pe_op op_addU (pe_op op_addU (pe_op op_addU (pe_op op_addU pe_str (pe_ix (ix_seqK (K := c.K) rfl) (pv 8) (pv 9) (fun _ _ => rfl))) (pv 7)) (pe_ix (ix_seqK (K := c.K) rfl) (pv 8) (pe_op op_addU (pv 9) pe_int) (fun _ _ => rfl))) pe_str)) 
        (pss_one (ps_set (i := 8) sc__law_loosely.nd rfl (by first | exact Or.inl rfl | exact Or.inr rfl) (pe_op op_addU (pe_op op_addU (pe_slice sl_list (pv 8) po_none (po_some (pv 9))) (pe_lst (pa_cons (pv 10) pa_nil))) (pe_slice sl_list (pv 8) (po_some (pe_op op_addU (pv 9) pe_int)) po_none))))))) 
      (pss_one (ps_ret (pe_op op_addU (pe_op op_addU pe_str (pe_join (pv 7) (pv 8))) pe_str)))))))), body_q h fun x ds m hn hk hR => ?_⟩
    obtain ⟨b, s⟩ := x
    obtain ⟨rfl, hdep, hnm, hz, hb⟩ := hR
    simp only at hdep hnm hz hb
    refine z_ifr (xt_test (x_tagNet (s := s) (b := false) (x_var rfl))) (fun e => ?_) fun e1 => ?_
    · obtain ⟨ls, rfl⟩ : ∃ ls, s = .net ls := by cases s <;> first | exact ⟨_, rfl⟩ | cases e
      have h' : ls ≠ [] ∧ (∀ l ∈ ls, LkOk l) ∧ ordered ls = ls := hnm
      have hl : ls.length ≤ 14 := hz
      have hb' : Bud (b + (2 * ls.length + 2)) m := hb
      refine z_newx rfl ?_
      refine z_then (Pm := fun D' s' => (∃ x3 x4 x5 x6 : SV, Dul x3 ∧ Dul x4 ∧ Dul x5 ∧ Dul x6 ∧ D' = [.mem, .d (dat false (.net ls)), .own, x3, x4, x5, x6, .un, .un, .un, .un, .un]) ∧ ∃ fs : List Lk, s'.c = some (fs.map fun l => Dt.str (lkT l)) ∧ (fs.map turn).Perm (ls.map turn) ∧ (∀ l ∈ fs, LkOk l) ∧ Bud b s'.m)
        (z_for (vs := [3, 4, 5]) (P0 := fun ds s1 => ∃ ls2 : List Lk, ls2.Perm ls ∧ ds = ls2.map lkD ∧ s1.c = some [] ∧ Bud (b + ls.length) s1.m) ?_ (fun ds i D' s' => ∃ ls2 : List Lk, ls2.Perm ls ∧ ds = ls2.map lkD ∧ (∃ x3 x4 x5 x6 : SV, Dul x3 ∧ Dul x4 ∧ Dul x5 ∧ Dul x6 ∧ D' = [.mem, .d (dat false (.net ls)), .own, x3, x4, x5, x6, .un, .un, .un, .un, .un]) ∧ ∃ fs : List Lk, s'.c = some (fs.map fun l => Dt.str (lkT l)) ∧ fs.map turn = (ls2.take i).map turn ∧ (∀ l ∈ fs, LkOk l) ∧ Bud (b + (ls.length - i)) s'.m)
        ?_ ?_ ?_) ?_
      · intro W o p st H Q a k
        have z : Wb.E c (tCall (spQ c 1 InStir OutStir) [] E0 (tCons (tVar 0) (tCons (tOp (rIx c.K) (tVar 1) (tC (.int 1))) tNil))) ((SV.mem :: (List.map SV.d [dat false (.net ls)] ++ List.replicate 10 .un)).set 2 .own) ⟨some [], m⟩ (fun d s2 => (∃ ls2 : List Lk, ls2.Perm ls ∧ d = .lst (ls2.map lkD)) ∧ s2.c = some [] ∧ Bud (b + ls.length) s2.m) :=
          e_callQ rfl (xa_cons (x_arg (s := .net ls) (b := false) (x_var (i := 1) rfl) rfl) xa_nil).E fun ds s1 ⟨e1, e2⟩ => by
            subst e1 e2
            exact ⟨rfl, hb'.kind, (b + ls.length, ls), ⟨rfl, by simp only; omega, hb'.le (by simp only; omega)⟩, fun d m2 ⟨h1, h2⟩ => ⟨h1, rfl, h2⟩⟩
        refine z W o p st H _ a fun v H1 d s1 ⟨⟨ls2, hp, e1⟩, h2, h3⟩ sp a1 r => ?_
        subst e1
        cases r with
        | lst e r => exact ⟨_, rfl, ⟨_, SqL.of (hide_sub _ _ e)⟩, k _ H1 _ s1 ⟨ls2, hp, rfl, h2, h3⟩ sp a1 (src_list e r)⟩
      · rintro ds s1 ⟨ls2, hp, rfl, h2, h3⟩
        exact ⟨ls2, hp, rfl, ⟨_, _, _, _, .inl rfl, .inl rfl, .inl rfl, .inl rfl, rfl⟩, [], h2, rfl, (fun _ h => by cases h), h3.le (by omega)⟩
      · rintro ds i d D1 s1 hd ⟨ls2, hp, rfl, ⟨x3, x4, x5, x6, h3, h4, h5, h6, rfl⟩, fs, hcs, hft, hfo, hbs⟩
        have hil : i < ls2.length := by
          have := (List.getElem?_eq_some_iff.mp hd).1
          simpa using this
        have hpl := hp.length_eq
        obtain ⟨l, hl2, rfl⟩ : ∃ l, ls2[i]? = some l ∧ lkD l = d := by
          rw [List.getElem?_map, List.getElem?_eq_getElem hil] at hd
          exact ⟨_, List.getElem?_eq_getElem hil, by simpa using hd⟩
        have hlk : LkOk l := h'.2.1 l (hp.mem_iff.mp (List.mem_of_getElem? hl2))
        have hfl : fs.length ≤ 14 := by
          have := congrArg List.length hft
          simp only [List.length_map, List.length_take] at this
          omega
        have hu := hlk.u
        have hv := hlk.v
        refine ⟨_, g_lk l (by simp) (by simp) (by simp), ?_⟩
        refine z_setE (P := fun d s2 => ∃ u v : Nat, d = .lst [.str (TL.numL u), .str (TL.numL v)] ∧ LkOk (l.1, u, v) ∧ turn (l.1, u, v) = turn l ∧ s2.c = some (fs.map fun l => Dt.str (lkT l)) ∧ Bud (b + (ls.length - (i + 1))) s2.m)
          (e_if (Pb := fun _ s2 => s2.c = some (fs.map fun l => Dt.str (lkT l)) ∧ Bud (b + (ls.length - (i + 1))) s2.m) (et_test (e_opx (P1 := fun d s2 => (∃ r : Nat, d = .int (r : Int) ∧ (r : Int) < 2) ∧ s2.c = some (fs.map fun l => Dt.str (lkT l)) ∧ Bud (b + (ls.length - (i + 1))) s2.m) ((e_draw (b + (ls.length - (i + 1))) rfl x_int (by decide) (by decide) (hbs.le (by omega))).imp fun d s2 h => ⟨h.1, by rw [h.2.1]; exact hcs, h.2.2⟩) x_int fun d s2 ⟨⟨r, e, _⟩, h2⟩ => ?_)) (fun s2 h2 => ?_) fun s2 h2 => ?_) ?_
        · subst e
          exact ⟨_, x_eq (x_var rfl) (x_var rfl) cm_int cm_int, _, rfl, h2⟩
        · exact e_x (x_lst (xa_cons (x_strI (x_var (i := 4) rfl) (by omega)) (xa_cons (x_strI (x_var (i := 5) rfl) (by omega)) xa_nil)) (by simp)) ⟨l.2.1, l.2.2, rfl, hlk, rfl, h2⟩
        · exact e_x (x_lst (xa_cons (x_strI (x_var (i := 5) rfl) (by omega)) (xa_cons (x_strI (x_var (i := 4) rfl) (by omega)) xa_nil)) (by simp)) ⟨l.2.2, l.2.1, rfl, ⟨hlk.nm, hv, hu⟩, turn_flip l.1 l.2.1 l.2.2, h2⟩
        rintro d s2 ⟨u, v, rfl, hok2, htn, hc2, hb2⟩
        have hu2 := num_len _ hok2.u
        have hv2 := num_len _ hok2.v
        have hn2 := hok2.nm.le
        refine z_app1 (j := 2) (d := .str (lkT (l.1, u, v))) rfl hc2 (by rw [List.length_map]; omega) ?_ ⟨ls2, hp, rfl, ⟨_, _, _, _, .inr ⟨_, rfl⟩, .inr ⟨_, rfl⟩, .inr ⟨_, rfl⟩, .inr ⟨_, rfl⟩, rfl⟩, fs ++ [(l.1, u, v)], by simp, ?_, fun z hz => ?_, hb2⟩
        · rw [show lkT (l.1, u, v) = (((TL.numL u ++ [45]) ++ l.1) ++ [45]) ++ TL.numL v by simp [lkT]]
          simp only at hu2 hv2 hn2
          exact x_addS (x_addS (x_addS (x_addS (x_ixL (n := 0) (x_var (i := 6) rfl) x_int rfl rfl) (x_str rfl) (by simp; omega)) (x_var (i := 3) rfl) (by simp; omega)) (x_str rfl) (by simp; omega)) (x_ixL (n := 1) (x_var (i := 6) rfl) x_int rfl rfl) (by simp; omega)
        · rw [List.map_append, hft, List.take_add_one, hl2, List.map_append]
          simp [htn]
        · rcases List.mem_append.mp hz with hz | hz
          · exact hfo z hz
          · rw [List.mem_singleton.mp hz]
            exact hok2
      · rintro ds D1 s1 ⟨ls2, hp, rfl, h1, fs, hcs, hft, hfo, hbs⟩
        refine ⟨h1, fs, hcs, ?_, hfo, hbs.le (by omega)⟩
        rw [hft, List.length_map, List.take_length]
        exact hp.map turn
      rintro D1 s1 ⟨⟨x3, x4, x5, x6, h3, h4, h5, h6, rfl⟩, fs, hcs, hft, hfo, hbs⟩
      have hfl : fs.length = ls.length := by
        have := hft.length_eq
        simpa using this
      have hs := sum_le (fun z : List Nat => z.length) 14 (fs.map lkT) fun z hz => by
        obtain ⟨l, hl, rfl⟩ := List.mem_map.mp hz
        exact lkT_len (hfo l hl)
      rw [List.length_map] at hs
      refine z_freeze (j := 2) hcs rfl (by rcases h3 with rfl | ⟨_, rfl⟩ <;> rcases h4 with rfl | ⟨_, rfl⟩ <;> rcases h5 with rfl | ⟨_, rfl⟩ <;> rcases h6 with rfl | ⟨_, rfl⟩ <;> rfl) ?_
      have hne : fs ≠ [] := fun z => by
        rw [z] at hfl
        exact h'.1 (List.length_eq_zero_iff.mp hfl.symm)
      have e : txt (.net fs) = ([91] ++ TL.joinL [32] (fs.map lkT)) ++ [93] := by simp [txt]
      have hts := txt_len (.net fs) ⟨hne, hfo⟩
      rw [e] at hts
      simp only [size, List.length_append, List.length_cons, List.length_nil] at hts
      refine z_retx (d := .str (txt (.net fs))) ?_ ⟨⟨.net fs, ⟨.inl ⟨hne, hfo⟩, fun _ => ⟨hne, hfo⟩, ?_, by show fs.length ≤ ls.length; omega⟩, rfl⟩, hbs⟩
      · rw [e]
        refine x_addS (x_addS (x_str rfl) (x_join (x_str rfl) ?_ (by simp only [List.length_map, List.length_cons, List.length_nil]; omega)) (by simp only [List.length_cons, List.length_nil]; omega)) (x_str rfl) (by simp only [List.length_append, List.length_cons, List.length_nil]; omega)
        rw [List.map_map]
        exact x_var rfl
      · show (if fs.isEmpty then Sh.sht else .net (ordered fs)) = _
        rw [if_neg (by simpa using hne), ordered_eq h'.2.1 hfo hft, h'.2.2]
    refine z_ifr (xt_test (x_tagNoJoin (s := s) (b := false) (x_var rfl))) (fun e => ?_) fun e3 => ?_
    · have hok : TreeOk s ∨ s = .opn ∨ s = .sht := by
        by_cases h1 : s = .opn
        · exact .inr (.inl h1)
        · by_cases h2 : s = .sht
          · exact .inr (.inr h2)
          · exact .inl (norm_tree s hnm h1 h2)
      exact z_retx (x_call (xa_cons (x_var (i := 1) rfl) xa_nil) ⟨s, by omega, hok, hz, rfl, rfl⟩) ⟨⟨s, ⟨hok, fun h => h, made_self s hnm, Nat.le_refl _⟩, rfl⟩, hb.le (by simp only; omega)⟩
    obtain ⟨k, ps, rfl⟩ : ∃ k ps, s = .join k ps := by
      cases s with
      | join k ps => exact ⟨k, ps, rfl⟩
      | _ => cases e3
    have h' : 2 ≤ ps.length ∧ Norms k ps := hnm
    have hps := norms_iff.mp h'.2
    have hpt : ∀ p ∈ ps, TreeOk p := fun p hp => atom_tree (hps p hp).1 (hps p hp).2 fun h1 h2 => norm_tree p (hps p hp).1 h1 h2
    have hsz : sizes ps ≤ 14 := hz
    have hlen := sizes_len hpt
    have hb' : Bud (b + (lcs ps + 2 * ps.length + 2)) m := hb
    refine z_setx (d := .str (sgn k)) (x_signs (x_tag (s := .join k ps) (b := false) (x_var (i := 1) rfl))) ?_
    refine z_setE (P := fun d s1 => ∃ qs : List Sh, d = .lst ((qs.map txt).map Dt.str) ∧ Jn k qs (.join k ps) ∧ qs.length = ps.length ∧ s1.c = none ∧ Bud (b + (2 * ps.length + 2)) s1.m)
      (e_lc (xs_list (x_arg (s := .join k ps) (b := false) (x_var (i := 1) rfl) rfl)).E (fun ds i es s1 => ds = ps.map (dat false) ∧ ∃ qs : List Sh, es = (qs.map txt).map Dt.str ∧ qs.length = i ∧ qs.map made = ps.take i ∧ (∀ q ∈ qs, TreeOk q) ∧ sizes qs ≤ sizes (ps.take i) ∧ s1.c = none ∧ Bud (b + (lcs (ps.drop i) + 2 * ps.length + 2)) s1.m) ?_ ?_ ?_) ?_
    · rintro ds s1 ⟨rfl, rfl⟩
      exact ⟨rfl, [], rfl, rfl, by simp, (fun _ h => by cases h), by simp [sizes], rfl, hb'⟩
    · rintro ds i d es s1 hd ⟨rfl, qs, rfl, hql, hqm, hqt, hqz, hcs, hbs⟩
      have hil : i < ps.length := by
        have := (List.getElem?_eq_some_iff.mp hd).1
        simpa using this
      obtain ⟨p, hp2, rfl⟩ : ∃ p, ps[i]? = some p ∧ dat false p = d := by
        rw [List.getElem?_map, List.getElem?_eq_getElem hil] at hd
        exact ⟨_, List.getElem?_eq_getElem hil, by simpa using hd⟩
      have hpm := List.mem_of_getElem? hp2
      have hdp := dep_mem hpm
      have hpz := size_mem hpm
      have hd3 : deps ps + 1 < n + 1 := hdep
      have hdr : ps.drop i = p :: ps.drop (i + 1) := by
        have e := List.drop_eq_getElem_cons hil
        have e2 := List.getElem?_eq_getElem hil
        rw [hp2] at e2
        cases e2
        exact e
      rw [hdr] at hbs
      simp only [lcs] at hbs
      refine ⟨_, true, g_name (by simp), xt_yes, (fun z => by cases z), fun _ => ⟨by simp; omega, ?_⟩⟩
      refine e_callQ rfl (xa_cons (x_var (i := 11) rfl) xa_nil).E fun ds s2 ⟨e1, e2⟩ => ?_
      subst e1 e2
      refine ⟨rfl, hbs.kind, (b + (lcs (ps.drop (i + 1)) + 2 * ps.length + 2), p), ⟨rfl, by simp only; omega, (hps p hpm).1, by simp only; omega, hbs.le (by simp only; omega)⟩, ?_⟩
      rintro d m2 ⟨⟨t, hlo, rfl⟩, h2⟩
      have ht : ps.take (i + 1) = ps.take i ++ [p] := by
        rw [List.take_add_one, hp2]
        rfl
      refine ⟨rfl, qs ++ [t], by simp, by simp [hql], ?_, fun q hq => ?_, ?_, hcs, h2⟩
      · rw [ht, List.map_append, hqm]
        simp [hlo.eq]
      · rcases List.mem_append.mp hq with hq | hq
        · exact hqt q hq
        · rw [List.mem_singleton.mp hq]
          exact hlo.tr (hpt p hpm)
      · rw [ht, sizes_app, sizes_app]
        have h9 : size t ≤ size p := hlo.sz
        simp only [sizes]
        omega
    · rintro ds es s1 ⟨rfl, qs, rfl, hql, hqm, hqt, hqz, hcs, hbs⟩
      rw [List.length_map] at hql hqm hqz hbs
      rw [List.take_length] at hqm hqz
      rw [List.drop_length] at hbs
      simp only [lcs] at hbs
      refine ⟨qs, rfl, ⟨hqt, fun q hq => tree_plan q (hqt q hq), by omega, ?_, hqz⟩, hql, hcs, hbs.le (by omega)⟩
      rw [hqm, ← fl_joined fun p hp => (hps p hp).1]
      congr 1
      have := made_self _ hnm
      rw [show made (.join k ps) = joined k (mades ps) from rfl, mades_map] at this
      have e2 : ps.map made = ps := by
        conv => rhs; rw [← List.map_id ps]
        exact List.map_congr_left fun p hp => made_self p (hps p hp).1
      rwa [e2] at this
    rintro d s1 ⟨qs0, rfl, hj0, hql0, hcs0, hbs0⟩
    refine z_then (Pm := fun D' s' => ∃ (x9 x10 : SV) (qs : List Sh), D' = [.mem, .d (dat false (.join k ps)), .un, .un, .un, .un, .un, .d (.str (sgn k)), .d (.lst ((qs.map txt).map Dt.str)), x9, x10, .un] ∧ Jn k qs (.join k ps) ∧ s'.c = none ∧ Bud b s'.m)
      (z_while (fun D' s' => ∃ (x9 x10 : SV) (qs : List Sh), D' = [.mem, .d (dat false (.join k ps)), .un, .un, .un, .un, .un, .d (.str (sgn k)), .d (.lst ((qs.map txt).map Dt.str)), x9, x10, .un] ∧ Jn k qs (.join k ps) ∧ s'.c = none ∧ Bud (b + 2 * qs.length) s'.m) (fun D' _ => lenAt D') ?_ ?_) ?_
    · exact ⟨_, _, qs0, rfl, hj0, hcs0, hbs0.le (by omega)⟩
    · rintro D1 s1 ⟨x9, x10, qs, rfl, hj, hcs, hbs⟩
      have h2 := hj.two
      have hjl := sizes_len hj.ok
      have hjz : sizes qs ≤ sizes ps := hj.sz
      refine ⟨fun bb s2 => s2.c = none ∧ (bb = true → 2 < qs.length ∧ Bud (b + 2 * qs.length - 1) s2.m) ∧ Bud b s2.m, et_and (Pa := fun bb s2 => s2 = s1 ∧ bb = decide ((2 : Int) < (((qs.map txt).map Dt.str).length : Nat))) ?_ (fun s2 h => ?_) (fun s2 h => ?_), fun s2 h => ?_, fun s2 h => ?_⟩
      · exact (xt_test (x_gt (x_lenL (x_var (i := 8) rfl)) x_int)).E.imp fun bb s2 ⟨e1, e2⟩ => ⟨e2, e1⟩
      · obtain ⟨rfl, hlt⟩ := h
        have hlt2 : 2 < qs.length := by
          have := of_decide_eq_true hlt.symm
          simp only [List.length_map] at this
          omega
        refine et_test (e_opx (P1 := fun d s3 => (∃ r : Nat, d = .int (r : Int) ∧ (r : Int) < 2) ∧ s3.c = none ∧ Bud (b + 2 * qs.length - 1) s3.m) ((e_draw (b + 2 * qs.length - 1) rfl x_int (by decide) (by decide) (hbs.le (by omega))).imp fun d s3 h => ⟨h.1, by rw [h.2.1]; exact hcs, h.2.2⟩) x_int fun d s3 ⟨⟨r, e, _⟩, h3, h4⟩ => ?_)
        subst e
        exact ⟨_, x_eq (x_var rfl) (x_var rfl) cm_int cm_int, _, rfl, h3, fun _ => ⟨hlt2, h4⟩, h4.le (by omega)⟩
      · obtain ⟨rfl, _⟩ := h
        exact ⟨hcs, (fun z => by cases z), hbs.le (by omega)⟩
      · obtain ⟨hc2, hb2, _⟩ := h
        obtain ⟨hlt, hb2⟩ := hb2 rfl
        refine z_setE (P := fun d s3 => ∃ r : Nat, d = .int (r : Int) ∧ r + 1 < qs.length ∧ s3.c = none ∧ Bud (b + 2 * qs.length - 2) s3.m) ((e_draw (b + 2 * qs.length - 2) rfl (x_sub (x_lenL (x_var (i := 8) rfl)) x_int) (by simp only [List.length_map]; omega) (by simp only [List.length_map]; omega) (hb2.le (by omega))).imp ?_) ?_
        · rintro d s3 ⟨⟨r, e, hr2⟩, h3, h4⟩
          simp only [List.length_map] at hr2
          exact ⟨r, e, by omega, by rw [h3]; exact hc2, h4⟩
        rintro d s3 ⟨r, rfl, hr2, hc3, hb3⟩
        have hsp := split2 hr2
        have hx := hj.ok qs[r] (List.getElem_mem ..)
        have hy := hj.ok qs[r + 1] (List.getElem_mem ..)
        have hxl := txt_len _ hx
        have hyl := txt_len _ hy
        have hxm := size_mem (List.getElem_mem (h := show r < qs.length by omega))
        have hym := size_mem (List.getElem_mem (h := hr2))
        have hs3 : (sgn k).length = 3 := by cases k <;> rfl
        have et : txt (.join k [qs[r], qs[r + 1]]) = ((([40] ++ txt qs[r]) ++ sgn k) ++ txt qs[r + 1]) ++ [41] := by simp [txt, txts, TL.joinL]
        refine z_setx (d := .str (txt (.join k [qs[r], qs[r + 1]]))) ?_ ?_
        · rw [et]
          exact x_addS (x_addS (x_addS (x_addS (x_str rfl) (x_ixL (n := r) (x_var (i := 8) rfl) (x_var (i := 9) rfl) rfl (by simp [show r < qs.length by omega])) (by simp; omega)) (x_var (i := 7) rfl) (by simp; omega)) (x_ixL (n := r + 1) (x_var (i := 8) rfl) (x_addI (x_var (i := 9) rfl) x_int) (by omega) (by simp [hr2])) (by simp; omega)) (x_str rfl) (by simp; omega)
        · have hm : Jn k (qs.take r ++ .join k [qs[r], qs[r + 1]] :: qs.drop (r + 2)) (.join k ps) := Jn.merge (by rw [← hsp]; exact hj) (by rw [← hsp]; omega)
          refine z_set1 (d := .lst (((qs.take r ++ .join k [qs[r], qs[r + 1]] :: qs.drop (r + 2)).map txt).map Dt.str)) ?_ ⟨⟨_, _, _, rfl, hm, hc3, hb3.le (by simp; omega)⟩, ?_⟩
          · have e : (((qs.take r ++ .join k [qs[r], qs[r + 1]] :: qs.drop (r + 2)).map txt).map Dt.str) = ((((qs.map txt).map Dt.str).take r ++ [Dt.str (txt (.join k [qs[r], qs[r + 1]]))]) ++ ((qs.map txt).map Dt.str).drop (r + 2)) := by
              simp [List.map_take, List.map_drop]
            rw [e]
            refine x_addL (x_addL (x_lTo (x_var (i := 8) rfl) (x_var (i := 9) rfl)) (x_lst (xa_cons (x_var (i := 10) rfl) xa_nil) (by simp)) (by simp; omega)) (x_lFrom (j := r + 2) (x_var (i := 8) rfl) ?_) (by simp; omega)
            rw [show (((r + 2 : Nat) : Int)) = (r : Int) + 2 by omega]
            exact x_addI (x_var (i := 9) rfl) x_int
          · show List.length _ < List.length _
            simp
            omega
      · exact ⟨x9, x10, qs, rfl, hj, h.1, h.2.2⟩
    rintro D1 s1 ⟨x9, x10, qs, rfl, hj, hcs, hbs⟩
    have hjz : sizes qs ≤ sizes ps := hj.sz
    have htr : TreeOk (.join k qs) := ⟨hj.two, treeOks_iff.mpr hj.ok⟩
    have hjl := sizes_len hj.ok
    have hs3 : (sgn k).length = 3 := by cases k <;> rfl
    have hts := txt_len _ htr
    have e : txt (.join k qs) = ([40] ++ TL.joinL (sgn k) (qs.map txt)) ++ [41] := by simp [txt, txts_map]
    have hsum := txts_sum hj.ok
    rw [e] at hts
    simp only [size, List.length_append, List.length_cons, List.length_nil] at hts
    refine z_retx (d := .str (txt (.join k qs))) ?_ ⟨⟨.join k qs, ⟨.inl htr, fun _ => htr, hj.made hnm, hjz⟩, rfl⟩, hbs⟩
    rw [e]
    exact x_addS (x_addS (x_str rfl) (x_join (x_var (i := 7) rfl) (x_var (i := 8) rfl) (by rw [List.length_map, hs3]; omega)) (by simp only [List.length_cons, List.length_nil]; omega)) (x_str rfl) (by simp only [List.length_append, List.length_cons, List.length_nil]; omega)
end
end Wb

/-! Defs that are called where nothing is being shown: repr of what is read. -/
namespace Wb
open PySem PySem.Spec PyProof.Rows L2 SX
theorem deeper_guards (A : Around) (e : Env) : (A.deeper e).guards = A.guards := rfl
section
variable (P : Program) (w : World) (K : PySem.W.Frag) (mg : Str → Option Value) (base : Heap)
/-- a promise under an empty list of guards -/
structure FnG (k : Nat) (f : Addr) (fd : FuncData) (ps : List Str) (sp : Sp) : Prop where
  len : ∀ vs H Q E, sp vs H Q E → vs.length = ps.length
  go : ∀ (A : Around) (fr : List Env) (s : Shared) (H : Hp) (args : Args) (us : List Value) (vs : List V) (Q : VK) (E : XK), A.guards = some [] → Room k A →
    Env0 P w K mg base A fr s H → BindsTo s fd args (ps.zip us) → Vals vs us → sp vs H Q E → codeAny (model P w) A (.call (.ref f) args) (CR CX0 fr P w H s Q E) s
abbrev BdG (qual : Str) (st : Stmt) (N : List Str) (k : Nat) (sp : Sp) : Prop := ∀ (f : Addr) (cdv : Value) (A : Around) (outer : List Env) (s : Shared) (H : Hp) (vs : List V) (Q : VK) (E : XK), A.guards = some [] →
  Room k (A.deeper (envOfC qual (defScope st) s.heap.objs.size f cdv)) → sp vs H Q E →
    ∃ t, PSs (cxOf CX0 P w K mg base N qual (defScope st) f cdv A outer s H E).nox (defBody st) t ∧ t { nx := fun _ H' => Q .non H', rt := Q } (L2.start N vs) H
structure CalG (k : Nat) (x : Str) (sp : Sp) : Prop where
  ex : ∃ (f : Addr) (fd : FuncData) (ps : List Str), FnG P w K mg base k f fd ps sp ∧ Binds K fd ps [] ∧ mg x = some (.ref f) ∧ PySem.W.keepIn K (.ref f) = true
end
section
variable {P : Program} {w : World} {K : PySem.W.Frag} {mg : Str → Option Value} {base : Heap} {k : Nat}
theorem FnG.of {x qual : Str} {st : Stmt} {f : Addr} {fd : FuncData} {N ps : List Str} {sp : Sp} (F : L2.Fun K x qual st f fd) (S : FnScope N ps (defScope st)) (len : ∀ vs H Q E, sp vs H Q E → vs.length = ps.length)
    (hb : BdG P w K mg base qual st N k sp) : FnG P w K mg base (k + 1) f fd ps sp := by
  obtain ⟨oc, od, kV, doc, pm, an, cdv, ct, osl, rfl, lk, hcd⟩ := F.ex
  refine ⟨len, fun A fr s H args us vs Q E ga ro en bi rv pr => ?_⟩
  have inK : K.In s.heap := en.mod.kin.keeps fun b o e => (en.bs b o e).1
  have nl : s.heap.NoLimit := en.mod.nolimit.keeps fun b o e => (en.bs b o e).1
  refine codeAny_call_function ro.depth (inK _ _ lk) rfl S.co S.gen rfl (PySem.W.codeRec_of inK hcd) (bi _ _ _ _ ?_)
  refine wpAny_newFunctionEnv_cells S.kind (fun ⟨n, v⟩ hy => (S.par n (List.of_mem_zip hy).1).imp (fun q => q) fun q => ⟨q, PySem.W.cellsFrom_some _ _ _ (.inl q)⟩) fun env he s1 x => ?_
  cases he
  refine ⟨nl.keeps x.toInCall.keep, codeAny_func ?_⟩
  obtain ⟨t, pt, qt⟩ := hb f cdv A fr s H vs Q E ga (ro.deeper _) pr
  have I := inv_start (CX := CX0) (E := E) (cd := cdv) (qual := qual) (f := f) S ro.hd en (len _ _ _ _ pr) rv x
  refine wpAny_mono (pt.nox.run [] s1 (L2.start N vs) H _ I qt) (fun fl s2 hs => ?_) fun e s2 hs => hs
  have stop : ∀ {σ2 : L2.St} {H2 : Hp} {v : V} {u : Value}, Inv (cxOf CX0 P w K mg base N qual (defScope st) f cdv A fr s H E) [] σ2 H2 s2 → RelV v u → Q v H2 → CE fr P w H s Q u s2 :=
    fun J r q => ⟨_, _, J.os, J.bare, J.base, J.hok, r, q⟩
  cases fl with
  | ret u => obtain ⟨v, σ2, H2, J, r, q⟩ := hs; exact stop J r q
  | next => obtain ⟨σ2, H2, J, q⟩ := hs; exact stop (v := V.non) (u := Value.none) J rfl q
  | brk => obtain ⟨_, _, _, q⟩ := hs; exact q.elim
  | cont => obtain ⟨_, _, _, q⟩ := hs; exact q.elim
end
section
variable {X : Cx} {k j : Nat} {sp : Sp} {e : Expr} {es : List Expr} {ta : TE} {t : TA} {p pos : Pos} {x : Str}
theorem pe_g (F : CalG X.prog X.w X.K X.mg X.base k x sp) (ga : X.A.guards = some []) (hr : Room j X.A) (hk : k ≤ j) (hg : Gl X x) (ha : PA X (e :: es) t) (hd : (x == ("__debug__" : Str)) = false := by decide)
    (he : starEach (e :: es) X.env = (false, eval e X.env) :: starEach es X.env := by rfl) (hp : (backTo pos (starEach es X.env)).any (·.1) = false := by rfl) : PE X (.Call (.Name x p) (e :: es) [] pos) (tCall sp [] E0 t) := by
  obtain ⟨f, fd, ps, F, b, g, kp⟩ := F.ex
  refine ⟨fun pn s τ H Q I h => wpAny_Call_Name_kw (ld_glob I hg g (PySem.W.callWith_K (h₀ := X.base) I.ok.mod.kin kp (thn (ha.run pos pn s τ H _ I h) fun us s1 ⟨vs, H1, I1, r, q⟩ => ⟨I1.kIn, ?_⟩) he hp) hd)⟩
  replace q : sp vs H1 Q E0 := by
    have z : sp (vs ++ []) H1 Q E0 := q
    rwa [List.append_nil] at z
  refine wpAny_call (codeAny_mono (F.go X.A X.stack s1 H1 ⟨us, []⟩ us vs Q E0 ga (hr.mono hk) I1.env0 (by have z := b s1 us I1.kIn (by rw [List.append_nil, ← r.length]; exact F.len _ _ _ _ q); rwa [List.append_nil] at z) r q) fun o s2 hq => ?_)
  cases o with
  | error e => exact (show False from hq).elim
  | ok fl =>
    cases fl with
    | ret u => exact I1.after hq
    | _ => exact (show False from hq).elim
/-- repr of what is read deep -/
def rRepr (K : PySem.W.Frag) : List V → Hp → VK → Prop := fun xs H Q => ∃ a d, xs = [.ref a] ∧ Dp K H (.ref a) d ∧ d.showable = true ∧ d.hasDict = false ∧ d.depth ≤ 60 ∧ d.shown.length ≤ sizeLine ∧ Q (.str d.shown) H
theorem call_repr (ga : X.A.guards = some []) (hu : X.A.units + 64 < cLine) : CallR X (.builtin "repr") (rRepr X.K) := by
  intro pn s τ H xs us Q I r h
  obtain ⟨a, d, rfl, hd, h1, h2, h3, h4, q⟩ := h
  obtain ⟨u, rfl, ru⟩ := vals1 r
  cases ru
  obtain ⟨as, rd⟩ := Dp.reads I d _ _ hd rfl
  exact repr_of_reads' rd h1 (fun z => by rw [h2] at z; cases z) ga (by omega) (fun _ _ e => e) (fun h' u tk hk => ⟨.str d.shown, H, I.kept hk, ⟨_, rfl⟩, q⟩) h4
end
end Wb

/-! The law's trial of one web. -/
namespace Wb
open PySem PySem.Spec PyProof.Rows L2 SX
theorem num_short : ∀ u : Nat, u < 100 → decide ((PyData.shown (.int (u : Int))).length ≤ 13) = true := by decide +kernel
theorem num_log : ∀ u : Nat, u < 100 → decide (((u : Int)).natAbs.log2 < 1920) = true := by decide +kernel
theorem num_weight : ∀ u : Nat, u < 100 → PyData.weight (.int (u : Int)) ≤ 10 := by decide +kernel
theorem lk_shown : ∀ ls : List Lk, (∀ l ∈ ls, LkOk l) → PyData.showableAll (toPA (ls.map lkD)) = true ∧ PyData.hasDictAll (toPA (ls.map lkD)) = false ∧ PyData.leavesShortAll 13 (toPA (ls.map lkD)) = true ∧ PyData.weightAll (toPA (ls.map lkD)) ≤ 40 * ls.length
  | [], _ => ⟨rfl, rfl, rfl, Nat.zero_le _⟩
  | l :: r, h => by
    obtain ⟨i1, i2, i3, i4⟩ := lk_shown r fun x hx => h x (List.mem_cons_of_mem _ hx)
    have hl := h l (List.mem_cons_self ..)
    have hs : (S l.1).cps.toList.all (fun c => decide (c < 16 ^ 8)) = true := by
      rw [List.all_eq_true]
      intro x hx
      have hx2 : x ∈ l.1 := by simpa using hx
      have := hl.nm.let_ x hx2
      exact decide_eq_true (by omega)
    have hw : l.1.toArray.size ≤ 8 := by
      have := hl.nm.le
      simpa using this
    have w1 := num_weight _ hl.u
    have w2 := num_weight _ hl.v
    simp only [PyData.weight] at w1 w2
    refine ⟨?_, ?_, ?_, ?_⟩
    · simp only [List.map_cons, toPA, lkD, toP, PyData.showableAll, PyData.showable, i1, num_log _ hl.u, num_log _ hl.v, Bool.and_true]
    · simp only [List.map_cons, toPA, lkD, toP, PyData.hasDictAll, PyData.hasDict, i2, Bool.or_false]
    · simp only [List.map_cons, toPA, lkD, toP, PyData.leavesShortAll, PyData.leavesShort, i3, hs, num_short _ hl.u, num_short _ hl.v, Bool.and_true]
    · simp only [List.map_cons, toPA, lkD, toP, PyData.weightAll, PyData.weight, List.length_cons]
      omega
theorem call_reprK {X : Cx} {K : PySem.W.Frag} (hK : X.K = K) (ga : X.A.guards = some []) (hu : X.A.units + 64 < cLine) : CallR X (.builtin "repr") (rRepr K) := by subst hK; exact call_repr ga hu
section
variable {c : Cf} {P : Program} {w : World} {mg : Str → Option Value} {base : Heap} {D : List SV} {s : Sto} {ta tb te : TE} {k : Nat} {sp : Sp}
/-- repr(a) == repr(b), a and b links alike -/
theorem x_reprs {ls : List Lk} (ok : ∀ l ∈ ls, LkOk l) (hl : ls.length ≤ 60) (ha : X c ta D (.tup (ls.map lkD))) (hb : X c tb D (.tup (ls.map lkD))) : X c (tOp rEq (tCB (rRepr c.K) (tCons ta tNil)) (tCB (rRepr c.K) (tCons tb tNil))) D (.bl true) := fun W o p st H Q l a k => by
  obtain ⟨h1, h2, h3, h4⟩ := lk_shown ls ok
  have tm : Tm (.tup (ls.map lkD)) = true := (cm_lks ok).tm
  have h5 : (toP (.tup (ls.map lkD))).shown.length ≤ sizeLine := PyData.shown_fits (B := 13) (by decide) (by decide) (by simpa only [toP, PyData.leavesShort] using h3) (by simp only [toP, PyData.weight]; omega)
  have h6 : (toP (.tup (ls.map lkD))).depth ≤ 60 := by
    rw [dpt_eq _ tm]
    exact (cm_lks ok).dp
  refine ha W o p st H _ l a fun x H1 e1 rx => ?_
  have dx := Dp.unhide (hide_sub (W := W)) (rx.dp tm)
  cases rx
  refine ⟨_, toP (.tup (ls.map lkD)), rfl, dx, by simpa only [toP, PyData.showable] using h1, by simpa only [toP, PyData.hasDict] using h2, h6, h5, ?_⟩
  refine hb W o p st H1 _ (l.same e1) (a.mono (hide_same e1)) fun y H2 e2 ry => ?_
  have dy := Dp.unhide (hide_sub (W := W)) (ry.dp tm)
  cases ry
  refine ⟨_, toP (.tup (ls.map lkD)), rfl, dy, by simpa only [toP, PyData.showable] using h1, by simpa only [toP, PyData.hasDict] using h2, h6, h5, rfl, ?_⟩
  rw [decide_eq_true rfl]
  exact k _ H2 (e1.trans e2) (.bl true)
theorem e_read {P1 : Dt → Sto → Prop} {PP : Dt → Sto → Prop} (h : E c te D s P1) (hr : ∀ d s1, P1 d s1 → ∃ sh : Sh, d = .str (txt sh) ∧ (TreeOk sh ∨ sh = .opn ∨ sh = .sht) ∧ size sh ≤ 14 ∧ PP (.web (dat true (made sh))) s1) : E c (ClX.tCMeth c.C (spRd c) E0 (tC (.ref c.C)) (tCons te tNil)) D s PP := fun W o p st H Q a k =>
  ⟨rfl, h W o p st H _ a fun v H1 d s1 p1 sp a1 r => by
    obtain ⟨sh, rfl, h1, h2, h3⟩ := hr d s1 p1
    exact ⟨v, eff W o s1, sh, rfl, a1.lv, r, h1, h2, fun v' H2 e2 r2 => k v' H2 _ s1 h3 (sp.trans a1 (.pure e2)) (a1.same e2) r2⟩⟩
theorem mk_lawG {x : Str} {j : Nat} {N ps : List Str} (T : Tx c w mg) (i : Nat) (S : FnScope N ps (defScope (top j))) (hb : BindOk x x (top j) ps) (len : ∀ vs H Q E, sp vs H Q E → vs.length = ps.length)
    (h : BdG P w c.K mg base x (top j) N k sp) (hi : lawDefs[i]? = some (x, j) := by rfl) : CalG P w c.K mg base (k + 1) x sp := by
  obtain ⟨f, fd, F, g⟩ := T.lf hi
  exact ⟨f, fd, ps, FnG.of F S len h, F.binds hb, g, F.kp⟩
abbrev InRight : Nat × Sh → List Dt → Mem → Prop := fun x ds m => ds = [dat false x.2] ∧ Pl x.2 ∧ size x.2 ≤ 14 ∧ Bud (x.1 + 300) m
abbrev OutRight : Nat × Sh → Dt → Mem → Prop := fun x d m => d = .bl true ∧ Bud x.1 m
abbrev s__law_right : Stmt := top 93
abbrev N__law_right : List Str := ["_law_pen_here", "_law_plan_here", "_law_due", "_law_made_here", "_law_text", "_law_again", "_law_found"]
theorem sc__law_right : FnScope N__law_right ["_law_pen_here", "_law_plan_here"] (defScope s__law_right) := ⟨rfl, rfl, rfl, by decide +kernel, rfl, by decide +kernel, by decide +kernel⟩

theorem c__law_right (T : Tx c w mg) : CalG P w c.K mg base 48 "_law_right" (spQ c 1 InRight OutRight) := by
  have c__law_made := c__law_made (P := P) (base := base) T 21
  have c__law_web := c__law_web (P := P) (base := base) T 21
  have c__law_shown := c__law_shown (P := P) (base := base) T 21
  have c__law_loosely := c__law_loosely (P := P) (base := base) T 21 (by decide)
  have sp_str := sp_str (P := P) (base := base) T
  have sp_eq := sp_eq (P := P) (base := base) T
  have k_read := k_read (P := P) (base := base) T
  have p_kind := p_kind (P := P) (base := base) T
  have p_links := p_links (P := P) (base := base) T
  refine mk_lawG (k := 47) T 15 sc__law_right (fun _ _ _ _ _ _ us hl => match us, hl with | [_, _], _ => rfl) spQ_len fun f cdv A outer s H vs Q E ga hr h => ⟨_, PSs.nox (pss_cons (ps_par (i := 2) (j := 3) rfl sc__law_right.nd rfl rfl (by decide) rfl rfl (pa_cons (pe_c c__law_made hr (by first | decide | omega) (by rfl) (pa_cons (pv 1) pa_nil)) (pa_cons (pe_c c__law_web hr (by first | decide | omega) (by rfl) (pa_cons (pv 1) pa_nil)) pa_nil)) (by rfl)) 
      (pss_cons (ps_set (i := 4) sc__law_right.nd rfl (by first | exact Or.inl rfl | exact Or.inr rfl) (pe_c c__law_shown hr (by first | decide | omega) (by rfl) (pa_cons (pv 2) pa_nil))) 
      (pss_cons (ps_if (PW.pt (pw_or (pt_cmpR (op_neDK (K := c.K) rfl hr.units) (pe_callTy (call_strO sp_str hr (by first | decide | omega)) (by rfl) T.b_str boot_str (pa_cons (pv 3) pa_nil)) (pv 4) (nomark _)) (pw_or (pt_not (pt_cmpR (op_eq2 sp_eq hr (by first | decide | omega) T.nf) (pe_cm k_read hr (by first | decide | omega) T.rd (pe_glob (v := .ref c.C) (by rfl) T.mC rfl) (pa_cons (pv 4) pa_nil)) (pv 3) (nomark _))) (pw_or1 (pt_cmpR (op_neDK (K := c.K) rfl hr.units) (pe_callTy (call_strO sp_str hr (by first | decide | omega)) (by rfl) T.b_str boot_str (pa_cons (pe_cm k_read hr (by first | decide | omega) T.rd (pe_glob (v := .ref c.C) (by rfl) T.mC rfl) (pa_cons (pv 4) pa_nil)) pa_nil)) (pv 4) (nomark _))))))
        (pss_one (ps_ret pe_bl))
        pss_nil) 
      (pss_cons (ps_for PassesOwn.never rfl (pi_range1 rfl T.b_range (pa_cons pe_int pa_nil)) (pg_name (i := 5) sc__law_right.nd rfl (by first | exact Or.inl rfl | exact Or.inr rfl))
        (pss_cons (ps_set (i := 6) sc__law_right.nd rfl (by first | exact Or.inl rfl | exact Or.inr rfl) (pe_cm k_read hr (by first | decide | omega) T.rd (pe_glob (v := .ref c.C) (by rfl) T.mC rfl) (pa_cons (pe_c c__law_loosely hr (by first | decide | omega) (by rfl) (pa_cons (pv 0) (pa_cons (pv 2) pa_nil))) pa_nil))) 
        (pss_one (ps_if (PW.pt (pw_or (pt_not (pt_cmpR (op_eq2 sp_eq hr (by first | decide | omega) T.nf) (pv 6) (pv 3) (nomark _))) (pw_or (pt_cmpR (op_neDK (K := c.K) rfl hr.units) (pe_pr p_kind hr (by first | decide | omega) T.cw (pv 6)) (pe_ix (ix_seqK (K := c.K) rfl) (pv 2) pe_int (fun _ _ => rfl)) (nomark _)) (pw_or1 (pt_cmpR (op_neDK (K := c.K) rfl hr.units) (pe_callTy (call_strO sp_str hr (by first | decide | omega)) (by rfl) T.b_str boot_str (pa_cons (pv 6) pa_nil)) (pv 4) (nomark _))))))
          (pss_one (ps_ret pe_bl))
          pss_nil)))) 
      (pss_one (ps_ret (pe_and (pe_cmpR (op_eqDK (K := c.K) rfl hr.units) (pe_callTy (call_strO sp_str hr (by first | decide | omega)) (by rfl) T.b_str boot_str (pa_cons (pv 3) pa_nil)) (pv 4) (nomark _)) (pe_one (pe_cmpR op_eq (pe_callB (call_reprK (K := c.K) rfl ga hr.units) (by rfl) T.b_repr boot_repr (pa_cons (pe_pr p_links hr (by first | decide | omega) T.cw (pv 3)) pa_nil)) (pe_callB (call_reprK (K := c.K) rfl ga hr.units) (by rfl) T.b_repr boot_repr (pa_cons (pe_pr p_links hr (by first | decide | omega) T.cw (pe_cm k_read hr (by first | decide | omega) T.rd (pe_glob (v := .ref c.C) (by rfl) T.mC rfl) (pa_cons (pv 4) pa_nil))) pa_nil)) (nomark _)))))))))), body_q h fun x ds m hn hk hR => ?_⟩
  obtain ⟨b, s⟩ := x
  obtain ⟨rfl, hp, hz, hb⟩ := hR
  simp only at hp hz hb
  have hnm := made_norm s hp.ok
  have hsm : size (made s) ≤ 14 := Nat.le_trans (size_made s hp.ok) hz
  have hdm := norm_dep hnm hsm
  have hok : TreeOk (made s) ∨ made s = .opn ∨ made s = .sht := by
    by_cases h1 : made s = .opn
    · exact .inr (.inl h1)
    · by_cases h2 : made s = .sht
      · exact .inr (.inr h2)
      · exact .inl (norm_tree _ hnm h1 h2)
  have hmm := made_self _ hnm
  have cmt : Cm (.str (txt (made s))) := cm_str (by
    rcases hok with h | h | h
    · exact txt_asc _ h
    · rw [h]; exact tag_asc .opn
    · rw [h]; exact tag_asc .sht)
  have cmd : Cm (dat true (made s)) := cm_dat (norm_plan _ hnm) (by omega)
  have dt : deq (.str (txt (made s))) (.str (txt (made s))) = true := deq_self _ cmt.tm
  have dd : deq (dat true (made s)) (dat true (made s)) = true := deq_self _ cmd.tm
  have dk : deq (.str (tag (made s))) (.str (tag (made s))) = true := deq_self _ (cm_str (tag_asc (made s))).tm
  have hdp := hp.dp
  obtain ⟨lok, llen⟩ := laidM_ok hnm hsm
  refine z_par (d1 := dat false (made s)) (d2 := .web (dat true (made s))) (xa_cons (x_call (xa_cons (x_var (i := 1) rfl) xa_nil) ⟨s, by omega, hp, hz, rfl, rfl⟩) (xa_cons (x_call (xa_cons (x_var (i := 1) rfl) xa_nil) ⟨s, by omega, hp, hz, rfl, rfl⟩) xa_nil)) ?_
  refine z_setx (d := .str (txt (made s))) (x_call (xa_cons (x_var (i := 2) rfl) xa_nil) ⟨made s, by omega, hok, hsm, rfl, rfl⟩) ?_
  have xr : ∀ {D : List SV} {te : TE}, X c te D (.str (txt (made s))) → X c (ClX.tCMeth c.C (spRd c) E0 (tC (.ref c.C)) (tCons te tNil)) D (.web (dat true (made s))) := fun h => by
    have z := x_read h hok hsm
    rwa [hmm] at z
  have xs' : ∀ {D : List SV} {te : TE}, X c te D (.web (dat true (made s))) → X c (tCB (rStrO c.C (spP c 1 RelSt)) (tCons te tNil)) D (.str (txt (made s))) := fun h => x_strW h ⟨made s, hnm, hsm, rfl, rfl⟩
  have xe : ∀ {D : List SV} {ta tb : TE}, X c ta D (.web (dat true (made s))) → X c tb D (.web (dat true (made s))) → X c (tOp (rOwn2 c.C (spP c 2 RelEq)) ta tb) D (.bl true) := fun h1 h2 => x_own2 h1 h2 ⟨_, _, cmd, cmd, rfl, by rw [dd]⟩
  have xn : ∀ {D : List SV} {ta tb : TE}, X c ta D (.str (txt (made s))) → X c tb D (.str (txt (made s))) → X c (tOp (rNeD c.K) ta tb) D (.bl false) := fun h1 h2 => by
    have z := x_ne h1 h2 cmt cmt
    rwa [dt] at z
  refine z_ifr (b := false) (xt_or (b := false) (b2 := false) (xt_test (xn (xs' (x_var (i := 3) rfl)) (x_var (i := 4) rfl))) fun _ => xt_or (b := false) (b2 := false) (xt_not (b := true) (xt_test (xe (xr (x_var (i := 4) rfl)) (x_var (i := 3) rfl)))) fun _ => xt_test (xn (xs' (xr (x_var (i := 4) rfl))) (x_var (i := 4) rfl))) (fun z => by cases z) fun _ => ?_
  refine z_then (Pm := fun D' s' => (∃ x y : SV, D' = [.mem, .d (dat false s), .d (dat false (made s)), .d (.web (dat true (made s))), .d (.str (txt (made s))), x, y]) ∧ s'.c = none ∧ Bud b s'.m)
    (z_for (vs := [5]) (es_range (P := fun d s1 => d = .int ((2 : Nat) : Int) ∧ s1 = ⟨none, m⟩) (x_int (i := 2)).E fun d s1 h => ⟨2, h.1, by omega⟩) (fun ds i D' s' => ds = rgD 2 ∧ (∃ x y : SV, D' = [.mem, .d (dat false s), .d (dat false (made s)), .d (.web (dat true (made s))), .d (.str (txt (made s))), x, y]) ∧ s'.c = none ∧ Bud (b + 150 * (2 - i)) s'.m)
      ?_ ?_ ?_) ?_
  · rintro ds s1 ⟨n, ⟨e1, e2⟩, _, e3⟩
    have : n = 2 := by injection e1 with e1; omega
    subst this e2 e3
    exact ⟨rfl, ⟨_, _, rfl⟩, rfl, hb⟩
  · rintro ds i d D1 s1 hd ⟨rfl, ⟨x, y, rfl⟩, hcs, hbs⟩
    obtain ⟨hi, rfl⟩ := rgD_at hd
    refine ⟨_, g_name (by simp), ?_⟩
    have hlc : lc (made s) ≤ 140 := by
      rcases hok with h | h | h
      · have := lc_le _ h
        omega
      · rw [h]; decide
      · rw [h]; decide
    refine z_setE (P := fun d s2 => d = .web (dat true (made s)) ∧ s2.c = none ∧ Bud (b + 150 * (2 - (i + 1))) s2.m) (e_read (P1 := fun d s2 => (∃ t : Sh, Lo (made s) t ∧ d = .str (txt t)) ∧ s2.c = none ∧ Bud (b + 150 * (2 - (i + 1))) s2.m) (e_callQ rfl (xa_cons (x_var (i := 2) rfl) xa_nil).E fun ds s2 ⟨e1, e2⟩ => ?_) ?_) ?_
    · subst e1 e2
      exact ⟨rfl, hbs.kind, (b + 150 * (2 - (i + 1)), made s), ⟨rfl, by simp only; omega, hnm, hsm, hbs.le (by simp only; omega)⟩, fun d m2 ⟨h1, h2⟩ => ⟨h1, hcs, h2⟩⟩
    · rintro d s2 ⟨⟨t, hlo, rfl⟩, h2, h3⟩
      exact ⟨t, rfl, hlo.ok, Nat.le_trans hlo.sz hsm, by rw [hlo.eq], h2, h3⟩
    rintro d s2 ⟨rfl, hc2, hb2⟩
    refine z_ifx (b := false) (xt_or (b := false) (b2 := false) (xt_not (b := true) (xt_test (xe (x_var (i := 6) rfl) (x_var (i := 3) rfl)))) fun _ => xt_or (b := false) (b2 := false) (xt_test ?_) fun _ => xt_test (xn (xs' (x_var (i := 6) rfl)) (x_var (i := 4) rfl))) (fun z => by cases z) fun _ => z_nextx ⟨rfl, ⟨_, _, rfl⟩, hc2, hb2⟩
    have z := x_ne (c := c) (x_prop (x_var (i := 6) (D := [.mem, .d (dat false s), .d (dat false (made s)), .d (.web (dat true (made s))), .d (.str (txt (made s))), .d (.int (i : Int)), .d (.web (dat true (made s)))]) rfl) (Rel := fun ds d => ∃ s, ds = [.web (dat true s)] ∧ d = .str (tag s)) ⟨made s, rfl, rfl⟩) (x_tag (s := made s) (b := false) (x_var (i := 2) rfl)) (cm_str (tag_asc (made s))) (cm_str (tag_asc (made s)))
    rwa [dk] at z
  · rintro ds D1 s1 ⟨rfl, h1, h2, h3⟩
    exact ⟨h1, h2, h3.le (by omega)⟩
  rintro D1 s1 ⟨⟨x, y, rfl⟩, hcs, hbs⟩
  have xl : ∀ {D : List SV} {te : TE}, X c te D (.web (dat true (made s))) → X c (tProp c.C (spP c 1 fun ds d => ∃ s, Norm s ∧ size s ≤ 14 ∧ ds = [.web (dat true s)] ∧ d = .tup ((laidM s).map lkD)) [] E0 te) D (.tup ((laidM (made s)).map lkD)) := fun h => x_prop h ⟨made s, hnm, hsm, rfl, rfl⟩
  refine z_retx (d := .bl true) (x_andV (b := true) (b2 := true) ?_ fun _ => x_reprs lok (by omega) (xl (x_var (i := 3) rfl)) (xl (xr (x_var (i := 4) rfl)))) ⟨rfl, hbs⟩
  have z := x_eq (c := c) (xs' (x_var (i := 3) (D := [.mem, .d (dat false s), .d (dat false (made s)), .d (.web (dat true (made s))), .d (.str (txt (made s))), x, y]) rfl)) (x_var (i := 4) rfl) cmt cmt
  rwa [dt] at z
end
end Wb

/-! The law's trial of deep webs. -/
namespace Wb
open PySem PySem.Spec PyProof.Rows L2 SX
/-- deep trees -/
structure Dp2 (n : Nat) (A : Sh) : Prop where
  ok : TreeOk A
  nar : Nar A
  dp : dep A = n
  sz : size A = n + 1
theorem Dp2.left {n : Nat} {A : Sh} (h : Dp2 n A) (k : Bool) {z : List Nat} (hz : NameOk z) : Dp2 (n + 1) (.join k [A, .link z]) := by
  refine ⟨⟨by simp, treeOks_iff.mpr fun q hq => ?_⟩, ⟨by simp, nars_iff.mpr fun q hq => ?_⟩, ?_, ?_⟩
  · rcases List.mem_cons.mp hq with rfl | hq
    · exact h.ok
    · rw [List.mem_singleton.mp hq]; exact hz
  · rcases List.mem_cons.mp hq with rfl | hq
    · exact h.nar
    · rw [List.mem_singleton.mp hq]; exact trivial
  · simp [dep, deps, h.dp]
  · simp [size, sizes, h.sz]
theorem Dp2.right {n : Nat} {A : Sh} (h : Dp2 n A) (k : Bool) {z : List Nat} (hz : NameOk z) : Dp2 (n + 1) (.join k [.link z, A]) := by
  refine ⟨⟨by simp, treeOks_iff.mpr fun q hq => ?_⟩, ⟨by simp, nars_iff.mpr fun q hq => ?_⟩, ?_, ?_⟩
  · rcases List.mem_cons.mp hq with rfl | hq
    · exact hz
    · rw [List.mem_singleton.mp hq]; exact h.ok
  · rcases List.mem_cons.mp hq with rfl | hq
    · exact trivial
    · rw [List.mem_singleton.mp hq]; exact h.nar
  · simp [dep, deps, h.dp]
  · simp [size, sizes, h.sz]
    omega
theorem Dp2.pl {n : Nat} {A : Sh} (h : Dp2 n A) (hn : n ≤ 20) : Pl A := ⟨tree_plan A h.ok, h.nar, by rw [h.dp]; exact hn⟩
section
variable {c : Cf} {P : Program} {w : World} {mg : Str → Option Value} {base : Heap}
def kOf (i : Nat) : Bool := decide (i % 2 = 0)
theorem x_kind {D : List SV} {te : TE} {i : Nat} (h : X c te D (.int (i : Int))) : X c (tOp (rIx c.K) (tLst (tCons (tC (.str "row")) (tCons (tC (.str "bunch")) tNil))) (tOp (rI (fun _ j => j ≠ 0) fun i j => .int (i.fmod j)) (tCB rIntU (tCons te tNil)) (tC (.int 2)))) D (.str (kn (kOf i))) := by
  refine x_ixL (n := i % 2) (x_lst (xa_cons (x_str (l := nRow) rfl) (xa_cons (x_str (l := nBunch) rfl) xa_nil)) (by simp)) (x_modN (m := 2) (x_intI h) x_int (by decide)) rfl ?_
  unfold kOf
  rcases Nat.mod_two_eq_zero_or_one i with e | e <;> rw [e] <;> rfl
theorem x_sgn {D : List SV} {te : TE} {i : Nat} (h : X c te D (.int (i : Int))) : X c (tOp (rIx c.K) (tLst (tCons (tC (.str " & ")) (tCons (tC (.str " | ")) tNil))) (tOp (rI (fun _ j => j ≠ 0) fun i j => .int (i.fmod j)) (tCB rIntU (tCons te tNil)) (tC (.int 2)))) D (.str (sgn (kOf i))) := by
  refine x_ixL (n := i % 2) (x_lst (xa_cons (x_str (l := [32, 38, 32]) rfl) (xa_cons (x_str (l := [32, 124, 32]) rfl) xa_nil)) (by simp)) (x_modN (m := 2) (x_intI h) x_int (by decide)) rfl ?_
  unfold kOf
  rcases Nat.mod_two_eq_zero_or_one i with e | e <;> rw [e] <;> rfl
abbrev RelDeep (ds : List Dt) (d : Dt) : Prop := ∃ ws : List (List Nat), ws ≠ [] ∧ ws.length ≤ 9 ∧ (∀ z ∈ ws, NameOk z) ∧ ds = [.lst (ws.map Dt.str)] ∧ d = .bl true
abbrev s__law_deep_right : Stmt := top 94
abbrev N__law_deep_right : List Str := ["_law_called", "_law_text", "_law_due", "_law_back", "_law_back_due", "_law_k", "_law_kind", "_law_name", "_law_between", "_law_links", "_law_words_here", "_law_net_here", "_law_sign", "_law_u", "_law_v"]
theorem sc__law_deep_right : FnScope N__law_deep_right ["_law_called"] (defScope s__law_deep_right) := ⟨rfl, rfl, rfl, by decide +kernel, rfl, by decide +kernel, by decide +kernel⟩

theorem c__law_deep_right (T : Tx c w mg) : Cal P w c.K mg base 48 "_law_deep_right" (spP c 1 RelDeep) := by
  have c__law_made := c__law_made (P := P) (base := base) T 21
  have c__law_shown := c__law_shown (P := P) (base := base) T 21
  have sp_str := sp_str (P := P) (base := base) T
  have sp_eq := sp_eq (P := P) (base := base) T
  have k_read := k_read (P := P) (base := base) T
  have t_net := t_net (P := P) (base := base) T
  refine mk_law (k := 47) T 16 sc__law_deep_right (fun _ _ _ _ _ _ us hl => match us, hl with | [_], _ => rfl) spP_len fun f cdv A outer s H vs Q E hr h => ⟨_, PSs.nox (pss_cons (ps_par (i := 1) (j := 2) rfl sc__law_deep_right.nd rfl rfl (by decide) rfl rfl (pa_cons (pe_ix (ix_seqK (K := c.K) rfl) (pv 0) pe_int (fun _ _ => rfl)) (pa_cons (pe_tup (pa_cons pe_str (pa_cons (pe_ix (ix_seqK (K := c.K) rfl) (pv 0) pe_int (fun _ _ => rfl)) pa_nil))) pa_nil)) (by rfl)) 
      (pss_cons (ps_par (i := 3) (j := 4) rfl sc__law_deep_right.nd rfl rfl (by decide) rfl rfl (pa_cons (pv 1) (pa_cons (pv 2) pa_nil)) (by rfl)) 
      (pss_cons (ps_for PassesOwn.never rfl (pi_range1 rfl T.b_range (pa_cons pe_int pa_nil)) (pg_name (i := 5) sc__law_deep_right.nd rfl (by first | exact Or.inl rfl | exact Or.inr rfl))
        (pss_cons (ps_par (i := 6) (j := 7) rfl sc__law_deep_right.nd rfl rfl (by decide) rfl rfl (pa_cons (pe_ix (ix_seqK (K := c.K) rfl) (pe_lst (pa_cons pe_str (pa_cons pe_str pa_nil))) (pe_op op_modN (pe_callTy call_intU (by rfl) T.b_int boot_int (pa_cons (pv 5) pa_nil)) pe_int) (fun _ _ => rfl)) (pa_cons (pe_ix (ix_seqK (K := c.K) rfl) (pv 0) (pe_op op_modN (pe_callTy call_intU (by rfl) T.b_int boot_int (pa_cons (pe_op op_addU (pv 5) pe_int) pa_nil)) (pe_callB (call_lenK (K := c.K) rfl) (by rfl) T.b_len boot_len (pa_cons (pv 0) pa_nil))) (fun _ _ => rfl)) pa_nil)) (by rfl)) 
        (pss_cons (ps_set (i := 8) sc__law_deep_right.nd rfl (by first | exact Or.inl rfl | exact Or.inr rfl) (pe_ix (ix_seqK (K := c.K) rfl) (pe_lst (pa_cons pe_str (pa_cons pe_str pa_nil))) (pe_op op_modN (pe_callTy call_intU (by rfl) T.b_int boot_int (pa_cons (pv 5) pa_nil)) pe_int) (fun _ _ => rfl))) 
        (pss_cons (ps_set (i := 1) sc__law_deep_right.nd rfl (by first | exact Or.inl rfl | exact Or.inr rfl) (pe_op op_addU (pe_op op_addU (pe_op op_addU (pe_op op_addU pe_str (pv 1)) (pv 8)) (pv 7)) pe_str)) 
        (pss_cons (ps_set (i := 2) sc__law_deep_right.nd rfl (by first | exact Or.inl rfl | exact Or.inr rfl) (pe_tup (pa_cons (pv 6) (pa_cons (pe_lst (pa_cons (pv 2) (pa_cons (pe_tup (pa_cons pe_str (pa_cons (pv 7) pa_nil))) pa_nil))) pa_nil)))) 
        (pss_cons (ps_set (i := 3) sc__law_deep_right.nd rfl (by first | exact Or.inl rfl | exact Or.inr rfl) (pe_op op_addU (pe_op op_addU (pe_op op_addU (pe_op op_addU pe_str (pv 7)) (pv 8)) (pv 3)) pe_str)) 
        (pss_one (ps_set (i := 4) sc__law_deep_right.nd rfl (by first | exact Or.inl rfl | exact Or.inr rfl) (pe_tup (pa_cons (pv 6) (pa_cons (pe_lst (pa_cons (pe_tup (pa_cons pe_str (pa_cons (pv 7) pa_nil))) (pa_cons (pv 4) pa_nil))) pa_nil))))))))))) 
      (pss_cons (ps_set (i := 9) sc__law_deep_right.nd rfl (by first | exact Or.inl rfl | exact Or.inr rfl) (pe_lst pa_nil)) 
      (pss_cons (ps_for PassesOwn.never rfl (pi_range1 rfl T.b_range (pa_cons pe_int pa_nil)) (pg_name (i := 5) sc__law_deep_right.nd rfl (by first | exact Or.inl rfl | exact Or.inr rfl))
        (pss_one (ps_expr (pe_bmK (K := c.K) rfl PySem.F.plainAttrs_list PySem.F.slot_list_append PySem.F.type_list_append mt_append (pv 9) (pa_cons (pe_tup (pa_cons (pe_ix (ix_seqK (K := c.K) rfl) (pv 0) (pe_op op_modN (pe_callTy call_intU (by rfl) T.b_int boot_int (pa_cons (pv 5) pa_nil)) (pe_callB (call_lenK (K := c.K) rfl) (by rfl) T.b_len boot_len (pa_cons (pv 0) pa_nil))) (fun _ _ => rfl)) (pa_cons (pe_op op_sub pe_int (pv 5)) (pa_cons (pe_op op_sub pe_int (pe_op op_mulU pe_int (pv 5))) pa_nil)))) pa_nil))))) 
      (pss_cons (ps_setLc (i := 10) (own := [("_law_sign", 12), ("_law_u", 13), ("_law_v", 14)]) rfl sc__law_deep_right.nd rfl rfl (sw_true rfl rfl rfl (by decide +kernel)) (pi_listK (K := c.K) rfl (pv 9)) (blkOk_by (own := [("_law_sign", 12), ("_law_u", 13), ("_law_v", 14)]) (N := N__law_deep_right) (sc := defScope s__law_deep_right) (by decide +kernel)) (fun _ _ _ _ _ => (pg_tupK (n := 3) (K := c.K) rfl rfl (pgs_cons (pg_name (i := 12) sc__law_deep_right.nd rfl (by first | exact Or.inl rfl | exact Or.inr rfl)) (pgs_cons (pg_name (i := 13) sc__law_deep_right.nd rfl (by first | exact Or.inl rfl | exact Or.inr rfl)) (pgs_cons (pg_name (i := 14) sc__law_deep_right.nd rfl (by first | exact Or.inl rfl | exact Or.inr rfl)) pgs_nil))))) (fun _ _ _ _ _ => pts_nil) (fun _ _ _ _ _ => (pe_op op_addU (pe_op op_addU (pe_op op_addU (pe_op op_addU (pe_callTy call_strU (by rfl) T.b_str boot_str (pa_cons (pv 13) pa_nil)) pe_str) (pv 12)) pe_str) (pe_callTy call_strU (by rfl) T.b_str boot_str (pa_cons (pv 14) pa_nil))))) 
      (pss_cons (ps_set (i := 11) sc__law_deep_right.nd rfl (by first | exact Or.inl rfl | exact Or.inr rfl) (pe_cm k_read hr (by first | decide | omega) T.rd (pe_glob (v := .ref c.C) (by rfl) T.mC rfl) (pa_cons (pe_op op_addU (pe_op op_addU pe_str (pe_join pe_str (pv 10))) pe_str) pa_nil))) 
      (pss_cons (ps_if (pt_cmpR (op_neDK (K := c.K) rfl hr.units) (pe_callTy (call_strO sp_str hr (by first | decide | omega)) (by rfl) T.b_str boot_str (pa_cons (pe_cm k_read hr (by first | decide | omega) T.rd (pe_glob (v := .ref c.C) (by rfl) T.mC rfl) (pa_cons (pv 3) pa_nil)) pa_nil)) (pe_c c__law_shown hr (by first | decide | omega) (by rfl) (pa_cons (pe_c c__law_made hr (by first | decide | omega) (by rfl) (pa_cons (pv 4) pa_nil)) pa_nil)) (nomark _))
        (pss_one (ps_ret pe_bl))
        pss_nil) 
      (pss_one (ps_ret (pe_and (pe_cmpR (op_eqDK (K := c.K) rfl hr.units) (pe_callTy (call_strO sp_str hr (by first | decide | omega)) (by rfl) T.b_str boot_str (pa_cons (pe_cm k_read hr (by first | decide | omega) T.rd (pe_glob (v := .ref c.C) (by rfl) T.mC rfl) (pa_cons (pv 1) pa_nil)) pa_nil)) (pe_c c__law_shown hr (by first | decide | omega) (by rfl) (pa_cons (pe_c c__law_made hr (by first | decide | omega) (by rfl) (pa_cons (pv 2) pa_nil)) pa_nil)) (nomark _)) (pe_one (pe_cmpR (op_eq2 sp_eq hr (by first | decide | omega) T.nf) (pv 11) (pe_sm t_net hr (by first | decide | omega) T.rd (pe_glob (v := .ref c.C) (by rfl) T.mC rfl) (pa_cons (pv 9) pa_nil)) (nomark _)))))))))))))), body_p h fun ds d hn hR => ?_⟩
  obtain ⟨ws, hne, hlen, hok, rfl, rfl⟩ := hR
  have hl0 : 0 < ws.length := List.length_pos_iff.mpr hne
  have hmod : ∀ i, i % ws.length < ws.length := fun i => Nat.mod_lt _ hl0
  obtain ⟨n0, hn0⟩ : ∃ n0, ws[0]? = some n0 := ⟨ws[0], List.getElem?_eq_getElem hl0⟩
  have ok0 := hok n0 (List.mem_of_getElem? hn0)
  have xnm : ∀ {D : List SV} {te : TE} {i : Nat}, D[0]? = some (.d (.lst (ws.map Dt.str))) → X c te D (.int (i : Int)) → X c (tOp (rIx c.K) (tVar 0) (tOp (rI (fun _ j => j ≠ 0) fun i j => .int (i.fmod j)) (tCB rIntU (tCons te tNil)) (tCB (fun xs H Q => ∃ x n, xs = [x] ∧ LenV c.K x H n ∧ Q (.int n) H) (tCons (tVar 0) tNil)))) D (.str (ws[i % ws.length]'(hmod i))) := fun {D te i} h0 h => by
    have z := x_lenL (c := c) (x_var h0)
    rw [List.length_map] at z
    exact x_ixL (n := i % ws.length) (x_var h0) (x_modN (x_intI h) z hl0) rfl (by simp [hmod i])
  refine z_par (d1 := .str n0) (d2 := dat false (.link n0)) (xa_cons (x_ixL (n := 0) (x_var (i := 0) rfl) x_int rfl (by simp [hn0])) (xa_cons (x_tup (xa_cons (x_str (l := nLink) rfl) (xa_cons (x_ixL (n := 0) (x_var (i := 0) rfl) x_int rfl (by simp [hn0])) xa_nil)) (by simp)) xa_nil)) ?_
  refine z_par (d1 := .str n0) (d2 := dat false (.link n0)) (xa_cons (x_var (i := 1) rfl) (xa_cons (x_var (i := 2) rfl) xa_nil)) ?_
  refine z_then (Pm := fun D' s' => (∃ (x5 x6 x7 x8 : SV) (A B : Sh), Dul x5 ∧ Dul x6 ∧ Dul x7 ∧ Dul x8 ∧ Dp2 13 A ∧ Dp2 13 B ∧ D' = [.d (.lst (ws.map Dt.str)), .d (.str (txt A)), .d (dat false A), .d (.str (txt B)), .d (dat false B), x5, x6, x7, x8, .un, .un, .un, .un, .un, .un]) ∧ s' = ⟨none, .no⟩)
    (z_for (vs := [5]) (es_range (P := fun d s1 => d = .int ((13 : Nat) : Int) ∧ s1 = ⟨none, .no⟩) (x_int (i := 13)).E fun d s1 h => ⟨13, h.1, by omega⟩) (fun ds i D' s' => ds = rgD 13 ∧ (∃ (x5 x6 x7 x8 : SV) (A B : Sh), Dul x5 ∧ Dul x6 ∧ Dul x7 ∧ Dul x8 ∧ Dp2 i A ∧ Dp2 i B ∧ D' = [.d (.lst (ws.map Dt.str)), .d (.str (txt A)), .d (dat false A), .d (.str (txt B)), .d (dat false B), x5, x6, x7, x8, .un, .un, .un, .un, .un, .un]) ∧ s' = ⟨none, .no⟩) ?_ ?_ ?_) ?_
  · rintro ds s1 ⟨n, ⟨e1, e2⟩, _, e3⟩
    have : n = 13 := by injection e1 with e1; omega
    subst this e2 e3
    exact ⟨rfl, ⟨_, _, _, _, .link n0, .link n0, .inl rfl, .inl rfl, .inl rfl, .inl rfl, ⟨ok0, trivial, rfl, rfl⟩, ⟨ok0, trivial, rfl, rfl⟩, rfl⟩, rfl⟩
  · rintro ds i d D1 s1 hd ⟨rfl, ⟨x5, x6, x7, x8, A, B, h5, h6, h7, h8, hA, hB, rfl⟩, rfl⟩
    obtain ⟨hi, rfl⟩ := rgD_at hd
    refine ⟨_, g_name (by simp), ?_⟩
    have hnm : NameOk (ws[(i + 1) % ws.length]'(hmod (i + 1))) := hok _ (List.getElem_mem ..)
    refine z_par (d1 := .str (kn (kOf i))) (d2 := .str (ws[(i + 1) % ws.length]'(hmod (i + 1)))) (xa_cons (x_kind (x_var (i := 5) rfl)) (xa_cons (xnm rfl (i := i + 1) (show X c _ _ (.int ((i : Int) + 1)) from x_addI (x_var (i := 5) rfl) x_int)) xa_nil)) ?_
    generalize ws[(i + 1) % ws.length]'(hmod (i + 1)) = nm at hnm
    refine z_setx (d := .str (sgn (kOf i))) (x_sgn (x_var (i := 5) rfl)) ?_
    generalize kOf i = k
    have tA := txt_len A hA.ok
    have tB := txt_len B hB.ok
    rw [hA.sz] at tA
    rw [hB.sz] at tB
    have hs3 : (sgn k).length = 3 := by cases k <;> rfl
    have hn8 := hnm.le
    have eA : txt (.join k [A, .link nm]) = ((([40] ++ txt A) ++ sgn k) ++ nm) ++ [41] := by simp [txt, txts, TL.joinL]
    have eB : txt (.join k [.link nm, B]) = ((([40] ++ nm) ++ sgn k) ++ txt B) ++ [41] := by simp [txt, txts, TL.joinL]
    refine z_setx (d := .str (txt (.join k [A, .link nm]))) ?_ ?_
    · rw [eA]
      exact x_addS (x_addS (x_addS (x_addS (x_str rfl) (x_var (i := 1) rfl) (by simp; omega)) (x_var (i := 8) rfl) (by simp; omega)) (x_var (i := 7) rfl) (by simp; omega)) (x_str rfl) (by simp; omega)
    refine z_setx (d := dat false (.join k [A, .link nm])) ?_ ?_
    · rw [show dat false (.join k [A, .link nm]) = .tup [.str (kn k), .lst [dat false A, .tup [.str nLink, .str nm]]] by simp [dat, dats, seqD]]
      exact x_tup (xa_cons (x_var (i := 6) rfl) (xa_cons (x_lst (xa_cons (x_var (i := 2) rfl) (xa_cons (x_tup (xa_cons (x_str (l := nLink) rfl) (xa_cons (x_var (i := 7) rfl) xa_nil)) (by simp)) xa_nil)) (by simp)) xa_nil)) (by simp)
    refine z_setx (d := .str (txt (.join k [.link nm, B]))) ?_ ?_
    · rw [eB]
      exact x_addS (x_addS (x_addS (x_addS (x_str rfl) (x_var (i := 7) rfl) (by simp; omega)) (x_var (i := 8) rfl) (by simp; omega)) (x_var (i := 3) rfl) (by simp; omega)) (x_str rfl) (by simp; omega)
    refine z_set1 (d := dat false (.join k [.link nm, B])) ?_ ⟨rfl, ⟨_, _, _, _, _, _, .inr ⟨_, rfl⟩, .inr ⟨_, rfl⟩, .inr ⟨_, rfl⟩, .inr ⟨_, rfl⟩, hA.left k hnm, hB.right k hnm, rfl⟩, rfl⟩
    rw [show dat false (.join k [.link nm, B]) = .tup [.str (kn k), .lst [.tup [.str nLink, .str nm], dat false B]] by simp [dat, dats, seqD]]
    exact x_tup (xa_cons (x_var (i := 6) rfl) (xa_cons (x_lst (xa_cons (x_tup (xa_cons (x_str (l := nLink) rfl) (xa_cons (x_var (i := 7) rfl) xa_nil)) (by simp)) (xa_cons (x_var (i := 4) rfl) xa_nil)) (by simp)) xa_nil)) (by simp)
  · rintro ds D1 s1 ⟨rfl, h1, h2⟩
    exact ⟨h1, h2⟩
  rintro D1 s1 ⟨⟨x5, x6, x7, x8, A, B, h5, h6, h7, h8, hA, hB, rfl⟩, rfl⟩
  refine z_newx rfl ?_ (by rcases h5 with rfl | ⟨_, rfl⟩ <;> rcases h6 with rfl | ⟨_, rfl⟩ <;> rcases h7 with rfl | ⟨_, rfl⟩ <;> rcases h8 with rfl | ⟨_, rfl⟩ <;> rfl)
  refine z_then (Pm := fun D' s' => (∃ x5 : SV, Dul x5 ∧ D' = [.d (.lst (ws.map Dt.str)), .d (.str (txt A)), .d (dat false A), .d (.str (txt B)), .d (dat false B), x5, x6, x7, x8, .own, .un, .un, .un, .un, .un]) ∧ ∃ ls : List Lk, ls.length = 14 ∧ (∀ l ∈ ls, LkOk l) ∧ s' = ⟨some (ls.map lkD), .no⟩)
    (z_for (vs := [5]) (es_range (P := fun d s1 => d = .int ((14 : Nat) : Int) ∧ s1 = ⟨some [], .no⟩) (x_int (i := 14)).E fun d s1 h => ⟨14, h.1, by omega⟩) (fun ds i D' s' => ds = rgD 14 ∧ (∃ x5 : SV, Dul x5 ∧ D' = [.d (.lst (ws.map Dt.str)), .d (.str (txt A)), .d (dat false A), .d (.str (txt B)), .d (dat false B), x5, x6, x7, x8, .own, .un, .un, .un, .un, .un]) ∧ ∃ ls : List Lk, ls.length = i ∧ (∀ l ∈ ls, LkOk l) ∧ s' = ⟨some (ls.map lkD), .no⟩) ?_ ?_ ?_) ?_
  · rintro ds s1 ⟨n, ⟨e1, e2⟩, _, e3⟩
    have : n = 14 := by injection e1 with e1; omega
    subst this e2 e3
    exact ⟨rfl, ⟨_, h5, rfl⟩, [], rfl, (fun _ h => by cases h), rfl⟩
  · rintro ds i d D1 s1 hd ⟨rfl, ⟨y5, _, rfl⟩, ls, hll, hlo, rfl⟩
    obtain ⟨hi, rfl⟩ := rgD_at hd
    refine ⟨_, g_name (by simp), ?_⟩
    have hnm : NameOk (ws[i % ws.length]'(hmod i)) := hok _ (List.getElem_mem ..)
    refine z_app1 (ds := ls.map lkD) (j := 9) (d := lkD (ws[i % ws.length]'(hmod i), 99 - i, 90 - 3 * i)) rfl rfl (by rw [List.length_map]; omega) ?_ ⟨rfl, ⟨_, .inr ⟨_, rfl⟩, rfl⟩, ls ++ [(ws[i % ws.length]'(hmod i), 99 - i, 90 - 3 * i)], by simp [hll], fun l hl => ?_, by simp⟩
    · refine x_tup (xa_cons (xnm rfl (x_var (i := 5) rfl)) (xa_cons ?_ (xa_cons ?_ xa_nil))) (by simp)
      · have e : (((99 - i : Nat) : Int)) = 99 - (i : Int) := by omega
        show X c _ _ (.int ((99 - i : Nat) : Int))
        rw [e]
        exact x_sub x_int (x_var (i := 5) rfl)
      · have e : (((90 - 3 * i : Nat) : Int)) = 90 - 3 * (i : Int) := by omega
        show X c _ _ (.int ((90 - 3 * i : Nat) : Int))
        rw [e]
        exact x_sub x_int (x_mulI x_int (x_var (i := 5) rfl) (.inl (by decide)))
    · rcases List.mem_append.mp hl with hl | hl
      · exact hlo l hl
      · rw [List.mem_singleton.mp hl]
        exact ⟨hnm, by simp only; omega, by simp only; omega⟩
  · rintro ds D1 s1 ⟨rfl, h1, ls, h2, h3, h4⟩
    exact ⟨h1, ls, h2, h3, h4⟩
  rintro D1 s1 ⟨⟨y5, hy5, rfl⟩, ls, hll, hlo, rfl⟩
  refine z_freeze (j := 9) rfl rfl (by rcases hy5 with rfl | ⟨_, rfl⟩ <;> rcases h6 with rfl | ⟨_, rfl⟩ <;> rcases h7 with rfl | ⟨_, rfl⟩ <;> rcases h8 with rfl | ⟨_, rfl⟩ <;> rfl) ?_
  have hlne : ls ≠ [] := fun z => by rw [z] at hll; cases hll
  have tn : TreeOk (.net ls) := ⟨hlne, hlo⟩
  refine z_setx (d := .lst ((ls.map lkT).map Dt.str)) ?_ ?_
  · rw [List.map_map]
    refine x_each (F := lkD) (G2 := fun l => Dt.str (lkT l)) (xs_list (x_var (i := 9) rfl)) (by omega) fun l hl => ⟨_, g_lk l (by simp) (by simp) (by simp), ?_⟩
    have hk := hlo l hl
    have h1 := num_len _ hk.u
    have h2 := num_len _ hk.v
    have h3 := hk.nm.le
    have hu := hk.u
    have hv := hk.v
    rw [show lkT l = (((TL.numL l.2.1 ++ [45]) ++ l.1) ++ [45]) ++ TL.numL l.2.2 by simp [lkT]]
    exact x_addS (x_addS (x_addS (x_addS (x_strI (x_var (i := 13) rfl) (by omega)) (x_str rfl) (by simp; omega)) (x_var (i := 12) rfl) (by simp; omega)) (x_str rfl) (by simp; omega)) (x_strI (x_var (i := 14) rfl) (by omega)) (by simp; omega)
  have e : txt (.net ls) = ([91] ++ TL.joinL [32] (ls.map lkT)) ++ [93] := by simp [txt]
  have hts := txt_len (.net ls) tn
  rw [e] at hts
  simp only [size, List.length_append, List.length_cons, List.length_nil] at hts
  have hs := sum_le (fun z : List Nat => z.length) 14 (ls.map lkT) fun z hz => by
    obtain ⟨l, hl, rfl⟩ := List.mem_map.mp hz
    exact lkT_len (hlo l hl)
  rw [List.length_map] at hs
  refine z_setx (d := .web (dat true (made (.net ls)))) (x_read (sh := .net ls) ?_ (.inl tn) (by show ls.length ≤ 14; omega)) ?_
  · rw [e]
    exact x_addS (x_addS (x_str rfl) (x_join (x_str rfl) (x_var (i := 10) rfl) (by simp only [List.length_map, List.length_cons, List.length_nil]; omega)) (by simp only [List.length_cons, List.length_nil]; omega)) (x_str rfl) (by simp only [List.length_append, List.length_cons, List.length_nil]; omega)
  have side : ∀ {C : Sh} {D : List SV} {ta tb : TE}, Dp2 13 C → X c ta D (.str (txt C)) → X c tb D (dat false C) → Norm (made C) ∧ size (made C) ≤ 14 ∧ Cm (.str (txt (made C))) ∧
      X c (tCB (rStrO c.C (spP c 1 RelSt)) (tCons (ClX.tCMeth c.C (spRd c) E0 (tC (.ref c.C)) (tCons ta tNil)) tNil)) D (.str (txt (made C))) ∧
      X c (tCall (spP c 1 (RelShown 21)) [] E0 (tCons (tCall (spP c 1 (RelMade 21)) [] E0 (tCons tb tNil)) tNil)) D (.str (txt (made C))) := fun {C D ta tb} h h1 h2 => by
    have hp := tree_plan C h.ok
    have hnm := made_norm C hp
    have hsz : size C ≤ 14 := by rw [h.sz]; decide
    have hsm := Nat.le_trans (size_made C hp) hsz
    have hdm := norm_dep hnm hsm
    have hok2 : TreeOk (made C) ∨ made C = .opn ∨ made C = .sht := by
      by_cases h1 : made C = .opn
      · exact .inr (.inl h1)
      · by_cases h2 : made C = .sht
        · exact .inr (.inr h2)
        · exact .inl (norm_tree _ hnm h1 h2)
    refine ⟨hnm, hsm, cm_str ?_, x_strW (x_read h1 (.inl h.ok) hsz) ⟨made C, hnm, hsm, rfl, rfl⟩, x_call (xa_cons (x_call (xa_cons h2 xa_nil) ⟨C, by rw [h.dp]; decide, h.pl (by decide), hsz, rfl, rfl⟩) xa_nil) ⟨made C, by omega, hok2, hsm, rfl, rfl⟩⟩
    rcases hok2 with h | h | h
    · exact txt_asc _ h
    · rw [h]; exact tag_asc .opn
    · rw [h]; exact tag_asc .sht
  have zb : ∀ {D : List SV} {ta tb : TE}, X c ta D (.str (txt B)) → X c tb D (dat false B) → X c (tOp (rNeD c.K) (tCB (rStrO c.C (spP c 1 RelSt)) (tCons (ClX.tCMeth c.C (spRd c) E0 (tC (.ref c.C)) (tCons ta tNil)) tNil)) (tCall (spP c 1 (RelShown 21)) [] E0 (tCons (tCall (spP c 1 (RelMade 21)) [] E0 (tCons tb tNil)) tNil))) D (.bl false) := fun h1 h2 => by
    obtain ⟨_, _, cb, b1, b2⟩ := side hB h1 h2
    have z := x_ne b1 b2 cb cb
    rwa [deq_self _ cb.tm] at z
  have za : ∀ {D : List SV} {ta tb : TE}, X c ta D (.str (txt A)) → X c tb D (dat false A) → X c (tOp (rEqD c.K) (tCB (rStrO c.C (spP c 1 RelSt)) (tCons (ClX.tCMeth c.C (spRd c) E0 (tC (.ref c.C)) (tCons ta tNil)) tNil)) (tCall (spP c 1 (RelShown 21)) [] E0 (tCons (tCall (spP c 1 (RelMade 21)) [] E0 (tCons tb tNil)) tNil))) D (.bl true) := fun h1 h2 => by
    obtain ⟨_, _, cb, b1, b2⟩ := side hA h1 h2
    have z := x_eq b1 b2 cb cb
    rwa [deq_self _ cb.tm] at z
  refine z_ifr (b := false) (xt_test (zb (x_var (i := 3) rfl) (x_var (i := 4) rfl))) (fun z => by cases z) fun _ => ?_
  have hnn := made_norm (.net ls) hlo
  have hns : size (made (.net ls)) ≤ 14 := Nat.le_trans (size_made (.net ls) hlo) (by show ls.length ≤ 14; omega)
  have hnd := norm_dep hnn hns
  have cmn : Cm (dat true (made (.net ls))) := cm_dat (norm_plan _ hnn) (by omega)
  refine z_retx (d := .bl true) (x_andV (b := true) (b2 := true) (za (x_var (i := 1) rfl) (x_var (i := 2) rfl)) fun _ => ?_) rfl
  exact x_own2 (x_var (i := 11) rfl) (x_sm (xa_cons (x_var (i := 9) rfl) xa_nil) ⟨ls, by omega, hlo, rfl, rfl⟩) ⟨_, _, cmn, cmn, rfl, by rw [deq_self _ cmn.tm]⟩
end
end Wb

/-! The law. -/
namespace Wb
open PySem PySem.Spec PyProof.Rows L2 SX
/-- a new pen over the script -/
def spPen (c : Cf) : Sp := fun vs H Q _ => ∃ (a : Addr) (ns : List Int), vs = [.ref a] ∧ SqL c.K H a (ns.map V.int) ∧
  ∀ (q l : Addr) (H2 : Hp), H q = none → Same H H2 → H2 q = some (.lst [.ref l, .int 0, .int 0]) → H2 l = some (.lst ((ns.take 63).map V.int)) → l ≠ q → Q (.ref q) H2
/-- the law -/
def spLaw (c : Cf) : Sp := fun vs H Q _ => ∃ (a : Addr) (ns : List Int), vs = [.ref a] ∧ SqL c.K H a (ns.map V.int) ∧ ∀ H2, Q (.bl true) H2
section
variable {c : Cf} {P : Program} {w : World} {mg : Str → Option Value} {base : Heap}
abbrev s__law_pen : Stmt := top 78
abbrev N__law_pen : List Str := ["_law_script"]
theorem sc__law_pen : FnScope N__law_pen ["_law_script"] (defScope s__law_pen) := ⟨rfl, rfl, rfl, by decide +kernel, rfl, by decide +kernel, by decide +kernel⟩

theorem c__law_pen (T : Tx c w mg) : Cal P w c.K mg base 1 "_law_pen" (spPen c) := by
  refine mk_law (k := 0) T 0 sc__law_pen (fun _ _ _ _ _ _ us hl => match us, hl with | [_], _ => rfl) (fun vs H Q E h => by obtain ⟨_, _, rfl, _⟩ := h; rfl) fun f cdv A outer s H vs Q E hr h => ⟨_, PSs.nox (pss_one (ps_ret (pe_lst (pa_cons (pe_callTy (call_lstK (K := c.K) rfl) (by rfl) T.b_list boot_list (pa_cons (pe_slice sl_list (pv 0) po_none (po_some pe_int)) pa_nil)) (pa_cons pe_int (pa_cons pe_int pa_nil)))))), ?_⟩
  obtain ⟨a, ns, rfl, hs, k⟩ := h
  refine ⟨.ref a, rfl, 63, rfl, a, _, rfl, hs, fun p1 hp1 => ⟨p1, _, rfl, .inl (SqL.of upd_same), fun l hl => ?_⟩⟩
  refine ⟨(by show 3 ≤ sizeLine; decide), fun q hq => ?_⟩
  have e : cutV (ns.map V.int) none (some 63) = (ns.take 63).map V.int := by
    rw [show (63 : Int) = ((63 : Nat) : Int) from rfl, cutV_to, List.map_take]
  rw [e] at hq ⊢
  have hlq : l ≠ q := fun z => by
    subst z
    rw [upd_same] at hq
    cases hq
  have s1 : Same H (upd (upd H p1 (.lst ((ns.take 63).map V.int))) l (.lst ((ns.take 63).map V.int))) := by
    refine (same_upd hp1).trans (same_upd ?_)
    rw [e] at hl
    exact hl
  refine k q l _ ?_ (s1.trans (same_upd hq)) upd_same ?_ hlq
  · exact s1.free hq
  · rw [upd_ne hlq]
    exact upd_same
theorem z_pen {ts : TS} {q l : Addr} {H2 : Hp} {ns : List Int} {D : List SV} {st : L2.St} {Q : VK} {nx : L2.St → Hp → Prop} (h : Z c ts D ⟨none, .pen 4000000⟩ (fun _ _ => False) (fun d _ => d = .bl true)) (h2 : H2 q = some (.lst [.ref l, .int 0, .int 0])) (hl : H2 l = some (.lst (ns.map V.int))) (hz : ns.length ≤ 63) (hne : l ≠ q)
    (sl : ∀ (i : Nat) (z : SV), D[i]? = some z → ∃ x, st[i]? = some x ∧ SlOk c 0 q (hide (add (fun _ => false) q) H2) z x) (k : ∀ H3, Q (.bl true) H3) : ts { nx := nx, rt := Q } st H2 := by
  have hcell : MemAt c q (add (fun _ => false) q) H2 (.pen 4000000) := ⟨add_self, l, ns, 0, 0, h2, SqL.of (hide_at hl (by rw [add_ne hne])), hz, by decide, by decide, by decide⟩
  refine h (add (fun _ => false) q) 0 q st H2 _ ⟨fun b hb => ?_, (fun _ e => nomatch e), hcell, fun _ => add_self, sl⟩ (fun _ _ _ _ _ z => z.elim) fun o2 v H3 d s2 e sp a2 r => ?_
  · by_cases e : b = q
    · subst e; rw [h2]; simp
    · rw [add_ne e] at hb; cases hb
  · subst e
    cases r
    exact k H3
theorem z_penA {t1 t2 : TS} {j : Nat} {q l : Addr} {H2 : Hp} {ns : List Int} {D : List SV} {st : L2.St} {Q : VK} {nx : L2.St → Hp → Prop} (h : Z c (tSeq t1 t2) D ⟨none, .pen 4000000⟩ (fun _ _ => False) (fun d _ => d = .bl true)) (h2 : H2 q = some (.lst [.ref l, .int 0, .int 0])) (hl : H2 l = some (.lst (ns.map V.int))) (hz : ns.length ≤ 63) (hne : l ≠ q)
    (sl : ∀ (i : Nat) (z : SV), D[i]? = some z → ∃ x, (st.set j (some (.ref q)))[i]? = some x ∧ SlOk c 0 q (hide (add (fun _ => false) q) H2) z x) (k : ∀ H3, Q (.bl true) H3) : gName j (.ref q) st H2 (tSeq t1 t2 { nx := nx, rt := Q }) := z_pen h h2 hl hz hne sl k
abbrev s_law : Stmt := top 95
abbrev N_law : List Str := ["_law_script", "_law_pen_here", "_law_again", "_law_called", "_law_plan_here", "_law_text"]
theorem sc_law : FnScope N_law ["_law_script"] (defScope s_law) := ⟨rfl, rfl, rfl, by decide +kernel, rfl, by decide +kernel, by decide +kernel⟩

theorem c_law (T : Tx c w mg) : CalG P w c.K mg base 52 "law" (spLaw c) := by
  have c__law_pen := c__law_pen (P := P) (base := base) T
  have c__law_draw := c__law_draw (P := P) (base := base) T
  have c__law_pick := c__law_pick (P := P) (base := base) T
  have c__law_words := c__law_words (P := P) (base := base) T
  have c__law_plan := c__law_plan (P := P) (base := base) T 6 (by decide)
  have c__law_right := c__law_right (P := P) (base := base) T
  have c__law_deep_right := c__law_deep_right (P := P) (base := base) T
  have sp_str := sp_str (P := P) (base := base) T
  have k_read := k_read (P := P) (base := base) T
  have t_always := t_always (P := P) (base := base) T
  have t_never := t_never (P := P) (base := base) T
  refine mk_lawG (k := 51) T 17 sc_law (fun _ _ _ _ _ _ us hl => match us, hl with | [_], _ => rfl) (fun vs H Q E h => by obtain ⟨_, _, rfl, _⟩ := h; rfl) fun f cdv A outer s H vs Q E ga hr h => ⟨_, PSs.nox (pss_cons (ps_set (i := 1) sc_law.nd rfl (by first | exact Or.inl rfl | exact Or.inr rfl) (pe_c c__law_pen hr (by first | decide | omega) (by rfl) (pa_cons (pv 0) pa_nil))) 
      (pss_cons (ps_for PassesOwn.never rfl (pi_range1 rfl T.b_range (pa_cons pe_int pa_nil)) (pg_name (i := 2) sc_law.nd rfl (by first | exact Or.inl rfl | exact Or.inr rfl))
        (pss_cons (ps_set (i := 3) sc_law.nd rfl (by first | exact Or.inl rfl | exact Or.inr rfl) (pe_c c__law_words hr (by first | decide | omega) (by rfl) (pa_cons (pv 1) (pa_cons (pe_op op_addU pe_int (pe_c c__law_draw hr (by first | decide | omega) (by rfl) (pa_cons (pv 1) (pa_cons pe_int pa_nil)))) pa_nil)))) 
        (pss_cons (ps_set (i := 4) sc_law.nd rfl (by first | exact Or.inl rfl | exact Or.inr rfl) (pe_c c__law_plan hr (by first | decide | omega) (by rfl) (pa_cons (pv 1) (pa_cons (pv 3) (pa_cons (pe_c c__law_pick hr (by first | decide | omega) (by rfl) (pa_cons (pv 1) (pa_cons (pe_lst (pa_cons pe_int (pa_cons pe_int (pa_cons pe_int (pa_cons pe_int pa_nil))))) pa_nil))) (pa_cons pe_int pa_nil)))))) 
        (pss_one (ps_if (PW.pt (pw_or (pt_not (pt_val (pe_g c__law_right ga hr (by first | decide | omega) (by rfl) (pa_cons (pv 1) (pa_cons (pv 4) pa_nil))))) (pw_or1 (pt_not (pt_val (pe_c c__law_deep_right hr (by first | decide | omega) (by rfl) (pa_cons (pv 3) pa_nil)))))))
          (pss_one (ps_ret pe_bl))
          pss_nil))))) 
      (pss_one (ps_ret (pe_cmpR (op_eqDK (K := c.K) rfl hr.units) (pe_lc (own := [("_law_text", 5)]) rfl sc_law.nd (pi_listK (K := c.K) rfl (pe_lst (pa_cons pe_str (pa_cons pe_str pa_nil)))) (blkOk_by (own := [("_law_text", 5)]) (N := N_law) (sc := defScope s_law) (by decide +kernel)) (fun _ _ _ _ _ => (pg_name (i := 5) sc_law.nd rfl (by first | exact Or.inl rfl | exact Or.inr rfl))) (fun _ _ _ _ _ => pts_nil) (fun _ _ _ _ _ => (pe_callTy (call_strO sp_str hr (by first | decide | omega)) (by rfl) T.b_str boot_str (pa_cons (pe_cm k_read hr (by first | decide | omega) T.rd (pe_glob (v := .ref c.C) (by rfl) T.mC rfl) (pa_cons (pv 5) pa_nil)) pa_nil)))) (pe_lst (pa_cons (pe_callTy (call_strO sp_str hr (by first | decide | omega)) (by rfl) T.b_str boot_str (pa_cons (pe_sm0 t_always hr (by first | decide | omega) T.rd (pe_glob (v := .ref c.C) (by rfl) T.mC rfl)) pa_nil)) (pa_cons (pe_callTy (call_strO sp_str hr (by first | decide | omega)) (by rfl) T.b_str boot_str (pa_cons (pe_sm0 t_never hr (by first | decide | omega) T.rd (pe_glob (v := .ref c.C) (by rfl) T.mC rfl)) pa_nil)) pa_nil))) (nomark _)))))), ?_⟩
  obtain ⟨a, ns, rfl, hs, hQ⟩ := h
  refine ⟨.ref a, rfl, ?_⟩
  refine ⟨a, ns, rfl, hs, fun q l H2 hq hsm h2 hl hne => ?_⟩
  dsimp only
  refine z_penA (c := c) (D := [.un, .mem, .un, .un, .un, .un]) (l := l) (ns := ns.take 63) ?_ h2 hl (by rw [List.length_take]; omega) hne (fun i z hz => ?_) hQ
  · refine z_then (Pm := fun D' s' => (∃ x2 x3 x4 : SV, D' = [.un, .mem, x2, x3, x4, .un]) ∧ s'.c = none ∧ Bud 0 s'.m)
      (z_for (vs := [2]) (es_range (P := fun d s1 => d = .int ((6 : Nat) : Int) ∧ s1 = ⟨none, .pen 4000000⟩) (x_int (i := 6)).E fun d s1 h => ⟨6, h.1, by omega⟩) (fun ds i D' s' => ds = rgD 6 ∧ (∃ x2 x3 x4 : SV, D' = [.un, .mem, x2, x3, x4, .un]) ∧ s'.c = none ∧ Bud (200000 * (6 - i)) s'.m) ?_ ?_ ?_) ?_
    · rintro ds s1 ⟨n, ⟨e1, e2⟩, _, e3⟩
      have : n = 6 := by injection e1 with e1; omega
      subst this e2 e3
      exact ⟨rfl, ⟨_, _, _, rfl⟩, rfl, 4000000, rfl, by omega⟩
    · rintro ds i d D1 s1 hd ⟨rfl, ⟨x2, x3, x4, rfl⟩, hcs, hbs⟩
      obtain ⟨hi, rfl⟩ := rgD_at hd
      have hpc : pc 5 = 187500 := rfl
      refine ⟨_, g_name (by simp), ?_⟩
      refine z_setE (P := fun d s2 => ∃ ws : List (List Nat), d = .lst (ws.map Dt.str) ∧ ws ≠ [] ∧ ws.length ≤ 9 ∧ (∀ z ∈ ws, NameOk z) ∧ s2.c = none ∧ Bud (200000 * (6 - i) - 20) s2.m)
        (e_callQ rfl (PB := fun ds s2 => ∃ r : Nat, ds = [.int ((1 + r : Nat) : Int)] ∧ r < 9 ∧ s2.c = none ∧ Bud (200000 * (6 - i) - 1) s2.m) (ea_cons (P2 := fun _ s2 ds s3 => ds = [] ∧ s3 = s2) (P1 := fun d s2 => ∃ r : Nat, d = .int ((1 + r : Nat) : Int) ∧ r < 9 ∧ s2.c = none ∧ Bud (200000 * (6 - i) - 1) s2.m) (e_xop (d := .int 1) x_int (P2 := fun d s2 => ∃ r : Nat, d = .int (r : Int) ∧ r < 9 ∧ s2.c = none ∧ Bud (200000 * (6 - i) - 1) s2.m) ((e_draw (200000 * (6 - i) - 1) rfl x_int (by decide) (by decide) (hbs.le (by omega))).imp ?_) ?_) (fun _ _ _ => ea_nil ⟨rfl, rfl⟩) ?_) ?_) ?_
      · rintro d s2 ⟨⟨r, e, hr2⟩, h2, h3⟩
        exact ⟨r, e, by omega, by rw [h2]; exact hcs, h3⟩
      · rintro d s2 ⟨r, rfl, hr2, h3⟩
        exact ⟨_, x_addI (x_var rfl) (x_var rfl), r, by rw [Int.natCast_add]; rfl, hr2, h3⟩
      · rintro d s2 ds s3 ⟨r, rfl, h3⟩ ⟨rfl, rfl⟩
        exact ⟨r, rfl, h3⟩
      · rintro ds s2 ⟨r, rfl, hr2, hc2, hb2⟩
        refine ⟨rfl, hb2.kind, (200000 * (6 - i) - 20, 1 + r), ⟨rfl, by simp only; omega, hb2.le (by simp only; omega)⟩, ?_⟩
        rintro d m2 ⟨⟨ws, rfl, h4, h5⟩, h6⟩
        simp only at h4
        exact ⟨ws, rfl, (fun z => by rw [z, List.length_nil] at h4; omega), by omega, h5, hc2, h6⟩
      rintro d s2 ⟨ws, rfl, hne2, hle, hok, hc2, hb2⟩
      refine z_setE (P := fun d s3 => ∃ sh : Sh, d = dat false sh ∧ Pl sh ∧ size sh ≤ 14 ∧ s3.c = none ∧ Bud (200000 * (6 - (i + 1)) + 400) s3.m)
        (e_callQ rfl (PB := fun ds s3 => ∃ room : Nat, ds = [.lst (ws.map Dt.str), .int (room : Int), .int ((5 : Nat) : Int)] ∧ 1 ≤ room ∧ room ≤ 14 ∧ s3.c = none ∧ Bud (200000 * (6 - i) - 21) s3.m)
          (ea_cons (P2 := fun d s3 ds s4 => ∃ room : Nat, ds = [.int (room : Int), .int ((5 : Nat) : Int)] ∧ 1 ≤ room ∧ room ≤ 14 ∧ s4.c = none ∧ Bud (200000 * (6 - i) - 21) s4.m) (x_var (i := 3) rfl).E (fun d s3 h => ea_two (P1 := fun d s4 => ∃ room : Nat, d = .int (room : Int) ∧ 1 ≤ room ∧ room ≤ 14 ∧ s4.c = none ∧ Bud (200000 * (6 - i) - 21) s4.m) (P2 := fun _ s4 d s5 => d = .int ((5 : Nat) : Int) ∧ s5 = s4) ?_ (fun d4 s4 h4 => (x_int (i := 5)).E) ?_) ?_) ?_) ?_
      · obtain ⟨_, rfl⟩ := h
        refine (e_pick (es := nums [1, 4, 9, 14]) (200000 * (6 - i) - 21) rfl (x_lst (xa_cons x_int (xa_cons x_int (xa_cons x_int (xa_cons x_int xa_nil)))) (by simp [nums])) (by simp [nums]) (by simp [nums]) (hb2.le (by omega))).imp ?_
        rintro d s4 ⟨h1, h3, h4⟩
        obtain ⟨n, hn, rfl⟩ := List.mem_map.mp h1
        have hn' : ∀ n ∈ [1, 4, 9, 14], 1 ≤ n ∧ n ≤ 14 := by decide
        exact ⟨n, rfl, (hn' n hn).1, (hn' n hn).2, by rw [h3]; exact hc2, h4⟩
      · rintro d4 s4 e5 s5 ⟨room, rfl, h4⟩ ⟨rfl, rfl⟩
        exact ⟨room, rfl, h4⟩
      · rintro d s3 ds s4 ⟨rfl, _⟩ ⟨room, rfl, h4⟩
        exact ⟨room, rfl, h4⟩
      · rintro ds s3 ⟨room, rfl, h1, h2', hc3, hb3⟩
        refine ⟨rfl, hb3.kind, ⟨200000 * (6 - (i + 1)) + 400, ws, room, 5⟩, ⟨rfl, (by show 5 < 6; decide), h1, h2', hne2, hle, hok, hb3.le (by simp only [hpc]; omega)⟩, ?_⟩
        rintro d m2 ⟨⟨sh, rfl, h4, h5, h6, h7⟩, h8⟩
        simp only at h6 h7
        exact ⟨sh, rfl, ⟨h4, h5, by omega⟩, by omega, hc3, h8⟩
      rintro d s3 ⟨sh, rfl, hpl, hsz, hc3, hb3⟩
      refine z_if (Pb := fun bb s4 => bb = false ∧ s4.c = none ∧ Bud (200000 * (6 - (i + 1))) s4.m) (et_or (Pa := fun bb s4 => bb = false ∧ s4.c = none ∧ Bud (200000 * (6 - (i + 1))) s4.m) (et_not (et_B ?_)) (fun s4 h4 => ?_) (fun s4 h4 => by cases h4.1)) (fun s4 h4 => by cases h4.1) fun s4 h4 => z_nextx ⟨rfl, ⟨_, _, _, rfl⟩, h4.2.1, h4.2.2⟩
      · refine e_callQ rfl (xa_cons (x_var (i := 4) rfl) xa_nil).E fun ds s4 ⟨e1, e2⟩ => ?_
        subst e1 e2
        exact ⟨rfl, hb3.kind, (200000 * (6 - (i + 1)), sh), ⟨rfl, hpl, hsz, hb3.le (by simp only; omega)⟩, fun d m2 ⟨h1, h2'⟩ => ⟨true, h1, rfl, hc3, h2'⟩⟩
      · exact (xt_not (b := true) (xt_B (x_call (xa_cons (x_var (i := 3) rfl) xa_nil) ⟨ws, hne2, hle, hok, rfl, rfl⟩))).E.imp fun bb s5 ⟨e1, e2⟩ => by subst e2; exact ⟨e1, h4.2⟩
    · rintro ds D1 s1 ⟨rfl, h1, h3, h4⟩
      exact ⟨h1, h3, h4.le (by omega)⟩
    rintro D1 s1 ⟨⟨x2, x3, x4, rfl⟩, _, _⟩
    have cmo : Cm (.lst [.str nOpen, .str nShut]) := ⟨by decide, by decide⟩
    have st : ∀ {D : List SV} {te : TE} {sh : Sh}, Norm sh → size sh ≤ 14 → X c te D (.web (dat true sh)) → X c (tCB (rStrO c.C (spP c 1 RelSt)) (tCons te tNil)) D (.str (txt sh)) := fun h1 h2 h => x_strW h ⟨_, h1, h2, rfl, rfl⟩
    have z := x_eq (c := c) (ta := tLc (iList c.K (tLst (tCons (tC (.str "open")) (tCons (tC (.str "shut")) tNil)))) (gName 5) tYes (tCB (rStrO c.C (spP c 1 RelSt)) (tCons (ClX.tCMeth c.C (spRd c) E0 (tC (.ref c.C)) (tCons (tVar 5) tNil)) tNil)) [5]) (D := [.un, .mem, x2, x3, x4, .un]) (d := .lst [.str nOpen, .str nShut]) ?_ (x_lst (xa_cons (st (sh := .opn) trivial (by decide) (x_sm (n := 0) (Rel := fun ds d => d = .web (dat true .opn)) xa_nil rfl)) (xa_cons (st (sh := .sht) trivial (by decide) (x_sm (n := 0) (Rel := fun ds d => d = .web (dat true .sht)) xa_nil rfl)) xa_nil)) (by simp)) cmo cmo
    · exact z_retx z (congrArg Dt.bl (show deq (.lst [.str nOpen, .str nShut]) (.lst [.str nOpen, .str nShut]) = true from deq_self _ cmo.tm))
    · refine x_each (zs := [Sh.opn, .sht]) (F := fun s => Dt.str (txt s)) (G2 := fun s => Dt.str (txt s)) (xs_list (x_lst (xa_cons (x_str (l := nOpen) rfl) (xa_cons (x_str (l := nShut) rfl) xa_nil)) (by simp))) (by simp) fun s hs => ⟨_, g_name (by simp), ?_⟩
      have hs2 : s = .opn ∨ s = .sht := by simpa using hs
      rcases hs2 with rfl | rfl
      · exact st (sh := .opn) trivial (by decide) (x_read (sh := .opn) (x_var (i := 5) rfl) (.inr (.inl rfl)) (by decide))
      · exact st (sh := .sht) trivial (by decide) (x_read (sh := .sht) (x_var (i := 5) rfl) (.inr (.inr rfl)) (by decide))
  · match i, hz with
    | 0, hz => cases hz; exact ⟨_, rfl, trivial⟩
    | 1, hz => cases hz; exact ⟨_, rfl, rfl⟩
    | 2, hz => cases hz; exact ⟨_, rfl, trivial⟩
    | 3, hz => cases hz; exact ⟨_, rfl, trivial⟩
    | 4, hz => cases hz; exact ⟨_, rfl, trivial⟩
    | 5, hz => cases hz; exact ⟨_, rfl, trivial⟩
end
end Wb

/-! The head: the run of the text's top, the facts that it leaves. -/
namespace WbH
open PySem PySem.W PySem.Calls PyProof.Rows
abbrev R : OpenRow := OpenLaw.row PySem.Challenge.rw_sixasone_k89_whole_texts_of_webs
abbrev qv : Program := view R.prog [95]
def nm0 : List PySem.Str := [("_wall" : PySem.Str), ("WebError" : PySem.Str), ("BadName" : PySem.Str), ("BadWeb" : PySem.Str), ("NoName" : PySem.Str), ("NotTied" : PySem.Str), ("TooMany" : PySem.Str), ("BadText" : PySem.Str), ("OPEN" : PySem.Str), ("SHUT" : PySem.Str), ("FIRST_INNER" : PySem.Str), ("ordered" : PySem.Str), ("net_shape" : PySem.Str), ("joined_shape" : PySem.Str), ("joints_of" : PySem.Str), ("renamed_joints" : PySem.Str), ("laid_between" : PySem.Str), ("laid" : PySem.Str), ("places_in" : PySem.Str), ("shape_text" : PySem.Str), ("LETTERS" : PySem.Str), ("BARRED" : PySem.Str), ("MOST_LETTERS" : PySem.Str), ("LAST_JOINT" : PySem.Str), ("is_whole" : PySem.Str)]
def nm1 : List PySem.Str := [("is_name" : PySem.Str), ("is_joint" : PySem.Str), ("is_link" : PySem.Str), ("names_once" : PySem.Str), ("DUALS" : PySem.Str), ("made_sure" : PySem.Str), ("net_filled" : PySem.Str), ("filled" : PySem.Str), ("taken_out" : PySem.Str), ("dual" : PySem.Str), ("turned_about" : PySem.Str), ("LEFT" : PySem.Str), ("RIGHT" : PySem.Str), ("far_end" : PySem.Str), ("reached" : PySem.Str), ("joined_by" : PySem.Str), ("walks_from" : PySem.Str), ("walks" : PySem.Str), ("holds" : PySem.Str), ("holds_ways" : PySem.Str), ("FIGURES" : PySem.Str), ("MOST_PLACES_reading" : PySem.Str), ("SIGNS" : PySem.Str), ("Cursor" : PySem.Str), ("cursor_of" : PySem.Str)]
def nm2 : List PySem.Str := [("need_end" : PySem.Str), ("read_letters" : PySem.Str), ("read_name" : PySem.Str), ("read_number" : PySem.Str), ("read_joint" : PySem.Str), ("read_link" : PySem.Str), ("goes_on" : PySem.Str), ("read_net" : PySem.Str), ("read_sign" : PySem.Str), ("read_joined" : PySem.Str), ("read_part" : PySem.Str), ("read_shape" : PySem.Str), ("MOST_PLACES_webs" : PySem.Str), ("shape_of" : PySem.Str), ("need_few" : PySem.Str), ("joined_web" : PySem.Str), ("need_name" : PySem.Str), ("need_names" : PySem.Str), ("is_below" : PySem.Str), ("Web" : PySem.Str), ("_law_pen" : PySem.Str), ("_law_draw" : PySem.Str), ("_law_pick" : PySem.Str), ("_law_words" : PySem.Str), ("_law_net" : PySem.Str)]
def nm3 : List PySem.Str := [("_law_plan" : PySem.Str), ("_law_size" : PySem.Str), ("_law_joined" : PySem.Str), ("_law_in_rows" : PySem.Str), ("_law_netted" : PySem.Str), ("_law_made" : PySem.Str), ("_law_shown" : PySem.Str), ("_law_web" : PySem.Str), ("_law_stirred" : PySem.Str), ("_law_loosely" : PySem.Str), ("_law_right" : PySem.Str), ("_law_deep_right" : PySem.Str)]
def names : List PySem.Str := nm0 ++ nm1 ++ nm2 ++ nm3

abbrev Kf := PySem.W.Frag
abbrev aW (K : Kf) : Addr := He.ga K "Web"
abbrev aU (K : Kf) : Addr := He.ga K "Cursor"
/-- the getter of a property -/
def pg (K : Kf) (m : PySem.Str) : Addr := He5.wf K (aW K) "property" m
def dfG (x : PySem.Str) (st : Stmt) : He5.DefA := { at_ := fun K => He.ga K x, name := x, qual := x, params := L2.defArgs st, body := L2.defBody st, scope := L2.defScope st }
def dfM (at_ : Kf → Addr) (m q : PySem.Str) (st : Stmt) : He5.DefA := { at_ := at_, name := m, qual := q, params := L2.defArgs st, body := L2.defBody st, scope := L2.defScope st }
def fnA1 : List He5.DefA := Wb.defs.map fun p => dfG p.1 (Wb.top p.2)
def fnA2 : List He5.DefA := Wb.lawDefs.map fun p => dfG p.1 (Wb.top p.2)
def fnA3 : List He5.DefA := Wb.mcs.map fun p => dfM (fun K => He.ma K (aU K) p.1) p.1 p.2.1 (L2.inClass (Wb.top 54) p.2.2)
def fnA4 : List He5.DefA := Wb.sms.map fun p => dfM (fun K => He5.wf K (aW K) "staticmethod" p.1) p.1 p.2.1 (L2.inClass (Wb.top 76) p.2.2)
def fnA5 : List He5.DefA := Wb.prs.map fun p => dfM (fun K => pg K p.1) p.1 p.2.1 (L2.inClass (Wb.top 76) p.2.2)
def fnA6 : List He5.DefA := Wb.sps.map fun p => dfM (fun K => He.ma K (aW K) p.1) p.1 p.2.1 (L2.inClass (Wb.top 76) p.2.2)
def fnA7 : List He5.DefA := [dfM (fun K => He.ma K (aU K) "__init__") "__init__" "Cursor.__init__" (L2.inClass (Wb.top 54) 0), dfM (fun K => He.ma K (aW K) "__init__") "__init__" "Web.__init__" (L2.inClass (Wb.top 76) 1), dfM (fun K => He5.wf K (aW K) "classmethod" "read") "read" "Web.read" (L2.inClass (Wb.top 76) 8)]
def fns : List He5.DefA := fnA1 ++ fnA2 ++ fnA3 ++ fnA4 ++ fnA5 ++ fnA6 ++ fnA7
def fa1 : List He.Fa := (Wb.defs ++ Wb.lawDefs).map fun p => .glo p.1
def fa2 : List He.Fa := Wb.mcs.map fun p => .meth "Cursor" p.1
def fa3 : List He.Fa := Wb.frees.map .free
def fa4 : List He.Fa := [.glo "Web", .glo "Cursor", .cls "Web", .cls "Cursor", .mkr "Web", .mkr "Cursor", .noat "Web" "shape", .noat "Cursor" "text", .noat "Cursor" "at", .noat "Cursor" "begun", .glo "OPEN", .glo "SHUT", .glo "BARRED", .glo "SIGNS",
  .int "FIRST_INNER" 2, .int "MOST_LETTERS" 8, .int "LAST_JOINT" 99, .int "MOST_PLACES_reading" 14, .int "MOST_PLACES_webs" 14, .str "LETTERS" "abcdefghijklmnopqrstuvwxyz", .str "FIGURES" "0123456789"]
def fas : List He.Fa := fa1 ++ fa2 ++ fa3 ++ fa4
def smB (K : Kf) (m : PySem.Str) : Bool := He5.wrapB K (aW K) "staticmethod" "staticmethod.__get__" m && keepIn K (.ref (He5.wf K (aW K) "staticmethod" m))
def prB (K : Kf) (m : PySem.Str) : Bool := He.eqO (findIn K (.ref (aW K)) m) (some (some (.ref (He.ma K (aW K) m)))) && (He.eqO (specialIn K (.ref (He.ma K (aW K) m)) "__get__") (some (some (.builtin "property.__get__"))) && (decide (takesIn K (.ref (He.ma K (aW K) m)) = some true) && (match recIn K (He.ma K (aW K) m) "property" with
  | some (.ref _ :: _) => true
  | _ => false)))
def spB (K : Kf) (m : PySem.Str) : Bool := He.eqO (findIn K (.ref (aW K)) m) (some (some (.ref (He.ma K (aW K) m)))) && isFn K (.ref (He.ma K (aW K) m))
def insB (K : Kf) : Bool := He.eqO (findIn K (.ref (aW K)) "__class__") (some (some (.builtin "object.__class__"))) && (He.eqO (specialIn K (.builtin "object.__class__") "__get__") (some (some (.builtin "getset_descriptor.__get__"))) && (decide (takesIn K (.builtin "object.__class__") = some true) && (decide (mroIn K (aW K) (.type "object") = some true) && decide (kitOne K (.ref (aW K)) (.ref (aW K)) = some true))))
def exB (K : Kf) : Bool := (Wb.sms.all fun p => smB K p.1) && ((Wb.prs.all fun p => prB K p.1) && ((Wb.sps.all fun p => spB K p.1) && ((He5.wrapB K (aW K) "classmethod" "classmethod.__get__" "read" && fnIn K (He5.wf K (aW K) "classmethod" "read")) && (insB K && (readsIn K (aW K) (.type "type") && (He.eqO (specialIn K (.ref (aW K)) "__getattribute__") (some (some (.builtin "type.__getattribute__"))) && ((notFirst K (aW K) (.ref (aW K)) && selfFirst K (aW K)) &&
  (He.eqO (nsIn K cStatics "sys.int_max_str_digits") (some none) && ((He.tupB K "OPEN" [.str "open"] && (He.tupB K "SHUT" [.str "shut"] && He.tupB K "BARRED" [.str "open", .str "shut", .str "net"])) && He.valsB K (He.ga K "SIGNS") [("&", .str "row"), ("|", .str "bunch")])))))))))
/-! ### what is looked at: from the module's names, in five steps, no address twice asked for -/
def nmO (o : Obj) : List Addr := match o.data with
  | .seq its _ => its.toList.flatMap He.refV
  | .dict es _ => es.toList.flatMap fun e => He.refV e.val
  | .func fd => He.refV fd.code
  | .cls cd => [cd.ns]
  | .fields vs => vs.toList.flatMap He.refV
  | _ => []
def ups (g : Addr → Option Obj) (as : List Addr) : List Addr := as.flatMap fun a => match g a with
  | some o => nmO o
  | none => []
def col (g : Addr → Option Obj) : Nat → List Addr → List Addr → List Addr
  | 0, fr, al => al ++ fr
  | n + 1, fr, al => col g n (ups g fr) (al ++ fr)
def frL {β : Type} : List Addr → (List Addr → β) → β
  | [], k => k []
  | a :: r, k => HandSHeadRun.frNat a fun a => frL r fun r => k (a :: r)
theorem frL_eq {β : Type} : ∀ (l : List Addr) (k : List Addr → β), frL l k = k l
  | [], _ => rfl
  | a :: r, k => by
    show (HandSHeadRun.frNat a fun a => frL r fun r => k (a :: r)) = _
    rw [HandSHeadRun.frNat_eq, frL_eq r]
def frK {β : Type} (g : Addr → Option Obj) : List Addr → (Kf → β) → β
  | [], k => k []
  | a :: r, k => match g a with
    | some o => frK g r fun K => k ((a, o) :: K)
    | none => frK g r k
theorem frK_eq {β : Type} (g : Addr → Option Obj) : ∀ (l : List Addr) (k : Kf → β), frK g l k = k (He.frG g l)
  | [], _ => rfl
  | a :: r, k => by
    show (match g a with
      | some o => frK g r fun K => k ((a, o) :: K)
      | none => frK g r k) = _
    unfold He.frG
    rw [List.filterMap_cons]
    cases g a with
    | none => exact frK_eq g r k
    | some o => exact frK_eq g r _
def colF {β : Type} (g : Addr → Option Obj) : Nat → List Addr → List Addr → (List Addr → β) → β
  | 0, fr, al, k => k (al ++ fr)
  | n + 1, fr, al, k => frL (ups g fr) fun f2 => colF g n f2 (al ++ fr) k
theorem colF_eq {β : Type} (g : Addr → Option Obj) : ∀ (n : Nat) (fr al : List Addr) (k : List Addr → β), colF g n fr al k = k (col g n fr al)
  | 0, _, _, _ => rfl
  | n + 1, fr, al, k => by
    show (frL (ups g fr) fun f2 => colF g n f2 (al ++ fr) k) = _
    rw [frL_eq]
    exact colF_eq g n _ _ k
/-! ### what is seen -/
def fnVs (K : Kf) : List He5.DefA → List He5.FnW
  | [] => []
  | d :: r => He5.fnA K (d.at_ K) :: fnVs K r
theorem fnVs_eq (K : Kf) : ∀ l : List He5.DefA, fnVs K l = l.map fun d => He5.fnA K (d.at_ K)
  | [] => rfl
  | d :: r => by
    show He5.fnA K (d.at_ K) :: fnVs K r = _
    rw [fnVs_eq K r]
    rfl
abbrev Al : Type := (Bool × Bool × Bool) × List He5.FnW × Option (List (Option (PySem.Str × Int)))
def obsW (K : Kf) : Al := ((fas.all fun f => f.ok K, fns.all fun d => d.ok K, exB K), fnVs K fns, He.dicW K (He.ga K "SIGNS"))
def valW (w : World) : Al := ((true, true, true), fns.map He5.DefA.val, some (He.keysIn w.params ["&", "|"]))
def obsG (g : Addr → Option Obj) : Al := obsW (He.frG g (col g 5 [mainGlobals] [cStatics]))
def hk : PySem.W.Hook where
  α := Al
  obs := fun s => obsG s.heap.get?
  val := fun w => valW w
  says := fun w h => ∃ K : Kf, K.In h ∧ obsW K = valW w
  of := fun _ _ e => ⟨_, He.frG_in, e⟩
  keeps := fun _ _ _ ⟨K, hK, c⟩ k => ⟨K, Frag.In.keeps hK k, c⟩
def seen {β : Type} (k : Kf → β) (s : PySem.W.SharedT) : β := colF (HandSHeadRun.getT s) 5 [mainGlobals] [cStatics] fun as => frK (HandSHeadRun.getT s) as k
def ob (s : PySem.W.SharedT) : Al := seen obsW s
theorem ob_eq (s : PySem.W.SharedT) : ob s = hk.obs s.abs := by
  show (colF (HandSHeadRun.getT s) 5 [mainGlobals] [cStatics] fun as => frK (HandSHeadRun.getT s) as obsW) = obsG s.abs.heap.get?
  have e : HandSHeadRun.getT s = s.abs.heap.get? := funext (HandSHeadRun.getT_eq s)
  rw [colF_eq, frK_eq, e]
  rfl
end WbH

/-! From what the head sees to the text's facts. -/
namespace WbH
open PySem PySem.W PySem.Calls PyProof.Rows He
section
variable {K : Kf} {w : World} {h : Heap} {mg : PySem.Str → Option Value}
theorem sees (e : obsW K = valW w) : (fas.all fun f => f.ok K) = true ∧ (fns.all fun d => d.ok K) = true ∧ exB K = true ∧ (fns.map fun d => He5.fnA K (d.at_ K)) = fns.map He5.DefA.val ∧ He.dicW K (He.ga K "SIGNS") = some (He.keysIn w.params ["&", "|"]) := by
  obtain ⟨e1, e2⟩ := Prod.mk.inj (show ((fas.all fun f => f.ok K, fns.all fun d => d.ok K, exB K), fnVs K fns, He.dicW K (He.ga K "SIGNS")) = ((true, true, true), fns.map He5.DefA.val, some (He.keysIn w.params ["&", "|"])) from e)
  obtain ⟨a1, a2⟩ := Prod.mk.inj e1
  obtain ⟨a3, a4⟩ := Prod.mk.inj a2
  obtain ⟨b1, b2⟩ := Prod.mk.inj e2
  exact ⟨a1, a3, a4, (fnVs_eq K fns).symm.trans b1, b2⟩
theorem fact (e : obsW K = valW w) {f : He.Fa} (m : f ∈ fas) : f.ok K = true := List.all_eq_true.mp (sees e).1 f m
theorem saysA (e : obsW K = valW w) : He5.SaysA fas fns K := by
  obtain ⟨a1, a2, _, a4, _⟩ := sees e
  show ((fas.all fun f => f.ok K) && fns.all fun d => d.ok K, fns.map fun d => He5.fnA K (d.at_ K)) = (true, fns.map He5.DefA.val)
  rw [a1, a2, a4]
  rfl
theorem defn (e : obsW K = valW w) {d : He5.DefA} (m : d ∈ fns) : ∃ fd, L2.FunD K d.name d.qual d.params d.body d.scope (d.dvs K) (d.kws K) (d.at_ K) fd := by
  obtain ⟨i, hi⟩ := List.mem_iff_getElem?.mp m
  exact He5.SaysA.def_ (saysA e) i hi
theorem funA (e : obsW K = valW w) {at_ : Kf → Addr} {m q : PySem.Str} {st : Stmt} (z : dfM at_ m q st ∈ fns) : ∃ fd, L2.Fun K m q st (at_ K) fd := by
  obtain ⟨fd, F⟩ := defn e z
  exact ⟨fd, He5.fun_of (st := st) F⟩
theorem in1 {d : He5.DefA} (m : d ∈ fnA1 ++ fnA2) : d ∈ fns := by
  unfold fns
  simp only [List.mem_append] at m ⊢
  rcases m with m | m
  · exact .inl (.inl (.inl (.inl (.inl (.inl m)))))
  · exact .inl (.inl (.inl (.inl (.inl (.inr m)))))
theorem in3 {d : He5.DefA} (m : d ∈ fnA3) : d ∈ fns := by
  unfold fns
  simp only [List.mem_append]
  exact .inl (.inl (.inl (.inl (.inr m))))
theorem in4 {d : He5.DefA} (m : d ∈ fnA4) : d ∈ fns := by
  unfold fns
  simp only [List.mem_append]
  exact .inl (.inl (.inl (.inr m)))
theorem in5 {d : He5.DefA} (m : d ∈ fnA5) : d ∈ fns := by
  unfold fns
  simp only [List.mem_append]
  exact .inl (.inl (.inr m))
theorem in6 {d : He5.DefA} (m : d ∈ fnA6) : d ∈ fns := by
  unfold fns
  simp only [List.mem_append]
  exact .inl (.inr m)
theorem in7 {d : He5.DefA} (m : d ∈ fnA7) : d ∈ fns := by
  unfold fns
  simp only [List.mem_append]
  exact .inr m
theorem ib1 {f : He.Fa} (m : f ∈ fa1) : f ∈ fas := by
  unfold fas
  simp only [List.mem_append]
  exact .inl (.inl (.inl m))
theorem ib2 {f : He.Fa} (m : f ∈ fa2) : f ∈ fas := by
  unfold fas
  simp only [List.mem_append]
  exact .inl (.inl (.inr m))
theorem ib3 {f : He.Fa} (m : f ∈ fa3) : f ∈ fas := by
  unfold fas
  simp only [List.mem_append]
  exact .inl (.inr m)
theorem ib4 {f : He.Fa} (i : Nat) (m : fa4[i]? = some f) : f ∈ fas := by
  unfold fas
  simp only [List.mem_append]
  exact .inr (List.mem_of_getElem? m)
abbrev cf (K : Kf) : Wb.Cf := ⟨K, He.ga K "Web", He.ga K "Cursor", He.ga K "OPEN", He.ga K "SHUT", He.ga K "BARRED", He.ga K "SIGNS"⟩
theorem more (e : obsW K = valW w) : exB K = true := (sees e).2.2.1
theorem fn_of (e : obsW K = valW w) (X : K.In h) (G : h.Ns mainGlobals mg) {x : PySem.Str} {j : Nat} (m : (x, j) ∈ Wb.defs ++ Wb.lawDefs) : ∃ f fd, L2.Fun K x x (Wb.top j) f fd ∧ mg x = some (.ref f) := by
  have z : dfG x (Wb.top j) ∈ fnA1 ++ fnA2 := by
    unfold fnA1 fnA2
    rw [← List.map_append]
    exact List.mem_map.mpr ⟨(x, j), m, rfl⟩
  obtain ⟨fd, F⟩ := funA (at_ := fun K => He.ga K x) e (in1 z)
  exact ⟨_, fd, F, He.glo_ok X G (fact e (ib1 (List.mem_map.mpr ⟨(x, j), m, rfl⟩)))⟩
theorem kp_of (e : obsW K = valW w) {d : He5.DefA} (m : d ∈ fns) : keepIn K (.ref (d.at_ K)) = true := by
  have z := List.all_eq_true.mp (sees e).2.1 d m
  exact (ba z).1
theorem gi (X : K.In h) (G : h.Ns mainGlobals mg) (e : obsW K = valW w) {x : PySem.Str} {i : Int} (n : Nat) (m : fa4[n]? = some (.int x i) := by rfl) : ∃ u, mg x = some u ∧ L2.RelV (.int i) u := by
  obtain ⟨t, q⟩ := He.int_ok X G (fact e (ib4 n m))
  exact ⟨_, q, t, rfl⟩
theorem gs (X : K.In h) (G : h.Ns mainGlobals mg) (e : obsW K = valW w) {x z : PySem.Str} (n : Nat) (m : fa4[n]? = some (.str x z) := by rfl) : ∃ u, mg x = some u ∧ L2.RelV (.str z) u := by
  obtain ⟨t, q⟩ := He.str_ok X G (fact e (ib4 n m))
  exact ⟨_, q, t, rfl⟩
theorem gr (X : K.In h) (G : h.Ns mainGlobals mg) (e : obsW K = valW w) {x : PySem.Str} (n : Nat) (m : fa4[n]? = some (.glo x) := by rfl) : mg x = some (.ref (He.ga K x)) := He.glo_ok X G (fact e (ib4 n m))
theorem m3 {m q : PySem.Str} {j : Nat} (mm : (m, q, j) ∈ Wb.mcs) : dfM (fun K => He.ma K (aU K) m) m q (L2.inClass (Wb.top 54) j) ∈ fns := in3 (List.mem_map_of_mem (f := fun p : PySem.Str × PySem.Str × Nat => dfM (fun K => He.ma K (aU K) p.1) p.1 p.2.1 (L2.inClass (Wb.top 54) p.2.2)) mm)
theorem m4 {m q : PySem.Str} {j : Nat} (mm : (m, q, j) ∈ Wb.sms) : dfM (fun K => He5.wf K (aW K) "staticmethod" m) m q (L2.inClass (Wb.top 76) j) ∈ fns := in4 (List.mem_map_of_mem (f := fun p : PySem.Str × PySem.Str × Nat => dfM (fun K => He5.wf K (aW K) "staticmethod" p.1) p.1 p.2.1 (L2.inClass (Wb.top 76) p.2.2)) mm)
theorem m5 {m q : PySem.Str} {j : Nat} (mm : (m, q, j) ∈ Wb.prs) : dfM (fun K => pg K m) m q (L2.inClass (Wb.top 76) j) ∈ fns := in5 (List.mem_map_of_mem (f := fun p : PySem.Str × PySem.Str × Nat => dfM (fun K => pg K p.1) p.1 p.2.1 (L2.inClass (Wb.top 76) p.2.2)) mm)
theorem m6 {m q : PySem.Str} {j : Nat} (mm : (m, q, j) ∈ Wb.sps) : dfM (fun K => He.ma K (aW K) m) m q (L2.inClass (Wb.top 76) j) ∈ fns := in6 (List.mem_map_of_mem (f := fun p : PySem.Str × PySem.Str × Nat => dfM (fun K => He.ma K (aW K) p.1) p.1 p.2.1 (L2.inClass (Wb.top 76) p.2.2)) mm)
theorem m7a : dfM (fun K => He.ma K (aU K) "__init__") "__init__" "Cursor.__init__" (L2.inClass (Wb.top 54) 0) ∈ fns := in7 List.mem_cons_self
theorem m7b : dfM (fun K => He.ma K (aW K) "__init__") "__init__" "Web.__init__" (L2.inClass (Wb.top 76) 1) ∈ fns := in7 (List.mem_cons_of_mem _ List.mem_cons_self)
theorem m7c : dfM (fun K => He5.wf K (aW K) "classmethod" "read") "read" "Web.read" (L2.inClass (Wb.top 76) 8) ∈ fns := in7 (List.mem_cons_of_mem _ (List.mem_cons_of_mem _ List.mem_cons_self))
theorem t_mc (e : obsW K = valW w) {m q : PySem.Str} {j : Nat} (mm : (m, q, j) ∈ Wb.mcs) : ∃ f fd, L2.Fun K m q (L2.inClass (Wb.top 54) j) f fd ∧ L2.Meth K (He.ga K "Cursor") m f := by
  obtain ⟨fd, F⟩ := funA e (m3 mm)
  exact ⟨_, fd, F, He.meth_ok (fact e (ib2 (List.mem_map_of_mem (f := fun p : PySem.Str × PySem.Str × Nat => He.Fa.meth "Cursor" p.1) mm)))⟩
theorem t_sm (e : obsW K = valW w) (x1 : (Wb.sms.all fun p => smB K p.1) = true) {m q : PySem.Str} {j : Nat} (mm : (m, q, j) ∈ Wb.sms) : ∃ p g fd, L2.Fun K m q (L2.inClass (Wb.top 76) j) g fd ∧ Wb.SMet K (He.ga K "Web") m p g := by
  obtain ⟨fd, F⟩ := funA e (m4 mm)
  have z := List.all_eq_true.mp x1 (m, q, j) mm
  replace z : smB K m = true := z
  unfold smB at z
  obtain ⟨z1, z2⟩ := ba z
  obtain ⟨z3, r, z4⟩ := He5.wrapB_ok z1
  exact ⟨_, _, fd, F, z3, ⟨r, z4⟩, z2⟩
theorem t_pr (e : obsW K = valW w) (x2 : (Wb.prs.all fun p => prB K p.1) = true) {m q : PySem.Str} {j : Nat} (mm : (m, q, j) ∈ Wb.prs) : ∃ p g fd, L2.Fun K m q (L2.inClass (Wb.top 76) j) g fd ∧ L2.PropOf K (He.ga K "Web") m p g := by
  obtain ⟨fd, F⟩ := funA e (m5 mm)
  have z := List.all_eq_true.mp x2 (m, q, j) mm
  replace z : prB K m = true := z
  unfold prB at z
  obtain ⟨z1, z⟩ := ba z
  obtain ⟨z2, z⟩ := ba z
  obtain ⟨z3, z4⟩ := ba z
  refine ⟨_, _, fd, F, He.eqO_ok z1, He.eqO_ok z2, of_decide_eq_true z3, ?_⟩
  show ∃ rest, recIn K (He.ma K (aW K) m) "property" = some (.ref (pg K m) :: rest)
  unfold pg He5.wf
  split at z4
  · rename_i f r q
    rw [q]
    exact ⟨r, rfl⟩
  · cases z4
theorem t_sp (e : obsW K = valW w) (x3 : (Wb.sps.all fun p => spB K p.1) = true) {m q : PySem.Str} {j : Nat} (mm : (m, q, j) ∈ Wb.sps) : ∃ f fd, L2.Fun K m q (L2.inClass (Wb.top 76) j) f fd ∧ findIn K (.ref (He.ga K "Web")) m = some (some (.ref f)) ∧ isFn K (.ref f) = true := by
  obtain ⟨fd, F⟩ := funA e (m6 mm)
  have z := List.all_eq_true.mp x3 (m, q, j) mm
  replace z : spB K m = true := z
  unfold spB at z
  obtain ⟨z1, z2⟩ := ba z
  exact ⟨_, fd, F, He.eqO_ok z1, z2⟩
theorem t_ic (e : obsW K = valW w) : ∃ f fd, L2.Fun K "__init__" "Cursor.__init__" (L2.inClass (Wb.top 54) 0) f fd ∧ L2.Mk K (He.ga K "Cursor") f := by
  obtain ⟨fd, F⟩ := funA e m7a
  exact ⟨_, fd, F, He.mkr_ok (fact e (ib4 5 rfl))⟩
theorem t_iw (e : obsW K = valW w) : ∃ f fd, L2.Fun K "__init__" "Web.__init__" (L2.inClass (Wb.top 76) 1) f fd ∧ L2.Mk K (He.ga K "Web") f := by
  obtain ⟨fd, F⟩ := funA e m7b
  exact ⟨_, fd, F, He.mkr_ok (fact e (ib4 4 rfl))⟩
theorem t_cm (e : obsW K = valW w) (x4a : He5.wrapB K (aW K) "classmethod" "classmethod.__get__" "read" = true) (x4b : fnIn K (He5.wf K (aW K) "classmethod" "read") = true) : ∃ p g fd, L2.Fun K "read" "Web.read" (L2.inClass (Wb.top 76) 8) g fd ∧ ClX.CMet K (He.ga K "Web") (.type "type") "read" p g := by
  obtain ⟨fd, F⟩ := funA e m7c
  exact ⟨_, _, fd, F, He5.cmet_of x4a x4b⟩
theorem tx_of (X : K.In h) (G : h.Ns mainGlobals mg) (e : obsW K = valW w) : Wb.Tx (cf K) w mg := by
  obtain ⟨x1, y⟩ := ba (more e)
  obtain ⟨x2, y⟩ := ba y
  obtain ⟨x3, y⟩ := ba y
  obtain ⟨x4, y⟩ := ba y
  obtain ⟨x5, y⟩ := ba y
  obtain ⟨x6, y⟩ := ba y
  obtain ⟨x7, y⟩ := ba y
  obtain ⟨x8, y⟩ := ba y
  obtain ⟨x9, y⟩ := ba y
  obtain ⟨x10, x11⟩ := ba y
  obtain ⟨x4a, x4b⟩ := ba x4
  obtain ⟨x8a, x8b⟩ := ba x8
  obtain ⟨x10a, x10b⟩ := ba x10
  obtain ⟨x10b, x10c⟩ := ba x10b
  obtain ⟨x5a, y⟩ := ba x5
  obtain ⟨x5b, y⟩ := ba y
  obtain ⟨x5c, y⟩ := ba y
  obtain ⟨x5d, x5e⟩ := ba y
  have cw : L2.Cls K (He.ga K "Web") := He.cls_ok (fact e (ib4 2 rfl))
  have cc : L2.Cls K (He.ga K "Cursor") := He.cls_ok (fact e (ib4 3 rfl))
  exact {
    fn := fun {i x j} hi => fn_of e X G (List.mem_append_left _ (List.mem_of_getElem? hi))
    lf := fun {i x j} hi => fn_of e X G (List.mem_append_right _ (List.mem_of_getElem? hi))
    mc := fun {i m q j} hi => t_mc e (List.mem_of_getElem? hi)
    ic := t_ic e
    iw := t_iw e
    sm := fun {i m q j} hi => t_sm e x1 (List.mem_of_getElem? hi)
    cm := t_cm e x4a x4b
    pr := fun {i m q j} hi => t_pr e x2 (List.mem_of_getElem? hi)
    sp := fun {i m q j} hi => t_sp e x3 (List.mem_of_getElem? hi)
    rd := ⟨x6, He.eqO_ok x7⟩
    cw := cw
    cc := cc
    ins := ⟨cw, He.eqO_ok x5a, He.eqO_ok x5b, of_decide_eq_true x5c, of_decide_eq_true x5d, of_decide_eq_true x5e⟩
    na := He.noat_ok (fact e (ib4 6 rfl))
    nt := He.noat_ok (fact e (ib4 7 rfl))
    nb := He.noat_ok (fact e (ib4 8 rfl))
    nc := He.noat_ok (fact e (ib4 9 rfl))
    nf := x8a
    sf := x8b
    dg := He.eqO_ok x9
    mC := gr X G e 0
    mCC := gr X G e 1
    fr := fun {i x} hi => He.free_ok X G (fact e (ib3 (List.mem_map.mpr ⟨x, List.mem_of_getElem? hi, rfl⟩)))
    g_OPEN := ⟨_, gr X G e 10, rfl⟩
    g_SHUT := ⟨_, gr X G e 11, rfl⟩
    g_FIRST_INNER := gi X G e 14
    g_LETTERS := gs X G e 19
    g_BARRED := ⟨_, gr X G e 12, rfl⟩
    g_MOST_LETTERS := gi X G e 15
    g_LAST_JOINT := gi X G e 16
    g_FIGURES := gs X G e 20
    g_MOST_PLACES_reading := gi X G e 17
    g_MOST_PLACES_webs := gi X G e 18
    g_SIGNS := ⟨_, gr X G e 13, rfl⟩
    t_O := fun H => He.tupB_ok x10a H
    t_S := fun H => He.tupB_ok x10b H
    t_B := fun H => He.tupB_ok x10c H
    d_G := He.dicW_ok (sees e).2.2.2.2
    v_G1 := He.valsB_ok x11 (q := ("&", .str "row")) List.mem_cons_self
    v_G2 := He.valsB_ok x11 (q := ("|", .str "bunch")) (List.mem_cons_of_mem _ List.mem_cons_self) }
end
end WbH

/-! The law's end, for promises under an empty list of guards. -/
namespace Wb
open PySem PySem.Spec PyProof.Rows L2 SX
/-- what is known of the heap behind the top: the script alone, if the written part does not hold it -/
def hpS (K : PySem.W.Frag) (a : Addr) (o : Obj) (u : HO) : Hp := fun b => if b = a ∧ K.lookup a = none then some (.frz o u) else none
theorem hpS_or (K : PySem.W.Frag) (a : Addr) (o : Obj) (u : HO) (b : Addr) : hpS K a o u b = none ∨ (b = a ∧ K.lookup a = none ∧ hpS K a o u b = some (.frz o u)) := by
  unfold hpS
  by_cases z : b = a ∧ K.lookup a = none
  · exact .inr ⟨z.1, z.2, if_pos z⟩
  · exact .inl (if_neg z)
theorem law_run {P : Program} {w : World} {K : PySem.W.Frag} {mg mb : Str → Option Value} {k : Nat} {fa a : Addr} {nm : Str} {sp : Sp} {s : Shared} {us : List Value} {ns : List Int} (inK : K.In s.heap)
    (gm : s.heap.Ns mainGlobals mg) (gb : s.heap.Ns builtinsNs mb) (bb : ∀ y : Str, y ≠ "__name__" → mb y = bootBuiltins y) (nl : s.heap.NoLimit) (gz : s.gens = #[]) (at_ : s.heap.get? a = some { cls := .type "list", data := .seq us.toArray })
    (hi : IntsAre us ns) (hl : ns.length ≤ sizeLine) (ro : Room k callerA) (hf : mg nm = some (.ref fa)) (F : ∀ base : Heap, CalG P w K mg base k nm sp)
    (pr : ∀ H : Hp, SqL K H a (ns.map V.int) → sp [.ref a] H (fun v _ => v = .bl true) E0) :
    codeAny (model P w) callerA (.call (.ref fa) ⟨[.ref a], []⟩) (fun r s2 => r = .ok (.ret (.bool true)) ∧ OldK s.heap s2.heap ∧ s2.os = s.os ∧ AllBare s2.gens) s := by
  have rv := vals_ints hi
  have lv := hi.length
  generalize hH : hpS K a { cls := .type "list", data := .seq us.toArray } (.lst (ns.map V.int)) = H
  have or_ : ∀ b, H b = none ∨ (b = a ∧ K.lookup a = none ∧ H b = some (.frz { cls := .type "list", data := .seq us.toArray } (.lst (ns.map V.int)))) := fun b => by
    rw [← hH]
    exact hpS_or K a _ _ b
  have sq : SqL K H a (ns.map V.int) := by
    cases z : K.lookup a with
    | some o =>
      have e := inK a o z
      rw [at_] at e
      cases e
      exact .inr ⟨_, us.toArray, _, z, rfl, rfl, rfl, by rw [List.size_toArray, lv]; exact hl, by simpa using rv⟩
    | none =>
      have e : H a = some (.frz { cls := .type "list", data := .seq us.toArray } (.lst (ns.map V.int))) := by
        rw [← hH]
        exact if_pos ⟨rfl, z⟩
      exact .inl (.inr ⟨_, e⟩)
  have hok : HOk P w H s.heap := fun b u e => by
    rcases or_ b with z | ⟨rfl, _, z⟩
    · rw [z] at e
      cases e
    · rw [z] at e
      cases e
      exact ⟨at_, by rw [List.length_map]; exact hl, us, _, rv, at_⟩
  have out : ∀ {b : Addr} {o : Obj}, s.heap.get? b = some o → (∀ xs n, o.data ≠ .seq xs n) → (hidT s.heap H).get? b = some o := fun {b o} e d => hidT_get e (by
    rcases or_ b with z | ⟨rfl, _, _⟩
    · exact z
    · rw [at_] at e
      cases e
      exact absurd rfl (d _ _))
  have ns_ : ∀ {b : Addr} {m : Str → Option Value}, s.heap.Ns b m → (hidT s.heap H).Ns b m := fun {b m} ⟨o, es, ep, e, d, r⟩ => ⟨o, es, ep, out e (fun _ _ q => by rw [d] at q; cases q), d, r⟩
  have inB : K.In (hidT s.heap H) := fun b o e => hidT_get (inK b o e) (by
    rcases or_ b with z | ⟨rfl, z, _⟩
    · exact z
    · rw [z] at e
      cases e)
  have md : Mod K mg (hidT s.heap H) := ⟨inB, ns_ gm, ⟨mb, ns_ gb, bb⟩, let ⟨mc, h1, h2⟩ := nl; ⟨mc, ns_ h1, h2⟩⟩
  have en : Env0 P w K mg (hidT s.heap H) callerA [] s H := { frames := rfl, mod := md, bs := fun b o e => of_hidT e, bsz := Nat.le_of_eq (hidT_size _ _), funs := trivial, frf := fun b m => absurd (show b ∈ ([] : List Addr) from m) List.not_mem_nil, hok := hok, bare := .of_eq gz }
  obtain ⟨f, fd, ps, G, bi, g, kp⟩ := (F (hidT s.heap H)).ex
  obtain rfl : fa = f := by
    rw [hf] at g
    cases g
    rfl
  have pp := pr H sq
  have lp : 1 = ps.length := G.len _ _ _ _ pp
  have b1 := bi s [.ref a] inK (by simpa using lp)
  rw [List.append_nil] at b1
  refine codeAny_mono (G.go callerA [] s H ⟨[.ref a], []⟩ [.ref a] [.ref a] _ _ rfl ro en b1 (.cons rfl .nil) pp) fun r s2 q => ?_
  cases r with
  | error x => exact (show False from q).elim
  | ok fl =>
    cases fl with
    | ret u =>
      obtain ⟨v, H2, os, ba, un, hok2, rl, rfl⟩ := q
      obtain rfl : u = Value.bool true := rl
      refine ⟨rfl, OldK.of_keep fun b o e => ?_, os, ba⟩
      rcases or_ b with z | ⟨rfl, _, z⟩
      · exact un.keep b o e z (fun m => absurd (show b ∈ ([] : List Addr) from m) List.not_mem_nil) List.not_mem_nil
      · rw [at_] at e
        cases e
        exact (hok2 _ _ (un.frzs _ _ _ z)).1
    | _ => exact (show False from q).elim
theorem law_walk {l : PySem.W.OpenLaw} {n k : Nat} {q : Program} {loose : List Str} {XP : (Str → Option Value) → Heap → Prop} {YP : World → Heap → Prop} {d : DefRec} (hn : l.most = some n) (hs : n ≤ sizeLine) (hd : d.params.defaults = []) (ro : Room k callerA)
    (F : ∀ (w : World) (mg : Str → Option Value) (h : Heap), YP w h → h.Ns mainGlobals mg → ∃ (K : PySem.W.Frag) (sp : Sp), K.In h ∧ (∀ base : Heap, CalG l.prog w K mg base k d.name sp) ∧
      ∀ (H : Hp) (a : Addr) (ns : List Int), SqL K H a (ns.map V.int) → sp [.ref a] H (fun v _ => v = .bl true) E0) : PySem.W.WalkO q loose XP YP l.row.toRowW d [] (fun f vs => PySem.call f vs) := by
  refine Att.attach_call hn hd fun w s0 s1 mg mb fa o pm cd doc a vs ns G Y ho hdt hcd hmg hobj hints hlen hg => ?_
  obtain ⟨K, sp, KX, C, z⟩ := F w mg _ Y G.T.g
  exact law_run KX G.T.g G.T.b G.T.builtins G.T.nolimit hg hobj hints (Nat.le_trans hlen hs) ro hmg C fun H hS => z H a ns hS
end Wb

/-! The run of the top, where no getter of a special method raises. -/
namespace WbH
open PySem PySem.W PySem.Calls PyProof.Rows
theorem run0 (w : World) : HandSHeadRun.RunEq R qv hk ob 8000 names (w.withFollow "special-get-raises" false) := by
  intro os
  kernel_rfl
end WbH

/-! The run of the top, where a getter of a special method raises. -/
namespace WbH
open PySem PySem.W PySem.Calls PyProof.Rows
theorem run1 (w : World) : HandSHeadRun.RunEq R qv hk ob 8000 names (w.withFollow "special-get-raises" true) := by
  intro os
  kernel_rfl
end WbH

/-! The law holds. -/
namespace WbH
open PySem PySem.W PySem.Calls PyProof.Rows
theorem run (w : World) : HandSHeadRun.RunEq R qv hk ob 8000 names w := PySem.W.byRow2 "special-get-raises" (P := fun w => HandSHeadRun.RunEq R qv hk ob 8000 names w) run0 run1 w
abbrev dL : DefRec := HandSHeadRun.topDef R.prog 95
theorem dL_name : dL.name = ("law" : PySem.Str) := by kernel_rfl
theorem walked {w : World} {mg : PySem.Str → Option Value} {h : Heap} (Y : hk.says w h) (G : h.Ns mainGlobals mg) : ∃ (K : PySem.W.Frag) (sp : L2.Sp), K.In h ∧ (∀ base : Heap, Wb.CalG R.prog w K mg base 52 dL.name sp) ∧
    ∀ (H : L2.Hp) (a : Addr) (ns : List Int), L2.SqL K H a (ns.map L2.V.int) → sp [.ref a] H (fun v _ => v = .bl true) L2.E0 := by
  obtain ⟨K, X, e⟩ := Y
  refine ⟨K, Wb.spLaw (cf K), X, fun base => ?_, fun H a ns z => ⟨a, ns, rfl, z, fun _ => rfl⟩⟩
  rw [dL_name]
  exact Wb.c_law (tx_of X G e)
end WbH
open PySem PySem.W PySem.Calls PyProof.Rows
theorem PySem.Challenge.cw_sixasone_k89_whole_texts_of_webs_holds : PySem.Challenge.rw_sixasone_k89_whole_texts_of_webs.Holds := by
  w_on; o_law
  refine HandSHeadRun.head_any (r := OpenLaw.row PySem.Challenge.rw_sixasone_k89_whole_texts_of_webs) (q := WbH.qv) (H := WbH.hk) (ob := WbH.ob) (M := 8000) (loose := WbH.names) (d := WbH.dL) (kwd := []) WbH.ob_eq
    (by kernel_rfl) (fun s => by kernel_rfl) WbH.run (by kernel_rfl) (by kernel_rfl) (by kernel_rfl) (by rfl) (by first | assumption | decide +kernel) (by decide +kernel) ⟨rfl, rfl, rfl, rfl, rfl, by decide +kernel⟩ ?hw ?hc
  case hw => w_witness2
  case hc =>
    exact Wb.law_walk (l := PySem.Challenge.rw_sixasone_k89_whole_texts_of_webs) (n := 63) (k := 52) rfl (by decide) (by kernel_rfl) ⟨rfl, by decide, by decide⟩ fun w mg h Y G => WbH.walked Y G
