import PyProof.Rows.All
import Wide.All
import OpenK.AllK
import Wide.FinOn
import PyProof.NeKinds
import HandS.ForMost
import HandS.Exc
import HandS.ExcOwn
import HandS.WordsExc
import HandS.SetFor
import HandS.Strs
import HandS.HotCalls
import HandS.ExcIs
import HandS.WideBits
import HandS.Walk
import PySem.Challenge.RW_cleanrows_k25_whole_apart
set_option Elab.async false
set_option linter.all false
set_option maxRecDepth 100000
set_option maxHeartbeats 16000000
/-! W1: tables by texts, the files' mathematics, what stands where. -/
namespace Wa
open PySem L2

/-! ### tables by texts -/
section tab
variable {α : Type}
def tGet (m : List (Str × α)) (x : Str) : Option α := (m.find? fun e => decide (e.1 = x)).map (·.2)
def tPut (m : List (Str × α)) (x : Str) (a : α) : List (Str × α) :=
  if (m.any fun e => decide (e.1 = x)) = true then m.map (fun e => if e.1 = x then (e.1, a) else e) else m ++ [(x, a)]
def tDrop (m : List (Str × α)) (x : Str) : List (Str × α) := m.filter fun e => decide (e.1 ≠ x)
def keysOf (m : List (Str × α)) : List Str := m.map (·.1)
theorem tGet_nil {x : Str} : tGet ([] : List (Str × α)) x = none := rfl
theorem tGet_pos {e : Str × α} {r : List (Str × α)} {x : Str} (h : e.1 = x) : tGet (e :: r) x = some e.2 := by
  unfold tGet
  rw [List.find?_cons, decide_eq_true h]
  rfl
theorem tGet_neg {e : Str × α} {r : List (Str × α)} {x : Str} (h : ¬ e.1 = x) : tGet (e :: r) x = tGet r x := by
  unfold tGet
  rw [List.find?_cons, decide_eq_false h]
theorem tGet_mem {x : Str} {a : α} : ∀ {m : List (Str × α)}, tGet m x = some a → (x, a) ∈ m
  | [], h => by cases h
  | e :: r, h => by
    by_cases c : e.1 = x
    · rw [tGet_pos c] at h
      cases h
      subst c
      exact List.mem_cons_self
    · rw [tGet_neg c] at h
      exact List.mem_cons_of_mem _ (tGet_mem h)
theorem tGet_of_mem {x : Str} {a : α} : ∀ {m : List (Str × α)}, (keysOf m).Nodup → (x, a) ∈ m → tGet m x = some a
  | [], _, h => by cases h
  | e :: r, hn, h => by
    have hn' := List.nodup_cons.mp hn
    rcases List.mem_cons.mp h with rfl | h
    · exact tGet_pos rfl
    · have c : ¬ e.1 = x := fun z => hn'.1 (List.mem_map.mpr ⟨(x, a), h, z.symm⟩)
      rw [tGet_neg c]
      exact tGet_of_mem hn'.2 h
theorem tGet_any {x : Str} : ∀ (m : List (Str × α)), (m.any fun e => decide (e.1 = x)) = (tGet m x).isSome
  | [] => rfl
  | e :: r => by
    rw [List.any_cons]
    by_cases c : e.1 = x
    · rw [tGet_pos c, decide_eq_true c]
      rfl
    · rw [tGet_neg c, decide_eq_false c, tGet_any r]
      rfl
theorem tGet_none {x : Str} {m : List (Str × α)} (h : tGet m x = none) : x ∉ keysOf m := fun hm => by
  obtain ⟨e, he, q⟩ := List.mem_map.mp hm
  have z : (m.any fun e => decide (e.1 = x)) = true := List.any_eq_true.mpr ⟨e, he, decide_eq_true q⟩
  rw [tGet_any, h] at z
  cases z
theorem tPut_new {m : List (Str × α)} {x : Str} (a : α) (h : tGet m x = none) : tPut m x a = m ++ [(x, a)] := by
  unfold tPut
  rw [tGet_any, h]
  rfl
theorem tPut_old {m : List (Str × α)} {x : Str} {b : α} (a : α) (h : tGet m x = some b) : tPut m x a = m.map (fun e => if e.1 = x then (e.1, a) else e) := by
  unfold tPut
  rw [tGet_any, h]
  rfl
theorem keys_map (m : List (Str × α)) (x : Str) (a : α) : keysOf (m.map fun e => if e.1 = x then (e.1, a) else e) = keysOf m := by
  unfold keysOf
  rw [List.map_map]
  refine List.map_congr_left fun e _ => ?_
  show (if e.1 = x then (e.1, a) else e).1 = e.1
  split <;> rfl
theorem nodup_put {m : List (Str × α)} (hn : (keysOf m).Nodup) (x : Str) (a : α) : (keysOf (tPut m x a)).Nodup := by
  cases h : tGet m x with
  | none =>
    rw [tPut_new a h]
    unfold keysOf
    rw [List.map_append]
    refine List.nodup_append.mpr ⟨hn, by simp, fun y hy z hz => ?_⟩
    have e : z = x := by simpa using hz
    rintro rfl
    exact tGet_none h (by rw [← e]; exact hy)
  | some b =>
    rw [tPut_old a h, keys_map]
    exact hn
theorem len_put (m : List (Str × α)) (x : Str) (a : α) : (tPut m x a).length ≤ m.length + 1 := by
  unfold tPut
  split
  · rw [List.length_map]
    omega
  · rw [List.length_append]
    exact Nat.le_refl _
theorem mem_put {m : List (Str × α)} {x : Str} {a : α} {e : Str × α} (h : e ∈ tPut m x a) : e ∈ m ∨ e = (x, a) := by
  unfold tPut at h
  split at h
  · obtain ⟨f, hf, q⟩ := List.mem_map.mp h
    split at q
    · rename_i c
      right
      rw [← q, ← c]
    · left
      rw [← q]
      exact hf
  · rcases List.mem_append.mp h with h | h
    · exact .inl h
    · exact .inr (by simpa using h)
theorem nodup_drop {m : List (Str × α)} (hn : (keysOf m).Nodup) (x : Str) : (keysOf (tDrop m x)).Nodup :=
  hn.sublist (List.Sublist.map _ List.filter_sublist)
theorem mem_drop {m : List (Str × α)} {x : Str} {e : Str × α} (h : e ∈ tDrop m x) : e ∈ m := (List.mem_filter.mp h).1
theorem len_drop (m : List (Str × α)) (x : Str) : (tDrop m x).length ≤ m.length := List.length_filter_le _ _
theorem tGet_snoc {x : Str} (a : α) : ∀ {m : List (Str × α)}, tGet m x = none → tGet (m ++ [(x, a)]) x = some a
  | [], _ => tGet_pos rfl
  | e :: r, h => by
    have c : ¬ e.1 = x := fun z => by rw [tGet_pos z] at h; cases h
    rw [tGet_neg c] at h
    rw [List.cons_append, tGet_neg c]
    exact tGet_snoc a h
theorem tGet_set {x : Str} (a : α) {b : α} : ∀ {m : List (Str × α)}, tGet m x = some b → tGet (m.map fun e => if e.1 = x then (e.1, a) else e) x = some a
  | [], h => by cases h
  | e :: r, h => by
    rw [List.map_cons]
    by_cases c : e.1 = x
    · rw [if_pos c]
      exact tGet_pos c
    · rw [if_neg c, tGet_neg c]
      rw [tGet_neg c] at h
      exact tGet_set a h
theorem tGet_put_self (m : List (Str × α)) (x : Str) (a : α) : tGet (tPut m x a) x = some a := by
  cases h : tGet m x with
  | none =>
    rw [tPut_new a h]
    exact tGet_snoc a h
  | some b =>
    rw [tPut_old a h]
    exact tGet_set a h

/-- a dict's pairs kvs hold the table m -/
def KvR (F : V → α → Prop) : List (Key × V) → List (Str × α) → Prop := Paired fun p e => p.1 = Sum.inr e.1 ∧ F p.2 e.2
variable {F G : V → α → Prop} {kvs : List (Key × V)} {m : List (Str × α)}
theorem KvR.len (h : KvR F kvs m) : kvs.length = m.length := Paired.length h
theorem KvR.imp (h : KvR F kvs m) (f : ∀ v a, F v a → G v a) : KvR G kvs m := Paired.mapP h fun _ _ r => ⟨r.1, f _ _ r.2⟩
theorem KvR.keys (h : KvR F kvs m) : kvs.map (·.1) = (keysOf m).map Sum.inr := by
  unfold KvR at h
  induction h with
  | nil => rfl
  | cons r t ih =>
    rename_i p q l1 l2
    show p.1 :: l1.map (·.1) = Sum.inr q.1 :: (keysOf l2).map Sum.inr
    rw [ih, r.1]
theorem KvR.get_none {x : Str} (h : KvR F kvs m) (e : tGet m x = none) : valV kvs (Sum.inr x) = none := by
  unfold KvR at h
  induction h with
  | nil => rfl
  | cons r t ih =>
    rename_i p q l1 l2
    by_cases c : q.1 = x
    · rw [tGet_pos c] at e
      cases e
    · rw [tGet_neg c] at e
      rw [valV_neg (fun z => c (by rw [r.1] at z; exact Sum.inr.inj z))]
      exact ih e
theorem KvR.get_some {x : Str} {a : α} (h : KvR F kvs m) (e : tGet m x = some a) : ∃ v, valV kvs (Sum.inr x) = some v ∧ F v a := by
  unfold KvR at h
  induction h with
  | nil => cases e
  | cons r t ih =>
    rename_i p q l1 l2
    by_cases c : q.1 = x
    · rw [tGet_pos c] at e
      cases e
      exact ⟨p.2, valV_pos (by rw [r.1, c]), r.2⟩
    · rw [tGet_neg c] at e
      rw [valV_neg (fun z => c (by rw [r.1] at z; exact Sum.inr.inj z))]
      exact ih e
theorem KvR.isSome {x : Str} (h : KvR F kvs m) : (valV kvs (Sum.inr x)).isSome = (tGet m x).isSome := by
  cases e : tGet m x with
  | none =>
    rw [h.get_none e]
    rfl
  | some a =>
    obtain ⟨v, q, _⟩ := h.get_some e
    rw [q]
    rfl
theorem KvR.set {x : Str} {a : α} {v : V} (h : KvR F kvs m) (f : F v a) : KvR F (kvs.map fun kv => if kv.1 = Sum.inr x then (kv.1, v) else kv) (m.map fun e => if e.1 = x then (e.1, a) else e) := by
  unfold KvR at h ⊢
  induction h with
  | nil => exact .nil
  | cons r t ih =>
    rename_i p q l1 l2
    rw [List.map_cons, List.map_cons]
    refine .cons ?_ ih
    by_cases c : q.1 = x
    · rw [if_pos c, if_pos (by rw [r.1, c])]
      exact ⟨r.1, f⟩
    · rw [if_neg c, if_neg (fun z => c (by rw [r.1] at z; exact Sum.inr.inj z))]
      exact r
theorem KvR.put {x : Str} {a : α} {v : V} (h : KvR F kvs m) (f : F v a) : KvR F (putK kvs (Sum.inr x) v) (tPut m x a) := by
  unfold putK tPut
  rw [valV_any, tGet_any, h.isSome]
  split
  · exact h.set f
  · exact Paired.snoc h ⟨rfl, f⟩
theorem KvR.drop {x : Str} (h : KvR F kvs m) : KvR F (dropK kvs (Sum.inr x)) (tDrop m x) := by
  unfold dropK tDrop
  unfold KvR at h ⊢
  induction h with
  | nil => exact .nil
  | cons r t ih =>
    rename_i p q l1 l2
    by_cases c : q.1 = x
    · rw [List.filter_cons_of_neg (by simp [r.1, c]), List.filter_cons_of_neg (by simp [c])]
      exact ih
    · have c' : ¬ p.1 = Sum.inr x := fun z => c (by rw [r.1] at z; exact Sum.inr.inj z)
      rw [List.filter_cons_of_pos (by simpa using c'), List.filter_cons_of_pos (by simpa using c)]
      exact .cons r ih
theorem KvR.at {i : Nat} {kv : Key × V} (h : KvR F kvs m) (e : kvs[i]? = some kv) : ∃ q, m[i]? = some q ∧ kv.1 = Sum.inr q.1 ∧ F kv.2 q.2 := by
  unfold KvR at h
  induction h generalizing i with
  | nil => cases e
  | cons r t ih =>
    cases i with
    | zero =>
      cases e
      exact ⟨_, rfl, r.1, r.2⟩
    | succ i => exact ih e
theorem KvR.at' {i : Nat} {q : Str × α} (h : KvR F kvs m) (e : m[i]? = some q) : ∃ kv, kvs[i]? = some kv ∧ kv.1 = Sum.inr q.1 ∧ F kv.2 q.2 := by
  unfold KvR at h
  induction h generalizing i with
  | nil => cases e
  | cons r t ih =>
    cases i with
    | zero =>
      cases e
      exact ⟨_, rfl, r.1, r.2⟩
    | succ i => exact ih e
end tab

/-! ### files -/
abbrev Row := List Int
abbrev Mdl := List (Str × Row)
abbrev Kpt := List (Str × Mdl)
def rowOf (M : Mdl) (x : Str) : Row := (tGet M x).getD []
def putRow (r : Row) (n : Nat) (b : Int) : Row := r.take n ++ [b] ++ r.drop (n + 1)
def births (M : Mdl) : List Int := M.flatMap (·.2)
def allB (M : Mdl) (Kp : Kpt) : List Int := births M ++ Kp.flatMap fun e => births e.2
def putM (M : Mdl) (x : Str) (n : Nat) (b : Int) : Str × Mdl :=
  if (rowOf M x).length < n then ("NoPlace", M) else ("done", tPut M x (putRow (rowOf M x) n b))
def cutTo (M : Mdl) (x : Str) (n : Nat) : Mdl :=
  if n = 0 then tDrop (tPut M x ((rowOf M x).take n)) x else tPut M x ((rowOf M x).take n)
def cutM (M : Mdl) (x : Str) (n : Nat) : Str × Mdl :=
  if (tGet M x).isSome = true then (if (rowOf M x).length < n then ("NoPlace", M) else ("done", cutTo M x n)) else ("NoFile", M)
def holdM (M : Mdl) (Kp : Kpt) (x : Str) : Str × Kpt := if (tGet Kp x).isSome = true then ("HeldAlready", Kp) else ("done", tPut Kp x M)
def freeM (Kp : Kpt) (x : Str) : Str × Kpt := if (tGet Kp x).isSome = true then ("done", tDrop Kp x) else ("NotHeld", Kp)
inductive Deed where
  | put (x : Str) (n : Nat) (b : Int) | cut (x : Str) (n : Nat) | hold (x : Str) | free (x : Str)
def Deed.tup : Deed → List V
  | .put x n b => [.str "put", .str x, .int (n : Nat), .int b]
  | .cut x n => [.str "cut", .str x, .int (n : Nat), .int 0]
  | .hold x => [.str "hold", .str x, .int 0, .int 0]
  | .free x => [.str "free", .str x, .int 0, .int 0]
def Deed.word (d : Deed) (M : Mdl) (Kp : Kpt) : Str := match d with
  | .put x n b => (putM M x n b).1
  | .cut x n => (cutM M x n).1
  | .hold x => (holdM M Kp x).1
  | .free x => (freeM Kp x).1
def Deed.mdl (d : Deed) (M : Mdl) : Mdl := match d with
  | .put x n b => (putM M x n b).2
  | .cut x n => (cutM M x n).2
  | _ => M
def Deed.kpt (d : Deed) (M : Mdl) (Kp : Kpt) : Kpt := match d with
  | .hold x => (holdM M Kp x).2
  | .free x => (freeM Kp x).2
  | _ => Kp
def Deed.new : Deed → List Int
  | .put _ _ b => [b]
  | _ => []

/-! ### bounds -/
structure Good (n : Nat) (B : List Int) (M : Mdl) : Prop where
  len : M.length ≤ n
  nd : (keysOf M).Nodup
  ne : ∀ e ∈ M, e.2 ≠ []
  sub : ∀ e ∈ M, ∀ b ∈ e.2, b ∈ B
  tot : (births M).length ≤ n
structure GoodK (n : Nat) (B : List Int) (Kp : Kpt) : Prop where
  len : Kp.length ≤ n
  nd : (keysOf Kp).Nodup
  good : ∀ e ∈ Kp, Good n B e.2
theorem Good.mono {n n' : Nat} {B B' : List Int} {M : Mdl} (h : Good n B M) (hn : n ≤ n') (hB : ∀ b ∈ B, b ∈ B') : Good n' B' M :=
  ⟨Nat.le_trans h.len hn, h.nd, h.ne, fun e he b hb => hB b (h.sub e he b hb), Nat.le_trans h.tot hn⟩
theorem GoodK.mono {n n' : Nat} {B B' : List Int} {Kp : Kpt} (h : GoodK n B Kp) (hn : n ≤ n') (hB : ∀ b ∈ B, b ∈ B') : GoodK n' B' Kp :=
  ⟨Nat.le_trans h.len hn, h.nd, fun e he => (h.good e he).mono hn hB⟩
theorem Good.nil {n : Nat} {B : List Int} : Good n B [] := ⟨Nat.zero_le _, List.nodup_nil, (by simp), (by simp), Nat.zero_le _⟩
theorem GoodK.nil {n : Nat} {B : List Int} : GoodK n B [] := ⟨Nat.zero_le _, List.nodup_nil, (by simp)⟩
theorem births_cons (e : Str × Row) (M : Mdl) : births (e :: M) = e.2 ++ births M := rfl
theorem births_append (M N : Mdl) : births (M ++ N) = births M ++ births N := by
  unfold births
  rw [List.flatMap_append]
theorem row_tot {M : Mdl} {e : Str × Row} (h : e ∈ M) : e.2.length ≤ (births M).length := by
  induction M with
  | nil => cases h
  | cons f r ih =>
    rw [births_cons, List.length_append]
    rcases List.mem_cons.mp h with rfl | h
    · omega
    · have := ih h
      omega
theorem rowOf_le {n : Nat} {B : List Int} {M : Mdl} (h : Good n B M) (x : Str) : (rowOf M x).length ≤ n := by
  unfold rowOf
  cases e : tGet M x with
  | none => exact Nat.zero_le _
  | some r => exact Nat.le_trans (row_tot (tGet_mem e)) h.tot
theorem tot_set {x : Str} {b : Row} (r : Row) : ∀ {M : Mdl}, (keysOf M).Nodup → tGet M x = some b → (births (M.map fun e => if e.1 = x then (e.1, r) else e)).length + b.length = (births M).length + r.length
  | [], _, h => by cases h
  | e :: t, hn, h => by
    have hn' := List.nodup_cons.mp hn
    rw [List.map_cons, births_cons, births_cons, List.length_append, List.length_append]
    by_cases c : e.1 = x
    · rw [tGet_pos c] at h
      cases h
      rw [if_pos c]
      have same : (t.map fun e => if e.1 = x then (e.1, r) else e) = t := by
        have q : ∀ f ∈ t, (if f.1 = x then (f.1, r) else f) = f := fun f hf => by
          rw [if_neg]
          intro z
          exact hn'.1 (List.mem_map.mpr ⟨f, hf, z.trans c.symm⟩)
        rw [List.map_congr_left q]
        simp
      rw [same]
      show r.length + _ + _ = _
      omega
    · rw [tGet_neg c] at h
      rw [if_neg c]
      have := tot_set r hn'.2 h
      omega
/-- what a table's total becomes -/
theorem tot_put {M : Mdl} (hn : (keysOf M).Nodup) (x : Str) (r : Row) : (births (tPut M x r)).length + (rowOf M x).length = (births M).length + r.length := by
  unfold rowOf
  cases h : tGet M x with
  | none =>
    rw [tPut_new r h, births_append, List.length_append]
    show _ + (births [(x, r)]).length + 0 = _
    rw [births_cons]
    simp [births]
  | some b =>
    rw [tPut_old r h]
    exact tot_set r hn h
theorem births_drop (M : Mdl) (x : Str) : (births (tDrop M x)).length ≤ (births M).length := by
  induction M with
  | nil => exact Nat.le_refl _
  | cons e t ih =>
    unfold tDrop
    by_cases c : e.1 = x
    · rw [List.filter_cons_of_neg (by simp [c]), births_cons, List.length_append]
      have : (births (tDrop t x)).length ≤ (births t).length := ih
      unfold tDrop at this
      omega
    · rw [List.filter_cons_of_pos (by simpa using c), births_cons, births_cons, List.length_append, List.length_append]
      have : (births (tDrop t x)).length ≤ (births t).length := ih
      unfold tDrop at this
      omega
theorem putRow_ne (r : Row) (n : Nat) (b : Int) : putRow r n b ≠ [] := by
  unfold putRow
  simp
theorem putRow_len (r : Row) (n : Nat) (b : Int) : (putRow r n b).length ≤ r.length + 1 := by
  unfold putRow
  simp only [List.length_append, List.length_take, List.length_drop, List.length_singleton]
  omega
theorem putRow_mem {r : Row} {n : Nat} {b c : Int} (h : c ∈ putRow r n b) : c = b ∨ c ∈ r := by
  unfold putRow at h
  rcases List.mem_append.mp h with h | h
  · rcases List.mem_append.mp h with h | h
    · exact .inr (List.mem_of_mem_take h)
    · exact .inl (by simpa using h)
  · exact .inr (List.mem_of_mem_drop h)
theorem rowOf_mem {M : Mdl} {x : Str} {c : Int} (h : c ∈ rowOf M x) : ∃ e ∈ M, c ∈ e.2 := by
  unfold rowOf at h
  cases e : tGet M x with
  | none =>
    rw [e] at h
    cases h
  | some r =>
    rw [e] at h
    exact ⟨_, tGet_mem e, h⟩
theorem good_put {n : Nat} {B : List Int} {M : Mdl} (h : Good n B M) (x : Str) (k : Nat) (b : Int) : Good (n + 1) (b :: B) (putM M x k b).2 := by
  unfold putM
  split
  · exact h.mono (Nat.le_succ _) fun c hc => List.mem_cons_of_mem _ hc
  · refine ⟨Nat.le_trans (len_put _ _ _) (Nat.succ_le_succ h.len), nodup_put h.nd _ _, fun e he => ?_, fun e he c hc => ?_, ?_⟩
    · rcases mem_put he with he | rfl
      · exact h.ne e he
      · exact putRow_ne _ _ _
    · rcases mem_put he with he | rfl
      · exact List.mem_cons_of_mem _ (h.sub e he c hc)
      · rcases putRow_mem hc with rfl | hc
        · exact List.mem_cons_self
        · obtain ⟨f, hf, q⟩ := rowOf_mem hc
          exact List.mem_cons_of_mem _ (h.sub f hf c q)
    · have e := tot_put h.nd x (putRow (rowOf M x) k b)
      have l := putRow_len (rowOf M x) k b
      have t := h.tot
      show (births (tPut M x (putRow (rowOf M x) k b))).length ≤ n + 1
      omega
theorem good_cutTo {n : Nat} {B : List Int} {M : Mdl} (h : Good n B M) {x : Str} {k : Nat} (hx : (tGet M x).isSome = true) : Good (n + 1) B (cutTo M x k) := by
  have e := tot_put h.nd x ((rowOf M x).take k)
  have l : ((rowOf M x).take k).length ≤ (rowOf M x).length := by rw [List.length_take]; omega
  have t := h.tot
  have ne : rowOf M x ≠ [] := by
    unfold rowOf
    cases q : tGet M x with
    | none =>
      rw [q] at hx
      cases hx
    | some r => exact h.ne _ (tGet_mem q)
  have sub : ∀ f ∈ tPut M x ((rowOf M x).take k), ∀ c ∈ f.2, c ∈ B := fun f hf c hc => by
    rcases mem_put hf with hf | rfl
    · exact h.sub f hf c hc
    · obtain ⟨g, hg, q⟩ := rowOf_mem (List.mem_of_mem_take hc)
      exact h.sub g hg c q
  unfold cutTo
  split
  · rename_i hk
    refine ⟨Nat.le_trans (len_drop _ _) (Nat.le_trans (len_put _ _ _) (Nat.succ_le_succ h.len)), nodup_drop (nodup_put h.nd _ _) _, fun f hf => ?_, fun f hf => sub f (mem_drop hf), ?_⟩
    · have q := List.mem_filter.mp hf
      have c : f.1 ≠ x := by simpa using q.2
      rcases mem_put q.1 with hf | rfl
      · exact h.ne f hf
      · exact absurd rfl c
    · have := births_drop (tPut M x ((rowOf M x).take k)) x
      omega
  · rename_i hk
    refine ⟨Nat.le_trans (len_put _ _ _) (Nat.succ_le_succ h.len), nodup_put h.nd _ _, fun f hf => ?_, sub, by omega⟩
    rcases mem_put hf with hf | rfl
    · exact h.ne f hf
    · show (rowOf M x).take k ≠ []
      intro z
      rcases List.take_eq_nil_iff.mp z with z | z
      · exact hk z
      · exact ne z
theorem good_cut {n : Nat} {B : List Int} {M : Mdl} (h : Good n B M) (x : Str) (k : Nat) : Good (n + 1) B (cutM M x k).2 := by
  have m := h.mono (Nat.le_succ n) fun b hb => hb
  unfold cutM
  split
  · rename_i hx
    split
    · exact m
    · exact good_cutTo h hx
  · exact m
theorem good_hold {n : Nat} {B : List Int} {M : Mdl} {Kp : Kpt} (h : Good n B M) (hK : GoodK n B Kp) (x : Str) : GoodK (n + 1) B (holdM M Kp x).2 := by
  have m := hK.mono (Nat.le_succ n) fun b hb => hb
  unfold holdM
  split
  · exact m
  · refine ⟨Nat.le_trans (len_put _ _ _) (Nat.succ_le_succ hK.len), nodup_put hK.nd _ _, fun e he => ?_⟩
    rcases mem_put he with he | rfl
    · exact m.good e he
    · exact h.mono (Nat.le_succ n) fun b hb => hb
theorem good_free {n : Nat} {B : List Int} {Kp : Kpt} (hK : GoodK n B Kp) (x : Str) : GoodK (n + 1) B (freeM Kp x).2 := by
  have m := hK.mono (Nat.le_succ n) fun b hb => hb
  unfold freeM
  split
  · exact ⟨Nat.le_trans (len_drop _ _) m.len, nodup_drop hK.nd _, fun e he => m.good e (mem_drop he)⟩
  · exact m
theorem good_deed {n : Nat} {B : List Int} {M : Mdl} {Kp : Kpt} (d : Deed) (h : Good n B M) (hK : GoodK n B Kp) : Good (n + 1) (d.new ++ B) (d.mdl M) ∧ GoodK (n + 1) (d.new ++ B) (d.kpt M Kp) := by
  have m := h.mono (Nat.le_succ n) fun b hb => hb
  have mK := hK.mono (Nat.le_succ n) fun b hb => hb
  cases d with
  | put x k b => exact ⟨good_put h x k b, hK.mono (Nat.le_succ n) fun c hc => List.mem_cons_of_mem _ hc⟩
  | cut x k => exact ⟨good_cut h x k, mK⟩
  | hold x => exact ⟨m, good_hold h hK x⟩
  | free x => exact ⟨m, good_free hK x⟩
theorem allB_len {n : Nat} {B : List Int} {M : Mdl} {Kp : Kpt} (h : Good n B M) (hK : GoodK n B Kp) : (allB M Kp).length ≤ n + n * n := by
  unfold allB
  rw [List.length_append]
  have q : ∀ (L : Kpt), (∀ e ∈ L, Good n B e.2) → (L.flatMap fun e => births e.2).length ≤ L.length * n := fun L => by
    induction L with
    | nil => intro _; simp
    | cons e t ih =>
      intro hg
      have h1 := ih fun f hf => hg f (List.mem_cons_of_mem _ hf)
      have h2 := (hg e List.mem_cons_self).tot
      rw [List.flatMap_cons, List.length_append, List.length_cons, Nat.succ_mul]
      omega
  have h1 := q Kp hK.good
  have h2 := Nat.mul_le_mul_right n hK.len
  have h3 := h.tot
  omega
theorem allB_sub {n : Nat} {B : List Int} {M : Mdl} {Kp : Kpt} (h : Good n B M) (hK : GoodK n B Kp) : ∀ b ∈ allB M Kp, b ∈ B := fun b hb => by
  have q : ∀ (N : Mdl), Good n B N → ∀ b ∈ births N, b ∈ B := fun N hN b hb => by
    obtain ⟨e, he, hb⟩ := List.mem_flatMap.mp hb
    exact hN.sub e he b hb
  rcases List.mem_append.mp hb with hb | hb
  · exact q M h b hb
  · obtain ⟨e, he, hb⟩ := List.mem_flatMap.mp hb
    exact q e.2 (hK.good e he) b hb

/-! ### two risen lists with the same members are one -/
theorem risen_eq : ∀ {a b : List Int}, a.Pairwise (· < ·) → b.Pairwise (· < ·) → (∀ k, k ∈ a ↔ k ∈ b) → a = b
  | [], [], _, _, _ => rfl
  | [], y :: s, _, _, h => absurd ((h y).mpr List.mem_cons_self) (by simp)
  | x :: r, [], _, _, h => absurd ((h x).mp List.mem_cons_self) (by simp)
  | x :: r, y :: s, ha, hb, h => by
    have ha' := List.pairwise_cons.mp ha
    have hb' := List.pairwise_cons.mp hb
    have e : x = y := by
      rcases List.mem_cons.mp ((h x).mp List.mem_cons_self) with q | q
      · exact q
      · rcases List.mem_cons.mp ((h y).mpr List.mem_cons_self) with q2 | q2
        · exact q2.symm
        · have h1 := hb'.1 x q
          have h2 := ha'.1 y q2
          omega
    subst e
    have t : ∀ k, k ∈ r ↔ k ∈ s := fun k => by
      constructor
      · intro hk
        rcases List.mem_cons.mp ((h k).mp (List.mem_cons_of_mem _ hk)) with q | q
        · have := ha'.1 k hk
          omega
        · exact q
      · intro hk
        rcases List.mem_cons.mp ((h k).mpr (List.mem_cons_of_mem _ hk)) with q | q
        · have := hb'.1 k hk
          omega
        · exact q
    rw [risen_eq ha'.2 hb'.2 t]
theorem nodup_sub_len : ∀ {a b : List Int}, a.Nodup → (∀ k ∈ a, k ∈ b) → a.length ≤ b.length
  | [], _, _, _ => Nat.zero_le _
  | x :: r, b, hn, h => by
    have hn' := List.nodup_cons.mp hn
    have hx := h x List.mem_cons_self
    have q := nodup_sub_len (a := r) (b := b.erase x) hn'.2 fun k hk => (List.mem_erase_of_ne fun z => hn'.1 (by rw [← z]; exact hk)).mpr (h k (List.mem_cons_of_mem _ hk))
    rw [List.length_erase_of_mem hx] at q
    have p : 0 < b.length := List.length_pos_of_mem hx
    rw [List.length_cons]
    omega

/-! ### what stands where. S: the addresses that are written to -/
/-- what is tracked outside S is as it was -/
def Out (S : List Addr) (H H' : Hp) : Prop := ∀ b o, H b = some o → b ∉ S → H' b = some o
theorem Out.refl (S : List Addr) (H : Hp) : Out S H H := fun _ _ h _ => h
theorem Out.of {S : List Addr} {H H' : Hp} (h : Same H H') : Out S H H' := fun b o e _ => h b o e
theorem Out.trans {S : List Addr} {H H1 H2 : Hp} (a : Out S H H1) (b : Out S H1 H2) : Out S H H2 := fun c o e hc => b c o (a c o e hc) hc
theorem Out.mono {S S' : List Addr} {H H' : Hp} (a : Out S H H') (h : ∀ x ∈ S, x ∈ S') : Out S' H H' := fun c o e hc => a c o e fun z => hc (h c z)
theorem Out.same {H H' : Hp} (a : Out [] H H') : Same H H' := fun c o e => a c o e (by simp)
theorem Out.new {S : List Addr} {H H' : Hp} {p : Addr} {o : HO} (a : Out S H H') (hp : H p = none) : Out S H (upd H' p o) := fun c u e hc => by
  rw [upd_ne (ne_of_none e hp)]
  exact a c u e hc
theorem Out.write {S : List Addr} {H H' : Hp} {p : Addr} {o : HO} (a : Out S H H') (hp : p ∈ S) : Out S H (upd H' p o) := fun c u e hc => by
  rw [upd_ne (fun z => hc (by rw [z]; exact hp))]
  exact a c u e hc
theorem same_new {H : Hp} {p : Addr} {o : HO} (hp : H p = none) : Same H (upd H p o) := fun c u e => by
  rw [upd_ne (ne_of_none e hp)]
  exact e
/-- every address of S is tracked -/
def Trk (S : List Addr) (H : Hp) : Prop := ∀ x ∈ S, H x ≠ none
theorem Trk.nin {S : List Addr} {H : Hp} {p : Addr} (t : Trk S H) (h : H p = none) : p ∉ S := fun z => t p z h
def LAt (S : List Addr) (H : Hp) (v : V) (r : Row) : Prop := ∃ l, v = .ref l ∧ l ∉ S ∧ H l = some (.lst (r.map V.int))
def MAt (S : List Addr) (H : Hp) (a : Addr) (M : Mdl) : Prop := ∃ kvs, H a = some (.dK kvs) ∧ KvR (LAt S H) kvs M
def DAt (S : List Addr) (H : Hp) (v : V) (M : Mdl) : Prop := ∃ d, v = .ref d ∧ d ∉ S ∧ MAt S H d M
def KAt (S : List Addr) (H : Hp) (a : Addr) (Kp : Kpt) : Prop := ∃ kvs, H a = some (.dK kvs) ∧ KvR (DAt S H) kvs Kp
section
variable {S S' : List Addr} {H H' : Hp} {v : V} {r : Row} {M : Mdl} {Kp : Kpt} {a : Addr}
theorem LAt.out (h : LAt S H v r) (o : Out S H H') : LAt S H' v r := by
  obtain ⟨l, e, n, q⟩ := h
  exact ⟨l, e, n, o l _ q n⟩
theorem LAt.grow (h : LAt S H v r) (g : ∀ x ∈ S', x ∈ S ∨ H x = none) : LAt S' H v r := by
  obtain ⟨l, e, n, q⟩ := h
  refine ⟨l, e, fun z => ?_, q⟩
  rcases g l z with z | z
  · exact n z
  · rw [q] at z
    cases z
theorem MAt.out (h : MAt S H a M) (o : Out S H H') (k : ∀ u, H a = some u → H' a = some u) : MAt S H' a M := by
  obtain ⟨kvs, e, q⟩ := h
  exact ⟨kvs, k _ e, q.imp fun _ _ z => z.out o⟩
theorem MAt.grow (h : MAt S H a M) (g : ∀ x ∈ S', x ∈ S ∨ H x = none) : MAt S' H a M := by
  obtain ⟨kvs, e, q⟩ := h
  exact ⟨kvs, e, q.imp fun _ _ z => z.grow g⟩
theorem DAt.out (h : DAt S H v M) (o : Out S H H') : DAt S H' v M := by
  obtain ⟨d, e, n, q⟩ := h
  exact ⟨d, e, n, q.out o fun u z => o d u z n⟩
theorem DAt.grow (h : DAt S H v M) (g : ∀ x ∈ S', x ∈ S ∨ H x = none) : DAt S' H v M := by
  obtain ⟨d, e, n, q⟩ := h
  refine ⟨d, e, fun z => ?_, q.grow g⟩
  rcases g d z with z | z
  · exact n z
  · obtain ⟨kvs, e, _⟩ := q
    rw [e] at z
    cases z
theorem KAt.out (h : KAt S H a Kp) (o : Out S H H') (k : ∀ u, H a = some u → H' a = some u) : KAt S H' a Kp := by
  obtain ⟨kvs, e, q⟩ := h
  exact ⟨kvs, k _ e, q.imp fun _ _ z => z.out o⟩
theorem KAt.grow (h : KAt S H a Kp) (g : ∀ x ∈ S', x ∈ S ∨ H x = none) : KAt S' H a Kp := by
  obtain ⟨kvs, e, q⟩ := h
  exact ⟨kvs, e, q.imp fun _ _ z => z.grow g⟩
theorem MAt.same (h : MAt S H a M) (s : Same H H') : MAt S H' a M := h.out (.of s) fun u z => s _ _ z
theorem KAt.same (h : KAt S H a Kp) (s : Same H H') : KAt S H' a Kp := h.out (.of s) fun u z => s _ _ z
end
/-! ### a lock -/
theorem lock_same {H H' : Hp} {d : Addr} {u : HO} {od : Obj} (e : H d = some u) (s : Same (upd H d (.frz od u)) H') : Same H (upd H' d u) := fun b o q => by
  by_cases c : b = d
  · subst c
    rw [e] at q
    cases q
    exact upd_same
  · rw [upd_ne c]
    exact s b o (by rw [upd_ne c]; exact q)
end Wa

/-! W2a: list(d.values()). -/
namespace Wa
open PySem PySem.Spec PyProof.Rows L2
/-- the values' view of the dict at d -/
def VwO (p d : Addr) : HO := .ext fun h => h.IsValuesView p d
def tVw (td : TE) : TE := fun σ H Q => td σ H fun x H1 => ∃ d kvs, x = .ref d ∧ Rd H1 d (.dK kvs) ∧ ∀ p, H1 p = none → Q (.ref p) (upd H1 p (VwO p d))
section
variable {X : Cx} {e : Expr} {td : TE} {apos cpos : Pos}
theorem pe_vw (he : PE X e td) (hb : attributeBase e "values" X.env (eval e X.env) = eval e X.env := by rfl) (hl : (apos.endLine == cpos.line) = true := by rfl) : PE X (.Call (.Attribute e "values" apos) [] [] cpos) (tVw td) := by
  constructor
  intro pins s σ H Q I h
  refine wpAny_Call_method (T := "dict") (id := "dict.values") hb rfl hl PySem.F.plainAttrs_dict PySem.F.slot_dict_values PySem.F.type_dict_values ?_
  refine thn (he.run pins s σ H _ I h) fun u s1 hu => ?_
  obtain ⟨x, H1, I1, rx, d, kvs, rfl, hd, q⟩ := hu
  cases (show u = Value.ref d from rx)
  obtain ⟨_, low, vs, kv, hdo⟩ := dk_rd I1.hok hd
  refine ⟨hdo.typeIs, hdo.mapOf.noDict, ?_⟩
  have new : ∀ b ob, s1.heap.get? b = some ob → (s1.heap.push { cls := .type "dict_values", data := .fields #[.ref d] }).get? b = some ob := fun b ob z => Heap.get?_push_of_some _ z
  have vw : (s1.heap.push { cls := .type "dict_values", data := .fields #[.ref d] }).IsValuesView s1.heap.objs.size d := ⟨_, Heap.get?_push_size _ rfl, rfl, rfl⟩
  have J : Inv X pins σ (upd H1 s1.heap.objs.size (VwO s1.heap.objs.size d)) { s1 with heap := s1.heap.push { cls := .type "dict_values", data := .fields #[.ref d] } } :=
    I1.laid (t' := s1.toks) new (Nat.le_refl _) ⟨vw, ⟨_, Heap.get?_push_size _ rfl⟩, fun h1 h2 ⟨o, e1, e2⟩ k => ⟨o, k _ e1, e2⟩⟩
  exact method_meetsIn PySem.F.slot_dict_values PySem.F.entry_dict_values rfl (PySem.evalArgs_none ⟨rfl, hdo.typeIs, PySem.F.args_dict_values_1 _, _, meets_dict_values (mixKind X.prog X.w) d low, ⟨vs, hdo⟩,
    ⟨.ref s1.heap.objs.size, _, J, rfl, q _ (I1.hok.fresh (Nat.le_refl _))⟩⟩)
theorem vals_snds : ∀ {kvs : List (Key × V)} {vs : List (Key × Value)}, KV kvs vs → Vals (kvs.map (·.2)) (vs.map (·.2))
  | _, _, .nil => .nil
  | _, _, .cons r t => .cons r.2 (vals_snds t)
/-- list(v), v such a view -/
theorem call_listVw (hc : X.calm = true) : CallR X (.type "list") (fun xs H Q => ∃ (p d : Addr) (kvs : List (Key × V)), xs = [.ref p] ∧ H p = some (VwO p d) ∧ Rd H d (.dK kvs) ∧ ∀ q, H q = none → Q (.ref q) (upd H q (.lst (kvs.map (·.2))))) := by
  intro pins s σ H xs us Q I r h
  obtain ⟨p, d, kvs, rfl, hp, hd, q⟩ := h
  cases r with
  | cons ra rb =>
    cases rb
    cases ra
    obtain ⟨size, low, vs, kv, hdo⟩ := dk_rd I.hok hd
    obtain ⟨ep, dat⟩ := hdo.dictAt
    have lk := kv.length
    refine PySem.W.kdl_call (PySem.W.kdl_values (knd := mixKind X.prog X.w) (kvs := vs) (ep := ep)) (I.ok.hd hc) ⟨(I.hok p _ hp).1, dat⟩ (by omega) fun h' tk acc c keep hS hacc => ?_
    have ev : acc.toList = vs.map (·.2) := PySem.W.kdl_vals_eq acc.toList (by rw [Array.length_toList]; exact hacc.1) fun j v z => hacc.2 j v (by rw [← Array.getElem?_toList]; exact z)
    refine ⟨.ref s.heap.objs.size, upd H s.heap.objs.size (.lst (kvs.map (·.2))), I.laid (t' := tk) keep (Nat.le_refl _) ?_, rfl, q _ (I.hok.fresh (Nat.le_refl _))⟩
    exact ⟨by rw [List.length_map]; exact size, acc.toList, c, by rw [ev]; exact vals_snds kv, by rw [Array.toArray_toList]; exact hS⟩
end
end Wa

/-! W2b: set(xs), xs a list of ints. -/
namespace Wa
open PySem PySem.Spec PySem.Calls PyProof.Rows L2
/-- the object of an empty set -/
def setOb (w : World) : Obj := { cls := .type "set", dict := none, data := .set #[] 0 (.fresh 0 0 (!w.params.followText "set-order")) }
section
variable {P : Program} {w : World} {A : Around} {E : Value → Shared → Prop} {s : Shared}
/-- set(..): made, then begun by whatever its __init__ does -/
theorem setMade {args : List Value} {Q Q1 : Value → Shared → Prop} (ct : checkTypeCall "set" ⟨args, []⟩ = pure ())
    (mk : codeAny (model P w) A.in1 (.call (.builtin "set.__new__") ⟨.type "set" :: args, []⟩) (wants Q1 E) s)
    (go : ∀ ob sA, Q1 ob sA → sA.TypeIs ob "set" ∧ codeAny (model P w) A.in1 (.call (.builtin "set.__init__") ⟨ob :: args, []⟩) (wants (fun z sB => z = .none ∧ Q ob sB) E) sA) :
    wpAny (model P w) A (call (.type "set") args) Q E s := by
  have TC := PySem.F.called_set
  obtain ⟨c0, t0, mro0⟩ := TC.mro
  have made0 := TC.made
  have sub0 := TC.sub
  have nt0 := TC.notType
  have cc0 := TC.canCreate
  refine wpAny_call (codeAny_of_tree ?_)
  show wpAny _ _ (callAny (.type "set") _) _ _ _
  refine wpAny_pure ⟨Code.quiet_builtin _ (by decide +kernel), codeAny_builtin PySem.F.entry_type_call ?_⟩
  rw [Around.under_plain (weight_type_call_type "set" args []) rfl]
  repeat (any_goals (first | assumption | wp_step))
  refine codeAny_mono mk fun rA sA gA => ?_
  cases rA with
  | error eA => exact gA
  | ok fA =>
    cases fA with
    | ret ob =>
      obtain ⟨tyA, goA⟩ := go ob sA gA
      have look0 := TC.init.lookup
      have bind0 := TC.init.bind ob
      repeat (any_goals (first | assumption | wp_step))
      refine codeAny_mono goA fun rB sB gB => ?_
      cases rB with
      | error eB => exact gB
      | ok fB =>
        cases fB with
        | ret z =>
          obtain ⟨z0, qB⟩ := gB
          subst z0
          repeat (any_goals (first | assumption | wp_step))
        | _ => exact gB.elim
    | _ => exact gA.elim
/-- the __init__ of a fresh set at a, over a list of ints -/
theorem setBegun {a l : Addr} {its : Array Value} {ns : List Int} {R : Result → Shared → Prop} (hh : A.handled = none) (ha : s.heap.get? a = some (setOb w)) (hl : s.heap.IsList l its) (hi : IntsAre its.toList ns) (few : ns.length + 1 < scanBound)
    (q : ∀ (h' : Heap) (tk c : Nat), SetR w h' a (fun j => decide (j ∈ ns)) c → c ≤ ns.length → (∀ b o, b ≠ a → s.heap.get? b = some o → h'.get? b = some o) → R (.ok (.ret .none)) { s with heap := h', toks := tk }) :
    codeAny (model P w) A (.call (.builtin "set.__init__") ⟨[.ref a, .ref l], []⟩) R s := by
  have size0 : its.size = ns.length := by
    have z := IntsAre.length hi
    rwa [Array.length_toList] at z
  have ty0 : s.TypeIs (.ref a) "set" := ⟨_, ha, rfl⟩
  refine codeAny_call_builtin PySem.F.called_set.init.plain PySem.F.entry_set_init (check_set_init_1 ty0 ?_)
  have nal : l ≠ a := fun z => by
    obtain ⟨ol, e1, e2, _⟩ := hl
    rw [z, ha] at e1
    cases e1
    exact absurd (Value.type.inj e2) (by decide)
  have la := Heap.lt_size ha
  obtain ⟨ol, e1, e2, n1, e3⟩ := hl
  have ll := Heap.lt_size e1
  have hl1 : s.heap.IsList l its := ⟨ol, e1, e2, n1, e3⟩
  obtain ⟨oc, od, oda, osl⟩ := ol
  dsimp only at e2 e3
  subst e2
  subst e3
  have s1 := PySem.F.sub_list_set
  have s2 := PySem.F.sub_list_frozenset
  have s3 : (Value.type "list" == Value.type "dict") = false := by decide
  have ha' : s.heap.get? a = some { cls := .type "set", dict := none, data := .set #[] 0 (.fresh 0 0 (!w.params.followText "set-order")) } := ha
  unfold Builtin.«set.__init__» noKeywords Builtin.Frozenset.updateFrom
  generalize hit : pyIter = itr
  wp_walk
  subst hit
  refine wpAny_pyIter_list hl1 (wpAny_bind (wpAny_runValue ?_))
  have val : ∀ (i : Nat) (v : Value), its[i]? = some v → ∃ k t, ns[i]? = some k ∧ v = .int k t := fun i v hv => by
    have lt : i < ns.length := by rw [← size0]; exact (Array.getElem?_eq_some_iff.mp hv).1
    obtain ⟨t, ev⟩ := IntsAre.int_at hi i v (by rw [Array.getElem?_toList]; exact hv)
    refine ⟨ns[i], t, List.getElem?_eq_getElem lt, ?_⟩
    rw [ev, List.getD_eq_getElem?_getD, List.getElem?_eq_getElem lt] <;> rfl
  have new : ∀ b o, s.heap.get? b = some o → (s.heap.push { cls := .type "list_iterator", data := .fields #[.ref l, .int 0 0] }).get? b = some o := fun b o e => Heap.get?_push_of_some _ e
  have hh2 : A.in1.in1.handled = none := by simp [hh]
  refine set_update_ints ((Walks.list hh2 s.heap.objs.size l (Nat.ne_of_lt ll) its).toS) a ?ni ns size0 few val (its.size - 0) 0 _ (by omega) (Nat.zero_le _) ⟨⟨_, Heap.get?_push_size _ rfl, rfl, rfl⟩, hl1.push _⟩ ⟨0, Nat.le_refl 0, setR_new_at (new a _ ha')⟩ ?_
  case ni =>
    intro z
    rcases List.mem_cons.mp z with z | z
    · exact absurd z (Nat.ne_of_lt la)
    · exact absurd (List.mem_singleton.mp z) (Ne.symm nal)
  intro sB c mv hc R2
  rw [Moved.eq_with mv]
  refine wpAny_pure ?_
  show wpAny _ _ (ret Value.none) _ _ _
  rw [size0] at hc
  refine wpAny_pure (q sB.heap sB.toks c R2 hc fun b o hb e => ?_)
  refine mv.heap b o (fun z => ?_) (new b o e)
  rcases List.mem_cons.mp z with z | z
  · exact hb z
  · exact absurd (List.mem_singleton.mp z) (Nat.ne_of_lt (Heap.lt_size e))
end
section
variable {X : Cx}
/-- set(xs) of a list of ints -/
theorem call_setL (hc : X.calm = true) : CallR X (.type "set") (fun xs H Q => ∃ (l : Addr) (ns : List Int), xs = [.ref l] ∧ SqL X.K H l (ns.map V.int) ∧ ns.length + 1 < scanBound ∧
    ∀ (p : Addr) (c : Nat) (ks : List Int), H p = none → ks.Nodup → ks.length = c → (∀ k, k ∈ ks ↔ k ∈ ns) → Q (.ref p) (upd H p (SetO X.w p (fun j => decide (j ∈ ns)) c))) := by
  intro pins s σ H xs us Q I r h
  obtain ⟨l, ns, rfl, hS, few, q⟩ := h
  cases r with
  | cons ra rb =>
    cases rb
    cases ra
    obtain ⟨its, rv, pl, _⟩ := I.list hS
    have intz : IntsAre its.toArray.toList ns := by simpa using intsAre_of rv
    have hh := I.ok.hd hc
    refine setMade (Q1 := fun ob sA => ob = .ref s.heap.objs.size ∧ sA = { s with heap := s.heap.push (setOb X.w) }) (PySem.F.typeCall_set_1 _) (code_set_led1 _ ⟨rfl, rfl⟩) fun ob sA hA => ?_
    obtain ⟨e1, e2⟩ := hA
    subst e1
    subst e2
    have at0 : (s.heap.push (setOb X.w)).get? s.heap.objs.size = some (setOb X.w) := Heap.get?_push_size _ rfl
    refine ⟨⟨_, at0, rfl⟩, ?_⟩
    refine setBegun (A := X.A.in1) (s := { s with heap := s.heap.push (setOb X.w) }) (by simp [hh]) at0 (pl.isList.push _) intz few fun h' tk c R2 hc2 keep => ⟨rfl, ?_⟩
    obtain ⟨so, es, ep, st, z1, z2, z3, z4, z5, z6, z7, z8, z9, z10⟩ := id R2
    refine ⟨.ref s.heap.objs.size, upd H s.heap.objs.size (SetO X.w s.heap.objs.size (fun j => decide (j ∈ ns)) c), I.laid (t' := tk) (fun b o e => ?_) (Nat.le_refl _) (setO_new R2), rfl, q _ c (es.toList.map keyOf) (I.hok.fresh (Nat.le_refl _)) z5 (by rw [List.length_map, Array.length_toList]; exact z9) fun k => ?_⟩
    rotate_left
    · rw [← z6 k]
      exact decide_eq_true_iff
    exact keep b o (Nat.ne_of_lt (Heap.lt_size e)) (Heap.get?_push_of_some _ e)
end
end Wa

/-! W2c: a method that may raise, called in a try; a def that is handed the error that an except suite holds; count(True). -/
namespace Wa
open PySem PySem.Spec PyProof.Rows L2 L2H
section
variable {X : Cx} {CXq : CXT} {k : Nat} {f C : Addr} {fd : FuncData} {ps : List Str} {sp : Sp} {E : L2.St → XK} {m : Str} {pos apos : Pos} {e o : Expr} {es : List Expr} {ta : TE} {t : TA}
/-- o.m(e, ..), what it raises being wished for at the slots -/
theorem pe_methW {pl : Sem Bool} (oo : PE X o ta) (cc : Cls X.K C) (mm : Meth X.K C m f) (ff : FnOk X.prog X.w X.K X.mg X.base CXq k f fd ps sp) (rr : Room k X.A) (bb : Binds X.K fd ps []) (xx : ∀ σ, PassesAt CXq X σ (E σ)) (aa : PA X (e :: es) t)
    (s1 : starEach (e :: es) X.env = (false, eval e X.env) :: starEach es X.env := by rfl) (s2 : (backTo pos (starEach es X.env)).any (·.1) = false := by rfl)
    (s3 : eval (.Call (.Attribute o m apos) (e :: es) [] pos) X.env = (do
      let recv ← eval o X.env
      standAt apos.atName
      let (g, pre) ← holding [recv] (getMethod recv m pl)
      callWith pos g pre (backTo pos (starEach (e :: es) X.env)) (backToKw pos (keywordEach [] X.env))) := by rfl) :
    PE X (.Call (.Attribute o m apos) (e :: es) [] pos) (tMethH C m sp E ta t) := by
  constructor
  intro pins s σ H Q I h
  refine PySem.W.methodCall_KW (pl := pl) ?_ s3
  refine thn (oo.run pins s σ H _ I h) fun u sA hu => ?_
  obtain ⟨x, HA, IA, rx, a, dx, fs, rfl, at0, no0, q⟩ := hu
  cases (show u = Value.ref a from rx)
  refine getmeth_ok IA at0 cc mm no0 ?_
  refine PySem.W.callWith_K (first := [.ref a]) (h₀ := X.base) IA.ok.mod.kin mm.kp ?_ s1 s2
  refine thn (aa.run pos pins sA σ HA _ IA q) fun us sB hB => ?_
  obtain ⟨vs, HB, IB, rB, qB⟩ := hB
  exact ⟨IB.kIn, run_fnS (us := .ref a :: us) (vs := .ref a :: vs) ff rr bb (xx σ) IB (.cons rfl rB) qB⟩
end
/-! ### a def that is handed the error of an except suite -/
/-- by the error's address, its class, its own dict's address -/
abbrev SpE := Addr → Value → Option Addr → List V → Hp → VK → Prop
structure FnE (P : Program) (w : World) (K : PySem.W.Frag) (mg : Str → Option Value) (base : Heap) (k : Nat) (f : Addr) (fd : FuncData) (ps : List Str) (sp : SpE) : Prop where
  len : ∀ a c d vs H Q, sp a c d vs H Q → vs.length = ps.length
  run : ∀ (A : Around) (outer : List Env) (s : Shared) (H : Hp) (args : Args) (us : List Value) (vs : List V) (Q : VK) (a : Addr) (ob : Obj) (c : Value) (d : Option Addr), RoomH k A → PinOk outer H s (a, ob) → Zc c d ob → (∃ fv, ob.data = .fields fv) →
    Env0 P w K mg base A outer s H → BindsTo s fd args (ps.zip us) → Vals vs us → sp a c d vs H Q → codeAny (model P w) A (.call (.ref f) args) (CR CX0 outer P w H s Q E0) s
/-- the rule for such a def: its body in the context that bears the error -/
theorem Fun.okE {P : Program} {w : World} {K : PySem.W.Frag} {mg : Str → Option Value} {base : Heap} {x qual : Str} {st : Stmt} {f : Addr} {fd : FuncData} {N ps : List Str} {k : Nat} {sp : SpE} (F : Fun K x qual st f fd) (S : FnScope N ps (defScope st))
    (len : ∀ a c d vs H Q, sp a c d vs H Q → vs.length = ps.length)
    (body : ∀ (cdv : Value) (A : Around) (outer : List Env) (s : Shared) (H : Hp) (vs : List V) (Q : VK) (a : Addr) (ob : Obj) (c : Value) (d : Option Addr), RoomH k (A.deeper (envOfC qual (defScope st) s.heap.objs.size f cdv)) → Zc c d ob → (∃ fv, ob.data = .fields fv) → sp a c d vs H Q →
      ∃ t, PSs (cxH CX0 P w K mg base N qual (defScope st) f cdv A outer s H E0 (a, ob)).nox (defBody st) t ∧ t { nx := fun _ H' => Q .non H', rt := Q } (L2.start N vs) H) : FnE P w K mg base (k + 1) f fd ps sp := by
  obtain ⟨oc, od, kV, doc, pm, an, cdv, ct, osl, rfl, lk, code⟩ := F.ex
  refine ⟨len, ?_⟩
  intro A outer s H args us vs Q a ob c d room pin zc flds e0 binds rel want
  have nps := len _ _ _ _ _ _ want
  have inn := fun b o z => (e0.bs b o z).1
  have KS : K.In s.heap := e0.mod.kin.keeps inn
  have lim : s.heap.NoLimit := e0.mod.nolimit.keeps inn
  refine codeAny_call_function room.depth (KS _ _ lk) rfl S.co S.gen rfl (PySem.W.codeRec_of KS code) (binds _ _ _ _ ?_)
  have kinds : ∀ y ∈ ps.zip us, (defScope st).names.lookup y.1 = some .local ∨ ((defScope st).names.lookup y.1 = some .cell ∧ ((cellsFrom (s.heap.objs.size + 1) (defScope st).names []).lookup y.1).isSome = true) := by
    rintro ⟨n, v⟩ hy
    cases S.par n (List.of_mem_zip hy).1 with
    | inl z => exact .inl z
    | inr z => exact .inr ⟨z, PySem.W.cellsFrom_some _ _ _ (.inl z)⟩
  refine wpAny_newFunctionEnv_cells S.kind kinds fun env he sB xB => ?_
  subst he
  refine ⟨lim.keeps xB.toInCall.keep, codeAny_func ?_⟩
  obtain ⟨t, walked, reads⟩ := body cdv A outer s H vs Q a ob c d (room.deeper _) zc flds want
  have J : Inv (cxH CX0 P w K mg base N qual (defScope st) f cdv A outer s H E0 (a, ob)) [] (L2.start N vs) H sB := inv_startH S pin e0 nps rel xB
  refine wpAny_mono (walked.nox.run [] sB (L2.start N vs) H _ J reads) (fun fl sC hC => ?_) fun _ _ hC => hC
  cases fl with
  | next =>
    obtain ⟨σC, HC, JC, qC⟩ := hC
    exact ⟨.non, HC, JC.os, JC.bare, JC.base, JC.hok, rfl, qC⟩
  | ret u =>
    obtain ⟨v, σC, HC, JC, rv, qC⟩ := hC
    exact ⟨v, HC, JC.os, JC.bare, JC.base, JC.hok, rv, qC⟩
  | brk =>
    obtain ⟨_, _, _, qC⟩ := hC
    exact qC.elim
  | cont =>
    obtain ⟨_, _, _, qC⟩ := hC
    exact qC.elim
section
variable {X : Cx} {k : Nat} {f : Addr} {fd : FuncData} {ps : List Str} {sp : SpE} {x : Str} {q pos : Pos} {e : Expr} {es : List Expr} {t : TA} {a : Addr} {ob : Obj} {c : Value} {d : Option Addr} {pn : List (Addr × Obj)}
def tCallE (sp : SpE) (a : Addr) (c : Value) (d : Option Addr) (t : TA) : TE := fun σ H Q => t σ H fun vs H1 => sp a c d vs H1 Q
/-- f(e, ..) in the except suite that holds the error at a -/
theorem pe_callE (F : FnE X.prog X.w X.K X.mg X.base k f fd ps sp) (room : RoomH k (X.suite a ((a, ob) :: pn)).A) (gl : Gl X x) (hm : X.mg x = some (.ref f)) (kp : PySem.W.keepIn X.K (.ref f) = true) (bb : Binds X.K fd ps []) (zc : Zc c d ob) (flds : ∃ fv, ob.data = .fields fv)
    (aa : PA (X.suite a ((a, ob) :: pn)) (e :: es) t) (s0 : (x == ("__debug__" : Str)) = false := by decide) (s1 : starEach (e :: es) X.env = (false, eval e X.env) :: starEach es X.env := by rfl) (s2 : (backTo pos (starEach es X.env)).any (·.1) = false := by rfl) :
    PE (X.suite a ((a, ob) :: pn)) (.Call (.Name x q) (e :: es) [] pos) (tCallE sp a c d t) := by
  constructor
  intro pins s σ H Q I h
  refine wpAny_Call_Name_kw (ld_glob (X := X.suite a ((a, ob) :: pn)) I gl hm ?_ s0)
  refine PySem.W.callWith_K (h₀ := X.base) I.ok.mod.kin kp ?_ s1 s2
  refine thn (aa.run pos pins s σ H _ I h) fun us sB hB => ?_
  obtain ⟨vs, HB, IB, rB, qB⟩ := hB
  refine ⟨IB.kIn, ?_⟩
  have nus : us.length = ps.length := by rw [← rB.length]; exact F.len _ _ _ _ _ _ qB
  have bind := bb sB us IB.kIn (by rw [List.append_nil]; exact nus)
  rw [List.append_nil] at bind
  obtain ⟨g1, g2, g3, g4, g5⟩ := IB.pin (a, ob) (List.mem_append_left _ List.mem_cons_self)
  have pin : PinOk (X.suite a ((a, ob) :: pn)).stack HB sB (a, ob) := ⟨g1, g2, fun z => (List.mem_cons.mp (IB.stkSub a z)).elim g3 g4, g5⟩
  refine wpAny_call (codeAny_mono (F.run _ _ sB HB ⟨us, []⟩ us vs Q a ob c d room pin zc flds IB.env0 bind rB qB) fun r sC hC => ?_)
  cases r with
  | error z => exact False.elim hC
  | ok fl =>
    cases fl with
    | ret u => exact IB.after hC
    | next => exact False.elim hC
    | brk => exact False.elim hC
    | cont => exact False.elim hC
end
/-- isinstance(e, c) in a context that bears the error e -/
theorem call_isP {X : Cx} {a D : Addr} {ob : Obj} (cd : ExcC X.K D) (zc : Zc (.ref D) none ob) (flds : ∃ vs, ob.data = .fields vs) (hp : (a, ob) ∈ X.pn) : CallR X (.builtin "isinstance") (rIsE X.K D a) := by
  intro pins s σ H xs us Q I r h
  obtain ⟨c, cv, b, rfl, only, kit, q⟩ := h
  cases r with
  | cons r1 r2 =>
    cases r2 with
    | cons r3 r4 =>
      cases r4
      cases r1
      cases only _ r3
      obtain ⟨got, _⟩ := I.pin (a, ob) (List.mem_append_left _ hp)
      obtain ⟨vs, hv⟩ := flds
      have at0 : PySem.W.InstAt s.heap a ob D none := by
        cases ob with
        | mk oc od oda osl =>
          obtain ⟨z1, z2⟩ := zc
          dsimp only at z1 z2 hv
          subst z1
          subst z2
          subst hv
          exact ⟨got, rfl, rfl, trivial⟩
      refine PySem.W.kia_one (PySem.W.handS_kitx_exc cd.hg cd.hk cd.hs cd.hd cd.ha cd.hn cd.ht cd.hm) I.kIn at0 kit (fun z => by cases z) fun tk => ?_
      exact ⟨.bl b, H, I.kept (t' := tk) fun _ _ z => z, rfl, q⟩
end Wa

/-! W2d: xs.count(y) of flat items. -/
namespace Wa
open PySem PySem.Spec PyProof.Rows L2
theorem count_eqU {y : V} : ∀ {ys : List V} {us : List Value}, Vals ys us → ys.all flatV = true → us.countP (eqU y) = ys.countP fun z => eqV z y
  | _, _, .nil, _ => rfl
  | z :: ys, u :: us, .cons r t, h => by
    rw [List.all_cons, Bool.and_eq_true] at h
    rw [List.countP_cons, List.countP_cons, count_eqU t h.2, eqU_of r h.1]
def rCntF (K : PySem.W.Frag) : V → List V → Hp → VK → Prop := fun x xs H Q => ∃ (p : Addr) (ys : List V) (y : V), x = .ref p ∧ xs = [y] ∧ SqL K H p ys ∧ flatV y = true ∧ ys.all flatV = true ∧ Q (.int ((ys.countP fun z => eqV z y) : Nat)) H
theorem mt_countF {X : Cx} : MtR X "list.count" (rCntF X.K) := by
  intro pins s σ H x xs v us Q I rx rxs h
  obtain ⟨p, ys, y, rfl, rfl, sq, fy, fys, q⟩ := h
  cases rx
  obtain ⟨uy, rfl, ry⟩ := rxs.one
  obtain ⟨its, rv, ⟨ob, n, got, isL, noD, dat⟩, small⟩ := I.list sq
  obtain ⟨oc, od, oda, osl⟩ := ob
  dsimp only at isL dat
  subst isL
  subst dat
  have cnt := count_eqU (y := y) rv fys
  refine call_meets PySem.F.slot_list_count ⟨_, got, rfl⟩ PySem.F.entry_list_count (PySem.F.args_list_count_2 _ _) (SeqAt.list_countAt p its.toArray n od osl uy (eqU y)) ⟨got, fun u' hu' => mem_eqAt ry fy rv fys u' (by simpa using hu'), ?_⟩
  refine ⟨.int ((ys.countP fun z => eqV z y) : Nat), H, I.tok _, ⟨s.toks, ?_⟩, q⟩
  rw [← cnt]
end Wa

/-! W2e: != and == of lists of flat items. -/
namespace Wa
open PySem PySem.Spec PyProof.Rows L2
theorem eqV_self : ∀ {x : V}, flatV x = true → eqV x x = true
  | .non, _ => rfl
  | .bl b, _ => by simp [eqV]
  | .int i, _ => by simp [eqV]
  | .str z, _ => by simp [eqV]
theorem pairs_eq {A : Around} {s : Shared} : ∀ {xs : List V} {us ws : List Value}, Vals xs us → Vals xs ws → xs.all flatV = true → ∀ (j : Nat) (h1 : j < us.length) (h2 : j < ws.length), SeqAt.EqAt A s us[j] ws[j] true
  | [], _, _, r1, _, _ => fun j h1 _ => by
    cases r1
    exact absurd h1 (Nat.not_lt_zero j)
  | x :: xs, _, _, r1, r2, f => fun j h1 h2 => by
    rw [List.all_cons, Bool.and_eq_true] at f
    cases r1 with
    | cons a1 b1 =>
      cases r2 with
      | cons a2 b2 =>
        cases j with
        | zero =>
          have q := eqAt_V (A := A) (s := s) a1 a2 f.1 f.1
          rw [eqV_self f.1] at q
          exact q
        | succ j => exact pairs_eq b1 b2 f.2 j (Nat.lt_of_succ_lt_succ h1) (Nat.lt_of_succ_lt_succ h2)
/-- xs != ys, two lists of the same flat items -/
def rNeL (K : PySem.W.Frag) : R2 := fun x y H Q => ∃ a b xs, x = .ref a ∧ y = .ref b ∧ SqL K H a xs ∧ SqL K H b xs ∧ xs.all flatV = true ∧ Q (.bl false) H
theorem op_neL {X : Cx} (hu : X.A.units + 1 < cLine) : OpR X (compareOp .NotEq) (rNeL X.K) := by
  intro pins s σ H x y v u Q I rx ry h
  obtain ⟨a, b, xs, rfl, rfl, ha, hb, f, q⟩ := h
  cases rx
  cases ry
  obtain ⟨us, r1, p1, _⟩ := I.list ha
  obtain ⟨ws, r2, p2, _⟩ := I.list hb
  have sz : us.toArray.size = ws.toArray.size := by
    rw [List.size_toArray, List.size_toArray, ← r1.length, ← r2.length]
  have ne := SeqAt.RcNeAt.lists (A := X.A) p1.isList p2.isList sz (by omega) (e := fun _ => true) fun j h1 h2 => by
    have k := pairs_eq (A := X.A.in1) (s := s) r1 r2 f j (by simpa using h1) (by simpa using h2)
    simpa using k
  refine ne X.prog X.w _ _ ?_
  rw [show ((List.range us.toArray.size).all fun _ => true) = true from List.all_eq_true.mpr fun _ _ => rfl]
  exact ⟨.bl false, H, I, rfl, q⟩
/-- xs != [] -/
def rNeE (K : PySem.W.Frag) : R2 := fun x y H Q => ∃ a b xs, x = .ref a ∧ y = .ref b ∧ SqL K H a xs ∧ SqL K H b [] ∧ Q (.bl (!xs.isEmpty)) H
theorem op_neE {X : Cx} (hu : X.A.units + 1 < cLine) : OpR X (compareOp .NotEq) (rNeE X.K) := by
  intro pins s σ H x y v u Q I rx ry h
  obtain ⟨a, b, xs, rfl, rfl, ha, hb, q⟩ := h
  cases rx
  cases ry
  obtain ⟨us, r1, p1, _⟩ := I.list ha
  obtain ⟨ws, r2, p2, _⟩ := I.list hb
  cases r2
  cases xs with
  | nil =>
    cases r1
    have ne := SeqAt.RcNeAt.lists (A := X.A) p1.isList p2.isList rfl (by omega) (e := fun _ => true) fun j h1 _ => absurd h1 (Nat.not_lt_zero j)
    exact ne X.prog X.w _ _ ⟨.bl false, H, I, rfl, q⟩
  | cons x xs =>
    have ne := SeqAt.RcNeAt.lists_lengths (A := X.A) p1.isList p2.isList (by
      have e := r1.length
      rw [List.length_cons] at e
      have e2 : us.toArray.size = us.length := List.size_toArray
      show (us.toArray.size != 0) = true
      rw [e2, ← e]
      rfl) (by omega)
    exact ne X.prog X.w _ _ ⟨.bl true, H, I, rfl, q⟩
theorem dp_ints {K : PySem.W.Frag} {H : Hp} : ∀ ns : List Int, DpAll K H (ns.map V.int) (ns.map PyData.int)
  | [] => .nil
  | n :: ns => .cons (.int n) (dp_ints ns)
theorem shaped_ints (ns : List Int) : SeqAt.shaped (.list (ns.map PyData.int)) = true := by
  have h1 : ∀ l : List Int, PyData.canLayAll0 (l.map PyData.int) = true := fun l => by
    induction l with
    | nil => rfl
    | cons n l ih =>
      show (PyData.canLay0 (.int n) && PyData.canLayAll0 (l.map PyData.int)) = true
      rw [ih]
      rfl
  have h2 : ∀ l : List Int, PyData.depthAll (l.map PyData.int) = 0 := fun l => by
    induction l with
    | nil => rfl
    | cons n l ih =>
      show max (PyData.depth (.int n)) (PyData.depthAll (l.map PyData.int)) = 0
      rw [ih]
      rfl
  show (PyData.canLayAll0 (ns.map PyData.int) && decide (PyData.depthAll (ns.map PyData.int) + 1 ≤ 64)) = true
  rw [h1, h2]
  rfl
theorem eqv_nil (ns : List Int) : PyData.eqv (.list (ns.map PyData.int)) (.list []) = ns.isEmpty := by
  cases ns with
  | nil => rfl
  | cons n ns => rfl
end Wa

/-! W2f: a sorted list of texts is settled by its members. -/
namespace Wa
open PySem PySem.Spec PyProof.Rows
def leS (x y : Str) : Prop := x.cps.toList ≤ y.cps.toList
theorem leS_of {x y : Str} (h : ltCps y.cps.toList x.cps.toList = false) : leS x y := by
  rw [ltCps_eq] at h
  exact List.not_lt.mp (of_decide_eq_false h)
theorem pair_rising : ∀ (l : List Str) (p : Str), risingS p l = true → (∀ x ∈ l, leS p x) ∧ l.Pairwise leS
  | [], _, _ => ⟨by simp, .nil⟩
  | x :: r, p, h => by
    have h : (!ltCps x.cps.toList p.cps.toList && risingS x r) = true := h
    rw [Bool.and_eq_true] at h
    have h1 : leS p x := leS_of (by simpa using h.1)
    obtain ⟨h2, h3⟩ := pair_rising r x h.2
    refine ⟨fun y hy => ?_, List.pairwise_cons.mpr ⟨h2, h3⟩⟩
    rcases List.mem_cons.mp hy with rfl | hy
    · exact h1
    · exact List.le_trans h1 (h2 y hy)
theorem pair_sorted : ∀ {l : List Str}, sortedS l = true → l.Pairwise leS
  | [], _ => .nil
  | x :: r, h => List.pairwise_cons.mpr (pair_rising r x h)
theorem leS_anti {x y : Str} (h1 : leS x y) (h2 : leS y x) : x = y := by
  have e : x.cps.toList = y.cps.toList := List.le_antisymm h1 h2
  cases x
  cases y
  exact congrArg _ (Array.toList_inj.mp e)
theorem sorted_one {a b k : List Str} (pa : a.Perm k) (pb : b.Perm k) (sa : sortedS a = true) (sb : sortedS b = true) : a = b :=
  List.Perm.eq_of_pairwise (le := leS) (fun x y _ _ h1 h2 => leS_anti h1 h2) (pair_sorted sa) (pair_sorted sb) (pa.trans pb.symm)
end Wa

/-! W3a: the text by places; what the top leaves; the methods of Files, the short ones. -/
namespace Wa
open PySem PyProof.Rows L2
def top (i : Nat) : Stmt := PySem.Challenge.pw_cleanrows_k25_whole_apart.main.body.getD i (.Pass ⟨0, 0, 0, 0⟩)
abbrev cls : Stmt := top 19
abbrev mInit : Stmt := inClass cls 0
abbrev mNames : Stmt := inClass cls 1
abbrev mBof : Stmt := inClass cls 2
abbrev mMany : Stmt := inClass cls 3
abbrev mBirth : Stmt := inClass cls 4
abbrev mPut : Stmt := inClass cls 5
abbrev mCut : Stmt := inClass cls 6
abbrev mHold : Stmt := inClass cls 7
abbrev mWant : Stmt := inClass cls 8
abbrev mFree : Stmt := inClass cls 9
abbrev mHeld : Stmt := inClass cls 10
abbrev mOfh : Stmt := inClass cls 11
abbrev mLiv : Stmt := inClass cls 12
abbrev mCop : Stmt := inClass cls 13

/-! ### an instance of Files: its two dicts -/
def ff (b h : Addr) : List (Str × V) := putF "own_held" (.ref h) (putF "own_births" (.ref b) [])
theorem bh : ¬ (("own_births" : Str) = "own_held") := by decide +kernel
theorem ff_eq (b h : Addr) : ff b h = ([("own_births", V.ref b), ("own_held", V.ref h)] : List (Str × V)) := by
  show (if ("own_births" : Str) = "own_held" then [(("own_births" : Str), V.ref h)] else (("own_births" : Str), V.ref b) :: putF "own_held" (V.ref h) []) = ([("own_births", V.ref b), ("own_held", V.ref h)] : List (Str × V))
  rw [if_neg bh]
  all_goals rfl
theorem ff_births (b h : Addr) : (ff b h).lookup ("own_births" : Str) = some (.ref b) := by
  unfold ff
  rw [lookup_putF, if_neg bh, lookup_putF, if_pos rfl]
theorem ff_held (b h : Addr) : (ff b h).lookup ("own_held" : Str) = some (.ref h) := by
  unfold ff
  rw [lookup_putF, if_pos rfl]
theorem ff_no (b h : Addr) {m : Str} (h1 : ¬ m = "own_held") (h2 : ¬ m = "own_births") : (ff b h).lookup m = none := by
  unfold ff
  rw [lookup_putF, if_neg h1, lookup_putF, if_neg h2]
  all_goals rfl
theorem ff_setB (b h b' : Addr) : putF "own_births" (.ref b') (ff b h) = ff b' h := by
  rw [ff_eq, ff_eq]
  show (if ("own_births" : Str) = "own_births" then [(("own_births" : Str), V.ref b'), (("own_held" : Str), V.ref h)] else _) = ([("own_births", V.ref b'), ("own_held", V.ref h)] : List (Str × V))
  rw [if_pos rfl]
theorem ff_setH (b h h' : Addr) : putF "own_held" (.ref h') (ff b h) = ff b h' := by
  rw [ff_eq, ff_eq]
  show (if ("own_births" : Str) = "own_held" then _ else (("own_births" : Str), V.ref b) :: (if ("own_held" : Str) = "own_held" then [(("own_held" : Str), V.ref h')] else _)) = ([("own_births", V.ref b), ("own_held", V.ref h')] : List (Str × V))
  rw [if_neg bh, if_pos rfl]
theorem ff_len (b h : Addr) : (ff b h).length < 1000 := by
  rw [ff_eq]
  show 2 < 1000
  decide
/-- a Files stands at f, with the dicts at b and h -/
def FAt (C : Addr) (H : Hp) (f b h : Addr) : Prop := ∃ dx, H f = some (.ins C dx (ff b h))
theorem FAt.same {C f b h : Addr} {H H' : Hp} (x : FAt C H f b h) (s : Same H H') : FAt C H' f b h := by
  obtain ⟨dx, e⟩ := x
  exact ⟨dx, s _ _ e⟩
theorem FAt.out {C f b h : Addr} {H H' : Hp} {S : List Addr} (x : FAt C H f b h) (s : Out S H H') (n : f ∉ S) : FAt C H' f b h := by
  obtain ⟨dx, e⟩ := x
  exact ⟨dx, s _ _ e n⟩

/-! ### what the top leaves -/
/-- an exception class of the text -/
structure Exn (K : PySem.W.Frag) (mg : Str → Option Value) (x : Str) (D : Addr) : Prop where
  xP : PySem.W.excIn K D [.type "ValueError", .type "Exception", .type "BaseException", .type "object"] "ValueError.__new__" = true
  gP : mg x = some (.ref D)
  kP : PySem.W.keepIn K (.ref D) = true
  bP : PySem.W.subIn K (.ref D) (.type "BaseException") = some true
  tP : PySem.W.typeIn K (.ref D) = some (.type "type")
structure Ads where
  C : Addr
  noFile : Addr
  noPlace : Addr
  heldAl : Addr
  notHeld : Addr
structure Txt (K : PySem.W.Frag) (mg : Str → Option Value) (a : Ads) : Prop where
  cl : Cls K a.C
  nB : NoAttr K a.C "own_births"
  nH : NoAttr K a.C "own_held"
  mgC : mg "Files" = some (.ref a.C)
  xF : Exn K mg "NoFile" a.noFile
  xP : Exn K mg "NoPlace" a.noPlace
  xA : Exn K mg "HeldAlready" a.heldAl
  xN : Exn K mg "NotHeld" a.notHeld
  sorted : mg "sorted" = none
  len : mg "len" = none
  dict : mg "dict" = none
  list : mg "list" = none
  enumerate : mg "enumerate" = none
  range : mg "range" = none
  max : mg "max" = none
  min : mg "min" = none
  divmod : mg "divmod" = none
  int : mg "int" = none
  isinstance : mg "isinstance" = none
  set : mg "set" = none
  all : mg "all" = none
  valueError : mg "ValueError" = none
/-- a method of Files as it stands behind the top -/
structure MF (K : PySem.W.Frag) (a : Ads) (m q : Str) (st : Stmt) (ps : List Str) (f : Addr) (fd : FuncData) : Prop where
  F : Fun K m q st f fd
  m : Meth K a.C m f
  b : Binds K fd ps []
/-- a def of the law -/
structure GF (K : PySem.W.Frag) (mg : Str → Option Value) (x : Str) (st : Stmt) (ps : List Str) (f : Addr) (fd : FuncData) : Prop where
  F : Fun K x x st f fd
  g : mg x = some (.ref f)
  b : Binds K fd ps []
/-- a def that may raise, called where it raises nothing -/
theorem passF {P : Program} {w : World} {X : Cx} : Passes (L2.CX P w) X E0 := fun _ _ _ _ _ _ _ h => by
  obtain ⟨_, _, _, _, _, _, _, _, _, _, _, _, z⟩ := h
  exact z.elim

/-! ### promises -/
def spInit (a : Ads) : Sp := fun vs H Q _ => ∃ (p dx : Addr), vs = [.ref p] ∧ H p = some (.ins a.C dx []) ∧
  ∀ (b h : Addr) (H' : Hp), H b = none → H h = none → b ≠ h → FAt a.C H' p b h → H' b = some (.dK []) → H' h = some (.dK []) → (∀ y o, H y = some o → y ≠ p → H' y = some o) → Q .non H'
def spNames (a : Ads) : Sp := fun vs H Q _ => ∃ (f b h : Addr) (M : Mdl) (S : List Addr), vs = [.ref f] ∧ FAt a.C H f b h ∧ MAt S H b M ∧ M.length < 64 ∧
  ∀ ys p, ys.Perm (keysOf M) → sortedS ys = true → H p = none → Q (.ref p) (upd H p (.lst (ys.map V.str)))
def spBof (a : Ads) : Sp := fun vs H Q E => ∃ (f b h : Addr) (M : Mdl) (S : List Addr) (x : Str), vs = [.ref f, .str x] ∧ FAt a.C H f b h ∧ MAt S H b M ∧
  (∀ r v, tGet M x = some r → LAt S H v r → Q v H) ∧ (tGet M x = none → E (.ref a.noFile) none H)
def spMany (a : Ads) : Sp := fun vs H Q _ => ∃ (f b h : Addr) (M : Mdl) (S : List Addr) (x : Str), vs = [.ref f, .str x] ∧ FAt a.C H f b h ∧ MAt S H b M ∧
  ∀ H', Same H H' → Q (.int ((rowOf M x).length : Nat)) H'
def spBirth (a : Ads) : Sp := fun vs H Q _ => ∃ (f b h : Addr) (M : Mdl) (S : List Addr) (x : Str) (n : Nat) (r : Row) (z : Int), vs = [.ref f, .str x, .int (n : Nat)] ∧ FAt a.C H f b h ∧ MAt S H b M ∧ tGet M x = some r ∧ r[n]? = some z ∧ Q (.int z) H
/-- what a deed asks of the files' room -/
def spPut (a : Ads) : Sp := fun vs H Q E => ∃ (f b h : Addr) (M : Mdl) (S : List Addr) (x : Str) (n : Nat) (z : Int), vs = [.ref f, .str x, .int (n : Nat), .int z] ∧ FAt a.C H f b h ∧ MAt S H b M ∧ b ∈ S ∧ Trk S H ∧ M.length < 1000 ∧ (rowOf M x).length < 1000 ∧
  (n ≤ (rowOf M x).length → ∀ H', Out [b] H H' → MAt S H' b (tPut M x (putRow (rowOf M x) n z)) → Q .non H') ∧ ((rowOf M x).length < n → ∀ H', Same H H' → E (.ref a.noPlace) none H')
def spCut (a : Ads) : Sp := fun vs H Q E => ∃ (f b h : Addr) (M : Mdl) (S : List Addr) (x : Str) (n : Nat), vs = [.ref f, .str x, .int (n : Nat)] ∧ FAt a.C H f b h ∧ MAt S H b M ∧ b ∈ S ∧ Trk S H ∧ M.length < 1000 ∧
  (∀ H', (tGet M x).isSome = true → n ≤ (rowOf M x).length → Out [b] H H' → MAt S H' b (cutTo M x n) → Q .non H') ∧ (tGet M x = none → E (.ref a.noFile) none H) ∧ ((tGet M x).isSome = true → (rowOf M x).length < n → E (.ref a.noPlace) none H)
def spHold (a : Ads) : Sp := fun vs H Q E => ∃ (f b h : Addr) (M : Mdl) (Kp : Kpt) (S : List Addr) (x : Str), vs = [.ref f, .str x] ∧ FAt a.C H f b h ∧ MAt S H b M ∧ KAt S H h Kp ∧ h ∈ S ∧ Trk S H ∧ Kp.length < 1000 ∧
  (tGet Kp x = none → ∀ H', Out [h] H H' → KAt S H' h (tPut Kp x M) → Q .non H') ∧ ((tGet Kp x).isSome = true → E (.ref a.heldAl) none H)
def spWant (a : Ads) : Sp := fun vs H Q E => ∃ (f b h : Addr) (Kp : Kpt) (S : List Addr) (x : Str), vs = [.ref f, .str x] ∧ FAt a.C H f b h ∧ KAt S H h Kp ∧
  ((tGet Kp x).isSome = true → Q .non H) ∧ (tGet Kp x = none → E (.ref a.notHeld) none H)
def spFree (a : Ads) : Sp := fun vs H Q E => ∃ (f b h : Addr) (Kp : Kpt) (S : List Addr) (x : Str), vs = [.ref f, .str x] ∧ FAt a.C H f b h ∧ KAt S H h Kp ∧ h ∈ S ∧
  ((tGet Kp x).isSome = true → ∀ H', Out [h] H H' → KAt S H' h (tDrop Kp x) → Q .non H') ∧ (tGet Kp x = none → E (.ref a.notHeld) none H)
def spHeld (a : Ads) : Sp := fun vs H Q _ => ∃ (f b h : Addr) (Kp : Kpt) (S : List Addr), vs = [.ref f] ∧ FAt a.C H f b h ∧ KAt S H h Kp ∧ Kp.length < 64 ∧
  ∀ ys p, ys.Perm (keysOf Kp) → sortedS ys = true → H p = none → Q (.ref p) (upd H p (.lst (ys.map V.str)))

section
variable {P : Program} {w : World} {K : PySem.W.Frag} {mg : Str → Option Value} {base : Heap} {a : Ads} {f : Addr} {fd : FuncData}
theorem sc0 : FnScope ["self"] ["self"] (defScope mInit) := ⟨rfl, rfl, rfl, by decide +kernel, rfl, by decide +kernel, by decide +kernel⟩
theorem ok_init (T : Txt K mg a) (F : Fun K "__init__" "Files.__init__" mInit f fd) : FnOk P w K mg base CX0 1 f fd ["self"] (spInit a) := by
  refine F.ok sc0 (fun vs H Q E h => ?_) (fun cdv A outer s H vs Q E hr hw => ?_)
  · obtain ⟨p, dx, rfl, _⟩ := h
    rfl
  · obtain ⟨p, dx, rfl, hp, k⟩ := hw
    -- self.own_births = {}; self.own_held = {}
    refine ⟨_, pss_cons (ps_fld (pv 0) pe_dnewK rfl) (pss_one (ps_fld (pv 0) pe_dnewK rfl)), ?_⟩
    intro b nb
    have npb : p ≠ b := ne_of_none hp nb
    refine ⟨_, rfl, p, a.C, dx, [], rfl, (by rw [upd_ne npb]; exact hp), T.cl, T.nB, (by show 0 < 1000; decide), ?_⟩
    intro h nh
    have nph : p ≠ h := ne_of_none upd_same nh
    have nbh : b ≠ h := by
      refine ne_of_none (o := .dK []) ?_ nh
      rw [upd_ne npb.symm, upd_same]
    refine ⟨_, rfl, p, a.C, dx, _, rfl, (by rw [upd_ne nph, upd_same]), T.cl, T.nH, (by show 1 < 1000; decide), ?_⟩
    have nh0 : H h = none := by
      rw [upd_ne nph.symm, upd_ne nbh.symm] at nh
      exact nh
    refine k b h _ nb nh0 nbh ⟨dx, upd_same⟩ ?_ ?_ fun y o e ny => ?_
    · rw [upd_ne npb.symm, upd_ne nbh, upd_ne npb.symm, upd_same]
    · rw [upd_ne nph.symm, upd_same]
    · rw [upd_ne ny, upd_ne (ne_of_none e nh0), upd_ne ny, upd_ne (ne_of_none e nb)]
      exact e
theorem sc1 : FnScope ["self"] ["self"] (defScope mNames) := ⟨rfl, rfl, rfl, by decide +kernel, rfl, by decide +kernel, by decide +kernel⟩
theorem ok_names (T : Txt K mg a) (F : Fun K "names" "Files.names" mNames f fd) : FnOk P w K mg base CX0 1 f fd ["self"] (spNames a) := by
  refine F.ok sc1 (fun vs H Q E h => ?_) (fun cdv A outer s H vs Q E hr hw => ?_)
  · obtain ⟨f, b, h, M, S, rfl, _⟩ := h
    rfl
  · obtain ⟨f, b, h, M, S, rfl, ⟨dx, hf⟩, ⟨kvs, hb, hk⟩, few, k⟩ := hw
    refine ⟨_, pss_one (ps_ret (pe_callB (call_sortedD rfl) (by rfl) T.sorted (by decide +kernel) (pa_cons (pe_fld (pv 0) rfl) pa_nil))), ?_⟩
    exact ⟨_, rfl, f, a.C, dx, _, _, rfl, hf, T.cl, T.nB, ff_births _ _, b, kvs, keysOf M, rfl, .inl hb, hk.keys, (by unfold keysOf; rw [List.length_map]; exact few), k⟩
theorem sc2 : FnScope ["self", "file"] ["self", "file"] (defScope mBof) := ⟨rfl, rfl, rfl, by decide +kernel, rfl, by decide +kernel, by decide +kernel⟩
theorem ok_bof (T : Txt K mg a) (F : Fun K "births_of" "Files.births_of" mBof f fd) : FnOk P w K mg base (L2.CX P w) 1 f fd ["self", "file"] (spBof a) := by
  refine F.okX sc2 (fun vs H Q E h => ?_) (fun cdv A outer s H vs Q E hr hw => ?_)
  · obtain ⟨f, b, h, M, S, x, rfl, _⟩ := h
    rfl
  · obtain ⟨f, b, h, M, S, x, rfl, ⟨dx, hf⟩, ⟨kvs, hb, hk⟩, k1, k2⟩ := hw
    have hu := hu_of hr
    refine ⟨_, pss_cons (ps_if (pt_cmp (pc_dnotin hu (pv 1) (pe_fld (pv 0) rfl))) (pss_one (ps_raise rfl (takes_of rfl rfl rfl rfl) (pmk_own PySem.F.excBase_ValueError T.xF.xP T.xF.gP T.xF.kP (raises_own T.xF.bP T.xF.tP) rfl))) pss_nil)
      (pss_one (ps_ret (pe_dget hu (pe_fld (pv 0) rfl) (pv 1) (fun _ _ => rfl)))), ?_⟩
    refine ⟨_, rfl, _, rfl, f, a.C, dx, _, _, rfl, hf, T.cl, T.nB, ff_births _ _, b, _, rfl, DGet.k (k := Sum.inr x) hb, _, rfl, ?_⟩
    cases e : tGet M x with
    | none =>
      rw [hk.get_none e]
      exact iteT (k2 e)
    | some r =>
      obtain ⟨v, ev, hv⟩ := hk.get_some e
      rw [ev]
      refine iteF ?_
      exact ⟨_, rfl, f, a.C, dx, _, _, rfl, hf, T.cl, T.nB, ff_births _ _, _, rfl, b, v, rfl, ev ▸ DGet.k (k := Sum.inr x) hb, k1 r v e hv⟩
theorem sc3 : FnScope ["self", "file"] ["self", "file"] (defScope mMany) := ⟨rfl, rfl, rfl, by decide +kernel, rfl, by decide +kernel, by decide +kernel⟩
theorem ok_many (T : Txt K mg a) (F : Fun K "many" "Files.many" mMany f fd) : FnOk P w K mg base CX0 1 f fd ["self", "file"] (spMany a) := by
  refine F.ok sc3 (fun vs H Q E h => ?_) (fun cdv A outer s H vs Q E hr hw => ?_)
  · obtain ⟨f, b, h, M, S, x, rfl, _⟩ := h
    rfl
  · obtain ⟨f, b, h, M, S, x, rfl, ⟨dx, hf⟩, ⟨kvs, hb, hk⟩, k⟩ := hw
    have hu := hu_of hr
    refine ⟨_, pss_one (ps_ret (pe_callB call_len_seq (by rfl) T.len PySem.boot_len (pa_cons (pe_dget2 hu (pe_fld (pv 0) rfl) (pv 1) (pe_lst pa_nil) ⟨rfl, rfl, rfl, rfl⟩) pa_nil))), ?_⟩
    refine ⟨_, rfl, f, a.C, dx, _, _, rfl, hf, T.cl, T.nB, ff_births _ _, b, rfl, .inl ⟨kvs, .inl hb⟩, _, rfl, (by show 0 ≤ sizeLine; decide), fun l nl => ?_⟩
    have sm : Same H (upd H l (.lst [])) := same_new nl
    refine ⟨_, DGet.k (k := Sum.inr x) (sm _ _ hb), ?_⟩
    cases e : tGet M x with
    | none =>
      rw [hk.get_none e]
      refine ⟨l, [], rfl, .inl (SqL.of upd_same), ?_⟩
      have q := k _ sm
      unfold rowOf at q
      rw [e] at q
      exact q
    | some r =>
      obtain ⟨v, ev, l', rfl, _, hl'⟩ := hk.get_some e
      rw [ev]
      refine ⟨l', r.map V.int, rfl, .inl (SqL.of (sm _ _ hl')), ?_⟩
      have q := k _ sm
      unfold rowOf at q
      rw [e] at q
      rw [List.length_map]
      exact q
end
end Wa

/-! W3b: the methods of Files that change it. -/
namespace Wa
open PySem PyProof.Rows L2
theorem cutV_to (xs : List V) (n : Nat) : cutV xs none (some (n : Int)) = xs.take n := by
  unfold cutV
  rw [HT.sIx_none, HT.sIx_nat, List.drop_zero, Nat.sub_zero]
  by_cases h : n ≤ xs.length
  · rw [Nat.min_eq_left h]
  · rw [Nat.min_eq_right (by omega), List.take_of_length_le (Nat.le_refl _), List.take_of_length_le (by omega)]
theorem cutV_from (xs : List V) (n : Nat) : cutV xs (some (n : Int)) none = xs.drop n := by
  unfold cutV
  rw [HT.sIx_none, HT.sIx_nat]
  by_cases h : n ≤ xs.length
  · rw [Nat.min_eq_left h, List.take_of_length_le (by rw [List.length_drop]; exact Nat.le_refl _)]
  · rw [Nat.min_eq_right (by omega), List.drop_of_length_le (Nat.le_refl _), List.drop_of_length_le (by omega)]
    simp
theorem len_small {n : Nat} (h : n ≤ 3000) : n ≤ sizeLine := Nat.le_trans h (by decide)
theorem row_le {S : List Addr} {H : Hp} {b : Addr} {M : Mdl} {x : Str} {r : Row} (e : tGet M x = some r) : rowOf M x = r := by
  unfold rowOf
  rw [e]
  rfl
theorem row_no {M : Mdl} {x : Str} (e : tGet M x = none) : rowOf M x = [] := by
  unfold rowOf
  rw [e]
  rfl
section
variable {P : Program} {w : World} {K : PySem.W.Frag} {mg : Str → Option Value} {base : Heap} {a : Ads} {f f2 : Addr} {fd fd2 : FuncData}
theorem sc4 : FnScope ["self", "file", "place", "births"] ["self", "file", "place"] (defScope mBirth) := ⟨rfl, rfl, rfl, by decide +kernel, rfl, by decide +kernel, by decide +kernel⟩
theorem ok_birth (T : Txt K mg a) (F : Fun K "birth" "Files.birth" mBirth f fd) (B : MF K a "births_of" "Files.births_of" mBof ["self", "file"] f2 fd2) : FnOk P w K mg base CX0 2 f fd ["self", "file", "place"] (spBirth a) := by
  have G : FnOk P w K mg base (L2.CX P w) 1 f2 fd2 ["self", "file"] (spBof a) := ok_bof T B.F
  refine F.ok sc4 (fun vs H Q E h => ?_) (fun cdv A outer s H vs Q E hr hw => ?_)
  · obtain ⟨f, b, h, M, S, x, n, r, z, rfl, _⟩ := h
    rfl
  · obtain ⟨f, b, h, M, S, x, n, r, z, rfl, hf, hm, e, en, k⟩ := hw
    obtain ⟨dx, h1⟩ := id hf
    refine ⟨_, pss_cons (ps_set (i := 3) sc4.nd rfl (Or.inl rfl) (pe_meth (pv 0) T.cl B.m G hr B.b .nil passF (pa_cons (pv 1) pa_nil)))
      (pss_cons (ps_if (pt_not (pt_chain op_le op_lt pe_int (pv 2) (pe_callB call_len_seq (by rfl) T.len PySem.boot_len (pa_cons (pv 3) pa_nil)))) (pss_one ps_never) pss_nil)
      (pss_one (ps_ret (pe_ix ix_list (pv 3) (pv 2) (fun _ _ => rfl))))), ?_⟩
    refine ⟨_, rfl, f, dx, _, rfl, h1, ff_no _ _ (by decide +kernel) (by decide +kernel), _, rfl, f, b, h, M, S, x, rfl, hf, hm, fun r' v e' hv => ?_, fun e' => by rw [e] at e'; cases e'⟩
    have er : r = r' := Option.some.inj (e.symm.trans e')
    subst er
    obtain ⟨l, rfl, _, hl⟩ := hv
    have lt : n < r.length := (List.getElem?_eq_some_iff.mp en).1
    refine ⟨_, rfl, _, _, rfl, rfl, _, rfl, ?_⟩
    rw [decide_eq_true (by omega : (0 : Int) ≤ (n : Nat))]
    refine iteT ⟨_, rfl, l, _, rfl, .inl (SqL.of hl), _, _, rfl, rfl, _, rfl, ?_⟩
    rw [List.length_map, decide_eq_true (by omega : ((n : Nat) : Int) < (r.length : Nat))]
    refine iteF ?_
    exact ⟨_, rfl, _, rfl, l, _, _, _, rfl, rfl, SqL.of hl, atI_nat (by rw [List.getElem?_map, en]; rfl), k⟩
theorem sc5 : FnScope ["self", "file", "place", "birth", "births"] ["self", "file", "place", "birth"] (defScope mPut) := ⟨rfl, rfl, rfl, by decide +kernel, rfl, by decide +kernel, by decide +kernel⟩
theorem ok_put (T : Txt K mg a) (F : Fun K "put" "Files.put" mPut f fd) : FnOk P w K mg base (L2.CX P w) 1 f fd ["self", "file", "place", "birth"] (spPut a) := by
  refine F.okX sc5 (fun vs H Q E h => ?_) (fun cdv A outer s H vs Q E hr hw => ?_)
  · obtain ⟨f, b, h, M, S, x, n, z, rfl, _⟩ := h
    rfl
  · obtain ⟨f, b, h, M, S, x, n, z, rfl, ⟨dx, hf⟩, ⟨kvs, hb, hk⟩, bS, trk, ml, rl, k1, k2⟩ := hw
    have hu := hu_of hr
    refine ⟨_, pss_cons (ps_set (i := 4) sc5.nd rfl (Or.inl rfl) (pe_dget2 hu (pe_fld (pv 0) rfl) (pv 1) (pe_lst pa_nil) ⟨rfl, rfl, rfl, rfl⟩))
      (pss_cons (ps_if (pt_not (pt_chain op_le op_le pe_int (pv 2) (pe_callB call_len_seq (by rfl) T.len PySem.boot_len (pa_cons (pv 4) pa_nil)))) (pss_one (ps_raise rfl (takes_of rfl rfl rfl rfl) (pmk_own PySem.F.excBase_ValueError T.xP.xP T.xP.gP T.xP.kP (raises_own T.xP.bP T.xP.tP) rfl))) pss_nil)
      (pss_one (ps_dput hu (pe_fld (pv 0) rfl) (pv 1) (pe_op op_cat (pe_op op_cat (pe_slice sl_list (pv 4) po_none (po_some (pv 2))) (pe_lst (pa_cons (pv 3) pa_nil))) (pe_slice sl_list (pv 4) (po_some (pe_op op_add (pv 2) pe_int)) po_none)) rfl))), ?_⟩
    refine ⟨_, rfl, f, a.C, dx, _, _, rfl, hf, T.cl, T.nB, ff_births _ _, b, rfl, .inl ⟨kvs, .inl hb⟩, _, rfl, (by show 0 ≤ sizeLine; decide), fun l0 n0 => ?_⟩
    have s0 : Same H (upd H l0 (.lst [])) := same_new n0
    refine ⟨_, DGet.k (k := Sum.inr x) (s0 _ _ hb), ?_⟩
    -- the row that stands there, or the new empty one
    obtain ⟨l, hgd, hl⟩ : ∃ l, (valV kvs (Sum.inr x)).getD (.ref l0) = .ref l ∧ upd H l0 (.lst []) l = some (.lst ((rowOf M x).map V.int)) := by
      cases e : tGet M x with
      | none => exact ⟨l0, by rw [hk.get_none e]; rfl, by rw [row_no e]; exact upd_same⟩
      | some r =>
        obtain ⟨v, ev, l, rfl, _, hl⟩ := hk.get_some e
        exact ⟨l, by rw [ev]; rfl, by rw [row_le (S := S) (H := H) (b := b) e]; exact s0 _ _ hl⟩
    rw [hgd]
    refine ⟨_, rfl, _, _, rfl, rfl, _, rfl, ?_⟩
    rw [decide_eq_true (by omega : (0 : Int) ≤ (n : Nat))]
    refine iteT ⟨_, rfl, l, _, rfl, .inl (SqL.of hl), _, _, rfl, rfl, _, rfl, ?_⟩
    rw [List.length_map]
    by_cases c : n ≤ (rowOf M x).length
    · rw [decide_eq_true (by omega : ((n : Nat) : Int) ≤ ((rowOf M x).length : Nat))]
      refine iteF ?_
      refine ⟨_, rfl, _, rfl, _, rfl, l, _, rfl, SqL.of hl, fun l1 n1 => ?_⟩
      refine ⟨_, rfl, (by show 1 ≤ sizeLine; decide), fun l2 n2 => ?_⟩
      have n12 : l1 ≠ l2 := ne_of_none upd_same n2
      refine ⟨l1, l2, _, _, rfl, rfl, (by rw [upd_ne n12, upd_same]), upd_same, ?_, fun l3 n3 => ?_⟩
      · rw [cutV_to]
        refine len_small ?_
        rw [List.length_take, List.length_map]
        show min n (rowOf M x).length + 1 ≤ 3000
        omega
      have nl1 : l ≠ l1 := ne_of_none hl n1
      have nl2 : l ≠ l2 := ne_of_none (by rw [upd_ne nl1]; exact hl) n2
      have nl3 : l ≠ l3 := ne_of_none (by rw [upd_ne nl2, upd_ne nl1]; exact hl) n3
      refine ⟨_, rfl, _, rfl, _, _, rfl, rfl, _, rfl, l, _, rfl, SqL.of (by rw [upd_ne nl3, upd_ne nl2, upd_ne nl1]; exact hl), fun l4 n4 => ?_⟩
      have n34 : l3 ≠ l4 := ne_of_none upd_same n4
      refine ⟨l3, l4, _, _, rfl, rfl, (by rw [upd_ne n34, upd_same]), upd_same, ?_, fun l5 n5 => ?_⟩
      · rw [cutV_to, List.length_append, List.length_take, List.length_map]
        refine len_small ?_
        have q := cutV_length ((rowOf M x).map V.int) (some ((n : Nat) + 1)) none
        rw [List.length_map] at q
        show min n (rowOf M x).length + 1 + _ ≤ 3000
        omega
      -- all that was, is; the new row at l5
      have s1 := s0.trans (same_new (o := .lst (cutV ((rowOf M x).map V.int) none (some (n : Nat)))) n1)
      have s2 := s1.trans (same_new (o := .lst [V.int z]) n2)
      have s3 := s2.trans (same_new (o := .lst (cutV ((rowOf M x).map V.int) none (some (n : Nat)) ++ [V.int z])) n3)
      have s4 := s3.trans (same_new (o := .lst (cutV ((rowOf M x).map V.int) (some ((n : Nat) + 1)) none)) n4)
      have s5 := s4.trans (same_new (o := .lst (cutV ((rowOf M x).map V.int) none (some (n : Nat)) ++ [V.int z] ++ cutV ((rowOf M x).map V.int) (some ((n : Nat) + 1)) none)) n5)
      refine ⟨_, rfl, f, a.C, dx, _, _, rfl, s5 _ _ hf, T.cl, T.nB, ff_births _ _, _, rfl, b, _, rfl, DPut.k (k := Sum.inr x) (s5 _ _ hb) ?_, ?_⟩
      · rw [hk.len]
        exact small1000 (by omega)
      refine k1 c _ (Out.write (.of s5) (by simp)) ⟨_, upd_same, ?_⟩
      have n5S : l5 ∉ S := trk.nin (s4.free n5)
      have nb5 : l5 ≠ b := fun q => n5S (by rw [q]; exact bS)
      refine KvR.put (hk.imp fun v r hv => ?_) ⟨l5, rfl, n5S, ?_⟩
      · exact hv.out (Out.write (.of s5) bS)
      · rw [upd_ne nb5, upd_same]
        have e1 : (some ((n : Int) + 1) : Option Int) = some ((n + 1 : Nat) : Int) := rfl
        rw [e1, cutV_to, cutV_from]
        unfold putRow
        rw [List.map_append, List.map_append, List.map_take, List.map_drop]
        rfl
    · rw [decide_eq_false (by omega : ¬ ((n : Nat) : Int) ≤ ((rowOf M x).length : Nat))]
      exact iteT (k2 (by omega) _ s0)
end
end Wa

/-! W3c: cut, hold, want_held, free, held. -/
namespace Wa
open PySem PyProof.Rows L2
theorem dec_nat (n m : Nat) : decide (V.int (n : Nat) = V.int (m : Nat)) = decide (n = m) := by
  by_cases h : n = m
  · rw [decide_eq_true h, decide_eq_true (by rw [h])]
  · rw [decide_eq_false h, decide_eq_false (fun q => h (by have := V.int.inj q; omega))]
section
variable {P : Program} {w : World} {K : PySem.W.Frag} {mg : Str → Option Value} {base : Heap} {a : Ads} {f f2 : Addr} {fd fd2 : FuncData}
theorem sc6 : FnScope ["self", "file", "many", "births"] ["self", "file", "many"] (defScope mCut) := ⟨rfl, rfl, rfl, by decide +kernel, rfl, by decide +kernel, by decide +kernel⟩
theorem ok_cut (T : Txt K mg a) (F : Fun K "cut" "Files.cut" mCut f fd) (B : MF K a "births_of" "Files.births_of" mBof ["self", "file"] f2 fd2) : FnOk P w K mg base (L2.CX P w) 2 f fd ["self", "file", "many"] (spCut a) := by
  have G : FnOk P w K mg base (L2.CX P w) 1 f2 fd2 ["self", "file"] (spBof a) := ok_bof T B.F
  refine F.okX sc6 (fun vs H Q E h => ?_) (fun cdv A outer s H vs Q E hr hw => ?_)
  · obtain ⟨f, b, h, M, S, x, n, rfl, _⟩ := h
    rfl
  · obtain ⟨f, b, h, M, S, x, n, rfl, hF, hM, bS, trk, ml, k1, k2, k3⟩ := hw
    obtain ⟨dx, hf⟩ := id hF
    obtain ⟨kvs, hb, hk⟩ := id hM
    have hu := hu_of hr
    refine ⟨_, pss_cons (ps_set (i := 3) sc6.nd rfl (Or.inl rfl) (pe_meth (pv 0) T.cl B.m G hr B.b .nil (passes_call (takes_of rfl rfl rfl rfl) (fun _ _ _ _ z => z)) (pa_cons (pv 1) pa_nil)))
      (pss_cons (ps_if (pt_not (pt_chain op_le op_le pe_int (pv 2) (pe_callB call_len_seq (by rfl) T.len PySem.boot_len (pa_cons (pv 3) pa_nil)))) (pss_one (ps_raise rfl (takes_of rfl rfl rfl rfl) (pmk_own PySem.F.excBase_ValueError T.xP.xP T.xP.gP T.xP.kP (raises_own T.xP.bP T.xP.tP) rfl))) pss_nil)
      (pss_cons (ps_dput hu (pe_fld (pv 0) rfl) (pv 1) (pe_slice sl_list (pv 3) po_none (po_some (pv 2))) rfl)
      (pss_one (ps_if (pt_cmpR op_eq (pv 2) pe_int (nomark _)) (pss_one (ps_expr (pe_dpop1 (pe_fld (pv 0) rfl) (pv 1) ⟨rfl, rfl, rfl, rfl⟩))) pss_nil)))), ?_⟩
    refine ⟨_, rfl, f, dx, _, rfl, hf, ff_no _ _ (by decide +kernel) (by decide +kernel), _, rfl, f, b, h, M, S, x, rfl, hF, hM, fun r v e hv => ?_, k2⟩
    have er : rowOf M x = r := row_le (S := S) (H := H) (b := b) e
    have is0 : (tGet M x).isSome = true := by rw [e]; rfl
    obtain ⟨l, rfl, nlS, hl⟩ := hv
    refine ⟨_, rfl, _, _, rfl, rfl, _, rfl, ?_⟩
    rw [decide_eq_true (by omega : (0 : Int) ≤ (n : Nat))]
    refine iteT ⟨_, rfl, l, _, rfl, .inl (SqL.of hl), _, _, rfl, rfl, _, rfl, ?_⟩
    rw [List.length_map]
    by_cases c : n ≤ r.length
    · rw [decide_eq_true (by omega : ((n : Nat) : Int) ≤ (r.length : Nat))]
      refine iteF ?_
      refine ⟨_, rfl, _, rfl, _, rfl, l, _, rfl, SqL.of hl, fun l1 n1 => ?_⟩
      have s1 : Same H (upd H l1 (.lst (cutV (r.map V.int) none (some (n : Nat))))) := same_new n1
      refine ⟨_, rfl, f, a.C, dx, _, _, rfl, s1 _ _ hf, T.cl, T.nB, ff_births _ _, _, rfl, b, _, rfl, DPut.k (k := Sum.inr x) (s1 _ _ hb) ?_, ?_⟩
      · rw [hk.len]
        exact small1000 (by omega)
      have n1S : l1 ∉ S := trk.nin n1
      have nb1 : l1 ≠ b := fun q => n1S (by rw [q]; exact bS)
      have nfb : f ≠ b := ne_of hf hb (by intro q; cases q)
      have hk2 : KvR (LAt S (upd (upd H l1 (.lst (cutV (r.map V.int) none (some (n : Nat))))) b (.dK (putK kvs (Sum.inr x) (.ref l1))))) (putK kvs (Sum.inr x) (.ref l1)) (tPut M x (r.take n)) := by
        refine KvR.put (hk.imp fun v r hv => hv.out (Out.write (.of s1) bS)) ⟨l1, rfl, n1S, ?_⟩
        rw [upd_ne nb1, upd_same, cutV_to, List.map_take]
      refine ⟨_, rfl, rfl, _, rfl, ?_⟩
      show if decide (V.int (n : Nat) = V.int (0 : Nat)) = true then _ else _
      rw [dec_nat]
      by_cases c0 : n = 0
      · rw [decide_eq_true c0]
        refine iteT ?_
        refine ⟨_, rfl, f, a.C, dx, _, _, rfl, (by rw [upd_ne nfb]; exact s1 _ _ hf), T.cl, T.nB, ff_births _ _, b, rfl, .inl ⟨_, .inl upd_same⟩, _, rfl, _, Sum.inr x, _, upd_same, rfl, (by rw [valV_put, if_pos rfl]), ?_⟩
        refine k1 _ is0 (by rw [er]; exact c) (Out.write (Out.write (.of s1) (by simp)) (by simp)) ⟨_, upd_same, ?_⟩
        unfold cutTo
        rw [if_pos c0, er]
        exact hk2.drop.imp fun v r hv => hv.out (Out.write (Out.refl _ _) bS)
      · rw [decide_eq_false c0]
        refine iteF ?_
        refine k1 _ is0 (by rw [er]; exact c) (Out.write (.of s1) (by simp)) ⟨_, upd_same, ?_⟩
        unfold cutTo
        rw [if_neg c0, er]
        exact hk2
    · rw [decide_eq_false (by omega : ¬ ((n : Nat) : Int) ≤ (r.length : Nat))]
      exact iteT (k3 is0 (by rw [er]; omega))
theorem sc7 : FnScope ["self", "name"] ["self", "name"] (defScope mHold) := ⟨rfl, rfl, rfl, by decide +kernel, rfl, by decide +kernel, by decide +kernel⟩
theorem ok_hold (T : Txt K mg a) (F : Fun K "hold" "Files.hold" mHold f fd) : FnOk P w K mg base (L2.CX P w) 1 f fd ["self", "name"] (spHold a) := by
  refine F.okX sc7 (fun vs H Q E h => ?_) (fun cdv A outer s H vs Q E hr hw => ?_)
  · obtain ⟨f, b, h, M, Kp, S, x, rfl, _⟩ := h
    rfl
  · obtain ⟨f, b, h, M, Kp, S, x, rfl, ⟨dx, hf⟩, ⟨kvs, hb, hk⟩, ⟨hvs, hh, hd⟩, hS, trk, kl, k1, k2⟩ := hw
    have hu := hu_of hr
    refine ⟨_, pss_cons (ps_if (pt_cmp (pc_din hu (pv 1) (pe_fld (pv 0) rfl))) (pss_one (ps_raise rfl (takes_of rfl rfl rfl rfl) (pmk_own PySem.F.excBase_ValueError T.xA.xP T.xA.gP T.xA.kP (raises_own T.xA.bP T.xA.tP) rfl))) pss_nil)
      (pss_one (ps_dput hu (pe_fld (pv 0) rfl) (pv 1) (pe_callTy call_dictD (by rfl) T.dict (by decide +kernel) (pa_cons (pe_fld (pv 0) rfl) pa_nil)) rfl)), ?_⟩
    refine ⟨_, rfl, _, rfl, f, a.C, dx, _, _, rfl, hf, T.cl, T.nH, ff_held _ _, h, _, rfl, DGet.k (k := Sum.inr x) hh, _, rfl, ?_⟩
    rw [hd.isSome]
    cases e : tGet Kp x with
    | some m => exact iteT (k2 (by rw [e]; rfl))
    | none =>
      refine iteF ?_
      refine ⟨_, rfl, f, a.C, dx, _, _, rfl, hf, T.cl, T.nB, ff_births _ _, b, kvs, rfl, .inl hb, fun d nd => ?_⟩
      have s1 : Same H (upd H d (.dK kvs)) := same_new nd
      refine ⟨_, rfl, f, a.C, dx, _, _, rfl, s1 _ _ hf, T.cl, T.nH, ff_held _ _, _, rfl, h, _, rfl, DPut.k (k := Sum.inr x) (s1 _ _ hh) ?_, ?_⟩
      · rw [hd.len]
        exact small1000 (by omega)
      have ndS : d ∉ S := trk.nin nd
      have ndh : d ≠ h := fun q => ndS (by rw [q]; exact hS)
      refine k1 e _ (Out.write (.of s1) (by simp)) ⟨_, upd_same, ?_⟩
      refine KvR.put (hd.imp fun v r hv => hv.out (Out.write (.of s1) hS)) ⟨d, rfl, ndS, kvs, ?_, ?_⟩
      · rw [upd_ne ndh, upd_same]
      · exact hk.imp fun v r hv => hv.out (Out.write (.of s1) hS)
theorem sc8 : FnScope ["self", "name"] ["self", "name"] (defScope mWant) := ⟨rfl, rfl, rfl, by decide +kernel, rfl, by decide +kernel, by decide +kernel⟩
theorem ok_want (T : Txt K mg a) (F : Fun K "want_held" "Files.want_held" mWant f fd) : FnOk P w K mg base (L2.CX P w) 1 f fd ["self", "name"] (spWant a) := by
  refine F.okX sc8 (fun vs H Q E h => ?_) (fun cdv A outer s H vs Q E hr hw => ?_)
  · obtain ⟨f, b, h, Kp, S, x, rfl, _⟩ := h
    rfl
  · obtain ⟨f, b, h, Kp, S, x, rfl, ⟨dx, hf⟩, ⟨hvs, hh, hd⟩, k1, k2⟩ := hw
    have hu := hu_of hr
    refine ⟨_, pss_one (ps_if (pt_cmp (pc_dnotin hu (pv 1) (pe_fld (pv 0) rfl))) (pss_one (ps_raise rfl (takes_of rfl rfl rfl rfl) (pmk_own PySem.F.excBase_ValueError T.xN.xP T.xN.gP T.xN.kP (raises_own T.xN.bP T.xN.tP) rfl))) pss_nil), ?_⟩
    refine ⟨_, rfl, _, rfl, f, a.C, dx, _, _, rfl, hf, T.cl, T.nH, ff_held _ _, h, _, rfl, DGet.k (k := Sum.inr x) hh, _, rfl, ?_⟩
    rw [hd.isSome]
    cases e : tGet Kp x with
    | some m => exact iteF (k1 (by rw [e]; rfl))
    | none => exact iteT (k2 e)
theorem sc9 : FnScope ["self", "name"] ["self", "name"] (defScope mFree) := ⟨rfl, rfl, rfl, by decide +kernel, rfl, by decide +kernel, by decide +kernel⟩
theorem ok_free (T : Txt K mg a) (F : Fun K "free" "Files.free" mFree f fd) (B : MF K a "want_held" "Files.want_held" mWant ["self", "name"] f2 fd2) : FnOk P w K mg base (L2.CX P w) 2 f fd ["self", "name"] (spFree a) := by
  have G : FnOk P w K mg base (L2.CX P w) 1 f2 fd2 ["self", "name"] (spWant a) := ok_want T B.F
  refine F.okX sc9 (fun vs H Q E h => ?_) (fun cdv A outer s H vs Q E hr hw => ?_)
  · obtain ⟨f, b, h, Kp, S, x, rfl, _⟩ := h
    rfl
  · obtain ⟨f, b, h, Kp, S, x, rfl, hF, hK, hS, k1, k2⟩ := hw
    obtain ⟨dx, hf⟩ := id hF
    obtain ⟨hvs, hh, hd⟩ := id hK
    refine ⟨_, pss_cons (ps_expr (pe_meth (pv 0) T.cl B.m G hr B.b .nil (passes_call (takes_of rfl rfl rfl rfl) (fun _ _ _ _ z => z)) (pa_cons (pv 1) pa_nil)))
      (pss_one (ps_expr (pe_dpop1 (pe_fld (pv 0) rfl) (pv 1) ⟨rfl, rfl, rfl, rfl⟩))), ?_⟩
    refine ⟨_, rfl, f, dx, _, rfl, hf, ff_no _ _ (by decide +kernel) (by decide +kernel), _, rfl, f, b, h, Kp, S, x, rfl, hF, hK, fun is0 => ?_, k2⟩
    obtain ⟨m, e⟩ := Option.isSome_iff_exists.mp is0
    obtain ⟨v, ev, _⟩ := hd.get_some e
    refine ⟨_, rfl, f, a.C, dx, _, _, rfl, hf, T.cl, T.nH, ff_held _ _, h, rfl, .inl ⟨_, .inl hh⟩, _, rfl, _, Sum.inr x, v, hh, rfl, ev, ?_⟩
    exact k1 is0 _ (Out.write (Out.refl _ _) (by simp)) ⟨_, upd_same, hd.drop.imp fun v r hv => hv.out (Out.write (Out.refl _ _) hS)⟩
theorem sc10 : FnScope ["self"] ["self"] (defScope mHeld) := ⟨rfl, rfl, rfl, by decide +kernel, rfl, by decide +kernel, by decide +kernel⟩
theorem ok_held (T : Txt K mg a) (F : Fun K "held" "Files.held" mHeld f fd) : FnOk P w K mg base CX0 1 f fd ["self"] (spHeld a) := by
  refine F.ok sc10 (fun vs H Q E h => ?_) (fun cdv A outer s H vs Q E hr hw => ?_)
  · obtain ⟨f, b, h, Kp, S, rfl, _⟩ := h
    rfl
  · obtain ⟨f, b, h, Kp, S, rfl, ⟨dx, hf⟩, ⟨kvs, hb, hk⟩, few, k⟩ := hw
    refine ⟨_, pss_one (ps_ret (pe_callB (call_sortedD rfl) (by rfl) T.sorted (by decide +kernel) (pa_cons (pe_fld (pv 0) rfl) pa_nil))), ?_⟩
    exact ⟨_, rfl, f, a.C, dx, _, _, rfl, hf, T.cl, T.nH, ff_held _ _, h, kvs, keysOf Kp, rfl, .inl hb, hk.keys, (by unfold keysOf; rw [List.length_map]; exact few), k⟩
end
end Wa

/-! W3d: of_held. -/
namespace Wa
open PySem PyProof.Rows L2
theorem lock_out {W : List Addr} {H H' : Hp} {d : Addr} {u : HO} {od : Obj} (e : H d = some u) (s : Out W (upd H d (.frz od u)) H') : Out W H (upd H' d u) := fun b o q nb => by
  by_cases c : b = d
  · subst c
    rw [e] at q
    cases q
    exact upd_same
  · rw [upd_ne c]
    exact s b o (by rw [upd_ne c]; exact q) nb
theorem Out.add {S : List Addr} {H H' : Hp} {p : Addr} {o : HO} (a : Out S H H') (hp : H' p = none) : Out S H (upd H' p o) := fun c u e hc => by
  have q := a c u e hc
  rw [upd_ne (ne_of_none q hp)]
  exact q
theorem out_lock {W : List Addr} {H : Hp} {d : Addr} {o u : HO} (e : H d = some o) (hd : d ∈ W) : Out W H (upd H d u) := Out.write (Out.refl _ _) hd
theorem Trk.out {S W : List Addr} {H H' : Hp} (t : Trk S H) (o : Out W H H') (w : ∀ x ∈ W, H' x ≠ none) : Trk S H' := fun x hx => by
  by_cases c : x ∈ W
  · exact w x c
  · cases e : H x with
    | none => exact absurd e (t x hx)
    | some u =>
      rw [o x u e c]
      intro z
      cases z
theorem LAt.free {S : List Addr} {H : Hp} {v : V} {r : Row} {d : Addr} {u u' : HO} (h : LAt S H v r) (e : H d = some u) (ne : ∀ xs, u ≠ .lst xs) : LAt S (upd H d u') v r := by
  obtain ⟨l, e1, e2, e3⟩ := h
  refine ⟨l, e1, e2, ?_⟩
  rw [upd_ne (ne_of e3 e (fun z => ne _ z.symm))]
  exact e3
theorem take_more {α : Type} {l : List α} {i : Nat} {x : α} (h : l[i]? = some x) : l.take (i + 1) = l.take i ++ [x] := by
  rw [List.take_add_one, h]
  rfl
theorem tGet_no {α : Type} {x : Str} : ∀ {m : List (Str × α)}, x ∉ keysOf m → tGet m x = none
  | [], _ => rfl
  | e :: r, h => by
    have h' : ¬ (x = e.1 ∨ x ∈ keysOf r) := fun z => h (List.mem_cons.mpr z)
    rw [tGet_neg (fun z => h' (.inl z.symm))]
    exact tGet_no fun z => h' (.inr z)
theorem set_none {α : Type} {x : Str} (a : α) : ∀ {m : List (Str × α)}, x ∉ keysOf m → (m.map fun e => if e.1 = x then (e.1, a) else e) = m
  | [], _ => rfl
  | e :: r, h => by
    have h' : ¬ (x = e.1 ∨ x ∈ keysOf r) := fun z => h (List.mem_cons.mpr z)
    rw [List.map_cons, if_neg (fun z => h' (.inl z.symm)), set_none a fun z => h' (.inr z)]
/-- L, and behind it the first j places of the row r of y -/
def part (L : Mdl) (y : Str) (r : Row) (j : Nat) : Mdl := if j = 0 then L else L ++ [(y, r.take j)]
theorem part_row {L : Mdl} {y : Str} {r : Row} {j : Nat} (hy : y ∉ keysOf L) : rowOf (part L y r j) y = r.take j := by
  unfold rowOf part
  split
  · rename_i h
    rw [tGet_no hy, h]
    rfl
  · rw [tGet_snoc _ (tGet_no hy)]
    rfl
theorem part_put {L : Mdl} {y : Str} {r : Row} {j : Nat} {z : Int} (hy : y ∉ keysOf L) (hz : r[j]? = some z) : tPut (part L y r j) y (putRow (rowOf (part L y r j) y) j z) = part L y r (j + 1) := by
  have lt : j < r.length := (List.getElem?_eq_some_iff.mp hz).1
  have e1 : putRow (rowOf (part L y r j) y) j z = r.take (j + 1) := by
    rw [part_row hy]
    unfold putRow
    rw [List.take_take, Nat.min_self, List.drop_of_length_le (by rw [List.length_take]; omega), List.append_nil, take_more hz]
  rw [e1]
  have e2 : part L y r (j + 1) = L ++ [(y, r.take (j + 1))] := by
    unfold part
    rw [if_neg (by omega)]
  rw [e2]
  unfold part
  split
  · exact tPut_new _ (tGet_no hy)
  · rw [tPut_old _ (tGet_snoc (r.take j) (tGet_no hy)), List.map_append, set_none _ hy]
    show L ++ [if y = y then (y, r.take (j + 1)) else (y, r.take j)] = _
    rw [if_pos rfl]
theorem part_len (L : Mdl) (y : Str) (r : Row) (j : Nat) : (part L y r j).length ≤ L.length + 1 := by
  unfold part
  split
  · omega
  · rw [List.length_append]
    exact Nat.le_refl _
theorem key_new {m : Mdl} {i : Nat} {e : Str × Row} (nd : (keysOf m).Nodup) (h : m[i]? = some e) : e.1 ∉ keysOf (m.take i) := fun hm => by
  obtain ⟨lt, hi⟩ := List.getElem?_eq_some_iff.mp h
  have e1 : m = m.take i ++ e :: m.drop (i + 1) := by
    rw [← hi, ← List.drop_eq_getElem_cons lt, List.take_append_drop]
  have e2 : keysOf m = keysOf (m.take i) ++ e.1 :: keysOf (m.drop (i + 1)) := by
    have q := congrArg keysOf e1
    unfold keysOf at q ⊢
    rw [List.map_append, List.map_cons] at q
    exact q
  rw [e2] at nd
  exact (List.nodup_append.mp nd).2.2 _ hm _ List.mem_cons_self rfl

def spOfh (a : Ads) : Sp := fun vs H Q _ => ∃ (f b h : Addr) (Kp : Kpt) (S : List Addr) (x : Str) (m : Mdl) (n : Nat) (B : List Int), vs = [.ref f, .str x] ∧ FAt a.C H f b h ∧ KAt S H h Kp ∧ Trk S H ∧ tGet Kp x = some m ∧ Good n B m ∧ n < 900 ∧
  ∀ (f' b' h' : Addr) (H' : Hp), H f' = none → H b' = none → H h' = none → b' ≠ h' → Same H H' → FAt a.C H' f' b' h' → MAt (b' :: h' :: S) H' b' m → KAt (b' :: h' :: S) H' h' [] → Q (.ref f') H'
section
variable {P : Program} {w : World} {K : PySem.W.Frag} {mg : Str → Option Value} {base : Heap} {a : Ads} {f f1 f2 f3 : Addr} {fd fd1 fd2 fd3 : FuncData}
theorem sc11 : FnScope ["self", "name", "found", "file", "births", "place", "birth"] ["self", "name"] (defScope mOfh) := ⟨rfl, rfl, rfl, by decide +kernel, rfl, by decide +kernel, by decide +kernel⟩
theorem ok_ofh (T : Txt K mg a) (F : Fun K "of_held" "Files.of_held" mOfh f fd) (MI : Mk K a.C f1) (FI : Fun K "__init__" "Files.__init__" mInit f1 fd1) (bI : Binds K fd1 ["self"] []) (B : MF K a "want_held" "Files.want_held" mWant ["self", "name"] f2 fd2)
    (D : MF K a "put" "Files.put" mPut ["self", "file", "place", "birth"] f3 fd3) : FnOk P w K mg base CX0 3 f fd ["self", "name"] (spOfh a) := by
  have GI : FnOk P w K mg base CX0 1 f1 fd1 ["self"] (spInit a) := ok_init T FI
  have GW : FnOk P w K mg base (L2.CX P w) 1 f2 fd2 ["self", "name"] (spWant a) := ok_want T B.F
  have GP : FnOk P w K mg base (L2.CX P w) 1 f3 fd3 ["self", "file", "place", "birth"] (spPut a) := ok_put T D.F
  refine F.ok sc11 (fun vs H Q E h => ?_) (fun cdv A outer s H vs Q E hr hw => ?_)
  · obtain ⟨f, b, h, Kp, S, x, m, n, B, rfl, _⟩ := h
    rfl
  · obtain ⟨f, b, h, Kp, S, x, m, n, Bs, rfl, hF, hK, trk, em, gd, n9, k⟩ := hw
    obtain ⟨dx, hf⟩ := id hF
    obtain ⟨hvs, hh, hd⟩ := id hK
    have hr1 : Room 1 _ := hr.mono (by decide)
    have hu := hu_of hr
    refine ⟨_, pss_cons (ps_expr (pe_meth (pv 0) T.cl B.m GW hr1 B.b .nil passF (pa_cons (pv 1) pa_nil)))
      (pss_cons (ps_set (i := 2) sc11.nd rfl (Or.inl rfl) (pe_make0 MI GI hr rfl T.mgC bI .nil pass0))
      (pss_cons (ps_lock (ps_for PassesOwn.never rfl (pi_items (pe_dget hu (pe_fld (pv 0) rfl) (pv 1) (fun _ _ => rfl)))
          (pg_tup rfl (pgs_cons (pg_name (i := 3) sc11.nd rfl (Or.inl rfl)) (pgs_cons (pg_name (i := 4) sc11.nd rfl (Or.inl rfl)) pgs_nil)))
        (pss_one (ps_for PassesOwn.never rfl (pi_enum (by rfl) T.enumerate (pa_cons (pv 4) pa_nil))
          (pg_tup rfl (pgs_cons (pg_name (i := 5) sc11.nd rfl (Or.inl rfl)) (pgs_cons (pg_name (i := 6) sc11.nd rfl (Or.inl rfl)) pgs_nil)))
          (pss_one (ps_expr (pe_meth (pv 2) T.cl D.m GP hr1 D.b .nil passF (pa_cons (pv 3) (pa_cons (pv 5) (pa_cons (pv 6) pa_nil))))))))))
      (pss_one (ps_ret (pv 2))))), ?_⟩
    -- self.want_held(name)
    refine ⟨_, rfl, f, dx, _, rfl, hf, ff_no _ _ (by decide +kernel) (by decide +kernel), _, rfl, f, b, h, Kp, S, x, rfl, hF, hK, fun _ => ?_, fun z => by rw [em] at z; cases z⟩
    -- found = Files()
    intro f' dx' nf nd ndf
    refine ⟨f', dx', rfl, upd_same, fun b' h' H1 nb nh nbh F1 eb eh kp => ⟨rfl, ?_⟩⟩
    have s1 : Same H H1 := Same.made nf nd kp
    have pn : ∀ y, (upd (upd H dx' (.own f')) f' (.ins a.C dx' [])) y = none → H y = none := fun y e => by
      cases q : H y with
      | none => rfl
      | some u =>
        have q' : (upd (upd H dx' (.own f')) f' (.ins a.C dx' [])) y = some u := by rw [upd_ne (ne_of_none q nf), upd_ne (ne_of_none q nd)]; exact q
        rw [e] at q'
        cases q'
    have nb0 : H b' = none := pn b' nb
    have nh0 : H h' = none := pn h' nh
    obtain ⟨dxf, ef⟩ := id F1
    have nfb : f' ≠ b' := ne_of ef eb (by intro q; cases q)
    have nfh : f' ≠ h' := ne_of ef eh (by intro q; cases q)
    -- the held dict, at d
    obtain ⟨v, ev, d, rfl, dS, kvs, hdd, hk⟩ := hd.get_some em
    have hd1 : H1 d = some (.dK kvs) := s1 _ _ hdd
    have ndb : d ≠ b' := ne_of_none hdd nb0
    have ndh : d ≠ h' := ne_of_none hdd nh0
    have nhd : h ≠ d := by
      intro z
      subst z
      rw [hh] at hdd
      have e1 : hvs = kvs := by
        have q := Option.some.inj hdd
        injection q
      subst e1
      -- a value of the one is a list, of the other a dict
      obtain ⟨q1, e2, _, f2'⟩ := KvR.at hd (i := 0) (kv := (hvs.head?.getD (.inl 0, .non))) (by
        cases hvs with
        | nil => cases ev
        | cons p r => rfl)
      obtain ⟨q2, e3, _, f3'⟩ := KvR.at hk (i := 0) (kv := (hvs.head?.getD (.inl 0, .non))) (by
        cases hvs with
        | nil => cases ev
        | cons p r => rfl)
      obtain ⟨d1, g1, _, kv1, g2, _⟩ := f2'
      obtain ⟨l1, g3, _, g4⟩ := f3'
      rw [g1] at g3
      cases g3
      rw [g2] at g4
      cases g4
    have trk1 : Trk (b' :: h' :: S) H1 := fun y hy => by
      rcases List.mem_cons.mp hy with rfl | hy
      · rw [eb]
        intro z
        cases z
      · rcases List.mem_cons.mp hy with rfl | hy
        · rw [eh]
          intro z
          cases z
        · cases e : H y with
          | none => exact absurd e (trk y hy)
          | some u =>
            rw [s1 y u e]
            intro z
            cases z
    have gr : ∀ y ∈ b' :: h' :: S, y ∈ S ∨ H y = none := fun y hy => by
      rcases List.mem_cons.mp hy with rfl | hy
      · exact .inr nb0
      · rcases List.mem_cons.mp hy with rfl | hy
        · exact .inr nh0
        · exact .inl hy
    have hk1 : KvR (LAt (b' :: h' :: S) H1) kvs m := hk.imp fun v r hv => (hv.grow gr).out (.of s1)
    have ml := gd.len
    -- for file, births in self.own_held[name].items()
    refine ⟨d, .dK kvs, hd1, trivial, fun od => ?_⟩
    have o1 : Out [d] H1 (upd H1 d (.frz od (.dK kvs))) := out_lock hd1 (by simp)
    have nfd : f ≠ d := ne_of hf hdd (by intro q; cases q)
    have nf'd : f' ≠ d := ne_of ef hd1 (by intro q; cases q)
    have trk2 : Trk (b' :: h' :: S) (upd H1 d (.frz od (.dK kvs))) := trk1.out o1 fun y hy => by
      have e : y = d := by simpa using hy
      rw [e, upd_same]
      intro z
      cases z
    refine ⟨_, rfl, f, a.C, dx, _, _, rfl, (by rw [upd_ne nfd]; exact s1 _ _ hf), T.cl, T.nH, ff_held _ _, _, rfl, h, .ref d, rfl, ?_, d, od, kvs, rfl, upd_same, ?_⟩
    · have q : DGet (upd H1 d (.frz od (.dK kvs))) h (kV (Sum.inr x)) (valV hvs (Sum.inr x)) := DGet.k (by rw [upd_ne nhd]; exact s1 _ _ hh)
      rw [ev] at q
      exact q
    refine for_it walk_items (fun i σ H2 => ∃ v3 v4 v5 v6, σ = [some (.ref f), some (.str x), some (.ref f'), v3, v4, v5, v6] ∧ Out [b'] (upd H1 d (.frz od (.dK kvs))) H2 ∧ MAt (b' :: h' :: S) H2 b' (m.take i))
      ⟨none, none, none, none, rfl, Out.refl _ _, [], by rw [upd_ne ndb.symm]; exact eb, .nil⟩ (fun i σ H2 _ ⟨_, _, _, _, _, o2, _⟩ => o2 d _ upd_same (by simp [ndb])) ?_ ?_
    · rintro i y σ H2 H3 hi ⟨v3, v4, v5, v6, rfl, o2, mb⟩ ⟨t0, ky, vy, rfl, nt, rfl, e1, e2⟩
      -- the entry: a name, a row
      obtain ⟨kv, ekv⟩ : ∃ kv, kvs[i]? = some kv := ⟨kvs[i], List.getElem?_eq_getElem hi⟩
      have e1 : kvs[i]?.map (fun kv => kV kv.1) = some ky := e1
      have e2 : kvs[i]?.map Prod.snd = some vy := e2
      rw [ekv] at e1 e2
      obtain ⟨⟨y, r⟩, eq, ek, l, el, nl, hl⟩ := hk1.at ekv
      dsimp only at ek el hl
      have f1 : ky = V.str y := by
        have q : kV kv.1 = ky := Option.some.inj e1
        rw [← q, ek]
        rfl
      have f2 : vy = V.ref l := by
        have q : kv.2 = vy := Option.some.inj e2
        rw [← q, el]
      subst f1
      subst f2
      have ny := key_new gd.nd eq
      have o3 : Out [b'] (upd H1 d (.frz od (.dK kvs))) (upd H2 t0 (.tup [.str y, .ref l])) := o2.add nt
      have nld : l ≠ d := ne_of hl hd1 (by intro q; cases q)
      have nlb : l ∉ ([b'] : List Addr) := fun z => nl (by
        have z' : l = b' := by simpa using z
        rw [z']
        exact List.mem_cons_self)
      have hl3 : ∀ {H4 : Hp}, Out [b'] (upd H1 d (.frz od (.dK kvs))) H4 → H4 l = some (.lst (r.map V.int)) := fun o4 => o4 l _ (by rw [upd_ne nld]; exact hl) nlb
      refine ⟨t0, _, rfl, SqT.of upd_same, rfl, _, _, rfl, _, _, rfl, rfl, ?_⟩
      -- for place, birth in enumerate(births)
      refine ⟨_, rfl, l, r.map V.int, rfl, SqL.of (hl3 o3), ?_⟩
      refine for_it walk_enum (fun j σ H4 => ∃ v5 v6, σ = [some (.ref f), some (.str x), some (.ref f'), some (.str y), some (.ref l), v5, v6] ∧ Out [b'] (upd H1 d (.frz od (.dK kvs))) H4 ∧ MAt (b' :: h' :: S) H4 b' (part (m.take i) y r j))
        ⟨v5, v6, rfl, o3, by unfold part; rw [if_pos rfl]; exact mb.same (same_new nt)⟩ (fun j σ H4 _ ⟨_, _, _, o4, _⟩ => SqL.of (hl3 o4)) ?_ ?_
      · rintro j u σ H4 H5 hj ⟨w5, w6, rfl, o4, mp⟩ ⟨t1, kx, vx, rfl, nt1, rfl, g1, g2⟩
        have g2 : (r.map V.int)[j]? = some vx := g2
        cases Option.some.inj g1
        obtain ⟨z, ez, rfl⟩ : ∃ z, r[j]? = some z ∧ vx = V.int z := by
          rw [List.getElem?_map] at g2
          cases q : r[j]? with
          | none =>
            rw [q] at g2
            cases g2
          | some z =>
            rw [q] at g2
            exact ⟨z, rfl, (Option.some.inj g2).symm⟩
        have s5 : Same H4 (upd H4 t1 (.tup [V.int (j : Nat), V.int z])) := same_new nt1
        have o5 := Out.trans o4 (Out.of (S := [b']) s5)
        refine ⟨t1, _, rfl, SqT.of upd_same, rfl, _, _, rfl, _, _, rfl, rfl, ?_⟩
        have ef5 : FAt a.C (upd H4 t1 (.tup [V.int (j : Nat), V.int z])) f' b' h' := ⟨dxf, o5 f' _ (by rw [upd_ne nf'd]; exact ef) (by simp [nfb])⟩
        obtain ⟨dx5, e5⟩ := id ef5
        have mb5 := mp.same s5
        have trk5 : Trk (b' :: h' :: S) (upd H4 t1 (.tup [V.int (j : Nat), V.int z])) := trk2.out o5 fun y hy => by
          have e : y = b' := by simpa using hy
          obtain ⟨kk, q, _⟩ := mb5
          rw [e, q]
          intro z
          cases z
        have lr : r.length ≤ n := Nat.le_trans (row_tot (List.mem_of_getElem? eq)) gd.tot
        have jr : j < r.length := (List.getElem?_eq_some_iff.mp ez).1
        have lt1 : (rowOf (part (m.take i) y r j) y).length = j := by rw [part_row ny, List.length_take]; omega
        refine ⟨_, rfl, f', dx5, _, rfl, e5, ff_no _ _ (by decide +kernel) (by decide +kernel), _, rfl, _, rfl, _, rfl,
          f', b', h', part (m.take i) y r j, b' :: h' :: S, y, j, z, rfl, ef5, mb5, List.mem_cons_self, trk5, ?_, by omega, fun _ H6 o6 m6 => ?_, fun z => by omega⟩
        · have q := part_len (m.take i) y r j
          rw [List.length_take] at q
          omega
        · rw [part_put ny ez] at m6
          exact ⟨_, _, rfl, o5.trans o6, m6⟩
      · rintro σ H4 ⟨w5, w6, rfl, o4, mp⟩
        have ner : r ≠ [] := gd.ne _ (List.mem_of_getElem? eq)
        have e6 : part (m.take i) y r (r.map V.int).length = m.take (i + 1) := by
          rw [List.length_map]
          unfold part
          rw [if_neg (fun z => ner (List.length_eq_zero_iff.mp z)), List.take_of_length_le (Nat.le_refl _), take_more eq]
        rw [e6] at mp
        exact ⟨_, _, _, _, rfl, o4, mp⟩
    · rintro σ H2 ⟨v3, v4, v5, v6, rfl, o2, mb⟩
      have hd2 : H2 d = some (.frz od (.dK kvs)) := o2 d _ upd_same (by simp [ndb])
      refine ⟨hd2, ?_⟩
      rw [hk.len, List.take_of_length_le (Nat.le_refl _)] at mb
      have o7 : Out [b'] H1 (upd H2 d (.dK kvs)) := lock_out hd1 o2
      have s7 : Same H (upd H2 d (.dK kvs)) := fun y o e => o7 y o (s1 _ _ e) (by
        have q := ne_of_none e nb0
        simp [q])
      refine ⟨_, rfl, k f' b' h' _ nf nb0 nh0 nbh s7 ⟨dxf, o7 f' _ ef (by simp [nfb])⟩ ?_ ⟨[], o7 h' _ eh (by simp [nbh.symm]), .nil⟩⟩
      obtain ⟨kk, q1, q2⟩ := mb
      exact ⟨kk, by rw [upd_ne ndb.symm]; exact q1, q2.imp fun v r hv => hv.free hd2 (fun _ z => by cases z)⟩
end
end Wa

/-! W3e: living, copied. -/
namespace Wa
open PySem PyProof.Rows L2
/-- the keys of a dict of ints once k is stored -/
def addI (ks : List Int) (k : Int) : List Int := if k ∈ ks then ks else ks ++ [k]
theorem addI_mem {ks : List Int} {k j : Int} : j ∈ addI ks k ↔ j ∈ ks ∨ j = k := by
  unfold addI
  split
  · rename_i h
    constructor
    · exact .inl
    · rintro (z | rfl)
      · exact z
      · exact h
  · rw [List.mem_append, List.mem_singleton]
theorem addI_nd {ks : List Int} {k : Int} (h : ks.Nodup) : (addI ks k).Nodup := by
  unfold addI
  split
  · exact h
  · rename_i hk
    exact L2.nd_snoc h hk
theorem addI_keys {kvs : List (Key × V)} {ks : List Int} (h : kvs.map (·.1) = ks.map Sum.inl) (k : Int) (v : V) : (putK kvs (Sum.inl k) v).map (·.1) = (addI ks k).map Sum.inl := by
  have e : (kvs.any fun kv => decide (kv.1 = Sum.inl k)) = decide (k ∈ ks) := by
    have q : (kvs.any fun kv => decide (kv.1 = Sum.inl k)) = ((kvs.map (·.1)).any fun x => decide (x = Sum.inl k)) := by
      rw [List.any_map]
      rfl
    rw [q, h, List.any_map]
    by_cases c : k ∈ ks
    · rw [decide_eq_true c]
      exact List.any_eq_true.mpr ⟨k, c, decide_eq_true rfl⟩
    · rw [decide_eq_false c]
      refine List.any_eq_false.mpr fun j hj => ?_
      intro z
      exact c (by rw [← Sum.inl.inj (of_decide_eq_true z)]; exact hj)
  unfold putK addI
  rw [e]
  by_cases c : k ∈ ks
  · rw [if_pos (decide_eq_true c), if_pos c, List.map_map, ← h]
    refine List.map_congr_left fun kv _ => ?_
    show (if kv.1 = Sum.inl k then (kv.1, v) else kv).1 = kv.1
    split <;> rfl
  · rw [if_neg (by rw [decide_eq_false c]; exact Bool.false_ne_true), if_neg c, List.map_append, List.map_append, h]
    rfl
/-- a dict of ints at d: its keys ks, each once, are just the members of done -/
def Fnd (H : Hp) (d : Addr) (doneL : List Int) : Prop := ∃ (kvs : List (Key × V)) (ks : List Int), H d = some (.dK kvs) ∧ kvs.map (·.1) = ks.map Sum.inl ∧ ks.Nodup ∧ ∀ k, k ∈ ks ↔ k ∈ doneL
theorem Fnd.same {H H' : Hp} {d : Addr} {l : List Int} (h : Fnd H d l) (k : ∀ u, H d = some u → H' d = some u) : Fnd H' d l := by
  obtain ⟨kvs, ks, e, r⟩ := h
  exact ⟨kvs, ks, k _ e, r⟩
/-- a list's items v hold the models -/
def ItM (S : List Addr) (H : Hp) (v : V) (M : Mdl) : Prop := ∃ d, v = .ref d ∧ MAt S H d M
theorem paired_at {α β : Type} {F : α → β → Prop} {xs : List α} {ys : List β} {i : Nat} {x : α} (h : Paired F xs ys) (e : xs[i]? = some x) : ∃ y, ys[i]? = some y ∧ F x y := by
  induction h generalizing i with
  | nil => cases e
  | cons r t ih =>
    cases i with
    | zero =>
      cases e
      exact ⟨_, rfl, r⟩
    | succ i => exact ih e
theorem snds {F : V → Mdl → Prop} {kvs : List (Key × V)} {Kp : Kpt} (h : KvR F kvs Kp) : Paired F (kvs.map (·.2)) (Kp.map (·.2)) := by
  unfold KvR at h
  induction h with
  | nil => exact .nil
  | cons r t ih => exact .cons r.2 ih
theorem allB_eq (M : Mdl) (Kp : Kpt) : (M :: Kp.map (·.2)).flatMap births = allB M Kp := by
  unfold allB
  rw [List.flatMap_cons, List.flatMap_map]
theorem flat_more {α β : Type} (f : α → List β) {l : List α} {i : Nat} {x : α} (h : l[i]? = some x) : (l.take (i + 1)).flatMap f = (l.take i).flatMap f ++ f x := by
  rw [take_more h, List.flatMap_append]
  simp
def spLiv (a : Ads) : Sp := fun vs H Q _ => ∃ (f b h : Addr) (M : Mdl) (Kp : Kpt) (S : List Addr) (B : List Int), vs = [.ref f] ∧ FAt a.C H f b h ∧ MAt S H b M ∧ KAt S H h Kp ∧ Kp.length < 1000 ∧ (∀ k ∈ allB M Kp, k ∈ B) ∧ B.length < 64 ∧
  ∀ (ns : List Int) (p : Addr) (H' : Hp), ns.Pairwise (· < ·) → (∀ k, k ∈ ns ↔ k ∈ allB M Kp) → H p = none → Same H H' → H' p = some (.lst (ns.map V.int)) → Q (.ref p) H'
def spCop (a : Ads) : Sp := fun vs H Q _ => ∃ (f b h : Addr) (M : Mdl) (Kp : Kpt) (S : List Addr), vs = [.ref f] ∧ FAt a.C H f b h ∧ MAt S H b M ∧ KAt S H h Kp ∧
  ∀ (f' b' h' : Addr) (H' : Hp), H f' = none → H b' = none → H h' = none → b' ≠ h' → Same H H' → FAt a.C H' f' b' h' → MAt (b' :: h' :: S) H' b' M → KAt (b' :: h' :: S) H' h' Kp → Q (.ref f') H'
section
variable {P : Program} {w : World} {K : PySem.W.Frag} {mg : Str → Option Value} {base : Heap} {a : Ads} {f f1 : Addr} {fd fd1 : FuncData}
theorem sc12 : FnScope ["self", "found", "births_by_file", "births", "birth"] ["self"] (defScope mLiv) := ⟨rfl, rfl, rfl, by decide +kernel, rfl, by decide +kernel, by decide +kernel⟩
theorem ok_liv (T : Txt K mg a) (F : Fun K "living" "Files.living" mLiv f fd) : FnOk P w K mg base CX0 1 f fd ["self"] (spLiv a) := by
  refine F.ok sc12 (fun vs H Q E h => ?_) (fun cdv A outer s H vs Q E hr hw => ?_)
  · obtain ⟨f, b, h, M, Kp, S, B, rfl, _⟩ := h
    rfl
  · obtain ⟨f, b, h, M, Kp, S, B, rfl, ⟨dx, hf⟩, hM, ⟨hvs, hh, hd⟩, kl, sub, bl, k⟩ := hw
    have hu := hu_of hr
    refine ⟨_, pss_cons (ps_set (i := 1) sc12.nd rfl (Or.inl rfl) pe_dnewK)
      (pss_cons (ps_for PassesOwn.never rfl (pi_list (pe_op op_cat (pe_lst (pa_cons (pe_fld (pv 0) rfl) pa_nil)) (pe_callTy (call_listVw rfl) (by rfl) T.list (by decide +kernel) (pa_cons (pe_vw (pe_fld (pv 0) rfl)) pa_nil)))) (pg_name (i := 2) sc12.nd rfl (Or.inl rfl))
        (pss_one (ps_lock (ps_for PassesOwn.never rfl (pi_values (pv 2)) (pg_name (i := 3) sc12.nd rfl (Or.inl rfl))
          (pss_one (ps_for PassesOwn.never rfl (pi_list (pv 3)) (pg_name (i := 4) sc12.nd rfl (Or.inl rfl))
            (pss_one (ps_dput hu (pv 1) (pv 4) pe_bl rfl))))))))
      (pss_one (ps_ret (pe_callB (call_sortedDI rfl) (by rfl) T.sorted (by decide +kernel) (pa_cons (pv 1) pa_nil))))), ?_⟩
    -- found = {}
    intro d nd
    have s1 : Same H (upd H d (.dK [])) := same_new nd
    -- [self.own_births] + list(self.own_held.values())
    refine ⟨_, rfl, f, a.C, dx, _, _, rfl, s1 _ _ hf, T.cl, T.nB, ff_births _ _, (by show 1 ≤ sizeLine; decide), fun l1 n1 => ?_⟩
    have s2 := s1.trans (same_new (o := .lst [.ref b]) n1)
    refine ⟨_, rfl, f, a.C, dx, _, _, rfl, s2 _ _ hf, T.cl, T.nH, ff_held _ _, h, hvs, rfl, .inl (s2 _ _ hh), fun p1 m1 => ?_⟩
    have s3 := s2.trans (same_new (o := VwO p1 h) m1)
    refine ⟨p1, h, hvs, rfl, upd_same, .inl (s3 _ _ hh), fun l2 n2 => ?_⟩
    have s4 := s3.trans (same_new (o := .lst (hvs.map (·.2))) n2)
    have e1 : upd (upd (upd (upd H d (.dK [])) l1 (.lst [.ref b])) p1 (VwO p1 h)) l2 (.lst (hvs.map (·.2))) l1 = some (.lst [.ref b]) := by
      have q : (upd (upd H d (.dK [])) l1 (.lst [.ref b])) l1 = some (.lst [.ref b]) := upd_same
      exact same_new n2 _ _ (same_new m1 _ _ q)
    refine ⟨l1, l2, _, _, rfl, rfl, e1, upd_same, ?_, fun l3 n3 => ?_⟩
    · refine len_small ?_
      rw [List.length_map, hd.len]
      show 1 + Kp.length ≤ 3000
      omega
    have s5 := s4.trans (same_new (o := .lst ([V.ref b] ++ hvs.map (·.2))) n3)
    have ed : upd (upd (upd (upd (upd H d (.dK [])) l1 (.lst [.ref b])) p1 (VwO p1 h)) l2 (.lst (hvs.map (·.2)))) l3 (.lst ([V.ref b] ++ hvs.map (·.2))) d = some (.dK []) := by
      have q : (upd H d (.dK [])) d = some (.dK []) := upd_same
      exact same_new n3 _ _ (same_new n2 _ _ (same_new m1 _ _ (same_new n1 _ _ q)))
    have n3d : l3 ≠ d := (ne_of_none (by
      have q : (upd H d (.dK [])) d = some (.dK []) := upd_same
      exact same_new n2 _ _ (same_new m1 _ _ (same_new n1 _ _ q))) n3).symm
    generalize eH : upd (upd (upd (upd (upd H d (.dK [])) l1 (.lst [.ref b])) p1 (VwO p1 h)) l2 (.lst (hvs.map (·.2)))) l3 (.lst ([V.ref b] ++ hvs.map (·.2))) = H5
    rw [eH] at s5 ed
    have e3 : H5 l3 = some (.lst ([V.ref b] ++ hvs.map (·.2))) := by
      rw [← eH]
      exact upd_same
    -- what is walked, and what it holds
    have its : Paired (ItM S H) ([V.ref b] ++ hvs.map (·.2)) (M :: Kp.map (·.2)) := .cons ⟨b, rfl, hM⟩ (Paired.mapP (snds hd) fun v m ⟨dd, e, _, q⟩ => ⟨dd, e, q⟩)
    refine ⟨l3, rfl, ⟨_, SqL.of e3⟩, for_list (K := K) (a := l3) (xs := [V.ref b] ++ hvs.map (·.2)) (fun i σ H2 => ∃ v2 v3 v4, σ = [some (.ref f), some (.ref d), v2, v3, v4] ∧ Out [d] H5 H2 ∧ Fnd H2 d (((M :: Kp.map (·.2)).take i).flatMap births))
      ⟨none, none, none, rfl, Out.refl _ _, [], [], ed, rfl, List.nodup_nil, fun k => by simp⟩ (fun i σ H2 _ ⟨_, _, _, _, o, _⟩ => SqL.of (o _ _ e3 (by simp [n3d]))) ?_ ?_⟩
    · rintro i y σ H2 hi ⟨v2, v3, v4, rfl, o2, fn⟩
      obtain ⟨m, em, dm, rfl, hm⟩ := paired_at its hi
      have ndm : dm ≠ d := by
        obtain ⟨kk, q, _⟩ := hm
        exact ne_of_none q nd
      have to2 : Same H H2 := fun y o e => o2 y o (s5 _ _ e) (by
        have q := ne_of_none e nd
        simp [q])
      obtain ⟨kvs, hk, rows⟩ := hm.same to2
      refine ⟨dm, .dK kvs, hk, trivial, fun od => ?_⟩
      have hl : ∀ {H3 : Hp} {v : V} {r : Row}, Out [d] (upd H2 dm (.frz od (.dK kvs))) H3 → LAt S H2 v r → ∃ l, v = .ref l ∧ H3 l = some (.lst (r.map V.int)) := fun o3 hv => by
        obtain ⟨l, rfl, _, e⟩ := hv
        have q : l ≠ d := by
          obtain ⟨kk, ks, e', _⟩ := fn
          exact ne_of e e' (by intro z; cases z)
        have q2 : l ≠ dm := ne_of e hk (by intro z; cases z)
        exact ⟨l, rfl, o3 l _ (by rw [upd_ne q2]; exact e) (by simp [q])⟩
      refine ⟨_, rfl, dm, od, kvs, rfl, upd_same, ?_⟩
      refine for_it walk_values (fun j σ H3 => ∃ v3 v4, σ = [some (.ref f), some (.ref d), some (.ref dm), v3, v4] ∧ Out [d] (upd H2 dm (.frz od (.dK kvs))) H3 ∧ Fnd H3 d (((M :: Kp.map (·.2)).take i).flatMap births ++ births (m.take j)))
        ⟨v3, v4, rfl, Out.refl _ _, ?_⟩ (fun j σ H3 _ ⟨_, _, _, o3, _⟩ => o3 dm _ upd_same (by simp [ndm])) ?_ ?_
      · show Fnd _ _ (_ ++ births [])
        show Fnd _ _ (_ ++ [])
        rw [List.append_nil]
        exact fn.same fun u e => by rw [upd_ne ndm.symm]; exact e
      · rintro j y σ H3 H4 hj ⟨w3, w4, rfl, o3, fn3⟩ ⟨rfl, ky, eky⟩
        obtain ⟨⟨nm, r⟩, er, _, hv⟩ := rows.at eky
        dsimp only at hv
        obtain ⟨l, rfl, hl3⟩ := hl o3 hv
        refine ⟨_, rfl, l, rfl, ⟨_, SqL.of hl3⟩, for_list (K := K) (a := l) (xs := r.map V.int) (fun t σ H5' => ∃ v4, σ = [some (.ref f), some (.ref d), some (.ref dm), some (.ref l), v4] ∧ Out [d] (upd H2 dm (.frz od (.dK kvs))) H5' ∧ Fnd H5' d (((M :: Kp.map (·.2)).take i).flatMap births ++ births (m.take j) ++ r.take t))
          ⟨w4, rfl, o3, by rw [List.take_zero, List.append_nil]; exact fn3⟩ (fun t σ H6 _ ⟨_, _, o6, _⟩ => ?_) ?_ ?_⟩
        · obtain ⟨l', e', q⟩ := hl o6 hv
          cases e'
          exact SqL.of q
        · rintro t x σ H6 hx ⟨w5, rfl, o6, kk, ks, g1, g2, g3, g4⟩
          obtain ⟨z, ez, rfl⟩ : ∃ z, r[t]? = some z ∧ x = V.int z := by
            rw [List.getElem?_map] at hx
            cases q : r[t]? with
            | none =>
              rw [q] at hx
              cases hx
            | some z =>
              rw [q] at hx
              exact ⟨z, rfl, (Option.some.inj hx).symm⟩
          have small : ks.length ≤ B.length := nodup_sub_len g3 fun c hc => sub c (by
            have q := (g4 c).mp hc
            rw [← allB_eq]
            rcases List.mem_append.mp q with q | q
            · rcases List.mem_append.mp q with q | q
              · obtain ⟨mm, h1, h2⟩ := List.mem_flatMap.mp q
                exact List.mem_flatMap.mpr ⟨mm, List.mem_of_mem_take h1, h2⟩
              · refine List.mem_flatMap.mpr ⟨m, List.mem_of_getElem? em, ?_⟩
                obtain ⟨ee, h1, h2⟩ := List.mem_flatMap.mp q
                exact List.mem_flatMap.mpr ⟨ee, List.mem_of_mem_take h1, h2⟩
            · exact List.mem_flatMap.mpr ⟨m, List.mem_of_getElem? em, List.mem_flatMap.mpr ⟨(nm, r), List.mem_of_getElem? er, List.mem_of_mem_take q⟩⟩)
          have lk : kk.length = ks.length := by
            have q := congrArg List.length g2
            rw [List.length_map, List.length_map] at q
            exact q
          refine ⟨_, rfl, _, rfl, d, _, rfl, DPut.k (k := Sum.inl z) g1 (small1000 (by omega)), ?_⟩
          refine ⟨_, rfl, o6.write (by simp), _, _, upd_same, addI_keys g2 z _, addI_nd g3, fun c => ?_⟩
          rw [addI_mem, g4, take_more ez]
          simp only [List.mem_append, List.mem_singleton]
          constructor
          · rintro ((q | q) | q)
            · exact .inl q
            · exact .inr (.inl q)
            · exact .inr (.inr q)
          · rintro (q | q | q)
            · exact .inl (.inl q)
            · exact .inl (.inr q)
            · exact .inr q
        · rintro σ H6 ⟨w5, rfl, o6, fn6⟩
          refine ⟨_, _, rfl, o6, ?_⟩
          rw [List.length_map, List.take_of_length_le (Nat.le_refl _), List.append_assoc] at fn6
          rw [take_more er, births_append]
          have q : births [(nm, r)] = r := by
            rw [births_cons]
            exact List.append_nil _
          rw [q]
          exact fn6
      · rintro σ H3 ⟨w3, w4, rfl, o3, fn3⟩
        refine ⟨o3 dm _ upd_same (by simp [ndm]), ?_⟩
        refine ⟨_, _, _, rfl, o2.trans (lock_out hk o3), ?_⟩
        rw [rows.len, List.take_of_length_le (Nat.le_refl _)] at fn3
        rw [flat_more births em]
        exact fn3.same fun u e => by rw [upd_ne ndm.symm]; exact e
    · rintro σ H2 ⟨v2, v3, v4, rfl, o2, kk, ks, g1, g2, g3, g4⟩
      have ll : ([V.ref b] ++ hvs.map (·.2)).length = (M :: Kp.map (·.2)).length := Paired.length its
      rw [ll, List.take_of_length_le (Nat.le_refl _), allB_eq] at g4
      have small : ks.length ≤ B.length := nodup_sub_len g3 fun c hc => sub c ((g4 c).mp hc)
      refine ⟨_, rfl, d, kk, ks, rfl, .inl g1, g2, by omega, fun ns p per srt np => ?_⟩
      have s6 : Same H (upd H2 p (.lst (ns.map V.int))) := fun y o e => by
        have q := ne_of_none e nd
        have q2 := o2 y o (s5 _ _ e) (by simp [q])
        rw [upd_ne (ne_of_none q2 np)]
        exact q2
      refine k ns p _ (lt_of_le_nodup ns srt (per.nodup_iff.mpr g3)) (fun c => by rw [per.mem_iff, g4]) ?_ s6 upd_same
      cases e : H p with
      | none => rfl
      | some u =>
        have q := ne_of_none e nd
        rw [o2 p u (s5 _ _ e) (by simp [q])] at np
        cases np
theorem sc13 : FnScope ["self", "found"] ["self"] (defScope mCop) := ⟨rfl, rfl, rfl, by decide +kernel, rfl, by decide +kernel, by decide +kernel⟩
theorem ok_cop (T : Txt K mg a) (F : Fun K "copied" "Files.copied" mCop f fd) (MI : Mk K a.C f1) (FI : Fun K "__init__" "Files.__init__" mInit f1 fd1) (bI : Binds K fd1 ["self"] []) : FnOk P w K mg base CX0 3 f fd ["self"] (spCop a) := by
  have GI : FnOk P w K mg base CX0 1 f1 fd1 ["self"] (spInit a) := ok_init T FI
  refine F.ok sc13 (fun vs H Q E h => ?_) (fun cdv A outer s H vs Q E hr hw => ?_)
  · obtain ⟨f, b, h, M, Kp, S, rfl, _⟩ := h
    rfl
  · obtain ⟨f, b, h, M, Kp, S, rfl, ⟨dx, hf⟩, ⟨kvs, hb, hk⟩, ⟨hvs, hh, hd⟩, k⟩ := hw
    refine ⟨_, pss_cons (ps_set (i := 1) sc13.nd rfl (Or.inl rfl) (pe_make0 MI GI hr rfl T.mgC bI .nil pass0))
      (pss_cons (ps_fld (pv 1) (pe_callTy call_dictD (by rfl) T.dict (by decide +kernel) (pa_cons (pe_fld (pv 0) rfl) pa_nil)) rfl)
      (pss_cons (ps_fld (pv 1) (pe_callTy call_dictD (by rfl) T.dict (by decide +kernel) (pa_cons (pe_fld (pv 0) rfl) pa_nil)) rfl)
      (pss_one (ps_ret (pv 1))))), ?_⟩
    intro f' dx' nf nd ndf
    refine ⟨f', dx', rfl, upd_same, fun b0 h0 H1 nb nh nbh F1 eb eh kp => ⟨rfl, ?_⟩⟩
    have s1 : Same H H1 := Same.made nf nd kp
    obtain ⟨dxf, ef⟩ := id F1
    refine ⟨_, rfl, f, a.C, dx, _, _, rfl, s1 _ _ hf, T.cl, T.nB, ff_births _ _, b, kvs, rfl, .inl (s1 _ _ hb), fun b' nb' => ?_⟩
    have nfb : f' ≠ b' := ne_of_none ef nb'
    have nff : f ≠ f' := ne_of_none hf nf
    refine ⟨_, rfl, f', a.C, dxf, _, rfl, (by rw [upd_ne nfb]; exact ef), T.cl, T.nB, ff_len _ _, ?_⟩
    rw [ff_setB]
    have s2 : Same H (upd (upd H1 b' (.dK kvs)) f' (.ins a.C dxf (ff b' h0))) := fun y o e => by
      rw [upd_ne (ne_of_none e nf)]
      exact same_new nb' _ _ (s1 _ _ e)
    refine ⟨_, rfl, f, a.C, dx, _, _, rfl, s2 _ _ hf, T.cl, T.nH, ff_held _ _, h, hvs, rfl, .inl (s2 _ _ hh), fun h' nh' => ?_⟩
    have nfh : f' ≠ h' := ne_of_none upd_same nh'
    refine ⟨_, rfl, f', a.C, dxf, _, rfl, (by rw [upd_ne nfh]; exact upd_same), T.cl, T.nH, ff_len _ _, ?_⟩
    rw [ff_setH]
    have eb' : (upd (upd H1 b' (.dK kvs)) f' (.ins a.C dxf (ff b' h0))) b' = some (.dK kvs) := by rw [upd_ne nfb.symm, upd_same]
    have nbh' : b' ≠ h' := ne_of_none eb' nh'
    have s3 : Same H (upd (upd (upd (upd H1 b' (.dK kvs)) f' (.ins a.C dxf (ff b' h0))) h' (.dK hvs)) f' (.ins a.C dxf (ff b' h'))) := fun y o e => by
      rw [upd_ne (ne_of_none e nf)]
      exact same_new nh' _ _ (s2 _ _ e)
    have nb0 : H b' = none := s1.free nb'
    have nh0 : H h' = none := s2.free nh'
    have gr : ∀ y ∈ b' :: h' :: S, y ∈ S ∨ H y = none := fun y hy => by
      rcases List.mem_cons.mp hy with rfl | hy
      · exact .inr nb0
      · rcases List.mem_cons.mp hy with rfl | hy
        · exact .inr nh0
        · exact .inl hy
    refine ⟨_, rfl, k f' b' h' _ nf nb0 nh0 nbh' s3 ⟨dxf, upd_same⟩ ⟨kvs, ?_, hk.imp fun v r hv => (hv.grow gr).out (.of s3)⟩ ⟨hvs, ?_, hd.imp fun v r hv => (hv.grow gr).out (.of s3)⟩⟩
    · rw [upd_ne nfb.symm, upd_ne nbh']
      exact eb'
    · rw [upd_ne nfh.symm, upd_same]
end
end Wa

/-! W4a: the law's draws. -/
namespace Wa
open PySem PyProof.Rows L2
abbrev gAt : Stmt := top 21
abbrev gPot : Stmt := top 22
abbrev gTake : Stmt := top 23
abbrev gDrawn : Stmt := top 24
abbrev gNm : Stmt := top 25
abbrev gNms : Stmt := top 26
abbrev gBirth : Stmt := top 27
abbrev gDeed : Stmt := top 28
abbrev gFdue : Stmt := top 29
abbrev gDue : Stmt := top 30
abbrev gRef : Stmt := top 31
abbrev gTold : Stmt := top 32
abbrev gIsm : Stmt := top 33
abbrev gLiv : Stmt := top 34
abbrev gAre : Stmt := top 35
abbrev gMore : Stmt := top 36
abbrev gAll : Stmt := top 37
abbrev gLaw : Stmt := top 38
/-- a pot: any int, and one below the modulus -/
def PotAt (H : Hp) (p : Addr) : Prop := ∃ x y : Int, H p = some (.lst [.int x, .int y]) ∧ 0 ≤ y ∧ y < 2147483629
theorem PotAt.keep {H H' : Hp} {p : Addr} (h : PotAt H p) (k : ∀ u, H p = some u → H' p = some u) : PotAt H' p := by
  obtain ⟨x, y, e, r⟩ := h
  exact ⟨x, y, k _ e, r⟩
theorem PotAt.same {H H' : Hp} {p : Addr} (h : PotAt H p) (s : Same H H') : PotAt H' p := h.keep fun u e => s p u e
def spAt (K : PySem.W.Frag) : Sp := fun vs H Q _ => ∃ (s : Addr) (n : Nat) (ns : List Int), vs = [.ref s, .int (n : Nat)] ∧ SqL K H s (ns.map V.int) ∧ ∀ z, Q (.int z) H
def spPot (K : PySem.W.Frag) : Sp := fun vs H Q _ => ∃ (s : Addr) (n : Nat) (ns : List Int), vs = [.ref s, .int (n : Nat)] ∧ SqL K H s (ns.map V.int) ∧ ∀ (p : Addr) (H' : Hp), H p = none → Same H H' → PotAt H' p → Q (.ref p) H'
def spTake : Sp := fun vs H Q _ => ∃ (p : Addr) (m : Int), vs = [.ref p, .int m] ∧ PotAt H p ∧ 0 < m ∧ m ≤ 1000000000000000000 ∧ ∀ (d : Int) (H' : Hp), 0 ≤ d → d < m → Out [p] H H' → PotAt H' p → Q (.int d) H'
def spDrawn : Sp := fun vs H Q _ => ∃ (p : Addr) (v : V), vs = [.ref p, v] ∧ PotAt H p ∧
  ((∃ l xs, v = .ref l ∧ H l = some (.lst xs) ∧ l ≠ p ∧ 0 < xs.length ∧ xs.length ≤ 1000 ∧ ∀ (i : Nat) (x : V) (H' : Hp), xs[i]? = some x → Out [p] H H' → PotAt H' p → Q x H') ∨
   (∃ z : Str, v = .str z ∧ 0 < z.length ∧ z.length ≤ 1000 ∧ ∀ (c : Nat) (H' : Hp), Out [p] H H' → PotAt H' p → Q (.str ⟨#[c]⟩) H'))
def spName : Sp := fun vs H Q _ => ∃ p : Addr, vs = [.ref p] ∧ PotAt H p ∧ ∀ (z : Str) (H' : Hp), Out [p] H H' → PotAt H' p → Q (.str z) H'
def spNms : Sp := fun vs H Q _ => ∃ p : Addr, vs = [.ref p] ∧ PotAt H p ∧ ∀ (l : Addr) (zs : List Str) (H' : Hp), 0 < zs.length → zs.length ≤ 1000 → H l = none → Out [p] H H' → PotAt H' p → H' l = some (.lst (zs.map V.str)) → Q (.ref l) H'
def spGbirth : Sp := fun vs H Q _ => ∃ p : Addr, vs = [.ref p] ∧ PotAt H p ∧ ∀ (z : Int) (H' : Hp), Out [p] H H' → PotAt H' p → Q (.int z) H'
theorem noLong {i j : Int} (h0 : 0 < j) (h : j ≤ 1000000000000000000) : CDivP i j := by
  refine ⟨h0, ?_⟩
  unfold Builtin.divisionGoesByPylong
  have e : (j == 0) = false := by
    rw [beq_eq_false_iff_ne]
    omega
  have l : j.natAbs.log2 < 60 := by
    refine (Nat.log2_lt (by omega)).mpr ?_
    have : j.natAbs ≤ 1000000000000000000 := by omega
    exact Nat.lt_of_le_of_lt this (by decide)
  have g : ¬ ((if (j == 0) = true then 0 else j.natAbs.log2 / 30 + 1) > 300) := by
    rw [e, if_neg Bool.false_ne_true]
    omega
  show (decide ((if (j == 0) = true then 0 else j.natAbs.log2 / 30 + 1) > 300) && _) = false
  rw [decide_eq_false g]
  rfl
section
variable {P : Program} {w : World} {K : PySem.W.Frag} {mg : Str → Option Value} {base : Heap} {a : Ads} {f f1 f2 : Addr} {fd fd1 fd2 : FuncData}
theorem sc21 : FnScope ["_law_script", "_law_k"] ["_law_script", "_law_k"] (defScope gAt) := ⟨rfl, rfl, rfl, by decide +kernel, rfl, by decide +kernel, by decide +kernel⟩
theorem ok_at (T : Txt K mg a) (F : Fun K "_law_at" "_law_at" gAt f fd) : FnOk P w K mg base CX0 1 f fd ["_law_script", "_law_k"] (spAt K) := by
  refine F.ok sc21 (fun vs H Q E h => ?_) (fun cdv A outer s H vs Q E hr hw => ?_)
  · obtain ⟨s, n, ns, rfl, _⟩ := h
    rfl
  · obtain ⟨l, n, ns, rfl, hs, k⟩ := hw
    refine ⟨_, pss_one (ps_ret (pe_ifExp (pt_cmpR op_lt (pv 1) (pe_callB call_len_seq (by rfl) T.len PySem.boot_len (pa_cons (pv 0) pa_nil)) (nomark _)) (pe_ix ix_list (pv 0) (pv 1) (fun _ _ => rfl)) pe_int)), ?_⟩
    refine ⟨_, rfl, _, rfl, l, _, rfl, .inl hs, _, _, rfl, rfl, _, rfl, ?_⟩
    rw [List.length_map]
    by_cases c : n < ns.length
    · rw [decide_eq_true (by omega : ((n : Nat) : Int) < (ns.length : Nat))]
      refine iteT ?_
      exact ⟨_, rfl, _, rfl, l, _, _, _, rfl, rfl, hs, atI_nat (by rw [List.getElem?_map, List.getElem?_eq_getElem c]; rfl), k _⟩
    · rw [decide_eq_false (by omega : ¬ ((n : Nat) : Int) < (ns.length : Nat))]
      exact iteF (k 0)
theorem sc22 : FnScope ["_law_script", "_law_k", "_law_cell"] ["_law_script", "_law_k"] (defScope gPot) := ⟨rfl, rfl, rfl, by decide +kernel, rfl, by decide +kernel, by decide +kernel⟩
theorem ok_pot (T : Txt K mg a) (F : Fun K "_law_pot" "_law_pot" gPot f fd) (B : GF K mg "_law_at" gAt ["_law_script", "_law_k"] f1 fd1) : FnOk P w K mg base CX0 2 f fd ["_law_script", "_law_k"] (spPot K) := by
  have G : FnOk P w K mg base CX0 1 f1 fd1 ["_law_script", "_law_k"] (spAt K) := ok_at T B.F
  refine F.ok sc22 (fun vs H Q E h => ?_) (fun cdv A outer s H vs Q E hr hw => ?_)
  · obtain ⟨s, n, ns, rfl, _⟩ := h
    rfl
  · obtain ⟨l, n, ns, rfl, hs, k⟩ := hw
    refine ⟨_, pss_cons (ps_set (i := 2) sc22.nd rfl (Or.inl rfl) (pe_call G hr rfl B.g B.F.kp B.b .nil pass0 (pa_cons (pv 0) (pa_cons (pv 1) pa_nil))))
      (pss_one (ps_ret (pe_lst (pa_cons (pe_callB (call_max2 rfl) (by rfl) T.max (by decide +kernel) (pa_cons pe_int (pa_cons (pe_op op_sub (pv 2) (pe_op op_pow pe_int pe_int)) pa_nil)))
        (pa_cons (pe_op op_mod (pe_op op_add (pe_op op_mod (pv 2) pe_int) (pe_op op_mul pe_int (pe_op op_add (pv 1) pe_int))) pe_int) pa_nil))))), ?_⟩
    refine ⟨_, rfl, _, rfl, l, n, ns, rfl, hs, fun z => ?_⟩
    refine ⟨_, rfl, _, _, rfl, rfl, (by show 0 ≤ (18 : Int) ∧ _; decide), _, _, rfl, rfl, _, _, rfl, ?_⟩
    refine ⟨_, rfl, _, _, rfl, rfl, (by show (0 : Int) < 2147483629; decide), _, rfl, _, _, rfl, rfl, _, _, rfl, rfl, .inl (by decide), _, _, rfl, rfl, _, _, rfl, rfl, (by show (0 : Int) < 2147483629; decide), ?_⟩
    refine ⟨(by show 2 ≤ sizeLine; decide), fun p np => ?_⟩
    exact k p _ np (same_new np) ⟨_, _, upd_same, Int.emod_nonneg _ (by decide), Int.emod_lt_of_pos _ (by decide)⟩
theorem sc23 : FnScope ["_law_pot_here", "_law_many", "_law_digit"] ["_law_pot_here", "_law_many"] (defScope gTake) := ⟨rfl, rfl, rfl, by decide +kernel, rfl, by decide +kernel, by decide +kernel⟩
theorem ok_take (T : Txt K mg a) (F : Fun K "_law_take" "_law_take" gTake f fd) : FnOk P w K mg base CX0 1 f fd ["_law_pot_here", "_law_many"] spTake := by
  refine F.ok sc23 (fun vs H Q E h => ?_) (fun cdv A outer s H vs Q E hr hw => ?_)
  · obtain ⟨p, m, rfl, _⟩ := h
    rfl
  · obtain ⟨p, m, rfl, ⟨x, y, hp, y0, y1⟩, m0, m1, k⟩ := hw
    refine ⟨_, pss_cons (ps_if (pt_cmpR op_gt (pe_ix ix_list (pv 0) pe_int (fun _ _ => rfl)) pe_int (nomark _))
        (pss_cons (ps_asg (pe_callB call_divmodW (by rfl) T.divmod (by decide +kernel) (pa_cons (pe_ix ix_list (pv 0) pe_int (fun _ _ => rfl)) (pa_cons (pv 1) pa_nil)))
          (pg_tup rfl (pgs_cons (pg_sub (pv 0) pe_int set_list) (pgs_cons (pg_name (i := 2) sc23.nd rfl (Or.inl rfl)) pgs_nil))))
        (pss_one (ps_ret (pv 2)))) pss_nil)
      (pss_cons (ps_asg (pe_op op_mod (pe_op op_add (pe_op op_mul (pe_ix ix_list (pv 0) pe_int (fun _ _ => rfl)) pe_int) pe_int) pe_int) (pg_sub (pv 0) pe_int set_list))
      (pss_one (ps_ret (pe_op op_mod (pe_op op_fdiv (pe_op op_mod (pe_op op_mul (pe_ix ix_list (pv 0) pe_int (fun _ _ => rfl)) (pe_ix ix_list (pv 0) pe_int (fun _ _ => rfl))) pe_int) pe_int) (pv 1))))), ?_⟩
    refine ⟨_, rfl, p, _, _, _, rfl, rfl, SqL.of hp, atI_nat (j := 0) (v := .int x) rfl, _, _, rfl, rfl, _, rfl, ?_⟩
    by_cases c : (0 : Int) < x
    · rw [decide_eq_true c]
      refine iteT ?_
      refine ⟨_, rfl, p, _, _, _, rfl, rfl, SqL.of hp, atI_nat (j := 0) (v := .int x) rfl, _, rfl, _, _, rfl, noLong m0 m1, fun t nt => ?_⟩
      have npt : p ≠ t := ne_of_none hp nt
      refine ⟨t, _, rfl, SqT.of upd_same, rfl, _, _, rfl, ?_⟩
      refine ⟨_, rfl, p, _, _, 0, rfl, rfl, (by rw [upd_ne npt]; exact hp), rfl, ?_⟩
      refine ⟨_, _, rfl, rfl, _, rfl, ?_⟩
      refine k _ _ (Int.emod_nonneg _ (by omega)) (Int.emod_lt_of_pos _ m0) ?_ ⟨_, _, upd_same, y0, y1⟩
      exact (Out.of (same_new nt)).write (by simp)
    · rw [decide_eq_false c]
      refine iteF ?_
      refine ⟨_, rfl, p, _, _, _, rfl, rfl, SqL.of hp, atI_nat (j := 1) (v := .int y) rfl, _, _, rfl, rfl, .inr (by decide), _, _, rfl, rfl, _, _, rfl, rfl, (by show (0 : Int) < 2147483629; decide), ?_⟩
      refine ⟨_, rfl, p, _, _, 1, rfl, rfl, hp, rfl, ?_⟩
      have b0 : 0 ≤ (y * 39373 + 7919) % 2147483629 := Int.emod_nonneg _ (by decide)
      have b1 : (y * 39373 + 7919) % 2147483629 < 2147483629 := Int.emod_lt_of_pos _ (by decide)
      have hp2 : upd H p (.lst ([V.int x, V.int y].set 1 (.int ((y * 39373 + 7919) % 2147483629)))) p = some (.lst [.int x, .int ((y * 39373 + 7919) % 2147483629)]) := upd_same
      refine ⟨_, rfl, p, _, _, _, rfl, rfl, SqL.of hp2, atI_nat (j := 1) (v := .int ((y * 39373 + 7919) % 2147483629)) rfl, _, rfl, p, _, _, _, rfl, rfl, SqL.of hp2, atI_nat (j := 1) (v := .int ((y * 39373 + 7919) % 2147483629)) rfl, ?_⟩
      refine ⟨_, _, rfl, rfl, .inl (by omega), _, _, rfl, rfl, (by show (0 : Int) < 2147483563; decide), _, _, rfl, rfl, ⟨by decide, by decide⟩, _, rfl, _, _, rfl, rfl, m0, ?_⟩
      exact k _ _ (Int.emod_nonneg _ (by omega)) (Int.emod_lt_of_pos _ m0) ((Out.refl _ _).write (by simp)) ⟨x, _, hp2, b0, b1⟩
theorem sc24 : FnScope ["_law_pot_here", "_law_some"] ["_law_pot_here", "_law_some"] (defScope gDrawn) := ⟨rfl, rfl, rfl, by decide +kernel, rfl, by decide +kernel, by decide +kernel⟩
theorem ok_drawn (T : Txt K mg a) (F : Fun K "_law_drawn" "_law_drawn" gDrawn f fd) (B : GF K mg "_law_take" gTake ["_law_pot_here", "_law_many"] f1 fd1) : FnOk P w K mg base CX0 2 f fd ["_law_pot_here", "_law_some"] spDrawn := by
  have G : FnOk P w K mg base CX0 1 f1 fd1 ["_law_pot_here", "_law_many"] spTake := ok_take T B.F
  refine F.ok sc24 (fun vs H Q E h => ?_) (fun cdv A outer s H vs Q E hr hw => ?_)
  · obtain ⟨p, v, rfl, _⟩ := h
    rfl
  · obtain ⟨p, v, rfl, hp, k⟩ := hw
    refine ⟨_, pss_one (ps_ret (pe_ix ix_seq (pv 1) (pe_call G hr rfl B.g B.F.kp B.b .nil pass0 (pa_cons (pv 0) (pa_cons (pe_callB call_len (by rfl) T.len PySem.boot_len (pa_cons (pv 1) pa_nil)) pa_nil))) (fun _ _ => rfl))), ?_⟩
    rcases k with ⟨l, xs, rfl, hl, nl, x0, x1, k⟩ | ⟨z, rfl, z0, z1, k⟩
    · refine ⟨_, rfl, _, rfl, _, rfl, _, _, rfl, .inl ⟨xs, SqL.of hl, rfl⟩, p, _, rfl, hp, by omega, by omega, fun d H' d0 d1 o hp' => ?_⟩
      obtain ⟨i, rfl⟩ : ∃ i : Nat, d = (i : Int) := ⟨d.toNat, by omega⟩
      have lt : i < xs.length := by omega
      exact .inl ⟨l, xs, _, xs[i], rfl, rfl, SqL.of (o l _ hl (by simp [nl])), atI_nat (List.getElem?_eq_getElem lt), k i _ H' (List.getElem?_eq_getElem lt) o hp'⟩
    · refine ⟨_, rfl, _, rfl, _, rfl, _, z.length, rfl, ⟨Nat.le_trans z1 (by decide), rfl⟩, p, _, rfl, hp, by omega, by omega, fun d H' d0 d1 o hp' => ?_⟩
      obtain ⟨i, rfl⟩ : ∃ i : Nat, d = (i : Int) := ⟨d.toNat, by omega⟩
      have lt : i < z.cps.toList.length := by
        rw [Array.length_toList]
        have : z.length = z.cps.size := rfl
        omega
      exact .inr (.inr ⟨z, _, z.cps.toList[i], rfl, rfl, Nat.le_trans z1 (by decide), atI_nat (List.getElem?_eq_getElem lt), k _ H' o hp'⟩)
end
end Wa

/-! W4b: names, births, deeds. -/
namespace Wa
open PySem PyProof.Rows L2
theorem Out.none {S : List Addr} {H H' : Hp} {p : Addr} (a : Out S H H') (hp : H' p = Option.none) (n : p ∉ S) : H p = Option.none := by
  cases e : H p with
  | none => rfl
  | some u =>
    rw [a p u e n] at hp
    cases hp
theorem flat_strs : ∀ zs : List Str, (zs.map V.str).all flatV = true
  | [] => rfl
  | z :: zs => by
    rw [List.map_cons, List.all_cons, flat_strs zs]
    rfl
def spDeed : Sp := fun vs H Q _ => ∃ (p l m : Addr) (zs : List Str) (M : Mdl) (S : List Addr), vs = [.ref p, .ref l, .ref m] ∧ PotAt H p ∧ H l = some (.lst (zs.map V.str)) ∧ l ≠ p ∧ 0 < zs.length ∧ zs.length ≤ 1000 ∧ MAt S H m M ∧ p ∈ S ∧ (∀ x, (rowOf M x).length ≤ 900) ∧
  ∀ (d : Deed) (t : Addr) (H' : Hp), H t = none → Out [p] H H' → PotAt H' p → H' t = some (.tup d.tup) → Q (.ref t) H'
section
variable {P : Program} {w : World} {K : PySem.W.Frag} {mg : Str → Option Value} {base : Heap} {a : Ads} {f f1 f2 f3 : Addr} {fd fd1 fd2 fd3 : FuncData}
theorem sc25 : FnScope ["_law_pot_here", "_law_letters", "_law_k"] ["_law_pot_here"] (defScope gNm) := ⟨rfl, rfl, rfl, by decide +kernel, rfl, by decide +kernel, by decide +kernel⟩
theorem ok_name (T : Txt K mg a) (F : Fun K "_law_name" "_law_name" gNm f fd) (B : GF K mg "_law_take" gTake ["_law_pot_here", "_law_many"] f1 fd1) (D : GF K mg "_law_drawn" gDrawn ["_law_pot_here", "_law_some"] f2 fd2) : FnOk P w K mg base CX0 3 f fd ["_law_pot_here"] spName := by
  have GT : FnOk P w K mg base CX0 1 f1 fd1 ["_law_pot_here", "_law_many"] spTake := ok_take T B.F
  have GD : FnOk P w K mg base CX0 2 f2 fd2 ["_law_pot_here", "_law_some"] spDrawn := ok_drawn T D.F B
  refine F.ok sc25 (fun vs H Q E h => ?_) (fun cdv A outer s H vs Q E hr hw => ?_)
  · obtain ⟨p, rfl, _⟩ := h
    rfl
  · obtain ⟨p, rfl, hp, k⟩ := hw
    have hr1 : Room 1 _ := hr.mono (by decide)
    refine ⟨_, pss_cons (ps_if (pt_cmpR op_lt (pe_call GT hr1 rfl B.g B.F.kp B.b .nil pass0 (pa_cons (pv 0) (pa_cons pe_int pa_nil))) pe_int (nomark _))
        (pss_one (ps_ret (pe_call GD hr rfl D.g D.F.kp D.b .nil pass0 (pa_cons (pv 0) (pa_cons (pe_lst (pa_cons pe_str (pa_cons pe_str (pa_cons pe_str (pa_cons pe_str pa_nil))))) pa_nil))))) pss_nil)
      (pss_cons (ps_set (i := 1) sc25.nd rfl (Or.inr rfl) pe_str)
      (pss_one (ps_ret (pe_join pe_str (pe_lc (own := [("_law_k", 2)]) (g := gName 2) (tt := tYes) rfl sc25.nd (pi_range1 (by rfl) T.range (pa_cons (pe_op op_add pe_int (pe_call GT hr1 rfl B.g B.F.kp B.b .nil pass0 (pa_cons (pv 0) (pa_cons pe_int pa_nil)))) pa_nil))
        (blkOk_by (N := ["_law_pot_here", "_law_letters", "_law_k"]) (sc := defScope gNm) (by decide +kernel)) (fun _ _ _ _ _ => pg_name (i := 2) sc25.nd rfl (Or.inl rfl)) (fun _ _ _ _ _ => pts_nil)
        (fun _ _ _ _ _ => pe_call GD hr rfl D.g D.F.kp D.b .nil pass0 (pa_cons (pv 0) (pa_cons (pv 1) pa_nil)))))))), ?_⟩
    refine ⟨_, rfl, p, 3, rfl, hp, by decide, by decide, fun d H1 d0 d1 o1 hp1 => ?_⟩
    refine ⟨_, _, rfl, rfl, _, rfl, ?_⟩
    by_cases c : d < 2
    · rw [decide_eq_true c]
      refine iteT ?_
      refine ⟨_, rfl, (by show 4 ≤ sizeLine; decide), fun l nl => ?_⟩
      have nlp : l ≠ p := by
        obtain ⟨_, _, e, _⟩ := hp1
        exact (ne_of_none e nl).symm
      refine ⟨p, _, rfl, hp1.same (same_new nl), .inl ⟨l, _, rfl, upd_same, nlp, (by show 0 < 4; decide), (by show 4 ≤ 1000; decide), fun i x H' hi o hp' => ?_⟩⟩
      have o2 : Out [p] H H' := (o1.add nl).trans o
      match i, hi with
      | 0, hi => cases hi; exact k _ H' o2 hp'
      | 1, hi => cases hi; exact k _ H' o2 hp'
      | 2, hi => cases hi; exact k _ H' o2 hp'
      | 3, hi => cases hi; exact k _ H' o2 hp'
      | n + 4, hi => cases hi
    · rw [decide_eq_false c]
      refine iteF ?_
      refine ⟨⟨_, rfl⟩, _, rfl, p, 6, rfl, hp1, by decide, by decide, fun d2 H2 e0 e1 o2 hp2 => ?_⟩
      refine ⟨_, _, rfl, rfl, _, rfl, by omega, by omega, fun D nD => ?_⟩
      have nDp : D ≠ p := by
        obtain ⟨_, _, e, _⟩ := hp2
        exact (ne_of_none e nD).symm
      have nD0 : H D = none := (o1.trans o2).none nD (by simp [nDp])
      refine lc_it walk_range (fun i H3 => Out [p] H H3 ∧ PotAt H3 p ∧ ∃ ys : List Str, H3 D = some (.lst (ys.map V.str)) ∧ ys.length = i ∧ (ys.map (·.length)).sum = i) ⟨(o1.trans o2).add nD, hp2.same (same_new nD), [], upd_same, rfl, rfl⟩ (fun _ _ _ _ => trivial) ?_ ?_
      · rintro i x H3 H4 hi ⟨o3, hp3, ys, e3, l3, s3⟩ ⟨rfl, rfl⟩
        refine ⟨rfl, ?_⟩
        refine ⟨_, rfl, _, rfl, p, _, rfl, hp3, .inr ⟨_, rfl, (by decide +kernel), (by decide +kernel), fun cc H5 o5 hp5 => ?_⟩⟩
        have e5 : H5 D = some (.lst (ys.map V.str)) := o5 D _ e3 (by simp [nDp])
        refine ⟨ys.map V.str, e5, ?_, (o3.trans o5).new nD0, hp5.keep (fun u e => by rw [upd_ne nDp.symm]; exact e), ys ++ [⟨#[cc]⟩], ?_, ?_, ?_⟩
        · rw [List.length_map, l3]
          have : i < 7 := by omega
          exact small1000 (by omega)
        · rw [upd_same, List.map_append]
          rfl
        · rw [List.length_append, l3]
          rfl
        · rw [List.map_append, List.sum_append, s3]
          rfl
      · rintro H3 ⟨o3, hp3, ys, e3, l3, s3⟩
        refine ⟨_, D, ys, rfl, rfl, .inl (SqL.of e3), ?_, k _ H3 o3 hp3⟩
        rw [s3, l3]
        have z : ("" : Str).length = 0 := by decide +kernel
        rw [z]
        omega
end
end Wa

/-! W4c: the list of names, births, deeds. -/
namespace Wa
open PySem PyProof.Rows L2
section
variable {P : Program} {w : World} {K : PySem.W.Frag} {mg : Str → Option Value} {base : Heap} {a : Ads} {f f1 f2 f3 : Addr} {fd fd1 fd2 fd3 : FuncData}
theorem sc26 : FnScope ["_law_pot_here", "_law_found", "_law_k", "_law_name_here"] ["_law_pot_here"] (defScope gNms) := ⟨rfl, rfl, rfl, by decide +kernel, rfl, by decide +kernel, by decide +kernel⟩
theorem ok_names2 (T : Txt K mg a) (F : Fun K "_law_names" "_law_names" gNms f fd) (B : GF K mg "_law_take" gTake ["_law_pot_here", "_law_many"] f1 fd1) (D : GF K mg "_law_drawn" gDrawn ["_law_pot_here", "_law_some"] f2 fd2) (N : GF K mg "_law_name" gNm ["_law_pot_here"] f3 fd3) : FnOk P w K mg base CX0 4 f fd ["_law_pot_here"] spNms := by
  have GT : FnOk P w K mg base CX0 1 f1 fd1 ["_law_pot_here", "_law_many"] spTake := ok_take T B.F
  have GN : FnOk P w K mg base CX0 3 f3 fd3 ["_law_pot_here"] spName := ok_name T N.F B D
  refine F.ok sc26 (fun vs H Q E h => ?_) (fun cdv A outer s H vs Q E hr hw => ?_)
  · obtain ⟨p, rfl, _⟩ := h
    rfl
  · obtain ⟨p, rfl, hp, k⟩ := hw
    have hr1 : Room 1 _ := hr.mono (by decide)
    refine ⟨_, pss_cons (ps_set (i := 1) sc26.nd rfl (Or.inl rfl) (pe_lst pa_nil))
      (pss_cons (ps_for PassesOwn.never rfl (pi_range1 (by rfl) T.range (pa_cons (pe_op op_add pe_int (pe_call GT hr1 rfl B.g B.F.kp B.b .nil pass0 (pa_cons (pv 0) (pa_cons pe_int pa_nil)))) pa_nil)) (pg_name (i := 2) sc26.nd rfl (Or.inl rfl))
        (pss_cons (ps_set (i := 3) sc26.nd rfl (Or.inl rfl) (pe_call GN hr rfl N.g N.F.kp N.b .nil pass0 (pa_cons (pv 0) pa_nil)))
        (pss_one (ps_if (pt_cmpR op_notIn_seq (pv 3) (pv 1) (by rfl)) (pss_one (ps_expr (pe_bm PySem.F.plainAttrs_list PySem.F.slot_list_append PySem.F.type_list_append mt_append (pv 1) (pa_cons (pv 3) pa_nil)))) pss_nil))))
      (pss_one (ps_ret (pv 1)))), ?_⟩
    refine ⟨(by show 0 ≤ sizeLine; decide), fun l nl => ?_⟩
    have s1 : Same H (upd H l (.lst [])) := same_new nl
    have nlp : l ≠ p := by
      obtain ⟨_, _, e, _⟩ := hp
      exact (ne_of_none e nl).symm
    refine ⟨_, rfl, p, 4, rfl, hp.same s1, by decide, by decide, fun d H1 d0 d1 o1 hp1 => ?_⟩
    have e1 : H1 l = some (.lst []) := o1 l _ upd_same (by simp [nlp])
    refine ⟨_, _, rfl, rfl, _, rfl, by omega, by omega, for_it walk_range (fun i σ H2 => ∃ (v2 v3 : Option V) (zs : List Str), σ = [some (.ref p), some (.ref l), v2, v3] ∧ Out [p] H H2 ∧ PotAt H2 p ∧ H2 l = some (.lst (zs.map V.str)) ∧ zs.length ≤ i ∧ (0 < i → 0 < zs.length))
      ⟨none, none, [], rfl, (Out.of (S := [p]) s1).trans o1, hp1, e1, Nat.le_refl _, fun z => absurd z (Nat.lt_irrefl _)⟩ (fun _ _ _ _ _ => trivial) ?_ ?_⟩
    · rintro i y σ H2 H3 hi ⟨v2, v3, zs, rfl, o2, hp2, e2, l2, g2⟩ ⟨rfl, rfl⟩
      refine ⟨_, rfl, p, rfl, hp2, fun z H4 o4 hp4 => ?_⟩
      have e4 : H4 l = some (.lst (zs.map V.str)) := o4 l _ e2 (by simp [nlp])
      refine ⟨_, rfl, _, rfl, l, zs.map V.str, rfl, .inl (SqL.of e4), rfl, flat_strs zs, _, rfl, ?_⟩
      have hi' : i < 4 := by omega
      cases c : inV (V.str z) (zs.map V.str) with
      | true =>
        refine iteF ?_
        refine ⟨_, _, zs, rfl, o2.trans o4, hp4, e4, Nat.le_succ_of_le l2, fun _ => ?_⟩
        cases zs with
        | nil => cases c
        | cons q r => exact Nat.zero_lt_succ _
      | false =>
        refine iteT ?_
        refine ⟨_, rfl, .inl ⟨rfl, _, SqL.of e4⟩, _, rfl, l, _, _, rfl, rfl, e4, ?_, ?_⟩
        · rw [List.length_map]
          exact small1000 (by omega)
        refine ⟨_, _, zs ++ [z], rfl, (o2.trans o4).new nl, hp4.keep (fun u e => by rw [upd_ne nlp.symm]; exact e), ?_, ?_, fun _ => ?_⟩
        · rw [upd_same, List.map_append]
          rfl
        · rw [List.length_append]
          exact Nat.succ_le_succ l2
        · rw [List.length_append]
          exact Nat.succ_pos _
    · rintro σ H2 ⟨v2, v3, zs, rfl, o2, hp2, e2, l2, g2⟩
      exact ⟨_, rfl, k l zs H2 (g2 (by omega)) (by omega) nl o2 hp2 e2⟩
theorem sc27 : FnScope ["_law_pot_here"] ["_law_pot_here"] (defScope gBirth) := ⟨rfl, rfl, rfl, by decide +kernel, rfl, by decide +kernel, by decide +kernel⟩
theorem ok_gbirth (T : Txt K mg a) (F : Fun K "_law_birth" "_law_birth" gBirth f fd) (B : GF K mg "_law_take" gTake ["_law_pot_here", "_law_many"] f1 fd1) (D : GF K mg "_law_drawn" gDrawn ["_law_pot_here", "_law_some"] f2 fd2) : FnOk P w K mg base CX0 3 f fd ["_law_pot_here"] spGbirth := by
  have GT : FnOk P w K mg base CX0 1 f1 fd1 ["_law_pot_here", "_law_many"] spTake := ok_take T B.F
  have GD : FnOk P w K mg base CX0 2 f2 fd2 ["_law_pot_here", "_law_some"] spDrawn := ok_drawn T D.F B
  refine F.ok sc27 (fun vs H Q E h => ?_) (fun cdv A outer s H vs Q E hr hw => ?_)
  · obtain ⟨p, rfl, _⟩ := h
    rfl
  · obtain ⟨p, rfl, hp, k⟩ := hw
    have hr1 : Room 1 _ := hr.mono (by decide)
    refine ⟨_, pss_one (ps_ret (pe_call GT hr1 rfl B.g B.F.kp B.b .nil pass0 (pa_cons (pv 0) (pa_cons (pe_call GD hr rfl D.g D.F.kp D.b .nil pass0 (pa_cons (pv 0) (pa_cons (pe_lst (pa_cons pe_int (pa_cons pe_int (pa_cons pe_int (pa_cons (pe_op op_pow pe_int pe_int) pa_nil))))) pa_nil))) pa_nil)))), ?_⟩
    refine ⟨_, rfl, _, rfl, _, _, rfl, rfl, (by show 0 ≤ (18 : Int) ∧ _; decide), (by show 4 ≤ sizeLine; decide), fun l nl => ?_⟩
    have nlp : l ≠ p := by
      obtain ⟨_, _, e, _⟩ := hp
      exact (ne_of_none e nl).symm
    refine ⟨p, _, rfl, hp.same (same_new nl), .inl ⟨l, _, rfl, upd_same, nlp, (by show 0 < 4; decide), (by show 4 ≤ 1000; decide), fun i x H' hi o hp' => ?_⟩⟩
    obtain ⟨m, rfl, m0, m1⟩ : ∃ m : Int, x = .int m ∧ 0 < m ∧ m ≤ 1000000000000000000 := by
      match i, hi with
      | 0, hi => cases hi; exact ⟨12, rfl, by decide, by decide⟩
      | 1, hi => cases hi; exact ⟨12, rfl, by decide, by decide⟩
      | 2, hi => cases hi; exact ⟨1000, rfl, by decide, by decide⟩
      | 3, hi => cases hi; exact ⟨1000000000000000000, rfl, by decide, by decide⟩
      | n + 4, hi => cases hi
    refine ⟨p, m, rfl, hp', m0, m1, fun d H2 _ _ o2 hp2 => k d H2 (((Out.of (S := [p]) (same_new nl)).trans o).trans o2) hp2⟩
theorem sc28 : FnScope ["_law_pot_here", "_law_names_here", "_law_model", "_law_file", "_law_many", "_law_way"] ["_law_pot_here", "_law_names_here", "_law_model"] (defScope gDeed) := ⟨rfl, rfl, rfl, by decide +kernel, rfl, by decide +kernel, by decide +kernel⟩
theorem ok_deed (T : Txt K mg a) (F : Fun K "_law_deed" "_law_deed" gDeed f fd) (B : GF K mg "_law_take" gTake ["_law_pot_here", "_law_many"] f1 fd1) (D : GF K mg "_law_drawn" gDrawn ["_law_pot_here", "_law_some"] f2 fd2) (G : GF K mg "_law_birth" gBirth ["_law_pot_here"] f3 fd3) :
    FnOk P w K mg base CX0 4 f fd ["_law_pot_here", "_law_names_here", "_law_model"] spDeed := by
  have GT : FnOk P w K mg base CX0 1 f1 fd1 ["_law_pot_here", "_law_many"] spTake := ok_take T B.F
  have GD : FnOk P w K mg base CX0 2 f2 fd2 ["_law_pot_here", "_law_some"] spDrawn := ok_drawn T D.F B
  have GB : FnOk P w K mg base CX0 3 f3 fd3 ["_law_pot_here"] spGbirth := ok_gbirth T G.F B D
  refine F.ok sc28 (fun vs H Q E h => ?_) (fun cdv A outer s H vs Q E hr hw => ?_)
  · obtain ⟨p, l, m, zs, M, S, rfl, _⟩ := h
    rfl
  · obtain ⟨p, l, m, zs, M, S, rfl, hp, hl, nlp, z0, z1, hM, pS, rl, k⟩ := hw
    have hr1 : Room 1 _ := hr.mono (by decide)
    have hr2 : Room 2 _ := hr.mono (by decide)
    have hu := hu_of hr
    refine ⟨_, pss_cons (ps_set (i := 3) sc28.nd rfl (Or.inl rfl) (pe_call GD hr2 rfl D.g D.F.kp D.b .nil pass0 (pa_cons (pv 0) (pa_cons (pv 1) pa_nil))))
      (pss_cons (ps_set (i := 4) sc28.nd rfl (Or.inl rfl) (pe_callB call_len_seq (by rfl) T.len PySem.boot_len (pa_cons (pe_dget2 hu (pv 2) (pv 3) (pe_lst pa_nil) ⟨rfl, rfl, rfl, rfl⟩) pa_nil)))
      (pss_cons (ps_set (i := 5) sc28.nd rfl (Or.inl rfl) (pe_call GT hr1 rfl B.g B.F.kp B.b .nil pass0 (pa_cons (pv 0) (pa_cons pe_int pa_nil))))
      (pss_cons (ps_if (pt_cmpR op_lt (pv 5) pe_int (nomark _)) (pss_one (ps_ret (pe_tup (pa_cons pe_str (pa_cons (pv 3) (pa_cons
          (pe_call GD hr2 rfl D.g D.F.kp D.b .nil pass0 (pa_cons (pv 0) (pa_cons (pe_lst (pa_cons (pv 4) (pa_cons (pv 4) (pa_cons (pe_op op_add (pv 4) pe_int) (pa_cons (pe_call GT hr1 rfl B.g B.F.kp B.b .nil pass0 (pa_cons (pv 0) (pa_cons (pe_op op_add (pv 4) pe_int) pa_nil))) pa_nil))))) pa_nil)))
          (pa_cons (pe_call GB hr rfl G.g G.F.kp G.b .nil pass0 (pa_cons (pv 0) pa_nil)) pa_nil))))))) pss_nil)
      (pss_cons (ps_if (pt_cmpR op_lt (pv 5) pe_int (nomark _)) (pss_one (ps_ret (pe_tup (pa_cons pe_str (pa_cons (pv 3) (pa_cons (pe_call GT hr1 rfl B.g B.F.kp B.b .nil pass0 (pa_cons (pv 0) (pa_cons (pe_op op_add (pv 4) pe_int) pa_nil))) (pa_cons pe_int pa_nil))))))) pss_nil)
      (pss_one (ps_ret (pe_tup (pa_cons (pe_ix ix_list (pe_lst (pa_cons pe_str (pa_cons pe_str (pa_cons pe_str pa_nil)))) (pe_op op_sub (pv 5) pe_int) (fun _ _ => rfl))
        (pa_cons (pe_call GD hr2 rfl D.g D.F.kp D.b .nil pass0 (pa_cons (pv 0) (pa_cons (pe_lst (pa_cons pe_str (pa_cons pe_str (pa_cons pe_str (pa_cons pe_str pa_nil))))) pa_nil))) (pa_cons pe_int (pa_cons pe_int pa_nil))))))))))), ?_⟩
    -- file = one of the names
    refine ⟨_, rfl, _, rfl, p, _, rfl, hp, .inl ⟨l, _, rfl, hl, nlp, (by rw [List.length_map]; exact z0), (by rw [List.length_map]; exact z1), fun i x H1 hi o1 hp1 => ?_⟩⟩
    obtain ⟨y, rfl⟩ : ∃ y, x = V.str y := by
      rw [List.getElem?_map] at hi
      cases q : zs[i]? with
      | none =>
        rw [q] at hi
        cases hi
      | some y =>
        rw [q] at hi
        exact ⟨y, (Option.some.inj hi).symm⟩
    -- many = len(model.get(file, []))
    have nmp : m ≠ p := by
      obtain ⟨_, _, e, _⟩ := hp
      obtain ⟨_, e', _⟩ := hM
      exact ne_of e' e (by intro q; cases q)
    have hM1 : MAt S H1 m M := hM.out (o1.mono (by intro q hq; rw [List.mem_singleton.mp hq]; exact pS)) fun u e => o1 m u e (by simp [nmp])
    obtain ⟨kvs, hm1, hk⟩ := hM1
    refine ⟨_, rfl, m, rfl, .inl ⟨kvs, .inl hm1⟩, _, rfl, (by show 0 ≤ sizeLine; decide), fun l0 n0 => ?_⟩
    have s2 : Same H1 (upd H1 l0 (.lst [])) := same_new n0
    refine ⟨_, DGet.k (k := Sum.inr y) (s2 _ _ hm1), ?_⟩
    obtain ⟨lr, hgd, hlr⟩ : ∃ lr, (valV kvs (Sum.inr y)).getD (.ref l0) = .ref lr ∧ upd H1 l0 (.lst []) lr = some (.lst ((rowOf M y).map V.int)) := by
      cases e : tGet M y with
      | none => exact ⟨l0, by rw [hk.get_none e]; rfl, by rw [row_no e]; exact upd_same⟩
      | some r =>
        obtain ⟨v, ev, lr, rfl, _, hlr⟩ := hk.get_some e
        exact ⟨lr, by rw [ev]; rfl, by rw [row_le (S := S) (H := H) (b := m) e]; exact s2 _ _ hlr⟩
    rw [hgd]
    refine ⟨lr, _, rfl, .inl (SqL.of hlr), ?_⟩
    rw [List.length_map]
    have rl1 := rl y
    generalize (rowOf M y).length = n at rl1 ⊢
    have hp2 := hp1.same s2
    have o2 : Out [p] H (upd H1 l0 (.lst [])) := o1.add n0
    generalize upd H1 l0 (.lst []) = H2 at hp2 o2 ⊢
    -- way
    refine ⟨_, rfl, p, 9, rfl, hp2, by decide, by decide, fun way H3 w0 w1 o3 hp3 => ?_⟩
    have o03 := o2.trans o3
    refine ⟨_, rfl, _, _, rfl, rfl, _, rfl, ?_⟩
    have tupEnd : ∀ (H' : Hp) (d : Deed), Out [p] H H' → PotAt H' p → ∀ t, H' t = none → Q (.ref t) (upd H' t (.tup d.tup)) := fun H' d o hp' t nt => by
      have ntp : p ≠ t := by
        obtain ⟨_, _, e, _⟩ := hp'
        exact ne_of_none e nt
      exact k d t _ (o.none nt (by simp [ntp.symm])) (o.add nt) (hp'.same (same_new nt)) upd_same
    by_cases c : way < 4
    · rw [decide_eq_true c]
      refine iteT ?_
      refine ⟨_, rfl, _, rfl, _, rfl, _, rfl, _, rfl, _, _, rfl, rfl, _, rfl, _, rfl, _, _, rfl, rfl, p, _, rfl, hp3, by omega, by omega, fun d H4 d0 d1 o4 hp4 => ?_⟩
      refine ⟨(by show 4 ≤ sizeLine; decide), fun l4 n4 => ?_⟩
      have n4p : l4 ≠ p := by
        obtain ⟨_, _, e, _⟩ := hp4
        exact (ne_of_none e n4).symm
      refine ⟨p, _, rfl, hp4.same (same_new n4), .inl ⟨l4, _, rfl, upd_same, n4p, (by show 0 < 4; decide), (by show 4 ≤ 1000; decide), fun i x H5 hi o5 hp5 => ?_⟩⟩
      obtain ⟨n5, rfl⟩ : ∃ n5 : Nat, x = .int (n5 : Nat) := by
        match i, hi with
        | 0, hi => cases hi; exact ⟨n, rfl⟩
        | 1, hi => cases hi; exact ⟨n, rfl⟩
        | 2, hi => cases hi; exact ⟨n + 1, rfl⟩
        | 3, hi => cases hi; exact ⟨d.toNat, by rw [Int.toNat_of_nonneg d0]⟩
        | j + 4, hi => cases hi
      refine ⟨_, rfl, p, rfl, hp5, fun z H6 o6 hp6 => ⟨(by show 4 ≤ sizeLine; decide), ?_⟩⟩
      exact tupEnd H6 (.put y n5 z) (((o03.trans o4).add n4).trans (o5.trans o6)) hp6
    · rw [decide_eq_false c]
      refine iteF ?_
      refine ⟨_, rfl, _, _, rfl, rfl, _, rfl, ?_⟩
      by_cases c2 : way < 6
      · rw [decide_eq_true c2]
        refine iteT ?_
        refine ⟨_, rfl, _, rfl, _, rfl, _, _, rfl, rfl, p, _, rfl, hp3, by omega, by omega, fun d H4 d0 d1 o4 hp4 => ⟨(by show 4 ≤ sizeLine; decide), ?_⟩⟩
        obtain ⟨n5, rfl⟩ : ∃ n5 : Nat, d = (n5 : Nat) := ⟨d.toNat, by rw [Int.toNat_of_nonneg d0]⟩
        exact tupEnd H4 (.cut y n5) (o03.trans o4) hp4
      · rw [decide_eq_false c2]
        refine iteF ?_
        refine ⟨(by show 3 ≤ sizeLine; decide), fun l4 n4 => ?_⟩
        have hp4 := hp3.same (same_new (o := .lst [.str "hold", .str "hold", .str "free"]) n4)
        have o4 : Out [p] H (upd H3 l4 (.lst [.str "hold", .str "hold", .str "free"])) := o03.add n4
        obtain ⟨j, ej, lj⟩ : ∃ j : Nat, way - 6 = (j : Nat) ∧ j < 3 := ⟨(way - 6).toNat, by omega, by omega⟩
        refine ⟨_, rfl, _, _, rfl, rfl, l4, _, _, _, rfl, rfl, SqL.of upd_same, (by rw [ej]; exact atI_nat (List.getElem?_eq_getElem (l := [V.str "hold", V.str "hold", V.str "free"]) (i := j) lj)), _, rfl, (by show 4 ≤ sizeLine; decide), fun l5 n5 => ?_⟩
        have n5p : l5 ≠ p := by
          obtain ⟨_, _, e, _⟩ := hp4
          exact (ne_of_none e n5).symm
        refine ⟨p, _, rfl, hp4.same (same_new n5), .inl ⟨l5, _, rfl, upd_same, n5p, (by show 0 < 4; decide), (by show 4 ≤ 1000; decide), fun i x H6 hi o6 hp6 => ⟨(by show 4 ≤ sizeLine; decide), ?_⟩⟩⟩
        obtain ⟨y6, rfl⟩ : ∃ y6, x = .str y6 := by
          match i, hi with
          | 0, hi => cases hi; exact ⟨_, rfl⟩
          | 1, hi => cases hi; exact ⟨_, rfl⟩
          | 2, hi => cases hi; exact ⟨_, rfl⟩
          | 3, hi => cases hi; exact ⟨_, rfl⟩
          | j + 4, hi => cases hi
        have o7 := (o4.add n5).trans o6
        match j, lj with
        | 0, _ => exact tupEnd H6 (.hold y6) o7 hp6
        | 1, _ => exact tupEnd H6 (.hold y6) o7 hp6
        | 2, _ => exact tupEnd H6 (.free y6) o7 hp6
end
end Wa

/-! W4d: what is due. -/
namespace Wa
open PySem PyProof.Rows L2
theorem pc0 : decide (V.str ("put" : Str) = V.str "cut") = false := by decide +kernel
theorem pc1 : decide (V.str ("put" : Str) = V.str "put") = true := by decide +kernel
theorem pc2 : decide (V.str ("cut" : Str) = V.str "cut") = true := by decide +kernel
theorem pc3 : decide (V.str ("cut" : Str) = V.str "put") = false := by decide +kernel
/-- a store of a row and what comes behind it: the law's own steps -/
def fin (M : Mdl) (x : Str) (r : Row) : Mdl := if r = [] then tDrop (tPut M x r) x else tPut M x r
theorem fin_put {M : Mdl} {x : Str} {n : Nat} {b : Int} (h : ¬ (rowOf M x).length < n) : fin M x (putRow (rowOf M x) n b) = (putM M x n b).2 := by
  unfold fin putM
  rw [if_neg (putRow_ne _ _ _), if_neg h]
theorem fin_cut {M : Mdl} {x : Str} {n : Nat} (h0 : (tGet M x).isSome = true) (hne : rowOf M x ≠ []) (h : ¬ (rowOf M x).length < n) : fin M x ((rowOf M x).take n) = (cutM M x n).2 := by
  unfold fin cutM
  rw [if_pos h0, if_neg h]
  unfold cutTo
  by_cases c : n = 0
  · rw [if_pos c, if_pos (by rw [c]; rfl)]
  · rw [if_neg c, if_neg]
    intro z
    rcases List.take_eq_nil_iff.mp z with z | z
    · exact c z
    · exact hne z
theorem lawRow (r : Row) (n : Nat) (z : Int) (pb : Bool) : cutV (r.map V.int) none (some (n : Nat)) ++ (List.replicate ((if pb = true then (1 : Int) else 0)).toNat ([V.int z] ++ cutV (r.map V.int) (some ((n : Int) + 1)) none)).flatten = (if pb = true then putRow r n z else r.take n).map V.int := by
  have e1 : (some ((n : Int) + 1) : Option Int) = some ((n + 1 : Nat) : Int) := rfl
  rw [e1, cutV_to, cutV_from]
  cases pb with
  | true =>
    rw [if_pos rfl, if_pos rfl]
    show _ ++ (List.replicate 1 _).flatten = _
    unfold putRow
    rw [List.map_append, List.map_append, List.map_take, List.map_drop, List.append_assoc]
    simp
  | false =>
    rw [if_neg Bool.false_ne_true, if_neg Bool.false_ne_true]
    show _ ++ (List.replicate 0 _).flatten = _
    rw [List.map_take]
    simp
theorem lawRow_len (r : Row) (n : Nat) (z : Int) (pb : Bool) : ((if pb = true then putRow r n z else r.take n)).length ≤ r.length + 1 := by
  cases pb with
  | true => exact putRow_len r n z
  | false =>
    show (r.take n).length ≤ _
    rw [List.length_take]
    omega
/-- what a deed asks of a model's room -/
structure Room2 (M : Mdl) (Kp : Kpt) : Prop where
  ml : M.length < 900
  rl : ∀ x, (rowOf M x).length < 900
  kl : Kp.length < 900
  ne : ∀ e ∈ M, e.2 ≠ []
def isFile : Deed → Bool
  | .put _ _ _ => true
  | .cut _ _ => true
  | _ => false
def spFdue : Sp := fun vs H Q _ => ∃ (m t : Addr) (d : Deed) (M : Mdl) (Kp : Kpt) (S : List Addr), vs = [.ref m, .ref t] ∧ isFile d = true ∧ MAt S H m M ∧ m ∈ S ∧ Trk S H ∧ H t = some (.tup d.tup) ∧ Room2 M Kp ∧
  ∀ H', Out [m] H H' → MAt S H' m (d.mdl M) → Q (.str (d.word M Kp)) H'
section
variable {P : Program} {w : World} {K : PySem.W.Frag} {mg : Str → Option Value} {base : Heap} {a : Ads} {f f1 f2 f3 : Addr} {fd fd1 fd2 fd3 : FuncData}
theorem sc29 : FnScope ["_law_model", "_law_deed_here", "_law_word", "_law_file", "_law_place", "_law_birth_here", "_law_row"] ["_law_model", "_law_deed_here"] (defScope gFdue) := ⟨rfl, rfl, rfl, by decide +kernel, rfl, by decide +kernel, by decide +kernel⟩
theorem ok_fdue (T : Txt K mg a) (F : Fun K "_law_files_due" "_law_files_due" gFdue f fd) : FnOk P w K mg base CX0 1 f fd ["_law_model", "_law_deed_here"] spFdue := by
  refine F.ok sc29 (fun vs H Q E h => ?_) (fun cdv A outer s H vs Q E hr hw => ?_)
  · obtain ⟨m, t, d, M, Kp, S, rfl, _⟩ := h
    rfl
  · obtain ⟨m, t, d, M, Kp, S, rfl, hfd, hM, mS, trk, ht, rm, k⟩ := hw
    have hu := hu_of hr
    refine ⟨_, pss_cons (ps_asg (pv 1) (pg_tup rfl (pgs_cons (pg_name (i := 2) sc29.nd rfl (Or.inl rfl)) (pgs_cons (pg_name (i := 3) sc29.nd rfl (Or.inl rfl)) (pgs_cons (pg_name (i := 4) sc29.nd rfl (Or.inl rfl)) (pgs_cons (pg_name (i := 5) sc29.nd rfl (Or.inl rfl)) pgs_nil))))))
      (pss_cons (ps_set (i := 6) sc29.nd rfl (Or.inl rfl) (pe_dget2 hu (pv 0) (pv 3) (pe_lst pa_nil) ⟨rfl, rfl, rfl, rfl⟩))
      (pss_cons (ps_if (PW.pt (pw_and (pt_cmpR op_eq (pv 2) pe_str (nomark _)) (pw_and1 (pt_cmp (pc_dnotin hu (pv 3) (pv 0)))))) (pss_one (ps_ret pe_str)) pss_nil)
      (pss_cons (ps_if (pt_cmpR op_gt (pv 4) (pe_callB call_len_seq (by rfl) T.len PySem.boot_len (pa_cons (pv 6) pa_nil)) (nomark _)) (pss_one (ps_ret pe_str)) pss_nil)
      (pss_cons (ps_dput hu (pv 0) (pv 3) (pe_op op_cat (pe_slice sl_list (pv 6) po_none (po_some (pv 4)))
          (pe_op op_rep (pe_op op_cat (pe_lst (pa_cons (pv 5) pa_nil)) (pe_slice sl_list (pv 6) (po_some (pe_op op_add (pv 4) pe_int)) po_none))
            (pe_callTy call_int1 (by rfl) T.int (by decide +kernel) (pa_cons (pe_cmpR op_eq (pv 2) pe_str (nomark _)) pa_nil)))) rfl)
      (pss_cons (ps_if (pt_cmpR (op_eqD hr.units) (pe_dget hu (pv 0) (pv 3) (fun _ _ => rfl)) (pe_lst pa_nil) (nomark _)) (pss_one (ps_expr (pe_dpop1 (pv 0) (pv 3) ⟨rfl, rfl, rfl, rfl⟩))) pss_nil)
      (pss_one (ps_ret pe_str))))))), ?_⟩
    obtain ⟨kvs, hm, hk⟩ := id hM
    -- the deed's parts: wd, x, n, z; whether it is a put
    obtain ⟨wd, x, n, z, pb, et, ew, e0, e1, e2⟩ : ∃ (wd : Str) (x : Str) (n : Nat) (z : Int) (pb : Bool), d.tup = [.str wd, .str x, .int (n : Nat), .int z] ∧ decide (V.str wd = V.str "put") = pb ∧ decide (V.str wd = V.str "cut") = !pb ∧
        (¬ (rowOf M x).length < n → (pb = false → (tGet M x).isSome = true) → fin M x (if pb = true then putRow (rowOf M x) n z else (rowOf M x).take n) = d.mdl M ∧ d.word M Kp = "done") ∧
        (((pb = false ∧ tGet M x = none) → d.word M Kp = "NoFile" ∧ d.mdl M = M) ∧ ((pb = false → (tGet M x).isSome = true) → (rowOf M x).length < n → d.word M Kp = "NoPlace" ∧ d.mdl M = M)) := by
      cases d with
      | put x n z =>
        refine ⟨"put", x, n, z, true, rfl, pc1, pc0, fun h _ => ⟨?_, ?_⟩, fun h => absurd h.1 (by decide), fun _ h => ⟨?_, ?_⟩⟩
        · rw [if_pos rfl]
          exact fin_put h
        · show (putM M x n z).1 = _
          unfold putM
          rw [if_neg h]
        · show (putM M x n z).1 = _
          unfold putM
          rw [if_pos h]
        · show (putM M x n z).2 = _
          unfold putM
          rw [if_pos h]
      | cut x n =>
        refine ⟨"cut", x, n, 0, false, rfl, pc3, pc2, fun h is0 => ⟨?_, ?_⟩, fun h => ⟨?_, ?_⟩, fun is0 h => ⟨?_, ?_⟩⟩
        · rw [if_neg Bool.false_ne_true]
          refine fin_cut (is0 rfl) ?_ h
          obtain ⟨r, er⟩ := Option.isSome_iff_exists.mp (is0 rfl)
          rw [row_le (S := S) (H := H) (b := m) er]
          exact rm.ne _ (tGet_mem er)
        · show (cutM M x n).1 = _
          unfold cutM
          rw [if_pos (is0 rfl), if_neg h]
        · show (cutM M x n).1 = _
          unfold cutM
          rw [h.2]
          rfl
        · show (cutM M x n).2 = _
          unfold cutM
          rw [h.2]
          rfl
        · show (cutM M x n).1 = _
          unfold cutM
          rw [if_pos (is0 rfl), if_pos h]
        · show (cutM M x n).2 = _
          unfold cutM
          rw [if_pos (is0 rfl), if_pos h]
      | hold x => cases hfd
      | free x => cases hfd
    rw [et] at ht
    refine ⟨_, rfl, t, _, rfl, SqT.of ht, rfl, _, _, rfl, _, _, rfl, _, _, rfl, _, _, rfl, rfl, ?_⟩
    -- row = model.get(file, [])
    refine ⟨_, rfl, m, rfl, .inl ⟨kvs, .inl hm⟩, _, rfl, (by show 0 ≤ sizeLine; decide), fun l0 n0 => ?_⟩
    have s0 : Same H (upd H l0 (.lst [])) := same_new n0
    refine ⟨_, DGet.k (k := Sum.inr x) (s0 _ _ hm), ?_⟩
    obtain ⟨l, hgd, hl⟩ : ∃ l, (valV kvs (Sum.inr x)).getD (.ref l0) = .ref l ∧ upd H l0 (.lst []) l = some (.lst ((rowOf M x).map V.int)) := by
      cases e : tGet M x with
      | none => exact ⟨l0, by rw [hk.get_none e]; rfl, by rw [row_no e]; exact upd_same⟩
      | some r =>
        obtain ⟨v, ev, l, rfl, _, hl⟩ := hk.get_some e
        exact ⟨l, by rw [ev]; rfl, by rw [row_le (S := S) (H := H) (b := m) e]; exact s0 _ _ hl⟩
    rw [hgd]
    -- if word == "cut" and file not in model
    refine ⟨_, rfl, rfl, _, rfl, ?_⟩
    have fileIn : ∀ {C A B : Prop}, (pb = false → ((pb = false → (tGet M x).isSome = true) → B) → C) → ((pb = false → (tGet M x).isSome = true) → B) → if (!pb) = true then C else (if false = true then A else B) := fun {C A B} h1 h2 => by
      cases pb with
      | true => exact iteF (iteF (h2 fun z => by cases z))
      | false => exact iteT (h1 rfl h2)
    rw [e0]
    refine fileIn (fun hpb cont => ?_) (fun is0 => ?_)
    · refine ⟨_, rfl, _, rfl, m, _, rfl, DGet.k (k := Sum.inr x) (s0 _ _ hm), _, rfl, ?_⟩
      rw [hk.isSome]
      cases e : tGet M x with
      | none =>
        obtain ⟨q1, q2⟩ := e2.1 ⟨hpb, e⟩
        refine iteT ?_
        have q := k _ (.of s0) (by rw [q2]; exact hM.same s0)
        rw [q1] at q
        exact q
      | some r => exact iteF (cont fun _ => by rw [e]; rfl)
    -- if place > len(row)
    refine ⟨_, rfl, _, rfl, l, _, rfl, .inl (SqL.of hl), _, _, rfl, rfl, _, rfl, ?_⟩
    rw [List.length_map]
    by_cases c : (rowOf M x).length < n
    · rw [decide_eq_true (by omega : ((rowOf M x).length : Int) < (n : Nat))]
      obtain ⟨q1, q2⟩ := e2.2 is0 c
      refine iteT ?_
      have q := k _ (.of s0) (by rw [q2]; exact hM.same s0)
      rw [q1] at q
      exact q
    rw [decide_eq_false (by omega : ¬ ((rowOf M x).length : Int) < (n : Nat))]
    refine iteF ?_
    have rl := rm.rl x
    have ml := rm.ml
    -- model[file] = row[:place] + ([birth] + row[place + 1:]) * int(word == "put")
    refine ⟨_, rfl, _, rfl, _, rfl, l, _, rfl, SqL.of hl, fun l1 n1 => ?_⟩
    have nl1 : l ≠ l1 := ne_of_none hl n1
    refine ⟨_, rfl, (by show 1 ≤ sizeLine; decide), fun l2 n2 => ?_⟩
    have n12 : l1 ≠ l2 := ne_of_none upd_same n2
    have nl2 : l ≠ l2 := ne_of_none (by rw [upd_ne nl1]; exact hl) n2
    refine ⟨_, rfl, _, rfl, _, _, rfl, rfl, _, rfl, l, _, rfl, SqL.of (by rw [upd_ne nl2, upd_ne nl1]; exact hl), fun l3 n3 => ?_⟩
    have n23 : l2 ≠ l3 := ne_of_none upd_same n3
    have n13 : l1 ≠ l3 := ne_of_none (by rw [upd_ne n12, upd_same]) n3
    have cl := cutV_length ((rowOf M x).map V.int) (some ((n : Int) + 1)) none
    rw [List.length_map] at cl
    refine ⟨l2, l3, _, _, rfl, rfl, (by rw [upd_ne n23, upd_same]), upd_same, ?_, fun l4 n4 => ?_⟩
    · refine len_small ?_
      show 1 + _ ≤ 3000
      omega
    have n14 : l1 ≠ l4 := ne_of_none (by rw [upd_ne n13, upd_ne n12, upd_same]) n4
    refine ⟨_, rfl, rfl, .inr ⟨_, rfl, ?_⟩⟩
    rw [ew]
    refine ⟨l4, _, _, rfl, rfl, upd_same, (by cases pb <;> decide), (by cases pb <;> decide), ?_, fun l5 n5 => ?_⟩
    · refine len_small ?_
      have q : ([V.int z] ++ cutV ((rowOf M x).map V.int) (some ((n : Int) + 1)) none).length ≤ 1 + (rowOf M x).length := by
        rw [List.length_append]
        exact Nat.add_le_add_left cl 1
      cases pb with
      | true =>
        show _ * 1 ≤ 3000
        omega
      | false =>
        show _ * 0 ≤ 3000
        omega
    have n15 : l1 ≠ l5 := ne_of_none (by rw [upd_ne n14, upd_ne n13, upd_ne n12, upd_same]) n5
    refine ⟨l1, l5, _, _, rfl, rfl, (by rw [upd_ne n15, upd_ne n14, upd_ne n13, upd_ne n12, upd_same]), upd_same, ?_, fun l6 n6 => ?_⟩
    · refine len_small ?_
      rw [← List.length_append, lawRow, List.length_map]
      have q := lawRow_len (rowOf M x) n z pb
      omega
    have s6 : Same H _ := ((((((s0.trans (same_new n1)).trans (same_new n2)).trans (same_new n3)).trans (same_new n4)).trans (same_new n5)).trans (same_new (o := .lst ((if pb = true then putRow (rowOf M x) n z else (rowOf M x).take n).map V.int)) n6))
    rw [lawRow]
    obtain ⟨f1, f2⟩ := e1 c is0
    generalize (if pb = true then putRow (rowOf M x) n z else (rowOf M x).take n) = R at f1 s6 ⊢
    have n6S : l6 ∉ S := trk.nin ((((((s0.trans (same_new n1)).trans (same_new n2)).trans (same_new n3)).trans (same_new n4)).trans (same_new n5)).free n6)
    have n6m : l6 ≠ m := fun q => n6S (by rw [q]; exact mS)
    refine ⟨_, rfl, _, rfl, m, _, rfl, DPut.k (k := Sum.inr x) (s6 _ _ hm) ?_, ?_⟩
    · rw [hk.len]
      exact small1000 (by omega)
    generalize eH6 : upd (upd (upd (upd (upd (upd (upd H l0 (.lst [])) l1 _) l2 _) l3 _) l4 _) l5 _) l6 _ = H6 at s6 ⊢
    have h6 : H6 l6 = some (.lst (R.map V.int)) := by
      rw [← eH6]
      exact upd_same
    have hk2 : KvR (LAt S (upd H6 m (.dK (putK kvs (Sum.inr x) (.ref l6))))) (putK kvs (Sum.inr x) (.ref l6)) (tPut M x R) :=
      KvR.put (hk.imp fun v r hv => hv.out (Out.write (.of s6) mS)) ⟨l6, rfl, n6S, by rw [upd_ne n6m]; exact h6⟩
    -- if model[file] == []
    refine ⟨_, rfl, _, rfl, m, .ref l6, rfl, ?_, (by show 0 ≤ sizeLine; decide), fun l7 n7 => ?_⟩
    · have q : DGet (upd H6 m (.dK (putK kvs (Sum.inr x) (.ref l6)))) m (kV (Sum.inr x)) (valV (putK kvs (Sum.inr x) (.ref l6)) (Sum.inr x)) := DGet.k upd_same
      rw [valV_put, if_pos rfl] at q
      exact q
    have s7 : Same (upd H6 m (.dK (putK kvs (Sum.inr x) (.ref l6)))) (upd (upd H6 m (.dK (putK kvs (Sum.inr x) (.ref l6)))) l7 (.lst [])) := same_new n7
    have o7 : Out [m] H (upd (upd H6 m (.dK (putK kvs (Sum.inr x) (.ref l6)))) l7 (.lst [])) := (Out.write (.of s6) (by simp)).trans (.of s7)
    refine ⟨.list (R.map PyData.int), .list [], .lst (SqL.of (s7 _ _ (by rw [upd_ne n6m]; exact h6))) (dp_ints R), .lst (SqL.of upd_same) .nil, shaped_ints R, rfl, _, rfl, ?_⟩
    rw [eqv_nil]
    cases R with
    | nil =>
      refine iteT ?_
      refine ⟨_, rfl, m, rfl, .inl ⟨_, .inl (s7 _ _ upd_same)⟩, _, rfl, _, Sum.inr x, _, s7 _ _ upd_same, rfl, (by rw [valV_put, if_pos rfl]), ?_⟩
      have q := k _ (o7.write (p := m) (o := .dK (dropK (putK kvs (Sum.inr x) (.ref l6)) (Sum.inr x))) (by simp)) (by
        rw [← f1]
        unfold fin
        rw [if_pos rfl]
        exact ⟨_, upd_same, hk2.drop.imp fun v r hv => (hv.out (.of s7)).out (Out.write (Out.refl _ _) mS)⟩)
      rw [f2] at q
      exact q
    | cons z' R =>
      refine iteF ?_
      have q := k _ o7 (by
        rw [← f1]
        unfold fin
        rw [if_neg (by simp)]
        exact ⟨_, s7 _ _ upd_same, hk2.imp fun v r hv => hv.out (.of s7)⟩)
      rw [f2] at q
      exact q
end
end Wa

/-! W4e: _law_due. -/
namespace Wa
open PySem PyProof.Rows L2
theorem in0 : inV (V.str ("put" : Str)) [V.str "put", V.str "cut"] = true := by decide +kernel
theorem in1 : inV (V.str ("cut" : Str)) [V.str "put", V.str "cut"] = true := by decide +kernel
theorem in2 : inV (V.str ("hold" : Str)) [V.str "put", V.str "cut"] = false := by decide +kernel
theorem in3 : inV (V.str ("free" : Str)) [V.str "put", V.str "cut"] = false := by decide +kernel
theorem hh0 : decide (V.str ("hold" : Str) = V.str "hold") = true := by decide +kernel
theorem hh1 : decide (V.str ("free" : Str) = V.str "hold") = false := by decide +kernel
def spDue : Sp := fun vs H Q _ => ∃ (m kk t : Addr) (d : Deed) (M : Mdl) (Kp : Kpt) (S : List Addr), vs = [.ref m, .ref kk, .ref t] ∧ MAt S H m M ∧ KAt S H kk Kp ∧ m ∈ S ∧ kk ∈ S ∧ m ≠ kk ∧ Trk S H ∧ H t = some (.tup d.tup) ∧ Room2 M Kp ∧
  ∀ H', Out [m, kk] H H' → MAt S H' m (d.mdl M) → KAt S H' kk (d.kpt M Kp) → Q (.str (d.word M Kp)) H'
section
variable {P : Program} {w : World} {K : PySem.W.Frag} {mg : Str → Option Value} {base : Heap} {a : Ads} {f f1 : Addr} {fd fd1 : FuncData}
theorem sc30 : FnScope ["_law_model", "_law_kept", "_law_deed_here"] ["_law_model", "_law_kept", "_law_deed_here"] (defScope gDue) := ⟨rfl, rfl, rfl, by decide +kernel, rfl, by decide +kernel, by decide +kernel⟩
theorem ok_due (T : Txt K mg a) (F : Fun K "_law_due" "_law_due" gDue f fd) (B : GF K mg "_law_files_due" gFdue ["_law_model", "_law_deed_here"] f1 fd1) : FnOk P w K mg base CX0 2 f fd ["_law_model", "_law_kept", "_law_deed_here"] spDue := by
  have G : FnOk P w K mg base CX0 1 f1 fd1 ["_law_model", "_law_deed_here"] spFdue := ok_fdue T B.F
  refine F.ok sc30 (fun vs H Q E h => ?_) (fun cdv A outer s H vs Q E hr hw => ?_)
  · obtain ⟨m, kk, t, d, M, Kp, S, rfl, _⟩ := h
    rfl
  · obtain ⟨m, kk, t, d, M, Kp, S, rfl, hM, hK, mS, kS, nmk, trk, ht, rm, k⟩ := hw
    have hu := hu_of hr
    refine ⟨_, pss_cons (ps_if (pt_cmpR op_in_seq (pe_ix ix_tup (pv 2) pe_int (fun _ _ => rfl)) (pe_tup (pa_cons pe_str (pa_cons pe_str pa_nil))) (by rfl)) (pss_one (ps_ret (pe_call G hr rfl B.g B.F.kp B.b .nil pass0 (pa_cons (pv 0) (pa_cons (pv 2) pa_nil))))) pss_nil)
      (pss_cons (ps_if (pt_cmpR op_eq (pe_ix ix_tup (pv 2) pe_int (fun _ _ => rfl)) pe_str (nomark _))
        (pss_cons (ps_if (pt_cmp (pc_din hu (pe_ix ix_tup (pv 2) pe_int (fun _ _ => rfl)) (pv 1))) (pss_one (ps_ret pe_str)) pss_nil)
        (pss_cons (ps_dput hu (pv 1) (pe_ix ix_tup (pv 2) pe_int (fun _ _ => rfl)) (pe_callTy call_dictD (by rfl) T.dict (by decide +kernel) (pa_cons (pv 0) pa_nil)) rfl)
        (pss_one (ps_ret pe_str)))) pss_nil)
      (pss_cons (ps_if (pt_cmp (pc_dnotin hu (pe_ix ix_tup (pv 2) pe_int (fun _ _ => rfl)) (pv 1))) (pss_one (ps_ret pe_str)) pss_nil)
      (pss_cons (ps_expr (pe_dpop1 (pv 1) (pe_ix ix_tup (pv 2) pe_int (fun _ _ => rfl)) ⟨rfl, rfl, rfl, rfl⟩))
      (pss_one (ps_ret pe_str))))), ?_⟩
    obtain ⟨kvs, hm, hk⟩ := id hM
    obtain ⟨hvs, hh, hd⟩ := id hK
    obtain ⟨wd, x, r1, r2, et⟩ : ∃ (wd : Str) (x : Str) (r1 r2 : V), d.tup = [.str wd, .str x, r1, r2] := by
      cases d <;> exact ⟨_, _, _, _, rfl⟩
    refine ⟨_, rfl, t, _, _, _, rfl, rfl, SqT.of ht, (by rw [et]; exact atI_nat (j := 0) rfl), (by show 2 ≤ sizeLine; decide), fun t2 n2 => ?_⟩
    have s2 : Same H (upd H t2 (.tup [.str "put", .str "cut"])) := same_new n2
    refine ⟨t2, _, rfl, .inr (SqT.of upd_same), rfl, rfl, _, rfl, ?_⟩
    have trk2 : Trk S (upd H t2 (.tup [.str "put", .str "cut"])) := trk.out (Out.of (S := []) s2) fun _ z => by cases z
    have filed : isFile d = true → inV (V.str wd) [V.str "put", V.str "cut"] = true := fun h => by
      cases d with
      | put _ _ _ =>
        injection et with q1 _
        rw [← q1]
        exact in0
      | cut _ _ =>
        injection et with q1 _
        rw [← q1]
        exact in1
      | hold _ => cases h
      | free _ => cases h
    by_cases hf : isFile d = true
    · show if inV (V.str wd) [V.str "put", V.str "cut"] = true then _ else _
      rw [filed hf]
      refine iteT ?_
      refine ⟨_, rfl, _, rfl, m, t, d, M, Kp, S, rfl, hf, hM.same s2, mS, trk2, s2 _ _ ht, rm, fun H' o hM' => ?_⟩
      have e : d.kpt M Kp = Kp := by
        cases d with
        | put _ _ _ => rfl
        | cut _ _ => rfl
        | hold _ => cases hf
        | free _ => cases hf
      refine k H' ((Out.of s2).trans (o.mono fun q hq => ?_)) hM' ?_
      · rw [List.mem_singleton.mp hq]
        exact List.mem_cons_self
      · rw [e]
        refine (hK.same s2).out (o.mono fun q hq => ?_) fun u z => o kk u z (by simp [nmk.symm])
        rw [List.mem_singleton.mp hq]
        exact mS
    have hm2 := s2 _ _ hm
    have hh2 := s2 _ _ hh
    have ht2 := s2 _ _ ht
    have hd2 : KvR (DAt S (upd H t2 (.tup [.str "put", .str "cut"]))) hvs Kp := hd.imp fun v r hv => hv.out (.of s2)
    have hk2 : KvR (LAt S (upd H t2 (.tup [.str "put", .str "cut"]))) kvs M := hk.imp fun v r hv => hv.out (.of s2)
    have fresh : ∀ p, upd H t2 (.tup [.str "put", .str "cut"]) p = none → H p = none := fun p => s2.free
    generalize upd H t2 (.tup [.str "put", .str "cut"]) = H2 at s2 trk2 hm2 hh2 ht2 hd2 hk2 fresh ⊢
    have kl := rm.kl
    cases d with
    | put _ _ _ => exact absurd rfl hf
    | cut _ _ => exact absurd rfl hf
    | hold y =>
      injection et with q1 q2
      injection q2 with q2 _
      have q3 := V.str.inj q1
      have q4 := V.str.inj q2
      subst q3
      subst q4
      show if inV (V.str ("hold" : Str)) [V.str "put", V.str "cut"] = true then _ else _
      rw [in2]
      refine iteF ?_
      refine ⟨_, rfl, t, _, _, _, rfl, rfl, SqT.of ht2, atI_nat (j := 0) rfl, rfl, _, rfl, ?_⟩
      show if decide (V.str ("hold" : Str) = V.str "hold") = true then _ else _
      rw [hh0]
      refine iteT ?_
      refine ⟨_, rfl, t, _, _, _, rfl, rfl, SqT.of ht2, atI_nat (j := 1) rfl, _, rfl, kk, _, rfl, DGet.k (k := Sum.inr y) hh2, _, rfl, ?_⟩
      rw [hd.isSome]
      cases e : tGet Kp y with
      | some m' =>
        refine iteT ?_
        have ew : (Deed.hold y).word M Kp = "HeldAlready" := by
          show (holdM M Kp y).1 = _
          unfold holdM
          rw [e]
          rfl
        have ek : (Deed.hold y).kpt M Kp = Kp := by
          show (holdM M Kp y).2 = _
          unfold holdM
          rw [e]
          rfl
        have q := k H2 (.of s2) (hM.same s2) (by rw [ek]; exact hK.same s2)
        rw [ew] at q
        exact q
      | none =>
        refine iteF ?_
        refine ⟨_, rfl, m, kvs, rfl, .inl hm2, fun dd nd => ?_⟩
        have s3 : Same H2 (upd H2 dd (.dK kvs)) := same_new nd
        refine ⟨_, rfl, _, rfl, t, _, _, _, rfl, rfl, SqT.of (s3 _ _ ht2), atI_nat (j := 1) rfl, kk, _, rfl, DPut.k (k := Sum.inr y) (s3 _ _ hh2) ?_, ?_⟩
        · rw [hd.len]
          exact small1000 (by omega)
        have ndS : dd ∉ S := trk2.nin nd
        have ndk : dd ≠ kk := fun q => ndS (by rw [q]; exact kS)
        have ew : (Deed.hold y).word M Kp = "done" := by
          show (holdM M Kp y).1 = _
          unfold holdM
          rw [e]
          rfl
        have ek : (Deed.hold y).kpt M Kp = tPut Kp y M := by
          show (holdM M Kp y).2 = _
          unfold holdM
          rw [e]
          rfl
        have o3 : Out S H2 (upd (upd H2 dd (.dK kvs)) kk (.dK (putK hvs (Sum.inr y) (.ref dd)))) := Out.write (.of s3) kS
        have q := k _ (((Out.of s2).trans (.of s3)).write (p := kk) (o := .dK (putK hvs (Sum.inr y) (.ref dd))) (by simp)) ((hM.same s2).out o3 fun u z => by
          rw [upd_ne nmk]
          exact s3 _ _ z) (by
          rw [ek]
          exact ⟨_, upd_same, KvR.put (hd2.imp fun v r hv => hv.out o3) ⟨dd, rfl, ndS, kvs, by rw [upd_ne ndk, upd_same], hk2.imp fun v r hv => hv.out o3⟩⟩)
        rw [ew] at q
        exact q
    | free y =>
      injection et with q1 q2
      injection q2 with q2 _
      have q3 := V.str.inj q1
      have q4 := V.str.inj q2
      subst q3
      subst q4
      show if inV (V.str ("free" : Str)) [V.str "put", V.str "cut"] = true then _ else _
      rw [in3]
      refine iteF ?_
      refine ⟨_, rfl, t, _, _, _, rfl, rfl, SqT.of ht2, atI_nat (j := 0) rfl, rfl, _, rfl, ?_⟩
      show if decide (V.str ("free" : Str) = V.str "hold") = true then _ else _
      rw [hh1]
      refine iteF ?_
      refine ⟨_, rfl, t, _, _, _, rfl, rfl, SqT.of ht2, atI_nat (j := 1) rfl, _, rfl, kk, _, rfl, DGet.k (k := Sum.inr y) hh2, _, rfl, ?_⟩
      rw [hd.isSome]
      cases e : tGet Kp y with
      | none =>
        refine iteT ?_
        have ew : (Deed.free y).word M Kp = "NotHeld" := by
          show (freeM Kp y).1 = _
          unfold freeM
          rw [e]
          rfl
        have ek : (Deed.free y).kpt M Kp = Kp := by
          show (freeM Kp y).2 = _
          unfold freeM
          rw [e]
          rfl
        have q := k H2 (.of s2) (hM.same s2) (by rw [ek]; exact hK.same s2)
        rw [ew] at q
        exact q
      | some m' =>
        refine iteF ?_
        obtain ⟨v, ev, _⟩ := hd2.get_some e
        refine ⟨_, rfl, kk, rfl, .inl ⟨_, .inl hh2⟩, _, rfl, t, _, _, _, rfl, rfl, SqT.of ht2, atI_nat (j := 1) rfl, _, Sum.inr y, v, hh2, rfl, ev, ?_⟩
        have ew : (Deed.free y).word M Kp = "done" := by
          show (freeM Kp y).1 = _
          unfold freeM
          rw [e]
          rfl
        have ek : (Deed.free y).kpt M Kp = tDrop Kp y := by
          show (freeM Kp y).2 = _
          unfold freeM
          rw [e]
          rfl
        have o3 : Out S H2 (upd H2 kk (.dK (dropK hvs (Sum.inr y)))) := Out.write (Out.refl _ _) kS
        have q := k _ ((Out.of s2).write (p := kk) (o := .dK (dropK hvs (Sum.inr y))) (by simp)) ((hM.same s2).out o3 fun u z => by
          rw [upd_ne nmk]
          exact z) (by
          rw [ek]
          exact ⟨_, upd_same, hd2.drop.imp fun v r hv => hv.out o3⟩)
        rw [ew] at q
        exact q
end
end Wa

/-! W4f: the law's name of a refusal. -/
namespace Wa
open PySem PyProof.Rows L2
/-- where the sixteen refusals stand -/
structure C16 where
  (c0 c1 c2 c3 c4 c5 c6 c7 c8 c9 c10 c11 c12 c13 c14 c15 : Addr)
structure G16 (mg : Str → Option Value) (c : C16) : Prop where
  g0 : mg "Full" = some (.ref c.c0)
  g1 : mg "Gone" = some (.ref c.c1)
  g2 : mg "HeldAlready" = some (.ref c.c2)
  g3 : mg "NoDeed" = some (.ref c.c3)
  g4 : mg "NoDisk" = some (.ref c.c4)
  g5 : mg "NoFile" = some (.ref c.c5)
  g6 : mg "NoFiles" = some (.ref c.c6)
  g7 : mg "NoHouse" = some (.ref c.c7)
  g8 : mg "NoMark" = some (.ref c.c8)
  g9 : mg "NoPlace" = some (.ref c.c9)
  g10 : mg "NoRoom" = some (.ref c.c10)
  g11 : mg "NoRow" = some (.ref c.c11)
  g12 : mg "NotBlank" = some (.ref c.c12)
  g13 : mg "NotClosed" = some (.ref c.c13)
  g14 : mg "NotHeld" = some (.ref c.c14)
  g15 : mg "Stopped" = some (.ref c.c15)
/-- what isinstance says of an error of the class at D, the i-th -/
structure Kit (K : PySem.W.Frag) (c : C16) (D : Addr) (i : Nat) : Prop where
  ex : ExcC K D
  ve : PySem.W.kitOne K (.ref D) (.type "ValueError") = some true
  k0 : PySem.W.kitOne K (.ref D) (.ref c.c0) = some (decide (i = 0))
  k1 : PySem.W.kitOne K (.ref D) (.ref c.c1) = some (decide (i = 1))
  k2 : PySem.W.kitOne K (.ref D) (.ref c.c2) = some (decide (i = 2))
  k3 : PySem.W.kitOne K (.ref D) (.ref c.c3) = some (decide (i = 3))
  k4 : PySem.W.kitOne K (.ref D) (.ref c.c4) = some (decide (i = 4))
  k5 : PySem.W.kitOne K (.ref D) (.ref c.c5) = some (decide (i = 5))
  k6 : PySem.W.kitOne K (.ref D) (.ref c.c6) = some (decide (i = 6))
  k7 : PySem.W.kitOne K (.ref D) (.ref c.c7) = some (decide (i = 7))
  k8 : PySem.W.kitOne K (.ref D) (.ref c.c8) = some (decide (i = 8))
  k9 : PySem.W.kitOne K (.ref D) (.ref c.c9) = some (decide (i = 9))
  k10 : PySem.W.kitOne K (.ref D) (.ref c.c10) = some (decide (i = 10))
  k11 : PySem.W.kitOne K (.ref D) (.ref c.c11) = some (decide (i = 11))
  k12 : PySem.W.kitOne K (.ref D) (.ref c.c12) = some (decide (i = 12))
  k13 : PySem.W.kitOne K (.ref D) (.ref c.c13) = some (decide (i = 13))
  k14 : PySem.W.kitOne K (.ref D) (.ref c.c14) = some (decide (i = 14))
  k15 : PySem.W.kitOne K (.ref D) (.ref c.c15) = some (decide (i = 15))
def refNames : List Str := ["Full", "Gone", "HeldAlready", "NoDeed", "NoDisk", "NoFile", "NoFiles", "NoHouse", "NoMark", "NoPlace", "NoRoom", "NoRow", "NotBlank", "NotClosed", "NotHeld", "Stopped"]
def spRef (K : PySem.W.Frag) (cc : C16) : SpE := fun a c d vs H Q => ∃ (D : Addr) (nm : Str) (i : Nat), vs = [.ref a] ∧ c = .ref D ∧ d = none ∧ Kit K cc D i ∧ i < 16 ∧ refNames[i]? = some nm ∧ ∀ H', Same H H' → Q (.str nm) H'
def bits (i : Nat) : List Bool := [decide (i = 0), decide (i = 1), decide (i = 2), decide (i = 3), decide (i = 4), decide (i = 5), decide (i = 6), decide (i = 7), decide (i = 8), decide (i = 9), decide (i = 10), decide (i = 11), decide (i = 12), decide (i = 13), decide (i = 14), decide (i = 15)]
theorem bits_flat (i : Nat) : ((bits i).map V.bl).all flatV = true := by
  unfold bits
  rfl
theorem bits_count : ∀ i < 16, (((bits i).map V.bl).countP fun z => eqV z (.bl true)) = 1 := by decide
theorem bits_at : ∀ i < 16, (bits i)[i]? = some true := by decide
theorem bits_off : ∀ i < 16, ∀ j < i, (bits i)[j]? = some false := by decide
section
variable {P : Program} {w : World} {K : PySem.W.Frag} {mg : Str → Option Value} {base : Heap} {a : Ads} {f f1 : Addr} {fd fd1 : FuncData} {cc : C16}
theorem sc31 : FnScope ["_law_e", "_law_some", "_law_names_here"] ["_law_e"] (defScope gRef) := ⟨rfl, rfl, rfl, by decide +kernel, rfl, by decide +kernel, by decide +kernel⟩
theorem ok_ref (T : Txt K mg a) (G : G16 mg cc) (F : Fun K "_law_refusal" "_law_refusal" gRef f fd) : FnE P w K mg base 1 f fd ["_law_e"] (spRef K cc) := by
  refine Wa.Fun.okE F sc31 (fun e c d vs H Q h => ?_) (fun cdv A outer s H vs Q e ob c d hr zc flds hw => ?_)
  · obtain ⟨D, nm, i, rfl, _⟩ := h
    rfl
  · obtain ⟨D, nm, i, rfl, rfl, rfl, kt, i16, enm, k⟩ := hw
    refine ⟨_, pss_cons (ps_set (i := 1) sc31.nd rfl (Or.inl rfl) (pe_lst (pa_cons (pe_callB (call_isP kt.ex zc flds (by exact List.mem_cons_self)) (by rfl) T.isinstance (by decide +kernel) (pa_cons (pv 0) (pa_cons (pe_glob (v := .ref cc.c0) rfl G.g0 rfl) pa_nil))) (pa_cons (pe_callB (call_isP kt.ex zc flds (by exact List.mem_cons_self)) (by rfl) T.isinstance (by decide +kernel) (pa_cons (pv 0) (pa_cons (pe_glob (v := .ref cc.c1) rfl G.g1 rfl) pa_nil))) (pa_cons (pe_callB (call_isP kt.ex zc flds (by exact List.mem_cons_self)) (by rfl) T.isinstance (by decide +kernel) (pa_cons (pv 0) (pa_cons (pe_glob (v := .ref cc.c2) rfl G.g2 rfl) pa_nil))) (pa_cons (pe_callB (call_isP kt.ex zc flds (by exact List.mem_cons_self)) (by rfl) T.isinstance (by decide +kernel) (pa_cons (pv 0) (pa_cons (pe_glob (v := .ref cc.c3) rfl G.g3 rfl) pa_nil))) pa_nil))))))
      (pss_cons (ps_set (i := 1) sc31.nd rfl (Or.inl rfl) (pe_op op_cat (pv 1) (pe_lst (pa_cons (pe_callB (call_isP kt.ex zc flds (by exact List.mem_cons_self)) (by rfl) T.isinstance (by decide +kernel) (pa_cons (pv 0) (pa_cons (pe_glob (v := .ref cc.c4) rfl G.g4 rfl) pa_nil))) (pa_cons (pe_callB (call_isP kt.ex zc flds (by exact List.mem_cons_self)) (by rfl) T.isinstance (by decide +kernel) (pa_cons (pv 0) (pa_cons (pe_glob (v := .ref cc.c5) rfl G.g5 rfl) pa_nil))) (pa_cons (pe_callB (call_isP kt.ex zc flds (by exact List.mem_cons_self)) (by rfl) T.isinstance (by decide +kernel) (pa_cons (pv 0) (pa_cons (pe_glob (v := .ref cc.c6) rfl G.g6 rfl) pa_nil))) (pa_cons (pe_callB (call_isP kt.ex zc flds (by exact List.mem_cons_self)) (by rfl) T.isinstance (by decide +kernel) (pa_cons (pv 0) (pa_cons (pe_glob (v := .ref cc.c7) rfl G.g7 rfl) pa_nil))) pa_nil)))))))
      (pss_cons (ps_set (i := 1) sc31.nd rfl (Or.inl rfl) (pe_op op_cat (pv 1) (pe_lst (pa_cons (pe_callB (call_isP kt.ex zc flds (by exact List.mem_cons_self)) (by rfl) T.isinstance (by decide +kernel) (pa_cons (pv 0) (pa_cons (pe_glob (v := .ref cc.c8) rfl G.g8 rfl) pa_nil))) (pa_cons (pe_callB (call_isP kt.ex zc flds (by exact List.mem_cons_self)) (by rfl) T.isinstance (by decide +kernel) (pa_cons (pv 0) (pa_cons (pe_glob (v := .ref cc.c9) rfl G.g9 rfl) pa_nil))) (pa_cons (pe_callB (call_isP kt.ex zc flds (by exact List.mem_cons_self)) (by rfl) T.isinstance (by decide +kernel) (pa_cons (pv 0) (pa_cons (pe_glob (v := .ref cc.c10) rfl G.g10 rfl) pa_nil))) (pa_cons (pe_callB (call_isP kt.ex zc flds (by exact List.mem_cons_self)) (by rfl) T.isinstance (by decide +kernel) (pa_cons (pv 0) (pa_cons (pe_glob (v := .ref cc.c11) rfl G.g11 rfl) pa_nil))) pa_nil)))))))
      (pss_cons (ps_set (i := 1) sc31.nd rfl (Or.inl rfl) (pe_op op_cat (pv 1) (pe_lst (pa_cons (pe_callB (call_isP kt.ex zc flds (by exact List.mem_cons_self)) (by rfl) T.isinstance (by decide +kernel) (pa_cons (pv 0) (pa_cons (pe_glob (v := .ref cc.c12) rfl G.g12 rfl) pa_nil))) (pa_cons (pe_callB (call_isP kt.ex zc flds (by exact List.mem_cons_self)) (by rfl) T.isinstance (by decide +kernel) (pa_cons (pv 0) (pa_cons (pe_glob (v := .ref cc.c13) rfl G.g13 rfl) pa_nil))) (pa_cons (pe_callB (call_isP kt.ex zc flds (by exact List.mem_cons_self)) (by rfl) T.isinstance (by decide +kernel) (pa_cons (pv 0) (pa_cons (pe_glob (v := .ref cc.c14) rfl G.g14 rfl) pa_nil))) (pa_cons (pe_callB (call_isP kt.ex zc flds (by exact List.mem_cons_self)) (by rfl) T.isinstance (by decide +kernel) (pa_cons (pv 0) (pa_cons (pe_glob (v := .ref cc.c15) rfl G.g15 rfl) pa_nil))) pa_nil)))))))
      (pss_cons (ps_set (i := 2) sc31.nd rfl (Or.inl rfl) (pe_lst (pa_cons pe_str (pa_cons pe_str (pa_cons pe_str (pa_cons pe_str (pa_cons pe_str (pa_cons pe_str (pa_cons pe_str (pa_cons pe_str (pa_cons pe_str (pa_cons pe_str pa_nil))))))))))))
      (pss_cons (ps_set (i := 2) sc31.nd rfl (Or.inl rfl) (pe_op op_cat (pv 2) (pe_lst (pa_cons pe_str (pa_cons pe_str (pa_cons pe_str (pa_cons pe_str (pa_cons pe_str (pa_cons pe_str pa_nil)))))))))
      (pss_cons (ps_if (PW.pt (pw_or (pt_not (pt_val (pe_callB (call_isP kt.ex zc flds (by exact List.mem_cons_self)) (by rfl) T.isinstance (by decide +kernel) (pa_cons (pv 0) (pa_cons (pe_bltn (v := .ty "ValueError") (by rfl) T.valueError (by decide +kernel) rfl) pa_nil)))))
          (pw_or1 (pt_cmpR op_ne (pe_bm PySem.F.plainAttrs_list PySem.F.slot_list_count PySem.F.type_list_count mt_countF (pv 1) (pa_cons pe_bl pa_nil)) pe_int (nomark _))))) (pss_one (ps_ret pe_str)) pss_nil)
      (pss_one (ps_ret (pe_ix ix_list (pv 2) (pe_bm PySem.F.plainAttrs_list PySem.F.slot_list_index PySem.F.type_list_index mt_index (pv 1) (pa_cons pe_bl pa_nil)) (fun _ _ => rfl)))))))))), ?_⟩
    refine ⟨_, rfl, _, _, _, rfl, (fun _ z => z), kt.k0, _, rfl, _, _, _, rfl, (fun _ z => z), kt.k1, _, rfl, _, _, _, rfl, (fun _ z => z), kt.k2, _, rfl, _, _, _, rfl, (fun _ z => z), kt.k3, (by show 4 ≤ sizeLine; decide), fun l1 n1 => ?_⟩
    refine ⟨_, rfl, _, rfl, _, _, _, rfl, (fun _ z => z), kt.k4, _, rfl, _, _, _, rfl, (fun _ z => z), kt.k5, _, rfl, _, _, _, rfl, (fun _ z => z), kt.k6, _, rfl, _, _, _, rfl, (fun _ z => z), kt.k7, (by show 4 ≤ sizeLine; decide), fun l2 n2 => ?_⟩
    have n12 : l1 ≠ l2 := ne_of_none upd_same n2
    refine ⟨l1, l2, _, _, rfl, rfl, (by rw [upd_ne n12]; exact upd_same), upd_same, (by show 4 + 4 ≤ sizeLine; decide), fun l3 n3 => ?_⟩
    refine ⟨_, rfl, _, rfl, _, _, _, rfl, (fun _ z => z), kt.k8, _, rfl, _, _, _, rfl, (fun _ z => z), kt.k9, _, rfl, _, _, _, rfl, (fun _ z => z), kt.k10, _, rfl, _, _, _, rfl, (fun _ z => z), kt.k11, (by show 4 ≤ sizeLine; decide), fun l4 n4 => ?_⟩
    have n34 : l3 ≠ l4 := ne_of_none upd_same n4
    refine ⟨l3, l4, _, _, rfl, rfl, (by rw [upd_ne n34]; exact upd_same), upd_same, (by show 8 + 4 ≤ sizeLine; decide), fun l5 n5 => ?_⟩
    refine ⟨_, rfl, _, rfl, _, _, _, rfl, (fun _ z => z), kt.k12, _, rfl, _, _, _, rfl, (fun _ z => z), kt.k13, _, rfl, _, _, _, rfl, (fun _ z => z), kt.k14, _, rfl, _, _, _, rfl, (fun _ z => z), kt.k15, (by show 4 ≤ sizeLine; decide), fun l6 n6 => ?_⟩
    have n56 : l5 ≠ l6 := ne_of_none upd_same n6
    refine ⟨l5, l6, _, _, rfl, rfl, (by rw [upd_ne n56]; exact upd_same), upd_same, (by show 12 + 4 ≤ sizeLine; decide), fun l7 n7 => ?_⟩
    refine ⟨(by show 10 ≤ sizeLine; decide), fun l8 n8 => ?_⟩
    have n78 : l7 ≠ l8 := ne_of_none upd_same n8
    refine ⟨_, rfl, (by show 6 ≤ sizeLine; decide), fun l9 n9 => ?_⟩
    have n79 : l7 ≠ l9 := ne_of_none (by rw [upd_ne n78]; exact upd_same) n9
    have n89 : l8 ≠ l9 := ne_of_none upd_same n9
    refine ⟨l8, l9, _, _, rfl, rfl, (by rw [upd_ne n89]; exact upd_same), upd_same, (by show 10 + 6 ≤ sizeLine; decide), fun l10 n10 => ?_⟩
    have n7x : l7 ≠ l10 := ne_of_none (by rw [upd_ne n79, upd_ne n78]; exact upd_same) n10
    -- the sixteen answers, the sixteen names
    have eb := fun o => same_new (o := o) n10 l7 _ (same_new n9 l7 _ (same_new n8 l7 _ upd_same))
    have sm := fun o => (((((((((same_new n1).trans (same_new n2)).trans (same_new n3)).trans (same_new n4)).trans (same_new n5)).trans (same_new n6)).trans (same_new n7)).trans (same_new n8)).trans (same_new n9)).trans (same_new (o := o) n10)
    refine ⟨_, rfl, _, _, _, rfl, (fun _ z => z), kt.ve, true, rfl, iteF ?_⟩
    refine ⟨_, rfl, .inl ⟨rfl, _, SqL.of (eb _)⟩, l7, (bits i).map V.bl, _, rfl, rfl, SqL.of (eb _), rfl, bits_flat i, rfl, _, rfl, ?_⟩
    rw [bits_count i i16]
    refine iteF ?_
    refine ⟨_, rfl, _, rfl, .inl ⟨rfl, _, SqL.of (eb _)⟩, l7, (bits i).map V.bl, _, i, .bl true, rfl, rfl, SqL.of (eb _), rfl, bits_flat i, (by rw [List.getElem?_map, bits_at i i16]; rfl), rfl, fun j z' hj hz => ?_, ?_⟩
    · rw [List.getElem?_map, bits_off i i16 j hj] at hz
      cases Option.some.inj hz
      rfl
    · exact ⟨l10, _, _, _, rfl, rfl, SqL.of (xs := refNames.map V.str) upd_same, atI_nat (by rw [List.getElem?_map, enm]; rfl), k _ (sm _)⟩
end
end Wa

/-! W4g: _law_told. -/
namespace Wa
open PySem PyProof.Rows L2
theorem wd0 : decide (V.str ("put" : Str) = V.str "put") = true := by decide +kernel
theorem wd1 : decide (V.str ("cut" : Str) = V.str "put") = false := by decide +kernel
theorem wd2 : decide (V.str ("cut" : Str) = V.str "cut") = true := by decide +kernel
theorem wd3 : decide (V.str ("hold" : Str) = V.str "put") = false := by decide +kernel
theorem wd4 : decide (V.str ("hold" : Str) = V.str "cut") = false := by decide +kernel
theorem wd5 : decide (V.str ("hold" : Str) = V.str "hold") = true := by decide +kernel
theorem wd6 : decide (V.str ("free" : Str) = V.str "put") = false := by decide +kernel
theorem wd7 : decide (V.str ("free" : Str) = V.str "cut") = false := by decide +kernel
theorem wd8 : decide (V.str ("free" : Str) = V.str "hold") = false := by decide +kernel
/-- the four refusals of Files, as the law tells them -/
structure Four (K : PySem.W.Frag) (mg : Str → Option Value) (a : Ads) (cc : C16) (cE : Addr) : Prop where
  gE : mg "CleanError" = some (.ref cE)
  kF : Kit K cc a.noFile 5
  kP : Kit K cc a.noPlace 9
  kA : Kit K cc a.heldAl 2
  kN : Kit K cc a.notHeld 14
  eF : PySem.W.exmOne K (.ref a.noFile) (.ref cE) = some true
  eP : PySem.W.exmOne K (.ref a.noPlace) (.ref cE) = some true
  eA : PySem.W.exmOne K (.ref a.heldAl) (.ref cE) = some true
  eN : PySem.W.exmOne K (.ref a.notHeld) (.ref cE) = some true
def spTold (a : Ads) : Sp := fun vs H Q _ => ∃ (f b h t : Addr) (d : Deed) (M : Mdl) (Kp : Kpt) (S : List Addr), vs = [.ref f, .ref t] ∧ FAt a.C H f b h ∧ MAt S H b M ∧ KAt S H h Kp ∧ b ∈ S ∧ h ∈ S ∧ b ≠ h ∧ Trk S H ∧ H t = some (.tup d.tup) ∧ Room2 M Kp ∧
  ∀ H', Out [b, h] H H' → MAt S H' b (d.mdl M) → KAt S H' h (d.kpt M Kp) → Q (.str (d.word M Kp)) H'
section
variable {P : Program} {w : World} {K : PySem.W.Frag} {mg : Str → Option Value} {base : Heap} {a : Ads} {f f1 f2 f3 f4 f5 f6 f7 : Addr} {fd fd1 fd2 fd3 fd4 fd5 fd6 fd7 : FuncData} {cc : C16} {cE : Addr}
theorem sc32 : FnScope ["_law_files", "_law_deed_here", "_law_word", "_law_name_here", "_law_place", "_law_birth_here", "_law_told_here", "_law_e"] ["_law_files", "_law_deed_here"] (defScope gTold) := ⟨rfl, rfl, rfl, by decide +kernel, rfl, by decide +kernel, by decide +kernel⟩
theorem ok_told (T : Txt K mg a) (G : G16 mg cc) (R : Four K mg a cc cE) (F : Fun K "_law_told" "_law_told" gTold f fd) (B : GF K mg "_law_refusal" gRef ["_law_e"] f1 fd1)
    (D1 : MF K a "put" "Files.put" mPut ["self", "file", "place", "birth"] f2 fd2) (D2 : MF K a "cut" "Files.cut" mCut ["self", "file", "many"] f3 fd3) (D3 : MF K a "hold" "Files.hold" mHold ["self", "name"] f4 fd4) (D4 : MF K a "free" "Files.free" mFree ["self", "name"] f5 fd5)
    (D5 : MF K a "births_of" "Files.births_of" mBof ["self", "file"] f6 fd6) (D6 : MF K a "want_held" "Files.want_held" mWant ["self", "name"] f7 fd7) : FnOk P w K mg base CX0 3 f fd ["_law_files", "_law_deed_here"] (spTold a) := by
  have GR : FnE P w K mg base 1 f1 fd1 ["_law_e"] (spRef K cc) := ok_ref T G B.F
  have G1 : FnOk P w K mg base (L2.CX P w) 1 f2 fd2 ["self", "file", "place", "birth"] (spPut a) := ok_put T D1.F
  have G2 : FnOk P w K mg base (L2.CX P w) 2 f3 fd3 ["self", "file", "many"] (spCut a) := ok_cut T D2.F D5
  have G3 : FnOk P w K mg base (L2.CX P w) 1 f4 fd4 ["self", "name"] (spHold a) := ok_hold T D3.F
  have G4 : FnOk P w K mg base (L2.CX P w) 2 f5 fd5 ["self", "name"] (spFree a) := ok_free T D4.F D6
  refine F.ok sc32 (fun vs H Q E h => ?_) (fun cdv A outer s H vs Q E hr hw => ?_)
  · obtain ⟨f, b, h, t, d, M, Kp, S, rfl, _⟩ := h
    rfl
  · obtain ⟨f, b, h, t, d, M, Kp, S, rfl, hF, hM, hK, bS, hS, nbh, trk, ht, rm, k⟩ := hw
    have hr1 : Room 1 _ := hr.mono (by decide)
    refine ⟨_, pss_cons (ps_asg (pv 1) (pg_tup rfl (pgs_cons (pg_name (i := 2) sc32.nd rfl (Or.inl rfl)) (pgs_cons (pg_name (i := 3) sc32.nd rfl (Or.inl rfl)) (pgs_cons (pg_name (i := 4) sc32.nd rfl (Or.inl rfl)) (pgs_cons (pg_name (i := 5) sc32.nd rfl (Or.inl rfl)) pgs_nil))))))
      (pss_cons (ps_set (i := 6) sc32.nd rfl (Or.inl rfl) pe_str)
      (pss_cons (ps_try_as (i := 7) rfl rfl sc32.nd rfl rfl ⟨rfl, by decide, .inl R.gE⟩ takes0
        (fun W pn xe tk _ => pss_one (ps_if (pt_cmpR op_eq (pv 2) pe_str (nomark _)) (pss_one (ps_expr (pe_methW (pv 0) T.cl D1.m G1 hr1 D1.b (fun σ => passAt tk σ) (pa_cons (pv 3) (pa_cons (pv 4) (pa_cons (pv 5) pa_nil))))))
          (pss_one (ps_if (pt_cmpR op_eq (pv 2) pe_str (nomark _)) (pss_one (ps_expr (pe_methW (pv 0) T.cl D2.m G2 hr D2.b (fun σ => passAt tk σ) (pa_cons (pv 3) (pa_cons (pv 4) pa_nil)))))
            (pss_one (ps_if (pt_cmpR op_eq (pv 2) pe_str (nomark _)) (pss_one (ps_expr (pe_methW (pv 0) T.cl D3.m G3 hr1 D3.b (fun σ => passAt tk σ) (pa_cons (pv 3) pa_nil))))
              (pss_one (ps_expr (pe_methW (pv 0) T.cl D4.m G4 hr D4.b (fun σ => passAt tk σ) (pa_cons (pv 3) pa_nil))))))))))
        (fun e oe cls d pn hz hf => pss_one (ps_set (i := 6) sc32.nd rfl (Or.inl rfl) (pe_callE GR ⟨hr1.dp, hr1.un⟩ rfl B.g B.F.kp B.b hz hf (pa_cons (pv 7) pa_nil)))))
      (pss_one (ps_ret (pv 6))))), ?_⟩
    obtain ⟨dx, hf⟩ := id hF
    have ml := rm.ml
    have kl := rm.kl
    -- what the suite does with the error at e: the name; behind it the return
    have suite : ∀ {D : Addr} {nm : Str} {i : Nat} {H1 H2 : Hp} {e : Addr}, Kit K cc D i → i < 16 → refNames[i]? = some nm → Same H H1 → d.word M Kp = nm → d.mdl M = M → d.kpt M Kp = Kp → Same H1 H2 → Q (.str nm) H2 := fun _ _ _ s1 ew em ek s2 => by
      have s12 := s1.trans s2
      have q := k _ (.of s12) (by rw [em]; exact hM.same s12) (by rw [ek]; exact hK.same s12)
      rw [ew] at q
      exact q
    cases d with
    | put x n z =>
      refine ⟨_, rfl, t, _, rfl, SqT.of ht, rfl, _, _, rfl, _, _, rfl, _, _, rfl, _, _, rfl, rfl, ?_⟩
      refine ⟨_, rfl, rfl, _, rfl, ?_⟩
      show if decide (V.str ("put" : Str) = V.str "put") = true then _ else _
      rw [wd0]
      refine iteT ?_
      refine ⟨_, rfl, f, dx, _, rfl, hf, ff_no _ _ (by decide +kernel) (by decide +kernel), _, rfl, _, rfl, _, rfl, f, b, h, M, S, x, n, z, rfl, hF, hM, bS, trk, by omega, by have := rm.rl x; omega, fun c H1 o1 m1 => ?_, fun c H1 s1 => ?_⟩
      · have nc : ¬ (rowOf M x).length < n := by omega
        have em : (Deed.put x n z).mdl M = tPut M x (putRow (rowOf M x) n z) := by
          show (putM M x n z).2 = _
          unfold putM
          rw [if_neg nc]
        have ew : (Deed.put x n z).word M Kp = "done" := by
          show (putM M x n z).1 = _
          unfold putM
          rw [if_neg nc]
        have q := k H1 (o1.mono fun y hy => by rw [List.mem_singleton.mp hy]; exact List.mem_cons_self) (by rw [em]; exact m1) (hK.out (o1.mono fun y hy => by rw [List.mem_singleton.mp hy]; exact bS) fun u e => o1 h u e (by simp [nbh.symm]))
        rw [ew] at q
        exact ⟨_, rfl, q⟩
      · have em : (Deed.put x n z).mdl M = M := by
          show (putM M x n z).2 = _
          unfold putM
          rw [if_pos c]
        have ew : (Deed.put x n z).word M Kp = "NoPlace" := by
          show (putM M x n z).1 = _
          unfold putM
          rw [if_pos c]
        refine ⟨true, R.eP, fun _ e _ => ?_, fun z => by cases z⟩
        exact ⟨_, rfl, _, _, 9, rfl, rfl, rfl, R.kP, by decide, rfl, fun H2 s2 => ⟨_, rfl, suite (e := e) R.kP (by decide) rfl s1 ew em rfl s2⟩⟩
    | cut x n =>
      refine ⟨_, rfl, t, _, rfl, SqT.of ht, rfl, _, _, rfl, _, _, rfl, _, _, rfl, _, _, rfl, rfl, ?_⟩
      refine ⟨_, rfl, rfl, _, rfl, ?_⟩
      show if decide (V.str ("cut" : Str) = V.str "put") = true then _ else _
      rw [wd1]
      refine iteF ⟨_, rfl, rfl, _, rfl, ?_⟩
      show if decide (V.str ("cut" : Str) = V.str "cut") = true then _ else _
      rw [wd2]
      refine iteT ?_
      refine ⟨_, rfl, f, dx, _, rfl, hf, ff_no _ _ (by decide +kernel) (by decide +kernel), _, rfl, _, rfl, f, b, h, M, S, x, n, rfl, hF, hM, bS, trk, by omega, fun H1 is0 c o1 m1 => ?_, fun e => ?_, fun is0 c => ?_⟩
      · have nc : ¬ (rowOf M x).length < n := by omega
        have em : (Deed.cut x n).mdl M = cutTo M x n := by
          show (cutM M x n).2 = _
          unfold cutM
          rw [if_pos is0, if_neg nc]
        have ew : (Deed.cut x n).word M Kp = "done" := by
          show (cutM M x n).1 = _
          unfold cutM
          rw [if_pos is0, if_neg nc]
        have q := k H1 (o1.mono fun y hy => by rw [List.mem_singleton.mp hy]; exact List.mem_cons_self) (by rw [em]; exact m1) (hK.out (o1.mono fun y hy => by rw [List.mem_singleton.mp hy]; exact bS) fun u e => o1 h u e (by simp [nbh.symm]))
        rw [ew] at q
        exact ⟨_, rfl, q⟩
      · have em : (Deed.cut x n).mdl M = M := by
          show (cutM M x n).2 = _
          unfold cutM
          rw [e]
          rfl
        have ew : (Deed.cut x n).word M Kp = "NoFile" := by
          show (cutM M x n).1 = _
          unfold cutM
          rw [e]
          rfl
        refine ⟨true, R.eF, fun _ e _ => ?_, fun z => by cases z⟩
        exact ⟨_, rfl, _, _, 5, rfl, rfl, rfl, R.kF, by decide, rfl, fun H2 s2 => ⟨_, rfl, suite (e := e) R.kF (by decide) rfl (Same.refl H) ew em rfl s2⟩⟩
      · have em : (Deed.cut x n).mdl M = M := by
          show (cutM M x n).2 = _
          unfold cutM
          rw [if_pos is0, if_pos c]
        have ew : (Deed.cut x n).word M Kp = "NoPlace" := by
          show (cutM M x n).1 = _
          unfold cutM
          rw [if_pos is0, if_pos c]
        refine ⟨true, R.eP, fun _ e _ => ?_, fun z => by cases z⟩
        exact ⟨_, rfl, _, _, 9, rfl, rfl, rfl, R.kP, by decide, rfl, fun H2 s2 => ⟨_, rfl, suite (e := e) R.kP (by decide) rfl (Same.refl H) ew em rfl s2⟩⟩
    | hold x =>
      refine ⟨_, rfl, t, _, rfl, SqT.of ht, rfl, _, _, rfl, _, _, rfl, _, _, rfl, _, _, rfl, rfl, ?_⟩
      refine ⟨_, rfl, rfl, _, rfl, ?_⟩
      show if decide (V.str ("hold" : Str) = V.str "put") = true then _ else _
      rw [wd3]
      refine iteF ⟨_, rfl, rfl, _, rfl, ?_⟩
      show if decide (V.str ("hold" : Str) = V.str "cut") = true then _ else _
      rw [wd4]
      refine iteF ⟨_, rfl, rfl, _, rfl, ?_⟩
      show if decide (V.str ("hold" : Str) = V.str "hold") = true then _ else _
      rw [wd5]
      refine iteT ?_
      refine ⟨_, rfl, f, dx, _, rfl, hf, ff_no _ _ (by decide +kernel) (by decide +kernel), _, rfl, f, b, h, M, Kp, S, x, rfl, hF, hM, hK, hS, trk, by omega, fun e H1 o1 k1 => ?_, fun is0 => ?_⟩
      · have ek : (Deed.hold x).kpt M Kp = tPut Kp x M := by
          show (holdM M Kp x).2 = _
          unfold holdM
          rw [e]
          rfl
        have ew : (Deed.hold x).word M Kp = "done" := by
          show (holdM M Kp x).1 = _
          unfold holdM
          rw [e]
          rfl
        have q := k H1 (o1.mono fun y hy => by rw [List.mem_singleton.mp hy]; exact List.mem_cons_of_mem _ List.mem_cons_self) (hM.out (o1.mono fun y hy => by rw [List.mem_singleton.mp hy]; exact hS) fun u e => o1 b u e (by simp [nbh])) (by rw [ek]; exact k1)
        rw [ew] at q
        exact ⟨_, rfl, q⟩
      · have ek : (Deed.hold x).kpt M Kp = Kp := by
          show (holdM M Kp x).2 = _
          unfold holdM
          rw [if_pos is0]
        have ew : (Deed.hold x).word M Kp = "HeldAlready" := by
          show (holdM M Kp x).1 = _
          unfold holdM
          rw [if_pos is0]
        refine ⟨true, R.eA, fun _ e _ => ?_, fun z => by cases z⟩
        exact ⟨_, rfl, _, _, 2, rfl, rfl, rfl, R.kA, by decide, rfl, fun H2 s2 => ⟨_, rfl, suite (e := e) R.kA (by decide) rfl (Same.refl H) ew rfl ek s2⟩⟩
    | free x =>
      refine ⟨_, rfl, t, _, rfl, SqT.of ht, rfl, _, _, rfl, _, _, rfl, _, _, rfl, _, _, rfl, rfl, ?_⟩
      refine ⟨_, rfl, rfl, _, rfl, ?_⟩
      show if decide (V.str ("free" : Str) = V.str "put") = true then _ else _
      rw [wd6]
      refine iteF ⟨_, rfl, rfl, _, rfl, ?_⟩
      show if decide (V.str ("free" : Str) = V.str "cut") = true then _ else _
      rw [wd7]
      refine iteF ⟨_, rfl, rfl, _, rfl, ?_⟩
      show if decide (V.str ("free" : Str) = V.str "hold") = true then _ else _
      rw [wd8]
      refine iteF ?_
      refine ⟨_, rfl, f, dx, _, rfl, hf, ff_no _ _ (by decide +kernel) (by decide +kernel), _, rfl, f, b, h, Kp, S, x, rfl, hF, hK, hS, fun is0 H1 o1 k1 => ?_, fun e => ?_⟩
      · have ek : (Deed.free x).kpt M Kp = tDrop Kp x := by
          show (freeM Kp x).2 = _
          unfold freeM
          rw [if_pos is0]
        have ew : (Deed.free x).word M Kp = "done" := by
          show (freeM Kp x).1 = _
          unfold freeM
          rw [if_pos is0]
        have q := k H1 (o1.mono fun y hy => by rw [List.mem_singleton.mp hy]; exact List.mem_cons_of_mem _ List.mem_cons_self) (hM.out (o1.mono fun y hy => by rw [List.mem_singleton.mp hy]; exact hS) fun u e => o1 b u e (by simp [nbh])) (by rw [ek]; exact k1)
        rw [ew] at q
        exact ⟨_, rfl, q⟩
      · have ek : (Deed.free x).kpt M Kp = Kp := by
          show (freeM Kp x).2 = _
          unfold freeM
          rw [e]
          rfl
        have ew : (Deed.free x).word M Kp = "NotHeld" := by
          show (freeM Kp x).1 = _
          unfold freeM
          rw [e]
          rfl
        refine ⟨true, R.eN, fun _ e _ => ?_, fun z => by cases z⟩
        exact ⟨_, rfl, _, _, 14, rfl, rfl, rfl, R.kN, by decide, rfl, fun H2 s2 => ⟨_, rfl, suite (e := e) R.kN (by decide) rfl (Same.refl H) ew rfl ek s2⟩⟩
end
end Wa

/-! W4h: the law's looks at one of the files. -/
namespace Wa
open PySem PyProof.Rows L2
theorem LAt.lock {S : List Addr} {H : Hp} {v : V} {r : Row} {d : Addr} {kvs : List (Key × V)} {u : HO} (h : LAt S H v r) (e : H d = some (.dK kvs)) : LAt S (upd H d u) v r := h.free e (fun _ z => by cases z)
theorem MAt.lock {S : List Addr} {H : Hp} {b d : Addr} {M : Mdl} {kvs : List (Key × V)} {u : HO} (h : MAt S H b M) (n : b ≠ d) (e : H d = some (.dK kvs)) : MAt S (upd H d u) b M := by
  obtain ⟨ks, q, hk⟩ := h
  exact ⟨ks, by rw [upd_ne n]; exact q, hk.imp fun v r hv => hv.lock e⟩
theorem flat_ints : ∀ ns : List Int, (ns.map V.int).all flatV = true
  | [] => rfl
  | n :: ns => by
    rw [List.map_cons, List.all_cons, flat_ints ns]
    rfl
/-- a locked dict is read -/
theorem DGet.f {H : Hp} {d : Addr} {od : Obj} {kvs : List (Key × V)} {k : Key} (e : H d = some (.frz od (.dK kvs))) : DGet H d (kV k) (valV kvs k) := .inl ⟨kvs, k, .inr ⟨od, e⟩, rfl, rfl⟩
def spIsm (a : Ads) : Sp := fun vs H Q _ => ∃ (f b h m : Addr) (M : Mdl) (S : List Addr) (n : Nat) (B : List Int), vs = [.ref f, .ref m] ∧ FAt a.C H f b h ∧ MAt S H b M ∧ MAt S H m M ∧ b ≠ m ∧ Good n B M ∧ n < 64 ∧ ∀ H', Same H H' → Q (.bl true) H'
section
variable {P : Program} {w : World} {K : PySem.W.Frag} {mg : Str → Option Value} {base : Heap} {a : Ads} {f f1 f2 f3 f4 f5 f6 f7 : Addr} {fd fd1 fd2 fd3 fd4 fd5 fd6 fd7 : FuncData}
theorem sc33 : FnScope ["_law_files", "_law_model", "_law_file", "_law_row", "_law_place"] ["_law_files", "_law_model"] (defScope gIsm) := ⟨rfl, rfl, rfl, by decide +kernel, rfl, by decide +kernel, by decide +kernel⟩
theorem ok_ism (T : Txt K mg a) (F : Fun K "_law_is_model" "_law_is_model" gIsm f fd) (D1 : MF K a "names" "Files.names" mNames ["self"] f1 fd1) (D2 : MF K a "many" "Files.many" mMany ["self", "file"] f2 fd2) (D3 : MF K a "birth" "Files.birth" mBirth ["self", "file", "place"] f3 fd3)
    (D4 : MF K a "births_of" "Files.births_of" mBof ["self", "file"] f4 fd4) : FnOk P w K mg base CX0 3 f fd ["_law_files", "_law_model"] (spIsm a) := by
  have G1 : FnOk P w K mg base CX0 1 f1 fd1 ["self"] (spNames a) := ok_names T D1.F
  have G2 : FnOk P w K mg base CX0 1 f2 fd2 ["self", "file"] (spMany a) := ok_many T D2.F
  have G3 : FnOk P w K mg base CX0 2 f3 fd3 ["self", "file", "place"] (spBirth a) := ok_birth T D3.F D4
  refine F.ok sc33 (fun vs H Q E h => ?_) (fun cdv A outer s H vs Q E hr hw => ?_)
  · obtain ⟨f, b, h, m, M, S, n, B, rfl, _⟩ := h
    rfl
  · obtain ⟨f, b, h, m, M, S, n, B, rfl, hF, hM, hM2, nbm, gd, n64, k⟩ := hw
    have hr1 : Room 1 _ := hr.mono (by decide)
    have hu := hu_of hr
    refine ⟨_, pss_cons (ps_if (pt_cmpR (op_neL hu) (pe_meth0 (pv 0) T.cl D1.m G1 hr1 D1.b .nil pass0) (pe_callB (call_sortedD rfl) (by rfl) T.sorted (by decide +kernel) (pa_cons (pv 1) pa_nil)) (nomark _)) (pss_one (ps_ret pe_bl)) pss_nil)
      (pss_cons (ps_lock (ps_for PassesOwn.never rfl (pi_keys (pv 1)) (pg_name (i := 2) sc33.nd rfl (Or.inr rfl))
        (pss_cons (ps_set (i := 3) sc33.nd rfl (Or.inl rfl) (pe_dget hu (pv 1) (pv 2) (fun _ _ => rfl)))
        (pss_one (ps_if (PW.pt (pw_or (pt_cmpR op_ne (pe_meth (pv 0) T.cl D2.m G2 hr1 D2.b .nil pass0 (pa_cons (pv 2) pa_nil)) (pe_callB call_len_seq (by rfl) T.len PySem.boot_len (pa_cons (pv 3) pa_nil)) (nomark _))
          (pw_or1 (pt_cmpR (op_neL hu) (pe_lc (own := [("_law_place", 4)]) (g := gName 4) (tt := tYes) rfl sc33.nd (pi_range1 (by rfl) T.range (pa_cons (pe_callB call_len_seq (by rfl) T.len PySem.boot_len (pa_cons (pv 3) pa_nil)) pa_nil))
            (blkOk_by (N := ["_law_files", "_law_model", "_law_file", "_law_row", "_law_place"]) (sc := defScope gIsm) (by decide +kernel)) (fun _ _ _ _ _ => pg_name (i := 4) sc33.nd rfl (Or.inl rfl)) (fun _ _ _ _ _ => pts_nil)
            (fun _ _ _ _ _ => pe_meth (pv 0) T.cl D3.m G3 hr D3.b .nil pass0 (pa_cons (pv 2) (pa_cons (pv 4) pa_nil)))) (pv 3) (nomark _))))) (pss_one (ps_ret pe_bl)) pss_nil)))))
      (pss_one (ps_ret pe_bl))), ?_⟩
    obtain ⟨dx, hf⟩ := id hF
    obtain ⟨kvs, hm, hk⟩ := id hM2
    have ml := gd.len
    -- files.names() != sorted(model)
    refine ⟨_, rfl, f, dx, _, rfl, hf, ff_no _ _ (by decide +kernel) (by decide +kernel), f, b, h, M, S, rfl, hF, hM, by omega, fun ys p1 per1 srt1 n1 => ?_⟩
    have s1 : Same H (upd H p1 (.lst (ys.map V.str))) := same_new n1
    refine ⟨_, rfl, m, kvs, keysOf M, rfl, .inl (s1 _ _ hm), hk.keys, (by unfold keysOf; rw [List.length_map]; omega), fun zs p2 per2 srt2 n2 => ?_⟩
    have e12 : zs = ys := sorted_one per2 per1 srt2 srt1
    subst e12
    have s2 := s1.trans (same_new (o := .lst (zs.map V.str)) n2)
    have n12 : p1 ≠ p2 := ne_of_none upd_same n2
    refine ⟨p1, p2, zs.map V.str, rfl, rfl, SqL.of (by rw [upd_ne n12]; exact upd_same), SqL.of upd_same, flat_strs zs, _, rfl, iteF ?_⟩
    generalize upd (upd H p1 (.lst (zs.map V.str))) p2 (.lst (zs.map V.str)) = H1 at s2
    -- for file in model
    have hm1 := s2 _ _ hm
    have hM1 := hM.same s2
    have hk1 : KvR (LAt S H1) kvs M := hk.imp fun v r hv => hv.out (.of s2)
    have nfm : f ≠ m := ne_of hf hm (by intro q; cases q)
    refine ⟨m, .dK kvs, hm1, trivial, fun od => ?_⟩
    have hF2 : FAt a.C (upd H1 m (.frz od (.dK kvs))) f b h := ⟨dx, by rw [upd_ne nfm]; exact s2 _ _ hf⟩
    have hM2' : MAt S (upd H1 m (.frz od (.dK kvs))) b M := hM1.lock nbm hm1
    have hk2 : KvR (LAt S (upd H1 m (.frz od (.dK kvs)))) kvs M := hk1.imp fun v r hv => hv.lock hm1
    refine ⟨_, rfl, m, od, rfl, .inl ⟨kvs, upd_same, ?_⟩⟩
    refine for_it walk_keys (fun i σ H2 => ∃ (v2 v3 : Option V), σ = [some (.ref f), some (.ref m), v2, v3, none] ∧ Same (upd H1 m (.frz od (.dK kvs))) H2) ⟨none, none, rfl, Same.refl _⟩ (fun i σ H2 _ ⟨_, _, _, s⟩ => s _ _ upd_same) ?_ ?_
    · rintro i y σ H2 H3 hi ⟨v2, v3, rfl, s3⟩ ⟨rfl, ky, vy, eky, rfl⟩
      obtain ⟨⟨x, r⟩, er, ek, _⟩ := hk2.at eky
      dsimp only at ek
      subst ek
      have ex : tGet M x = some r := tGet_of_mem gd.nd (List.mem_of_getElem? er)
      have erow : rowOf M x = r := row_le (S := S) (H := H) (b := b) ex
      obtain ⟨v', ev, l, rfl, nl, hl⟩ := (hk2.imp fun v r hv => hv.out (Out.of s3)).get_some ex
      have hF3 := hF2.same s3
      obtain ⟨dx3, hf3⟩ := id hF3
      have hM3 := hM2'.same s3
      have rl : r.length ≤ n := Nat.le_trans (row_tot (List.mem_of_getElem? er)) gd.tot
      -- row = model[file]
      refine ⟨_, rfl, _, rfl, m, .ref l, rfl, ?_, ?_⟩
      · have q : DGet H3 m (kV (Sum.inr x)) (valV kvs (Sum.inr x)) := DGet.f (s3 _ _ upd_same)
        rw [ev] at q
        exact q
      -- files.many(file) != len(row)
      refine ⟨_, rfl, f, dx3, _, rfl, hf3, ff_no _ _ (by decide +kernel) (by decide +kernel), _, rfl, f, b, h, M, S, x, rfl, hF3, hM3, fun H4 s4 => ?_⟩
      refine ⟨_, rfl, l, _, rfl, .inl (SqL.of (s4 _ _ hl)), rfl, _, rfl, ?_⟩
      rw [List.length_map, erow, decide_eq_true rfl]
      refine iteF ?_
      -- the births one by one
      refine ⟨_, rfl, l, _, rfl, .inl (SqL.of (s4 _ _ hl)), _, rfl, (by omega), (by rw [List.length_map]; omega), fun D nD => ?_⟩
      have hF4 := hF3.same s4
      have hM4 := hM3.same s4
      have nD0 : H4 D = none := nD
      refine lc_it walk_range (fun j H5 => Same H4 H5 ∧ H5 D = some (.lst ((r.take j).map V.int))) ⟨same_new nD, upd_same⟩ (fun _ _ _ _ => trivial) ?_ ?_
      · rintro j z H5 H6 hj ⟨s5, e5⟩ ⟨rfl, rfl⟩
        have hj' : j < r.length := by
          rw [List.length_map] at hj
          omega
        have hF5 := hF4.same s5
        obtain ⟨dx5, hf5⟩ := id hF5
        refine ⟨rfl, ?_⟩
        refine ⟨_, rfl, f, dx5, _, rfl, hf5, ff_no _ _ (by decide +kernel) (by decide +kernel), _, rfl, _, rfl, f, b, h, M, S, x, j, r, r[j], ?_, hF5, hM4.same s5, ex, List.getElem?_eq_getElem hj', _, e5, ?_, ?_, ?_⟩
        · show [V.ref f, V.str x, V.int (0 + (j : Nat))] = _
          rw [Int.zero_add]
        · rw [List.length_map, List.length_take]
          exact small1000 (by omega)
        · exact fun y o e => by
            rw [upd_ne (ne_of_none e nD0)]
            exact s5 y o e
        · rw [upd_same, take_more (List.getElem?_eq_getElem hj'), List.map_append]
          rfl
      · rintro H5 ⟨s5, e5⟩
        have e6 : r.take ((r.map V.int).length : Int).toNat = r := by
          rw [List.length_map]
          exact List.take_of_length_le (by omega)
        rw [e6] at e5
        refine ⟨_, rfl, D, l, r.map V.int, rfl, rfl, SqL.of e5, SqL.of (s5 _ _ (s4 _ _ hl)), flat_ints r, _, rfl, iteF ?_⟩
        exact ⟨_, _, rfl, (s3.trans s4).trans s5⟩
    · rintro σ H2 ⟨v2, v3, rfl, s3⟩
      exact ⟨s3 _ _ upd_same, k _ (s2.trans (lock_same hm1 s3))⟩
end
end Wa

/-! W4i: what lives, by the law; what is held. -/
namespace Wa
open PySem PyProof.Rows L2
theorem DAt.lock {S : List Addr} {H : Hp} {v : V} {M : Mdl} {d : Addr} {kvs : List (Key × V)} {u : HO} (h : DAt S H v M) (dS : d ∈ S) (e : H d = some (.dK kvs)) : DAt S (upd H d u) v M := by
  obtain ⟨d', e1, e2, e3⟩ := h
  exact ⟨d', e1, e2, e3.lock (fun z => e2 (by rw [z]; exact dS)) e⟩
def spGliv : Sp := fun vs H Q _ => ∃ (m kk : Addr) (M : Mdl) (Kp : Kpt) (S : List Addr) (B : List Int), vs = [.ref m, .ref kk] ∧ MAt S H m M ∧ KAt S H kk Kp ∧ Kp.length < 1000 ∧ (∀ k ∈ allB M Kp, k ∈ B) ∧ B.length < 64 ∧ (allB M Kp).length ≤ 3000 ∧
  ∀ (ns : List Int) (p : Addr) (H' : Hp), ns.Pairwise (· < ·) → (∀ k, k ∈ ns ↔ k ∈ allB M Kp) → H p = none → Same H H' → H' p = some (.lst (ns.map V.int)) → Q (.ref p) H'
def spAre (a : Ads) : Sp := fun vs H Q _ => ∃ (f b h kk : Addr) (Kp : Kpt) (S : List Addr) (n : Nat) (B : List Int), vs = [.ref f, .ref kk] ∧ FAt a.C H f b h ∧ KAt S H h Kp ∧ KAt S H kk Kp ∧ h ≠ kk ∧ kk ∈ S ∧ Trk S H ∧ GoodK n B Kp ∧ n < 64 ∧ ∀ H', Same H H' → Q (.bl true) H'
section
variable {P : Program} {w : World} {K : PySem.W.Frag} {mg : Str → Option Value} {base : Heap} {a : Ads} {f f1 f2 f3 f4 f5 f6 f7 f8 f9 : Addr} {fd fd1 fd2 fd3 fd4 fd5 fd6 fd7 fd8 fd9 : FuncData}
theorem sc34 : FnScope ["_law_model", "_law_kept", "_law_found", "_law_files", "_law_row"] ["_law_model", "_law_kept"] (defScope gLiv) := ⟨rfl, rfl, rfl, by decide +kernel, rfl, by decide +kernel, by decide +kernel⟩
theorem ok_gliv (T : Txt K mg a) (F : Fun K "_law_living" "_law_living" gLiv f fd) : FnOk P w K mg base CX0 1 f fd ["_law_model", "_law_kept"] spGliv := by
  refine F.ok sc34 (fun vs H Q E h => ?_) (fun cdv A outer s H vs Q E hr hw => ?_)
  · obtain ⟨m, kk, M, Kp, S, B, rfl, _⟩ := h
    rfl
  · obtain ⟨m, kk, M, Kp, S, B, rfl, hM, ⟨hvs, hh, hd⟩, kl, sub, bl, big, k⟩ := hw
    refine ⟨_, pss_cons (ps_set (i := 2) sc34.nd rfl (Or.inl rfl) (pe_lst pa_nil))
      (pss_cons (ps_for PassesOwn.never rfl (pi_list (pe_op op_cat (pe_lst (pa_cons (pv 0) pa_nil)) (pe_callTy (call_listVw rfl) (by rfl) T.list (by decide +kernel) (pa_cons (pe_vw (pv 1)) pa_nil)))) (pg_name (i := 3) sc34.nd rfl (Or.inl rfl))
        (pss_one (ps_lock (ps_for PassesOwn.never rfl (pi_values (pv 3)) (pg_name (i := 4) sc34.nd rfl (Or.inl rfl))
          (pss_one (ps_set (i := 2) sc34.nd rfl (Or.inl rfl) (pe_op op_cat (pv 2) (pv 4))))))))
      (pss_one (ps_ret (pe_callB (cr_sortedSet rfl) (by rfl) T.sorted (by decide +kernel) (pa_cons (pe_callTy (call_setL rfl) (by rfl) T.set (by decide +kernel) (pa_cons (pv 2) pa_nil)) pa_nil))))), ?_⟩
    -- found = []
    refine ⟨(by show 0 ≤ sizeLine; decide), fun l0 n0 => ?_⟩
    have s1 : Same H (upd H l0 (.lst [])) := same_new n0
    refine ⟨_, rfl, (by show 1 ≤ sizeLine; decide), fun l1 n1 => ?_⟩
    have s2 := s1.trans (same_new (o := .lst [.ref m]) n1)
    refine ⟨_, rfl, kk, hvs, rfl, .inl (s2 _ _ hh), fun p1 m1 => ?_⟩
    have s3 := s2.trans (same_new (o := VwO p1 kk) m1)
    refine ⟨p1, kk, hvs, rfl, upd_same, .inl (s3 _ _ hh), fun l2 n2 => ?_⟩
    have s4 := s3.trans (same_new (o := .lst (hvs.map (·.2))) n2)
    have e1 : upd (upd (upd (upd H l0 (.lst [])) l1 (.lst [.ref m])) p1 (VwO p1 kk)) l2 (.lst (hvs.map (·.2))) l1 = some (.lst [.ref m]) := same_new n2 _ _ (same_new m1 _ _ upd_same)
    refine ⟨l1, l2, _, _, rfl, rfl, e1, upd_same, ?_, fun l3 n3 => ?_⟩
    · refine len_small ?_
      rw [List.length_map, hd.len]
      show 1 + Kp.length ≤ 3000
      omega
    have s5 := s4.trans (same_new (o := .lst ([V.ref m] ++ hvs.map (·.2))) n3)
    have e0 : upd (upd (upd (upd (upd H l0 (.lst [])) l1 (.lst [.ref m])) p1 (VwO p1 kk)) l2 (.lst (hvs.map (·.2)))) l3 (.lst ([V.ref m] ++ hvs.map (·.2))) l0 = some (.lst []) := same_new n3 _ _ (same_new n2 _ _ (same_new m1 _ _ (same_new n1 _ _ upd_same)))
    have e3 : upd (upd (upd (upd (upd H l0 (.lst [])) l1 (.lst [.ref m])) p1 (VwO p1 kk)) l2 (.lst (hvs.map (·.2)))) l3 (.lst ([V.ref m] ++ hvs.map (·.2))) l3 = some (.lst ([V.ref m] ++ hvs.map (·.2))) := upd_same
    generalize upd (upd (upd (upd (upd H l0 (.lst [])) l1 (.lst [.ref m])) p1 (VwO p1 kk)) l2 (.lst (hvs.map (·.2)))) l3 (.lst ([V.ref m] ++ hvs.map (·.2))) = H5 at s5 e0 e3
    have its : Paired (ItM S H) ([V.ref m] ++ hvs.map (·.2)) (M :: Kp.map (·.2)) := .cons ⟨m, rfl, hM⟩ (Paired.mapP (snds hd) fun v m ⟨dd, e, _, q⟩ => ⟨dd, e, q⟩)
    have pre : ∀ (i : Nat) (m' : Mdl) (j : Nat), (M :: Kp.map (·.2))[i]? = some m' → (((M :: Kp.map (·.2)).take i).flatMap births ++ births (m'.take j)).length ≤ (allB M Kp).length := fun i m' j e => by
      have q1 : ((M :: Kp.map (·.2)).take (i + 1)).flatMap births = _ := flat_more births e
      have q2 : (((M :: Kp.map (·.2)).take (i + 1)).flatMap births).length ≤ (allB M Kp).length := by
        rw [← allB_eq]
        have e4 := congrArg (fun l => (l.flatMap births).length) (List.take_append_drop (i + 1) (M :: Kp.map (·.2)))
        simp only [List.flatMap_append, List.length_append] at e4
        omega
      have q3 : (births (m'.take j)).length ≤ (births m').length := by
        have e4 := congrArg (fun l => (births l).length) (List.take_append_drop j m')
        simp only [births_append, List.length_append] at e4
        omega
      rw [q1, List.length_append] at q2
      rw [List.length_append]
      omega
    refine ⟨l3, rfl, ⟨_, SqL.of e3⟩, for_list (K := K) (a := l3) (xs := [V.ref m] ++ hvs.map (·.2)) (fun i σ H2 => ∃ (v3 v4 : Option V) (l : Addr), σ = [some (.ref m), some (.ref kk), some (.ref l), v3, v4] ∧ Same H5 H2 ∧ H2 l = some (.lst ((((M :: Kp.map (·.2)).take i).flatMap births).map V.int)))
      ⟨none, none, l0, rfl, Same.refl _, e0⟩ (fun i σ H2 _ ⟨_, _, _, _, o, _⟩ => SqL.of (o _ _ e3)) ?_ ?_⟩
    · rintro i y σ H2 hi ⟨v3, v4, l, rfl, o2, hl⟩
      obtain ⟨m', em, dm, rfl, hm⟩ := paired_at its hi
      obtain ⟨kvs, hk, rows⟩ := hm.same (s5.trans o2)
      refine ⟨dm, .dK kvs, hk, trivial, fun od => ?_⟩
      refine ⟨_, rfl, dm, od, kvs, rfl, upd_same, ?_⟩
      have nld : l ≠ dm := ne_of hl hk (by intro z; cases z)
      refine for_it walk_values (fun j σ H3 => ∃ (v4 : Option V) (l : Addr), σ = [some (.ref m), some (.ref kk), some (.ref l), some (.ref dm), v4] ∧ Same (upd H2 dm (.frz od (.dK kvs))) H3 ∧ H3 l = some (.lst ((((M :: Kp.map (·.2)).take i).flatMap births ++ births (m'.take j)).map V.int)))
        ⟨v4, l, rfl, Same.refl _, ?_⟩ (fun j σ H3 _ ⟨_, _, _, o3, _⟩ => o3 dm _ upd_same) ?_ ?_
      · have z : births (m'.take 0) = [] := rfl
        rw [z, List.append_nil, upd_ne nld]
        exact hl
      · rintro j y σ H3 H4 hj ⟨w4, l', rfl, o3, hl'⟩ ⟨rfl, ky, eky⟩
        obtain ⟨⟨nm, r⟩, er, _, hv⟩ := rows.at eky
        dsimp only at hv
        obtain ⟨lr, rfl, _, hlr⟩ := (hv.lock hk).out (Out.of o3)
        have sz := pre i m' (j + 1) em
        have eb : births (m'.take (j + 1)) = births (m'.take j) ++ r := by
          rw [take_more er, births_append]
          congr 1
          exact List.append_nil _
        rw [eb, ← List.append_assoc, List.length_append] at sz
        refine ⟨_, rfl, _, rfl, l', lr, _, _, rfl, rfl, hl', hlr, len_small (by rw [List.length_map, List.length_map]; omega), fun l5 n5 => ?_⟩
        refine ⟨_, l5, rfl, o3.trans (same_new n5), ?_⟩
        rw [upd_same, eb, ← List.append_assoc]
        simp only [List.map_append]
      · rintro σ H3 ⟨w4, l', rfl, o3, hl'⟩
        have hd3 := o3 dm _ upd_same
        refine ⟨hd3, ?_⟩
        rw [rows.len, List.take_of_length_le (Nat.le_refl _)] at hl'
        refine ⟨_, _, l', rfl, o2.trans (lock_same hk o3), ?_⟩
        rw [flat_more births em, upd_ne (ne_of hl' hd3 (by intro z; cases z))]
        exact hl'
    · rintro σ H2 ⟨v3, v4, l, rfl, o2, hl⟩
      have ll : ([V.ref m] ++ hvs.map (·.2)).length = (M :: Kp.map (·.2)).length := Paired.length its
      rw [ll, List.take_of_length_le (Nat.le_refl _), allB_eq] at hl
      refine ⟨_, rfl, l, allB M Kp, rfl, SqL.of hl, Nat.lt_of_le_of_lt (Nat.succ_le_succ big) (by decide), fun p c ks np nd lk mk => ?_⟩
      have small : ks.length ≤ B.length := nodup_sub_len nd fun c hc => sub c ((mk c).mp hc)
      refine ⟨p, _, c, rfl, upd_same, by omega, fun ns q srt mem _ nq => ?_⟩
      have s6 := ((s5.trans o2).trans (same_new (o := SetO w p (fun j => decide (j ∈ allB M Kp)) c) np))
      refine k ns q _ srt (fun c => by rw [mem]; exact decide_eq_true_iff) (s6.free nq) (s6.trans (same_new nq)) upd_same
theorem sc35 : FnScope ["_law_files", "_law_kept", "_law_name_here"] ["_law_files", "_law_kept"] (defScope gAre) := ⟨rfl, rfl, rfl, by decide +kernel, rfl, by decide +kernel, by decide +kernel⟩
theorem ok_are (T : Txt K mg a) (F : Fun K "_law_are_held" "_law_are_held" gAre f fd) (B1 : GF K mg "_law_is_model" gIsm ["_law_files", "_law_model"] f1 fd1) (D1 : MF K a "names" "Files.names" mNames ["self"] f2 fd2) (D2 : MF K a "many" "Files.many" mMany ["self", "file"] f3 fd3)
    (D3 : MF K a "birth" "Files.birth" mBirth ["self", "file", "place"] f4 fd4) (D4 : MF K a "births_of" "Files.births_of" mBof ["self", "file"] f5 fd5) (D5 : MF K a "held" "Files.held" mHeld ["self"] f6 fd6) (D6 : MF K a "of_held" "Files.of_held" mOfh ["self", "name"] f7 fd7)
    (D7 : MF K a "want_held" "Files.want_held" mWant ["self", "name"] f8 fd8) (D8 : MF K a "put" "Files.put" mPut ["self", "file", "place", "birth"] f9 fd9) {fI : Addr} {fdI : FuncData} (MI : Mk K a.C fI) (FI : Fun K "__init__" "Files.__init__" mInit fI fdI) (bI : Binds K fdI ["self"] []) :
    FnOk P w K mg base CX0 4 f fd ["_law_files", "_law_kept"] (spAre a) := by
  have GI : FnOk P w K mg base CX0 3 f1 fd1 ["_law_files", "_law_model"] (spIsm a) := ok_ism T B1.F D1 D2 D3 D4
  have GH : FnOk P w K mg base CX0 1 f6 fd6 ["self"] (spHeld a) := ok_held T D5.F
  have GO : FnOk P w K mg base CX0 3 f7 fd7 ["self", "name"] (spOfh a) := ok_ofh T D6.F MI FI bI D7 D8
  refine F.ok sc35 (fun vs H Q E h => ?_) (fun cdv A outer s H vs Q E hr hw => ?_)
  · obtain ⟨f, b, h, kk, Kp, S, n, B, rfl, _⟩ := h
    rfl
  · obtain ⟨f, b, h, kk, Kp, S, n, B, rfl, hF, hK, hK2, nhk, kS, trk, gd, n64, k⟩ := hw
    have hr1 : Room 1 _ := hr.mono (by decide)
    have hu := hu_of hr
    refine ⟨_, pss_cons (ps_if (pt_cmpR (op_neL hu) (pe_meth0 (pv 0) T.cl D5.m GH hr1 D5.b .nil pass0) (pe_callB (call_sortedD rfl) (by rfl) T.sorted (by decide +kernel) (pa_cons (pv 1) pa_nil)) (nomark _)) (pss_one (ps_ret pe_bl)) pss_nil)
      (pss_one (ps_ret (pe_callB (cr_all rfl) (by rfl) T.all (by decide +kernel) (pa_cons (pe_lock (pe_lc (own := [("_law_name_here", 2)]) (g := gName 2) (tt := tYes) rfl sc35.nd (pi_keys (pv 1))
        (blkOk_by (N := ["_law_files", "_law_kept", "_law_name_here"]) (sc := defScope gAre) (by decide +kernel)) (fun _ _ _ _ _ => pg_name (i := 2) sc35.nd rfl (Or.inl rfl)) (fun _ _ _ _ _ => pts_nil)
        (fun _ _ _ _ _ => pe_call GI hr rfl B1.g B1.F.kp B1.b .nil pass0 (pa_cons (pe_meth (pv 0) T.cl D6.m GO hr D6.b .nil pass0 (pa_cons (pv 2) pa_nil)) (pa_cons (pe_dget hu (pv 1) (pv 2) (fun _ _ => rfl)) pa_nil))))) pa_nil)))), ?_⟩
    obtain ⟨dx, hf⟩ := id hF
    obtain ⟨kvs, hk, hd⟩ := id hK2
    have kl := gd.len
    -- files.held() != sorted(kept)
    refine ⟨_, rfl, f, dx, _, rfl, hf, ff_no _ _ (by decide +kernel) (by decide +kernel), f, b, h, Kp, S, rfl, hF, hK, by omega, fun ys p1 per1 srt1 n1 => ?_⟩
    have s1 : Same H (upd H p1 (.lst (ys.map V.str))) := same_new n1
    refine ⟨_, rfl, kk, kvs, keysOf Kp, rfl, .inl (s1 _ _ hk), hd.keys, (by unfold keysOf; rw [List.length_map]; omega), fun zs p2 per2 srt2 n2 => ?_⟩
    have e12 : zs = ys := sorted_one per2 per1 srt2 srt1
    subst e12
    have s2 := s1.trans (same_new (o := .lst (zs.map V.str)) n2)
    have n12 : p1 ≠ p2 := ne_of_none upd_same n2
    refine ⟨p1, p2, zs.map V.str, rfl, rfl, SqL.of (by rw [upd_ne n12]; exact upd_same), SqL.of upd_same, flat_strs zs, _, rfl, iteF ?_⟩
    generalize upd (upd H p1 (.lst (zs.map V.str))) p2 (.lst (zs.map V.str)) = H1 at s2
    have hk1 := s2 _ _ hk
    have hd1 : KvR (DAt S H1) kvs Kp := hd.imp fun v r hv => hv.out (.of s2)
    obtain ⟨hvs, hh, hd'⟩ := hK.same s2
    refine ⟨kk, .dK kvs, hk1, trivial, fun od => ?_⟩
    have nfk : f ≠ kk := ne_of hf hk (by intro q; cases q)
    have hF2 : FAt a.C (upd H1 kk (.frz od (.dK kvs))) f b h := ⟨dx, by rw [upd_ne nfk]; exact s2 _ _ hf⟩
    have hd2 : KvR (DAt S (upd H1 kk (.frz od (.dK kvs)))) kvs Kp := hd1.imp fun v r hv => hv.lock kS hk1
    have hK2' : KAt S (upd H1 kk (.frz od (.dK kvs))) h Kp := ⟨hvs, by rw [upd_ne nhk]; exact hh, hd'.imp fun v r hv => hv.lock kS hk1⟩
    have trk2 : Trk S (upd H1 kk (.frz od (.dK kvs))) := (trk.out (Out.of (S := []) s2) fun _ z => by cases z).out (out_lock hk1 (W := [kk]) (by simp)) fun y hy => by
      rw [List.mem_singleton.mp hy, upd_same]
      intro z
      cases z
    refine ⟨_, rfl, kk, od, rfl, .inl ⟨kvs, upd_same, fun D nD => ?_⟩⟩
    have nDk : D ≠ kk := (ne_of_none upd_same nD).symm
    refine lc_it walk_keys (fun i H2 => Same (upd H1 kk (.frz od (.dK kvs))) H2 ∧ H2 D = some (.lst ((List.replicate i true).map V.bl))) ⟨same_new nD, upd_same⟩ (fun i H2 _ ⟨s, _⟩ => s _ _ upd_same) ?_ ?_
    · rintro i y H2 H3 hi ⟨s3, e3⟩ ⟨rfl, ky, vy, eky, rfl⟩
      obtain ⟨⟨x, m⟩, er, ek, _⟩ := hd2.at eky
      dsimp only at ek
      subst ek
      have ex : tGet Kp x = some m := tGet_of_mem gd.nd (List.mem_of_getElem? er)
      have gm : Good n B m := gd.good _ (List.mem_of_getElem? er)
      obtain ⟨v', ev, hv⟩ := hd2.get_some ex
      obtain ⟨d, rfl, dS, hmd⟩ := hv.out (Out.of s3)
      have hF3 := hF2.same s3
      obtain ⟨dx3, hf3⟩ := id hF3
      have trk3 : Trk S H3 := trk2.out (Out.of (S := []) s3) fun _ z => by cases z
      refine ⟨rfl, ?_⟩
      refine ⟨_, rfl, f, dx3, _, rfl, hf3, ff_no _ _ (by decide +kernel) (by decide +kernel), _, rfl, f, b, h, Kp, S, x, m, n, B, rfl, hF3, hK2'.same s3, trk3, ex, gm, by omega, fun f' b' h' H4 nf nb nh nbh s4 F4 M4 K4 => ?_⟩
      have gr : ∀ y ∈ b' :: h' :: S, y ∈ S ∨ H3 y = none := fun y hy => by
        rcases List.mem_cons.mp hy with rfl | hy
        · exact .inr nb
        · rcases List.mem_cons.mp hy with rfl | hy
          · exact .inr nh
          · exact .inl hy
      have nbd : b' ≠ d := by
        obtain ⟨_, q, _⟩ := hmd
        exact (ne_of_none q nb).symm
      refine ⟨_, rfl, _, rfl, kk, .ref d, rfl, ?_, f', b', h', d, m, b' :: h' :: S, n, B, rfl, F4, M4, (hmd.grow gr).same s4, nbd, gm, n64, fun H5 s5 => ?_⟩
      · have q : DGet H4 kk (kV (Sum.inr x)) (valV kvs (Sum.inr x)) := DGet.f (s4 _ _ (s3 _ _ upd_same))
        rw [ev] at q
        exact q
      refine ⟨_, s5 _ _ (s4 _ _ e3), ?_, fun y o e => ?_, ?_⟩
      · rw [List.length_map, List.length_replicate]
        have : i < Kp.length := by rw [← hd.len]; exact hi
        exact small1000 (by omega)
      · rw [upd_ne (ne_of_none e nD)]
        exact s5 _ _ (s4 _ _ (s3 y o e))
      · rw [upd_same, List.replicate_succ', List.map_append]
        rfl
    · rintro H2 ⟨s3, e3⟩
      refine ⟨s3 _ _ upd_same, D, _, rfl, SqL.of (by rw [upd_ne nDk]; exact e3), ?_⟩
      have ea : (List.replicate kvs.length true).all id = true := List.all_eq_true.mpr fun z hz => by rw [List.eq_of_mem_replicate hz]; rfl
      rw [ea]
      exact k _ (s2.trans (lock_same hk1 s3))
end
end Wa

/-! W4j: the entries of the row; one more; all so. -/
namespace Wa
open PySem PyProof.Rows L2
/-- an entry: the files at f (dicts at b and h), the law's lists at m and k, and what they all hold -/
structure Ent where
  (f b h m k : Addr)
  M : Mdl
  Kp : Kpt
def Ent.mut (e : Ent) : List Addr := [e.b, e.h, e.m, e.k]
structure EntAt (a : Ads) (S : List Addr) (H : Hp) (t : Addr) (e : Ent) : Prop where
  tup : H t = some (.tup [.ref e.f, .ref e.m, .ref e.k])
  nt : t ∉ S
  nf : e.f ∉ S
  fo : FAt a.C H e.f e.b e.h
  mb : MAt S H e.b e.M
  kh : KAt S H e.h e.Kp
  mm : MAt S H e.m e.M
  kk : KAt S H e.k e.Kp
  inS : ∀ x ∈ e.mut, x ∈ S
  nd : e.mut.Nodup
theorem EntAt.out {a : Ads} {S W : List Addr} {H H' : Hp} {t : Addr} {e : Ent} (x : EntAt a S H t e) (o : Out W H H') (w : ∀ y ∈ W, y ∈ S) (d : ∀ y ∈ e.mut, y ∉ W) : EntAt a S H' t e := by
  have oS := o.mono w
  have at_ : ∀ y ∈ e.mut, ∀ u, H y = some u → H' y = some u := fun y hy u q => o y u q (d y hy)
  exact ⟨o t _ x.tup (fun z => x.nt (w t z)), x.nt, x.nf, x.fo.out o (fun z => x.nf (w _ z)), x.mb.out oS (at_ _ (by simp [Ent.mut])), x.kh.out oS (at_ _ (by simp [Ent.mut])), x.mm.out oS (at_ _ (by simp [Ent.mut])), x.kk.out oS (at_ _ (by simp [Ent.mut])), x.inS, x.nd⟩
theorem EntAt.same {a : Ads} {S : List Addr} {H H' : Hp} {t : Addr} {e : Ent} (x : EntAt a S H t e) (s : Same H H') : EntAt a S H' t e := x.out (Out.of (S := []) s) (fun _ z => by cases z) fun _ _ z => by cases z
theorem EntAt.grow {a : Ads} {S S' : List Addr} {H : Hp} {t : Addr} {e : Ent} (x : EntAt a S H t e) (i : ∀ y ∈ S, y ∈ S') (g : ∀ y ∈ S', y ∈ S ∨ H y = none) : EntAt a S' H t e := by
  have no : ∀ y u, H y = some u → y ∉ S → y ∉ S' := fun y u q n z => by
    rcases g y z with z | z
    · exact n z
    · rw [q] at z
      cases z
  obtain ⟨dx, ef⟩ := x.fo
  exact ⟨x.tup, no _ _ x.tup x.nt, no _ _ ef x.nf, x.fo, x.mb.grow g, x.kh.grow g, x.mm.grow g, x.kk.grow g, fun y hy => i y (x.inS y hy), x.nd⟩
/-- the bounds at turn n -/
def GoodE2 (n : Nat) (B : List Int) (e : Ent) : Prop := Good n B e.M ∧ GoodK n B e.Kp
def spMore (a : Ads) : Sp := fun vs H Q _ => ∃ (p r : Addr) (ts : List Addr) (es : List Ent) (S : List Addr) (n : Nat) (B : List Int), vs = [.ref p, .ref r] ∧ PotAt H p ∧ p ∈ S ∧ H r = some (.lst (ts.map V.ref)) ∧ r ≠ p ∧ Paired (EntAt a S H) ts es ∧ 0 < ts.length ∧ ts.length ≤ 1000 ∧ Trk S H ∧
  (∀ e ∈ es, GoodE2 n B e ∧ p ∉ e.mut) ∧ n < 64 ∧
  ∀ (e' : Ent) (t' : Addr) (H' : Hp), Out [p] H H' → PotAt H' p → (∀ y ∈ t' :: e'.f :: e'.mut, H y = none) → EntAt a (e'.mut ++ S) H' t' e' → GoodE2 n B e' → Q (.ref t') H'
def spAll (a : Ads) : Sp := fun vs H Q _ => ∃ (r : Addr) (ts : List Addr) (es : List Ent) (S : List Addr) (n : Nat) (B : List Int), vs = [.ref r] ∧ H r = some (.lst (ts.map V.ref)) ∧ Paired (EntAt a S H) ts es ∧ Trk S H ∧ (∀ e ∈ es, GoodE2 n B e) ∧ n ≤ 50 ∧ B.length < 64 ∧
  ∀ H', Same H H' → Q (.bl true) H'
theorem mut_ne {e : Ent} (nd : e.mut.Nodup) : e.b ≠ e.h ∧ e.b ≠ e.m ∧ e.b ≠ e.k ∧ e.h ≠ e.m ∧ e.h ≠ e.k ∧ e.m ≠ e.k := by
  unfold Ent.mut at nd
  simp only [List.nodup_cons, List.mem_cons, List.not_mem_nil, or_false, not_or] at nd
  obtain ⟨⟨h1, h2, h3⟩, ⟨h4, h5⟩, h6, _⟩ := nd
  exact ⟨h1, h2, h3, h4, h5, h6⟩
section
variable {P : Program} {w : World} {K : PySem.W.Frag} {mg : Str → Option Value} {base : Heap} {a : Ads} {f : Addr} {fd : FuncData}
/-- all methods of Files, and its making -/
structure Ms (K : PySem.W.Frag) (a : Ads) : Prop where
  i : ∃ f fd, Mk K a.C f ∧ Fun K "__init__" "Files.__init__" mInit f fd ∧ Binds K fd ["self"] []
  names : ∃ f fd, MF K a "names" "Files.names" mNames ["self"] f fd
  bof : ∃ f fd, MF K a "births_of" "Files.births_of" mBof ["self", "file"] f fd
  many : ∃ f fd, MF K a "many" "Files.many" mMany ["self", "file"] f fd
  birth : ∃ f fd, MF K a "birth" "Files.birth" mBirth ["self", "file", "place"] f fd
  put : ∃ f fd, MF K a "put" "Files.put" mPut ["self", "file", "place", "birth"] f fd
  cut : ∃ f fd, MF K a "cut" "Files.cut" mCut ["self", "file", "many"] f fd
  hold : ∃ f fd, MF K a "hold" "Files.hold" mHold ["self", "name"] f fd
  want : ∃ f fd, MF K a "want_held" "Files.want_held" mWant ["self", "name"] f fd
  free : ∃ f fd, MF K a "free" "Files.free" mFree ["self", "name"] f fd
  held : ∃ f fd, MF K a "held" "Files.held" mHeld ["self"] f fd
  ofh : ∃ f fd, MF K a "of_held" "Files.of_held" mOfh ["self", "name"] f fd
  liv : ∃ f fd, MF K a "living" "Files.living" mLiv ["self"] f fd
  cop : ∃ f fd, MF K a "copied" "Files.copied" mCop ["self"] f fd
/-- all defs of the law but the last -/
structure Gs (K : PySem.W.Frag) (mg : Str → Option Value) : Prop where
  at_ : ∃ f fd, GF K mg "_law_at" gAt ["_law_script", "_law_k"] f fd
  pot : ∃ f fd, GF K mg "_law_pot" gPot ["_law_script", "_law_k"] f fd
  take : ∃ f fd, GF K mg "_law_take" gTake ["_law_pot_here", "_law_many"] f fd
  drawn : ∃ f fd, GF K mg "_law_drawn" gDrawn ["_law_pot_here", "_law_some"] f fd
  name : ∃ f fd, GF K mg "_law_name" gNm ["_law_pot_here"] f fd
  names : ∃ f fd, GF K mg "_law_names" gNms ["_law_pot_here"] f fd
  birth : ∃ f fd, GF K mg "_law_birth" gBirth ["_law_pot_here"] f fd
  deed : ∃ f fd, GF K mg "_law_deed" gDeed ["_law_pot_here", "_law_names_here", "_law_model"] f fd
  fdue : ∃ f fd, GF K mg "_law_files_due" gFdue ["_law_model", "_law_deed_here"] f fd
  due : ∃ f fd, GF K mg "_law_due" gDue ["_law_model", "_law_kept", "_law_deed_here"] f fd
  ref : ∃ f fd, GF K mg "_law_refusal" gRef ["_law_e"] f fd
  told : ∃ f fd, GF K mg "_law_told" gTold ["_law_files", "_law_deed_here"] f fd
  ism : ∃ f fd, GF K mg "_law_is_model" gIsm ["_law_files", "_law_model"] f fd
  liv : ∃ f fd, GF K mg "_law_living" gLiv ["_law_model", "_law_kept"] f fd
  are : ∃ f fd, GF K mg "_law_are_held" gAre ["_law_files", "_law_kept"] f fd
  more : ∃ f fd, GF K mg "_law_more" gMore ["_law_pot_here", "_law_row"] f fd
  all : ∃ f fd, GF K mg "_law_all_so" gAll ["_law_row"] f fd
theorem sc37 : FnScope ["_law_row", "_law_files", "_law_model", "_law_kept"] ["_law_row"] (defScope gAll) := ⟨rfl, rfl, rfl, by decide +kernel, rfl, by decide +kernel, by decide +kernel⟩
theorem ok_all (T : Txt K mg a) (N : Ms K a) (L : Gs K mg) (F : Fun K "_law_all_so" "_law_all_so" gAll f fd) : FnOk P w K mg base CX0 5 f fd ["_law_row"] (spAll a) := by
  obtain ⟨fI, fdI, MI, FI, bI⟩ := N.i
  obtain ⟨f1, fd1, D1⟩ := N.names
  obtain ⟨f2, fd2, D2⟩ := N.many
  obtain ⟨f3, fd3, D3⟩ := N.birth
  obtain ⟨f4, fd4, D4⟩ := N.bof
  obtain ⟨f5, fd5, D5⟩ := N.held
  obtain ⟨f6, fd6, D6⟩ := N.ofh
  obtain ⟨f7, fd7, D7⟩ := N.want
  obtain ⟨f8, fd8, D8⟩ := N.put
  obtain ⟨f9, fd9, D9⟩ := N.liv
  obtain ⟨g1, gd1, B1⟩ := L.ism
  obtain ⟨g2, gd2, B2⟩ := L.are
  obtain ⟨g3, gd3, B3⟩ := L.liv
  have GI : FnOk P w K mg base CX0 3 g1 gd1 ["_law_files", "_law_model"] (spIsm a) := ok_ism T B1.F D1 D2 D3 D4
  have GA : FnOk P w K mg base CX0 4 g2 gd2 ["_law_files", "_law_kept"] (spAre a) := ok_are T B2.F B1 D1 D2 D3 D4 D5 D6 D7 D8 MI FI bI
  have GL : FnOk P w K mg base CX0 1 g3 gd3 ["_law_model", "_law_kept"] spGliv := ok_gliv T B3.F
  have GV : FnOk P w K mg base CX0 1 f9 fd9 ["self"] (spLiv a) := ok_liv T D9.F
  refine F.ok sc37 (fun vs H Q E h => ?_) (fun cdv A outer s H vs Q E hr hw => ?_)
  · obtain ⟨r, ts, es, S, n, B, rfl, _⟩ := h
    rfl
  · obtain ⟨r, ts, es, S, n, B, rfl, hrw, hes, trk, gd, n50, bl, k⟩ := hw
    have hr1 : Room 1 _ := hr.mono (by decide)
    have hr3 : Room 3 _ := hr.mono (by decide)
    have hu := hu_of hr
    refine ⟨_, pss_cons (ps_for PassesOwn.never rfl (pi_list (pv 0)) (pg_tup rfl (pgs_cons (pg_name (i := 1) sc37.nd rfl (Or.inl rfl)) (pgs_cons (pg_name (i := 2) sc37.nd rfl (Or.inl rfl)) (pgs_cons (pg_name (i := 3) sc37.nd rfl (Or.inl rfl)) pgs_nil))))
        (pss_cons (ps_if (PW.pt (pw_or (pt_not (pt_val (pe_call GI hr3 rfl B1.g B1.F.kp B1.b .nil pass0 (pa_cons (pv 1) (pa_cons (pv 2) pa_nil))))) (pw_or1 (pt_not (pt_val (pe_call GA hr rfl B2.g B2.F.kp B2.b .nil pass0 (pa_cons (pv 1) (pa_cons (pv 3) pa_nil)))))))) (pss_one (ps_ret pe_bl)) pss_nil)
        (pss_one (ps_if (pt_cmpR (op_neL hu) (pe_meth0 (pv 1) T.cl D9.m GV hr1 D9.b .nil pass0) (pe_call GL hr1 rfl B3.g B3.F.kp B3.b .nil pass0 (pa_cons (pv 2) (pa_cons (pv 3) pa_nil))) (nomark _)) (pss_one (ps_ret pe_bl)) pss_nil))))
      (pss_one (ps_ret pe_bl)), ?_⟩
    refine ⟨_, rfl, r, rfl, ⟨_, SqL.of hrw⟩, for_list (K := K) (a := r) (xs := ts.map V.ref) (fun i σ H2 => ∃ (v1 v2 v3 : Option V), σ = [some (.ref r), v1, v2, v3] ∧ Same H H2) ⟨none, none, none, rfl, Same.refl _⟩ (fun i σ H2 _ ⟨_, _, _, _, s⟩ => SqL.of (s _ _ hrw)) ?_ ?_⟩
    · rintro i y σ H2 hi ⟨v1, v2, v3, rfl, s2⟩
      obtain ⟨t, et, rfl⟩ : ∃ t, ts[i]? = some t ∧ y = V.ref t := by
        rw [List.getElem?_map] at hi
        cases q : ts[i]? with
        | none =>
          rw [q] at hi
          cases hi
        | some t =>
          rw [q] at hi
          exact ⟨t, rfl, (Option.some.inj hi).symm⟩
      obtain ⟨e, ee, he0⟩ := paired_at hes et
      have he := he0.same s2
      obtain ⟨gM, gK⟩ := gd e (List.mem_of_getElem? ee)
      have trk2 : Trk S H2 := trk.out (Out.of (S := []) s2) fun _ z => by cases z
      obtain ⟨n1, n2, n3, n4, n5, n6⟩ := mut_ne he.nd
      obtain ⟨dx, ef⟩ := id he.fo
      refine ⟨t, _, rfl, SqT.of he.tup, rfl, _, _, rfl, _, _, rfl, _, _, rfl, rfl, ?_⟩
      refine ⟨_, rfl, _, rfl, e.f, e.b, e.h, e.m, e.M, S, n, B, rfl, he.fo, he.mb, he.mm, n2, gM, by omega, fun H3 s3 => ⟨true, rfl, iteF ?_⟩⟩
      have he3 := he.same s3
      have trk3 : Trk S H3 := trk2.out (Out.of (S := []) s3) fun _ z => by cases z
      refine ⟨_, rfl, _, rfl, e.f, e.b, e.h, e.k, e.Kp, S, n, B, rfl, he3.fo, he3.kh, he3.kk, n5, he.inS _ (by simp [Ent.mut]), trk3, gK, by omega, fun H4 s4 => ⟨true, rfl, iteF ?_⟩⟩
      have he4 := he3.same s4
      obtain ⟨dx4, ef4⟩ := id he4.fo
      have kl := gK.len
      have sb := allB_sub gM gK
      refine ⟨_, rfl, e.f, dx4, _, rfl, ef4, ff_no _ _ (by decide +kernel) (by decide +kernel), e.f, e.b, e.h, e.M, e.Kp, S, B, rfl, he4.fo, he4.mb, he4.kh, by omega, sb, bl, fun ns p5 H5 srt1 mem1 np5 s5 ep5 => ?_⟩
      have he5 := he4.same s5
      have big := allB_len gM gK
      refine ⟨_, rfl, _, rfl, e.m, e.k, e.M, e.Kp, S, B, rfl, he5.mm, he5.kk, by omega, sb, bl, ?_, fun ms p6 H6 srt2 mem2 np6 s6 ep6 => ?_⟩
      · have : n * n ≤ 50 * 50 := Nat.mul_le_mul n50 n50
        omega
      have enm : ms = ns := risen_eq srt2 srt1 fun c => by rw [mem1, mem2]
      subst enm
      refine ⟨p5, p6, ms.map V.int, rfl, rfl, SqL.of (s6 _ _ ep5), SqL.of ep6, flat_ints ms, _, rfl, iteF ?_⟩
      exact ⟨_, _, _, rfl, ((((s2.trans s3).trans s4).trans s5).trans s6)⟩
    · rintro σ H2 ⟨v1, v2, v3, rfl, s2⟩
      exact k _ s2
end
end Wa

/-! W4k: _law_more. -/
namespace Wa
open PySem PyProof.Rows L2
theorem ent_new {a : Ads} {S : List Addr} {H2 H3 : Hp} {f' b' h' m' k' t' : Addr} {M : Mdl} {Kp : Kpt} {kvs hvs : List (Key × V)} (trk : Trk S H2) (nf : H2 f' = none) (nb : H2 b' = none) (nh : H2 h' = none) (nbh : b' ≠ h') (s23 : Same H2 H3) (F3 : FAt a.C H3 f' b' h')
    (M3 : MAt (b' :: h' :: S) H3 b' M) (K3 : KAt (b' :: h' :: S) H3 h' Kp) (nm : H3 m' = none) (hk : KvR (LAt S H2) kvs M) (nk : upd H3 m' (.dK kvs) k' = none) (hd : KvR (DAt S H2) hvs Kp) (nt : upd (upd H3 m' (.dK kvs)) k' (.dK hvs) t' = none) :
    EntAt a ([b', h', m', k'] ++ S) (upd (upd (upd H3 m' (.dK kvs)) k' (.dK hvs)) t' (.tup [.ref f', .ref m', .ref k'])) t' ⟨f', b', h', m', k', M, Kp⟩ ∧ Same H3 (upd (upd (upd H3 m' (.dK kvs)) k' (.dK hvs)) t' (.tup [.ref f', .ref m', .ref k'])) := by
  have s4 : Same H3 (upd H3 m' (.dK kvs)) := same_new nm
  have s5 : Same (upd H3 m' (.dK kvs)) (upd (upd H3 m' (.dK kvs)) k' (.dK hvs)) := same_new nk
  have s6 : Same (upd (upd H3 m' (.dK kvs)) k' (.dK hvs)) (upd (upd (upd H3 m' (.dK kvs)) k' (.dK hvs)) t' (.tup [.ref f', .ref m', .ref k'])) := same_new nt
  have s36 := (s4.trans s5).trans s6
  have s26 := s23.trans s36
  obtain ⟨dx, ef⟩ := id F3
  obtain ⟨bs, eb, _⟩ := id M3
  obtain ⟨hs, eh, _⟩ := id K3
  have nk3 : H3 k' = none := s4.free nk
  have nt3 : H3 t' = none := (s4.trans s5).free nt
  have nm2 : H2 m' = none := s23.free nm
  have nk2 : H2 k' = none := s23.free nk3
  have nt2 : H2 t' = none := s23.free nt3
  have bm : b' ≠ m' := ne_of_none eb nm
  have bk : b' ≠ k' := ne_of_none eb nk3
  have hm : h' ≠ m' := ne_of_none eh nm
  have hkk : h' ≠ k' := ne_of_none eh nk3
  have mk : m' ≠ k' := ne_of_none upd_same nk
  have tm : t' ≠ m' := (ne_of_none (s5 _ _ upd_same) nt).symm
  have tk : t' ≠ k' := (ne_of_none upd_same nt).symm
  have tb : t' ≠ b' := (ne_of_none eb nt3).symm
  have th : t' ≠ h' := (ne_of_none eh nt3).symm
  have fb : f' ≠ b' := ne_of ef eb (by intro q; cases q)
  have fh : f' ≠ h' := ne_of ef eh (by intro q; cases q)
  have fm : f' ≠ m' := ne_of_none ef nm
  have fk : f' ≠ k' := ne_of_none ef nk3
  have g3 : ∀ y ∈ [b', h', m', k'] ++ S, y ∈ b' :: h' :: S ∨ H3 y = none := fun y hy => by
    simp only [List.cons_append, List.nil_append, List.mem_cons] at hy ⊢
    rcases hy with rfl | rfl | rfl | rfl | hy
    · exact .inl (.inl rfl)
    · exact .inl (.inr (.inl rfl))
    · exact .inr nm
    · exact .inr nk3
    · exact .inl (.inr (.inr hy))
  have g2 : ∀ y ∈ [b', h', m', k'] ++ S, y ∈ S ∨ H2 y = none := fun y hy => by
    simp only [List.cons_append, List.nil_append, List.mem_cons] at hy
    rcases hy with rfl | rfl | rfl | rfl | hy
    · exact .inr nb
    · exact .inr nh
    · exact .inr nm2
    · exact .inr nk2
    · exact .inl hy
  refine ⟨⟨upd_same, ?_, ?_, F3.same s36, (M3.grow g3).same s36, (K3.grow g3).same s36, ⟨kvs, ?_, hk.imp fun v r hv => (hv.grow g2).out (.of s26)⟩, ⟨hvs, ?_, hd.imp fun v r hv => (hv.grow g2).out (.of s26)⟩, fun y hy => List.mem_append_left _ hy, ?_⟩, s36⟩
  · have q := trk.nin nt2
    simp [tb, th, tm, tk, q]
  · have q := trk.nin nf
    simp [fb, fh, fm, fk, q]
  · exact s6 _ _ (s5 _ _ upd_same)
  · exact s6 _ _ upd_same
  · show [b', h', m', k'].Nodup
    simp [nbh, bm, bk, hm, hkk, mk]
section
variable {P : Program} {w : World} {K : PySem.W.Frag} {mg : Str → Option Value} {base : Heap} {a : Ads} {f : Addr} {fd : FuncData}
theorem sc36 : FnScope ["_law_pot_here", "_law_row", "_law_files", "_law_model", "_law_kept", "_law_names_here", "_law_name_here"] ["_law_pot_here", "_law_row"] (defScope gMore) := ⟨rfl, rfl, rfl, by decide +kernel, rfl, by decide +kernel, by decide +kernel⟩
theorem ok_more (T : Txt K mg a) (N : Ms K a) (L : Gs K mg) (F : Fun K "_law_more" "_law_more" gMore f fd) : FnOk P w K mg base CX0 4 f fd ["_law_pot_here", "_law_row"] (spMore a) := by
  obtain ⟨fI, fdI, MI, FI, bI⟩ := N.i
  obtain ⟨f6, fd6, D6⟩ := N.ofh
  obtain ⟨f7, fd7, D7⟩ := N.want
  obtain ⟨f8, fd8, D8⟩ := N.put
  obtain ⟨f9, fd9, D9⟩ := N.cop
  obtain ⟨g1, gd1, B1⟩ := L.take
  obtain ⟨g2, gd2, B2⟩ := L.drawn
  have GT : FnOk P w K mg base CX0 1 g1 gd1 ["_law_pot_here", "_law_many"] spTake := ok_take T B1.F
  have GD : FnOk P w K mg base CX0 2 g2 gd2 ["_law_pot_here", "_law_some"] spDrawn := ok_drawn T B2.F B1
  have GO : FnOk P w K mg base CX0 3 f6 fd6 ["self", "name"] (spOfh a) := ok_ofh T D6.F MI FI bI D7 D8
  have GC : FnOk P w K mg base CX0 3 f9 fd9 ["self"] (spCop a) := ok_cop T D9.F MI FI bI
  refine F.ok sc36 (fun vs H Q E h => ?_) (fun cdv A outer s H vs Q E hr hw => ?_)
  · obtain ⟨p, r, ts, es, S, n, B, rfl, _⟩ := h
    rfl
  · obtain ⟨p, r, ts, es, S, n, B, rfl, hp, pS, hrw, nrp, hes, t0, t1, trk, gd, n64, k⟩ := hw
    have hr1 : Room 1 _ := hr.mono (by decide)
    have hr2 : Room 2 _ := hr.mono (by decide)
    have hu := hu_of hr
    refine ⟨_, pss_cons (ps_asg (pe_call GD hr2 rfl B2.g B2.F.kp B2.b .nil pass0 (pa_cons (pv 0) (pa_cons (pv 1) pa_nil))) (pg_tup rfl (pgs_cons (pg_name (i := 2) sc36.nd rfl (Or.inl rfl)) (pgs_cons (pg_name (i := 3) sc36.nd rfl (Or.inl rfl)) (pgs_cons (pg_name (i := 4) sc36.nd rfl (Or.inl rfl)) pgs_nil)))))
      (pss_cons (ps_set (i := 5) sc36.nd rfl (Or.inl rfl) (pe_callB (call_sortedD rfl) (by rfl) T.sorted (by decide +kernel) (pa_cons (pv 4) pa_nil)))
      (pss_cons (ps_if (PW.pt (pw_and (pt_cmpR (op_neE hu) (pv 5) (pe_lst pa_nil) (nomark _)) (pw_and1 (pt_cmpR op_eq (pe_call GT hr1 rfl B1.g B1.F.kp B1.b .nil pass0 (pa_cons (pv 0) (pa_cons pe_int pa_nil))) pe_int (nomark _)))))
        (pss_cons (ps_set (i := 6) sc36.nd rfl (Or.inl rfl) (pe_call GD hr2 rfl B2.g B2.F.kp B2.b .nil pass0 (pa_cons (pv 0) (pa_cons (pv 5) pa_nil))))
        (pss_one (ps_ret (pe_tup (pa_cons (pe_meth (pv 2) T.cl D6.m GO hr D6.b .nil pass0 (pa_cons (pv 6) pa_nil)) (pa_cons (pe_callTy call_dictD (by rfl) T.dict (by decide +kernel) (pa_cons (pe_dget hu (pv 4) (pv 6) (fun _ _ => rfl)) pa_nil)) (pa_cons pe_dnewK pa_nil))))))) pss_nil)
      (pss_one (ps_ret (pe_tup (pa_cons (pe_meth0 (pv 2) T.cl D9.m GC hr D9.b .nil pass0) (pa_cons (pe_callTy call_dictD (by rfl) T.dict (by decide +kernel) (pa_cons (pv 3) pa_nil)) (pa_cons (pe_callTy call_dictD (by rfl) T.dict (by decide +kernel) (pa_cons (pv 4) pa_nil)) pa_nil)))))))), ?_⟩
    -- one of the entries
    refine ⟨_, rfl, _, rfl, p, _, rfl, hp, .inl ⟨r, _, rfl, hrw, nrp, (by rw [List.length_map]; exact t0), (by rw [List.length_map]; exact t1), fun i x H1 hi o1 hp1 => ?_⟩⟩
    obtain ⟨t, et, rfl⟩ : ∃ t, ts[i]? = some t ∧ x = V.ref t := by
      rw [List.getElem?_map] at hi
      cases q : ts[i]? with
      | none =>
        rw [q] at hi
        cases hi
      | some t =>
        rw [q] at hi
        exact ⟨t, rfl, (Option.some.inj hi).symm⟩
    obtain ⟨e, ee, he0⟩ := paired_at hes et
    obtain ⟨⟨gM, gK⟩, pe⟩ := gd e (List.mem_of_getElem? ee)
    have oS : ∀ y ∈ [p], y ∈ S := fun y hy => by
      rw [List.mem_singleton.mp hy]
      exact pS
    have dis : ∀ y ∈ e.mut, y ∉ [p] := fun y hy z => pe (by rw [← List.mem_singleton.mp z]; exact hy)
    have he1 := he0.out o1 oS dis
    have trkP : ∀ {Hx : Hp}, Out [p] H Hx → PotAt Hx p → Trk S Hx := fun o hpx => trk.out o fun y hy => by
      obtain ⟨_, _, q, _⟩ := hpx
      rw [List.mem_singleton.mp hy, q]
      intro z
      cases z
    have newP : ∀ {Hx : Hp} {y : Addr}, Out [p] H Hx → PotAt Hx p → Hx y = none → H y = none := fun {Hx y} o hpx ny => o.none ny (by
      obtain ⟨_, _, q, _⟩ := hpx
      have := ne_of_none q ny
      simp [this.symm])
    refine ⟨t, _, rfl, SqT.of he1.tup, rfl, _, _, rfl, _, _, rfl, _, _, rfl, rfl, ?_⟩
    -- names_here = sorted(kept)
    obtain ⟨hvs, hh, hd⟩ := id he1.kk
    have kl := gK.len
    refine ⟨_, rfl, e.k, hvs, keysOf e.Kp, rfl, .inl hh, hd.keys, (by unfold keysOf; rw [List.length_map]; omega), fun ys ly per srt ny => ?_⟩
    have s2 : Same H1 (upd H1 ly (.lst (ys.map V.str))) := same_new ny
    have o2 : Out [p] H (upd H1 ly (.lst (ys.map V.str))) := o1.add ny
    have hp2 := hp1.same s2
    have he2 := he1.same s2
    have ey : upd H1 ly (.lst (ys.map V.str)) ly = some (.lst (ys.map V.str)) := upd_same
    have nlp : ly ≠ p := by
      obtain ⟨_, _, q, _⟩ := hp1
      exact (ne_of_none q ny).symm
    generalize upd H1 ly (.lst (ys.map V.str)) = H2 at s2 o2 hp2 he2 ey ⊢
    -- names_here != []
    refine ⟨_, rfl, (by show 0 ≤ sizeLine; decide), fun l0 n0 => ?_⟩
    have s3 : Same H2 (upd H2 l0 (.lst [])) := same_new n0
    have o3 : Out [p] H (upd H2 l0 (.lst [])) := o2.add n0
    have hp3 := hp2.same s3
    have he3 := he2.same s3
    have ey3 := s3 _ _ ey
    refine ⟨ly, l0, ys.map V.str, rfl, rfl, SqL.of ey3, SqL.of upd_same, _, rfl, ?_⟩
    generalize upd H2 l0 (.lst []) = H3 at s3 o3 hp3 he3 ey3 ⊢
    -- a plain copy
    have copy : ∀ (H4 : Hp) (v6 : Option V), Out [p] H H4 → PotAt H4 p → EntAt a S H4 t e →
        tRet (tTup (tCons (tMeth a.C "copied" (spCop a) [] E0 (tVar 2) tNil) (tCons (fun σ H Q => tCons (tVar 3) tNil σ H fun xs H' => (∃ (a : Addr) (kvs : List (Key × V)), xs = [.ref a] ∧ Rd H' a (.dK kvs) ∧ ∀ p, H' p = none → Q (.ref p) (upd H' p (.dK kvs)))) (tCons (fun σ H Q => tCons (tVar 4) tNil σ H fun xs H' => (∃ (a : Addr) (kvs : List (Key × V)), xs = [.ref a] ∧ Rd H' a (.dK kvs) ∧ ∀ p, H' p = none → Q (.ref p) (upd H' p (.dK kvs)))) tNil))))
          { nx := fun _ H' => Q .non H', rt := Q } [some (.ref p), some (.ref r), some (.ref e.f), some (.ref e.m), some (.ref e.k), some (.ref ly), v6] H4 := fun H4 v6 o4 hp4 he4 => by
      obtain ⟨dx, ef⟩ := id he4.fo
      obtain ⟨kvs4, hm4, hk4⟩ := id he4.mm
      obtain ⟨hvs4, hh4, hd4⟩ := id he4.kk
      refine ⟨_, rfl, e.f, dx, _, rfl, ef, ff_no _ _ (by decide +kernel) (by decide +kernel), e.f, e.b, e.h, e.M, e.Kp, S, rfl, he4.fo, he4.mb, he4.kh, fun f' b' h' H5 nf nb nh nbh s5 F5 M5 K5 => ?_⟩
      refine ⟨_, rfl, e.m, kvs4, rfl, .inl (s5 _ _ hm4), fun m' nm => ?_⟩
      have s6 : Same H5 (upd H5 m' (.dK kvs4)) := same_new nm
      refine ⟨_, rfl, e.k, hvs4, rfl, .inl (s6 _ _ (s5 _ _ hh4)), fun k' nk => ⟨(by show 3 ≤ sizeLine; decide), fun t' nt => ?_⟩⟩
      obtain ⟨E', s7⟩ := ent_new (trkP o4 hp4) nf nb nh nbh s5 F5 M5 K5 nm hk4 nk hd4 nt
      have nk5 : H5 k' = none := s6.free nk
      have nt5 : H5 t' = none := s6.free ((same_new (o := .dK hvs4) nk).free nt)
      refine k ⟨f', b', h', m', k', e.M, e.Kp⟩ t' _ (o4.trans (Out.of (s5.trans s7))) (hp4.same (s5.trans s7)) (fun y hy => ?_) E' ⟨gM, gK⟩
      simp only [Ent.mut, List.mem_cons, List.not_mem_nil, or_false] at hy
      rcases hy with rfl | rfl | rfl | rfl | rfl | rfl
      · exact newP o4 hp4 (s5.free nt5)
      · exact newP o4 hp4 nf
      · exact newP o4 hp4 nb
      · exact newP o4 hp4 nh
      · exact newP o4 hp4 (s5.free nm)
      · exact newP o4 hp4 (s5.free nk5)
    cases ys with
    | nil => exact iteF (iteF (copy H3 _ o3 hp3 he3))
    | cons y0 ys =>
      refine iteT ?_
      refine ⟨_, rfl, p, 2, rfl, hp3, by decide, by decide, fun d H4 d0 d1 o4 hp4 => ?_⟩
      have o04 := o3.trans o4
      have he4 := he3.out o4 oS dis
      refine ⟨rfl, _, rfl, ?_⟩
      by_cases c : d = 1
      · rw [decide_eq_true (by rw [c])]
        refine iteT ?_
        have lly : ((y0 :: ys).map V.str).length ≤ 1000 := by
          rw [List.length_map, per.length_eq]
          unfold keysOf
          rw [List.length_map]
          omega
        refine ⟨_, rfl, _, rfl, p, _, rfl, hp4, .inl ⟨ly, _, rfl, o4 _ _ ey3 (by simp [nlp]), nlp, (by rw [List.length_map]; exact Nat.zero_lt_succ _), lly, fun i' x' H5 hi' o5 hp5 => ?_⟩⟩
        have o05 := o04.trans o5
        have he5 := he4.out o5 oS dis
        obtain ⟨x, ex, rfl⟩ : ∃ x, (y0 :: ys)[i']? = some x ∧ x' = V.str x := by
          rw [List.getElem?_map] at hi'
          cases q : (y0 :: ys)[i']? with
          | none =>
            rw [q] at hi'
            cases hi'
          | some x =>
            rw [q] at hi'
            exact ⟨x, rfl, (Option.some.inj hi').symm⟩
        have xin : x ∈ keysOf e.Kp := per.mem_iff.mp (List.mem_of_getElem? ex)
        obtain ⟨⟨x0, m0⟩, hx0, rfl⟩ := List.mem_map.mp xin
        have eg : tGet e.Kp x0 = some m0 := tGet_of_mem gK.nd hx0
        have gm : Good n B m0 := gK.good _ hx0
        obtain ⟨dx5, ef5⟩ := id he5.fo
        obtain ⟨hvs5, hh5, hd5⟩ := id he5.kk
        obtain ⟨v', ev, dd, rfl, dS, kvs5, hdd, hk5⟩ := hd5.get_some eg
        refine ⟨_, rfl, e.f, dx5, _, rfl, ef5, ff_no _ _ (by decide +kernel) (by decide +kernel), _, rfl, e.f, e.b, e.h, e.Kp, S, x0, m0, n, B, rfl, he5.fo, he5.kh, trkP o05 hp5, eg, gm, by omega, fun f' b' h' H6 nf nb nh nbh s6 F6 M6 K6 => ?_⟩
        refine ⟨_, rfl, _, rfl, e.k, .ref dd, rfl, ?_, dd, kvs5, rfl, .inl (s6 _ _ hdd), fun m' nm => ?_⟩
        · have q : DGet H6 e.k (kV (Sum.inr x0)) (valV hvs5 (Sum.inr x0)) := DGet.k (s6 _ _ hh5)
          rw [ev] at q
          exact q
        intro k' nk
        refine ⟨(by show 3 ≤ sizeLine; decide), fun t' nt => ?_⟩
        obtain ⟨E', s7⟩ := ent_new (trkP o05 hp5) nf nb nh nbh s6 F6 M6 K6 nm hk5 nk (.nil : KvR (DAt S H5) [] []) nt
        have sm6 : Same H6 (upd H6 m' (.dK kvs5)) := same_new nm
        have nk6 : H6 k' = none := sm6.free nk
        have nt6 : H6 t' = none := sm6.free ((same_new (o := .dK []) nk).free nt)
        refine k ⟨f', b', h', m', k', m0, []⟩ t' _ (o05.trans (Out.of (s6.trans s7))) (hp5.same (s6.trans s7)) (fun y hy => ?_) E' ⟨gm, GoodK.nil⟩
        simp only [Ent.mut, List.mem_cons, List.not_mem_nil, or_false] at hy
        rcases hy with rfl | rfl | rfl | rfl | rfl | rfl
        · exact newP o05 hp5 (s6.free nt6)
        · exact newP o05 hp5 nf
        · exact newP o05 hp5 nb
        · exact newP o05 hp5 nh
        · exact newP o05 hp5 (s6.free nm)
        · exact newP o05 hp5 (s6.free nk6)
      · rw [decide_eq_false (fun q => c (V.int.inj q))]
        exact iteF (copy H4 _ o04 hp4 he4)
end
end Wa

/-! W4l: the law. -/
namespace Wa
open PySem PyProof.Rows L2
theorem paired_of {α β : Type} {F : α → β → Prop} : ∀ {xs : List α} {ys : List β}, xs.length = ys.length → (∀ (i : Nat) x y, xs[i]? = some x → ys[i]? = some y → F x y) → Paired F xs ys
  | [], [], _, _ => .nil
  | [], _ :: _, h, _ => by cases h
  | _ :: _, [], h, _ => by cases h
  | x :: xs, y :: ys, h, f => .cons (f 0 x y rfl rfl) (paired_of (Nat.succ.inj h) fun i x' y' h1 h2 => f (i + 1) x' y' h1 h2)
/-- what holds between two turns -/
structure WI (a : Ads) (H0 : Hp) (i : Nat) (p l r : Addr) (zs : List Str) (H : Hp) (S ts : List Addr) (es : List Ent) (B : List Int) : Prop where
  s0 : Same H0 H
  fr : ∀ x ∈ S, H0 x = none
  trk : Trk S H
  hp : PotAt H p
  pS : p ∈ S
  hl : H l = some (.lst (zs.map V.str))
  lS : l ∉ S
  z0 : 0 < zs.length
  z1 : zs.length ≤ 1000
  hr : H r = some (.lst (ts.map V.ref))
  rS : r ∈ S
  nrp : r ≠ p
  es_ : Paired (EntAt a S H) ts es
  pr : ∀ e ∈ es, p ∉ e.mut ∧ r ∉ e.mut
  dj : ∀ (i j : Nat) e e', es[i]? = some e → es[j]? = some e' → i ≠ j → ∀ x ∈ e.mut, x ∉ e'.mut
  gd : ∀ e ∈ es, GoodE2 i B e
  bl : B.length ≤ i
  n0 : 0 < ts.length
  n5 : ts.length ≤ 5
section
variable {a : Ads} {H0 : Hp} {i : Nat} {p l r : Addr} {zs : List Str} {H H' : Hp} {S ts : List Addr} {es : List Ent} {B : List Int}
theorem WI.base (x : WI a H0 i p l r zs H S ts es B) {W : List Addr} (w : ∀ y ∈ W, y ∈ S) (o : Out W H H') : Same H0 H' := fun b u e => o b u (x.s0 b u e) fun z => by
  rw [x.fr b (w b z)] at e
  cases e
theorem WI.same (x : WI a H0 i p l r zs H S ts es B) (s : Same H H') : WI a H0 i p l r zs H' S ts es B :=
  ⟨x.s0.trans s, x.fr, x.trk.out (Out.of (S := []) s) (fun _ z => by cases z), x.hp.same s, x.pS, s _ _ x.hl, x.lS, x.z0, x.z1, s _ _ x.hr, x.rS, x.nrp, Paired.mapP x.es_ fun _ _ e => e.same s, x.pr, x.dj, x.gd, x.bl, x.n0, x.n5⟩
theorem WI.pot (x : WI a H0 i p l r zs H S ts es B) (o : Out [p] H H') (hp : PotAt H' p) : WI a H0 i p l r zs H' S ts es B := by
  have w : ∀ y ∈ [p], y ∈ S := fun y hy => by
    rw [List.mem_singleton.mp hy]
    exact x.pS
  refine ⟨x.base w o, x.fr, x.trk.out o fun y hy => ?_, hp, x.pS, o _ _ x.hl ?_, x.lS, x.z0, x.z1, o _ _ x.hr (by simp [x.nrp]), x.rS, x.nrp, ?_, x.pr, x.dj, x.gd, x.bl, x.n0, x.n5⟩
  · obtain ⟨_, _, q, _⟩ := hp
    rw [List.mem_singleton.mp hy, q]
    intro z
    cases z
  · intro z
    exact x.lS (w _ z)
  · have len := Paired.length x.es_
    refine paired_of len fun j t e h1 h2 => ?_
    obtain ⟨e', h3, h4⟩ := paired_at x.es_ h1
    rw [h2] at h3
    cases h3
    exact h4.out o w fun y hy z => (x.pr e (List.mem_of_getElem? h2)).1 (by rw [← List.mem_singleton.mp z]; exact hy)
theorem WI.next (x : WI a H0 i p l r zs H S ts es B) : WI a H0 (i + 1) p l r zs H S ts es B :=
  ⟨x.s0, x.fr, x.trk, x.hp, x.pS, x.hl, x.lS, x.z0, x.z1, x.hr, x.rS, x.nrp, x.es_, x.pr, x.dj, fun e he => ⟨(x.gd e he).1.mono (Nat.le_succ _) fun b hb => hb, (x.gd e he).2.mono (Nat.le_succ _) fun b hb => hb⟩, Nat.le_succ_of_le x.bl, x.n0, x.n5⟩
/-- one more entry -/
theorem WI.more (x : WI a H0 i p l r zs H S ts es B) {e' : Ent} {t' : Addr} (o : Out [p] H H') (hp : PotAt H' p) (fresh : ∀ y ∈ t' :: e'.f :: e'.mut, H y = none) (E : EntAt a (e'.mut ++ S) H' t' e') (g : GoodE2 i B e') (few : ts.length < 5) :
    WI a H0 i p l r zs (upd H' r (.lst (ts.map V.ref ++ [V.ref t']))) (e'.mut ++ S) (ts ++ [t']) (es ++ [e']) B := by
  have x1 := x.pot o hp
  have fm : ∀ y ∈ e'.mut, H y = none := fun y hy => fresh y (List.mem_cons_of_mem _ (List.mem_cons_of_mem _ hy))
  have tS : ∀ y ∈ S, y ∉ e'.mut := fun y hy z => x.trk y hy (fm y z)
  have rm : r ∉ e'.mut := tS r x.rS
  have sR : Out [r] H' (upd H' r (.lst (ts.map V.ref ++ [V.ref t']))) := Out.write (Out.refl _ _) (by simp)
  have wr : ∀ y ∈ [r], y ∈ e'.mut ++ S := fun y hy => by
    rw [List.mem_singleton.mp hy]
    exact List.mem_append_right _ x.rS
  have npr : p ≠ r := x.nrp.symm
  have grow : ∀ y ∈ e'.mut ++ S, y ∈ S ∨ H y = none := fun y hy => (List.mem_append.mp hy).elim (fun z => .inr (fm y z)) .inl
  have old : ∀ t e, e ∈ es → EntAt a S H t e → EntAt a (e'.mut ++ S) (upd H' r (.lst (ts.map V.ref ++ [V.ref t']))) t e := fun t e he q => by
    have q1 := q.grow (S' := e'.mut ++ S) (fun y hy => List.mem_append_right _ hy) grow
    have q2 := q1.out o (fun y hy => by
      rw [List.mem_singleton.mp hy]
      exact List.mem_append_right _ x.pS) fun y hy z => (x.pr e he).1 (by rw [← List.mem_singleton.mp z]; exact hy)
    exact q2.out sR wr fun y hy z => (x.pr e he).2 (by rw [← List.mem_singleton.mp z]; exact hy)
  have len := Paired.length x.es_
  refine ⟨fun b u e => ?_, fun y hy => ?_, fun y hy => ?_, hp.keep (fun u q => by rw [upd_ne npr]; exact q), List.mem_append_right _ x.pS, ?_, ?_, x.z0, x.z1, ?_, List.mem_append_right _ x.rS, x.nrp, ?_, ?_, ?_, ?_, x.bl, ?_, ?_⟩
  · have q : b ≠ r := fun z => by
      rw [z, x.fr r x.rS] at e
      cases e
    rw [upd_ne q]
    exact x1.s0 b u e
  · rcases List.mem_append.mp hy with hy | hy
    · exact x.s0.free (fm y hy)
    · exact x.fr y hy
  · by_cases c : y = r
    · rw [c, upd_same]
      intro z
      cases z
    · rw [upd_ne c]
      rcases List.mem_append.mp hy with hy | hy
      · obtain ⟨_, q1, _⟩ := E.mb
        obtain ⟨_, q2, _⟩ := E.kh
        obtain ⟨_, q3, _⟩ := E.mm
        obtain ⟨_, q4, _⟩ := E.kk
        simp only [Ent.mut, List.mem_cons, List.not_mem_nil, or_false] at hy
        rcases hy with rfl | rfl | rfl | rfl
        · rw [q1]; intro z; cases z
        · rw [q2]; intro z; cases z
        · rw [q3]; intro z; cases z
        · rw [q4]; intro z; cases z
      · exact x1.trk y hy
  · rw [upd_ne (fun z => x.lS (by rw [z]; exact x.rS))]
    exact x1.hl
  · intro z
    rcases List.mem_append.mp z with z | z
    · have q := fm _ z
      rw [x.hl] at q
      cases q
    · exact x.lS z
  · rw [upd_same, List.map_append]
    rfl
  · refine Paired.snoc (paired_of len fun j t e h1 h2 => ?_) (E.out sR wr fun y hy z => rm (by rw [← List.mem_singleton.mp z]; exact hy))
    obtain ⟨e2, h3, h4⟩ := paired_at x.es_ h1
    rw [h2] at h3
    cases h3
    exact old t e (List.mem_of_getElem? h2) h4
  · intro e he
    rcases List.mem_append.mp he with he | he
    · exact x.pr e he
    · rw [List.mem_singleton.mp he]
      exact ⟨tS p x.pS, rm⟩
  · have inS : ∀ e ∈ es, ∀ y ∈ e.mut, y ∈ S := fun e he y hy => by
      obtain ⟨j, hj⟩ := List.getElem?_of_mem he
      have : j < ts.length := by
        rw [len]
        exact (List.getElem?_eq_some_iff.mp hj).1
      obtain ⟨e2, h3, h4⟩ := paired_at x.es_ (List.getElem?_eq_getElem this)
      rw [hj] at h3
      cases h3
      exact h4.inS y hy
    intro j1 j2 e1 e2 h1 h2 hne y hy z
    rcases Nat.lt_or_ge j1 es.length with c1 | c1
    · rw [List.getElem?_append_left c1] at h1
      rcases Nat.lt_or_ge j2 es.length with c2 | c2
      · rw [List.getElem?_append_left c2] at h2
        exact x.dj j1 j2 e1 e2 h1 h2 hne y hy z
      · rw [List.getElem?_append_right c2] at h2
        have q : e2 = e' := by
          have := List.mem_of_getElem? h2
          exact List.mem_singleton.mp this
        rw [q] at z
        exact tS y (inS e1 (List.mem_of_getElem? h1) y hy) z
    · rw [List.getElem?_append_right c1] at h1
      have q : e1 = e' := by
        have := List.mem_of_getElem? h1
        exact List.mem_singleton.mp this
      rcases Nat.lt_or_ge j2 es.length with c2 | c2
      · rw [List.getElem?_append_left c2] at h2
        rw [q] at hy
        exact tS y (inS e2 (List.mem_of_getElem? h2) y z) hy
      · have d1 := (List.getElem?_eq_some_iff.mp h1).1
        rw [List.getElem?_append_right c2] at h2
        have d2 := (List.getElem?_eq_some_iff.mp h2).1
        simp only [List.length_singleton] at d1 d2
        omega
  · intro e he
    rcases List.mem_append.mp he with he | he
    · exact x.gd e he
    · rw [List.mem_singleton.mp he]
      exact g
  · rw [List.length_append]
    exact Nat.lt_of_lt_of_le x.n0 (Nat.le_add_right _ _)
  · rw [List.length_append]
    exact few
/-- a deed on the j-th -/
theorem WI.deed (x : WI a H0 i p l r zs H S ts es B) {j : Nat} {t : Addr} {e : Ent} {d : Deed} {H1 H2 : Hp} (et : ts[j]? = some t) (ee : es[j]? = some e) (o1 : Out [e.b, e.h] H H1) (m1 : MAt S H1 e.b (d.mdl e.M)) (k1 : KAt S H1 e.h (d.kpt e.M e.Kp))
    (o2 : Out [e.m, e.k] H1 H2) (m2 : MAt S H2 e.m (d.mdl e.M)) (k2 : KAt S H2 e.k (d.kpt e.M e.Kp)) :
    WI a H0 (i + 1) p l r zs H2 S ts (es.set j ⟨e.f, e.b, e.h, e.m, e.k, d.mdl e.M, d.kpt e.M e.Kp⟩) (d.new ++ B) := by
  obtain ⟨e0, h3, E⟩ := paired_at x.es_ et
  rw [ee] at h3
  cases h3
  obtain ⟨n1, n2, n3, n4, n5, n6⟩ := mut_ne E.nd
  have w1 : ∀ y ∈ [e.b, e.h], y ∈ e.mut := fun y hy => by
    simp only [List.mem_cons, List.not_mem_nil, or_false] at hy
    rcases hy with rfl | rfl <;> simp [Ent.mut]
  have w2 : ∀ y ∈ [e.m, e.k], y ∈ e.mut := fun y hy => by
    simp only [List.mem_cons, List.not_mem_nil, or_false] at hy
    rcases hy with rfl | rfl <;> simp [Ent.mut]
  have o : Out e.mut H H2 := (o1.mono w1).trans (o2.mono w2)
  have eS := E.inS
  have pe := x.pr e (List.mem_of_getElem? ee)
  have b2 : MAt S H2 e.b (d.mdl e.M) := m1.out (o2.mono fun y hy => eS y (w2 y hy)) fun u q => o2 _ u q (by simp [n2, n3])
  have h2 : KAt S H2 e.h (d.kpt e.M e.Kp) := k1.out (o2.mono fun y hy => eS y (w2 y hy)) fun u q => o2 _ u q (by simp [n4, n5])
  have len := Paired.length x.es_
  refine ⟨x.base eS o, x.fr, x.trk.out o fun y hy => ?_, x.hp.keep (fun u q => o p u q pe.1), x.pS, o _ _ x.hl (fun z => x.lS (eS _ z)), x.lS, x.z0, x.z1, o _ _ x.hr pe.2, x.rS, x.nrp, ?_, ?_, ?_, ?_, ?_, x.n0, x.n5⟩
  · obtain ⟨_, q1, _⟩ := b2
    obtain ⟨_, q2, _⟩ := h2
    obtain ⟨_, q3, _⟩ := m2
    obtain ⟨_, q4, _⟩ := k2
    simp only [Ent.mut, List.mem_cons, List.not_mem_nil, or_false] at hy
    rcases hy with rfl | rfl | rfl | rfl
    · rw [q1]; intro z; cases z
    · rw [q2]; intro z; cases z
    · rw [q3]; intro z; cases z
    · rw [q4]; intro z; cases z
  · refine paired_of (by rw [List.length_set]; exact len) fun j' t' e' h1 h2' => ?_
    by_cases c : j = j'
    · subst c
      rw [et] at h1
      cases h1
      have lt : j < es.length := (List.getElem?_eq_some_iff.mp ee).1
      rw [List.getElem?_set_self lt] at h2'
      cases h2'
      exact ⟨o _ _ E.tup (fun z => E.nt (eS _ z)), E.nt, E.nf, E.fo.out o (fun z => E.nf (eS _ z)), b2, h2, m2, k2, E.inS, E.nd⟩
    · rw [List.getElem?_set_ne c] at h2'
      obtain ⟨e2, h4, E2⟩ := paired_at x.es_ h1
      rw [h2'] at h4
      cases h4
      exact E2.out o eS fun y hy z => x.dj j j' e e' ee h2' c y z hy
  · intro e' he'
    rcases List.mem_or_eq_of_mem_set he' with he' | rfl
    · exact x.pr e' he'
    · exact pe
  · intro j1 j2 e1 e2 h1 h2' hne y hy z
    have at_ : ∀ (q : Nat) (eq : Ent), (es.set j ⟨e.f, e.b, e.h, e.m, e.k, d.mdl e.M, d.kpt e.M e.Kp⟩)[q]? = some eq → ∃ eo, es[q]? = some eo ∧ eo.mut = eq.mut := fun q eq hq => by
      by_cases c : j = q
      · subst c
        have lt : j < es.length := (List.getElem?_eq_some_iff.mp ee).1
        rw [List.getElem?_set_self lt] at hq
        cases hq
        exact ⟨e, ee, rfl⟩
      · rw [List.getElem?_set_ne c] at hq
        exact ⟨eq, hq, rfl⟩
    obtain ⟨f1, g1, q1⟩ := at_ j1 e1 h1
    obtain ⟨f2, g2, q2⟩ := at_ j2 e2 h2'
    rw [← q1] at hy
    rw [← q2] at z
    exact x.dj j1 j2 f1 f2 g1 g2 hne y hy z
  · intro e' he'
    rcases List.mem_or_eq_of_mem_set he' with he' | rfl
    · obtain ⟨g1, g2⟩ := x.gd e' he'
      exact ⟨g1.mono (Nat.le_succ _) fun b hb => List.mem_append_right _ hb, g2.mono (Nat.le_succ _) fun b hb => List.mem_append_right _ hb⟩
    · obtain ⟨g1, g2⟩ := x.gd e (List.mem_of_getElem? ee)
      exact good_deed d g1 g2
  · rw [List.length_append]
    have := x.bl
    have q : d.new.length ≤ 1 := by cases d <;> simp [Deed.new]
    omega
end
end Wa

/-! W4m: the law's body. -/
namespace Wa
open PySem PyProof.Rows L2
theorem room2 {n : Nat} {B : List Int} {e : Ent} (g : GoodE2 n B e) (h : n ≤ 50) : Room2 e.M e.Kp := by
  obtain ⟨g1, g2⟩ := g
  have l1 := g1.len
  have l2 := g2.len
  exact ⟨by omega, fun x => by have := rowOf_le g1 x; omega, by omega, g1.ne⟩
def spLaw (K : PySem.W.Frag) : Sp := fun vs H Q _ => ∃ (s : Addr) (ns : List Int), vs = [.ref s] ∧ SqL K H s (ns.map V.int) ∧ ns.length ≤ 63 ∧ ∀ H', Q (.bl true) H'
section
variable {P : Program} {w : World} {K : PySem.W.Frag} {mg : Str → Option Value} {base : Heap} {a : Ads} {f : Addr} {fd : FuncData} {cc : C16} {cE : Addr}
theorem sc38 : FnScope ["_law_script", "_law_k", "_law_pot_here", "_law_names_here", "_law_row", "_law_turn", "_law_files", "_law_model", "_law_kept", "_law_deed_here"] ["_law_script"] (defScope gLaw) := ⟨rfl, rfl, rfl, by decide +kernel, rfl, by decide +kernel, by decide +kernel⟩
theorem ok_law (T : Txt K mg a) (G16' : G16 mg cc) (R : Four K mg a cc cE) (N : Ms K a) (L : Gs K mg) (F : Fun K "law" "law" gLaw f fd) : FnOk P w K mg base CX0 6 f fd ["_law_script"] (spLaw K) := by
  obtain ⟨fI, fdI, MI, FI, bI⟩ := id N.i
  obtain ⟨f1, fd1, D1⟩ := id N.put
  obtain ⟨f2, fd2, D2⟩ := id N.cut
  obtain ⟨f3, fd3, D3⟩ := id N.hold
  obtain ⟨f4, fd4, D4⟩ := id N.free
  obtain ⟨f5, fd5, D5⟩ := id N.bof
  obtain ⟨f6, fd6, D6⟩ := id N.want
  obtain ⟨g1, gd1, B1⟩ := id L.take
  obtain ⟨g2, gd2, B2⟩ := id L.drawn
  obtain ⟨g3, gd3, B3⟩ := id L.at_
  obtain ⟨g4, gd4, B4⟩ := id L.pot
  obtain ⟨g5, gd5, B5⟩ := id L.name
  obtain ⟨g6, gd6, B6⟩ := id L.names
  obtain ⟨g7, gd7, B7⟩ := id L.birth
  obtain ⟨g8, gd8, B8⟩ := id L.deed
  obtain ⟨g9, gd9, B9⟩ := id L.fdue
  obtain ⟨g10, gd10, B10⟩ := id L.due
  obtain ⟨g11, gd11, B11⟩ := id L.ref
  obtain ⟨g12, gd12, B12⟩ := id L.told
  obtain ⟨g13, gd13, B13⟩ := id L.more
  obtain ⟨g14, gd14, B14⟩ := id L.all
  have GI : FnOk P w K mg base CX0 1 fI fdI ["self"] (spInit a) := ok_init T FI
  have GT : FnOk P w K mg base CX0 1 g1 gd1 ["_law_pot_here", "_law_many"] spTake := ok_take T B1.F
  have GD : FnOk P w K mg base CX0 2 g2 gd2 ["_law_pot_here", "_law_some"] spDrawn := ok_drawn T B2.F B1
  have GP : FnOk P w K mg base CX0 2 g4 gd4 ["_law_script", "_law_k"] (spPot K) := ok_pot T B4.F B3
  have GN : FnOk P w K mg base CX0 4 g6 gd6 ["_law_pot_here"] spNms := ok_names2 T B6.F B1 B2 B5
  have GE : FnOk P w K mg base CX0 4 g8 gd8 ["_law_pot_here", "_law_names_here", "_law_model"] spDeed := ok_deed T B8.F B1 B2 B7
  have GU : FnOk P w K mg base CX0 2 g10 gd10 ["_law_model", "_law_kept", "_law_deed_here"] spDue := ok_due T B10.F B9
  have GL : FnOk P w K mg base CX0 3 g12 gd12 ["_law_files", "_law_deed_here"] (spTold a) := ok_told T G16' R B12.F B11 D1 D2 D3 D4 D5 D6
  have GM : FnOk P w K mg base CX0 4 g13 gd13 ["_law_pot_here", "_law_row"] (spMore a) := ok_more T N L B13.F
  have GA : FnOk P w K mg base CX0 5 g14 gd14 ["_law_row"] (spAll a) := ok_all T N L B14.F
  refine F.ok sc38 (fun vs H Q E h => ?_) (fun cdv A outer s H vs Q E hr hw => ?_)
  · obtain ⟨s, ns, rfl, _⟩ := h
    rfl
  · obtain ⟨s, ns, rfl, hs, hlen, k⟩ := hw
    have hr1 : Room 1 _ := hr.mono (by decide)
    have hr2 : Room 2 _ := hr.mono (by decide)
    have hr3 : Room 3 _ := hr.mono (by decide)
    have hr4 : Room 4 _ := hr.mono (by decide)
    refine ⟨_, pss_cons (ps_for PassesOwn.never rfl (pi_range1 (by rfl) T.range (pa_cons (pe_callB (call_max2 rfl) (by rfl) T.max (by decide +kernel) (pa_cons pe_int (pa_cons (pe_callB (call_min2 rfl) (by rfl) T.min (by decide +kernel) (pa_cons (pe_callB call_len_seq (by rfl) T.len PySem.boot_len (pa_cons (pv 0) pa_nil)) (pa_cons pe_int pa_nil))) pa_nil))) pa_nil)) (pg_name (i := 1) sc38.nd rfl (Or.inl rfl))
        (pss_cons (ps_set (i := 2) sc38.nd rfl (Or.inl rfl) (pe_call GP hr2 rfl B4.g B4.F.kp B4.b .nil pass0 (pa_cons (pv 0) (pa_cons (pv 1) pa_nil))))
        (pss_cons (ps_set (i := 3) sc38.nd rfl (Or.inl rfl) (pe_call GN hr4 rfl B6.g B6.F.kp B6.b .nil pass0 (pa_cons (pv 2) pa_nil)))
        (pss_cons (ps_set (i := 4) sc38.nd rfl (Or.inl rfl) (pe_lst (pa_cons (pe_tup (pa_cons (pe_make0 MI GI hr2 rfl T.mgC bI .nil pass0) (pa_cons pe_dnewK (pa_cons pe_dnewK pa_nil)))) pa_nil)))
        (pss_one (ps_for PassesOwn.never rfl (pi_range1 (by rfl) T.range (pa_cons (pe_op op_add pe_int (pe_call GT hr1 rfl B1.g B1.F.kp B1.b .nil pass0 (pa_cons (pv 2) (pa_cons pe_int pa_nil)))) pa_nil)) (pg_name (i := 5) sc38.nd rfl (Or.inl rfl))
          (pss_cons (ps_if (PW.pt (pw_and (pt_cmpR op_eq (pe_call GT hr1 rfl B1.g B1.F.kp B1.b .nil pass0 (pa_cons (pv 2) (pa_cons pe_int pa_nil))) pe_int (nomark _)) (pw_and1 (pt_cmpR op_lt (pe_callB call_len_seq (by rfl) T.len PySem.boot_len (pa_cons (pv 4) pa_nil)) pe_int (nomark _)))))
              (pss_one (ps_expr (pe_bm PySem.F.plainAttrs_list PySem.F.slot_list_append PySem.F.type_list_append mt_append (pv 4) (pa_cons (pe_call GM hr4 rfl B13.g B13.F.kp B13.b .nil pass0 (pa_cons (pv 2) (pa_cons (pv 4) pa_nil))) pa_nil))))
              (pss_cons (ps_asg (pe_call GD hr2 rfl B2.g B2.F.kp B2.b .nil pass0 (pa_cons (pv 2) (pa_cons (pv 4) pa_nil))) (pg_tup rfl (pgs_cons (pg_name (i := 6) sc38.nd rfl (Or.inl rfl)) (pgs_cons (pg_name (i := 7) sc38.nd rfl (Or.inl rfl)) (pgs_cons (pg_name (i := 8) sc38.nd rfl (Or.inl rfl)) pgs_nil)))))
              (pss_cons (ps_set (i := 9) sc38.nd rfl (Or.inl rfl) (pe_call GE hr4 rfl B8.g B8.F.kp B8.b .nil pass0 (pa_cons (pv 2) (pa_cons (pv 3) (pa_cons (pv 7) pa_nil)))))
              (pss_one (ps_if (pt_cmpR op_ne (pe_call GL hr3 rfl B12.g B12.F.kp B12.b .nil pass0 (pa_cons (pv 6) (pa_cons (pv 9) pa_nil))) (pe_call GU hr2 rfl B10.g B10.F.kp B10.b .nil pass0 (pa_cons (pv 7) (pa_cons (pv 8) (pa_cons (pv 9) pa_nil)))) (nomark _)) (pss_one (ps_ret pe_bl)) pss_nil)))))
          (pss_one (ps_if (pt_not (pt_val (pe_call GA hr rfl B14.g B14.F.kp B14.b .nil pass0 (pa_cons (pv 4) pa_nil)))) (pss_one (ps_ret pe_bl)) pss_nil)))))))))
      (pss_one (ps_ret pe_bl)), ?_⟩
    refine ⟨_, rfl, s, _, rfl, .inl hs, _, _, rfl, _, _, rfl, _, rfl, ?_, ?_, for_it walk_range (fun i σ H1 => ∃ (v1 v2 v3 v4 v5 v6 v7 v8 v9 : Option V), σ = [some (.ref s), v1, v2, v3, v4, v5, v6, v7, v8, v9] ∧ Same H H1)
      ⟨none, none, none, none, none, none, none, none, none, rfl, Same.refl _⟩ (fun _ _ _ _ _ => trivial) ?_ ?_⟩
    · rw [List.length_map]
      split <;> split <;> omega
    · rw [List.length_map]
      split <;> split <;> omega
    · rintro i y σ H1 H2 hi ⟨v1, v2, v3, v4, v5, v6, v7, v8, v9, rfl, s1⟩ ⟨rfl, rfl⟩
      -- pot, names
      refine ⟨_, rfl, _, rfl, s, i, ns, ?_, s1.seq hs, fun p H3 np s3 hp3 => ?_⟩
      · show [V.ref s, V.int (0 + (i : Nat))] = _
        rw [Int.zero_add]
      refine ⟨_, rfl, p, rfl, hp3, fun l zs H4 z0 z1 nl o4 hp4 el => ?_⟩
      -- row = [(Files(), {}, {})]
      intro f' dx' nf nd ndf
      refine ⟨f', dx', rfl, upd_same, fun b' h' H5 nb nh nbh F5 eb eh kp => ⟨rfl, ?_⟩⟩
      intro m' nm k' nk
      refine ⟨(by show 3 ≤ sizeLine; decide), fun t' nt => ⟨(by show 1 ≤ sizeLine; decide), fun r nr => ?_⟩⟩
      have s45 : Same H4 H5 := Same.made nf nd kp
      have pn : ∀ y, (upd (upd H4 dx' (.own f')) f' (.ins a.C dx' [])) y = none → H4 y = none := fun y e => by
        cases q : H4 y with
        | none => rfl
        | some u =>
          have q' : (upd (upd H4 dx' (.own f')) f' (.ins a.C dx' [])) y = some u := by rw [upd_ne (ne_of_none q nf), upd_ne (ne_of_none q nd)]; exact q
          rw [e] at q'
          cases q'
      have trk4 : Trk [p] H4 := fun y hy => by
        obtain ⟨_, _, q, _⟩ := hp4
        rw [List.mem_singleton.mp hy, q]
        intro z
        cases z
      obtain ⟨E0, s56⟩ := ent_new (a := a) (kvs := []) (hvs := []) (M := []) (Kp := []) trk4 nf (pn _ nb) (pn _ nh) nbh s45 F5 ⟨[], eb, .nil⟩ ⟨[], eh, .nil⟩ nm .nil nk .nil nt
      have nk5 : H5 k' = none := (same_new (o := .dK []) nm).free nk
      generalize upd (upd (upd H5 m' (.dK [])) k' (.dK [])) t' (.tup [.ref f', .ref m', .ref k']) = H6 at E0 s56 nr ⊢
      have s46 := s45.trans s56
      have o26 : Out [p] H2 H6 := (Out.of (S := [p]) s3).trans (o4.trans (.of s46))
      have hp6 : PotAt H6 p := hp4.same s46
      have el6 : H6 l = some (.lst (zs.map V.str)) := s46 _ _ el
      have pin4 : ∀ y, H4 y = none → H2 y = none := fun y ny => by
        have np4 : y ≠ p := by
          obtain ⟨_, _, q, _⟩ := hp4
          exact (ne_of_none q ny).symm
        exact s3.free (o4.none ny (by simp [np4]))
      have rp : r ≠ p := by
        obtain ⟨_, _, q, _⟩ := hp6
        exact (ne_of_none q nr).symm
      have lr : l ≠ r := ne_of_none el6 nr
      have s67 : Same H6 (upd H6 r (.lst [.ref t'])) := same_new nr
      have mut6 : ∀ y ∈ [b', h', m', k'] ++ [p], H6 y ≠ none := fun y hy z => by
        have q := E0.nd
        obtain ⟨_, q1, _⟩ := E0.mb
        obtain ⟨_, q2, _⟩ := E0.kh
        obtain ⟨_, q3, _⟩ := E0.mm
        obtain ⟨_, q4, _⟩ := E0.kk
        obtain ⟨_, _, q5, _⟩ := hp6
        simp only [List.cons_append, List.nil_append, List.mem_cons, List.not_mem_nil, or_false] at hy
        rcases hy with rfl | rfl | rfl | rfl | rfl
        · rw [q1] at z; cases z
        · rw [q2] at z; cases z
        · rw [q3] at z; cases z
        · rw [q4] at z; cases z
        · rw [q5] at z; cases z
      have nb4 := pn _ nb
      have nh4 := pn _ nh
      have nm4 := s45.free nm
      have nk4 := s45.free nk5
      have X0 : WI a H2 0 p l r zs (upd H6 r (.lst [.ref t'])) (r :: ([b', h', m', k'] ++ [p])) [t'] [⟨f', b', h', m', k', [], []⟩] [] := by
        refine ⟨fun b u e => ?_, fun y hy => ?_, fun y hy => ?_, hp6.same s67, by simp, s67 _ _ el6, ?_, z0, z1, upd_same, List.mem_cons_self, rp, .cons ?_ .nil, fun e he => ?_, fun j1 j2 e1 e2 g1 g2 hne => ?_, fun e he => ?_, Nat.le_refl _, Nat.zero_lt_one, (by show 1 ≤ 5; decide)⟩
        · have q := ne_of_none e np
          exact s67 b u (o26 b u e (by simp [q]))
        · rcases List.mem_cons.mp hy with rfl | hy
          · exact pin4 _ (s46.free nr)
          · simp only [List.cons_append, List.nil_append, List.mem_cons, List.not_mem_nil, or_false] at hy
            rcases hy with rfl | rfl | rfl | rfl | rfl
            · exact pin4 _ nb4
            · exact pin4 _ nh4
            · exact pin4 _ nm4
            · exact pin4 _ nk4
            · exact np
        · rcases List.mem_cons.mp hy with rfl | hy
          · rw [upd_same]
            intro z
            cases z
          · rw [upd_ne (fun z => mut6 y hy (by rw [z]; exact nr))]
            exact mut6 y hy
        · intro z
          rcases List.mem_cons.mp z with z | z
          · exact lr z
          · simp only [List.cons_append, List.nil_append, List.mem_cons, List.not_mem_nil, or_false] at z
            rcases z with rfl | rfl | rfl | rfl | rfl
            · rw [nb4] at el; cases el
            · rw [nh4] at el; cases el
            · rw [nm4] at el; cases el
            · rw [nk4] at el; cases el
            · obtain ⟨_, _, q, _⟩ := hp3
              rw [q] at nl
              cases nl
        · refine (E0.grow (fun y hy => List.mem_cons_of_mem _ hy) fun y hy => ?_).same s67
          rcases List.mem_cons.mp hy with rfl | hy
          · exact .inr nr
          · exact .inl hy
        · rw [List.mem_singleton.mp he]
          constructor
          · intro z
            simp only [Ent.mut, List.mem_cons, List.not_mem_nil, or_false] at z
            obtain ⟨_, _, q, _⟩ := hp4
            rcases z with rfl | rfl | rfl | rfl
            · rw [nb4] at q; cases q
            · rw [nh4] at q; cases q
            · rw [nm4] at q; cases q
            · rw [nk4] at q; cases q
          · intro z
            exact mut6 r (List.mem_append_left _ z) nr
        · have d1 := (List.getElem?_eq_some_iff.mp g1).1
          have d2 := (List.getElem?_eq_some_iff.mp g2).1
          simp only [List.length_singleton] at d1 d2
          omega
        · rw [List.mem_singleton.mp he]
          exact ⟨Good.nil, GoodK.nil⟩
      generalize upd H6 r (.lst [.ref t']) = H7 at X0 ⊢
      -- for turn in range(6 + ..)
      refine ⟨_, rfl, p, 35, rfl, X0.hp, by decide, by decide, fun d H8 d0 d1 o8 hp8 => ?_⟩
      refine ⟨_, _, rfl, rfl, _, rfl, by omega, by omega, for_it walk_range (fun j σ H9 => ∃ (v5 v6 v7 v8 v9 : Option V) (S ts : List Addr) (es : List Ent) (B : List Int), σ = [some (.ref s), some (.int (0 + (i : Nat))), some (.ref p), some (.ref l), some (.ref r), v5, v6, v7, v8, v9] ∧ WI a H2 j p l r zs H9 S ts es B)
        ⟨_, _, _, _, _, _, _, _, _, rfl, X0.pot o8 hp8⟩ (fun _ _ _ _ _ => trivial) ?_ ?_⟩
      · rintro j y σ H9 H10 hj ⟨w5, w6, w7, w8, w9, S, ts, es, B, rfl, X⟩ ⟨rfl, rfl⟩
        have j40 : j < 40 := by omega
        have bl := X.bl
        have n5 := X.n5
        refine ⟨_, rfl, p, 4, rfl, X.hp, by decide, by decide, fun d2 H11 e0 e1 o11 hp11 => ⟨rfl, _, rfl, ?_⟩⟩
        have X1 := X.pot o11 hp11
        have two : ∀ {b1 : Bool} {C A B : Prop}, (B → C) → B → if b1 = true then C else (if false = true then A else B) := fun {b1 C A B} hC hB => by
          cases b1 with
          | true => exact iteT (hC hB)
          | false => exact iteF (iteF hB)
        refine two (fun els => ?_) ?_
        · -- len(row) < 5
          refine ⟨_, rfl, r, _, rfl, .inl (SqL.of X1.hr), _, _, rfl, rfl, _, rfl, ?_⟩
          rw [List.length_map]
          by_cases c : ts.length < 5
          · rw [decide_eq_true (by omega : ((ts.length : Nat) : Int) < 5)]
            refine iteT ?_
            refine ⟨_, rfl, .inl ⟨rfl, _, SqL.of X1.hr⟩, _, rfl, _, rfl, p, r, ts, es, S, j, B, rfl, X1.hp, X1.pS, X1.hr, X1.nrp, X1.es_, X1.n0, by omega, X1.trk, fun e he => ⟨X1.gd e he, (X1.pr e he).1⟩, by omega, fun e' t2 H12 o12 hp12 fresh E g => ?_⟩
            have X2 := (X1.more o12 hp12 fresh E g c).next
            refine ⟨r, _, _, rfl, rfl, o12 _ _ X1.hr (by simp [X1.nrp]), ?_, ?_⟩
            · rw [List.length_map]
              exact small1000 (by omega)
            refine ⟨_, rfl, r, _, _, _, j + 1, B, rfl, X2.hr, X2.es_, X2.trk, X2.gd, by omega, by omega, fun H13 s13 => ⟨true, rfl, iteF ?_⟩⟩
            exact ⟨_, _, _, _, _, _, _, _, _, rfl, X2.same s13⟩
          · rw [decide_eq_false (by omega : ¬ ((ts.length : Nat) : Int) < 5)]
            exact iteF els
        · -- a deed on one of them
          refine ⟨_, rfl, _, rfl, p, _, rfl, X1.hp, .inl ⟨r, _, rfl, X1.hr, X1.nrp, (by rw [List.length_map]; exact X1.n0), (by rw [List.length_map]; omega), fun jj x H12 hi2 o12 hp12 => ?_⟩⟩
          have X2 := X1.pot o12 hp12
          obtain ⟨t2, et, rfl⟩ : ∃ t2, ts[jj]? = some t2 ∧ x = V.ref t2 := by
            rw [List.getElem?_map] at hi2
            cases q : ts[jj]? with
            | none =>
              rw [q] at hi2
              cases hi2
            | some t2 =>
              rw [q] at hi2
              exact ⟨t2, rfl, (Option.some.inj hi2).symm⟩
          obtain ⟨e, ee, he2⟩ := paired_at X2.es_ et
          have emem := List.mem_of_getElem? ee
          have rm := room2 (X2.gd e emem) (by omega)
          refine ⟨t2, _, rfl, SqT.of he2.tup, rfl, _, _, rfl, _, _, rfl, _, _, rfl, rfl, ?_⟩
          have nlp : l ≠ p := fun z => X2.lS (by rw [z]; exact X2.pS)
          refine ⟨_, rfl, _, rfl, _, rfl, p, l, e.m, zs, e.M, S, rfl, X2.hp, X2.hl, nlp, X2.z0, X2.z1, he2.mm, X2.pS, fun x => Nat.le_of_lt (rm.rl x), fun dd td H13 ntd o13 hp13 etd => ?_⟩
          have X3 := X2.pot o13 hp13
          obtain ⟨e', ee', he3⟩ := paired_at X3.es_ et
          rw [ee] at ee'
          cases ee'
          have tdS : td ∉ S := fun z => X2.trk td z ntd
          obtain ⟨n1, n2, n3, n4, n5', n6⟩ := mut_ne he3.nd
          have iS := he3.inS
          have ib : e.b ∈ S := iS _ (by simp [Ent.mut])
          have ih : e.h ∈ S := iS _ (by simp [Ent.mut])
          have im : e.m ∈ S := iS _ (by simp [Ent.mut])
          have ik : e.k ∈ S := iS _ (by simp [Ent.mut])
          refine ⟨_, rfl, _, rfl, e.f, e.b, e.h, td, dd, e.M, e.Kp, S, rfl, he3.fo, he3.mb, he3.kh, ib, ih, n1, X3.trk, etd, rm, fun H14 o14 m14 k14 => ?_⟩
          have w14 : ∀ y ∈ [e.b, e.h], y ∈ S := fun y hy => by
            simp only [List.mem_cons, List.not_mem_nil, or_false] at hy
            rcases hy with rfl | rfl
            · exact ib
            · exact ih
          have trk14 : Trk S H14 := X3.trk.out o14 fun y hy => by
            obtain ⟨_, q1, _⟩ := m14
            obtain ⟨_, q2, _⟩ := k14
            simp only [List.mem_cons, List.not_mem_nil, or_false] at hy
            rcases hy with rfl | rfl
            · rw [q1]; intro z; cases z
            · rw [q2]; intro z; cases z
          have mm14 : MAt S H14 e.m e.M := he3.mm.out (o14.mono w14) fun u q => o14 _ u q (by simp [n2.symm, n4.symm])
          have kk14 : KAt S H14 e.k e.Kp := he3.kk.out (o14.mono w14) fun u q => o14 _ u q (by simp [n3.symm, n5'.symm])
          refine ⟨_, rfl, _, rfl, _, rfl, e.m, e.k, td, dd, e.M, e.Kp, S, rfl, mm14, kk14, im, ik, n6, trk14, o14 _ _ etd (fun z => tdS (w14 _ z)), rm, fun H15 o15 m15 k15 => ?_⟩
          refine ⟨rfl, _, rfl, ?_⟩
          rw [decide_eq_true rfl]
          refine iteF ?_
          have X4 := X3.deed et ee o14 m14 k14 o15 m15 k15
          have bl4 := X4.bl
          refine ⟨_, rfl, r, _, _, _, j + 1, _, rfl, X4.hr, X4.es_, X4.trk, X4.gd, by omega, by omega, fun H16 s16 => ⟨true, rfl, iteF ?_⟩⟩
          exact ⟨_, _, _, _, _, _, _, _, _, rfl, X4.same s16⟩
      · rintro σ H9 ⟨w5, w6, w7, w8, w9, S, ts, es, B, rfl, X⟩
        exact ⟨_, _, _, _, _, _, _, _, _, rfl, s1.trans X.s0⟩
    · rintro σ H1 ⟨v1, v2, v3, v4, v5, v6, v7, v8, v9, rfl, s1⟩
      exact k _
end
end Wa

/-! WZ: what the top has written, and the head. -/
namespace Wa
open PySem PyProof.Rows L2
section
variable {K : PySem.W.Frag} {h : Heap} {mg : Str → Option Value} {C x1 x2 x3 x4 f : Addr} {od an : Option Addr} {sl : Array (Option Value)} {oc kV dc pm cd ct : Value}
theorem z_init (mk : PySem.W.makesIn K C = true) (a : PySem.W.findIn K (.ref C) "__init__" = some (some (.ref f))) (i : PySem.W.isFn K (.ref f) = true) (kc : PySem.W.keepIn K (.ref C) = true) (l : K.lookup f = some ⟨oc, od, .func (PySem.W.fnOf "__init__" "Files.__init__" (defArgs mInit) (defBody mInit) (defScope mInit) .none kV dc pm an cd ct), sl⟩) (c : PySem.W.codeIn K cd "Files.__init__" = true) (k : PySem.W.keepIn K (.ref f) = true) : ∃ g fd, Mk K (Ads.mk C x1 x2 x3 x4).C g ∧ Fun K "__init__" "Files.__init__" mInit g fd ∧ Binds K fd ["self"] [] := by
  have F := fun_mk (st := mInit) l c k
  exact ⟨_, _, ⟨mk, a, i, kc⟩, F, F.binds (ps := ["self"]) fun _ _ _ _ _ _ us hl => match us, hl with | [_], _ => rfl⟩
theorem z_m_names (a : PySem.W.findIn K (.ref C) "names" = some (some (.ref f))) (i : PySem.W.isFn K (.ref f) = true) (l : K.lookup f = some ⟨oc, od, .func (PySem.W.fnOf "names" "Files.names" (defArgs mNames) (defBody mNames) (defScope mNames) .none kV dc pm an cd ct), sl⟩) (c : PySem.W.codeIn K cd "Files.names" = true) (k : PySem.W.keepIn K (.ref f) = true) : ∃ g fd, MF K (Ads.mk C x1 x2 x3 x4) "names" "Files.names" mNames ["self"] g fd := by
  have F := fun_mk (st := mNames) l c k
  exact ⟨_, _, F, ⟨a, i, k⟩, F.binds (ps := ["self"]) fun _ _ _ _ _ _ us hl => match us, hl with | [_], _ => rfl⟩
theorem z_m_bof (a : PySem.W.findIn K (.ref C) "births_of" = some (some (.ref f))) (i : PySem.W.isFn K (.ref f) = true) (l : K.lookup f = some ⟨oc, od, .func (PySem.W.fnOf "births_of" "Files.births_of" (defArgs mBof) (defBody mBof) (defScope mBof) .none kV dc pm an cd ct), sl⟩) (c : PySem.W.codeIn K cd "Files.births_of" = true) (k : PySem.W.keepIn K (.ref f) = true) : ∃ g fd, MF K (Ads.mk C x1 x2 x3 x4) "births_of" "Files.births_of" mBof ["self", "file"] g fd := by
  have F := fun_mk (st := mBof) l c k
  exact ⟨_, _, F, ⟨a, i, k⟩, F.binds (ps := ["self", "file"]) fun _ _ _ _ _ _ us hl => match us, hl with | [_, _], _ => rfl⟩
theorem z_m_many (a : PySem.W.findIn K (.ref C) "many" = some (some (.ref f))) (i : PySem.W.isFn K (.ref f) = true) (l : K.lookup f = some ⟨oc, od, .func (PySem.W.fnOf "many" "Files.many" (defArgs mMany) (defBody mMany) (defScope mMany) .none kV dc pm an cd ct), sl⟩) (c : PySem.W.codeIn K cd "Files.many" = true) (k : PySem.W.keepIn K (.ref f) = true) : ∃ g fd, MF K (Ads.mk C x1 x2 x3 x4) "many" "Files.many" mMany ["self", "file"] g fd := by
  have F := fun_mk (st := mMany) l c k
  exact ⟨_, _, F, ⟨a, i, k⟩, F.binds (ps := ["self", "file"]) fun _ _ _ _ _ _ us hl => match us, hl with | [_, _], _ => rfl⟩
theorem z_m_birth (a : PySem.W.findIn K (.ref C) "birth" = some (some (.ref f))) (i : PySem.W.isFn K (.ref f) = true) (l : K.lookup f = some ⟨oc, od, .func (PySem.W.fnOf "birth" "Files.birth" (defArgs mBirth) (defBody mBirth) (defScope mBirth) .none kV dc pm an cd ct), sl⟩) (c : PySem.W.codeIn K cd "Files.birth" = true) (k : PySem.W.keepIn K (.ref f) = true) : ∃ g fd, MF K (Ads.mk C x1 x2 x3 x4) "birth" "Files.birth" mBirth ["self", "file", "place"] g fd := by
  have F := fun_mk (st := mBirth) l c k
  exact ⟨_, _, F, ⟨a, i, k⟩, F.binds (ps := ["self", "file", "place"]) fun _ _ _ _ _ _ us hl => match us, hl with | [_, _, _], _ => rfl⟩
theorem z_m_put (a : PySem.W.findIn K (.ref C) "put" = some (some (.ref f))) (i : PySem.W.isFn K (.ref f) = true) (l : K.lookup f = some ⟨oc, od, .func (PySem.W.fnOf "put" "Files.put" (defArgs mPut) (defBody mPut) (defScope mPut) .none kV dc pm an cd ct), sl⟩) (c : PySem.W.codeIn K cd "Files.put" = true) (k : PySem.W.keepIn K (.ref f) = true) : ∃ g fd, MF K (Ads.mk C x1 x2 x3 x4) "put" "Files.put" mPut ["self", "file", "place", "birth"] g fd := by
  have F := fun_mk (st := mPut) l c k
  exact ⟨_, _, F, ⟨a, i, k⟩, F.binds (ps := ["self", "file", "place", "birth"]) fun _ _ _ _ _ _ us hl => match us, hl with | [_, _, _, _], _ => rfl⟩
theorem z_m_cut (a : PySem.W.findIn K (.ref C) "cut" = some (some (.ref f))) (i : PySem.W.isFn K (.ref f) = true) (l : K.lookup f = some ⟨oc, od, .func (PySem.W.fnOf "cut" "Files.cut" (defArgs mCut) (defBody mCut) (defScope mCut) .none kV dc pm an cd ct), sl⟩) (c : PySem.W.codeIn K cd "Files.cut" = true) (k : PySem.W.keepIn K (.ref f) = true) : ∃ g fd, MF K (Ads.mk C x1 x2 x3 x4) "cut" "Files.cut" mCut ["self", "file", "many"] g fd := by
  have F := fun_mk (st := mCut) l c k
  exact ⟨_, _, F, ⟨a, i, k⟩, F.binds (ps := ["self", "file", "many"]) fun _ _ _ _ _ _ us hl => match us, hl with | [_, _, _], _ => rfl⟩
theorem z_m_hold (a : PySem.W.findIn K (.ref C) "hold" = some (some (.ref f))) (i : PySem.W.isFn K (.ref f) = true) (l : K.lookup f = some ⟨oc, od, .func (PySem.W.fnOf "hold" "Files.hold" (defArgs mHold) (defBody mHold) (defScope mHold) .none kV dc pm an cd ct), sl⟩) (c : PySem.W.codeIn K cd "Files.hold" = true) (k : PySem.W.keepIn K (.ref f) = true) : ∃ g fd, MF K (Ads.mk C x1 x2 x3 x4) "hold" "Files.hold" mHold ["self", "name"] g fd := by
  have F := fun_mk (st := mHold) l c k
  exact ⟨_, _, F, ⟨a, i, k⟩, F.binds (ps := ["self", "name"]) fun _ _ _ _ _ _ us hl => match us, hl with | [_, _], _ => rfl⟩
theorem z_m_want (a : PySem.W.findIn K (.ref C) "want_held" = some (some (.ref f))) (i : PySem.W.isFn K (.ref f) = true) (l : K.lookup f = some ⟨oc, od, .func (PySem.W.fnOf "want_held" "Files.want_held" (defArgs mWant) (defBody mWant) (defScope mWant) .none kV dc pm an cd ct), sl⟩) (c : PySem.W.codeIn K cd "Files.want_held" = true) (k : PySem.W.keepIn K (.ref f) = true) : ∃ g fd, MF K (Ads.mk C x1 x2 x3 x4) "want_held" "Files.want_held" mWant ["self", "name"] g fd := by
  have F := fun_mk (st := mWant) l c k
  exact ⟨_, _, F, ⟨a, i, k⟩, F.binds (ps := ["self", "name"]) fun _ _ _ _ _ _ us hl => match us, hl with | [_, _], _ => rfl⟩
theorem z_m_free (a : PySem.W.findIn K (.ref C) "free" = some (some (.ref f))) (i : PySem.W.isFn K (.ref f) = true) (l : K.lookup f = some ⟨oc, od, .func (PySem.W.fnOf "free" "Files.free" (defArgs mFree) (defBody mFree) (defScope mFree) .none kV dc pm an cd ct), sl⟩) (c : PySem.W.codeIn K cd "Files.free" = true) (k : PySem.W.keepIn K (.ref f) = true) : ∃ g fd, MF K (Ads.mk C x1 x2 x3 x4) "free" "Files.free" mFree ["self", "name"] g fd := by
  have F := fun_mk (st := mFree) l c k
  exact ⟨_, _, F, ⟨a, i, k⟩, F.binds (ps := ["self", "name"]) fun _ _ _ _ _ _ us hl => match us, hl with | [_, _], _ => rfl⟩
theorem z_m_held (a : PySem.W.findIn K (.ref C) "held" = some (some (.ref f))) (i : PySem.W.isFn K (.ref f) = true) (l : K.lookup f = some ⟨oc, od, .func (PySem.W.fnOf "held" "Files.held" (defArgs mHeld) (defBody mHeld) (defScope mHeld) .none kV dc pm an cd ct), sl⟩) (c : PySem.W.codeIn K cd "Files.held" = true) (k : PySem.W.keepIn K (.ref f) = true) : ∃ g fd, MF K (Ads.mk C x1 x2 x3 x4) "held" "Files.held" mHeld ["self"] g fd := by
  have F := fun_mk (st := mHeld) l c k
  exact ⟨_, _, F, ⟨a, i, k⟩, F.binds (ps := ["self"]) fun _ _ _ _ _ _ us hl => match us, hl with | [_], _ => rfl⟩
theorem z_m_ofh (a : PySem.W.findIn K (.ref C) "of_held" = some (some (.ref f))) (i : PySem.W.isFn K (.ref f) = true) (l : K.lookup f = some ⟨oc, od, .func (PySem.W.fnOf "of_held" "Files.of_held" (defArgs mOfh) (defBody mOfh) (defScope mOfh) .none kV dc pm an cd ct), sl⟩) (c : PySem.W.codeIn K cd "Files.of_held" = true) (k : PySem.W.keepIn K (.ref f) = true) : ∃ g fd, MF K (Ads.mk C x1 x2 x3 x4) "of_held" "Files.of_held" mOfh ["self", "name"] g fd := by
  have F := fun_mk (st := mOfh) l c k
  exact ⟨_, _, F, ⟨a, i, k⟩, F.binds (ps := ["self", "name"]) fun _ _ _ _ _ _ us hl => match us, hl with | [_, _], _ => rfl⟩
theorem z_m_liv (a : PySem.W.findIn K (.ref C) "living" = some (some (.ref f))) (i : PySem.W.isFn K (.ref f) = true) (l : K.lookup f = some ⟨oc, od, .func (PySem.W.fnOf "living" "Files.living" (defArgs mLiv) (defBody mLiv) (defScope mLiv) .none kV dc pm an cd ct), sl⟩) (c : PySem.W.codeIn K cd "Files.living" = true) (k : PySem.W.keepIn K (.ref f) = true) : ∃ g fd, MF K (Ads.mk C x1 x2 x3 x4) "living" "Files.living" mLiv ["self"] g fd := by
  have F := fun_mk (st := mLiv) l c k
  exact ⟨_, _, F, ⟨a, i, k⟩, F.binds (ps := ["self"]) fun _ _ _ _ _ _ us hl => match us, hl with | [_], _ => rfl⟩
theorem z_m_cop (a : PySem.W.findIn K (.ref C) "copied" = some (some (.ref f))) (i : PySem.W.isFn K (.ref f) = true) (l : K.lookup f = some ⟨oc, od, .func (PySem.W.fnOf "copied" "Files.copied" (defArgs mCop) (defBody mCop) (defScope mCop) .none kV dc pm an cd ct), sl⟩) (c : PySem.W.codeIn K cd "Files.copied" = true) (k : PySem.W.keepIn K (.ref f) = true) : ∃ g fd, MF K (Ads.mk C x1 x2 x3 x4) "copied" "Files.copied" mCop ["self"] g fd := by
  have F := fun_mk (st := mCop) l c k
  exact ⟨_, _, F, ⟨a, i, k⟩, F.binds (ps := ["self"]) fun _ _ _ _ _ _ us hl => match us, hl with | [_], _ => rfl⟩
theorem z_g_at_ (X : K.In h) (G : h.Ns mainGlobals mg) (a : PySem.W.nsIn K mainGlobals "_law_at" = some (some (.ref f))) (l : K.lookup f = some ⟨oc, od, .func (PySem.W.fnOf "_law_at" "_law_at" (defArgs gAt) (defBody gAt) (defScope gAt) .none kV dc pm an cd ct), sl⟩) (c : PySem.W.codeIn K cd "_law_at" = true) (k : PySem.W.keepIn K (.ref f) = true) : ∃ g fd, GF K mg "_law_at" gAt ["_law_script", "_law_k"] g fd := by
  have F := fun_mk (st := gAt) l c k
  exact ⟨_, _, F, PySem.W.mg_of X G a, F.binds (ps := ["_law_script", "_law_k"]) fun _ _ _ _ _ _ us hl => match us, hl with | [_, _], _ => rfl⟩
theorem z_g_pot (X : K.In h) (G : h.Ns mainGlobals mg) (a : PySem.W.nsIn K mainGlobals "_law_pot" = some (some (.ref f))) (l : K.lookup f = some ⟨oc, od, .func (PySem.W.fnOf "_law_pot" "_law_pot" (defArgs gPot) (defBody gPot) (defScope gPot) .none kV dc pm an cd ct), sl⟩) (c : PySem.W.codeIn K cd "_law_pot" = true) (k : PySem.W.keepIn K (.ref f) = true) : ∃ g fd, GF K mg "_law_pot" gPot ["_law_script", "_law_k"] g fd := by
  have F := fun_mk (st := gPot) l c k
  exact ⟨_, _, F, PySem.W.mg_of X G a, F.binds (ps := ["_law_script", "_law_k"]) fun _ _ _ _ _ _ us hl => match us, hl with | [_, _], _ => rfl⟩
theorem z_g_take (X : K.In h) (G : h.Ns mainGlobals mg) (a : PySem.W.nsIn K mainGlobals "_law_take" = some (some (.ref f))) (l : K.lookup f = some ⟨oc, od, .func (PySem.W.fnOf "_law_take" "_law_take" (defArgs gTake) (defBody gTake) (defScope gTake) .none kV dc pm an cd ct), sl⟩) (c : PySem.W.codeIn K cd "_law_take" = true) (k : PySem.W.keepIn K (.ref f) = true) : ∃ g fd, GF K mg "_law_take" gTake ["_law_pot_here", "_law_many"] g fd := by
  have F := fun_mk (st := gTake) l c k
  exact ⟨_, _, F, PySem.W.mg_of X G a, F.binds (ps := ["_law_pot_here", "_law_many"]) fun _ _ _ _ _ _ us hl => match us, hl with | [_, _], _ => rfl⟩
theorem z_g_drawn (X : K.In h) (G : h.Ns mainGlobals mg) (a : PySem.W.nsIn K mainGlobals "_law_drawn" = some (some (.ref f))) (l : K.lookup f = some ⟨oc, od, .func (PySem.W.fnOf "_law_drawn" "_law_drawn" (defArgs gDrawn) (defBody gDrawn) (defScope gDrawn) .none kV dc pm an cd ct), sl⟩) (c : PySem.W.codeIn K cd "_law_drawn" = true) (k : PySem.W.keepIn K (.ref f) = true) : ∃ g fd, GF K mg "_law_drawn" gDrawn ["_law_pot_here", "_law_some"] g fd := by
  have F := fun_mk (st := gDrawn) l c k
  exact ⟨_, _, F, PySem.W.mg_of X G a, F.binds (ps := ["_law_pot_here", "_law_some"]) fun _ _ _ _ _ _ us hl => match us, hl with | [_, _], _ => rfl⟩
theorem z_g_name (X : K.In h) (G : h.Ns mainGlobals mg) (a : PySem.W.nsIn K mainGlobals "_law_name" = some (some (.ref f))) (l : K.lookup f = some ⟨oc, od, .func (PySem.W.fnOf "_law_name" "_law_name" (defArgs gNm) (defBody gNm) (defScope gNm) .none kV dc pm an cd ct), sl⟩) (c : PySem.W.codeIn K cd "_law_name" = true) (k : PySem.W.keepIn K (.ref f) = true) : ∃ g fd, GF K mg "_law_name" gNm ["_law_pot_here"] g fd := by
  have F := fun_mk (st := gNm) l c k
  exact ⟨_, _, F, PySem.W.mg_of X G a, F.binds (ps := ["_law_pot_here"]) fun _ _ _ _ _ _ us hl => match us, hl with | [_], _ => rfl⟩
theorem z_g_names (X : K.In h) (G : h.Ns mainGlobals mg) (a : PySem.W.nsIn K mainGlobals "_law_names" = some (some (.ref f))) (l : K.lookup f = some ⟨oc, od, .func (PySem.W.fnOf "_law_names" "_law_names" (defArgs gNms) (defBody gNms) (defScope gNms) .none kV dc pm an cd ct), sl⟩) (c : PySem.W.codeIn K cd "_law_names" = true) (k : PySem.W.keepIn K (.ref f) = true) : ∃ g fd, GF K mg "_law_names" gNms ["_law_pot_here"] g fd := by
  have F := fun_mk (st := gNms) l c k
  exact ⟨_, _, F, PySem.W.mg_of X G a, F.binds (ps := ["_law_pot_here"]) fun _ _ _ _ _ _ us hl => match us, hl with | [_], _ => rfl⟩
theorem z_g_birth (X : K.In h) (G : h.Ns mainGlobals mg) (a : PySem.W.nsIn K mainGlobals "_law_birth" = some (some (.ref f))) (l : K.lookup f = some ⟨oc, od, .func (PySem.W.fnOf "_law_birth" "_law_birth" (defArgs gBirth) (defBody gBirth) (defScope gBirth) .none kV dc pm an cd ct), sl⟩) (c : PySem.W.codeIn K cd "_law_birth" = true) (k : PySem.W.keepIn K (.ref f) = true) : ∃ g fd, GF K mg "_law_birth" gBirth ["_law_pot_here"] g fd := by
  have F := fun_mk (st := gBirth) l c k
  exact ⟨_, _, F, PySem.W.mg_of X G a, F.binds (ps := ["_law_pot_here"]) fun _ _ _ _ _ _ us hl => match us, hl with | [_], _ => rfl⟩
theorem z_g_deed (X : K.In h) (G : h.Ns mainGlobals mg) (a : PySem.W.nsIn K mainGlobals "_law_deed" = some (some (.ref f))) (l : K.lookup f = some ⟨oc, od, .func (PySem.W.fnOf "_law_deed" "_law_deed" (defArgs gDeed) (defBody gDeed) (defScope gDeed) .none kV dc pm an cd ct), sl⟩) (c : PySem.W.codeIn K cd "_law_deed" = true) (k : PySem.W.keepIn K (.ref f) = true) : ∃ g fd, GF K mg "_law_deed" gDeed ["_law_pot_here", "_law_names_here", "_law_model"] g fd := by
  have F := fun_mk (st := gDeed) l c k
  exact ⟨_, _, F, PySem.W.mg_of X G a, F.binds (ps := ["_law_pot_here", "_law_names_here", "_law_model"]) fun _ _ _ _ _ _ us hl => match us, hl with | [_, _, _], _ => rfl⟩
theorem z_g_fdue (X : K.In h) (G : h.Ns mainGlobals mg) (a : PySem.W.nsIn K mainGlobals "_law_files_due" = some (some (.ref f))) (l : K.lookup f = some ⟨oc, od, .func (PySem.W.fnOf "_law_files_due" "_law_files_due" (defArgs gFdue) (defBody gFdue) (defScope gFdue) .none kV dc pm an cd ct), sl⟩) (c : PySem.W.codeIn K cd "_law_files_due" = true) (k : PySem.W.keepIn K (.ref f) = true) : ∃ g fd, GF K mg "_law_files_due" gFdue ["_law_model", "_law_deed_here"] g fd := by
  have F := fun_mk (st := gFdue) l c k
  exact ⟨_, _, F, PySem.W.mg_of X G a, F.binds (ps := ["_law_model", "_law_deed_here"]) fun _ _ _ _ _ _ us hl => match us, hl with | [_, _], _ => rfl⟩
theorem z_g_due (X : K.In h) (G : h.Ns mainGlobals mg) (a : PySem.W.nsIn K mainGlobals "_law_due" = some (some (.ref f))) (l : K.lookup f = some ⟨oc, od, .func (PySem.W.fnOf "_law_due" "_law_due" (defArgs gDue) (defBody gDue) (defScope gDue) .none kV dc pm an cd ct), sl⟩) (c : PySem.W.codeIn K cd "_law_due" = true) (k : PySem.W.keepIn K (.ref f) = true) : ∃ g fd, GF K mg "_law_due" gDue ["_law_model", "_law_kept", "_law_deed_here"] g fd := by
  have F := fun_mk (st := gDue) l c k
  exact ⟨_, _, F, PySem.W.mg_of X G a, F.binds (ps := ["_law_model", "_law_kept", "_law_deed_here"]) fun _ _ _ _ _ _ us hl => match us, hl with | [_, _, _], _ => rfl⟩
theorem z_g_ref (X : K.In h) (G : h.Ns mainGlobals mg) (a : PySem.W.nsIn K mainGlobals "_law_refusal" = some (some (.ref f))) (l : K.lookup f = some ⟨oc, od, .func (PySem.W.fnOf "_law_refusal" "_law_refusal" (defArgs gRef) (defBody gRef) (defScope gRef) .none kV dc pm an cd ct), sl⟩) (c : PySem.W.codeIn K cd "_law_refusal" = true) (k : PySem.W.keepIn K (.ref f) = true) : ∃ g fd, GF K mg "_law_refusal" gRef ["_law_e"] g fd := by
  have F := fun_mk (st := gRef) l c k
  exact ⟨_, _, F, PySem.W.mg_of X G a, F.binds (ps := ["_law_e"]) fun _ _ _ _ _ _ us hl => match us, hl with | [_], _ => rfl⟩
theorem z_g_told (X : K.In h) (G : h.Ns mainGlobals mg) (a : PySem.W.nsIn K mainGlobals "_law_told" = some (some (.ref f))) (l : K.lookup f = some ⟨oc, od, .func (PySem.W.fnOf "_law_told" "_law_told" (defArgs gTold) (defBody gTold) (defScope gTold) .none kV dc pm an cd ct), sl⟩) (c : PySem.W.codeIn K cd "_law_told" = true) (k : PySem.W.keepIn K (.ref f) = true) : ∃ g fd, GF K mg "_law_told" gTold ["_law_files", "_law_deed_here"] g fd := by
  have F := fun_mk (st := gTold) l c k
  exact ⟨_, _, F, PySem.W.mg_of X G a, F.binds (ps := ["_law_files", "_law_deed_here"]) fun _ _ _ _ _ _ us hl => match us, hl with | [_, _], _ => rfl⟩
theorem z_g_ism (X : K.In h) (G : h.Ns mainGlobals mg) (a : PySem.W.nsIn K mainGlobals "_law_is_model" = some (some (.ref f))) (l : K.lookup f = some ⟨oc, od, .func (PySem.W.fnOf "_law_is_model" "_law_is_model" (defArgs gIsm) (defBody gIsm) (defScope gIsm) .none kV dc pm an cd ct), sl⟩) (c : PySem.W.codeIn K cd "_law_is_model" = true) (k : PySem.W.keepIn K (.ref f) = true) : ∃ g fd, GF K mg "_law_is_model" gIsm ["_law_files", "_law_model"] g fd := by
  have F := fun_mk (st := gIsm) l c k
  exact ⟨_, _, F, PySem.W.mg_of X G a, F.binds (ps := ["_law_files", "_law_model"]) fun _ _ _ _ _ _ us hl => match us, hl with | [_, _], _ => rfl⟩
theorem z_g_liv (X : K.In h) (G : h.Ns mainGlobals mg) (a : PySem.W.nsIn K mainGlobals "_law_living" = some (some (.ref f))) (l : K.lookup f = some ⟨oc, od, .func (PySem.W.fnOf "_law_living" "_law_living" (defArgs gLiv) (defBody gLiv) (defScope gLiv) .none kV dc pm an cd ct), sl⟩) (c : PySem.W.codeIn K cd "_law_living" = true) (k : PySem.W.keepIn K (.ref f) = true) : ∃ g fd, GF K mg "_law_living" gLiv ["_law_model", "_law_kept"] g fd := by
  have F := fun_mk (st := gLiv) l c k
  exact ⟨_, _, F, PySem.W.mg_of X G a, F.binds (ps := ["_law_model", "_law_kept"]) fun _ _ _ _ _ _ us hl => match us, hl with | [_, _], _ => rfl⟩
theorem z_g_are (X : K.In h) (G : h.Ns mainGlobals mg) (a : PySem.W.nsIn K mainGlobals "_law_are_held" = some (some (.ref f))) (l : K.lookup f = some ⟨oc, od, .func (PySem.W.fnOf "_law_are_held" "_law_are_held" (defArgs gAre) (defBody gAre) (defScope gAre) .none kV dc pm an cd ct), sl⟩) (c : PySem.W.codeIn K cd "_law_are_held" = true) (k : PySem.W.keepIn K (.ref f) = true) : ∃ g fd, GF K mg "_law_are_held" gAre ["_law_files", "_law_kept"] g fd := by
  have F := fun_mk (st := gAre) l c k
  exact ⟨_, _, F, PySem.W.mg_of X G a, F.binds (ps := ["_law_files", "_law_kept"]) fun _ _ _ _ _ _ us hl => match us, hl with | [_, _], _ => rfl⟩
theorem z_g_more (X : K.In h) (G : h.Ns mainGlobals mg) (a : PySem.W.nsIn K mainGlobals "_law_more" = some (some (.ref f))) (l : K.lookup f = some ⟨oc, od, .func (PySem.W.fnOf "_law_more" "_law_more" (defArgs gMore) (defBody gMore) (defScope gMore) .none kV dc pm an cd ct), sl⟩) (c : PySem.W.codeIn K cd "_law_more" = true) (k : PySem.W.keepIn K (.ref f) = true) : ∃ g fd, GF K mg "_law_more" gMore ["_law_pot_here", "_law_row"] g fd := by
  have F := fun_mk (st := gMore) l c k
  exact ⟨_, _, F, PySem.W.mg_of X G a, F.binds (ps := ["_law_pot_here", "_law_row"]) fun _ _ _ _ _ _ us hl => match us, hl with | [_, _], _ => rfl⟩
theorem z_g_all (X : K.In h) (G : h.Ns mainGlobals mg) (a : PySem.W.nsIn K mainGlobals "_law_all_so" = some (some (.ref f))) (l : K.lookup f = some ⟨oc, od, .func (PySem.W.fnOf "_law_all_so" "_law_all_so" (defArgs gAll) (defBody gAll) (defScope gAll) .none kV dc pm an cd ct), sl⟩) (c : PySem.W.codeIn K cd "_law_all_so" = true) (k : PySem.W.keepIn K (.ref f) = true) : ∃ g fd, GF K mg "_law_all_so" gAll ["_law_row"] g fd := by
  have F := fun_mk (st := gAll) l c k
  exact ⟨_, _, F, PySem.W.mg_of X G a, F.binds (ps := ["_law_row"]) fun _ _ _ _ _ _ us hl => match us, hl with | [_], _ => rfl⟩
theorem z_law (l : K.lookup f = some ⟨oc, od, .func (PySem.W.fnOf "law" "law" (defArgs gLaw) (defBody gLaw) (defScope gLaw) .none kV dc pm an cd ct), sl⟩) (c : PySem.W.codeIn K cd "law" = true) (k : PySem.W.keepIn K (.ref f) = true) : ∃ fd : FuncData, (∀ (s : Shared) (v : Value), BindsTo s fd ⟨[v], []⟩ [("_law_script", v)]) ∧ Fun K "law" "law" gLaw f fd :=
  ⟨PySem.W.fnOf "law" "law" (defArgs gLaw) (defBody gLaw) (defScope gLaw) .none kV dc pm an cd ct, fun s v => .of_eq rfl, fun_mk (st := gLaw) l c k⟩
theorem z_exn {x : Str} {D : Addr} (X : K.In h) (G : h.Ns mainGlobals mg) (x1 : PySem.W.excIn K D [.type "ValueError", .type "Exception", .type "BaseException", .type "object"] "ValueError.__new__" = true) (g : PySem.W.nsIn K mainGlobals x = some (some (.ref D))) (kp : PySem.W.keepIn K (.ref D) = true) (b : PySem.W.subIn K (.ref D) (.type "BaseException") = some true) (t : PySem.W.typeIn K (.ref D) = some (.type "type")) : Exn K mg x D :=
  ⟨x1, PySem.W.mg_of X G g, kp, b, t⟩
theorem kit_no {D E : Addr} (sD : PySem.W.subIn K (.ref D) (.ref D) = some true) (cE : PySem.W.isClsIn K E = true) (tE : PySem.W.typeIn K (.ref E) = some (.type "type")) (s : PySem.W.subIn K (.ref D) (.ref E) = some false) : PySem.W.kitOne K (.ref D) (.ref E) = some false := by
  have ne : ¬ (((Value.ref D) == (Value.ref E)) = true) := fun e => by
    have e' : D = E := by simpa using e
    subst e'
    rw [sD] at s
    cases s
  have e2 : ((PySem.W.clsIn K E).isSome && PySem.W.typeIn K (.ref E) == some (.type "type")) = true := by
    rw [tE]
    show ((PySem.W.clsIn K E).isSome && _) = true
    rw [show (PySem.W.clsIn K E).isSome = true from cE]
    rfl
  show (if (Value.ref D == Value.ref E) = true then some true else (if ((PySem.W.clsIn K E).isSome && PySem.W.typeIn K (.ref E) == some (.type "type")) = true then PySem.W.subIn K (.ref D) (.ref E) else none)) = some false
  rw [if_neg ne, if_pos e2]
  exact s
theorem kit_self {D : Addr} : PySem.W.kitOne K (.ref D) (.ref D) = some true := by
  show (if (Value.ref D == Value.ref D) = true then some true else _) = some true
  rw [if_pos (by simp)]
theorem kit_ve {D : Addr} (s : PySem.W.subIn K (.ref D) (.type "ValueError") = some true) : PySem.W.kitOne K (.ref D) (.type "ValueError") = some true := by
  show (if (Value.ref D == Value.type "ValueError") = true then some true else (if PySem.W.kitMeta "ValueError" = true then PySem.W.subIn K (.ref D) (.type "ValueError") else none)) = some true
  have ne : ¬ ((Value.ref D == Value.type "ValueError") = true) := by
    intro e
    cases (by simpa using e : False)
  have e2 : PySem.W.kitMeta "ValueError" = true := by decide +kernel
  rw [if_neg ne, if_pos e2]
  exact s
/-- a class of the text, as isinstance asks for it -/
structure ClK (K : PySem.W.Frag) (E : Addr) : Prop where
  c : PySem.W.isClsIn K E = true
  t : PySem.W.typeIn K (.ref E) = some (.type "type")
structure Cl16 (K : PySem.W.Frag) (c : C16) : Prop where
  k0 : ClK K c.c0
  k1 : ClK K c.c1
  k2 : ClK K c.c2
  k3 : ClK K c.c3
  k4 : ClK K c.c4
  k5 : ClK K c.c5
  k6 : ClK K c.c6
  k7 : ClK K c.c7
  k8 : ClK K c.c8
  k9 : ClK K c.c9
  k10 : ClK K c.c10
  k11 : ClK K c.c11
  k12 : ClK K c.c12
  k13 : ClK K c.c13
  k14 : ClK K c.c14
  k15 : ClK K c.c15
theorem z_kF {D c0 c1 c2 c3 c4 c6 c7 c8 c9 c10 c11 c12 c13 c14 c15 : Addr} (W : Cl16 K (C16.mk c0 c1 c2 c3 c4 D c6 c7 c8 c9 c10 c11 c12 c13 c14 c15)) (hg : PySem.W.findIn K (.ref D) "__getattribute__" = some (some (.builtin "BaseException.__getattribute__"))) (hk : PySem.W.findIn K (.ref D) "__getattr__" = some none) (hs : PySem.W.subIn K (.ref D) (.type "BaseException") = some true) (hd : PySem.W.hasDictIn K D = true) (ha : PySem.W.findIn K (.ref D) "__class__" = some (some (.builtin "object.__class__"))) (hn : PySem.W.specialIn K (.builtin "object.__class__") "__get__" = some (some (.builtin "getset_descriptor.__get__"))) (ht : PySem.W.takesIn K (.builtin "object.__class__") = some true) (hm : PySem.W.mroIn K D (.type "object") = some true) (ve : PySem.W.subIn K (.ref D) (.type "ValueError") = some true) (sD : PySem.W.subIn K (.ref D) (.ref D) = some true) (s0 : PySem.W.subIn K (.ref D) (.ref c0) = some false) (s1 : PySem.W.subIn K (.ref D) (.ref c1) = some false) (s2 : PySem.W.subIn K (.ref D) (.ref c2) = some false) (s3 : PySem.W.subIn K (.ref D) (.ref c3) = some false) (s4 : PySem.W.subIn K (.ref D) (.ref c4) = some false) (s6 : PySem.W.subIn K (.ref D) (.ref c6) = some false) (s7 : PySem.W.subIn K (.ref D) (.ref c7) = some false) (s8 : PySem.W.subIn K (.ref D) (.ref c8) = some false) (s9 : PySem.W.subIn K (.ref D) (.ref c9) = some false) (s10 : PySem.W.subIn K (.ref D) (.ref c10) = some false) (s11 : PySem.W.subIn K (.ref D) (.ref c11) = some false) (s12 : PySem.W.subIn K (.ref D) (.ref c12) = some false) (s13 : PySem.W.subIn K (.ref D) (.ref c13) = some false) (s14 : PySem.W.subIn K (.ref D) (.ref c14) = some false) (s15 : PySem.W.subIn K (.ref D) (.ref c15) = some false) : Kit K (C16.mk c0 c1 c2 c3 c4 D c6 c7 c8 c9 c10 c11 c12 c13 c14 c15) D 5 := by
  obtain ⟨k0, k1, k2, k3, k4, k5, k6, k7, k8, k9, k10, k11, k12, k13, k14, k15⟩ := W
  exact ⟨⟨hg, hk, hs, hd, ha, hn, ht, hm⟩, kit_ve ve, kit_no sD k0.c k0.t s0, kit_no sD k1.c k1.t s1, kit_no sD k2.c k2.t s2, kit_no sD k3.c k3.t s3, kit_no sD k4.c k4.t s4, kit_self, kit_no sD k6.c k6.t s6, kit_no sD k7.c k7.t s7, kit_no sD k8.c k8.t s8, kit_no sD k9.c k9.t s9, kit_no sD k10.c k10.t s10, kit_no sD k11.c k11.t s11, kit_no sD k12.c k12.t s12, kit_no sD k13.c k13.t s13, kit_no sD k14.c k14.t s14, kit_no sD k15.c k15.t s15⟩
theorem z_kP {D c0 c1 c2 c3 c4 c5 c6 c7 c8 c10 c11 c12 c13 c14 c15 : Addr} (W : Cl16 K (C16.mk c0 c1 c2 c3 c4 c5 c6 c7 c8 D c10 c11 c12 c13 c14 c15)) (hg : PySem.W.findIn K (.ref D) "__getattribute__" = some (some (.builtin "BaseException.__getattribute__"))) (hk : PySem.W.findIn K (.ref D) "__getattr__" = some none) (hs : PySem.W.subIn K (.ref D) (.type "BaseException") = some true) (hd : PySem.W.hasDictIn K D = true) (ha : PySem.W.findIn K (.ref D) "__class__" = some (some (.builtin "object.__class__"))) (hn : PySem.W.specialIn K (.builtin "object.__class__") "__get__" = some (some (.builtin "getset_descriptor.__get__"))) (ht : PySem.W.takesIn K (.builtin "object.__class__") = some true) (hm : PySem.W.mroIn K D (.type "object") = some true) (ve : PySem.W.subIn K (.ref D) (.type "ValueError") = some true) (sD : PySem.W.subIn K (.ref D) (.ref D) = some true) (s0 : PySem.W.subIn K (.ref D) (.ref c0) = some false) (s1 : PySem.W.subIn K (.ref D) (.ref c1) = some false) (s2 : PySem.W.subIn K (.ref D) (.ref c2) = some false) (s3 : PySem.W.subIn K (.ref D) (.ref c3) = some false) (s4 : PySem.W.subIn K (.ref D) (.ref c4) = some false) (s5 : PySem.W.subIn K (.ref D) (.ref c5) = some false) (s6 : PySem.W.subIn K (.ref D) (.ref c6) = some false) (s7 : PySem.W.subIn K (.ref D) (.ref c7) = some false) (s8 : PySem.W.subIn K (.ref D) (.ref c8) = some false) (s10 : PySem.W.subIn K (.ref D) (.ref c10) = some false) (s11 : PySem.W.subIn K (.ref D) (.ref c11) = some false) (s12 : PySem.W.subIn K (.ref D) (.ref c12) = some false) (s13 : PySem.W.subIn K (.ref D) (.ref c13) = some false) (s14 : PySem.W.subIn K (.ref D) (.ref c14) = some false) (s15 : PySem.W.subIn K (.ref D) (.ref c15) = some false) : Kit K (C16.mk c0 c1 c2 c3 c4 c5 c6 c7 c8 D c10 c11 c12 c13 c14 c15) D 9 := by
  obtain ⟨k0, k1, k2, k3, k4, k5, k6, k7, k8, k9, k10, k11, k12, k13, k14, k15⟩ := W
  exact ⟨⟨hg, hk, hs, hd, ha, hn, ht, hm⟩, kit_ve ve, kit_no sD k0.c k0.t s0, kit_no sD k1.c k1.t s1, kit_no sD k2.c k2.t s2, kit_no sD k3.c k3.t s3, kit_no sD k4.c k4.t s4, kit_no sD k5.c k5.t s5, kit_no sD k6.c k6.t s6, kit_no sD k7.c k7.t s7, kit_no sD k8.c k8.t s8, kit_self, kit_no sD k10.c k10.t s10, kit_no sD k11.c k11.t s11, kit_no sD k12.c k12.t s12, kit_no sD k13.c k13.t s13, kit_no sD k14.c k14.t s14, kit_no sD k15.c k15.t s15⟩
theorem z_kA {D c0 c1 c3 c4 c5 c6 c7 c8 c9 c10 c11 c12 c13 c14 c15 : Addr} (W : Cl16 K (C16.mk c0 c1 D c3 c4 c5 c6 c7 c8 c9 c10 c11 c12 c13 c14 c15)) (hg : PySem.W.findIn K (.ref D) "__getattribute__" = some (some (.builtin "BaseException.__getattribute__"))) (hk : PySem.W.findIn K (.ref D) "__getattr__" = some none) (hs : PySem.W.subIn K (.ref D) (.type "BaseException") = some true) (hd : PySem.W.hasDictIn K D = true) (ha : PySem.W.findIn K (.ref D) "__class__" = some (some (.builtin "object.__class__"))) (hn : PySem.W.specialIn K (.builtin "object.__class__") "__get__" = some (some (.builtin "getset_descriptor.__get__"))) (ht : PySem.W.takesIn K (.builtin "object.__class__") = some true) (hm : PySem.W.mroIn K D (.type "object") = some true) (ve : PySem.W.subIn K (.ref D) (.type "ValueError") = some true) (sD : PySem.W.subIn K (.ref D) (.ref D) = some true) (s0 : PySem.W.subIn K (.ref D) (.ref c0) = some false) (s1 : PySem.W.subIn K (.ref D) (.ref c1) = some false) (s3 : PySem.W.subIn K (.ref D) (.ref c3) = some false) (s4 : PySem.W.subIn K (.ref D) (.ref c4) = some false) (s5 : PySem.W.subIn K (.ref D) (.ref c5) = some false) (s6 : PySem.W.subIn K (.ref D) (.ref c6) = some false) (s7 : PySem.W.subIn K (.ref D) (.ref c7) = some false) (s8 : PySem.W.subIn K (.ref D) (.ref c8) = some false) (s9 : PySem.W.subIn K (.ref D) (.ref c9) = some false) (s10 : PySem.W.subIn K (.ref D) (.ref c10) = some false) (s11 : PySem.W.subIn K (.ref D) (.ref c11) = some false) (s12 : PySem.W.subIn K (.ref D) (.ref c12) = some false) (s13 : PySem.W.subIn K (.ref D) (.ref c13) = some false) (s14 : PySem.W.subIn K (.ref D) (.ref c14) = some false) (s15 : PySem.W.subIn K (.ref D) (.ref c15) = some false) : Kit K (C16.mk c0 c1 D c3 c4 c5 c6 c7 c8 c9 c10 c11 c12 c13 c14 c15) D 2 := by
  obtain ⟨k0, k1, k2, k3, k4, k5, k6, k7, k8, k9, k10, k11, k12, k13, k14, k15⟩ := W
  exact ⟨⟨hg, hk, hs, hd, ha, hn, ht, hm⟩, kit_ve ve, kit_no sD k0.c k0.t s0, kit_no sD k1.c k1.t s1, kit_self, kit_no sD k3.c k3.t s3, kit_no sD k4.c k4.t s4, kit_no sD k5.c k5.t s5, kit_no sD k6.c k6.t s6, kit_no sD k7.c k7.t s7, kit_no sD k8.c k8.t s8, kit_no sD k9.c k9.t s9, kit_no sD k10.c k10.t s10, kit_no sD k11.c k11.t s11, kit_no sD k12.c k12.t s12, kit_no sD k13.c k13.t s13, kit_no sD k14.c k14.t s14, kit_no sD k15.c k15.t s15⟩
theorem z_kN {D c0 c1 c2 c3 c4 c5 c6 c7 c8 c9 c10 c11 c12 c13 c15 : Addr} (W : Cl16 K (C16.mk c0 c1 c2 c3 c4 c5 c6 c7 c8 c9 c10 c11 c12 c13 D c15)) (hg : PySem.W.findIn K (.ref D) "__getattribute__" = some (some (.builtin "BaseException.__getattribute__"))) (hk : PySem.W.findIn K (.ref D) "__getattr__" = some none) (hs : PySem.W.subIn K (.ref D) (.type "BaseException") = some true) (hd : PySem.W.hasDictIn K D = true) (ha : PySem.W.findIn K (.ref D) "__class__" = some (some (.builtin "object.__class__"))) (hn : PySem.W.specialIn K (.builtin "object.__class__") "__get__" = some (some (.builtin "getset_descriptor.__get__"))) (ht : PySem.W.takesIn K (.builtin "object.__class__") = some true) (hm : PySem.W.mroIn K D (.type "object") = some true) (ve : PySem.W.subIn K (.ref D) (.type "ValueError") = some true) (sD : PySem.W.subIn K (.ref D) (.ref D) = some true) (s0 : PySem.W.subIn K (.ref D) (.ref c0) = some false) (s1 : PySem.W.subIn K (.ref D) (.ref c1) = some false) (s2 : PySem.W.subIn K (.ref D) (.ref c2) = some false) (s3 : PySem.W.subIn K (.ref D) (.ref c3) = some false) (s4 : PySem.W.subIn K (.ref D) (.ref c4) = some false) (s5 : PySem.W.subIn K (.ref D) (.ref c5) = some false) (s6 : PySem.W.subIn K (.ref D) (.ref c6) = some false) (s7 : PySem.W.subIn K (.ref D) (.ref c7) = some false) (s8 : PySem.W.subIn K (.ref D) (.ref c8) = some false) (s9 : PySem.W.subIn K (.ref D) (.ref c9) = some false) (s10 : PySem.W.subIn K (.ref D) (.ref c10) = some false) (s11 : PySem.W.subIn K (.ref D) (.ref c11) = some false) (s12 : PySem.W.subIn K (.ref D) (.ref c12) = some false) (s13 : PySem.W.subIn K (.ref D) (.ref c13) = some false) (s15 : PySem.W.subIn K (.ref D) (.ref c15) = some false) : Kit K (C16.mk c0 c1 c2 c3 c4 c5 c6 c7 c8 c9 c10 c11 c12 c13 D c15) D 14 := by
  obtain ⟨k0, k1, k2, k3, k4, k5, k6, k7, k8, k9, k10, k11, k12, k13, k14, k15⟩ := W
  exact ⟨⟨hg, hk, hs, hd, ha, hn, ht, hm⟩, kit_ve ve, kit_no sD k0.c k0.t s0, kit_no sD k1.c k1.t s1, kit_no sD k2.c k2.t s2, kit_no sD k3.c k3.t s3, kit_no sD k4.c k4.t s4, kit_no sD k5.c k5.t s5, kit_no sD k6.c k6.t s6, kit_no sD k7.c k7.t s7, kit_no sD k8.c k8.t s8, kit_no sD k9.c k9.t s9, kit_no sD k10.c k10.t s10, kit_no sD k11.c k11.t s11, kit_no sD k12.c k12.t s12, kit_no sD k13.c k13.t s13, kit_self, kit_no sD k15.c k15.t s15⟩
theorem z_cls (pg : PySem.W.plainGet K C Str.empty = true) (hd : PySem.W.hasDictIn K C = true) (po : PySem.W.plainOver K C = true) (sa : PySem.W.findIn K (.ref C) "__setattr__" = some (some (.builtin "object.__setattr__"))) : Cls K C := ⟨pg, hd, po, sa⟩
structure Non (mg : Str → Option Value) : Prop where
  sorted : mg "sorted" = none
  len : mg "len" = none
  dict : mg "dict" = none
  list : mg "list" = none
  enumerate : mg "enumerate" = none
  range : mg "range" = none
  max : mg "max" = none
  min : mg "min" = none
  divmod : mg "divmod" = none
  int : mg "int" = none
  isinstance : mg "isinstance" = none
  set : mg "set" = none
  all : mg "all" = none
  valueError : mg "ValueError" = none
theorem z_non (X : K.In h) (G : h.Ns mainGlobals mg) (n0 : PySem.W.nsIn K mainGlobals "sorted" = some none) (n1 : PySem.W.nsIn K mainGlobals "len" = some none) (n2 : PySem.W.nsIn K mainGlobals "dict" = some none) (n3 : PySem.W.nsIn K mainGlobals "list" = some none) (n4 : PySem.W.nsIn K mainGlobals "enumerate" = some none) (n5 : PySem.W.nsIn K mainGlobals "range" = some none) (n6 : PySem.W.nsIn K mainGlobals "max" = some none) (n7 : PySem.W.nsIn K mainGlobals "min" = some none) (n8 : PySem.W.nsIn K mainGlobals "divmod" = some none) (n9 : PySem.W.nsIn K mainGlobals "int" = some none) (n10 : PySem.W.nsIn K mainGlobals "isinstance" = some none) (n11 : PySem.W.nsIn K mainGlobals "set" = some none) (n12 : PySem.W.nsIn K mainGlobals "all" = some none) (n13 : PySem.W.nsIn K mainGlobals "ValueError" = some none) : Non mg := ⟨PySem.W.mg_none_of X G n0, PySem.W.mg_none_of X G n1, PySem.W.mg_none_of X G n2, PySem.W.mg_none_of X G n3, PySem.W.mg_none_of X G n4, PySem.W.mg_none_of X G n5, PySem.W.mg_none_of X G n6, PySem.W.mg_none_of X G n7, PySem.W.mg_none_of X G n8, PySem.W.mg_none_of X G n9, PySem.W.mg_none_of X G n10, PySem.W.mg_none_of X G n11, PySem.W.mg_none_of X G n12, PySem.W.mg_none_of X G n13⟩
theorem z_txt (X : K.In h) (G : h.Ns mainGlobals mg) (c : Cls K C) (nB : PySem.W.findIn K (.ref C) "own_births" = some none) (nH : PySem.W.findIn K (.ref C) "own_held" = some none) (gC : PySem.W.nsIn K mainGlobals "Files" = some (some (.ref C))) (e1 : Exn K mg "NoFile" x1) (e2 : Exn K mg "NoPlace" x2) (e3 : Exn K mg "HeldAlready" x3) (e4 : Exn K mg "NotHeld" x4) (n : Non mg) : Txt K mg (Ads.mk C x1 x2 x3 x4) :=
  ⟨c, nB, nH, PySem.W.mg_of X G gC, e1, e2, e3, e4, n.sorted, n.len, n.dict, n.list, n.enumerate, n.range, n.max, n.min, n.divmod, n.int, n.isinstance, n.set, n.all, n.valueError⟩
theorem z_g16 {c0 c1 c2 c3 c4 c5 c6 c7 c8 c9 c10 c11 c12 c13 c14 c15 : Addr} (X : K.In h) (G : h.Ns mainGlobals mg) (g0 : PySem.W.nsIn K mainGlobals "Full" = some (some (.ref c0))) (g1 : PySem.W.nsIn K mainGlobals "Gone" = some (some (.ref c1))) (g2 : PySem.W.nsIn K mainGlobals "HeldAlready" = some (some (.ref c2))) (g3 : PySem.W.nsIn K mainGlobals "NoDeed" = some (some (.ref c3))) (g4 : PySem.W.nsIn K mainGlobals "NoDisk" = some (some (.ref c4))) (g5 : PySem.W.nsIn K mainGlobals "NoFile" = some (some (.ref c5))) (g6 : PySem.W.nsIn K mainGlobals "NoFiles" = some (some (.ref c6))) (g7 : PySem.W.nsIn K mainGlobals "NoHouse" = some (some (.ref c7))) (g8 : PySem.W.nsIn K mainGlobals "NoMark" = some (some (.ref c8))) (g9 : PySem.W.nsIn K mainGlobals "NoPlace" = some (some (.ref c9))) (g10 : PySem.W.nsIn K mainGlobals "NoRoom" = some (some (.ref c10))) (g11 : PySem.W.nsIn K mainGlobals "NoRow" = some (some (.ref c11))) (g12 : PySem.W.nsIn K mainGlobals "NotBlank" = some (some (.ref c12))) (g13 : PySem.W.nsIn K mainGlobals "NotClosed" = some (some (.ref c13))) (g14 : PySem.W.nsIn K mainGlobals "NotHeld" = some (some (.ref c14))) (g15 : PySem.W.nsIn K mainGlobals "Stopped" = some (some (.ref c15))) : G16 mg (C16.mk c0 c1 c2 c3 c4 c5 c6 c7 c8 c9 c10 c11 c12 c13 c14 c15) := ⟨PySem.W.mg_of X G g0, PySem.W.mg_of X G g1, PySem.W.mg_of X G g2, PySem.W.mg_of X G g3, PySem.W.mg_of X G g4, PySem.W.mg_of X G g5, PySem.W.mg_of X G g6, PySem.W.mg_of X G g7, PySem.W.mg_of X G g8, PySem.W.mg_of X G g9, PySem.W.mg_of X G g10, PySem.W.mg_of X G g11, PySem.W.mg_of X G g12, PySem.W.mg_of X G g13, PySem.W.mg_of X G g14, PySem.W.mg_of X G g15⟩
theorem z_cl16 {c0 c1 c2 c3 c4 c5 c6 c7 c8 c9 c10 c11 c12 c13 c14 c15 : Addr} (i0 : PySem.W.isClsIn K c0 = true) (t0 : PySem.W.typeIn K (.ref c0) = some (.type "type")) (i1 : PySem.W.isClsIn K c1 = true) (t1 : PySem.W.typeIn K (.ref c1) = some (.type "type")) (i2 : PySem.W.isClsIn K c2 = true) (t2 : PySem.W.typeIn K (.ref c2) = some (.type "type")) (i3 : PySem.W.isClsIn K c3 = true) (t3 : PySem.W.typeIn K (.ref c3) = some (.type "type")) (i4 : PySem.W.isClsIn K c4 = true) (t4 : PySem.W.typeIn K (.ref c4) = some (.type "type")) (i5 : PySem.W.isClsIn K c5 = true) (t5 : PySem.W.typeIn K (.ref c5) = some (.type "type")) (i6 : PySem.W.isClsIn K c6 = true) (t6 : PySem.W.typeIn K (.ref c6) = some (.type "type")) (i7 : PySem.W.isClsIn K c7 = true) (t7 : PySem.W.typeIn K (.ref c7) = some (.type "type")) (i8 : PySem.W.isClsIn K c8 = true) (t8 : PySem.W.typeIn K (.ref c8) = some (.type "type")) (i9 : PySem.W.isClsIn K c9 = true) (t9 : PySem.W.typeIn K (.ref c9) = some (.type "type")) (i10 : PySem.W.isClsIn K c10 = true) (t10 : PySem.W.typeIn K (.ref c10) = some (.type "type")) (i11 : PySem.W.isClsIn K c11 = true) (t11 : PySem.W.typeIn K (.ref c11) = some (.type "type")) (i12 : PySem.W.isClsIn K c12 = true) (t12 : PySem.W.typeIn K (.ref c12) = some (.type "type")) (i13 : PySem.W.isClsIn K c13 = true) (t13 : PySem.W.typeIn K (.ref c13) = some (.type "type")) (i14 : PySem.W.isClsIn K c14 = true) (t14 : PySem.W.typeIn K (.ref c14) = some (.type "type")) (i15 : PySem.W.isClsIn K c15 = true) (t15 : PySem.W.typeIn K (.ref c15) = some (.type "type")) : Cl16 K (C16.mk c0 c1 c2 c3 c4 c5 c6 c7 c8 c9 c10 c11 c12 c13 c14 c15) := ⟨⟨i0, t0⟩, ⟨i1, t1⟩, ⟨i2, t2⟩, ⟨i3, t3⟩, ⟨i4, t4⟩, ⟨i5, t5⟩, ⟨i6, t6⟩, ⟨i7, t7⟩, ⟨i8, t8⟩, ⟨i9, t9⟩, ⟨i10, t10⟩, ⟨i11, t11⟩, ⟨i12, t12⟩, ⟨i13, t13⟩, ⟨i14, t14⟩, ⟨i15, t15⟩⟩
theorem z_four {cE c0 c1 c3 c4 c6 c7 c8 c10 c11 c12 c13 c15 : Addr} (X : K.In h) (G : h.Ns mainGlobals mg) (gE : PySem.W.nsIn K mainGlobals "CleanError" = some (some (.ref cE))) (bE : PySem.W.subIn K (.ref cE) (.type "BaseException") = some true) (hE : PySem.W.hasDictIn K cE = true) (tE : PySem.W.typeIn K (.ref cE) = some (.type "type")) (kF : Kit K (C16.mk c0 c1 x3 c3 c4 x1 c6 c7 c8 x2 c10 c11 c12 c13 x4 c15) x1 5) (kP : Kit K (C16.mk c0 c1 x3 c3 c4 x1 c6 c7 c8 x2 c10 c11 c12 c13 x4 c15) x2 9) (kA : Kit K (C16.mk c0 c1 x3 c3 c4 x1 c6 c7 c8 x2 c10 c11 c12 c13 x4 c15) x3 2) (kN : Kit K (C16.mk c0 c1 x3 c3 c4 x1 c6 c7 c8 x2 c10 c11 c12 c13 x4 c15) x4 14) (s1 : PySem.W.subIn K (.ref x1) (.ref cE) = some true) (s2 : PySem.W.subIn K (.ref x2) (.ref cE) = some true) (s3 : PySem.W.subIn K (.ref x3) (.ref cE) = some true) (s4 : PySem.W.subIn K (.ref x4) (.ref cE) = some true) : Four K mg (Ads.mk C x1 x2 x3 x4) (C16.mk c0 c1 x3 c3 c4 x1 c6 c7 c8 x2 c10 c11 c12 c13 x4 c15) cE :=
  ⟨PySem.W.mg_of X G gE, kF, kP, kA, kN, PySem.W.exm_ref bE hE tE s1, PySem.W.exm_ref bE hE tE s2, PySem.W.exm_ref bE hE tE s3, PySem.W.exm_ref bE hE tE s4⟩
theorem all_mk {l : PySem.W.OpenLaw} {w : World} {fa fb cE c0 c1 c3 c4 c6 c7 c8 c10 c11 c12 c13 c15 : Addr} (X : K.In h) (G : h.Ns mainGlobals mg) (hfa : mg "law" = some (.ref fa)) (g16 : G16 mg (C16.mk c0 c1 x3 c3 c4 x1 c6 c7 c8 x2 c10 c11 c12 c13 x4 c15)) (T : Txt K mg (Ads.mk C x1 x2 x3 x4)) (R : Four K mg (Ads.mk C x1 x2 x3 x4) (C16.mk c0 c1 x3 c3 c4 x1 c6 c7 c8 x2 c10 c11 c12 c13 x4 c15) cE) (N : Ms K (Ads.mk C x1 x2 x3 x4)) (L : Gs K mg) (aL : PySem.W.nsIn K mainGlobals "law" = some (some (.ref fb))) (Z : ∃ fd : FuncData, (∀ (s : Shared) (v : Value), BindsTo s fd ⟨[v], []⟩ [("_law_script", v)]) ∧ Fun K "law" "law" gLaw fb fd) :
    ∃ fd : FuncData, (∀ (s : Shared) (v : Value), BindsTo s fd ⟨[v], []⟩ [("_law_script", v)]) ∧ ∀ base : Heap, K.In base → base.Ns mainGlobals mg → FnOk l.prog w K mg base CX0 6 fa fd ["_law_script"] (spLaw K) := by
  have e := hfa.symm.trans (PySem.W.mg_of X G aL)
  cases e
  obtain ⟨fd, b, F⟩ := Z
  exact ⟨fd, b, fun base _ _ => ok_law T g16 R N L F⟩
end
theorem walk {l : PySem.W.OpenLaw} {q : Program} {loose : List Str} {XP : (Str → Option Value) → Heap → Prop} {YP : World → Heap → Prop} {d : DefRec} {K : Params → PySem.W.Frag} (hn : l.most = some 63) (hdf : d.params.defaults = [])
    (hY : ∀ (w : World) (h : Heap), YP w h → (K w.params).In h)
    (F : ∀ (w : World) (mg : Str → Option Value) (fa : Addr) (h : Heap), (K w.params).In h → h.Ns mainGlobals mg → mg d.name = some (.ref fa) →
      ∃ fd : FuncData, (∀ (s : Shared) (u : Value), BindsTo s fd ⟨[u], []⟩ [("_law_script", u)]) ∧ ∀ base : Heap, (K w.params).In base → base.Ns mainGlobals mg → FnOk l.prog w (K w.params) mg base CX0 6 fa fd ["_law_script"] (spLaw (K w.params))) :
    PySem.W.WalkO q loose XP YP l.row.toRowW d [] (fun f vs => PySem.call f vs) :=
  L2.walk_of (n := 63) (k := 6) (x := "_law_script") (CX := fun _ => CX0) (sp := fun w => spLaw (K w.params)) hn (by decide) hdf ⟨rfl, by decide, by decide⟩ hY F (fun _ _ a ns hl _ hS => ⟨a, ns, rfl, hS, hl, fun _ => rfl⟩) fun _ _ _ _ _ z => z
end Wa

open PySem PySem.W PyProof.Rows
set_option maxRecDepth 100000 in
set_option maxHeartbeats 0 in
theorem PySem.Challenge.cw_cleanrows_k25_whole_apart_holds : PySem.Challenge.rw_cleanrows_k25_whole_apart.Holds := by
  w_on; o_law; k_head; (case hw => w_witness2)
  k_fill
  refine Wa.walk (l := PySem.Challenge.rw_cleanrows_k25_whole_apart) rfl rfl (fun w h Y => PySem.W.kIn_of Y) ?F
  case F =>
    intro w mg fa h KX G hmg
    refine' Wa.all_mk KX G hmg ?zq1 ?zq2 ?zq3 ?zq4 ?zq5 ?zq6 ?zq7
    case zq1 =>
      refine' Wa.z_g16 KX G ?zq8 ?zq9 ?zq10 ?zq11 ?zq12 ?zq13 ?zq14 ?zq15 ?zq16 ?zq17 ?zq18 ?zq19 ?zq20 ?zq21 ?zq22 ?zq23
      (case zq8 => k_is)
      (case zq9 => k_is)
      (case zq10 => k_is)
      (case zq11 => k_is)
      (case zq12 => k_is)
      (case zq13 => k_is)
      (case zq14 => k_is)
      (case zq15 => k_is)
      (case zq16 => k_is)
      (case zq17 => k_is)
      (case zq18 => k_is)
      (case zq19 => k_is)
      (case zq20 => k_is)
      (case zq21 => k_is)
      (case zq22 => k_is)
      (case zq23 => k_is)
    case zq2 =>
      refine' Wa.z_txt KX G (Wa.z_cls ?zq24 ?zq25 ?zq26 ?zq27) ?zq28 ?zq29 ?zq30 (Wa.z_exn KX G ?zq31 ?zq32 ?zq33 ?zq34 ?zq35) (Wa.z_exn KX G ?zq36 ?zq37 ?zq38 ?zq39 ?zq40) (Wa.z_exn KX G ?zq41 ?zq42 ?zq43 ?zq44 ?zq45) (Wa.z_exn KX G ?zq46 ?zq47 ?zq48 ?zq49 ?zq50) (Wa.z_non KX G ?zq51 ?zq52 ?zq53 ?zq54 ?zq55 ?zq56 ?zq57 ?zq58 ?zq59 ?zq60 ?zq61 ?zq62 ?zq63 ?zq64)
      (case zq30 => k_is)
      (case zq24 => k_is)
      (case zq25 => k_is)
      (case zq26 => k_is)
      (case zq27 => k_is)
      (case zq28 => k_is)
      (case zq29 => k_is)
      (case zq32 => k_is)
      (case zq31 => k_exc)
      (case zq33 => k_is)
      (case zq34 => k_is)
      (case zq35 => k_is)
      (case zq37 => k_is)
      (case zq36 => k_exc)
      (case zq38 => k_is)
      (case zq39 => k_is)
      (case zq40 => k_is)
      (case zq42 => k_is)
      (case zq41 => k_exc)
      (case zq43 => k_is)
      (case zq44 => k_is)
      (case zq45 => k_is)
      (case zq47 => k_is)
      (case zq46 => k_exc)
      (case zq48 => k_is)
      (case zq49 => k_is)
      (case zq50 => k_is)
      (case zq51 => k_is)
      (case zq52 => k_is)
      (case zq53 => k_is)
      (case zq54 => k_is)
      (case zq55 => k_is)
      (case zq56 => k_is)
      (case zq57 => k_is)
      (case zq58 => k_is)
      (case zq59 => k_is)
      (case zq60 => k_is)
      (case zq61 => k_is)
      (case zq62 => k_is)
      (case zq63 => k_is)
      (case zq64 => k_is)
    case zq3 =>
      refine' Wa.z_four KX G ?zq65 ?zq66 ?zq67 ?zq68 (Wa.z_kF ?zq69 ?zq70 ?zq71 ?zq72 ?zq73 ?zq74 ?zq75 ?zq76 ?zq77 ?zq78 ?zq79 ?zq80 ?zq81 ?zq82 ?zq83 ?zq84 ?zq85 ?zq86 ?zq87 ?zq88 ?zq89 ?zq90 ?zq91 ?zq92 ?zq93 ?zq94) (Wa.z_kP ?zq69 ?zq95 ?zq96 ?zq97 ?zq98 ?zq99 ?zq100 ?zq101 ?zq102 ?zq103 ?zq104 ?zq105 ?zq106 ?zq107 ?zq108 ?zq109 ?zq110 ?zq111 ?zq112 ?zq113 ?zq114 ?zq115 ?zq116 ?zq117 ?zq118 ?zq119) (Wa.z_kA ?zq69 ?zq120 ?zq121 ?zq122 ?zq123 ?zq124 ?zq125 ?zq126 ?zq127 ?zq128 ?zq129 ?zq130 ?zq131 ?zq132 ?zq133 ?zq134 ?zq135 ?zq136 ?zq137 ?zq138 ?zq139 ?zq140 ?zq141 ?zq142 ?zq143 ?zq144) (Wa.z_kN ?zq69 ?zq145 ?zq146 ?zq147 ?zq148 ?zq149 ?zq150 ?zq151 ?zq152 ?zq153 ?zq154 ?zq155 ?zq156 ?zq157 ?zq158 ?zq159 ?zq160 ?zq161 ?zq162 ?zq163 ?zq164 ?zq165 ?zq166 ?zq167 ?zq168 ?zq169) ?zq170 ?zq171 ?zq172 ?zq173
      (case zq65 => k_is)
      (case zq66 => k_is)
      (case zq67 => k_is)
      (case zq68 => k_is)
      (case zq170 => k_is)
      (case zq171 => k_is)
      (case zq172 => k_is)
      (case zq173 => k_is)
      case zq69 =>
        refine' Wa.z_cl16 ?zq174 ?zq175 ?zq176 ?zq177 ?zq178 ?zq179 ?zq180 ?zq181 ?zq182 ?zq183 ?zq184 ?zq185 ?zq186 ?zq187 ?zq188 ?zq189 ?zq190 ?zq191 ?zq192 ?zq193 ?zq194 ?zq195 ?zq196 ?zq197 ?zq198 ?zq199 ?zq200 ?zq201 ?zq202 ?zq203 ?zq204 ?zq205
        (case zq174 => k_is)
        (case zq175 => k_is)
        (case zq176 => k_is)
        (case zq177 => k_is)
        (case zq178 => k_is)
        (case zq179 => k_is)
        (case zq180 => k_is)
        (case zq181 => k_is)
        (case zq182 => k_is)
        (case zq183 => k_is)
        (case zq184 => k_is)
        (case zq185 => k_is)
        (case zq186 => k_is)
        (case zq187 => k_is)
        (case zq188 => k_is)
        (case zq189 => k_is)
        (case zq190 => k_is)
        (case zq191 => k_is)
        (case zq192 => k_is)
        (case zq193 => k_is)
        (case zq194 => k_is)
        (case zq195 => k_is)
        (case zq196 => k_is)
        (case zq197 => k_is)
        (case zq198 => k_is)
        (case zq199 => k_is)
        (case zq200 => k_is)
        (case zq201 => k_is)
        (case zq202 => k_is)
        (case zq203 => k_is)
        (case zq204 => k_is)
        (case zq205 => k_is)
      (case zq70 => k_is)
      (case zq71 => k_is)
      (case zq72 => k_is)
      (case zq73 => k_is)
      (case zq74 => k_is)
      (case zq75 => k_is)
      (case zq76 => k_is)
      (case zq77 => k_is)
      (case zq78 => k_is)
      (case zq79 => k_is)
      (case zq80 => k_is)
      (case zq81 => k_is)
      (case zq82 => k_is)
      (case zq83 => k_is)
      (case zq84 => k_is)
      (case zq85 => k_is)
      (case zq86 => k_is)
      (case zq87 => k_is)
      (case zq88 => k_is)
      (case zq89 => k_is)
      (case zq90 => k_is)
      (case zq91 => k_is)
      (case zq92 => k_is)
      (case zq93 => k_is)
      (case zq94 => k_is)
      (case zq95 => k_is)
      (case zq96 => k_is)
      (case zq97 => k_is)
      (case zq98 => k_is)
      (case zq99 => k_is)
      (case zq100 => k_is)
      (case zq101 => k_is)
      (case zq102 => k_is)
      (case zq103 => k_is)
      (case zq104 => k_is)
      (case zq105 => k_is)
      (case zq106 => k_is)
      (case zq107 => k_is)
      (case zq108 => k_is)
      (case zq109 => k_is)
      (case zq110 => k_is)
      (case zq111 => k_is)
      (case zq112 => k_is)
      (case zq113 => k_is)
      (case zq114 => k_is)
      (case zq115 => k_is)
      (case zq116 => k_is)
      (case zq117 => k_is)
      (case zq118 => k_is)
      (case zq119 => k_is)
      (case zq120 => k_is)
      (case zq121 => k_is)
      (case zq122 => k_is)
      (case zq123 => k_is)
      (case zq124 => k_is)
      (case zq125 => k_is)
      (case zq126 => k_is)
      (case zq127 => k_is)
      (case zq128 => k_is)
      (case zq129 => k_is)
      (case zq130 => k_is)
      (case zq131 => k_is)
      (case zq132 => k_is)
      (case zq133 => k_is)
      (case zq134 => k_is)
      (case zq135 => k_is)
      (case zq136 => k_is)
      (case zq137 => k_is)
      (case zq138 => k_is)
      (case zq139 => k_is)
      (case zq140 => k_is)
      (case zq141 => k_is)
      (case zq142 => k_is)
      (case zq143 => k_is)
      (case zq144 => k_is)
      (case zq145 => k_is)
      (case zq146 => k_is)
      (case zq147 => k_is)
      (case zq148 => k_is)
      (case zq149 => k_is)
      (case zq150 => k_is)
      (case zq151 => k_is)
      (case zq152 => k_is)
      (case zq153 => k_is)
      (case zq154 => k_is)
      (case zq155 => k_is)
      (case zq156 => k_is)
      (case zq157 => k_is)
      (case zq158 => k_is)
      (case zq159 => k_is)
      (case zq160 => k_is)
      (case zq161 => k_is)
      (case zq162 => k_is)
      (case zq163 => k_is)
      (case zq164 => k_is)
      (case zq165 => k_is)
      (case zq166 => k_is)
      (case zq167 => k_is)
      (case zq168 => k_is)
      (case zq169 => k_is)
    case zq4 =>
      refine' ⟨?zq206, ?zq207, ?zq208, ?zq209, ?zq210, ?zq211, ?zq212, ?zq213, ?zq214, ?zq215, ?zq216, ?zq217, ?zq218, ?zq219⟩
      case zq206 =>
        refine' Wa.z_init ?zq220 ?zq221 ?zq222 ?zq223 ?zq224 ?zq225 ?zq226
        (case zq220 => k_is)
        (case zq221 => k_is)
        (case zq222 => k_is)
        (case zq223 => k_is)
        (case zq224 => k_is)
        (case zq225 => k_is)
        (case zq226 => k_is)
      case zq207 =>
        refine' Wa.z_m_names ?zq227 ?zq228 ?zq229 ?zq230 ?zq231
        (case zq227 => k_is)
        (case zq228 => k_is)
        (case zq229 => k_is)
        (case zq230 => k_is)
        (case zq231 => k_is)
      case zq208 =>
        refine' Wa.z_m_bof ?zq232 ?zq233 ?zq234 ?zq235 ?zq236
        (case zq232 => k_is)
        (case zq233 => k_is)
        (case zq234 => k_is)
        (case zq235 => k_is)
        (case zq236 => k_is)
      case zq209 =>
        refine' Wa.z_m_many ?zq237 ?zq238 ?zq239 ?zq240 ?zq241
        (case zq237 => k_is)
        (case zq238 => k_is)
        (case zq239 => k_is)
        (case zq240 => k_is)
        (case zq241 => k_is)
      case zq210 =>
        refine' Wa.z_m_birth ?zq242 ?zq243 ?zq244 ?zq245 ?zq246
        (case zq242 => k_is)
        (case zq243 => k_is)
        (case zq244 => k_is)
        (case zq245 => k_is)
        (case zq246 => k_is)
      case zq211 =>
        refine' Wa.z_m_put ?zq247 ?zq248 ?zq249 ?zq250 ?zq251
        (case zq247 => k_is)
        (case zq248 => k_is)
        (case zq249 => k_is)
        (case zq250 => k_is)
        (case zq251 => k_is)
      case zq212 =>
        refine' Wa.z_m_cut ?zq252 ?zq253 ?zq254 ?zq255 ?zq256
        (case zq252 => k_is)
        (case zq253 => k_is)
        (case zq254 => k_is)
        (case zq255 => k_is)
        (case zq256 => k_is)
      case zq213 =>
        refine' Wa.z_m_hold ?zq257 ?zq258 ?zq259 ?zq260 ?zq261
        (case zq257 => k_is)
        (case zq258 => k_is)
        (case zq259 => k_is)
        (case zq260 => k_is)
        (case zq261 => k_is)
      case zq214 =>
        refine' Wa.z_m_want ?zq262 ?zq263 ?zq264 ?zq265 ?zq266
        (case zq262 => k_is)
        (case zq263 => k_is)
        (case zq264 => k_is)
        (case zq265 => k_is)
        (case zq266 => k_is)
      case zq215 =>
        refine' Wa.z_m_free ?zq267 ?zq268 ?zq269 ?zq270 ?zq271
        (case zq267 => k_is)
        (case zq268 => k_is)
        (case zq269 => k_is)
        (case zq270 => k_is)
        (case zq271 => k_is)
      case zq216 =>
        refine' Wa.z_m_held ?zq272 ?zq273 ?zq274 ?zq275 ?zq276
        (case zq272 => k_is)
        (case zq273 => k_is)
        (case zq274 => k_is)
        (case zq275 => k_is)
        (case zq276 => k_is)
      case zq217 =>
        refine' Wa.z_m_ofh ?zq277 ?zq278 ?zq279 ?zq280 ?zq281
        (case zq277 => k_is)
        (case zq278 => k_is)
        (case zq279 => k_is)
        (case zq280 => k_is)
        (case zq281 => k_is)
      case zq218 =>
        refine' Wa.z_m_liv ?zq282 ?zq283 ?zq284 ?zq285 ?zq286
        (case zq282 => k_is)
        (case zq283 => k_is)
        (case zq284 => k_is)
        (case zq285 => k_is)
        (case zq286 => k_is)
      case zq219 =>
        refine' Wa.z_m_cop ?zq287 ?zq288 ?zq289 ?zq290 ?zq291
        (case zq287 => k_is)
        (case zq288 => k_is)
        (case zq289 => k_is)
        (case zq290 => k_is)
        (case zq291 => k_is)
    case zq5 =>
      refine' ⟨?zq292, ?zq293, ?zq294, ?zq295, ?zq296, ?zq297, ?zq298, ?zq299, ?zq300, ?zq301, ?zq302, ?zq303, ?zq304, ?zq305, ?zq306, ?zq307, ?zq308⟩
      case zq292 =>
        refine' Wa.z_g_at_ KX G ?zq309 ?zq310 ?zq311 ?zq312
        (case zq309 => k_is)
        (case zq310 => k_is)
        (case zq311 => k_is)
        (case zq312 => k_is)
      case zq293 =>
        refine' Wa.z_g_pot KX G ?zq313 ?zq314 ?zq315 ?zq316
        (case zq313 => k_is)
        (case zq314 => k_is)
        (case zq315 => k_is)
        (case zq316 => k_is)
      case zq294 =>
        refine' Wa.z_g_take KX G ?zq317 ?zq318 ?zq319 ?zq320
        (case zq317 => k_is)
        (case zq318 => k_is)
        (case zq319 => k_is)
        (case zq320 => k_is)
      case zq295 =>
        refine' Wa.z_g_drawn KX G ?zq321 ?zq322 ?zq323 ?zq324
        (case zq321 => k_is)
        (case zq322 => k_is)
        (case zq323 => k_is)
        (case zq324 => k_is)
      case zq296 =>
        refine' Wa.z_g_name KX G ?zq325 ?zq326 ?zq327 ?zq328
        (case zq325 => k_is)
        (case zq326 => k_is)
        (case zq327 => k_is)
        (case zq328 => k_is)
      case zq297 =>
        refine' Wa.z_g_names KX G ?zq329 ?zq330 ?zq331 ?zq332
        (case zq329 => k_is)
        (case zq330 => k_is)
        (case zq331 => k_is)
        (case zq332 => k_is)
      case zq298 =>
        refine' Wa.z_g_birth KX G ?zq333 ?zq334 ?zq335 ?zq336
        (case zq333 => k_is)
        (case zq334 => k_is)
        (case zq335 => k_is)
        (case zq336 => k_is)
      case zq299 =>
        refine' Wa.z_g_deed KX G ?zq337 ?zq338 ?zq339 ?zq340
        (case zq337 => k_is)
        (case zq338 => k_is)
        (case zq339 => k_is)
        (case zq340 => k_is)
      case zq300 =>
        refine' Wa.z_g_fdue KX G ?zq341 ?zq342 ?zq343 ?zq344
        (case zq341 => k_is)
        (case zq342 => k_is)
        (case zq343 => k_is)
        (case zq344 => k_is)
      case zq301 =>
        refine' Wa.z_g_due KX G ?zq345 ?zq346 ?zq347 ?zq348
        (case zq345 => k_is)
        (case zq346 => k_is)
        (case zq347 => k_is)
        (case zq348 => k_is)
      case zq302 =>
        refine' Wa.z_g_ref KX G ?zq349 ?zq350 ?zq351 ?zq352
        (case zq349 => k_is)
        (case zq350 => k_is)
        (case zq351 => k_is)
        (case zq352 => k_is)
      case zq303 =>
        refine' Wa.z_g_told KX G ?zq353 ?zq354 ?zq355 ?zq356
        (case zq353 => k_is)
        (case zq354 => k_is)
        (case zq355 => k_is)
        (case zq356 => k_is)
      case zq304 =>
        refine' Wa.z_g_ism KX G ?zq357 ?zq358 ?zq359 ?zq360
        (case zq357 => k_is)
        (case zq358 => k_is)
        (case zq359 => k_is)
        (case zq360 => k_is)
      case zq305 =>
        refine' Wa.z_g_liv KX G ?zq361 ?zq362 ?zq363 ?zq364
        (case zq361 => k_is)
        (case zq362 => k_is)
        (case zq363 => k_is)
        (case zq364 => k_is)
      case zq306 =>
        refine' Wa.z_g_are KX G ?zq365 ?zq366 ?zq367 ?zq368
        (case zq365 => k_is)
        (case zq366 => k_is)
        (case zq367 => k_is)
        (case zq368 => k_is)
      case zq307 =>
        refine' Wa.z_g_more KX G ?zq369 ?zq370 ?zq371 ?zq372
        (case zq369 => k_is)
        (case zq370 => k_is)
        (case zq371 => k_is)
        (case zq372 => k_is)
      case zq308 =>
        refine' Wa.z_g_all KX G ?zq373 ?zq374 ?zq375 ?zq376
        (case zq373 => k_is)
        (case zq374 => k_is)
        (case zq375 => k_is)
        (case zq376 => k_is)
    (case zq6 => k_is)
    case zq7 =>
      refine' Wa.z_law ?zq377 ?zq378 ?zq379
      (case zq377 => k_is)
      (case zq378 => k_is)
      (case zq379 => k_is)
