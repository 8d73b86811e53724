import PyProof.Rows.All
import PySem.Str
import Wide.All
import OpenK.AllK
import Wide.FinOn
import HandS.ForMost
import HandS.Flow
import HandS.Style
import HandS.TryOnly
import HandS.WordsExc
import HandS.FStr
import HandS.DictComp
import HandS.IsInst
import HandS.Star
import HandS.Property
import HandS.Deep
import HandS.Walk
import HandS.Wide
import HandS.TupAny
import HandS.SortOrd
import HandS.SetKeys
import HandS.Codes
import KE.SortData
import PySem.Challenge.RW_conceptworlds_k77_whole_depths
import KE.KDictSum
import HandS.More
import KE.LtData
import PyProof.DictMoreH
import HandS.Zip
import HandS.SetTxt0
import HandS.Set
import KE.GoesSet
import KE.GoesMore
section
set_option Elab.async false
set_option linter.all false
/-! The mathematics of concepts: trees, the plain order, reduced forms. -/
namespace K77
open PySem

inductive Con where
  | all
  | nm (s : Str)
  | sm (r : Str) (c : Con)
  | an (cs : List Con)

inductive All2 {α β : Type} (R : α → β → Prop) : List α → List β → Prop where
  | nil : All2 R [] []
  | cons {a b l m} : R a b → All2 R l m → All2 R (a :: l) (b :: m)

section all2
variable {α β : Type} {R S : α → β → Prop}
theorem All2.len {l : List α} {m : List β} (h : All2 R l m) : l.length = m.length := by
  induction h with
  | nil => rfl
  | cons _ _ ih => simp [ih]
theorem All2.imp {l : List α} {m : List β} (h : All2 R l m) (f : ∀ a b, R a b → S a b) : All2 S l m := by
  induction h with
  | nil => exact .nil
  | cons r _ ih => exact .cons (f _ _ r) ih
theorem All2.impM {l : List α} {m : List β} (h : All2 R l m) (f : ∀ a ∈ l, ∀ b ∈ m, R a b → S a b) : All2 S l m := by
  induction h with
  | nil => exact .nil
  | cons r _ ih =>
    exact .cons (f _ (List.mem_cons_self) _ (List.mem_cons_self) r) (ih fun a ha b hb => f a (List.mem_cons_of_mem _ ha) b (List.mem_cons_of_mem _ hb))
theorem All2.left {l : List α} {m : List β} (h : All2 R l m) : ∀ a ∈ l, ∃ b ∈ m, R a b := by
  induction h with
  | nil => intro a h; cases h
  | cons r _ ih =>
    intro a h
    rcases List.mem_cons.mp h with rfl | h
    · exact ⟨_, List.mem_cons_self, r⟩
    · obtain ⟨b, hb, q⟩ := ih a h
      exact ⟨b, List.mem_cons_of_mem _ hb, q⟩
theorem All2.right {l : List α} {m : List β} (h : All2 R l m) : ∀ b ∈ m, ∃ a ∈ l, R a b := by
  induction h with
  | nil => intro a h; cases h
  | cons r _ ih =>
    intro a h
    rcases List.mem_cons.mp h with rfl | h
    · exact ⟨_, List.mem_cons_self, r⟩
    · obtain ⟨b, hb, q⟩ := ih a h
      exact ⟨b, List.mem_cons_of_mem _ hb, q⟩
theorem All2.app {l l' : List α} {m m' : List β} (h : All2 R l m) (h' : All2 R l' m') : All2 R (l ++ l') (m ++ m') := by
  induction h with
  | nil => exact h'
  | cons r _ ih => exact .cons r ih
theorem All2.one {a : α} {b : β} (h : R a b) : All2 R [a] [b] := .cons h .nil
theorem All2.snoc {l : List α} {m : List β} {a : α} {b : β} (h : All2 R l m) (r : R a b) : All2 R (l ++ [a]) (m ++ [b]) := h.app (.one r)
theorem All2.get {l : List α} {m : List β} (h : All2 R l m) : ∀ {i : Nat} {a b}, l[i]? = some a → m[i]? = some b → R a b := by
  induction h with
  | nil => intro i a b h; simp at h
  | cons r _ ih =>
    intro i a b h1 h2
    cases i with
    | zero =>
      simp only [List.getElem?_cons_zero, Option.some.injEq] at h1 h2
      subst h1; subst h2; exact r
    | succ i => exact ih (by simpa using h1) (by simpa using h2)
theorem All2.getL {l : List α} {m : List β} (h : All2 R l m) {i : Nat} {a} (e : l[i]? = some a) : ∃ b, m[i]? = some b ∧ R a b := by
  have hi : i < m.length := by rw [← h.len]; exact (List.getElem?_eq_some_iff.mp e).1
  exact ⟨m[i], List.getElem?_eq_getElem hi, h.get e (List.getElem?_eq_getElem hi)⟩
theorem All2.getR {l : List α} {m : List β} (h : All2 R l m) {i : Nat} {b} (e : m[i]? = some b) : ∃ a, l[i]? = some a ∧ R a b := by
  have hi : i < l.length := by rw [h.len]; exact (List.getElem?_eq_some_iff.mp e).1
  exact ⟨l[i], List.getElem?_eq_getElem hi, h.get (List.getElem?_eq_getElem hi) e⟩
theorem All2.take {l : List α} {m : List β} (h : All2 R l m) : ∀ n, All2 R (l.take n) (m.take n) := by
  induction h with
  | nil => intro n; simp; exact .nil
  | cons r _ ih =>
    intro n
    cases n with
    | zero => exact .nil
    | succ n => exact .cons r (ih n)
theorem All2.map {γ δ : Type} {T : γ → δ → Prop} {f : α → γ} {g : β → δ} {l : List α} {m : List β} (h : All2 R l m) (q : ∀ a b, R a b → T (f a) (g b)) : All2 T (l.map f) (m.map g) := by
  induction h with
  | nil => exact .nil
  | cons r _ ih => exact .cons (q _ _ r) ih
theorem All2.of_get {l : List α} {m : List β} (hl : l.length = m.length) (h : ∀ (i : Nat) a b, l[i]? = some a → m[i]? = some b → R a b) : All2 R l m := by
  induction l generalizing m with
  | nil =>
    cases m with
    | nil => exact .nil
    | cons => simp at hl
  | cons a l ih =>
    cases m with
    | nil => simp at hl
    | cons b m => exact .cons (h 0 a b rfl rfl) (ih (by simpa using hl) fun i a b h1 h2 => h (i + 1) a b (by simpa using h1) (by simpa using h2))
end all2

/-! ### conjuncts, names, children -/
mutual
def cj : Con → List Con
  | .all => []
  | .nm s => [.nm s]
  | .sm r c => [.sm r c]
  | .an cs => cjs cs
def cjs : List Con → List Con
  | [] => []
  | c :: r => cj c ++ cjs r
end
def nmOf : Con → Option Str
  | .nm s => some s
  | _ => none
def smOf : Con → Option (Str × Con)
  | .sm r c => some (r, c)
  | _ => none
def names (c : Con) : List Str := (cj c).filterMap nmOf
def kids (c : Con) : List (Str × Con) := (cj c).filterMap smOf

mutual
/-- the depth by roles -/
def dep : Con → Nat
  | .all => 0
  | .nm _ => 0
  | .sm _ c => dep c + 1
  | .an cs => deps cs
def deps : List Con → Nat
  | [] => 0
  | c :: r => max (dep c) (deps r)
end
mutual
/-- how deep tuples are nested -/
def nest : Con → Nat
  | .all => 0
  | .nm _ => 0
  | .sm _ c => nest c + 1
  | .an cs => nests cs + 1
def nests : List Con → Nat
  | [] => 0
  | c :: r => max (nest c) (nests r)
end
mutual
/-- the number of parts -/
def wt : Con → Nat
  | .all => 1
  | .nm _ => 1
  | .sm _ c => wt c + 1
  | .an cs => wts cs + 1
def wts : List Con → Nat
  | [] => 0
  | c :: r => wt c + wts r
end
theorem dep_le_deps : ∀ {cs : List Con} {c}, c ∈ cs → dep c ≤ deps cs
  | a :: r, c, h => by
    rcases List.mem_cons.mp h with rfl | h
    · simp only [deps]; omega
    · have := dep_le_deps h; simp only [deps]; omega
theorem nest_le_nests : ∀ {cs : List Con} {c}, c ∈ cs → nest c ≤ nests cs
  | a :: r, c, h => by
    rcases List.mem_cons.mp h with rfl | h
    · simp only [nests]; omega
    · have := nest_le_nests h; simp only [nests]; omega
theorem wt_le_wts : ∀ {cs : List Con} {c}, c ∈ cs → wt c ≤ wts cs
  | a :: r, c, h => by
    rcases List.mem_cons.mp h with rfl | h
    · simp only [wts]; omega
    · have := wt_le_wts h; simp only [wts]; omega
theorem deps_le {n : Nat} : ∀ {cs : List Con}, (∀ c ∈ cs, dep c ≤ n) → deps cs ≤ n
  | [], _ => by simp only [deps]; omega
  | c :: r, h => by
    have h1 := h c List.mem_cons_self
    have h2 := deps_le (cs := r) fun d hd => h d (List.mem_cons_of_mem _ hd)
    simp only [deps]; omega
theorem nests_le {n : Nat} : ∀ {cs : List Con}, (∀ c ∈ cs, nest c ≤ n) → nests cs ≤ n
  | [], _ => by simp only [nests]; omega
  | c :: r, h => by
    have h1 := h c List.mem_cons_self
    have h2 := nests_le (cs := r) fun d hd => h d (List.mem_cons_of_mem _ hd)
    simp only [nests]; omega
theorem wts_le {n : Nat} : ∀ {cs : List Con}, (∀ c ∈ cs, wt c ≤ n) → wts cs ≤ cs.length * n
  | [], _ => by simp only [wts]; omega
  | c :: r, h => by
    have h1 := h c List.mem_cons_self
    have h2 := wts_le (cs := r) fun d hd => h d (List.mem_cons_of_mem _ hd)
    simp only [wts, List.length_cons, Nat.add_mul]; omega
theorem wts_app : ∀ (a b : List Con), wts (a ++ b) = wts a + wts b
  | [], b => by simp [wts]
  | c :: r, b => by simp only [List.cons_append, wts, wts_app r b]; omega
theorem wt_pos : ∀ c, 1 ≤ wt c
  | .all => by simp [wt]
  | .nm _ => by simp [wt]
  | .sm _ c => by simp [wt]
  | .an cs => by simp [wt]

theorem Con.ind {P : Con → Prop} (h1 : P .all) (h2 : ∀ s, P (.nm s)) (h3 : ∀ r c, P c → P (.sm r c)) (h4 : ∀ cs, (∀ c ∈ cs, P c) → P (.an cs)) : ∀ c, P c := by
  have go : ∀ n c, wt c ≤ n → P c := by
    intro n
    induction n with
    | zero => intro c h; have := wt_pos c; omega
    | succ n ih =>
      intro c h
      cases c with
      | all => exact h1
      | nm s => exact h2 s
      | sm r c => exact h3 r c (ih c (by simp only [wt] at h; omega))
      | an cs => exact h4 cs fun c hc => ih c (by have := wt_le_wts hc; simp only [wt] at h; omega)
  exact fun c => go (wt c) c (Nat.le_refl _)

theorem mem_cjs : ∀ {cs : List Con} {x}, x ∈ cjs cs ↔ ∃ c ∈ cs, x ∈ cj c
  | [], x => by simp [cjs]
  | c :: r, x => by simp only [cjs, List.mem_append, mem_cjs (cs := r), List.mem_cons, exists_eq_or_imp]
/-- what stands in conjuncts: names and somes -/
def IsItem : Con → Prop
  | .nm _ => True
  | .sm _ _ => True
  | _ => False
theorem cj_item : ∀ c, ∀ x ∈ cj c, IsItem x := by
  refine Con.ind (by simp [cj]) (by simp [cj, IsItem]) (by simp [cj, IsItem]) ?_
  intro cs ih x hx
  simp only [cj, mem_cjs] at hx
  obtain ⟨c, hc, hx⟩ := hx
  exact ih c hc x hx
theorem mem_names {c : Con} {s : Str} : s ∈ names c ↔ Con.nm s ∈ cj c := by
  simp only [names, List.mem_filterMap]
  constructor
  · rintro ⟨x, hx, e⟩
    cases x <;> simp [nmOf] at e
    subst e; exact hx
  · intro h; exact ⟨_, h, rfl⟩
theorem mem_kids {c : Con} {r : Str} {k : Con} : (r, k) ∈ kids c ↔ Con.sm r k ∈ cj c := by
  simp only [kids, List.mem_filterMap]
  constructor
  · rintro ⟨x, hx, e⟩
    cases x <;> simp [smOf] at e
    obtain ⟨rfl, rfl⟩ := e; exact hx
  · intro h; exact ⟨_, h, rfl⟩
theorem dep_cj : ∀ c, ∀ x ∈ cj c, dep x ≤ dep c := by
  refine Con.ind (by simp [cj]) (by simp [cj]) (by simp [cj]) ?_
  intro cs ih x hx
  simp only [cj, mem_cjs] at hx
  obtain ⟨c, hc, hx⟩ := hx
  have h1 := ih c hc x hx
  have h2 := dep_le_deps hc
  simp only [dep]; omega
theorem dep_kid {c : Con} {r : Str} {k : Con} (h : (r, k) ∈ kids c) : dep k + 1 ≤ dep c := by
  have := dep_cj c _ (mem_kids.mp h)
  simpa [dep] using this
theorem cjs_items : ∀ {l : List Con}, (∀ x ∈ l, IsItem x) → cjs l = l
  | [], _ => by simp [cjs]
  | c :: r, h => by
    have hc := h c List.mem_cons_self
    have hr := cjs_items (l := r) fun x hx => h x (List.mem_cons_of_mem _ hx)
    cases c <;> simp [IsItem] at hc <;> simp [cjs, cj, hr]

/-! ### the plain order -/
inductive Le : Con → Con → Prop where
  | mk {c d : Con} (f : Str × Con → Con) : (∀ s ∈ names d, s ∈ names c) → (∀ p ∈ kids d, (p.1, f p) ∈ kids c) → (∀ p ∈ kids d, Le (f p) p.2) → Le c d
theorem le_iff {c d : Con} : Le c d ↔ (∀ s ∈ names d, s ∈ names c) ∧ (∀ r k, (r, k) ∈ kids d → ∃ k', (r, k') ∈ kids c ∧ Le k' k) := by
  constructor
  · intro h
    cases h with
    | mk f h1 h2 h3 => exact ⟨h1, fun r k m => ⟨f (r, k), h2 _ m, h3 _ m⟩⟩
  · rintro ⟨h1, h2⟩
    have : ∀ p : Str × Con, ∃ k', p ∈ kids d → (p.1, k') ∈ kids c ∧ Le k' p.2 := by
      intro p
      by_cases hp : p ∈ kids d
      · obtain ⟨k', a, b⟩ := h2 p.1 p.2 hp
        exact ⟨k', fun _ => ⟨a, b⟩⟩
      · exact ⟨.all, fun z => absurd z hp⟩
    exact .mk (fun p => Classical.choose (this p)) h1 (fun p hp => (Classical.choose_spec (this p) hp).1) fun p hp => (Classical.choose_spec (this p) hp).2
theorem Le.nms {c d : Con} (h : Le c d) : ∀ s ∈ names d, s ∈ names c := (le_iff.mp h).1
theorem Le.kds {c d : Con} (h : Le c d) : ∀ r k, (r, k) ∈ kids d → ∃ k', (r, k') ∈ kids c ∧ Le k' k := (le_iff.mp h).2
theorem le_refl_n : ∀ n c, dep c ≤ n → Le c c := by
  intro n
  induction n with
  | zero =>
    intro c h
    refine le_iff.mpr ⟨fun _ h => h, fun r k hk => ?_⟩
    have := dep_kid hk; omega
  | succ n ih =>
    intro c h
    refine le_iff.mpr ⟨fun _ h => h, fun r k hk => ⟨k, hk, ih k ?_⟩⟩
    have := dep_kid hk; omega
theorem Le.refl (c : Con) : Le c c := le_refl_n _ c (Nat.le_refl _)
theorem Le.trans {a b c : Con} (h1 : Le a b) (h2 : Le b c) : Le a c := by
  induction h2 generalizing a with
  | mk f hn hk hl ih =>
    refine le_iff.mpr ⟨fun s hs => h1.nms s (hn s hs), fun r k hrk => ?_⟩
    obtain ⟨k2, m2, l2⟩ := h1.kds r _ (hk (r, k) hrk)
    exact ⟨k2, m2, ih (r, k) hrk l2⟩
end K77
end

section
set_option Elab.async false
set_option linter.all false
/-! Words, texts (one text, one concept), ascending lists. -/
namespace K77
open PySem

def lAll : List Nat := [97, 108, 108]
def lNone : List Nat := [110, 111, 110, 101]
def lSome : List Nat := [115, 111, 109, 101]
def Let (n : Nat) : Prop := 97 ≤ n ∧ n ≤ 122
structure Word (s : Str) : Prop where
  lets : ∀ n ∈ s.cps.toList, Let n
  pos : 1 ≤ s.cps.toList.length
  len : s.cps.toList.length ≤ 12
  na : s.cps.toList ≠ lAll
  nn : s.cps.toList ≠ lNone
  ns : s.cps.toList ≠ lSome
theorem str_eq {a b : Str} (h : a.cps.toList = b.cps.toList) : a = b := by
  cases a; cases b
  congr
  exact Array.toList_inj.mp h

mutual
/-- words everywhere, and two parts in an and -/
def Good : Con → Prop
  | .all => True
  | .nm s => Word s
  | .sm r c => Word r ∧ Good c
  | .an cs => 2 ≤ cs.length ∧ Goods cs
def Goods : List Con → Prop
  | [] => True
  | c :: r => Good c ∧ Goods r
end
theorem goods_iff : ∀ {cs : List Con}, Goods cs ↔ ∀ c ∈ cs, Good c
  | [] => by simp [Goods]
  | c :: r => by simp only [Goods, goods_iff (cs := r), List.mem_cons, forall_eq_or_imp]
theorem good_cj : ∀ c, Good c → ∀ x ∈ cj c, Good x := by
  refine Con.ind (by simp [cj]) (by simp [cj]) (by simp [cj]) ?_
  intro cs ih g x hx
  simp only [cj, mem_cjs] at hx
  obtain ⟨c, hc, hx⟩ := hx
  exact ih c hc (goods_iff.mp g.2 c hc) x hx
theorem good_name {c : Con} {s : Str} (g : Good c) (h : s ∈ names c) : Word s := good_cj c g _ (mem_names.mp h)
theorem good_kid {c k : Con} {r : Str} (g : Good c) (h : (r, k) ∈ kids c) : Word r ∧ Good k := good_cj c g _ (mem_kids.mp h)

/-! ### texts -/
mutual
def cl : Con → List Nat
  | .all => lAll
  | .nm s => s.cps.toList
  | .sm r c => lSome ++ 32 :: (r.cps.toList ++ 32 :: cl c)
  | .an cs => 40 :: (jo cs ++ [41])
def jo : List Con → List Nat
  | [] => []
  | c :: r => cl c ++ jor r
def jor : List Con → List Nat
  | [] => []
  | c :: r => 32 :: 38 :: 32 :: (cl c ++ jor r)
end
def tx : Con → List Nat
  | .an cs => jo cs
  | c => cl c
def txt (c : Con) : Str := ⟨(tx c).toArray⟩
def clt (c : Con) : Str := ⟨(cl c).toArray⟩
theorem txt_inj_tx {c d : Con} (h : txt c = txt d) : tx c = tx d := by
  unfold txt at h
  injection h with h
  have := congrArg Array.toList h
  simpa using this
theorem tx_item {c : Con} (h : IsItem c) : tx c = cl c := by cases c <;> simp [IsItem] at h <;> rfl

def Stop (u : List Nat) : Prop := ∀ n, u.head? = some n → ¬ Let n
theorem stop_nil : Stop [] := by intro n h; simp at h
theorem stop_cons {n : Nat} {u : List Nat} (h : ¬ Let n) : Stop (n :: u) := by
  intro m e
  simp at e
  subst e; exact h
theorem run_eq : ∀ {a b u v : List Nat}, (∀ n ∈ a, Let n) → (∀ n ∈ b, Let n) → Stop u → Stop v → a ++ u = b ++ v → a = b ∧ u = v
  | [], [], u, v, _, _, _, _, h => ⟨rfl, h⟩
  | [], n :: b, u, v, _, hb, su, _, h => by
    have e : u = n :: (b ++ v) := h
    exact absurd (hb n List.mem_cons_self) (su n (by rw [e]; rfl))
  | n :: a, [], u, v, ha, _, _, sv, h => by
    have e : n :: (a ++ u) = v := h
    exact absurd (ha n List.mem_cons_self) (sv n (by rw [← e]; rfl))
  | n :: a, m :: b, u, v, ha, hb, su, sv, h => by
    have e : n :: (a ++ u) = m :: (b ++ v) := h
    injection e with e1 e2
    obtain ⟨h1, h2⟩ := run_eq (fun k hk => ha k (List.mem_cons_of_mem _ hk)) (fun k hk => hb k (List.mem_cons_of_mem _ hk)) su sv e2
    exact ⟨by rw [e1, h1], h2⟩
theorem let_all : ∀ n ∈ lAll, Let n := by simp [lAll, Let]
theorem let_some : ∀ n ∈ lSome, Let n := by simp [lSome, Let]
theorem no32 : ¬ Let 32 := by simp [Let]
theorem no40 : ¬ Let 40 := by simp [Let]
theorem no41 : ¬ Let 41 := by simp [Let]

theorem jor_head {cs : List Con} {u : List Nat} : Stop u → Stop (jor cs ++ u) := by
  intro h
  cases cs with
  | nil => simpa [jor] using h
  | cons c r => simp only [jor, List.cons_append]; exact stop_cons no32
theorem sm_split {r : Str} {c : Con} {u : List Nat} : cl (.sm r c) ++ u = lSome ++ 32 :: (r.cps.toList ++ 32 :: (cl c ++ u)) := by
  simp [cl, List.append_assoc]
theorem cl_inj : ∀ x, Good x → ∀ y u v, Good y → Stop u → Stop v → cl x ++ u = cl y ++ v → x = y ∧ u = v := by
  refine Con.ind ?_ ?_ ?_ ?_
  · intro _ y u v gy su sv h
    cases y with
    | all => exact ⟨rfl, List.append_cancel_left h⟩
    | nm s =>
      have := (run_eq let_all gy.lets su sv h).1
      exact absurd this.symm gy.na
    | sm r c =>
      rw [sm_split] at h
      have := (run_eq let_all let_some su (stop_cons no32) h).1
      simp [lAll, lSome] at this
    | an cs => simp [cl, lAll] at h
  · intro s gx y u v gy su sv h
    cases y with
    | all =>
      have := (run_eq gx.lets let_all su sv h).1
      exact absurd this gx.na
    | nm s' =>
      obtain ⟨h1, h2⟩ := run_eq gx.lets gy.lets su sv h
      exact ⟨by rw [str_eq h1], h2⟩
    | sm r c =>
      rw [sm_split] at h
      have := (run_eq gx.lets let_some su (stop_cons no32) h).1
      exact absurd this gx.ns
    | an cs =>
      have h' : s.cps.toList ++ u = 40 :: (jo cs ++ [41] ++ v) := h
      cases e : s.cps.toList with
      | nil => have := gx.pos; rw [e] at this; simp at this
      | cons n r =>
        rw [e] at h'
        injection h' with h1 _
        subst h1
        exact absurd (gx.lets 40 (by rw [e]; exact List.mem_cons_self)) no40
  · intro r c ih gx y u v gy su sv h
    rw [sm_split] at h
    cases y with
    | all =>
      have := (run_eq let_some let_all (stop_cons no32) sv h).1
      simp [lAll, lSome] at this
    | nm s =>
      have := (run_eq let_some gy.lets (stop_cons no32) sv h).1
      exact absurd this.symm gy.ns
    | sm r' c' =>
      rw [sm_split] at h
      have h1 := List.append_cancel_left h
      injection h1 with _ h2
      obtain ⟨h3, h4⟩ := run_eq gx.1.lets gy.1.lets (stop_cons no32) (stop_cons no32) h2
      injection h4 with _ h5
      obtain ⟨h6, h7⟩ := ih gx.2 c' u v gy.2 su sv h5
      exact ⟨by rw [str_eq h3, h6], h7⟩
    | an cs => simp [cl, lSome] at h
  · intro cs ih gx y u v gy su sv h
    cases y with
    | all => simp [cl, lAll] at h
    | nm s =>
      have h' : 40 :: (jo cs ++ [41] ++ u) = s.cps.toList ++ v := h
      cases e : s.cps.toList with
      | nil => have := gy.pos; rw [e] at this; simp at this
      | cons n r =>
        rw [e] at h'
        injection h' with h1 _
        subst h1
        exact absurd (gy.lets 40 (by rw [e]; exact List.mem_cons_self)) no40
    | sm r c => simp [cl, lSome] at h
    | an ds =>
      have h' : jo cs ++ 41 :: u = jo ds ++ 41 :: v := by simpa [cl, List.append_assoc] using h
      have jr : ∀ (cs : List Con), (∀ c ∈ cs, ∀ y u v, Good c → Good y → Stop u → Stop v → cl c ++ u = cl y ++ v → c = y ∧ u = v) → Goods cs → ∀ ds, Goods ds → jor cs ++ 41 :: u = jor ds ++ 41 :: v → cs = ds ∧ u = v := by
        intro cs
        induction cs with
        | nil =>
          intro _ _ ds _ h
          cases ds with
          | nil => simp [jor] at h; exact ⟨rfl, h⟩
          | cons d r => simp [jor] at h
        | cons c r ihr =>
          intro ih g ds gd h
          cases ds with
          | nil => simp [jor] at h
          | cons d q =>
            simp only [jor, List.cons_append, List.append_assoc, List.cons.injEq, true_and] at h
            obtain ⟨h1, h2⟩ := ih c List.mem_cons_self d _ _ g.1 gd.1 (jor_head (stop_cons no41)) (jor_head (stop_cons no41)) h
            obtain ⟨h3, h4⟩ := ihr (fun c hc => ih c (List.mem_cons_of_mem _ hc)) g.2 q gd.2 h2
            exact ⟨by rw [h1, h3], h4⟩
      have ih' : ∀ c ∈ cs, ∀ y u v, Good c → Good y → Stop u → Stop v → cl c ++ u = cl y ++ v → c = y ∧ u = v := fun c hc y u v gc gy => ih c hc gc y u v gy
      cases cs with
      | nil => have := gx.1; simp at this
      | cons c r =>
        cases ds with
        | nil => have := gy.1; simp at this
        | cons d q =>
          simp only [jo, List.append_assoc] at h'
          obtain ⟨h1, h2⟩ := ih' c List.mem_cons_self d _ _ gx.2.1 gy.2.1 (jor_head (stop_cons no41)) (jor_head (stop_cons no41)) h'
          obtain ⟨h3, h4⟩ := jr r (fun c hc => ih' c (List.mem_cons_of_mem _ hc)) gx.2.2 q gy.2.2 h2
          exact ⟨by rw [h1, h3], h4⟩
theorem an_txt {cs : List Con} {y : Con} (gx : Good (.an cs)) (gy : Good y) (hy : ∀ ds, y ≠ .an ds) (h : jo cs = cl y) : False := by
  match cs, gx with
  | c :: d :: r, gx =>
    have h1 : cl c ++ jor (d :: r) = cl y ++ [] := by simpa [jo] using h
    obtain ⟨_, h3⟩ := cl_inj c gx.2.1 y _ _ gy (by simp only [jor]; exact stop_cons no32) stop_nil h1
    simp [jor] at h3
  | [c], gx => have := gx.1; simp at this
  | [], gx => have := gx.1; simp at this
/-- one text, one concept -/
theorem tx_inj {x y : Con} (gx : Good x) (gy : Good y) (h : tx x = tx y) : x = y := by
  by_cases hx : ∃ cs, x = .an cs
  · obtain ⟨cs, rfl⟩ := hx
    by_cases hy : ∃ ds, y = .an ds
    · obtain ⟨ds, rfl⟩ := hy
      have h1 : cl (.an cs) ++ [] = cl (.an ds) ++ [] := by
        have : jo cs = jo ds := h
        simp [cl, this]
      exact (cl_inj _ gx _ _ _ gy stop_nil stop_nil h1).1
    · have h1 : jo cs = cl y := by
        have : jo cs = tx y := h
        rw [this]
        cases y <;> first | rfl | exact absurd ⟨_, rfl⟩ hy
      exact (an_txt gx gy (fun ds e => hy ⟨ds, e⟩) h1).elim
  · have ex : tx x = cl x := by cases x <;> first | rfl | exact absurd ⟨_, rfl⟩ hx
    by_cases hy : ∃ ds, y = .an ds
    · obtain ⟨ds, rfl⟩ := hy
      have h1 : jo ds = cl x := by rw [← ex, h]; rfl
      exact (an_txt gy gx (fun ds e => hx ⟨ds, e⟩) h1).elim
    · have ey : tx y = cl y := by cases y <;> first | rfl | exact absurd ⟨_, rfl⟩ hy
      rw [ex, ey] at h
      exact (cl_inj x gx y [] [] gy stop_nil stop_nil (by simp [h])).1
theorem txt_inj {x y : Con} (gx : Good x) (gy : Good y) (h : txt x = txt y) : x = y := tx_inj gx gy (txt_inj_tx h)

/-! ### the length of a text -/
theorem jor_len {cs : List Con} : (jor cs).length = (cs.map fun c => (cl c).length + 3).sum := by
  induction cs with
  | nil => simp [jor]
  | cons c r ih => simp only [jor, List.length_cons, List.length_append, ih, List.map_cons, List.sum_cons]; omega
theorem cl_len : ∀ c, Good c → (cl c).length + 3 ≤ 25 * wt c := by
  refine Con.ind ?_ ?_ ?_ ?_
  · intro _; simp [cl, lAll, wt]
  · intro s g; have := g.len; simp only [cl, wt]; omega
  · intro r c ih g
    have h1 := ih g.2
    have h2 := g.1.len
    simp only [cl, wt, List.length_append, List.length_cons]
    have : lSome.length = 4 := rfl
    omega
  · intro cs ih g
    have h1 : (cs.map fun c => (cl c).length + 3).sum ≤ 25 * wts cs := by
      have : ∀ l : List Con, (∀ c ∈ l, (cl c).length + 3 ≤ 25 * wt c) → (l.map fun c => (cl c).length + 3).sum ≤ 25 * wts l := by
        intro l
        induction l with
        | nil => intro _; simp [wts]
        | cons c r ihr =>
          intro h
          have a := h c List.mem_cons_self
          have b := ihr fun d hd => h d (List.mem_cons_of_mem _ hd)
          simp only [List.map_cons, List.sum_cons, wts]; omega
      exact this cs fun c hc => ih c hc (goods_iff.mp g.2 c hc)
    have h2 : (jo cs).length ≤ (cs.map fun c => (cl c).length + 3).sum := by
      cases cs with
      | nil => simp [jo]
      | cons c r => simp only [jo, List.length_append, jor_len, List.map_cons, List.sum_cons]; omega
    simp only [cl, wt, List.length_cons, List.length_append, List.length_nil]
    omega
theorem tx_len {c : Con} (g : Good c) : (tx c).length ≤ 25 * wt c := by
  have h := cl_len c g
  cases c with
  | an cs => simp only [cl, List.length_cons, List.length_append, List.length_nil] at h; show (jo cs).length ≤ _; omega
  | all => show (cl _).length ≤ _; omega
  | nm s => show (cl _).length ≤ _; omega
  | sm r c => show (cl _).length ≤ _; omega

/-! ### ascending lists -/
def Asc {α : Type} (f : α → List Nat) (l : List α) : Prop := l.Pairwise fun a b => f a < f b
theorem asc_eq {α : Type} {f : α → List Nat} : ∀ {l m : List α}, Asc f l → Asc f m → (∀ x, x ∈ l ↔ x ∈ m) → l = m
  | [], [], _, _, _ => rfl
  | [], b :: m, _, _, h => absurd ((h b).mpr List.mem_cons_self) (by simp)
  | a :: l, [], _, _, h => absurd ((h a).mp List.mem_cons_self) (by simp)
  | a :: l, b :: m, h1, h2, h => by
    obtain ⟨p1, q1⟩ := List.pairwise_cons.mp h1
    obtain ⟨p2, q2⟩ := List.pairwise_cons.mp h2
    have irr : ∀ x : List Nat, ¬ x < x := fun x => List.lt_irrefl x
    have e : a = b := by
      rcases List.mem_cons.mp ((h a).mp List.mem_cons_self) with e | e
      · exact e
      · rcases List.mem_cons.mp ((h b).mpr List.mem_cons_self) with e' | e'
        · exact e'.symm
        · exact absurd (List.lt_trans (p2 a e) (p1 b e')) (irr _)
    subst e
    have : l = m := asc_eq q1 q2 fun x => by
      constructor
      · intro hx
        rcases List.mem_cons.mp ((h x).mp (List.mem_cons_of_mem _ hx)) with e | e
        · subst e; exact absurd (p1 x hx) (irr _)
        · exact e
      · intro hx
        rcases List.mem_cons.mp ((h x).mpr (List.mem_cons_of_mem _ hx)) with e | e
        · subst e; exact absurd (p2 x hx) (irr _)
        · exact e
    rw [this]
theorem asc_nodup {α : Type} {f : α → List Nat} {l : List α} (h : Asc f l) : l.Nodup := h.imp fun {a b} q e => by subst e; exact List.lt_irrefl _ q
theorem nodup_sub {α : Type} : ∀ {l m : List α}, l.Nodup → (∀ x ∈ l, x ∈ m) → l.length ≤ m.length := by
  classical
  intro l
  induction l with
  | nil => intro m _ _; simp
  | cons a l ih =>
    intro m hn hs
    obtain ⟨h1, h2⟩ := List.nodup_cons.mp hn
    have hm := hs a List.mem_cons_self
    have := ih (m := m.erase a) h2 fun x hx => (List.mem_erase_of_ne (fun (e : x = a) => h1 (by rw [← e]; exact hx))).mpr (hs x (List.mem_cons_of_mem _ hx))
    rw [List.length_erase_of_mem hm] at this
    have := List.length_pos_of_mem hm
    simp only [List.length_cons]; omega
end K77
end

section
set_option Elab.async false
set_option linter.all false
/-! Worlds, reduced forms. -/
namespace K77
open PySem

/-! ### words in names and roles (an and of any number of parts) -/
def WdN : Nat → Con → Prop
  | 0, c => (∀ s ∈ names c, Word s) ∧ kids c = []
  | n + 1, c => (∀ s ∈ names c, Word s) ∧ ∀ p ∈ kids c, Word p.1 ∧ WdN n p.2
theorem wdN_good : ∀ n c, Good c → dep c ≤ n → WdN n c
  | 0, c, g, h => ⟨fun s hs => good_name g hs, by
      cases e : kids c with
      | nil => rfl
      | cons p r =>
        have := dep_kid (c := c) (r := p.1) (k := p.2) (by rw [e]; exact List.mem_cons_self)
        omega⟩
  | n + 1, c, g, h => ⟨fun s hs => good_name g hs, fun p hp => ⟨(good_kid g hp).1, wdN_good n p.2 (good_kid g hp).2 (by have := dep_kid (c := c) (r := p.1) (k := p.2) hp; omega)⟩⟩

/-! ### what holds of lists -/
def mkc : List Con → Con
  | [] => .all
  | [c] => c
  | l => .an l
theorem cj_mkc {l : List Con} (h : ∀ x ∈ l, IsItem x) : cj (mkc l) = l := by
  match l with
  | [] => rfl
  | [c] =>
    have := h c List.mem_cons_self
    cases c <;> simp [IsItem] at this <;> rfl
  | c :: d :: r => show cjs _ = _; exact cjs_items h
theorem dep_mkc {l : List Con} {n : Nat} (h : ∀ x ∈ l, dep x ≤ n) : dep (mkc l) ≤ n := by
  match l with
  | [] => exact Nat.zero_le _
  | [c] => exact h c List.mem_cons_self
  | c :: d :: r => show deps _ ≤ _; exact deps_le h
theorem nest_mkc {l : List Con} {n : Nat} (h : ∀ x ∈ l, nest x ≤ n) : nest (mkc l) ≤ n + 1 := by
  match l with
  | [] => exact Nat.zero_le _
  | [c] => exact Nat.le_succ_of_le (h c List.mem_cons_self)
  | c :: d :: r => show nests _ + 1 ≤ _; exact Nat.succ_le_succ (nests_le h)
theorem wt_mkc {l : List Con} : wt (mkc l) ≤ wts l + 1 := by
  match l with
  | [] => simp [mkc, wt]
  | [c] => simp [mkc, wts]
  | c :: d :: r => show wts _ + 1 ≤ _; omega
theorem good_mkc {l : List Con} (h : ∀ x ∈ l, Good x) : Good (mkc l) := by
  match l with
  | [] => trivial
  | [c] => exact h c List.mem_cons_self
  | c :: d :: r => exact ⟨by simp, goods_iff.mpr h⟩

/-! ### a least one in a list -/
theorem filter_lt {α : Type} {p q : α → Bool} : ∀ {l : List α} {y : α}, (∀ x ∈ l, p x = true → q x = true) → y ∈ l → q y = true → p y = false → (l.filter p).length < (l.filter q).length
  | a :: l, y, h, hy, hq, hp => by
    have hl : ∀ x ∈ l, p x = true → q x = true := fun x hx => h x (List.mem_cons_of_mem _ hx)
    have le : (l.filter p).length ≤ (l.filter q).length := by
      clear hy hq hp h
      induction l with
      | nil => simp
      | cons b l ih =>
        have hb := hl b List.mem_cons_self
        have ih := ih fun x hx => hl x (List.mem_cons_of_mem _ hx)
        rw [List.filter_cons, List.filter_cons]
        split
        · rename_i e; rw [if_pos (hb e)]; simp only [List.length_cons]; omega
        · split <;> (try simp only [List.length_cons]) <;> omega
    rcases List.mem_cons.mp hy with rfl | hy
    · rw [List.filter_cons, List.filter_cons, if_neg (by rw [hp]; simp), if_pos hq]; simp only [List.length_cons]; omega
    · have ih := filter_lt hl hy hq hp
      have ha := h a List.mem_cons_self
      rw [List.filter_cons, List.filter_cons]
      split
      · rename_i e; rw [if_pos (ha e)]; simp only [List.length_cons]; omega
      · split <;> (try simp only [List.length_cons]) <;> omega
theorem least_in (S : List Con) (anti : ∀ x ∈ S, ∀ y ∈ S, Le x y → Le y x → x = y) (y : Con) (hy : y ∈ S) : ∃ z ∈ S, Le z y ∧ ∀ w ∈ S, Le w z → w = z := by
  classical
  have go : ∀ n, ∀ y ∈ S, (S.filter fun z => decide (Le z y)).length ≤ n → ∃ z ∈ S, Le z y ∧ ∀ w ∈ S, Le w z → w = z := by
    intro n
    induction n with
    | zero =>
      intro y hy h
      have : y ∈ S.filter fun z => decide (Le z y) := List.mem_filter.mpr ⟨hy, decide_eq_true (Le.refl y)⟩
      have := List.length_pos_of_mem this
      omega
    | succ n ih =>
      intro y hy h
      by_cases hm : ∃ w ∈ S, Le w y ∧ w ≠ y
      · obtain ⟨w, hw, hl, hne⟩ := hm
        have lt : (S.filter fun z => decide (Le z w)).length < (S.filter fun z => decide (Le z y)).length :=
          filter_lt (y := y) (fun x _ h => decide_eq_true ((of_decide_eq_true h).trans hl)) hy (decide_eq_true (Le.refl y)) (decide_eq_false fun z => hne (anti w hw y hy hl z))
        obtain ⟨z, hz, h1, h2⟩ := ih w hw (by omega)
        exact ⟨z, hz, h1.trans hl, h2⟩
      · refine ⟨y, hy, Le.refl y, fun w hw hl => ?_⟩
        by_cases e : w = y
        · exact e
        · exact absurd ⟨w, hw, hl, e⟩ hm
  exact go _ y hy (Nat.le_refl _)

/-! ### reduced forms -/
def RedItems (ns : List Str) (L : List (Str × Con)) (items : List Con) : Prop :=
  Asc tx items ∧ ∀ i, i ∈ items ↔ (∃ s ∈ ns, i = .nm s) ∨ (∃ r y, i = .sm r y ∧ (r, y) ∈ L ∧ ∀ y', (r, y') ∈ L → Le y' y → y' = y)
def IsRed : Nat → Con → Con → Prop
  | 0, _, _ => False
  | n + 1, c, x => ∃ L : List (Str × Con), All2 (fun p q => p.1 = q.1 ∧ IsRed n p.2 q.2) (kids c) L ∧ ∃ items, x = mkc items ∧ RedItems (names c) L items
theorem RedItems.item {ns : List Str} {L : List (Str × Con)} {items : List Con} (h : RedItems ns L items) : ∀ x ∈ items, IsItem x := fun x hx => by
  rcases (h.2 x).mp hx with ⟨s, _, rfl⟩ | ⟨r, y, rfl, _⟩ <;> trivial
theorem RedItems.nms {ns : List Str} {L : List (Str × Con)} {items : List Con} (h : RedItems ns L items) {s : Str} : s ∈ names (mkc items) ↔ s ∈ ns := by
  rw [mem_names, cj_mkc h.item, h.2]
  constructor
  · rintro (⟨s', hs, e⟩ | ⟨r, y, e, _⟩)
    · injection e with e; subst e; exact hs
    · cases e
  · intro hs; exact .inl ⟨s, hs, rfl⟩
theorem RedItems.kds {ns : List Str} {L : List (Str × Con)} {items : List Con} (h : RedItems ns L items) {r : Str} {y : Con} : (r, y) ∈ kids (mkc items) ↔ (r, y) ∈ L ∧ ∀ y', (r, y') ∈ L → Le y' y → y' = y := by
  rw [mem_kids, cj_mkc h.item, h.2]
  constructor
  · rintro (⟨s', hs, e⟩ | ⟨r', y', e, h1⟩)
    · cases e
    · injection e with e1 e2; subst e1; subst e2; exact h1
  · intro hs; exact .inr ⟨r, y, rfl, hs⟩
theorem RedItems.uniq {ns ns' : List Str} {L L' : List (Str × Con)} {items items' : List Con} (h : RedItems ns L items) (h' : RedItems ns' L' items') (e1 : ∀ s, s ∈ ns ↔ s ∈ ns') (e2 : ∀ p, p ∈ L ↔ p ∈ L') : items = items' := by
  refine asc_eq h.1 h'.1 fun x => ?_
  rw [h.2, h'.2]
  simp only [e1, e2]

/-- the same names, and children alike, down to a depth -/
def Sim : Nat → Con → Con → Prop
  | 0, _, _ => True
  | n + 1, c, d => (∀ s, s ∈ names c ↔ s ∈ names d) ∧ (∀ r k, (r, k) ∈ kids c → ∃ k', (r, k') ∈ kids d ∧ Sim n k k') ∧ (∀ r k, (r, k) ∈ kids d → ∃ k', (r, k') ∈ kids c ∧ Sim n k' k)
theorem red_uniq : ∀ {n c d x y}, Sim n c d → IsRed n c x → IsRed n d y → x = y
  | 0, _, _, _, _, _, h, _ => h.elim
  | n + 1, c, d, x, y, S, h1, h2 => by
    obtain ⟨s1, s2, s3⟩ := S
    obtain ⟨L, a1, items, rfl, r1⟩ := h1
    obtain ⟨M, a2, items', rfl, r2⟩ := h2
    rw [r1.uniq r2 s1 fun p => ?_]
    constructor
    · intro hp
      obtain ⟨⟨r, k⟩, hk, e, q⟩ := a1.right p hp
      obtain ⟨k', hk', sk⟩ := s2 r k hk
      obtain ⟨p', hp', e', q'⟩ := a2.left _ hk'
      have := red_uniq sk q q'
      have : p = p' := by
        rcases p with ⟨a, b⟩; rcases p' with ⟨a', b'⟩
        dsimp only at e e' this; subst e; subst e'; subst this; rfl
      rw [this]; exact hp'
    · intro hp
      obtain ⟨⟨r, k⟩, hk, e, q⟩ := a2.right p hp
      obtain ⟨k', hk', sk⟩ := s3 r k hk
      obtain ⟨p', hp', e', q'⟩ := a1.left _ hk'
      have := red_uniq sk q' q
      have : p = p' := by
        rcases p with ⟨a, b⟩; rcases p' with ⟨a', b'⟩
        dsimp only at e e' this; subst e; subst e'; subst this; rfl
      rw [this]; exact hp'
theorem red_anti : ∀ {n c d x y}, IsRed n c x → IsRed n d y → Le x y → Le y x → x = y
  | 0, _, _, _, _, h, _, _, _ => h.elim
  | n + 1, c, d, x, y, h1, h2, l1, l2 => by
    obtain ⟨L, a1, items, rfl, r1⟩ := h1
    obtain ⟨M, a2, items', rfl, r2⟩ := h2
    have e : items = items' := by
      have half : ∀ {c d : Con} {L M : List (Str × Con)} {items items' : List Con}, All2 (fun p q => p.1 = q.1 ∧ IsRed n p.2 q.2) (kids c) L → RedItems (names c) L items → All2 (fun p q => p.1 = q.1 ∧ IsRed n p.2 q.2) (kids d) M → RedItems (names d) M items' →
          Le (mkc items) (mkc items') → Le (mkc items') (mkc items) → ∀ r z, (r, z) ∈ kids (mkc items) → (r, z) ∈ kids (mkc items') := by
        intro c d L M items items' a1 r1 a2 r2 l1 l2 r z hz
        obtain ⟨z', hz', q1⟩ := l2.kds r z hz
        obtain ⟨z'', hz'', q2⟩ := l1.kds r z' hz'
        have k1 := (r1.kds.mp hz)
        have e : z'' = z := k1.2 z'' (r1.kds.mp hz'').1 (q2.trans q1)
        subst e
        obtain ⟨p, _, e1, i1⟩ := a1.right _ k1.1
        obtain ⟨p', _, e2, i2⟩ := a2.right _ (r2.kds.mp hz').1
        have := red_anti i1 i2 q2 q1
        have e : z'' = z' := this
        rw [e]; exact hz'
      refine asc_eq r1.1 r2.1 fun i => ?_
      have hn : ∀ s, s ∈ names (mkc items) ↔ s ∈ names (mkc items') := fun s => ⟨fun h => l2.nms s h, fun h => l1.nms s h⟩
      have hk : ∀ r z, (r, z) ∈ kids (mkc items) ↔ (r, z) ∈ kids (mkc items') := fun r z => ⟨half a1 r1 a2 r2 l1 l2 r z, half a2 r2 a1 r1 l2 l1 r z⟩
      constructor
      · intro hi
        have it := r1.item i hi
        cases i with
        | all => exact it.elim
        | an cs => exact it.elim
        | nm s =>
          have := (hn s).mp (mem_names.mpr (by rw [cj_mkc r1.item]; exact hi))
          rw [mem_names, cj_mkc r2.item] at this; exact this
        | sm r z =>
          have := (hk r z).mp (mem_kids.mpr (by rw [cj_mkc r1.item]; exact hi))
          rw [mem_kids, cj_mkc r2.item] at this; exact this
      · intro hi
        have it := r2.item i hi
        cases i with
        | all => exact it.elim
        | an cs => exact it.elim
        | nm s =>
          have := (hn s).mpr (mem_names.mpr (by rw [cj_mkc r2.item]; exact hi))
          rw [mem_names, cj_mkc r1.item] at this; exact this
        | sm r z =>
          have := (hk r z).mpr (mem_kids.mpr (by rw [cj_mkc r2.item]; exact hi))
          rw [mem_kids, cj_mkc r1.item] at this; exact this
    rw [e]
/-- a concept lies within its reduced form -/
theorem red_up : ∀ {n c x}, IsRed n c x → Le c x
  | 0, _, _, h => h.elim
  | n + 1, c, x, h => by
    obtain ⟨L, a1, items, rfl, r1⟩ := h
    refine le_iff.mpr ⟨fun s hs => r1.nms.mp hs, fun r k hk => ?_⟩
    obtain ⟨p, hp, e, q⟩ := a1.right _ (r1.kds.mp hk).1
    have e' : p.1 = r := e
    subst e'
    exact ⟨p.2, hp, red_up q⟩
/-- and the reduced form within it -/
theorem red_down : ∀ {n c x}, IsRed n c x → Le x c
  | 0, _, _, h => h.elim
  | n + 1, c, x, h => by
    obtain ⟨L, a1, items, rfl, r1⟩ := h
    refine le_iff.mpr ⟨fun s hs => r1.nms.mpr hs, fun r k hk => ?_⟩
    obtain ⟨q, hq, e, i⟩ := a1.left _ hk
    obtain ⟨z, hz, h1, h2⟩ := least_in ((L.filter fun p => decide (p.1 = r)).map (·.2)) (fun x hx y hy lx ly => by
      obtain ⟨p, hp, rfl⟩ := List.mem_map.mp hx
      obtain ⟨p', hp', rfl⟩ := List.mem_map.mp hy
      obtain ⟨_, _, _, i1⟩ := a1.right p (List.mem_filter.mp hp).1
      obtain ⟨_, _, _, i2⟩ := a1.right p' (List.mem_filter.mp hp').1
      exact red_anti i1 i2 lx ly) q.2 (List.mem_map.mpr ⟨q, List.mem_filter.mpr ⟨hq, decide_eq_true e.symm⟩, rfl⟩)
    obtain ⟨p, hp, rfl⟩ := List.mem_map.mp hz
    obtain ⟨m1, m2⟩ := List.mem_filter.mp hp
    have er : p.1 = r := of_decide_eq_true m2
    refine ⟨p.2, r1.kds.mpr ⟨by rw [← er]; exact m1, fun y' hy' ly => h2 y' (List.mem_map.mpr ⟨(r, y'), List.mem_filter.mpr ⟨hy', by simp⟩, rfl⟩) ly⟩, h1.trans (red_down i)⟩
theorem red_dep : ∀ {n c x}, IsRed n c x → dep x ≤ dep c
  | 0, _, _, h => h.elim
  | n + 1, c, x, h => by
    obtain ⟨L, a1, items, rfl, r1⟩ := h
    refine dep_mkc fun i hi => ?_
    rcases (r1.2 i).mp hi with ⟨s, _, rfl⟩ | ⟨r, y, rfl, hL, _⟩
    · exact Nat.zero_le _
    · obtain ⟨p, hp, e, q⟩ := a1.right _ hL
      have h1 := red_dep q
      have h2 := dep_kid (c := c) (r := p.1) (k := p.2) hp
      show dep y + 1 ≤ _
      have h1 : dep y ≤ dep p.2 := h1
      omega
theorem red_good : ∀ {n c x}, WdN n c → IsRed (n + 1) c x → Good x
  | n, c, x, w, h => by
    obtain ⟨L, a1, items, rfl, r1⟩ := h
    refine good_mkc fun i hi => ?_
    rcases (r1.2 i).mp hi with ⟨s, hs, rfl⟩ | ⟨r, y, rfl, hL, _⟩
    · cases n with
      | zero => exact w.1 s hs
      | succ n => exact w.1 s hs
    · obtain ⟨p, hp, e, q⟩ := a1.right _ hL
      cases n with
      | zero => rw [w.2] at hp; cases hp
      | succ n =>
        obtain ⟨w1, w2⟩ := w.2 p hp
        have e' : p.1 = r := e
        exact ⟨by rw [← e']; exact w1, red_good w2 q⟩

/-! ### how large -/
/-- at most three names and two children at each node -/
def Br : Nat → Con → Prop
  | 0, c => (names c).length ≤ 3 ∧ kids c = []
  | n + 1, c => (names c).length ≤ 3 ∧ (kids c).length ≤ 2 ∧ ∀ p ∈ kids c, Br n p.2
def wb : Nat → Nat
  | 0 => 4
  | n + 1 => 6 + 5 * wb n
theorem wb_mono : ∀ {n m}, n ≤ m → wb n ≤ wb m
  | 0, 0, _ => Nat.le_refl _
  | 0, m + 1, _ => by have := wb_mono (Nat.zero_le m); simp only [wb] at *; omega
  | n + 1, m + 1, h => by have := wb_mono (Nat.le_of_succ_le_succ h); simp only [wb]; omega
theorem red_small : ∀ {n c x}, Br n c → IsRed (n + 1) c x → wt x ≤ wb n ∧ nest x ≤ 2 * n + 1
  | n, c, x, b, h => by
    obtain ⟨L, a1, items, rfl, r1⟩ := h
    have len : items.length ≤ (names c).length + (kids c).length := by
      have := nodup_sub (m := (names c).map Con.nm ++ L.map fun p => Con.sm p.1 p.2) (asc_nodup r1.1) fun i hi => by
        rcases (r1.2 i).mp hi with ⟨s, hs, rfl⟩ | ⟨r, y, rfl, hL, _⟩
        · exact List.mem_append_left _ (List.mem_map.mpr ⟨s, hs, rfl⟩)
        · exact List.mem_append_right _ (List.mem_map.mpr ⟨(r, y), hL, rfl⟩)
      rw [List.length_append, List.length_map, List.length_map, ← a1.len] at this
      exact this
    cases n with
    | zero =>
      have nokid : ∀ i ∈ items, ∃ s, i = Con.nm s := fun i hi => by
        rcases (r1.2 i).mp hi with ⟨s, hs, rfl⟩ | ⟨r, y, rfl, hL, _⟩
        · exact ⟨s, rfl⟩
        · obtain ⟨p, hp, _⟩ := a1.right _ hL
          rw [b.2] at hp; cases hp
      have w1 : wts items ≤ items.length * 1 := wts_le fun i hi => by obtain ⟨s, rfl⟩ := nokid i hi; simp [wt]
      have w2 := wt_mkc (l := items)
      have n1 : nest (mkc items) ≤ 0 + 1 := nest_mkc fun i hi => by obtain ⟨s, rfl⟩ := nokid i hi; simp [nest]
      rw [b.2] at len
      have := b.1
      simp only [List.length_nil] at len
      simp only [wb]
      constructor <;> omega
    | succ n =>
      have each : ∀ i ∈ items, wt i ≤ 1 + wb n ∧ nest i ≤ 2 * n + 2 := fun i hi => by
        rcases (r1.2 i).mp hi with ⟨s, hs, rfl⟩ | ⟨r, y, rfl, hL, _⟩
        · simp [wt, nest]
        · obtain ⟨p, hp, _, q⟩ := a1.right _ hL
          obtain ⟨h1, h2⟩ := red_small (b.2.2 p hp) q
          have h1 : wt y ≤ _ := h1
          have h2 : nest y ≤ _ := h2
          simp only [wt, nest]
          constructor <;> omega
      have w1 := wts_le fun i hi => (each i hi).1
      have w2 := wt_mkc (l := items)
      have n1 := nest_mkc fun i hi => (each i hi).2
      have b1 := b.1
      have b2 := b.2.1
      have : items.length * (1 + wb n) ≤ 5 * (1 + wb n) := Nat.mul_le_mul_right _ (by omega)
      simp only [wb]
      constructor <;> omega

/-! ### worlds -/
section world
variable (rows : List (List Str)) (edges : List (Nat × Str × Nat))
def HasN (t : Nat) (s : Str) : Prop := ∃ row, rows[t]? = some row ∧ s ∈ row
mutual
def Mem : Nat → Con → Prop
  | _, .all => True
  | t, .nm s => HasN rows t s
  | t, .sm r c => ∃ o, (t, r, o) ∈ edges ∧ Mem o c
  | t, .an cs => Mems t cs
def Mems : Nat → List Con → Prop
  | _, [] => True
  | t, c :: r => Mem t c ∧ Mems t r
end
variable {rows edges}
theorem mems_iff : ∀ {t} {cs : List Con}, Mems rows edges t cs ↔ ∀ c ∈ cs, Mem rows edges t c
  | t, [] => by simp [Mems]
  | t, c :: r => by simp only [Mems, mems_iff (cs := r), List.mem_cons, forall_eq_or_imp]
theorem mem_cj : ∀ c t, Mem rows edges t c ↔ ∀ x ∈ cj c, Mem rows edges t x := by
  refine Con.ind (by simp [cj, Mem]) (by simp [cj]) (by simp [cj]) ?_
  intro cs ih t
  simp only [cj, mem_cjs, Mem, mems_iff]
  constructor
  · rintro h x ⟨c, hc, hx⟩
    exact (ih c hc t).mp (h c hc) x hx
  · intro h c hc
    exact (ih c hc t).mpr fun x hx => h x ⟨c, hc, hx⟩
theorem mem_iff {c : Con} {t : Nat} : Mem rows edges t c ↔ (∀ s ∈ names c, HasN rows t s) ∧ ∀ r k, (r, k) ∈ kids c → ∃ o, (t, r, o) ∈ edges ∧ Mem rows edges o k := by
  rw [mem_cj]
  constructor
  · intro h
    refine ⟨fun s hs => ?_, fun r k hk => ?_⟩
    · have := h _ (mem_names.mp hs); simpa [Mem] using this
    · have := h _ (mem_kids.mp hk); simpa [Mem] using this
  · rintro ⟨h1, h2⟩ x hx
    have it := cj_item c x hx
    cases x with
    | all => exact it.elim
    | an cs => exact it.elim
    | nm s => simp only [Mem]; exact h1 s (mem_names.mpr hx)
    | sm r k => simp only [Mem]; exact h2 r k (mem_kids.mpr hx)
theorem Mem.up {c d : Con} {t : Nat} (h : Mem rows edges t c) (l : Le c d) : Mem rows edges t d := by
  induction l generalizing t with
  | mk f h1 h2 h3 ih =>
    obtain ⟨m1, m2⟩ := mem_iff.mp h
    refine mem_iff.mpr ⟨fun s hs => m1 s (h1 s hs), fun r k hk => ?_⟩
    obtain ⟨o, e, m⟩ := m2 r _ (h2 (r, k) hk)
    exact ⟨o, e, ih (r, k) hk m⟩

variable (rows edges)
/-- what a thing is in, down to a depth -/
def IsW : Nat → Nat → Con → Prop
  | 0, t, c => (∀ s, s ∈ names c ↔ HasN rows t s) ∧ kids c = []
  | d + 1, t, c => (∀ s, s ∈ names c ↔ HasN rows t s) ∧ (∀ r k, (r, k) ∈ kids c → ∃ o, (t, r, o) ∈ edges ∧ IsW d o k) ∧ (∀ r o, (t, r, o) ∈ edges → ∃ k, (r, k) ∈ kids c ∧ IsW d o k)
variable {rows edges}
theorem IsW.nms {d t c} (h : IsW rows edges d t c) {s : Str} : s ∈ names c ↔ HasN rows t s := by
  cases d with
  | zero => exact h.1 s
  | succ d => exact h.1 s
theorem isW_sim : ∀ {d t c c'}, IsW rows edges d t c → IsW rows edges d t c' → Sim (d + 1) c c'
  | 0, t, c, c', h, h' => ⟨fun s => (h.1 s).trans (h'.1 s).symm, (fun r k hk => by rw [h.2] at hk; cases hk), (fun r k hk => by rw [h'.2] at hk; cases hk)⟩
  | d + 1, t, c, c', h, h' => ⟨fun s => (h.1 s).trans (h'.1 s).symm, fun r k hk => by
      obtain ⟨o, e, w⟩ := h.2.1 r k hk
      obtain ⟨k', hk', w'⟩ := h'.2.2 r o e
      exact ⟨k', hk', isW_sim w w'⟩, fun r k hk => by
      obtain ⟨o, e, w⟩ := h'.2.1 r k hk
      obtain ⟨k', hk', w'⟩ := h.2.2 r o e
      exact ⟨k', hk', isW_sim w' w⟩⟩
theorem isW_mem : ∀ {d t c}, IsW rows edges d t c → Mem rows edges t c
  | 0, t, c, h => mem_iff.mpr ⟨fun s hs => (h.1 s).mp hs, fun r k hk => by rw [h.2] at hk; cases hk⟩
  | d + 1, t, c, h => mem_iff.mpr ⟨fun s hs => (h.1 s).mp hs, fun r k hk => by
      obtain ⟨o, e, w⟩ := h.2.1 r k hk
      exact ⟨o, e, isW_mem w⟩⟩
theorem isW_below : ∀ {d t c x}, IsW rows edges d t c → dep x ≤ d → Mem rows edges t x → Le c x
  | 0, t, c, x, h, hd, m => by
    obtain ⟨m1, m2⟩ := mem_iff.mp m
    refine le_iff.mpr ⟨fun s hs => (h.1 s).mpr (m1 s hs), fun r k hk => ?_⟩
    have := dep_kid hk; omega
  | d + 1, t, c, x, h, hd, m => by
    obtain ⟨m1, m2⟩ := mem_iff.mp m
    refine le_iff.mpr ⟨fun s hs => (h.1 s).mpr (m1 s hs), fun r k hk => ?_⟩
    obtain ⟨o, e, mo⟩ := m2 r k hk
    obtain ⟨k', hk', w⟩ := h.2.2 r o e
    have := dep_kid hk
    exact ⟨k', hk', isW_below w (by omega) mo⟩
theorem isW_down : ∀ {d t c c'}, IsW rows edges (d + 1) t c' → IsW rows edges d t c → Le c' c
  | 0, t, c, c', h', h => le_iff.mpr ⟨fun s hs => h'.nms.mpr (h.nms.mp hs), fun r k hk => by rw [h.2] at hk; cases hk⟩
  | d + 1, t, c, c', h', h => le_iff.mpr ⟨fun s hs => h'.nms.mpr (h.nms.mp hs), fun r k hk => by
      obtain ⟨o, e, w⟩ := h.2.1 r k hk
      obtain ⟨k', hk', w'⟩ := h'.2.2 r o e
      exact ⟨k', hk', isW_down w' w⟩⟩
end world
end K77
end

section
set_option Elab.async false
set_option linter.all false
set_option maxRecDepth 100000
set_option maxHeartbeats 4000000
/-! The words over the layer: defs by name, methods, classes; concepts on the heap. -/
namespace K77
open PySem PySem.Spec PyProof.Rows L2

def top (i : Nat) : Stmt := PySem.Challenge.pw_conceptworlds_k77_whole_depths.main.body.getD i (.Pass ⟨0, 0, 0, 0⟩)

section
variable {P : Program} {w : World} {K : PySem.W.Frag} {mg : Str → Option Value} {base : Heap}

/-- a def of the module as it stands -/
structure Df (K : PySem.W.Frag) (mg : Str → Option Value) (x : Str) (st : Stmt) (ps : List Str) : Prop where
  ex : ∃ f fd, Fun K x x st f fd ∧ mg x = some (.ref f) ∧ Binds K fd ps []
/-- a method -/
structure Dm (K : PySem.W.Frag) (C : Addr) (m qual : Str) (st : Stmt) (ps : List Str) : Prop where
  ex : ∃ f fd, Fun K m qual st f fd ∧ Meth K C m f ∧ Binds K fd ps []
/-- a class by its name, and its __init__ -/
structure Di (K : PySem.W.Frag) (mg : Str → Option Value) (x : Str) (C : Addr) (qual : Str) (st : Stmt) (ps : List Str) : Prop where
  ex : ∃ f fd, Fun K "__init__" qual st f fd ∧ Mk K C f ∧ mg x = some (.ref C) ∧ Binds K fd ps []

/-! what may be called: the library's words, all arguments given -/
abbrev Cal (P : Program) (w : World) (K : PySem.W.Frag) (mg : Str → Option Value) (base : Heap) (k : Nat) (x : Str) (sp : Sp) : Prop := C8.Cal P w K mg base k x sp []
abbrev Met (P : Program) (w : World) (K : PySem.W.Frag) (mg : Str → Option Value) (base : Heap) (k : Nat) (C : Addr) (m : Str) (sp : Sp) : Prop := C8.Met P w K mg base k C m sp []
abbrev Mak (P : Program) (w : World) (K : PySem.W.Frag) (mg : Str → Option Value) (base : Heap) (k : Nat) (x : Str) (C : Addr) (sp : Sp) : Prop := C8.Mak P w K mg base k x C sp []

/-- the body of st, run under the name q, keeps the promise sp -/
abbrev Keeps (P : Program) (w : World) (K : PySem.W.Frag) (mg : Str → Option Value) (base : Heap) (N : List Str) (q : Str) (st : Stmt) (k : Nat) (sp : Sp) : Prop :=
  ∀ (at_ : Addr) (code : Value) (A : Around) (callers : List Env) (s : Shared) (H : Hp) (args : List V) (want : VK) (fail : XK), Room k (A.deeper (envOfC q (defScope st) s.heap.objs.size at_ code)) → sp args H want fail →
    ∃ reading, PSs (Cx.nox (cxOf CX0 P w K mg base N q (defScope st) at_ code A callers s H fail)) (defBody st) reading ∧ reading { nx := fun _ => want .non, rt := want } (start N args) H
theorem cal_of {x : Str} {st : Stmt} {N ps : List Str} {k : Nat} {sp : Sp} (D : Df K mg x st ps) (S : FnScope N ps (defScope st)) (len : ∀ vs H Q E, sp vs H Q E → vs.length = ps.length)
    (hbody : Keeps P w K mg base N x st k sp) : Cal P w K mg base (k + 1) x sp := by
  obtain ⟨f, fd, F, m, b⟩ := D.ex
  exact ⟨f, fd, ps, [], F.ok S len (hbody f), m, F.kp, b, .nil⟩
theorem met_of {C : Addr} {m qual : Str} {st : Stmt} {N ps : List Str} {k : Nat} {sp : Sp} (c : Cls K C) (D : Dm K C m qual st ps) (S : FnScope N ps (defScope st)) (len : ∀ vs H Q E, sp vs H Q E → vs.length = ps.length)
    (hbody : Keeps P w K mg base N qual st k sp) : Met P w K mg base (k + 1) C m sp := by
  obtain ⟨f, fd, F, me, b⟩ := D.ex
  exact ⟨f, fd, ps, [], c, me, F.ok S len (hbody f), b, .nil⟩
theorem mak_of {x qual : Str} {C : Addr} {st : Stmt} {N ps : List Str} {k : Nat} {sp : Sp} (D : Di K mg x C qual st ps) (S : FnScope N ps (defScope st)) (len : ∀ vs H Q E, sp vs H Q E → vs.length = ps.length)
    (hbody : Keeps P w K mg base N qual st k sp) : Mak P w K mg base (k + 1) x C sp := by
  obtain ⟨f, fd, F, mk, hm, b⟩ := D.ex
  exact ⟨f, fd, ps, [], mk, F.ok S len (hbody f), hm, b, .nil⟩
/-- a promise that asks what cannot be -/
theorem cal_void {x : Str} {st : Stmt} {ps : List Str} {k : Nat} {sp : Sp} (D : Df K mg x st ps) (no : ∀ vs H Q E, ¬ sp vs H Q E) : Cal P w K mg base k x sp := by
  obtain ⟨f, fd, F, m, b⟩ := D.ex
  exact ⟨f, fd, ps, [], ⟨fun vs H Q E h => absurd h (no vs H Q E), fun A outer s H args us vs Q E _ _ _ _ h => absurd h (no vs H Q E)⟩, m, F.kp, b, .nil⟩
theorem met_void {C : Addr} {m qual : Str} {st : Stmt} {ps : List Str} {k : Nat} {sp : Sp} (c : Cls K C) (D : Dm K C m qual st ps) (no : ∀ vs H Q E, ¬ sp vs H Q E) : Met P w K mg base k C m sp := by
  obtain ⟨f, fd, F, me, b⟩ := D.ex
  exact ⟨f, fd, ps, [], c, me, ⟨fun vs H Q E h => absurd h (no vs H Q E), fun A outer s H args us vs Q E _ _ _ _ h => absurd h (no vs H Q E)⟩, b, .nil⟩
theorem Cal.up {x : Str} {j k : Nat} {sp : Sp} (c : Cal P w K mg base j x sp) (h : j ≤ k) : Cal P w K mg base k x sp :=
  let ⟨f, fd, ps, ds, F, r⟩ := c.ex
  ⟨f, fd, ps, ds, F.mono h, r⟩
theorem Met.up {C : Addr} {m : Str} {j k : Nat} {sp : Sp} (c : Met P w K mg base j C m sp) (h : j ≤ k) : Met P w K mg base k C m sp :=
  let ⟨f, fd, ps, ds, cl, me, F, r⟩ := c.ex
  ⟨f, fd, ps, ds, cl, me, F.mono h, r⟩
theorem Cal.imp {x : Str} {k : Nat} {sp sp' : Sp} (c : Cal P w K mg base k x sp) (h : ∀ vs H Q E, sp' vs H Q E → sp vs H Q E) : Cal P w K mg base k x sp' :=
  let ⟨f, fd, ps, ds, F, r⟩ := c.ex
  ⟨f, fd, ps, ds, F.imp h, r⟩
end

section
variable {X : Cx} {k j : Nat} {C : Addr} {x m : Str} {sp : Sp} {p pos apos : Pos} {e o : Expr} {es : List Expr} {ta : TE} {t : TA}
/-- the written arguments e :: es, no star among them -/
structure Args1 (X : Cx) (e : Expr) (es : List Expr) (pos : Pos) : Prop where
  head : starEach (e :: es) X.env = (false, eval e X.env) :: starEach es X.env
  tail : (backTo pos (starEach es X.env)).any (·.1) = false
/-- the model's own tree of o.m(es) -/
structure Tree (X : Cx) (o : Expr) (m : Str) (apos pos : Pos) (es : List Expr) (pl : Sem Bool) : Prop where
  is : eval (.Call (.Attribute o m apos) es [] pos) X.env = eval o X.env >>= fun self => standAt apos.atName >>= fun _ => holding [self] (getMethod self m pl) >>= fun got => callWith pos got.1 got.2 (backTo pos (starEach es X.env)) []
/-- t's values go to the promise -/
def tGo (sp : Sp) (t : TA) : TE := fun σ H Q => t σ H fun args H1 => sp args H1 Q E0
theorem pc (c : Cal X.prog X.w X.K X.mg X.base k x sp) (hr : Room j X.A) (hg : Gl X x) (ha : PA X (e :: es) t) (hk : k ≤ j := by omega) (hd : (x == ("__debug__" : Str)) = false := by decide) (ar : Args1 X e es pos := by exact ⟨rfl, rfl⟩) :
    PE X (.Call (.Name x p) (e :: es) [] pos) (tGo sp t) :=
  ⟨fun pins s σ H Q I q => (C8.pe_c (p := p) c hr hk hg ha hd ar.head ar.tail).run pins s σ H Q I (by unfold tCall; simp only [List.append_nil]; exact q)⟩
/-- o's object of the class C stands, its field m is none of its own -/
def tGoM (C : Addr) (m : Str) (sp : Sp) (ta : TE) (t : TA) : TE := fun σ H Q => ta σ H fun self H1 => ∃ at_ own fields, self = .ref at_ ∧ H1 at_ = some (.ins C own fields) ∧ fields.lookup m = none ∧ t σ H1 fun args H2 => sp (self :: args) H2 Q E0
theorem pm {pl : Sem Bool} (c : Met X.prog X.w X.K X.mg X.base k C m sp) (hr : Room j X.A) (he : PE X o ta) (ha : PA X (e :: es) t) (hk : k ≤ j := by omega) (ar : Args1 X e es pos := by exact ⟨rfl, rfl⟩) (tr : Tree X o m apos pos (e :: es) pl := by exact ⟨rfl⟩) :
    PE X (.Call (.Attribute o m apos) (e :: es) [] pos) (tGoM C m sp ta t) :=
  ⟨fun pins s σ H Q I q => (C8.pe_mt (pl := pl) c hr hk he ha ar.head ar.tail tr.is).run pins s σ H Q I (by unfold tMeth; simp only [List.append_nil]; exact q)⟩
theorem pm0 {pl : Sem Bool} (c : Met X.prog X.w X.K X.mg X.base k C m sp) (hr : Room j X.A) (he : PE X o ta) (hk : k ≤ j := by omega) (tr : Tree X o m apos pos [] pl := by exact ⟨rfl⟩) :
    PE X (.Call (.Attribute o m apos) [] [] pos) (tGoM C m sp ta tNil) :=
  ⟨fun pins s σ H Q I q => (C8.pe_mt0 (pl := pl) c hr hk he tr.is).run pins s σ H Q I (by unfold tMeth; simp only [List.append_nil]; exact q)⟩
/-- a new object of C, no field yet, goes to the promise of its __init__ -/
def tNewC (C : Addr) (sp : Sp) (t : TA) : TE := fun σ H Q => t σ H fun args H1 => ∀ new own, H1 new = none → H1 own = none → own ≠ new → sp (.ref new :: args) (upd (upd H1 own (.own new)) new (.ins C own [])) (fun v H2 => v = .non ∧ Q (.ref new) H2) E0
theorem pk (c : Mak X.prog X.w X.K X.mg X.base k x C sp) (hr : Room j X.A) (hg : Gl X x) (ha : PA X (e :: es) t) (hk : k + 1 ≤ j := by omega) (hd : (x == ("__debug__" : Str)) = false := by decide) (ar : Args1 X e es pos := by exact ⟨rfl, rfl⟩) :
    PE X (.Call (.Name x p) (e :: es) [] pos) (tNewC C sp t) :=
  ⟨fun pins s σ H Q I q => (C8.pe_mk (p := p) c hr hk hg ha hd ar.head ar.tail).run pins s σ H Q I (by unfold tMake; simp only [List.append_nil]; exact q)⟩
end

/-! ### what the top binds -/
def sLetters : Str := "abcdefghijklmnopqrstuvwxyz"
structure Tx (K : PySem.W.Frag) (mg : Str → Option Value) : Prop where
  isi : mg "isinstance" = none
  str : mg "str" = none
  tuple : mg "tuple" = none
  list : mg "list" = none
  int : mg "int" = none
  bool : mg "bool" = none
  len : mg "len" = none
  all : mg "all" = none
  any : mg "any" = none
  max : mg "max" = none
  zip : mg "zip" = none
  range : mg "range" = none
  sorted : mg "sorted" = none
  letters : ∃ u, mg "LETTERS" = some u ∧ RelV (.str sLetters) u
  kept : ∃ a, (∃ u, mg "KEPT" = some u ∧ RelV (.ref a) u) ∧ ∀ H, SqT K H a [.str "all", .str "none", .str "some"]
  longest : ∃ u, mg "LONGEST" = some u ∧ RelV (.int 12) u
  deepest : ∃ u, mg "DEEPEST" = some u ∧ RelV (.int 100) u
  mdepth : ∃ u, mg "MOST_DEPTH" = some u ∧ RelV (.int 20) u
  mnodes : ∃ u, mg "MOST_NODES" = some u ∧ RelV (.int 2000) u

/-! ### heaps -/
/-- all that was tracked is as it was, but what stands at d -/
def SB (d : Addr) (H H' : Hp) : Prop := ∀ b o, H b = some o → b ≠ d → H' b = some o
theorem SB.refl (d : Addr) (H : Hp) : SB d H H := fun _ _ h _ => h
theorem SB.trans {d : Addr} {H H1 H2 : Hp} (a : SB d H H1) (b : SB d H1 H2) : SB d H H2 := fun c o h n => b c o (a c o h n) n
theorem SB.of {d : Addr} {H H' : Hp} (a : Same H H') : SB d H H' := fun c o h _ => a c o h
theorem same_new {H : Hp} {p : Addr} {o : HO} (h : H p = none) : Same H (upd H p o) := fun b u q => by rw [upd_ne (ne_of_none q h)]; exact q
theorem SB.upd {d : Addr} {H : Hp} {o : HO} : SB d H (upd H d o) := fun b u q n => by rw [upd_ne n]; exact q
theorem same_tup {K : PySem.W.Frag} {H H' : Hp} {a : Addr} {xs : List V} (keep : Same H H') (at_ : SqT K H a xs) : SqT K H' a xs :=
  at_.imp (Or.imp (keep _ _) fun ⟨o, old⟩ => ⟨o, keep _ _ old⟩) id
/-- tuples stay -/
def TupK (K : PySem.W.Frag) (H H' : Hp) : Prop := ∀ a xs, SqT K H a xs → SqT K H' a xs
theorem same_tk {K : PySem.W.Frag} {H H' : Hp} (e : Same H H') : TupK K H H' := fun _ _ h => same_tup e h

/-! ### concepts as data -/
mutual
def dat : Con → PyData
  | .all => .str "all"
  | .nm s => .str s
  | .sm r c => .tuple [.str "some", .str r, dat c]
  | .an cs => .tuple (.str "and" :: dats cs)
def dats : List Con → List PyData
  | [] => []
  | c :: r => dat c :: dats r
end
/-- the value v is the concept c -/
def CAt (K : PySem.W.Frag) (H : Hp) (v : V) (c : Con) : Prop := Dp K H v (dat c)
abbrev CsAt (K : PySem.W.Frag) (H : Hp) (vs : List V) (cs : List Con) : Prop := All2 (CAt K H) vs cs
end K77
end

section
set_option Elab.async false
set_option linter.all false
set_option maxRecDepth 100000
set_option maxHeartbeats 4000000
/-! Concepts on the heap: their forms, equality, kinds. -/
namespace K77
open PySem PySem.Spec PyProof.Rows L2

section
variable {K : PySem.W.Frag} {H H' : Hp} {v : V} {a : Addr} {xs : List V} {c : Con} {cs : List Con} {r s : Str}

/-! ### forms -/
theorem cat_all : CAt K H (.str "all") .all := .str _
theorem cat_nm : CAt K H (.str s) (.nm s) := .str _
theorem cat_sm {w : V} (h : SqT K H a [.str "some", .str r, w]) (hc : CAt K H w c) : CAt K H (.ref a) (.sm r c) :=
  .tup h (.cons (.str _) (.cons (.str _) (.cons hc .nil)))
theorem cs_dp : ∀ {ws : List V} {cs : List Con}, CsAt K H ws cs → DpAll K H ws (dats cs)
  | _, _, .nil => .nil
  | _, _, .cons h t => .cons h (cs_dp t)
theorem dp_cs : ∀ {ws : List V} {cs : List Con}, DpAll K H ws (dats cs) → CsAt K H ws cs
  | _, [], h => by cases h; exact .nil
  | _, c :: cs, h => by
    cases h with
    | cons h t => exact .cons h (dp_cs t)
theorem cat_an {ws : List V} (h : SqT K H a (.str "and" :: ws)) (hc : CsAt K H ws cs) : CAt K H (.ref a) (.an cs) := .tup h (.cons (.str _) (cs_dp hc))
theorem of_all (h : CAt K H v .all) : v = .str "all" := by
  cases (show Dp K H v (.str "all") from h); rfl
theorem of_nm (h : CAt K H v (.nm s)) : v = .str s := by
  cases (show Dp K H v (.str s) from h); rfl
theorem of_sm (h : CAt K H v (.sm r c)) : ∃ a w, v = .ref a ∧ SqT K H a [.str "some", .str r, w] ∧ CAt K H w c := by
  cases (show Dp K H v (.tuple [.str "some", .str r, dat c]) from h) with
  | tup h t =>
    cases t with
    | cons h1 t =>
      cases t with
      | cons h2 t =>
        cases t with
        | cons h3 t =>
          cases t
          cases h1
          cases h2
          exact ⟨_, _, rfl, h, h3⟩
theorem of_an (h : CAt K H v (.an cs)) : ∃ a ws, v = .ref a ∧ SqT K H a (.str "and" :: ws) ∧ CsAt K H ws cs := by
  cases (show Dp K H v (.tuple (.str "and" :: dats cs)) from h) with
  | tup h t =>
    cases t with
    | cons h1 t =>
      cases h1
      exact ⟨_, _, rfl, h, dp_cs t⟩

/-! ### carried over -/
theorem same_list (e : Same H H') (h : SqL K H a xs) : SqL K H' a xs := e.seq h
mutual
theorem dp_same (e : Same H H') : ∀ {v : V} {d : PyData}, Dp K H v d → Dp K H' v d
  | _, _, .non => .non
  | _, _, .bl b => .bl b
  | _, _, .int i => .int i
  | _, _, .str x => .str x
  | _, _, .lst h t => .lst (e.seq h) (dps_same e t)
  | _, _, .tup h t => .tup (same_tup e h) (dps_same e t)
theorem dps_same (e : Same H H') : ∀ {vs : List V} {ds : List PyData}, DpAll K H vs ds → DpAll K H' vs ds
  | _, _, .nil => .nil
  | _, _, .cons h t => .cons (dp_same e h) (dps_same e t)
end
theorem cat_same (e : Same H H') (h : CAt K H v c) : CAt K H' v c := dp_same e h
theorem cs_same {ws : List V} (e : Same H H') (h : CsAt K H ws cs) : CsAt K H' ws cs := h.imp fun _ _ q => cat_same e q
/-- concepts lean on tuples alone -/
theorem cat_tk (e : TupK K H H') : ∀ c v, CAt K H v c → CAt K H' v c := by
  refine Con.ind (fun v h => ?_) (fun s v h => ?_) (fun r c ih v h => ?_) fun cs ih v h => ?_
  · rw [of_all h]; exact cat_all
  · rw [of_nm h]; exact cat_nm
  · obtain ⟨a, w, rfl, h1, h2⟩ := of_sm h
    exact cat_sm (e _ _ h1) (ih w h2)
  · obtain ⟨a, ws, rfl, h1, h2⟩ := of_an h
    exact cat_an (e _ _ h1) (h2.impM fun w _ c hc q => ih c hc w q)

/-! ### equality -/
theorem dats_len : ∀ cs : List Con, (dats cs).length = cs.length
  | [] => rfl
  | _ :: r => congrArg (· + 1) (dats_len r)
theorem word_all (h : Word s) : s ≠ "all" := fun e => h.na (by rw [e]; decide +kernel)
theorem word_none (h : Word s) : s ≠ "none" := fun e => h.nn (by rw [e]; decide +kernel)
theorem word_some (h : Word s) : s ≠ "some" := fun e => h.ns (by rw [e]; decide +kernel)
theorem some_and : ("some" : Str) ≠ "and" := by decide +kernel
end
theorem eqv_str (a b : Str) : PyData.eqv (.str a) (.str b) = decide (a = b) := by
  rw [PyData.eqv, Bool.beq_eq_decide_eq]
theorem eqv_tup (a b : List PyData) : PyData.eqv (.tuple a) (.tuple b) = PyData.eqvAll a b := by rw [PyData.eqv]
theorem eqv_con : ∀ c, Good c → ∀ d, Good d → (PyData.eqv (dat c) (dat d) = true ↔ c = d) := by
  refine Con.ind (fun _ d gd => ?_) (fun s gs d gd => ?_) (fun r c ih g d gd => ?_) fun cs ih g d gd => ?_
  · cases d with
    | all => simp [dat, eqv_str]
    | nm t => simp [dat, eqv_str, Ne.symm (word_all gd)]
    | sm r e => simp [dat, PyData.eqv]
    | an ds => simp [dat, PyData.eqv]
  · cases d with
    | all => simp [dat, eqv_str, word_all gs]
    | nm t => simp [dat, eqv_str]
    | sm r e => simp [dat, PyData.eqv]
    | an ds => simp [dat, PyData.eqv]
  · cases d with
    | all => simp [dat, PyData.eqv]
    | nm t => simp [dat, PyData.eqv]
    | sm r' e => simp [dat, eqv_tup, PyData.eqvAll, eqv_str, ih g.2 e gd.2]
    | an ds => simp [dat, eqv_tup, PyData.eqvAll, eqv_str, some_and]
  · cases d with
    | all => simp [dat, PyData.eqv]
    | nm t => simp [dat, PyData.eqv]
    | sm r' e => simp [dat, eqv_tup, PyData.eqvAll, eqv_str, Ne.symm some_and]
    | an ds =>
      have go : ∀ (cs : List Con), (∀ c ∈ cs, ∀ d, Good d → (PyData.eqv (dat c) (dat d) = true ↔ c = d)) → ∀ ds, (∀ d ∈ ds, Good d) → (PyData.eqvAll (dats cs) (dats ds) = true ↔ cs = ds) := by
        intro cs
        induction cs with
        | nil => intro _ ds _; cases ds <;> simp [dats, PyData.eqvAll]
        | cons c r ihr =>
          intro h ds gds
          cases ds with
          | nil => simp [dats, PyData.eqvAll]
          | cons d q => simp [dats, PyData.eqvAll, h c List.mem_cons_self d (gds d List.mem_cons_self), ihr (fun x hx => h x (List.mem_cons_of_mem _ hx)) q fun x hx => gds x (List.mem_cons_of_mem _ hx)]
      have q := go cs (fun c hc => ih c hc (goods_iff.mp g.2 c hc)) ds (goods_iff.mp gd.2)
      simp [dat, eqv_tup, PyData.eqvAll, eqv_str, q]

/-! ### shaped -/
theorem strOk_word {s : Str} (h : Word s) : PyData.strOk s = true := by
  unfold PyData.strOk
  rw [← Array.all_toList, List.all_eq_true]
  intro n hn
  have := (h.lets n hn).2
  exact decide_eq_true (by omega)
theorem lay_con : ∀ c, Good c → (dat c).canLay0 = true ∧ (dat c).depth = nest c := by
  have hw : PyData.strOk "some" = true ∧ PyData.strOk "and" = true ∧ PyData.strOk "all" = true := by decide +kernel
  refine Con.ind (fun _ => ?_) (fun s g => ?_) (fun r c ih g => ?_) fun cs ih g => ?_
  · exact ⟨by simp [dat, PyData.canLay0, hw], by simp [dat, PyData.depth, nest]⟩
  · exact ⟨by simp [dat, PyData.canLay0, strOk_word g], by simp [dat, PyData.depth, nest]⟩
  · obtain ⟨h1, h2⟩ := ih g.2
    exact ⟨by simp [dat, PyData.canLay0, PyData.canLayAll0, hw, strOk_word g.1, h1], by simp [dat, PyData.depth, PyData.depthAll, nest, h2]⟩
  · have go : ∀ l : List Con, (∀ c ∈ l, (dat c).canLay0 = true ∧ (dat c).depth = nest c) → PyData.canLayAll0 (dats l) = true ∧ PyData.depthAll (dats l) = nests l := by
      intro l
      induction l with
      | nil => intro _; simp [dats, PyData.canLayAll0, PyData.depthAll, nests]
      | cons c r ihr =>
        intro h
        obtain ⟨a1, a2⟩ := h c List.mem_cons_self
        obtain ⟨b1, b2⟩ := ihr fun x hx => h x (List.mem_cons_of_mem _ hx)
        simp [dats, PyData.canLayAll0, PyData.depthAll, nests, a1, a2, b1, b2]
    obtain ⟨h1, h2⟩ := go cs fun c hc => ih c hc (goods_iff.mp g.2 c hc)
    exact ⟨by simp [dat, PyData.canLay0, PyData.canLayAll0, hw, h1], by simp [dat, PyData.depth, PyData.depthAll, nest, h2]⟩
theorem shaped_con {c : Con} (g : Good c) (n : nest c ≤ 60) : SeqAt.shaped (dat c) = true := by
  obtain ⟨h1, h2⟩ := lay_con c g
  unfold SeqAt.shaped
  rw [h1, h2, decide_eq_true (by omega)]
  rfl

/-! ### kinds -/
section
variable {K : PySem.W.Frag} {H : Hp} {a : Addr} {xs : List V}
theorem tyx_tup (h : SqT K H a xs) : TyX K H (.ref a) (.type "tuple") := by
  rcases h with (h | ⟨o, h⟩) | ⟨o, its, n, h1, h2, _⟩
  · exact .base (.tup h)
  · exact .fTuple h
  · exact .kTuple h1 h2
theorem tyx_lst (h : SqL K H a xs) : TyX K H (.ref a) (.type "list") := by
  rcases h with (h | ⟨o, h⟩) | ⟨o, its, n, h1, h2, _⟩
  · exact .base (.lst h)
  · exact .base (.frz h)
  · exact .kList h1 h2
theorem k_ss : PySem.W.kitOne K (.type "str") (.type "str") = some true := kit_ty (by decide +kernel)
theorem k_st : PySem.W.kitOne K (.type "str") (.type "tuple") = some false := kit_ty (by decide +kernel)
theorem k_ts : PySem.W.kitOne K (.type "tuple") (.type "str") = some false := kit_ty (by decide +kernel)
theorem k_tt : PySem.W.kitOne K (.type "tuple") (.type "tuple") = some true := kit_ty (by decide +kernel)
theorem k_ii : PySem.W.kitOne K (.type "int") (.type "int") = some true := kit_ty (by decide +kernel)
theorem k_ib : PySem.W.kitOne K (.type "int") (.type "bool") = some false := kit_ty (by decide +kernel)
end
/-- a slice of a sequence from a written place -/
theorem cut_from (xs : List V) (k : Nat) (h : k ≤ xs.length) : cutV xs (some (k : Int)) none = xs.drop k := by
  unfold cutV
  rw [HT.sIx_nat xs.length 0 k, HT.sIx_none, Nat.min_eq_left h]
  exact List.take_of_length_le (by rw [List.length_drop]; omega)
end K77
end

section
set_option Elab.async false
set_option linter.all false
set_option maxRecDepth 100000
set_option maxHeartbeats 4000000
/-! Sorting texts of any number, wherever they are collected from; sorted(a dict of texts). -/
namespace K77
open PySem PySem.Spec PyProof.Rows L2

def codesV : Value → List Nat
  | .str x _ => x.cps.toList
  | _ => []
def ltTxt (v u : Value) : Bool := decide (codesV v < codesV u)
theorem swoTxt : SrtO.Swo ltTxt where
  asym := fun v u h => decide_eq_false fun z => List.lt_asymm (of_decide_eq_true h) z
  tr := fun v u t h1 h2 => by
    have a : codesV v ≤ codesV u := List.not_lt.mp (of_decide_eq_false h1)
    have b : codesV u ≤ codesV t := List.not_lt.mp (of_decide_eq_false h2)
    exact decide_eq_false (List.not_lt.mpr (List.le_trans a b))
theorem txt_each : ∀ {vs : List Value} {xs : List Str}, StrsAre vs xs → ∀ v ∈ vs, ∃ x t, v = Value.str x t
  | _, _, .nil, v, h => nomatch h
  | _, _, .cons x t r, v, h => by
    cases h with
    | head => exact ⟨x, t, rfl⟩
    | tail _ h => exact txt_each r v h
def strV : Value → Str
  | .str x _ => x
  | _ => Str.empty
theorem txt_self : ∀ {vs : List Value}, (∀ v ∈ vs, ∃ x t, v = Value.str x t) → StrsAre vs (vs.map strV)
  | [], _ => .nil
  | v :: vs, h => by
    obtain ⟨x, t, e⟩ := h v List.mem_cons_self
    rw [e]
    exact .cons x t (txt_self fun u hu => h u (List.mem_cons_of_mem _ hu))
theorem txt_vals : ∀ {vs : List Value} {xs : List Str}, StrsAre vs xs → vs.map strV = xs
  | _, _, .nil => rfl
  | _, _, .cons x t r => congrArg (x :: ·) (txt_vals r)
section
variable {P : Program} {w : World} {A : Around} {E : Value → Shared → Prop} {s : Shared}
theorem txt_sortable {a : Addr} {vs : List Value} {xs : List Str} (hS : StrsAre vs xs) (h2 : 2 ≤ vs.length) : SrtO.SortableO P w A s a vs ltTxt := by
  intro h' _
  have cmp : SrtO.Cmp P w A { s with heap := h' } oneType' (fun p => p.1 ∈ vs) (SrtO.lt2 ltTxt) := by
    intro p q hp hq
    obtain ⟨x, t, ex⟩ := txt_each hS _ hp
    obtain ⟨y, u, ey⟩ := txt_each hS _ hq
    rw [ex, ey, keyLt'_oneType]
    refine oneLt_str ⟨rfl, ?_⟩
    show _ = decide (codesV p.1 < codesV q.1)
    rw [ex, ey]
    rfl
  match vs, hS, h2 with
  | v1 :: v2 :: rest, hS, _ => exact ⟨oneType', fun Q E hq => by rw [keyKind_strs hS]; exact wpAny_pure hq, cmp⟩
  | [], _, h => exact absurd h (by decide)
  | [v], _, h => exact absurd h (by simp)
/-- sorted(r), whatever r is, where r gives texts -/
theorem sorted_texts {r : Value} {xs : List Str} {Q : Value → Shared → Prop} (hz : xs.length ≤ sizeLine)
    (hc : ∀ R : List Value → Shared → Prop, (∀ (s1 : Shared) (acc : List Value) (zs : List Str), (∀ b o, s.heap.get? b = some o → s1.heap.get? b = some o) → s1.gens = s.gens → s1.os = s.os → StrsAre acc zs → zs.Perm xs → R acc s1) → wpAny (model P w) A.in1 (collect r) R E s)
    (hQ : ∀ (sm s1 : Shared) (out : Array Value) (c : Nat) (ys : List Str), (∀ b o, s.heap.get? b = some o → sm.heap.get? b = some o) → sm.gens = s.gens → sm.os = s.os → (∀ b o, sm.heap.get? b = some o → s1.heap.get? b = some o) → s1.gens = sm.gens → s1.os = sm.os →
      s1.heap.get? sm.heap.objs.size = some (seqObj "list" out c) → StrsAre out.toList ys → ys.Perm xs → (ys.Pairwise fun x y => x.cps.toList ≤ y.cps.toList) → Q (.ref sm.heap.objs.size) s1) :
    wpAny (model P w) A (call (.builtin "sorted") [r]) Q E s := by
  refine Calls.call_function_entry kind_sorted plain_sorted entry_sorted (args_sorted1 _) ?_
  unfold Builtin.«sorted»
  refine wpAny_bind (m := checkCount "sorted" 1 1 _) (wpAny_pure (wpAny_bind (hc _ fun s1 acc zs kp hg ho hS hp => ?_)))
  have hlen : acc.length = zs.length := by rw [← txt_vals hS, List.length_map]
  have hle : acc.length ≤ sizeLine := by rw [hlen, hp.length_eq]; exact hz
  refine wpAny_bind (wpAny_newList ?_ hle)
  have new : (s1.heap.push (seqObj "list" acc.toArray 0)).get? s1.heap.objs.size = some (seqObj "list" acc.toArray 0) := Heap.get?_push_size _ rfl
  refine wpAny_bind (wpAny_holding (wpAny_call_entry slot_list_sort ⟨_, new, rfl⟩ entry_list_sort (SrtO.list_sort_ord (s := { s1 with heap := s1.heap.push (seqObj "list" acc.toArray 0) }) swoTxt new hle (fun h2 => txt_sortable hS h2) fun out hs hb => ⟨_, rfl, ?_⟩) (args_list_sort _)))
  obtain ⟨c, hat⟩ := sortedHeap_at (vs := acc) (out := out.toArray) new
  have texts : ∀ v ∈ out, ∃ x t, v = Value.str x t := fun v hv => txt_each hS v (hb.perm.mem_iff.mp hv)
  have perm : (out.map strV).Perm xs := by
    have q := hb.perm.map strV
    rw [txt_vals hS] at q
    exact q.trans hp
  refine wpAny_pure ⟨_, rfl, hQ s1 _ out.toArray c (out.map strV) kp hg ho (fun b o old => ?_) rfl rfl hat (txt_self texts) perm ?_⟩
  · have lt := Heap.lt_size old
    show (sortedHeap (s1.heap.push (seqObj "list" acc.toArray 0)) s1.heap.objs.size acc out.toArray).get? b = some o
    rw [sortedHeap_old (Nat.ne_of_lt lt) (by rw [size_push']; exact Nat.lt_succ_of_lt lt)]
    exact Heap.get?_push_of_some _ old
  · refine List.pairwise_map.mpr ((List.Pairwise.and_mem.mp hs).imp fun {v u} ⟨hv, hu, h⟩ => ?_)
    obtain ⟨x, t, rfl⟩ := texts v hv
    obtain ⟨y, k, rfl⟩ := texts u hu
    exact List.not_lt.mp (of_decide_eq_false h)
end
/-! ### as a rule: a dict of texts -/
section
variable {X : Cx}
/-- behind sorted: the new list is tracked -/
theorem texts_tracked {pins : List (Addr × Obj)} {σ : L2.St} {H : Hp} {s sm s1 : Shared} {out : Array Value} {c : Nat} {ys : List Str} {Q : VK} (I : Inv X pins σ H s) (k1 : ∀ b o, s.heap.get? b = some o → sm.heap.get? b = some o) (g1 : sm.gens = s.gens) (o1 : sm.os = s.os)
    (k2 : ∀ b o, sm.heap.get? b = some o → s1.heap.get? b = some o) (g2 : s1.gens = sm.gens) (o2 : s1.os = sm.os) (hat : s1.heap.get? sm.heap.objs.size = some (seqObj "list" out c)) (hS : StrsAre out.toList ys) (hz : ys.length ≤ sizeLine)
    (q : H sm.heap.objs.size = none → Q (.ref sm.heap.objs.size) (upd H sm.heap.objs.size (.lst (ys.map V.str)))) : EP X pins σ Q (.ref sm.heap.objs.size) s1 := by
  have I1 : Inv X pins σ H sm := I.call' (ch := []) o1 (Un.kept k1) (I.hok.kept k1) (by rw [g1]; exact I.bare) fun _ z => nomatch z
  have fresh : H sm.heap.objs.size = none := I1.hok.fresh (Nat.le_refl _)
  have J : Inv X pins σ (upd H sm.heap.objs.size (.lst (ys.map V.str))) s1 :=
    I1.call' (ch := []) o2 (Un.laid k2 (Nat.le_refl _) fresh) (I1.hok.laid k2 (Nat.le_refl _) ⟨by rw [List.length_map]; exact hz, out.toList, c, vals_of_strs hS, hat⟩) (by rw [g2]; exact I1.bare) fun _ z => nomatch z
  exact ⟨.ref _, _, J, rfl, q fresh⟩
/-- sorted(d), the keys texts, any number of them -/
def rSortedKs : List V → Hp → VK → Prop := fun vs H Q => ∃ (a : Addr) (kvs : List (Key × V)) (ks : List Str), vs = [.ref a] ∧ Rd H a (.dK kvs) ∧ kvs.map (·.1) = ks.map Sum.inr ∧
  ∀ (ys : List Str) (p : Addr), ys.Perm ks → (ys.Pairwise fun x y => x.cps.toList ≤ y.cps.toList) → H p = none → Q (.ref p) (upd H p (.lst (ys.map V.str)))
theorem cr_sortedKs (calm : X.calm = true) : CallR X (.builtin "sorted") rSortedKs := by
  intro pins s σ H vs us Q I rel h
  obtain ⟨a, kvs, ks, rfl, rd, keys, q⟩ := h
  rw [Vals.ref1 rel]
  obtain ⟨small, lo, raw, pairs, dict⟩ := dk_rd I.hok rd
  obtain ⟨ep, at_⟩ := dict.dictAt
  have rawKeys : raw.map (·.1) = ks.map Sum.inr := pairs.keys.symm.trans keys
  have many : raw.length = ks.length := by simpa using congrArg List.length rawKeys
  have few : ks.length ≤ sizeLine := by rw [← many, ← pairs.length]; exact small
  refine sorted_texts (xs := ks) few (fun R go => ?_) fun sm s1 out c ys k1 g1 o1 k2 g2 o2 hat hS perm up => ?_
  · refine PySem.W.kdu_collect (PySem.W.kdl_dict (knd := mixKind X.prog X.w) (kvs := raw) (ep := ep) lo) (I.ok.hd calm) at_ (by rw [many]; exact few) fun h' tk acc kp hacc => ?_
    refine go _ _ ks kp rfl rfl ?_ (List.Perm.refl _)
    refine L2.strs_at (by rw [Array.length_toList, hacc.1, many]) fun j v e => ?_
    obtain ⟨k, x, e1, is_⟩ := hacc.2 j v (by rw [← Array.getElem?_toList]; exact e)
    have ek : (ks.map Sum.inr)[j]? = some k := by rw [← rawKeys, List.getElem?_map, e1]; rfl
    obtain ⟨y, ey, rfl⟩ := Option.map_eq_some_iff.mp (by rw [← List.getElem?_map]; exact ek)
    obtain ⟨t, ev⟩ := Value.isStrOf_shape (x := y) (v := v) is_
    exact ⟨y, t, ey, ev⟩
  · exact texts_tracked I k1 g1 o1 k2 g2 o2 hat hS (by rw [perm.length_eq]; exact few) (q ys _ perm up)
end
theorem units65 {k : Nat} {A : Around} (hr : Room k A) : A.units + 65 < cLine := by
  have := hr.un
  omega
end K77
end

section
set_option Elab.async false
set_option linter.all false
set_option maxRecDepth 100000
set_option maxHeartbeats 4000000
/-! is_word -/
namespace K77
open PySem PySem.Spec PyProof.Rows L2
abbrev s_is_word : Stmt := top 13
theorem sc_is_word : FnScope ["thing", "letter"] ["thing"] (defScope s_is_word) := ⟨rfl, rfl, rfl, by decide +kernel, rfl, by decide +kernel, by decide +kernel⟩
theorem letters_cps : sLetters.cps.toList = (List.range 26).map (· + 97) := by decide +kernel
theorem let_mem {n : Nat} (h : Let n) : n ∈ sLetters.cps.toList := by
  rw [letters_cps]
  exact List.mem_map.mpr ⟨n - 97, List.mem_range.mpr (by have := h.2; omega), by have := h.1; omega⟩
theorem all_cps : ("all" : Str).cps.toList = lAll := by decide +kernel
theorem none_cps : ("none" : Str).cps.toList = lNone := by decide +kernel
theorem some_cps : ("some" : Str).cps.toList = lSome := by decide +kernel
theorem word_ne {s : Str} (h : Word s) : s ≠ "all" ∧ s ≠ "none" ∧ s ≠ "some" :=
  ⟨fun e => h.na (by rw [e]; exact all_cps), fun e => h.nn (by rw [e]; exact none_cps), fun e => h.ns (by rw [e]; exact some_cps)⟩
theorem inV_word {s : Str} (h : Word s) : inV (.str s) [.str "all", .str "none", .str "some"] = false := by
  obtain ⟨h1, h2, h3⟩ := word_ne h
  simp [inV, eqV, Ne.symm h1, Ne.symm h2, Ne.symm h3]
/-- a word is handed in, True comes out -/
def spWord : Sp := fun vs H Q _ => ∃ s, vs = [.str s] ∧ Word s ∧ ∀ H', Same H H' → Q (.bl true) H'
section
variable {P : Program} {w : World} {K : PySem.W.Frag} {mg : Str → Option Value} {base : Heap}
theorem ok_is_word (D : Df K mg "is_word" s_is_word ["thing"]) (T : Tx K mg) : Cal P w K mg base 1 "is_word" spWord := by
  obtain ⟨ka, hkept, skept⟩ := T.kept
  refine cal_of D sc_is_word (fun vs H Q E h => ?_) (fun f cdv A outer s H vs Q E hr h => ?_)
  · obtain ⟨s, rfl, _⟩ := h
    rfl
  obtain ⟨z, rfl, hw, q⟩ := h
  refine ⟨_, (pss_cons (ps_if (PW.pt (pw_or (pt_not (pt_val (pe_callB call_isi (by rfl) T.isi boot_isinstance (pa_cons (pv 0) (pa_cons (pe_bltn (v := .ty "str") (by rfl) T.str boot_str rfl) pa_nil))))) (pw_or (pt_not (pt_chain op_le op_le pe_int (pe_callB call_len (by rfl) T.len PySem.boot_len (pa_cons (pv 0) pa_nil)) (C8.pe_gc (by rfl) T.longest))) (pw_or1 (pt_cmpR op_in_seq (pv 0) (C8.pe_gc (by rfl) hkept) rfl)))))
    (pss_one (ps_ret pe_bl))
    pss_nil)
    (pss_one (ps_ret (pe_callB (cr_all rfl) (by rfl) T.all boot_all (pa_cons (pe_lc (own := [("letter", 1)]) rfl sc_is_word.nd (pi_str (pv 0)) (blkOk_by (N := ["thing", "letter"]) (sc := defScope s_is_word) (own := [("letter", 1)]) (by decide +kernel)) (fun _ _ _ _ _ => (pg_name (i := 1) sc_is_word.nd rfl (.inl rfl))) (fun _ _ _ _ _ => pts_nil) (fun _ _ _ _ _ => (pe_cmpR op_in_sign (pv 1) (C8.pe_gc (by rfl) T.letters) rfl))) pa_nil))))), ?_⟩
  have hl : z.length = z.cps.toList.length := by simp [PySem.Str.length]
  have h1 := hw.pos
  have h12 := hw.len
  -- not isinstance(thing, str)
  refine ⟨_, rfl, _, _, _, _, true, rfl, .ty "str", .base (.str z), kit_ty (by decide +kernel), true, rfl, iteF ?_⟩
  -- not 1 <= len(thing) <= LONGEST
  refine ⟨.str z, rfl, .str z, z.length, rfl, ⟨by rw [hl]; exact Nat.le_trans h12 (by decide), rfl⟩, 1, _, rfl, rfl, true, congrArg V.bl (decide_eq_true (by omega)), ?_⟩
  refine iteT ⟨_, _, rfl, rfl, true, congrArg V.bl (decide_eq_true (by omega)), iteF ?_⟩
  -- thing in KEPT
  refine ⟨_, rfl, ka, _, rfl, .inr (skept _), rfl, rfl, false, ?_, iteF ?_⟩
  · rw [if_neg Bool.false_ne_true, inV_word hw]
  -- all([letter in LETTERS for letter in thing])
  refine ⟨_, rfl, z, rfl, fun D nD => ?_⟩
  have s0 : Same H (upd H D (.lst [])) := same_new nD
  refine lc_it walk_str (fun i H' => Same H H' ∧ H' D = some (.lst (List.replicate i (.bl true)))) ⟨s0, upd_same⟩ (fun _ _ _ _ => trivial) ?_ ?_
  · rintro i x H1 H2 hi ⟨sm, hD⟩ ⟨rfl, c, hc, rfl⟩
    have hm : c ∈ z.cps.toList := by
      obtain ⟨hlt, e⟩ := Array.getElem?_eq_some_iff.mp hc
      rw [← e]
      exact Array.mem_toList_iff.mpr (Array.getElem_mem hlt)
    refine ⟨rfl, _, rfl, c, _, rfl, rfl, _, hD, ?_, fun b o e => ?_, ?_⟩
    · rw [List.length_replicate]
      exact small1000 (by have : z.cps.size = z.cps.toList.length := by simp
                          omega)
    · rw [upd_ne (ne_of_none e nD)]
      exact sm _ _ e
    · rw [upd_same, decide_eq_true (let_mem (hw.lets c hm)), List.replicate_succ']
  · rintro H' ⟨sm, hD⟩
    refine ⟨D, List.replicate z.cps.size true, rfl, ?_, ?_⟩
    · rw [List.map_replicate]
      exact SqL.of hD
    · have e : (List.replicate z.cps.size true).all id = true := by simp
      rw [e]
      exact q H' sm
end
end K77
end

section
set_option Elab.async false
set_option linter.all false
set_option maxRecDepth 100000
set_option maxHeartbeats 4000000
/-! is_shallow, is_concept, check_concept -/
namespace K77
open PySem PySem.Spec PyProof.Rows L2
abbrev s_is_shallow : Stmt := top 15
theorem sc_is_shallow : FnScope ["thing", "most", "part"] ["thing", "most"] (defScope s_is_shallow) := ⟨rfl, rfl, rfl, by decide +kernel, rfl, by decide +kernel, by decide +kernel⟩
abbrev s_is_concept : Stmt := top 14
theorem sc_is_concept : FnScope ["thing"] ["thing"] (defScope s_is_concept) := ⟨rfl, rfl, rfl, by decide +kernel, rfl, by decide +kernel, by decide +kernel⟩
abbrev s_check_concept : Stmt := top 16
theorem sc_check_concept : FnScope ["thing"] ["thing"] (defScope s_check_concept) := ⟨rfl, rfl, rfl, by decide +kernel, rfl, by decide +kernel, by decide +kernel⟩
/-- a concept nested less than n deep, and at most as deep as is told: True -/
def spShallow (K : PySem.W.Frag) (n : Nat) : Sp := fun vs H Q _ => ∃ v c, ∃ m : Nat, vs = [v, .int m] ∧ CAt K H v c ∧ Good c ∧ nest c < n ∧ nest c ≤ m ∧ wt c ≤ 4000 ∧ ∀ H', Same H H' → Q (.bl true) H'
/-- well formed, and small enough for every call here -/
structure Sml (c : Con) : Prop where
  g : Good c
  n : nest c ≤ 30
  w : wt c ≤ 4000
def spConcept (K : PySem.W.Frag) (r : V) : Sp := fun vs H Q _ => ∃ v c, vs = [v] ∧ CAt K H v c ∧ Sml c ∧ ∀ H', Same H H' → Q r H'
theorem sz_lt {n : Nat} (h : n ≤ 100000) : n < sizeLine := Nat.lt_of_le_of_lt h (by decide)
theorem sz_le {n : Nat} (h : n ≤ 100000) : n ≤ sizeLine := Nat.le_of_lt (sz_lt h)
theorem len_wts : ∀ cs : List Con, cs.length ≤ wts cs
  | [] => Nat.zero_le _
  | c :: r => by
    have h1 := wt_pos c
    have h2 := len_wts r
    simp only [wts, List.length_cons]
    omega
theorem and_some : ("and" : Str) ≠ "some" := by decide +kernel
section
variable {P : Program} {w : World} {K : PySem.W.Frag} {mg : Str → Option Value} {base : Heap}
theorem step_shallow {n : Nat} (D : Df K mg "is_shallow" s_is_shallow ["thing", "most"]) (T : Tx K mg) (c_is_word : Cal P w K mg base 1 "is_word" spWord) (c_is_shallow : Cal P w K mg base (n + 1) "is_shallow" (spShallow K n)) :
    Cal P w K mg base (n + 2) "is_shallow" (spShallow K (n + 1)) := by
  refine cal_of D sc_is_shallow (fun vs H Q E h => ?_) (fun f cdv A outer s H vs Q E hr h => ?_)
  · obtain ⟨v, c, m, rfl, _⟩ := h
    rfl
  obtain ⟨v, c, m, rfl, hc, g, h1, h2, hw, q⟩ := h
  refine ⟨_, (pss_cons (ps_if (pt_val (pe_callB call_isi (by rfl) T.isi boot_isinstance (pa_cons (pv 0) (pa_cons (pe_bltn (v := .ty "str") (by rfl) T.str boot_str rfl) pa_nil))))
    (pss_one (ps_ret (pe_or (pe_cmpR op_in_seq (pv 0) (pe_tup (pa_cons pe_str (pa_cons pe_str pa_nil))) rfl) (pe_one (pc c_is_word hr (by rfl) (pa_cons (pv 0) pa_nil))))))
    pss_nil)
    (pss_cons (ps_if (PW.pt (pw_or (pt_not (pt_val (pe_callB call_isi (by rfl) T.isi boot_isinstance (pa_cons (pv 0) (pa_cons (pe_bltn (v := .ty "tuple") (by rfl) T.tuple boot_tuple rfl) pa_nil))))) (pw_or (pt_cmpR op_eq (pv 1) pe_int (nomark _)) (pw_or1 (pt_cmpR op_lt (pe_callB call_len (by rfl) T.len PySem.boot_len (pa_cons (pv 0) pa_nil)) pe_int (nomark _))))))
    (pss_one (ps_ret pe_bl))
    pss_nil)
    (pss_cons (ps_if (pt_not (pt_val (pe_callB call_isi (by rfl) T.isi boot_isinstance (pa_cons (pe_ix ix_tup (pv 0) pe_int (fun _ _ => rfl)) (pa_cons (pe_bltn (v := .ty "str") (by rfl) T.str boot_str rfl) pa_nil)))))
    (pss_one (ps_ret pe_bl))
    pss_nil)
    (pss_cons (ps_if (pt_cmpR op_eq (pe_ix ix_tup (pv 0) pe_int (fun _ _ => rfl)) pe_str (nomark _))
    (pss_one (ps_ret (pe_and (pe_cmpR op_eq (pe_callB call_len (by rfl) T.len PySem.boot_len (pa_cons (pv 0) pa_nil)) pe_int (nomark _)) (pe_and (pc c_is_word hr (by rfl) (pa_cons (pe_ix ix_tup (pv 0) pe_int (fun _ _ => rfl)) pa_nil)) (pe_one (pc c_is_shallow hr (by rfl) (pa_cons (pe_ix ix_tup (pv 0) pe_int (fun _ _ => rfl)) (pa_cons (pe_op op_sub (pv 1) pe_int) pa_nil))))))))
    pss_nil)
    (pss_one (ps_ret (pe_and (pe_cmpR op_eq (pe_ix ix_tup (pv 0) pe_int (fun _ _ => rfl)) pe_str (nomark _)) (pe_one (pe_callB (cr_all rfl) (by rfl) T.all boot_all (pa_cons (pe_lc (own := [("part", 2)]) rfl sc_is_shallow.nd (pi_tup (pe_slice sl_tupA (pv 0) (po_some pe_int) po_none)) (blkOk_by (N := ["thing", "most", "part"]) (sc := defScope s_is_shallow) (own := [("part", 2)]) (by decide +kernel)) (fun _ _ _ _ _ => (pg_name (i := 2) sc_is_shallow.nd rfl (.inl rfl))) (fun _ _ _ _ _ => pts_nil) (fun _ _ _ _ _ => (pc c_is_shallow hr (by rfl) (pa_cons (pv 2) (pa_cons (pe_op op_sub (pv 1) pe_int) pa_nil))))) pa_nil)))))))))), ?_⟩
  cases c with
  | all =>
    cases of_all hc
    refine ⟨_, rfl, _, _, _, _, true, rfl, .ty "str", .base (.str _), k_ss, true, rfl, iteT ?_⟩
    refine ⟨_, rfl, Nat.le_trans (by decide : 2 ≤ 16) (by decide), fun p np => ⟨p, _, rfl, .inr (SqT.of upd_same), rfl, rfl, true, ?_, iteT ?_⟩⟩
    · rw [if_neg Bool.false_ne_true]
      decide +kernel
    · exact q _ (same_new np)
  | nm z =>
    cases of_nm hc
    refine ⟨_, rfl, _, _, _, _, true, rfl, .ty "str", .base (.str _), k_ss, true, rfl, iteT ?_⟩
    refine ⟨_, rfl, Nat.le_trans (by decide : 2 ≤ 16) (by decide), fun p np => ⟨p, _, rfl, .inr (SqT.of upd_same), rfl, rfl, false, ?_, iteF ?_⟩⟩
    · rw [if_neg Bool.false_ne_true]
      have e : inV (.str z) [.str "all", .str "none"] = false := by simp [inV, eqV, Ne.symm (word_all g), Ne.symm (word_none g)]
      rw [e]
    · exact ⟨_, rfl, z, rfl, g, fun H' sm => q H' ((same_new np).trans sm)⟩
  | sm r d =>
    obtain ⟨a, u, rfl, hS, hd⟩ := of_sm hc
    have hn : nest d < n := by simp only [nest] at h1; omega
    have hm : 1 ≤ m := by simp only [nest] at h2; omega
    refine ⟨_, rfl, _, _, _, _, false, rfl, .ty "str", tyx_tup hS, k_ts, false, rfl, iteF ?_⟩
    refine ⟨_, rfl, _, _, _, _, true, rfl, .ty "tuple", tyx_tup hS, k_tt, true, rfl, iteF ?_⟩
    refine ⟨_, rfl, rfl, false, congrArg V.bl (decide_eq_false fun e => ?_), iteF ?_⟩
    · have := V.int.inj e
      omega
    refine ⟨_, rfl, .ref a, 3, rfl, .inr ⟨_, hS, rfl⟩, _, _, rfl, rfl, false, rfl, iteF ?_⟩
    refine ⟨_, rfl, a, _, _, _, rfl, rfl, hS, atI_nat (j := 0) rfl, _, _, _, _, true, rfl, .ty "str", .base (.str _), k_ss, true, rfl, iteF ?_⟩
    refine ⟨_, rfl, a, _, _, _, rfl, rfl, hS, atI_nat (j := 0) rfl, rfl, true, congrArg V.bl (decide_eq_true rfl), iteT ?_⟩
    refine ⟨_, rfl, .ref a, 3, rfl, .inr ⟨_, hS, rfl⟩, rfl, true, congrArg V.bl (decide_eq_true rfl), iteT ?_⟩
    refine ⟨_, rfl, a, _, _, _, rfl, rfl, hS, atI_nat (j := 1) rfl, r, rfl, g.1, fun H1 s1 => ⟨true, rfl, iteT ?_⟩⟩
    refine ⟨_, rfl, a, _, _, _, rfl, rfl, same_tup s1 hS, atI_nat (j := 2) rfl, _, rfl, _, _, rfl, rfl, u, d, m - 1, ?_, cat_same s1 hd, g.2, hn, by simp only [nest] at h2; omega, by simp only [wt] at hw; omega, fun H2 s2 => q H2 (s1.trans s2)⟩
    have e : ((m : Int) - 1) = ((m - 1 : Nat) : Int) := by omega
    show [u, V.int ((m : Int) - 1)] = _
    rw [e]
  | an cs =>
    obtain ⟨a, ws, rfl, hS, hd⟩ := of_an hc
    have hl := hd.len
    have g1 := g.1
    have hm : 1 ≤ m := by simp only [nest] at h2; omega
    refine ⟨_, rfl, _, _, _, _, false, rfl, .ty "str", tyx_tup hS, k_ts, false, rfl, iteF ?_⟩
    refine ⟨_, rfl, _, _, _, _, true, rfl, .ty "tuple", tyx_tup hS, k_tt, true, rfl, iteF ?_⟩
    refine ⟨_, rfl, rfl, false, congrArg V.bl (decide_eq_false fun e => ?_), iteF ?_⟩
    · have := V.int.inj e
      omega
    refine ⟨_, rfl, .ref a, ws.length + 1, rfl, .inr ⟨_, hS, rfl⟩, _, _, rfl, rfl, false, congrArg V.bl (decide_eq_false (by omega)), iteF ?_⟩
    refine ⟨_, rfl, a, _, _, _, rfl, rfl, hS, atI_nat (j := 0) rfl, _, _, _, _, true, rfl, .ty "str", .base (.str _), k_ss, true, rfl, iteF ?_⟩
    refine ⟨_, rfl, a, _, _, _, rfl, rfl, hS, atI_nat (j := 0) rfl, rfl, false, congrArg V.bl (decide_eq_false fun e => and_some (V.str.inj e)), iteF ?_⟩
    refine ⟨_, rfl, a, _, _, _, rfl, rfl, hS, atI_nat (j := 0) rfl, rfl, true, congrArg V.bl (decide_eq_true rfl), iteT ?_⟩
    -- all([is_shallow(..) for part in thing[1:]])
    refine ⟨_, rfl, _, rfl, a, _, rfl, hS, fun e => ?_, fun _ p np => ?_⟩
    · have := e.1
      rw [show HT.sIx (V.str "and" :: ws).length 0 (some 1) = min 1 (ws.length + 1) from HT.sIx_nat _ 0 1] at this
      omega
    have ec : cutV (V.str "and" :: ws) (some 1) none = ws := cut_from (V.str "and" :: ws) 1 (by simp)
    rw [ec]
    have s1 : Same H (upd H p (.tup ws)) := same_new np
    refine ⟨p, rfl, ⟨ws, SqT.of upd_same⟩, fun D nD => ?_⟩
    have s2 := s1.trans (same_new (o := .lst []) nD)
    have hp : (upd (upd H p (.tup ws)) D (.lst [])) p = some (.tup ws) := (same_new nD) _ _ upd_same
    refine lc_tup (K := K) (xs := ws) (fun i H' => Same H H' ∧ H' p = some (.tup ws) ∧ H' D = some (.lst (List.replicate i (.bl true)))) ⟨s2, hp, upd_same⟩ (fun i H' _ h => SqT.of h.2.1) ?_ ?_
    · rintro i x H1 hx ⟨sm, hp1, hD⟩
      obtain ⟨e, he, hxe⟩ := hd.getL hx
      have hmem : e ∈ cs := List.mem_of_getElem? he
      have hne := nest_le_nests hmem
      refine ⟨rfl, _, rfl, _, rfl, _, _, rfl, rfl, x, e, m - 1, ?_, cat_same sm hxe, goods_iff.mp g.2 e hmem, by simp only [nest] at h1; omega, by simp only [nest] at h2; omega, by simp only [wt] at hw; have := wt_le_wts hmem; omega, fun H2 sm2 => ?_⟩
      · have e : ((m : Int) - 1) = ((m - 1 : Nat) : Int) := by omega
        show [x, V.int ((m : Int) - 1)] = _
        rw [e]
      have hD2 := sm2 _ _ hD
      have hi : i < ws.length := (List.getElem?_eq_some_iff.mp hx).1
      have z := len_wts cs
      simp only [wt] at hw
      refine ⟨_, hD2, by rw [List.length_replicate]; exact sz_lt (by omega), fun b o e => ?_, ?_, ?_⟩
      · rw [upd_ne (ne_of_none (s1 _ _ e) nD)]
        exact sm2 _ _ (sm _ _ e)
      · rw [upd_ne (ne_of_none (show (upd H p (.tup ws)) p = _ from upd_same) nD)]
        exact sm2 _ _ hp1
      · rw [upd_same, List.replicate_succ']
    · rintro H1 ⟨sm, _, hD⟩
      refine ⟨D, List.replicate ws.length true, rfl, ?_, ?_⟩
      · rw [List.map_replicate]
        exact SqL.of hD
      · have e : (List.replicate ws.length true).all id = true := by simp
        rw [e]
        exact q H1 sm
/-- by the number of turns -/
theorem ok_shallow (D : Df K mg "is_shallow" s_is_shallow ["thing", "most"]) (T : Tx K mg) (cw : Cal P w K mg base 1 "is_word" spWord) : ∀ n, Cal P w K mg base (n + 1) "is_shallow" (spShallow K n)
  | 0 => cal_void D fun vs H Q E h => by
    obtain ⟨v, c, m, _, _, _, h1, _⟩ := h
    omega
  | n + 1 => step_shallow D T cw (ok_shallow D T cw n)
theorem ok_is_concept (D : Df K mg "is_concept" s_is_concept ["thing"]) (T : Tx K mg) (c_is_shallow : Cal P w K mg base 32 "is_shallow" (spShallow K 31)) : Cal P w K mg base 33 "is_concept" (spConcept K (.bl true)) := by
  refine cal_of D sc_is_concept (fun vs H Q E h => ?_) (fun f cdv A outer s H vs Q E hr h => ?_)
  · obtain ⟨v, c, rfl, _⟩ := h
    rfl
  obtain ⟨v, c, rfl, hc, g, q⟩ := h
  have hn := g.n
  refine ⟨_, (pss_one (ps_ret (pc c_is_shallow hr (by rfl) (pa_cons (pv 0) (pa_cons (C8.pe_gc (by rfl) T.deepest) pa_nil))))), ?_⟩
  exact ⟨_, rfl, v, c, 100, rfl, hc, g.g, by omega, by omega, g.w, q⟩
theorem ok_check_concept (D : Df K mg "check_concept" s_check_concept ["thing"]) (c_is_concept : Cal P w K mg base 33 "is_concept" (spConcept K (.bl true))) : Cal P w K mg base 34 "check_concept" (spConcept K .non) := by
  refine cal_of D sc_check_concept (fun vs H Q E h => ?_) (fun f cdv A outer s H vs Q E hr h => ?_)
  · obtain ⟨v, c, rfl, _⟩ := h
    rfl
  obtain ⟨v, c, rfl, hc, g, q⟩ := h
  refine ⟨_, (pss_one (ps_if (pt_not (pt_val (pc c_is_concept hr (by rfl) (pa_cons (pv 0) pa_nil))))
    (pss_one ps_never)
    pss_nil)), ?_⟩
  exact ⟨_, rfl, v, c, rfl, hc, g, fun H' sm => ⟨true, rfl, iteF (q H' sm)⟩⟩
end
end K77
end

section
set_option Elab.async false
set_option linter.all false
set_option maxRecDepth 100000
set_option maxHeartbeats 4000000
/-! inner, text_of, closed_text -/
namespace K77
open PySem PySem.Spec PyProof.Rows L2
abbrev s_inner : Stmt := top 17
theorem sc_inner : FnScope ["concept"] ["concept"] (defScope s_inner) := ⟨rfl, rfl, rfl, by decide +kernel, rfl, by decide +kernel, by decide +kernel⟩
abbrev s_text_of : Stmt := top 18
theorem sc_text_of : FnScope ["concept", "part"] ["concept"] (defScope s_text_of) := ⟨rfl, rfl, rfl, by decide +kernel, rfl, by decide +kernel, by decide +kernel⟩
abbrev s_closed_text : Stmt := top 19
theorem sc_closed_text : FnScope ["concept", "around"] ["concept", "around"] (defScope s_closed_text) := ⟨rfl, rfl, rfl, by decide +kernel, rfl, by decide +kernel, by decide +kernel⟩
/-- what stands directly in a concept -/
def inn : Con → List Con
  | .sm _ c => [c]
  | .an cs => cs
  | _ => []
def spInner (K : PySem.W.Frag) : Sp := fun vs H Q _ => ∃ v c, vs = [v] ∧ CAt K H v c ∧ Sml c ∧ ∀ H' p ws, Same H H' → SqT K H' p ws → CsAt K H' ws (inn c) → Q (.ref p) H'
def spText (K : PySem.W.Frag) (n : Nat) : Sp := fun vs H Q _ => ∃ v c, vs = [v] ∧ CAt K H v c ∧ Sml c ∧ nest c < n ∧ ∀ H', Same H H' → Q (.str (txt c)) H'
def spClosed (K : PySem.W.Frag) (n : Nat) : Sp := fun vs H Q _ => ∃ v c x, vs = [v, x] ∧ CAt K H v c ∧ Sml c ∧ nest c < n ∧ ∀ H', Same H H' → Q (.str (clt c)) H'
theorem Sml.inn {c d : Con} (h : Sml c) (hd : d ∈ inn c) : Sml d ∧ nest d + 1 ≤ nest c ∧ wt d + 1 ≤ wt c := by
  obtain ⟨g, n, w⟩ := h
  cases c with
  | all => simp [K77.inn] at hd
  | nm s => simp [K77.inn] at hd
  | sm r c =>
    simp only [K77.inn, List.mem_singleton] at hd
    subst hd
    simp only [nest, wt] at n w
    exact ⟨⟨g.2, by omega, by omega⟩, by simp only [nest]; omega, by simp only [wt]; omega⟩
  | an cs =>
    have hd : d ∈ cs := hd
    have h1 := nest_le_nests hd
    have h2 := wt_le_wts hd
    simp only [nest, wt] at n w
    exact ⟨⟨goods_iff.mp g.2 d hd, by omega, by omega⟩, by simp only [nest]; omega, by simp only [wt]; omega⟩
theorem txt_tl (c : Con) : TL.tl (txt c) = tx c := by simp [txt]
theorem clt_tl (c : Con) : TL.tl (clt c) = cl c := by simp [clt]
theorem txt_len {c : Con} (h : Sml c) : (txt c).length ≤ 100000 := by
  have h1 := tx_len h.g
  have h2 := h.w
  show (tx c).toArray.size ≤ _
  simp only [List.size_toArray]
  omega
theorem clt_len {c : Con} (h : Sml c) : (clt c).length + 3 ≤ 25 * wt c := by
  have h1 := cl_len c h.g
  show (cl c).toArray.size + 3 ≤ _
  simp only [List.size_toArray]
  exact h1
theorem join_jo (cs : List Con) : TL.joinL [32, 38, 32] (cs.map cl) = jo cs := by
  have go : ∀ (r : List Con) (c : Con), TL.joinL [32, 38, 32] ((c :: r).map cl) = cl c ++ jor r := by
    intro r
    induction r with
    | nil => intro c; simp [TL.joinL, jor]
    | cons d r ih =>
      intro c
      have := ih d
      simp only [List.map_cons] at this
      simp only [List.map_cons, TL.joinL, this, jor, List.cons_append, List.nil_append]
  cases cs with
  | nil => rfl
  | cons c r => exact go r c
theorem join_txt (cs : List Con) : Txt.join (" & " : Str) (cs.map clt) = txt (.an cs) := by
  refine TL.ext_tl ?_
  rw [TL.join_eq, TL.tl_join, txt_tl, List.map_map]
  have e1 : TL.tl (" & " : Str) = [32, 38, 32] := by decide +kernel
  have e2 : (TL.tl ∘ clt) = cl := funext clt_tl
  rw [e1, e2]
  exact join_jo cs
theorem some_txt (r : Str) (c : Con) : Str.empty ++ ("some " : Str) ++ r ++ (" " : Str) ++ clt c = txt (.sm r c) := by
  refine TL.ext_tl ?_
  rw [TL.tl_append, TL.tl_append, TL.tl_append, TL.tl_append, txt_tl, clt_tl]
  have e1 : TL.tl ("some " : Str) = lSome ++ [32] := by decide +kernel
  have e2 : TL.tl (" " : Str) = [32] := by decide +kernel
  have e3 : TL.tl Str.empty = [] := by decide +kernel
  rw [e1, e2, e3]
  simp [tx, cl, List.append_assoc]
theorem closed_an (cs : List Con) : Str.empty ++ ("(" : Str) ++ txt (.an cs) ++ (")" : Str) = clt (.an cs) := by
  refine TL.ext_tl ?_
  rw [TL.tl_append, TL.tl_append, TL.tl_append, txt_tl, clt_tl]
  have e1 : TL.tl ("(" : Str) = [40] := by decide +kernel
  have e2 : TL.tl (")" : Str) = [41] := by decide +kernel
  have e3 : TL.tl Str.empty = [] := by decide +kernel
  rw [e1, e2, e3]
  simp [tx, cl]
theorem txt_cl {c : Con} (h : ∀ cs, c ≠ .an cs) : txt c = clt c := by
  cases c <;> first | rfl | exact absurd rfl (h _)
theorem clt_sum {cs : List Con} (h : ∀ c ∈ cs, Sml c) : ((cs.map clt).map (·.length)).sum + cs.length * 3 ≤ 25 * wts cs := by
  induction cs with
  | nil => simp [wts]
  | cons c r ih =>
    have a := clt_len (h c List.mem_cons_self)
    have b := ih fun d hd => h d (List.mem_cons_of_mem _ hd)
    simp only [List.map_cons, List.sum_cons, List.length_cons, wts]
    omega
section
variable {P : Program} {w : World} {K : PySem.W.Frag} {mg : Str → Option Value} {base : Heap}
theorem ok_inner (D : Df K mg "inner" s_inner ["concept"]) (T : Tx K mg) : Cal P w K mg base 1 "inner" (spInner K) := by
  refine cal_of D sc_inner (fun vs H Q E h => ?_) (fun f cdv A outer s H vs Q E hr h => ?_)
  · obtain ⟨v, c, rfl, _⟩ := h
    rfl
  obtain ⟨v, c, rfl, hc, g, q⟩ := h
  refine ⟨_, (pss_cons (ps_if (pt_val (pe_callB call_isi (by rfl) T.isi boot_isinstance (pa_cons (pv 0) (pa_cons (pe_bltn (v := .ty "str") (by rfl) T.str boot_str rfl) pa_nil))))
    (pss_one (ps_ret (pe_tup pa_nil)))
    pss_nil)
    (pss_one (ps_ret (pe_ifExp (pt_cmpR op_eq (pe_ix ix_tup (pv 0) pe_int (fun _ _ => rfl)) pe_str (nomark _)) (pe_slice sl_tupA (pv 0) (po_some pe_int) po_none) (pe_slice sl_tupA (pv 0) (po_some pe_int) po_none))))), ?_⟩
  cases c with
  | all =>
    cases of_all hc
    refine ⟨_, rfl, _, _, _, _, true, rfl, .ty "str", .base (.str _), k_ss, true, rfl, iteT ?_⟩
    exact ⟨Nat.zero_le _, fun p np => q _ p [] (same_new np) (SqT.of upd_same) .nil⟩
  | nm z =>
    cases of_nm hc
    refine ⟨_, rfl, _, _, _, _, true, rfl, .ty "str", .base (.str _), k_ss, true, rfl, iteT ?_⟩
    exact ⟨Nat.zero_le _, fun p np => q _ p [] (same_new np) (SqT.of upd_same) .nil⟩
  | sm r d =>
    obtain ⟨a, u, rfl, hS, hd⟩ := of_sm hc
    refine ⟨_, rfl, _, _, _, _, false, rfl, .ty "str", tyx_tup hS, k_ts, false, rfl, iteF ?_⟩
    refine ⟨_, rfl, a, _, _, _, rfl, rfl, hS, atI_nat (j := 0) rfl, rfl, false, congrArg V.bl (decide_eq_false fun e => some_and (V.str.inj e)), iteF ?_⟩
    refine ⟨_, rfl, _, rfl, a, _, rfl, hS, fun e => ?_, fun _ p np => ?_⟩
    · have := e.1
      rw [show HT.sIx [V.str "some", V.str r, u].length 0 (some 2) = min 2 3 from HT.sIx_nat _ 0 2] at this
      omega
    have ec : cutV [V.str "some", V.str r, u] (some 2) none = [u] := cut_from [V.str "some", V.str r, u] 2 (Nat.le_succ 2)
    rw [ec]
    exact q _ p [u] (same_new np) (SqT.of upd_same) (.one (cat_same (same_new np) hd))
  | an cs =>
    obtain ⟨a, ws, rfl, hS, hd⟩ := of_an hc
    have g1 := g.g.1
    have hl := hd.len
    refine ⟨_, rfl, _, _, _, _, false, rfl, .ty "str", tyx_tup hS, k_ts, false, rfl, iteF ?_⟩
    refine ⟨_, rfl, a, _, _, _, rfl, rfl, hS, atI_nat (j := 0) rfl, rfl, true, congrArg V.bl (decide_eq_true rfl), iteT ?_⟩
    refine ⟨_, rfl, _, rfl, a, _, rfl, hS, fun e => ?_, fun _ p np => ?_⟩
    · have := e.1
      rw [show HT.sIx (V.str "and" :: ws).length 0 (some 1) = min 1 (ws.length + 1) from HT.sIx_nat _ 0 1] at this
      omega
    have ec : cutV (V.str "and" :: ws) (some 1) none = ws := cut_from (V.str "and" :: ws) 1 (by simp)
    rw [ec]
    exact q _ p ws (same_new np) (SqT.of upd_same) (cs_same (same_new np) hd)
theorem step_text {n k : Nat} (D : Df K mg "text_of" s_text_of ["concept"]) (T : Tx K mg) (c_closed_text : Cal P w K mg base k "closed_text" (spClosed K n)) : Cal P w K mg base (k + 1) "text_of" (spText K (n + 1)) := by
  refine cal_of D sc_text_of (fun vs H Q E h => ?_) (fun f cdv A outer s H vs Q E hr h => ?_)
  · obtain ⟨v, c, rfl, _⟩ := h
    rfl
  obtain ⟨v, c, rfl, hc, g, hn, q⟩ := h
  refine ⟨_, (pss_cons (ps_if (pt_val (pe_callB call_isi (by rfl) T.isi boot_isinstance (pa_cons (pv 0) (pa_cons (pe_bltn (v := .ty "str") (by rfl) T.str boot_str rfl) pa_nil))))
    (pss_one (ps_ret (pv 0)))
    pss_nil)
    (pss_cons (ps_if (pt_cmpR op_eq (pe_ix ix_tup (pv 0) pe_int (fun _ _ => rfl)) pe_str (nomark _))
    (pss_one (ps_ret (pe_join pe_str (pe_lc (own := [("part", 1)]) rfl sc_text_of.nd (pi_tup (pe_slice sl_tupA (pv 0) (po_some pe_int) po_none)) (blkOk_by (N := ["concept", "part"]) (sc := defScope s_text_of) (own := [("part", 1)]) (by decide +kernel)) (fun _ _ _ _ _ => (pg_name (i := 1) sc_text_of.nd rfl (.inl rfl))) (fun _ _ _ _ _ => pts_nil) (fun _ _ _ _ _ => (pc c_closed_text hr (by rfl) (pa_cons (pv 1) (pa_cons pe_str pa_nil))))))))
    pss_nil)
    (pss_one (ps_ret (pe_joined (PJ.cons pe_str (PJ.cons (pe_fmt (pe_ix ix_tup (pv 0) pe_int (fun _ _ => rfl))) (PJ.cons pe_str (PJ.cons (pe_fmt (pc c_closed_text hr (by rfl) (pa_cons (pe_ix ix_tup (pv 0) pe_int (fun _ _ => rfl)) (pa_cons pe_str pa_nil)))) PJ.nil))))))))), ?_⟩
  cases c with
  | all =>
    cases of_all hc
    refine ⟨_, rfl, _, _, _, _, true, rfl, .ty "str", .base (.str _), k_ss, true, rfl, iteT ?_⟩
    have e : txt .all = "all" := by decide +kernel
    exact ⟨_, rfl, by rw [← e]; exact q H (Same.refl H)⟩
  | nm z =>
    cases of_nm hc
    refine ⟨_, rfl, _, _, _, _, true, rfl, .ty "str", .base (.str _), k_ss, true, rfl, iteT ?_⟩
    have e : txt (.nm z) = z := by simp [txt, tx, cl]
    exact ⟨_, rfl, by rw [← e]; exact q H (Same.refl H)⟩
  | sm r d =>
    obtain ⟨a, u, rfl, hS, hd⟩ := of_sm hc
    obtain ⟨gd, nd, wd⟩ := g.inn (show d ∈ inn (.sm r d) from List.mem_singleton.mpr rfl)
    have hr12 : r.length ≤ 12 := by have := g.g.1.len; simpa [PySem.Str.length] using this
    have hcl := clt_len gd
    have hw := g.w
    refine ⟨_, rfl, _, _, _, _, false, rfl, .ty "str", tyx_tup hS, k_ts, false, rfl, iteF ?_⟩
    refine ⟨_, rfl, a, _, _, _, rfl, rfl, hS, atI_nat (j := 0) rfl, rfl, false, congrArg V.bl (decide_eq_false fun e => some_and (V.str.inj e)), iteF ?_⟩
    have l1 : (Str.empty ++ ("some " : Str)).length = 5 := by decide +kernel
    have ap : ∀ x y : Str, (x ++ y).length = x.length + y.length := fun x y => by
      show (x.cps ++ y.cps).size = _
      rw [Array.size_append]
      rfl
    have l3 : (" " : Str).length = 1 := by decide +kernel
    refine ⟨_, rfl, sz_le (by rw [l1]; decide), ?_⟩
    refine ⟨_, rfl, a, _, _, _, rfl, rfl, hS, atI_nat (j := 1) rfl, ?_⟩
    refine .inl ⟨r, rfl, sz_le (by omega), r, rfl, sz_le (by rw [ap, l1]; omega), ?_⟩
    refine ⟨_, rfl, sz_le (by rw [ap, ap, l1, l3]; omega), ?_⟩
    refine ⟨_, rfl, a, _, _, _, rfl, rfl, hS, atI_nat (j := 2) rfl, u, d, _, rfl, hd, gd, by omega, fun H1 s1 => ?_⟩
    refine .inl ⟨clt d, rfl, sz_le (by omega), clt d, rfl, sz_le (by rw [ap, ap, ap, l1, l3]; omega), ?_⟩
    have e := some_txt r d
    show Q (.str (Str.empty ++ ("some " : Str) ++ r ++ (" " : Str) ++ clt d)) H1
    rw [e]
    exact q H1 s1
  | an cs =>
    obtain ⟨a, ws, rfl, hS, hd⟩ := of_an hc
    have g1 := g.g.1
    have hl := hd.len
    have hw := g.w
    simp only [wt] at hw
    have hlen := len_wts cs
    refine ⟨_, rfl, _, _, _, _, false, rfl, .ty "str", tyx_tup hS, k_ts, false, rfl, iteF ?_⟩
    refine ⟨_, rfl, a, _, _, _, rfl, rfl, hS, atI_nat (j := 0) rfl, rfl, true, congrArg V.bl (decide_eq_true rfl), iteT ?_⟩
    refine ⟨⟨_, rfl⟩, _, rfl, _, rfl, a, _, rfl, hS, fun e => ?_, fun _ p np => ?_⟩
    · have := e.1
      rw [show HT.sIx (V.str "and" :: ws).length 0 (some 1) = min 1 (ws.length + 1) from HT.sIx_nat _ 0 1] at this
      omega
    have ec : cutV (V.str "and" :: ws) (some 1) none = ws := cut_from (V.str "and" :: ws) 1 (by simp)
    rw [ec]
    have s1 : Same H (upd H p (.tup ws)) := same_new np
    refine ⟨p, rfl, ⟨ws, SqT.of upd_same⟩, fun L nL => ?_⟩
    refine lc_tup (K := K) (xs := ws) (fun i H' => Same H H' ∧ H' p = some (.tup ws) ∧ H' L = some (.lst (((cs.take i).map clt).map V.str))) ⟨s1.trans (same_new nL), (same_new nL) _ _ upd_same, upd_same⟩ (fun i H' _ h => SqT.of h.2.1) ?_ ?_
    · rintro i x H1 hx ⟨sm, hp1, hD⟩
      obtain ⟨e, he, hxe⟩ := hd.getL hx
      have hmem : e ∈ cs := List.mem_of_getElem? he
      obtain ⟨ge, ne, _⟩ := g.inn (show e ∈ inn (.an cs) from hmem)
      refine ⟨rfl, _, rfl, x, e, _, rfl, cat_same sm hxe, ge, by omega, fun H2 s2 => ?_⟩
      refine ⟨_, s2 _ _ hD, sz_lt ?_, fun b o eb => ?_, ?_, ?_⟩
      · rw [List.length_map, List.length_map, List.length_take]
        omega
      · rw [upd_ne (ne_of_none (s1 _ _ eb) nL)]
        exact s2 _ _ (sm _ _ eb)
      · rw [upd_ne (ne_of_none (show (upd H p (.tup ws)) p = _ from upd_same) nL)]
        exact s2 _ _ hp1
      · rw [upd_same, List.take_add_one, he, List.map_append, List.map_append]
        rfl
    · rintro H1 ⟨sm, _, hD⟩
      rw [hl, List.take_length] at hD
      have hs := clt_sum (cs := cs) fun c hc => (g.inn (show c ∈ inn (.an cs) from hc)).1
      have l3 : (" & " : Str).length = 3 := by decide +kernel
      refine ⟨_, L, cs.map clt, rfl, rfl, .inl (SqL.of hD), ?_, ?_⟩
      · rw [l3, List.length_map]
        omega
      · rw [join_txt]
        exact q H1 sm
theorem step_closed {n k : Nat} (D : Df K mg "closed_text" s_closed_text ["concept", "around"]) (T : Tx K mg) (c_text_of : Cal P w K mg base k "text_of" (spText K n)) : Cal P w K mg base (k + 1) "closed_text" (spClosed K n) := by
  refine cal_of D sc_closed_text (fun vs H Q E h => ?_) (fun f cdv A outer s H vs Q E hr h => ?_)
  · obtain ⟨v, c, x, rfl, _⟩ := h
    rfl
  obtain ⟨v, c, x, rfl, hc, g, hn, q⟩ := h
  refine ⟨_, (pss_cons (ps_if (PW.pt (pw_and (pt_val (pe_callB call_isi (by rfl) T.isi boot_isinstance (pa_cons (pv 0) (pa_cons (pe_bltn (v := .ty "tuple") (by rfl) T.tuple boot_tuple rfl) pa_nil)))) (pw_and1 (pt_cmpR op_eq (pe_ix ix_tup (pv 0) pe_int (fun _ _ => rfl)) pe_str (nomark _)))))
    (pss_one (ps_ret (pe_joined (PJ.cons pe_str (PJ.cons (pe_fmt (pc c_text_of hr (by rfl) (pa_cons (pv 0) pa_nil))) (PJ.cons pe_str PJ.nil))))))
    pss_nil)
    (pss_one (ps_ret (pc c_text_of hr (by rfl) (pa_cons (pv 0) pa_nil))))), ?_⟩
  cases c with
  | all =>
    cases of_all hc
    refine ⟨_, rfl, _, _, _, _, false, rfl, .ty "tuple", .base (.str _), k_st, false, rfl, ?_⟩
    exact ⟨_, rfl, _, .all, rfl, hc, g, hn, fun H' sm => by rw [txt_cl (fun _ z => by cases z)]; exact q H' sm⟩
  | nm z =>
    cases of_nm hc
    refine ⟨_, rfl, _, _, _, _, false, rfl, .ty "tuple", .base (.str _), k_st, false, rfl, ?_⟩
    exact ⟨_, rfl, _, .nm z, rfl, hc, g, hn, fun H' sm => by rw [txt_cl (fun _ z => by cases z)]; exact q H' sm⟩
  | sm r d =>
    obtain ⟨a, u, rfl, hS, hd⟩ := of_sm hc
    refine ⟨_, rfl, _, _, _, _, true, rfl, .ty "tuple", tyx_tup hS, k_tt, true, rfl, ?_⟩
    refine ⟨_, rfl, a, _, _, _, rfl, rfl, hS, atI_nat (j := 0) rfl, rfl, false, congrArg V.bl (decide_eq_false fun e => some_and (V.str.inj e)), iteF ?_⟩
    exact ⟨_, rfl, _, .sm r d, rfl, hc, g, hn, fun H' sm => by rw [txt_cl (fun _ z => by cases z)]; exact q H' sm⟩
  | an cs =>
    obtain ⟨a, ws, rfl, hS, hd⟩ := of_an hc
    refine ⟨_, rfl, _, _, _, _, true, rfl, .ty "tuple", tyx_tup hS, k_tt, true, rfl, ?_⟩
    refine ⟨_, rfl, a, _, _, _, rfl, rfl, hS, atI_nat (j := 0) rfl, rfl, true, congrArg V.bl (decide_eq_true rfl), iteT ?_⟩
    have ap : ∀ x y : Str, (x ++ y).length = x.length + y.length := fun x y => by
      show (x.cps ++ y.cps).size = _
      rw [Array.size_append]
      rfl
    have l1 : (Str.empty ++ ("(" : Str)).length = 1 := by decide +kernel
    have l2 : (")" : Str).length = 1 := by decide +kernel
    have hcl := clt_len g
    have hw := g.w
    have hcl2 := closed_an cs
    have e2 := congrArg PySem.Str.length hcl2
    rw [ap, ap, l1, l2] at e2
    refine ⟨_, rfl, sz_le (by rw [l1]; decide), ?_⟩
    refine ⟨_, rfl, _, .an cs, rfl, hc, g, hn, fun H1 s1 => ?_⟩
    refine .inl ⟨_, rfl, sz_le (by omega), _, rfl, sz_le (by rw [ap, l1]; omega), ?_⟩
    refine ⟨_, rfl, sz_le (by rw [ap, ap, l1, l2]; omega), ?_⟩
    show Q (.str (Str.empty ++ ("(" : Str) ++ txt (.an cs) ++ (")" : Str))) H1
    rw [hcl2]
    exact q H1 s1
theorem ok_text (D : Df K mg "text_of" s_text_of ["concept"]) (D2 : Df K mg "closed_text" s_closed_text ["concept", "around"]) (T : Tx K mg) : ∀ n, Cal P w K mg base (2 * n + 1) "text_of" (spText K n) ∧ Cal P w K mg base (2 * n + 2) "closed_text" (spClosed K n)
  | 0 => ⟨cal_void D fun vs H Q E h => by
      obtain ⟨v, c, _, _, _, h1, _⟩ := h
      omega, cal_void D2 fun vs H Q E h => by
      obtain ⟨v, c, x, _, _, _, h1, _⟩ := h
      omega⟩
  | n + 1 => by
    have ih := ok_text D D2 T n
    have h1 : Cal P w K mg base (2 * n + 2 + 1) "text_of" (spText K (n + 1)) := step_text D T ih.2
    exact ⟨h1, step_closed D2 T h1⟩
end
end K77
end

section
set_option Elab.async false
set_option linter.all false
set_option maxRecDepth 100000
set_option maxHeartbeats 4000000
/-! gather, parts_of, has_none -/
namespace K77
open PySem PySem.Spec PyProof.Rows L2
abbrev s_gather : Stmt := top 20
theorem sc_gather : FnScope ["concept", "found", "key", "part"] ["concept", "found"] (defScope s_gather) := ⟨rfl, rfl, rfl, by decide +kernel, rfl, by decide +kernel, by decide +kernel⟩
abbrev s_parts_of : Stmt := top 21
theorem sc_parts_of : FnScope ["concepts", "found", "concept", "key"] ["concepts"] (defScope s_parts_of) := ⟨rfl, rfl, rfl, by decide +kernel, rfl, by decide +kernel, by decide +kernel⟩
abbrev s_has_none : Stmt := top 25
theorem sc_has_none : FnScope ["concept"] ["concept"] (defScope s_has_none) := ⟨rfl, rfl, rfl, by decide +kernel, rfl, by decide +kernel, by decide +kernel⟩
/-- a dict from texts to concepts -/
def Fnd (K : PySem.W.Frag) (H : Hp) (kvs : List (Key × V)) : Prop := ∀ p ∈ kvs, ∃ s e, p.1 = Sum.inr s ∧ CAt K H p.2 e ∧ Sml e
theorem sb_tk {K : PySem.W.Frag} {d : Addr} {H H' : Hp} {kvs : List (Key × V)} (h : SB d H H') (hd : H d = some (.dK kvs)) : TupK K H H' := fun a xs q => by
  rcases q with (q | ⟨o, q⟩) | q
  · exact .inl (.inl (h _ _ q (ne_of q hd (fun z => by cases z))))
  · exact .inl (.inr ⟨o, h _ _ q (ne_of q hd (fun z => by cases z))⟩)
  · exact .inr q
theorem Fnd.tk {K : PySem.W.Frag} {H H' : Hp} {kvs : List (Key × V)} (f : Fnd K H kvs) (e : TupK K H H') : Fnd K H' kvs := fun p hp => by
  obtain ⟨s, c, h1, h2, h3⟩ := f p hp
  exact ⟨s, c, h1, cat_tk e c _ h2, h3⟩
theorem fnd_keys {K : PySem.W.Frag} {H : Hp} : ∀ {kvs : List (Key × V)}, Fnd K H kvs → ∃ ks : List Str, kvs.map (·.1) = ks.map Sum.inr
  | [], _ => ⟨[], rfl⟩
  | p :: r, hf => by
    obtain ⟨ks, e⟩ := fnd_keys (kvs := r) fun x hx => hf x (List.mem_cons_of_mem _ hx)
    obtain ⟨t, _, e1, _⟩ := hf p List.mem_cons_self
    exact ⟨t :: ks, by rw [List.map_cons, List.map_cons, e1, e]⟩
def spGather (K : PySem.W.Frag) (n : Nat) : Sp := fun vs H Q _ => ∃ v c f kvs, vs = [v, .ref f] ∧ CAt K H v c ∧ Sml c ∧ nest c < n ∧ H f = some (.dK kvs) ∧ Fnd K H kvs ∧ kvs.length + wt c ≤ 8000 ∧
  ∀ H' kvs', SB f H H' → H' f = some (.dK kvs') → Fnd K H' kvs' → kvs'.length ≤ kvs.length + wt c → Q .non H'
/-- a list with one concept: a new list of concepts -/
def spParts (K : PySem.W.Frag) : Sp := fun vs H Q _ => ∃ a v c, vs = [.ref a] ∧ SqL K H a [v] ∧ CAt K H v c ∧ Sml c ∧
  ∀ H' p ws cs, Same H H' → H' p = some (.lst ws) → CsAt K H' ws cs → (∀ c ∈ cs, Sml c) → Q (.ref p) H'
def spHasNone (K : PySem.W.Frag) : Sp := fun vs H Q _ => ∃ v c, vs = [v] ∧ CAt K H v c ∧ Sml c ∧ ∀ H', Same H H' → Q (.bl false) H'
theorem wts_inn (c : Con) : wts (inn c) + 1 ≤ wt c := by
  cases c <;> simp [inn, wts, wt]
theorem eqv_none {c : Con} (g : Good c) : PyData.eqv (dat c) (.str "none") = false := by
  cases c with
  | all =>
    rw [show dat .all = .str "all" from rfl, eqv_str]
    exact decide_eq_false (by decide +kernel)
  | nm s =>
    rw [show dat (.nm s) = .str s from rfl, eqv_str]
    exact decide_eq_false (word_none g)
  | sm r c => simp [dat, PyData.eqv]
  | an cs => simp [dat, PyData.eqv]
theorem shaped_list : ∀ {cs : List Con}, (∀ c ∈ cs, Sml c) → SeqAt.shaped (.list (dats cs)) = true := by
  intro cs h
  have go : ∀ l : List Con, (∀ c ∈ l, Sml c) → PyData.canLayAll0 (dats l) = true ∧ PyData.depthAll (dats l) ≤ 30 := by
    intro l
    induction l with
    | nil => intro _; simp [dats, PyData.canLayAll0, PyData.depthAll]
    | cons c r ih =>
      intro h
      obtain ⟨a1, a2⟩ := lay_con c (h c List.mem_cons_self).g
      have n := (h c List.mem_cons_self).n
      obtain ⟨b1, b2⟩ := ih fun x hx => h x (List.mem_cons_of_mem _ hx)
      refine ⟨by simp [dats, PyData.canLayAll0, a1, b1], ?_⟩
      simp only [dats, PyData.depthAll]
      omega
  obtain ⟨h1, h2⟩ := go cs h
  unfold SeqAt.shaped
  rw [show (PyData.list (dats cs)).canLay0 = true by rw [PyData.canLay0]; exact h1, show (PyData.list (dats cs)).depth = PyData.depthAll (dats cs) + 1 by rw [PyData.depth], decide_eq_true (by omega)]
  rfl
theorem any_none : ∀ {cs : List Con}, (∀ c ∈ cs, Sml c) → ((dats cs).any fun z => PyData.eqv z (.str "none")) = false
  | [], _ => rfl
  | c :: r, h => by
    rw [dats, List.any_cons, eqv_none (h c List.mem_cons_self).g, any_none fun x hx => h x (List.mem_cons_of_mem _ hx)]
    rfl
section
variable {P : Program} {w : World} {K : PySem.W.Frag} {mg : Str → Option Value} {base : Heap}
theorem step_gather {n : Nat} (D : Df K mg "gather" s_gather ["concept", "found"]) (c_text_of : Cal P w K mg base 63 "text_of" (spText K 31)) (c_inner : Cal P w K mg base 1 "inner" (spInner K)) (c_gather : Cal P w K mg base (n + 63) "gather" (spGather K n)) :
    Cal P w K mg base (n + 1 + 63) "gather" (spGather K (n + 1)) := by
  refine cal_of (k := n + 63) D sc_gather (fun vs H Q E h => ?_) (fun f cdv A outer s H vs Q E hr h => ?_)
  · obtain ⟨v, c, f, kvs, rfl, _⟩ := h
    rfl
  obtain ⟨v, c, d, kvs, rfl, hc, g, hn, hd, hf, hl, q⟩ := h
  have hu := hu_of hr
  refine ⟨_, (pss_cons (ps_set (i := 2) sc_gather.nd rfl (.inl rfl) (pc c_text_of hr (by rfl) (pa_cons (pv 0) pa_nil)))
    (pss_one (ps_if (pt_cmp (pc_dnotin hu (pv 2) (pv 1)))
    (pss_cons (ps_dput hu (pv 1) (pv 2) (pv 0) rfl)
    (pss_one (ps_for PassesOwn.never rfl (pi_tup (pc c_inner hr (by rfl) (pa_cons (pv 0) pa_nil))) (pg_name (i := 3) sc_gather.nd rfl (.inl rfl))
    (pss_one (ps_expr (pc c_gather hr (by rfl) (pa_cons (pv 3) (pa_cons (pv 1) pa_nil))))))))
    pss_nil))), ?_⟩
  have hgn := g.n
  refine ⟨v, rfl, v, c, rfl, hc, g, by omega, fun H1 s1 => ?_⟩
  have hd1 := s1 _ _ hd
  refine ⟨_, rfl, _, rfl, d, _, rfl, DGet.k (k := Sum.inr (txt c)) hd1, _, rfl, ?_⟩
  cases e : valV kvs (Sum.inr (txt c) : Key) with
  | some u =>
    refine iteF ?_
    exact q H1 kvs (SB.of s1) hd1 (hf.tk (same_tk s1)) (by omega)
  | none =>
    refine iteT ?_
    refine ⟨_, rfl, _, rfl, _, rfl, d, _, rfl, DPut.k (k := Sum.inr (txt c)) hd1 (sz_lt (by omega)), ?_⟩
    have b2 : SB d H1 (upd H1 d (.dK (putK kvs (Sum.inr (txt c)) v))) := SB.upd
    have t2 : TupK K H1 (upd H1 d (.dK (putK kvs (Sum.inr (txt c)) v))) := sb_tk b2 hd1
    have hc2 : CAt K (upd H1 d (.dK (putK kvs (Sum.inr (txt c)) v))) v c := cat_tk t2 c v (cat_same s1 hc)
    have el : (putK kvs (Sum.inr (txt c) : Key) v).length = kvs.length + 1 := by
      rw [putK_new _ e, List.length_append]
      rfl
    have f2 : Fnd K (upd H1 d (.dK (putK kvs (Sum.inr (txt c)) v))) (putK kvs (Sum.inr (txt c)) v) := by
      intro p hp
      rw [putK_new _ e] at hp
      rcases List.mem_append.mp hp with hp | hp
      · exact (hf.tk (same_tk s1)).tk t2 p hp
      · cases List.mem_singleton.mp hp
        exact ⟨txt c, c, rfl, hc2, g⟩
    generalize putK kvs (Sum.inr (txt c) : Key) v = kv2 at b2 t2 hc2 el f2 ⊢
    refine ⟨v, rfl, v, c, rfl, hc2, g, fun H3 p ws s3 hp hcs => ?_⟩
    have hd3 : H3 d = some (.dK kv2) := s3 _ _ upd_same
    refine ⟨p, rfl, ⟨ws, hp⟩, for_tup (K := K) (xs := ws) (fun i σ H' => ∃ y kv', σ = [some v, some (.ref d), some (.str (txt c)), y] ∧ SB d H3 H' ∧ H' d = some (.dK kv') ∧ Fnd K H' kv' ∧ kv'.length ≤ kv2.length + wts ((inn c).take i)) ?_ ?_ ?_ ?_⟩
    · exact ⟨none, kv2, rfl, SB.refl _ _, hd3, f2.tk (same_tk s3), by simp [wts]⟩
    · rintro i σ H' _ ⟨y, kv', rfl, b', hd', _⟩
      exact sb_tk b' hd3 _ _ hp
    · rintro i x σ H' hx ⟨y, kv', rfl, b', hd', hf', hl'⟩
      obtain ⟨e2, he2, hxe⟩ := hcs.getL hx
      obtain ⟨ge, ne, _⟩ := g.inn (List.mem_of_getElem? he2)
      have hw := wts_inn c
      have split : wts (inn c) = wts ((inn c).take (i + 1)) + wts ((inn c).drop (i + 1)) := by rw [← wts_app, List.take_append_drop]
      have step : wts ((inn c).take (i + 1)) = wts ((inn c).take i) + wt e2 := by
        rw [List.take_add_one, he2, wts_app]
        simp [wts]
      refine ⟨x, rfl, .ref d, rfl, x, e2, d, kv', rfl, cat_tk (sb_tk b' hd3) e2 x hxe, ge, by omega, hd', hf', by omega, fun H4 kv4 b4 hd4 hf4 hl4 => ?_⟩
      exact ⟨_, kv4, rfl, b'.trans b4, hd4, hf4, by omega⟩
    · rintro σ H' ⟨y, kv', rfl, b', hd', hf', hl'⟩
      have hw := wts_inn c
      rw [hcs.len, List.take_length] at hl'
      refine q H' kv' (fun b o hb nb => ?_) hd' hf' (by omega)
      exact b' b o (s3 _ _ (b2 b o (s1 _ _ hb) nb)) nb
theorem ok_gather (D : Df K mg "gather" s_gather ["concept", "found"]) (ct : Cal P w K mg base 63 "text_of" (spText K 31)) (ci : Cal P w K mg base 1 "inner" (spInner K)) : ∀ n, Cal P w K mg base (n + 63) "gather" (spGather K n)
  | 0 => cal_void D fun vs H Q E h => by
    obtain ⟨v, c, f, kvs, _, _, _, h1, _⟩ := h
    omega
  | n + 1 => step_gather D ct ci (ok_gather D ct ci n)
theorem ok_parts_of (D : Df K mg "parts_of" s_parts_of ["concepts"]) (T : Tx K mg) (c_gather : Cal P w K mg base 94 "gather" (spGather K 31)) : Cal P w K mg base 95 "parts_of" (spParts K) := by
  refine cal_of D sc_parts_of (fun vs H Q E h => ?_) (fun f cdv A outer s H vs Q E hr h => ?_)
  · obtain ⟨a, v, c, rfl, _⟩ := h
    rfl
  obtain ⟨a, v, c, rfl, hS, hc, g, q⟩ := h
  have hu := hu_of hr
  refine ⟨_, (pss_cons (ps_set (i := 1) sc_parts_of.nd rfl (.inr rfl) pe_dnewK)
    (pss_cons (ps_for PassesOwn.never rfl (pi_list (pv 0)) (pg_name (i := 2) sc_parts_of.nd rfl (.inl rfl))
    (pss_one (ps_expr (pc c_gather hr (by rfl) (pa_cons (pv 2) (pa_cons (pv 1) pa_nil))))))
    (pss_one (ps_ret (pe_lc (own := [("key", 3)]) rfl sc_parts_of.nd (pi_list (pe_callB (cr_sortedKs rfl) (by rfl) T.sorted boot_sorted (pa_cons (pv 1) pa_nil))) (blkOk_by (N := ["concepts", "found", "concept", "key"]) (sc := defScope s_parts_of) (own := [("key", 3)]) (by decide +kernel)) (fun _ _ _ _ _ => (pg_name (i := 3) sc_parts_of.nd rfl (.inl rfl))) (fun _ _ _ _ _ => pts_nil) (fun _ _ _ _ _ => (pe_dget hu (pv 1) (pv 3) (fun _ _ => rfl)))))))), ?_⟩
  intro d nd
  have s1 : Same H (upd H d (.dK [])) := same_new nd
  refine ⟨_, rfl, a, rfl, ⟨_, s1.seq hS⟩, for_list (K := K) (a := a) (xs := [v]) (fun i σ H' => ∃ y z kvs, σ = [some (.ref a), some (.ref d), y, z] ∧ Same H H' ∧ H' d = some (.dK kvs) ∧ Fnd K H' kvs ∧ kvs.length ≤ i * wt c)
    ⟨none, none, [], rfl, s1, upd_same, (fun p hp => by cases hp), by simp⟩ (fun i σ H' _ ⟨_, _, _, _, sm, _⟩ => sm.seq hS) ?_ ?_⟩
  · rintro i x σ H' hx ⟨y, z, kvs, rfl, sm, hd, hf, hl⟩
    have hi : i = 0 := by
      have := (List.getElem?_eq_some_iff.mp hx).1
      simpa using this
    subst hi
    cases Option.some.inj (show some v = some x from hx)
    have hw := g.w
    have hgn := g.n
    refine ⟨_, rfl, _, rfl, v, c, d, kvs, rfl, cat_same sm hc, g, by omega, hd, hf, by omega, fun H2 kv2 b2 hd2 hf2 hl2 => ?_⟩
    exact ⟨_, z, kv2, rfl, fun b o hb => b2 b o (sm b o hb) (ne_of_none hb nd), hd2, hf2, by omega⟩
  · rintro σ H1 ⟨y, z, kvs, rfl, sm, hd, hf, hl⟩
    have hw := g.w
    have hl : kvs.length ≤ 4000 := by simp only [List.length_cons, List.length_nil] at hl; omega
    obtain ⟨ks, eks⟩ := fnd_keys hf
    have hlen : ks.length = kvs.length := by
      have := congrArg List.length eks
      simpa using this.symm
    refine ⟨.ref d, rfl, d, kvs, ks, rfl, .inl hd, eks, fun ys p perm _ np => ?_⟩
    have s2 := same_new (o := .lst (ys.map V.str)) np
    refine ⟨p, rfl, ⟨_, SqL.of upd_same⟩, fun L nL => ?_⟩
    have s3 := same_new (o := .lst []) nL
    have ylen := perm.length_eq
    refine lc_list (K := K) (a := p) (xs := ys.map V.str) (fun i H' => Same (upd H1 p (.lst (ys.map V.str))) H' ∧ ∃ ws cs, H' L = some (.lst ws) ∧ CsAt K H' ws cs ∧ (∀ c ∈ cs, Sml c) ∧ ws.length = i)
      ⟨s3, [], [], upd_same, .nil, (fun _ h => by cases h), rfl⟩ (fun i H' _ h => h.1.seq (SqL.of upd_same)) ?_ ?_
    · rintro i x H4 hx ⟨s4, ws, cs, hL, hcs, hsm, hi⟩
      rw [List.getElem?_map] at hx
      obtain ⟨key, hkey, rfl⟩ := Option.map_eq_some_iff.mp hx
      have hd4 : H4 d = some (.dK kvs) := s4 _ _ (s2 _ _ hd)
      have hm : key ∈ ks := perm.mem_iff.mp (List.mem_of_getElem? hkey)
      obtain ⟨u, hu2⟩ : ∃ u, valV kvs (Sum.inr key : Key) = some u := by
        cases e : valV kvs (Sum.inr key : Key) with
        | some u => exact ⟨u, rfl⟩
        | none =>
          have := valV_not e
          rw [eks] at this
          exact absurd (List.mem_map.mpr ⟨key, hm, rfl⟩) this
      obtain ⟨e, hcu, hse⟩ : ∃ e, CAt K H4 u e ∧ Sml e := by
        have hu3 := hu2
        unfold valV at hu3
        obtain ⟨pr, hpr, rfl⟩ := Option.map_eq_some_iff.mp hu3
        obtain ⟨_, e, _, h2, h3⟩ := hf pr (List.mem_of_find?_eq_some hpr)
        exact ⟨e, cat_same s4 (cat_same s2 h2), h3⟩
      have hib : i < ys.length := (List.getElem?_eq_some_iff.mp hkey).1
      refine ⟨rfl, .ref d, rfl, .str key, rfl, d, u, rfl, by rw [← hu2]; exact DGet.k (k := Sum.inr key) hd4, ws, hL, sz_lt (by omega), fun b o hb => ?_, ws ++ [u], cs ++ [e], upd_same, ?_, ?_, ?_⟩
      · rw [upd_ne (ne_of_none hb nL)]
        exact s4 _ _ hb
      · have tk : TupK K H4 (upd H4 L (.lst (ws ++ [u]))) := fun a xs h => by
          rcases h with (h | ⟨o, h⟩) | h
          · exact .inl (.inl (by rw [upd_ne (ne_of h hL (fun z => by cases z))]; exact h))
          · exact .inl (.inr ⟨o, by rw [upd_ne (ne_of h hL (fun z => by cases z))]; exact h⟩)
          · exact .inr h
        exact All2.snoc (hcs.imp fun _ _ h => cat_tk tk _ _ h) (cat_tk tk _ _ hcu)
      · intro c hc
        rcases List.mem_append.mp hc with hc | hc
        · exact hsm c hc
        · cases List.mem_singleton.mp hc
          exact hse
      · rw [List.length_append, hi]
        rfl
    · rintro H4 ⟨s4, ws, cs, hL, hcs, hsm, _⟩
      exact q H4 L ws cs (sm.trans (s2.trans s4)) hL hcs hsm
theorem ok_has_none (D : Df K mg "has_none" s_has_none ["concept"]) (c_parts_of : Cal P w K mg base 95 "parts_of" (spParts K)) : Cal P w K mg base 96 "has_none" (spHasNone K) := by
  refine cal_of D sc_has_none (fun vs H Q E h => ?_) (fun f cdv A outer s H vs Q E hr h => ?_)
  · obtain ⟨v, c, rfl, _⟩ := h
    rfl
  obtain ⟨v, c, rfl, hc, g, q⟩ := h
  refine ⟨_, (pss_one (ps_ret (pe_cmpR (op_inD (units65 hr)) pe_str (pc c_parts_of hr (by rfl) (pa_cons (pe_lst (pa_cons (pv 0) pa_nil)) pa_nil)) rfl))), ?_⟩
  refine ⟨_, rfl, sz_le (Nat.le_trans (by decide : 1 ≤ 2) (by decide)), fun p np => ?_⟩
  have s1 : Same H (upd H p (.lst [v])) := same_new np
  refine ⟨p, v, c, rfl, SqL.of upd_same, cat_same s1 hc, g, fun H2 L ws cs s2 hL hcs hsm => ?_⟩
  refine ⟨.str "none", dats cs, .str _, .lst (SqL.of hL) (cs_dp hcs), by decide +kernel, shaped_list hsm, ?_⟩
  rw [any_none hsm]
  exact q H2 (s1.trans s2)
end
end K77
end

section
set_option Elab.async false
set_option linter.all false
set_option maxRecDepth 100000
set_option maxHeartbeats 4000000
/-! is_and, conjuncts, conjunction -/
namespace K77
open PySem PySem.Spec PyProof.Rows L2
abbrev s_is_and : Stmt := top 22
theorem sc_is_and : FnScope ["concept"] ["concept"] (defScope s_is_and) := ⟨rfl, rfl, rfl, by decide +kernel, rfl, by decide +kernel, by decide +kernel⟩
abbrev s_conjuncts : Stmt := top 26
theorem sc_conjuncts : FnScope ["concept", "part", "one"] ["concept"] (defScope s_conjuncts) := ⟨rfl, rfl, rfl, by decide +kernel, rfl, by decide +kernel, by decide +kernel⟩
abbrev s_conjunction : Stmt := top 24
theorem sc_conjunction : FnScope ["concepts", "found", "concept"] ["concepts"] (defScope s_conjunction) := ⟨rfl, rfl, rfl, by decide +kernel, rfl, by decide +kernel, by decide +kernel⟩
/-- a list in an inner place of a comprehension -/
theorem pi_listB {X : Cx} {K : PySem.W.Frag} {tg l : Expr} {tl : TE} (e : X.K = K) (hl : PE X l tl) : PI X tg l (iList K tl) := e ▸ pi_list hl
/-- a comprehension's loop, whatever its turn does -/
theorem it_by {J : It} {n : Nat} {G : Hp → Prop} {Y : Nat → Hp → V → Hp → Prop} (wk : Walk J n G Y) {Stp : Hp → Prop} {B : V → Hp → (Hp → Prop) → Prop} {H0 : Hp} (Pv : Nat → Hp → Prop) (h0 : Pv 0 H0) (hG : ∀ i H, i ≤ n → Pv i H → G H)
    (hs : ∀ i x H H', i < n → Pv i H → Y i H x H' → B x H' (Pv (i + 1))) (hd : ∀ H, Pv n H → Stp H) :
    ∃ W : Nat → Nat → Hp → Prop, (∃ m, W 0 m H0) ∧ ∀ i m H, W i m H → (J.stop i H ∧ Stp H) ∨ (J.go i H ∧ ∃ Nx : Hp → Prop, (∀ H', Nx H' → ∃ m', m' < m ∧ W (i + 1) m' H') ∧ ∀ x H', J.yld i H x H' → B x H' Nx) := by
  refine ⟨fun i m H => i + m = n ∧ Pv i H, ⟨n, by omega, h0⟩, fun i m H h => ?_⟩
  obtain ⟨e, p⟩ := h
  have g := hG i H (by omega) p
  cases m with
  | zero =>
    have : i = n := by omega
    subst this
    exact .inl ⟨wk.stops H g, hd H p⟩
  | succ m => exact .inr ⟨wk.goes i H (by omega) g, Pv (i + 1), fun H' p' => ⟨m, Nat.lt_succ_self m, by omega, p'⟩, fun x H' y => hs i x H H' (by omega) p (wk.yields i H x H' (by omega) g y)⟩
/-- tuples stay behind a store to a list -/
theorem lst_tk {K : PySem.W.Frag} {H : Hp} {L : Addr} {xs : List V} {o : HO} (hL : H L = some (.lst xs)) : TupK K H (upd H L o) := fun a ys h => by
  rcases h with (h | ⟨u, h⟩) | h
  · exact .inl (.inl (by rw [upd_ne (ne_of h hL (fun z => by cases z))]; exact h))
  · exact .inl (.inr ⟨u, by rw [upd_ne (ne_of h hL (fun z => by cases z))]; exact h⟩)
  · exact .inr h
theorem same_at {H H' : Hp} {L : Addr} {o : HO} (s : Same H H') (n : H L = none) : Same H (upd H' L o) := fun b u h => by
  rw [upd_ne (ne_of_none h n)]
  exact s b u h
theorem cj_len : ∀ c, (cj c).length ≤ wt c := by
  refine Con.ind (by simp [cj, wt]) (by simp [cj, wt]) (by simp [cj, wt]) fun cs ih => ?_
  have go : ∀ l : List Con, (∀ c ∈ l, (cj c).length ≤ wt c) → (cjs l).length ≤ wts l := by
    intro l
    induction l with
    | nil => intro _; simp [cjs, wts]
    | cons c r ihr =>
      intro h
      have a := h c List.mem_cons_self
      have b := ihr fun x hx => h x (List.mem_cons_of_mem _ hx)
      simp only [cjs, wts, List.length_append]
      omega
  have := go cs ih
  simp only [cj, wt]
  omega
theorem cjs_app : ∀ a b : List Con, cjs (a ++ b) = cjs a ++ cjs b
  | [], b => by simp [cjs]
  | c :: r, b => by simp [cjs, cjs_app r b]
/-- is the concept an and -/
def isAn : Con → Bool
  | .an _ => true
  | _ => false
def spIsAnd (K : PySem.W.Frag) : Sp := fun vs H Q _ => ∃ v c, vs = [v] ∧ CAt K H v c ∧ Q (.bl (isAn c)) H
def spConjuncts (K : PySem.W.Frag) (n : Nat) : Sp := fun vs H Q _ => ∃ v c, vs = [v] ∧ CAt K H v c ∧ Sml c ∧ nest c < n ∧ ∀ H' p ws, Same H H' → H p = none → H' p = some (.lst ws) → CsAt K H' ws (cj c) → Q (.ref p) H'
/-- without all, each one where it first comes -/
noncomputable def ddStep (acc : List Con) (c : Con) : List Con := open Classical in if c ≠ .all ∧ c ∉ acc then acc ++ [c] else acc
noncomputable def dd (cs : List Con) : List Con := cs.foldl ddStep []
theorem dd_take {cs : List Con} {i : Nat} {c : Con} (h : cs[i]? = some c) : dd (cs.take (i + 1)) = ddStep (dd (cs.take i)) c := by
  unfold dd
  rw [List.take_add_one, h, Option.toList_some, List.foldl_append]
  rfl
theorem dd_props : ∀ (cs acc : List Con), acc.Nodup → (cs.foldl ddStep acc).Nodup ∧ (∀ x, x ∈ cs.foldl ddStep acc ↔ x ∈ acc ∨ (x ∈ cs ∧ x ≠ .all)) ∧ (cs.foldl ddStep acc).length ≤ acc.length + cs.length
  | [], acc, h => ⟨h, fun x => by simp, by simp⟩
  | c :: r, acc, h => by
    have step : (ddStep acc c).Nodup ∧ (∀ x, x ∈ ddStep acc c ↔ x ∈ acc ∨ (x = c ∧ x ≠ .all)) ∧ (ddStep acc c).length ≤ acc.length + 1 := by
      unfold ddStep
      split
      · rename_i hc
        refine ⟨List.nodup_append.mpr ⟨h, (by simp), fun a ha b hb => ?_⟩, fun x => ?_, by simp⟩
        · cases List.mem_singleton.mp hb
          exact fun e => hc.2 (e ▸ ha)
        · rw [List.mem_append, List.mem_singleton]
          constructor
          · rintro (a | rfl)
            · exact .inl a
            · exact .inr ⟨rfl, hc.1⟩
          · rintro (a | ⟨rfl, _⟩)
            · exact .inl a
            · exact .inr rfl
      · rename_i hc
        refine ⟨h, fun x => ⟨.inl, ?_⟩, by omega⟩
        rintro (a | ⟨rfl, e⟩)
        · exact a
        · exact Classical.byContradiction fun n => hc ⟨e, n⟩
    obtain ⟨h1, h2, h3⟩ := step
    obtain ⟨i1, i2, i3⟩ := dd_props r (ddStep acc c) h1
    refine ⟨i1, fun x => ?_, by simp only [List.foldl_cons, List.length_cons]; omega⟩
    rw [List.foldl_cons, i2, h2, List.mem_cons]
    constructor
    · rintro ((a | ⟨rfl, e⟩) | ⟨a, e⟩)
      · exact .inl a
      · exact .inr ⟨.inl rfl, e⟩
      · exact .inr ⟨.inr a, e⟩
    · rintro (a | ⟨rfl | a, e⟩)
      · exact .inl (.inl a)
      · exact .inl (.inr ⟨rfl, e⟩)
      · exact .inr ⟨a, e⟩
theorem dd_nodup (cs : List Con) : (dd cs).Nodup := (dd_props cs [] List.nodup_nil).1
theorem dd_mem {cs : List Con} {x : Con} : x ∈ dd cs ↔ x ∈ cs ∧ x ≠ .all := by
  have := (dd_props cs [] List.nodup_nil).2.1 x
  simpa [dd] using this
theorem dd_len (cs : List Con) : (dd cs).length ≤ cs.length := by
  have := (dd_props cs [] List.nodup_nil).2.2
  simpa [dd] using this
def spConj (K : PySem.W.Frag) : Sp := fun vs H Q _ => ∃ a ws cs, vs = [.ref a] ∧ SqL K H a ws ∧ CsAt K H ws cs ∧ (∀ c ∈ cs, Sml c) ∧ cs.length ≤ 1000 ∧ ∀ H' v, Same H H' → CAt K H' v (mkc (dd cs)) → Q v H'
theorem any_con {cs : List Con} {c : Con} (h : ∀ d ∈ cs, Good d) (g : Good c) : ((dats cs).any fun z => PyData.eqv z (dat c)) = true ↔ c ∈ cs := by
  induction cs with
  | nil => simp [dats]
  | cons d r ih =>
    rw [dats, List.any_cons, Bool.or_eq_true, ih fun x hx => h x (List.mem_cons_of_mem _ hx), eqv_con d (h d List.mem_cons_self) c g, List.mem_cons]
    exact ⟨fun z => z.imp Eq.symm id, fun z => z.imp Eq.symm id⟩
section
variable {P : Program} {w : World} {K : PySem.W.Frag} {mg : Str → Option Value} {base : Heap}
theorem ok_is_and (D : Df K mg "is_and" s_is_and ["concept"]) (T : Tx K mg) : Cal P w K mg base 1 "is_and" (spIsAnd K) := by
  refine cal_of D sc_is_and (fun vs H Q E h => ?_) (fun f cdv A outer s H vs Q E hr h => ?_)
  · obtain ⟨v, c, rfl, _⟩ := h
    rfl
  obtain ⟨v, c, rfl, hc, q⟩ := h
  refine ⟨_, (pss_one (ps_ret (pe_and (pe_callB call_isi (by rfl) T.isi boot_isinstance (pa_cons (pv 0) (pa_cons (pe_bltn (v := .ty "tuple") (by rfl) T.tuple boot_tuple rfl) pa_nil))) (pe_one (pe_cmpR op_eq (pe_ix ix_tup (pv 0) pe_int (fun _ _ => rfl)) pe_str (nomark _)))))), ?_⟩
  cases c with
  | all =>
    cases of_all hc
    exact ⟨_, rfl, _, _, _, _, false, rfl, .ty "tuple", .base (.str _), k_st, false, rfl, iteF q⟩
  | nm z =>
    cases of_nm hc
    exact ⟨_, rfl, _, _, _, _, false, rfl, .ty "tuple", .base (.str _), k_st, false, rfl, iteF q⟩
  | sm r d =>
    obtain ⟨a, u, rfl, hS, hd⟩ := of_sm hc
    refine ⟨_, rfl, _, _, _, _, true, rfl, .ty "tuple", tyx_tup hS, k_tt, true, rfl, iteT ?_⟩
    refine ⟨_, rfl, a, _, _, _, rfl, rfl, hS, atI_nat (j := 0) rfl, rfl, ?_⟩
    rw [decide_eq_false fun e => some_and (V.str.inj e)]
    exact q
  | an cs =>
    obtain ⟨a, ws, rfl, hS, hd⟩ := of_an hc
    refine ⟨_, rfl, _, _, _, _, true, rfl, .ty "tuple", tyx_tup hS, k_tt, true, rfl, iteT ?_⟩
    refine ⟨_, rfl, a, _, _, _, rfl, rfl, hS, atI_nat (j := 0) rfl, rfl, ?_⟩
    rw [decide_eq_true rfl]
    exact q
theorem step_conjuncts {n : Nat} (D : Df K mg "conjuncts" s_conjuncts ["concept"]) (c_is_and : Cal P w K mg base 1 "is_and" (spIsAnd K)) (c_conjuncts : Cal P w K mg base (n + 1) "conjuncts" (spConjuncts K n)) : Cal P w K mg base (n + 2) "conjuncts" (spConjuncts K (n + 1)) := by
  refine cal_of D sc_conjuncts (fun vs H Q E h => ?_) (fun f cdv A outer s H vs Q E hr h => ?_)
  · obtain ⟨v, c, rfl, _⟩ := h
    rfl
  obtain ⟨v, c, rfl, hc, g, hn, q⟩ := h
  have hgn := g.n
  have hd0 : SeqAt.shaped (dat c) = true := shaped_con g.g (by omega)
  have hall : SeqAt.shaped (.str "all") = true := by decide +kernel
  refine ⟨_, (pss_cons (ps_if (pt_not (pt_val (pc c_is_and hr (by rfl) (pa_cons (pv 0) pa_nil))))
    (pss_one (ps_ret (pe_ifExp (pt_cmpR (op_eqD hr.units) (pv 0) pe_str (nomark _)) (pe_lst pa_nil) (pe_lst (pa_cons (pv 0) pa_nil)))))
    pss_nil)
    (pss_one (ps_ret (pe_lc2 (own := [("part", 1), ("one", 2)]) (vs1 := [2]) rfl sc_conjuncts.nd (pi_tup (pe_slice sl_tupA (pv 0) (po_some pe_int) po_none)) (blkOk_by (N := ["concept", "part", "one"]) (sc := defScope s_conjuncts) (own := [("part", 1), ("one", 2)]) (by decide +kernel)) (by decide) (fun _ _ _ _ _ => (pg_name (i := 1) sc_conjuncts.nd rfl (.inl rfl))) (fun _ _ _ _ _ => pts_nil) (fun _ _ _ _ _ => (pi_listB (K := K) rfl (pc c_conjuncts hr (by rfl) (pa_cons (pv 1) pa_nil)))) (fun _ _ _ _ _ => (pg_name (i := 2) sc_conjuncts.nd rfl (.inl rfl))) (fun _ _ _ _ _ => pts_nil) (fun _ _ _ _ _ => (pv 2)))))), ?_⟩
  refine ⟨v, rfl, v, c, rfl, hc, isAn c, rfl, ?_⟩
  by_cases hA : isAn c = true
  case neg =>
    rw [Bool.eq_false_iff.mpr hA]
    refine iteT ⟨v, rfl, dat c, .str "all", hc, .str _, hd0, hall, PyData.eqv (dat c) (.str "all"), rfl, ?_⟩
    have e := eqv_con c g.g .all trivial
    by_cases hz : c = .all
    · subst hz
      rw [show PyData.eqv (dat .all) (.str "all") = true from e.mpr rfl]
      exact iteT ⟨Nat.zero_le _, fun p np => q _ p [] (same_new np) np upd_same .nil⟩
    · rw [show PyData.eqv (dat c) (.str "all") = false from Bool.eq_false_iff.mpr fun z => hz (e.mp z)]
      have e1 : cj c = [c] := by
        cases c with
        | all => exact absurd rfl hz
        | nm z => rfl
        | sm r d => rfl
        | an cs => exact absurd rfl hA
      refine iteF ⟨v, rfl, sz_le (Nat.le_trans (by decide : 1 ≤ 2) (by decide)), fun p np => ?_⟩
      exact q _ p [v] (same_new np) np upd_same (by rw [e1]; exact .one (cat_same (same_new np) hc))
  case pos =>
    obtain ⟨cs, rfl⟩ : ∃ cs, c = .an cs := by
      cases c with
      | an cs => exact ⟨cs, rfl⟩
      | _ => cases hA
    obtain ⟨a, ws, rfl, hS, hd⟩ := of_an hc
    have g1 := g.g.1
    have hl := hd.len
    have hw := g.w
    refine iteF ⟨_, rfl, _, rfl, a, _, rfl, hS, fun e => ?_, fun _ p np => ?_⟩
    · have := e.1
      rw [show HT.sIx (V.str "and" :: ws).length 0 (some 1) = min 1 (ws.length + 1) from HT.sIx_nat _ 0 1] at this
      omega
    have ec : cutV (V.str "and" :: ws) (some 1) none = ws := cut_from (V.str "and" :: ws) 1 (by simp)
    rw [ec]
    have s1 : Same H (upd H p (.tup ws)) := same_new np
    refine ⟨p, rfl, ⟨ws, SqT.of upd_same⟩, fun L nL => ?_⟩
    have nL0 : H L = none := s1.free nL
    have npL : p ≠ L := ne_of_none (show (upd H p (.tup ws)) p = _ from upd_same) nL
    have ht := cj_len (.an cs)
    refine it_by (walk_tup (K := K) (a := p) (xs := ws)) (fun i H' => Same H H' ∧ H' p = some (.tup ws) ∧ ∃ us, H' L = some (.lst us) ∧ CsAt K H' us (cjs (cs.take i))) ⟨same_at s1 nL0, by rw [upd_ne npL]; exact upd_same, [], upd_same, by simp [cjs]; exact .nil⟩ (fun i H' _ h => SqT.of h.2.1) ?_ ?_
    · rintro i x _ H1 hi ⟨sm, hp1, us, hL, hus⟩ ⟨rfl, hx⟩
      obtain ⟨e, he, hxe⟩ := hd.getL hx
      have hmem : e ∈ cs := List.mem_of_getElem? he
      obtain ⟨ge, ne, _⟩ := g.inn (show e ∈ inn (.an cs) from hmem)
      have split : cjs cs = cjs (cs.take i) ++ (cj e ++ cjs (cs.drop (i + 1))) := by
        conv => lhs; rw [← List.take_append_drop i cs]
        rw [cjs_app, List.drop_eq_getElem_cons (List.getElem?_eq_some_iff.mp he).1, (List.getElem?_eq_some_iff.mp he).2, cjs]
      have total : (cjs (cs.take i)).length + (cj e).length ≤ 4000 := by
        have := congrArg List.length split
        rw [List.length_append, List.length_append] at this
        have h2 : (cjs cs).length ≤ wt (.an cs) := ht
        omega
      refine ⟨rfl, x, rfl, x, e, rfl, cat_same sm hxe, ge, by omega, fun H2 p2 vs2 s2 n2 hp2 hcs2 => ?_⟩
      have hL2 : H2 L = some (.lst us) := s2 _ _ hL
      have n2L : p2 ≠ L := fun z => by rw [z, hL] at n2; cases n2
      refine ⟨p2, rfl, ⟨vs2, SqL.of hp2⟩, ?_⟩
      refine it_by (walk_list (K := K) (a := p2) (xs := vs2)) (fun j H' => Same H H' ∧ H' p = some (.tup ws) ∧ H' p2 = some (.lst vs2) ∧ TupK K H2 H' ∧ ∃ us', H' L = some (.lst us') ∧ CsAt K H' us' (cjs (cs.take i) ++ (cj e).take j)) ⟨sm.trans s2, s2 _ _ hp1, hp2, (fun _ _ h => h), us, hL2, by simpa using cs_same s2 hus⟩ (fun j H' _ h => SqL.of h.2.2.1) ?_ ?_
      · rintro j y _ H3 hj ⟨sm3, hp3, hq3, t3, us', hL3, hus'⟩ ⟨rfl, hy⟩
        obtain ⟨e2, he2, hye⟩ := hcs2.getL hy
        have hj2 : j < (cj e).length := (List.getElem?_eq_some_iff.mp he2).1
        have l3 := hus'.len
        rw [List.length_append, List.length_take] at l3
        have tk : TupK K H3 (upd H3 L (.lst (us' ++ [y]))) := lst_tk hL3
        refine ⟨rfl, y, rfl, us', hL3, sz_lt (by omega), same_at sm3 nL0, by rw [upd_ne npL]; exact hp3, by rw [upd_ne n2L]; exact hq3, fun a xs h => tk a xs (t3 a xs h), us' ++ [y], upd_same, ?_⟩
        rw [List.take_add_one, he2, ← List.append_assoc]
        exact All2.snoc (hus'.imp fun _ _ h => cat_tk tk _ _ h) (cat_tk tk _ _ (cat_tk t3 _ _ hye))
      · rintro H3 ⟨sm3, hp3, hq3, t3, us', hL3, hus'⟩
        refine ⟨sm3, hp3, us', hL3, ?_⟩
        rw [hcs2.len, List.take_length] at hus'
        rw [List.take_add_one, he, cjs_app]
        simpa [cjs] using hus'
    · rintro H1 ⟨sm, _, us, hL, hus⟩
      rw [hl, List.take_length] at hus
      exact q H1 L us sm nL0 hL hus
end
end K77
end

section
set_option Elab.async false
set_option linter.all false
set_option maxRecDepth 100000
set_option maxHeartbeats 4000000
/-! conjunction -/
namespace K77
open PySem PySem.Spec PyProof.Rows L2
section
variable {P : Program} {w : World} {K : PySem.W.Frag} {mg : Str → Option Value} {base : Heap}
theorem ok_conjunction (D : Df K mg "conjunction" s_conjunction ["concepts"]) (T : Tx K mg) : Cal P w K mg base 1 "conjunction" (spConj K) := by
  refine cal_of D sc_conjunction (fun vs H Q E h => ?_) (fun f cdv A outer s H vs Q E hr h => ?_)
  · obtain ⟨a, ws, cs, rfl, _⟩ := h
    rfl
  obtain ⟨a, ws, cs, rfl, hS, hcs, g, hl, q⟩ := h
  refine ⟨_, (pss_cons (ps_set (i := 1) sc_conjunction.nd rfl (.inl rfl) (pe_lst pa_nil))
    (pss_cons (ps_for PassesOwn.never rfl (pi_list (pv 0)) (pg_name (i := 2) sc_conjunction.nd rfl (.inl rfl))
    (pss_one (ps_if (PW.pt (pw_and (pt_cmpR (op_neD hr.units) (pv 2) pe_str (nomark _)) (pw_and1 (pt_cmpR (op_notInD (units65 hr)) (pv 2) (pv 1) rfl))))
    (pss_one (ps_expr (pe_bm PySem.F.plainAttrs_list PySem.F.slot_list_append PySem.F.type_list_append mt_append (pv 1) (pa_cons (pv 2) pa_nil))))
    pss_nil)))
    (pss_cons (ps_if (pt_cmpR op_gt (pe_callB call_len (by rfl) T.len PySem.boot_len (pa_cons (pv 1) pa_nil)) pe_int (nomark _))
    (pss_one (ps_ret (pe_tup (pa_cons pe_str (StX.pa_star (pv 1) pa_nil)))))
    pss_nil)
    (pss_one (ps_ret (pe_ifExp (pt_cmpR (op_neD hr.units) (pv 1) (pe_lst pa_nil) (nomark _)) (pe_ix ix_list (pv 1) pe_int (fun _ _ => rfl)) pe_str)))))), ?_⟩
  refine ⟨Nat.zero_le _, fun L nL => ?_⟩
  have l1 := hcs.len
  refine ⟨_, rfl, a, rfl, ⟨_, same_list (same_new nL) hS⟩, for_list (K := K) (a := a) (xs := ws) (fun i σ H' => ∃ y us, σ = [some (.ref a), some (.ref L), y] ∧ Same H H' ∧ H' L = some (.lst us) ∧ CsAt K H' us (dd (cs.take i))) ⟨_, [], rfl, same_new nL, upd_same, by simpa [dd] using All2.nil⟩ (fun i σ H' _ ⟨_, _, _, sm, _⟩ => same_list sm hS) ?_ ?_⟩
  · rintro i x σ H1 hx ⟨y, us, rfl, sm, hL, hus⟩
    obtain ⟨c, hc, hxc⟩ := hcs.getL hx
    have hmem : c ∈ cs := List.mem_of_getElem? hc
    have gc := g c hmem
    have hxc' := cat_same sm hxc
    have gd : ∀ d ∈ dd (cs.take i), Sml d := fun d hd => g d (List.mem_of_mem_take (dd_mem.mp hd).1)
    have sh : SeqAt.shaped (dat c) = true := shaped_con gc.g (by have := gc.n; omega)
    have hall : SeqAt.shaped (.str "all") = true := by decide +kernel
    have e1 := eqv_con c gc.g .all trivial
    have e2 := any_con (cs := dd (cs.take i)) (c := c) (fun d hd => (gd d hd).g) gc.g
    have stay : ddStep (dd (cs.take i)) c = dd (cs.take i) → ∃ y us, [some (V.ref a), some (.ref L), some x] = [some (V.ref a), some (.ref L), y] ∧ Same H H1 ∧ H1 L = some (.lst us) ∧ CsAt K H1 us (dd (cs.take (i + 1))) := fun e => ⟨_, us, rfl, sm, hL, by rw [dd_take hc, e]; exact hus⟩
    refine ⟨x, rfl, dat c, .str "all", hxc', .str _, sh, hall, _, rfl, ?_⟩
    by_cases hz : c = .all
    · rw [show PyData.eqv (dat c) (.str "all") = true from e1.mpr hz]
      refine iteF (iteF ?_)
      exact stay (by unfold ddStep; rw [if_neg fun z => z.1 hz])
    rw [show PyData.eqv (dat c) (.str "all") = false from Bool.eq_false_iff.mpr fun z => hz (e1.mp z)]
    refine iteT ⟨x, rfl, _, rfl, dat c, dats (dd (cs.take i)), hxc', .lst (.inl (.inl hL)) (cs_dp hus), sh, shaped_list gd, _, rfl, ?_⟩
    by_cases hm : c ∈ dd (cs.take i)
    · rw [show ((dats (dd (cs.take i))).any fun z => PyData.eqv z (dat c)) = true from e2.mpr hm]
      refine iteF ?_
      exact stay (by unfold ddStep; rw [if_neg fun z => z.2 hm])
    rw [show ((dats (dd (cs.take i))).any fun z => PyData.eqv z (dat c)) = false from Bool.eq_false_iff.mpr fun z => hm (e2.mp z)]
    have l2 := hus.len
    have l3 := dd_len (cs.take i)
    rw [List.length_take] at l3
    refine iteT ⟨_, rfl, .inl ⟨rfl, us, SqL.of hL⟩, x, rfl, L, us, x, rfl, rfl, hL, sz_lt (by omega), ?_⟩
    refine ⟨_, us ++ [x], rfl, same_at sm nL, upd_same, ?_⟩
    rw [dd_take hc, show ddStep (dd (cs.take i)) c = dd (cs.take i) ++ [c] by unfold ddStep; rw [if_pos ⟨hz, hm⟩]]
    have tk : TupK K H1 (upd H1 L (.lst (us ++ [x]))) := lst_tk hL
    exact All2.snoc (hus.imp fun _ _ h => cat_tk tk _ _ h) (cat_tk tk _ _ hxc')
  · rintro σ H2 ⟨y, us, rfl, sm, hL, hus⟩
    rw [l1, List.take_length] at hus
    have gd : ∀ d ∈ dd cs, Sml d := fun d hd => g d (dd_mem.mp hd).1
    have l2 := hus.len
    have l3 : (dd cs).length ≤ cs.length := dd_len cs
    refine ⟨_, rfl, _, us.length, rfl, .inl ⟨us, SqL.of hL, rfl⟩, ?_⟩
    have done : ∀ c ∈ dd cs, dd cs = [c] → ∃ v, us = [v] ∧ CAt K H2 v c := fun c hc e => by
      rw [e] at hus
      cases hus with
      | cons h t => cases t; exact ⟨_, rfl, h⟩
    by_cases h2 : 1 < us.length
    · refine ⟨_, _, rfl, rfl, _, congrArg V.bl (decide_eq_true (by omega)), iteT ?_⟩
      refine ⟨_, rfl, L, us, rfl, .inr (SqL.of hL), sz_le (by simp; omega), fun p np => ?_⟩
      refine q _ _ (sm.trans (same_new np)) ?_
      have e : mkc (dd cs) = .an (dd cs) := by
        cases h : dd cs with
        | nil => rw [h] at l2; simp only [List.length_nil, List.length_cons] at l2; omega
        | cons c r =>
          cases r with
          | nil => rw [h] at l2; simp only [List.length_nil, List.length_cons] at l2; omega
          | cons d r => rfl
      rw [e]
      exact cat_an (SqT.of (by rw [List.append_nil]; exact upd_same)) (cs_same (same_new np) hus)
    · refine ⟨_, _, rfl, rfl, _, congrArg V.bl (decide_eq_false (by omega)), iteF ?_⟩
      refine ⟨_, rfl, Nat.zero_le _, fun p np => ⟨_, _, .lst (.inl (.inl (by rw [upd_ne (ne_of_none hL np)]; exact hL))) (cs_dp (cs_same (same_new np) hus)), .lst (.inl (.inl upd_same)) .nil, shaped_list gd, by decide +kernel, _, rfl, ?_⟩⟩
      cases h : dd cs with
      | nil =>
        rw [show PyData.eqv (.list (dats [])) (.list []) = true by decide +kernel]
        refine iteF (q _ _ (sm.trans (same_new np)) ?_)
        rw [h]
        exact cat_all
      | cons c r =>
        have hr0 : r = [] := by
          rw [h] at l2
          simp at l2
          exact List.eq_nil_of_length_eq_zero (by omega)
        subst hr0
        obtain ⟨v, rfl, hv⟩ := done c (by rw [h]; exact List.mem_cons_self) h
        rw [show PyData.eqv (.list (dats [c])) (.list []) = false by simp [dats, PyData.eqv, PyData.eqvAll]]
        refine iteT ⟨_, rfl, L, [v], 0, v, rfl, rfl, SqL.of (by rw [upd_ne (ne_of_none hL np)]; exact hL), atI_nat (j := 0) rfl, ?_⟩
        refine q _ _ (sm.trans (same_new np)) ?_
        rw [h]
        exact cat_same (same_new np) hv
end
end K77
end

section
set_option Elab.async false
set_option linter.all false
set_option maxRecDepth 100000
set_option maxHeartbeats 4000000
/-! Edges: their order, sorted() of them; setdefault with keys that are tuples. -/
namespace K77
open PySem PySem.Spec PyProof.Rows L2 PySem.W

abbrev Edge := Nat × Str × Nat
def edat (e : Edge) : PyData := .tuple [.int e.1, .str e.2.1, .int e.2.2]
def EAt (K : PySem.W.Frag) (H : Hp) (v : V) (e : Edge) : Prop := Dp K H v (edat e)
theorem eat_of {K : PySem.W.Frag} {H : Hp} {a : Addr} {e : Edge} (h : SqT K H a [.int e.1, .str e.2.1, .int e.2.2]) : EAt K H (.ref a) e := .tup h (.cons (.int _) (.cons (.str _) (.cons (.int _) .nil)))
theorem of_eat {K : PySem.W.Frag} {H : Hp} {v : V} {e : Edge} (h : EAt K H v e) : ∃ a, v = .ref a ∧ SqT K H a [.int e.1, .str e.2.1, .int e.2.2] := by
  cases (show Dp K H v (.tuple [.int e.1, .str e.2.1, .int e.2.2]) from h) with
  | tup h t =>
    cases t with
    | cons h1 t =>
      cases t with
      | cons h2 t =>
        cases t with
        | cons h3 t =>
          cases t
          cases h1
          cases h2
          cases h3
          exact ⟨_, rfl, h⟩
theorem eat_tk {K : PySem.W.Frag} {H H' : Hp} (t : TupK K H H') {v : V} {e : Edge} (h : EAt K H v e) : EAt K H' v e := by
  obtain ⟨a, rfl, q⟩ := of_eat h
  exact eat_of (t _ _ q)
theorem eat_same {K : PySem.W.Frag} {H H' : Hp} (t : Same H H') {v : V} {e : Edge} (h : EAt K H v e) : EAt K H' v e := eat_tk (same_tk t) h
theorem alike_e (x y : Edge) : alike (edat x) (edat y) = true := by simp [edat, alike, alikeAll]
theorem depth_e (x : Edge) : (edat x).depth = 1 := by simp [edat, PyData.depth, PyData.depthAll]
/-- the order of edges -/
def ELt (x y : Edge) : Prop := x.1 < y.1 ∨ (x.1 = y.1 ∧ (x.2.1.cps.toList < y.2.1.cps.toList ∨ (x.2.1 = y.2.1 ∧ x.2.2 < y.2.2)))
theorem lt_e (x y : Edge) : dataLt (edat x) (edat y) = true ↔ ELt x y := by
  obtain ⟨a, r, o⟩ := x
  obtain ⟨b, q, p⟩ := y
  have z : PyProof.Rows.lexLt itemOrd (keyToksAll []) (keyToksAll []) = false := lex_irrefl _
  simp only [edat, ELt]
  rw [dataLt_tuple, dataLt_cons (by simp [alike]), dataLt_cons (by simp [alike]), dataLt_cons (by simp [alike]), z, dataLt_int, dataLt_str, dataLt_int]
  simp only [PyData.eqv, beq_iff_eq, Int.natCast_inj, Int.ofNat_lt]
  by_cases h1 : a = b
  · subst h1
    rw [if_pos rfl]
    by_cases h2 : r = q
    · subst h2
      rw [if_pos rfl]
      by_cases h3 : o = p
      · subst h3
        simp [List.lt_irrefl]
      · rw [if_neg h3]
        simp [List.lt_irrefl]
    · rw [if_neg h2]
      simp [h2]
  · rw [if_neg h1]
    simp [h1]
theorem elt_tri (x y : Edge) (h : ¬ ELt x y) (n : x ≠ y) : ELt y x := by
  obtain ⟨a, r, o⟩ := x
  obtain ⟨b, q, p⟩ := y
  simp only [ELt, not_or, not_and] at *
  obtain ⟨h1, h2⟩ := h
  rcases Nat.lt_trichotomy a b with c | c | c
  · exact absurd c h1
  · subst c
    refine .inr ⟨rfl, ?_⟩
    obtain ⟨h3, h4⟩ := h2 rfl
    by_cases e : r = q
    · subst e
      have h5 := h4 rfl
      refine .inr ⟨rfl, ?_⟩
      have : o ≠ p := fun z => n (by rw [z])
      omega
    · refine .inl (Classical.byContradiction fun z => e (str_eq ?_))
      exact List.le_antisymm (List.not_lt.mp z) (List.not_lt.mp h3)
  · exact .inl c
theorem elt_tr (x y z : Edge) (h1 : ELt x y) (h2 : ELt y z) : ELt x z := by
  obtain ⟨a, r, o⟩ := x
  obtain ⟨b, q, p⟩ := y
  obtain ⟨c, t, u⟩ := z
  simp only [ELt] at *
  rcases h1 with h1 | ⟨rfl, h1⟩
  · rcases h2 with h2 | ⟨rfl, h2⟩
    · exact .inl (Nat.lt_trans h1 h2)
    · exact .inl h1
  · rcases h2 with h2 | ⟨rfl, h2⟩
    · exact .inl h2
    · refine .inr ⟨rfl, ?_⟩
      rcases h1 with h1 | ⟨rfl, h1⟩
      · rcases h2 with h2 | ⟨rfl, h2⟩
        · exact .inl (List.lt_trans h1 h2)
        · exact .inl h1
      · rcases h2 with h2 | ⟨rfl, h2⟩
        · exact .inl h2
        · exact .inr ⟨rfl, Nat.lt_trans h1 h2⟩
theorem elt_ir (x : Edge) : ¬ ELt x x := by
  simp [ELt, List.lt_irrefl]

section
variable {X : Cx}
/-- x < y, edges -/
def rLtE (K : PySem.W.Frag) : R2 := fun x y H Q => ∃ d e, EAt K H x d ∧ EAt K H y e ∧ Q (.bl (dataLt (edat d) (edat e))) H
theorem op_lt_edge (hu : X.A.units + 1 < cLine) : OpR X (compareOp .Lt) (rLtE X.K) := by
  intro pins s σ H x y v u Q I rx ry h
  obtain ⟨d, e, hd, he, q⟩ := h
  obtain ⟨as, r1⟩ := Dp.reads I _ x v hd rx
  obtain ⟨bs, r2⟩ := Dp.reads I _ y u he ry
  refine rcLt_alike _ _ _ _ _ _ _ _ r1 r2 (alike_e d e) (by simp [edat]) ?_ X.prog X.w _ _ ⟨.bl _, H, I, rfl, q⟩
  rw [depth_e, depth_e]
  exact hu
theorem each_of {R : Value → Edge → Prop} {P : V → Edge → Prop} (f : ∀ x v e, RelV x v → P x e → R v e) : ∀ {xs : List V} {vs : List Value} {es : List Edge}, Vals xs vs → All2 P xs es → EachIs R vs es
  | _, _, _, .nil, .nil => .nil
  | _, _, _, .cons h t, .cons p q => .cons (f _ _ _ h p) (each_of f t q)
theorem of_each {P : V → Edge → Prop} : ∀ {vs : List Value} {es : List Edge}, EachIs (fun v e => ∃ x, RelV x v ∧ P x e) vs es → ∃ xs, Vals xs vs ∧ All2 P xs es
  | _, _, .nil => ⟨[], .nil, .nil⟩
  | _, _, .cons h t => by
    obtain ⟨x, r, p⟩ := h
    obtain ⟨xs, a, b⟩ := of_each t
    exact ⟨x :: xs, .cons r a, .cons p b⟩
/-- sorted() of edges -/
def rSortedE (K : PySem.W.Frag) : List V → Hp → VK → Prop := fun vs H Q => ∃ (a : Addr) (xs : List V) (es : List Edge), vs = [.ref a] ∧ SqL K H a xs ∧ All2 (EAt K H) xs es ∧ es.length ≤ 1000 ∧
  ∀ (p : Addr) (out : List V) (es' : List Edge), H p = none → es'.Perm es → (es'.Pairwise fun x y => ¬ ELt y x) → All2 (EAt K H) out es' → Q (.ref p) (upd H p (.lst out))
theorem cr_sortedE (hu : X.A.units + 64 < cLine) : CallR X (.builtin "sorted") (rSortedE X.K) := by
  intro pins s σ H vs us Q I rel h
  obtain ⟨a, xs, es, rfl, hS, hes, few, q⟩ := h
  rw [Vals.ref1 rel]
  obtain ⟨its, rv, hl, _⟩ := I.list hS
  have le : ∀ x y : Edge, dataLe false edat x y = true ↔ ¬ ELt y x := fun x y => by
    rw [dataLe_eq]
    simp only [cond_false, Bool.not_eq_true', ← Bool.not_eq_true, lt_e]
  refine sorted_data (R := fun v e => ∃ x, RelV x v ∧ EAt X.K H x e) (enc := edat) hl.isList (each_of (fun x v e r p => ⟨x, r, p⟩) rv hes) (each_of (P := EAt X.K H) (fun x v e r p => Dp.reads I (edat e) x v p r) rv hes) (AllAlike.of alike_e) (Sortable.tuples fun b => ⟨_, _, rfl⟩)
    (by rw [sizeLine_eq]; omega) (fun b _ => by rw [depth_e]; omega) fun out lout eout => ?_
  obtain ⟨ys, ry, hy⟩ := of_each eout
  have perm : (es.mergeSort (dataLe false edat)).Perm es := List.mergeSort_perm _ _
  obtain ⟨c, at_⟩ := PyProof.Rows.sortedAll_at s.heap its out.toArray
  have up : (es.mergeSort (dataLe false edat)).Pairwise fun x y => ¬ ELt y x := by
    refine (List.pairwise_mergeSort (fun x y z h1 h2 => ?_) (fun x y => ?_) es).imp fun {x y} h => (le x y).mp h
    · rw [le] at *
      intro h3
      by_cases e : x = y
      · subst e; exact h2 h3
      · exact h2 (elt_tr z x y h3 (elt_tri y x h1 (Ne.symm e)))
    · rw [Bool.or_eq_true, le, le]
      by_cases e : ELt y x
      · exact .inr fun z => elt_ir x (elt_tr x y x z e)
      · exact .inl e
  have len : ys.length ≤ sizeLine := by
    rw [hy.len, perm.length_eq, sizeLine_eq]
    omega
  exact ⟨.ref _, upd H (s.heap.objs.size + 1) (.lst ys), I.laid (t' := s.toks) (fun _ _ => PyProof.Rows.sortedAll_old) (Nat.le_succ _) ⟨len, out, c, ry, at_⟩, rfl, q _ ys _ (I.hok.fresh (Nat.le_succ _)) perm up hy⟩
end

/-! ### setdefault, the keys tuples -/
section
variable {X : Cx} {pins : List (Addr × Obj)} {σ : L2.St} {H : Hp} {s : Shared} {a b : Addr} {r : Value} {d : V} {k : List Key} {A : Around} {E : Value → Shared → Prop}
theorem set_tupKey {kvs : List (List Key × V)} {Q : Value → Shared → Prop} (hu : A.units + 1 < cLine) (I : Inv X pins σ H s) (e : H a = some (.dT kvs)) (eb : H b = some (.tup (k.map kV))) (rd : RelV d r) (few : kvs.length < sizeLine)
    (there : ∀ v, valV kvs k = some v → ∀ (w' : Value) (s' : Shared), Inv X pins σ H s' → RelV v w' → Q w' s') (fresh : valV kvs k = none → ∀ s' : Shared, Inv X pins σ (upd H a (.dT (putK kvs k d))) s' → Q r s') :
    wpAny (model X.prog X.w) A (call (.builtin "dict.setdefault") [.ref a, .ref b, r]) Q E s := by
  obtain ⟨_, low, raw, pairs, dict⟩ := dt_of I.hok e
  have many : raw.length ≤ sizeLine := by
    have := Paired.length pairs
    omega
  have val := pairs.val k
  refine call_setdefault_heap (hsz := many) (tupleKind_room_in1 hu) (key_of I.hok eb) low dict (fun p hp => ?_) fun hn h' made others => ?_
  · rw [hp] at val
    cases z : valV kvs k with
    | none => rw [z] at val; exact (show False from val).elim
    | some v => rw [z] at val; exact there v z _ _ (I.tok _) val
  · rw [hn] at val
    cases z : valV kvs k with
    | some v => rw [z] at val; exact (show False from val).elim
    | none =>
      refine fresh z _ ?_
      obtain ⟨o, es, ep, h1, h2, h3, h4, _, h5⟩ := made
      have room : (putK kvs k d).length ≤ sizeLine := by
        have := length_putK kvs k d
        omega
      refine d_write I (by rw [e]; exact True.intro) others ⟨o, h1⟩ ⟨room, low, _, (pairs.put k eb rd).keeps fun c ys ec => ?_, o, es, ep, h1, h2, h3, h4, h5⟩
      rw [upd_ne (ne_of ec e (fun z => nomatch z))]
      exact ec
end
/-- setdefault as a method's reading: the key a tuple, the default any value -/
def rSetT : V → List V → Hp → VK → Prop := fun self args H Q => ∃ d b z kvs k, self = .ref d ∧ args = [.ref b, z] ∧ H d = some (.dT kvs) ∧ H b = some (.tup (List.map kV k)) ∧ kvs.length < sizeLine ∧
  (match valV kvs k with | some v => Q v H | none => Q z (upd H d (.dT (putK kvs k z))))
theorem mt_setT {X : Cx} (hu : X.A.units + 1 < cLine) : MtR X "dict.setdefault" rSetT := by
  intro pins s σ H self args v us Q I rv rs h
  obtain ⟨d, b, z, kvs, k, rfl, rfl, hd, hb, few, q⟩ := h
  obtain ⟨kt, zt, rfl, rk, rz⟩ := vals2 rs
  obtain rfl : v = .ref d := rv
  obtain rfl : kt = .ref b := rk
  refine set_tupKey hu I hd hb rz few (fun w found w' s' I' rw' => ?_) fun lack s' I' => ?_
  · rw [found] at q
    exact ⟨w, H, I', rw', q⟩
  · rw [lack] at q
    exact ⟨z, _, I', rz, q⟩
end K77
end

section
set_option Elab.async false
set_option linter.all false
set_option maxRecDepth 100000
set_option maxHeartbeats 4000000
/-! is_ascending, is_number, are_edges -/
namespace K77
open PySem PySem.Spec PyProof.Rows L2
abbrev s_is_ascending : Stmt := top 23
theorem sc_is_ascending : FnScope ["thing", "one", "two"] ["thing"] (defScope s_is_ascending) := ⟨rfl, rfl, rfl, by decide +kernel, rfl, by decide +kernel, by decide +kernel⟩
abbrev s_is_number : Stmt := top 28
theorem sc_is_number : FnScope ["thing", "many"] ["thing", "many"] (defScope s_is_number) := ⟨rfl, rfl, rfl, by decide +kernel, rfl, by decide +kernel, by decide +kernel⟩
abbrev s_are_edges : Stmt := top 29
theorem sc_are_edges : FnScope ["thing", "many", "edge", "one", "two"] ["thing", "many"] (defScope s_are_edges) := ⟨rfl, rfl, rfl, by decide +kernel, rfl, by decide +kernel, by decide +kernel⟩
/-! the rules for inner places: what is written is told for them too -/
section
variable {X : Cx} {K : PySem.W.Frag}
theorem op_in_seqB (e : X.K = K) : OpR X (compareOp .In) (rIn K false) := e ▸ op_in_seq
theorem op_notIn_seqB (e : X.K = K) : OpR X (compareOp .NotIn) (rIn K true) := e ▸ op_notIn_seq
theorem op_eqDB (e : X.K = K) (hu : X.A.units + 64 < cLine) : OpR X (compareOp .Eq) (rEqD K) := e ▸ op_eqD hu
theorem op_neDB (e : X.K = K) (hu : X.A.units + 64 < cLine) : OpR X (compareOp .NotEq) (rNeD K) := e ▸ op_neD hu
theorem op_inDB (e : X.K = K) (hu : X.A.units + 65 < cLine) : OpR X (compareOp .In) (rInD K) := e ▸ op_inD hu
theorem op_notInDB (e : X.K = K) (hu : X.A.units + 65 < cLine) : OpR X (compareOp .NotIn) (rNotInD K) := e ▸ op_notInD hu
theorem op_lt_edgeB (e : X.K = K) (hu : X.A.units + 1 < cLine) : OpR X (compareOp .Lt) (rLtE K) := e ▸ op_lt_edge hu
theorem ix_listB (e : X.K = K) : IxR X (rIxL K) := e ▸ ix_list
theorem ix_tupB (e : X.K = K) : IxR X (rIxT K) := e ▸ ix_tup
theorem sl_listB (e : X.K = K) : SlR X (rSlL K) := e ▸ sl_list
theorem sl_tupAB (e : X.K = K) : SlR X (rSlA K) := e ▸ sl_tupA
theorem call_isiB (e : X.K = K) : CallR X (.builtin "isinstance") (rIsi K) := e ▸ call_isi
theorem cr_allB (e : X.K = K) (h : X.calm = true) : CallR X (.builtin "all") (rAll K) := e ▸ cr_all h
theorem cr_anyB (e : X.K = K) (h : X.calm = true) : CallR X (.builtin "any") (rAny K) := e ▸ cr_any h
theorem pi_tupB {tg l : Expr} {tl : TE} (e : X.K = K) (hl : PE X l tl) : PI X tg l (iTup K tl) := e ▸ pi_tup hl
end
/-- (x, y) as an inner target -/
theorem pg_tupB {X : Cx} {K : PySem.W.Frag} {es : List Expr} {k : Nat} {t : TGs} {n : Nat} {pos : Pos} (e : X.K = K) (hc : X.calm = true) (h : PGs X es t) (hn : (assignEach es X.env).length = n := by rfl) (hst : (assignEach es X.env).findIdx? (·.1) = none := by rfl) :
    PG X (.Tuple es k pos) (gTup K n t) := e ▸ pg_tup hc h hn hst
theorem both_at {xs ys : List V} {i : Nat} (lt : i < min xs.length ys.length) : ∃ x y, xs[i]? = some x ∧ ys[i]? = some y := by
  obtain ⟨lx, ly⟩ := Nat.lt_min.mp lt
  exact ⟨_, _, List.getElem?_eq_getElem lx, List.getElem?_eq_getElem ly⟩
theorem walk_zipTT {K : PySem.W.Frag} {a b : Addr} {xs ys : List V} {n : Nat} (hn : n = min xs.length ys.length) : Walk (RZ.ItzT K a b) n (fun H => SqT K H a xs ∧ SqT K H b ys) (YPair (fun i => xs[i]?) (fun i => ys[i]?)) where
  goes i H lt both := by
    obtain ⟨x, y, hx, hy⟩ := both_at (hn ▸ lt)
    exact ⟨xs, ys, x, y, both.1, both.2, hx, hy⟩
  stops H both := ⟨xs, ys, both.1, both.2, by omega⟩
  yields i H v H' _ both made := by
    obtain ⟨T, x, y, e1, e2, e3, e4, e5⟩ := made
    exact ⟨T, x, y, e1, e2, e3, e4 xs both.1, e5 ys both.2⟩
theorem k_any {K : PySem.W.Frag} : PySem.W.kitAny K (.type "list") [.type "list", .type "tuple"] = some true := by
  rw [PySem.W.kitAny, show PySem.W.kitOne K (.type "list") (.type "list") = some true from kit_ty (by decide +kernel)]
theorem cut1 (xs : List V) : cutV xs (some 1) none = xs.drop 1 := by
  cases xs with
  | nil => rfl
  | cons x r => exact cut_from (x :: r) 1 (by simp)
/-- t[1:] of a tuple -/
theorem slA1 {K : PySem.W.Frag} {σ : L2.St} {H : Hp} {a : Addr} {xs : List V} {Q : VK} (h : SqT K H a xs) (q : ∀ H' b, Same H H' → SqT K H' b (xs.drop 1) → Q (.ref b) H') : tNoPart σ H fun u H3 => rSlA K (.ref a) (some 1) u H3 Q := by
  refine ⟨a, xs, rfl, h, fun e => ?_, fun _ p np => ?_⟩
  · have e1 := e.1
    rw [show HT.sIx xs.length 0 (some 1) = min 1 xs.length from HT.sIx_nat _ 0 1] at e1
    have : xs = [] := List.eq_nil_of_length_eq_zero (by omega)
    subst this
    exact q H a (fun _ _ h => h) h
  · rw [cut1]
    exact q _ p (same_new np) (SqT.of upd_same)
/-- l[1:] of a list -/
theorem slL1 {K : PySem.W.Frag} {σ : L2.St} {H : Hp} {a : Addr} {xs : List V} {Q : VK} (h : SqL K H a xs) (q : ∀ p, H p = none → Q (.ref p) (upd H p (.lst (xs.drop 1)))) : tNoPart σ H fun u H3 => rSlL K (.ref a) (some 1) u H3 Q :=
  ⟨a, xs, rfl, h, fun p np => by rw [cut1]; exact q p np⟩
def lst1 (s : Str) : List Nat := s.cps.toList
def spAsc (K : PySem.W.Frag) : Sp := fun vs H Q _ => ∃ a ws, vs = [.ref a] ∧ SqT K H a (ws.map V.str) ∧ (∀ s ∈ ws, Word s) ∧ Asc lst1 ws ∧ ws.length ≤ 1000 ∧ ∀ H', Same H H' → Q (.bl true) H'
def spNumber : Sp := fun vs H Q _ => ∃ i n : Nat, vs = [.int i, .int n] ∧ i < n ∧ Q (.bl true) H
def spEdges (K : PySem.W.Frag) : Sp := fun vs H Q _ => ∃ a xs es, ∃ n : Nat, vs = [.ref a, .int n] ∧ SqL K H a xs ∧ All2 (EAt K H) xs es ∧ (∀ e ∈ es, e.1 < n ∧ e.2.2 < n ∧ Word e.2.1) ∧ es.Pairwise ELt ∧ es.length ≤ 1000 ∧ ∀ H', Same H H' → Q (.bl true) H'
section
variable {P : Program} {w : World} {K : PySem.W.Frag} {mg : Str → Option Value} {base : Heap}
theorem ok_is_ascending (D : Df K mg "is_ascending" s_is_ascending ["thing"]) (T : Tx K mg) (c_is_word : Cal P w K mg base 1 "is_word" spWord) : Cal P w K mg base 2 "is_ascending" (spAsc K) := by
  refine cal_of D sc_is_ascending (fun vs H Q E h => ?_) (fun f cdv A outer s H vs Q E hr h => ?_)
  · obtain ⟨a, ws, rfl, _⟩ := h
    rfl
  obtain ⟨a, ws, rfl, hS, hw, up, few, q⟩ := h
  refine ⟨_, (pss_cons (ps_if (PW.pt (pw_or (pt_not (pt_val (pe_callB call_isi (by rfl) T.isi boot_isinstance (pa_cons (pv 0) (pa_cons (pe_bltn (v := .ty "tuple") (by rfl) T.tuple boot_tuple rfl) pa_nil))))) (pw_or1 (pt_not (pt_val (pe_callB (cr_all rfl) (by rfl) T.all boot_all (pa_cons (pe_lc (own := [("one", 1)]) rfl sc_is_ascending.nd (pi_tup (pv 0)) (blkOk_by (N := ["thing", "one", "two"]) (sc := defScope s_is_ascending) (own := [("one", 1)]) (by decide +kernel)) (fun _ _ _ _ _ => (pg_name (i := 1) sc_is_ascending.nd rfl (.inl rfl))) (fun _ _ _ _ _ => pts_nil) (fun _ _ _ _ _ => (pc c_is_word hr (by rfl) (pa_cons (pv 1) pa_nil)))) pa_nil)))))))
    (pss_one (ps_ret pe_bl))
    pss_nil)
    (pss_one (ps_ret (pe_callB (cr_all rfl) (by rfl) T.all boot_all (pa_cons (pe_lc (own := [("one", 1), ("two", 2)]) rfl sc_is_ascending.nd (RZ.pi_zipA (by rfl) T.zip (pa_cons (pv 0) (pa_cons (pe_slice sl_tupA (pv 0) (po_some pe_int) po_none) pa_nil))) (blkOk_by (N := ["thing", "one", "two"]) (sc := defScope s_is_ascending) (own := [("one", 1), ("two", 2)]) (by decide +kernel)) (fun _ _ _ _ _ => (pg_tupB (K := K) (n := 2) rfl rfl (pgs_cons (pg_name (i := 1) sc_is_ascending.nd rfl (.inl rfl)) (pgs_cons (pg_name (i := 2) sc_is_ascending.nd rfl (.inl rfl)) pgs_nil)))) (fun _ _ _ _ _ => pts_nil) (fun _ _ _ _ _ => (pe_cmpR op_lt_str (pv 1) (pv 2) (nomark _)))) pa_nil))))), ?_⟩
  refine ⟨_, rfl, _, _, _, _, true, rfl, .ty "tuple", tyx_tup hS, k_tt, true, rfl, iteF ?_⟩
  refine ⟨_, rfl, a, rfl, ⟨_, hS⟩, fun D nD => ?_⟩
  refine lc_tup (K := K) (xs := ws.map V.str) (fun i H' => Same H H' ∧ H' D = some (.lst (List.replicate i (.bl true)))) ⟨same_new nD, upd_same⟩ (fun i H' _ h => same_tup h.1 hS) ?_ ?_
  · rintro i x H1 hx ⟨sm, hD⟩
    rw [List.getElem?_map] at hx
    obtain ⟨z, hz, rfl⟩ := Option.map_eq_some_iff.mp hx
    have hi : i < ws.length := (List.getElem?_eq_some_iff.mp hz).1
    refine ⟨rfl, _, rfl, z, rfl, hw z (List.mem_of_getElem? hz), fun H2 sm2 => ⟨_, sm2 _ _ hD, by rw [List.length_replicate]; exact sz_lt (by omega), same_at (sm.trans sm2) nD, ?_⟩⟩
    rw [upd_same, List.replicate_succ']
  rintro H1 ⟨sm, hD⟩
  refine ⟨D, List.replicate (ws.map V.str).length true, rfl, by rw [List.map_replicate]; exact SqL.of hD, ?_⟩
  rw [show (List.replicate (ws.map V.str).length true).all id = true by simp]
  refine ⟨true, rfl, iteF ?_⟩
  refine ⟨_, rfl, _, rfl, _, rfl, ?_⟩
  refine slA1 (same_tup sm hS) fun H2 b s2 hb => ?_
  refine ⟨a, b, _, _, rfl, .inr ⟨same_tup (sm.trans s2) hS, hb, fun D2 nD2 => ?_⟩⟩
  have la : SqT K H2 a (ws.map V.str) := same_tup (sm.trans s2) hS
  refine it_by (walk_zipTT (K := K) (a := a) (b := b) (xs := ws.map V.str) (ys := (ws.map V.str).drop 1) rfl) (fun i H' => Same H2 H' ∧ H' D2 = some (.lst (List.replicate i (.bl true)))) ⟨same_new nD2, upd_same⟩ (fun i H' _ h => ⟨same_tup h.1 la, same_tup h.1 hb⟩) ?_ ?_
  · rintro i x H3 _ hi ⟨sm3, hD3⟩ ⟨T, y, z, rfl, nT, rfl, hy, hz⟩
    dsimp only at hy hz
    rw [List.getElem?_drop, List.getElem?_map] at hz
    rw [List.getElem?_map] at hy
    obtain ⟨y, hy', rfl⟩ := Option.map_eq_some_iff.mp hy
    obtain ⟨z, hz', rfl⟩ := Option.map_eq_some_iff.mp hz
    obtain ⟨l1, e1⟩ := List.getElem?_eq_some_iff.mp hy'
    obtain ⟨l2, e2⟩ := List.getElem?_eq_some_iff.mp hz'
    have lt : lst1 y < lst1 z := by
      rw [← e1, ← e2]
      exact List.pairwise_iff_getElem.mp up _ _ l1 l2 (by omega)
    refine ⟨T, _, rfl, SqT.of upd_same, rfl, _, _, rfl, _, _, rfl, rfl, rfl, _, rfl, _, rfl, y, z, rfl, rfl, _, by rw [upd_ne (ne_of_none hD3 nT)]; exact hD3, by rw [List.length_replicate]; exact sz_lt (by omega), same_at (sm3.trans (same_new nT)) nD2, ?_⟩
    rw [upd_same, List.replicate_succ', decide_eq_true (show y.cps.toList < z.cps.toList from lt)]
  · rintro H3 ⟨sm3, hD3⟩
    refine ⟨D2, List.replicate _ true, rfl, by rw [List.map_replicate]; exact SqL.of hD3, ?_⟩
    rw [show ∀ n, (List.replicate n true).all id = true by simp]
    exact q H3 ((sm.trans s2).trans sm3)
theorem ok_is_number (D : Df K mg "is_number" s_is_number ["thing", "many"]) (T : Tx K mg) : Cal P w K mg base 1 "is_number" spNumber := by
  refine cal_of D sc_is_number (fun vs H Q E h => ?_) (fun f cdv A outer s H vs Q E hr h => ?_)
  · obtain ⟨a, ws, rfl, _⟩ := h
    rfl
  obtain ⟨i, n, rfl, hi, q⟩ := h
  refine ⟨_, (pss_one (ps_ret (pe_and (pe_callB call_isi (by rfl) T.isi boot_isinstance (pa_cons (pv 0) (pa_cons (pe_bltn (v := .ty "int") (by rfl) T.int boot_int rfl) pa_nil))) (pe_and (pe_not (pe_callB call_isi (by rfl) T.isi boot_isinstance (pa_cons (pv 0) (pa_cons (pe_bltn (v := .ty "bool") (by rfl) T.bool boot_bool rfl) pa_nil)))) (pe_one (pe_chain op_le op_lt pe_int (pv 0) (pv 1))))))), ?_⟩
  refine ⟨_, rfl, _, _, _, _, true, rfl, .ty "int", .base (.int _), k_ii, true, rfl, iteT ?_⟩
  refine ⟨_, rfl, _, _, _, _, false, rfl, .ty "bool", .base (.int _), k_ib, false, rfl, true, rfl, iteT ?_⟩
  refine ⟨_, rfl, 0, _, rfl, rfl, true, congrArg V.bl (decide_eq_true (by omega)), iteT ?_⟩
  refine ⟨_, rfl, _, _, rfl, rfl, ?_⟩
  show Q (V.bl (decide ((i : Int) < n))) H
  rw [decide_eq_true (by omega)]
  exact q
theorem ok_are_edges (D : Df K mg "are_edges" s_are_edges ["thing", "many"]) (T : Tx K mg) (c_is_word : Cal P w K mg base 1 "is_word" spWord) (c_is_number : Cal P w K mg base 1 "is_number" spNumber) : Cal P w K mg base 2 "are_edges" (spEdges K) := by
  refine cal_of D sc_are_edges (fun vs H Q E h => ?_) (fun f cdv A outer s H vs Q E hr h => ?_)
  · obtain ⟨a, xs, es, n, rfl, _⟩ := h
    rfl
  obtain ⟨a, xs, es, n, rfl, hS, hes, ok, up, few, q⟩ := h
  have hu := hu_of hr
  refine ⟨_, (pss_cons (ps_if (pt_not (pt_val (pe_callB call_isiT (by rfl) T.isi boot_isinstance (pa_cons (pv 0) (pa_cons (pe_tup (pa_cons (pe_bltn (v := .ty "list") (by rfl) T.list boot_list rfl) (pa_cons (pe_bltn (v := .ty "tuple") (by rfl) T.tuple boot_tuple rfl) pa_nil))) pa_nil)))))
    (pss_one (ps_ret pe_bl))
    pss_nil)
    (pss_cons (ps_for PassesOwn.never rfl (pi_list (pv 0)) (pg_name (i := 2) sc_are_edges.nd rfl (.inl rfl))
    (pss_cons (ps_if (PW.pt (pw_or (pt_not (pt_val (pe_callB call_isi (by rfl) T.isi boot_isinstance (pa_cons (pv 2) (pa_cons (pe_bltn (v := .ty "tuple") (by rfl) T.tuple boot_tuple rfl) pa_nil))))) (pw_or (pt_cmpR op_ne (pe_callB call_len (by rfl) T.len PySem.boot_len (pa_cons (pv 2) pa_nil)) pe_int (nomark _)) (pw_or1 (pt_not (pt_val (pc c_is_word hr (by rfl) (pa_cons (pe_ix ix_tup (pv 2) pe_int (fun _ _ => rfl)) pa_nil))))))))
    (pss_one (ps_ret pe_bl))
    pss_nil)
    (pss_one (ps_if (PW.pt (pw_or (pt_not (pt_val (pc c_is_number hr (by rfl) (pa_cons (pe_ix ix_tup (pv 2) pe_int (fun _ _ => rfl)) (pa_cons (pv 1) pa_nil))))) (pw_or1 (pt_not (pt_val (pc c_is_number hr (by rfl) (pa_cons (pe_ix ix_tup (pv 2) pe_int (fun _ _ => rfl)) (pa_cons (pv 1) pa_nil))))))))
    (pss_one (ps_ret pe_bl))
    pss_nil))))
    (pss_one (ps_ret (pe_callB (cr_all rfl) (by rfl) T.all boot_all (pa_cons (pe_lc (own := [("one", 3), ("two", 4)]) rfl sc_are_edges.nd (RZ.pi_zipA (by rfl) T.zip (pa_cons (pv 0) (pa_cons (pe_slice sl_list (pv 0) (po_some pe_int) po_none) pa_nil))) (blkOk_by (N := ["thing", "many", "edge", "one", "two"]) (sc := defScope s_are_edges) (own := [("one", 3), ("two", 4)]) (by decide +kernel)) (fun _ _ _ _ _ => (pg_tupB (K := K) (n := 2) rfl rfl (pgs_cons (pg_name (i := 3) sc_are_edges.nd rfl (.inl rfl)) (pgs_cons (pg_name (i := 4) sc_are_edges.nd rfl (.inl rfl)) pgs_nil)))) (fun _ _ _ _ _ => pts_nil) (fun _ _ _ _ _ => (pe_cmpR (op_lt_edgeB (K := K) rfl hu) (pv 3) (pv 4) (nomark _)))) pa_nil)))))), ?_⟩
  refine ⟨_, rfl, sz_le (Nat.le_trans (by decide : 2 ≤ 3) (by decide)), fun p np => ⟨_, p, _, _, _, true, rfl, upd_same, .cons (.ty _) (.cons (.ty _) .nil), tyx_lst (same_list (same_new np) hS), k_any, true, rfl, iteF ?_⟩⟩
  have s0 : Same H (upd H p (.tup [.ty "list", .ty "tuple"])) := same_new np
  have lx := hes.len
  refine ⟨_, rfl, a, rfl, ⟨_, same_list s0 hS⟩, for_list (K := K) (a := a) (xs := xs) (fun i σ H' => ∃ y, σ = [some (.ref a), some (.int n), y, none, none] ∧ Same H H') ⟨_, rfl, s0⟩ (fun i σ H' _ ⟨_, _, sm⟩ => same_list sm hS) ?_ ?_⟩
  · rintro i x σ H1 hx ⟨y, rfl, sm⟩
    obtain ⟨e, he, hxe⟩ := hes.getL hx
    obtain ⟨g1, g2, g3⟩ := ok e (List.mem_of_getElem? he)
    obtain ⟨b, rfl, hb⟩ := of_eat (eat_same sm hxe)
    refine ⟨_, rfl, _, _, _, _, true, rfl, .ty "tuple", tyx_tup hb, k_tt, true, rfl, iteF ?_⟩
    refine ⟨_, rfl, _, 3, rfl, .inr ⟨_, hb, rfl⟩, rfl, false, congrArg V.bl (by decide +kernel), iteF ?_⟩
    refine ⟨_, rfl, b, _, 1, _, rfl, rfl, hb, atI_nat (j := 1) rfl, _, rfl, g3, fun H2 s2 => ⟨true, rfl, iteF ?_⟩⟩
    have hb2 := same_tup s2 hb
    refine ⟨_, rfl, b, _, 0, _, rfl, rfl, hb2, atI_nat (j := 0) rfl, _, rfl, _, _, rfl, g1, true, rfl, iteF ?_⟩
    refine ⟨_, rfl, b, _, 2, _, rfl, rfl, hb2, atI_nat (j := 2) rfl, _, rfl, _, _, rfl, g2, true, rfl, iteF ?_⟩
    exact ⟨_, rfl, sm.trans s2⟩
  · rintro σ H1 ⟨y, rfl, sm⟩
    refine ⟨_, rfl, _, rfl, _, rfl, ?_⟩
    refine slL1 (same_list sm hS) fun b nb => ?_
    have s2 : Same H1 (upd H1 b (.lst (xs.drop 1))) := same_new nb
    have hx := same_list (sm.trans s2) hS
    have hb : SqL K (upd H1 b (.lst (xs.drop 1))) b (xs.drop 1) := SqL.of upd_same
    refine ⟨a, b, _, _, rfl, .inl ⟨hx, hb, fun D nD => ?_⟩⟩
    refine it_by (walk_zip (K := K) (a := a) (b := b) (xs := xs) (ys := xs.drop 1) rfl) (fun i H' => Same (upd H1 b (.lst (xs.drop 1))) H' ∧ H' D = some (.lst (List.replicate i (.bl true)))) ⟨same_new nD, upd_same⟩ (fun i H' _ h => ⟨same_list h.1 hx, same_list h.1 hb⟩) ?_ ?_
    · rintro i x H3 _ hi ⟨sm3, hD3⟩ ⟨T, y, z, rfl, nT, rfl, hy, hz⟩
      dsimp only at hy hz
      rw [List.getElem?_drop] at hz
      obtain ⟨d, hd, hyd⟩ := hes.getL hy
      obtain ⟨e, he, hze⟩ := hes.getL hz
      obtain ⟨l1, e1⟩ := List.getElem?_eq_some_iff.mp hd
      obtain ⟨l2, e2⟩ := List.getElem?_eq_some_iff.mp he
      have lt : ELt d e := by
        rw [← e1, ← e2]
        exact List.pairwise_iff_getElem.mp up _ _ l1 l2 (by omega)
      have s4 := (sm.trans s2).trans (sm3.trans (same_new (o := .tup [y, z]) nT))
      refine ⟨T, _, rfl, SqT.of upd_same, rfl, _, _, rfl, _, _, rfl, rfl, rfl, _, rfl, _, rfl, d, e, eat_same s4 hyd, eat_same s4 hze, _, by rw [upd_ne (ne_of_none hD3 nT)]; exact hD3, by rw [List.length_replicate]; exact sz_lt (by omega), same_at (sm3.trans (same_new nT)) nD, ?_⟩
      rw [upd_same, List.replicate_succ', (lt_e d e).mpr lt]
    · rintro H3 ⟨sm3, hD3⟩
      refine ⟨D, List.replicate _ true, rfl, by rw [List.map_replicate]; exact SqL.of hD3, ?_⟩
      rw [show ∀ n, (List.replicate n true).all id = true by simp]
      exact q H3 ((sm.trans s2).trans sm3)
end
end K77
end

section
set_option Elab.async false
set_option linter.all false
set_option maxRecDepth 100000
set_option maxHeartbeats 4000000
/-! World -/
namespace K77
open PySem PySem.Spec PyProof.Rows L2
abbrev s_World___init__ : Stmt := inClass (top 30) 0
theorem sc_World___init__ : FnScope ["self", "names", "edges", "thing", "role", "other", "one"] ["self", "names", "edges"] (defScope s_World___init__) := ⟨rfl, rfl, rfl, by decide +kernel, rfl, by decide +kernel, by decide +kernel⟩
abbrev s_World_names : Stmt := inClass (top 30) 1
theorem sc_World_names : FnScope ["self"] ["self"] (defScope s_World_names) := ⟨rfl, rfl, rfl, by decide +kernel, rfl, by decide +kernel, by decide +kernel⟩
abbrev s_World_edges : Stmt := inClass (top 30) 2
theorem sc_World_edges : FnScope ["self"] ["self"] (defScope s_World_edges) := ⟨rfl, rfl, rfl, by decide +kernel, rfl, by decide +kernel, by decide +kernel⟩
abbrev s_World_size : Stmt := inClass (top 30) 3
theorem sc_World_size : FnScope ["self"] ["self"] (defScope s_World_size) := ⟨rfl, rfl, rfl, by decide +kernel, rfl, by decide +kernel, by decide +kernel⟩
abbrev s_check_world : Stmt := top 31
theorem sc_check_world : FnScope ["thing"] ["thing"] (defScope s_check_world) := ⟨rfl, rfl, rfl, by decide +kernel, rfl, by decide +kernel, by decide +kernel⟩
abbrev s_check_thing : Stmt := top 32
theorem sc_check_thing : FnScope ["world", "thing"] ["world", "thing"] (defScope s_check_thing) := ⟨rfl, rfl, rfl, by decide +kernel, rfl, by decide +kernel, by decide +kernel⟩
theorem sb_tkI {K : PySem.W.Frag} {d C dx : Addr} {fs : List (Str × V)} {H H' : Hp} (h : SB d H H') (hd : H d = some (.ins C dx fs)) : TupK K H H' := fun a xs q => by
  rcases q with (q | ⟨o, q⟩) | q
  · exact .inl (.inl (h _ _ q (ne_of q hd (fun z => by cases z))))
  · exact .inl (.inr ⟨o, h _ _ q (ne_of q hd (fun z => by cases z))⟩)
  · exact .inr q
theorem sb_slI {K : PySem.W.Frag} {d C dx : Addr} {fs : List (Str × V)} {H H' : Hp} (h : SB d H H') (hd : H d = some (.ins C dx fs)) {a : Addr} {xs : List V} (q : SqL K H a xs) : SqL K H' a xs := by
  rcases q with (q | ⟨o, q⟩) | q
  · exact .inl (.inl (h _ _ q (ne_of q hd (fun z => by cases z))))
  · exact .inl (.inr ⟨o, h _ _ q (ne_of q hd (fun z => by cases z))⟩)
  · exact .inr q
theorem sbt_sl {K : PySem.W.Frag} {d : Addr} {kvs : List (List Key × V)} {H H' : Hp} (h : SB d H H') (hd : H d = some (.dT kvs)) {a : Addr} {xs : List V} (q : SqL K H a xs) : SqL K H' a xs := by
  rcases q with (q | ⟨o, q⟩) | q
  · exact .inl (.inl (h _ _ q (ne_of q hd (fun z => by cases z))))
  · exact .inl (.inr ⟨o, h _ _ q (ne_of q hd (fun z => by cases z))⟩)
  · exact .inr q
theorem free_put {H H' : Hp} {x d : Addr} (h : SB x H H') (n : H' d = none) (hx : ∃ o, H' x = some o) : H d = none := by
  cases e : H d with
  | none => rfl
  | some o =>
    obtain ⟨u, hu⟩ := hx
    have : d ≠ x := fun z => by rw [z, hu] at n; cases n
    rw [h _ _ e this] at n
    cases n
/-- what must be known of the class -/
structure WC (K : PySem.W.Frag) (CW : Addr) : Prop where
  cls : Cls K CW
  n1 : NoAttr K CW "_names"
  n2 : NoAttr K CW "_edges"
  n3 : NoAttr K CW "_after"
  ha : PySem.W.findIn K (.ref CW) "__class__" = some (some (.builtin "object.__class__"))
  hn : PySem.W.specialIn K (.builtin "object.__class__") "__get__" = some (some (.builtin "getset_descriptor.__get__"))
  htk : PySem.W.takesIn K (.builtin "object.__class__") = some true
  hm : PySem.W.mroIn K CW (.type "object") = some true
def RowAt (K : PySem.W.Frag) (H : Hp) (v : V) (row : List Str) : Prop := ∃ a, v = .ref a ∧ SqT K H a (row.map V.str)
theorem row_tk {K : PySem.W.Frag} {H H' : Hp} (t : TupK K H H') {v : V} {row : List Str} (h : RowAt K H v row) : RowAt K H' v row := by
  obtain ⟨a, rfl, q⟩ := h
  exact ⟨a, rfl, t _ _ q⟩
def WFs (n e d : Addr) : List (Str × V) := [("_names", .ref n), ("_edges", .ref e), ("_after", .ref d)]
def WAt (K : PySem.W.Frag) (CW : Addr) (H : Hp) (v : V) (rows : List (List Str)) (es : List Edge) : Prop :=
  ∃ a dx n e d ns xs, v = .ref a ∧ H a = some (.ins CW dx (WFs n e d)) ∧ SqL K H n ns ∧ All2 (RowAt K H) ns rows ∧ SqL K H e xs ∧ All2 (EAt K H) xs es
theorem wat_same {K : PySem.W.Frag} {CW : Addr} {H H' : Hp} (s : Same H H') {v : V} {rows : List (List Str)} {es : List Edge} (h : WAt K CW H v rows es) : WAt K CW H' v rows es := by
  obtain ⟨a, dx, n, e, d, ns, xs, rfl, h1, h2, h3, h4, h5⟩ := h
  exact ⟨a, dx, n, e, d, ns, xs, rfl, s _ _ h1, same_list s h2, h3.imp fun _ _ q => row_tk (same_tk s) q, same_list s h4, h5.imp fun _ _ q => eat_same s q⟩
def WfRows (rows : List (List Str)) : Prop := (∀ r ∈ rows, (∀ s ∈ r, Word s) ∧ Asc lst1 r ∧ r.length ≤ 1000) ∧ 1 ≤ rows.length ∧ rows.length ≤ 1000
def WfEdges (n : Nat) (es : List Edge) : Prop := (∀ e ∈ es, e.1 < n ∧ e.2.2 < n ∧ Word e.2.1) ∧ es.Pairwise ELt ∧ es.length ≤ 1000
def spWorld (K : PySem.W.Frag) (CW : Addr) : Sp := fun vs H Q _ => ∃ x dx n ns rows e xs es, vs = [.ref x, .ref n, .ref e] ∧ H x = some (.ins CW dx []) ∧ SqL K H n ns ∧ All2 (RowAt K H) ns rows ∧ WfRows rows ∧ SqL K H e xs ∧ All2 (EAt K H) xs es ∧ WfEdges rows.length es ∧
  ∀ H', SB x H H' → WAt K CW H' (.ref x) rows es → Q .non H'
def spNames (K : PySem.W.Frag) (CW : Addr) : Sp := fun vs H Q _ => ∃ v rows es, vs = [v] ∧ WAt K CW H v rows es ∧ ∀ p ns, H p = none → All2 (RowAt K (upd H p (.lst ns))) ns rows → Q (.ref p) (upd H p (.lst ns))
def spEdgesOf (K : PySem.W.Frag) (CW : Addr) : Sp := fun vs H Q _ => ∃ v rows es, vs = [v] ∧ WAt K CW H v rows es ∧ ∀ p xs, H p = none → All2 (EAt K (upd H p (.lst xs))) xs es → Q (.ref p) (upd H p (.lst xs))
def spSize (K : PySem.W.Frag) (CW : Addr) : Sp := fun vs H Q _ => ∃ v rows es, vs = [v] ∧ WAt K CW H v rows es ∧ Q (.int rows.length) H
def spCheckW (K : PySem.W.Frag) (CW : Addr) : Sp := fun vs H Q _ => ∃ v rows es, vs = [v] ∧ WAt K CW H v rows es ∧ Q .non H
def spCheckT (K : PySem.W.Frag) (CW : Addr) : Sp := fun vs H Q _ => ∃ v rows es, ∃ t : Nat, vs = [v, .int t] ∧ WAt K CW H v rows es ∧ t < rows.length ∧ Q .non H
/-- the property size -/
structure HasSize (P : Program) (w : World) (K : PySem.W.Frag) (mg : Str → Option Value) (base : Heap) (CW : Addr) (k : Nat) : Prop where
  ex : ∃ p g fd ps, PropOf K CW "size" p g ∧ FnOk P w K mg base CX0 k g fd ps (spSize K CW) ∧ Binds K fd ps []
section
variable {P : Program} {w : World} {K : PySem.W.Frag} {mg : Str → Option Value} {base : Heap} {CW : Addr}
theorem ok_names (c : WC K CW) (D : Dm K CW "names" "World.names" s_World_names ["self"]) (T : Tx K mg) : Met P w K mg base 1 CW "names" (spNames K CW) := by
  refine met_of c.cls D sc_World_names (fun vs H Q E h => ?_) (fun f cdv A outer s H vs Q E hr h => ?_)
  · obtain ⟨v, rows, es, rfl, _⟩ := h
    rfl
  obtain ⟨v, rows, es, rfl, hw, q⟩ := h
  obtain ⟨a, dx, n, e, d, ns, xs, rfl, h1, h2, h3, h4, h5⟩ := hw
  refine ⟨_, (pss_one (ps_ret (pe_callTy call_list_of (by rfl) T.list boot_list (pa_cons (pe_fld (pv 0) rfl) pa_nil)))), ?_⟩
  exact ⟨_, rfl, a, CW, dx, _, _, rfl, h1, c.cls, c.n1, rfl, n, ns, rfl, .inl h2, fun l nl => q l ns nl (h3.imp fun _ _ q => row_tk (same_tk (same_new nl)) q)⟩
theorem ok_edges (c : WC K CW) (D : Dm K CW "edges" "World.edges" s_World_edges ["self"]) (T : Tx K mg) : Met P w K mg base 1 CW "edges" (spEdgesOf K CW) := by
  refine met_of c.cls D sc_World_edges (fun vs H Q E h => ?_) (fun f cdv A outer s H vs Q E hr h => ?_)
  · obtain ⟨v, rows, es, rfl, _⟩ := h
    rfl
  obtain ⟨v, rows, es, rfl, hw, q⟩ := h
  obtain ⟨a, dx, n, e, d, ns, xs, rfl, h1, h2, h3, h4, h5⟩ := hw
  refine ⟨_, (pss_one (ps_ret (pe_callTy call_list_of (by rfl) T.list boot_list (pa_cons (pe_fld (pv 0) rfl) pa_nil)))), ?_⟩
  exact ⟨_, rfl, a, CW, dx, _, _, rfl, h1, c.cls, c.n2, rfl, e, xs, rfl, .inl h4, fun l nl => q l xs nl (h5.imp fun _ _ q => eat_same (same_new nl) q)⟩
theorem ok_size (c : WC K CW) {f : Addr} {fd : FuncData} (F : Fun K "size" "World.size" s_World_size f fd) (hb : Binds K fd ["self"] []) {p : Addr} (hp : PropOf K CW "size" p f) (T : Tx K mg) : HasSize P w K mg base CW 1 := by
  refine ⟨p, f, fd, ["self"], hp, F.ok sc_World_size (fun vs H Q E h => ?_) (fun cdv A outer s H vs Q E hr h => ?_), hb⟩
  · obtain ⟨v, rows, es, rfl, _⟩ := h
    rfl
  obtain ⟨v, rows, es, rfl, hw, q⟩ := h
  obtain ⟨a, dx, n, e, d, ns, xs, rfl, h1, h2, h3, h4, h5⟩ := hw
  refine ⟨_, (pss_one (ps_ret (pe_callB call_len (by rfl) T.len PySem.boot_len (pa_cons (pe_fld (pv 0) rfl) pa_nil)))), ?_⟩
  refine ⟨_, rfl, a, CW, dx, _, _, rfl, h1, c.cls, c.n1, rfl, _, ns.length, rfl, .inl ⟨ns, h2, rfl⟩, ?_⟩
  rw [h3.len]
  exact q
theorem ok_check_world (c : WC K CW) (hW : ∃ u, mg "World" = some u ∧ RelV (.ref CW) u) (D : Df K mg "check_world" s_check_world ["thing"]) (T : Tx K mg) : Cal P w K mg base 1 "check_world" (spCheckW K CW) := by
  refine cal_of D sc_check_world (fun vs H Q E h => ?_) (fun f cdv A outer s H vs Q E hr h => ?_)
  · obtain ⟨v, rows, es, rfl, _⟩ := h
    rfl
  obtain ⟨v, rows, es, rfl, hw, q⟩ := h
  obtain ⟨a, dx, n, e, d, ns, xs, rfl, h1, h2, h3, h4, h5⟩ := hw
  have hWorld := hW
  refine ⟨_, (pss_one (ps_if (pt_not (pt_val (pe_callB call_isi (by rfl) T.isi boot_isinstance (pa_cons (pv 0) (pa_cons (C8.pe_gc (by rfl) hWorld) pa_nil)))))
    (pss_one ps_never)
    pss_nil)), ?_⟩
  have k : PySem.W.kitOne K (.ref CW) (.ref CW) = some true := by
    unfold PySem.W.kitOne
    rw [if_pos (by simp)]
  exact ⟨_, rfl, _, _, _, _, true, rfl, .own CW, .base (.ins h1 c.cls c.ha c.hn c.htk c.hm), k, true, rfl, iteF q⟩
theorem ok_check_thing (c : WC K CW) (S : HasSize P w K mg base CW 1) (D : Df K mg "check_thing" s_check_thing ["world", "thing"]) (T : Tx K mg) (c_is_number : Cal P w K mg base 1 "is_number" spNumber) : Cal P w K mg base 3 "check_thing" (spCheckT K CW) := by
  refine cal_of D sc_check_thing (fun vs H Q E h => ?_) (fun f cdv A outer s H vs Q E hr h => ?_)
  · obtain ⟨v, rows, es, t, rfl, _⟩ := h
    rfl
  obtain ⟨v, rows, es, t, rfl, hw, lt, q⟩ := h
  obtain ⟨p, g, fd, ps, hpr, GS, bS⟩ := S.ex
  have hcW := c.cls
  refine ⟨_, (pss_one (ps_if (pt_not (pt_val (pc c_is_number hr (by rfl) (pa_cons (pv 1) (pa_cons (pe_prop (pv 0) hcW hpr GS hr bS .nil pass0 rfl) pa_nil)))))
    (pss_one ps_never)
    pss_nil)), ?_⟩
  obtain ⟨a, dx, n, e, d, ns, xs, rfl, h1, h2, h3, h4, h5⟩ := id hw
  exact ⟨_, rfl, _, rfl, a, dx, _, rfl, h1, _, _, _, rfl, hw, t, _, rfl, lt, true, rfl, iteF q⟩
/-- in a dict's put: what stands there stood there, or is new -/
theorem mem_put {κ : Type} [DecidableEq κ] {kvs : List (κ × V)} {k : κ} {v : V} {p : κ × V} (h : p ∈ putK kvs k v) : p ∈ kvs ∨ p.2 = v := by
  unfold putK at h
  split at h
  · obtain ⟨q, hq, e⟩ := List.mem_map.mp h
    split at e
    · subst e; exact .inr rfl
    · subst e; exact .inl hq
  · rcases List.mem_append.mp h with h | h
    · exact .inl h
    · rw [List.mem_singleton.mp h]; exact .inr rfl
theorem val_mem {κ : Type} [DecidableEq κ] {kvs : List (κ × V)} {k : κ} {v : V} (h : valV kvs k = some v) : ∃ p ∈ kvs, p.2 = v := by
  unfold valV at h
  obtain ⟨p, hp, e⟩ := Option.map_eq_some_iff.mp h
  exact ⟨p, List.mem_of_find?_eq_some hp, e⟩
theorem sbt_tk {K : PySem.W.Frag} {d : Addr} {H H' : Hp} {kvs : List (List Key × V)} (h : SB d H H') (hd : H d = some (.dT kvs)) : TupK K H H' := fun a xs q => by
  rcases q with (q | ⟨o, q⟩) | q
  · exact .inl (.inl (h _ _ q (ne_of q hd (fun z => by cases z))))
  · exact .inl (.inr ⟨o, h _ _ q (ne_of q hd (fun z => by cases z))⟩)
  · exact .inr q
/-- _after as it grows -/
def Aft (H0 H' : Hp) (n : Nat) (kvs : List (List Key × V)) : Prop := kvs.length ≤ n ∧ ∀ p ∈ kvs, ∃ l ls, p.2 = .ref l ∧ H0 l = none ∧ H' l = some (.lst ls) ∧ ls.length ≤ n
theorem ok_world (c : WC K CW) (D : Di K mg "World" CW "World.__init__" s_World___init__ ["self", "names", "edges"]) (T : Tx K mg) (c_is_ascending : Cal P w K mg base 2 "is_ascending" (spAsc K)) (c_are_edges : Cal P w K mg base 2 "are_edges" (spEdges K)) :
    Mak P w K mg base 3 "World" CW (spWorld K CW) := by
  refine mak_of D sc_World___init__ (fun vs H Q E h => ?_) (fun f cdv A outer s H vs Q E hr h => ?_)
  · obtain ⟨x, dx, n, ns, rows, e, xs, es, rfl, _⟩ := h
    rfl
  obtain ⟨x, dx, n, ns, rows, e, xs, es, rfl, hx, hn, hns, ⟨w1, w2, w3⟩, he, hxs, ⟨w4, w5, w6⟩, q⟩ := h
  have hu := hu_of hr
  have ln := hns.len
  refine ⟨_, (pss_cons (ps_if (PW.pt (pw_or (pt_not (pt_val (pe_callB call_isiT (by rfl) T.isi boot_isinstance (pa_cons (pv 1) (pa_cons (pe_tup (pa_cons (pe_bltn (v := .ty "list") (by rfl) T.list boot_list rfl) (pa_cons (pe_bltn (v := .ty "tuple") (by rfl) T.tuple boot_tuple rfl) pa_nil))) pa_nil))))) (pw_or1 (pt_cmpR op_eq (pe_callB call_len (by rfl) T.len PySem.boot_len (pa_cons (pv 1) pa_nil)) pe_int (nomark _)))))
    (pss_one ps_never)
    pss_nil)
    (pss_cons (ps_if (pt_not (pt_val (pe_callB (cr_all rfl) (by rfl) T.all boot_all (pa_cons (pe_lc (own := [("one", 6)]) rfl sc_World___init__.nd (pi_list (pv 1)) (blkOk_by (N := ["self", "names", "edges", "thing", "role", "other", "one"]) (sc := defScope s_World___init__) (own := [("one", 6)]) (by decide +kernel)) (fun _ _ _ _ _ => (pg_name (i := 6) sc_World___init__.nd rfl (.inl rfl))) (fun _ _ _ _ _ => pts_nil) (fun _ _ _ _ _ => (pc c_is_ascending hr (by rfl) (pa_cons (pv 6) pa_nil)))) pa_nil))))
    (pss_one ps_never)
    pss_nil)
    (pss_cons (ps_if (pt_not (pt_val (pc c_are_edges hr (by rfl) (pa_cons (pv 2) (pa_cons (pe_callB call_len (by rfl) T.len PySem.boot_len (pa_cons (pv 1) pa_nil)) pa_nil)))))
    (pss_one ps_never)
    pss_nil)
    (pss_cons (ps_fld (pv 0) (pe_callTy call_list_of (by rfl) T.list boot_list (pa_cons (pv 1) pa_nil)) rfl)
    (pss_cons (ps_fld (pv 0) (pe_callTy call_list_of (by rfl) T.list boot_list (pa_cons (pv 2) pa_nil)) rfl)
    (pss_cons (ps_fld (pv 0) pe_dnewT rfl)
    (pss_one (ps_for PassesOwn.never rfl (pi_list (pe_fld (pv 0) rfl)) (pg_tup rfl (pgs_cons (pg_name (i := 3) sc_World___init__.nd rfl (.inl rfl)) (pgs_cons (pg_name (i := 4) sc_World___init__.nd rfl (.inl rfl)) (pgs_cons (pg_name (i := 5) sc_World___init__.nd rfl (.inl rfl)) pgs_nil))))
    (pss_one (ps_expr (pe_bm PySem.F.plainAttrs_list PySem.F.slot_list_append PySem.F.type_list_append mt_append (pe_bm PySem.F.plainAttrs_dict PySem.F.slot_dict_setdefault PySem.F.type_dict_setdefault (mt_setT hu) (pe_fld (pv 0) rfl) (pa_cons (pe_tup (pa_cons (pv 3) (pa_cons (pv 4) pa_nil))) (pa_cons (pe_lst pa_nil) pa_nil))) (pa_cons (pv 5) pa_nil)))))))))))), ?_⟩
  refine ⟨_, rfl, sz_le (Nat.le_trans (by decide : 2 ≤ 3) (by decide)), fun p np => ⟨_, p, _, _, _, true, rfl, upd_same, .cons (.ty _) (.cons (.ty _) .nil), tyx_lst (same_list (same_new np) hn), k_any, true, rfl, iteF ?_⟩⟩
  have s0 : Same H (upd H p (.tup [.ty "list", .ty "tuple"])) := same_new np
  refine ⟨_, rfl, _, ns.length, rfl, .inl ⟨ns, same_list s0 hn, rfl⟩, rfl, _, congrArg V.bl (decide_eq_false (fun z => by have := V.int.inj z; omega)), iteF ?_⟩
  refine ⟨_, rfl, n, rfl, ⟨_, same_list s0 hn⟩, fun D nD => ?_⟩
  refine lc_list (K := K) (a := n) (xs := ns) (fun i H' => Same (upd H p (.tup [.ty "list", .ty "tuple"])) H' ∧ H' D = some (.lst (List.replicate i (.bl true)))) ⟨same_new nD, upd_same⟩ (fun i H' _ h => same_list (s0.trans h.1) hn) ?_ ?_
  · rintro i v H1 hv ⟨sm, hD⟩
    obtain ⟨row, hr, b, rfl, hb⟩ := hns.getL hv
    obtain ⟨r1, r2, r3⟩ := w1 row (List.mem_of_getElem? hr)
    have hi := (List.getElem?_eq_some_iff.mp hv).1
    refine ⟨rfl, _, rfl, b, row, rfl, same_tup (s0.trans sm) hb, r1, r2, r3, fun H2 s2 => ⟨_, s2 _ _ hD, by rw [List.length_replicate]; exact sz_lt (by omega), same_at (sm.trans s2) nD, ?_⟩⟩
    rw [upd_same, List.replicate_succ']
  rintro H1 ⟨sm1, hD⟩
  refine ⟨D, List.replicate ns.length true, rfl, by rw [List.map_replicate]; exact SqL.of hD, ?_⟩
  rw [show (List.replicate ns.length true).all id = true by simp]
  refine ⟨true, rfl, iteF ?_⟩
  have s1 := s0.trans sm1
  refine ⟨_, rfl, _, rfl, _, ns.length, rfl, .inl ⟨ns, same_list s1 hn, rfl⟩, e, xs, es, ns.length, rfl, same_list s1 he, hxs.imp fun _ _ q => eat_same s1 q, by rw [ln]; exact w4, w5, w6, fun H2 s2 => ⟨true, rfl, iteF ?_⟩⟩
  have sH := s1.trans s2
  have x2 := sH _ _ hx
  clear s0 sm1 s1 s2 nD hD np
  refine ⟨_, rfl, n, ns, rfl, .inl (same_list sH hn), fun n2 nn => ?_⟩
  have x3 : (upd H2 n2 (.lst ns)) x = some (.ins CW dx []) := by rw [upd_ne (ne_of_none x2 nn)]; exact x2
  refine ⟨_, rfl, x, CW, dx, [], rfl, x3, c.cls, c.n1, by decide, ?_⟩
  generalize h4 : upd (upd H2 n2 (.lst ns)) x (.ins CW dx (putF "_names" (.ref n2) [])) = H4
  have x4 : H4 x = some (.ins CW dx [("_names", .ref n2)]) := by rw [← h4]; exact upd_same
  have n4 : H4 n2 = some (.lst ns) := by rw [← h4, upd_ne (Ne.symm (ne_of_none x2 nn)), upd_same]
  have b4 : SB x H H4 := (SB.of sH).trans (by rw [← h4]; exact (SB.of (same_new nn)).trans SB.upd)
  clear h4 x3 nn x2 sH
  refine ⟨_, rfl, e, xs, rfl, .inl (sb_slI b4 hx he), fun e2 ne => ?_⟩
  have x5 : (upd H4 e2 (.lst xs)) x = some (.ins CW dx [("_names", .ref n2)]) := by rw [upd_ne (ne_of_none x4 ne)]; exact x4
  refine ⟨_, rfl, x, CW, dx, _, rfl, x5, c.cls, c.n2, by simp, ?_⟩
  generalize h6 : upd (upd H4 e2 (.lst xs)) x (.ins CW dx (putF "_edges" (.ref e2) [("_names", .ref n2)])) = H6
  have x6 : H6 x = some (.ins CW dx [("_names", .ref n2), ("_edges", .ref e2)]) := by rw [← h6]; exact upd_same
  have e6 : H6 e2 = some (.lst xs) := by rw [← h6, upd_ne (Ne.symm (ne_of_none x4 ne)), upd_same]
  have n6 : H6 n2 = some (.lst ns) := by rw [← h6, upd_ne (ne_of n4 x4 (fun z => by cases z)), upd_ne (ne_of_none n4 ne)]; exact n4
  have b6 : SB x H H6 := b4.trans (by rw [← h6]; exact (SB.of (same_new ne)).trans SB.upd)
  clear h6 x5 ne x4 n4 b4
  intro d nd
  have x7 : (upd H6 d (.dT [])) x = some (.ins CW dx [("_names", .ref n2), ("_edges", .ref e2)]) := by rw [upd_ne (ne_of_none x6 nd)]; exact x6
  refine ⟨_, rfl, x, CW, dx, _, rfl, x7, c.cls, c.n3, by simp, ?_⟩
  generalize h8 : upd (upd H6 d (.dT [])) x (.ins CW dx (putF "_after" (.ref d) [("_names", .ref n2), ("_edges", .ref e2)])) = H8
  have x8 : H8 x = some (.ins CW dx (WFs n2 e2 d)) := by rw [← h8]; exact upd_same
  have d8 : H8 d = some (.dT []) := by rw [← h8, upd_ne (Ne.symm (ne_of_none x6 nd)), upd_same]
  have e8 : H8 e2 = some (.lst xs) := by rw [← h8, upd_ne (ne_of e6 x6 (fun z => by cases z)), upd_ne (ne_of_none e6 nd)]; exact e6
  have n8 : H8 n2 = some (.lst ns) := by rw [← h8, upd_ne (ne_of n6 x6 (fun z => by cases z)), upd_ne (ne_of_none n6 nd)]; exact n6
  have b8 : SB x H H8 := b6.trans (by rw [← h8]; exact (SB.of (same_new nd)).trans SB.upd)
  have fd : ∀ {l}, H8 l = none → l ≠ d := fun {l} h z => by rw [z, d8] at h; cases h
  have nd0 : H d = none := free_put b6 nd ⟨_, x6⟩
  clear h8 x7 nd x6 e6 n6 b6
  have hx8 : All2 (EAt K H8) xs es := hxs.imp fun _ _ q => eat_tk (sb_tkI b8 hx) q
  refine ⟨_, rfl, x, CW, dx, _, _, rfl, x8, c.cls, c.n2, rfl, e2, rfl, ⟨xs, SqL.of e8⟩, for_list (K := K) (a := e2) (xs := xs) (fun i σ H' => ∃ y z u kvs, σ = [some (.ref x), some (.ref n), some (.ref e), y, z, u, none] ∧ SB d H8 H' ∧ H' d = some (.dT kvs) ∧ Aft H8 H' i kvs)
    ⟨_, _, _, [], rfl, SB.refl _ _, d8, Nat.le_refl _, fun _ h => nomatch h⟩ (fun i σ H' _ ⟨_, _, _, _, _, sb, _⟩ => sbt_sl sb d8 (SqL.of e8)) ?_ ?_⟩
  · rintro i v H1 H2 hv ⟨y, z, u, kvs, rfl, sb, hd, k1, k2⟩
    obtain ⟨ed, hed, hve⟩ := hx8.getL hv
    have li := (List.getElem?_eq_some_iff.mp hv).1
    have lx := hxs.len
    obtain ⟨b, rfl, hb⟩ := of_eat (eat_tk (sbt_tk sb d8) hve)
    refine ⟨b, _, rfl, hb, rfl, _, _, rfl, _, _, rfl, _, _, rfl, rfl, ?_⟩
    have xx := sb _ _ x8 (ne_of x8 d8 (fun z => by cases z))
    refine ⟨_, rfl, x, CW, dx, _, _, rfl, xx, c.cls, c.n3, rfl, .inr (.inr (.inl ⟨rfl, .inr ⟨kvs, hd⟩⟩)), _, rfl, _, rfl, sz_le (Nat.le_trans (by decide : 2 ≤ 3) (by decide)), fun t nt => ⟨Nat.zero_le _, fun l nl => ?_⟩⟩
    have sn : Same H2 (upd (upd H2 t (.tup [.int ed.1, .str ed.2.1])) l (.lst [])) := (same_new nt).trans (same_new nl)
    have ht : (upd (upd H2 t (.tup [.int ed.1, .str ed.2.1])) l (.lst [])) t = some (.tup [.int ed.1, .str ed.2.1]) := (same_new nl) _ _ upd_same
    have hl : (upd (upd H2 t (.tup [.int ed.1, .str ed.2.1])) l (.lst [])) l = some (.lst []) := upd_same
    have nl2 : H2 l = none := (same_new nt).free nl
    have nl8 : H8 l = none := free_put sb nl2 ⟨_, hd⟩
    generalize upd (upd H2 t (.tup [.int ed.1, .str ed.2.1])) l (.lst []) = H3 at sn ht hl
    refine ⟨d, t, .ref l, kvs, [Sum.inl (ed.1 : Int), Sum.inr ed.2.1], rfl, rfl, sn _ _ hd, ht, sz_lt (by omega), ?_⟩
    cases hv : valV kvs [Sum.inl (ed.1 : Int), Sum.inr ed.2.1] with
    | some v =>
      obtain ⟨p, hp, ep⟩ := val_mem hv
      obtain ⟨l', ls, e', f8, hl', len⟩ := k2 p hp
      have ev : v = .ref l' := ep.symm.trans e'
      subst ev
      have h3 := sn _ _ hl'
      refine ⟨.inl ⟨rfl, ls, SqL.of h3⟩, _, rfl, l', ls, _, rfl, rfl, h3, sz_lt (by omega), _, _, _, kvs, rfl, fun c o hc ne => ?_, ?_, by omega, fun p' hp' => ?_⟩
      · rw [upd_ne (ne_of_none hc f8)]
        exact sn _ _ (sb _ _ hc ne)
      · rw [upd_ne (Ne.symm (fd f8))]
        exact sn _ _ hd
      · obtain ⟨l2, ls2, e2, n2, h2, len2⟩ := k2 p' hp'
        by_cases z : l2 = l'
        · subst z
          exact ⟨l2, _, e2, n2, upd_same, by simp; omega⟩
        · exact ⟨l2, ls2, e2, n2, by rw [upd_ne z]; exact sn _ _ h2, by omega⟩
    | none =>
      have lk := length_putK kvs [Sum.inl (ed.1 : Int), Sum.inr ed.2.1] (.ref l)
      have ld : l ≠ d := fd nl8
      have h3 : (upd H3 d (.dT (putK kvs [Sum.inl (ed.1 : Int), Sum.inr ed.2.1] (.ref l)))) l = some (.lst []) := by rw [upd_ne ld]; exact hl
      refine ⟨.inl ⟨rfl, [], SqL.of h3⟩, _, rfl, l, [], _, rfl, rfl, h3, sz_lt (by simp), _, _, _, _, rfl, fun c o hc ne => ?_, by rw [upd_ne (Ne.symm ld), upd_same], by omega, fun p' hp' => ?_⟩
      · rw [upd_ne (ne_of_none hc nl8), upd_ne ne]
        exact sn _ _ (sb _ _ hc ne)
      · rcases mem_put hp' with hp' | ep
        · obtain ⟨l2, ls2, e2, n2, h2, len2⟩ := k2 p' hp'
          exact ⟨l2, ls2, e2, n2, by rw [upd_ne (ne_of_none h2 nl2), upd_ne (fd n2)]; exact sn _ _ h2, by omega⟩
        · exact ⟨l, _, ep, nl8, upd_same, by simp⟩
  · rintro σ H' ⟨y, z, u, kvs, rfl, sb, hd, k1, k2⟩
    refine q H' (fun b o hb ne => sb b o (b8 b o hb ne) (fun z => by rw [z, nd0] at hb; cases hb)) ?_
    exact ⟨x, dx, n2, e2, d, ns, xs, rfl, sb _ _ x8 (ne_of x8 d8 (fun z => by cases z)), sbt_sl sb d8 (SqL.of n8), hns.imp fun _ _ q => row_tk (sbt_tk sb d8) (row_tk (sb_tkI b8 hx) q), sbt_sl sb d8 (SqL.of e8), hx8.imp fun _ _ q => eat_tk (sbt_tk sb d8) q⟩
end
end K77
end

section
set_option Elab.async false
set_option linter.all false
set_option maxRecDepth 100000
set_option maxHeartbeats 4000000
/-! Sets of texts that can be walked: over HandS.SetTxt0's exact add. -/
namespace K77
open PySem PySem.Spec PyProof.Rows L2 PySem.Froz

theorem All2.perm {α β : Type} {R : α → β → Prop} {l l' : List α} (p : l.Perm l') : ∀ {m : List β}, All2 R l m → ∃ m', All2 R l' m' ∧ m'.Perm m := by
  induction p with
  | nil => intro m h; exact ⟨m, h, List.Perm.refl _⟩
  | cons x _ ih =>
    intro m h
    cases h with
    | cons a b =>
      obtain ⟨m', c, d⟩ := ih b
      exact ⟨_ :: m', .cons a c, d.cons _⟩
  | swap x y l =>
    intro m h
    cases h with
    | cons a b =>
      cases b with
      | cons c d => exact ⟨_, .cons c (.cons a d), List.Perm.swap _ _ _⟩
  | trans _ _ ih1 ih2 =>
    intro m h
    obtain ⟨m1, a, b⟩ := ih1 h
    obtain ⟨m2, c, d⟩ := ih2 a
    exact ⟨m2, c, d.trans b⟩

/-- equal in length and members, the one without repeats: the same up to order -/
theorem perm_of_mem {α : Type} [DecidableEq α] : ∀ {ks l : List α}, ks.Nodup → l.length = ks.length → (∀ x ∈ ks, x ∈ l) → l.Perm ks
  | [], l, _, len, _ => by rw [List.length_eq_zero_iff.mp len]
  | k :: r, l, nd, len, sub => by
    have here := List.perm_cons_erase (sub k List.mem_cons_self)
    obtain ⟨out, nd⟩ := List.nodup_cons.mp nd
    refine here.trans ((perm_of_mem nd ?_ fun x hx => ?_).cons k)
    · have := here.length_eq
      simp only [List.length_cons] at this len
      omega
    · exact (List.mem_erase_of_ne fun e => out (by rw [← e]; exact hx)).mpr (sub x (List.mem_cons_of_mem _ hx))

section
variable {P : Program} {w : World} {A : Around} {E : Value → Shared → Prop} {s : Shared} {a : Addr} {ks : List Str}
/-- a table whose places rise, and whose order is the model's own: it can be walked -/
def Walkable (w : World) (t : SetTable) : Prop := Ris t.place.toList ∧ (w.params.followText "set-order" = true ∨ t.led = true)
theorem Walkable.like {t u : SetTable} (q : Walkable w t) (rises : Ris u.place.toList) (led : u.led = t.led) : Walkable w u := ⟨rises, led ▸ q.2⟩
theorem Walkable.tail {ep : Nat} {es : Array (Int × Value)} {t : SetTable} {dummy : Bool} (q : Walkable w t) : Walkable w (tailTx ep es t dummy).2.2 := by
  unfold tailTx
  split
  · exact q.like (relayAll_ris _ _ _) (relayAll_led _ _ _)
  · exact q
theorem Walkable.add {h : Int} {v : Value} {D : SD} (q : Walkable w D.2.2) : Walkable w (addTx h v D).2.2 := by
  refine Walkable.tail ?_
  have laid : Walkable w (layNew D.2.2 D.1 h v).2.1 := q.like (layNew_ris _ _ _ _ q.1) (layNew_led _ _ _ _)
  split
  · exact laid.like laid.1 rfl
  · exact laid
/-- at a stands a set of the texts ks, each once -/
def Texts (P : Program) (w : World) (h : Heap) (a : Addr) (ks : List Str) : Prop := ks.Nodup ∧ ks.length < scanBound ∧ ∃ D, h.get? a = some (sObj "set" D) ∧ TxOk P w D ks ∧ Walkable w D.2.2
theorem Texts.at {h h' : Heap} (T : Texts P w h a ks) (k : ∀ o, h.get? a = some o → h'.get? a = some o) : Texts P w h' a ks :=
  ⟨T.1, T.2.1, let ⟨D, e, r⟩ := T.2.2; ⟨D, k _ e, r⟩⟩
theorem texts_new {h : Heap} {led : Bool} (e : h.get? a = some (sObj "set" (#[], 0, .fresh 0 0 led))) (is : led = !w.params.followText "set-order") : Texts P w h a [] := by
  refine ⟨List.nodup_nil, by decide, _, e, .nil rfl, List.Pairwise.nil, ?_⟩
  subst is
  show _ ∨ (!_) = true
  cases w.params.followText "set-order" <;> decide
/-- a text that is there: nothing changes -/
theorem add_there {T : String} {D : SD} {k : Str} {u : Tok} {Q : Bool → Shared → Prop} (at_ : s.heap.get? a = some (sObj T D)) (ok : TxOk P w D ks) (there : k ∈ ks) (few : ks.length < scanBound) (q : Q false s) : wpAny (model P w) A (setAddHashed a (.str k u) (hashStr w k)) Q E s := by
  obtain ⟨e, he, is⟩ := (ok.mem k).mp there
  have scan : byScan (.str k u) D.1 = true := byScan_of rfl (ok.sz ▸ few) ok.el
  unfold setAddHashed setAddHashedIn setAddByScan
  refine wpAny_holding (wpAny_bind (wpAny_setState_of at_ rfl ok.fit ?_))
  simp only [scan, if_true]
  refine wpAny_bind (wpAny_bind (wpAny_rule (wpAny_bind (wpAny_setScan_of (is_str k u) at_ rfl ok.fit ok.el ?_))))
  cases found : List.findIdx? (fun e => (strKind P w).is k e.2) D.1.toList with
  | some j => exact wpAny_pure (wpAny_pure q)
  | none => exact absurd is (by rw [List.findIdx?_eq_none_iff.mp found e he]; decide)
/-- one more text -/
def insT (z : Str) (ks : List Str) : List Str := if z ∈ ks then ks else z :: ks
theorem insT_mem {z s : Str} {ks : List Str} : s ∈ insT z ks ↔ s = z ∨ s ∈ ks := by
  by_cases h : z ∈ ks
  · rw [insT, if_pos h]
    exact ⟨.inr, fun e => e.elim (fun e => e ▸ h) id⟩
  · rw [insT, if_neg h]
    exact List.mem_cons
theorem insT_len {z : Str} {ks : List Str} : (insT z ks).length ≤ ks.length + 1 := by
  by_cases h : z ∈ ks
  · rw [insT, if_pos h]; exact Nat.le_succ _
  · rw [insT, if_neg h]; exact Nat.le_refl _
theorem set_add_is (a : Addr) (x : Value) : Builtin.«set.add» ⟨[.ref a, x], []⟩ = (do let _ ← setAdd a x; ret .none) := by rfl
theorem texts_add {z : Str} {t : Tok} {Q : Value → Shared → Prop} (T : Texts P w s.heap a ks) (room : ks.length + 1 < scanBound)
    (q : ∀ h', (∀ b o, b ≠ a → s.heap.get? b = some o → h'.get? b = some o) → Texts P w h' a (insT z ks) → Q .none { s with heap := h', toks := s.toks + 1 }) : wpAny (model P w) A (call (.builtin "set.add") [.ref a, .str z t]) Q E s := by
  obtain ⟨nd, few, D, at_, ok, walk⟩ := id T
  refine wpAny_call_entry PySem.F.slot_set_add (show s.TypeIs (.ref a) "set" from ⟨_, at_, rfl⟩) PySem.F.entry_set_add ?_ (PySem.F.args_set_add_2 _ _)
  rw [set_add_is]
  unfold setAdd
  refine wpAny_bind (wpAny_holding (wpAny_bind ((strKind P w).pyHash (is_str z t) ?_)))
  by_cases there : z ∈ ks
  · refine add_there at_ ok there few (wpAny_pure ⟨_, rfl, q s.heap (fun _ _ _ e => e) ?_⟩)
    rw [insT, if_pos there]
    exact T
  · refine add_x at_ ok there room (wpAny_pure ⟨_, rfl, q _ (fun b o n e => ?_) ?_⟩)
    · exact ((Heap.SameBut.update s.heap a _).2 b n).trans e
    · rw [insT, if_neg there]
      exact ⟨List.nodup_cons.mpr ⟨there, nd⟩, room, _, get_upd _ at_ rfl, add_ok t ok, walk.add⟩
end
end K77
end

section
set_option Elab.async false
set_option linter.all false
set_option maxRecDepth 100000
set_option maxHeartbeats 4000000
/-! Sets of texts as tracked things: {x for ..}, sorted() of one. -/
namespace K77
open PySem PySem.Spec PyProof.Rows L2 PySem.Froz

/-- the set of texts at a -/
def TSet (P : Program) (w : World) (a : Addr) (ks : List Str) : HO := .ext fun h => Texts P w h a ks
theorem tset_ok {P : Program} {w : World} {H : Hp} {h : Heap} {a : Addr} {ks : List Str} (T : Texts P w h a ks) : ObjOk P w H h a (TSet P w a ks) :=
  ⟨T, let ⟨_, _, D, e, _⟩ := T; ⟨_, e⟩, fun _ _ t k => t.at k⟩
section
variable {X : Cx} {pins : List (Addr × Obj)} {σ : L2.St} {H : Hp} {s : Shared}
/-- a text is added: what else stands stays -/
theorem tset_add {a : Addr} {ks : List Str} {z : Str} {t : Tok} {A : Around} {E : Value → Shared → Prop} {Q : Value → Shared → Prop} (I : Inv X pins σ H s) (h : H a = some (TSet X.prog X.w a ks)) (room : ks.length + 1 < scanBound)
    (q : ∀ s', Inv X pins σ (upd H a (TSet X.prog X.w a (insT z ks))) s' → (∀ b o, b ≠ a → s.heap.get? b = some o → s'.heap.get? b = some o) → Q .none s') : wpAny (model X.prog X.w) A (call (.builtin "set.add") [.ref a, .str z t]) Q E s := by
  have T : Texts X.prog X.w s.heap a ks := (I.hok a _ h).1
  refine texts_add T room fun h' keep T' => q _ ?_ keep
  exact I.write (e := a) (t' := s.toks + 1) (by rw [h]; trivial) (.inl rfl) keep (let ⟨_, _, _, e, _⟩ := T'; ⟨_, e⟩) (tset_ok T')
end

/-! ### {x for x in xs if isinstance(x, str)}, xs a list of texts and tuples: over the rule of KE.GoesSet. The comprehension's block is followed by hand; what the def knows of its own state is the loop's invariant. -/
/-- the block's names: its own ones, and built-ins -/
structure Pick (sc : Scope) (x : Str) : Prop where
  kind : sc.kind = .function
  plain : ∀ y ∈ sc.names, y.2 = .local ∨ y.2 = .globalImplicit
  once : ∀ y ∈ sc.names, y.2 = .local → sc.names.lookup y.1 = some .local
  own : sc.names.lookup x = some .local
  isi : sc.names.lookup ("isinstance" : Str) = some .globalImplicit
  str : sc.names.lookup ("str" : Str) = some .globalImplicit
theorem Pick.same {sc : Scope} {x : Str} (p : Pick sc x) (env : Env) : relabel sc env = sc := by
  have names : (relabel sc env).names = sc.names := by
    refine (List.map_congr_left (g := id) ?_).trans (List.map_id _)
    rintro ⟨n, k⟩ hy
    obtain rfl | rfl : k = .local ∨ k = .globalImplicit := p.plain _ hy <;> rfl
  calc relabel sc env = { sc with names := (relabel sc env).names } := rfl
    _ = sc := by rw [names]
theorem Pick.at {sc : Scope} {x y : Str} {k : NameKind} {cl : List (Str × Addr)} {C : Addr} {env : Env} (p : Pick sc x) (h : sc.names.lookup y = some k) : (compEnvC sc cl C env).kindOf y = some k := by
  show (relabel sc env).names.lookup y = some k
  rw [p.same, h]
/-- an item of the list: a text to be picked, or a tuple -/
def Item (K : PySem.W.Frag) (H : Hp) (v : V) : Option Str → Prop
  | some z => v = .str z
  | none => ∃ a ys, v = .ref a ∧ SqT K H a ys
def tPick (P : Program) (w : World) (K : PySem.W.Frag) (ti : TE) : TE := fun σ H Q => ti σ H fun v H1 => ∃ l xs zs, v = .ref l ∧ SqL K H1 l xs ∧ All2 (Item K H1) xs zs ∧ zs.length < scanBound ∧
  ∀ D ks H2, H1 D = none → (∀ z, z ∈ ks ↔ some z ∈ zs) → ks.length ≤ zs.length → Same H1 H2 → H2 D = some (TSet P w D ks) → Q (.ref D) H2
section
variable {X : Cx} {pins : List (Addr × Obj)} {σ : L2.St} {H : Hp} {s : Shared}
/-- a built-in by its name, in a block of ours -/
theorem built_in {A : Around} {E : Value → Shared → Prop} {Q : Value → Shared → Prop} {sc : Scope} {x y : Str} {u : Value} {at_ : Pos} {cl : List (Str × Addr)} {C : Addr} (I : Inv X pins σ H s) (p : Pick sc x) (ky : sc.names.lookup y = some .globalImplicit) (no : X.mg y = none) (is : bootBuiltins y = some u) (q : Q u s)
    (n1 : y ≠ "__name__" := by decide) (n2 : (y == ("__debug__" : Str)) = false := by decide) : wpAny (model X.prog X.w) A (eval (.Name y at_) (compEnvC sc cl C X.env)) Q E s := by
  obtain ⟨names, ns, all⟩ := I.mod.blt
  have g : s.heap.Ns (compEnvC sc cl C X.env).globals X.mg := I.ok.glob ▸ I.mod.glob.keeps I.bk
  have b : s.heap.Ns (compEnvC sc cl C X.env).builtins names := I.ok.blt ▸ ns.keeps I.bk
  exact Calls.Name_function_global p.kind (p.at ky) (Calls.loadGlobal_builtin g no b (all y n1 ▸ is) q) n2
theorem item_type {i : Nat} {v : V} {u : Value} {z : Option Str} (I : Inv X pins σ H s) (r : RelV v u) (it : Item X.K H v z) {A : Around} {E : Value → Shared → Prop} {Q : Value → Shared → Prop} (q : ∀ tk, Q (.bool z.isSome) { s with toks := tk }) :
    wpAny (model X.prog X.w) A (call (.builtin "isinstance") [u, .type "str"]) Q E s := by
  cases z with
  | some z =>
    cases it
    obtain ⟨F, kit, now, ne⟩ := kit_of I r (.base (.str z))
    exact PySem.W.kia_one kit I.kIn now k_ss ne q
  | none =>
    obtain ⟨a, ys, rfl, t⟩ := it
    obtain ⟨F, kit, now, ne⟩ := kit_of I r (tyx_tup t)
    exact PySem.W.kia_one kit I.kIn now k_ts ne q
theorem pe_pick {x : Str} {iter : Expr} {ti : TE} {scope : Scope} {p1 p2 p3 p4 p5 p6 pos : Pos} (calm : X.calm = true) (hi : PE X iter ti) (p : Pick scope x) (noIsi : X.mg "isinstance" = none) (noStr : X.mg "str" = none)
    (nd : (x == ("__debug__" : Str)) = false := by decide) (hs : ∀ v, foldedSetIterable iter X.env v = pure v := by intro _; rfl) :
    PE X (.SetComp (.Name x p1) [⟨.Name x p2, iter, [.Call (.Name "isinstance" p3) [.Name x p4, .Name "str" p5] [] p6], 0⟩] scope pos) (tPick X.prog X.w X.K ti) := by
  refine ⟨fun pins s σ H Q I h => ?_⟩
  refine SetComp_goes (closure_ok fun y hy e => ?_) (fun y hy e => ?_) p.kind p.once (thn (hi.run pins s σ H _ I h) fun u s1 h1 => ?_) hs
  · rcases p.plain y hy with z | z <;> rw [z] at e <;> cases e
  · rcases p.plain y hy with z | z <;> rw [z] at e <;> cases e
  obtain ⟨_, H1, I1, ru, l, xs, zs, rfl, hl, hz, few, q⟩ := h1
  obtain rfl : u = .ref l := ru
  obtain ⟨its, vals, at_, _⟩ := I1.list hl
  have W := Goes.list (prog := X.prog) (w := X.w) (A := X.A) (target := .Name x p2) (I1.ok.hd calm) s1.heap.objs.size l (Nat.ne_of_lt at_.lt) its.toArray
  have many : its.toArray.size = zs.length := by rw [← hz.len, vals.length]; exact List.size_toArray
  refine wpAny_pyIter_list at_.isList ⟨_, _, _, _, _, _, rfl, W, ⟨⟨_, Heap.get?_push_size _ rfl, rfl, rfl⟩, ?_⟩, fun D C s3 B new => ?_⟩
  · obtain ⟨o, e, r⟩ := at_.isList
    exact ⟨o, Heap.get?_push_of_some _ e, r⟩
  -- who is who
  have keep1 : ∀ b o, s1.heap.get? b = some o → s3.heap.get? b = some o := fun b o e => B.old b o (Heap.get?_push_of_some _ e)
  have gtD : s1.heap.objs.size < D := Nat.lt_of_lt_of_le (by rw [Heap.size_push]; exact Nat.lt_succ_self _) B.newD
  have gtC : s1.heap.objs.size < C := Nat.lt_of_lt_of_le (by rw [Heap.size_push]; exact Nat.lt_succ_self _) B.newC
  have early : ∀ b ∈ [s1.heap.objs.size, l], b ≠ D ∧ b ≠ C := fun b hb => by
    have le : b ≤ s1.heap.objs.size := by
      rcases List.mem_cons.mp hb with e | e
      · exact Nat.le_of_eq e
      · exact Nat.le_of_lt (List.mem_singleton.mp e ▸ at_.lt)
    exact ⟨Nat.ne_of_lt (Nat.lt_of_le_of_lt le gtD), Nat.ne_of_lt (Nat.lt_of_le_of_lt le gtC)⟩
  have noD : H1 D = none := I1.hok.fresh (Nat.le_of_lt gtD)
  -- the iterator and the block's names are nobody's: what is written there is not looked at
  have aside : ∀ {b : Addr}, b = s1.heap.objs.size ∨ b = C → ∀ {ks : List Str} {s' : Shared} {h' : Heap} {t' : Nat}, Inv X pins σ (upd H1 D (TSet X.prog X.w D ks)) s' → (∀ c o, c ≠ b → s'.heap.get? c = some o → h'.get? c = some o) →
      Inv X pins σ (upd H1 D (TSet X.prog X.w D ks)) { s' with heap := h', toks := t' } := fun {b} who ks s' h' t' I' k => by
    have le : s1.heap.objs.size ≤ b := who.elim (fun e => Nat.le_of_eq e.symm) fun e => e ▸ Nat.le_of_lt gtC
    have ne : b ≠ D := who.elim (fun e => e ▸ Nat.ne_of_lt gtD) fun e => e ▸ B.ne.symm
    obtain ⟨a1, a2, _, a3, a4, a5⟩ := I1.fpOk (H' := upd H1 D (TSet X.prog X.w D ks)) le (by rw [upd_ne ne]; exact I1.hok.fresh le)
    exact I'.turned k a1 a2 a3 a4 a5
  have I3 : Inv X pins σ (upd H1 D (TSet X.prog X.w D [])) s3 := by
    obtain ⟨h3, tk, e3⟩ := B.only
    subst e3
    exact I1.laid (t' := tk) keep1 (Nat.le_of_lt gtD) (tset_ok (texts_new new rfl))
  refine ⟨fun i s' => ∃ ks m, Inv X pins σ (upd H1 D (TSet X.prog X.w D ks)) s' ∧ s'.heap.Ns C m ∧ (∀ z, z ∈ ks ↔ some z ∈ zs.take i) ∧ ks.length ≤ i, ⟨[], _, I3, B.names, fun z => by simp, Nat.le_refl _⟩, ?_, ?_, ?_⟩
  · -- the iterator's own writes
    rintro i s' h' tk ⟨ks, m, I', ⟨o, es, ep, ho, r⟩, mem, len⟩ k _
    exact ⟨ks, m, aside (.inl rfl) I' fun c o n e => k c o (fun z => n (List.mem_singleton.mp z)) e, ⟨o, es, ep, k C o (fun z => Nat.ne_of_gt gtC (List.mem_singleton.mp z)) ho, r⟩, mem, len⟩
  · -- one turn
    rintro i v s' lt hv st ⟨ks, m, I', ns, mem, len⟩
    have ix : i < xs.length := by rw [hz.len, ← many]; exact lt
    obtain ⟨y, ey⟩ : ∃ y, xs[i]? = some y := ⟨_, List.getElem?_eq_getElem ix⟩
    obtain ⟨v', ev, ry⟩ := vals.get ey
    obtain rfl : v' = v := Option.some.inj (ev.symm.trans (List.getElem?_toArray.symm.trans hv))
    obtain ⟨z, ez, iz⟩ := hz.getL ey
    have next : zs.take (i + 1) = zs.take i ++ [z] := by rw [List.take_add_one, ez]; rfl
    refine wpAny_assign_Name (wpAny_storeName_local (p.at p.own) ns (fun h5 ns5 sb5 => ?_) (by show (scope.kind == .class || scope.kind == .module && _) = false; rw [p.kind]; rfl))
    have I5 : ∀ tk, Inv X pins σ (upd H1 D (TSet X.prog X.w D ks)) { s' with heap := h5, toks := tk } := fun tk => aside (.inr rfl) I' fun c o n e => (sb5.2 c n).trans e
    have st5 : h5.IsListIter s1.heap.objs.size l (i + 1) ∧ h5.IsList l its.toArray := W.frame _ _ _ st fun b hb o e => (sb5.2 b (early b hb).2).trans e
    have iz5 : Item X.K (upd H1 D (TSet X.prog X.w D ks)) y z := by
      cases z with
      | some z => exact iz
      | none =>
        obtain ⟨a, ys, e, t⟩ := iz
        exact ⟨a, ys, e, same_tup (same_new noD) t⟩
    refine wpAny_tests_one (isTrue_plain (wpAny_Call_Name_kw (built_in (I5 _) p p.isi noIsi boot_isinstance (PyProof.Rows.callWith_builtin1 ?_))) rfl)
    refine Calls.spliced_cons (wpAny_Name (wpAny_loadName_local p.kind (p.at p.own) ns5 (if_pos rfl) ?_) nd)
    refine Calls.spliced_cons (built_in (I5 _) p p.str noStr boot_str (Calls.spliced_nil (item_type (i := i) (I5 _) ry iz5 fun tk => wpAny_truthy_bool ?_)))
    cases z with
    | none =>
      rw [Option.isSome_none, if_neg Bool.false_ne_true]
      exact ⟨⟨ks, _, I5 tk, ns5, fun z => by rw [mem, next, List.mem_append]; simp, Nat.le_succ_of_le len⟩, st5⟩
    | some z =>
      rw [Option.isSome_some, if_pos rfl]
      cases iz
      obtain ⟨t, rfl⟩ := ry
      refine wpAny_Name (wpAny_loadName_local p.kind (p.at p.own) ns5 (if_pos rfl) ?_) nd
      refine tset_add (I5 tk) upd_same (Nat.lt_of_le_of_lt (Nat.succ_le_succ len) (Nat.lt_of_le_of_lt (by rw [← many]; exact lt) few)) fun s6 I6 keep6 => ?_
      rw [L2.upd_upd] at I6
      have ns6 : s6.heap.Ns C _ := let ⟨o, es, ep, ho, r⟩ := ns5; ⟨o, es, ep, keep6 C o B.ne.symm ho, r⟩
      refine ⟨⟨insT z ks, _, I6, ns6, fun z' => ?_, Nat.le_trans insT_len (Nat.succ_le_succ len)⟩, W.frame _ _ _ st5 fun b hb o e => keep6 b o (early b hb).1 e⟩
      rw [insT_mem, mem, next, List.mem_append, List.mem_singleton, Option.some.injEq, or_comm]
  · -- the end
    rintro s' ⟨ks, m, I', ns, mem, len⟩
    rw [many] at mem len
    refine show ∃ m, s'.heap.Ns C m ∧ ∀ h', Heap.SameBut C s'.heap h' → EP X pins σ Q (.ref D) { s' with heap := h' } from ⟨m, ns, fun h' sb => ?_⟩
    exact ⟨.ref D, _, aside (t' := s'.toks) (.inr rfl) I' fun c o n e => (sb.2 c n).trans e, rfl, q D ks _ noD (fun z => by rw [mem, List.take_length]) len (same_new noD) upd_same⟩
/-- sorted() of a set of texts -/
def rSortedSK (P : Program) (w : World) : List V → Hp → VK → Prop := fun vs H Q => ∃ (a : Addr) (ks : List Str), vs = [.ref a] ∧ H a = some (TSet P w a ks) ∧
  ∀ (ys : List Str) (p : Addr), ys.Perm ks → ks.Nodup → (ys.Pairwise fun x y => x.cps.toList ≤ y.cps.toList) → H p = none → Q (.ref p) (upd H p (.lst (ys.map V.str)))
theorem cr_sortedSK (calm : X.calm = true) : CallR X (.builtin "sorted") (rSortedSK X.prog X.w) := by
  intro pins s σ H vs us Q I rel h
  obtain ⟨a, ks, rfl, ha, q⟩ := h
  rw [Vals.ref1 rel]
  obtain ⟨nd, few, ⟨es, ep, t⟩, at_, ok, walk⟩ := (show Texts X.prog X.w s.heap a ks from (I.hok a _ ha).1)
  have small : ks.length ≤ sizeLine := fits_of_scanBound few
  refine sorted_texts (xs := ks) small (fun R go => ?_) fun sm s1 out c ys k1 g1 o1 k2 g2 o2 hat hS perm up => ?_
  · refine collect_set (I.ok.hd calm) ⟨_, at_, rfl, rfl⟩ ok.fit (ok.sz ▸ few) walk.1 walk.2 fun s' out kp _ hg ho pm => ?_
    have txt : ∀ v ∈ out, ∃ z k, v = Value.str z k := fun v hv => by
      obtain ⟨e, he, rfl⟩ := List.mem_map.mp (pm.mem_iff.mp hv)
      obtain ⟨z, is, _⟩ := (ok.el e he).1
      obtain ⟨k, ev⟩ := Value.isStrOf_shape (x := z) (v := e.2) is
      exact ⟨z, k, ev⟩
    refine go _ _ (out.map strV) kp hg ho (txt_self txt) (perm_of_mem nd ?_ fun z hz => ?_)
    · rw [List.length_map, pm.length_eq, List.length_map, Array.length_toList]
      exact ok.sz
    · obtain ⟨e, he, is⟩ := (ok.mem z).mp hz
      obtain ⟨k, ev⟩ := Value.isStrOf_shape (x := z) (v := e.2) is
      exact List.mem_map.mpr ⟨e.2, pm.mem_iff.mpr (List.mem_map.mpr ⟨e, he, rfl⟩), by rw [ev]; rfl⟩
  · exact texts_tracked I k1 g1 o1 k2 g2 o2 hat hS (by rw [perm.length_eq]; exact small) (q ys _ perm nd up)
end
end K77
end

section
set_option Elab.async false
set_option linter.all false
set_option maxRecDepth 100000
set_option maxHeartbeats 4000000
/-! Tree -/
namespace K77
open PySem PySem.Spec PyProof.Rows L2
abbrev s_Tree___init__ : Stmt := inClass (top 34) 0
theorem sc_Tree___init__ : FnScope ["self", "concept"] ["self", "concept"] (defScope s_Tree___init__) := ⟨rfl, rfl, rfl, by decide +kernel, rfl, by decide +kernel, by decide +kernel⟩
abbrev s_Tree_grow : Stmt := inClass (top 34) 1
theorem sc_Tree_grow : FnScope ["self", "concept", "parent", "role", "number", "inner", "one"] ["self", "concept", "parent", "role"] (defScope s_Tree_grow) := ⟨rfl, rfl, rfl, by decide +kernel, rfl, by decide +kernel, by decide +kernel⟩
abbrev s_Tree_role : Stmt := inClass (top 34) 2
theorem sc_Tree_role : FnScope ["self", "node"] ["self", "node"] (defScope s_Tree_role) := ⟨rfl, rfl, rfl, by decide +kernel, rfl, by decide +kernel, by decide +kernel⟩
abbrev s_Tree_names : Stmt := inClass (top 34) 3
theorem sc_Tree_names : FnScope ["self", "node"] ["self", "node"] (defScope s_Tree_names) := ⟨rfl, rfl, rfl, by decide +kernel, rfl, by decide +kernel, by decide +kernel⟩
theorem pe_fldB {X : Cx} {K : PySem.W.Frag} {e : Expr} {f : Str} {pos : Pos} {ta : TE} (k : X.K = K) (he : PE X e ta) (hb : attributeBase e f X.env (eval e X.env) = eval e X.env) : PE X (.Attribute e f pos) (tFld K ta f) := k ▸ pe_fld he hb
structure TC (K : PySem.W.Frag) (CT : Addr) : Prop where
  cls : Cls K CT
  n1 : NoAttr K CT "rows"
  n2 : NoAttr K CT "below"
def TFs (R B : Addr) : List (Str × V) := [("rows", .ref R), ("below", .ref B)]
def TupH (H H' : Hp) : Prop := ∀ a xs, H a = some (.tup xs) → H' a = some (.tup xs)
def RoleAt (H : Hp) (rs : List V) (j : Nat) (r : Str) : Prop := ∃ t p nt, rs[j]? = some (.ref t) ∧ H t = some (.tup [p, .str r, nt])
/-- the node i of the tree is the concept c; the lists below it lie in N -/
def Node (N : Addr → Prop) (H : Hp) (rs bs : List V) : Nat → Nat → Con → Prop
  | 0, _, _ => False
  | n + 1, i, c => ∃ (t : Addr) (p r : V) (nt : Addr) (ns : List Str) (l : Addr) (ch : List Nat), rs[i]? = some (.ref t) ∧ H t = some (.tup [p, r, .ref nt]) ∧ H nt = some (.tup (ns.map V.str)) ∧ (∀ s, s ∈ ns ↔ s ∈ names c) ∧ (ns.length ≤ 4000 ∧ ch.length ≤ 4000) ∧ bs[i]? = some (.ref l) ∧ N l ∧ H l = some (.lst (ch.map fun j : Nat => V.int j)) ∧
    All2 (fun (j : Nat) (q : Str × Con) => RoleAt H rs j q.1 ∧ Node N H rs bs n j q.2) ch (kids c)
theorem RoleAt.keep {H H' : Hp} {rs rs' : List V} {j : Nat} {r : Str} (h : RoleAt H rs j r) (t : TupH H H') (p : ∀ (i : Nat) (v : V), rs[i]? = some v → rs'[i]? = some v) : RoleAt H' rs' j r := by
  obtain ⟨a, b, c, h1, h2⟩ := h
  exact ⟨a, b, c, p _ _ h1, t _ _ h2⟩
theorem Node.keep {N N' : Addr → Prop} {H H' : Hp} {rs bs rs' bs' : List V} (t : TupH H H') (pr : ∀ (i : Nat) (v : V), rs[i]? = some v → rs'[i]? = some v) (pb : ∀ (i : Nat) (v : V), bs[i]? = some v → bs'[i]? = some v)
    (sub : ∀ l xs, N l → H l = some (.lst xs) → N' l ∧ H' l = some (.lst xs)) : ∀ {n i c}, Node N H rs bs n i c → Node N' H' rs' bs' n i c
  | 0, _, _, h => h.elim
  | n + 1, i, c, h => by
    obtain ⟨tt, p, r, nt, ns, l, ch, h1, h2, h3, h4, h5, h6, h7, h8, h9⟩ := h
    obtain ⟨q1, q2⟩ := sub _ _ h7 h8
    exact ⟨tt, p, r, nt, ns, l, ch, pr _ _ h1, t _ _ h2, t _ _ h3, h4, h5, pb _ _ h6, q1, q2, h9.imp fun j q ⟨a, b⟩ => ⟨a.keep t pr, Node.keep t pr pb sub b⟩⟩
theorem Node.up {N : Addr → Prop} {H : Hp} {rs bs : List V} : ∀ {n m i c}, n ≤ m → Node N H rs bs n i c → Node N H rs bs m i c
  | 0, _, _, _, _, h => h.elim
  | n + 1, 0, _, _, le, _ => absurd le (by omega)
  | n + 1, m + 1, i, c, le, h => by
    obtain ⟨tt, p, r, nt, ns, l, ch, h1, h2, h3, h4, h5, h6, h7, h8, h9⟩ := h
    exact ⟨tt, p, r, nt, ns, l, ch, h1, h2, h3, h4, h5, h6, h7, h8, h9.imp fun j q ⟨a, b⟩ => ⟨a, Node.up (Nat.le_of_succ_le_succ le) b⟩⟩
theorem nw_cj : ∀ c, ∀ x ∈ cj c, nest x ≤ nest c ∧ wt x ≤ wt c := by
  refine Con.ind (by simp [cj]) (fun s x h => ?_) (fun r c _ x h => ?_) fun cs ih x h => ?_
  · rw [List.mem_singleton.mp h]; exact ⟨Nat.le_refl _, Nat.le_refl _⟩
  · rw [List.mem_singleton.mp h]; exact ⟨Nat.le_refl _, Nat.le_refl _⟩
  · obtain ⟨c, hc, hx⟩ := mem_cjs.mp h
    obtain ⟨a, b⟩ := ih c hc x hx
    have n := nest_le_nests hc
    have w := wt_le_wts hc
    simp only [nest, wt]
    omega
theorem Sml.kid {c k : Con} {r : Str} (g : Sml c) (h : (r, k) ∈ kids c) : Sml k := by
  obtain ⟨a, b⟩ := nw_cj c _ (mem_kids.mp h)
  have := g.n
  have := g.w
  refine ⟨(good_kid g.g h).2, ?_, ?_⟩
  · simp only [nest] at a; omega
  · simp only [wt] at b; omega
/-- all stays but R, B and the list at lo -/
def Chg (R B : Addr) (lo : Option Addr) (H H' : Hp) : Prop := ∀ b o, H b = some o → b ≠ R → b ≠ B → lo ≠ some b → H' b = some o
def sumk (l : List Con) : Nat := ((l.filterMap smOf).map fun q => wt q.2).sum
theorem sumk_app (a b : List Con) : sumk (a ++ b) = sumk a + sumk b := by simp [sumk]
theorem sumk_wt : ∀ c, sumk (cj c) + 1 ≤ wt c := by
  refine Con.ind (by simp [cj, sumk, smOf, wt]) (fun s => by simp [cj, sumk, smOf, wt, List.filterMap]) (fun r c _ => by simp [cj, sumk, smOf, wt]) fun cs ih => ?_
  have go : ∀ l : List Con, (∀ c ∈ l, sumk (cj c) + 1 ≤ wt c) → sumk (cjs l) ≤ wts l := by
    intro l
    induction l with
    | nil => intro _; simp [cjs, sumk, wts]
    | cons c r ihr =>
      intro h
      have a := h c List.mem_cons_self
      have b := ihr fun x hx => h x (List.mem_cons_of_mem _ hx)
      simp only [cjs, sumk_app, wts]
      omega
  have := go cs ih
  simp only [cj, wt]
  omega
theorem all2_nm {R : V → Con → Prop} {S : V → Option Str → Prop} {l : List V} {m : List Con} (h : All2 R l m) : (∀ v, ∀ e ∈ m, R v e → S v (nmOf e)) → All2 S l (m.map nmOf) := by
  induction h with
  | nil => exact fun _ => .nil
  | cons r _ ih => exact fun f => .cons (f _ _ List.mem_cons_self r) (ih fun v e he => f v e (List.mem_cons_of_mem _ he))
theorem chg_tk {K : PySem.W.Frag} {R B : Addr} {lo : Option Addr} {H H' : Hp} (c : Chg R B lo H H') (hR : ∃ xs, H R = some (.lst xs)) (hB : ∃ xs, H B = some (.lst xs)) (hl : ∀ l, lo = some l → ∃ xs, H l = some (.lst xs)) : TupK K H H' := fun a xs q => by
  obtain ⟨x1, hR⟩ := hR
  obtain ⟨x2, hB⟩ := hB
  have ne : ∀ {o : HO}, H a = some o → (∀ ys, o ≠ .lst ys) → lo ≠ some a := fun {o} h n e => by
    obtain ⟨ys, hy⟩ := hl a e
    rw [h] at hy
    exact n ys (Option.some.inj hy)
  rcases q with (q | ⟨o, q⟩) | q
  · exact .inl (.inl (c _ _ q (ne_of q hR (fun z => by cases z)) (ne_of q hB (fun z => by cases z)) (ne q fun ys e => by cases e)))
  · exact .inl (.inr ⟨o, c _ _ q (ne_of q hR (fun z => by cases z)) (ne_of q hB (fun z => by cases z)) (ne q fun ys e => by cases e)⟩)
  · exact .inr q
theorem chg_th {R B : Addr} {lo : Option Addr} {H H' : Hp} (c : Chg R B lo H H') (hR : ∃ xs, H R = some (.lst xs)) (hB : ∃ xs, H B = some (.lst xs)) (hl : ∀ l, lo = some l → ∃ xs, H l = some (.lst xs)) : TupH H H' := fun a xs q => by
  obtain ⟨x1, hR⟩ := hR
  obtain ⟨x2, hB⟩ := hB
  refine c _ _ q (ne_of q hR (fun z => by cases z)) (ne_of q hB (fun z => by cases z)) fun e => ?_
  obtain ⟨ys, hy⟩ := hl a e
  rw [q] at hy
  cases hy
theorem chg_free {R B : Addr} {lo : Option Addr} {H H' : Hp} (c : Chg R B lo H H') {x : Addr} (n : H' x = none) (hR : ∃ o, H' R = some o) (hB : ∃ o, H' B = some o) (hl : ∀ l, lo = some l → ∃ o, H' l = some o) : H x = none := by
  cases e : H x with
  | none => rfl
  | some o =>
    obtain ⟨_, hR⟩ := hR
    obtain ⟨_, hB⟩ := hB
    have := c _ _ e (fun z => by rw [z, hR] at n; cases n) (fun z => by rw [z, hB] at n; cases n) (fun z => by
      obtain ⟨_, h⟩ := hl x z
      rw [h] at n; cases n)
    rw [this] at n
    cases n
theorem getA {xs ys : List V} (i : Nat) (v : V) (h : xs[i]? = some v) : (xs ++ ys)[i]? = some v := by
  rw [List.getElem?_append_left (List.getElem?_eq_some_iff.mp h).1]
  exact h
/-- what grow promises -/
def spGrow (K : PySem.W.Frag) (CT : Addr) (n : Nat) : Sp := fun vs H Q _ => ∃ a dx R B rs bs v c p r, ∃ par : Option (Addr × List V), vs = [.ref a, v, p, r] ∧ H a = some (.ins CT dx (TFs R B)) ∧ H R = some (.lst rs) ∧ H B = some (.lst bs) ∧ R ≠ B ∧ rs.length = bs.length ∧ rs.length + wt c ≤ 8000 ∧
  CAt K H v c ∧ Sml c ∧ dep c < n ∧ ((p = .non ∧ par = none) ∨ ∃ (i : Nat) (l : Addr) (ls : List V), p = .int i ∧ par = some (l, ls) ∧ bs[i]? = some (.ref l) ∧ H l = some (.lst ls) ∧ l ≠ R ∧ l ≠ B ∧ ls.length ≤ 8000) ∧
  ∀ H' rs' bs', Chg R B (par.map (·.1)) H H' → H' R = some (.lst (rs ++ rs')) → H' B = some (.lst (bs ++ bs')) → rs'.length = bs'.length → rs'.length ≤ wt c → (∀ l ls, par = some (l, ls) → H' l = some (.lst (ls ++ [.int (rs.length : Nat)]))) →
    Node (fun l => H l = none) H' (rs ++ rs') (bs ++ bs') n rs.length c → (∀ q, r = .str q → RoleAt H' (rs ++ rs') rs.length q) → Q .non H'
section
variable {P : Program} {w : World} {K : PySem.W.Frag} {mg : Str → Option Value} {base : Heap} {CT : Addr}
theorem step_grow {n k : Nat} (c : TC K CT) (D : Dm K CT "grow" "Tree.grow" s_Tree_grow ["self", "concept", "parent", "role"]) (T : Tx K mg) (c_conjuncts : Cal P w K mg base k "conjuncts" (spConjuncts K 31)) (c_grow : Met P w K mg base k CT "grow" (spGrow K CT n)) :
    Met P w K mg base (k + 1) CT "grow" (spGrow K CT (n + 1)) := by
  refine met_of c.cls D sc_Tree_grow (fun vs H Q E h => ?_) (fun f cdv A outer s H vs Q E hr h => ?_)
  · obtain ⟨a, dx, R, B, rs, bs, v, d, p, r, par, rfl, _⟩ := h
    rfl
  obtain ⟨a, dx, R, B, rs, bs, v, d, p, r, par, rfl, ha, hR, hB, rb, hl, hz, hv, g, hd, hp, q⟩ := h
  have hu := hu_of hr
  refine ⟨_, (pss_cons (ps_par (i := 4) (j := 5) (by rfl) sc_Tree_grow.nd rfl rfl (by decide) rfl rfl (pa_cons (pe_callB call_len (by rfl) T.len PySem.boot_len (pa_cons (pe_fld (pv 0) rfl) pa_nil)) (pa_cons (pc c_conjuncts hr (by rfl) (pa_cons (pv 1) pa_nil)) pa_nil)) (by rfl))
    (pss_cons (ps_expr (pe_bm PySem.F.plainAttrs_list PySem.F.slot_list_append PySem.F.type_list_append mt_append (pe_fld (pv 0) rfl) (pa_cons (pe_tup (pa_cons (pv 2) (pa_cons (pv 3) (pa_cons (pe_callTy call_tuple_of (by rfl) T.tuple boot_tuple (pa_cons (pe_callB (cr_sortedSK rfl) (by rfl) T.sorted boot_sorted (pa_cons (pe_pick rfl (pv 5) ⟨rfl, by decide +kernel, by decide +kernel, by decide +kernel, by decide +kernel, by decide +kernel⟩ T.isi T.str) pa_nil)) pa_nil)) pa_nil)))) pa_nil)))
    (pss_cons (ps_expr (pe_bm PySem.F.plainAttrs_list PySem.F.slot_list_append PySem.F.type_list_append mt_append (pe_fld (pv 0) rfl) (pa_cons (pe_lst pa_nil) pa_nil)))
    (pss_cons (ps_if (pt_cmpR op_notN (pv 2) pe_non (nomark _))
    (pss_one (ps_expr (pe_bm PySem.F.plainAttrs_list PySem.F.slot_list_append PySem.F.type_list_append mt_append (pe_ix ix_list (pe_fld (pv 0) rfl) (pv 2) (fun _ _ => rfl)) (pa_cons (pv 4) pa_nil))))
    pss_nil)
    (pss_one (ps_for PassesOwn.never rfl (pi_list (pv 5)) (pg_name (i := 6) sc_Tree_grow.nd rfl (.inl rfl))
    (pss_one (ps_if (pt_not (pt_val (pe_callB call_isi (by rfl) T.isi boot_isinstance (pa_cons (pv 6) (pa_cons (pe_bltn (v := .ty "str") (by rfl) T.str boot_str rfl) pa_nil)))))
    (pss_one (ps_expr (pm c_grow hr (pv 0) (pa_cons (pe_ix ix_tup (pv 6) pe_int (fun _ _ => rfl)) (pa_cons (pv 4) (pa_cons (pe_ix ix_tup (pv 6) pe_int (fun _ _ => rfl)) pa_nil))))))
    pss_nil)))))))), ?_⟩
  have gn := g.n
  have gw := g.w
  refine ⟨_, rfl, a, CT, dx, _, _, rfl, ha, c.cls, c.n1, rfl, _, rs.length, rfl, .inl ⟨rs, SqL.of hR, rfl⟩, ?_⟩
  refine ⟨_, rfl, v, d, rfl, hv, g, by omega, fun H1 ip ws s1 nip hip hws => ?_⟩
  refine ⟨_, _, rfl, ?_⟩
  have lw := hws.len
  have lj := cj_len d
  -- the row
  refine ⟨_, rfl, a, CT, dx, _, _, rfl, s1 _ _ ha, c.cls, c.n1, rfl, .inl ⟨rfl, rs, SqL.of (s1 _ _ hR)⟩, _, rfl, _, rfl, _, rfl, ip, ws, (cj d).map nmOf, rfl, SqL.of hip, ?_, by rw [List.length_map]; have : scanBound = 4096 := rfl; omega, fun D ks H2 nD mk lk sm2 hD => ?_⟩
  · refine all2_nm hws fun v e he hve => ?_
    have it := cj_item d e he
    cases e with
    | all => exact it.elim
    | an cs => exact it.elim
    | nm z => exact of_nm hve
    | sm r' k' =>
      obtain ⟨b, u, rfl, hb, _⟩ := of_sm hve
      exact ⟨b, _, rfl, hb⟩
  replace hD : H2 D = some (TSet P w D ks) := hD
  rw [List.length_map] at lk
  replace mk : ∀ z, z ∈ ks ↔ z ∈ (cj d).filterMap nmOf := fun z => by rw [mk, List.mem_map, List.mem_filterMap]
  refine ⟨D, ks, rfl, hD, fun ys sp perm nd up nsp => ⟨sp, ys.map V.str, rfl, .inl ⟨SqL.of upd_same, fun nt nnt => ⟨sz_le (Nat.le_trans (by decide : 3 ≤ 4) (by decide)), fun t ntt => ?_⟩⟩⟩⟩
  have s5 : Same H (upd (upd (upd H2 sp (.lst (ys.map V.str))) nt (.tup (ys.map V.str))) t (.tup [p, r, .ref nt])) := ((s1.trans sm2).trans (same_new nsp)).trans ((same_new nnt).trans (same_new ntt))
  have t5 : (upd (upd (upd H2 sp (.lst (ys.map V.str))) nt (.tup (ys.map V.str))) t (.tup [p, r, .ref nt])) t = some (.tup [p, r, .ref nt]) := upd_same
  have nt5 : (upd (upd (upd H2 sp (.lst (ys.map V.str))) nt (.tup (ys.map V.str))) t (.tup [p, r, .ref nt])) nt = some (.tup (ys.map V.str)) := (same_new ntt) _ _ upd_same
  have ip5 : (upd (upd (upd H2 sp (.lst (ys.map V.str))) nt (.tup (ys.map V.str))) t (.tup [p, r, .ref nt])) ip = some (.lst ws) := (same_new ntt) _ _ ((same_new nnt) _ _ ((same_new nsp) _ _ (sm2 _ _ hip)))
  have ws5 : CsAt K (upd (upd (upd H2 sp (.lst (ys.map V.str))) nt (.tup (ys.map V.str))) t (.tup [p, r, .ref nt])) ws (cj d) := cs_same ((sm2.trans (same_new nsp)).trans ((same_new nnt).trans (same_new ntt))) hws
  have ly : ys.length ≤ 4000 := by rw [perm.length_eq]; omega
  have my : ∀ s, s ∈ ys ↔ s ∈ names d := fun s => by rw [perm.mem_iff]; exact mk s
  generalize upd (upd (upd H2 sp (.lst (ys.map V.str))) nt (.tup (ys.map V.str))) t (.tup [p, r, .ref nt]) = H5 at s5 t5 nt5 ip5 ws5 ⊢
  clear ntt nnt nsp up nd perm mk lk hD sm2 nD hws hip s1
  refine ⟨R, rs, _, rfl, rfl, s5 _ _ hR, sz_lt (by omega), ?_⟩
  have c6 : Chg R B none H (upd H5 R (.lst (rs ++ [.ref t]))) := fun b o hb n1 n2 _ => by rw [upd_ne n1]; exact s5 _ _ hb
  have R6 : (upd H5 R (.lst (rs ++ [.ref t]))) R = some (.lst (rs ++ [.ref t])) := upd_same
  have k6 : ∀ {b o}, H5 b = some o → b ≠ R → (upd H5 R (.lst (rs ++ [.ref t]))) b = some o := fun h n => by rw [upd_ne n]; exact h
  have B6 := k6 (s5 _ _ hB) (Ne.symm rb)
  have a6 := k6 (s5 _ _ ha) (ne_of ha hR (fun z => by cases z))
  have t6 := k6 t5 (ne_of t5 (s5 _ _ hR) (fun z => by cases z))
  have nt6 := k6 nt5 (ne_of nt5 (s5 _ _ hR) (fun z => by cases z))
  have ip6 := k6 ip5 (Ne.symm (ne_of_none hR nip))
  have ws6 : CsAt K (upd H5 R (.lst (rs ++ [.ref t]))) ws (cj d) := ws5.imp fun _ _ h => cat_tk (lst_tk (s5 _ _ hR)) _ _ h
  generalize upd H5 R (.lst (rs ++ [.ref t])) = H6 at c6 R6 B6 a6 t6 nt6 ip6 ws6 ⊢
  clear k6 ws5 ip5 nt5 t5 s5
  refine ⟨_, rfl, a, CT, dx, _, _, rfl, a6, c.cls, c.n2, rfl, .inl ⟨rfl, bs, SqL.of B6⟩, Nat.zero_le _, fun li nli => ⟨B, bs, _, rfl, rfl, (same_new nli) _ _ B6, sz_lt (by omega), ?_⟩⟩
  have nli0 : H li = none := chg_free c6 nli ⟨_, R6⟩ ⟨_, B6⟩ (fun l e => by cases e)
  have c8 : Chg R B none H (upd (upd H6 li (.lst [])) B (.lst (bs ++ [.ref li]))) := fun b o hb n1 n2 n3 => by rw [upd_ne n2]; exact (same_new nli) _ _ (c6 _ _ hb n1 n2 n3)
  have k8 : ∀ {b o}, H6 b = some o → b ≠ B → (upd (upd H6 li (.lst [])) B (.lst (bs ++ [.ref li]))) b = some o := fun h n => by rw [upd_ne n]; exact (same_new nli) _ _ h
  have R8 := k8 R6 rb
  have B8 : (upd (upd H6 li (.lst [])) B (.lst (bs ++ [.ref li]))) B = some (.lst (bs ++ [.ref li])) := upd_same
  have a8 := k8 a6 (ne_of a6 B6 (fun z => by cases z))
  have t8 := k8 t6 (ne_of t6 B6 (fun z => by cases z))
  have nt8 := k8 nt6 (ne_of nt6 B6 (fun z => by cases z))
  have ip8 := k8 ip6 (Ne.symm (ne_of_none hB nip))
  have li8 : (upd (upd H6 li (.lst [])) B (.lst (bs ++ [.ref li]))) li = some (.lst []) := by rw [upd_ne (Ne.symm (ne_of_none B6 nli)), upd_same]
  have ws8 : CsAt K (upd (upd H6 li (.lst [])) B (.lst (bs ++ [.ref li]))) ws (cj d) := (cs_same (same_new nli) ws6).imp fun _ _ h => cat_tk (lst_tk ((same_new nli) _ _ B6)) _ _ h
  generalize upd (upd H6 li (.lst [])) B (.lst (bs ++ [.ref li])) = H8 at c8 R8 B8 a8 t8 nt8 ip8 li8 ws8 ⊢
  have ipl : ip ≠ li := ne_of_none ip6 nli
  clear k8 ws6 ip6 nt6 t6 a6 B6 R6 c6 nli
  have ilR : li ≠ R := fun z => by rw [z, hR] at nli0; cases nli0
  have ilB : li ≠ B := fun z => by rw [z, hB] at nli0; cases nli0
  have main : ∀ H9, Chg R B (par.map (·.1)) H H9 → (∀ {b o}, H8 b = some o → (∀ l ls, par = some (l, ls) → b ≠ l) → H9 b = some o) → (∀ l ls, par = some (l, ls) → H9 l = some (.lst (ls ++ [.int (rs.length : Nat)])) ∧ l ≠ R ∧ l ≠ B ∧ ∃ xs, H l = some (.lst xs)) →
      tFor (iList K (tVar 5)) (gName 6) (tIfS (tNot (tB (tCB (rIsi K) (tCons (tVar 6) (tCons (tC (.ty "str")) tNil))))) (tDrop (tGoM CT "grow" (spGrow K CT n) (tVar 0) (tCons (tOp (rIxT K) (tVar 6) (tC (.int 2))) (tCons (tVar 4) (tCons (tOp (rIxT K) (tVar 6) (tC (.int 1))) tNil))))) tNext)
        { nx := fun _ H' => Q .non H', rt := Q } [some (.ref a), some v, some p, some r, some (.int (rs.length : Nat)), some (.ref ip), none] H9 := by
    intro H9 c9 k9 p9
    have pnew : ∀ {b}, H b = none → ∀ l ls, par = some (l, ls) → b ≠ l := fun {b} h l ls e z => by
      obtain ⟨_, _, _, xs, h'⟩ := p9 l ls e
      rw [← z, h] at h'
      cases h'
    have pl8 : ∀ l ls, par = some (l, ls) → ∃ xs, H8 l = some (.lst xs) := fun l ls e => by
      obtain ⟨_, n1, n2, xs, h'⟩ := p9 l ls e
      exact ⟨xs, c8 _ _ h' n1 n2 (fun z => by cases z)⟩
    have ptup : ∀ {b : Addr} {o : HO}, H8 b = some o → (∀ ys, o ≠ .lst ys) → ∀ l ls, par = some (l, ls) → b ≠ l := fun {b o} h n l ls e z => by
      obtain ⟨xs, h'⟩ := pl8 l ls e
      rw [← z, h] at h'
      exact n xs (Option.some.inj h')
    have R9 := k9 R8 (fun l ls e => Ne.symm (p9 l ls e).2.1)
    have B9 := k9 B8 (fun l ls e => Ne.symm (p9 l ls e).2.2.1)
    have li9 := k9 li8 (pnew nli0)
    have ip9 := k9 ip8 (pnew nip)
    have t9 := k9 t8 (ptup t8 fun ys e => by cases e)
    have nt9 := k9 nt8 (ptup nt8 fun ys e => by cases e)
    have tk9 : TupK K H8 H9 := fun b xs h => by
      rcases h with (h | ⟨o, h⟩) | h
      · exact .inl (.inl (k9 h (ptup h fun ys e => by cases e)))
      · exact .inl (.inr ⟨o, k9 h (ptup h fun ys e => by cases e)⟩)
      · exact .inr h
    have ws9 : CsAt K H9 ws (cj d) := ws8.imp fun _ _ h => cat_tk tk9 _ _ h
    have lo : ∀ {l : Addr}, par.map (·.1) = some l → ∃ ls, par = some (l, ls) := fun {l} e => by
      obtain ⟨x, hx, rfl⟩ := Option.map_eq_some_iff.mp e
      exact ⟨x.2, hx⟩
    refine ⟨_, rfl, ip, rfl, ⟨ws, SqL.of ip9⟩, for_list (K := K) (a := ip) (xs := ws) (fun i σ H' => ∃ y rs' bs', ∃ ch : List Nat, σ = [some (.ref a), some v, some p, some r, some (.int (rs.length : Nat)), some (.ref ip), y] ∧ Chg R B (par.map (·.1)) H H' ∧ H' R = some (.lst (rs ++ rs')) ∧ H' B = some (.lst (bs ++ bs')) ∧
      rs'.length = bs'.length ∧ rs'.length ≤ 1 + sumk ((cj d).take i) ∧ rs'[0]? = some (.ref t) ∧ bs'[0]? = some (.ref li) ∧ H' li = some (.lst (ch.map fun j : Nat => V.int j)) ∧ H' ip = some (.lst ws) ∧ (TupK K H9 H' ∧ TupH H9 H') ∧ (∀ l ls, par = some (l, ls) → H' l = some (.lst (ls ++ [.int (rs.length : Nat)]))) ∧
      All2 (fun (j : Nat) (q : Str × Con) => RoleAt H' (rs ++ rs') j q.1 ∧ Node (fun l => H l = none ∧ l ≠ li) H' (rs ++ rs') (bs ++ bs') n j q.2) ch (((cj d).take i).filterMap smOf))
      ⟨_, [.ref t], [.ref li], [], rfl, c9, R9, B9, rfl, by simp, rfl, rfl, li9, ip9, ⟨fun _ _ h => h, fun _ _ h => h⟩, fun l ls e => (p9 l ls e).1, .nil⟩ (fun i σ H' _ ⟨_, _, _, _, _, _, _, _, _, _, _, _, _, h, _⟩ => SqL.of h) ?_ ?_⟩
    · rintro i x σ H' hx ⟨y, rs', bs', ch, rfl, c', R', B', l1, l2, r0, b0, li', ip', tk', p', hch⟩
      obtain ⟨e, he, hxe⟩ := ws9.getL hx
      have hi := (List.getElem?_eq_some_iff.mp hx).1
      have tk : (cj d).take (i + 1) = (cj d).take i ++ [e] := by rw [List.take_add_one, he, Option.toList_some]
      have hmem := List.mem_of_getElem? he
      have it := cj_item d e hmem
      cases e with
      | all => exact it.elim
      | an cs => exact it.elim
      | nm z =>
        cases of_nm hxe
        refine ⟨_, rfl, _, _, _, _, true, rfl, .ty "str", .base (.str z), k_ss, true, rfl, iteF ?_⟩
        exact ⟨_, rs', bs', ch, rfl, c', R', B', l1, by rw [tk, sumk_app]; omega, r0, b0, li', ip', tk', p', by rw [tk, List.filterMap_append]; simpa [smOf, List.filterMap] using hch⟩
      | sm r' k' =>
        obtain ⟨b, u, rfl, hb, hu'⟩ := of_sm (cat_tk tk'.1 _ _ hxe)
        have hk : (r', k') ∈ kids d := mem_kids.mpr hmem
        have gk := g.kid hk
        have dk := dep_kid hk
        have sw := sumk_wt d
        have st : sumk ((cj d).take i) + wt k' ≤ sumk (cj d) := by
          have e1 : sumk (cj d) = sumk ((cj d).take (i + 1)) + sumk ((cj d).drop (i + 1)) := by rw [← sumk_app, List.take_append_drop]
          rw [e1, tk, sumk_app]
          have : sumk [Con.sm r' k'] = wt k' := by simp [sumk, smOf, List.filterMap]
          omega
        have lch : ch.length ≤ i := by
          rw [hch.len]
          exact Nat.le_trans (List.length_filterMap_le _ _) (by rw [List.length_take]; omega)
        have a' : H' a = some (.ins CT dx (TFs R B)) := c' _ _ ha (ne_of ha hR (fun z => by cases z)) (ne_of ha hB (fun z => by cases z)) (fun z => by
          obtain ⟨ls, e⟩ := lo z
          obtain ⟨_, _, _, xs, h⟩ := p9 _ _ e
          rw [ha] at h
          cases h)
        have ix : (bs ++ bs')[rs.length]? = some (.ref li) := by
          rw [List.getElem?_append_right (by omega), hl, Nat.sub_self]
          exact b0
        refine ⟨_, rfl, _, _, _, _, false, rfl, .ty "str", tyx_tup hb, k_ts, false, rfl, iteT ?_⟩
        refine ⟨_, rfl, a, dx, _, rfl, a', rfl, _, rfl, b, _, 2, _, rfl, rfl, hb, atI_nat (j := 2) rfl, _, rfl, _, rfl, b, _, 1, _, rfl, rfl, hb, atI_nat (j := 1) rfl, ?_⟩
        refine ⟨a, dx, R, B, rs ++ rs', bs ++ bs', u, k', _, _, some (li, ch.map fun j : Nat => V.int j), rfl, a', R', B', rb, by simp only [List.length_append]; omega, by simp only [List.length_append]; omega, hu', gk, by omega,
          .inr ⟨rs.length, li, _, rfl, rfl, ix, li', ilR, ilB, by rw [List.length_map]; omega⟩, fun H'' rs'' bs'' c'' R'' B'' m1 m2 p'' node role => ?_⟩
        have tk2 : TupK K H' H'' := chg_tk c'' ⟨_, R'⟩ ⟨_, B'⟩ (fun l e => by cases e; exact ⟨_, li'⟩)
        have th2 : TupH H' H'' := chg_th c'' ⟨_, R'⟩ ⟨_, B'⟩ (fun l e => by cases e; exact ⟨_, li'⟩)
        have stay : ∀ l o, H l = none → l ≠ li → H' l = some o → H'' l = some o := fun l o h n h' => c'' _ _ h' (fun z => by rw [z, hR] at h; cases h) (fun z => by rw [z, hB] at h; cases h) (fun z => n (Option.some.inj z).symm)
        refine ⟨_, rs' ++ rs'', bs' ++ bs'', ch ++ [(rs ++ rs').length], rfl, fun b o h1 h2 h3 h4 => c'' b o (c' b o h1 h2 h3 h4) h2 h3 (fun z => by cases z; rw [nli0] at h1; cases h1), ?_, ?_, ?_, ?_, getA _ _ r0, getA _ _ b0, ?_, stay _ _ nip ipl ip', ⟨fun a xs h => tk2 _ _ (tk'.1 _ _ h), fun a xs h => th2 _ _ (tk'.2 _ _ h)⟩, fun l ls e => ?_, ?_⟩
        · rw [← List.append_assoc]; exact R''
        · rw [← List.append_assoc]; exact B''
        · rw [List.length_append, List.length_append]; omega
        · have : sumk [Con.sm r' k'] = wt k' := by simp [sumk, smOf, List.filterMap]
          rw [tk, sumk_app, List.length_append]
          omega
        · rw [p'' _ _ rfl, List.map_append]
          rfl
        · obtain ⟨_, n1, n2, xs, h⟩ := p9 l ls e
          exact c'' _ _ (p' l ls e) n1 n2 (fun z => by cases z; rw [nli0] at h; cases h)
        · rw [tk, List.filterMap_append, ← List.append_assoc, ← List.append_assoc]
          refine All2.app (hch.imp fun j q ⟨x1, x2⟩ => ⟨x1.keep th2 getA, x2.keep th2 getA getA fun l xs nl h => ⟨nl, stay _ _ nl.1 nl.2 h⟩⟩) (.one ⟨role _ rfl, node.keep (fun _ _ h => h) (fun _ _ h => h) (fun _ _ h => h) fun l xs nl h => ⟨⟨chg_free c' nl ⟨_, R'⟩ ⟨_, B'⟩ fun l' e => ?_, fun z => by rw [z, li'] at nl; cases nl⟩, h⟩⟩)
          obtain ⟨ls, e'⟩ := lo e
          exact ⟨_, p' _ _ e'⟩
    · rintro σ H' ⟨y, rs', bs', ch, rfl, c', R', B', l1, l2, r0, b0, li', ip', tk', p', hch⟩
      rw [lw, List.take_length] at l2 hch
      have sw := sumk_wt d
      have i1 : (rs ++ rs')[rs.length]? = some (.ref t) := by rw [List.getElem?_append_right (Nat.le_refl _), Nat.sub_self]; exact r0
      have i2 : (bs ++ bs')[rs.length]? = some (.ref li) := by rw [List.getElem?_append_right (by omega), hl, Nat.sub_self]; exact b0
      refine q H' rs' bs' c' R' B' l1 (by omega) p' ⟨t, p, r, nt, ys, li, ch, i1, tk'.2 _ _ t9, tk'.2 _ _ nt9, my, ⟨ly, by rw [hch.len]; exact Nat.le_trans (List.length_filterMap_le _ _) (by omega)⟩, i2, nli0, li', hch.imp fun j q ⟨x1, x2⟩ => ⟨x1, x2.keep (fun _ _ h => h) (fun _ _ h => h) (fun _ _ h => h) fun l xs nl h => ⟨nl.1, h⟩⟩⟩ fun q e => ?_
      subst e
      exact ⟨t, p, .ref nt, i1, tk'.2 _ _ t9⟩
  rcases hp with ⟨rfl, ep⟩ | ⟨pi, pl, pls, rfl, ep, hpb, hpl, n1, n2, few⟩
  · refine ⟨_, rfl, rfl, false, rfl, iteF ?_⟩
    refine main H8 (fun b o h1 h2 h3 _ => c8 b o h1 h2 h3 (fun z => by cases z)) (fun h _ => h) fun l ls e => ?_
    rw [ep] at e
    cases e
  · refine ⟨_, rfl, rfl, true, rfl, iteT ?_⟩
    have hl8 : H8 pl = some (.lst pls) := c8 _ _ hpl n1 n2 (fun z => by cases z)
    have hpb8 : (bs ++ [V.ref li])[pi]? = some (.ref pl) := getA _ _ hpb
    refine ⟨_, rfl, a, CT, dx, _, _, rfl, a8, c.cls, c.n2, rfl, _, rfl, B, _, pi, _, rfl, rfl, SqL.of B8, atI_nat hpb8, .inl ⟨rfl, pls, SqL.of hl8⟩, _, rfl, pl, pls, _, rfl, rfl, hl8, sz_lt (by omega), ?_⟩
    refine main _ (fun b o h1 h2 h3 h4 => ?_) (fun {b o} h n => ?_) fun l ls e => ?_
    · rw [ep] at h4
      rw [upd_ne (fun z => h4 (by rw [z]; rfl))]
      exact c8 b o h1 h2 h3 (fun z => by cases z)
    · rw [upd_ne (n _ _ ep)]
      exact h
    · rw [ep] at e
      cases e
      exact ⟨upd_same, n1, n2, _, hpl⟩
end
end K77
end

section
set_option Elab.async false
set_option linter.all false
set_option maxRecDepth 100000
set_option maxHeartbeats 4000000
/-! Tree's other methods, Mapping -/
namespace K77
open PySem PySem.Spec PyProof.Rows L2
theorem dep_nest : ∀ c, dep c ≤ nest c := by
  refine Con.ind (by simp [dep, nest]) (fun s => by simp [dep, nest]) (fun r c ih => by simp only [dep, nest]; omega) fun cs ih => ?_
  have : deps cs ≤ nests cs := deps_le fun c hc => Nat.le_trans (ih c hc) (nest_le_nests hc)
  simp only [dep, nest]
  omega
/-- v is a tree whose lists are rs and bs -/
def TreeIs (CT : Addr) (H : Hp) (v : V) (rs bs : List V) : Prop := ∃ a dx R B, v = .ref a ∧ H a = some (.ins CT dx (TFs R B)) ∧ H R = some (.lst rs) ∧ H B = some (.lst bs)
theorem TreeIs.same {CT : Addr} {H H' : Hp} {v : V} {rs bs : List V} (h : TreeIs CT H v rs bs) (s : Same H H') : TreeIs CT H' v rs bs := by
  obtain ⟨a, dx, R, B, e, h1, h2, h3⟩ := h
  exact ⟨a, dx, R, B, e, s _ _ h1, s _ _ h2, s _ _ h3⟩
abbrev AllN : Addr → Prop := fun _ => True
theorem Node.same {H H' : Hp} {rs bs : List V} {n i : Nat} {c : Con} (h : Node AllN H rs bs n i c) (s : Same H H') : Node AllN H' rs bs n i c := h.keep (fun a xs h => s _ _ h) (fun _ _ h => h) (fun _ _ h => h) fun l xs _ h => ⟨trivial, s _ _ h⟩
def spTree (K : PySem.W.Frag) (CT : Addr) : Sp := fun vs H Q _ => ∃ x dx v c, vs = [.ref x, v] ∧ H x = some (.ins CT dx []) ∧ CAt K H v c ∧ Sml c ∧ ∀ H' rs bs, SB x H H' → TreeIs CT H' (.ref x) rs bs → rs.length = bs.length → rs.length ≤ wt c → Node AllN H' rs bs 31 0 c → Q .non H'
def spRole (CT : Addr) : Sp := fun vs H Q _ => ∃ v rs bs r, ∃ i : Nat, vs = [v, .int i] ∧ TreeIs CT H v rs bs ∧ RoleAt H rs i r ∧ Q (.str r) H
def spNamesT (CT : Addr) : Sp := fun vs H Q _ => ∃ v rs bs t p r nt, ∃ i : Nat, vs = [v, .int i] ∧ TreeIs CT H v rs bs ∧ rs[i]? = some (.ref t) ∧ H t = some (.tup [p, r, .ref nt]) ∧ Q (.ref nt) H
theorem map_str_inj {a b : List Str} (h : a.map V.str = b.map V.str) : a = b := by
  induction a generalizing b with
  | nil => cases b with
    | nil => rfl
    | cons _ _ => cases h
  | cons x r ih => cases b with
    | nil => cases h
    | cons y q =>
      rw [List.map_cons, List.map_cons] at h
      injection h with h1 h2
      rw [V.str.inj h1, ih h2]
theorem map_int_inj {a b : List Nat} (h : a.map (fun j : Nat => V.int j) = b.map (fun j : Nat => V.int j)) : a = b := by
  induction a generalizing b with
  | nil => cases b with
    | nil => rfl
    | cons _ _ => cases h
  | cons x r ih => cases b with
    | nil => cases h
    | cons y q =>
      rw [List.map_cons, List.map_cons] at h
      injection h with h1 h2
      rw [show x = y from Int.ofNat.inj (V.int.inj h1), ih h2]
theorem RoleAt.one {H : Hp} {rs : List V} {j : Nat} {r q : Str} (a : RoleAt H rs j r) (b : RoleAt H rs j q) : r = q := by
  obtain ⟨t, p, nt, h1, h2⟩ := a
  obtain ⟨t', p', nt', h3, h4⟩ := b
  rw [h1] at h3
  cases h3
  rw [h2] at h4
  cases h4
  rfl
/-- what a node is, is known but for the order and the number of its parts -/
theorem node_le {N N' : Addr → Prop} {H : Hp} {rs bs : List V} : ∀ {n m i c c'}, Node N H rs bs n i c → Node N' H rs bs m i c' → Le c c'
  | 0, _, _, _, _, h, _ => h.elim
  | n + 1, 0, _, _, _, _, h => h.elim
  | n + 1, m + 1, i, c, c', h, h' => by
    obtain ⟨t, p, r, nt, ns, l, ch, h1, h2, h3, h4, h5, h6, h7, h8, h9⟩ := h
    obtain ⟨t', p', r', nt', ns', l', ch', g1, g2, g3, g4, g5, g6, g7, g8, g9⟩ := h'
    rw [h1] at g1
    cases g1
    rw [h2] at g2
    cases g2
    rw [h3] at g3
    have e1 := map_str_inj (HO.tup.inj (Option.some.inj g3))
    subst e1
    rw [h6] at g6
    cases g6
    rw [h8] at g8
    have e2 := map_int_inj (HO.lst.inj (Option.some.inj g8))
    subst e2
    refine le_iff.mpr ⟨fun s hs => (h4 s).mp ((g4 s).mpr hs), fun r k hk => ?_⟩
    obtain ⟨j, hj, a1, a2⟩ := g9.right _ hk
    obtain ⟨⟨r2, k2⟩, hq, b1, b2⟩ := h9.left j hj
    have := b1.one a1
    subst this
    exact ⟨k2, hq, node_le b2 a2⟩
section
variable {P : Program} {w : World} {K : PySem.W.Frag} {mg : Str → Option Value} {base : Heap} {CT : Addr}
theorem ok_grow (c : TC K CT) (D : Dm K CT "grow" "Tree.grow" s_Tree_grow ["self", "concept", "parent", "role"]) (T : Tx K mg) (c_conjuncts : Cal P w K mg base 32 "conjuncts" (spConjuncts K 31)) : ∀ n, Met P w K mg base (32 + n) CT "grow" (spGrow K CT n)
  | 0 => met_void c.cls D fun vs H Q E h => by
    obtain ⟨a, dx, R, B, rs, bs, v, d, p, r, par, _, _, _, _, _, _, _, _, _, h, _⟩ := h
    exact absurd h (Nat.not_lt_zero _)
  | n + 1 => step_grow c D T (c_conjuncts.up (Nat.le_add_right _ _)) (ok_grow c D T c_conjuncts n)
theorem ok_tree (c : TC K CT) (D : Di K mg "Tree" CT "Tree.__init__" s_Tree___init__ ["self", "concept"]) (T : Tx K mg) (c_grow : Met P w K mg base 63 CT "grow" (spGrow K CT 31)) : Mak P w K mg base 64 "Tree" CT (spTree K CT) := by
  refine mak_of D sc_Tree___init__ (fun vs H Q E h => ?_) (fun f cdv A outer s H vs Q E hr h => ?_)
  · obtain ⟨x, dx, v, d, rfl, _⟩ := h
    rfl
  obtain ⟨x, dx, v, d, rfl, hx, hv, g, q⟩ := h
  refine ⟨_, (pss_cons (ps_fld (pv 0) (pe_lst pa_nil) rfl)
    (pss_cons (ps_fld (pv 0) (pe_lst pa_nil) rfl)
    (pss_one (ps_expr (pm c_grow hr (pv 0) (pa_cons (pv 1) (pa_cons pe_non (pa_cons pe_non pa_nil)))))))), ?_⟩
  refine ⟨Nat.zero_le _, fun R nR => ?_⟩
  have x1 : (upd H R (.lst [])) x = some (.ins CT dx []) := (same_new nR) _ _ hx
  refine ⟨_, rfl, x, CT, dx, _, rfl, x1, c.cls, c.n1, by simp, ?_⟩
  generalize h2 : upd (upd H R (.lst [])) x (.ins CT dx (putF "rows" (.ref R) [])) = H2
  have x2 : H2 x = some (.ins CT dx [("rows", .ref R)]) := by rw [← h2]; exact upd_same
  have R2 : H2 R = some (.lst []) := by rw [← h2, upd_ne (Ne.symm (ne_of_none hx nR)), upd_same]
  have b2 : SB x H H2 := by rw [← h2]; exact (SB.of (same_new nR)).trans SB.upd
  clear h2 x1
  refine ⟨Nat.zero_le _, fun B nB => ?_⟩
  have x3 : (upd H2 B (.lst [])) x = some (.ins CT dx [("rows", .ref R)]) := (same_new nB) _ _ x2
  refine ⟨_, rfl, x, CT, dx, _, rfl, x3, c.cls, c.n2, by simp, ?_⟩
  generalize h4 : upd (upd H2 B (.lst [])) x (.ins CT dx (putF "below" (.ref B) [("rows", .ref R)])) = H4
  have x4 : H4 x = some (.ins CT dx (TFs R B)) := by rw [← h4]; exact upd_same
  have B4 : H4 B = some (.lst []) := by rw [← h4, upd_ne (Ne.symm (ne_of_none x2 nB)), upd_same]
  have R4 : H4 R = some (.lst []) := by rw [← h4, upd_ne (ne_of R2 x2 (fun z => by cases z))]; exact (same_new nB) _ _ R2
  have b4 : SB x H H4 := b2.trans (by rw [← h4]; exact (SB.of (same_new nB)).trans SB.upd)
  have rb : R ≠ B := ne_of_none R2 nB
  have nB0 : H B = none := free_put b2 nB ⟨_, x2⟩
  clear h4 x3 R2 x2
  have v4 : CAt K H4 v d := cat_tk (sb_tkI b4 hx) _ _ hv
  have gn := g.n
  have gw := g.w
  have dn : dep d < 31 := by have := dep_nest d; omega
  refine ⟨_, rfl, x, dx, _, rfl, x4, rfl, _, rfl, ?_⟩
  refine ⟨x, dx, R, B, [], [], v, d, _, _, none, rfl, x4, R4, B4, rb, rfl, by simp; omega, v4, g, dn, .inl ⟨rfl, rfl⟩, fun H' rs' bs' ch R' B' l1 l2 _ node _ => ?_⟩
  have x' : H' x = some (.ins CT dx (TFs R B)) := ch _ _ x4 (ne_of x4 R4 (fun z => by cases z)) (ne_of x4 B4 (fun z => by cases z)) (fun z => by cases z)
  refine q H' rs' bs' (fun b o hb n => ch _ _ (b4 _ _ hb n) (fun z => by rw [z, nR] at hb; cases hb) (fun z => by rw [z, nB0] at hb; cases hb) (fun z => by cases z)) ⟨x, dx, R, B, rfl, x', R', B'⟩ l1 l2 (node.keep (fun _ _ h => h) (fun _ _ h => h) (fun _ _ h => h) fun l xs _ h => ⟨trivial, h⟩)
theorem ok_role (c : TC K CT) (D : Dm K CT "role" "Tree.role" s_Tree_role ["self", "node"]) (T : Tx K mg) : Met P w K mg base 1 CT "role" (spRole CT) := by
  refine met_of c.cls D sc_Tree_role (fun vs H Q E h => ?_) (fun f cdv A outer s H vs Q E hr h => ?_)
  · obtain ⟨v, rs, bs, r, i, rfl, _⟩ := h
    rfl
  obtain ⟨v, rs, bs, r, i, rfl, ⟨a, dx, R, B, rfl, ha, hR, hB⟩, ⟨t, p, nt, hi, ht⟩, q⟩ := h
  refine ⟨_, (pss_one (ps_ret (pe_ix ix_tup (pe_ix ix_list (pe_fld (pv 0) rfl) (pv 1) (fun _ _ => rfl)) pe_int (fun _ _ => rfl)))), ?_⟩
  exact ⟨_, rfl, a, CT, dx, _, _, rfl, ha, c.cls, c.n1, rfl, _, rfl, R, rs, i, _, rfl, rfl, SqL.of hR, atI_nat hi, t, _, 1, _, rfl, rfl, SqT.of ht, atI_nat (j := 1) rfl, q⟩
theorem ok_namesT (c : TC K CT) (D : Dm K CT "names" "Tree.names" s_Tree_names ["self", "node"]) (T : Tx K mg) : Met P w K mg base 1 CT "names" (spNamesT CT) := by
  refine met_of c.cls D sc_Tree_names (fun vs H Q E h => ?_) (fun f cdv A outer s H vs Q E hr h => ?_)
  · obtain ⟨v, rs, bs, t, p, r, nt, i, rfl, _⟩ := h
    rfl
  obtain ⟨v, rs, bs, t, p, r, nt, i, rfl, ⟨a, dx, R, B, rfl, ha, hR, hB⟩, hi, ht, q⟩ := h
  refine ⟨_, (pss_one (ps_ret (pe_ix ix_tup (pe_ix ix_list (pe_fld (pv 0) rfl) (pv 1) (fun _ _ => rfl)) pe_int (fun _ _ => rfl)))), ?_⟩
  exact ⟨_, rfl, a, CT, dx, _, _, rfl, ha, c.cls, c.n1, rfl, _, rfl, R, rs, i, _, rfl, rfl, SqL.of hR, atI_nat hi, t, _, 2, _, rfl, rfl, SqT.of ht, atI_nat (j := 2) rfl, q⟩
end
end K77
end

section
set_option Elab.async false
set_option linter.all false
set_option maxRecDepth 100000
set_option maxHeartbeats 4000000
/-! Mapping -/
namespace K77
open PySem PySem.Spec PyProof.Rows L2
abbrev s_Mapping___init__ : Stmt := inClass (top 35) 0
theorem sc_Mapping___init__ : FnScope ["self", "source", "target"] ["self", "source", "target"] (defScope s_Mapping___init__) := ⟨rfl, rfl, rfl, by decide +kernel, rfl, by decide +kernel, by decide +kernel⟩
abbrev s_Mapping_fits : Stmt := inClass (top 35) 1
theorem sc_Mapping_fits : FnScope ["self", "node", "image", "key", "good", "name", "child"] ["self", "node", "image"] (defScope s_Mapping_fits) := ⟨rfl, rfl, rfl, by decide +kernel, rfl, by decide +kernel, by decide +kernel⟩
abbrev s_Mapping_child_image : Stmt := inClass (top 35) 2
theorem sc_Mapping_child_image : FnScope ["self", "child", "image", "other"] ["self", "child", "image"] (defScope s_Mapping_child_image) := ⟨rfl, rfl, rfl, by decide +kernel, rfl, by decide +kernel, by decide +kernel⟩
theorem putF_len (f : Str) (v : V) : ∀ fs : List (Str × V), (putF f v fs).length ≤ fs.length + 1
  | [] => Nat.le_refl _
  | (g, x) :: r => by
    unfold putF
    split
    · simp
    · have := putF_len f v r
      simp only [List.length_cons]
      omega
theorem inV_strs (z : Str) (l : List Str) : inV (.str z) (l.map V.str) = decide (z ∈ l) := by
  induction l with
  | nil => simp [inV]
  | cons y r ih =>
    unfold inV at ih ⊢
    rw [List.map_cons, List.any_cons, ih]
    by_cases e : y = z
    · subst e; simp [eqV]
    · simp [eqV, e, Ne.symm e]
theorem val_at {κ : Type} [DecidableEq κ] {kvs : List (κ × V)} {k : κ} {v : V} (h : valV kvs k = some v) : (k, v) ∈ kvs := by
  unfold valV at h
  obtain ⟨p, hp, e⟩ := Option.map_eq_some_iff.mp h
  have e2 : p.1 = k := by
    have := List.find?_some hp
    exact of_decide_eq_true this
  have := List.mem_of_find?_eq_some hp
  rw [← e2, ← e]
  exact this
structure MC (K : PySem.W.Frag) (CM : Addr) : Prop where
  cls : Cls K CM
  n1 : NoAttr K CM "source"
  n2 : NoAttr K CM "target"
  n3 : NoAttr K CM "known"
def MFs (s t : V) (d : Addr) : List (Str × V) := [("source", s), ("target", t), ("known", .ref d)]
/-- what is known of two trees -/
def Memo (H0 : Hp) (rS bS rT bT : List V) (kvs : List (List Key × V)) : Prop := (kvs.map (·.1)).Nodup ∧ ∀ p ∈ kvs, ∃ (i j : Nat) (b : Bool), p.1 = [Sum.inl (i : Int), Sum.inl (j : Int)] ∧ p.2 = .bl b ∧ i < rS.length ∧ j < rT.length ∧
  ∀ n m c e, Node AllN H0 rS bS n i c → Node AllN H0 rT bT m j e → (b = true ↔ Le e c)
theorem Memo.few {H0 : Hp} {rS bS rT bT : List V} {kvs : List (List Key × V)} (h : Memo H0 rS bS rT bT kvs) (h1 : rS.length ≤ 4000) (h2 : rT.length ≤ 4000) : kvs.length < sizeLine := by
  have sub : ∀ x ∈ kvs.map (·.1), x ∈ (List.range 4000).flatMap fun i : Nat => (List.range 4000).map fun j : Nat => ([Sum.inl (i : Int), Sum.inl (j : Int)] : List Key) := fun x hx => by
    obtain ⟨p, hp, rfl⟩ := List.mem_map.mp hx
    obtain ⟨i, j, b, e, _, l1, l2, _⟩ := h.2 p hp
    rw [e]
    exact List.mem_flatMap.mpr ⟨i, List.mem_range.mpr (by omega), List.mem_map.mpr ⟨j, List.mem_range.mpr (by omega), rfl⟩⟩
  have n := nodup_sub h.1 sub
  rw [List.length_map, List.length_flatMap] at n
  simp only [List.length_map, List.length_range, List.map_const', List.sum_replicate_nat] at n
  rw [sizeLine_eq]
  omega
theorem Memo.put {H0 : Hp} {rS bS rT bT : List V} {kvs : List (List Key × V)} (h : Memo H0 rS bS rT bT kvs) {i j n m : Nat} {c e : Con} {b : Bool} (l1 : i < rS.length) (l2 : j < rT.length) (hS : Node AllN H0 rS bS n i c) (hT : Node AllN H0 rT bT m j e) (iff : b = true ↔ Le e c) :
    Memo H0 rS bS rT bT (putK kvs [Sum.inl (i : Int), Sum.inl (j : Int)] (.bl b)) := by
  have new : ∃ (i' j' : Nat) (b' : Bool), ([Sum.inl (i : Int), Sum.inl (j : Int)] : List Key) = [Sum.inl (i' : Int), Sum.inl (j' : Int)] ∧ V.bl b = .bl b' ∧ i' < rS.length ∧ j' < rT.length ∧ ∀ n m c e, Node AllN H0 rS bS n i' c → Node AllN H0 rT bT m j' e → (b' = true ↔ Le e c) :=
    ⟨i, j, b, rfl, rfl, l1, l2, fun n' m' c' e' a1 a2 => iff.trans ⟨fun l => (node_le a2 hT).trans (l.trans (node_le hS a1)), fun l => (node_le hT a2).trans (l.trans (node_le a1 hS))⟩⟩
  unfold putK
  split
  · refine ⟨?_, fun p hp => ?_⟩
    · have : (kvs.map fun kv => if kv.1 = [Sum.inl (i : Int), Sum.inl (j : Int)] then (kv.1, V.bl b) else kv).map (·.1) = kvs.map (·.1) := by
        rw [List.map_map]
        refine List.map_congr_left fun x _ => ?_
        by_cases z : x.1 = [Sum.inl (i : Int), Sum.inl (j : Int)] <;> simp [z]
      rw [this]
      exact h.1
    · obtain ⟨q, hq, rfl⟩ := List.mem_map.mp hp
      by_cases z : q.1 = [Sum.inl (i : Int), Sum.inl (j : Int)]
      · rw [if_pos z, z]; exact new
      · rw [if_neg z]; exact h.2 q hq
  · rename_i no
    refine ⟨?_, fun p hp => ?_⟩
    · rw [List.map_append]
      refine List.nodup_append.mpr ⟨h.1, by simp, fun x hx y hy => ?_⟩
      cases List.mem_singleton.mp hy
      rintro rfl
      obtain ⟨q, hq, e⟩ := List.mem_map.mp hx
      exact no (List.any_eq_true.mpr ⟨q, hq, decide_eq_true e⟩)
    · rcases List.mem_append.mp hp with hp | hp
      · exact h.2 p hp
      · cases List.mem_singleton.mp hp
        exact new
/-- the mapping as it stands -/
structure MapAt (CT CM : Addr) (H0 H : Hp) (x d : Addr) (s t : V) (rS bS rT bT : List V) (kvs : List (List Key × V)) : Prop where
  ins : ∃ dx, H x = some (.ins CM dx (MFs s t d))
  same : Same H0 H
  new : H0 d = none
  src : TreeIs CT H0 s rS bS
  tgt : TreeIs CT H0 t rT bT
  dict : H d = some (.dT kvs)
  memo : Memo H0 rS bS rT bT kvs
  lS : rS.length ≤ 4000
  lT : rT.length ≤ 4000
def spMapInit (K : PySem.W.Frag) (CM : Addr) : Sp := fun vs H Q _ => ∃ x dx s t, vs = [.ref x, s, t] ∧ H x = some (.ins CM dx []) ∧ ∀ H' d, SB x H H' → H' x = some (.ins CM dx (MFs s t d)) → H' d = some (.dT []) → H d = none → Q .non H'
def spFits (CT CM : Addr) (n : Nat) : Sp := fun vs H Q _ => ∃ x, ∃ i j : Nat, ∃ H0 d s t rS bS rT bT kvs c e m, vs = [.ref x, .int i, .int j] ∧ MapAt CT CM H0 H x d s t rS bS rT bT kvs ∧ Node AllN H0 rS bS n i c ∧ Node AllN H0 rT bT m j e ∧
  ∀ H' kvs' b, SB d H H' → MapAt CT CM H0 H' x d s t rS bS rT bT kvs' → (b = true ↔ Le e c) → Q (.bl b) H'
def spChild (CT CM : Addr) (n : Nat) : Sp := fun vs H Q _ => ∃ x, ∃ i j : Nat, ∃ H0 d s t rS bS rT bT kvs c e m r, vs = [.ref x, .int i, .int j] ∧ MapAt CT CM H0 H x d s t rS bS rT bT kvs ∧ Node AllN H0 rS bS n i c ∧ RoleAt H0 rS i r ∧ Node AllN H0 rT bT m j e ∧
  ∀ H' kvs' v, SB d H H' → MapAt CT CM H0 H' x d s t rS bS rT bT kvs' → (decide (v = .non) = false ↔ ∃ k, (r, k) ∈ kids e ∧ Le k c) → Q v H'
section
variable {P : Program} {w : World} {K : PySem.W.Frag} {mg : Str → Option Value} {base : Heap} {CT CM : Addr}
theorem ok_mapping (c : MC K CM) (D : Di K mg "Mapping" CM "Mapping.__init__" s_Mapping___init__ ["self", "source", "target"]) (T : Tx K mg) : Mak P w K mg base 1 "Mapping" CM (spMapInit K CM) := by
  refine mak_of D sc_Mapping___init__ (fun vs H Q E h => ?_) (fun f cdv A outer s H vs Q E hr h => ?_)
  · obtain ⟨x, dx, a, b, rfl, _⟩ := h
    rfl
  obtain ⟨x, dx, a, b, rfl, hx, q⟩ := h
  refine ⟨_, (pss_cons (ps_fld (pv 0) (pv 1) rfl)
    (pss_cons (ps_fld (pv 0) (pv 2) rfl)
    (pss_one (ps_fld (pv 0) pe_dnewT rfl)))), ?_⟩
  refine ⟨_, rfl, _, rfl, x, CM, dx, _, rfl, hx, c.cls, c.n1, by simp, ?_⟩
  refine ⟨_, rfl, _, rfl, x, CM, dx, _, rfl, upd_same, c.cls, c.n2, Nat.lt_of_le_of_lt (putF_len _ _ _) (by simp [putF]), ?_⟩
  intro d nd
  refine ⟨_, rfl, x, CM, dx, _, rfl, by rw [upd_ne (ne_of_none upd_same nd)]; exact upd_same, c.cls, c.n3, Nat.lt_of_le_of_lt (putF_len _ _ _) (Nat.lt_of_le_of_lt (Nat.add_le_add_right (putF_len _ _ _) 1) (by simp [putF])), ?_⟩
  have xd : x ≠ d := ne_of_none upd_same nd
  refine q _ d (((SB.upd).trans SB.upd).trans ((SB.of (same_new nd)).trans SB.upd)) upd_same (by rw [upd_ne (Ne.symm xd), upd_same]) ?_
  rw [upd_ne (Ne.symm xd), upd_ne (Ne.symm xd)] at nd
  exact nd
theorem MapAt.put {H0 H H' : Hp} {x d : Addr} {s t : V} {rS bS rT bT : List V} {kvs kvs' : List (List Key × V)} (h : MapAt CT CM H0 H x d s t rS bS rT bT kvs) (sb : SB d H H') (hd : H' d = some (.dT kvs')) (m : Memo H0 rS bS rT bT kvs') : MapAt CT CM H0 H' x d s t rS bS rT bT kvs' := by
  obtain ⟨dx, hx⟩ := h.ins
  exact ⟨⟨dx, sb _ _ hx (ne_of hx h.dict (fun z => by cases z))⟩, fun b o hb => sb _ _ (h.same _ _ hb) (fun z => by rw [z, h.new] at hb; cases hb), h.new, h.src, h.tgt, hd, m, h.lS, h.lT⟩
theorem ok_child {n k : Nat} (c : MC K CM) (cT : TC K CT) (D : Dm K CM "child_image" "Mapping.child_image" s_Mapping_child_image ["self", "child", "image"]) (T : Tx K mg) (c_role : Met P w K mg base k CT "role" (spRole CT)) (c_fits : Met P w K mg base k CM "fits" (spFits CT CM n)) :
    Met P w K mg base (k + 1) CM "child_image" (spChild CT CM n) := by
  refine met_of c.cls D sc_Mapping_child_image (fun vs H Q E h => ?_) (fun f cdv A outer s H vs Q E hr h => ?_)
  · obtain ⟨x, i, j, H0, d, a, b, rS, bS, rT, bT, kvs, co, e, m, r, rfl, _⟩ := h
    rfl
  obtain ⟨x, i, j, H0, d, a, b, rS, bS, rT, bT, kvs, co, e, m, r, rfl, hm, hS, hr', hT, q⟩ := h
  refine ⟨_, (pss_cons (ps_for PassesOwn.never rfl (pi_list (pe_ix ix_list (pe_fld (pe_fld (pv 0) rfl) rfl) (pv 2) (fun _ _ => rfl))) (pg_name (i := 3) sc_Mapping_child_image.nd rfl (.inl rfl))
    (pss_one (ps_if (PW.pt (pw_and (pt_cmpR op_eq (pm c_role hr (pe_fld (pv 0) rfl) (pa_cons (pv 3) pa_nil)) (pm c_role hr (pe_fld (pv 0) rfl) (pa_cons (pv 1) pa_nil)) (nomark _)) (pw_and1 (pt_val (pm c_fits hr (pv 0) (pa_cons (pv 1) (pa_cons (pv 3) pa_nil)))))))
    (pss_one (ps_ret (pv 3)))
    pss_nil)))
    (pss_one (ps_ret pe_non))), ?_⟩
  cases m with
  | zero => exact hT.elim
  | succ m =>
  obtain ⟨t, p, r', nt, ns, l, ch, h1, h2, h3, h4, h5, h6, _, h8, h9⟩ := hT
  obtain ⟨dx, hx⟩ := hm.ins
  obtain ⟨ta, tdx, R, B, rfl, hta, hR, hB⟩ := hm.tgt
  obtain ⟨sa, sdx, R2, B2, rfl, hsa, hR2, hB2⟩ := hm.src
  have up : ∀ {H'}, MapAt CT CM H0 H' x d (.ref sa) (.ref ta) rS bS rT bT kvs → True := fun _ => trivial
  refine ⟨_, rfl, x, CM, dx, _, _, rfl, hx, c.cls, c.n2, rfl, ta, CT, tdx, _, _, rfl, hm.same _ _ hta, cT.cls, cT.n2, rfl, _, rfl, B, bT, j, _, rfl, rfl, SqL.of (hm.same _ _ hB), atI_nat h6, l, rfl, ⟨_, SqL.of (hm.same _ _ h8)⟩, ?_⟩
  have qn : ∀ H' kvs', SB d H H' → MapAt CT CM H0 H' x d (.ref sa) (.ref ta) rS bS rT bT kvs' → (∀ k ∈ (kids e).take ch.length, ¬ (k.1 = r ∧ Le k.2 co)) → Q .non H' := fun H' kvs' sb hm' no => by
    refine q H' kvs' .non sb hm' ⟨fun z => by simp at z, ?_⟩
    rintro ⟨k, hk, le⟩
    refine absurd ⟨rfl, le⟩ (no (r, k) ?_)
    rw [h9.len, List.take_length]
    exact hk
  refine for_list (K := K) (a := l) (xs := ch.map fun j : Nat => V.int j) (fun i' σ H' => ∃ y kvs', σ = [some (.ref x), some (.int (i : Nat)), some (.int (j : Nat)), y] ∧ SB d H H' ∧ MapAt CT CM H0 H' x d (.ref sa) (.ref ta) rS bS rT bT kvs' ∧ ∀ k ∈ (kids e).take i', ¬ (k.1 = r ∧ Le k.2 co))
    ⟨_, kvs, rfl, SB.refl _ _, hm, fun k hk => by simp at hk⟩ (fun i' σ H' _ ⟨_, _, _, _, hm', _⟩ => SqL.of (hm'.same _ _ h8)) ?_ ?_
  · rintro i' v σ H' hv ⟨y, kvs', rfl, sb, hm', no⟩
    rw [List.getElem?_map] at hv
    obtain ⟨o, ho, rfl⟩ := Option.map_eq_some_iff.mp hv
    obtain ⟨⟨r2, k2⟩, hk, ro, no2⟩ := h9.getL ho
    obtain ⟨dx', hx'⟩ := hm'.ins
    have tis := hm'.tgt.same hm'.same
    have sis := hm'.src.same hm'.same
    have step : ¬ (r2 = r ∧ Le k2 co) → ∀ k ∈ (kids e).take (i' + 1), ¬ (k.1 = r ∧ Le k.2 co) := fun z k hk' => by
      rw [List.take_add_one, hk, Option.toList_some, List.mem_append, List.mem_singleton] at hk'
      rcases hk' with hk' | rfl
      · exact no k hk'
      · exact z
    refine ⟨_, rfl, x, CM, dx', _, _, rfl, hx', c.cls, c.n2, rfl, ta, tdx, _, rfl, hm'.same _ _ hta, rfl, _, rfl, _, rT, bT, r2, o, rfl, tis, ro.keep (fun _ _ h => hm'.same _ _ h) (fun _ _ h => h), ?_⟩
    refine ⟨_, rfl, x, CM, dx', _, _, rfl, hx', c.cls, c.n1, rfl, sa, sdx, _, rfl, hm'.same _ _ hsa, rfl, _, rfl, _, rS, bS, r, i, rfl, sis, hr'.keep (fun _ _ h => hm'.same _ _ h) (fun _ _ h => h), rfl, decide (V.str r2 = V.str r), rfl, ?_⟩
    by_cases er : r2 = r
    · subst er
      rw [decide_eq_true rfl]
      refine iteT ⟨_, rfl, x, dx', _, rfl, hx', rfl, _, rfl, _, rfl, x, i, o, H0, d, _, _, rS, bS, rT, bT, kvs', co, k2, m, rfl, hm', hS, no2, fun H'' kvs'' bb sb'' hm'' iff => ⟨bb, rfl, ?_⟩⟩
      cases bb with
      | true => exact iteT ⟨_, rfl, q H'' kvs'' _ (sb.trans sb'') hm'' ⟨fun _ => ⟨k2, List.mem_of_getElem? hk, iff.mp rfl⟩, fun _ => by simp⟩⟩
      | false => exact iteF ⟨_, kvs'', rfl, sb.trans sb'', hm'', step fun z => by have := iff.mpr z.2; cases this⟩
    · rw [decide_eq_false (fun z => er (V.str.inj z))]
      exact iteF (iteF ⟨_, kvs', rfl, sb, hm', step fun z => er z.1⟩)
  · rintro σ H' ⟨y, kvs', rfl, sb, hm', no⟩
    rw [List.length_map] at no
    exact qn H' kvs' sb hm' no
theorem step_fits {n k : Nat} (c : MC K CM) (cT : TC K CT) (D : Dm K CM "fits" "Mapping.fits" s_Mapping_fits ["self", "node", "image"]) (T : Tx K mg) (c_names : Met P w K mg base k CT "names" (spNamesT CT)) (c_child_image : Met P w K mg base k CM "child_image" (spChild CT CM n)) :
    Met P w K mg base (k + 1) CM "fits" (spFits CT CM (n + 1)) := by
  refine met_of c.cls D sc_Mapping_fits (fun vs H Q E h => ?_) (fun f cdv A outer s H vs Q E hr h => ?_)
  · obtain ⟨x, i, j, H0, d, a, b, rS, bS, rT, bT, kvs, co, e, m, rfl, _⟩ := h
    rfl
  obtain ⟨x, i, j, H0, d, a, b, rS, bS, rT, bT, kvs, co, e, m, rfl, hm, hS, hT, q⟩ := h
  have hu := hu_of hr
  refine ⟨_, (pss_cons (ps_set (i := 3) sc_Mapping_fits.nd rfl (.inl rfl) (pe_tup (pa_cons (pv 1) (pa_cons (pv 2) pa_nil))))
    (pss_cons (ps_if (pt_cmp (pc_dnotin hu (pv 3) (pe_fld (pv 0) rfl)))
    (pss_cons (ps_set (i := 4) sc_Mapping_fits.nd rfl (.inl rfl) (pe_callB (cr_all rfl) (by rfl) T.all boot_all (pa_cons (pe_lc (own := [("name", 5)]) rfl sc_Mapping_fits.nd (pi_tup (pm c_names hr (pe_fld (pv 0) rfl) (pa_cons (pv 1) pa_nil))) (blkOk_by (N := ["self", "node", "image", "key", "good", "name", "child"]) (sc := defScope s_Mapping_fits) (own := [("name", 5)]) (by decide +kernel)) (fun _ _ _ _ _ => (pg_name (i := 5) sc_Mapping_fits.nd rfl (.inl rfl))) (fun _ _ _ _ _ => pts_nil) (fun _ _ _ _ _ => (pe_cmpR (op_in_seqB (K := K) rfl) (pv 5) (pm c_names hr (pe_fldB (K := K) rfl (pv 0) rfl) (pa_cons (pv 2) pa_nil)) rfl))) pa_nil)))
    (pss_one (ps_dput hu (pe_fld (pv 0) rfl) (pv 3) (pe_and (pv 4) (pe_one (pe_callB (cr_all rfl) (by rfl) T.all boot_all (pa_cons (pe_lc (own := [("child", 6)]) rfl sc_Mapping_fits.nd (pi_list (pe_ix ix_list (pe_fld (pe_fld (pv 0) rfl) rfl) (pv 1) (fun _ _ => rfl))) (blkOk_by (N := ["self", "node", "image", "key", "good", "name", "child"]) (sc := defScope s_Mapping_fits) (own := [("child", 6)]) (by decide +kernel)) (fun _ _ _ _ _ => (pg_name (i := 6) sc_Mapping_fits.nd rfl (.inl rfl))) (fun _ _ _ _ _ => pts_nil) (fun _ _ _ _ _ => (pe_cmpR op_notN (pm c_child_image hr (pv 0) (pa_cons (pv 6) (pa_cons (pv 2) pa_nil))) pe_non (nomark _)))) pa_nil)))) rfl)))
    pss_nil)
    (pss_one (ps_ret (pe_dget hu (pe_fld (pv 0) rfl) (pv 3) (fun _ _ => rfl)))))), ?_⟩
  cases m with
  | zero => exact hT.elim
  | succ m =>
  have hS0 := hS
  have hT0 := hT
  obtain ⟨t, p, r, nt, ns, l, ch, g1, g2, g3, g4, g5, g6, _, g8, g9⟩ := hS
  obtain ⟨t', p', r', nt', ns', l', ch', h1, h2, h3, h4, h5, h6, _, h8, h9⟩ := hT
  have li := (List.getElem?_eq_some_iff.mp g1).1
  have lj := (List.getElem?_eq_some_iff.mp h1).1
  obtain ⟨sa, sdx, R, B, rfl, hsa, hR, hB⟩ := hm.src
  obtain ⟨ta, tdx, R2, B2, rfl, hta, hR2, hB2⟩ := hm.tgt
  refine ⟨_, rfl, _, rfl, sz_le (Nat.le_trans (by decide : 2 ≤ 3) (by decide)), fun kt nkt => ?_⟩
  have s1 : Same H (upd H kt (.tup [.int i, .int j])) := same_new nkt
  have kt1 : (upd H kt (.tup [.int i, .int j])) kt = some (.tup (([Sum.inl (i : Int), Sum.inl (j : Int)] : List Key).map kV)) := upd_same
  have hm1 := hm.put (SB.of s1) (s1 _ _ hm.dict) hm.memo
  have ktd : kt ≠ d := Ne.symm (ne_of_none hm.dict nkt)
  generalize upd H kt (.tup [.int i, .int j]) = H1 at s1 kt1 hm1 ⊢
  clear nkt
  obtain ⟨dx, hx⟩ := hm1.ins
  refine ⟨_, rfl, _, rfl, x, CM, dx, _, _, rfl, hx, c.cls, c.n3, rfl, d, _, rfl, DGet.t hm1.dict kt1, _, rfl, ?_⟩
  cases hv : valV kvs ([Sum.inl (i : Int), Sum.inl (j : Int)] : List Key) with
  | some v =>
    refine iteF ⟨_, rfl, x, CM, dx, _, _, rfl, hx, c.cls, c.n3, rfl, _, rfl, d, v, rfl, by rw [← hv]; exact DGet.t hm1.dict kt1, ?_⟩
    obtain ⟨i', j', b', e1, e2, _, _, iff⟩ := hm.memo.2 _ (val_at hv)
    have e3 : i = i' := by
      have := (List.cons.inj e1).1
      have := Sum.inl.inj this
      omega
    have e4 : j = j' := by
      have := (List.cons.inj (List.cons.inj e1).2).1
      have := Sum.inl.inj this
      omega
    subst e3 e4
    dsimp only at e2
    subst e2
    exact q H1 kvs b' (SB.of s1) hm1 (iff _ _ _ _ hS0 hT0)
  | none =>
    refine iteT ?_
    have tis : ∀ {H'}, Same H0 H' → TreeIs CT H' (.ref sa) rS bS := fun s => hm.src.same s
    have tit : ∀ {H'}, Same H0 H' → TreeIs CT H' (.ref ta) rT bT := fun s => hm.tgt.same s
    have z1 := hm1.same
    refine ⟨_, rfl, x, CM, dx, _, _, rfl, hx, c.cls, c.n1, rfl, sa, sdx, _, rfl, z1 _ _ hsa, rfl, _, rfl, _, rS, bS, t, p, r, nt, i, rfl, tis z1, g1, z1 _ _ g2, nt, rfl, ⟨_, SqT.of (z1 _ _ g3)⟩, fun D nD => ?_⟩
    refine lc_tup (K := K) (xs := ns.map V.str) (fun i' H' => Same H1 H' ∧ H' D = some (.lst ((ns.take i').map fun s => V.bl (decide (s ∈ ns'))))) ⟨same_new nD, upd_same⟩ (fun i' H' _ h => SqT.of (h.1 _ _ (z1 _ _ g3))) ?_ ?_
    · rintro i' v H' hv ⟨sm, hD⟩
      rw [List.getElem?_map] at hv
      obtain ⟨z, hz, rfl⟩ := Option.map_eq_some_iff.mp hv
      have li' := (List.getElem?_eq_some_iff.mp hz).1
      have z2 := z1.trans sm
      refine ⟨rfl, _, rfl, _, rfl, x, CM, dx, _, _, rfl, sm _ _ hx, c.cls, c.n2, rfl, ta, tdx, _, rfl, z2 _ _ hta, rfl, _, rfl, _, rT, bT, t', p', r', nt', j, rfl, tit z2, h1, z2 _ _ h2, nt', ns'.map V.str, rfl, .inr (SqT.of (z2 _ _ h3)), rfl, by simp [flatV], _, hD, by rw [List.length_map, List.length_take]; exact sz_lt (by have := g5.1; omega), same_at sm nD, ?_⟩
      rw [upd_same, List.take_add_one, hz, Option.toList_some, List.map_append, if_neg Bool.false_ne_true, inV_strs]
      rfl
    rintro H2 ⟨sm2, hD⟩
    rw [List.length_map, List.take_length] at hD
    have hg : (ns.map fun s => decide (s ∈ ns')).all id = true ↔ ∀ s ∈ names co, s ∈ names e := by
      rw [List.all_eq_true]
      constructor
      · intro h s hs
        have := h _ (List.mem_map.mpr ⟨s, (g4 s).mpr hs, rfl⟩)
        exact (h4 s).mp (of_decide_eq_true this)
      · intro h b hb
        obtain ⟨s, hs, rfl⟩ := List.mem_map.mp hb
        exact decide_eq_true ((h4 s).mpr (h s ((g4 s).mp hs)))
    refine ⟨D, ns.map fun s => decide (s ∈ ns'), rfl, by rw [List.map_map]; exact SqL.of hD, ?_⟩
    generalize (ns.map fun s => decide (s ∈ ns')).all id = good at hg ⊢
    have hm2 := hm1.put (SB.of sm2) (sm2 _ _ hm1.dict) hm1.memo
    have kt2 := sm2 _ _ kt1
    -- the end, whatever was found
    have fin : ∀ H3 kvs3 b, SB d H2 H3 → MapAt CT CM H0 H3 x d (.ref sa) (.ref ta) rS bS rT bT kvs3 → (b = true ↔ Le e co) → ∃ dx, H3 x = some (.ins CM dx (MFs (.ref sa) (.ref ta) d)) ∧ H3 kt = some (.tup (([Sum.inl (i : Int), Sum.inl (j : Int)] : List Key).map kV)) ∧ H3 d = some (.dT kvs3) ∧ kvs3.length < sizeLine ∧
        ∃ dx', (upd H3 d (.dT (putK kvs3 [Sum.inl (i : Int), Sum.inl (j : Int)] (.bl b)))) x = some (.ins CM dx' (MFs (.ref sa) (.ref ta) d)) ∧ (upd H3 d (.dT (putK kvs3 [Sum.inl (i : Int), Sum.inl (j : Int)] (.bl b)))) kt = some (.tup (([Sum.inl (i : Int), Sum.inl (j : Int)] : List Key).map kV)) ∧
        Q (.bl b) (upd H3 d (.dT (putK kvs3 [Sum.inl (i : Int), Sum.inl (j : Int)] (.bl b)))) := by
      intro H3 kvs3 b sb hm3 iff
      obtain ⟨dx3, hx3⟩ := hm3.ins
      have hm4 := hm3.put (SB.upd (o := .dT (putK kvs3 [Sum.inl (i : Int), Sum.inl (j : Int)] (.bl b)))) upd_same (hm3.memo.put li lj hS0 hT0 iff)
      obtain ⟨dx4, hx4⟩ := hm4.ins
      have kt3 := sb _ _ kt2 ktd
      exact ⟨dx3, hx3, kt3, hm3.dict, hm3.memo.few hm3.lS hm3.lT, dx4, hx4, by rw [upd_ne ktd]; exact kt3, q _ _ b ((SB.of (s1.trans sm2)).trans (sb.trans SB.upd)) hm4 iff⟩
    cases good with
    | false =>
      have iff : (false = true) ↔ Le e co := ⟨fun z => (by cases z), fun le => hg.mpr fun s hs => le.nms s hs⟩
      obtain ⟨dx3, hx3, kt3, hd3, few, dx4, hx4, kt4, q4⟩ := fin H2 kvs false (SB.refl _ _) hm2 iff
      refine ⟨_, rfl, false, rfl, iteF ⟨_, rfl, x, CM, dx3, _, _, rfl, hx3, c.cls, c.n3, rfl, _, rfl, d, _, rfl, DPut.t hd3 kt3 few, ?_⟩⟩
      exact ⟨_, rfl, x, CM, dx4, _, _, rfl, hx4, c.cls, c.n3, rfl, _, rfl, d, _, rfl, by rw [show some (V.bl false) = valV (putK kvs [Sum.inl (i : Int), Sum.inl (j : Int)] (.bl false)) [Sum.inl (i : Int), Sum.inl (j : Int)] by rw [valV_put, if_pos rfl]]; exact DGet.t upd_same kt4, q4⟩
    | true =>
      obtain ⟨dx2, hx2⟩ := hm2.ins
      have z2 := hm2.same
      refine ⟨_, rfl, true, rfl, iteT ?_⟩
      refine ⟨_, rfl, x, CM, dx2, _, _, rfl, hx2, c.cls, c.n1, rfl, sa, CT, sdx, _, _, rfl, z2 _ _ hsa, cT.cls, cT.n2, rfl, _, rfl, B, bS, i, _, rfl, rfl, SqL.of (z2 _ _ hB), atI_nat g6, l, rfl, ⟨_, SqL.of (z2 _ _ g8)⟩, fun D2 nD2 => ?_⟩
      have D2d : D2 ≠ d := Ne.symm (ne_of_none hm2.dict nD2)
      have lch : ch.length ≤ 4000 := g5.2
      refine lc_list (K := K) (a := l) (xs := ch.map fun j : Nat => V.int j) (fun i' H' => ∃ kvs' bs, SB d H2 H' ∧ MapAt CT CM H0 H' x d (.ref sa) (.ref ta) rS bS rT bT kvs' ∧ H' D2 = some (.lst (bs.map V.bl)) ∧ bs.length = i' ∧ All2 (fun (b : Bool) (q : Str × Con) => b = true ↔ ∃ k, (q.1, k) ∈ kids e ∧ Le k q.2) bs ((kids co).take i'))
        ⟨kvs, [], SB.of (same_new nD2), hm2.put (SB.of (same_new nD2)) ((same_new nD2) _ _ hm2.dict) hm2.memo, upd_same, rfl, .nil⟩ (fun i' H' _ ⟨_, _, _, hm', _⟩ => SqL.of (hm'.same _ _ g8)) ?_ ?_
      · rintro i' v H' hv ⟨kvs', bs, sb, hm', hD', lb, hbs⟩
        rw [List.getElem?_map] at hv
        obtain ⟨o, ho, rfl⟩ := Option.map_eq_some_iff.mp hv
        have lo := (List.getElem?_eq_some_iff.mp ho).1
        obtain ⟨⟨r2, k2⟩, hk, ro, no⟩ := g9.getL ho
        obtain ⟨dx', hx'⟩ := hm'.ins
        refine ⟨rfl, _, rfl, x, dx', _, rfl, hx', rfl, _, rfl, _, rfl, x, o, j, H0, d, _, _, rS, bS, rT, bT, kvs', k2, e, m + 1, r2, rfl, hm', no, ro, hT0, fun H'' kvs'' v sb' hm'' iff => ⟨rfl, ?_⟩⟩
        have hD'' := sb' _ _ hD' D2d
        have sb2 : SB d H2 (upd H'' D2 (.lst (bs.map V.bl ++ [.bl (!decide (v = .non))]))) := fun b' o' hb' ne => by
          rw [upd_ne (ne_of_none hb' nD2)]
          exact sb' _ _ (sb _ _ hb' ne) ne
        refine ⟨_, hD'', by rw [List.length_map]; exact sz_lt (by omega), kvs'', bs ++ [!decide (v = .non)], sb2, hm2.put sb2 (by rw [upd_ne (Ne.symm D2d)]; exact hm''.dict) hm''.memo, by rw [upd_same, List.map_append]; rfl, by rw [List.length_append, lb]; rfl, ?_⟩
        rw [List.take_add_one, hk, Option.toList_some]
        refine hbs.snoc ?_
        rw [← iff]
        cases decide (v = V.non) <;> simp
      · rintro H3 ⟨kvs3, bs, sb, hm3, hD3, lb, hbs⟩
        rw [List.length_map, g9.len, List.take_length] at hbs
        have all_ : bs.all id = true ↔ ∀ q ∈ kids co, ∃ k, (q.1, k) ∈ kids e ∧ Le k q.2 := by
          rw [List.all_eq_true]
          constructor
          · intro h q hq
            obtain ⟨b, hb, iff⟩ := hbs.right q hq
            exact iff.mp (h b hb)
          · intro h b hb
            obtain ⟨q, hq, iff⟩ := hbs.left b hb
            exact iff.mpr (h q hq)
        have iff : bs.all id = true ↔ Le e co := by
          rw [all_]
          exact ⟨fun h => le_iff.mpr ⟨hg.mp rfl, fun r k hk => h (r, k) hk⟩, fun le q hq => le.kds q.1 q.2 hq⟩
        refine ⟨D2, bs, rfl, SqL.of hD3, ?_⟩
        obtain ⟨dx3, hx3, kt3, hd3, few, dx4, hx4, kt4, q4⟩ := fin H3 kvs3 _ sb hm3 iff
        refine ⟨_, rfl, x, CM, dx3, _, _, rfl, hx3, c.cls, c.n3, rfl, _, rfl, d, _, rfl, DPut.t hd3 kt3 few, ?_⟩
        exact ⟨_, rfl, x, CM, dx4, _, _, rfl, hx4, c.cls, c.n3, rfl, _, rfl, d, _, rfl, by rw [show some (V.bl (bs.all id)) = valV (putK kvs3 [Sum.inl (i : Int), Sum.inl (j : Int)] (.bl (bs.all id))) [Sum.inl (i : Int), Sum.inl (j : Int)] by rw [valV_put, if_pos rfl]]; exact DGet.t upd_same kt4, q4⟩
end
end K77
end

section
set_option Elab.async false
set_option linter.all false
set_option maxRecDepth 100000
set_option maxHeartbeats 4000000
/-! lies_plainly, plainly_within -/
namespace K77
open PySem PySem.Spec PyProof.Rows L2
abbrev s_lies_plainly : Stmt := top 36
theorem sc_lies_plainly : FnScope ["concept", "other"] ["concept", "other"] (defScope s_lies_plainly) := ⟨rfl, rfl, rfl, by decide +kernel, rfl, by decide +kernel, by decide +kernel⟩
abbrev s_plainly_within : Stmt := top 37
theorem sc_plainly_within : FnScope ["concept", "other"] ["concept", "other"] (defScope s_plainly_within) := ⟨rfl, rfl, rfl, by decide +kernel, rfl, by decide +kernel, by decide +kernel⟩
def spLies (K : PySem.W.Frag) : Sp := fun vs H Q _ => ∃ v u c e, vs = [v, u] ∧ CAt K H v c ∧ CAt K H u e ∧ Sml c ∧ Sml e ∧ ∀ H' b, Same H H' → (b = true ↔ Le c e) → Q (.bl b) H'
theorem same_make {H1 H2 : Hp} {x dx C : Addr} (n1 : H1 x = none) (n2 : H1 dx = none) (s : SB x (upd (upd H1 dx (.own x)) x (.ins C dx [])) H2) : Same H1 H2 := fun b o h => by
  refine s b o ?_ (ne_of_none h n1)
  rw [upd_ne (ne_of_none h n1), upd_ne (ne_of_none h n2)]
  exact h
section
variable {P : Program} {w : World} {K : PySem.W.Frag} {mg : Str → Option Value} {base : Heap} {CT CM : Addr}
theorem ok_fits (c : MC K CM) (cT : TC K CT) (D : Dm K CM "fits" "Mapping.fits" s_Mapping_fits ["self", "node", "image"]) (D2 : Dm K CM "child_image" "Mapping.child_image" s_Mapping_child_image ["self", "child", "image"]) (T : Tx K mg)
    (c_role : Met P w K mg base 1 CT "role" (spRole CT)) (c_names : Met P w K mg base 1 CT "names" (spNamesT CT)) : ∀ n, Met P w K mg base (1 + 2 * n) CM "fits" (spFits CT CM n)
  | 0 => met_void c.cls D fun vs H Q E h => by
    obtain ⟨x, i, j, H0, d, a, b, rS, bS, rT, bT, kvs, co, e, m, _, _, h, _⟩ := h
    exact h
  | n + 1 => step_fits (k := 1 + 2 * n + 1) c cT D T (c_names.up (by omega)) (ok_child (k := 1 + 2 * n) c cT D2 T (c_role.up (by omega)) (ok_fits c cT D D2 T c_role c_names n))
theorem ok_lies (D : Df K mg "lies_plainly" s_lies_plainly ["concept", "other"]) (T : Tx K mg) (c_has_none : Cal P w K mg base 96 "has_none" (spHasNone K)) (c_Tree : Mak P w K mg base 64 "Tree" CT (spTree K CT)) (c_Mapping : Mak P w K mg base 1 "Mapping" CM (spMapInit K CM)) (c_fits : Met P w K mg base 63 CM "fits" (spFits CT CM 31)) :
    Cal P w K mg base 97 "lies_plainly" (spLies K) := by
  refine cal_of D sc_lies_plainly (fun vs H Q E h => ?_) (fun f cdv A outer s H vs Q E hr h => ?_)
  · obtain ⟨v, u, c, e, rfl, _⟩ := h
    rfl
  obtain ⟨v, u, c, e, rfl, hv, hu, gc, ge, q⟩ := h
  refine ⟨_, (pss_cons (ps_if (pt_val (pc c_has_none hr (by rfl) (pa_cons (pv 0) pa_nil)))
    (pss_one (ps_ret pe_bl))
    pss_nil)
    (pss_one (ps_ret (pe_and (pe_not (pc c_has_none hr (by rfl) (pa_cons (pv 1) pa_nil))) (pe_one (pm c_fits hr (pk c_Mapping hr (by rfl) (pa_cons (pk c_Tree hr (by rfl) (pa_cons (pv 1) pa_nil)) (pa_cons (pk c_Tree hr (by rfl) (pa_cons (pv 0) pa_nil)) pa_nil))) (pa_cons pe_int (pa_cons pe_int pa_nil)))))))), ?_⟩
  refine ⟨_, rfl, v, c, rfl, hv, gc, fun H1 s1 => ⟨false, rfl, iteF ?_⟩⟩
  refine ⟨_, rfl, u, e, rfl, cat_same s1 hu, ge, fun H2 s2 => ⟨false, rfl, true, rfl, iteT ?_⟩⟩
  have s12 := s1.trans s2
  refine ⟨_, rfl, fun x1 d1 n1 m1 ne1 => ⟨x1, d1, u, e, rfl, upd_same, cat_same ((s12.trans (same_new m1)).trans (same_new (by rw [upd_ne (Ne.symm ne1)]; exact n1))) hu, ge, fun H3 rs1 bs1 sb1 tis1 len1 lt1 node1 => ⟨rfl, ?_⟩⟩⟩
  have s3 := s12.trans (same_make n1 m1 sb1)
  refine ⟨_, rfl, fun x2 d2 n2 m2 ne2 => ⟨x2, d2, v, c, rfl, upd_same, cat_same ((s3.trans (same_new m2)).trans (same_new (by rw [upd_ne (Ne.symm ne2)]; exact n2))) hv, gc, fun H4 rs2 bs2 sb2 tis2 len2 lt2 node2 => ⟨rfl, ?_⟩⟩⟩
  have s34 := same_make n2 m2 sb2
  intro x3 d3 n3 m3 ne3
  refine ⟨x3, d3, .ref x1, .ref x2, rfl, upd_same, fun H5 d sb5 hx5 hd5 hd4 => ⟨rfl, ?_⟩⟩
  have s45 := same_make n3 m3 sb5
  have hd : H4 d = none := ((same_new m3).trans (same_new (by rw [upd_ne (Ne.symm ne3)]; exact n3))).free hd4
  have wc := gc.w
  have we := ge.w
  have ma : MapAt CT CM H4 H5 x3 d (.ref x1) (.ref x2) rs1 bs1 rs2 bs2 [] := ⟨⟨d3, hx5⟩, s45, hd, tis1.same s34, tis2, hd5, ⟨List.nodup_nil, fun p hp => nomatch hp⟩, by omega, by omega⟩
  refine ⟨_, d3, _, rfl, hx5, rfl, x3, 0, 0, H4, d, _, _, rs1, bs1, rs2, bs2, [], e, c, 31, rfl, ma, node1.same s34, node2, fun H6 kvs' b sb6 m6 iff => q H6 b ((s3.trans s34).trans m6.same) iff⟩
theorem ok_within (D : Df K mg "plainly_within" s_plainly_within ["concept", "other"]) (c_check_concept : Cal P w K mg base 34 "check_concept" (spConcept K .non)) (c_lies_plainly : Cal P w K mg base 97 "lies_plainly" (spLies K)) : Cal P w K mg base 98 "plainly_within" (spLies K) := by
  refine cal_of D sc_plainly_within (fun vs H Q E h => ?_) (fun f cdv A outer s H vs Q E hr h => ?_)
  · obtain ⟨v, u, c, e, rfl, _⟩ := h
    rfl
  obtain ⟨v, u, c, e, rfl, hv, hu, gc, ge, q⟩ := h
  refine ⟨_, (pss_cons (ps_expr (pc c_check_concept hr (by rfl) (pa_cons (pv 0) pa_nil)))
    (pss_cons (ps_expr (pc c_check_concept hr (by rfl) (pa_cons (pv 1) pa_nil)))
    (pss_one (ps_ret (pc c_lies_plainly hr (by rfl) (pa_cons (pv 0) (pa_cons (pv 1) pa_nil))))))), ?_⟩
  refine ⟨_, rfl, v, c, rfl, hv, gc, fun H1 s1 => ?_⟩
  refine ⟨_, rfl, u, e, rfl, cat_same s1 hu, ge, fun H2 s2 => ?_⟩
  exact ⟨_, rfl, _, rfl, v, u, c, e, rfl, cat_same (s1.trans s2) hv, cat_same (s1.trans s2) hu, gc, ge, fun H3 b s3 iff => q H3 b ((s1.trans s2).trans s3) iff⟩
end
end K77
end

section
set_option Elab.async false
set_option linter.all false
set_option maxRecDepth 100000
set_option maxHeartbeats 4000000
/-! Dicts from the texts of concepts to the concepts. -/
namespace K77
open PySem PySem.Spec PyProof.Rows L2

/-- the dict holds the concepts M by their texts -/
def Itm (K : PySem.W.Frag) (H : Hp) (kvs : List (Key × V)) (M : List Con) : Prop := All2 (fun (p : Key × V) (c : Con) => p.1 = Sum.inr (txt c) ∧ CAt K H p.2 c) kvs M
section
variable {K : PySem.W.Frag} {H H' : Hp} {kvs : List (Key × V)} {M : List Con} {c : Con} {v : V}
theorem Itm.tk (h : Itm K H kvs M) (t : TupK K H H') : Itm K H' kvs M := h.imp fun _ _ q => ⟨q.1, cat_tk t _ _ q.2⟩
theorem Itm.keys (h : Itm K H kvs M) : kvs.map (·.1) = (M.map txt).map Sum.inr := by
  induction h with
  | nil => rfl
  | cons a _ ih => rw [List.map_cons, List.map_cons, List.map_cons, ih, a.1]
theorem key_ne {a b : Con} (ga : Good a) (gb : Good b) : (Sum.inr (txt a) : Key) = Sum.inr (txt b) ↔ a = b := ⟨fun e => txt_inj ga gb (Sum.inr.inj e), fun e => by rw [e]⟩
theorem Itm.val (h : Itm K H kvs M) (gM : ∀ x ∈ M, Good x) (gc : Good c) : (c ∈ M → ∃ v, valV kvs (Sum.inr (txt c) : Key) = some v ∧ CAt K H v c) ∧ (c ∉ M → valV kvs (Sum.inr (txt c) : Key) = none) := by
  induction h with
  | nil => exact ⟨fun z => (nomatch z), fun _ => rfl⟩
  | @cons p d ps ds a _ ih =>
    obtain ⟨i1, i2⟩ := ih fun x hx => gM x (List.mem_cons_of_mem _ hx)
    by_cases e : d = c
    · subst e
      exact ⟨fun _ => ⟨p.2, valV_pos a.1, a.2⟩, fun z => absurd List.mem_cons_self z⟩
    · have ne : ¬ p.1 = Sum.inr (txt c) := fun z => e ((key_ne (gM d List.mem_cons_self) gc).mp (a.1.symm.trans z))
      rw [valV_neg ne]
      exact ⟨fun z => i1 ((List.mem_cons.mp z).resolve_left fun q => e q.symm), fun z => i2 fun q => z (List.mem_cons_of_mem _ q)⟩
theorem Itm.put (h : Itm K H kvs M) (gM : ∀ x ∈ M, Good x) (nd : M.Nodup) (gc : Good c) (hv : CAt K H v c) : ∃ M', Itm K H (putK kvs (Sum.inr (txt c) : Key) v) M' ∧ M'.Nodup ∧ ∀ x, x ∈ M' ↔ x ∈ M ∨ x = c := by
  unfold putK
  rw [valV_any]
  by_cases hm : c ∈ M
  · obtain ⟨u, e, _⟩ := (h.val gM gc).1 hm
    rw [e, if_pos (show (some u).isSome = true from rfl)]
    refine ⟨M, ?_, nd, fun x => ⟨.inl, fun z => z.elim id fun q => q ▸ hm⟩⟩
    clear e hm nd
    induction h with
    | nil => exact .nil
    | @cons p d ps ds a _ ih =>
      refine .cons ?_ (ih fun x hx => gM x (List.mem_cons_of_mem _ hx))
      dsimp only
      by_cases z : p.1 = Sum.inr (txt c)
      · rw [if_pos z]
        have := (key_ne (gM d List.mem_cons_self) gc).mp (a.1.symm.trans z)
        subst this
        exact ⟨a.1, hv⟩
      · rw [if_neg z]
        exact a
  · rw [(h.val gM gc).2 hm, if_neg (by simp)]
    refine ⟨M ++ [c], h.snoc ⟨rfl, hv⟩, List.nodup_append.mpr ⟨nd, by simp, fun a ha b hb => ?_⟩, fun x => by rw [List.mem_append, List.mem_singleton]⟩
    rw [List.mem_singleton.mp hb]
    exact fun e => hm (e ▸ ha)
end
theorem txt_nm (s : Str) : txt (.nm s) = s := by
  refine str_eq ?_
  simp [txt, tx, cl]
/-- the texts in order are concepts in order -/
theorem asc_of : ∀ {ys : List Str} {m : List Con}, All2 (fun y c => y = txt c) ys m → (ys.Pairwise fun x y => x.cps.toList ≤ y.cps.toList) → m.Nodup → (∀ x ∈ m, Good x) → Asc tx m
  | _, _, .nil, _, _, _ => List.Pairwise.nil
  | _, _, .cons (b := c) (l := ys) (m := m) e t, up, nd, g => by
    obtain ⟨u1, u2⟩ := List.pairwise_cons.mp up
    obtain ⟨n1, n2⟩ := List.nodup_cons.mp nd
    refine List.pairwise_cons.mpr ⟨fun d hd => ?_, asc_of t u2 n2 fun x hx => g x (List.mem_cons_of_mem _ hx)⟩
    obtain ⟨y, hy, ey⟩ := t.right d hd
    have le := u1 y hy
    rw [e, ey] at le
    refine Classical.byContradiction fun no => ?_
    have eq := List.le_antisymm le (List.not_lt.mp no)
    have : c = d := tx_inj (g c List.mem_cons_self) (g d (List.mem_cons_of_mem _ hd)) (by simpa [txt] using eq)
    exact n1 (this ▸ hd)
theorem dd_self : ∀ (m acc : List Con), (acc ++ m).Nodup → Con.all ∉ m → m.foldl ddStep acc = acc ++ m
  | [], acc, _, _ => by simp
  | c :: r, acc, nd, no => by
    have h1 : c ∉ acc := fun z => (List.nodup_append.mp nd).2.2 c z c List.mem_cons_self rfl
    have h2 : c ≠ .all := fun z => no (z ▸ List.mem_cons_self)
    have e : ddStep acc c = acc ++ [c] := by unfold ddStep; rw [if_pos ⟨h2, h1⟩]
    rw [List.foldl_cons, e, dd_self r (acc ++ [c]) (by rw [List.append_assoc]; exact nd) fun z => no (List.mem_cons_of_mem _ z), List.append_assoc]
    rfl
theorem upd_tk {K : PySem.W.Frag} {H : Hp} {d : Addr} {o o' : HO} (h : H d = some o) (n1 : ∀ ys, o ≠ .tup ys) (n2 : ∀ u ys, o ≠ .frz u (.tup ys)) : TupK K H (upd H d o') := fun a ys q => by
  rcases q with (q | ⟨u, q⟩) | q
  · exact .inl (.inl (by rw [upd_ne (fun z => by rw [z, h] at q; exact n1 ys (Option.some.inj q))]; exact q))
  · exact .inl (.inr ⟨u, by rw [upd_ne (fun z => by rw [z, h] at q; exact n2 u ys (Option.some.inj q))]; exact q⟩)
  · exact .inr q
theorem sb_tko {K : PySem.W.Frag} {H H' : Hp} {d : Addr} {o : HO} (s : SB d H H') (h : H d = some o) (n1 : ∀ ys, o ≠ .tup ys) (n2 : ∀ u ys, o ≠ .frz u (.tup ys)) : TupK K H H' := fun a ys q => by
  rcases q with (q | ⟨u, q⟩) | q
  · exact .inl (.inl (s _ _ q (fun z => by rw [z, h] at q; exact n1 ys (Option.some.inj q))))
  · exact .inl (.inr ⟨u, s _ _ q (fun z => by rw [z, h] at q; exact n2 u ys (Option.some.inj q))⟩)
  · exact .inr q
end K77
end

section
set_option Elab.async false
set_option linter.all false
set_option maxRecDepth 100000
set_option maxHeartbeats 4000000
/-! reduced_tree, reduced_of -/
namespace K77
open PySem PySem.Spec PyProof.Rows L2
abbrev s_reduced_tree : Stmt := top 39
theorem sc_reduced_tree : FnScope ["one", "node", "somes", "child", "item", "items", "key", "name", "text", "other"] ["one", "node"] (defScope s_reduced_tree) := ⟨rfl, rfl, rfl, by decide +kernel, rfl, by decide +kernel, by decide +kernel⟩
abbrev s_reduced_of : Stmt := top 38
theorem sc_reduced_of : FnScope ["concept"] ["concept"] (defScope s_reduced_of) := ⟨rfl, rfl, rfl, by decide +kernel, rfl, by decide +kernel, by decide +kernel⟩
def spRed (K : PySem.W.Frag) (CT : Addr) (m : Nat) : Sp := fun vs H Q _ => ∃ v rs bs c, ∃ i n : Nat, vs = [v, .int i] ∧ n < m ∧ n ≤ 4 ∧ TreeIs CT H v rs bs ∧ Node AllN H rs bs 31 i c ∧ Br n c ∧ WdN n c ∧ ∀ H' u x, Same H H' → CAt K H' u x → IsRed (n + 1) c x → Q u H'
theorem Br.kid {n : Nat} {c : Con} (h : Br n c) : ∀ q ∈ kids c, ∃ n', n = n' + 1 ∧ Br n' q.2 := fun q hq => by
  cases n with
  | zero => rw [h.2] at hq; cases hq
  | succ n => exact ⟨n, rfl, h.2.2 q hq⟩
theorem Br.few {n : Nat} {c : Con} (h : Br n c) : (names c).length ≤ 3 ∧ (kids c).length ≤ 2 := by
  cases n with
  | zero => exact ⟨h.1, by rw [h.2]; exact Nat.zero_le _⟩
  | succ n => exact ⟨h.1, h.2.1⟩
theorem WdN.kid {n : Nat} {c : Con} (h : WdN (n + 1) c) : ∀ q ∈ kids c, Word q.1 ∧ WdN n q.2 := h.2
theorem WdN.nms {n : Nat} {c : Con} (h : WdN n c) : ∀ s ∈ names c, Word s := by
  cases n with
  | zero => exact h.1
  | succ n => exact h.1
theorem sml_red {n : Nat} {c x : Con} (h4 : n ≤ 4) (b : Br n c) (w : WdN n c) (h : IsRed (n + 1) c x) : Sml x := by
  obtain ⟨h1, h2⟩ := red_small b h
  have h3 := wb_mono h4
  have : wb 4 = 3436 := by decide
  exact ⟨red_good w h, by omega, by omega⟩
theorem sml_sm {n : Nat} {c x : Con} {r : Str} (h4 : n ≤ 3) (b : Br n c) (w : WdN n c) (h : IsRed (n + 1) c x) (hr : Word r) : Sml (.sm r x) := by
  obtain ⟨h1, h2⟩ := red_small b h
  have h3 := wb_mono h4
  have : wb 3 = 686 := by decide
  refine ⟨⟨hr, red_good w h⟩, ?_, ?_⟩
  · simp only [nest]; omega
  · simp only [wt]; omega
section
variable {P : Program} {w : World} {K : PySem.W.Frag} {mg : Str → Option Value} {base : Heap} {CT CM : Addr}
theorem step_red {m k : Nat} (cT : TC K CT) (D : Df K mg "reduced_tree" s_reduced_tree ["one", "node"]) (T : Tx K mg) (c_role : Met P w K mg base k CT "role" (spRole CT)) (c_names : Met P w K mg base k CT "names" (spNamesT CT)) (c_text_of : Cal P w K mg base k "text_of" (spText K 31))
    (c_lies_plainly : Cal P w K mg base k "lies_plainly" (spLies K)) (c_conjunction : Cal P w K mg base k "conjunction" (spConj K)) (c_reduced_tree : Cal P w K mg base k "reduced_tree" (spRed K CT m)) : Cal P w K mg base (k + 1) "reduced_tree" (spRed K CT (m + 1)) := by
  refine cal_of D sc_reduced_tree (fun vs H Q E h => ?_) (fun f cdv A outer s H vs Q E hr h => ?_)
  · obtain ⟨v, rs, bs, c, i, n, rfl, _⟩ := h
    rfl
  obtain ⟨v, rs, bs, c, i, n, rfl, hn, h4, tis, node, br, wd, q⟩ := h
  have hu := hu_of hr
  refine ⟨_, (pss_cons (ps_set (i := 2) sc_reduced_tree.nd rfl (.inl rfl) pe_dnewK)
    (pss_cons (ps_for PassesOwn.never rfl (pi_list (pe_ix ix_list (pe_fld (pv 0) rfl) (pv 1) (fun _ _ => rfl))) (pg_name (i := 3) sc_reduced_tree.nd rfl (.inl rfl))
    (pss_cons (ps_set (i := 4) sc_reduced_tree.nd rfl (.inr rfl) (pe_tup (pa_cons pe_str (pa_cons (pm c_role hr (pv 0) (pa_cons (pv 3) pa_nil)) (pa_cons (pc c_reduced_tree hr (by rfl) (pa_cons (pv 0) (pa_cons (pv 3) pa_nil))) pa_nil)))))
    (pss_one (ps_dput hu (pv 2) (pc c_text_of hr (by rfl) (pa_cons (pv 4) pa_nil)) (pv 4) rfl))))
    (pss_cons (ps_set (i := 5) sc_reduced_tree.nd rfl (.inr rfl) (pe_dc (own := [("name", 7)]) rfl sc_reduced_tree.nd (pi_tup (pm c_names hr (pv 0) (pa_cons (pv 1) pa_nil))) (blkOk_by (N := ["one", "node", "somes", "child", "item", "items", "key", "name", "text", "other"]) (sc := defScope s_reduced_tree) (own := [("name", 7)]) (by decide +kernel)) (fun _ _ _ _ _ => (pg_name (i := 7) sc_reduced_tree.nd rfl (.inl rfl))) (fun _ _ _ _ _ => pts_nil) (fun _ _ _ _ _ => (pv 7)) (fun _ _ _ _ _ => (pv 7))))
    (pss_cons (ps_lock (ps_for PassesOwn.never rfl (pi_items (pv 2)) (pg_tup rfl (pgs_cons (pg_name (i := 6) sc_reduced_tree.nd rfl (.inr rfl)) (pgs_cons (pg_name (i := 4) sc_reduced_tree.nd rfl (.inr rfl)) pgs_nil)))
    (pss_one (ps_if (pt_not (pt_val (pe_callB (cr_any rfl) (by rfl) T.any boot_any (pa_cons (pe_lc (own := [("text", 8), ("other", 9)]) rfl sc_reduced_tree.nd (pi_items (pv 2)) (blkOk_by (N := ["one", "node", "somes", "child", "item", "items", "key", "name", "text", "other"]) (sc := defScope s_reduced_tree) (own := [("text", 8), ("other", 9)]) (by decide +kernel)) (fun _ _ _ _ _ => (pg_tupB (K := K) (n := 2) rfl rfl (pgs_cons (pg_name (i := 8) sc_reduced_tree.nd rfl (.inl rfl)) (pgs_cons (pg_name (i := 9) sc_reduced_tree.nd rfl (.inl rfl)) pgs_nil)))) (fun _ _ _ _ _ => (pts_one (pt_cmpR op_ne (pv 8) (pv 6) (nomark _)))) (fun _ _ _ _ _ => (pe_and (pe_cmpR op_eq (pe_ix (ix_tupB (K := K) rfl) (pv 4) pe_int (fun _ _ => rfl)) (pe_ix (ix_tupB (K := K) rfl) (pv 9) pe_int (fun _ _ => rfl)) (nomark _)) (pe_one (pc c_lies_plainly hr (by rfl) (pa_cons (pe_ix (ix_tupB (K := K) rfl) (pv 9) pe_int (fun _ _ => rfl)) (pa_cons (pe_ix (ix_tupB (K := K) rfl) (pv 4) pe_int (fun _ _ => rfl)) pa_nil))))))) pa_nil))))
    (pss_one (ps_dput hu (pv 5) (pv 6) (pv 4) rfl))
    pss_nil))))
    (pss_one (ps_ret (pc c_conjunction hr (by rfl) (pa_cons (pe_lc (own := [("key", 6)]) rfl sc_reduced_tree.nd (pi_list (pe_callB (cr_sortedKs rfl) (by rfl) T.sorted boot_sorted (pa_cons (pv 5) pa_nil))) (blkOk_by (N := ["one", "node", "somes", "child", "item", "items", "key", "name", "text", "other"]) (sc := defScope s_reduced_tree) (own := [("key", 6)]) (by decide +kernel)) (fun _ _ _ _ _ => (pg_name (i := 6) sc_reduced_tree.nd rfl (.inl rfl))) (fun _ _ _ _ _ => pts_nil) (fun _ _ _ _ _ => (pe_dget hu (pv 5) (pv 6) (fun _ _ => rfl)))) pa_nil)))))))), ?_⟩
  have tis0 := tis
  obtain ⟨a, dx, R, B, rfl, ha, hR, hB⟩ := tis
  obtain ⟨t, p, r, nt, ns, l, ch, g1, g2, g3, g4, g5, g6, _, g8, g9⟩ := node
  intro d nd
  have s1 : Same H (upd H d (.dK [])) := same_new nd
  have d1 : (upd H d (.dK [])) d = some (.dK []) := upd_same
  generalize upd H d (.dK []) = H1 at s1 d1 ⊢
  have sbs : ∀ {H'}, SB d H1 H' → Same H H' := fun sb b o hb => sb _ _ (s1 _ _ hb) (ne_of_none hb nd)
  refine ⟨_, rfl, a, CT, dx, _, _, rfl, s1 _ _ ha, cT.cls, cT.n2, rfl, _, rfl, B, bs, i, _, rfl, rfl, SqL.of (s1 _ _ hB), atI_nat g6, l, rfl, ⟨_, SqL.of (s1 _ _ g8)⟩, ?_⟩
  refine for_list (K := K) (a := l) (xs := ch.map fun j : Nat => V.int j) (fun i' σ H' => ∃ y z kvs M, ∃ L : List (Str × Con), σ = [some (.ref a), some (.int (i : Nat)), some (.ref d), y, z, none, none, none, none, none] ∧ SB d H1 H' ∧ H' d = some (.dK kvs) ∧ Itm K H' kvs M ∧ M.Nodup ∧
    All2 (fun (q : Str × Con) (x : Str × Con) => q.1 = x.1 ∧ IsRed n q.2 x.2) ((kids c).take i') L ∧ (∀ x, x ∈ M ↔ ∃ r y, x = .sm r y ∧ (r, y) ∈ L) ∧ (∀ x ∈ M, Sml x) ∧ kvs.length ≤ i')
    ⟨_, _, [], [], [], rfl, SB.refl _ _, d1, .nil, List.nodup_nil, .nil, fun x => by simp, (fun x hx => nomatch hx), Nat.le_refl _⟩ (fun i' σ H' _ ⟨_, _, _, _, _, _, sb, _⟩ => SqL.of (sbs sb _ _ g8)) ?_ ?_
  · rintro i' x σ H' hx ⟨y, z, kvs, M, L, rfl, sb, hd, itm, nodup, hL, mM, sM, lk⟩
    rw [List.getElem?_map] at hx
    obtain ⟨o, ho, rfl⟩ := Option.map_eq_some_iff.mp hx
    obtain ⟨⟨r2, k2⟩, hk, ro, no⟩ := g9.getL ho
    have hmem := List.mem_of_getElem? hk
    obtain ⟨n', rfl, brk⟩ := br.kid _ hmem
    obtain ⟨wr, wk⟩ := wd.kid _ hmem
    have lo := (List.getElem?_eq_some_iff.mp ho).1
    have up : ∀ {H'}, Same H H' → RoleAt H' rs o r2 := fun s => ro.keep (fun _ _ h => s _ _ h) (fun _ _ h => h)
    have tis' := tis0.same (sbs sb)
    refine ⟨_, rfl, a, dx, _, rfl, sbs sb _ _ ha, rfl, _, rfl, _, rs, bs, r2, o, rfl, tis', up (sbs sb), ?_⟩
    refine ⟨_, rfl, _, rfl, _, rs, bs, k2, o, n', rfl, by omega, by omega, tis', (no.up (by decide)).same (sbs sb), brk, wk, fun H2 u y' s2 cu red => ⟨sz_le (Nat.le_trans (by decide : 3 ≤ 4) (by decide)), fun it nit => ?_⟩⟩
    have smy : Sml (.sm r2 y') := sml_sm (by omega) brk wk red wr
    have ci : CAt K (upd H2 it (.tup [.str "some", .str r2, u])) (.ref it) (.sm r2 y') := cat_sm (SqT.of upd_same) (cat_same (same_new nit) cu)
    have s3 : Same H' (upd H2 it (.tup [.str "some", .str r2, u])) := s2.trans (same_new nit)
    generalize upd H2 it (.tup [.str "some", .str r2, u]) = H3 at ci s3 ⊢
    refine ⟨_, rfl, _, rfl, _, rfl, _, .sm r2 y', rfl, ci, smy, by have := smy.n; omega, fun H4 s4 => ?_⟩
    have s34 := s3.trans s4
    have d4 := s34 _ _ hd
    obtain ⟨M', itm', nodup', mM'⟩ := Itm.put (c := .sm r2 y') (itm.tk (same_tk s34)) (fun x hx => (sM x hx).g) nodup smy.g (cat_same s4 ci)
    have lp := length_putK kvs (Sum.inr (txt (.sm r2 y')) : Key) (.ref it)
    refine ⟨d, _, rfl, DPut.k (k := Sum.inr (txt (.sm r2 y'))) d4 (sz_lt (by omega)), _, _, _, M', L ++ [(r2, y')], rfl, (sb.trans (SB.of s34)).trans SB.upd, upd_same, itm'.tk (upd_tk d4 (fun ys e => by cases e) (fun u ys e => by cases e)), nodup', ?_, fun x => ?_, fun x hx => ?_, by omega⟩
    · rw [List.take_add_one, hk, Option.toList_some]
      exact hL.snoc ⟨rfl, red⟩
    · rw [mM', mM]
      constructor
      · rintro (⟨r, y, e, h⟩ | rfl)
        · exact ⟨r, y, e, List.mem_append_left _ h⟩
        · exact ⟨_, _, rfl, List.mem_append_right _ (List.mem_singleton.mpr rfl)⟩
      · rintro ⟨r, y, rfl, h⟩
        rcases List.mem_append.mp h with h | h
        · exact .inl ⟨r, y, rfl, h⟩
        · cases List.mem_singleton.mp h
          exact .inr rfl
    · rcases (mM' x).mp hx with h | rfl
      · exact sM x h
      · exact smy
  rintro σ H2 ⟨y, z, kvs, M, L, rfl, sb, hd, itm, nodup, hL, mM, sM, lk⟩
  rw [List.length_map, g9.len, List.take_length] at hL
  rw [List.length_map] at lk
  have lk4 : kvs.length ≤ 4000 := Nat.le_trans lk g5.2
  have s2 := sbs sb
  -- the names
  refine ⟨_, rfl, a, dx, _, rfl, s2 _ _ ha, rfl, _, rfl, _, rs, bs, t, p, r, nt, i, rfl, tis0.same s2, g1, s2 _ _ g2, nt, rfl, ⟨_, SqT.of (s2 _ _ g3)⟩, fun D nD => ?_⟩
  refine dc_tup (K := K) (xs := ns.map V.str) (fun i' H' => Same H2 H' ∧ ∃ kv M1, H' D = some (.dK kv) ∧ Itm K H' kv M1 ∧ M1.Nodup ∧ (∀ x, x ∈ M1 ↔ ∃ s ∈ ns.take i', x = .nm s) ∧ kv.length ≤ i') ⟨same_new nD, [], [], upd_same, .nil, List.nodup_nil, fun x => by simp, Nat.le_refl _⟩ (fun i' H' _ h => SqT.of (h.1 _ _ (s2 _ _ g3))) ?_ ?_
  · rintro i' x H' hx ⟨sm, kv, M1, hD, itm1, nd1, mM1, lk1⟩
    rw [List.getElem?_map] at hx
    obtain ⟨s, hs, rfl⟩ := Option.map_eq_some_iff.mp hx
    have li' := (List.getElem?_eq_some_iff.mp hs).1
    have ws : Word s := wd.nms s ((g4 s).mp (List.mem_of_getElem? hs))
    have gM1 : ∀ x ∈ M1, Good x := fun x hx => by
      obtain ⟨s', h', rfl⟩ := (mM1 x).mp hx
      exact wd.nms s' ((g4 s').mp (List.mem_of_mem_take h'))
    obtain ⟨M', itm', nodup', mM'⟩ := Itm.put (c := .nm s) (v := .str s) itm1 gM1 nd1 ws cat_nm
    rw [txt_nm] at itm'
    have lp := length_putK kv (Sum.inr s : Key) (.str s)
    refine ⟨rfl, _, rfl, _, rfl, kv, Sum.inr s, rfl, hD, sz_lt (by have := g5.1; omega), same_at sm nD, _, M', upd_same, itm'.tk (upd_tk hD (fun ys e => by cases e) (fun u ys e => by cases e)), nodup', fun x => ?_, by omega⟩
    rw [mM', mM1, List.take_add_one, hs, Option.toList_some]
    constructor
    · rintro (⟨s', h', e⟩ | rfl)
      · exact ⟨s', List.mem_append_left _ h', e⟩
      · exact ⟨s, List.mem_append_right _ (List.mem_singleton.mpr rfl), rfl⟩
    · rintro ⟨s', h', rfl⟩
      rcases List.mem_append.mp h' with h' | h'
      · exact .inl ⟨s', h', rfl⟩
      · cases List.mem_singleton.mp h'
        exact .inr rfl
  rintro H3 ⟨s3, kv1, M1, hD3, itm1, nd1, mM1, lk1⟩
  rw [List.length_map] at lk1
  rw [List.length_map, List.take_length] at mM1
  have Dd : D ≠ d := Ne.symm (ne_of_none hd nD)
  have d3 := s3 _ _ hd
  have itm3 := itm.tk (same_tk s3)
  -- the somes
  refine ⟨d, .dK kvs, d3, trivial, fun od => ?_⟩
  have tkf : TupK K H3 (upd H3 d (.frz od (.dK kvs))) := upd_tk d3 (fun ys e => by cases e) (fun u ys e => by cases e)
  have df : (upd H3 d (.frz od (.dK kvs))) d = some (.frz od (.dK kvs)) := upd_same
  have Df : (upd H3 d (.frz od (.dK kvs))) D = some (.dK kv1) := by rw [upd_ne Dd]; exact hD3
  have sf : ∀ b o, H b = some o → (upd H3 d (.frz od (.dK kvs))) b = some o ∧ b ≠ D ∧ b ≠ d := fun b o hb => by
    have n1 := ne_of_none hb nd
    exact ⟨by rw [upd_ne n1]; exact s3 _ _ (s2 _ _ hb), ne_of_none (s2 _ _ hb) nD, n1⟩
  generalize upd H3 d (.frz od (.dK kvs)) = Hf at tkf df Df sf ⊢
  refine ⟨_, rfl, d, od, kvs, rfl, df, ?_⟩
  have itmf := itm3.tk tkf
  refine for_it walk_items (fun i' σ H' => ∃ y z w' kv2 M2, σ = [some (.ref a), some (.int (i : Nat)), some (.ref d), y, z, some (.ref D), w', none, none, none] ∧ SB D Hf H' ∧ H' D = some (.dK kv2) ∧ Itm K H' kv2 M2 ∧ M2.Nodup ∧
    (∀ x, x ∈ M2 ↔ (∃ s ∈ names c, x = .nm s) ∨ (x ∈ M.take i' ∧ ∃ r y, x = .sm r y ∧ ∀ y', (r, y') ∈ L → Le y' y → y' = y)) ∧ kv2.length ≤ 4000 + i')
    ⟨_, _, _, kv1, M1, rfl, SB.refl _ _, Df, itm1.tk tkf, nd1, fun x => ?_, by have := g5.1; omega⟩ (fun i' σ H' _ ⟨_, _, _, _, _, _, sb, _⟩ => sb _ _ df (Ne.symm Dd)) ?_ ?_
  · rw [mM1]
    constructor
    · rintro ⟨s, hs, e⟩
      exact .inl ⟨s, (g4 s).mp hs, e⟩
    · rintro (⟨s, hs, e⟩ | ⟨h, _⟩)
      · exact ⟨s, (g4 s).mpr hs, e⟩
      · simp at h
  · rintro i' xx σ H4 H5 hi ⟨y, z, w', kv2, M2, rfl, sb4, hD4, itm4, nd4, mM4, lk4'⟩ ⟨T1, kx, vx, rfl, nT1, rfl, hkx, hvx⟩
    obtain ⟨pr, hpr⟩ : ∃ pr, kvs[i']? = some pr := ⟨kvs[i'], List.getElem?_eq_getElem hi⟩
    dsimp only at hkx hvx
    rw [hpr] at hkx hvx
    cases hkx
    cases hvx
    obtain ⟨x0, hx0, e0, c0⟩ := itmf.getL hpr
    have m0 : x0 ∈ M := List.mem_of_getElem? hx0
    have g0 := sM x0 m0
    obtain ⟨r0, y0, rfl, hL0⟩ := (mM x0).mp m0
    have s5 : Same H4 (upd H4 T1 (.tup [kV pr.1, pr.2])) := same_new nT1
    have tk5 : TupK K Hf (upd H4 T1 (.tup [kV pr.1, pr.2])) := fun a xs h => same_tup s5 (sb_tko sb4 Df (fun ys e => by cases e) (fun u ys e => by cases e) a xs h)
    have T15 : (upd H4 T1 (.tup [kV pr.1, pr.2])) T1 = some (.tup [kV pr.1, pr.2]) := upd_same
    have D5 := s5 _ _ hD4
    have d5 := s5 _ _ (sb4 _ _ df (Ne.symm Dd))
    generalize upd H4 T1 (.tup [kV pr.1, pr.2]) = H5 at s5 tk5 T15 D5 d5 ⊢
    have c5 := cat_tk tk5 _ _ c0
    obtain ⟨b0, u0, eb0, hb0, cu0⟩ := of_sm c5
    have k0 : kV pr.1 = .str (txt (.sm r0 y0)) := by rw [e0]; rfl
    refine ⟨T1, _, rfl, SqT.of T15, rfl, _, _, rfl, _, _, rfl, rfl, ?_⟩
    refine ⟨_, rfl, d, od, kvs, rfl, d5, fun D2 nD2 => ?_⟩
    refine it_by walk_items (fun j H' => Same H5 H' ∧ ∃ bs : List Bool, H' D2 = some (.lst (bs.map V.bl)) ∧ bs.length ≤ j ∧ (bs.any id = true ↔ ∃ y', Con.sm r0 y' ∈ M.take j ∧ y' ≠ y0 ∧ Le y' y0)) ⟨same_new nD2, [], upd_same, Nat.le_refl _, by simp⟩ (fun j H' _ h => h.1 _ _ d5) ?_ ?_
    · rintro j xx H6 _ hj ⟨sm6, bs, hD6, lb, any_⟩ ⟨T2, ky, vy, rfl, nT2, rfl, hky, hvy⟩
      obtain ⟨pq, hpq⟩ : ∃ pq, kvs[j]? = some pq := ⟨kvs[j], List.getElem?_eq_getElem hj⟩
      dsimp only at hky hvy
      rw [hpq] at hky hvy
      cases hky
      cases hvy
      obtain ⟨x1, hx1, e1, c1⟩ := itmf.getL hpq
      have m1 : x1 ∈ M := List.mem_of_getElem? hx1
      have g1' := sM x1 m1
      obtain ⟨r1, y1, rfl, hL1⟩ := (mM x1).mp m1
      have s7 : Same H6 (upd H6 T2 (.tup [kV pq.1, pq.2])) := same_new nT2
      have T27 : (upd H6 T2 (.tup [kV pq.1, pq.2])) T2 = some (.tup [kV pq.1, pq.2]) := upd_same
      have s57 := sm6.trans s7
      have D27 := s7 _ _ hD6
      generalize upd H6 T2 (.tup [kV pq.1, pq.2]) = H7 at s7 T27 s57 D27 ⊢
      have k1 : kV pq.1 = .str (txt (.sm r1 y1)) := by rw [e1]; rfl
      have c7 := cat_same s57 (cat_tk tk5 _ _ c1)
      obtain ⟨b1, u1, eb1, hb1, cu1⟩ := of_sm c7
      have hb07 := same_tup s57 hb0
      have cu07 := cat_same s57 cu0
      have tk1 : M.take (j + 1) = M.take j ++ [.sm r1 y1] := by rw [List.take_add_one, hx1, Option.toList_some]
      have put : ∀ b : Bool, (b = true ↔ (r1 = r0 ∧ y1 ≠ y0 ∧ Le y1 y0)) → ((bs ++ [b]).any id = true ↔ ∃ y', Con.sm r0 y' ∈ M.take (j + 1) ∧ y' ≠ y0 ∧ Le y' y0) := fun b hb => by
        rw [List.any_append, Bool.or_eq_true, any_, tk1]
        simp only [List.any_cons, List.any_nil, Bool.or_false, id, hb, List.mem_append, List.mem_singleton]
        constructor
        · rintro (⟨y', h1, h2⟩ | ⟨rfl, h2⟩)
          · exact ⟨y', .inl h1, h2⟩
          · exact ⟨y1, .inr rfl, h2⟩
        · rintro ⟨y', h1 | h1, h2⟩
          · exact .inl ⟨y', h1, h2⟩
          · cases h1
            exact .inr ⟨rfl, h2⟩
      have lay : ∀ (b : Bool) (H' : Hp), Same H7 H' → (b = true ↔ (r1 = r0 ∧ y1 ≠ y0 ∧ Le y1 y0)) → ∃ acc, H' D2 = some (.lst acc) ∧ acc.length < sizeLine ∧ (Same H5 (upd H' D2 (.lst (acc ++ [.bl b]))) ∧ ∃ bs : List Bool, (upd H' D2 (.lst (acc ++ [.bl b]))) D2 = some (.lst (bs.map V.bl)) ∧ bs.length ≤ j + 1 ∧ (bs.any id = true ↔ ∃ y', Con.sm r0 y' ∈ M.take (j + 1) ∧ y' ≠ y0 ∧ Le y' y0)) := fun b H' s hb =>
        ⟨_, s _ _ D27, by rw [List.length_map]; exact sz_lt (by omega), same_at (s57.trans s) nD2, bs ++ [b], by rw [upd_same, List.map_append]; rfl, by rw [List.length_append]; exact Nat.add_le_add_right lb 1, put b hb⟩
      refine ⟨T2, _, rfl, SqT.of T27, rfl, _, _, rfl, _, _, rfl, rfl, rfl, _, rfl, _, rfl, by rw [k0, k1]; rfl, _, rfl, ?_⟩
      rw [k0, k1]
      by_cases same : Con.sm r1 y1 = .sm r0 y0
      · rw [decide_eq_true (congrArg (fun x => V.str (txt x)) same)]
        cases same
        refine iteF ⟨s57, bs, D27, Nat.le_succ_of_le lb, ?_⟩
        rw [any_, tk1]
        constructor
        · rintro ⟨y', h1, h2⟩
          exact ⟨y', List.mem_append_left _ h1, h2⟩
        · rintro ⟨y', h1, h2⟩
          rcases List.mem_append.mp h1 with h1 | h1
          · exact ⟨y', h1, h2⟩
          · cases List.mem_singleton.mp h1
            exact absurd rfl h2.1
      · rw [decide_eq_false (fun z => same (txt_inj g1'.g g0.g (V.str.inj z)))]
        refine iteT ⟨_, rfl, b0, _, 1, _, eb0, rfl, hb07, atI_nat (j := 1) rfl, _, rfl, b1, _, 1, _, eb1, rfl, hb1, atI_nat (j := 1) rfl, rfl, _, rfl, ?_⟩
        by_cases er : r0 = r1
        · rw [decide_eq_true (congrArg V.str er)]
          refine iteT ⟨_, rfl, b1, _, 2, _, eb1, rfl, hb1, atI_nat (j := 2) rfl, _, rfl, b0, _, 2, _, eb0, rfl, hb07, atI_nat (j := 2) rfl, u1, u0, y1, y0, rfl, cu1, cu07, g1'.kid (r := r1) (by simp [kids, cj, smOf, List.filterMap]), g0.kid (r := r0) (by simp [kids, cj, smOf, List.filterMap]), fun H8 bb s8 iff => ?_⟩
          exact lay bb H8 s8 ⟨fun z => ⟨er.symm, fun z' => same (by rw [er, z']), iff.mp z⟩, fun z => iff.mpr z.2.2⟩
        · rw [decide_eq_false (fun z => er (V.str.inj z))]
          exact iteF (lay false H7 (fun _ _ h => h) ⟨fun z => (by cases z), fun z => absurd z.1.symm er⟩)
    · rintro H8 ⟨sm8, bs, hD8, lb, any_⟩
      refine ⟨D2, bs, rfl, SqL.of hD8, ?_⟩
      have hlen := itmf.len
      rw [hlen, List.take_length] at any_
      have D8 := sm8 _ _ D5
      have sb8 : SB D Hf H8 := (sb4.trans (SB.of s5)).trans (SB.of sm8)
      have itm8 := itm4.tk (fun a xs h => same_tup sm8 (same_tup s5 h))
      have tk0 : M.take (i' + 1) = M.take i' ++ [.sm r0 y0] := by rw [List.take_add_one, hx0, Option.toList_some]
      have keep : bs.any id = false ↔ ∀ y', (r0, y') ∈ L → Le y' y0 → y' = y0 := by
        rw [← Bool.not_eq_true, any_]
        constructor
        · intro h y' h1 h2
          exact Classical.byContradiction fun n => h ⟨y', (mM _).mpr ⟨r0, y', rfl, h1⟩, n, h2⟩
        · rintro h ⟨y', h1, h2, h3⟩
          obtain ⟨r', y'', e, hl⟩ := (mM _).mp h1
          cases e
          exact h2 (h y' hl h3)
      cases any2 : bs.any id with
      | true =>
        refine ⟨true, rfl, iteF ⟨_, _, _, kv2, M2, rfl, sb8, D8, itm8, nd4, fun x => ?_, by omega⟩⟩
        rw [mM4, tk0]
        constructor
        · rintro (h | ⟨h1, h2⟩)
          · exact .inl h
          · exact .inr ⟨List.mem_append_left _ h1, h2⟩
        · rintro (h | ⟨h1, h2⟩)
          · exact .inl h
          · rcases List.mem_append.mp h1 with h1 | h1
            · exact .inr ⟨h1, h2⟩
            · cases List.mem_singleton.mp h1
              obtain ⟨r', y', e, h3⟩ := h2
              cases e
              have := keep.mpr h3
              rw [any2] at this
              cases this
      | false =>
        have gM2 : ∀ x ∈ M2, Good x := fun x hx => by
          rcases (mM4 x).mp hx with ⟨s, hs, rfl⟩ | ⟨h, _⟩
          · exact wd.nms s hs
          · exact (sM x (List.mem_of_mem_take h)).g
        obtain ⟨M', itm', nodup', mM'⟩ := Itm.put (c := .sm r0 y0) (v := pr.2) itm8 gM2 nd4 g0.g (cat_same sm8 c5)
        have lp := length_putK kv2 pr.1 pr.2
        have few : kv2.length < sizeLine := sz_lt (by omega)
        rw [← e0] at itm'
        refine ⟨false, rfl, iteT ⟨_, rfl, _, rfl, _, rfl, D, _, rfl, DPut.k (k := pr.1) D8 few, _, _, _, _, M', rfl, sb8.trans SB.upd, upd_same, itm'.tk (upd_tk D8 (fun ys e => by cases e) (fun u ys e => by cases e)), nodup', fun x => ?_, by omega⟩⟩
        rw [mM', mM4, tk0]
        constructor
        · rintro ((h | ⟨h1, h2⟩) | rfl)
          · exact .inl h
          · exact .inr ⟨List.mem_append_left _ h1, h2⟩
          · exact .inr ⟨List.mem_append_right _ (List.mem_singleton.mpr rfl), r0, y0, rfl, keep.mp any2⟩
        · rintro (h | ⟨h1, h2⟩)
          · exact .inl (.inl h)
          · rcases List.mem_append.mp h1 with h1 | h1
            · exact .inl (.inr ⟨h1, h2⟩)
            · exact .inr (List.mem_singleton.mp h1)
  · rintro σ H4 ⟨y, z, w', kv2, M2, rfl, sb4, hD4, itm4, nd4, mM4, lk4'⟩
    have hlen := itmf.len
    rw [hlen, List.take_length] at mM4
    have d4 := sb4 _ _ df (Ne.symm Dd)
    refine ⟨d4, ?_⟩
    have tk5 : TupK K H4 (upd H4 d (.dK kvs)) := upd_tk d4 (fun ys e => by cases e) (fun u ys e => by cases e)
    have D5 : (upd H4 d (.dK kvs)) D = some (.dK kv2) := by rw [upd_ne Dd]; exact hD4
    have s5 : Same H (upd H4 d (.dK kvs)) := fun b o hb => by
      obtain ⟨h1, n1, n2⟩ := sf b o hb
      rw [upd_ne n2]
      exact sb4 _ _ h1 n1
    have itm5 := itm4.tk tk5
    generalize upd H4 d (.dK kvs) = H5 at D5 s5 itm5 ⊢
    have sM2 : ∀ x ∈ M2, Sml x := fun x hx => by
      rcases (mM4 x).mp hx with ⟨s, hs, rfl⟩ | ⟨h, _⟩
      · exact ⟨wd.nms s hs, by simp [nest], by simp [wt]⟩
      · exact sM x h
    refine ⟨_, rfl, D, kv2, M2.map txt, rfl, .inl D5, itm5.keys, fun ys sp pm up nsp => ?_⟩
    have all0 : All2 (fun y c => y = txt c) (M2.map txt) M2 := by
      have : ∀ l : List Con, All2 (fun y c => y = txt c) (l.map txt) l := fun l => by
        induction l with
        | nil => exact .nil
        | cons x r ih => exact .cons rfl ih
      exact this M2
    obtain ⟨m', am, pm'⟩ := all0.perm pm.symm
    have s6 : Same H5 (upd H5 sp (.lst (ys.map V.str))) := same_new nsp
    have sp6 : (upd H5 sp (.lst (ys.map V.str))) sp = some (.lst (ys.map V.str)) := upd_same
    generalize upd H5 sp (.lst (ys.map V.str)) = H6 at s6 sp6 ⊢
    have gm : ∀ x ∈ m', Sml x := fun x hx => sM2 x (pm'.mem_iff.mp hx)
    have ndm : m'.Nodup := pm'.nodup_iff.mpr nd4
    have lm : m'.length ≤ 5 := by
      have sub : ∀ x ∈ m', x ∈ (names c).map Con.nm ++ L.map fun q => Con.sm q.1 q.2 := fun x hx => by
        rcases (mM4 x).mp (pm'.mem_iff.mp hx) with ⟨s, hs, rfl⟩ | ⟨h, _⟩
        · exact List.mem_append_left _ (List.mem_map.mpr ⟨s, hs, rfl⟩)
        · obtain ⟨r, y, rfl, hl⟩ := (mM x).mp h
          exact List.mem_append_right _ (List.mem_map.mpr ⟨(r, y), hl, rfl⟩)
      have n := nodup_sub ndm sub
      rw [List.length_append, List.length_map, List.length_map, ← hL.len] at n
      have := br.few
      omega
    refine ⟨sp, rfl, ⟨_, SqL.of sp6⟩, fun D3 nD3 => ?_⟩
    refine lc_list (K := K) (a := sp) (xs := ys.map V.str) (fun j H' => Same H6 H' ∧ ∃ ws, H' D3 = some (.lst ws) ∧ CsAt K H' ws (m'.take j) ∧ ws.length ≤ j) ⟨same_new nD3, [], upd_same, .nil, Nat.le_refl _⟩ (fun j H' _ h => SqL.of (h.1 _ _ sp6)) ?_ ?_
    · rintro j x H7 hx ⟨s7, ws, hD7, hws, lw⟩
      rw [List.getElem?_map] at hx
      obtain ⟨yy, hy, rfl⟩ := Option.map_eq_some_iff.mp hx
      obtain ⟨e, he, ey⟩ := am.getL hy
      have lj := (List.getElem?_eq_some_iff.mp he).1
      have s67 := s6.trans s7
      obtain ⟨v, hv, cv⟩ := ((itm5.tk (same_tk s67)).val (fun x hx => (sM2 x hx).g) (gm e (List.mem_of_getElem? he)).g).1 (pm'.mem_iff.mp (List.mem_of_getElem? he))
      rw [← ey] at hv
      refine ⟨rfl, _, rfl, _, rfl, D, v, rfl, by rw [← hv]; exact DGet.k (k := Sum.inr yy) (s67 _ _ D5), ws, hD7, sz_lt (by omega), same_at s7 nD3, ws ++ [v], upd_same, ?_, by rw [List.length_append]; exact Nat.add_le_add_right lw 1⟩
      have tk := upd_tk (K := K) (o' := .lst (ws ++ [v])) hD7 (fun ys e => by cases e) (fun u ys e => by cases e)
      rw [List.take_add_one, he, Option.toList_some]
      exact (hws.imp fun _ _ h => cat_tk tk _ _ h).snoc (cat_tk tk _ _ cv)
    · rintro H7 ⟨s7, ws, hD7, hws, lw⟩
      rw [List.length_map, am.len, List.take_length] at hws
      refine ⟨D3, ws, m', rfl, SqL.of hD7, hws, gm, by omega, fun H8 v s8 cv => ?_⟩
      have no : Con.all ∉ m' := fun z => by
        rcases (mM4 _).mp (pm'.mem_iff.mp z) with ⟨s, _, e⟩ | ⟨_, r, y, e, _⟩
        · cases e
        · cases e
      have edd : dd m' = m' := by
        have := dd_self m' [] (by simpa using ndm) no
        simpa [dd] using this
      rw [edd] at cv
      refine q H8 v (mkc m') (((s5.trans s6).trans s7).trans s8) cv ⟨L, hL, m', rfl, asc_of am up ndm fun x hx => (gm x hx).g, fun x => ?_⟩
      rw [pm'.mem_iff, mM4]
      constructor
      · rintro (h | ⟨h1, r, y, rfl, h2⟩)
        · exact .inl h
        · obtain ⟨r', y', e, hl⟩ := (mM _).mp h1
          cases e
          exact .inr ⟨r, y, rfl, hl, h2⟩
      · rintro (h | ⟨r, y, rfl, hl, h2⟩)
        · exact .inl h
        · exact .inr ⟨(mM _).mpr ⟨r, y, rfl, hl⟩, r, y, rfl, h2⟩
theorem ok_red (cT : TC K CT) (D : Df K mg "reduced_tree" s_reduced_tree ["one", "node"]) (T : Tx K mg) (c_role : Met P w K mg base 1 CT "role" (spRole CT)) (c_names : Met P w K mg base 1 CT "names" (spNamesT CT)) (c_text_of : Cal P w K mg base 63 "text_of" (spText K 31))
    (c_lies_plainly : Cal P w K mg base 97 "lies_plainly" (spLies K)) (c_conjunction : Cal P w K mg base 1 "conjunction" (spConj K)) : ∀ m, Cal P w K mg base (97 + m) "reduced_tree" (spRed K CT m)
  | 0 => cal_void D fun vs H Q E h => by
    obtain ⟨v, rs, bs, c, i, n, _, h, _⟩ := h
    exact absurd h (Nat.not_lt_zero _)
  | m + 1 => step_red (k := 97 + m) cT D T (c_role.up (by omega)) (c_names.up (by omega)) (c_text_of.up (by omega)) (c_lies_plainly.up (by omega)) (c_conjunction.up (by omega)) (ok_red cT D T c_role c_names c_text_of c_lies_plainly c_conjunction m)
def spRedOf (K : PySem.W.Frag) : Sp := fun vs H Q _ => ∃ v c, ∃ n : Nat, vs = [v] ∧ CAt K H v c ∧ Sml c ∧ n ≤ 4 ∧ Br n c ∧ WdN n c ∧ ∀ H' u x, Same H H' → CAt K H' u x → IsRed (n + 1) c x → Q u H'
theorem ok_red_of (D : Df K mg "reduced_of" s_reduced_of ["concept"]) (T : Tx K mg) (c_has_none : Cal P w K mg base 96 "has_none" (spHasNone K)) (c_Tree : Mak P w K mg base 64 "Tree" CT (spTree K CT)) (c_reduced_tree : Cal P w K mg base 102 "reduced_tree" (spRed K CT 5)) :
    Cal P w K mg base 103 "reduced_of" (spRedOf K) := by
  refine cal_of D sc_reduced_of (fun vs H Q E h => ?_) (fun f cdv A outer s H vs Q E hr h => ?_)
  · obtain ⟨v, c, n, rfl, _⟩ := h
    rfl
  obtain ⟨v, c, n, rfl, hv, g, h4, br, wd, q⟩ := h
  refine ⟨_, (pss_one (ps_ret (pe_ifExp (pt_val (pc c_has_none hr (by rfl) (pa_cons (pv 0) pa_nil))) pe_str (pc c_reduced_tree hr (by rfl) (pa_cons (pk c_Tree hr (by rfl) (pa_cons (pv 0) pa_nil)) (pa_cons pe_int pa_nil)))))), ?_⟩
  refine ⟨_, rfl, v, c, rfl, hv, g, fun H1 s1 => ⟨false, rfl, iteF ?_⟩⟩
  refine ⟨_, rfl, fun x1 d1 n1 m1 ne1 => ⟨x1, d1, v, c, rfl, upd_same, cat_same ((s1.trans (same_new m1)).trans (same_new (by rw [upd_ne (Ne.symm ne1)]; exact n1))) hv, g, fun H3 rs bs sb tis len lt node => ⟨rfl, ?_⟩⟩⟩
  exact ⟨_, rs, bs, c, 0, n, rfl, by omega, h4, tis, node, br, wd, fun H' u x s' cu red => q H' u x ((s1.trans (same_make n1 m1 sb)).trans s') cu red⟩
end
end K77
end

section
set_option Elab.async false
set_option linter.all false
set_option maxRecDepth 100000
set_option maxHeartbeats 4000000
/-! Depths, least_in_depth -/
namespace K77
open PySem PySem.Spec PyProof.Rows L2
abbrev s_Depths___init__ : Stmt := inClass (top 43) 0
theorem sc_Depths___init__ : FnScope ["self", "world"] ["self", "world"] (defScope s_Depths___init__) := ⟨rfl, rfl, rfl, by decide +kernel, rfl, by decide +kernel, by decide +kernel⟩
abbrev s_Depths_write : Stmt := inClass (top 43) 1
theorem sc_Depths_write : FnScope ["self", "thing", "depth", "found", "one", "role", "other"] ["self", "thing", "depth"] (defScope s_Depths_write) := ⟨rfl, rfl, rfl, by decide +kernel, rfl, by decide +kernel, by decide +kernel⟩
abbrev s_least_in_depth : Stmt := top 44
theorem sc_least_in_depth : FnScope ["world", "thing", "depth"] ["world", "thing", "depth"] (defScope s_least_in_depth) := ⟨rfl, rfl, rfl, by decide +kernel, rfl, by decide +kernel, by decide +kernel⟩
structure DC (K : PySem.W.Frag) (CD : Addr) : Prop where
  cls : Cls K CD
  n1 : NoAttr K CD "world"
  n2 : NoAttr K CD "nodes"
def DFs (x : V) (k : Nat) : List (Str × V) := [("world", x), ("nodes", .int k)]
/-- a world as the law makes them -/
structure Wrl (rows : List (List Str)) (es : List Edge) : Prop where
  wfr : WfRows rows
  wfe : WfEdges rows.length es
  three : ∀ row ∈ rows, row.length ≤ 3
  two : ∀ t, (es.filter fun e => decide (e.1 = t)).length ≤ 2
def spDInit (CD : Addr) : Sp := fun vs H Q _ => ∃ x dx u, vs = [.ref x, u] ∧ H x = some (.ins CD dx []) ∧ ∀ H', SB x H H' → H' x = some (.ins CD dx (DFs u 0)) → Q .non H'
def spWrite (K : PySem.W.Frag) (CW CD : Addr) (n : Nat) : Sp := fun vs H Q _ => ∃ a dx u rows es, ∃ t d k : Nat, vs = [.ref a, .int t, .int d] ∧ H a = some (.ins CD dx (DFs u k)) ∧ WAt K CW H u rows es ∧ Wrl rows es ∧ t < rows.length ∧ d < n ∧ d ≤ 4 ∧ k + 2 ^ (d + 1) ≤ 1000 ∧
  ∀ H' v c k', SB a H H' → H' a = some (.ins CD dx (DFs u k')) → k' < k + 2 ^ (d + 1) → CAt K H' v c → IsW rows es d t c → Br d c → Good c → wt c ≤ wb d → nest c ≤ 2 * d + 1 → Q v H'
theorem wat_sb {K : PySem.W.Frag} {CW CD : Addr} {H H' : Hp} {a dx : Addr} {u v : V} {k : Nat} {rows : List (List Str)} {es : List Edge} (s : SB a H H') (ha : H a = some (.ins CD dx (DFs u k))) (h : WAt K CW H v rows es) : WAt K CW H' v rows es := by
  obtain ⟨b, dx', n, e, d, ns, xs, rfl, h1, h2, h3, h4, h5⟩ := h
  refine ⟨b, dx', n, e, d, ns, xs, rfl, s _ _ h1 (fun z => ?_), sb_slI s ha h2, h3.imp fun _ _ q => row_tk (sb_tkI s ha) q, sb_slI s ha h4, h5.imp fun _ _ q => eat_tk (sb_tkI s ha) q⟩
  rw [z, ha] at h1
  cases h1
theorem nodup_nm : ∀ {l : List Con}, l.Nodup → (l.filterMap nmOf).Nodup
  | [], _ => List.nodup_nil
  | c :: r, h => by
    obtain ⟨h1, h2⟩ := List.nodup_cons.mp h
    cases c with
    | nm s =>
      refine List.nodup_cons.mpr ⟨fun z => ?_, nodup_nm h2⟩
      obtain ⟨x, hx, e⟩ := List.mem_filterMap.mp z
      cases x <;> cases e
      exact h1 hx
    | _ => have := nodup_nm h2; simpa [List.filterMap, nmOf] using this
theorem nodup_sm : ∀ {l : List Con}, l.Nodup → (l.filterMap smOf).Nodup
  | [], _ => List.nodup_nil
  | c :: r, h => by
    obtain ⟨h1, h2⟩ := List.nodup_cons.mp h
    cases c with
    | sm s d =>
      refine List.nodup_cons.mpr ⟨fun z => ?_, nodup_sm h2⟩
      obtain ⟨x, hx, e⟩ := List.mem_filterMap.mp z
      cases x <;> cases e
      exact h1 hx
    | _ => have := nodup_sm h2; simpa [List.filterMap, smOf] using this
theorem wts_dd : ∀ (cs acc : List Con), wts (cs.foldl ddStep acc) ≤ wts acc + wts cs
  | [], acc => by simp [wts]
  | c :: r, acc => by
    have h := wts_dd r (ddStep acc c)
    have : wts (ddStep acc c) ≤ wts acc + wt c := by
      unfold ddStep
      split
      · rw [wts_app]; simp [wts]
      · omega
    simp only [List.foldl_cons, wts]
    omega
theorem wts_nms : ∀ l : List Str, wts (l.map Con.nm) = l.length
  | [] => rfl
  | s :: r => by rw [List.map_cons, wts, wts_nms r, wt, List.length_cons]; omega
/-- the plain law of write: the row and what lies below it make such a concept -/
theorem write_law {rows : List (List Str)} {es : List Edge} (wr : Wrl rows es) {t : Nat} {row : List Str} (ht : rows[t]? = some row) {L : List (Str × Con)} {d : Nat}
    (h0 : d = 0 → L = []) (hd : ∀ d', d = d' + 1 → All2 (fun (e : Edge) (q : Str × Con) => e.2.1 = q.1 ∧ IsW rows es d' e.2.2 q.2 ∧ Br d' q.2 ∧ Good q.2 ∧ wt q.2 ≤ wb d' ∧ nest q.2 ≤ 2 * d' + 1) (es.filter fun e => decide (e.1 = t)) L) :
    IsW rows es d t (mkc (dd (row.map Con.nm ++ L.map fun q => .sm q.1 q.2))) ∧ Br d (mkc (dd (row.map Con.nm ++ L.map fun q => .sm q.1 q.2))) ∧ Good (mkc (dd (row.map Con.nm ++ L.map fun q => .sm q.1 q.2))) ∧ wt (mkc (dd (row.map Con.nm ++ L.map fun q => .sm q.1 q.2))) ≤ wb d ∧ nest (mkc (dd (row.map Con.nm ++ L.map fun q => .sm q.1 q.2))) ≤ 2 * d + 1 := by
  have hn := wr.three row (List.mem_of_getElem? ht)
  have wrow := (wr.wfr.1 row (List.mem_of_getElem? ht)).1
  have hs : ∀ x, x ∈ dd (row.map Con.nm ++ L.map fun q => .sm q.1 q.2) ↔ (∃ s ∈ row, x = .nm s) ∨ ∃ q ∈ L, x = .sm q.1 q.2 := fun x => by
    rw [dd_mem, List.mem_append, List.mem_map, List.mem_map]
    constructor
    · rintro ⟨⟨s, h, rfl⟩ | ⟨q, h, rfl⟩, _⟩
      · exact .inl ⟨s, h, rfl⟩
      · exact .inr ⟨q, h, rfl⟩
    · rintro (⟨s, h, rfl⟩ | ⟨q, h, rfl⟩)
      · exact ⟨.inl ⟨s, h, rfl⟩, fun z => by cases z⟩
      · exact ⟨.inr ⟨q, h, rfl⟩, fun z => by cases z⟩
  have nd := dd_nodup (row.map Con.nm ++ L.map fun q => .sm q.1 q.2)
  have hw : wts (dd (row.map Con.nm ++ L.map fun q => .sm q.1 q.2)) ≤ row.length + wts (L.map fun q => .sm q.1 q.2) := by
    have := wts_dd (row.map Con.nm ++ L.map fun q => .sm q.1 q.2) []
    rw [wts_app, wts_nms] at this
    simpa [wts, dd] using this
  generalize dd (row.map Con.nm ++ L.map fun q => .sm q.1 q.2) = S at hs nd hw
  have it : ∀ x ∈ S, IsItem x := fun x hx => by
    rcases (hs x).mp hx with ⟨s, _, rfl⟩ | ⟨q, _, rfl⟩ <;> trivial
  have mn : ∀ s, s ∈ names (mkc S) ↔ s ∈ row := fun s => by
    rw [mem_names, cj_mkc it, hs]
    constructor
    · rintro (⟨s', h, e⟩ | ⟨q, _, e⟩)
      · cases e; exact h
      · cases e
    · exact fun h => .inl ⟨s, h, rfl⟩
  have mk : ∀ r k, (r, k) ∈ kids (mkc S) ↔ (r, k) ∈ L := fun r k => by
    rw [mem_kids, cj_mkc it, hs]
    constructor
    · rintro (⟨s', h, e⟩ | ⟨q, h, e⟩)
      · cases e
      · cases e; exact h
    · exact fun h => .inr ⟨(r, k), h, rfl⟩
  have hN : ∀ s, s ∈ names (mkc S) ↔ HasN rows t s := fun s => by
    rw [mn]
    exact ⟨fun h => ⟨row, ht, h⟩, fun ⟨row', e, h⟩ => by rw [ht] at e; cases e; exact h⟩
  have ln : (names (mkc S)).length ≤ 3 := by
    have nn : (names (mkc S)).Nodup := by
      unfold names
      rw [cj_mkc it]
      exact nodup_nm nd
    exact Nat.le_trans (nodup_sub nn fun x hx => (mn x).mp hx) hn
  have nk : (kids (mkc S)).Nodup := by
    unfold kids
    rw [cj_mkc it]
    exact nodup_sm nd
  have lk : (kids (mkc S)).length ≤ L.length := nodup_sub nk fun x hx => (mk x.1 x.2).mp hx
  cases d with
  | zero =>
    have e := h0 rfl
    subst e
    have k0 : kids (mkc S) = [] := List.eq_nil_iff_forall_not_mem.mpr fun x hx => nomatch (mk x.1 x.2).mp hx
    refine ⟨⟨hN, k0⟩, ⟨ln, k0⟩, good_mkc fun x hx => ?_, ?_, ?_⟩
    · rcases (hs x).mp hx with ⟨s, h, rfl⟩ | ⟨q, h, _⟩
      · exact wrow s h
      · cases h
    · have := wt_mkc (l := S)
      simp only [List.map_nil, wts] at hw
      simp only [wb]
      omega
    · refine nest_mkc (n := 0) fun x hx => ?_
      rcases (hs x).mp hx with ⟨s, h, rfl⟩ | ⟨q, h, _⟩
      · exact Nat.le_refl _
      · cases h
  | succ d =>
    have a := hd d rfl
    have l2 : L.length ≤ 2 := by rw [← a.len]; exact wr.two t
    have ea : ∀ e ∈ es.filter fun e => decide (e.1 = t), e ∈ es ∧ e.1 = t := fun e he => ⟨(List.mem_filter.mp he).1, of_decide_eq_true (List.mem_filter.mp he).2⟩
    refine ⟨⟨hN, fun r k hk => ?_, fun r o ho => ?_⟩, ⟨ln, Nat.le_trans lk l2, fun p hp => ?_⟩, good_mkc fun x hx => ?_, ?_, ?_⟩
    · obtain ⟨e, he, e1, w, _⟩ := a.right _ ((mk r k).mp hk)
      obtain ⟨e2, e3⟩ := ea e he
      refine ⟨e.2.2, ?_, w⟩
      rw [← e3, show r = e.2.1 from e1.symm]
      exact e2
    · obtain ⟨q, hq, e1, w, _⟩ := a.left (t, r, o) (List.mem_filter.mpr ⟨ho, decide_eq_true rfl⟩)
      exact ⟨q.2, (mk r q.2).mpr (by rw [show r = q.1 from e1]; exact hq), w⟩
    · obtain ⟨e, he, _, _, b, _⟩ := a.right _ ((mk p.1 p.2).mp hp)
      exact b
    · rcases (hs x).mp hx with ⟨s, h, rfl⟩ | ⟨q, h, rfl⟩
      · exact wrow s h
      · obtain ⟨e, he, e1, _, _, g, _⟩ := a.right _ h
        exact ⟨by rw [← e1]; exact (wr.wfe.1 e (ea e he).1).2.2, g⟩
    · have m := wt_mkc (l := S)
      have : wts (L.map fun q => Con.sm q.1 q.2) ≤ (L.map fun q => Con.sm q.1 q.2).length * (wb d + 1) := wts_le fun c hc => by
        obtain ⟨q, hq, rfl⟩ := List.mem_map.mp hc
        obtain ⟨e, he, _, _, _, _, w, _⟩ := a.right _ hq
        simp only [wt]
        omega
      rw [List.length_map] at this
      have m2 : L.length * (wb d + 1) ≤ 2 * (wb d + 1) := Nat.mul_le_mul_right _ l2
      simp only [wb]
      omega
    · refine Nat.le_trans (nest_mkc (n := 2 * d + 2) fun x hx => ?_) (by omega)
      rcases (hs x).mp hx with ⟨s, h, rfl⟩ | ⟨q, h, rfl⟩
      · exact Nat.zero_le _
      · obtain ⟨e, he, _, _, _, _, _, n⟩ := a.right _ h
        simp only [nest]
        omega
theorem br_wd : ∀ {n c}, Br n c → Good c → WdN n c
  | 0, c, b, g => ⟨fun s hs => good_name g hs, b.2⟩
  | n + 1, c, b, g => ⟨fun s hs => good_name g hs, fun p hp => ⟨(good_kid g hp).1, br_wd (b.2.2 p hp) (good_kid g hp).2⟩⟩
theorem dep_of_cj {n : Nat} : ∀ c, (∀ x ∈ cj c, dep x ≤ n) → dep c ≤ n := by
  refine Con.ind (fun _ => by simp [dep]) (fun s _ => by simp [dep]) (fun r c _ h => h _ (by simp [cj])) fun cs ih h => ?_
  simp only [dep]
  exact deps_le fun c hc => ih c hc fun x hx => h x (by simp only [cj]; exact mem_cjs.mpr ⟨c, hc, hx⟩)
theorem dep_br : ∀ {n c}, Br n c → dep c ≤ n
  | 0, c, b => dep_of_cj c fun x hx => by
    have it := cj_item c x hx
    cases x with
    | nm s => simp [dep]
    | sm r k =>
      have : (r, k) ∈ kids c := mem_kids.mpr hx
      rw [b.2] at this
      cases this
    | all => exact it.elim
    | an cs => exact it.elim
  | n + 1, c, b => dep_of_cj c fun x hx => by
    have it := cj_item c x hx
    cases x with
    | nm s => simp [dep]
    | sm r k =>
      have : dep k ≤ n := dep_br (b.2.2 (r, k) (mem_kids.mpr hx))
      simp only [dep]
      omega
    | all => exact it.elim
    | an cs => exact it.elim
theorem cs_row {K : PySem.W.Frag} {H : Hp} : ∀ row : List Str, CsAt K H (row.map V.str) (row.map Con.nm)
  | [] => .nil
  | s :: r => .cons cat_nm (cs_row r)
theorem sb_free {d : Addr} {H H' : Hp} (s : SB d H H') (hd : ∃ o, H' d = some o) {x : Addr} (n : H' x = none) : H x = none := by
  cases e : H x with
  | none => rfl
  | some o =>
    obtain ⟨_, hd⟩ := hd
    rw [s _ _ e (fun z => by rw [z, hd] at n; cases n)] at n
    cases n
section
variable {P : Program} {w : World} {K : PySem.W.Frag} {mg : Str → Option Value} {base : Heap} {CW CD : Addr}
theorem ok_dinit (c : DC K CD) (D : Di K mg "Depths" CD "Depths.__init__" s_Depths___init__ ["self", "world"]) : Mak P w K mg base 1 "Depths" CD (spDInit CD) := by
  refine mak_of D sc_Depths___init__ (fun vs H Q E h => ?_) (fun f cdv A outer s H vs Q E hr h => ?_)
  · obtain ⟨x, dx, u, rfl, _⟩ := h
    rfl
  obtain ⟨x, dx, u, rfl, hx, q⟩ := h
  refine ⟨_, (pss_cons (ps_fld (pv 0) (pv 1) rfl)
    (pss_one (ps_fld (pv 0) pe_int rfl))), ?_⟩
  refine ⟨_, rfl, _, rfl, x, CD, dx, _, rfl, hx, c.cls, c.n1, by simp, ?_⟩
  refine ⟨_, rfl, x, CD, dx, _, rfl, upd_same, c.cls, c.n2, Nat.lt_of_le_of_lt (putF_len _ _ _) (by simp), ?_⟩
  exact q _ (SB.upd.trans SB.upd) upd_same
theorem step_write {n k : Nat} (c : DC K CD) (D : Dm K CD "write" "Depths.write" s_Depths_write ["self", "thing", "depth"]) (T : Tx K mg) (c_names : Met P w K mg base k CW "names" (spNames K CW)) (c_edges : Met P w K mg base k CW "edges" (spEdgesOf K CW)) (c_conjunction : Cal P w K mg base k "conjunction" (spConj K))
    (c_write : Met P w K mg base k CD "write" (spWrite K CW CD n)) : Met P w K mg base (k + 1) CD "write" (spWrite K CW CD (n + 1)) := by
  refine met_of c.cls D sc_Depths_write (fun vs H Q E h => ?_) (fun f cdv A outer s H vs Q E hr h => ?_)
  · obtain ⟨a, dx, u, rows, es, t, d, k0, rfl, _⟩ := h
    rfl
  obtain ⟨a, dx, u, rows, es, t, d, k0, rfl, ha, hw, wr, ht, hd, h4, hk, q⟩ := h
  refine ⟨_, (pss_cons (ps_fldaug (pv 0) pe_int in_add)
    (pss_cons (ps_if (pt_cmpR op_gt (pe_fld (pv 0) rfl) (C8.pe_gc (by rfl) T.mnodes) (nomark _))
    (pss_one ps_never)
    pss_nil)
    (pss_cons (ps_set (i := 3) sc_Depths_write.nd rfl (.inl rfl) (pe_callTy call_list_of (by rfl) T.list boot_list (pa_cons (pe_ix ix_list (pm0 c_names hr (pe_fld (pv 0) rfl)) (pv 1) (fun _ _ => rfl)) pa_nil)))
    (pss_cons (ps_if (pt_cmpR op_gt (pv 2) pe_int (nomark _))
    (pss_one (ps_expr (pe_bm PySem.F.plainAttrs_list PySem.F.slot_list_extend PySem.F.type_list_extend mt_extend (pv 3) (pa_cons (pe_lc (own := [("one", 4), ("role", 5), ("other", 6)]) rfl sc_Depths_write.nd (pi_list (pm0 c_edges hr (pe_fld (pv 0) rfl))) (blkOk_by (N := ["self", "thing", "depth", "found", "one", "role", "other"]) (sc := defScope s_Depths_write) (own := [("one", 4), ("role", 5), ("other", 6)]) (by decide +kernel)) (fun _ _ _ _ _ => (pg_tupB (K := K) (n := 3) rfl rfl (pgs_cons (pg_name (i := 4) sc_Depths_write.nd rfl (.inl rfl)) (pgs_cons (pg_name (i := 5) sc_Depths_write.nd rfl (.inl rfl)) (pgs_cons (pg_name (i := 6) sc_Depths_write.nd rfl (.inl rfl)) pgs_nil))))) (fun _ _ _ _ _ => (pts_one (pt_cmpR op_eq (pv 4) (pv 1) (nomark _)))) (fun _ _ _ _ _ => (pe_tup (pa_cons pe_str (pa_cons (pv 5) (pa_cons (pm c_write hr (pv 0) (pa_cons (pv 6) (pa_cons (pe_op op_sub (pv 2) pe_int) pa_nil))) pa_nil)))))) pa_nil))))
    pss_nil)
    (pss_one (ps_ret (pc c_conjunction hr (by rfl) (pa_cons (pv 3) pa_nil)))))))), ?_⟩
  refine ⟨_, rfl, a, CD, dx, _, _, rfl, ha, c.cls, c.n2, rfl, k0, 1, rfl, rfl, dx, _, ha, by simp [DFs], ?_⟩
  generalize h1 : upd H a (.ins CD dx (putF "nodes" (.int ((k0 : Int) + 1)) (DFs u k0))) = H1
  have a1 : H1 a = some (.ins CD dx (DFs u (k0 + 1))) := by rw [← h1]; exact upd_same
  have b1 : SB a H H1 := by rw [← h1]; exact SB.upd
  clear h1
  have hw1 := wat_sb b1 ha hw
  obtain ⟨wa, wdx, wn, we, wd, wns, wxs, rfl, hwa, _⟩ := id hw1
  have p2 : 1 ≤ 2 ^ (d + 1) := Nat.one_le_two_pow
  refine ⟨_, rfl, a, CD, dx, _, _, rfl, a1, c.cls, c.n2, rfl, _, _, rfl, rfl, false, congrArg V.bl (decide_eq_false (by omega)), iteF ?_⟩
  obtain ⟨row, hrow⟩ : ∃ row, rows[t]? = some row := ⟨rows[t], List.getElem?_eq_getElem ht⟩
  refine ⟨_, rfl, a, CD, dx, _, _, rfl, a1, c.cls, c.n1, rfl, wa, wdx, _, rfl, hwa, rfl, _, rows, es, rfl, hw1, fun p ns np hns => ?_⟩
  obtain ⟨vb, hvb, b, rfl, hb⟩ := hns.getR hrow
  refine ⟨_, rfl, p, ns, t, _, rfl, rfl, SqL.of upd_same, atI_nat hvb, b, _, rfl, .inr hb, fun F nF => ?_⟩
  have s3 : Same H1 (upd (upd H1 p (.lst ns)) F (.lst (row.map V.str))) := (same_new np).trans (same_new nF)
  have F3 : (upd (upd H1 p (.lst ns)) F (.lst (row.map V.str))) F = some (.lst (row.map V.str)) := upd_same
  generalize upd (upd H1 p (.lst ns)) F (.lst (row.map V.str)) = H3 at s3 F3 ⊢
  have a3 := s3 _ _ a1
  have b3 : SB a H H3 := b1.trans (SB.of s3)
  have hw3 := wat_same s3 hw1
  have Fa : F ≠ a := ne_of F3 a3 (fun z => by cases z)
  have wrow := (wr.wfr.1 row (List.mem_of_getElem? hrow)).1
  have lrow := wr.three row (List.mem_of_getElem? hrow)
  have srow : ∀ x ∈ row.map Con.nm, Sml x := fun x hx => by
    obtain ⟨s, hs, rfl⟩ := List.mem_map.mp hx
    exact ⟨wrow s hs, by simp [nest], by simp [wt]⟩
  have hw4 := wb_mono h4
  have wb4 : wb 4 = 3436 := by decide
  cases d with
  | zero =>
    refine ⟨_, rfl, _, _, rfl, rfl, false, rfl, iteF ?_⟩
    refine ⟨_, rfl, F, _, row.map Con.nm, rfl, SqL.of F3, cs_row row, srow, by rw [List.length_map]; omega, fun H' v s' cv => ?_⟩
    have law := write_law wr hrow (L := []) (d := 0) (fun _ => rfl) (fun d' e => by cases e)
    simp only [List.map_nil, List.append_nil] at law
    obtain ⟨l1, l2, l3, l4, l5⟩ := law
    exact q H' v _ (k0 + 1) (b3.trans (SB.of s')) (s' _ _ a3) (by omega) cv l1 l2 l3 l4 l5
  | succ d =>
    have hB : 2 ^ (d + 1 + 1) = 2 * 2 ^ (d + 1) := by rw [Nat.pow_succ]; omega
    have p3 : 1 ≤ 2 ^ (d + 1) := Nat.one_le_two_pow
    have hwd := wb_mono (show d ≤ 3 by omega)
    have wb3 : wb 3 = 686 := by decide
    refine ⟨_, rfl, _, _, rfl, rfl, true, congrArg V.bl (decide_eq_true (by omega)), iteT ?_⟩
    obtain ⟨wa', wdx', _, _, _, _, _, ewa, hwa3, _⟩ := id hw3
    cases ewa
    refine ⟨_, rfl, .inl ⟨rfl, _, SqL.of F3⟩, _, rfl, a, CD, dx, _, _, rfl, a3, c.cls, c.n1, rfl, wa, wdx', _, rfl, hwa3, rfl, _, rows, es, rfl, hw3, fun ep xs nep hxs => ?_⟩
    have s4 : Same H3 (upd H3 ep (.lst xs)) := same_new nep
    have e4 : (upd H3 ep (.lst xs)) ep = some (.lst xs) := upd_same
    generalize upd H3 ep (.lst xs) = H4 at s4 e4 hxs ⊢
    refine ⟨ep, rfl, ⟨xs, SqL.of e4⟩, fun D nD => ?_⟩
    have a4 := s4 _ _ a3
    have Da : D ≠ a := Ne.symm (ne_of_none a4 nD)
    have ea : ep ≠ a := ne_of e4 a4 (fun z => by cases z)
    have lx := hxs.len
    have few : es.length ≤ 1000 := wr.wfe.2.2
    refine lc_list (K := K) (a := ep) (xs := xs) (fun j H' => ∃ k' ws, ∃ L : List (Str × Con), SB a H4 H' ∧ H' a = some (.ins CD dx (DFs (.ref wa) k')) ∧ k' + L.length ≤ k0 + 1 + L.length * 2 ^ (d + 1) ∧ H' D = some (.lst ws) ∧ CsAt K H' ws (L.map fun q => Con.sm q.1 q.2) ∧
      All2 (fun (e : Edge) (q : Str × Con) => e.2.1 = q.1 ∧ IsW rows es d e.2.2 q.2 ∧ Br d q.2 ∧ Good q.2 ∧ wt q.2 ≤ wb d ∧ nest q.2 ≤ 2 * d + 1) ((es.take j).filter fun e => decide (e.1 = t)) L)
      ⟨k0 + 1, [], [], SB.of (same_new nD), (same_new nD) _ _ a4, by simp, upd_same, .nil, .nil⟩ (fun j H' _ ⟨_, _, _, sb, _⟩ => SqL.of (sb _ _ e4 ea)) ?_ ?_
    · rintro j x H' hx ⟨k', ws, L, sb, a', hk', hD, hws, hL⟩
      obtain ⟨e, he, hxe⟩ := hxs.getL hx
      have hj := (List.getElem?_eq_some_iff.mp he).1
      have hmem := List.mem_of_getElem? he
      obtain ⟨e1, e2, e3⟩ := wr.wfe.1 e hmem
      obtain ⟨b5, rfl, hb5⟩ := of_eat (eat_tk (sb_tkI sb a4) hxe)
      have tk : es.take (j + 1) = es.take j ++ [e] := by rw [List.take_add_one, he, Option.toList_some]
      refine ⟨b5, _, rfl, hb5, rfl, _, _, rfl, _, _, rfl, _, _, rfl, rfl, rfl, _, rfl, _, rfl, rfl, _, rfl, ?_⟩
      by_cases et : e.1 = t
      · rw [decide_eq_true (show V.int (e.1 : Int) = V.int (t : Int) by rw [et])]
        have fl : (es.take (j + 1)).filter (fun e => decide (e.1 = t)) = (es.take j).filter (fun e => decide (e.1 = t)) ++ [e] := by rw [tk, List.filter_append]; simp [et]
        have l1 : L.length ≤ 1 := by
          have n := wr.two t
          have sp : es.filter (fun e => decide (e.1 = t)) = (es.take (j + 1)).filter (fun e => decide (e.1 = t)) ++ (es.drop (j + 1)).filter (fun e => decide (e.1 = t)) := by rw [← List.filter_append, List.take_append_drop]
          rw [sp, fl, List.length_append, List.length_append, hL.len, List.length_singleton] at n
          omega
        have kk : k' + 2 ^ (d + 1) ≤ 1000 := by
          have : L.length * 2 ^ (d + 1) ≤ 2 ^ (d + 1) + (L.length - 1) := by
            rcases Nat.le_one_iff_eq_zero_or_eq_one.mp l1 with z | z <;> rw [z] <;> omega
          rcases Nat.le_one_iff_eq_zero_or_eq_one.mp l1 with z | z <;> rw [z] at hk' this <;> omega
        have hw' := wat_sb (sb.trans (SB.refl _ _)) a4 (wat_same s4 hw3)
        refine iteT ⟨_, rfl, _, rfl, a, dx, _, rfl, a', rfl, _, rfl, _, rfl, _, _, rfl, rfl, a, dx, _, rows, es, e.2.2, d, k', ?_, a', hw', wr, e2, by omega, by omega, kk, fun H'' v y k'' sb'' a'' lt'' cv'' w1 w2 w3 w4 w5 => ⟨sz_le (Nat.le_trans (by decide : 3 ≤ 4) (by decide)), fun it nit => ?_⟩⟩
        · show [V.ref a, V.int _, V.int (((d + 1 : Nat) : Int) - 1)] = _
          rw [show ((d + 1 : Nat) : Int) - 1 = (d : Nat) by omega]
        have D'' := sb'' _ _ hD Da
        have Dit := (same_new (o := .tup [.str "some", .str e.2.1, v]) nit) _ _ D''
        have ws'' : CsAt K (upd H'' it (.tup [.str "some", .str e.2.1, v])) ws (L.map fun q => Con.sm q.1 q.2) := cs_same (same_new nit) (hws.imp fun _ _ h => cat_tk (sb_tkI sb'' a') _ _ h)
        have ci : CAt K (upd H'' it (.tup [.str "some", .str e.2.1, v])) (.ref it) (.sm e.2.1 y) := cat_sm (SqT.of upd_same) (cat_same (same_new nit) cv'')
        have sbi : SB a H' (upd H'' it (.tup [.str "some", .str e.2.1, v])) := sb''.trans (SB.of (same_new nit))
        have ai := (same_new (o := .tup [.str "some", .str e.2.1, v]) nit) _ _ a''
        generalize upd H'' it (.tup [.str "some", .str e.2.1, v]) = H5 at Dit ws'' ci sbi ai ⊢
        have lws := ws''.len
        rw [List.length_map] at lws
        have tk5 := upd_tk (K := K) (o' := .lst (ws ++ [.ref it])) Dit (fun ys e => by cases e) (fun u ys e => by cases e)
        refine ⟨ws, Dit, sz_lt (by omega), k'', ws ++ [.ref it], L ++ [(e.2.1, y)], fun b o hb ne => ?_, by rw [upd_ne (Ne.symm Da)]; exact ai, ?_, upd_same, ?_, ?_⟩
        · rw [upd_ne (ne_of_none hb nD)]
          exact sbi _ _ (sb _ _ hb ne) ne
        · rw [List.length_append, List.length_singleton, Nat.add_mul, Nat.one_mul]
          omega
        · rw [List.map_append]
          exact (ws''.imp fun _ _ h => cat_tk tk5 _ _ h).snoc (cat_tk tk5 _ _ ci)
        · rw [fl]
          exact hL.snoc ⟨rfl, w1, w2, w3, w4, w5⟩
      · rw [decide_eq_false (fun z => et (by have := V.int.inj z; omega))]
        refine iteF ⟨k', ws, L, sb, a', hk', hD, hws, ?_⟩
        rw [tk, List.filter_append]
        simpa [et] using hL
    · rintro H' ⟨k', ws, L, sb, a', hk', hD, hws, hL⟩
      rw [lx, List.take_length] at hL
      have l2 : L.length ≤ 2 := by rw [← hL.len]; exact wr.two t
      have lws := hws.len
      rw [List.length_map] at lws
      have F' := sb _ _ (s4 _ _ F3) Fa
      refine ⟨F, D, _, ws, rfl, rfl, F', hD, sz_le (by rw [List.length_map]; omega), ?_⟩
      have tk5 := upd_tk (K := K) (o' := .lst (row.map V.str ++ ws)) F' (fun ys e => by cases e) (fun u ys e => by cases e)
      have law := write_law wr hrow (L := L) (d := d + 1) (fun z => by cases z) (fun d' e => by cases e; exact hL)
      obtain ⟨l1, l2', l3, l4, l5⟩ := law
      refine ⟨_, rfl, F, _, row.map Con.nm ++ L.map fun q => .sm q.1 q.2, rfl, SqL.of upd_same, All2.app (cs_row row) (hws.imp fun _ _ h => cat_tk tk5 _ _ h), fun x hx => ?_, by rw [List.length_append, List.length_map, List.length_map]; omega, fun H'' v s'' cv => ?_⟩
      · rcases List.mem_append.mp hx with hx | hx
        · exact srow x hx
        · obtain ⟨q, hq, rfl⟩ := List.mem_map.mp hx
          obtain ⟨e, he, e1, _, _, g, w, n⟩ := hL.right _ hq
          have wre := (wr.wfe.1 e (List.mem_filter.mp he).1).2.2
          refine ⟨⟨by rw [← e1]; exact wre, g⟩, ?_, ?_⟩
          · simp only [nest]; omega
          · simp only [wt]; omega
      · refine q H'' v _ k' (fun b o hb ne => s'' _ _ ?_) ?_ ?_ cv l1 l2' l3 l4 l5
        · rw [upd_ne (ne_of_none ((same_new (o := .lst ns) np) _ _ (b1 _ _ hb ne)) nF)]
          exact sb _ _ (s4 _ _ (b3 _ _ hb ne)) ne
        · exact s'' _ _ (by rw [upd_ne (Ne.symm Fa)]; exact a')
        · rw [hB]
          have : L.length * 2 ^ (d + 1) ≤ 2 * 2 ^ (d + 1) + L.length - 2 := by
            rcases (show L.length = 0 ∨ L.length = 1 ∨ L.length = 2 by omega) with z | z | z <;> rw [z] <;> omega
          omega
theorem ok_write (c : DC K CD) (D : Dm K CD "write" "Depths.write" s_Depths_write ["self", "thing", "depth"]) (T : Tx K mg) (c_names : Met P w K mg base 1 CW "names" (spNames K CW)) (c_edges : Met P w K mg base 1 CW "edges" (spEdgesOf K CW)) (c_conjunction : Cal P w K mg base 1 "conjunction" (spConj K)) :
    ∀ n, Met P w K mg base (1 + n) CD "write" (spWrite K CW CD n)
  | 0 => met_void c.cls D fun vs H Q E h => by
    obtain ⟨a, dx, u, rows, es, t, d, k, _, _, _, _, _, h, _⟩ := h
    exact absurd h (Nat.not_lt_zero _)
  | n + 1 => step_write (k := 1 + n) c D T (c_names.up (by omega)) (c_edges.up (by omega)) (c_conjunction.up (by omega)) (ok_write c D T c_names c_edges c_conjunction n)
/-- what the least in a depth is -/
def spLeast (K : PySem.W.Frag) (CW : Addr) : Sp := fun vs H Q _ => ∃ u rows es, ∃ t d : Nat, vs = [u, .int t, .int d] ∧ WAt K CW H u rows es ∧ Wrl rows es ∧ t < rows.length ∧ d ≤ 4 ∧
  ∀ H' v c x, Same H H' → CAt K H' v x → IsW rows es d t c → IsRed (d + 1) c x → Br d c → WdN d c → Q v H'
theorem ok_least (cD : DC K CD) (D : Df K mg "least_in_depth" s_least_in_depth ["world", "thing", "depth"]) (T : Tx K mg) (c_check_world : Cal P w K mg base 1 "check_world" (spCheckW K CW)) (c_check_thing : Cal P w K mg base 3 "check_thing" (spCheckT K CW)) (c_is_number : Cal P w K mg base 1 "is_number" spNumber)
    (c_reduced_of : Cal P w K mg base 103 "reduced_of" (spRedOf K)) (c_Depths : Mak P w K mg base 1 "Depths" CD (spDInit CD)) (c_write : Met P w K mg base 6 CD "write" (spWrite K CW CD 5)) : Cal P w K mg base 104 "least_in_depth" (spLeast K CW) := by
  refine cal_of D sc_least_in_depth (fun vs H Q E h => ?_) (fun f cdv A outer s H vs Q E hr h => ?_)
  · obtain ⟨u, rows, es, t, d, rfl, _⟩ := h
    rfl
  obtain ⟨u, rows, es, t, d, rfl, hw, wr, ht, h4, q⟩ := h
  refine ⟨_, (pss_cons (ps_expr (pc c_check_world hr (by rfl) (pa_cons (pv 0) pa_nil)))
    (pss_cons (ps_expr (pc c_check_thing hr (by rfl) (pa_cons (pv 0) (pa_cons (pv 1) pa_nil))))
    (pss_cons (ps_if (pt_not (pt_val (pc c_is_number hr (by rfl) (pa_cons (pv 2) (pa_cons (pe_op op_add (C8.pe_gc (by rfl) T.mdepth) pe_int) pa_nil)))))
    (pss_one ps_never)
    pss_nil)
    (pss_one (ps_ret (pc c_reduced_of hr (by rfl) (pa_cons (pm c_write hr (pk c_Depths hr (by rfl) (pa_cons (pv 0) pa_nil)) (pa_cons (pv 1) (pa_cons (pv 2) pa_nil))) pa_nil))))))), ?_⟩
  refine ⟨_, rfl, _, _, _, rfl, hw, ?_⟩
  refine ⟨_, rfl, _, rfl, _, _, _, t, rfl, hw, ht, ?_⟩
  refine ⟨_, rfl, _, _, rfl, rfl, d, 21, rfl, by omega, true, rfl, iteF ?_⟩
  refine ⟨_, rfl, fun x1 d1 n1 m1 ne1 => ⟨x1, d1, u, rfl, upd_same, fun H2 sb2 hx2 => ⟨rfl, ?_⟩⟩⟩
  have s2 := same_make n1 m1 sb2
  have p2 : 2 ^ (d + 1) ≤ 2 ^ 5 := Nat.pow_le_pow_right (by decide) (by omega)
  have hw4 := wb_mono h4
  have wb4 : wb 4 = 3436 := by decide
  refine ⟨_, d1, _, rfl, hx2, rfl, _, rfl, _, rfl, x1, d1, u, rows, es, t, d, 0, rfl, hx2, wat_same s2 hw, wr, ht, by omega, h4, by omega, fun H3 v c k' sb3 hx3 lt cv w1 w2 w3 w4 w5 => ?_⟩
  have s3 : Same H H3 := fun b o hb => sb3 _ _ (s2 _ _ hb) (ne_of_none hb n1)
  have wd : WdN d c := br_wd w2 w3
  exact ⟨v, c, d, rfl, cv, ⟨w3, by omega, by omega⟩, h4, w2, wd, fun H4 v' x s4 cx red => q H4 v' c x (s3.trans s4) cx w1 red w2 wd⟩
end
end K77
end

section
set_option Elab.async false
set_option linter.all false
set_option maxRecDepth 100000
set_option maxHeartbeats 4000000
/-! the law's draws -/
namespace K77
open PySem PySem.Spec PyProof.Rows L2
abbrev s__law_cell_at : Stmt := top 46
theorem sc__law_cell_at : FnScope ["_law_script", "_law_k"] ["_law_script", "_law_k"] (defScope s__law_cell_at) := ⟨rfl, rfl, rfl, by decide +kernel, rfl, by decide +kernel, by decide +kernel⟩
abbrev s__law_draw : Stmt := top 47
theorem sc__law_draw : FnScope ["_law_cell", "_law_k", "_law_bound", "_law_primes"] ["_law_cell", "_law_k", "_law_bound"] (defScope s__law_draw) := ⟨rfl, rfl, rfl, by decide +kernel, rfl, by decide +kernel, by decide +kernel⟩
abbrev s__law_number : Stmt := top 48
theorem sc__law_number : FnScope ["_law_cell", "_law_k", "_law_bound", "_law_power", "_law_lap", "_law_remains", "_law_small"] ["_law_cell", "_law_k", "_law_bound"] (defScope s__law_number) := ⟨rfl, rfl, rfl, by decide +kernel, rfl, by decide +kernel, by decide +kernel⟩
abbrev s__law_next : Stmt := top 49
theorem sc__law_next : FnScope ["_law_draw_here", "_law_bound", "_law_at", "_law_cell"] ["_law_draw_here", "_law_bound"] (defScope s__law_next) := ⟨rfl, rfl, rfl, by decide +kernel, rfl, by decide +kernel, by decide +kernel⟩
abbrev s__law_pick : Stmt := top 50
theorem sc__law_pick : FnScope ["_law_draw_here", "_law_things"] ["_law_draw_here", "_law_things"] (defScope s__law_pick) := ⟨rfl, rfl, rfl, by decide +kernel, rfl, by decide +kernel, by decide +kernel⟩
theorem mod_nat (z : Int) {b : Nat} (h : 1 ≤ b) : ∃ r : Nat, z % (b : Int) = r ∧ r < b := by
  have h1 := Int.emod_nonneg z (show (b : Int) ≠ 0 by omega)
  have h2 := Int.emod_lt_of_pos z (show (0 : Int) < b by omega)
  exact ⟨(z % (b : Int)).toNat, by omega, by omega⟩
theorem q_mod {Q : VK} {H : Hp} (z : Int) {b : Nat} (h : 1 ≤ b) (q : ∀ r : Nat, r < b → Q (.int r) H) : Q (.int (z % (b : Int))) H := by
  obtain ⟨r, e, lt⟩ := mod_nat z h
  rw [e]
  exact q r lt
theorem pick_pos (ps : List Int) (h : ∀ p ∈ ps, 0 < p) {j : Nat} (lt : j < ps.length) : ∃ p : Int, 0 < p ∧ (ps.map V.int)[j]? = some (.int p) := ⟨ps[j], h _ (List.getElem_mem lt), by simp [lt]⟩
/-- the draw at x -/
structure Dr where
  x : Addr
  cl : Addr
  cells : List Int
def DrawAt (K : PySem.W.Frag) (H : Hp) (δ : Dr) : Prop := ∃ n : Nat, H δ.x = some (.lst [.ref δ.cl, .int 0, .int n]) ∧ δ.cl ≠ δ.x ∧ SqL K H δ.cl (δ.cells.map V.int)
def spCellAt (K : PySem.W.Frag) : Sp := fun vs H Q _ => ∃ a cells, ∃ i : Nat, vs = [.ref a, .int i] ∧ SqL K H a ((cells : List Int).map V.int) ∧ ∀ z : Int, Q (.int z) H
def spDraw : Sp := fun vs H Q _ => ∃ z : Int, ∃ k b : Nat, vs = [.int z, .int k, .int b] ∧ 1 ≤ b ∧ ∀ H' (r : Nat), Same H H' → r < b → Q (.int r) H'
def spNumberL : Sp := fun vs H Q _ => ∃ z : Int, ∃ k b : Nat, vs = [.int z, .int k, .int b] ∧ 1 ≤ b ∧ k ≤ 12 ∧ ∀ H' (r : Nat), Same H H' → r < b → Q (.int r) H'
def spNext (K : PySem.W.Frag) : Sp := fun vs H Q _ => ∃ δ : Dr, ∃ b : Nat, vs = [.ref δ.x, .int b] ∧ 1 ≤ b ∧ DrawAt K H δ ∧ ∀ H' (r : Nat), SB δ.x H H' → DrawAt K H' δ → r < b → Q (.int r) H'
def spPick (K : PySem.W.Frag) : Sp := fun vs H Q _ => ∃ δ : Dr, ∃ a xs, vs = [.ref δ.x, .ref a] ∧ SqL K H a xs ∧ a ≠ δ.x ∧ xs ≠ [] ∧ DrawAt K H δ ∧ ∀ H' v, SB δ.x H H' → DrawAt K H' δ → v ∈ xs → Q v H'
theorem DrawAt.same {K : PySem.W.Frag} {H H' : Hp} {δ : Dr} (h : DrawAt K H δ) (s : Same H H') : DrawAt K H' δ := by
  obtain ⟨n, h1, h2, h3⟩ := h
  exact ⟨n, s _ _ h1, h2, same_list s h3⟩
theorem sq_sb {K : PySem.W.Frag} {H H' : Hp} {x a : Addr} {xs : List V} (s : SB x H H') (n : a ≠ x) (h : SqL K H a xs) : SqL K H' a xs := by
  rcases h with (q | ⟨o, q⟩) | q
  · exact .inl (.inl (s _ _ q n))
  · exact .inl (.inr ⟨o, s _ _ q n⟩)
  · exact .inr q
theorem DrawAt.tk {K : PySem.W.Frag} {H H' : Hp} {δ : Dr} (h : DrawAt K H δ) (s : SB δ.x H H') : TupK K H H' := by
  obtain ⟨n, h1, _⟩ := h
  exact sb_tko s h1 (fun ys e => by cases e) (fun u ys e => by cases e)
/-- the draw stays where only something new was changed -/
theorem DrawAt.put {K : PySem.W.Frag} {H0 H5 H' : Hp} {δ : Dr} (h0 : DrawAt K H0 δ) (h : DrawAt K H5 δ) (s : SB δ.x H0 H') (e : H' δ.x = H5 δ.x) : DrawAt K H' δ := by
  obtain ⟨_, _, h2, h3⟩ := h0
  obtain ⟨n, h1, _⟩ := h
  exact ⟨n, e.trans h1, h2, sq_sb s h2 h3⟩
theorem DrawAt.ne {K : PySem.W.Frag} {H : Hp} {δ : Dr} (h : DrawAt K H δ) {p : Addr} (n : H p = none) : p ≠ δ.x := by
  obtain ⟨_, h1, _⟩ := h
  exact Ne.symm (ne_of_none h1 n)
section
variable {P : Program} {w : World} {K : PySem.W.Frag} {mg : Str → Option Value} {base : Heap}
theorem ok_cell_at (D : Df K mg "_law_cell_at" s__law_cell_at ["_law_script", "_law_k"]) (T : Tx K mg) : Cal P w K mg base 1 "_law_cell_at" (spCellAt K) := by
  refine cal_of D sc__law_cell_at (fun vs H Q E h => ?_) (fun f cdv A outer s H vs Q E hr h => ?_)
  · obtain ⟨a, cells, i, rfl, _⟩ := h
    rfl
  obtain ⟨a, cells, i, rfl, hS, q⟩ := h
  refine ⟨_, (pss_cons (ps_if (pt_cmpR op_lt (pv 1) (pe_callB call_len (by rfl) T.len PySem.boot_len (pa_cons (pv 0) pa_nil)) (nomark _))
    (pss_one (ps_ret (pe_ix ix_list (pv 0) (pv 1) (fun _ _ => rfl))))
    pss_nil)
    (pss_one (ps_ret pe_int))), ?_⟩
  refine ⟨_, rfl, _, rfl, _, (cells.map V.int).length, rfl, .inl ⟨_, hS, rfl⟩, ?_⟩
  by_cases lt : i < (cells.map V.int).length
  · refine ⟨_, _, rfl, rfl, true, congrArg V.bl (decide_eq_true (by omega)), iteT ?_⟩
    obtain ⟨z, hz⟩ : ∃ z, (cells.map V.int)[i]? = some (V.int z) := by
      rw [List.length_map] at lt
      exact ⟨cells[i], by simp [lt]⟩
    exact ⟨_, rfl, _, rfl, a, _, i, _, rfl, rfl, hS, atI_nat hz, q z⟩
  · refine ⟨_, _, rfl, rfl, false, congrArg V.bl (decide_eq_false (by omega)), iteF ?_⟩
    exact q 0
theorem ok_draw (D : Df K mg "_law_draw" s__law_draw ["_law_cell", "_law_k", "_law_bound"]) (T : Tx K mg) : Cal P w K mg base 1 "_law_draw" spDraw := by
  refine cal_of D sc__law_draw (fun vs H Q E h => ?_) (fun f cdv A outer s H vs Q E hr h => ?_)
  · obtain ⟨z, k, b, rfl, _⟩ := h
    rfl
  obtain ⟨z, k, b, rfl, hb, q⟩ := h
  refine ⟨_, (pss_cons (ps_set (i := 3) sc__law_draw.nd rfl (.inl rfl) (pe_tup (pa_cons pe_int (pa_cons pe_int (pa_cons pe_int (pa_cons pe_int (pa_cons pe_int (pa_cons pe_int (pa_cons pe_int (pa_cons pe_int (pa_cons pe_int (pa_cons pe_int (pa_cons pe_int (pa_cons pe_int (pa_cons pe_int (pa_cons pe_int (pa_cons pe_int (pa_cons pe_int pa_nil))))))))))))))))))
    (pss_one (ps_ret (pe_op op_mod (pe_op op_mod (pe_callTy call_int1 (by rfl) T.int boot_int (pa_cons (pe_op op_add (pe_op op_mul (pv 0) pe_int) (pe_op op_mul (pv 1) pe_int)) pa_nil)) (pe_ix ix_tup (pv 3) (pe_op op_mod (pe_callTy call_int1 (by rfl) T.int boot_int (pa_cons (pv 1) pa_nil)) pe_int) (fun _ _ => rfl))) (pv 2))))), ?_⟩
  refine ⟨sz_le (Nat.le_trans (by decide : 16 ≤ 17) (by decide)), fun p np => ?_⟩
  obtain ⟨pr, pos, hpr⟩ := pick_pos [1000003, 1000033, 1000037, 1000039, 1000081, 1000099, 1000117, 1000121, 1000133, 1000151, 1000159, 1000171, 1000183, 1000187, 1000193, 1000199] (by decide) (j := k % 16) (Nat.mod_lt _ (by decide))
  refine ⟨_, rfl, z, 48271, rfl, rfl, .inr ⟨by decide, by decide⟩, _, rfl, k, 69621, rfl, rfl, .inr ⟨by decide, by decide⟩, _, _, rfl, rfl, .inl ⟨_, rfl, ?_⟩⟩
  refine ⟨_, rfl, _, rfl, .inl ⟨_, rfl, _, 16, rfl, rfl, (show (0 : Int) < 16 by decide), p, _, ((k % 16 : Nat) : Int), .int pr, rfl, congrArg V.int (by omega), SqT.of upd_same, atI_nat hpr, _, pr, rfl, rfl, pos, _, rfl, _, b, rfl, rfl, (show (0 : Int) < b by omega), ?_⟩⟩
  exact q_mod _ hb fun r lt => q _ r (same_new np) lt
theorem ok_number (D : Df K mg "_law_number" s__law_number ["_law_cell", "_law_k", "_law_bound"]) (T : Tx K mg) (c_l_draw : Cal P w K mg base 1 "_law_draw" spDraw) : Cal P w K mg base 2 "_law_number" spNumberL := by
  refine cal_of D sc__law_number (fun vs H Q E h => ?_) (fun f cdv A outer s H vs Q E hr h => ?_)
  · obtain ⟨z, k, b, rfl, _⟩ := h
    rfl
  obtain ⟨z, k, b, rfl, hb, hk, q⟩ := h
  refine ⟨_, (pss_cons (ps_set (i := 3) sc__law_number.nd rfl (.inl rfl) pe_int)
    (pss_cons (ps_for PassesOwn.never rfl (pi_range1 (by rfl) T.range (pa_cons (pe_op op_mod (pe_callTy call_int1 (by rfl) T.int boot_int (pa_cons (pv 1) pa_nil)) pe_int) pa_nil)) (pg_name (i := 4) sc__law_number.nd rfl (.inl rfl))
    (pss_one (ps_set (i := 3) sc__law_number.nd rfl (.inl rfl) (pe_op op_mul (pv 3) pe_int))))
    (pss_cons (ps_set (i := 5) sc__law_number.nd rfl (.inl rfl) (pe_op op_fdivW (pe_op op_sub (pv 0) (pe_op op_pow pe_int pe_int)) (pv 3)))
    (pss_cons (ps_if (pt_cmpR op_gt (pv 5) pe_int (nomark _))
    (pss_one (ps_ret (pe_op op_mod (pe_op op_mod (pe_callTy call_int1 (by rfl) T.int boot_int (pa_cons (pv 5) pa_nil)) pe_int) (pv 2))))
    pss_nil)
    (pss_cons (ps_set (i := 6) sc__law_number.nd rfl (.inl rfl) (pe_op op_mod (pe_callTy call_int1 (by rfl) T.int boot_int (pa_cons (pv 0) pa_nil)) pe_int))
    (pss_one (ps_ret (pe_op op_mod (pc c_l_draw hr (by rfl) (pa_cons (pe_op op_mul (pe_op op_add (pv 6) (pe_op op_mul pe_int (pv 1))) (pe_op op_add (pe_op op_add (pv 6) (pe_op op_mul pe_int (pv 1))) pe_int)) (pa_cons (pe_op op_add (pe_op op_mod (pe_callTy call_int1 (by rfl) T.int boot_int (pa_cons (pv 1) pa_nil)) pe_int) pe_int) (pa_cons pe_int pa_nil)))) (pv 2))))))))), ?_⟩
  have k24 : ((k : Int) % 24).toNat = k := by omega
  refine ⟨_, rfl, .inl ⟨_, rfl, _, 24, rfl, rfl, (show (0 : Int) < 24 by decide), _, rfl, by omega, by omega, ?_⟩⟩
  refine for_range (fun i σ H' => H' = H ∧ ∃ y, σ = [some (.int z), some (.int (k : Nat)), some (.int (b : Nat)), some (.int ((1009 ^ i : Nat) : Int)), y, none, none]) ⟨rfl, _, rfl⟩ ?_ ?_
  · rintro i σ H' hi ⟨rfl, y, rfl⟩
    refine ⟨_, rfl, _, 1009, rfl, rfl, .inr ⟨by decide, by decide⟩, rfl, some (.int (0 + (i : Nat))), ?_⟩
    rw [show ((1009 ^ (i + 1) : Nat) : Int) = ((1009 ^ i : Nat) : Int) * 1009 by rw [Nat.pow_succ]; exact Int.natCast_mul _ _]
    rfl
  rintro σ H' ⟨rfl, y, rfl⟩
  rw [k24]
  have p1 : 1 ≤ 1009 ^ k := Nat.one_le_pow _ _ (by decide)
  have p2 : 1009 ^ k < 2 ^ 240 := Nat.lt_of_le_of_lt (Nat.pow_le_pow_right (by decide) hk) (by decide)
  generalize 1009 ^ k = pw at p1 p2
  refine ⟨_, rfl, 10, 18, rfl, rfl, ⟨by decide, by decide, by decide⟩, _, _, rfl, rfl, _, rfl, _, (pw : Int), rfl, rfl, wide_div (b := 240) (by omega) (by rw [Int.natAbs_natCast]; exact p2) (by decide) (by decide), ?_⟩
  by_cases pos : 0 < (z - 10 ^ (18 : Int).toNat) / (pw : Int)
  · refine ⟨_, rfl, _, _, rfl, rfl, true, congrArg V.bl (decide_eq_true pos), iteT ?_⟩
    refine ⟨_, rfl, .inl ⟨_, rfl, _, 1009, rfl, rfl, (show (0 : Int) < 1009 by decide), _, rfl, _, b, rfl, rfl, (show (0 : Int) < b by omega), ?_⟩⟩
    exact q_mod _ hb fun r lt => q _ r (fun _ _ h => h) lt
  · refine ⟨_, rfl, _, _, rfl, rfl, false, congrArg V.bl (decide_eq_false pos), iteF ?_⟩
    refine ⟨_, rfl, .inl ⟨_, rfl, _, 1000003, rfl, rfl, (show (0 : Int) < 1000003 by decide), ?_⟩⟩
    have s1 := Int.emod_nonneg z (show (1000003 : Int) ≠ 0 by decide)
    have s2 := Int.emod_lt_of_pos z (show (0 : Int) < 1000003 by decide)
    refine ⟨_, rfl, _, rfl, 977, k, rfl, rfl, .inl ⟨by decide, by decide⟩, _, _, rfl, rfl, _, rfl, _, rfl, 31, k, rfl, rfl, .inl ⟨by decide, by decide⟩, _, _, rfl, rfl, _, 5, rfl, rfl, _, _, rfl, rfl, .inl ⟨by omega, by omega⟩, ?_⟩
    refine ⟨_, rfl, .inl ⟨_, rfl, _, 9, rfl, rfl, (show (0 : Int) < 9 by decide), _, 1, rfl, rfl, (z % 1000003 + 977 * (k : Int)) * (z % 1000003 + 31 * (k : Int) + 5), k % 9 + 1, 999983, ?_, by decide, fun H' r s lt => ⟨_, rfl, _, b, rfl, rfl, (show (0 : Int) < b by omega), q_mod _ hb fun r lt => q _ r s lt⟩⟩⟩
    rw [show ((k % 9 + 1 : Nat) : Int) = (k : Int) % 9 + 1 by omega]
    rfl
theorem ok_next (D : Df K mg "_law_next" s__law_next ["_law_draw_here", "_law_bound"]) (T : Tx K mg) (c_l_cell_at : Cal P w K mg base 1 "_law_cell_at" (spCellAt K)) (c_l_number : Cal P w K mg base 2 "_law_number" spNumberL) : Cal P w K mg base 3 "_law_next" (spNext K) := by
  refine cal_of D sc__law_next (fun vs H Q E h => ?_) (fun f cdv A outer s H vs Q E hr h => ?_)
  · obtain ⟨δ, b, rfl, _⟩ := h
    rfl
  obtain ⟨⟨x, cl, cells⟩, b, rfl, hb, ⟨n, hx, nx, hc⟩, q⟩ := h
  dsimp only at hx nx hc q ⊢
  refine ⟨_, (pss_cons (ps_asg (pe_op op_add (pe_ix ix_list (pv 0) pe_int (fun _ _ => rfl)) pe_int) (pg_sub (pv 0) pe_int set_list))
    (pss_cons (ps_set (i := 2) sc__law_next.nd rfl (.inl rfl) (pe_op op_fdivW (pe_ix ix_list (pv 0) pe_int (fun _ _ => rfl)) pe_int))
    (pss_cons (ps_set (i := 3) sc__law_next.nd rfl (.inl rfl) (pe_op op_add (pc c_l_cell_at hr (by rfl) (pa_cons (pe_ix ix_list (pv 0) pe_int (fun _ _ => rfl)) (pa_cons (pe_op op_add (pe_ix ix_list (pv 0) pe_int (fun _ _ => rfl)) (pv 2)) pa_nil))) (pe_op op_mul pe_int (pv 2))))
    (pss_one (ps_ret (pc c_l_number hr (by rfl) (pa_cons (pv 3) (pa_cons (pe_op op_add (pe_op op_mod (pe_callTy call_int1 (by rfl) T.int boot_int (pa_cons (pe_ix ix_list (pv 0) pe_int (fun _ _ => rfl)) pa_nil)) pe_int) pe_int) (pa_cons (pv 1) pa_nil))))))))), ?_⟩
  refine ⟨_, rfl, x, _, 2, _, rfl, rfl, SqL.of hx, atI_nat (j := 2) rfl, _, 1, rfl, rfl, _, rfl, x, _, 2, 2, rfl, rfl, hx, rfl, ?_⟩
  generalize h1 : upd H x (.lst ([V.ref cl, .int 0, .int (n : Nat)].set 2 (.int ((n : Int) + 1)))) = H1
  have x1 : H1 x = some (.lst [.ref cl, .int 0, .int ((n + 1 : Nat) : Int)]) := by rw [← h1]; exact upd_same
  have b1 : SB x H H1 := by rw [← h1]; exact SB.upd
  have hc1 : SqL K H1 cl (cells.map V.int) := sq_sb b1 nx hc
  clear h1
  refine ⟨_, rfl, x, _, 2, _, rfl, rfl, SqL.of x1, atI_nat (j := 2) rfl, _, 12, rfl, rfl, wide_div (b := 4) (by decide) (by decide) (by decide) (by decide), ?_⟩
  refine ⟨_, rfl, x, _, 0, _, rfl, rfl, SqL.of x1, atI_nat (j := 0) rfl, _, rfl, x, _, 1, _, rfl, rfl, SqL.of x1, atI_nat (j := 1) rfl, _, rfl, 0, _, rfl, rfl, cl, cells, (n + 1) / 12, ?_, hc1, fun z => ⟨_, rfl, 31, _, rfl, rfl, .inl ⟨by decide, by decide⟩, _, _, rfl, rfl, ?_⟩⟩
  · show [V.ref cl, V.int (0 + ((n + 1 : Nat) : Int) / 12)] = _
    rw [show (0 + ((n + 1 : Nat) : Int) / 12) = (((n + 1) / 12 : Nat) : Int) by omega]
  refine ⟨_, rfl, _, rfl, x, _, 2, _, rfl, rfl, SqL.of x1, atI_nat (j := 2) rfl, .inl ⟨_, rfl, _, 12, rfl, rfl, (show (0 : Int) < 12 by decide), _, 1, rfl, rfl, _, rfl, z + 31 * (((n + 1 : Nat) : Int) / 12), (n + 1) % 12 + 1, b, ?_, hb, by omega, fun H' r s lt => ?_⟩⟩
  · rw [show (((n + 1) % 12 + 1 : Nat) : Int) = ((n + 1 : Nat) : Int) % 12 + 1 by omega]
  · exact q H' r (b1.trans (SB.of s)) ⟨n + 1, s _ _ x1, nx, same_list s hc1⟩ lt
theorem ok_pick (D : Df K mg "_law_pick" s__law_pick ["_law_draw_here", "_law_things"]) (T : Tx K mg) (c_l_next : Cal P w K mg base 3 "_law_next" (spNext K)) : Cal P w K mg base 4 "_law_pick" (spPick K) := by
  refine cal_of D sc__law_pick (fun vs H Q E h => ?_) (fun f cdv A outer s H vs Q E hr h => ?_)
  · obtain ⟨δ, a, xs, rfl, _⟩ := h
    rfl
  obtain ⟨δ, a, xs, rfl, hS, na, ne, dr, q⟩ := h
  refine ⟨_, (pss_one (ps_ret (pe_ix ix_list (pv 1) (pc c_l_next hr (by rfl) (pa_cons (pv 0) (pa_cons (pe_callB call_len (by rfl) T.len PySem.boot_len (pa_cons (pv 1) pa_nil)) pa_nil))) (fun _ _ => rfl)))), ?_⟩
  have l1 : 1 ≤ xs.length := List.length_pos_iff.mpr ne
  refine ⟨_, rfl, _, rfl, _, rfl, _, xs.length, rfl, .inl ⟨xs, hS, rfl⟩, δ, xs.length, rfl, l1, dr, fun H' r sb dr' lt => ?_⟩
  exact ⟨a, xs, r, xs[r], rfl, rfl, sq_sb sb na hS, atI_nat (List.getElem?_eq_getElem lt), q H' _ sb dr' (List.getElem_mem lt)⟩
end
end K77
end

section
set_option Elab.async false
set_option linter.all false
set_option maxRecDepth 100000
set_option maxHeartbeats 4000000
/-! the law's words and alphabet -/
namespace K77
open PySem PySem.Spec PyProof.Rows L2
abbrev s__law_words : Stmt := top 51
theorem sc__law_words : FnScope ["_law_draw_here", "_law_many", "_law_letters", "_law_front", "_law_rest", "_law_found", "_law_turn", "_law_own", "_law_at"] ["_law_draw_here", "_law_many"] (defScope s__law_words) := ⟨rfl, rfl, rfl, by decide +kernel, rfl, by decide +kernel, by decide +kernel⟩
abbrev s__law_alphabet : Stmt := top 52
theorem sc__law_alphabet : FnScope ["_law_draw_here", "_law_words_here", "_law_names", "_law_roles"] ["_law_draw_here"] (defScope s__law_alphabet) := ⟨rfl, rfl, rfl, by decide +kernel, rfl, by decide +kernel, by decide +kernel⟩
def owns : List Nat := [98, 99, 100, 102, 103, 104, 107]
/-- the word w has its own letter o at its front or at its end -/
def OwnAt (front : Bool) (w : Str) (o : Nat) : Prop := if front = true then w.cps.toList.head? = some o else w.cps.toList.getLast? = some o
theorem OwnAt.one {front : Bool} {w : Str} {o o' : Nat} (h : OwnAt front w o) (h' : OwnAt front w o') : o = o' := by
  unfold OwnAt at h h'
  cases front
  · rw [if_neg Bool.false_ne_true] at h h'; rw [h] at h'; exact Option.some.inj h'
  · rw [if_pos rfl] at h h'; rw [h] at h'; exact Option.some.inj h'
theorem nodup_own {front : Bool} : ∀ {ws : List Str} {os : List Nat}, All2 (fun w o => Word w ∧ OwnAt front w o) ws os → os.Nodup → ws.Nodup
  | _, _, .nil, _ => List.nodup_nil
  | _, _, .cons (a := w) (l := ws) h t, nd => by
    obtain ⟨n1, n2⟩ := List.nodup_cons.mp nd
    refine List.nodup_cons.mpr ⟨fun z => ?_, nodup_own t n2⟩
    obtain ⟨o, ho, _, h'⟩ := t.left w z
    rw [h.2.one h'] at n1
    exact n1 ho
theorem join_nil (ys : List Str) : (Txt.join ("" : Str) ys).cps.toList = (ys.map fun y => y.cps.toList).flatten := by
  show TL.tl (Txt.join ("" : Str) ys) = _
  rw [TL.join_eq, TL.tl_join]
  have e : TL.tl ("" : Str) = [] := by decide +kernel
  rw [e]
  have go : ∀ l : List (List Nat), TL.joinL [] l = l.flatten := by
    intro l
    induction l with
    | nil => rfl
    | cons a r ih =>
      cases r with
      | nil => simp [TL.joinL]
      | cons b q =>
        have : TL.joinL [] (a :: b :: q) = a ++ ([] ++ TL.joinL [] (b :: q)) := by simp [TL.joinL]
        rw [this, ih]
        simp
  exact go _
theorem word_front {o : Nat} {own rest : Str} (ho : own.cps.toList = [o]) (hm : o ∈ owns) (hr : ∀ n ∈ rest.cps.toList, Let n) (lr : rest.cps.toList.length ≤ 11) : Word (own ++ rest) ∧ OwnAt true (own ++ rest) o := by
  have e : (own ++ rest).cps.toList = o :: rest.cps.toList := by
    have := TL.tl_append own rest
    unfold TL.tl at this
    rw [this, ho]
    rfl
  have lo : Let o ∧ o ≠ 97 ∧ o ≠ 110 ∧ o ≠ 115 := by
    have : ∀ x ∈ owns, Let x ∧ x ≠ 97 ∧ x ≠ 110 ∧ x ≠ 115 := by simp [owns, Let]
    exact this o hm
  refine ⟨⟨fun n hn => ?_, ?_, ?_, fun z => ?_, fun z => ?_, fun z => ?_⟩, ?_⟩
  · rw [e] at hn
    rcases List.mem_cons.mp hn with rfl | hn
    · exact lo.1
    · exact hr n hn
  · rw [e]; simp
  · rw [e]; simp; omega
  · rw [e] at z; exact lo.2.1 (List.cons.inj z).1
  · rw [e] at z; exact lo.2.2.1 (List.cons.inj z).1
  · rw [e] at z; exact lo.2.2.2 (List.cons.inj z).1
  · unfold OwnAt
    rw [if_pos rfl, e]
    rfl
theorem word_back {o : Nat} {own rest : Str} (ho : own.cps.toList = [o]) (hm : o ∈ owns) (hr : ∀ n ∈ rest.cps.toList, Let n) (lr : rest.cps.toList.length ≤ 11) : Word (rest ++ own) ∧ OwnAt false (rest ++ own) o := by
  have e : (rest ++ own).cps.toList = rest.cps.toList ++ [o] := by
    have := TL.tl_append rest own
    unfold TL.tl at this
    rw [this, ho]
  have lo : Let o ∧ o ≠ 108 ∧ o ≠ 101 := by
    have : ∀ x ∈ owns, Let x ∧ x ≠ 108 ∧ x ≠ 101 := by simp [owns, Let]
    exact this o hm
  have last : ∀ (l : List Nat) (x : Nat), rest.cps.toList ++ [o] = l → l.getLast? = some x → o = x := fun l x z h => by
    rw [← z, List.getLast?_append] at h
    simpa using h
  refine ⟨⟨fun n hn => ?_, ?_, ?_, fun z => ?_, fun z => ?_, fun z => ?_⟩, ?_⟩
  · rw [e] at hn
    rcases List.mem_append.mp hn with hn | hn
    · exact hr n hn
    · rw [List.mem_singleton.mp hn]; exact lo.1
  · rw [e]; simp
  · rw [e]; simp; omega
  · rw [e] at z; exact lo.2.1 (last _ 108 z rfl)
  · rw [e] at z; exact lo.2.2 (last _ 101 z rfl)
  · rw [e] at z; exact lo.2.2 (last _ 101 z rfl)
  · unfold OwnAt
    rw [if_neg Bool.false_ne_true, e]
    simp
def spWords (K : PySem.W.Frag) : Sp := fun vs H Q _ => ∃ δ : Dr, vs = [.ref δ.x, .int 5] ∧ DrawAt K H δ ∧ ∀ H' p ws, SB δ.x H H' → DrawAt K H' δ → H p = none → H' p = some (.lst ((ws : List Str).map V.str)) → ws.length = 5 → ws.Nodup → (∀ w ∈ ws, Word w) → Q (.ref p) H'
def WInv (K : PySem.W.Frag) (δ : Dr) (F : Addr) (front : Bool) (H0 H' : Hp) (rest : Str) (ws : List Str) (i : Nat) : Prop :=
  SB δ.x H0 H' ∧ DrawAt K H' δ ∧ H' F = some (.lst (ws.map V.str)) ∧ (∀ n ∈ rest.cps.toList, Let n) ∧ rest.cps.toList.length ≤ 11 ∧ All2 (fun w o => Word w ∧ OwnAt front w o) ws (owns.take i)
def rAddT : R2 := fun x y H Q => ∃ i j, x = .str i ∧ y = .str j ∧ i.length + j.length ≤ sizeLine ∧ Q (.str (i ++ j)) H
theorem own_char {i : Nat} (h : i < 5) : ∃ o, owns[i]? = some o ∧ atI (("bcdfghk" : Str).cps.toList) (i : Int) = some o := by
  have e : ("bcdfghk" : Str).cps.toList = owns := by decide +kernel
  rw [e]
  have l : i < owns.length := by simp [owns]; omega
  exact ⟨owns[i], List.getElem?_eq_getElem l, atI_nat (List.getElem?_eq_getElem l)⟩
theorem words_tail {K : PySem.W.Frag} {δ : Dr} {F : Addr} {front : Bool} {H0 H5 : Hp} {rest : Str} {ws : List Str} {i : Nat} {D : Ends} {z : Option V} (hi : i < 5) (h : WInv K δ F front H0 H5 rest ws i) (nF : H0 F = none) (d0 : DrawAt K H0 δ)
    (q : ∀ ws' H' z', WInv K δ F front H0 H' rest ws' (i + 1) → D.nx [some (.ref δ.x), some (.int 5), some (.str sLetters), some (.bl front), some (.str rest), some (.ref F), some (.int (0 + (i : Int))), z', none] H') :
    tSeq (tAsg (tOp rIxS (tC (.str "bcdfghk")) (tVar 6)) (gName 7)) (tDrop (tBM K "list" rAppend (tVar 5) (tCons (tIf (tB (tVar 3)) (tOp rAddT (tVar 7) (tVar 4)) (tOp rAddT (tVar 4) (tVar 7))) tNil))) D
      [some (.ref δ.x), some (.int 5), some (.str sLetters), some (.bl front), some (.str rest), some (.ref F), some (.int (0 + (i : Int))), z, none] H5 := by
  obtain ⟨sb, dr, hF, lets, len, al⟩ := h
  obtain ⟨o, ho, ha⟩ := own_char hi
  have lw := al.len
  rw [List.length_take] at lw
  have hm : o ∈ owns := List.mem_of_getElem? ho
  have tk : owns.take (i + 1) = owns.take i ++ [o] := by rw [List.take_add_one, ho, Option.toList_some]
  have fin : ∀ w : Str, Word w → OwnAt front w o → ∃ l xs y, V.ref F = .ref l ∧ [V.str w] = [y] ∧ H5 l = some (.lst xs) ∧ xs.length < sizeLine ∧ ∀ z', D.nx [some (.ref δ.x), some (.int 5), some (.str sLetters), some (.bl front), some (.str rest), some (.ref F), some (.int (0 + (i : Int))), z', none] (upd H5 l (.lst (xs ++ [y]))) := fun w ww ow => by
    refine ⟨F, _, _, rfl, rfl, hF, sz_lt (by rw [List.length_map]; omega), fun z' => q (ws ++ [w]) _ z' ⟨fun b o' hb ne => ?_, ?_, by rw [upd_same, List.map_append]; rfl, lets, len, ?_⟩⟩
    · rw [upd_ne (ne_of_none hb nF)]
      exact sb _ _ hb ne
    · exact d0.put dr (fun b o' hb ne => by rw [upd_ne (ne_of_none hb nF)]; exact sb _ _ hb ne) (upd_ne (Ne.symm (d0.ne nF)))
    · rw [tk]
      exact al.snoc ⟨ww, ow⟩
  refine ⟨_, rfl, ("bcdfghk" : Str), _, o, rfl, rfl, by decide +kernel, by rw [Int.zero_add]; exact ha, ?_⟩
  refine ⟨_, rfl, .inl ⟨rfl, _, SqL.of hF⟩, _, rfl, front, rfl, ?_⟩
  have l1 : (⟨#[o]⟩ : Str).length + rest.length ≤ sizeLine := by
    have : rest.length = rest.cps.toList.length := by simp [Str.length]
    refine sz_le ?_
    show 1 + rest.length ≤ _
    omega
  cases front with
  | true =>
    obtain ⟨w1, w2⟩ := word_front (own := ⟨#[o]⟩) (rest := rest) rfl hm lets len
    obtain ⟨l, xs, y, e1, e2, e3, e4, e5⟩ := fin _ w1 w2
    exact iteT ⟨_, rfl, _, rfl, _, _, rfl, rfl, l1, l, xs, y, e1, e2, e3, e4, e5 _⟩
  | false =>
    obtain ⟨w1, w2⟩ := word_back (own := ⟨#[o]⟩) (rest := rest) rfl hm lets len
    obtain ⟨l, xs, y, e1, e2, e3, e4, e5⟩ := fin _ w1 w2
    exact iteF ⟨_, rfl, _, rfl, _, _, rfl, rfl, by rw [Nat.add_comm]; exact l1, l, xs, y, e1, e2, e3, e4, e5 _⟩
theorem mem3 {P : Str → Prop} {a b c : Str} (h1 : P a) (h2 : P b) (h3 : P c) : ∀ s ∈ [a, b, c], P s := fun s hs => by
  simp only [List.mem_cons, List.not_mem_nil, or_false] at hs
  rcases hs with rfl | rfl | rfl
  · exact h1
  · exact h2
  · exact h3
theorem mem2 {P : Str → Prop} {a b : Str} (h1 : P a) (h2 : P b) : ∀ s ∈ [a, b], P s := fun s hs => by
  simp only [List.mem_cons, List.not_mem_nil, or_false] at hs
  rcases hs with rfl | rfl
  · exact h1
  · exact h2
theorem cut3 {a b c d e : V} : cutV [a, b, c, d, e] none (some 3) = [a, b, c] := rfl
theorem cut3' {a b c d e : V} : cutV [a, b, c, d, e] (some 3) none = [d, e] := rfl
structure AlphaOk (ns rs : List Str) : Prop where
  ln : ns.length = 3
  lr : rs.length = 2
  nd : ns.Nodup
  wn : ∀ s ∈ ns, Word s
  wr : ∀ s ∈ rs, Word s
def spAlpha (K : PySem.W.Frag) : Sp := fun vs H Q _ => ∃ δ : Dr, vs = [.ref δ.x] ∧ DrawAt K H δ ∧ ∀ H' p nl rl, ∀ ns rs : List Str, SB δ.x H H' → DrawAt K H' δ → SqT K H' p [.ref nl, .ref rl] → H' nl = some (.lst (ns.map V.str)) → H' rl = some (.lst (rs.map V.str)) → H nl = none → H rl = none → AlphaOk ns rs → Q (.ref p) H'
theorem letters_at {r : Nat} (h : r < 26) : ∃ c, atI (sLetters.cps.toList) (r : Int) = some c ∧ Let c := by
  have e : sLetters.cps.toList = (List.range 26).map (· + 97) := by decide +kernel
  rw [e]
  refine ⟨r + 97, atI_nat (by simp [h]), ?_⟩
  unfold Let
  omega
theorem words_rest {K : PySem.W.Frag} {P : Program} {w : World} {mg : Str → Option Value} {base : Heap} {δ : Dr} {F : Addr} {front : Bool} {H0 H4 : Hp} {rest : Str} {ws : List Str} {i : Nat} {D : Ends} {z : Option V} (hi : i < 5) (h : WInv K δ F front H0 H4 rest ws i) (nF : H0 F = none) (d0 : DrawAt K H0 δ)
    (q : ∀ rest' H', WInv K δ F front H0 H' rest' ws i → D.nx [some (.ref δ.x), some (.int 5), some (.str sLetters), some (.bl front), some (.str rest'), some (.ref F), some (.int (0 + (i : Int))), z, none] H') :
    tAsg (tM1 (fun x xs H Q => ∃ a p, ∃ ys : List Str, x = .str a ∧ xs = [.ref p] ∧ (SqL K H p (ys.map V.str) ∨ SqT K H p (ys.map V.str)) ∧ (ys.map (·.length)).sum + ys.length * a.length ≤ 16777216 ∧ Q (.str (Txt.join a ys)) H) (tC (.str ""))
      (tLc (iRng1 (tCons (tGo (spPick K) (tCons (tVar 0) (tCons (tLst (tCons (tC (.int 0)) (tCons (tC (.int 0)) (tCons (tC (.int 1)) (tCons (tC (.int 2)) (tCons (tC (.int 11)) tNil)))))) tNil))) tNil)) (gName 8) tYes (tOp rIxS (tVar 2) (tGo (spNext K) (tCons (tVar 0) (tCons (tC (.int 26)) tNil)))) [8])) (gName 4) D
      [some (.ref δ.x), some (.int 5), some (.str sLetters), some (.bl front), some (.str rest), some (.ref F), some (.int (0 + (i : Int))), z, none] H4 := by
  obtain ⟨sb, dr, hF, lets, len, al⟩ := h
  refine ⟨⟨_, rfl⟩, _, rfl, Nat.le_trans (by decide : 5 ≤ 6) (sz_le (by decide)), fun pl npl => ?_⟩
  have s1 : Same H4 (upd H4 pl (.lst [.int 0, .int 0, .int 1, .int 2, .int 11])) := same_new npl
  refine ⟨δ, pl, _, rfl, SqL.of upd_same, dr.ne npl, by simp, dr.same s1, fun H6 v sb6 dr6 hv => ?_⟩
  obtain ⟨m, rfl, lm⟩ : ∃ m : Nat, v = .int m ∧ m ≤ 11 := by
    simp only [List.mem_cons, List.not_mem_nil, or_false] at hv
    rcases hv with rfl | rfl | rfl | rfl | rfl
    · exact ⟨0, rfl, by decide⟩
    · exact ⟨0, rfl, by decide⟩
    · exact ⟨1, rfl, by decide⟩
    · exact ⟨2, rfl, by decide⟩
    · exact ⟨11, rfl, by decide⟩
  have sbH : SB δ.x H0 H6 := (sb.trans (SB.of s1)).trans sb6
  have F6 := sb6 _ _ (s1 _ _ hF) (d0.ne nF)
  refine ⟨m, rfl, by omega, by omega, fun D2 nD2 => ?_⟩
  have nD0 : H0 D2 = none := sb_free sbH ⟨_, dr6.choose_spec.1⟩ nD2
  have DF : D2 ≠ F := Ne.symm (ne_of_none F6 nD2)
  have lg : sLetters.length ≤ sizeLine := sz_le (by decide +kernel)
  refine it_by walk_range (fun j H' => SB δ.x H0 H' ∧ DrawAt K H' δ ∧ H' F = some (.lst (ws.map V.str)) ∧ ∃ cs : List Nat, H' D2 = some (.lst (cs.map fun c => V.str ⟨#[c]⟩)) ∧ cs.length = j ∧ ∀ c ∈ cs, Let c) ⟨sbH.trans (SB.of (same_new nD2)), dr6.same (same_new nD2), (same_new nD2) _ _ F6, [], upd_same, rfl, fun c hc => nomatch hc⟩ (fun _ _ _ _ => trivial) ?_ ?_
  · rintro j xx H7 _ hj ⟨sb7, dr7, F7, cs, hD7, lc, letc⟩ ⟨rfl, rfl⟩
    refine ⟨rfl, _, rfl, _, rfl, δ, 26, rfl, by decide, dr7, fun H8 r sb8 dr8 lt8 => ?_⟩
    obtain ⟨c, ha, hc⟩ := letters_at lt8
    have D8 := sb8 _ _ hD7 (d0.ne nD0)
    have F8 := sb8 _ _ F7 (d0.ne nF)
    have sb9 : SB δ.x H0 (upd H8 D2 (.lst (cs.map (fun c => V.str ⟨#[c]⟩) ++ [.str ⟨#[c]⟩]))) := fun b o hb ne => by
      rw [upd_ne (ne_of_none hb nD0)]
      exact sb8 _ _ (sb7 _ _ hb ne) ne
    refine ⟨sLetters, r, c, rfl, rfl, lg, ha, _, D8, sz_lt (by rw [List.length_map]; omega), sb9, d0.put dr8 sb9 (upd_ne (Ne.symm (d0.ne nD0))), by rw [upd_ne (Ne.symm DF)]; exact F8, cs ++ [c], by rw [upd_same, List.map_append]; rfl, by rw [List.length_append, lc]; rfl, fun c' hc' => ?_⟩
    rcases List.mem_append.mp hc' with h | h
    · exact letc c' h
    · rw [List.mem_singleton.mp h]; exact hc
  · rintro H7 ⟨sb7, dr7, F7, cs, hD7, lc, letc⟩
    have ej : (Txt.join ("" : Str) (cs.map fun c => (⟨#[c]⟩ : Str))).cps.toList = cs := by
      rw [join_nil, List.map_map]
      clear hD7 lc letc
      induction cs with
      | nil => rfl
      | cons c r ih => simpa using ih
    have es : (((cs.map fun c => (⟨#[c]⟩ : Str)).map (·.length)).sum) = cs.length := by
      clear hD7 lc letc ej
      induction cs with
      | nil => rfl
      | cons c r ih =>
        simp only [List.map_cons, List.sum_cons, List.length_cons] at ih ⊢
        rw [ih]
        show 1 + r.length = r.length + 1
        omega
    refine ⟨_, D2, cs.map fun c => (⟨#[c]⟩ : Str), rfl, rfl, .inl (SqL.of (by rw [List.map_map]; exact hD7)), ?_, q _ H7 ⟨sb7, dr7, F7, by rw [ej]; exact letc, by rw [ej]; omega, al⟩⟩
    rw [es, List.length_map, show ("" : Str).length = 0 by decide +kernel]
    omega
section
variable {P : Program} {w : World} {K : PySem.W.Frag} {mg : Str → Option Value} {base : Heap}
theorem ok_words (D : Df K mg "_law_words" s__law_words ["_law_draw_here", "_law_many"]) (T : Tx K mg) (c_l_next : Cal P w K mg base 3 "_law_next" (spNext K)) (c_l_pick : Cal P w K mg base 4 "_law_pick" (spPick K)) : Cal P w K mg base 5 "_law_words" (spWords K) := by
  refine cal_of D sc__law_words (fun vs H Q E h => ?_) (fun f cdv A outer s H vs Q E hr h => ?_)
  · obtain ⟨δ, rfl, _⟩ := h
    rfl
  obtain ⟨δ, rfl, dr, q⟩ := h
  refine ⟨_, (pss_cons (ps_asg (pe_tup (pa_cons pe_str (pa_cons (pe_cmpR op_eq (pc c_l_next hr (by rfl) (pa_cons (pv 0) (pa_cons pe_int pa_nil))) pe_int (nomark _)) pa_nil))) (pg_tup rfl (pgs_cons (pg_name (i := 2) sc__law_words.nd rfl (.inr rfl)) (pgs_cons (pg_name (i := 3) sc__law_words.nd rfl (.inl rfl)) pgs_nil))))
    (pss_cons (ps_par (i := 4) (j := 5) (by rfl) sc__law_words.nd rfl rfl (by decide) rfl rfl (pa_cons pe_str (pa_cons (pe_lst pa_nil) pa_nil)) (by rfl))
    (pss_cons (ps_for PassesOwn.never rfl (pi_range1 (by rfl) T.range (pa_cons (pv 1) pa_nil)) (pg_name (i := 6) sc__law_words.nd rfl (.inl rfl))
    (pss_cons (ps_if (PW.pt (pw_or (pt_cmpR op_eq (pv 6) pe_int (nomark _)) (pw_or1 (pt_cmpR op_gt (pc c_l_next hr (by rfl) (pa_cons (pv 0) (pa_cons pe_int pa_nil))) pe_int (nomark _)))))
    (pss_one (ps_set (i := 4) sc__law_words.nd rfl (.inl rfl) (pe_join pe_str (pe_lc (own := [("_law_at", 8)]) rfl sc__law_words.nd (pi_range1 (by rfl) T.range (pa_cons (pc c_l_pick hr (by rfl) (pa_cons (pv 0) (pa_cons (pe_lst (pa_cons pe_int (pa_cons pe_int (pa_cons pe_int (pa_cons pe_int (pa_cons pe_int pa_nil)))))) pa_nil))) pa_nil)) (blkOk_by (N := ["_law_draw_here", "_law_many", "_law_letters", "_law_front", "_law_rest", "_law_found", "_law_turn", "_law_own", "_law_at"]) (sc := defScope s__law_words) (own := [("_law_at", 8)]) (by decide +kernel)) (fun _ _ _ _ _ => (pg_name (i := 8) sc__law_words.nd rfl (.inl rfl))) (fun _ _ _ _ _ => pts_nil) (fun _ _ _ _ _ => (pe_ix ix_str (pv 2) (pc c_l_next hr (by rfl) (pa_cons (pv 0) (pa_cons pe_int pa_nil))) (fun _ _ => rfl)))))))
    pss_nil)
    (pss_cons (ps_set (i := 7) sc__law_words.nd rfl (.inl rfl) (pe_ix ix_str pe_str (pv 6) (fun _ _ => rfl)))
    (pss_one (ps_expr (pe_bm PySem.F.plainAttrs_list PySem.F.slot_list_append PySem.F.type_list_append mt_append (pv 5) (pa_cons (pe_ifExp (pt_val (pv 3)) (pe_op op_add_str (pv 7) (pv 4)) (pe_op op_add_str (pv 4) (pv 7))) pa_nil)))))))
    (pss_one (ps_ret (pv 5)))))), ?_⟩
  refine ⟨_, rfl, δ, 2, rfl, by decide, dr, fun H1 r1 sb1 dr1 lt1 => ⟨rfl, sz_le (Nat.le_trans (by decide : 2 ≤ 3) (by decide)), fun tp ntp => ?_⟩⟩
  refine ⟨tp, _, rfl, SqT.of upd_same, rfl, _, _, rfl, _, _, rfl, rfl, ?_⟩
  have s2 : Same H1 (upd H1 tp (.tup [.str sLetters, .bl (decide (V.int (r1 : Nat) = V.int 0))])) := same_new ntp
  have sb2 : SB δ.x H (upd H1 tp (.tup [.str sLetters, .bl (decide (V.int (r1 : Nat) = V.int 0))])) := sb1.trans (SB.of s2)
  have dr2 := dr1.same s2
  refine ⟨Nat.zero_le _, fun F nF => ⟨_, _, rfl, ?_⟩⟩
  have nF1 : H1 F = none := s2.free nF
  have nF0 : H F = none := sb_free sb1 ⟨_, dr1.choose_spec.1⟩ nF1
  have s3 : Same (upd H1 tp (.tup [.str sLetters, .bl (decide (V.int (r1 : Nat) = V.int 0))])) (upd (upd H1 tp (.tup [.str sLetters, .bl (decide (V.int (r1 : Nat) = V.int 0))])) F (.lst [])) := same_new nF
  refine ⟨_, rfl, 5, rfl, by decide, by decide, ?_⟩
  refine for_range (fun i σ H' => ∃ rest y z ws, σ = [some (.ref δ.x), some (.int 5), some (.str sLetters), some (.bl (decide (V.int (r1 : Nat) = V.int 0))), some (.str rest), some (.ref F), y, z, none] ∧ WInv K δ F (decide (V.int (r1 : Nat) = V.int 0)) H H' rest ws i)
    ⟨_, _, _, [], rfl, sb2.trans (SB.of s3), dr2.same s3, upd_same, fun n hn => (by rw [show ("" : Str).cps.toList = [] by decide +kernel] at hn; cases hn), by decide +kernel, .nil⟩ ?_ ?_
  · rintro i σ H4 hi ⟨rest, y, z, ws, rfl, inv⟩
    have hi5 : i < 5 := hi
    have tail : ∀ rest' H5 (D : Ends), WInv K δ F (decide (V.int (r1 : Nat) = V.int 0)) H H5 rest' ws i → (∀ σ H', (∃ rest y z ws, σ = [some (.ref δ.x), some (.int 5), some (.str sLetters), some (.bl (decide (V.int (r1 : Nat) = V.int 0))), some (.str rest), some (.ref F), y, z, none] ∧ WInv K δ F (decide (V.int (r1 : Nat) = V.int 0)) H H' rest ws (i + 1)) → D.nx σ H') →
        tSeq (tAsg (tOp rIxS (tC (.str "bcdfghk")) (tVar 6)) (gName 7)) (tDrop (tBM K "list" rAppend (tVar 5) (tCons (tIf (tB (tVar 3)) (tOp rAddT (tVar 7) (tVar 4)) (tOp rAddT (tVar 4) (tVar 7))) tNil))) D
          [some (.ref δ.x), some (.int 5), some (.str sLetters), some (.bl (decide (V.int (r1 : Nat) = V.int 0))), some (.str rest'), some (.ref F), some (.int (0 + (i : Int))), z, none] H5 := fun rest' H5 D inv' hD =>
      words_tail hi5 inv' nF0 dr fun ws' H' z' inv'' => hD _ _ ⟨rest', _, z', ws', rfl, inv''⟩
    have dr4 := inv.2.1
    refine ⟨_, rfl, rfl, decide (V.int (0 + (i : Int)) = V.int 0), rfl, ?_⟩
    by_cases i0 : V.int (0 + (i : Int)) = V.int 0
    · rw [decide_eq_true i0]
      refine iteT (iteT ?_)
      exact words_rest (P := P) (w := w) (mg := mg) (base := base) hi5 inv nF0 dr fun rest' H' inv' => tail rest' H' _ inv' fun _ _ h => h
    · rw [decide_eq_false i0]
      refine iteF ⟨_, rfl, δ, 3, rfl, by decide, dr4, fun H5 r sb5 dr5 lt5 => ⟨_, _, rfl, rfl, _, rfl, ?_⟩⟩
      have inv5 : WInv K δ F (decide (V.int (r1 : Nat) = V.int 0)) H H5 rest ws i := ⟨inv.1.trans sb5, dr5, sb5 _ _ inv.2.2.1 (dr.ne nF0), inv.2.2.2⟩
      by_cases pos : (0 : Int) < r
      · rw [decide_eq_true pos]
        exact iteT (words_rest (P := P) (w := w) (mg := mg) (base := base) hi5 inv5 nF0 dr fun rest' H' inv' => tail rest' H' _ inv' fun _ _ h => h)
      · rw [decide_eq_false pos]
        exact iteF (tail rest H5 _ inv5 fun _ _ h => h)
  · rintro σ H4 ⟨rest, y, z, ws, rfl, sb, dr4, hF, _, _, al⟩
    have l5 : ws.length = 5 := by
      have := al.len
      simpa [owns] using this
    refine ⟨_, rfl, q H4 F ws sb dr4 nF0 hF l5 (nodup_own al (by decide)) fun w hw => ?_⟩
    obtain ⟨o, _, h, _⟩ := al.left w hw
    exact h
theorem ok_alphabet (D : Df K mg "_law_alphabet" s__law_alphabet ["_law_draw_here"]) (T : Tx K mg) (c_l_next : Cal P w K mg base 3 "_law_next" (spNext K)) (c_l_words : Cal P w K mg base 5 "_law_words" (spWords K)) : Cal P w K mg base 6 "_law_alphabet" (spAlpha K) := by
  refine cal_of D sc__law_alphabet (fun vs H Q E h => ?_) (fun f cdv A outer s H vs Q E hr h => ?_)
  · obtain ⟨δ, rfl, _⟩ := h
    rfl
  obtain ⟨δ, rfl, dr, q⟩ := h
  refine ⟨_, (pss_cons (ps_set (i := 1) sc__law_alphabet.nd rfl (.inl rfl) (pc c_l_words hr (by rfl) (pa_cons (pv 0) (pa_cons pe_int pa_nil))))
    (pss_cons (ps_par (i := 2) (j := 3) (by rfl) sc__law_alphabet.nd rfl rfl (by decide) rfl rfl (pa_cons (pe_slice sl_list (pv 1) po_none (po_some pe_int)) (pa_cons (pe_slice sl_list (pv 1) (po_some pe_int) po_none) pa_nil)) (by rfl))
    (pss_cons (ps_if (pt_cmpR op_eq (pc c_l_next hr (by rfl) (pa_cons (pv 0) (pa_cons pe_int pa_nil))) pe_int (nomark _))
    (pss_one (ps_asg (pe_ix ix_list (pv 3) pe_int (fun _ _ => rfl)) (pg_sub (pv 2) pe_int set_list)))
    pss_nil)
    (pss_one (ps_ret (pe_tup (pa_cons (pv 2) (pa_cons (pv 3) pa_nil)))))))), ?_⟩
  refine ⟨_, rfl, δ, rfl, dr, fun H1 p1 ws sb1 dr1 np1 hp1 l5 nd wd => ?_⟩
  obtain ⟨w0, w1, w2, w3, w4, rfl⟩ : ∃ w0 w1 w2 w3 w4, ws = [w0, w1, w2, w3, w4] := by
    match ws, l5 with
    | [a, b, c, d, e], _ => exact ⟨a, b, c, d, e, rfl⟩
  have ex := dr.choose_spec.1
  refine ⟨_, rfl, _, rfl, p1, _, rfl, SqL.of hp1, fun nl nnl => ?_⟩
  have s2 : Same H1 (upd H1 nl (.lst (cutV ([w0, w1, w2, w3, w4].map V.str) none (some 3)))) := same_new nnl
  refine ⟨_, rfl, _, rfl, p1, _, rfl, SqL.of (s2 _ _ hp1), fun rl nrl => ⟨_, _, rfl, ?_⟩⟩
  have s3 := s2.trans (same_new (o := .lst (cutV ([w0, w1, w2, w3, w4].map V.str) (some 3) none)) nrl)
  have hn3 : (upd (upd H1 nl (.lst (cutV ([w0, w1, w2, w3, w4].map V.str) none (some 3)))) rl (.lst (cutV ([w0, w1, w2, w3, w4].map V.str) (some 3) none))) nl = some (.lst ([w0, w1, w2].map V.str)) := (same_new nrl) _ _ upd_same
  have hr3 : (upd (upd H1 nl (.lst (cutV ([w0, w1, w2, w3, w4].map V.str) none (some 3)))) rl (.lst (cutV ([w0, w1, w2, w3, w4].map V.str) (some 3) none))) rl = some (.lst ([w3, w4].map V.str)) := upd_same
  have nnl0 : H nl = none := sb_free sb1 ⟨_, dr1.choose_spec.1⟩ nnl
  have nrl0 : H rl = none := sb_free sb1 ⟨_, dr1.choose_spec.1⟩ (s2.free nrl)
  have nlrl : nl ≠ rl := ne_of_none (show (upd H1 nl _) nl = _ from upd_same) nrl
  generalize upd (upd H1 nl (.lst (cutV ([w0, w1, w2, w3, w4].map V.str) none (some 3)))) rl (.lst (cutV ([w0, w1, w2, w3, w4].map V.str) (some 3) none)) = H3 at s3 hn3 hr3 ⊢
  have dr3 := dr1.same s3
  refine ⟨_, rfl, δ, 5, rfl, by decide, dr3, fun H4 r sb4 dr4 lt4 => ?_⟩
  have hn4 := sb4 _ _ hn3 (dr.ne nnl0)
  have hr4 := sb4 _ _ hr3 (dr.ne nrl0)
  have sbH : SB δ.x H H4 := (sb1.trans (SB.of s3)).trans sb4
  have fin : ∀ H5 ns, SB δ.x H H5 → DrawAt K H5 δ → H5 nl = some (.lst ((ns : List Str).map V.str)) → H5 rl = some (.lst ([w3, w4].map V.str)) → AlphaOk ns [w3, w4] → ∀ p, H5 p = none → Q (.ref p) (upd H5 p (.tup [.ref nl, .ref rl])) := fun H5 ns sb5 dr5 h1 h2 ok p np =>
    q _ p nl rl ns [w3, w4] (sb5.trans (SB.of (same_new np))) (dr5.same (same_new np)) (SqT.of upd_same) ((same_new np) _ _ h1) ((same_new np) _ _ h2) nnl0 nrl0 ok
  have wr : ∀ s ∈ [w3, w4], Word s := mem2 (wd w3 (by simp)) (wd w4 (by simp))
  simp only [List.nodup_cons, List.mem_cons, List.not_mem_nil, or_false, not_or] at nd
  obtain ⟨⟨a1, a2, a3, a4⟩, ⟨b2, b3, b4⟩, _⟩ := nd
  refine ⟨rfl, _, rfl, ?_⟩
  by_cases z : V.int (r : Nat) = V.int 0
  · rw [decide_eq_true z]
    refine iteT ⟨_, rfl, rl, _, 0, _, rfl, rfl, SqL.of hr4, atI_nat (j := 0) rfl, _, rfl, nl, _, 2, 2, rfl, rfl, hn4, rfl, ?_⟩
    have sb5 : SB δ.x H (upd H4 nl (.lst ((([w0, w1, w2].map V.str)).set 2 (.str w3)))) := fun b o hb ne => by rw [upd_ne (ne_of_none hb nnl0)]; exact sbH _ _ hb ne
    refine ⟨_, rfl, _, rfl, sz_le (Nat.le_trans (by decide : 2 ≤ 3) (by decide)), fin _ [w0, w1, w3] sb5 (dr.put dr4 sb5 (upd_ne (Ne.symm (dr.ne nnl0)))) upd_same (by rw [upd_ne (Ne.symm nlrl)]; exact hr4) ⟨rfl, rfl, by simp [a1, a3, b3], mem3 (wd w0 (by simp)) (wd w1 (by simp)) (wd w3 (by simp)), wr⟩⟩
  · rw [decide_eq_false z]
    refine iteF ⟨_, rfl, _, rfl, sz_le (Nat.le_trans (by decide : 2 ≤ 3) (by decide)), fin H4 [w0, w1, w2] sbH dr4 hn4 hr4 ⟨rfl, rfl, by simp [a1, a2, b2], mem3 (wd w0 (by simp)) (wd w1 (by simp)) (wd w2 (by simp)), wr⟩⟩
end
end K77
end

section
set_option Elab.async false
set_option linter.all false
set_option maxRecDepth 100000
set_option maxHeartbeats 4000000
/-! the law's concepts and facts -/
namespace K77
open PySem PySem.Spec PyProof.Rows L2
abbrev s__law_concept : Stmt := top 53
theorem sc__law_concept : FnScope ["_law_draw_here", "_law_names", "_law_roles", "_law_deep", "_law_kind", "_law_many", "_law_turn"] ["_law_draw_here", "_law_names", "_law_roles", "_law_deep"] (defScope s__law_concept) := ⟨rfl, rfl, rfl, by decide +kernel, rfl, by decide +kernel, by decide +kernel⟩
abbrev s__law_facts : Stmt := top 54
theorem sc__law_facts : FnScope ["_law_draw_here", "_law_names", "_law_roles", "_law_most", "_law_many", "_law_thing", "_law_rows", "_law_edges", "_law_turn", "_law_edge", "_law_name"] ["_law_draw_here", "_law_names", "_law_roles", "_law_most"] (defScope s__law_facts) := ⟨rfl, rfl, rfl, by decide +kernel, rfl, by decide +kernel, by decide +kernel⟩
/-- a change of kinds alone leaves the look-up by name -/
theorem lookup_kinds {α : Type} (f : Str × α → Str × α) (same : ∀ p, (f p).1 = p.1) (x : Str) : ∀ l : List (Str × α), (l.map f).lookup x = match l.find? (x == ·.1) with | some p => some (f p).2 | none => none
  | [] => rfl
  | p :: r => by
    rw [List.map_cons, List.lookup_cons, List.find?_cons, same p]
    cases h : x == p.1
    · exact lookup_kinds f same x r
    · rfl
theorem lookup_find {α : Type} (x : Str) (l : List (Str × α)) : l.lookup x = (l.find? (x == ·.1)).map (·.2) := by
  have h := lookup_kinds (fun p => p) (fun _ => rfl) x l
  rw [List.map_id'] at h
  rw [h]
  cases l.find? (x == ·.1) <;> rfl
/-- a captured name stays one where the block is told anew -/
theorem rel_vis {sc : Scope} {env : Env} {x : Str} (h : sc.names.lookup x = some .cell ∨ sc.names.lookup x = some .free) : (relabel sc env).names.lookup x = some .cell ∨ (relabel sc env).names.lookup x = some .free := by
  unfold relabel
  rw [lookup_kinds _ (fun p => by dsimp only; split <;> rfl)]
  rw [lookup_find] at h
  cases e : sc.names.find? (x == ·.1) with
  | none => rw [e] at h; simp at h
  | some p =>
    rw [e] at h
    simp only [Option.map_some, Option.some.injEq] at h ⊢
    split
    · exact .inl rfl
    · exact h
theorem blkOk_in {N : List Str} {sc scope : Scope} {own : List (Str × Nat)} {env : Env} (h : blkC N sc scope own = true) : BlkOk N (relabel sc env) scope own :=
  { blkOk_by h with free := fun y hy e => rel_vis ((blkOk_by h).free y hy e) }
section
variable {X : Cx} {K : PySem.W.Frag}
theorem call_tuple_ofB (e : X.K = K) : CallR X (.type "tuple") (fun xs H Q => ∃ p ys, xs = [.ref p] ∧ ((SqL K H p ys ∧ ∀ l, H l = none → Q (.ref l) (upd H l (.tup ys))) ∨ (SqT K H p ys ∧ Q (.ref p) H))) := e ▸ call_tuple_of
theorem cr_sortedSsB (e : X.K = K) : CallR X (.builtin "sorted") (rSortedS K) := e ▸ cr_sortedS
end
theorem asc_rising : ∀ (p : Str) (l : List Str), risingS p l = true → (p :: l).Nodup → Asc lst1 (p :: l)
  | p, [], _, _ => List.pairwise_singleton _ _
  | p, x :: r, h, nd => by
    obtain ⟨n1, n2⟩ := List.nodup_cons.mp nd
    have h' : (!ltCps x.cps.toList p.cps.toList) = true ∧ risingS x r = true := by
      have : (!ltCps x.cps.toList p.cps.toList && risingS x r) = true := h
      rwa [Bool.and_eq_true] at this
    obtain ⟨h1, h2⟩ := h'
    rw [ltCps_eq, Bool.not_eq_true', decide_eq_false_iff_not] at h1
    have ih := asc_rising x r h2 n2
    have px : lst1 p < lst1 x := Classical.byContradiction fun z => n1 (by
      have : p = x := str_eq (List.le_antisymm (List.not_lt.mp h1) (List.not_lt.mp z))
      rw [this]; exact List.mem_cons_self)
    refine List.pairwise_cons.mpr ⟨fun y hy => ?_, ih⟩
    rcases List.mem_cons.mp hy with rfl | hy
    · exact px
    · exact List.lt_trans px ((List.pairwise_cons.mp ih).1 y hy)
theorem asc_sortedS : ∀ {l : List Str}, sortedS l = true → l.Nodup → Asc lst1 l
  | [], _, _ => List.Pairwise.nil
  | x :: r, h, nd => asc_rising x r h nd
theorem dps_edges {K : PySem.W.Frag} {H : Hp} : ∀ {xs : List V} {es : List Edge}, All2 (EAt K H) xs es → DpAll K H xs (es.map edat)
  | _, _, .nil => .nil
  | _, _, .cons h t => .cons h (dps_edges t)
theorem eqv_e (x y : Edge) : PyData.eqv (edat x) (edat y) = true ↔ x = y := by
  obtain ⟨a, r, o⟩ := x
  obtain ⟨b, q, p⟩ := y
  simp [edat, eqv_tup, PyData.eqvAll, PyData.eqv, Int.natCast_inj]
theorem any_e {es : List Edge} {e : Edge} : ((es.map edat).any fun z => PyData.eqv z (edat e)) = true ↔ e ∈ es := by
  rw [List.any_map, List.any_eq_true]
  constructor
  · rintro ⟨x, hx, h⟩
    have := (eqv_e x e).mp h
    exact this ▸ hx
  · exact fun h => ⟨e, h, (eqv_e e e).mpr rfl⟩
theorem lay_e {e : Edge} (h : Word e.2.1) : (edat e).canLay0 = true := by
  simp [edat, PyData.canLay0, PyData.canLayAll0, strOk_word h]
theorem shaped_e {e : Edge} (h : Word e.2.1) : SeqAt.shaped (edat e) = true := by
  unfold SeqAt.shaped
  rw [lay_e h, depth_e]
  rfl
theorem shaped_es {es : List Edge} (h : ∀ e ∈ es, Word e.2.1) : SeqAt.shaped (.list (es.map edat)) = true := by
  have go : ∀ l : List Edge, (∀ e ∈ l, Word e.2.1) → PyData.canLayAll0 (l.map edat) = true ∧ PyData.depthAll (l.map edat) ≤ 1 := by
    intro l
    induction l with
    | nil => intro _; simp [PyData.canLayAll0, PyData.depthAll]
    | cons c r ih =>
      intro h
      obtain ⟨b1, b2⟩ := ih fun x hx => h x (List.mem_cons_of_mem _ hx)
      refine ⟨by simp [PyData.canLayAll0, lay_e (h c List.mem_cons_self), b1], ?_⟩
      simp only [List.map_cons, PyData.depthAll, depth_e]
      omega
  obtain ⟨a, b⟩ := go es h
  unfold SeqAt.shaped
  rw [PyData.canLay0, a, PyData.depth, decide_eq_true (by omega)]
  rfl
def spConceptL (K : PySem.W.Frag) (n : Nat) : Sp := fun vs H Q _ => ∃ δ : Dr, ∃ nl rl, ∃ ns rs : List Str, ∃ d : Nat, vs = [.ref δ.x, .ref nl, .ref rl, .int d] ∧ d < n ∧ d ≤ 4 ∧ DrawAt K H δ ∧ H nl = some (.lst (ns.map V.str)) ∧ H rl = some (.lst (rs.map V.str)) ∧ nl ≠ δ.x ∧ rl ≠ δ.x ∧ AlphaOk ns rs ∧
  ∀ H' v c, SB δ.x H H' → DrawAt K H' δ → CAt K H' v c → Good c → dep c ≤ d → nest c ≤ d → wt c ≤ 4 ^ d → Q v H'
theorem pick_nm {K : PySem.W.Frag} {δ : Dr} {nl : Addr} {ns rs : List Str} {σ : L2.St} {H1 : Hp} {Q : VK} (s0 : σ[0]? = some (some (.ref δ.x))) (s1 : σ[1]? = some (some (.ref nl))) (dr1 : DrawAt K H1 δ) (hn1 : H1 nl = some (.lst (ns.map V.str))) (al : AlphaOk ns rs)
    (q : ∀ H' v c, SB δ.x H1 H' → DrawAt K H' δ → CAt K H' v c → Good c → dep c = 0 → nest c = 0 → wt c = 1 → Q v H') :
    tGo (spPick K) (tCons (tVar 0) (tCons (tOp rCat (tOp rCat (tVar 1) (tVar 1)) (tLst (tCons (tC (.str "all")) tNil))) tNil)) σ H1 Q := by
  have l3 : (ns.map V.str).length = 3 := by rw [List.length_map]; exact al.ln
  refine ⟨_, s0, _, s1, _, s1, nl, nl, _, _, rfl, rfl, hn1, hn1, sz_le (by omega), fun p1 np1 => ⟨sz_le (Nat.le_trans (by decide : 1 ≤ 2) (by decide)), fun p2 np2 => ?_⟩⟩
  have e1 : (upd H1 p1 (.lst (ns.map V.str ++ ns.map V.str))) p1 = some (.lst (ns.map V.str ++ ns.map V.str)) := upd_same
  refine ⟨p1, p2, _, _, rfl, rfl, (same_new np2) _ _ e1, upd_same, sz_le (by rw [List.length_append]; simp only [List.length_cons, List.length_nil]; omega), fun p3 np3 => ?_⟩
  have s3 := ((same_new np1).trans (same_new np2)).trans (same_new (o := .lst ((ns.map V.str ++ ns.map V.str) ++ [.str "all"])) np3)
  refine ⟨δ, p3, _, rfl, SqL.of upd_same, dr1.ne (((same_new np1).trans (same_new np2)).free np3), by simp, dr1.same s3, fun H' v sb' dr' hv => ?_⟩
  have hv' : v ∈ ns.map V.str ∨ v = V.str "all" := by
    simp only [List.mem_append, List.mem_singleton] at hv
    rcases hv with (h | h) | h
    · exact .inl h
    · exact .inl h
    · exact .inr h
  rcases hv' with h | rfl
  · obtain ⟨s, hs, rfl⟩ := List.mem_map.mp h
    exact q H' _ (.nm s) ((SB.of s3).trans sb') dr' cat_nm (al.wn s hs) rfl rfl rfl
  · exact q H' _ .all ((SB.of s3).trans sb') dr' cat_all trivial rfl rfl rfl
section
variable {P : Program} {w : World} {K : PySem.W.Frag} {mg : Str → Option Value} {base : Heap}
theorem step_conceptL {n k : Nat} (D : Df K mg "_law_concept" s__law_concept ["_law_draw_here", "_law_names", "_law_roles", "_law_deep"]) (T : Tx K mg) (c_l_next : Cal P w K mg base k "_law_next" (spNext K)) (c_l_pick : Cal P w K mg base k "_law_pick" (spPick K)) (c_l_concept : Cal P w K mg base k "_law_concept" (spConceptL K n)) :
    Cal P w K mg base (k + 1) "_law_concept" (spConceptL K (n + 1)) := by
  refine cal_of D sc__law_concept (fun vs H Q E h => ?_) (fun f cdv A outer s H vs Q E hr h => ?_)
  · obtain ⟨δ, nl, rl, ns, rs, d, rfl, _⟩ := h
    rfl
  obtain ⟨δ, nl, rl, ns, rs, d, rfl, hd, h4, dr, hn, hrl, nx, rx, al, q⟩ := h
  refine ⟨_, (pss_cons (ps_set (i := 4) sc__law_concept.nd rfl (.inl rfl) (pc c_l_next hr (by rfl) (pa_cons (pv 0) (pa_cons pe_int pa_nil))))
    (pss_cons (ps_if (PW.pt (pw_or (pt_cmpR op_eq (pv 3) pe_int (nomark _)) (pw_or1 (pt_cmpR op_lt (pv 4) pe_int (nomark _)))))
    (pss_one (ps_ret (pc c_l_pick hr (by rfl) (pa_cons (pv 0) (pa_cons (pe_op op_cat (pe_op op_cat (pv 1) (pv 1)) (pe_lst (pa_cons pe_str pa_nil))) pa_nil)))))
    pss_nil)
    (pss_cons (ps_if (pt_cmpR op_lt (pv 4) pe_int (nomark _))
    (pss_one (ps_ret (pe_tup (pa_cons pe_str (pa_cons (pc c_l_pick hr (by rfl) (pa_cons (pv 0) (pa_cons (pv 2) pa_nil))) (pa_cons (pc c_l_concept hr (by rfl) (pa_cons (pv 0) (pa_cons (pv 1) (pa_cons (pv 2) (pa_cons (pe_op op_sub (pv 3) pe_int) pa_nil))))) pa_nil))))))
    pss_nil)
    (pss_cons (ps_set (i := 5) sc__law_concept.nd rfl (.inl rfl) (pe_op op_add pe_int (pe_callTy call_int1 (by rfl) T.int boot_int (pa_cons (pe_cmpR op_eq (pc c_l_next hr (by rfl) (pa_cons (pv 0) (pa_cons pe_int pa_nil))) pe_int (nomark _)) pa_nil))))
    (pss_one (ps_ret (pe_op op_catA (pe_tup (pa_cons pe_str pa_nil)) (pe_callTy call_tuple_of (by rfl) T.tuple boot_tuple (pa_cons (pe_lc (own := [("_law_turn", 6)]) rfl sc__law_concept.nd (pi_range1 (by rfl) T.range (pa_cons (pv 5) pa_nil)) (blkOk_by (N := ["_law_draw_here", "_law_names", "_law_roles", "_law_deep", "_law_kind", "_law_many", "_law_turn"]) (sc := defScope s__law_concept) (own := [("_law_turn", 6)]) (by decide +kernel)) (fun _ _ _ _ _ => (pg_name (i := 6) sc__law_concept.nd rfl (.inl rfl))) (fun _ _ _ _ _ => pts_nil) (fun _ _ _ _ _ => (pc c_l_concept hr (by rfl) (pa_cons (pv 0) (pa_cons (pv 1) (pa_cons (pv 2) (pa_cons (pe_op op_sub (pv 3) pe_int) pa_nil))))))) pa_nil))))))))), ?_⟩
  refine ⟨_, rfl, δ, 8, rfl, by decide, dr, fun H1 r sb1 dr1 lt1 => ?_⟩
  have hn1 := sb1 _ _ hn nx
  have hr1 := sb1 _ _ hrl rx
  refine ⟨_, rfl, rfl, _, rfl, ?_⟩
  cases d with
  | zero =>
    refine iteT (iteT ?_)
    exact pick_nm rfl rfl dr1 hn1 al fun H' v c sb' dr' cv g d0 n0 w0 => q H' v c (sb1.trans sb') dr' cv g (by omega) (by omega) (by rw [w0]; exact Nat.one_le_pow _ _ (by decide))
  | succ d =>
  rw [decide_eq_false (show ¬ V.int ((d + 1 : Nat) : Int) = V.int 0 from fun z => by have := V.int.inj z; omega)]
  refine iteF ⟨_, rfl, _, _, rfl, rfl, _, rfl, ?_⟩
  by_cases k2 : ((r : Nat) : Int) < 2
  · rw [decide_eq_true k2]
    refine iteT ?_
    exact pick_nm rfl rfl dr1 hn1 al fun H' v c sb' dr' cv g d0 n0 w0 => q H' v c (sb1.trans sb') dr' cv g (by omega) (by omega) (by rw [w0]; exact Nat.one_le_pow _ _ (by decide))
  rw [decide_eq_false k2]
  refine iteF ⟨_, rfl, _, _, rfl, rfl, _, rfl, ?_⟩
  have ed : ((d + 1 : Nat) : Int) - 1 = (d : Nat) := by omega
  have p4 : 1 ≤ 4 ^ d := Nat.one_le_pow _ _ (by decide)
  have p5 : 4 ^ (d + 1) = 4 * 4 ^ d := by rw [Nat.pow_succ]; omega
  by_cases k6 : ((r : Nat) : Int) < 6
  · rw [decide_eq_true k6]
    have l2 : (rs.map V.str) ≠ [] := fun z => by have lr := al.lr; rw [List.map_eq_nil_iff.mp z] at lr; cases lr
    refine iteT ⟨_, rfl, _, rfl, δ, rl, _, rfl, SqL.of hr1, rx, l2, dr1, fun H2 v2 sb2 dr2 hv2 => ?_⟩
    obtain ⟨r2, hr2, rfl⟩ := List.mem_map.mp hv2
    refine ⟨_, rfl, _, rfl, _, rfl, _, rfl, _, 1, rfl, rfl, δ, nl, rl, ns, rs, d, ?_, by omega, by omega, dr2, sb2 _ _ hn1 nx, sb2 _ _ hr1 rx, nx, rx, al, fun H3 v3 c3 sb3 dr3 cv3 g3 dp3 n3 w3 => ⟨sz_le (Nat.le_trans (by decide : 3 ≤ 4) (by decide)), fun p np => ?_⟩⟩
    · show [V.ref δ.x, V.ref nl, V.ref rl, V.int (((d + 1 : Nat) : Int) - 1)] = _
      rw [ed]
    · refine q _ _ (.sm r2 c3) (((sb1.trans sb2).trans sb3).trans (SB.of (same_new np))) (dr3.same (same_new np)) (cat_sm (SqT.of upd_same) (cat_same (same_new np) cv3)) ⟨al.wr r2 hr2, g3⟩ ?_ ?_ ?_
      · simp only [dep]; omega
      · simp only [nest]; omega
      · simp only [wt]; omega
  · rw [decide_eq_false k6]
    refine iteF ⟨_, rfl, δ, 4, rfl, by decide, dr1, fun H2 r2 sb2 dr2 lt2 => ⟨rfl, .inr ⟨_, rfl, 2, _, rfl, rfl, ?_⟩⟩⟩
    obtain ⟨mm, em, m2, m3⟩ : ∃ mm : Nat, (2 + (if decide (V.int (r2 : Nat) = V.int 0) = true then 1 else 0) : Int) = mm ∧ 2 ≤ mm ∧ mm ≤ 3 := by
      by_cases z : decide (V.int (r2 : Nat) = V.int 0) = true
      · exact ⟨3, by rw [if_pos z]; rfl, by decide, by decide⟩
      · exact ⟨2, by rw [if_neg z]; rfl, by decide, by decide⟩
    have hn2 := sb2 _ _ hn1 nx
    have hr2 := sb2 _ _ hr1 rx
    refine ⟨sz_le (Nat.le_trans (by decide : 1 ≤ 2) (by decide)), fun pa npa => ?_⟩
    have s3 : Same H2 (upd H2 pa (.tup [.str "and"])) := same_new npa
    have pa3 : (upd H2 pa (.tup [.str "and"])) pa = some (.tup [.str "and"]) := upd_same
    generalize upd H2 pa (.tup [.str "and"]) = H3 at s3 pa3 ⊢
    have sbH : SB δ.x H H3 := (sb1.trans sb2).trans (SB.of s3)
    have dr3 := dr2.same s3
    refine ⟨_, rfl, mm, congrArg (fun i => [V.int i]) em, by omega, by omega, fun D nD => ?_⟩
    have Dx := dr3.ne nD
    have pax : pa ≠ δ.x := ne_of pa3 dr3.choose_spec.1 (fun z => by cases z)
    have nD0 : H D = none := sb_free sbH ⟨_, dr3.choose_spec.1⟩ nD
    refine it_by walk_range (fun j H' => SB δ.x H3 H' ∧ DrawAt K H' δ ∧ ∃ ws cs, H' D = some (.lst ws) ∧ CsAt K H' ws cs ∧ ws.length = j ∧ ∀ c ∈ cs, Good c ∧ dep c ≤ d ∧ nest c ≤ d ∧ wt c ≤ 4 ^ d) ⟨SB.of (same_new nD), dr3.same (same_new nD), [], [], upd_same, .nil, rfl, fun c hc => nomatch hc⟩ (fun _ _ _ _ => trivial) ?_ ?_
    · rintro j xx H4 _ hj ⟨sb4, dr4, ws, cs, hD4, hcs, lj, gcs⟩ ⟨rfl, rfl⟩
      have hj3 : j < 3 := by omega
      refine ⟨rfl, _, rfl, _, rfl, _, rfl, _, rfl, _, 1, rfl, rfl, δ, nl, rl, ns, rs, d, ?_, by omega, by omega, dr4, sb4 _ _ (s3 _ _ hn2) nx, sb4 _ _ (s3 _ _ hr2) rx, nx, rx, al, fun H5 v5 c5 sb5 dr5 cv5 g5 dp5 n5 w5 => ?_⟩
      · show [V.ref δ.x, V.ref nl, V.ref rl, V.int (((d + 1 : Nat) : Int) - 1)] = _
        rw [ed]
      · have D5 := sb5 _ _ hD4 Dx
        have sb6 : SB δ.x H3 (upd H5 D (.lst (ws ++ [v5]))) := fun b o hb ne => by
          rw [upd_ne (ne_of_none hb nD)]
          exact sb5 _ _ (sb4 _ _ hb ne) ne
        have tk := upd_tk (K := K) (o' := .lst (ws ++ [v5])) D5 (fun ys e => by cases e) (fun u ys e => by cases e)
        refine ⟨ws, D5, sz_lt (by omega), sb6, dr3.put dr5 sb6 (upd_ne (Ne.symm Dx)), ws ++ [v5], cs ++ [c5], upd_same, (hcs.imp fun _ _ h => cat_tk tk _ _ (cat_tk (dr4.tk sb5) _ _ h)).snoc (cat_tk tk _ _ cv5), by rw [List.length_append, lj]; rfl, fun c hc => ?_⟩
        rcases List.mem_append.mp hc with hc | hc
        · exact gcs c hc
        · rw [List.mem_singleton.mp hc]; exact ⟨g5, dp5, n5, w5⟩
    · rintro H4 ⟨sb4, dr4, ws, cs, hD4, hcs, lj, gcs⟩
      have lj' : ws.length = mm := by rw [lj]; omega
      refine ⟨D, ws, rfl, .inl ⟨SqL.of hD4, fun l nl' => ?_⟩⟩
      have pa4 := (same_new (o := .tup ws) nl') _ _ (sb4 _ _ pa3 pax)
      refine ⟨pa, l, [.str "and"], ws, rfl, rfl, SqT.of pa4, SqT.of upd_same, sz_le (by simp; omega), fun e => (by cases e), fun _ e => (by rw [e] at lj'; simp at lj'; omega), fun _ _ p np => ?_⟩
      have s5 := (same_new (o := .tup ws) nl').trans (same_new (o := .tup ([.str "and"] ++ ws)) np)
      have lc := hcs.len
      refine q _ _ (.an cs) ((sbH.trans sb4).trans (SB.of s5)) (dr4.same s5) (cat_an (SqT.of upd_same) (cs_same s5 hcs)) ⟨by omega, goods_iff.mpr fun c hc => (gcs c hc).1⟩ ?_ ?_ ?_
      · simp only [dep]; exact deps_le fun c hc => by have := (gcs c hc).2.1; omega
      · have : nests cs ≤ d := nests_le fun c hc => (gcs c hc).2.2.1
        simp only [nest]; omega
      · have : wts cs ≤ cs.length * 4 ^ d := wts_le fun c hc => (gcs c hc).2.2.2
        have m3' : cs.length * 4 ^ d ≤ 3 * 4 ^ d := Nat.mul_le_mul_right _ (by omega)
        simp only [wt]
        omega
theorem ok_conceptL (D : Df K mg "_law_concept" s__law_concept ["_law_draw_here", "_law_names", "_law_roles", "_law_deep"]) (T : Tx K mg) (c_l_next : Cal P w K mg base 3 "_law_next" (spNext K)) (c_l_pick : Cal P w K mg base 4 "_law_pick" (spPick K)) : ∀ n, Cal P w K mg base (4 + n) "_law_concept" (spConceptL K n)
  | 0 => cal_void D fun vs H Q E h => by
    obtain ⟨δ, nl, rl, ns, rs, d, _, h, _⟩ := h
    exact absurd h (Nat.not_lt_zero _)
  | n + 1 => step_conceptL (k := 4 + n) D T (c_l_next.up (by omega)) (c_l_pick.up (by omega)) (ok_conceptL D T c_l_next c_l_pick n)
def spFacts (K : PySem.W.Frag) : Sp := fun vs H Q _ => ∃ δ : Dr, ∃ nl rl, ∃ ns rs : List Str, vs = [.ref δ.x, .ref nl, .ref rl, .int 4] ∧ DrawAt K H δ ∧ H nl = some (.lst (ns.map V.str)) ∧ H rl = some (.lst (rs.map V.str)) ∧ nl ≠ δ.x ∧ rl ≠ δ.x ∧ AlphaOk ns rs ∧
  ∀ H' p ra ea rvs xs rows es, SB δ.x H H' → DrawAt K H' δ → SqT K H' p [.ref ra, .ref ea] → H' ra = some (.lst rvs) → H' ea = some (.lst xs) → H ra = none → H ea = none → All2 (RowAt K H') rvs rows → All2 (EAt K H') xs es → Wrl rows es → rows.length ≤ 4 → Q (.ref p) H'
theorem ok_facts (D : Df K mg "_law_facts" s__law_facts ["_law_draw_here", "_law_names", "_law_roles", "_law_most"]) (T : Tx K mg) (c_l_next : Cal P w K mg base 3 "_law_next" (spNext K)) (c_l_pick : Cal P w K mg base 4 "_law_pick" (spPick K)) : Cal P w K mg base 5 "_law_facts" (spFacts K) := by
  refine cal_of D sc__law_facts (fun vs H Q E h => ?_) (fun f cdv A outer s H vs Q E hr h => ?_)
  · obtain ⟨δ, nl, rl, ns, rs, rfl, _⟩ := h
    rfl
  obtain ⟨δ, nl, rl, ns, rs, rfl, dr, hn, hrl, nx, rx, al, q⟩ := h
  refine ⟨_, (pss_cons (ps_set (i := 4) sc__law_facts.nd rfl (.inl rfl) (pe_op op_add pe_int (pc c_l_next hr (by rfl) (pa_cons (pv 0) (pa_cons (pv 3) pa_nil)))))
    (pss_cons (ps_setLc (i := 6) (own := [("_law_thing", 5)]) rfl sc__law_facts.nd rfl rfl (sw_true rfl rfl rfl (by decide +kernel)) (pi_range1 (by rfl) T.range (pa_cons (pv 4) pa_nil)) (blkOk_by (N := ["_law_draw_here", "_law_names", "_law_roles", "_law_most", "_law_many", "_law_thing", "_law_rows", "_law_edges", "_law_turn", "_law_edge", "_law_name"]) (sc := defScope s__law_facts) (own := [("_law_thing", 5)]) (by decide +kernel)) (fun _ _ _ _ _ => (pg_name (i := 5) sc__law_facts.nd rfl (.inl rfl))) (fun _ _ _ _ _ => pts_nil) (fun _ _ _ _ _ => (pe_callTy (call_tuple_ofB (K := K) rfl) (by rfl) T.tuple boot_tuple (pa_cons (pe_callB (cr_sortedSsB (K := K) rfl) (by rfl) T.sorted boot_sorted (pa_cons (pe_lc (own := [("_law_name", 10)]) rfl sc__law_facts.nd (pi_listB (K := K) rfl (pv 1)) (blkOk_in (N := ["_law_draw_here", "_law_names", "_law_roles", "_law_most", "_law_many", "_law_thing", "_law_rows", "_law_edges", "_law_turn", "_law_edge", "_law_name"]) (own := [("_law_name", 10)]) (by decide +kernel)) (fun _ _ _ _ _ => (pg_name (i := 10) sc__law_facts.nd rfl (.inl rfl))) (fun _ _ _ _ _ => (pts_one (pt_cmpR op_eq (pc c_l_next hr (by rfl) (pa_cons (pv 0) (pa_cons pe_int pa_nil))) pe_int (nomark _)))) (fun _ _ _ _ _ => (pv 10))) pa_nil)) pa_nil))))
    (pss_cons (ps_set (i := 7) sc__law_facts.nd rfl (.inl rfl) (pe_lst pa_nil))
    (pss_cons (ps_for PassesOwn.never rfl (pi_range1 (by rfl) T.range (pa_cons (pv 4) pa_nil)) (pg_name (i := 5) sc__law_facts.nd rfl (.inl rfl))
    (pss_one (ps_for PassesOwn.never rfl (pi_range1 (by rfl) T.range (pa_cons (pc c_l_next hr (by rfl) (pa_cons (pv 0) (pa_cons pe_int pa_nil))) pa_nil)) (pg_name (i := 8) sc__law_facts.nd rfl (.inl rfl))
    (pss_cons (ps_set (i := 9) sc__law_facts.nd rfl (.inl rfl) (pe_tup (pa_cons (pv 5) (pa_cons (pc c_l_pick hr (by rfl) (pa_cons (pv 0) (pa_cons (pv 2) pa_nil))) (pa_cons (pc c_l_next hr (by rfl) (pa_cons (pv 0) (pa_cons (pv 4) pa_nil))) pa_nil)))))
    (pss_one (ps_if (pt_cmpR (op_notInD (units65 hr)) (pv 9) (pv 7) rfl)
    (pss_one (ps_expr (pe_bm PySem.F.plainAttrs_list PySem.F.slot_list_append PySem.F.type_list_append mt_append (pv 7) (pa_cons (pv 9) pa_nil))))
    pss_nil))))))
    (pss_one (ps_ret (pe_tup (pa_cons (pv 6) (pa_cons (pe_callB (cr_sortedE hr.units) (by rfl) T.sorted boot_sorted (pa_cons (pv 7) pa_nil)) pa_nil))))))))), ?_⟩
  refine ⟨_, rfl, _, rfl, δ, 4, rfl, by decide, dr, fun H1 r sb1 dr1 lt1 => ⟨1, _, rfl, rfl, ?_⟩⟩
  have hn1 := sb1 _ _ hn nx
  have hr1 := sb1 _ _ hrl rx
  have l3 : (ns.map V.str).length = 3 := by rw [List.length_map]; exact al.ln
  have en : (1 + (r : Int)) = ((r + 1 : Nat) : Int) := by omega
  refine ⟨_, rfl, _, rfl, by omega, by omega, fun D nD => ?_⟩
  have Dx := dr1.ne nD
  have nD0 : H D = none := sb_free sb1 ⟨_, dr1.choose_spec.1⟩ nD
  refine it_by walk_range (fun j H' => SB δ.x H1 H' ∧ DrawAt K H' δ ∧ ∃ rvs rows, H' D = some (.lst rvs) ∧ All2 (RowAt K H') rvs rows ∧ rvs.length = j ∧ ∀ row ∈ rows, (∀ s ∈ row, s ∈ ns) ∧ Asc lst1 row) ⟨SB.of (same_new nD), dr1.same (same_new nD), [], [], upd_same, .nil, rfl, fun c hc => nomatch hc⟩ (fun _ _ _ _ => trivial) ?_ ?_
  · rintro j xx _ H2 hj ⟨sb2, dr2, rvs, rows, hD2, hrows, lj, grows⟩ ⟨rfl, rfl⟩
    have hn2 := sb2 _ _ hn1 nx
    refine ⟨rfl, _, rfl, nl, rfl, ⟨_, SqL.of hn2⟩, fun D2 nD2 => ?_⟩
    have D2x := dr2.ne nD2
    have DD2 : D ≠ D2 := ne_of_none hD2 nD2
    refine lc_list (K := K) (a := nl) (xs := ns.map V.str) (fun i H' => SB δ.x H2 H' ∧ DrawAt K H' δ ∧ ∃ zs : List Str, H' D2 = some (.lst (zs.map V.str)) ∧ zs.Sublist (ns.take i)) ⟨SB.of (same_new nD2), dr2.same (same_new nD2), [], upd_same, by simp⟩ (fun i H' _ h => SqL.of (h.1 _ _ hn2 nx)) ?_ ?_
    · rintro i v H3 hv ⟨sb3, dr3, zs, hD3, sub⟩
      rw [List.getElem?_map] at hv
      obtain ⟨s, hs, rfl⟩ := Option.map_eq_some_iff.mp hv
      have hi := (List.getElem?_eq_some_iff.mp hs).1
      have tk : ns.take (i + 1) = ns.take i ++ [s] := by rw [List.take_add_one, hs, Option.toList_some]
      refine ⟨rfl, _, rfl, δ, 3, rfl, by decide, dr3, fun H4 r4 sb4 dr4 lt4 => ⟨rfl, _, rfl, ?_⟩⟩
      have D4 := sb4 _ _ hD3 D2x
      by_cases z : V.int (r4 : Nat) = V.int 0
      · rw [decide_eq_true z]
        have sb5 : SB δ.x H2 (upd H4 D2 (.lst (zs.map V.str ++ [.str s]))) := fun b o hb ne => by
          rw [upd_ne (ne_of_none hb nD2)]
          exact sb4 _ _ (sb3 _ _ hb ne) ne
        have lz : zs.length ≤ 3 := by
          have := sub.length_le
          rw [List.length_take] at this
          have := al.ln
          omega
        exact iteT ⟨_, rfl, _, D4, sz_lt (by rw [List.length_map]; omega), sb5, dr2.put dr4 sb5 (upd_ne (Ne.symm D2x)), zs ++ [s], by rw [upd_same, List.map_append]; rfl, by rw [tk]; exact sub.append (List.Sublist.refl _)⟩
      · rw [decide_eq_false z]
        exact iteF ⟨sb3.trans sb4, dr4, zs, D4, by rw [tk]; exact sub.trans (List.sublist_append_left _ _)⟩
    · rintro H3 ⟨sb3, dr3, zs, hD3, sub⟩
      rw [l3, ← al.ln, List.take_length] at sub
      have lz : zs.length ≤ 3 := by have := sub.length_le; rw [al.ln] at this; exact this
      refine ⟨D2, zs, rfl, SqL.of hD3, by omega, fun ys p pm sd np => ⟨p, ys.map V.str, rfl, .inl ⟨SqL.of upd_same, fun l nl' => ?_⟩⟩⟩
      have s4 := (same_new (o := .lst (ys.map V.str)) np).trans (same_new (o := .tup (ys.map V.str)) nl')
      have l4 : (upd (upd H3 p (.lst (ys.map V.str))) l (.tup (ys.map V.str))) l = some (.tup (ys.map V.str)) := upd_same
      generalize upd (upd H3 p (.lst (ys.map V.str))) l (.tup (ys.map V.str)) = H4 at s4 l4 ⊢
      have sb24 : SB δ.x H2 H4 := sb3.trans (SB.of s4)
      have D4 := sb24 _ _ hD2 Dx
      have dr4 := dr3.same s4
      have sb5 : SB δ.x H1 (upd H4 D (.lst (rvs ++ [.ref l]))) := fun b o hb ne => by
        rw [upd_ne (ne_of_none hb nD)]
        exact sb24 _ _ (sb2 _ _ hb ne) ne
      have tk := upd_tk (K := K) (o' := .lst (rvs ++ [.ref l])) D4 (fun ys e => by cases e) (fun u ys e => by cases e)
      refine ⟨rvs, D4, sz_lt (by omega), sb5, dr1.put dr4 sb5 (upd_ne (Ne.symm Dx)), rvs ++ [.ref l], rows ++ [ys], upd_same, (hrows.imp fun _ _ h => row_tk tk (row_tk (dr2.tk sb24) h)).snoc ⟨l, rfl, tk _ _ (SqT.of l4)⟩, by rw [List.length_append, lj]; rfl, fun row hrow => ?_⟩
      rcases List.mem_append.mp hrow with h | h
      · exact grows row h
      · rw [List.mem_singleton.mp h]
        exact ⟨fun s hs => sub.subset (pm.mem_iff.mp hs), asc_sortedS sd (pm.nodup_iff.mpr (al.nd.sublist sub))⟩
  rintro H2 ⟨sb2, dr2, rvs, rows, hD2, hrows, lj, grows⟩
  have lrows : rows.length = r + 1 := by rw [← hrows.len, lj]; omega
  refine ⟨Nat.zero_le _, fun F nF => ?_⟩
  have s3 : Same H2 (upd H2 F (.lst [])) := same_new nF
  have Fx := dr2.ne nF
  have sbH2 : SB δ.x H H2 := sb1.trans sb2
  have nF0 : H F = none := sb_free sbH2 ⟨_, dr2.choose_spec.1⟩ nF
  have FD : F ≠ D := Ne.symm (ne_of_none hD2 nF)
  refine ⟨_, rfl, _, rfl, by omega, by omega, ?_⟩
  refine for_range (fun i σ H' => ∃ y5 y8 y9 xs es, σ = [some (.ref δ.x), some (.ref nl), some (.ref rl), some (.int 4), some (.int (1 + (r : Int))), y5, some (.ref D), some (.ref F), y8, y9, none] ∧ SB δ.x H2 H' ∧ DrawAt K H' δ ∧ H' F = some (.lst xs) ∧ All2 (EAt K H') xs es ∧ es.Nodup ∧
    (∀ e ∈ es, e.1 < i ∧ e.2.2 < r + 1 ∧ e.2.1 ∈ rs) ∧ (∀ t, (es.filter fun e => decide (e.1 = t)).length ≤ 2) ∧ es.length ≤ 2 * i)
    ⟨_, _, _, [], [], rfl, SB.of s3, dr2.same s3, upd_same, .nil, List.nodup_nil, (fun e he => nomatch he), fun t => by simp, by simp⟩ ?_ ?_
  · rintro i σ H4 hi ⟨y5, y8, y9, xs, es, rfl, sb4, dr4, hF4, hxs, nd, ok, two, len⟩
    refine ⟨_, rfl, δ, 3, rfl, by decide, dr4, fun H5 r5 sb5 dr5 lt5 => ⟨_, rfl, by omega, by omega, ?_⟩⟩
    have F5 := sb5 _ _ hF4 Fx
    refine for_range (fun j σ H' => ∃ y8 y9 xs es, σ = [some (.ref δ.x), some (.ref nl), some (.ref rl), some (.int 4), some (.int (1 + (r : Int))), some (.int (0 + (i : Int))), some (.ref D), some (.ref F), y8, y9, none] ∧ SB δ.x H2 H' ∧ DrawAt K H' δ ∧ H' F = some (.lst xs) ∧ All2 (EAt K H') xs es ∧ es.Nodup ∧
      (∀ e ∈ es, e.1 < i + 1 ∧ e.2.2 < r + 1 ∧ e.2.1 ∈ rs) ∧ (∀ t, (es.filter fun e => decide (e.1 = t)).length ≤ if t = i then j else 2) ∧ es.length ≤ 2 * i + j)
      ⟨_, _, xs, es, rfl, sb4.trans sb5, dr5, F5, hxs.imp fun _ _ h => eat_tk (dr4.tk sb5) h, nd, fun e he => ?_, fun t => ?_, by omega⟩ ?_ ?_
    · obtain ⟨a, b, c⟩ := ok e he
      exact ⟨by omega, b, c⟩
    · by_cases e : t = i
      · rw [if_pos e]
        have : es.filter (fun e => decide (e.1 = t)) = [] := List.filter_eq_nil_iff.mpr fun x hx => by
          have := (ok x hx).1
          simp only [decide_eq_true_eq]
          omega
        rw [this]
        exact Nat.le_refl _
      · rw [if_neg e]
        exact two t
    · rintro j σ H6 hj ⟨y8, y9, xs, es, rfl, sb6, dr6, hF6, hxs, nd, ok, two, len⟩
      have hr6 := sb6 _ _ (sb2 _ _ hr1 rx) rx
      have l2 : (rs.map V.str) ≠ [] := fun z => by have lr := al.lr; rw [List.map_eq_nil_iff.mp z] at lr; cases lr
      refine ⟨_, rfl, _, rfl, _, rfl, δ, rl, _, rfl, SqL.of hr6, rx, l2, dr6, fun H7 v7 sb7 dr7 hv7 => ?_⟩
      obtain ⟨r7, hr7, rfl⟩ := List.mem_map.mp hv7
      refine ⟨_, rfl, _, rfl, δ, r + 1, ?_, by omega, dr7, fun H8 r8 sb8 dr8 lt8 => ⟨sz_le (Nat.le_trans (by decide : 3 ≤ 4) (by decide)), fun et net => ?_⟩⟩
      · show [V.ref δ.x, V.int (1 + (r : Int))] = _
        rw [en]
      have s9 : Same H8 (upd H8 et (.tup [.int (0 + (i : Int)), .str r7, .int (r8 : Nat)])) := same_new net
      have e9 : EAt K (upd H8 et (.tup [.int (0 + (i : Int)), .str r7, .int (r8 : Nat)])) (.ref et) (i, r7, r8) := eat_of (SqT.of (by rw [upd_same, Int.zero_add]))
      have sb69 : SB δ.x H6 (upd H8 et (.tup [.int (0 + (i : Int)), .str r7, .int (r8 : Nat)])) := (sb7.trans sb8).trans (SB.of s9)
      have dr9 := dr8.same s9
      generalize upd H8 et (.tup [.int (0 + (i : Int)), .str r7, .int (r8 : Nat)]) = H9 at s9 e9 sb69 dr9 ⊢
      have F9 := sb69 _ _ hF6 Fx
      have hxs9 : All2 (EAt K H9) xs es := hxs.imp fun _ _ h => eat_tk (dr6.tk sb69) h
      have wes : ∀ e ∈ es, Word e.2.1 := fun e he => al.wr _ (ok e he).2.2
      refine ⟨_, rfl, _, rfl, edat (i, r7, r8), es.map edat, e9, .lst (.inl (.inl F9)) (dps_edges hxs9), shaped_e (al.wr r7 hr7), shaped_es wes, _, rfl, ?_⟩
      have lx := hxs9.len
      by_cases hm : (i, r7, r8) ∈ es
      · rw [any_e.mpr hm]
        refine iteF ⟨_, _, xs, es, rfl, sb6.trans sb69, dr9, F9, hxs9, nd, ok, fun t => ?_, by omega⟩
        have := two t
        split at this <;> split <;> omega
      · rw [show ((es.map edat).any fun z => PyData.eqv z (edat (i, r7, r8))) = false from Bool.eq_false_iff.mpr fun z => hm (any_e.mp z)]
        have sb10 : SB δ.x H2 (upd H9 F (.lst (xs ++ [.ref et]))) := fun b o hb ne => by
          rw [upd_ne (ne_of_none hb nF)]
          exact (sb6.trans sb69) _ _ hb ne
        have tk := upd_tk (K := K) (o' := .lst (xs ++ [.ref et])) F9 (fun ys e => by cases e) (fun u ys e => by cases e)
        have lt7 : 2 * i + j < 10 := by omega
        refine iteT ⟨_, rfl, .inl ⟨rfl, xs, SqL.of F9⟩, _, rfl, F, xs, _, rfl, rfl, F9, sz_lt (by omega), _, _, xs ++ [.ref et], es ++ [(i, r7, r8)], rfl, sb10, dr2.put dr9 sb10 (upd_ne (Ne.symm Fx)), upd_same, (hxs9.imp fun _ _ h => eat_tk tk h).snoc (eat_tk tk e9), List.nodup_append.mpr ⟨nd, by simp, fun a ha b hb => ?_⟩, fun e he => ?_, fun t => ?_, by rw [List.length_append, List.length_singleton]; omega⟩
        · rw [List.mem_singleton.mp hb]
          exact fun e => hm (e ▸ ha)
        · rcases List.mem_append.mp he with he | he
          · exact ok e he
          · rw [List.mem_singleton.mp he]
            exact ⟨Nat.lt_succ_self i, lt8, hr7⟩
        · have := two t
          rw [List.filter_append, List.length_append]
          by_cases e : t = i
          · subst e
            rw [if_pos rfl] at this ⊢
            simp only [decide_true, List.filter_cons_of_pos, List.filter_nil, List.length_singleton]
            omega
          · rw [if_neg e] at this ⊢
            simp only [decide_eq_false (Ne.symm e), List.filter_cons, List.filter_nil, Bool.false_eq_true, if_false, List.length_nil]
            omega
    · rintro σ H6 ⟨y8, y9, xs, es, rfl, sb6, dr6, hF6, hxs, nd, ok, two, len⟩
      refine ⟨_, _, _, xs, es, rfl, sb6, dr6, hF6, hxs, nd, ok, fun t => ?_, by omega⟩
      have := two t
      split at this <;> omega
  · rintro σ H4 ⟨y5, y8, y9, xs, es, rfl, sb4, dr4, hF4, hxs, nd, ok, two, len⟩
    refine ⟨_, rfl, _, rfl, F, xs, es, rfl, SqL.of hF4, hxs, by omega, fun p out es' np pm up all' => ⟨sz_le (Nat.le_trans (by decide : 2 ≤ 3) (by decide)), fun pt npt => ?_⟩⟩
    have s5 : Same H4 (upd H4 p (.lst out)) := same_new np
    have s6 := s5.trans (same_new (o := .tup [.ref D, .ref p]) npt)
    have nd' : es'.Nodup := pm.nodup_iff.mpr nd
    have np0 : H p = none := sb_free (sbH2.trans sb4) ⟨_, dr4.choose_spec.1⟩ np
    refine q _ pt D p rvs out rows es' ((sbH2.trans sb4).trans (SB.of s6)) (dr4.same s6) (SqT.of upd_same) (s6 _ _ (sb4 _ _ hD2 Dx)) ((same_new npt) _ _ upd_same) nD0 np0 (hrows.imp fun _ _ h => row_tk (same_tk s6) (row_tk (dr2.tk sb4) h)) (all'.imp fun _ _ h => eat_same s6 h) ?_ (by omega)
    refine ⟨⟨fun row hrow => ?_, by omega, by omega⟩, ⟨fun e he => ?_, ?_, by rw [pm.length_eq]; omega⟩, fun row hrow => ?_, fun t => ?_⟩
    · obtain ⟨a, b⟩ := grows row hrow
      have : row.length ≤ ns.length := nodup_sub (asc_nodup b) a
      have := al.ln
      exact ⟨fun s hs => al.wn s (a s hs), b, by omega⟩
    · obtain ⟨a, b, c⟩ := ok e (pm.mem_iff.mp he)
      rw [lrows]
      exact ⟨by omega, b, al.wr _ c⟩
    · exact (up.and nd').imp fun {x y} h => elt_tri y x h.1 (Ne.symm h.2)
    · obtain ⟨a, b⟩ := grows row hrow
      have : row.length ≤ ns.length := nodup_sub (asc_nodup b) a
      have := al.ln
      omega
    · rw [(pm.filter _).length_eq]
      exact two t
end
end K77
end

section
set_option Elab.async false
set_option linter.all false
set_option maxRecDepth 100000
set_option maxHeartbeats 4000000
/-! the law's text, parts, spoilt, height -/
namespace K77
open PySem PySem.Spec PyProof.Rows L2
abbrev s__law_text : Stmt := top 55
theorem sc__law_text : FnScope ["_law_concept_here", "_law_some", "_law_part"] ["_law_concept_here"] (defScope s__law_text) := ⟨rfl, rfl, rfl, by decide +kernel, rfl, by decide +kernel, by decide +kernel⟩
abbrev s__law_parts : Stmt := top 56
theorem sc__law_parts : FnScope ["_law_concept_here", "_law_found", "_law_part", "_law_one"] ["_law_concept_here"] (defScope s__law_parts) := ⟨rfl, rfl, rfl, by decide +kernel, rfl, by decide +kernel, by decide +kernel⟩
abbrev s__law_spoilt : Stmt := top 57
theorem sc__law_spoilt : FnScope ["_law_concept_here"] ["_law_concept_here"] (defScope s__law_spoilt) := ⟨rfl, rfl, rfl, by decide +kernel, rfl, by decide +kernel, by decide +kernel⟩
/-- the parts of a concept that is a tuple, by the law's slice -/
def tInn (K : PySem.W.Frag) : TE := tSl (rSlA K) (tVar 0) (tPart (tIf (tTest (tOp rEq (tOp (rIxT K) (tVar 0) (tC (.int 0))) (tC (.str "and")))) (tC (.int 1)) (tC (.int 2)))) tNoPart
def isTup : Con → Bool
  | .sm _ _ => true
  | .an _ => true
  | _ => false
theorem inn_slice {K : PySem.W.Frag} {σ : L2.St} {H : Hp} {Q : VK} {v : V} {c : Con} (s0 : σ[0]? = some (some v)) (hc : CAt K H v c) (g : Good c) (it : isTup c = true) (q : ∀ H' p ws, Same H H' → H' p = some (.tup ws) → CsAt K H' ws (inn c) → Q (.ref p) H') : tInn K σ H Q := by
  cases c with
  | all => cases it
  | nm s => cases it
  | sm r d =>
    obtain ⟨a, u, rfl, hS, hd⟩ := of_sm hc
    refine ⟨_, s0, _, s0, a, _, _, _, rfl, rfl, hS, atI_nat (j := 0) rfl, rfl, false, congrArg V.bl (decide_eq_false fun e => some_and (V.str.inj e)), iteF ⟨2, rfl, a, _, rfl, hS, fun e => ?_, fun _ p np => ?_⟩⟩
    · have := e.1
      rw [show HT.sIx [V.str "some", V.str r, u].length 0 (some 2) = min 2 3 from HT.sIx_nat _ 0 2] at this
      omega
    · have ec : cutV [V.str "some", V.str r, u] (some 2) none = [u] := cut_from [V.str "some", V.str r, u] 2 (Nat.le_succ 2)
      rw [ec]
      exact q _ p [u] (same_new np) upd_same (.one (cat_same (same_new np) hd))
  | an cs =>
    obtain ⟨a, ws, rfl, hS, hd⟩ := of_an hc
    have g1 := g.1
    have hl := hd.len
    refine ⟨_, s0, _, s0, a, _, _, _, rfl, rfl, hS, atI_nat (j := 0) rfl, rfl, true, congrArg V.bl (decide_eq_true rfl), iteT ⟨1, rfl, a, _, rfl, hS, fun e => ?_, fun _ p np => ?_⟩⟩
    · have := e.1
      rw [show HT.sIx (V.str "and" :: ws).length 0 (some 1) = min 1 (ws.length + 1) from HT.sIx_nat _ 0 1] at this
      omega
    · have ec : cutV (V.str "and" :: ws) (some 1) none = ws := cut_from (V.str "and" :: ws) 1 (by simp)
      rw [ec]
      exact q _ p ws (same_new np) upd_same (cs_same (same_new np) hd)
theorem paren_txt (cs : List Con) : (("(" : Str) ++ txt (.an cs)) ++ (")" : Str) = clt (.an cs) := by
  refine TL.ext_tl ?_
  rw [TL.tl_append, TL.tl_append, txt_tl, clt_tl]
  have e1 : TL.tl ("(" : Str) = [40] := by decide +kernel
  have e2 : TL.tl (")" : Str) = [41] := by decide +kernel
  rw [e1, e2]
  simp [cl, tx]
theorem some_txt' (r : Str) (c : Con) : ("some " : Str) ++ r ++ (" " : Str) ++ clt c = txt (.sm r c) := by
  refine TL.ext_tl ?_
  have := congrArg TL.tl (some_txt r c)
  rw [TL.tl_append, TL.tl_append, TL.tl_append, TL.tl_append] at this
  rw [TL.tl_append, TL.tl_append, TL.tl_append]
  simpa [show TL.tl Str.empty = [] from rfl] using this
section
variable {P : Program} {w : World} {K : PySem.W.Frag} {mg : Str → Option Value} {base : Heap}
theorem step_textL {n k : Nat} (D : Df K mg "_law_text" s__law_text ["_law_concept_here"]) (T : Tx K mg) (c_l_text : Cal P w K mg base k "_law_text" (spText K n)) : Cal P w K mg base (k + 1) "_law_text" (spText K (n + 1)) := by
  refine cal_of D sc__law_text (fun vs H Q E h => ?_) (fun f cdv A outer s H vs Q E hr h => ?_)
  · obtain ⟨v, c, rfl, _⟩ := h
    rfl
  obtain ⟨v, c, rfl, hc, g, hn, q⟩ := h
  refine ⟨_, (pss_cons (ps_if (pt_val (pe_callB call_isi (by rfl) T.isi boot_isinstance (pa_cons (pv 0) (pa_cons (pe_bltn (v := .ty "str") (by rfl) T.str boot_str rfl) pa_nil))))
    (pss_one (ps_ret (pv 0)))
    pss_nil)
    (pss_cons (ps_setLc (i := 1) (own := [("_law_part", 2)]) rfl sc__law_text.nd rfl rfl (sw_true rfl rfl rfl (by decide +kernel)) (pi_tup (pe_slice sl_tupA (pv 0) (po_some (pe_ifExp (pt_cmpR op_eq (pe_ix ix_tup (pv 0) pe_int (fun _ _ => rfl)) pe_str (nomark _)) pe_int pe_int)) po_none)) (blkOk_by (N := ["_law_concept_here", "_law_some", "_law_part"]) (sc := defScope s__law_text) (own := [("_law_part", 2)]) (by decide +kernel)) (fun _ _ _ _ _ => (pg_name (i := 2) sc__law_text.nd rfl (.inl rfl))) (fun _ _ _ _ _ => pts_nil) (fun _ _ _ _ _ => (pe_ifExp (PW.pt (pw_and (pt_val (pe_callB (call_isiB (K := K) rfl) (by rfl) T.isi boot_isinstance (pa_cons (pv 2) (pa_cons (pe_bltn (v := .ty "tuple") (by rfl) T.tuple boot_tuple rfl) pa_nil)))) (pw_and1 (pt_cmpR op_eq (pe_ix (ix_tupB (K := K) rfl) (pv 2) pe_int (fun _ _ => rfl)) pe_str (nomark _))))) (pe_op op_add_str (pe_op op_add_str pe_str (pc c_l_text hr (by rfl) (pa_cons (pv 2) pa_nil))) pe_str) (pc c_l_text hr (by rfl) (pa_cons (pv 2) pa_nil)))))
    (pss_one (ps_ret (pe_ifExp (pt_cmpR op_eq (pe_ix ix_tup (pv 0) pe_int (fun _ _ => rfl)) pe_str (nomark _)) (pe_join pe_str (pv 1)) (pe_op op_add_str (pe_op op_add_str (pe_op op_add_str pe_str (pe_ix ix_tup (pv 0) pe_int (fun _ _ => rfl))) pe_str) (pe_ix ix_list (pv 1) pe_int (fun _ _ => rfl)))))))), ?_⟩
  by_cases it : isTup c = true
  case neg =>
    have : ∃ z, v = .str z ∧ txt c = z := by
      cases c with
      | all => exact ⟨_, of_all hc, by rw [txt_cl (fun _ z => by cases z)]; decide +kernel⟩
      | nm z => exact ⟨_, of_nm hc, txt_nm z⟩
      | sm r d => exact absurd rfl it
      | an cs => exact absurd rfl it
    obtain ⟨z, rfl, e⟩ := this
    refine ⟨_, rfl, _, _, _, _, true, rfl, .ty "str", .base (.str z), k_ss, true, rfl, iteT ⟨_, rfl, ?_⟩⟩
    have := q H (fun _ _ h => h)
    rw [e] at this
    exact this
  obtain ⟨a, xs, rfl, hS⟩ : ∃ a xs, v = .ref a ∧ SqT K H a xs := by
    cases c with
    | all => cases it
    | nm z => cases it
    | sm r d => obtain ⟨a, u, e, h, _⟩ := of_sm hc; exact ⟨a, _, e, h⟩
    | an cs => obtain ⟨a, ws, e, h, _⟩ := of_an hc; exact ⟨a, _, e, h⟩
  refine ⟨_, rfl, _, _, _, _, false, rfl, .ty "str", tyx_tup hS, k_ts, false, rfl, iteF ?_⟩
  refine inn_slice (K := K) rfl hc g.g it fun H1 p ws s1 hp hws => ?_
  refine ⟨p, rfl, ⟨ws, SqT.of hp⟩, fun L nL => ?_⟩
  have lw := hws.len
  have hwi := wts_inn c
  have hw := g.w
  have lwt := len_wts (inn c)
  refine lc_tup (K := K) (xs := ws) (fun i H' => Same H1 H' ∧ H' L = some (.lst ((((inn c).take i).map clt).map V.str))) ⟨same_new nL, upd_same⟩ (fun i H' _ h => SqT.of (h.1 _ _ hp)) ?_ ?_
  · rintro i x H2 hx ⟨sm, hL⟩
    obtain ⟨e, he, hxe⟩ := hws.getL hx
    have hmem : e ∈ inn c := List.mem_of_getElem? he
    obtain ⟨ge, ne, _⟩ := g.inn hmem
    have cl4 := clt_len ge
    have we := ge.w
    have put : ∀ H3, Same H2 H3 → ∃ acc, H3 L = some (.lst acc) ∧ acc.length < sizeLine ∧ (Same H1 (upd H3 L (.lst (acc ++ [.str (clt e)]))) ∧ (upd H3 L (.lst (acc ++ [.str (clt e)]))) L = some (.lst ((((inn c).take (i + 1)).map clt).map V.str))) := fun H3 s3 => by
      refine ⟨_, s3 _ _ hL, sz_lt (by rw [List.length_map, List.length_map, List.length_take]; omega), same_at (sm.trans s3) nL, ?_⟩
      rw [upd_same, List.take_add_one, he, Option.toList_some, List.map_append, List.map_append]
      rfl
    have hx2 := cat_same sm hxe
    refine ⟨rfl, ?_⟩
    by_cases ia : ∃ cs, e = .an cs
    · obtain ⟨cs, rfl⟩ := ia
      obtain ⟨b, us, rfl, hb, _⟩ := of_an hx2
      refine ⟨_, rfl, _, _, _, _, true, rfl, .ty "tuple", tyx_tup hb, k_tt, true, rfl, iteT ?_⟩
      refine ⟨_, rfl, b, _, _, _, rfl, rfl, hb, atI_nat (j := 0) rfl, rfl, true, congrArg V.bl (decide_eq_true rfl), iteT ?_⟩
      have e1 := paren_txt cs
      have lt1 : ("(" : Str).length = 1 := by decide +kernel
      have lt2 : (")" : Str).length = 1 := by decide +kernel
      have ap : ∀ x y : Str, (x ++ y).length = x.length + y.length := fun x y => by
        show (x.cps ++ y.cps).size = _
        rw [Array.size_append]
        rfl
      have l1 := congrArg Str.length e1
      rw [ap, ap, lt1, lt2] at l1
      refine ⟨_, rfl, _, .an cs, rfl, hx2, ge, by omega, fun H3 s3 => ?_⟩
      refine ⟨_, _, rfl, rfl, sz_le (by omega), _, _, rfl, rfl, sz_le (by rw [ap]; omega), ?_⟩
      rw [e1]
      exact put H3 s3
    · have e1 : txt e = clt e := txt_cl fun cs z => ia ⟨cs, z⟩
      have fin : ∀ Q' : VK, (∀ H3, Same H2 H3 → Q' (.str (clt e)) H3) → tGo (spText K n) (tCons (tVar 2) tNil) [some (.ref a), none, some x] H2 Q' := fun Q' h => ⟨_, rfl, _, e, rfl, hx2, ge, by omega, fun H3 s3 => by rw [e1]; exact h H3 s3⟩
      cases e with
      | all =>
        cases of_all hx2
        refine ⟨_, rfl, _, _, _, _, false, rfl, .ty "tuple", .base (.str _), k_st, false, rfl, iteF (iteF ?_)⟩
        exact fin _ put
      | nm z =>
        cases of_nm hx2
        refine ⟨_, rfl, _, _, _, _, false, rfl, .ty "tuple", .base (.str _), k_st, false, rfl, iteF (iteF ?_)⟩
        exact fin _ put
      | sm r d =>
        obtain ⟨b, u, rfl, hb, _⟩ := of_sm hx2
        refine ⟨_, rfl, _, _, _, _, true, rfl, .ty "tuple", tyx_tup hb, k_tt, true, rfl, iteT ?_⟩
        refine ⟨_, rfl, b, _, _, _, rfl, rfl, hb, atI_nat (j := 0) rfl, rfl, false, congrArg V.bl (decide_eq_false fun e => some_and (V.str.inj e)), iteF ?_⟩
        exact fin _ put
      | an cs => exact absurd ⟨cs, rfl⟩ ia
  · rintro H2 ⟨sm, hL⟩
    rw [lw, List.take_length] at hL
    have s2 := s1.trans sm
    have c2 := cat_same s2 hc
    have hs := clt_sum (cs := inn c) fun x hx => (g.inn hx).1
    cases c with
    | all => cases it
    | nm z => cases it
    | sm r d =>
      obtain ⟨a', u, ea, hS2, _⟩ := of_sm c2
      cases ea
      have gd := (g.inn (show d ∈ inn (.sm r d) from List.mem_cons_self)).1
      have cl4 := clt_len gd
      have wd : wt d + 1 ≤ 4000 := g.w
      have lr := g.g.1.len
      have lr' : r.length ≤ 12 := by
        have : r.length = r.cps.toList.length := by simp [Str.length]
        omega
      have ap : ∀ x y : Str, (x ++ y).length = x.length + y.length := fun x y => by
        show (x.cps ++ y.cps).size = _
        rw [Array.size_append]
        rfl
      have l5 : ("some " : Str).length = 5 := by decide +kernel
      have l1 : (" " : Str).length = 1 := by decide +kernel
      refine ⟨_, rfl, a, _, _, _, rfl, rfl, hS2, atI_nat (j := 0) rfl, rfl, false, congrArg V.bl (decide_eq_false fun e => some_and (V.str.inj e)), iteF ?_⟩
      refine ⟨_, rfl, a, _, _, _, rfl, rfl, hS2, atI_nat (j := 1) rfl, _, _, rfl, rfl, sz_le (by omega), _, _, rfl, rfl, sz_le (by rw [ap]; omega), _, rfl, L, _, 0, _, rfl, rfl, SqL.of hL, atI_nat (j := 0) rfl, _, _, rfl, rfl, sz_le (by rw [ap, ap]; omega), ?_⟩
      have e := some_txt' r d
      show Q (.str (("some " : Str) ++ r ++ (" " : Str) ++ clt d)) H2
      rw [e]
      exact q H2 s2
    | an cs =>
      obtain ⟨a', us, ea, hS2, _⟩ := of_an c2
      cases ea
      refine ⟨_, rfl, a, _, _, _, rfl, rfl, hS2, atI_nat (j := 0) rfl, rfl, true, congrArg V.bl (decide_eq_true rfl), iteT ?_⟩
      have l3 : (" & " : Str).length = 3 := by decide +kernel
      refine ⟨⟨_, rfl⟩, _, rfl, _, L, cs.map clt, rfl, rfl, .inl (SqL.of hL), ?_, ?_⟩
      · rw [l3, List.length_map]
        have : (inn (.an cs)) = cs := rfl
        rw [this] at hs hwi
        omega
      · rw [join_txt]
        exact q H2 s2
theorem ok_textL (D : Df K mg "_law_text" s__law_text ["_law_concept_here"]) (T : Tx K mg) : ∀ n, Cal P w K mg base n "_law_text" (spText K n)
  | 0 => cal_void D fun vs H Q E h => by
    obtain ⟨v, c, _, _, _, h, _⟩ := h
    exact absurd h (Nat.not_lt_zero _)
  | n + 1 => step_textL D T (ok_textL D T n)
/-- all parts of a concept, as a new list -/
def spPartsL (K : PySem.W.Frag) (n : Nat) : Sp := fun vs H Q _ => ∃ v c, vs = [v] ∧ CAt K H v c ∧ Sml c ∧ nest c < n ∧ ∀ H' p ws cs, Same H H' → H p = none → H' p = some (.lst ws) → CsAt K H' ws cs → (∀ x ∈ cs, Sml x) → cs.length ≤ wt c → Q (.ref p) H'
theorem step_partsL {n k : Nat} (D : Df K mg "_law_parts" s__law_parts ["_law_concept_here"]) (T : Tx K mg) (c_l_parts : Cal P w K mg base k "_law_parts" (spPartsL K n)) : Cal P w K mg base (k + 1) "_law_parts" (spPartsL K (n + 1)) := by
  refine cal_of D sc__law_parts (fun vs H Q E h => ?_) (fun f cdv A outer s H vs Q E hr h => ?_)
  · obtain ⟨v, c, rfl, _⟩ := h
    rfl
  obtain ⟨v, c, rfl, hc, g, hn, q⟩ := h
  refine ⟨_, (pss_cons (ps_set (i := 1) sc__law_parts.nd rfl (.inl rfl) (pe_lst (pa_cons (pv 0) pa_nil)))
    (pss_cons (ps_if (pt_val (pe_callB call_isi (by rfl) T.isi boot_isinstance (pa_cons (pv 0) (pa_cons (pe_bltn (v := .ty "tuple") (by rfl) T.tuple boot_tuple rfl) pa_nil))))
    (pss_one (ps_for PassesOwn.never rfl (pi_tup (pe_slice sl_tupA (pv 0) (po_some (pe_ifExp (pt_cmpR op_eq (pe_ix ix_tup (pv 0) pe_int (fun _ _ => rfl)) pe_str (nomark _)) pe_int pe_int)) po_none)) (pg_name (i := 2) sc__law_parts.nd rfl (.inl rfl))
    (pss_one (ps_for PassesOwn.never rfl (pi_list (pc c_l_parts hr (by rfl) (pa_cons (pv 2) pa_nil))) (pg_name (i := 3) sc__law_parts.nd rfl (.inl rfl))
    (pss_one (ps_if (pt_cmpR (op_notInD (units65 hr)) (pv 3) (pv 1) rfl)
    (pss_one (ps_expr (pe_bm PySem.F.plainAttrs_list PySem.F.slot_list_append PySem.F.type_list_append mt_append (pv 1) (pa_cons (pv 3) pa_nil))))
    pss_nil))))))
    pss_nil)
    (pss_one (ps_ret (pv 1))))), ?_⟩
  refine ⟨_, rfl, sz_le (Nat.le_trans (by decide : 1 ≤ 2) (by decide)), fun F nF => ?_⟩
  have sF : Same H (upd H F (.lst [v])) := same_new nF
  by_cases it : isTup c = true
  case neg =>
    have : ∃ z, v = .str z := by
      cases c with
      | all => exact ⟨_, of_all hc⟩
      | nm z => exact ⟨_, of_nm hc⟩
      | sm r d => exact absurd rfl it
      | an cs => exact absurd rfl it
    obtain ⟨z, rfl⟩ := this
    refine ⟨_, rfl, _, _, _, _, false, rfl, .ty "tuple", .base (.str z), k_st, false, rfl, iteF ⟨_, rfl, ?_⟩⟩
    exact q _ F _ [c] sF nF upd_same (.one (cat_same sF hc)) (fun x hx => by rw [List.mem_singleton.mp hx]; exact g) (wt_pos c)
  obtain ⟨a, xs, rfl, hS⟩ : ∃ a xs, v = .ref a ∧ SqT K H a xs := by
    cases c with
    | all => cases it
    | nm z => cases it
    | sm r d => obtain ⟨a, u, e, h, _⟩ := of_sm hc; exact ⟨a, _, e, h⟩
    | an cs => obtain ⟨a, ws, e, h, _⟩ := of_an hc; exact ⟨a, _, e, h⟩
  have hS1 := same_tup sF hS
  refine ⟨_, rfl, _, _, _, _, true, rfl, .ty "tuple", tyx_tup hS1, k_tt, true, rfl, iteT ?_⟩
  refine inn_slice (K := K) rfl (cat_same sF hc) g.g it fun H1 p ws s1 hp hws => ?_
  have F1 := s1 _ _ (show (upd H F (.lst [V.ref a])) F = _ from upd_same)
  have sH1 := sF.trans s1
  have pF : p ≠ F := ne_of hp F1 (fun z => by cases z)
  have lw := hws.len
  have hwi := wts_inn c
  have gw := g.w
  refine ⟨p, rfl, ⟨ws, SqT.of hp⟩, for_tup (K := K) (xs := ws) (fun i σ H' => ∃ y z us cs, σ = [some (.ref a), some (.ref F), y, z] ∧ Same H H' ∧ H' p = some (.tup ws) ∧ CsAt K H' ws (inn c) ∧ H' F = some (.lst us) ∧ CsAt K H' us cs ∧ (∀ x ∈ cs, Sml x) ∧ cs.length ≤ 1 + wts ((inn c).take i))
    ⟨_, _, _, [c], rfl, sH1, hp, hws, F1, .one (cat_same sH1 hc), (fun x hx => by rw [List.mem_singleton.mp hx]; exact g), by simp⟩ (fun i σ H' _ ⟨_, _, _, _, _, _, h, _⟩ => SqT.of h) ?_ ?_⟩
  · rintro i x σ H2 hx ⟨y, z, us, cs, rfl, sm, hp2, hws2, hF2, hcs, gcs, lcs⟩
    obtain ⟨e, he, hxe⟩ := hws2.getL hx
    have hmem : e ∈ inn c := List.mem_of_getElem? he
    obtain ⟨ge, ne, _⟩ := g.inn hmem
    have tk : wts ((inn c).take (i + 1)) = wts ((inn c).take i) + wt e := by rw [List.take_add_one, he, Option.toList_some, wts_app]; simp [wts]
    have tw : wts ((inn c).take i) + wt e ≤ wts (inn c) := by
      have := congrArg wts (List.take_append_drop (i + 1) (inn c))
      rw [wts_app, tk] at this
      omega
    refine ⟨_, rfl, x, e, rfl, hxe, ge, by omega, fun H3 p3 ws3 cs3 s3 np3 hp3 hcs3 gcs3 lcs3 => ?_⟩
    have F3 := s3 _ _ hF2
    have p3F : p3 ≠ F := fun z => by rw [z, hF2] at np3; cases np3
    have l3 := hcs3.len
    refine ⟨p3, rfl, ⟨ws3, SqL.of hp3⟩, for_list (K := K) (a := p3) (xs := ws3) (fun j σ H' => ∃ z us cs, σ = [some (.ref a), some (.ref F), some x, z] ∧ Same H H' ∧ H' p = some (.tup ws) ∧ CsAt K H' ws (inn c) ∧ H' p3 = some (.lst ws3) ∧ CsAt K H' ws3 cs3 ∧ H' F = some (.lst us) ∧ CsAt K H' us cs ∧ (∀ x ∈ cs, Sml x) ∧ cs.length ≤ 1 + wts ((inn c).take i) + j)
      ⟨_, us, cs, rfl, sm.trans s3, s3 _ _ hp2, cs_same s3 hws2, hp3, hcs3, F3, cs_same s3 hcs, gcs, by omega⟩ (fun j σ H' _ ⟨_, _, _, _, _, _, _, h, _⟩ => SqL.of h) ?_ ?_⟩
    · rintro j x4 σ H4 hx4 ⟨z, us, cs, rfl, sm4, hp4, hws4, hp34, hcs4, hF4, hus4, gus4, lus4⟩
      obtain ⟨e4, he4, hxe4⟩ := hcs4.getL hx4
      have hj4 := (List.getElem?_eq_some_iff.mp he4).1
      have g4 := gcs3 e4 (List.mem_of_getElem? he4)
      have n4 := g4.n
      have lu := hus4.len
      refine ⟨_, rfl, _, rfl, dat e4, dats cs, hxe4, .lst (.inl (.inl hF4)) (cs_dp hus4), shaped_con g4.g (by omega), shaped_list gus4, _, rfl, ?_⟩
      cases (dats cs).any fun z => PyData.eqv z (dat e4) with
      | true => exact iteF ⟨_, us, cs, rfl, sm4, hp4, hws4, hp34, hcs4, hF4, hus4, gus4, by omega⟩
      | false =>
        have tk4 := upd_tk (K := K) (o' := .lst (us ++ [x4])) hF4 (fun ys e => by cases e) (fun u ys e => by cases e)
        refine iteT ⟨_, rfl, .inl ⟨rfl, us, SqL.of hF4⟩, _, rfl, F, us, _, rfl, rfl, hF4, sz_lt (by omega), _, us ++ [x4], cs ++ [e4], rfl, same_at sm4 nF, by rw [upd_ne pF]; exact hp4, hws4.imp fun _ _ h => cat_tk tk4 _ _ h, by rw [upd_ne p3F]; exact hp34, hcs4.imp fun _ _ h => cat_tk tk4 _ _ h, upd_same, (hus4.imp fun _ _ h => cat_tk tk4 _ _ h).snoc (cat_tk tk4 _ _ hxe4), fun x hx => ?_, by rw [List.length_append, List.length_singleton]; omega⟩
        rcases List.mem_append.mp hx with hx | hx
        · exact gus4 x hx
        · rw [List.mem_singleton.mp hx]; exact g4
    · rintro σ H4 ⟨z, us, cs, rfl, sm4, hp4, hws4, _, _, hF4, hus4, gus4, lus4⟩
      exact ⟨_, _, us, cs, rfl, sm4, hp4, hws4, hF4, hus4, gus4, by omega⟩
  · rintro σ H2 ⟨y, z, us, cs, rfl, sm, _, _, hF2, hcs, gcs, lcs⟩
    rw [lw, List.take_length] at lcs
    exact ⟨_, rfl, q H2 F us cs sm nF hF2 hcs gcs (by omega)⟩
theorem ok_partsL (D : Df K mg "_law_parts" s__law_parts ["_law_concept_here"]) (T : Tx K mg) : ∀ n, Cal P w K mg base n "_law_parts" (spPartsL K n)
  | 0 => cal_void D fun vs H Q E h => by
    obtain ⟨v, c, _, _, _, h, _⟩ := h
    exact absurd h (Nat.not_lt_zero _)
  | n + 1 => step_partsL D T (ok_partsL D T n)
theorem ok_spoilt (D : Df K mg "_law_spoilt" s__law_spoilt ["_law_concept_here"]) (T : Tx K mg) (c_l_parts : Cal P w K mg base 31 "_law_parts" (spPartsL K 31)) : Cal P w K mg base 32 "_law_spoilt" (spHasNone K) := by
  refine cal_of D sc__law_spoilt (fun vs H Q E h => ?_) (fun f cdv A outer s H vs Q E hr h => ?_)
  · obtain ⟨v, c, rfl, _⟩ := h
    rfl
  obtain ⟨v, c, rfl, hc, g, q⟩ := h
  refine ⟨_, (pss_one (ps_ret (pe_cmpR (op_inD (units65 hr)) pe_str (pc c_l_parts hr (by rfl) (pa_cons (pv 0) pa_nil)) rfl))), ?_⟩
  refine ⟨_, rfl, v, c, rfl, hc, g, by have := g.n; omega, fun H' p ws cs s' np hp hcs gcs lcs => ?_⟩
  refine ⟨.str "none", dats cs, .str _, .lst (.inl (.inl hp)) (cs_dp hcs), by decide +kernel, shaped_list gcs, ?_⟩
  have e : ((dats cs).any fun z => PyData.eqv z (.str "none")) = false := by
    clear hp hcs lcs
    induction cs with
    | nil => rfl
    | cons x r ih => rw [dats, List.any_cons, eqv_none (gcs x List.mem_cons_self).g, ih fun y hy => gcs y (List.mem_cons_of_mem _ hy)]; rfl
  rw [e]
  exact q H' s'
end
end K77
end

section
set_option Elab.async false
set_option linter.all false
set_option maxRecDepth 100000
set_option maxHeartbeats 4000000
/-! the law's height and inside -/
namespace K77
open PySem PySem.Spec PyProof.Rows L2
abbrev s__law_height : Stmt := top 58
theorem sc__law_height : FnScope ["_law_concept_here", "_law_own", "_law_part"] ["_law_concept_here"] (defScope s__law_height) := ⟨rfl, rfl, rfl, by decide +kernel, rfl, by decide +kernel, by decide +kernel⟩
abbrev s__law_inside : Stmt := top 59
theorem sc__law_inside : FnScope ["_law_rows", "_law_edges", "_law_concept_here", "_law_inner", "_law_found", "_law_thing", "_law_role", "_law_other", "_law_some", "_law_part", "_law_names", "_law_row"] ["_law_rows", "_law_edges", "_law_concept_here"] (defScope s__law_inside) := ⟨rfl, rfl, rfl, by decide +kernel, rfl, by decide +kernel, by decide +kernel⟩
def spHeight (K : PySem.W.Frag) (n : Nat) : Sp := fun vs H Q _ => ∃ v c, vs = [v] ∧ CAt K H v c ∧ Sml c ∧ nest c < n ∧ ∀ H', Same H H' → Q (.int (dep c)) H'
section
variable {P : Program} {w : World} {K : PySem.W.Frag} {mg : Str → Option Value} {base : Heap}
theorem step_height {n k : Nat} (D : Df K mg "_law_height" s__law_height ["_law_concept_here"]) (T : Tx K mg) (c_l_height : Cal P w K mg base k "_law_height" (spHeight K n)) : Cal P w K mg base (k + 1) "_law_height" (spHeight K (n + 1)) := by
  refine cal_of D sc__law_height (fun vs H Q E h => ?_) (fun f cdv A outer s H vs Q E hr h => ?_)
  · obtain ⟨v, c, rfl, _⟩ := h
    rfl
  obtain ⟨v, c, rfl, hc, g, hn, q⟩ := h
  refine ⟨_, (pss_cons (ps_if (pt_val (pe_callB call_isi (by rfl) T.isi boot_isinstance (pa_cons (pv 0) (pa_cons (pe_bltn (v := .ty "str") (by rfl) T.str boot_str rfl) pa_nil))))
    (pss_one (ps_ret pe_int))
    pss_nil)
    (pss_cons (ps_set (i := 1) sc__law_height.nd rfl (.inl rfl) (pe_ifExp (pt_cmpR op_eq (pe_ix ix_tup (pv 0) pe_int (fun _ _ => rfl)) pe_str (nomark _)) pe_int pe_int))
    (pss_one (ps_ret (pe_op op_add (pv 1) (pe_callB (cr_max rfl) (by rfl) T.max boot_max (pa_cons (pe_lc (own := [("_law_part", 2)]) rfl sc__law_height.nd (pi_tup (pe_slice sl_tupA (pv 0) (po_some (pe_ifExp (pt_cmpR op_eq (pe_ix ix_tup (pv 0) pe_int (fun _ _ => rfl)) pe_str (nomark _)) pe_int pe_int)) po_none)) (blkOk_by (N := ["_law_concept_here", "_law_own", "_law_part"]) (sc := defScope s__law_height) (own := [("_law_part", 2)]) (by decide +kernel)) (fun _ _ _ _ _ => (pg_name (i := 2) sc__law_height.nd rfl (.inl rfl))) (fun _ _ _ _ _ => pts_nil) (fun _ _ _ _ _ => (pc c_l_height hr (by rfl) (pa_cons (pv 2) pa_nil)))) pa_nil))))))), ?_⟩
  by_cases it : isTup c = true
  case neg =>
    have : ∃ z, v = .str z ∧ dep c = 0 := by
      cases c with
      | all => exact ⟨_, of_all hc, rfl⟩
      | nm z => exact ⟨_, of_nm hc, rfl⟩
      | sm r d => exact absurd rfl it
      | an cs => exact absurd rfl it
    obtain ⟨z, rfl, e⟩ := this
    have := q H (fun _ _ h => h)
    rw [e] at this
    exact ⟨_, rfl, _, _, _, _, true, rfl, .ty "str", .base (.str z), k_ss, true, rfl, iteT this⟩
  obtain ⟨a, xs, rfl, hS⟩ : ∃ a xs, v = .ref a ∧ SqT K H a xs := by
    cases c with
    | all => cases it
    | nm z => cases it
    | sm r d => obtain ⟨a, u, e, h, _⟩ := of_sm hc; exact ⟨a, _, e, h⟩
    | an cs => obtain ⟨a, ws, e, h, _⟩ := of_an hc; exact ⟨a, _, e, h⟩
  refine ⟨_, rfl, _, _, _, _, false, rfl, .ty "str", tyx_tup hS, k_ts, false, rfl, iteF ?_⟩
  have main : ∀ own : Nat, own + deps (inn c) = dep c → tRet (tOp (rI0 fun i j => .int (i + j)) (tVar 1) (tCB (rMax K) (tCons (tLc (iTup K (tInn K)) (gName 2) tYes (tGo (spHeight K n) (tCons (tVar 2) tNil)) [2]) tNil))) { nx := fun _ H' => Q .non H', rt := Q } [some (.ref a), some (.int (own : Nat)), none] H := fun own eo => by
    refine ⟨_, rfl, inn_slice (K := K) rfl hc g.g it fun H1 p ws s1 hp hws => ?_⟩
    refine ⟨p, rfl, ⟨ws, SqT.of hp⟩, fun L nL => ?_⟩
    have lw := hws.len
    have hwi := wts_inn c
    have gw := g.w
    have lwt := len_wts (inn c)
    refine lc_tup (K := K) (xs := ws) (fun i H' => Same H1 H' ∧ H' L = some (.lst (((inn c).take i).map fun e => V.int (dep e)))) ⟨same_new nL, upd_same⟩ (fun i H' _ h => SqT.of (h.1 _ _ hp)) ?_ ?_
    · rintro i x H2 hx ⟨sm, hL⟩
      obtain ⟨e, he, hxe⟩ := hws.getL hx
      have hmem : e ∈ inn c := List.mem_of_getElem? he
      obtain ⟨ge, ne, _⟩ := g.inn hmem
      refine ⟨rfl, _, rfl, x, e, rfl, cat_same sm hxe, ge, by omega, fun H3 s3 => ⟨_, s3 _ _ hL, sz_lt (by rw [List.length_map, List.length_take]; omega), same_at (sm.trans s3) nL, ?_⟩⟩
      rw [upd_same, List.take_add_one, he, Option.toList_some, List.map_append]
      rfl
    · rintro H2 ⟨sm, hL⟩
      rw [lw, List.take_length] at hL
      have pos : 0 < (inn c).length := by
        cases c with
        | all => cases it
        | nm z => cases it
        | sm r d => exact Nat.zero_lt_one
        | an cs => have := g.g.1; exact Nat.lt_of_lt_of_le (by decide : 0 < 2) this
      refine ⟨L, (inn c).map fun e => ((dep e : Nat) : Int), rfl, SqL.of (by rw [List.map_map]; exact hL), by rw [List.length_map]; exact pos, fun m hm hmax => ⟨_, _, rfl, rfl, ?_⟩⟩
      obtain ⟨e, he, rfl⟩ := List.mem_map.mp hm
      have le1 : dep e ≤ deps (inn c) := dep_le_deps he
      have le2 : deps (inn c) ≤ dep e := deps_le fun x hx => by
        have := hmax _ (List.mem_map.mpr ⟨x, hx, rfl⟩)
        omega
      have := q H2 (s1.trans sm)
      rw [show ((dep c : Nat) : Int) = (own : Nat) + ((dep e : Nat) : Int) by omega] at this
      exact this
  cases c with
  | all => cases it
  | nm z => cases it
  | sm r d =>
    obtain ⟨a', u, ea, hS2, _⟩ := of_sm hc
    cases ea
    refine ⟨_, rfl, a, _, _, _, rfl, rfl, hS2, atI_nat (j := 0) rfl, rfl, true, congrArg V.bl (decide_eq_true rfl), iteT ?_⟩
    exact main 1 (by simp [inn, deps, dep]; omega)
  | an cs =>
    obtain ⟨a', us, ea, hS2, _⟩ := of_an hc
    cases ea
    refine ⟨_, rfl, a, _, _, _, rfl, rfl, hS2, atI_nat (j := 0) rfl, rfl, false, congrArg V.bl (decide_eq_false fun e => some_and (V.str.inj e).symm), iteF ?_⟩
    exact main 0 (by simp [inn, dep])
theorem ok_height (D : Df K mg "_law_height" s__law_height ["_law_concept_here"]) (T : Tx K mg) : ∀ n, Cal P w K mg base n "_law_height" (spHeight K n)
  | 0 => cal_void D fun vs H Q E h => by
    obtain ⟨v, c, _, _, _, h, _⟩ := h
    exact absurd h (Nat.not_lt_zero _)
  | n + 1 => step_height D T (ok_height D T n)
def spInside (K : PySem.W.Frag) (n : Nat) : Sp := fun vs H Q _ => ∃ ra ea v rvs rows xs es c, vs = [.ref ra, .ref ea, v] ∧ SqL K H ra rvs ∧ All2 (RowAt K H) rvs rows ∧ SqL K H ea xs ∧ All2 (EAt K H) xs es ∧ (∀ e ∈ es, e.1 < rows.length ∧ e.2.2 < rows.length) ∧ rows.length ≤ 1000 ∧ CAt K H v c ∧ Sml c ∧ nest c < n ∧
  ∀ H' p, ∀ bs : List Bool, Same H H' → H p = none → H' p = some (.lst (bs.map V.bl)) → bs.length = rows.length → (∀ t b, bs[t]? = some b → (b = true ↔ Mem rows es t c)) → Q (.ref p) H'
theorem step_inside {n k : Nat} (D : Df K mg "_law_inside" s__law_inside ["_law_rows", "_law_edges", "_law_concept_here"]) (T : Tx K mg) (c_l_inside : Cal P w K mg base k "_law_inside" (spInside K n)) : Cal P w K mg base (k + 1) "_law_inside" (spInside K (n + 1)) := by
  refine cal_of D sc__law_inside (fun vs H Q E h => ?_) (fun f cdv A outer s H vs Q E hr h => ?_)
  · obtain ⟨ra, ea, v, rvs, rows, xs, es, c, rfl, _⟩ := h
    rfl
  obtain ⟨ra, ea, v, rvs, rows, xs, es, c, rfl, hra, hrows, hea, hxs, hes, lr, hc, g, hn, q⟩ := h
  refine ⟨_, (pss_cons (ps_if (pt_val (pe_callB call_isi (by rfl) T.isi boot_isinstance (pa_cons (pv 2) (pa_cons (pe_bltn (v := .ty "str") (by rfl) T.str boot_str rfl) pa_nil))))
    (pss_one (ps_ret (pe_lc (own := [("_law_names", 10)]) rfl sc__law_inside.nd (pi_list (pv 0)) (blkOk_by (N := ["_law_rows", "_law_edges", "_law_concept_here", "_law_inner", "_law_found", "_law_thing", "_law_role", "_law_other", "_law_some", "_law_part", "_law_names", "_law_row"]) (sc := defScope s__law_inside) (own := [("_law_names", 10)]) (by decide +kernel)) (fun _ _ _ _ _ => (pg_name (i := 10) sc__law_inside.nd rfl (.inl rfl))) (fun _ _ _ _ _ => pts_nil) (fun _ _ _ _ _ => (pe_or (pe_cmpR op_eq (pv 2) pe_str (nomark _)) (pe_one (pe_and (pe_cmpR op_ne (pv 2) pe_str (nomark _)) (pe_one (pe_cmpR (op_in_seqB (K := K) rfl) (pv 2) (pv 10) rfl)))))))))
    pss_nil)
    (pss_cons (ps_if (pt_cmpR op_eq (pe_ix ix_tup (pv 2) pe_int (fun _ _ => rfl)) pe_str (nomark _))
    (pss_cons (ps_set (i := 3) sc__law_inside.nd rfl (.inl rfl) (pc c_l_inside hr (by rfl) (pa_cons (pv 0) (pa_cons (pv 1) (pa_cons (pe_ix ix_tup (pv 2) pe_int (fun _ _ => rfl)) pa_nil)))))
    (pss_cons (ps_setLc (i := 4) (own := [("_law_names", 10)]) rfl sc__law_inside.nd rfl rfl (sw_true rfl rfl rfl (by decide +kernel)) (pi_list (pv 0)) (blkOk_by (N := ["_law_rows", "_law_edges", "_law_concept_here", "_law_inner", "_law_found", "_law_thing", "_law_role", "_law_other", "_law_some", "_law_part", "_law_names", "_law_row"]) (sc := defScope s__law_inside) (own := [("_law_names", 10)]) (by decide +kernel)) (fun _ _ _ _ _ => (pg_name (i := 10) sc__law_inside.nd rfl (.inl rfl))) (fun _ _ _ _ _ => pts_nil) (fun _ _ _ _ _ => pe_bl))
    (pss_cons (ps_for PassesOwn.never rfl (pi_list (pv 1)) (pg_tup rfl (pgs_cons (pg_name (i := 5) sc__law_inside.nd rfl (.inl rfl)) (pgs_cons (pg_name (i := 6) sc__law_inside.nd rfl (.inl rfl)) (pgs_cons (pg_name (i := 7) sc__law_inside.nd rfl (.inl rfl)) pgs_nil))))
    (pss_one (ps_if (PW.pt (pw_and (pt_cmpR op_eq (pv 6) (pe_ix ix_tup (pv 2) pe_int (fun _ _ => rfl)) (nomark _)) (pw_and1 (pt_val (pe_ix ix_list (pv 3) (pv 7) (fun _ _ => rfl))))))
    (pss_one (ps_asg pe_bl (pg_sub (pv 4) (pv 5) set_list)))
    pss_nil)))
    (pss_one (ps_ret (pv 4))))))
    pss_nil)
    (pss_cons (ps_set (i := 8) sc__law_inside.nd rfl (.inr rfl) (pe_lc (own := [("_law_part", 9)]) rfl sc__law_inside.nd (pi_tup (pe_slice sl_tupA (pv 2) (po_some pe_int) po_none)) (blkOk_by (N := ["_law_rows", "_law_edges", "_law_concept_here", "_law_inner", "_law_found", "_law_thing", "_law_role", "_law_other", "_law_some", "_law_part", "_law_names", "_law_row"]) (sc := defScope s__law_inside) (own := [("_law_part", 9)]) (by decide +kernel)) (fun _ _ _ _ _ => (pg_name (i := 9) sc__law_inside.nd rfl (.inl rfl))) (fun _ _ _ _ _ => pts_nil) (fun _ _ _ _ _ => (pc c_l_inside hr (by rfl) (pa_cons (pv 0) (pa_cons (pv 1) (pa_cons (pv 9) pa_nil)))))))
    (pss_one (ps_ret (pe_lc (own := [("_law_thing", 5)]) rfl sc__law_inside.nd (pi_range1 (by rfl) T.range (pa_cons (pe_callB call_len (by rfl) T.len PySem.boot_len (pa_cons (pv 0) pa_nil)) pa_nil)) (blkOk_by (N := ["_law_rows", "_law_edges", "_law_concept_here", "_law_inner", "_law_found", "_law_thing", "_law_role", "_law_other", "_law_some", "_law_part", "_law_names", "_law_row"]) (sc := defScope s__law_inside) (own := [("_law_thing", 5)]) (by decide +kernel)) (fun _ _ _ _ _ => (pg_name (i := 5) sc__law_inside.nd rfl (.inr rfl))) (fun _ _ _ _ _ => pts_nil) (fun _ _ _ _ _ => (pe_callB (cr_allB (K := K) rfl rfl) (by rfl) T.all boot_all (pa_cons (pe_lc (own := [("_law_row", 11)]) rfl sc__law_inside.nd (pi_listB (K := K) rfl (pv 8)) (blkOk_in (N := ["_law_rows", "_law_edges", "_law_concept_here", "_law_inner", "_law_found", "_law_thing", "_law_role", "_law_other", "_law_some", "_law_part", "_law_names", "_law_row"]) (own := [("_law_row", 11)]) (by decide +kernel)) (fun _ _ _ _ _ => (pg_name (i := 11) sc__law_inside.nd rfl (.inl rfl))) (fun _ _ _ _ _ => pts_nil) (fun _ _ _ _ _ => (pe_ix (ix_listB (K := K) rfl) (pv 11) (pv 5) (fun _ _ => rfl)))) pa_nil))))))))), ?_⟩
  have lrv := hrows.len
  by_cases it : isTup c = true
  case neg =>
    obtain ⟨z, rfl, hall, hnm⟩ : ∃ z, v = .str z ∧ (z = "all" → c = .all) ∧ (z ≠ "all" → c = .nm z ∧ z ≠ "none") := by
      cases c with
      | all => exact ⟨_, of_all hc, fun _ => rfl, fun h => absurd rfl h⟩
      | nm z => exact ⟨_, of_nm hc, fun h => absurd h (word_all g.g), fun _ => ⟨rfl, word_none g.g⟩⟩
      | sm r d => exact absurd rfl it
      | an cs => exact absurd rfl it
    refine ⟨_, rfl, _, _, _, _, true, rfl, .ty "str", .base (.str _), k_ss, true, rfl, iteT ?_⟩
    refine ⟨_, rfl, ra, rfl, ⟨_, hra⟩, fun D nD => ?_⟩
    refine lc_list (K := K) (a := ra) (xs := rvs) (fun i H' => Same H H' ∧ ∃ bs : List Bool, H' D = some (.lst (bs.map V.bl)) ∧ bs.length = i ∧ ∀ t b, bs[t]? = some b → (b = true ↔ Mem rows es t c)) ⟨same_new nD, [], upd_same, rfl, fun t b h => (by simp at h)⟩ (fun i H' _ h => same_list h.1 hra) ?_ ?_
    · rintro i x H1 hx ⟨sm, bs, hD, lb, ib⟩
      obtain ⟨row, hr0, b, rfl, hb⟩ := hrows.getL hx
      have hi := (List.getElem?_eq_some_iff.mp hr0).1
      have put : ∀ b : Bool, (b = true ↔ Mem rows es i c) → ∃ acc, H1 D = some (.lst acc) ∧ acc.length < sizeLine ∧ (Same H (upd H1 D (.lst (acc ++ [.bl b]))) ∧ ∃ bs : List Bool, (upd H1 D (.lst (acc ++ [.bl b]))) D = some (.lst (bs.map V.bl)) ∧ bs.length = i + 1 ∧ ∀ t b, bs[t]? = some b → (b = true ↔ Mem rows es t c)) := fun b hb => by
        refine ⟨_, hD, sz_lt (by rw [List.length_map]; omega), same_at sm nD, bs ++ [b], by rw [upd_same, List.map_append]; rfl, by rw [List.length_append, lb]; rfl, fun t b' h => ?_⟩
        rcases Nat.lt_or_ge t bs.length with lt | ge
        · rw [List.getElem?_append_left lt] at h
          exact ib t b' h
        · rw [List.getElem?_append_right ge] at h
          have : t = i := by
            have := (List.getElem?_eq_some_iff.mp h).1
            simp only [List.length_cons, List.length_nil] at this
            omega
          subst this
          rw [lb, Nat.sub_self] at h
          cases h
          exact hb
      refine ⟨rfl, _, rfl, rfl, _, rfl, ?_⟩
      by_cases za : z = "all"
      · rw [decide_eq_true (congrArg V.str za)]
        have := hall za
        subst this
        exact iteT (put true ⟨fun _ => trivial, fun _ => rfl⟩)
      · obtain ⟨rfl, zn⟩ := hnm za
        rw [decide_eq_false (fun h => za (V.str.inj h))]
        refine iteF ⟨_, rfl, rfl, _, rfl, ?_⟩
        rw [decide_eq_false (fun h => zn (V.str.inj h))]
        refine iteT ⟨_, rfl, _, rfl, b, _, rfl, .inr (same_tup sm hb), rfl, by simp [flatV], ?_⟩
        rw [if_neg Bool.false_ne_true, inV_strs]
        refine put _ ?_
        rw [decide_eq_true_eq]
        exact ⟨fun h => ⟨row, hr0, h⟩, fun ⟨row', e, h⟩ => by rw [hr0] at e; cases e; exact h⟩
    · rintro H1 ⟨sm, bs, hD, lb, ib⟩
      exact q H1 D bs sm nD hD (by rw [lb]; exact lrv) ib
  cases c with
  | all => cases it
  | nm z => cases it
  | sm r d =>
    obtain ⟨a, u, rfl, hS, hd⟩ := of_sm hc
    obtain ⟨gd, nd, _⟩ := g.inn (show d ∈ inn (.sm r d) from List.mem_cons_self)
    refine ⟨_, rfl, _, _, _, _, false, rfl, .ty "str", tyx_tup hS, k_ts, false, rfl, iteF ?_⟩
    refine ⟨_, rfl, a, _, _, _, rfl, rfl, hS, atI_nat (j := 0) rfl, rfl, true, congrArg V.bl (decide_eq_true rfl), iteT ?_⟩
    refine ⟨_, rfl, _, rfl, _, rfl, a, _, 2, _, rfl, rfl, hS, atI_nat (j := 2) rfl, ra, ea, u, rvs, rows, xs, es, d, rfl, hra, hrows, hea, hxs, hes, lr, hd, gd, by omega, fun H1 p1 bs1 s1 np1 hp1 lb1 ib1 => ?_⟩
    refine ⟨_, rfl, ra, rfl, ⟨_, same_list s1 hra⟩, fun D nD => ?_⟩
    have nD0 : H D = none := s1.free nD
    refine lc_list (K := K) (a := ra) (xs := rvs) (fun i H' => Same H1 H' ∧ H' D = some (.lst (List.replicate i (.bl false)))) ⟨same_new nD, upd_same⟩ (fun i H' _ h => same_list (s1.trans h.1) hra) ?_ ?_
    · rintro i x H2 hx ⟨sm, hD⟩
      have hi := (List.getElem?_eq_some_iff.mp hx).1
      refine ⟨rfl, _, hD, by rw [List.length_replicate]; exact sz_lt (by omega), same_at sm nD, ?_⟩
      rw [upd_same, List.replicate_succ']
    · rintro H2 ⟨sm2, hD2⟩
      have s2 := s1.trans sm2
      refine ⟨_, rfl, ea, rfl, ⟨_, same_list s2 hea⟩, for_list (K := K) (a := ea) (xs := xs) (fun j σ H' => ∃ y5 y6 y7, ∃ bs : List Bool, σ = [some (.ref ra), some (.ref ea), some (.ref a), some (.ref p1), some (.ref D), y5, y6, y7, none, none, none, none] ∧ Same H1 H' ∧ H' D = some (.lst (bs.map V.bl)) ∧ bs.length = rows.length ∧
        ∀ t b, bs[t]? = some b → (b = true ↔ ∃ e ∈ es.take j, e.1 = t ∧ e.2.1 = r ∧ Mem rows es e.2.2 d))
        ⟨_, _, _, List.replicate rvs.length false, rfl, sm2, by rw [List.map_replicate]; exact hD2, by rw [List.length_replicate]; exact lrv, fun t b h => ?_⟩ (fun j σ H' _ ⟨_, _, _, _, _, sm, _⟩ => same_list (s1.trans sm) hea) ?_ ?_⟩
      · have : b = false := (List.mem_replicate.mp (List.mem_of_getElem? h)).2
        subst this
        simp
      · rintro j x σ H3 hx ⟨y5, y6, y7, bs, rfl, sm, hD, lb, ib⟩
        obtain ⟨e, he, hxe⟩ := hxs.getL hx
        obtain ⟨e1, e2⟩ := hes e (List.mem_of_getElem? he)
        have s3 := s1.trans sm
        obtain ⟨b5, rfl, hb5⟩ := of_eat (eat_same s3 hxe)
        have hS3 := same_tup s3 hS
        have tk : es.take (j + 1) = es.take j ++ [e] := by rw [List.take_add_one, he, Option.toList_some]
        obtain ⟨bo, hbo⟩ : ∃ bo, bs1[e.2.2]? = some bo := ⟨bs1[e.2.2]'(by omega), List.getElem?_eq_getElem _⟩
        have skip : ¬ (e.2.1 = r ∧ Mem rows es e.2.2 d) → ∀ t b, bs[t]? = some b → (b = true ↔ ∃ e ∈ es.take (j + 1), e.1 = t ∧ e.2.1 = r ∧ Mem rows es e.2.2 d) := fun no t b h => by
          rw [ib t b h, tk]
          constructor
          · rintro ⟨e', h1, h2⟩
            exact ⟨e', List.mem_append_left _ h1, h2⟩
          · rintro ⟨e', h1, h2⟩
            rcases List.mem_append.mp h1 with h1 | h1
            · exact ⟨e', h1, h2⟩
            · rw [List.mem_singleton.mp h1] at h2
              exact absurd h2.2 no
        refine ⟨b5, _, rfl, hb5, rfl, _, _, rfl, _, _, rfl, _, _, rfl, rfl, ?_⟩
        refine ⟨_, rfl, _, rfl, a, _, 1, _, rfl, rfl, hS3, atI_nat (j := 1) rfl, rfl, _, rfl, ?_⟩
        by_cases er : e.2.1 = r
        · rw [decide_eq_true (congrArg V.str er)]
          refine iteT ⟨_, rfl, _, rfl, p1, _, e.2.2, .bl bo, rfl, rfl, SqL.of (sm _ _ hp1), atI_nat (by rw [List.getElem?_map, hbo]; rfl), bo, rfl, ?_⟩
          have ibo := ib1 _ _ hbo
          cases bo with
          | false => exact iteF ⟨_, _, _, bs, rfl, sm, hD, lb, skip fun z => by have := ibo.mpr z.2; cases this⟩
          | true =>
            have lt : e.1 < (bs.map V.bl).length := by rw [List.length_map]; omega
            have ix : ixN (bs.map V.bl).length (e.1 : Int) = some e.1 := by
              unfold ixN
              rw [if_pos (by omega), if_pos (by omega)]
              rfl
            refine iteT ⟨_, rfl, _, rfl, D, _, _, e.1, rfl, rfl, hD, ix, _, _, _, bs.set e.1 true, rfl, same_at sm nD, by rw [upd_same, List.map_set], by rw [List.length_set]; exact lb, fun t b h => ?_⟩
            rw [tk]
            rw [List.getElem?_set] at h
            by_cases et : e.1 = t
            · rw [if_pos et] at h
              rw [if_pos (by rw [List.length_map] at lt; omega)] at h
              cases h
              exact ⟨fun _ => ⟨e, List.mem_append_right _ (List.mem_singleton.mpr rfl), et, er, ibo.mp rfl⟩, fun _ => rfl⟩
            · rw [if_neg et] at h
              rw [ib t b h]
              constructor
              · rintro ⟨e', h1, h2⟩
                exact ⟨e', List.mem_append_left _ h1, h2⟩
              · rintro ⟨e', h1, h2⟩
                rcases List.mem_append.mp h1 with h1 | h1
                · exact ⟨e', h1, h2⟩
                · rw [List.mem_singleton.mp h1] at h2
                  exact absurd h2.1 et
        · rw [decide_eq_false (fun z => er (V.str.inj z))]
          exact iteF (iteF ⟨_, _, _, bs, rfl, sm, hD, lb, skip fun z => er z.1⟩)
      · rintro σ H3 ⟨y5, y6, y7, bs, rfl, sm, hD, lb, ib⟩
        have lx := hxs.len
        rw [lx, List.take_length] at ib
        refine ⟨_, rfl, q H3 D bs (s1.trans sm) nD0 hD lb fun t b h => ?_⟩
        rw [ib t b h]
        constructor
        · rintro ⟨e, h1, rfl, rfl, h4⟩
          exact ⟨e.2.2, h1, h4⟩
        · rintro ⟨o, h1, h2⟩
          exact ⟨(t, r, o), h1, rfl, rfl, h2⟩
  | an cs =>
    obtain ⟨a, us, rfl, hS, hd⟩ := of_an hc
    have g1 := g.g.1
    have hl := hd.len
    have gw := g.w
    have lcs := len_wts cs
    simp only [wt] at gw
    refine ⟨_, rfl, _, _, _, _, false, rfl, .ty "str", tyx_tup hS, k_ts, false, rfl, iteF ?_⟩
    refine ⟨_, rfl, a, _, _, _, rfl, rfl, hS, atI_nat (j := 0) rfl, rfl, false, congrArg V.bl (decide_eq_false fun e => some_and (V.str.inj e).symm), iteF ?_⟩
    refine ⟨_, rfl, _, rfl, a, _, rfl, hS, fun e => ?_, fun _ p np => ?_⟩
    · have := e.1
      rw [show HT.sIx (V.str "and" :: us).length 0 (some 1) = min 1 (us.length + 1) from HT.sIx_nat _ 0 1] at this
      omega
    have ec : cutV (V.str "and" :: us) (some 1) none = us := cut_from (V.str "and" :: us) 1 (by simp)
    rw [ec]
    have s1 : Same H (upd H p (.tup us)) := same_new np
    have p1 : (upd H p (.tup us)) p = some (.tup us) := upd_same
    generalize upd H p (.tup us) = H1 at s1 p1 ⊢
    have hd1 := cs_same s1 hd
    refine ⟨p, rfl, ⟨us, SqT.of p1⟩, fun L nL => ?_⟩
    refine lc_tup (K := K) (xs := us) (fun i H' => Same H1 H' ∧ ∃ vs, H' L = some (.lst vs) ∧ vs.length = i ∧ All2 (fun v e => ∃ p, ∃ bs : List Bool, v = .ref p ∧ p ≠ L ∧ H' p = some (.lst (bs.map V.bl)) ∧ bs.length = rows.length ∧ ∀ t b, bs[t]? = some b → (b = true ↔ Mem rows es t e)) vs (cs.take i)) ⟨same_new nL, [], upd_same, rfl, .nil⟩ (fun i H' _ h => SqT.of (h.1 _ _ p1)) ?_ ?_
    · rintro i x H2 hx ⟨sm, vs, hL, lv, hvs⟩
      obtain ⟨e, he, hxe⟩ := hd1.getL hx
      have hi := (List.getElem?_eq_some_iff.mp he).1
      obtain ⟨ge, ne, _⟩ := g.inn (show e ∈ inn (.an cs) from List.mem_of_getElem? he)
      have s2 := s1.trans sm
      refine ⟨rfl, _, rfl, _, rfl, _, rfl, ra, ea, x, rvs, rows, xs, es, e, rfl, same_list s2 hra, hrows.imp fun _ _ h => row_tk (same_tk s2) h, same_list s2 hea, hxs.imp fun _ _ h => eat_same s2 h, hes, lr, cat_same sm hxe, ge, by omega, fun H3 p3 bs3 s3 np3 hp3 lb3 ib3 => ?_⟩
      have L3 := s3 _ _ hL
      have p3L : p3 ≠ L := fun z => by rw [z, hL] at np3; cases np3
      refine ⟨_, L3, sz_lt (by omega), same_at (sm.trans s3) nL, vs ++ [.ref p3], upd_same, by rw [List.length_append, lv]; rfl, ?_⟩
      rw [List.take_add_one, he, Option.toList_some]
      refine (hvs.imp fun v e ⟨p', bs, h1, h2, h3, h4, h5⟩ => ⟨p', bs, h1, h2, ?_, h4, h5⟩).snoc ⟨p3, bs3, rfl, p3L, by rw [upd_ne p3L]; exact hp3, lb3, ib3⟩
      rw [upd_ne h2]
      exact s3 _ _ h3
    · rintro H2 ⟨sm, vs, hL, lv, hvs⟩
      rw [hl, List.take_length] at hvs
      have s2 := s1.trans sm
      have lvc := hvs.len
      refine ⟨_, rfl, _, rvs.length, rfl, .inl ⟨rvs, same_list s2 hra, rfl⟩, rvs.length, rfl, by omega, by omega, fun D nD => ?_⟩
      have nD0 : H D = none := s2.free nD
      refine it_by walk_range (fun t H' => Same H2 H' ∧ ∃ bs : List Bool, H' D = some (.lst (bs.map V.bl)) ∧ bs.length = t ∧ ∀ t' b, bs[t']? = some b → (b = true ↔ Mem rows es t' (.an cs))) ⟨same_new nD, [], upd_same, rfl, fun t b h => (by simp at h)⟩ (fun _ _ _ _ => trivial) ?_ ?_
      · rintro t xx _ H3 ht ⟨sm3, bs, hD, lb, ib⟩ ⟨rfl, rfl⟩
        have htr : t < rows.length := by omega
        have L3 := sm3 _ _ hL
        refine ⟨rfl, _, rfl, L, rfl, ⟨_, SqL.of L3⟩, fun D2 nD2 => ?_⟩
        have D2D : D ≠ D2 := ne_of_none hD nD2
        refine lc_list (K := K) (a := L) (xs := vs) (fun j H' => Same H3 H' ∧ ∃ bits : List Bool, H' D2 = some (.lst (bits.map V.bl)) ∧ All2 (fun (b : Bool) e => b = true ↔ Mem rows es t e) bits (cs.take j)) ⟨same_new nD2, [], upd_same, .nil⟩ (fun j H' _ h => SqL.of (h.1 _ _ L3)) ?_ ?_
        · rintro j v H4 hv ⟨sm4, bits, hD4, hbits⟩
          obtain ⟨e, he, p', bs', rfl, h2, h3, h4, h5⟩ := hvs.getL hv
          have hj := (List.getElem?_eq_some_iff.mp he).1
          obtain ⟨bt, hbt⟩ : ∃ bt, bs'[t]? = some bt := ⟨bs'[t]'(by omega), List.getElem?_eq_getElem _⟩
          have lbits := hbits.len
          rw [List.length_take] at lbits
          refine ⟨rfl, _, rfl, _, rfl, p', _, (0 + (t : Int)), .bl bt, rfl, rfl, SqL.of (sm4 _ _ (sm3 _ _ h3)), by rw [Int.zero_add]; exact atI_nat (by rw [List.getElem?_map, hbt]; rfl), _, hD4, sz_lt (by rw [List.length_map]; omega), same_at sm4 nD2, bits ++ [bt], by rw [upd_same, List.map_append]; rfl, ?_⟩
          rw [List.take_add_one, he, Option.toList_some]
          exact hbits.snoc (h5 t bt hbt)
        · rintro H4 ⟨sm4, bits, hD4, hbits⟩
          rw [lvc, List.take_length] at hbits
          have all_ : bits.all id = true ↔ Mem rows es t (.an cs) := by
            rw [show Mem rows es t (.an cs) = Mems rows es t cs from rfl, mems_iff, List.all_eq_true]
            constructor
            · intro h e he
              obtain ⟨b, hb, iff⟩ := hbits.right e he
              exact iff.mp (h b hb)
            · intro h b hb
              obtain ⟨e, he, iff⟩ := hbits.left b hb
              exact iff.mpr (h e he)
          have D4 := sm4 _ _ hD
          refine ⟨D2, bits, rfl, SqL.of hD4, _, D4, sz_lt (by rw [List.length_map]; omega), same_at (sm3.trans sm4) nD, bs ++ [bits.all id], by rw [upd_same, List.map_append]; rfl, by rw [List.length_append, lb]; rfl, fun t' b h => ?_⟩
          rcases Nat.lt_or_ge t' bs.length with lt | ge
          · rw [List.getElem?_append_left lt] at h
            exact ib t' b h
          · rw [List.getElem?_append_right ge] at h
            have : t' = t := by
              have := (List.getElem?_eq_some_iff.mp h).1
              simp only [List.length_cons, List.length_nil] at this
              omega
            subst this
            rw [lb, Nat.sub_self] at h
            cases h
            exact all_
      · rintro H3 ⟨sm3, bs, hD, lb, ib⟩
        exact q H3 D bs (s2.trans sm3) nD0 hD (by rw [lb]; omega) ib
theorem ok_inside (D : Df K mg "_law_inside" s__law_inside ["_law_rows", "_law_edges", "_law_concept_here"]) (T : Tx K mg) : ∀ n, Cal P w K mg base n "_law_inside" (spInside K n)
  | 0 => cal_void D fun vs H Q E h => by
    obtain ⟨ra, ea, v, rvs, rows, xs, es, c, _, _, _, _, _, _, _, _, _, h, _⟩ := h
    exact absurd h (Nat.not_lt_zero _)
  | n + 1 => step_inside D T (ok_inside D T n)
end
end K77
end

section
set_option Elab.async false
set_option linter.all false
set_option maxRecDepth 100000
set_option maxHeartbeats 4000000
/-! the law's nodes: node, maps, plainly, tree -/
namespace K77
open PySem PySem.Spec PyProof.Rows L2
abbrev s__law_node : Stmt := top 60
theorem sc__law_node : FnScope ["_law_concept_here", "_law_names", "_law_below", "_law_part", "_law_one", "_law_name"] ["_law_concept_here"] (defScope s__law_node) := ⟨rfl, rfl, rfl, by decide +kernel, rfl, by decide +kernel, by decide +kernel⟩
/-- the law's node v is the concept c -/
def LNode (H : Hp) : Nat → V → Con → Prop
  | 0, _, _ => False
  | n + 1, v, c => ∃ (t nl bl : Addr) (ns : List Str) (ks : List V), v = .ref t ∧ H t = some (.tup [.ref nl, .ref bl]) ∧ H nl = some (.lst (ns.map V.str)) ∧ (∀ s, s ∈ ns ↔ s ∈ names c) ∧ (ns.length ≤ 4 * wt c ∧ ks.length ≤ 4 * wt c ∧ wt c ≤ 4000) ∧ H bl = some (.lst ks) ∧
    All2 (fun (kv : V) (q : Str × Con) => ∃ kt u, kv = .ref kt ∧ H kt = some (.tup [.str q.1, u]) ∧ LNode H n u q.2) ks (kids c)
abbrev LKids (H : Hp) (n : Nat) (ks : List V) (qs : List (Str × Con)) : Prop := All2 (fun (kv : V) (q : Str × Con) => ∃ kt u, kv = .ref kt ∧ H kt = some (.tup [.str q.1, u]) ∧ LNode H n u q.2) ks qs
theorem LNode.same {H H' : Hp} (s : Same H H') : ∀ {n v c}, LNode H n v c → LNode H' n v c
  | 0, _, _, h => h.elim
  | n + 1, v, c, h => by
    obtain ⟨t, nl, bl, ns, ks, e, h1, h2, h3, h4, h5, h6⟩ := h
    exact ⟨t, nl, bl, ns, ks, e, s _ _ h1, s _ _ h2, h3, h4, s _ _ h5, h6.imp fun kv q ⟨kt, u, a, b, d⟩ => ⟨kt, u, a, s _ _ b, LNode.same s d⟩⟩
theorem LNode.up {H : Hp} : ∀ {n m v c}, n ≤ m → LNode H n v c → LNode H m v c
  | 0, _, _, _, _, h => h.elim
  | n + 1, 0, _, _, le, _ => absurd le (by omega)
  | n + 1, m + 1, v, c, le, h => by
    obtain ⟨t, nl, bl, ns, ks, e, h1, h2, h3, h4, h5, h6⟩ := h
    exact ⟨t, nl, bl, ns, ks, e, h1, h2, h3, h4, h5, h6.imp fun kv q ⟨kt, u, a, b, d⟩ => ⟨kt, u, a, b, LNode.up (Nat.le_of_succ_le_succ le) d⟩⟩
theorem LKids.same {H H' : Hp} {n : Nat} {ks : List V} {qs : List (Str × Con)} (h : LKids H n ks qs) (s : Same H H') : LKids H' n ks qs := h.imp fun kv q ⟨kt, u, a, b, d⟩ => ⟨kt, u, a, s _ _ b, d.same s⟩
def spNodeL (K : PySem.W.Frag) (n : Nat) : Sp := fun vs H Q _ => ∃ v c, vs = [v] ∧ CAt K H v c ∧ Sml c ∧ nest c < n ∧ ∀ H' v', Same H H' → LNode H' (nest c + 1) v' c → Q v' H'
def spMaps (n : Nat) : Sp := fun vs H Q _ => ∃ v u c e m, vs = [v, u] ∧ LNode H n v c ∧ LNode H m u e ∧ ∀ H' b, Same H H' → (b = true ↔ Le e c) → Q (.bl b) H'
section
variable {P : Program} {w : World} {K : PySem.W.Frag} {mg : Str → Option Value} {base : Heap}
theorem step_node {n k : Nat} (D : Df K mg "_law_node" s__law_node ["_law_concept_here"]) (T : Tx K mg) (c_l_node : Cal P w K mg base k "_law_node" (spNodeL K n)) : Cal P w K mg base (k + 1) "_law_node" (spNodeL K (n + 1)) := by
  refine cal_of D sc__law_node (fun vs H Q E h => ?_) (fun f cdv A outer s H vs Q E hr h => ?_)
  · obtain ⟨v, c, rfl, _⟩ := h
    rfl
  obtain ⟨v, c, rfl, hc, g, hn, q⟩ := h
  have gw := g.w
  have z3 : ∀ {m : Nat}, m ≤ 3 → m ≤ sizeLine := fun h => sz_le (by omega)
  refine ⟨_, (pss_cons (ps_if (pt_val (pe_callB call_isi (by rfl) T.isi boot_isinstance (pa_cons (pv 0) (pa_cons (pe_bltn (v := .ty "str") (by rfl) T.str boot_str rfl) pa_nil))))
    (pss_one (ps_ret (pe_ifExp (pt_cmpR op_eq (pv 0) pe_str (nomark _)) (pe_tup (pa_cons (pe_lst pa_nil) (pa_cons (pe_lst pa_nil) pa_nil))) (pe_tup (pa_cons (pe_lst (pa_cons (pv 0) pa_nil)) (pa_cons (pe_lst pa_nil) pa_nil))))))
    pss_nil)
    (pss_cons (ps_if (pt_cmpR op_eq (pe_ix ix_tup (pv 0) pe_int (fun _ _ => rfl)) pe_str (nomark _))
    (pss_one (ps_ret (pe_tup (pa_cons (pe_lst pa_nil) (pa_cons (pe_lst (pa_cons (pe_tup (pa_cons (pe_ix ix_tup (pv 0) pe_int (fun _ _ => rfl)) (pa_cons (pc c_l_node hr (by rfl) (pa_cons (pe_ix ix_tup (pv 0) pe_int (fun _ _ => rfl)) pa_nil)) pa_nil))) pa_nil)) pa_nil)))))
    pss_nil)
    (pss_cons (ps_asg (pe_tup (pa_cons (pe_lst pa_nil) (pa_cons (pe_lst pa_nil) pa_nil))) (pg_tup rfl (pgs_cons (pg_name (i := 1) sc__law_node.nd rfl (.inr rfl)) (pgs_cons (pg_name (i := 2) sc__law_node.nd rfl (.inl rfl)) pgs_nil))))
    (pss_cons (ps_for PassesOwn.never rfl (pi_tup (pe_slice sl_tupA (pv 0) (po_some pe_int) po_none)) (pg_name (i := 3) sc__law_node.nd rfl (.inl rfl))
    (pss_cons (ps_set (i := 4) sc__law_node.nd rfl (.inl rfl) (pc c_l_node hr (by rfl) (pa_cons (pv 3) pa_nil)))
    (pss_cons (ps_set (i := 1) sc__law_node.nd rfl (.inr rfl) (pe_op op_cat (pv 1) (pe_lc (own := [("_law_name", 5)]) rfl sc__law_node.nd (pi_list (pe_ix ix_tup (pv 4) pe_int (fun _ _ => rfl))) (blkOk_by (N := ["_law_concept_here", "_law_names", "_law_below", "_law_part", "_law_one", "_law_name"]) (sc := defScope s__law_node) (own := [("_law_name", 5)]) (by decide +kernel)) (fun _ _ _ _ _ => (pg_name (i := 5) sc__law_node.nd rfl (.inl rfl))) (fun _ _ _ _ _ => (pts_one (pt_cmpR (op_notIn_seqB (K := K) rfl) (pv 5) (pv 1) rfl))) (fun _ _ _ _ _ => (pv 5)))))
    (pss_one (ps_set (i := 2) sc__law_node.nd rfl (.inl rfl) (pe_op op_cat (pv 2) (pe_ix ix_tup (pv 4) pe_int (fun _ _ => rfl))))))))
    (pss_one (ps_ret (pe_tup (pa_cons (pv 1) (pa_cons (pv 2) pa_nil))))))))), ?_⟩
  cases c with
  | all =>
    cases of_all hc
    refine ⟨_, rfl, _, _, _, _, true, rfl, .ty "str", .base (.str _), k_ss, true, rfl, iteT ?_⟩
    refine ⟨_, rfl, rfl, true, congrArg V.bl (decide_eq_true rfl), iteT ⟨Nat.zero_le _, fun a na => ⟨Nat.zero_le _, fun b nb => ⟨z3 (by simp), fun p np => ?_⟩⟩⟩⟩
    exact q _ _ (((same_new na).trans (same_new nb)).trans (same_new np)) ⟨p, a, b, [], [], rfl, upd_same, (same_new np) _ _ ((same_new nb) _ _ upd_same), fun s => by simp [names, cj], ⟨Nat.zero_le _, Nat.zero_le _, gw⟩, (same_new np) _ _ upd_same, .nil⟩
  | nm z =>
    cases of_nm hc
    refine ⟨_, rfl, _, _, _, _, true, rfl, .ty "str", .base (.str _), k_ss, true, rfl, iteT ?_⟩
    refine ⟨_, rfl, rfl, false, congrArg V.bl (decide_eq_false fun e => word_all g.g (V.str.inj e)), iteF ⟨_, rfl, z3 (by simp), fun a na => ⟨Nat.zero_le _, fun b nb => ⟨z3 (by simp), fun p np => ?_⟩⟩⟩⟩
    exact q _ _ (((same_new na).trans (same_new nb)).trans (same_new np)) ⟨p, a, b, [z], [], rfl, upd_same, (same_new np) _ _ ((same_new nb) _ _ upd_same), fun s => by simp [names, cj, nmOf, List.filterMap], ⟨by simp [wt], Nat.zero_le _, gw⟩, (same_new np) _ _ upd_same, .nil⟩
  | sm r d =>
    obtain ⟨a, u, rfl, hS, hd⟩ := of_sm hc
    obtain ⟨gd, nd, _⟩ := g.inn (show d ∈ inn (.sm r d) from List.mem_cons_self)
    refine ⟨_, rfl, _, _, _, _, false, rfl, .ty "str", tyx_tup hS, k_ts, false, rfl, iteF ?_⟩
    refine ⟨_, rfl, a, _, _, _, rfl, rfl, hS, atI_nat (j := 0) rfl, rfl, true, congrArg V.bl (decide_eq_true rfl), iteT ?_⟩
    refine ⟨Nat.zero_le _, fun nl nnl => ?_⟩
    have s1 : Same H (upd H nl (.lst [])) := same_new nnl
    have nl1 : (upd H nl (.lst [])) nl = some (.lst []) := upd_same
    generalize upd H nl (.lst []) = H1 at s1 nl1 ⊢
    have hS1 := same_tup s1 hS
    refine ⟨_, rfl, a, _, 1, _, rfl, rfl, hS1, atI_nat (j := 1) rfl, _, rfl, a, _, 2, _, rfl, rfl, hS1, atI_nat (j := 2) rfl, u, d, rfl, cat_same s1 hd, gd, by omega, fun H2 v2 s2 ln => ⟨z3 (by simp), fun kt nkt => ⟨z3 (by simp), fun bl nbl => ⟨z3 (by simp), fun p np => ?_⟩⟩⟩⟩
    have s5 := ((same_new (o := .tup [.str r, v2]) nkt).trans (same_new (o := .lst [.ref kt]) nbl)).trans (same_new (o := .tup [.ref nl, .ref bl]) np)
    refine q _ _ ((s1.trans s2).trans s5) ⟨p, nl, bl, [], [.ref kt], rfl, upd_same, s5 _ _ (s2 _ _ nl1), fun s => by simp [names, cj, nmOf, List.filterMap], ⟨Nat.zero_le _, by simp [wt]; omega, gw⟩, (same_new np) _ _ upd_same, ?_⟩
    have ek : kids (.sm r d) = [(r, d)] := by simp [kids, cj, smOf, List.filterMap]
    rw [ek]
    exact .one ⟨kt, v2, rfl, (same_new np) _ _ ((same_new nbl) _ _ upd_same), ln.same s5⟩
  | an cs =>
    obtain ⟨a, us, rfl, hS, hd⟩ := of_an hc
    have g1 := g.g.1
    have hl := hd.len
    simp only [wt] at gw
    refine ⟨_, rfl, _, _, _, _, false, rfl, .ty "str", tyx_tup hS, k_ts, false, rfl, iteF ?_⟩
    refine ⟨_, rfl, a, _, _, _, rfl, rfl, hS, atI_nat (j := 0) rfl, rfl, false, congrArg V.bl (decide_eq_false fun e => some_and (V.str.inj e).symm), iteF ?_⟩
    refine ⟨Nat.zero_le _, fun n0 nn0 => ⟨Nat.zero_le _, fun b0 nb0 => ⟨z3 (by simp), fun tp ntp => ⟨tp, _, rfl, SqT.of upd_same, rfl, _, _, rfl, _, _, rfl, rfl, ?_⟩⟩⟩⟩
    have s1 : Same H (upd (upd (upd H n0 (.lst [])) b0 (.lst [])) tp (.tup [.ref n0, .ref b0])) := ((same_new nn0).trans (same_new nb0)).trans (same_new ntp)
    have n1 : (upd (upd (upd H n0 (.lst [])) b0 (.lst [])) tp (.tup [.ref n0, .ref b0])) n0 = some (.lst (([] : List Str).map V.str)) := (same_new ntp) _ _ ((same_new nb0) _ _ upd_same)
    have b1 : (upd (upd (upd H n0 (.lst [])) b0 (.lst [])) tp (.tup [.ref n0, .ref b0])) b0 = some (.lst []) := (same_new ntp) _ _ upd_same
    generalize upd (upd (upd H n0 (.lst [])) b0 (.lst [])) tp (.tup [.ref n0, .ref b0]) = H1 at s1 n1 b1 ⊢
    refine ⟨_, rfl, _, rfl, a, _, rfl, same_tup s1 hS, fun e => ?_, fun _ p np => ?_⟩
    · have := e.1
      rw [show HT.sIx (V.str "and" :: us).length 0 (some 1) = min 1 (us.length + 1) from HT.sIx_nat _ 0 1] at this
      omega
    have ec : cutV (V.str "and" :: us) (some 1) none = us := cut_from (V.str "and" :: us) 1 (by simp)
    rw [ec]
    have s2 : Same H1 (upd H1 p (.tup us)) := same_new np
    have p2 : (upd H1 p (.tup us)) p = some (.tup us) := upd_same
    generalize upd H1 p (.tup us) = H2 at s2 p2 ⊢
    have hd2 := cs_same (s1.trans s2) hd
    have sw4 : wts cs ≤ 3999 := by omega
    refine ⟨p, rfl, ⟨us, SqT.of p2⟩, for_tup (K := K) (xs := us) (fun i σ H' => ∃ nl bl y z, ∃ ns : List Str, ∃ ks, σ = [some (.ref a), some (.ref nl), some (.ref bl), y, z, none] ∧ Same H2 H' ∧ H' nl = some (.lst (ns.map V.str)) ∧ (∀ s, s ∈ ns ↔ s ∈ (cjs (cs.take i)).filterMap nmOf) ∧ ns.length ≤ 4 * wts (cs.take i) ∧
      H' bl = some (.lst ks) ∧ LKids H' (nests cs + 1) ks ((cjs (cs.take i)).filterMap smOf) ∧ ks.length ≤ 4 * wts (cs.take i))
      ⟨n0, b0, _, _, [], [], rfl, fun _ _ h => h, s2 _ _ n1, fun s => by simp [cjs], by simp, s2 _ _ b1, by simp [cjs]; exact .nil, by simp⟩ (fun i σ H' _ ⟨_, _, _, _, _, _, _, sm, _⟩ => SqT.of (sm _ _ p2)) ?_ ?_⟩
    · rintro i x σ H3 hx ⟨nl, bl, y, z, ns, ks, rfl, sm, hnl, mns, lns, hbl, hks, lks⟩
      obtain ⟨e, he, hxe⟩ := hd2.getL hx
      have hmem := List.mem_of_getElem? he
      obtain ⟨ge, ne, _⟩ := g.inn (show e ∈ inn (.an cs) from hmem)
      have ne2 := nest_le_nests hmem
      have tk : cs.take (i + 1) = cs.take i ++ [e] := by rw [List.take_add_one, he, Option.toList_some]
      have tw : wts (cs.take (i + 1)) = wts (cs.take i) + wt e := by rw [tk, wts_app]; simp [wts]
      have tle : wts (cs.take (i + 1)) ≤ wts cs := by
        have := congrArg wts (List.take_append_drop (i + 1) cs)
        rw [wts_app] at this
        omega
      have cje : cjs (cs.take (i + 1)) = cjs (cs.take i) ++ cj e := by rw [tk, cjs_app]; simp [cjs]
      refine ⟨_, rfl, x, e, rfl, cat_same sm hxe, ge, by omega, fun H4 v4 s4 ln => ?_⟩
      obtain ⟨t4, nl4, bl4, ns4, ks4, rfl, ht4, hnl4, mns4, ⟨lns4, lks4, _⟩, hbl4, hks4⟩ := ln
      refine ⟨_, rfl, _, rfl, t4, _, 0, _, rfl, rfl, SqT.of ht4, atI_nat (j := 0) rfl, nl4, rfl, ⟨_, SqL.of hnl4⟩, fun D nD => ?_⟩
      refine lc_list (K := K) (a := nl4) (xs := ns4.map V.str) (fun j H' => Same H4 H' ∧ ∃ zs : List Str, H' D = some (.lst (zs.map V.str)) ∧ zs.length ≤ j ∧ ∀ s, s ∈ zs ↔ s ∈ ns4.take j ∧ s ∉ ns) ⟨same_new nD, [], upd_same, Nat.le_refl _, fun s => by simp⟩ (fun j H' _ h => SqL.of (h.1 _ _ hnl4)) ?_ ?_
      · rintro j v H5 hv ⟨sm5, zs, hD5, lz, mz⟩
        rw [List.getElem?_map] at hv
        obtain ⟨s, hs, rfl⟩ := Option.map_eq_some_iff.mp hv
        have hj := (List.getElem?_eq_some_iff.mp hs).1
        have tks : ns4.take (j + 1) = ns4.take j ++ [s] := by rw [List.take_add_one, hs, Option.toList_some]
        refine ⟨rfl, _, rfl, _, rfl, nl, _, rfl, .inl (SqL.of (sm5 _ _ (s4 _ _ hnl))), rfl, by simp [flatV], _, rfl, ?_⟩
        rw [if_pos rfl, inV_strs]
        by_cases hm : s ∈ ns
        · rw [decide_eq_true hm]
          refine iteF ⟨sm5, zs, hD5, by omega, fun s' => ?_⟩
          rw [mz, tks, List.mem_append, List.mem_singleton]
          constructor
          · rintro ⟨h1, h2⟩
            exact ⟨.inl h1, h2⟩
          · rintro ⟨h1 | rfl, h2⟩
            · exact ⟨h1, h2⟩
            · exact absurd hm h2
        · rw [decide_eq_false hm]
          refine iteT ⟨_, rfl, _, hD5, sz_lt (by rw [List.length_map]; omega), same_at sm5 nD, zs ++ [s], by rw [upd_same, List.map_append]; rfl, by rw [List.length_append]; exact Nat.add_le_add_right lz 1, fun s' => ?_⟩
          rw [List.mem_append, mz, tks, List.mem_append, List.mem_singleton]
          constructor
          · rintro (⟨h1, h2⟩ | rfl)
            · exact ⟨.inl h1, h2⟩
            · exact ⟨.inr rfl, hm⟩
          · rintro ⟨h1 | rfl, h2⟩
            · exact .inl ⟨h1, h2⟩
            · exact .inr rfl
      · rintro H5 ⟨sm5, zs, hD5, lz, mz⟩
        rw [List.length_map] at lz
        rw [List.length_map, List.take_length] at mz
        have s45 := s4.trans sm5
        refine ⟨nl, D, _, _, rfl, rfl, s45 _ _ hnl, hD5, sz_le (by rw [List.length_map, List.length_map]; omega), fun p6 np6 => ?_⟩
        have s6 : Same H5 (upd H5 p6 (.lst (ns.map V.str ++ zs.map V.str))) := same_new np6
        have s46 := sm5.trans s6
        refine ⟨_, rfl, _, rfl, t4, _, 1, _, rfl, rfl, SqT.of (s46 _ _ ht4), atI_nat (j := 1) rfl, bl, bl4, _, _, rfl, rfl, s46 _ _ (s4 _ _ hbl), s46 _ _ hbl4, sz_le (by omega), fun p7 np7 => ?_⟩
        have s7 := s6.trans (same_new (o := .lst (ks ++ ks4)) np7)
        have s47 := s46.trans (same_new (o := .lst (ks ++ ks4)) np7)
        refine ⟨p6, p7, _, _, ns ++ zs, ks ++ ks4, rfl, sm.trans (s4.trans s47), by rw [List.map_append]; exact (same_new np7) _ _ upd_same, fun s => ?_, by rw [List.length_append]; omega, upd_same, ?_, by rw [List.length_append]; omega⟩
        · rw [cje, List.filterMap_append, List.mem_append, List.mem_append, mns, mz, mns4]
          constructor
          · rintro (h | ⟨h, _⟩)
            · exact .inl h
            · exact .inr h
          · rintro (h | h)
            · exact .inl h
            · by_cases hm : s ∈ ns
              · exact .inl ((mns s).mp hm)
              · exact .inr ⟨h, hm⟩
        · rw [cje, List.filterMap_append]
          exact All2.app (hks.same (s4.trans s47)) (LKids.same (hks4.imp fun kv q ⟨kt, u, a1, b1, d1⟩ => ⟨kt, u, a1, b1, d1.up (by omega)⟩) s47)
    · rintro σ H3 ⟨nl, bl, y, z, ns, ks, rfl, sm, hnl, mns, lns, hbl, hks, lks⟩
      rw [hl, List.take_length] at mns lns hks lks
      refine ⟨_, rfl, _, rfl, z3 (by simp), fun p9 np9 => ?_⟩
      have s9 : Same H3 (upd H3 p9 (.tup [.ref nl, .ref bl])) := same_new np9
      exact q _ _ (((s1.trans s2).trans sm).trans s9) ⟨p9, nl, bl, ns, ks, rfl, upd_same, s9 _ _ hnl, mns, ⟨by simp only [wt]; omega, by simp only [wt]; omega, by simp only [wt]; omega⟩, s9 _ _ hbl, hks.same s9⟩
theorem ok_nodeL (D : Df K mg "_law_node" s__law_node ["_law_concept_here"]) (T : Tx K mg) : ∀ n, Cal P w K mg base n "_law_node" (spNodeL K n)
  | 0 => cal_void D fun vs H Q E h => by
    obtain ⟨v, c, _, _, _, h, _⟩ := h
    exact absurd h (Nat.not_lt_zero _)
  | n + 1 => step_node D T (ok_nodeL D T n)
end
end K77
end

section
set_option Elab.async false
set_option linter.all false
set_option maxRecDepth 100000
set_option maxHeartbeats 4000000
/-! the law's maps, plainly, tree -/
namespace K77
open PySem PySem.Spec PyProof.Rows L2
abbrev s__law_maps : Stmt := top 61
theorem sc__law_maps : FnScope ["_law_one", "_law_other", "_law_role", "_law_node_here", "_law_name", "_law_same", "_law_image"] ["_law_one", "_law_other"] (defScope s__law_maps) := ⟨rfl, rfl, rfl, by decide +kernel, rfl, by decide +kernel, by decide +kernel⟩
abbrev s__law_plainly : Stmt := top 62
theorem sc__law_plainly : FnScope ["_law_concept_here", "_law_other"] ["_law_concept_here", "_law_other"] (defScope s__law_plainly) := ⟨rfl, rfl, rfl, by decide +kernel, rfl, by decide +kernel, by decide +kernel⟩
abbrev s__law_tree : Stmt := top 65
theorem sc__law_tree : FnScope ["_law_rows", "_law_edges", "_law_thing", "_law_depth", "_law_below", "_law_edge"] ["_law_rows", "_law_edges", "_law_thing", "_law_depth"] (defScope s__law_tree) := ⟨rfl, rfl, rfl, by decide +kernel, rfl, by decide +kernel, by decide +kernel⟩
/-- a node whose lists lie in N -/
def TNode (N : Addr → Prop) (H : Hp) : Nat → V → Con → Prop
  | 0, _, _ => False
  | n + 1, v, c => ∃ (t nl bl : Addr) (ns : List Str) (ks : List V), v = .ref t ∧ H t = some (.tup [.ref nl, .ref bl]) ∧ H nl = some (.lst (ns.map V.str)) ∧ (∀ s, s ∈ ns ↔ s ∈ names c) ∧ (ns.length ≤ 4 * wt c ∧ ks.length ≤ 4 * wt c ∧ wt c ≤ 4000) ∧ H bl = some (.lst ks) ∧ N nl ∧ N bl ∧
    All2 (fun (kv : V) (q : Str × Con) => ∃ kt u, kv = .ref kt ∧ H kt = some (.tup [.str q.1, u]) ∧ TNode N H n u q.2) ks (kids c)
abbrev TKids (N : Addr → Prop) (H : Hp) (n : Nat) (ks : List V) (qs : List (Str × Con)) : Prop := All2 (fun (kv : V) (q : Str × Con) => ∃ kt u, kv = .ref kt ∧ H kt = some (.tup [.str q.1, u]) ∧ TNode N H n u q.2) ks qs
theorem TNode.ln {N : Addr → Prop} {H : Hp} : ∀ {n v c}, TNode N H n v c → LNode H n v c
  | 0, _, _, h => h.elim
  | n + 1, v, c, h => by
    obtain ⟨t, nl, bl, ns, ks, e, h1, h2, h3, h4, h5, _, _, h6⟩ := h
    exact ⟨t, nl, bl, ns, ks, e, h1, h2, h3, h4, h5, h6.imp fun kv q ⟨kt, u, a, b, d⟩ => ⟨kt, u, a, b, TNode.ln d⟩⟩
theorem TNode.keep {N N' : Addr → Prop} {H H' : Hp} (t : TupH H H') (s : ∀ a xs, N a → H a = some (.lst xs) → N' a ∧ H' a = some (.lst xs)) : ∀ {n v c}, TNode N H n v c → TNode N' H' n v c
  | 0, _, _, h => h.elim
  | n + 1, v, c, h => by
    obtain ⟨tt, nl, bl, ns, ks, e, h1, h2, h3, h4, h5, n1, n2, h6⟩ := h
    exact ⟨tt, nl, bl, ns, ks, e, t _ _ h1, (s _ _ n1 h2).2, h3, h4, (s _ _ n2 h5).2, (s _ _ n1 h2).1, (s _ _ n2 h5).1, h6.imp fun kv q ⟨kt, u, a, b, d⟩ => ⟨kt, u, a, t _ _ b, TNode.keep t s d⟩⟩
theorem TKids.keep {N N' : Addr → Prop} {H H' : Hp} (t : TupH H H') (s : ∀ a xs, N a → H a = some (.lst xs) → N' a ∧ H' a = some (.lst xs)) {n : Nat} {ks : List V} {qs : List (Str × Con)} (h : TKids N H n ks qs) : TKids N' H' n ks qs := h.imp fun kv q ⟨kt, u, a, b, d⟩ => ⟨kt, u, a, t _ _ b, d.keep t s⟩
def spTreeL (K : PySem.W.Frag) (n : Nat) : Sp := fun vs H Q _ => ∃ ra ea rvs rows xs es, ∃ t d : Nat, vs = [.ref ra, .ref ea, .int t, .int d] ∧ SqL K H ra rvs ∧ All2 (RowAt K H) rvs rows ∧ SqL K H ea xs ∧ All2 (EAt K H) xs es ∧ Wrl rows es ∧ t < rows.length ∧ d < n ∧ d ≤ 4 ∧
  ∀ H' v c, Same H H' → TNode (fun a => H a = none) H' (d + 1) v c → IsW rows es d t c → Br d c → WdN d c → wt c ≤ wb d → Q v H'
/-- the plain law of the tree -/
theorem tree_law {rows : List (List Str)} {es : List Edge} (wr : Wrl rows es) {t : Nat} {row : List Str} (ht : rows[t]? = some row) {L : List (Str × Con)} {d : Nat}
    (h0 : d = 0 → L = []) (hd : ∀ d', d = d' + 1 → All2 (fun (e : Edge) (q : Str × Con) => e.2.1 = q.1 ∧ IsW rows es d' e.2.2 q.2 ∧ Br d' q.2 ∧ WdN d' q.2 ∧ wt q.2 ≤ wb d') (es.filter fun e => decide (e.1 = t)) L) :
    names (.an (row.map Con.nm ++ L.map fun q => .sm q.1 q.2)) = row ∧ kids (.an (row.map Con.nm ++ L.map fun q => .sm q.1 q.2)) = L ∧ IsW rows es d t (.an (row.map Con.nm ++ L.map fun q => .sm q.1 q.2)) ∧ Br d (.an (row.map Con.nm ++ L.map fun q => .sm q.1 q.2)) ∧ WdN d (.an (row.map Con.nm ++ L.map fun q => .sm q.1 q.2)) ∧ wt (.an (row.map Con.nm ++ L.map fun q => .sm q.1 q.2)) ≤ wb d ∧ L.length ≤ 2 := by
  have hn := wr.three row (List.mem_of_getElem? ht)
  have wrow := (wr.wfr.1 row (List.mem_of_getElem? ht)).1
  have ecj : cj (.an (row.map Con.nm ++ L.map fun q => .sm q.1 q.2)) = row.map Con.nm ++ L.map fun q => .sm q.1 q.2 := by
    simp only [cj]
    refine cjs_items fun x hx => ?_
    rcases List.mem_append.mp hx with h | h
    · obtain ⟨s, _, rfl⟩ := List.mem_map.mp h; trivial
    · obtain ⟨s, _, rfl⟩ := List.mem_map.mp h; trivial
  have f1 : ∀ l : List Str, (l.map Con.nm).filterMap nmOf = l ∧ (l.map Con.nm).filterMap smOf = [] := fun l => by
    induction l with
    | nil => exact ⟨rfl, rfl⟩
    | cons x r ih => simp [nmOf, smOf, ih.1, ih.2]
  have f2 : ∀ l : List (Str × Con), (l.map fun q => Con.sm q.1 q.2).filterMap nmOf = [] ∧ (l.map fun q => Con.sm q.1 q.2).filterMap smOf = l := fun l => by
    induction l with
    | nil => exact ⟨rfl, rfl⟩
    | cons x r ih =>
      refine ⟨?_, ?_⟩
      · rw [List.map_cons, List.filterMap_cons]
        exact ih.1
      · rw [List.map_cons, List.filterMap_cons]
        show (x.1, x.2) :: _ = _
        rw [ih.2]
  have en : names (.an (row.map Con.nm ++ L.map fun q => .sm q.1 q.2)) = row := by
    unfold names
    rw [ecj, List.filterMap_append, (f1 row).1, (f2 L).1, List.append_nil]
  have ek : kids (.an (row.map Con.nm ++ L.map fun q => .sm q.1 q.2)) = L := by
    unfold kids
    rw [ecj, List.filterMap_append, (f1 row).2, (f2 L).2, List.nil_append]
  have hw : wt (.an (row.map Con.nm ++ L.map fun q => .sm q.1 q.2)) = row.length + wts (L.map fun q => .sm q.1 q.2) + 1 := by
    simp only [wt]
    rw [wts_app, wts_nms]
  generalize Con.an (row.map Con.nm ++ L.map fun q => .sm q.1 q.2) = c at en ek hw ⊢
  have hN : ∀ s, s ∈ names c ↔ HasN rows t s := fun s => by
    rw [en]
    exact ⟨fun h => ⟨row, ht, h⟩, fun ⟨row', e, h⟩ => by rw [ht] at e; cases e; exact h⟩
  have wn : ∀ s ∈ names c, Word s := fun s hs => wrow s (by rw [← en]; exact hs)
  cases d with
  | zero =>
    have e := h0 rfl
    subst e
    refine ⟨en, ek, ⟨hN, ek⟩, ⟨by rw [en]; exact hn, ek⟩, ⟨wn, ek⟩, ?_, by simp⟩
    simp only [List.map_nil, wts] at hw
    simp only [wb]
    omega
  | succ d =>
    have a := hd d rfl
    have l2 : L.length ≤ 2 := by rw [← a.len]; exact wr.two t
    have ea : ∀ e ∈ es.filter fun e => decide (e.1 = t), e ∈ es ∧ e.1 = t := fun e he => ⟨(List.mem_filter.mp he).1, of_decide_eq_true (List.mem_filter.mp he).2⟩
    refine ⟨en, ek, ⟨hN, fun r k hk => ?_, fun r o ho => ?_⟩, ⟨by rw [en]; exact hn, by rw [ek]; exact l2, fun p hp => ?_⟩, ⟨wn, fun p hp => ?_⟩, ?_, l2⟩
    · rw [ek] at hk
      obtain ⟨e, he, e1, w, _⟩ := a.right _ hk
      obtain ⟨e2, e3⟩ := ea e he
      refine ⟨e.2.2, ?_, w⟩
      rw [← e3, show r = e.2.1 from e1.symm]
      exact e2
    · obtain ⟨q, hq, e1, w, _⟩ := a.left (t, r, o) (List.mem_filter.mpr ⟨ho, decide_eq_true rfl⟩)
      exact ⟨q.2, by rw [ek, show r = q.1 from e1]; exact hq, w⟩
    · rw [ek] at hp
      obtain ⟨e, he, _, _, b, _⟩ := a.right _ hp
      exact b
    · rw [ek] at hp
      obtain ⟨e, he, e1, _, _, wd, _⟩ := a.right _ hp
      exact ⟨by rw [← e1]; exact (wr.wfe.1 e (ea e he).1).2.2, wd⟩
    · have : wts (L.map fun q => Con.sm q.1 q.2) ≤ (L.map fun q => Con.sm q.1 q.2).length * (wb d + 1) := wts_le fun c hc => by
        obtain ⟨q, hq, rfl⟩ := List.mem_map.mp hc
        obtain ⟨e, he, _, _, _, _, w⟩ := a.right _ hq
        simp only [wt]
        omega
      rw [List.length_map] at this
      have m2 : L.length * (wb d + 1) ≤ 2 * (wb d + 1) := Nat.mul_le_mul_right _ l2
      simp only [wb]
      omega
section
variable {P : Program} {w : World} {K : PySem.W.Frag} {mg : Str → Option Value} {base : Heap}
theorem step_maps {n k : Nat} (D : Df K mg "_law_maps" s__law_maps ["_law_one", "_law_other"]) (T : Tx K mg) (c_l_maps : Cal P w K mg base k "_law_maps" (spMaps n)) : Cal P w K mg base (k + 1) "_law_maps" (spMaps (n + 1)) := by
  refine cal_of D sc__law_maps (fun vs H Q E h => ?_) (fun f cdv A outer s H vs Q E hr h => ?_)
  · obtain ⟨v, u, c, e, m, rfl, _⟩ := h
    rfl
  obtain ⟨v, u, c, e, m, rfl, hv, hu, q⟩ := h
  refine ⟨_, (pss_cons (ps_if (pt_not (pt_val (pe_callB (cr_all rfl) (by rfl) T.all boot_all (pa_cons (pe_lc (own := [("_law_name", 4)]) rfl sc__law_maps.nd (pi_list (pe_ix ix_tup (pv 0) pe_int (fun _ _ => rfl))) (blkOk_by (N := ["_law_one", "_law_other", "_law_role", "_law_node_here", "_law_name", "_law_same", "_law_image"]) (sc := defScope s__law_maps) (own := [("_law_name", 4)]) (by decide +kernel)) (fun _ _ _ _ _ => (pg_name (i := 4) sc__law_maps.nd rfl (.inl rfl))) (fun _ _ _ _ _ => pts_nil) (fun _ _ _ _ _ => (pe_cmpR (op_in_seqB (K := K) rfl) (pv 4) (pe_ix (ix_tupB (K := K) rfl) (pv 1) pe_int (fun _ _ => rfl)) rfl))) pa_nil))))
    (pss_one (ps_ret pe_bl))
    pss_nil)
    (pss_cons (ps_for PassesOwn.never rfl (pi_list (pe_ix ix_tup (pv 0) pe_int (fun _ _ => rfl))) (pg_tup rfl (pgs_cons (pg_name (i := 2) sc__law_maps.nd rfl (.inr rfl)) (pgs_cons (pg_name (i := 3) sc__law_maps.nd rfl (.inr rfl)) pgs_nil)))
    (pss_one (ps_if (pt_not (pt_val (pe_callB (cr_any rfl) (by rfl) T.any boot_any (pa_cons (pe_lc (own := [("_law_same", 5), ("_law_image", 6)]) rfl sc__law_maps.nd (pi_list (pe_ix ix_tup (pv 1) pe_int (fun _ _ => rfl))) (blkOk_by (N := ["_law_one", "_law_other", "_law_role", "_law_node_here", "_law_name", "_law_same", "_law_image"]) (sc := defScope s__law_maps) (own := [("_law_same", 5), ("_law_image", 6)]) (by decide +kernel)) (fun _ _ _ _ _ => (pg_tupB (K := K) (n := 2) rfl rfl (pgs_cons (pg_name (i := 5) sc__law_maps.nd rfl (.inl rfl)) (pgs_cons (pg_name (i := 6) sc__law_maps.nd rfl (.inl rfl)) pgs_nil)))) (fun _ _ _ _ _ => pts_nil) (fun _ _ _ _ _ => (pe_and (pe_cmpR op_eq (pv 2) (pv 5) (nomark _)) (pe_one (pc c_l_maps hr (by rfl) (pa_cons (pv 3) (pa_cons (pv 6) pa_nil))))))) pa_nil))))
    (pss_one (ps_ret pe_bl))
    pss_nil)))
    (pss_one (ps_ret pe_bl)))), ?_⟩
  cases m with
  | zero => exact hu.elim
  | succ m =>
  have hu0 := hu
  obtain ⟨t, nl, bl, ns, ks, rfl, h1, h2, h3, ⟨l1, l2, wc⟩, h5, h6⟩ := hv
  obtain ⟨t', nl', bl', ns', ks', rfl, g1, g2, g3, ⟨m1, m2, we⟩, g5, g6⟩ := hu
  refine ⟨_, rfl, t, _, 0, _, rfl, rfl, SqT.of h1, atI_nat (j := 0) rfl, nl, rfl, ⟨_, SqL.of h2⟩, fun D nD => ?_⟩
  refine lc_list (K := K) (a := nl) (xs := ns.map V.str) (fun i' H' => Same H H' ∧ H' D = some (.lst ((ns.take i').map fun s => V.bl (decide (s ∈ ns'))))) ⟨same_new nD, upd_same⟩ (fun i' H' _ h => SqL.of (h.1 _ _ h2)) ?_ ?_
  · rintro i' v H' hv ⟨sm, hD⟩
    rw [List.getElem?_map] at hv
    obtain ⟨z, hz, rfl⟩ := Option.map_eq_some_iff.mp hv
    have li' := (List.getElem?_eq_some_iff.mp hz).1
    refine ⟨rfl, _, rfl, _, rfl, t', _, 0, _, rfl, rfl, SqT.of (sm _ _ g1), atI_nat (j := 0) rfl, nl', ns'.map V.str, rfl, .inl (SqL.of (sm _ _ g2)), rfl, by simp [flatV], _, hD, by rw [List.length_map, List.length_take]; exact sz_lt (by omega), same_at sm nD, ?_⟩
    rw [upd_same, List.take_add_one, hz, Option.toList_some, List.map_append, if_neg Bool.false_ne_true, inV_strs]
    rfl
  rintro H1 ⟨s1, hD⟩
  rw [List.length_map, List.take_length] at hD
  have hg : (ns.map fun s => decide (s ∈ ns')).all id = true ↔ ∀ s ∈ names c, s ∈ names e := by
    rw [List.all_eq_true]
    constructor
    · intro h s hs
      have := h _ (List.mem_map.mpr ⟨s, (h3 s).mpr hs, rfl⟩)
      exact (g3 s).mp (of_decide_eq_true this)
    · intro h b hb
      obtain ⟨s, hs, rfl⟩ := List.mem_map.mp hb
      exact decide_eq_true ((g3 s).mpr (h s ((h3 s).mp hs)))
  refine ⟨D, ns.map fun s => decide (s ∈ ns'), rfl, by rw [List.map_map]; exact SqL.of hD, ?_⟩
  cases hgood : (ns.map fun s => decide (s ∈ ns')).all id with
  | false =>
    refine ⟨false, rfl, iteT (q H1 false s1 ⟨fun z => (by cases z), fun le => ?_⟩)⟩
    rw [← hgood]
    exact hg.mpr fun s hs => le.nms s hs
  | true =>
    refine ⟨true, rfl, iteF ?_⟩
    have nms := hg.mp hgood
    refine ⟨_, rfl, t, _, 1, _, rfl, rfl, SqT.of (s1 _ _ h1), atI_nat (j := 1) rfl, bl, rfl, ⟨_, SqL.of (s1 _ _ h5)⟩, for_list (K := K) (a := bl) (xs := ks) (fun j σ H' => ∃ y2 y3, σ = [some (.ref t), some (.ref t'), y2, y3, none, none, none] ∧ Same H H' ∧ ∀ q ∈ (kids c).take j, ∃ k, (q.1, k) ∈ kids e ∧ Le k q.2)
      ⟨_, _, rfl, s1, fun q hq => by simp at hq⟩ (fun j σ H' _ ⟨_, _, _, sm, _⟩ => SqL.of (sm _ _ h5)) ?_ ?_⟩
    · rintro j x σ H2 hx ⟨y2, y3, rfl, sm, ok⟩
      obtain ⟨⟨r1, k1⟩, hk, kt, u1, rfl, hkt, ln⟩ := h6.getL hx
      have hmem := List.mem_of_getElem? hk
      refine ⟨kt, _, rfl, SqT.of (sm _ _ hkt), rfl, _, _, rfl, _, _, rfl, rfl, ?_⟩
      refine ⟨_, rfl, t', _, 1, _, rfl, rfl, SqT.of (sm _ _ g1), atI_nat (j := 1) rfl, bl', rfl, ⟨_, SqL.of (sm _ _ g5)⟩, fun D2 nD2 => ?_⟩
      refine lc_list (K := K) (a := bl') (xs := ks') (fun i H' => Same H2 H' ∧ ∃ bs : List Bool, H' D2 = some (.lst (bs.map V.bl)) ∧ bs.length = i ∧ (bs.any id = true ↔ ∃ q ∈ (kids e).take i, q.1 = r1 ∧ Le q.2 k1)) ⟨same_new nD2, [], upd_same, rfl, by simp⟩ (fun i H' _ h => SqL.of (h.1 _ _ (sm _ _ g5))) ?_ ?_
      · rintro i x3 H3 hx3 ⟨sm3, bs, hD3, lb, any_⟩
        obtain ⟨⟨r2, k2⟩, hk2, kt2, u2, rfl, hkt2, ln2⟩ := g6.getL hx3
        have hi := (List.getElem?_eq_some_iff.mp hx3).1
        have s3 := sm.trans sm3
        have tk : (kids e).take (i + 1) = (kids e).take i ++ [(r2, k2)] := by rw [List.take_add_one, hk2, Option.toList_some]
        have put : ∀ (b : Bool) (H4 : Hp), Same H3 H4 → (b = true ↔ (r2 = r1 ∧ Le k2 k1)) → ∃ acc, H4 D2 = some (.lst acc) ∧ acc.length < sizeLine ∧ (Same H2 (upd H4 D2 (.lst (acc ++ [.bl b]))) ∧ ∃ bs : List Bool, (upd H4 D2 (.lst (acc ++ [.bl b]))) D2 = some (.lst (bs.map V.bl)) ∧ bs.length = i + 1 ∧ (bs.any id = true ↔ ∃ q ∈ (kids e).take (i + 1), q.1 = r1 ∧ Le q.2 k1)) := fun b H4 s4 hb => by
          refine ⟨_, s4 _ _ hD3, sz_lt (by rw [List.length_map]; omega), same_at (sm3.trans s4) nD2, bs ++ [b], by rw [upd_same, List.map_append]; rfl, by rw [List.length_append, lb]; rfl, ?_⟩
          rw [List.any_append, Bool.or_eq_true, any_, tk]
          simp only [List.any_cons, List.any_nil, Bool.or_false, id, hb, List.mem_append, List.mem_singleton]
          constructor
          · rintro (⟨q, h1, h2⟩ | h2)
            · exact ⟨q, .inl h1, h2⟩
            · exact ⟨_, .inr rfl, h2⟩
          · rintro ⟨q, h1 | rfl, h2⟩
            · exact .inl ⟨q, h1, h2⟩
            · exact .inr h2
        refine ⟨kt2, _, rfl, SqT.of (s3 _ _ hkt2), rfl, _, _, rfl, _, _, rfl, rfl, rfl, _, rfl, _, rfl, rfl, _, rfl, ?_⟩
        by_cases er : r1 = r2
        · rw [decide_eq_true (congrArg V.str er)]
          exact iteT ⟨_, rfl, _, rfl, u1, u2, k1, k2, m, rfl, ln.same s3, ln2.same s3, fun H4 b s4 iff => put b H4 s4 ⟨fun z => ⟨er.symm, iff.mp z⟩, fun z => iff.mpr z.2⟩⟩
        · rw [decide_eq_false (fun z => er (V.str.inj z))]
          exact iteF (put false H3 (fun _ _ h => h) ⟨fun z => (by cases z), fun z => absurd z.1.symm er⟩)
      · rintro H3 ⟨sm3, bs, hD3, lb, any_⟩
        rw [g6.len, List.take_length] at any_
        have s3 := sm.trans sm3
        refine ⟨D2, bs, rfl, SqL.of hD3, ?_⟩
        cases hany : bs.any id with
        | true =>
          refine ⟨true, rfl, iteF ⟨_, _, rfl, s3, fun q' hq => ?_⟩⟩
          rw [List.take_add_one, hk, Option.toList_some, List.mem_append, List.mem_singleton] at hq
          rcases hq with hq | rfl
          · exact ok q' hq
          · obtain ⟨⟨r2, k2⟩, h1, rfl, h3'⟩ := any_.mp hany
            exact ⟨k2, h1, h3'⟩
        | false =>
          refine ⟨false, rfl, iteT (q H3 false s3 ⟨fun z => (by cases z), fun le => ?_⟩)⟩
          rw [← hany]
          obtain ⟨k2, h1, h2'⟩ := le.kds r1 k1 hmem
          exact any_.mpr ⟨(r1, k2), h1, rfl, h2'⟩
    · rintro σ H2 ⟨y2, y3, rfl, sm, ok⟩
      rw [h6.len, List.take_length] at ok
      exact q H2 true sm ⟨fun _ => le_iff.mpr ⟨nms, fun r k hk => ok (r, k) hk⟩, fun _ => rfl⟩
theorem ok_maps (D : Df K mg "_law_maps" s__law_maps ["_law_one", "_law_other"]) (T : Tx K mg) : ∀ n, Cal P w K mg base n "_law_maps" (spMaps n)
  | 0 => cal_void D fun vs H Q E h => by
    obtain ⟨v, u, c, e, m, _, h, _⟩ := h
    exact h.elim
  | n + 1 => step_maps D T (ok_maps D T n)
theorem ok_plainlyL (D : Df K mg "_law_plainly" s__law_plainly ["_law_concept_here", "_law_other"]) (T : Tx K mg) (c_l_spoilt : Cal P w K mg base 32 "_law_spoilt" (spHasNone K)) (c_l_maps : Cal P w K mg base 31 "_law_maps" (spMaps 31)) (c_l_node : Cal P w K mg base 31 "_law_node" (spNodeL K 31)) : Cal P w K mg base 33 "_law_plainly" (spLies K) := by
  refine cal_of D sc__law_plainly (fun vs H Q E h => ?_) (fun f cdv A outer s H vs Q E hr h => ?_)
  · obtain ⟨v, u, c, e, rfl, _⟩ := h
    rfl
  obtain ⟨v, u, c, e, rfl, hv, hu, gc, ge, q⟩ := h
  refine ⟨_, (pss_cons (ps_if (pt_val (pc c_l_spoilt hr (by rfl) (pa_cons (pv 0) pa_nil)))
    (pss_one (ps_ret pe_bl))
    pss_nil)
    (pss_one (ps_ret (pe_and (pe_not (pc c_l_spoilt hr (by rfl) (pa_cons (pv 1) pa_nil))) (pe_one (pc c_l_maps hr (by rfl) (pa_cons (pc c_l_node hr (by rfl) (pa_cons (pv 1) pa_nil)) (pa_cons (pc c_l_node hr (by rfl) (pa_cons (pv 0) pa_nil)) pa_nil)))))))), ?_⟩
  refine ⟨_, rfl, v, c, rfl, hv, gc, fun H1 s1 => ⟨false, rfl, iteF ?_⟩⟩
  refine ⟨_, rfl, u, e, rfl, cat_same s1 hu, ge, fun H2 s2 => ⟨false, rfl, true, rfl, iteT ?_⟩⟩
  have s12 := s1.trans s2
  have nc := gc.n
  have ne := ge.n
  refine ⟨_, rfl, u, e, rfl, cat_same s12 hu, ge, by omega, fun H3 v3 s3 ln3 => ⟨_, rfl, v, c, rfl, cat_same (s12.trans s3) hv, gc, by omega, fun H4 v4 s4 ln4 => ?_⟩⟩
  exact ⟨v3, v4, e, c, _, rfl, (ln3.same s4).up (by omega), ln4, fun H5 b s5 iff => q H5 b (((s12.trans s3).trans s4).trans s5) iff⟩
theorem step_treeL {n k : Nat} (D : Df K mg "_law_tree" s__law_tree ["_law_rows", "_law_edges", "_law_thing", "_law_depth"]) (T : Tx K mg) (c_l_tree : Cal P w K mg base k "_law_tree" (spTreeL K n)) : Cal P w K mg base (k + 1) "_law_tree" (spTreeL K (n + 1)) := by
  refine cal_of D sc__law_tree (fun vs H Q E h => ?_) (fun f cdv A outer s H vs Q E hr h => ?_)
  · obtain ⟨ra, ea, rvs, rows, xs, es, t, d, rfl, _⟩ := h
    rfl
  obtain ⟨ra, ea, rvs, rows, xs, es, t, d, rfl, hra, hrows, hea, hxs, wr, ht, hd, h4, q⟩ := h
  refine ⟨_, (pss_cons (ps_set (i := 4) sc__law_tree.nd rfl (.inl rfl) (pe_lst pa_nil))
    (pss_cons (ps_if (pt_cmpR op_gt (pv 3) pe_int (nomark _))
    (pss_one (ps_setLc (i := 4) (own := [("_law_edge", 5)]) rfl sc__law_tree.nd rfl rfl (sw_true rfl rfl rfl (by decide +kernel)) (pi_list (pv 1)) (blkOk_by (N := ["_law_rows", "_law_edges", "_law_thing", "_law_depth", "_law_below", "_law_edge"]) (sc := defScope s__law_tree) (own := [("_law_edge", 5)]) (by decide +kernel)) (fun _ _ _ _ _ => (pg_name (i := 5) sc__law_tree.nd rfl (.inl rfl))) (fun _ _ _ _ _ => (pts_one (pt_cmpR op_eq (pe_ix (ix_tupB (K := K) rfl) (pv 5) pe_int (fun _ _ => rfl)) (pv 2) (nomark _)))) (fun _ _ _ _ _ => (pe_tup (pa_cons (pe_ix (ix_tupB (K := K) rfl) (pv 5) pe_int (fun _ _ => rfl)) (pa_cons (pc c_l_tree hr (by rfl) (pa_cons (pv 0) (pa_cons (pv 1) (pa_cons (pe_ix (ix_tupB (K := K) rfl) (pv 5) pe_int (fun _ _ => rfl)) (pa_cons (pe_op op_sub (pv 3) pe_int) pa_nil))))) pa_nil))))))
    pss_nil)
    (pss_one (ps_ret (pe_tup (pa_cons (pe_callTy call_list_of (by rfl) T.list boot_list (pa_cons (pe_ix ix_list (pv 0) (pv 2) (fun _ _ => rfl)) pa_nil)) (pa_cons (pv 4) pa_nil))))))), ?_⟩
  have z3 : ∀ {m : Nat}, m ≤ 3 → m ≤ sizeLine := fun h => sz_le (by omega)
  obtain ⟨row, hrow⟩ : ∃ row, rows[t]? = some row := ⟨rows[t], List.getElem?_eq_getElem ht⟩
  obtain ⟨vb, hvb, b, rfl, hb⟩ := hrows.getR hrow
  have hn3 := wr.three row (List.mem_of_getElem? hrow)
  have hw4 := wb_mono h4
  have wb4 : wb 4 = 3436 := by decide
  have fin : ∀ H2 bl ks (L : List (Str × Con)), Same H H2 → H2 bl = some (.lst ks) → H bl = none → TKids (fun a => H a = none) H2 d ks L → ks.length ≤ 2 → (d = 0 → L = []) → (∀ d', d = d' + 1 → All2 (fun (e : Edge) (q : Str × Con) => e.2.1 = q.1 ∧ IsW rows es d' e.2.2 q.2 ∧ Br d' q.2 ∧ WdN d' q.2 ∧ wt q.2 ≤ wb d') (es.filter fun e => decide (e.1 = t)) L) →
      tRet (tTup (tCons (tCB (fun xs H Q => ∃ p ys, xs = [.ref p] ∧ (SqL K H p ys ∨ SqT K H p ys) ∧ ∀ l, H l = none → Q (.ref l) (upd H l (.lst ys))) (tCons (tOp (rIxL K) (tVar 0) (tVar 2)) tNil)) (tCons (tVar 4) tNil))) { nx := fun _ H' => Q .non H', rt := Q } [some (.ref ra), some (.ref ea), some (.int (t : Nat)), some (.int (d : Nat)), some (.ref bl), none] H2 := by
    intro H2 bl ks L s2 hbl nbl hks lks h0 hd'
    obtain ⟨en, ek, w1, w2, w3, w4, l2⟩ := tree_law wr hrow h0 hd'
    refine ⟨_, rfl, _, rfl, ra, rvs, t, _, rfl, rfl, same_list s2 hra, atI_nat hvb, b, _, rfl, .inr (same_tup s2 hb), fun l nl => ⟨_, rfl, z3 (by simp), fun p np => ?_⟩⟩
    have s3 := (same_new (o := .lst (row.map V.str)) nl).trans (same_new (o := .tup [.ref l, .ref bl]) np)
    have wp := wt_pos (.an (row.map Con.nm ++ L.map fun q => .sm q.1 q.2))
    refine q _ _ _ (s2.trans s3) ⟨p, l, bl, row, ks, rfl, upd_same, (same_new np) _ _ upd_same, fun s => by rw [en], ⟨by omega, by omega, by omega⟩, s3 _ _ hbl, s2.free nl, nbl, ?_⟩ w1 w2 w3 w4
    rw [ek]
    exact hks.keep (fun _ _ h => s3 _ _ h) fun a xs n h => ⟨n, s3 _ _ h⟩
  refine ⟨Nat.zero_le _, fun b0 nb0 => ?_⟩
  have s1 : Same H (upd H b0 (.lst [])) := same_new nb0
  have b1 : (upd H b0 (.lst [])) b0 = some (.lst []) := upd_same
  generalize upd H b0 (.lst []) = H1 at s1 b1 ⊢
  cases d with
  | zero =>
    refine ⟨_, rfl, _, _, rfl, rfl, false, rfl, iteF ?_⟩
    exact fin H1 b0 [] [] s1 b1 nb0 .nil (Nat.zero_le _) (fun _ => rfl) fun d' e => by cases e
  | succ d =>
    refine ⟨_, rfl, _, _, rfl, rfl, true, congrArg V.bl (decide_eq_true (by omega)), iteT ?_⟩
    have few : es.length ≤ 1000 := wr.wfe.2.2
    have lx := hxs.len
    refine ⟨_, rfl, ea, rfl, ⟨_, same_list s1 hea⟩, fun D nD => ?_⟩
    refine lc_list (K := K) (a := ea) (xs := xs) (fun j H' => Same H1 H' ∧ ∃ ks, ∃ L : List (Str × Con), H' D = some (.lst ks) ∧ ks.length ≤ j ∧ TKids (fun a => H a = none ∧ a ≠ D) H' (d + 1) ks L ∧
      All2 (fun (e : Edge) (q : Str × Con) => e.2.1 = q.1 ∧ IsW rows es d e.2.2 q.2 ∧ Br d q.2 ∧ WdN d q.2 ∧ wt q.2 ≤ wb d) ((es.take j).filter fun e => decide (e.1 = t)) L) ⟨same_new nD, [], [], upd_same, Nat.le_refl _, .nil, .nil⟩ (fun j H' _ h => same_list (s1.trans h.1) hea) ?_ ?_
    · rintro j x H2 hx ⟨sm, ks, L, hD, lk, hks, hL⟩
      obtain ⟨e, he, hxe⟩ := hxs.getL hx
      have hj := (List.getElem?_eq_some_iff.mp he).1
      obtain ⟨e1, e2, e3⟩ := wr.wfe.1 e (List.mem_of_getElem? he)
      have s2 := s1.trans sm
      obtain ⟨b5, rfl, hb5⟩ := of_eat (eat_same s2 hxe)
      have tk : es.take (j + 1) = es.take j ++ [e] := by rw [List.take_add_one, he, Option.toList_some]
      refine ⟨rfl, _, rfl, b5, _, 0, _, rfl, rfl, hb5, atI_nat (j := 0) rfl, _, rfl, rfl, _, rfl, ?_⟩
      by_cases et : e.1 = t
      · rw [decide_eq_true (show V.int (e.1 : Int) = V.int (t : Int) by rw [et])]
        have fl : (es.take (j + 1)).filter (fun e => decide (e.1 = t)) = (es.take j).filter (fun e => decide (e.1 = t)) ++ [e] := by rw [tk, List.filter_append]; simp [et]
        refine iteT ⟨_, rfl, b5, _, 1, _, rfl, rfl, hb5, atI_nat (j := 1) rfl, _, rfl, _, rfl, _, rfl, b5, _, 2, _, rfl, rfl, hb5, atI_nat (j := 2) rfl, _, rfl, _, 1, rfl, rfl, ra, ea, rvs, rows, xs, es, e.2.2, d, ?_, same_list s2 hra, hrows.imp fun _ _ h => row_tk (same_tk s2) h, same_list s2 hea, hxs.imp fun _ _ h => eat_same s2 h, wr, e2, by omega, by omega, fun H3 v3 c3 s3 ln3 w1 w2 w3 w4 => ⟨z3 (by simp), fun kt nkt => ?_⟩⟩
        · show [V.ref ra, V.ref ea, V.int _, V.int (((d + 1 : Nat) : Int) - 1)] = _
          rw [show ((d + 1 : Nat) : Int) - 1 = (d : Nat) by omega]
        · have s4 : Same H3 (upd H3 kt (.tup [.str e.2.1, v3])) := same_new nkt
          have kt4 : (upd H3 kt (.tup [.str e.2.1, v3])) kt = some (.tup [.str e.2.1, v3]) := upd_same
          generalize upd H3 kt (.tup [.str e.2.1, v3]) = H4 at s4 kt4 ⊢
          have s24 := s3.trans s4
          have D4 := s24 _ _ hD
          refine ⟨ks, D4, sz_lt (by omega), same_at (sm.trans s24) nD, ks ++ [.ref kt], L ++ [(e.2.1, c3)], upd_same, by rw [List.length_append]; exact Nat.add_le_add_right lk 1, ?_, ?_⟩
          · have tD : TupH H4 (upd H4 D (.lst (ks ++ [.ref kt]))) := fun a xs h => by rw [upd_ne (ne_of h D4 (fun z => by cases z))]; exact h
            refine All2.snoc (TKids.keep (fun a xs h => tD _ _ (s24 _ _ h)) (fun a xs n h => ⟨n, by rw [upd_ne n.2]; exact s24 _ _ h⟩) hks) ⟨kt, v3, rfl, tD _ _ kt4, ln3.keep (fun a xs h => tD _ _ (s4 _ _ h)) fun a xs n h => ?_⟩
            have na : a ≠ D := fun z => by rw [z, hD] at n; cases n
            exact ⟨⟨s2.free n, na⟩, by rw [upd_ne na]; exact s4 _ _ h⟩
          · rw [fl]
            exact hL.snoc ⟨rfl, w1, w2, w3, w4⟩
      · rw [decide_eq_false (fun z => et (by have := V.int.inj z; omega))]
        refine iteF ⟨sm, ks, L, hD, by omega, hks, ?_⟩
        rw [tk, List.filter_append]
        simpa [et] using hL
    · rintro H2 ⟨sm, ks, L, hD, lk, hks, hL⟩
      rw [lx, List.take_length] at hL
      have l2 : L.length ≤ 2 := by rw [← hL.len]; exact wr.two t
      have lkk := hks.len
      exact fin H2 D ks L (s1.trans sm) hD (s1.free nD) (TKids.keep (fun _ _ h => h) (fun a xs n h => ⟨n.1, h⟩) hks) (by omega) (fun z => by cases z) fun d' e => by cases e; exact hL
theorem ok_treeL (D : Df K mg "_law_tree" s__law_tree ["_law_rows", "_law_edges", "_law_thing", "_law_depth"]) (T : Tx K mg) : ∀ n, Cal P w K mg base n "_law_tree" (spTreeL K n)
  | 0 => cal_void D fun vs H Q E h => by
    obtain ⟨ra, ea, rvs, rows, xs, es, t, d, _, _, _, _, _, _, _, h, _⟩ := h
    exact absurd h (Nat.not_lt_zero _)
  | n + 1 => step_treeL D T (ok_treeL D T n)
end
end K77
end

section
set_option Elab.async false
set_option linter.all false
set_option maxRecDepth 100000
set_option maxHeartbeats 4000000
/-! the law's written form -/
namespace K77
open PySem PySem.Spec PyProof.Rows L2
abbrev s__law_written : Stmt := top 63
theorem sc__law_written : FnScope ["_law_one", "_law_somes", "_law_role", "_law_node_here", "_law_item", "_law_kept", "_law_over", "_law_some", "_law_items", "_law_key", "_law_other"] ["_law_one"] (defScope s__law_written) := ⟨rfl, rfl, rfl, by decide +kernel, rfl, by decide +kernel, by decide +kernel⟩
def spWrittenL (K : PySem.W.Frag) (m : Nat) : Sp := fun vs H Q _ => ∃ v c, ∃ n : Nat, vs = [v] ∧ n < m ∧ n ≤ 4 ∧ LNode H (n + 1) v c ∧ Br n c ∧ WdN n c ∧ ∀ H' u x, Same H H' → CAt K H' u x → IsRed (n + 1) c x → Q u H'
theorem mkc_two : ∀ {m : List Con}, 2 ≤ m.length → mkc m = .an m
  | [], h => absurd h (by decide)
  | [_], h => absurd h (by simp)
  | _ :: _ :: _, _ => rfl
section
variable {P : Program} {w : World} {K : PySem.W.Frag} {mg : Str → Option Value} {base : Heap}
theorem step_writtenL {m k : Nat} (D : Df K mg "_law_written" s__law_written ["_law_one"]) (T : Tx K mg) (c_l_text : Cal P w K mg base k "_law_text" (spText K 31)) (c_l_plainly : Cal P w K mg base k "_law_plainly" (spLies K)) (c_l_written : Cal P w K mg base k "_law_written" (spWrittenL K m)) :
    Cal P w K mg base (k + 1) "_law_written" (spWrittenL K (m + 1)) := by
  refine cal_of D sc__law_written (fun vs H Q E h => ?_) (fun f cdv A outer s H vs Q E hr h => ?_)
  · obtain ⟨v, c, n, rfl, _⟩ := h
    rfl
  obtain ⟨v, c, n, rfl, hn, h4, node, br, wd, q⟩ := h
  have hu := hu_of hr
  refine ⟨_, (pss_cons (ps_set (i := 1) sc__law_written.nd rfl (.inl rfl) (pe_lst pa_nil))
    (pss_cons (ps_for PassesOwn.never rfl (pi_list (pe_ix ix_tup (pv 0) pe_int (fun _ _ => rfl))) (pg_tup rfl (pgs_cons (pg_name (i := 2) sc__law_written.nd rfl (.inl rfl)) (pgs_cons (pg_name (i := 3) sc__law_written.nd rfl (.inl rfl)) pgs_nil)))
    (pss_cons (ps_set (i := 4) sc__law_written.nd rfl (.inr rfl) (pe_tup (pa_cons pe_str (pa_cons (pv 2) (pa_cons (pc c_l_written hr (by rfl) (pa_cons (pv 3) pa_nil)) pa_nil)))))
    (pss_one (ps_if (pt_cmpR (op_notInD (units65 hr)) (pv 4) (pv 1) rfl)
    (pss_one (ps_expr (pe_bm PySem.F.plainAttrs_list PySem.F.slot_list_append PySem.F.type_list_append mt_append (pv 1) (pa_cons (pv 4) pa_nil))))
    pss_nil))))
    (pss_cons (ps_set (i := 5) sc__law_written.nd rfl (.inl rfl) (pe_lst pa_nil))
    (pss_cons (ps_for PassesOwn.never rfl (pi_list (pv 1)) (pg_name (i := 4) sc__law_written.nd rfl (.inr rfl))
    (pss_cons (ps_setLc (i := 6) (own := [("_law_other", 10)]) rfl sc__law_written.nd rfl rfl (sw_true rfl rfl rfl (by decide +kernel)) (pi_list (pv 1)) (blkOk_by (N := ["_law_one", "_law_somes", "_law_role", "_law_node_here", "_law_item", "_law_kept", "_law_over", "_law_some", "_law_items", "_law_key", "_law_other"]) (sc := defScope s__law_written) (own := [("_law_other", 10)]) (by decide +kernel)) (fun _ _ _ _ _ => (pg_name (i := 10) sc__law_written.nd rfl (.inl rfl))) (fun _ _ _ _ _ => (pts_one (PW.pt (pw_and (pt_cmpR (op_neDB (K := K) rfl hr.units) (pv 10) (pv 4) (nomark _)) (pw_and (pt_cmpR op_eq (pe_ix (ix_tupB (K := K) rfl) (pv 10) pe_int (fun _ _ => rfl)) (pe_ix (ix_tupB (K := K) rfl) (pv 4) pe_int (fun _ _ => rfl)) (nomark _)) (pw_and1 (pt_val (pc c_l_plainly hr (by rfl) (pa_cons (pe_ix (ix_tupB (K := K) rfl) (pv 10) pe_int (fun _ _ => rfl)) (pa_cons (pe_ix (ix_tupB (K := K) rfl) (pv 4) pe_int (fun _ _ => rfl)) pa_nil)))))))))) (fun _ _ _ _ _ => (pv 10)))
    (pss_one (ps_if (pt_cmpR (op_eqD hr.units) (pv 6) (pe_lst pa_nil) (nomark _))
    (pss_one (ps_expr (pe_bm PySem.F.plainAttrs_list PySem.F.slot_list_append PySem.F.type_list_append mt_append (pv 5) (pa_cons (pv 4) pa_nil))))
    pss_nil))))
    (pss_cons (ps_set (i := 7) sc__law_written.nd rfl (.inr rfl) pe_dnewK)
    (pss_cons (ps_for PassesOwn.never rfl (pi_list (pe_op op_cat (pe_ix ix_tup (pv 0) pe_int (fun _ _ => rfl)) (pv 5))) (pg_name (i := 4) sc__law_written.nd rfl (.inr rfl))
    (pss_one (ps_dput hu (pv 7) (pc c_l_text hr (by rfl) (pa_cons (pv 4) pa_nil)) (pv 4) rfl)))
    (pss_cons (ps_setLc (i := 8) (own := [("_law_key", 9)]) rfl sc__law_written.nd rfl rfl (sw_true rfl rfl rfl (by decide +kernel)) (pi_list (pe_callB (cr_sortedKs rfl) (by rfl) T.sorted boot_sorted (pa_cons (pv 7) pa_nil))) (blkOk_by (N := ["_law_one", "_law_somes", "_law_role", "_law_node_here", "_law_item", "_law_kept", "_law_over", "_law_some", "_law_items", "_law_key", "_law_other"]) (sc := defScope s__law_written) (own := [("_law_key", 9)]) (by decide +kernel)) (fun _ _ _ _ _ => (pg_name (i := 9) sc__law_written.nd rfl (.inl rfl))) (fun _ _ _ _ _ => pts_nil) (fun _ _ _ _ _ => (pe_dget hu (pv 7) (pv 9) (fun _ _ => rfl))))
    (pss_cons (ps_if (pt_cmpR op_lt (pe_callB call_len (by rfl) T.len PySem.boot_len (pa_cons (pv 8) pa_nil)) pe_int (nomark _))
    (pss_one (ps_ret (pe_ifExp (pt_cmpR (op_neD hr.units) (pv 8) (pe_lst pa_nil) (nomark _)) (pe_ix ix_list (pv 8) pe_int (fun _ _ => rfl)) pe_str)))
    pss_nil)
    (pss_one (ps_ret (pe_op op_catA (pe_tup (pa_cons pe_str pa_nil)) (pe_callTy call_tuple_of (by rfl) T.tuple boot_tuple (pa_cons (pv 8) pa_nil))))))))))))), ?_⟩
  obtain ⟨t, nl, bl, ns, ks, rfl, g1, g2, g3, ⟨g4, g5, gw⟩, g8, g9⟩ := node
  refine ⟨Nat.zero_le _, fun F nF => ?_⟩
  have s1 : Same H (upd H F (.lst [])) := same_new nF
  have F1 : (upd H F (.lst [])) F = some (.lst []) := upd_same
  generalize upd H F (.lst []) = H1 at s1 F1 ⊢
  have sbs : ∀ {H'}, SB F H1 H' → Same H H' := fun sb b o hb => sb _ _ (s1 _ _ hb) (ne_of_none hb nF)
  have few := br.few
  have lk0 : ks.length ≤ 2 := by rw [g9.len]; exact few.2
  refine ⟨_, rfl, t, _, 1, _, rfl, rfl, SqT.of (s1 _ _ g1), atI_nat (j := 1) rfl, bl, rfl, ⟨_, SqL.of (s1 _ _ g8)⟩, ?_⟩
  refine for_list (K := K) (a := bl) (xs := ks) (fun i' σ H' => ∃ y z y4 ws M, ∃ L : List (Str × Con), σ = [some (.ref t), some (.ref F), y, z, y4, none, none, none, none, none, none] ∧ SB F H1 H' ∧ H' F = some (.lst ws) ∧ CsAt K H' ws M ∧ M.Nodup ∧
    All2 (fun (q : Str × Con) (x : Str × Con) => q.1 = x.1 ∧ IsRed n q.2 x.2) ((kids c).take i') L ∧ (∀ x, x ∈ M ↔ ∃ r y, x = .sm r y ∧ (r, y) ∈ L) ∧ (∀ x ∈ M, Sml x) ∧ ws.length ≤ i')
    ⟨_, _, _, [], [], [], rfl, SB.refl _ _, F1, .nil, List.nodup_nil, .nil, fun x => by simp, (fun x hx => nomatch hx), Nat.le_refl _⟩ (fun i' σ H' _ ⟨_, _, _, _, _, _, _, sb, _⟩ => SqL.of (sbs sb _ _ g8)) ?_ ?_
  · rintro i' x σ H' hx ⟨y, z, y4, ws, M, L, rfl, sb, hF, itm, nodup, hL, mM, sM, lk⟩
    obtain ⟨⟨r2, k2⟩, hk, kt, u2, rfl, hkt, no⟩ := g9.getL hx
    have hmem := List.mem_of_getElem? hk
    obtain ⟨n', rfl, brk⟩ := br.kid _ hmem
    obtain ⟨wr, wk⟩ := wd.kid _ hmem
    have lo := (List.getElem?_eq_some_iff.mp hx).1
    have s' := sbs sb
    refine ⟨kt, _, rfl, SqT.of (s' _ _ hkt), rfl, _, _, rfl, _, _, rfl, rfl, ?_⟩
    refine ⟨_, rfl, _, rfl, u2, k2, n', rfl, by omega, by omega, no.same s', brk, wk, fun H2 u y' s2 cu red => ⟨sz_le (Nat.le_trans (by decide : 3 ≤ 4) (by decide)), fun it nit => ?_⟩⟩
    have smy : Sml (.sm r2 y') := sml_sm (by omega) brk wk red wr
    have ci : CAt K (upd H2 it (.tup [.str "some", .str r2, u])) (.ref it) (.sm r2 y') := cat_sm (SqT.of upd_same) (cat_same (same_new nit) cu)
    have s3 : Same H' (upd H2 it (.tup [.str "some", .str r2, u])) := s2.trans (same_new nit)
    generalize upd H2 it (.tup [.str "some", .str r2, u]) = H3 at ci s3 ⊢
    have F3 := s3 _ _ hF
    have itm3 := cs_same s3 itm
    have lM := itm.len
    have hL' : All2 (fun (q : Str × Con) (x : Str × Con) => q.1 = x.1 ∧ IsRed (n' + 1) q.2 x.2) ((kids c).take (i' + 1)) (L ++ [(r2, y')]) := by
      rw [List.take_add_one, hk, Option.toList_some]
      exact hL.snoc ⟨rfl, red⟩
    have e2 := any_con (cs := M) (c := .sm r2 y') (fun d hd => (sM d hd).g) smy.g
    refine ⟨_, rfl, _, rfl, dat (.sm r2 y'), dats M, ci, .lst (.inl (.inl F3)) (cs_dp itm3), shaped_con smy.g (by have := smy.n; omega), shaped_list sM, _, rfl, ?_⟩
    by_cases hm : Con.sm r2 y' ∈ M
    · rw [show ((dats M).any fun z => PyData.eqv z (dat (.sm r2 y'))) = true from e2.mpr hm]
      refine iteF ⟨_, _, _, ws, M, L ++ [(r2, y')], rfl, sb.trans (SB.of s3), F3, itm3, nodup, hL', fun x => ?_, sM, by omega⟩
      rw [mM]
      constructor
      · rintro ⟨r, y, e, h⟩
        exact ⟨r, y, e, List.mem_append_left _ h⟩
      · rintro ⟨r, y, rfl, h⟩
        rcases List.mem_append.mp h with h | h
        · exact ⟨r, y, rfl, h⟩
        · cases List.mem_singleton.mp h
          exact (mM _).mp hm
    · rw [show ((dats M).any fun z => PyData.eqv z (dat (.sm r2 y'))) = false from Bool.eq_false_iff.mpr fun z => hm (e2.mp z)]
      have tk := upd_tk (K := K) (o' := .lst (ws ++ [.ref it])) F3 (fun ys e => by cases e) (fun u ys e => by cases e)
      refine iteT ⟨_, rfl, .inl ⟨rfl, ws, SqL.of F3⟩, _, rfl, F, ws, _, rfl, rfl, F3, sz_lt (by omega), _, _, _, ws ++ [.ref it], M ++ [.sm r2 y'], L ++ [(r2, y')], rfl, (sb.trans (SB.of s3)).trans SB.upd, upd_same, (itm3.imp fun _ _ h => cat_tk tk _ _ h).snoc (cat_tk tk _ _ ci), List.nodup_append.mpr ⟨nodup, by simp, fun a ha b hb => ?_⟩, hL', fun x => ?_, fun x hx => ?_, by rw [List.length_append]; exact Nat.add_le_add_right lk 1⟩
      · rw [List.mem_singleton.mp hb]
        exact fun e => hm (e ▸ ha)
      · rw [List.mem_append, List.mem_singleton, mM]
        constructor
        · rintro (⟨r, y, e, h⟩ | rfl)
          · exact ⟨r, y, e, List.mem_append_left _ h⟩
          · exact ⟨_, _, rfl, List.mem_append_right _ (List.mem_singleton.mpr rfl)⟩
        · rintro ⟨r, y, rfl, h⟩
          rcases List.mem_append.mp h with h | h
          · exact .inl ⟨r, y, rfl, h⟩
          · cases List.mem_singleton.mp h
            exact .inr rfl
      · rcases List.mem_append.mp hx with h | h
        · exact sM x h
        · rw [List.mem_singleton.mp h]; exact smy
  rintro σ H2 ⟨y, z, y4, ws, M, L, rfl, sb, hF, itm, nodup, hL, mM, sM, lk⟩
  rw [g9.len, List.take_length] at hL
  have lk2 : ws.length ≤ 2 := by omega
  have lM := itm.len
  have s2 := sbs sb
  -- the kept
  refine ⟨Nat.zero_le _, fun G nG => ?_⟩
  have s3 : Same H2 (upd H2 G (.lst [])) := same_new nG
  have G3 : (upd H2 G (.lst [])) G = some (.lst []) := upd_same
  have FG : F ≠ G := ne_of_none hF nG
  generalize upd H2 G (.lst []) = H3 at s3 G3 ⊢
  have F3 := s3 _ _ hF
  have itm3 := cs_same s3 itm
  have nGH : H G = none := s2.free nG
  refine ⟨_, rfl, F, rfl, ⟨_, SqL.of F3⟩, ?_⟩
  refine for_list (K := K) (a := F) (xs := ws) (fun i' σ H' => ∃ y z y4 y6 us M2, σ = [some (.ref t), some (.ref F), y, z, y4, some (.ref G), y6, none, none, none, none] ∧ SB G H3 H' ∧ H' G = some (.lst us) ∧ CsAt K H' us M2 ∧
    (∀ x, x ∈ M2 ↔ (x ∈ M.take i' ∧ ∃ r y, x = .sm r y ∧ ∀ y', (r, y') ∈ L → Le y' y → y' = y)) ∧ us.length ≤ i')
    ⟨_, _, _, _, [], [], rfl, SB.refl _ _, G3, .nil, fun x => by simp, Nat.le_refl _⟩ (fun i' σ H' _ ⟨_, _, _, _, _, _, _, sb, _⟩ => SqL.of (sb _ _ F3 FG)) ?_ ?_
  · rintro i' x σ H4 hx ⟨y, z, y4, y6, us, M2, rfl, sb4, hG4, itm4, mM2, lk4⟩
    have F4 := sb4 _ _ F3 FG
    have tkG : TupK K H3 H4 := sb_tko sb4 G3 (fun ys e => by cases e) (fun u ys e => by cases e)
    have itmF : CsAt K H4 ws M := itm3.imp fun _ _ h => cat_tk tkG _ _ h
    obtain ⟨x0, hx0, c0⟩ := itmF.getL hx
    have m0 : x0 ∈ M := List.mem_of_getElem? hx0
    have li' := (List.getElem?_eq_some_iff.mp hx).1
    have g0 := sM x0 m0
    obtain ⟨r0, y0, rfl, hL0⟩ := (mM x0).mp m0
    obtain ⟨b0, u0, rfl, hb0, cu0⟩ := of_sm c0
    have tk0 : M.take (i' + 1) = M.take i' ++ [.sm r0 y0] := by rw [List.take_add_one, hx0, Option.toList_some]
    refine ⟨_, rfl, F, rfl, ⟨_, SqL.of F4⟩, fun D2 nD2 => ?_⟩
    refine lc_list (K := K) (a := F) (xs := ws) (fun j H' => Same H4 H' ∧ ∃ os Os, H' D2 = some (.lst os) ∧ CsAt K H' os Os ∧ (∀ d ∈ Os, Sml d) ∧ os.length ≤ j ∧ (Os ≠ [] ↔ ∃ y', Con.sm r0 y' ∈ M.take j ∧ y' ≠ y0 ∧ Le y' y0)) ⟨same_new nD2, [], [], upd_same, .nil, (fun x hx => nomatch hx), Nat.le_refl _, by simp⟩ (fun j H' _ h => SqL.of (h.1 _ _ F4)) ?_ ?_
    · rintro j xx H6 hj ⟨sm6, os, Os, hD6, hOs, sOs, lo, iff6⟩
      obtain ⟨x1, hx1, c1'⟩ := itmF.getL hj
      have c1 := cat_same sm6 c1'
      have m1 : x1 ∈ M := List.mem_of_getElem? hx1
      have lj := (List.getElem?_eq_some_iff.mp hj).1
      have g1' := sM x1 m1
      obtain ⟨r1, y1, rfl, hL1⟩ := (mM x1).mp m1
      obtain ⟨b1, u1, rfl, hb1, cu1⟩ := of_sm c1
      have hb06 := same_tup sm6 hb0
      have cu06 := cat_same sm6 cu0
      have tk1 : M.take (j + 1) = M.take j ++ [.sm r1 y1] := by rw [List.take_add_one, hx1, Option.toList_some]
      have e1 := eqv_con (.sm r1 y1) g1'.g (.sm r0 y0) g0.g
      have no : ¬ (r1 = r0 ∧ y1 ≠ y0 ∧ Le y1 y0) → (Os ≠ [] ↔ ∃ y', Con.sm r0 y' ∈ M.take (j + 1) ∧ y' ≠ y0 ∧ Le y' y0) := fun hb => by
        rw [iff6, tk1]
        constructor
        · rintro ⟨y', h1, h2⟩
          exact ⟨y', List.mem_append_left _ h1, h2⟩
        · rintro ⟨y', h1, h2⟩
          rcases List.mem_append.mp h1 with h1 | h1
          · exact ⟨y', h1, h2⟩
          · cases List.mem_singleton.mp h1
            exact absurd ⟨rfl, h2⟩ hb
      have lay : ∀ (b : Bool) (H8 : Hp), Same H6 H8 → (b = true ↔ (r1 = r0 ∧ y1 ≠ y0 ∧ Le y1 y0)) → b = false → (Same H4 H8 ∧ ∃ os Os, H8 D2 = some (.lst os) ∧ CsAt K H8 os Os ∧ (∀ d ∈ Os, Sml d) ∧ os.length ≤ j + 1 ∧ (Os ≠ [] ↔ ∃ y', Con.sm r0 y' ∈ M.take (j + 1) ∧ y' ≠ y0 ∧ Le y' y0)) := fun b H8 s8 iff hb =>
        ⟨sm6.trans s8, os, Os, s8 _ _ hD6, cs_same s8 hOs, sOs, Nat.le_succ_of_le lo, no fun z => by rw [iff.mpr z] at hb; cases hb⟩
      refine ⟨rfl, _, rfl, _, rfl, dat (.sm r1 y1), dat (.sm r0 y0), c1, cat_same sm6 c0, shaped_con g1'.g (by have := g1'.n; omega), shaped_con g0.g (by have := g0.n; omega), _, rfl, ?_⟩
      by_cases same : Con.sm r1 y1 = .sm r0 y0
      · rw [show PyData.eqv (dat (.sm r1 y1)) (dat (.sm r0 y0)) = true from e1.mpr same]
        exact iteF (iteF (lay false H6 (fun _ _ h => h) ⟨fun z => (by cases z), fun z => absurd (by cases same; rfl) z.2.1⟩ rfl))
      rw [show PyData.eqv (dat (.sm r1 y1)) (dat (.sm r0 y0)) = false from Bool.eq_false_iff.mpr fun z => same (e1.mp z)]
      refine iteT ⟨_, rfl, b1, _, 1, _, rfl, rfl, hb1, atI_nat (j := 1) rfl, _, rfl, b0, _, 1, _, rfl, rfl, hb06, atI_nat (j := 1) rfl, rfl, _, rfl, ?_⟩
      by_cases er : r1 = r0
      · rw [decide_eq_true (congrArg V.str er)]
        refine iteT ⟨_, rfl, b1, _, 2, _, rfl, rfl, hb1, atI_nat (j := 2) rfl, _, rfl, b0, _, 2, _, rfl, rfl, hb06, atI_nat (j := 2) rfl, u1, u0, y1, y0, rfl, cu1, cu06, g1'.kid (r := r1) (by simp [kids, cj, smOf, List.filterMap]), g0.kid (r := r0) (by simp [kids, cj, smOf, List.filterMap]), fun H8 bb s8 iff => ⟨bb, rfl, ?_⟩⟩
        have iff' : bb = true ↔ (r1 = r0 ∧ y1 ≠ y0 ∧ Le y1 y0) := ⟨fun z => ⟨er, fun z' => same (by rw [er, z']), iff.mp z⟩, fun z => iff.mpr z.2.2⟩
        cases hbb : bb with
        | false => exact iteF (lay bb H8 s8 iff' hbb)
        | true =>
          obtain ⟨_, z2, z3⟩ := iff'.mp hbb
          have D8 := s8 _ _ hD6
          have tk := upd_tk (K := K) (o' := .lst (os ++ [.ref b1])) D8 (fun ys e => by cases e) (fun u ys e => by cases e)
          refine iteT ⟨_, rfl, os, D8, sz_lt (by omega), same_at (sm6.trans s8) nD2, os ++ [.ref b1], Os ++ [.sm r1 y1], upd_same, (hOs.imp fun _ _ h => cat_tk tk _ _ (cat_same s8 h)).snoc (cat_tk tk _ _ (cat_same s8 c1)), fun d hd => ?_, by rw [List.length_append]; exact Nat.add_le_add_right lo 1, ⟨fun _ => ⟨y1, ?_, z2, z3⟩, fun _ => by simp⟩⟩
          · rcases List.mem_append.mp hd with h | h
            · exact sOs d h
            · rw [List.mem_singleton.mp h]; exact g1'
          · rw [tk1, er]
            exact List.mem_append_right _ (List.mem_singleton.mpr rfl)
      · rw [decide_eq_false (fun z => er (V.str.inj z))]
        exact iteF (iteF (lay false H6 (fun _ _ h => h) ⟨fun z => (by cases z), fun z => absurd z.1 er⟩ rfl))
    · rintro H6 ⟨sm6, os, Os, hD6, hOs, sOs, lo, iff6⟩
      rw [lM, List.take_length] at iff6
      have keep : Os = [] ↔ ∀ y', (r0, y') ∈ L → Le y' y0 → y' = y0 := by
        constructor
        · intro h y' h1 h2
          exact Classical.byContradiction fun n => (iff6.mpr ⟨y', (mM _).mpr ⟨r0, y', rfl, h1⟩, n, h2⟩) h
        · intro h
          exact Classical.byContradiction fun n => by
            obtain ⟨y', h1, h2, h3⟩ := iff6.mp n
            obtain ⟨r', y'', e, hl⟩ := (mM _).mp h1
            cases e
            exact h2 (h y' hl h3)
      refine ⟨_, rfl, Nat.zero_le _, fun p np => ⟨_, _, .lst (.inl (.inl (by rw [upd_ne (ne_of_none hD6 np)]; exact hD6))) (cs_dp (cs_same (same_new np) hOs)), .lst (.inl (.inl upd_same)) .nil, shaped_list sOs, by decide +kernel, _, rfl, ?_⟩⟩
      have s7 := sm6.trans (same_new (o := .lst []) np)
      generalize upd H6 p (.lst []) = H7 at s7 ⊢
      have G7 := s7 _ _ hG4
      have itm7 := cs_same s7 itm4
      cases Os with
      | nil =>
        rw [show PyData.eqv (.list (dats [])) (.list []) = true by decide +kernel]
        have tk := upd_tk (K := K) (o' := .lst (us ++ [.ref b0])) G7 (fun ys e => by cases e) (fun u ys e => by cases e)
        refine iteT ⟨_, rfl, .inl ⟨rfl, us, SqL.of G7⟩, _, rfl, G, us, _, rfl, rfl, G7, sz_lt (by omega), _, _, _, _, us ++ [.ref b0], M2 ++ [.sm r0 y0], rfl, (sb4.trans (SB.of s7)).trans SB.upd, upd_same, (itm7.imp fun _ _ h => cat_tk tk _ _ h).snoc (cat_tk tk _ _ (cat_same s7 c0)), fun x => ?_, by rw [List.length_append]; exact Nat.add_le_add_right lk4 1⟩
        rw [List.mem_append, List.mem_singleton, mM2, tk0]
        constructor
        · rintro (⟨h1, h2⟩ | rfl)
          · exact ⟨List.mem_append_left _ h1, h2⟩
          · exact ⟨List.mem_append_right _ (List.mem_singleton.mpr rfl), r0, y0, rfl, keep.mp rfl⟩
        · rintro ⟨h1, h2⟩
          rcases List.mem_append.mp h1 with h1 | h1
          · exact .inl ⟨h1, h2⟩
          · exact .inr (List.mem_singleton.mp h1)
      | cons d r =>
        rw [show PyData.eqv (.list (dats (d :: r))) (.list []) = false by simp [dats, PyData.eqv, PyData.eqvAll]]
        refine iteF ⟨_, _, _, _, us, M2, rfl, sb4.trans (SB.of s7), G7, itm7, fun x => ?_, by omega⟩
        rw [mM2, tk0]
        constructor
        · rintro ⟨h1, h2⟩
          exact ⟨List.mem_append_left _ h1, h2⟩
        · rintro ⟨h1, h2⟩
          rcases List.mem_append.mp h1 with h1 | h1
          · exact ⟨h1, h2⟩
          · cases List.mem_singleton.mp h1
            obtain ⟨r', y', e, h3⟩ := h2
            cases e
            have := keep.mpr h3
            cases this
  rintro σ H4 ⟨y, z, y4, y6, us, M2, rfl, sb4, hG4, itm4, mM2, lk4⟩
  rw [lM, List.take_length] at mM2
  have s4 : Same H H4 := fun b o hb => sb4 _ _ (s3 _ _ (s2 _ _ hb)) (ne_of_none hb nGH)
  have hal : All2 (CAt K H4) (ns.map V.str ++ us) (ns.map Con.nm ++ M2) := by
    refine All2.app ?_ itm4
    have : ∀ l : List Str, All2 (CAt K H4) (l.map V.str) (l.map Con.nm) := fun l => by
      induction l with
      | nil => exact .nil
      | cons x r ih => exact .cons cat_nm ih
    exact this ns
  have sA : ∀ x ∈ ns.map Con.nm ++ M2, Sml x := fun x hx => by
    rcases List.mem_append.mp hx with h | h
    · obtain ⟨s, hs, rfl⟩ := List.mem_map.mp h
      exact ⟨wd.nms s ((g3 s).mp hs), by simp [nest], by simp [wt]⟩
    · exact sM x ((mM2 x).mp h).1
  have la := hal.len
  have lA : (ns.map V.str ++ us).length ≤ 4 * 4000 + 2 := by
    rw [List.length_append, List.length_map]
    omega
  intro d nd
  have s5 : Same H4 (upd H4 d (.dK [])) := same_new nd
  have d5 : (upd H4 d (.dK [])) d = some (.dK []) := upd_same
  generalize upd H4 d (.dK []) = H5 at s5 d5 ⊢
  have s05 := s4.trans s5
  refine ⟨_, rfl, t, _, 0, _, rfl, rfl, SqT.of (s05 _ _ g1), atI_nat (j := 0) rfl, _, rfl, nl, G, _, _, rfl, rfl, s05 _ _ g2, s5 _ _ hG4, sz_le (by rw [← List.length_append]; omega), fun A nA => ?_⟩
  have s6 : Same H5 (upd H5 A (.lst (ns.map V.str ++ us))) := same_new nA
  have A6 : (upd H5 A (.lst (ns.map V.str ++ us))) A = some (.lst (ns.map V.str ++ us)) := upd_same
  have dA : d ≠ A := ne_of_none d5 nA
  generalize upd H5 A (.lst (ns.map V.str ++ us)) = H6 at s6 A6 ⊢
  have d6 := s6 _ _ d5
  have hal6 : All2 (CAt K H6) (ns.map V.str ++ us) (ns.map Con.nm ++ M2) := hal.imp fun _ _ h => cat_same (s5.trans s6) h
  have ndH : H d = none := s4.free nd
  refine ⟨A, rfl, ⟨_, SqL.of A6⟩, ?_⟩
  refine for_list (K := K) (a := A) (xs := ns.map V.str ++ us) (fun i' σ H' => ∃ y z y4 y6 kv M3, σ = [some (.ref t), some (.ref F), y, z, y4, some (.ref G), y6, some (.ref d), none, none, none] ∧ SB d H6 H' ∧ H' d = some (.dK kv) ∧ Itm K H' kv M3 ∧ M3.Nodup ∧ (∀ x, x ∈ M3 ↔ x ∈ (ns.map Con.nm ++ M2).take i') ∧ kv.length ≤ i')
    ⟨_, _, _, _, [], [], rfl, SB.refl _ _, d6, .nil, List.nodup_nil, fun x => by simp, Nat.le_refl _⟩ (fun i' σ H' _ ⟨_, _, _, _, _, _, _, sb, _⟩ => SqL.of (sb _ _ A6 (Ne.symm dA))) ?_ ?_
  · rintro i' x σ H' hx ⟨y, z, y4, y6, kv, M3, rfl, sb7, hd7, itm7, nd7, mM3, lk7⟩
    obtain ⟨x0, hx0, c0⟩ := hal6.getL hx
    have li' := (List.getElem?_eq_some_iff.mp hx).1
    have tkd : TupK K H6 H' := sb_tko sb7 d6 (fun ys e => by cases e) (fun u ys e => by cases e)
    have c7 := cat_tk tkd _ _ c0
    have g0 := sA x0 (List.mem_of_getElem? hx0)
    have sM3 : ∀ x ∈ M3, Good x := fun x hx => (sA x (List.mem_of_mem_take ((mM3 x).mp hx))).g
    refine ⟨_, rfl, _, rfl, _, rfl, _, x0, rfl, c7, g0, by have := g0.n; omega, fun H8 s8 => ?_⟩
    have d8 := s8 _ _ hd7
    obtain ⟨M', itm', nodup', mM'⟩ := Itm.put (c := x0) (itm7.tk (same_tk s8)) sM3 nd7 g0.g (cat_same s8 c7)
    have lp := length_putK kv (Sum.inr (txt x0) : Key) x
    refine ⟨d, _, rfl, DPut.k (k := Sum.inr (txt x0)) d8 (sz_lt (by omega)), _, _, _, _, _, M', rfl, (sb7.trans (SB.of s8)).trans SB.upd, upd_same, itm'.tk (upd_tk d8 (fun ys e => by cases e) (fun u ys e => by cases e)), nodup', fun x => ?_, by omega⟩
    rw [mM', mM3, List.take_add_one, hx0, Option.toList_some, List.mem_append, List.mem_singleton]
  rintro σ H7 ⟨y, z, y4, y6, kv, M3, rfl, sb7, hd7, itm7, nd7, mM3, lk7⟩
  rw [la, List.take_length] at mM3
  have s7 : Same H H7 := fun b o hb => sb7 _ _ (s6 _ _ (s05 _ _ hb)) (ne_of_none hb ndH)
  have sM3 : ∀ x ∈ M3, Sml x := fun x hx => sA x ((mM3 x).mp hx)
  refine ⟨_, rfl, d, kv, M3.map txt, rfl, .inl hd7, itm7.keys, fun ys sp pm up nsp => ?_⟩
  have all0 : All2 (fun y c => y = txt c) (M3.map txt) M3 := by
    have : ∀ l : List Con, All2 (fun y c => y = txt c) (l.map txt) l := fun l => by
      induction l with
      | nil => exact .nil
      | cons x r ih => exact .cons rfl ih
    exact this M3
  obtain ⟨m', am, pm'⟩ := all0.perm pm.symm
  have s8 : Same H7 (upd H7 sp (.lst (ys.map V.str))) := same_new nsp
  have sp8 : (upd H7 sp (.lst (ys.map V.str))) sp = some (.lst (ys.map V.str)) := upd_same
  generalize upd H7 sp (.lst (ys.map V.str)) = H8 at s8 sp8 ⊢
  have gm : ∀ x ∈ m', Sml x := fun x hx => sM3 x (pm'.mem_iff.mp hx)
  have ndm : m'.Nodup := pm'.nodup_iff.mpr nd7
  have mm : ∀ x, x ∈ m' ↔ (∃ s ∈ names c, x = .nm s) ∨ (∃ r y, x = .sm r y ∧ (r, y) ∈ L ∧ ∀ y', (r, y') ∈ L → Le y' y → y' = y) := fun x => by
    rw [pm'.mem_iff, mM3, List.mem_append, List.mem_map, mM2]
    constructor
    · rintro (⟨s, hs, rfl⟩ | ⟨h1, r, y, rfl, h2⟩)
      · exact .inl ⟨s, (g3 s).mp hs, rfl⟩
      · obtain ⟨r', y', e, hl⟩ := (mM _).mp h1
        cases e
        exact .inr ⟨r, y, rfl, hl, h2⟩
    · rintro (⟨s, hs, rfl⟩ | ⟨r, y, rfl, hl, h2⟩)
      · exact .inl ⟨s, (g3 s).mpr hs, rfl⟩
      · exact .inr ⟨(mM _).mpr ⟨r, y, rfl, hl⟩, r, y, rfl, h2⟩
  have lm : m'.length ≤ 5 := by
    have sub : ∀ x ∈ m', x ∈ (names c).map Con.nm ++ L.map fun q => Con.sm q.1 q.2 := fun x hx => by
      rcases (mm x).mp hx with ⟨s, hs, rfl⟩ | ⟨r, y, rfl, hl, _⟩
      · exact List.mem_append_left _ (List.mem_map.mpr ⟨s, hs, rfl⟩)
      · exact List.mem_append_right _ (List.mem_map.mpr ⟨(r, y), hl, rfl⟩)
    have n := nodup_sub ndm sub
    rw [List.length_append, List.length_map, List.length_map, ← hL.len] at n
    omega
  have red : IsRed (n + 1) c (mkc m') := ⟨L, hL, m', rfl, asc_of am up ndm fun x hx => (gm x hx).g, mm⟩
  refine ⟨sp, rfl, ⟨_, SqL.of sp8⟩, fun D3 nD3 => ?_⟩
  refine lc_list (K := K) (a := sp) (xs := ys.map V.str) (fun j H' => Same H8 H' ∧ ∃ ws, H' D3 = some (.lst ws) ∧ CsAt K H' ws (m'.take j) ∧ ws.length ≤ j) ⟨same_new nD3, [], upd_same, .nil, Nat.le_refl _⟩ (fun j H' _ h => SqL.of (h.1 _ _ sp8)) ?_ ?_
  · rintro j x H9 hx ⟨s9, ws, hD9, hws, lw⟩
    rw [List.getElem?_map] at hx
    obtain ⟨yy, hy, rfl⟩ := Option.map_eq_some_iff.mp hx
    obtain ⟨e, he, ey⟩ := am.getL hy
    have lj := (List.getElem?_eq_some_iff.mp he).1
    have s89 := s8.trans s9
    obtain ⟨v, hv, cv⟩ := ((itm7.tk (same_tk s89)).val (fun x hx => (sM3 x hx).g) (gm e (List.mem_of_getElem? he)).g).1 (pm'.mem_iff.mp (List.mem_of_getElem? he))
    rw [← ey] at hv
    refine ⟨rfl, _, rfl, _, rfl, d, v, rfl, by rw [← hv]; exact DGet.k (k := Sum.inr yy) (s89 _ _ hd7), ws, hD9, sz_lt (by omega), same_at s9 nD3, ws ++ [v], upd_same, ?_, by rw [List.length_append]; exact Nat.add_le_add_right lw 1⟩
    have tk := upd_tk (K := K) (o' := .lst (ws ++ [v])) hD9 (fun ys e => by cases e) (fun u ys e => by cases e)
    rw [List.take_add_one, he, Option.toList_some]
    exact (hws.imp fun _ _ h => cat_tk tk _ _ h).snoc (cat_tk tk _ _ cv)
  rintro H9 ⟨s9, ws, hD9, hws, lw⟩
  rw [List.length_map, am.len, List.take_length] at hws
  have lws := hws.len
  have s09 := (s7.trans s8).trans s9
  refine ⟨_, rfl, _, ws.length, rfl, .inl ⟨ws, SqL.of hD9, rfl⟩, ?_⟩
  by_cases h2 : ws.length < 2
  · refine ⟨_, _, rfl, rfl, _, congrArg V.bl (decide_eq_true (by omega)), iteT ?_⟩
    refine ⟨_, rfl, Nat.zero_le _, fun p np => ⟨_, _, .lst (.inl (.inl (by rw [upd_ne (ne_of_none hD9 np)]; exact hD9))) (cs_dp (cs_same (same_new np) hws)), .lst (.inl (.inl upd_same)) .nil, shaped_list gm, by decide +kernel, _, rfl, ?_⟩⟩
    have s10 := s09.trans (same_new (o := .lst []) np)
    have D10 := (same_new (o := .lst []) np) _ _ hD9
    have hws10 := cs_same (same_new (o := .lst []) np) hws
    generalize upd H9 p (.lst []) = H10 at s10 D10 hws10 ⊢
    clear am pm' pm all0 ndm lm mm gm
    cases hws10 with
    | nil =>
      rw [show PyData.eqv (.list (dats [])) (.list []) = true by decide +kernel]
      exact iteF (q _ _ _ s10 cat_all red)
    | @cons v e r r' h t =>
      cases t with
      | cons h t => simp at h2; omega
      | nil =>
      rw [show PyData.eqv (.list (dats [e])) (.list []) = false by simp [dats, PyData.eqv, PyData.eqvAll]]
      exact iteT ⟨_, rfl, D3, [v], 0, v, rfl, rfl, SqL.of D10, atI_nat (j := 0) rfl, q _ _ _ s10 h red⟩
  · refine ⟨_, _, rfl, rfl, _, congrArg V.bl (decide_eq_false (by omega)), iteF ?_⟩
    refine ⟨sz_le (Nat.le_trans (by decide : 1 ≤ 2) (by decide)), fun pa npa => ?_⟩
    have s10 : Same H9 (upd H9 pa (.tup [.str "and"])) := same_new npa
    have pa10 : (upd H9 pa (.tup [.str "and"])) pa = some (.tup [.str "and"]) := upd_same
    generalize upd H9 pa (.tup [.str "and"]) = H10 at s10 pa10 ⊢
    refine ⟨_, rfl, D3, ws, rfl, .inl ⟨SqL.of (s10 _ _ hD9), fun l nl' => ?_⟩⟩
    have pa11 := (same_new (o := .tup ws) nl') _ _ pa10
    refine ⟨pa, l, [.str "and"], ws, rfl, rfl, SqT.of pa11, SqT.of upd_same, sz_le (by simp; omega), fun e => (by cases e), fun _ e => (by rw [e] at h2; simp at h2), fun _ _ p np => ?_⟩
    have s12 := (same_new (o := .tup ws) nl').trans (same_new (o := .tup ([.str "and"] ++ ws)) np)
    have e : mkc m' = .an m' := mkc_two (by omega)
    rw [e] at red
    exact q _ _ (.an m') ((s09.trans s10).trans s12) (cat_an (SqT.of upd_same) (cs_same (s10.trans s12) hws)) red
theorem ok_writtenL (D : Df K mg "_law_written" s__law_written ["_law_one"]) (T : Tx K mg) (c_l_text : Cal P w K mg base 31 "_law_text" (spText K 31)) (c_l_plainly : Cal P w K mg base 33 "_law_plainly" (spLies K)) : ∀ m, Cal P w K mg base (33 + m) "_law_written" (spWrittenL K m)
  | 0 => cal_void D fun vs H Q E h => by
    obtain ⟨v, c, n, _, h, _⟩ := h
    exact absurd h (Nat.not_lt_zero _)
  | m + 1 => step_writtenL (k := 33 + m) D T (c_l_text.up (by omega)) (c_l_plainly.up (by omega)) (ok_writtenL D T c_l_text c_l_plainly m)
end
end K77
end

section
set_option Elab.async false
set_option linter.all false
set_option maxRecDepth 100000
set_option maxHeartbeats 4000000
/-! the law's larger -/
namespace K77
open PySem PySem.Spec PyProof.Rows L2
abbrev s__law_larger : Stmt := top 64
theorem sc__law_larger : FnScope ["_law_draw_here", "_law_concept_here", "_law_kind", "_law_some", "_law_part"] ["_law_draw_here", "_law_concept_here"] (defScope s__law_larger) := ⟨rfl, rfl, rfl, by decide +kernel, rfl, by decide +kernel, by decide +kernel⟩
def spLargerL (K : PySem.W.Frag) (n : Nat) : Sp := fun vs H Q _ => ∃ δ : Dr, ∃ v c, vs = [.ref δ.x, v] ∧ DrawAt K H δ ∧ CAt K H v c ∧ Sml c ∧ nest c < n ∧ ∀ H' u e, SB δ.x H H' → DrawAt K H' δ → CAt K H' u e → Good e → dep e ≤ dep c → nest e ≤ nest c → wt e ≤ wt c → Q u H'
section
variable {P : Program} {w : World} {K : PySem.W.Frag} {mg : Str → Option Value} {base : Heap}
theorem step_largerL {n k : Nat} (D : Df K mg "_law_larger" s__law_larger ["_law_draw_here", "_law_concept_here"]) (T : Tx K mg) (c_l_next : Cal P w K mg base k "_law_next" (spNext K)) (c_l_larger : Cal P w K mg base k "_law_larger" (spLargerL K n)) :
    Cal P w K mg base (k + 1) "_law_larger" (spLargerL K (n + 1)) := by
  refine cal_of D sc__law_larger (fun vs H Q E h => ?_) (fun f cdv A outer s H vs Q E hr h => ?_)
  · obtain ⟨δ, v, c, rfl, _⟩ := h
    rfl
  obtain ⟨δ, v, c, rfl, dr, hc0, g, hn, q⟩ := h
  have z3 : ∀ {m : Nat}, m ≤ 3 → m ≤ sizeLine := fun h => sz_le (by omega)
  have gw := g.w
  have gn := g.n
  refine ⟨_, (pss_cons (ps_set (i := 2) sc__law_larger.nd rfl (.inl rfl) (pc c_l_next hr (by rfl) (pa_cons (pv 0) (pa_cons pe_int pa_nil))))
    (pss_cons (ps_if (pt_val (pe_callB call_isi (by rfl) T.isi boot_isinstance (pa_cons (pv 1) (pa_cons (pe_bltn (v := .ty "str") (by rfl) T.str boot_str rfl) pa_nil))))
    (pss_one (ps_ret (pe_ifExp (pt_cmpR op_eq (pv 2) pe_int (nomark _)) pe_str (pv 1))))
    pss_nil)
    (pss_cons (ps_if (pt_cmpR op_eq (pe_ix ix_tup (pv 1) pe_int (fun _ _ => rfl)) pe_str (nomark _))
    (pss_one (ps_ret (pe_ifExp (pt_cmpR op_eq (pv 2) pe_int (nomark _)) pe_str (pe_tup (pa_cons pe_str (pa_cons (pe_ix ix_tup (pv 1) pe_int (fun _ _ => rfl)) (pa_cons (pc c_l_larger hr (by rfl) (pa_cons (pv 0) (pa_cons (pe_ix ix_tup (pv 1) pe_int (fun _ _ => rfl)) pa_nil))) pa_nil)))))))
    pss_nil)
    (pss_cons (ps_setLc (i := 3) (own := [("_law_part", 4)]) rfl sc__law_larger.nd rfl rfl (sw_true rfl rfl rfl (by decide +kernel)) (pi_tup (pe_slice sl_tupA (pv 1) (po_some pe_int) po_none)) (blkOk_by (N := ["_law_draw_here", "_law_concept_here", "_law_kind", "_law_some", "_law_part"]) (sc := defScope s__law_larger) (own := [("_law_part", 4)]) (by decide +kernel)) (fun _ _ _ _ _ => (pg_name (i := 4) sc__law_larger.nd rfl (.inl rfl))) (fun _ _ _ _ _ => (pts_one (pt_cmpR op_gt (pc c_l_next hr (by rfl) (pa_cons (pv 0) (pa_cons pe_int pa_nil))) pe_int (nomark _)))) (fun _ _ _ _ _ => (pc c_l_larger hr (by rfl) (pa_cons (pv 0) (pa_cons (pv 4) pa_nil)))))
    (pss_cons (ps_if (pt_cmpR op_lt (pe_callB call_len (by rfl) T.len PySem.boot_len (pa_cons (pv 3) pa_nil)) pe_int (nomark _))
    (pss_one (ps_ret (pe_ifExp (pt_cmpR (op_neD hr.units) (pv 3) (pe_lst pa_nil) (nomark _)) (pe_ix ix_list (pv 3) pe_int (fun _ _ => rfl)) pe_str)))
    pss_nil)
    (pss_one (ps_ret (pe_op op_catA (pe_tup (pa_cons pe_str pa_nil)) (pe_callTy call_tuple_of (by rfl) T.tuple boot_tuple (pa_cons (pv 3) pa_nil)))))))))), ?_⟩
  refine ⟨_, rfl, δ, 5, rfl, by decide, dr, fun H1 r sb1 dr1 lt1 => ?_⟩
  have hc := cat_tk (dr.tk sb1) _ _ hc0
  cases c with
  | all =>
    cases of_all hc
    refine ⟨_, rfl, _, _, _, _, true, rfl, .ty "str", .base (.str _), k_ss, true, rfl, iteT ?_⟩
    refine ⟨_, rfl, rfl, _, rfl, ?_⟩
    by_cases z : V.int (r : Nat) = V.int 0
    · rw [decide_eq_true z]
      exact iteT (q _ _ _ sb1 dr1 cat_all trivial (Nat.le_refl _) (Nat.le_refl _) (Nat.le_refl _))
    · rw [decide_eq_false z]
      exact iteF ⟨_, rfl, q _ _ _ sb1 dr1 cat_all trivial (Nat.le_refl _) (Nat.le_refl _) (Nat.le_refl _)⟩
  | nm s =>
    cases of_nm hc
    refine ⟨_, rfl, _, _, _, _, true, rfl, .ty "str", .base (.str _), k_ss, true, rfl, iteT ?_⟩
    refine ⟨_, rfl, rfl, _, rfl, ?_⟩
    by_cases z : V.int (r : Nat) = V.int 0
    · rw [decide_eq_true z]
      exact iteT (q _ _ .all sb1 dr1 cat_all trivial (by simp [dep]) (by simp [nest]) (by simp [wt]))
    · rw [decide_eq_false z]
      exact iteF ⟨_, rfl, q _ _ _ sb1 dr1 cat_nm g.g (Nat.le_refl _) (Nat.le_refl _) (Nat.le_refl _)⟩
  | sm r0 d =>
    obtain ⟨a, u, rfl, hS, hd⟩ := of_sm hc
    obtain ⟨gd, nd, _⟩ := g.inn (show d ∈ inn (.sm r0 d) from List.mem_cons_self)
    refine ⟨_, rfl, _, _, _, _, false, rfl, .ty "str", tyx_tup hS, k_ts, false, rfl, iteF ?_⟩
    refine ⟨_, rfl, a, _, _, _, rfl, rfl, hS, atI_nat (j := 0) rfl, rfl, true, congrArg V.bl (decide_eq_true rfl), iteT ?_⟩
    refine ⟨_, rfl, rfl, _, rfl, ?_⟩
    by_cases z : V.int (r : Nat) = V.int 0
    · rw [decide_eq_true z]
      exact iteT (q _ _ .all sb1 dr1 cat_all trivial (Nat.zero_le _) (by simp [nest]) (by simp [wt]))
    · rw [decide_eq_false z]
      refine iteF ⟨_, rfl, a, _, 1, _, rfl, rfl, hS, atI_nat (j := 1) rfl, _, rfl, _, rfl, a, _, 2, _, rfl, rfl, hS, atI_nat (j := 2) rfl, δ, u, d, rfl, dr1, hd, gd, by omega, fun H2 v2 e sb2 dr2 cv ge de ne we => ⟨z3 (by simp), fun p np => ?_⟩⟩
      refine q _ _ (.sm r0 e) ((sb1.trans sb2).trans (SB.of (same_new np))) (dr2.same (same_new np)) (cat_sm (SqT.of upd_same) (cat_same (same_new np) cv)) ⟨g.g.1, ge⟩ ?_ ?_ ?_
      · simp only [dep]; omega
      · simp only [nest]; omega
      · simp only [wt]; omega
  | an cs =>
    obtain ⟨a, us, rfl, hS, hd⟩ := of_an hc
    have g1 := g.g.1
    have hl := hd.len
    simp only [wt] at gw
    simp only [nest] at gn
    refine ⟨_, rfl, _, _, _, _, false, rfl, .ty "str", tyx_tup hS, k_ts, false, rfl, iteF ?_⟩
    refine ⟨_, rfl, a, _, _, _, rfl, rfl, hS, atI_nat (j := 0) rfl, rfl, false, congrArg V.bl (decide_eq_false fun e => some_and (V.str.inj e).symm), iteF ?_⟩
    refine ⟨_, rfl, _, rfl, a, _, rfl, hS, fun e => ?_, fun _ p np => ?_⟩
    · have := e.1
      rw [show HT.sIx (V.str "and" :: us).length 0 (some 1) = min 1 (us.length + 1) from HT.sIx_nat _ 0 1] at this
      omega
    have ec : cutV (V.str "and" :: us) (some 1) none = us := cut_from (V.str "and" :: us) 1 (by simp)
    rw [ec]
    have s2 : Same H1 (upd H1 p (.tup us)) := same_new np
    have p2 : (upd H1 p (.tup us)) p = some (.tup us) := upd_same
    generalize upd H1 p (.tup us) = H2 at s2 p2 ⊢
    have hd2 := cs_same s2 hd
    have dr2 := dr1.same s2
    have sb2 : SB δ.x H H2 := sb1.trans (SB.of s2)
    have px : p ≠ δ.x := ne_of p2 dr2.choose_spec.1 (fun z => by cases z)
    refine ⟨p, rfl, ⟨us, SqT.of p2⟩, fun D nD => ?_⟩
    have Dx := dr2.ne nD
    refine lc_tup (K := K) (xs := us) (fun j H' => SB δ.x H2 H' ∧ DrawAt K H' δ ∧ ∃ ws es, H' D = some (.lst ws) ∧ CsAt K H' ws es ∧ ws.length ≤ j ∧ (∀ e ∈ es, Good e ∧ dep e ≤ deps cs ∧ nest e ≤ nests cs) ∧ wts es ≤ wts (cs.take j)) ⟨SB.of (same_new nD), dr2.same (same_new nD), [], [], upd_same, .nil, Nat.le_refl _, (fun e he => nomatch he), by simp [wts]⟩ (fun j H' _ h => SqT.of (h.1 _ _ p2 px)) ?_ ?_
    · rintro j x H3 hx ⟨sb3, dr3, ws, es, hD3, hws, lw, ges, wes⟩
      obtain ⟨e0, he0, c0⟩ := hd2.getL hx
      have lj := (List.getElem?_eq_some_iff.mp hx).1
      have hmem := List.mem_of_getElem? he0
      obtain ⟨ge0, ne0, _⟩ := g.inn (show e0 ∈ inn (.an cs) from hmem)
      have tkw : wts (cs.take (j + 1)) = wts (cs.take j) + wt e0 := by rw [List.take_add_one, he0, Option.toList_some, wts_app]; simp [wts]
      have wcs : cs.length ≤ wts cs := len_wts cs
      refine ⟨rfl, _, rfl, δ, 4, rfl, by decide, dr3, fun H4 r4 sb4 dr4 lt4 => ?_⟩
      have D4 := sb4 _ _ hD3 Dx
      have c4 := cat_tk (dr3.tk sb4) _ _ (cat_tk (dr2.tk sb3) _ _ c0)
      have hws4 : CsAt K H4 ws es := hws.imp fun _ _ h => cat_tk (dr3.tk sb4) _ _ h
      refine ⟨_, _, rfl, rfl, _, rfl, ?_⟩
      by_cases z : (0 : Int) < ((r4 : Nat) : Int)
      · rw [decide_eq_true z]
        refine iteT ⟨_, rfl, _, rfl, δ, x, e0, rfl, dr4, c4, ge0, by simp only [nest] at *; omega, fun H5 v5 e5 sb5 dr5 c5 g5 d5 n5 w5 => ?_⟩
        have D5 := sb5 _ _ D4 Dx
        have sb6 : SB δ.x H2 (upd H5 D (.lst (ws ++ [v5]))) := fun b o hb ne => by
          rw [upd_ne (ne_of_none hb nD)]
          exact sb5 _ _ (sb4 _ _ (sb3 _ _ hb ne) ne) ne
        have tk := upd_tk (K := K) (o' := .lst (ws ++ [v5])) D5 (fun ys e => by cases e) (fun u ys e => by cases e)
        refine ⟨ws, D5, sz_lt (by omega), sb6, dr2.put dr5 sb6 (upd_ne (Ne.symm Dx)), ws ++ [v5], es ++ [e5], upd_same, (hws4.imp fun _ _ h => cat_tk tk _ _ (cat_tk (dr4.tk sb5) _ _ h)).snoc (cat_tk tk _ _ c5), by rw [List.length_append]; exact Nat.add_le_add_right lw 1, fun e he => ?_, ?_⟩
        · rcases List.mem_append.mp he with h | h
          · exact ges e h
          · rw [List.mem_singleton.mp h]
            exact ⟨g5, Nat.le_trans d5 (dep_le_deps hmem), Nat.le_trans n5 (nest_le_nests hmem)⟩
        · rw [wts_app, tkw]
          simp only [wts]
          omega
      · rw [decide_eq_false z]
        exact iteF ⟨sb3.trans sb4, dr4, ws, es, D4, hws4, by omega, ges, by omega⟩
    rintro H3 ⟨sb3, dr3, ws, es, hD3, hws, lw, ges, wes⟩
    rw [hl, List.take_length] at wes
    have lws := hws.len
    have sbH := sb2.trans sb3
    have ses : ∀ e ∈ es, Sml e := fun e he => ⟨(ges e he).1, by have := (ges e he).2.2; omega, by have := wt_le_wts he; omega⟩
    refine ⟨_, rfl, _, ws.length, rfl, .inl ⟨ws, SqL.of hD3, rfl⟩, ?_⟩
    by_cases h2 : ws.length < 2
    · refine ⟨_, _, rfl, rfl, _, congrArg V.bl (decide_eq_true (by omega)), iteT ?_⟩
      refine ⟨_, rfl, Nat.zero_le _, fun p np => ⟨_, _, .lst (.inl (.inl (by rw [upd_ne (ne_of_none hD3 np)]; exact hD3))) (cs_dp (cs_same (same_new np) hws)), .lst (.inl (.inl upd_same)) .nil, shaped_list ses, by decide +kernel, _, rfl, ?_⟩⟩
      have s10 : Same H3 (upd H3 p (.lst [])) := same_new np
      have D10 := s10 _ _ hD3
      have hws10 := cs_same s10 hws
      generalize upd H3 p (.lst []) = H10 at s10 D10 hws10 ⊢
      have dr10 := dr3.same s10
      have sb10 := sbH.trans (SB.of s10)
      cases hws10 with
      | nil =>
        rw [show PyData.eqv (.list (dats [])) (.list []) = true by decide +kernel]
        exact iteF (q _ _ .all sb10 dr10 cat_all trivial (Nat.zero_le _) (by simp [nest]) (by simp [wt]))
      | @cons v e r r' h t =>
        cases t with
        | cons h t => simp at h2; omega
        | nil =>
        rw [show PyData.eqv (.list (dats [e])) (.list []) = false by simp [dats, PyData.eqv, PyData.eqvAll]]
        obtain ⟨x1, x2, x3⟩ := ges e List.mem_cons_self
        have x4 : wt e ≤ wts [e] := by simp [wts]
        exact iteT ⟨_, rfl, D, [v], 0, v, rfl, rfl, SqL.of D10, atI_nat (j := 0) rfl, q _ _ e sb10 dr10 h x1 (by simp only [dep]; omega) (by simp only [nest]; omega) (by simp only [wt]; omega)⟩
    · refine ⟨_, _, rfl, rfl, _, congrArg V.bl (decide_eq_false (by omega)), iteF ?_⟩
      refine ⟨sz_le (Nat.le_trans (by decide : 1 ≤ 2) (by decide)), fun pa npa => ?_⟩
      have s10 : Same H3 (upd H3 pa (.tup [.str "and"])) := same_new npa
      have pa10 : (upd H3 pa (.tup [.str "and"])) pa = some (.tup [.str "and"]) := upd_same
      generalize upd H3 pa (.tup [.str "and"]) = H10 at s10 pa10 ⊢
      refine ⟨_, rfl, D, ws, rfl, .inl ⟨SqL.of (s10 _ _ hD3), fun l nl' => ?_⟩⟩
      have pa11 := (same_new (o := .tup ws) nl') _ _ pa10
      have wcs : es.length ≤ wts es := len_wts es
      refine ⟨pa, l, [.str "and"], ws, rfl, rfl, SqT.of pa11, SqT.of upd_same, sz_le (by simp; omega), fun e => (by cases e), fun _ e => (by rw [e] at h2; simp at h2), fun _ _ p np => ?_⟩
      have s12 := (same_new (o := .tup ws) nl').trans (same_new (o := .tup ([.str "and"] ++ ws)) np)
      refine q _ _ (.an es) (sbH.trans (SB.of (s10.trans s12))) (dr3.same (s10.trans s12)) (cat_an (SqT.of upd_same) (cs_same (s10.trans s12) hws)) ⟨by omega, goods_iff.mpr fun c hc => (ges c hc).1⟩ ?_ ?_ ?_
      · simp only [dep]; exact deps_le fun c hc => (ges c hc).2.1
      · have : nests es ≤ nests cs := nests_le fun c hc => (ges c hc).2.2
        simp only [nest]; omega
      · simp only [wt]; omega
theorem ok_largerL (D : Df K mg "_law_larger" s__law_larger ["_law_draw_here", "_law_concept_here"]) (T : Tx K mg) (c_l_next : Cal P w K mg base 3 "_law_next" (spNext K)) : ∀ n, Cal P w K mg base (3 + n) "_law_larger" (spLargerL K n)
  | 0 => cal_void D fun vs H Q E h => by
    obtain ⟨δ, v, c, _, _, _, _, h, _⟩ := h
    exact absurd h (Nat.not_lt_zero _)
  | n + 1 => step_largerL (k := 3 + n) D T (c_l_next.up (by omega)) (ok_largerL D T c_l_next n)
end
end K77
end

section
set_option Elab.async false
set_option linter.all false
set_option maxRecDepth 100000
set_option maxHeartbeats 4000000
/-! the law's told -/
namespace K77
open PySem PySem.Spec PyProof.Rows L2
abbrev s__law_told : Stmt := top 66
theorem sc__law_told : FnScope ["_law_world", "_law_thing", "_law_depth", "_law_found"] ["_law_world", "_law_thing", "_law_depth"] (defScope s__law_told) := ⟨rfl, rfl, rfl, by decide +kernel, rfl, by decide +kernel, by decide +kernel⟩
section
variable {P : Program} {w : World} {K : PySem.W.Frag} {mg : Str → Option Value} {base : Heap} {CW CE : Addr}
theorem ok_told (D : Df K mg "_law_told" s__law_told ["_law_world", "_law_thing", "_law_depth"]) (T : Tx K mg) (hE : mg "TooLarge" = some (.ref CE)) (c_least : Cal P w K mg base 104 "least_in_depth" (spLeast K CW)) : Cal P w K mg base 105 "_law_told" (spLeast K CW) := by
  refine cal_of D sc__law_told (fun vs H Q E h => ?_) (fun f cdv A outer s H vs Q E hr h => ?_)
  · obtain ⟨u, rows, es, t, d, rfl, _⟩ := h
    rfl
  obtain ⟨u, rows, es, t, d, rfl, hw, wr, ht, hd, q⟩ := h
  refine ⟨_, (pss_cons (ps_try_only (Wout := fun _ _ _ _ => False) rfl rfl ⟨rfl, by decide, .inl hE⟩ takes0
      (fun W pn xe tk _ => pss_one (ps_set (i := 3) sc__law_told.nd rfl (.inl rfl) (pc c_least hr (by rfl) (pa_cons (pv 0) (pa_cons (pv 1) (pa_cons (pv 2) pa_nil))))))
      (fun _ _ _ _ _ _ _ => pss_one (ps_ret pe_non)))
    (pss_one (ps_ret (pv 3)))), ?_⟩
  refine ⟨_, rfl, _, rfl, _, rfl, u, rows, es, t, d, rfl, hw, wr, ht, hd, fun H' v c x s' cv iw red br wd => ?_⟩
  exact ⟨_, rfl, q H' v c x s' cv iw red br wd⟩
end
end K77
end

section
set_option Elab.async false
set_option linter.all false
set_option maxRecDepth 100000
set_option maxHeartbeats 4000000
/-! the law -/
namespace K77
open PySem PySem.Spec PyProof.Rows L2
abbrev s_law : Stmt := top 67
theorem sc_law : FnScope ["_law_script", "_law_draw_here", "_law_names", "_law_roles", "_law_rows", "_law_edges", "_law_thing", "_law_depth", "_law_world", "_law_told_here", "_law_turn", "_law_one"] ["_law_script"] (defScope s_law) := ⟨rfl, rfl, rfl, by decide +kernel, rfl, by decide +kernel, by decide +kernel⟩
theorem cut_ints (cells : List Int) (hi : Option Int) : ∃ c' : List Int, cutV (cells.map V.int) none hi = c'.map V.int := by
  unfold cutV
  exact ⟨_, by rw [← List.map_drop, ← List.map_take]⟩
theorem cat_non {K : PySem.W.Frag} {H : Hp} {v : V} {c : Con} (h : CAt K H v c) : ¬ v = .non := fun e => by
  subst e
  cases c with
  | all => cases of_all h
  | nm s => cases of_nm h
  | sm r d => obtain ⟨a, w, e, _⟩ := of_sm h; cases e
  | an cs => obtain ⟨a, w, e, _⟩ := of_an h; cases e
def spLaw (K : PySem.W.Frag) : Sp := fun vs H Q _ => ∃ a cells, vs = [.ref a] ∧ SqL K H a ((cells : List Int).map V.int) ∧ ∀ H', Q (.bl true) H'
section
variable {P : Program} {w : World} {K : PySem.W.Frag} {mg : Str → Option Value} {base : Heap} {CW : Addr}
theorem ok_law {fl : Addr} {fdl : FuncData} (D : Fun K "law" "law" s_law fl fdl) (T : Tx K mg) (c_l_alphabet : Cal P w K mg base 6 "_law_alphabet" (spAlpha K)) (c_l_facts : Cal P w K mg base 5 "_law_facts" (spFacts K)) (c_l_next : Cal P w K mg base 3 "_law_next" (spNext K)) (c_World : Mak P w K mg base 3 "World" CW (spWorld K CW))
    (c_l_told : Cal P w K mg base 105 "_law_told" (spLeast K CW)) (c_l_written : Cal P w K mg base 38 "_law_written" (spWrittenL K 5)) (c_l_tree : Cal P w K mg base 5 "_law_tree" (spTreeL K 5)) (c_l_height : Cal P w K mg base 31 "_law_height" (spHeight K 31)) (c_l_inside : Cal P w K mg base 31 "_law_inside" (spInside K 31))
    (c_plainly_within : Cal P w K mg base 98 "plainly_within" (spLies K)) (c_l_larger : Cal P w K mg base 34 "_law_larger" (spLargerL K 31)) (c_l_concept : Cal P w K mg base 9 "_law_concept" (spConceptL K 5)) : FnOk P w K mg base CX0 106 fl fdl ["_law_script"] (spLaw K) := by
  refine D.ok sc_law (fun vs H Q E h => ?_) (fun cdv A outer s H vs Q E hr h => ?_)
  · obtain ⟨a, cells, rfl, _⟩ := h
    rfl
  obtain ⟨a, cells, rfl, ha, q⟩ := h
  refine ⟨_, (pss_cons (ps_set (i := 1) sc_law.nd rfl (.inl rfl) (pe_lst (pa_cons (pe_slice sl_list (pv 0) po_none (po_some pe_int)) (pa_cons pe_int (pa_cons pe_int pa_nil)))))
    (pss_cons (ps_asg (pc c_l_alphabet hr (by rfl) (pa_cons (pv 1) pa_nil)) (pg_tup rfl (pgs_cons (pg_name (i := 2) sc_law.nd rfl (.inl rfl)) (pgs_cons (pg_name (i := 3) sc_law.nd rfl (.inl rfl)) pgs_nil))))
    (pss_cons (ps_asg (pc c_l_facts hr (by rfl) (pa_cons (pv 1) (pa_cons (pv 2) (pa_cons (pv 3) (pa_cons pe_int pa_nil))))) (pg_tup rfl (pgs_cons (pg_name (i := 4) sc_law.nd rfl (.inl rfl)) (pgs_cons (pg_name (i := 5) sc_law.nd rfl (.inl rfl)) pgs_nil))))
    (pss_cons (ps_par3 (i := 6) (j := 7) (l := 8) (by rfl) sc_law.nd rfl rfl rfl (by decide) (by decide) (by decide) rfl rfl rfl (pa_cons (pc c_l_next hr (by rfl) (pa_cons (pv 1) (pa_cons (pe_callB call_len (by rfl) T.len PySem.boot_len (pa_cons (pv 4) pa_nil)) pa_nil))) (pa_cons (pc c_l_next hr (by rfl) (pa_cons (pv 1) (pa_cons pe_int pa_nil))) (pa_cons (pk c_World hr (by rfl) (pa_cons (pv 4) (pa_cons (pv 5) pa_nil))) pa_nil))) (by rfl))
    (pss_cons (ps_set (i := 9) sc_law.nd rfl (.inl rfl) (pc c_l_told hr (by rfl) (pa_cons (pv 8) (pa_cons (pv 6) (pa_cons (pv 7) pa_nil)))))
    (pss_cons (ps_if (PW.pt (pw_or (pt_cmpR op_isN (pv 9) pe_non (nomark _)) (pw_or (pt_cmpR (op_neD hr.units) (pv 9) (pc c_l_written hr (by rfl) (pa_cons (pc c_l_tree hr (by rfl) (pa_cons (pv 4) (pa_cons (pv 5) (pa_cons (pv 6) (pa_cons (pv 7) pa_nil))))) pa_nil)) (nomark _)) (pw_or1 (pt_cmpR op_gt (pc c_l_height hr (by rfl) (pa_cons (pv 9) pa_nil)) (pv 7) (nomark _))))))
    (pss_one (ps_ret pe_bl))
    pss_nil)
    (pss_cons (ps_if (PW.pt (pw_or (pt_not (pt_val (pe_ix ix_list (pc c_l_inside hr (by rfl) (pa_cons (pv 4) (pa_cons (pv 5) (pa_cons (pv 9) pa_nil)))) (pv 6) (fun _ _ => rfl)))) (pw_or1 (pt_not (pt_val (pc c_plainly_within hr (by rfl) (pa_cons (pc c_l_told hr (by rfl) (pa_cons (pv 8) (pa_cons (pv 6) (pa_cons (pe_op op_add (pv 7) pe_int) pa_nil)))) (pa_cons (pv 9) pa_nil))))))))
    (pss_one (ps_ret pe_bl))
    pss_nil)
    (pss_cons (ps_for PassesOwn.never rfl (pi_range1 (by rfl) T.range (pa_cons pe_int pa_nil)) (pg_name (i := 10) sc_law.nd rfl (.inl rfl))
    (pss_cons (ps_set (i := 11) sc_law.nd rfl (.inl rfl) (pe_ifExp (pt_cmpR op_lt (pv 10) pe_int (nomark _)) (pc c_l_larger hr (by rfl) (pa_cons (pv 1) (pa_cons (pv 9) pa_nil))) (pc c_l_concept hr (by rfl) (pa_cons (pv 1) (pa_cons (pv 2) (pa_cons (pv 3) (pa_cons (pv 7) pa_nil)))))))
    (pss_one (ps_if (PW.pt (pw_and (pt_val (pe_ix ix_list (pc c_l_inside hr (by rfl) (pa_cons (pv 4) (pa_cons (pv 5) (pa_cons (pv 11) pa_nil)))) (pv 6) (fun _ _ => rfl))) (pw_and1 (pt_not (pt_val (pc c_plainly_within hr (by rfl) (pa_cons (pv 9) (pa_cons (pv 11) pa_nil))))))))
    (pss_one (ps_ret pe_bl))
    pss_nil))))
    (pss_one (ps_ret pe_bl)))))))))), ?_⟩
  -- the draw
  refine ⟨_, rfl, _, rfl, a, _, rfl, ha, fun cl ncl => ⟨sz_le (Nat.le_trans (by decide : 3 ≤ 4) (by decide)), fun x nx => ?_⟩⟩
  obtain ⟨c', ec⟩ := cut_ints cells (some 63)
  rw [ec] at nx ⊢
  have s1 : Same H (upd (upd H cl (.lst (c'.map V.int))) x (.lst [.ref cl, .int 0, .int 0])) := (same_new ncl).trans (same_new nx)
  have xcl : cl ≠ x := ne_of_none upd_same nx
  have dr : DrawAt K (upd (upd H cl (.lst (c'.map V.int))) x (.lst [.ref cl, .int 0, .int 0])) ⟨x, cl, c'⟩ := ⟨0, upd_same, xcl, SqL.of ((same_new nx) _ _ upd_same)⟩
  generalize upd (upd H cl (.lst (c'.map V.int))) x (.lst [.ref cl, .int 0, .int 0]) = H1 at s1 dr ⊢
  -- alphabet
  refine ⟨_, rfl, ⟨x, cl, c'⟩, rfl, dr, fun H2 p nl rl ns rs sb2 dr2 hp hn hrl nn nr al => ⟨p, _, rfl, hp, rfl, _, _, rfl, _, _, rfl, rfl, ?_⟩⟩
  have nlx := dr.ne nn
  have rlx := dr.ne nr
  -- facts
  refine ⟨_, rfl, _, rfl, _, rfl, ⟨x, cl, c'⟩, nl, rl, ns, rs, rfl, dr2, hn, hrl, nlx, rlx, al, fun H3 p3 ra ea rvs xs rows es sb3 dr3 hp3 hra hea nra nea hrows hes wr l4 => ⟨p3, _, rfl, hp3, rfl, _, _, rfl, _, _, rfl, rfl, ?_⟩⟩
  have rax := dr2.ne nra
  have eax := dr2.ne nea
  have lr := hrows.len
  have wfe2 : ∀ e ∈ es, e.1 < rows.length ∧ e.2.2 < rows.length := fun e he => ⟨(wr.wfe.1 e he).1, (wr.wfe.1 e he).2.1⟩
  have r1 := wr.wfr.2.1
  refine ⟨_, rfl, _, rfl, _, rvs.length, rfl, .inl ⟨rvs, SqL.of hra, rfl⟩, ⟨x, cl, c'⟩, rvs.length, rfl, by omega, dr3, fun H4 t sb4 dr4 lt4 => ?_⟩
  refine ⟨_, rfl, ⟨x, cl, c'⟩, 4, rfl, by decide, dr4, fun H5 d sb5 dr5 lt5 => ?_⟩
  have sb35 := sb4.trans sb5
  have hra5 := sb35 _ _ hra rax
  have hea5 := sb35 _ _ hea eax
  have tk5 := dr3.tk sb35
  have hrows5 := hrows.imp fun _ _ h => row_tk tk5 h
  have hes5 := hes.imp fun _ _ h => eat_tk tk5 h
  have hn5 := (sb3.trans sb35) _ _ hn nlx
  have hrl5 := (sb3.trans sb35) _ _ hrl rlx
  refine ⟨_, rfl, _, rfl, fun W wd nW nwd new => ?_⟩
  have sW : Same H5 (upd (upd H5 wd (.own W)) W (.ins CW wd [])) := (same_new nwd).trans (same_new (by rw [upd_ne (Ne.symm new)]; exact nW))
  refine ⟨W, wd, ra, rvs, rows, ea, xs, es, rfl, upd_same, SqL.of (sW _ _ hra5), hrows5.imp fun _ _ h => row_tk (same_tk sW) h, wr.wfr, SqL.of (sW _ _ hea5), hes5.imp fun _ _ h => eat_same sW h, wr.wfe, fun H6 sb6 wat => ⟨rfl, ?_⟩⟩
  have s56 := same_make nW nwd sb6
  refine ⟨_, _, _, rfl, ?_⟩
  -- told
  refine ⟨_, rfl, _, rfl, _, rfl, _, rows, es, t, d, rfl, wat, wr, by omega, by omega, fun H7 v c xx s7 cv iw red br wdn => ?_⟩
  have sx : Sml xx := sml_red (by omega) br wdn red
  have s57 := s56.trans s7
  refine ⟨_, rfl, rfl, _, rfl, ?_⟩
  rw [decide_eq_false (cat_non cv)]
  refine iteF ⟨_, rfl, _, rfl, _, rfl, _, rfl, _, rfl, ra, ea, rvs, rows, xs, es, t, d, rfl, SqL.of (s57 _ _ hra5), hrows5.imp fun _ _ h => row_tk (same_tk s57) h, SqL.of (s57 _ _ hea5), hes5.imp fun _ _ h => eat_same s57 h, wr, by omega, by omega, by omega, fun H8 tv ct s8 tn iw' br' wd' wt' => ?_⟩
  refine ⟨tv, ct, d, rfl, by omega, by omega, tn.ln, br', wd', fun H9 u9 y9 s9 cu red' => ?_⟩
  have exy : xx = y9 := red_uniq (isW_sim iw iw') red red'
  subst exy
  have shx := shaped_con sx.g (by have := sx.n; omega)
  have s79 := s8.trans s9
  refine ⟨dat xx, dat xx, cat_same s79 cv, cu, shx, shx, _, rfl, ?_⟩
  rw [show PyData.eqv (dat xx) (dat xx) = true from (eqv_con xx sx.g xx sx.g).mpr rfl]
  have dx : dep xx ≤ d := Nat.le_trans (red_dep red) (dep_br br)
  refine iteF ⟨_, rfl, v, xx, rfl, cat_same s79 cv, sx, by have := sx.n; omega, fun H10 s10 => ⟨_, rfl, _, _, rfl, rfl, _, congrArg V.bl (decide_eq_false (by omega)), iteF ?_⟩⟩
  have s710 := s79.trans s10
  have s510 := s57.trans s710
  refine ⟨_, rfl, _, rfl, _, rfl, ra, ea, v, rvs, rows, xs, es, xx, rfl, SqL.of (s510 _ _ hra5), hrows5.imp fun _ _ h => row_tk (same_tk s510) h, SqL.of (s510 _ _ hea5), hes5.imp fun _ _ h => eat_same s510 h, wfe2, by omega, cat_same s710 cv, sx, by have := sx.n; omega, fun H11 p11 bs s11 np11 hp11 lb mem => ?_⟩
  obtain ⟨b, hb⟩ : ∃ b, bs[t]? = some b := ⟨bs[t]'(by omega), List.getElem?_eq_getElem (by omega)⟩
  refine ⟨_, rfl, p11, bs.map V.bl, t, .bl b, rfl, rfl, SqL.of hp11, atI_nat (j := t) (by rw [List.getElem?_map, hb]; rfl), b, rfl, ?_⟩
  cases (mem t b hb).mpr ((isW_mem iw).up (red_up red))
  have s711 := s710.trans s11
  refine iteF ⟨_, rfl, _, rfl, _, rfl, _, _, rfl, rfl, _, rows, es, t, d + 1, rfl, wat_same (s7.trans s711) wat, wr, by omega, by omega, fun H12a v2 c2 x2 s12a cv2 iw2 red2 br2 wd2 => ?_⟩
  refine ⟨_, rfl, v2, v, x2, xx, rfl, cv2, cat_same (s711.trans s12a) cv, sml_red (by omega) br2 wd2 red2, sx, fun H12 b2 s12b iff => ⟨b2, rfl, ?_⟩⟩
  cases iff.mpr ((red_down red2).trans ((isW_down iw2 iw).trans (red_up red)))
  have s712 := (s711.trans s12a).trans s12b
  have s512 := s57.trans s712
  refine iteF ?_
  have dr12 := dr5.same s512
  have hra12 := s512 _ _ hra5
  have hea12 := s512 _ _ hea5
  have hn12 := s512 _ _ hn5
  have hrl12 := s512 _ _ hrl5
  have hrows12 := hrows5.imp fun _ _ h => row_tk (same_tk s512) h
  have hes12 := hes5.imp fun _ _ h => eat_same s512 h
  have cv12 := cat_same s712 cv
  refine ⟨5, rfl, by decide, by decide, for_range (fun i' σ H' => ∃ y10 y11, σ = [some (.ref a), some (.ref x), some (.ref nl), some (.ref rl), some (.ref ra), some (.ref ea), some (.int (t : Nat)), some (.int (d : Nat)), some (.ref W), some v, y10, y11] ∧ SB x H12 H' ∧ DrawAt K H' ⟨x, cl, c'⟩) ⟨_, _, rfl, SB.refl _ _, dr12⟩ ?_ ?_⟩
  · rintro i' σ H13 hi ⟨y10, y11, rfl, sb, dr13⟩
    refine ⟨_, rfl, _, _, rfl, rfl, _, rfl, ?_⟩
    by_cases z : (0 + ((i' : Nat) : Int)) < 2
    · rw [decide_eq_true z]
      refine iteT ⟨_, rfl, _, rfl, ⟨x, cl, c'⟩, v, xx, rfl, dr13, cat_tk (dr12.tk sb) _ _ cv12, sx, by have := sx.n; omega, fun H14 u e sb14 dr14 ce ge de ne we => ?_⟩
      have se : Sml e := ⟨ge, by have := sx.n; omega, by have := sx.w; omega⟩
      have ed : dep e ≤ d := Nat.le_trans de dx
      have sbb : SB x H12 H14 := sb.trans sb14
      have hra14 := sbb _ _ hra12 rax
      have hea14 := sbb _ _ hea12 eax
      have tk14 := dr12.tk sbb
      refine ⟨_, rfl, _, rfl, _, rfl, ra, ea, u, rvs, rows, xs, es, e, rfl, SqL.of hra14, hrows12.imp fun _ _ h => row_tk tk14 h, SqL.of hea14, hes12.imp fun _ _ h => eat_tk tk14 h, wfe2, by omega, ce, se, by have := se.n; omega, fun H15 p15 bs s15 np15 hp15 lb mem => ?_⟩
      obtain ⟨b, hb⟩ : ∃ b, bs[t]? = some b := ⟨bs[t]'(by omega), List.getElem?_eq_getElem (by omega)⟩
      refine ⟨_, rfl, p15, bs.map V.bl, t, .bl b, rfl, rfl, SqL.of hp15, atI_nat (j := t) (by rw [List.getElem?_map, hb]; rfl), b, rfl, ?_⟩
      cases hbb : b with
      | false => exact iteF (iteF ⟨_, _, rfl, sbb.trans (SB.of s15), dr14.same s15⟩)
      | true =>
        have le : Le xx e := (red_down red).trans (isW_below iw ed ((mem t b hb).mp hbb))
        refine iteT ⟨_, rfl, _, rfl, v, u, xx, e, rfl, cat_same s15 (cat_tk tk14 _ _ cv12), cat_same s15 ce, sx, se, fun H16 b2 s16 iff => ⟨b2, rfl, ?_⟩⟩
        cases iff.mpr le
        exact iteF ⟨_, _, rfl, sbb.trans (SB.of (s15.trans s16)), dr14.same (s15.trans s16)⟩
    · rw [decide_eq_false z]
      refine iteF ⟨_, rfl, _, rfl, _, rfl, _, rfl, ⟨x, cl, c'⟩, nl, rl, ns, rs, d, rfl, by omega, by omega, dr13, sb _ _ hn12 nlx, sb _ _ hrl12 rlx, nlx, rlx, al, fun H14 u e sb14 dr14 ce ge de ne we => ?_⟩
      have p4 : 4 ^ d ≤ 4 ^ 3 := Nat.pow_le_pow_right (by decide) (by omega)
      have se : Sml e := ⟨ge, by omega, by omega⟩
      have ed : dep e ≤ d := de
      have sbb : SB x H12 H14 := sb.trans sb14
      have hra14 := sbb _ _ hra12 rax
      have hea14 := sbb _ _ hea12 eax
      have tk14 := dr12.tk sbb
      refine ⟨_, rfl, _, rfl, _, rfl, ra, ea, u, rvs, rows, xs, es, e, rfl, SqL.of hra14, hrows12.imp fun _ _ h => row_tk tk14 h, SqL.of hea14, hes12.imp fun _ _ h => eat_tk tk14 h, wfe2, by omega, ce, se, by have := se.n; omega, fun H15 p15 bs s15 np15 hp15 lb mem => ?_⟩
      obtain ⟨b, hb⟩ : ∃ b, bs[t]? = some b := ⟨bs[t]'(by omega), List.getElem?_eq_getElem (by omega)⟩
      refine ⟨_, rfl, p15, bs.map V.bl, t, .bl b, rfl, rfl, SqL.of hp15, atI_nat (j := t) (by rw [List.getElem?_map, hb]; rfl), b, rfl, ?_⟩
      cases hbb : b with
      | false => exact iteF (iteF ⟨_, _, rfl, sbb.trans (SB.of s15), dr14.same s15⟩)
      | true =>
        have le : Le xx e := (red_down red).trans (isW_below iw ed ((mem t b hb).mp hbb))
        refine iteT ⟨_, rfl, _, rfl, v, u, xx, e, rfl, cat_same s15 (cat_tk tk14 _ _ cv12), cat_same s15 ce, sx, se, fun H16 b2 s16 iff => ⟨b2, rfl, ?_⟩⟩
        cases iff.mpr le
        exact iteF ⟨_, _, rfl, sbb.trans (SB.of (s15.trans s16)), dr14.same (s15.trans s16)⟩
  · rintro σ H13 ⟨y10, y11, rfl, sb, dr13⟩
    exact q _
end
end K77
end

section
set_option Elab.async false
set_option linter.all false
set_option maxRecDepth 100000
set_option maxHeartbeats 4000000
/-! all defs together -/
namespace K77
open PySem PySem.Spec PyProof.Rows L2
theorem ok_conjuncts {P : Program} {w : World} {K : PySem.W.Frag} {mg : Str → Option Value} {base : Heap} (D : Df K mg "conjuncts" s_conjuncts ["concept"]) (c_is_and : Cal P w K mg base 1 "is_and" (spIsAnd K)) : ∀ n, Cal P w K mg base (n + 1) "conjuncts" (spConjuncts K n)
  | 0 => cal_void D fun vs H Q E h => by
    obtain ⟨v, c, _, _, _, h, _⟩ := h
    exact absurd h (Nat.not_lt_zero _)
  | n + 1 => step_conjuncts D c_is_and (ok_conjuncts D c_is_and n)
theorem all_ok {P : Program} {w : World} {K : PySem.W.Frag} {mg : Str → Option Value} {CW CT CM CD CE p fz : Addr} {fdz : FuncData} (T : Tx K mg) (cW : WC K CW) (cT : TC K CT) (cM : MC K CM) (cD : DC K CD) (hE : mg "TooLarge" = some (.ref CE)) (hW : mg "World" = some (.ref CW))
    (zF : Fun K "size" "World.size" s_World_size fz fdz) (zb : Binds K fdz ["self"] []) (zp : PropOf K CW "size" p fz)
    (d_is_word : Df K mg "is_word" s_is_word ["thing"]) (d_is_shallow : Df K mg "is_shallow" s_is_shallow ["thing", "most"]) (d_is_concept : Df K mg "is_concept" s_is_concept ["thing"]) (d_check_concept : Df K mg "check_concept" s_check_concept ["thing"]) (d_inner : Df K mg "inner" s_inner ["concept"]) (d_text_of : Df K mg "text_of" s_text_of ["concept"]) (d_closed_text : Df K mg "closed_text" s_closed_text ["concept", "around"]) (d_gather : Df K mg "gather" s_gather ["concept", "found"]) (d_parts_of : Df K mg "parts_of" s_parts_of ["concepts"]) (d_has_none : Df K mg "has_none" s_has_none ["concept"]) (d_is_and : Df K mg "is_and" s_is_and ["concept"]) (d_conjuncts : Df K mg "conjuncts" s_conjuncts ["concept"]) (d_conjunction : Df K mg "conjunction" s_conjunction ["concepts"]) (d_is_ascending : Df K mg "is_ascending" s_is_ascending ["thing"]) (d_is_number : Df K mg "is_number" s_is_number ["thing", "many"]) (d_are_edges : Df K mg "are_edges" s_are_edges ["thing", "many"]) (d_World_names : Dm K CW "names" "World.names" s_World_names ["self"]) (d_World_edges : Dm K CW "edges" "World.edges" s_World_edges ["self"]) (d_check_world : Df K mg "check_world" s_check_world ["thing"]) (d_check_thing : Df K mg "check_thing" s_check_thing ["world", "thing"]) (d_World___init__ : Di K mg "World" CW "World.__init__" s_World___init__ ["self", "names", "edges"]) (d_Tree_grow : Dm K CT "grow" "Tree.grow" s_Tree_grow ["self", "concept", "parent", "role"]) (d_Tree___init__ : Di K mg "Tree" CT "Tree.__init__" s_Tree___init__ ["self", "concept"]) (d_Tree_role : Dm K CT "role" "Tree.role" s_Tree_role ["self", "node"]) (d_Tree_names : Dm K CT "names" "Tree.names" s_Tree_names ["self", "node"]) (d_Mapping___init__ : Di K mg "Mapping" CM "Mapping.__init__" s_Mapping___init__ ["self", "source", "target"]) (d_Mapping_child_image : Dm K CM "child_image" "Mapping.child_image" s_Mapping_child_image ["self", "child", "image"]) (d_Mapping_fits : Dm K CM "fits" "Mapping.fits" s_Mapping_fits ["self", "node", "image"]) (d_lies_plainly : Df K mg "lies_plainly" s_lies_plainly ["concept", "other"]) (d_plainly_within : Df K mg "plainly_within" s_plainly_within ["concept", "other"]) (d_reduced_tree : Df K mg "reduced_tree" s_reduced_tree ["one", "node"]) (d_reduced_of : Df K mg "reduced_of" s_reduced_of ["concept"]) (d_Depths___init__ : Di K mg "Depths" CD "Depths.__init__" s_Depths___init__ ["self", "world"]) (d_Depths_write : Dm K CD "write" "Depths.write" s_Depths_write ["self", "thing", "depth"]) (d_least_in_depth : Df K mg "least_in_depth" s_least_in_depth ["world", "thing", "depth"]) (d__law_cell_at : Df K mg "_law_cell_at" s__law_cell_at ["_law_script", "_law_k"]) (d__law_draw : Df K mg "_law_draw" s__law_draw ["_law_cell", "_law_k", "_law_bound"]) (d__law_number : Df K mg "_law_number" s__law_number ["_law_cell", "_law_k", "_law_bound"]) (d__law_next : Df K mg "_law_next" s__law_next ["_law_draw_here", "_law_bound"]) (d__law_pick : Df K mg "_law_pick" s__law_pick ["_law_draw_here", "_law_things"]) (d__law_words : Df K mg "_law_words" s__law_words ["_law_draw_here", "_law_many"]) (d__law_alphabet : Df K mg "_law_alphabet" s__law_alphabet ["_law_draw_here"]) (d__law_concept : Df K mg "_law_concept" s__law_concept ["_law_draw_here", "_law_names", "_law_roles", "_law_deep"]) (d__law_facts : Df K mg "_law_facts" s__law_facts ["_law_draw_here", "_law_names", "_law_roles", "_law_most"]) (d__law_text : Df K mg "_law_text" s__law_text ["_law_concept_here"]) (d__law_parts : Df K mg "_law_parts" s__law_parts ["_law_concept_here"]) (d__law_spoilt : Df K mg "_law_spoilt" s__law_spoilt ["_law_concept_here"]) (d__law_height : Df K mg "_law_height" s__law_height ["_law_concept_here"]) (d__law_inside : Df K mg "_law_inside" s__law_inside ["_law_rows", "_law_edges", "_law_concept_here"]) (d__law_node : Df K mg "_law_node" s__law_node ["_law_concept_here"]) (d__law_maps : Df K mg "_law_maps" s__law_maps ["_law_one", "_law_other"]) (d__law_plainly : Df K mg "_law_plainly" s__law_plainly ["_law_concept_here", "_law_other"]) (d__law_tree : Df K mg "_law_tree" s__law_tree ["_law_rows", "_law_edges", "_law_thing", "_law_depth"]) (d__law_written : Df K mg "_law_written" s__law_written ["_law_one"]) (d__law_larger : Df K mg "_law_larger" s__law_larger ["_law_draw_here", "_law_concept_here"]) (d__law_told : Df K mg "_law_told" s__law_told ["_law_world", "_law_thing", "_law_depth"]) {fl : Addr} {fdl : FuncData} (d_law : Fun K "law" "law" s_law fl fdl) (base : Heap) :
    FnOk P w K mg base CX0 106 fl fdl ["_law_script"] (spLaw K) := by
  have a1 := ok_is_word (P := P) (w := w) (base := base) d_is_word T
  have a2 := ok_is_concept d_is_concept T (ok_shallow d_is_shallow T a1 31)
  have a3 := ok_check_concept d_check_concept a2
  have a4 := ok_inner (P := P) (w := w) (base := base) d_inner T
  have a5 := (ok_text (P := P) (w := w) (base := base) d_text_of d_closed_text T 31).1
  have a6 := ok_gather d_gather a5 a4 31
  have a7 := ok_has_none d_has_none (ok_parts_of d_parts_of T a6)
  have a8 := ok_conjuncts d_conjuncts (ok_is_and (P := P) (w := w) (base := base) d_is_and T) 31
  have a9 := ok_conjunction (P := P) (w := w) (base := base) d_conjunction T
  have a10 := ok_is_ascending d_is_ascending T a1
  have a11 := ok_is_number (P := P) (w := w) (base := base) d_is_number T
  have a12 := ok_are_edges d_are_edges T a1 a11
  have a13 := ok_names (P := P) (w := w) (base := base) cW d_World_names T
  have a14 := ok_edges (P := P) (w := w) (base := base) cW d_World_edges T
  have a15 := ok_size (P := P) (w := w) (mg := mg) (base := base) cW zF zb zp T
  have a16 := ok_check_world (P := P) (w := w) (base := base) cW ⟨_, hW, rfl⟩ d_check_world T
  have a17 := ok_check_thing cW a15 d_check_thing T a11
  have a18 := ok_world cW d_World___init__ T a10 a12
  have a19 := ok_grow cT d_Tree_grow T a8 31
  have a20 := ok_tree cT d_Tree___init__ T a19
  have a21 := ok_role (P := P) (w := w) (mg := mg) (base := base) cT d_Tree_role T
  have a22 := ok_namesT (P := P) (w := w) (mg := mg) (base := base) cT d_Tree_names T
  have a23 := ok_mapping (P := P) (w := w) (base := base) cM d_Mapping___init__ T
  have a24 := ok_fits cM cT d_Mapping_fits d_Mapping_child_image T a21 a22 31
  have a25 := ok_lies d_lies_plainly T a7 a20 a23 a24
  have a26 := ok_within d_plainly_within a3 a25
  have a27 := ok_red_of d_reduced_of T a7 a20 (ok_red cT d_reduced_tree T a21 a22 a5 a25 a9 5)
  have a28 := ok_dinit (P := P) (w := w) (base := base) cD d_Depths___init__
  have a29 := ok_write cD d_Depths_write T a13 a14 a9 5
  have a30 := ok_least cD d_least_in_depth T a16 a17 a11 a27 a28 a29
  have b1 := ok_next d__law_next T (ok_cell_at (P := P) (w := w) (base := base) d__law_cell_at T) (ok_number d__law_number T (ok_draw d__law_draw T))
  have b2 := ok_pick d__law_pick T b1
  have b3 := ok_alphabet d__law_alphabet T b1 (ok_words d__law_words T b1 b2)
  have b4 := ok_conceptL d__law_concept T b1 b2 5
  have b5 := ok_facts d__law_facts T b1 b2
  have b6 := ok_textL (P := P) (w := w) (base := base) d__law_text T 31
  have b7 := ok_spoilt (P := P) (w := w) (base := base) d__law_spoilt T (ok_partsL d__law_parts T 31)
  have b8 := ok_plainlyL d__law_plainly T b7 (ok_maps d__law_maps T 31) (ok_nodeL d__law_node T 31)
  exact ok_law d_law T b3 b5 b1 a18 (ok_told d__law_told T hE a30) (ok_writtenL d__law_written T b6 b8 5) (ok_treeL d__law_tree T 5) (ok_height d__law_height T 31) (ok_inside d__law_inside T 31) a26 (ok_largerL d__law_larger T b1 31) b4
end K77
end

section
set_option Elab.async false
set_option linter.all false
set_option maxRecDepth 100000
set_option maxHeartbeats 8000000
/-! from the facts of the top -/
namespace K77
open PySem PySem.Spec PyProof.Rows L2
theorem fin_mk {w : World} {K : PySem.W.Frag} {h : Heap} {mg : Str → Option Value} {fa CW CT CM CD CE p kp : Addr} (X : K.In h) (G : h.Ns mainGlobals mg) (hfa : mg "law" = some (.ref fa)) {rest : List Value} {kod : Option Addr} {kn : Nat} {tk0 tk1 tk2 tk3 tk4 tk5 tk6 tk7 : Tok} {ksl : Array (Option Value)}
    {f0 f1 f2 f3 f4 f5 f6 f7 f8 f9 f10 f11 f12 f13 f14 f15 f16 f17 f18 f19 f20 f21 f22 f23 f24 f25 f26 f27 f28 f29 f30 f31 f32 f33 f34 f35 f36 f37 f38 f39 f40 f41 f42 f43 f44 f45 f46 f47 f48 f49 f50 f51 f52 f53 f54 f55 f56 f99 : Addr}
    {od0 an0 od1 an1 od2 an2 od3 an3 od4 an4 od5 an5 od6 an6 od7 an7 od8 an8 od9 an9 od10 an10 od11 an11 od12 an12 od13 an13 od14 an14 od15 an15 od16 an16 od17 an17 od18 an18 od19 an19 od20 an20 od21 an21 od22 an22 od23 an23 od24 an24 od25 an25 od26 an26 od27 an27 od28 an28 od29 an29 od30 an30 od31 an31 od32 an32 od33 an33 od34 an34 od35 an35 od36 an36 od37 an37 od38 an38 od39 an39 od40 an40 od41 an41 od42 an42 od43 an43 od44 an44 od45 an45 od46 an46 od47 an47 od48 an48 od49 an49 od50 an50 od51 an51 od52 an52 od53 an53 od54 an54 od55 an55 od56 an56 od99 an99 : Option Addr}
    {sl0 sl1 sl2 sl3 sl4 sl5 sl6 sl7 sl8 sl9 sl10 sl11 sl12 sl13 sl14 sl15 sl16 sl17 sl18 sl19 sl20 sl21 sl22 sl23 sl24 sl25 sl26 sl27 sl28 sl29 sl30 sl31 sl32 sl33 sl34 sl35 sl36 sl37 sl38 sl39 sl40 sl41 sl42 sl43 sl44 sl45 sl46 sl47 sl48 sl49 sl50 sl51 sl52 sl53 sl54 sl55 sl56 sl99 : Array (Option Value)}
    {oc0 kV0 dc0 pm0 cd0 ct0 oc1 kV1 dc1 pm1 cd1 ct1 oc2 kV2 dc2 pm2 cd2 ct2 oc3 kV3 dc3 pm3 cd3 ct3 oc4 kV4 dc4 pm4 cd4 ct4 oc5 kV5 dc5 pm5 cd5 ct5 oc6 kV6 dc6 pm6 cd6 ct6 oc7 kV7 dc7 pm7 cd7 ct7 oc8 kV8 dc8 pm8 cd8 ct8 oc9 kV9 dc9 pm9 cd9 ct9 oc10 kV10 dc10 pm10 cd10 ct10 oc11 kV11 dc11 pm11 cd11 ct11 oc12 kV12 dc12 pm12 cd12 ct12 oc13 kV13 dc13 pm13 cd13 ct13 oc14 kV14 dc14 pm14 cd14 ct14 oc15 kV15 dc15 pm15 cd15 ct15 oc16 kV16 dc16 pm16 cd16 ct16 oc17 kV17 dc17 pm17 cd17 ct17 oc18 kV18 dc18 pm18 cd18 ct18 oc19 kV19 dc19 pm19 cd19 ct19 oc20 kV20 dc20 pm20 cd20 ct20 oc21 kV21 dc21 pm21 cd21 ct21 oc22 kV22 dc22 pm22 cd22 ct22 oc23 kV23 dc23 pm23 cd23 ct23 oc24 kV24 dc24 pm24 cd24 ct24 oc25 kV25 dc25 pm25 cd25 ct25 oc26 kV26 dc26 pm26 cd26 ct26 oc27 kV27 dc27 pm27 cd27 ct27 oc28 kV28 dc28 pm28 cd28 ct28 oc29 kV29 dc29 pm29 cd29 ct29 oc30 kV30 dc30 pm30 cd30 ct30 oc31 kV31 dc31 pm31 cd31 ct31 oc32 kV32 dc32 pm32 cd32 ct32 oc33 kV33 dc33 pm33 cd33 ct33 oc34 kV34 dc34 pm34 cd34 ct34 oc35 kV35 dc35 pm35 cd35 ct35 oc36 kV36 dc36 pm36 cd36 ct36 oc37 kV37 dc37 pm37 cd37 ct37 oc38 kV38 dc38 pm38 cd38 ct38 oc39 kV39 dc39 pm39 cd39 ct39 oc40 kV40 dc40 pm40 cd40 ct40 oc41 kV41 dc41 pm41 cd41 ct41 oc42 kV42 dc42 pm42 cd42 ct42 oc43 kV43 dc43 pm43 cd43 ct43 oc44 kV44 dc44 pm44 cd44 ct44 oc45 kV45 dc45 pm45 cd45 ct45 oc46 kV46 dc46 pm46 cd46 ct46 oc47 kV47 dc47 pm47 cd47 ct47 oc48 kV48 dc48 pm48 cd48 ct48 oc49 kV49 dc49 pm49 cd49 ct49 oc50 kV50 dc50 pm50 cd50 ct50 oc51 kV51 dc51 pm51 cd51 ct51 oc52 kV52 dc52 pm52 cd52 ct52 oc53 kV53 dc53 pm53 cd53 ct53 oc54 kV54 dc54 pm54 cd54 ct54 oc55 kV55 dc55 pm55 cd55 ct55 oc56 kV56 dc56 pm56 cd56 ct56 oc99 kV99 dc99 pm99 cd99 ct99 : Value}
    (nCW : PySem.W.nsIn K mainGlobals "World" = some (some (.ref CW)))
    (nCT : PySem.W.nsIn K mainGlobals "Tree" = some (some (.ref CT)))
    (nCM : PySem.W.nsIn K mainGlobals "Mapping" = some (some (.ref CM)))
    (nCD : PySem.W.nsIn K mainGlobals "Depths" = some (some (.ref CD)))
    (nCE : PySem.W.nsIn K mainGlobals "TooLarge" = some (some (.ref CE)))
    (a0 : PySem.W.nsIn K mainGlobals "is_word" = some (some (.ref f0)))
    (l0 : K.lookup f0 = some ⟨oc0, od0, .func (PySem.W.fnOf "is_word" "is_word" (defArgs s_is_word) (defBody s_is_word) (defScope s_is_word) .none kV0 dc0 pm0 an0 cd0 ct0), sl0⟩)
    (c0 : PySem.W.codeIn K cd0 "is_word" = true)
    (k0 : PySem.W.keepIn K (.ref f0) = true)
    (a1 : PySem.W.nsIn K mainGlobals "is_shallow" = some (some (.ref f1)))
    (l1 : K.lookup f1 = some ⟨oc1, od1, .func (PySem.W.fnOf "is_shallow" "is_shallow" (defArgs s_is_shallow) (defBody s_is_shallow) (defScope s_is_shallow) .none kV1 dc1 pm1 an1 cd1 ct1), sl1⟩)
    (c1 : PySem.W.codeIn K cd1 "is_shallow" = true)
    (k1 : PySem.W.keepIn K (.ref f1) = true)
    (a2 : PySem.W.nsIn K mainGlobals "is_concept" = some (some (.ref f2)))
    (l2 : K.lookup f2 = some ⟨oc2, od2, .func (PySem.W.fnOf "is_concept" "is_concept" (defArgs s_is_concept) (defBody s_is_concept) (defScope s_is_concept) .none kV2 dc2 pm2 an2 cd2 ct2), sl2⟩)
    (c2 : PySem.W.codeIn K cd2 "is_concept" = true)
    (k2 : PySem.W.keepIn K (.ref f2) = true)
    (a3 : PySem.W.nsIn K mainGlobals "check_concept" = some (some (.ref f3)))
    (l3 : K.lookup f3 = some ⟨oc3, od3, .func (PySem.W.fnOf "check_concept" "check_concept" (defArgs s_check_concept) (defBody s_check_concept) (defScope s_check_concept) .none kV3 dc3 pm3 an3 cd3 ct3), sl3⟩)
    (c3 : PySem.W.codeIn K cd3 "check_concept" = true)
    (k3 : PySem.W.keepIn K (.ref f3) = true)
    (a4 : PySem.W.nsIn K mainGlobals "inner" = some (some (.ref f4)))
    (l4 : K.lookup f4 = some ⟨oc4, od4, .func (PySem.W.fnOf "inner" "inner" (defArgs s_inner) (defBody s_inner) (defScope s_inner) .none kV4 dc4 pm4 an4 cd4 ct4), sl4⟩)
    (c4 : PySem.W.codeIn K cd4 "inner" = true)
    (k4 : PySem.W.keepIn K (.ref f4) = true)
    (a5 : PySem.W.nsIn K mainGlobals "text_of" = some (some (.ref f5)))
    (l5 : K.lookup f5 = some ⟨oc5, od5, .func (PySem.W.fnOf "text_of" "text_of" (defArgs s_text_of) (defBody s_text_of) (defScope s_text_of) .none kV5 dc5 pm5 an5 cd5 ct5), sl5⟩)
    (c5 : PySem.W.codeIn K cd5 "text_of" = true)
    (k5 : PySem.W.keepIn K (.ref f5) = true)
    (a6 : PySem.W.nsIn K mainGlobals "closed_text" = some (some (.ref f6)))
    (l6 : K.lookup f6 = some ⟨oc6, od6, .func (PySem.W.fnOf "closed_text" "closed_text" (defArgs s_closed_text) (defBody s_closed_text) (defScope s_closed_text) .none kV6 dc6 pm6 an6 cd6 ct6), sl6⟩)
    (c6 : PySem.W.codeIn K cd6 "closed_text" = true)
    (k6 : PySem.W.keepIn K (.ref f6) = true)
    (a7 : PySem.W.nsIn K mainGlobals "gather" = some (some (.ref f7)))
    (l7 : K.lookup f7 = some ⟨oc7, od7, .func (PySem.W.fnOf "gather" "gather" (defArgs s_gather) (defBody s_gather) (defScope s_gather) .none kV7 dc7 pm7 an7 cd7 ct7), sl7⟩)
    (c7 : PySem.W.codeIn K cd7 "gather" = true)
    (k7 : PySem.W.keepIn K (.ref f7) = true)
    (a8 : PySem.W.nsIn K mainGlobals "parts_of" = some (some (.ref f8)))
    (l8 : K.lookup f8 = some ⟨oc8, od8, .func (PySem.W.fnOf "parts_of" "parts_of" (defArgs s_parts_of) (defBody s_parts_of) (defScope s_parts_of) .none kV8 dc8 pm8 an8 cd8 ct8), sl8⟩)
    (c8 : PySem.W.codeIn K cd8 "parts_of" = true)
    (k8 : PySem.W.keepIn K (.ref f8) = true)
    (a9 : PySem.W.nsIn K mainGlobals "has_none" = some (some (.ref f9)))
    (l9 : K.lookup f9 = some ⟨oc9, od9, .func (PySem.W.fnOf "has_none" "has_none" (defArgs s_has_none) (defBody s_has_none) (defScope s_has_none) .none kV9 dc9 pm9 an9 cd9 ct9), sl9⟩)
    (c9 : PySem.W.codeIn K cd9 "has_none" = true)
    (k9 : PySem.W.keepIn K (.ref f9) = true)
    (a10 : PySem.W.nsIn K mainGlobals "is_and" = some (some (.ref f10)))
    (l10 : K.lookup f10 = some ⟨oc10, od10, .func (PySem.W.fnOf "is_and" "is_and" (defArgs s_is_and) (defBody s_is_and) (defScope s_is_and) .none kV10 dc10 pm10 an10 cd10 ct10), sl10⟩)
    (c10 : PySem.W.codeIn K cd10 "is_and" = true)
    (k10 : PySem.W.keepIn K (.ref f10) = true)
    (a11 : PySem.W.nsIn K mainGlobals "conjuncts" = some (some (.ref f11)))
    (l11 : K.lookup f11 = some ⟨oc11, od11, .func (PySem.W.fnOf "conjuncts" "conjuncts" (defArgs s_conjuncts) (defBody s_conjuncts) (defScope s_conjuncts) .none kV11 dc11 pm11 an11 cd11 ct11), sl11⟩)
    (c11 : PySem.W.codeIn K cd11 "conjuncts" = true)
    (k11 : PySem.W.keepIn K (.ref f11) = true)
    (a12 : PySem.W.nsIn K mainGlobals "conjunction" = some (some (.ref f12)))
    (l12 : K.lookup f12 = some ⟨oc12, od12, .func (PySem.W.fnOf "conjunction" "conjunction" (defArgs s_conjunction) (defBody s_conjunction) (defScope s_conjunction) .none kV12 dc12 pm12 an12 cd12 ct12), sl12⟩)
    (c12 : PySem.W.codeIn K cd12 "conjunction" = true)
    (k12 : PySem.W.keepIn K (.ref f12) = true)
    (a13 : PySem.W.nsIn K mainGlobals "is_ascending" = some (some (.ref f13)))
    (l13 : K.lookup f13 = some ⟨oc13, od13, .func (PySem.W.fnOf "is_ascending" "is_ascending" (defArgs s_is_ascending) (defBody s_is_ascending) (defScope s_is_ascending) .none kV13 dc13 pm13 an13 cd13 ct13), sl13⟩)
    (c13 : PySem.W.codeIn K cd13 "is_ascending" = true)
    (k13 : PySem.W.keepIn K (.ref f13) = true)
    (a14 : PySem.W.nsIn K mainGlobals "is_number" = some (some (.ref f14)))
    (l14 : K.lookup f14 = some ⟨oc14, od14, .func (PySem.W.fnOf "is_number" "is_number" (defArgs s_is_number) (defBody s_is_number) (defScope s_is_number) .none kV14 dc14 pm14 an14 cd14 ct14), sl14⟩)
    (c14 : PySem.W.codeIn K cd14 "is_number" = true)
    (k14 : PySem.W.keepIn K (.ref f14) = true)
    (a15 : PySem.W.nsIn K mainGlobals "are_edges" = some (some (.ref f15)))
    (l15 : K.lookup f15 = some ⟨oc15, od15, .func (PySem.W.fnOf "are_edges" "are_edges" (defArgs s_are_edges) (defBody s_are_edges) (defScope s_are_edges) .none kV15 dc15 pm15 an15 cd15 ct15), sl15⟩)
    (c15 : PySem.W.codeIn K cd15 "are_edges" = true)
    (k15 : PySem.W.keepIn K (.ref f15) = true)
    (a16 : PySem.W.findIn K (.ref CW) "names" = some (some (.ref f16)))
    (i16 : PySem.W.isFn K (.ref f16) = true)
    (l16 : K.lookup f16 = some ⟨oc16, od16, .func (PySem.W.fnOf "names" "World.names" (defArgs s_World_names) (defBody s_World_names) (defScope s_World_names) .none kV16 dc16 pm16 an16 cd16 ct16), sl16⟩)
    (c16 : PySem.W.codeIn K cd16 "World.names" = true)
    (k16 : PySem.W.keepIn K (.ref f16) = true)
    (a17 : PySem.W.findIn K (.ref CW) "edges" = some (some (.ref f17)))
    (i17 : PySem.W.isFn K (.ref f17) = true)
    (l17 : K.lookup f17 = some ⟨oc17, od17, .func (PySem.W.fnOf "edges" "World.edges" (defArgs s_World_edges) (defBody s_World_edges) (defScope s_World_edges) .none kV17 dc17 pm17 an17 cd17 ct17), sl17⟩)
    (c17 : PySem.W.codeIn K cd17 "World.edges" = true)
    (k17 : PySem.W.keepIn K (.ref f17) = true)
    (a18 : PySem.W.nsIn K mainGlobals "check_world" = some (some (.ref f18)))
    (l18 : K.lookup f18 = some ⟨oc18, od18, .func (PySem.W.fnOf "check_world" "check_world" (defArgs s_check_world) (defBody s_check_world) (defScope s_check_world) .none kV18 dc18 pm18 an18 cd18 ct18), sl18⟩)
    (c18 : PySem.W.codeIn K cd18 "check_world" = true)
    (k18 : PySem.W.keepIn K (.ref f18) = true)
    (a19 : PySem.W.nsIn K mainGlobals "check_thing" = some (some (.ref f19)))
    (l19 : K.lookup f19 = some ⟨oc19, od19, .func (PySem.W.fnOf "check_thing" "check_thing" (defArgs s_check_thing) (defBody s_check_thing) (defScope s_check_thing) .none kV19 dc19 pm19 an19 cd19 ct19), sl19⟩)
    (c19 : PySem.W.codeIn K cd19 "check_thing" = true)
    (k19 : PySem.W.keepIn K (.ref f19) = true)
    (a20 : PySem.W.findIn K (.ref CW) "__init__" = some (some (.ref f20)))
    (i20 : PySem.W.isFn K (.ref f20) = true)
    (l20 : K.lookup f20 = some ⟨oc20, od20, .func (PySem.W.fnOf "__init__" "World.__init__" (defArgs s_World___init__) (defBody s_World___init__) (defScope s_World___init__) .none kV20 dc20 pm20 an20 cd20 ct20), sl20⟩)
    (c20 : PySem.W.codeIn K cd20 "World.__init__" = true)
    (k20 : PySem.W.keepIn K (.ref f20) = true)
    (a21 : PySem.W.findIn K (.ref CT) "grow" = some (some (.ref f21)))
    (i21 : PySem.W.isFn K (.ref f21) = true)
    (l21 : K.lookup f21 = some ⟨oc21, od21, .func (PySem.W.fnOf "grow" "Tree.grow" (defArgs s_Tree_grow) (defBody s_Tree_grow) (defScope s_Tree_grow) .none kV21 dc21 pm21 an21 cd21 ct21), sl21⟩)
    (c21 : PySem.W.codeIn K cd21 "Tree.grow" = true)
    (k21 : PySem.W.keepIn K (.ref f21) = true)
    (a22 : PySem.W.findIn K (.ref CT) "__init__" = some (some (.ref f22)))
    (i22 : PySem.W.isFn K (.ref f22) = true)
    (l22 : K.lookup f22 = some ⟨oc22, od22, .func (PySem.W.fnOf "__init__" "Tree.__init__" (defArgs s_Tree___init__) (defBody s_Tree___init__) (defScope s_Tree___init__) .none kV22 dc22 pm22 an22 cd22 ct22), sl22⟩)
    (c22 : PySem.W.codeIn K cd22 "Tree.__init__" = true)
    (k22 : PySem.W.keepIn K (.ref f22) = true)
    (a23 : PySem.W.findIn K (.ref CT) "role" = some (some (.ref f23)))
    (i23 : PySem.W.isFn K (.ref f23) = true)
    (l23 : K.lookup f23 = some ⟨oc23, od23, .func (PySem.W.fnOf "role" "Tree.role" (defArgs s_Tree_role) (defBody s_Tree_role) (defScope s_Tree_role) .none kV23 dc23 pm23 an23 cd23 ct23), sl23⟩)
    (c23 : PySem.W.codeIn K cd23 "Tree.role" = true)
    (k23 : PySem.W.keepIn K (.ref f23) = true)
    (a24 : PySem.W.findIn K (.ref CT) "names" = some (some (.ref f24)))
    (i24 : PySem.W.isFn K (.ref f24) = true)
    (l24 : K.lookup f24 = some ⟨oc24, od24, .func (PySem.W.fnOf "names" "Tree.names" (defArgs s_Tree_names) (defBody s_Tree_names) (defScope s_Tree_names) .none kV24 dc24 pm24 an24 cd24 ct24), sl24⟩)
    (c24 : PySem.W.codeIn K cd24 "Tree.names" = true)
    (k24 : PySem.W.keepIn K (.ref f24) = true)
    (a25 : PySem.W.findIn K (.ref CM) "__init__" = some (some (.ref f25)))
    (i25 : PySem.W.isFn K (.ref f25) = true)
    (l25 : K.lookup f25 = some ⟨oc25, od25, .func (PySem.W.fnOf "__init__" "Mapping.__init__" (defArgs s_Mapping___init__) (defBody s_Mapping___init__) (defScope s_Mapping___init__) .none kV25 dc25 pm25 an25 cd25 ct25), sl25⟩)
    (c25 : PySem.W.codeIn K cd25 "Mapping.__init__" = true)
    (k25 : PySem.W.keepIn K (.ref f25) = true)
    (a26 : PySem.W.findIn K (.ref CM) "child_image" = some (some (.ref f26)))
    (i26 : PySem.W.isFn K (.ref f26) = true)
    (l26 : K.lookup f26 = some ⟨oc26, od26, .func (PySem.W.fnOf "child_image" "Mapping.child_image" (defArgs s_Mapping_child_image) (defBody s_Mapping_child_image) (defScope s_Mapping_child_image) .none kV26 dc26 pm26 an26 cd26 ct26), sl26⟩)
    (c26 : PySem.W.codeIn K cd26 "Mapping.child_image" = true)
    (k26 : PySem.W.keepIn K (.ref f26) = true)
    (a27 : PySem.W.findIn K (.ref CM) "fits" = some (some (.ref f27)))
    (i27 : PySem.W.isFn K (.ref f27) = true)
    (l27 : K.lookup f27 = some ⟨oc27, od27, .func (PySem.W.fnOf "fits" "Mapping.fits" (defArgs s_Mapping_fits) (defBody s_Mapping_fits) (defScope s_Mapping_fits) .none kV27 dc27 pm27 an27 cd27 ct27), sl27⟩)
    (c27 : PySem.W.codeIn K cd27 "Mapping.fits" = true)
    (k27 : PySem.W.keepIn K (.ref f27) = true)
    (a28 : PySem.W.nsIn K mainGlobals "lies_plainly" = some (some (.ref f28)))
    (l28 : K.lookup f28 = some ⟨oc28, od28, .func (PySem.W.fnOf "lies_plainly" "lies_plainly" (defArgs s_lies_plainly) (defBody s_lies_plainly) (defScope s_lies_plainly) .none kV28 dc28 pm28 an28 cd28 ct28), sl28⟩)
    (c28 : PySem.W.codeIn K cd28 "lies_plainly" = true)
    (k28 : PySem.W.keepIn K (.ref f28) = true)
    (a29 : PySem.W.nsIn K mainGlobals "plainly_within" = some (some (.ref f29)))
    (l29 : K.lookup f29 = some ⟨oc29, od29, .func (PySem.W.fnOf "plainly_within" "plainly_within" (defArgs s_plainly_within) (defBody s_plainly_within) (defScope s_plainly_within) .none kV29 dc29 pm29 an29 cd29 ct29), sl29⟩)
    (c29 : PySem.W.codeIn K cd29 "plainly_within" = true)
    (k29 : PySem.W.keepIn K (.ref f29) = true)
    (a30 : PySem.W.nsIn K mainGlobals "reduced_tree" = some (some (.ref f30)))
    (l30 : K.lookup f30 = some ⟨oc30, od30, .func (PySem.W.fnOf "reduced_tree" "reduced_tree" (defArgs s_reduced_tree) (defBody s_reduced_tree) (defScope s_reduced_tree) .none kV30 dc30 pm30 an30 cd30 ct30), sl30⟩)
    (c30 : PySem.W.codeIn K cd30 "reduced_tree" = true)
    (k30 : PySem.W.keepIn K (.ref f30) = true)
    (a31 : PySem.W.nsIn K mainGlobals "reduced_of" = some (some (.ref f31)))
    (l31 : K.lookup f31 = some ⟨oc31, od31, .func (PySem.W.fnOf "reduced_of" "reduced_of" (defArgs s_reduced_of) (defBody s_reduced_of) (defScope s_reduced_of) .none kV31 dc31 pm31 an31 cd31 ct31), sl31⟩)
    (c31 : PySem.W.codeIn K cd31 "reduced_of" = true)
    (k31 : PySem.W.keepIn K (.ref f31) = true)
    (a32 : PySem.W.findIn K (.ref CD) "__init__" = some (some (.ref f32)))
    (i32 : PySem.W.isFn K (.ref f32) = true)
    (l32 : K.lookup f32 = some ⟨oc32, od32, .func (PySem.W.fnOf "__init__" "Depths.__init__" (defArgs s_Depths___init__) (defBody s_Depths___init__) (defScope s_Depths___init__) .none kV32 dc32 pm32 an32 cd32 ct32), sl32⟩)
    (c32 : PySem.W.codeIn K cd32 "Depths.__init__" = true)
    (k32 : PySem.W.keepIn K (.ref f32) = true)
    (a33 : PySem.W.findIn K (.ref CD) "write" = some (some (.ref f33)))
    (i33 : PySem.W.isFn K (.ref f33) = true)
    (l33 : K.lookup f33 = some ⟨oc33, od33, .func (PySem.W.fnOf "write" "Depths.write" (defArgs s_Depths_write) (defBody s_Depths_write) (defScope s_Depths_write) .none kV33 dc33 pm33 an33 cd33 ct33), sl33⟩)
    (c33 : PySem.W.codeIn K cd33 "Depths.write" = true)
    (k33 : PySem.W.keepIn K (.ref f33) = true)
    (a34 : PySem.W.nsIn K mainGlobals "least_in_depth" = some (some (.ref f34)))
    (l34 : K.lookup f34 = some ⟨oc34, od34, .func (PySem.W.fnOf "least_in_depth" "least_in_depth" (defArgs s_least_in_depth) (defBody s_least_in_depth) (defScope s_least_in_depth) .none kV34 dc34 pm34 an34 cd34 ct34), sl34⟩)
    (c34 : PySem.W.codeIn K cd34 "least_in_depth" = true)
    (k34 : PySem.W.keepIn K (.ref f34) = true)
    (a35 : PySem.W.nsIn K mainGlobals "_law_cell_at" = some (some (.ref f35)))
    (l35 : K.lookup f35 = some ⟨oc35, od35, .func (PySem.W.fnOf "_law_cell_at" "_law_cell_at" (defArgs s__law_cell_at) (defBody s__law_cell_at) (defScope s__law_cell_at) .none kV35 dc35 pm35 an35 cd35 ct35), sl35⟩)
    (c35 : PySem.W.codeIn K cd35 "_law_cell_at" = true)
    (k35 : PySem.W.keepIn K (.ref f35) = true)
    (a36 : PySem.W.nsIn K mainGlobals "_law_draw" = some (some (.ref f36)))
    (l36 : K.lookup f36 = some ⟨oc36, od36, .func (PySem.W.fnOf "_law_draw" "_law_draw" (defArgs s__law_draw) (defBody s__law_draw) (defScope s__law_draw) .none kV36 dc36 pm36 an36 cd36 ct36), sl36⟩)
    (c36 : PySem.W.codeIn K cd36 "_law_draw" = true)
    (k36 : PySem.W.keepIn K (.ref f36) = true)
    (a37 : PySem.W.nsIn K mainGlobals "_law_number" = some (some (.ref f37)))
    (l37 : K.lookup f37 = some ⟨oc37, od37, .func (PySem.W.fnOf "_law_number" "_law_number" (defArgs s__law_number) (defBody s__law_number) (defScope s__law_number) .none kV37 dc37 pm37 an37 cd37 ct37), sl37⟩)
    (c37 : PySem.W.codeIn K cd37 "_law_number" = true)
    (k37 : PySem.W.keepIn K (.ref f37) = true)
    (a38 : PySem.W.nsIn K mainGlobals "_law_next" = some (some (.ref f38)))
    (l38 : K.lookup f38 = some ⟨oc38, od38, .func (PySem.W.fnOf "_law_next" "_law_next" (defArgs s__law_next) (defBody s__law_next) (defScope s__law_next) .none kV38 dc38 pm38 an38 cd38 ct38), sl38⟩)
    (c38 : PySem.W.codeIn K cd38 "_law_next" = true)
    (k38 : PySem.W.keepIn K (.ref f38) = true)
    (a39 : PySem.W.nsIn K mainGlobals "_law_pick" = some (some (.ref f39)))
    (l39 : K.lookup f39 = some ⟨oc39, od39, .func (PySem.W.fnOf "_law_pick" "_law_pick" (defArgs s__law_pick) (defBody s__law_pick) (defScope s__law_pick) .none kV39 dc39 pm39 an39 cd39 ct39), sl39⟩)
    (c39 : PySem.W.codeIn K cd39 "_law_pick" = true)
    (k39 : PySem.W.keepIn K (.ref f39) = true)
    (a40 : PySem.W.nsIn K mainGlobals "_law_words" = some (some (.ref f40)))
    (l40 : K.lookup f40 = some ⟨oc40, od40, .func (PySem.W.fnOf "_law_words" "_law_words" (defArgs s__law_words) (defBody s__law_words) (defScope s__law_words) .none kV40 dc40 pm40 an40 cd40 ct40), sl40⟩)
    (c40 : PySem.W.codeIn K cd40 "_law_words" = true)
    (k40 : PySem.W.keepIn K (.ref f40) = true)
    (a41 : PySem.W.nsIn K mainGlobals "_law_alphabet" = some (some (.ref f41)))
    (l41 : K.lookup f41 = some ⟨oc41, od41, .func (PySem.W.fnOf "_law_alphabet" "_law_alphabet" (defArgs s__law_alphabet) (defBody s__law_alphabet) (defScope s__law_alphabet) .none kV41 dc41 pm41 an41 cd41 ct41), sl41⟩)
    (c41 : PySem.W.codeIn K cd41 "_law_alphabet" = true)
    (k41 : PySem.W.keepIn K (.ref f41) = true)
    (a42 : PySem.W.nsIn K mainGlobals "_law_concept" = some (some (.ref f42)))
    (l42 : K.lookup f42 = some ⟨oc42, od42, .func (PySem.W.fnOf "_law_concept" "_law_concept" (defArgs s__law_concept) (defBody s__law_concept) (defScope s__law_concept) .none kV42 dc42 pm42 an42 cd42 ct42), sl42⟩)
    (c42 : PySem.W.codeIn K cd42 "_law_concept" = true)
    (k42 : PySem.W.keepIn K (.ref f42) = true)
    (a43 : PySem.W.nsIn K mainGlobals "_law_facts" = some (some (.ref f43)))
    (l43 : K.lookup f43 = some ⟨oc43, od43, .func (PySem.W.fnOf "_law_facts" "_law_facts" (defArgs s__law_facts) (defBody s__law_facts) (defScope s__law_facts) .none kV43 dc43 pm43 an43 cd43 ct43), sl43⟩)
    (c43 : PySem.W.codeIn K cd43 "_law_facts" = true)
    (k43 : PySem.W.keepIn K (.ref f43) = true)
    (a44 : PySem.W.nsIn K mainGlobals "_law_text" = some (some (.ref f44)))
    (l44 : K.lookup f44 = some ⟨oc44, od44, .func (PySem.W.fnOf "_law_text" "_law_text" (defArgs s__law_text) (defBody s__law_text) (defScope s__law_text) .none kV44 dc44 pm44 an44 cd44 ct44), sl44⟩)
    (c44 : PySem.W.codeIn K cd44 "_law_text" = true)
    (k44 : PySem.W.keepIn K (.ref f44) = true)
    (a45 : PySem.W.nsIn K mainGlobals "_law_parts" = some (some (.ref f45)))
    (l45 : K.lookup f45 = some ⟨oc45, od45, .func (PySem.W.fnOf "_law_parts" "_law_parts" (defArgs s__law_parts) (defBody s__law_parts) (defScope s__law_parts) .none kV45 dc45 pm45 an45 cd45 ct45), sl45⟩)
    (c45 : PySem.W.codeIn K cd45 "_law_parts" = true)
    (k45 : PySem.W.keepIn K (.ref f45) = true)
    (a46 : PySem.W.nsIn K mainGlobals "_law_spoilt" = some (some (.ref f46)))
    (l46 : K.lookup f46 = some ⟨oc46, od46, .func (PySem.W.fnOf "_law_spoilt" "_law_spoilt" (defArgs s__law_spoilt) (defBody s__law_spoilt) (defScope s__law_spoilt) .none kV46 dc46 pm46 an46 cd46 ct46), sl46⟩)
    (c46 : PySem.W.codeIn K cd46 "_law_spoilt" = true)
    (k46 : PySem.W.keepIn K (.ref f46) = true)
    (a47 : PySem.W.nsIn K mainGlobals "_law_height" = some (some (.ref f47)))
    (l47 : K.lookup f47 = some ⟨oc47, od47, .func (PySem.W.fnOf "_law_height" "_law_height" (defArgs s__law_height) (defBody s__law_height) (defScope s__law_height) .none kV47 dc47 pm47 an47 cd47 ct47), sl47⟩)
    (c47 : PySem.W.codeIn K cd47 "_law_height" = true)
    (k47 : PySem.W.keepIn K (.ref f47) = true)
    (a48 : PySem.W.nsIn K mainGlobals "_law_inside" = some (some (.ref f48)))
    (l48 : K.lookup f48 = some ⟨oc48, od48, .func (PySem.W.fnOf "_law_inside" "_law_inside" (defArgs s__law_inside) (defBody s__law_inside) (defScope s__law_inside) .none kV48 dc48 pm48 an48 cd48 ct48), sl48⟩)
    (c48 : PySem.W.codeIn K cd48 "_law_inside" = true)
    (k48 : PySem.W.keepIn K (.ref f48) = true)
    (a49 : PySem.W.nsIn K mainGlobals "_law_node" = some (some (.ref f49)))
    (l49 : K.lookup f49 = some ⟨oc49, od49, .func (PySem.W.fnOf "_law_node" "_law_node" (defArgs s__law_node) (defBody s__law_node) (defScope s__law_node) .none kV49 dc49 pm49 an49 cd49 ct49), sl49⟩)
    (c49 : PySem.W.codeIn K cd49 "_law_node" = true)
    (k49 : PySem.W.keepIn K (.ref f49) = true)
    (a50 : PySem.W.nsIn K mainGlobals "_law_maps" = some (some (.ref f50)))
    (l50 : K.lookup f50 = some ⟨oc50, od50, .func (PySem.W.fnOf "_law_maps" "_law_maps" (defArgs s__law_maps) (defBody s__law_maps) (defScope s__law_maps) .none kV50 dc50 pm50 an50 cd50 ct50), sl50⟩)
    (c50 : PySem.W.codeIn K cd50 "_law_maps" = true)
    (k50 : PySem.W.keepIn K (.ref f50) = true)
    (a51 : PySem.W.nsIn K mainGlobals "_law_plainly" = some (some (.ref f51)))
    (l51 : K.lookup f51 = some ⟨oc51, od51, .func (PySem.W.fnOf "_law_plainly" "_law_plainly" (defArgs s__law_plainly) (defBody s__law_plainly) (defScope s__law_plainly) .none kV51 dc51 pm51 an51 cd51 ct51), sl51⟩)
    (c51 : PySem.W.codeIn K cd51 "_law_plainly" = true)
    (k51 : PySem.W.keepIn K (.ref f51) = true)
    (a52 : PySem.W.nsIn K mainGlobals "_law_tree" = some (some (.ref f52)))
    (l52 : K.lookup f52 = some ⟨oc52, od52, .func (PySem.W.fnOf "_law_tree" "_law_tree" (defArgs s__law_tree) (defBody s__law_tree) (defScope s__law_tree) .none kV52 dc52 pm52 an52 cd52 ct52), sl52⟩)
    (c52 : PySem.W.codeIn K cd52 "_law_tree" = true)
    (k52 : PySem.W.keepIn K (.ref f52) = true)
    (a53 : PySem.W.nsIn K mainGlobals "_law_written" = some (some (.ref f53)))
    (l53 : K.lookup f53 = some ⟨oc53, od53, .func (PySem.W.fnOf "_law_written" "_law_written" (defArgs s__law_written) (defBody s__law_written) (defScope s__law_written) .none kV53 dc53 pm53 an53 cd53 ct53), sl53⟩)
    (c53 : PySem.W.codeIn K cd53 "_law_written" = true)
    (k53 : PySem.W.keepIn K (.ref f53) = true)
    (a54 : PySem.W.nsIn K mainGlobals "_law_larger" = some (some (.ref f54)))
    (l54 : K.lookup f54 = some ⟨oc54, od54, .func (PySem.W.fnOf "_law_larger" "_law_larger" (defArgs s__law_larger) (defBody s__law_larger) (defScope s__law_larger) .none kV54 dc54 pm54 an54 cd54 ct54), sl54⟩)
    (c54 : PySem.W.codeIn K cd54 "_law_larger" = true)
    (k54 : PySem.W.keepIn K (.ref f54) = true)
    (a55 : PySem.W.nsIn K mainGlobals "_law_told" = some (some (.ref f55)))
    (l55 : K.lookup f55 = some ⟨oc55, od55, .func (PySem.W.fnOf "_law_told" "_law_told" (defArgs s__law_told) (defBody s__law_told) (defScope s__law_told) .none kV55 dc55 pm55 an55 cd55 ct55), sl55⟩)
    (c55 : PySem.W.codeIn K cd55 "_law_told" = true)
    (k55 : PySem.W.keepIn K (.ref f55) = true)
    (a56 : PySem.W.nsIn K mainGlobals "law" = some (some (.ref f56)))
    (l56 : K.lookup f56 = some ⟨oc56, od56, .func (PySem.W.fnOf "law" "law" (defArgs s_law) (defBody s_law) (defScope s_law) .none kV56 dc56 pm56 an56 cd56 ct56), sl56⟩)
    (c56 : PySem.W.codeIn K cd56 "law" = true)
    (k56 : PySem.W.keepIn K (.ref f56) = true)
    (pgCW : PySem.W.plainGet K CW Str.empty = true)
    (hdCW : PySem.W.hasDictIn K CW = true)
    (poCW : PySem.W.plainOver K CW = true)
    (saCW : PySem.W.findIn K (.ref CW) "__setattr__" = some (some (.builtin "object.__setattr__")))
    (mkCW : PySem.W.makesIn K CW = true)
    (kcCW : PySem.W.keepIn K (.ref CW) = true)
    (noCW0 : PySem.W.findIn K (.ref CW) "_names" = some none)
    (noCW1 : PySem.W.findIn K (.ref CW) "_edges" = some none)
    (noCW2 : PySem.W.findIn K (.ref CW) "_after" = some none)
    (pgCT : PySem.W.plainGet K CT Str.empty = true)
    (hdCT : PySem.W.hasDictIn K CT = true)
    (poCT : PySem.W.plainOver K CT = true)
    (saCT : PySem.W.findIn K (.ref CT) "__setattr__" = some (some (.builtin "object.__setattr__")))
    (mkCT : PySem.W.makesIn K CT = true)
    (kcCT : PySem.W.keepIn K (.ref CT) = true)
    (noCT0 : PySem.W.findIn K (.ref CT) "rows" = some none)
    (noCT1 : PySem.W.findIn K (.ref CT) "below" = some none)
    (pgCM : PySem.W.plainGet K CM Str.empty = true)
    (hdCM : PySem.W.hasDictIn K CM = true)
    (poCM : PySem.W.plainOver K CM = true)
    (saCM : PySem.W.findIn K (.ref CM) "__setattr__" = some (some (.builtin "object.__setattr__")))
    (mkCM : PySem.W.makesIn K CM = true)
    (kcCM : PySem.W.keepIn K (.ref CM) = true)
    (noCM0 : PySem.W.findIn K (.ref CM) "source" = some none)
    (noCM1 : PySem.W.findIn K (.ref CM) "target" = some none)
    (noCM2 : PySem.W.findIn K (.ref CM) "known" = some none)
    (pgCD : PySem.W.plainGet K CD Str.empty = true)
    (hdCD : PySem.W.hasDictIn K CD = true)
    (poCD : PySem.W.plainOver K CD = true)
    (saCD : PySem.W.findIn K (.ref CD) "__setattr__" = some (some (.builtin "object.__setattr__")))
    (mkCD : PySem.W.makesIn K CD = true)
    (kcCD : PySem.W.keepIn K (.ref CD) = true)
    (noCD0 : PySem.W.findIn K (.ref CD) "world" = some none)
    (noCD1 : PySem.W.findIn K (.ref CD) "nodes" = some none)
    (wha : PySem.W.findIn K (.ref CW) "__class__" = some (some (.builtin "object.__class__")))
    (whn : PySem.W.specialIn K (.builtin "object.__class__") "__get__" = some (some (.builtin "getset_descriptor.__get__")))
    (wtk : PySem.W.takesIn K (.builtin "object.__class__") = some true)
    (whm : PySem.W.mroIn K CW (.type "object") = some true)
    (zat : PySem.W.findIn K (.ref CW) "size" = some (some (.ref p)))
    (zget : PySem.W.specialIn K (.ref p) "__get__" = some (some (.builtin "property.__get__")))
    (ztak : PySem.W.takesIn K (.ref p) = some true)
    (zrec : PySem.W.recIn K p "property" = some (.ref f99 :: rest))
    (l99 : K.lookup f99 = some ⟨oc99, od99, .func (PySem.W.fnOf "size" "World.size" (defArgs s_World_size) (defBody s_World_size) (defScope s_World_size) .none kV99 dc99 pm99 an99 cd99 ct99), sl99⟩)
    (c99 : PySem.W.codeIn K cd99 "World.size" = true)
    (k99 : PySem.W.keepIn K (.ref f99) = true)
    (t_isinstance : PySem.W.nsIn K mainGlobals "isinstance" = some none)
    (t_str : PySem.W.nsIn K mainGlobals "str" = some none)
    (t_tuple : PySem.W.nsIn K mainGlobals "tuple" = some none)
    (t_list : PySem.W.nsIn K mainGlobals "list" = some none)
    (t_int : PySem.W.nsIn K mainGlobals "int" = some none)
    (t_bool : PySem.W.nsIn K mainGlobals "bool" = some none)
    (t_len : PySem.W.nsIn K mainGlobals "len" = some none)
    (t_all : PySem.W.nsIn K mainGlobals "all" = some none)
    (t_any : PySem.W.nsIn K mainGlobals "any" = some none)
    (t_max : PySem.W.nsIn K mainGlobals "max" = some none)
    (t_zip : PySem.W.nsIn K mainGlobals "zip" = some none)
    (t_range : PySem.W.nsIn K mainGlobals "range" = some none)
    (t_sorted : PySem.W.nsIn K mainGlobals "sorted" = some none)
    (tLET : PySem.W.nsIn K mainGlobals "LETTERS" = some (some (.str "abcdefghijklmnopqrstuvwxyz" tk0)))
    (tLONGEST : PySem.W.nsIn K mainGlobals "LONGEST" = some (some (.int 12 tk1)))
    (tDEEPEST : PySem.W.nsIn K mainGlobals "DEEPEST" = some (some (.int 100 tk2)))
    (tMOST_DEPTH : PySem.W.nsIn K mainGlobals "MOST_DEPTH" = some (some (.int 20 tk3)))
    (tMOST_NODES : PySem.W.nsIn K mainGlobals "MOST_NODES" = some (some (.int 2000 tk4)))
    (tKEPT : PySem.W.nsIn K mainGlobals "KEPT" = some (some (.ref kp)))
    (lKEPT : K.lookup kp = some ⟨.type "tuple", kod, .seq #[.str "all" tk5, .str "none" tk6, .str "some" tk7] kn, ksl⟩) :
    ∃ fd : FuncData, (∀ (s : Shared) (u : Value), BindsTo s fd ⟨[u], []⟩ [("_law_script", u)]) ∧ ∀ base : Heap, K.In base → base.Ns mainGlobals mg → FnOk PySem.Challenge.rw_conceptworlds_k77_whole_depths.prog w K mg base CX0 106 fa fd ["_law_script"] (spLaw K) := by
  have T : Tx K mg := ⟨PySem.W.mg_none_of X G t_isinstance, PySem.W.mg_none_of X G t_str, PySem.W.mg_none_of X G t_tuple, PySem.W.mg_none_of X G t_list, PySem.W.mg_none_of X G t_int, PySem.W.mg_none_of X G t_bool, PySem.W.mg_none_of X G t_len, PySem.W.mg_none_of X G t_all, PySem.W.mg_none_of X G t_any, PySem.W.mg_none_of X G t_max, PySem.W.mg_none_of X G t_zip, PySem.W.mg_none_of X G t_range, PySem.W.mg_none_of X G t_sorted, ⟨_, PySem.W.mg_of X G tLET, _, rfl⟩, ⟨kp, ⟨_, PySem.W.mg_of X G tKEPT, rfl⟩, fun H => .inr ⟨_, _, _, lKEPT, rfl, rfl, (show 3 ≤ sizeLine by decide), .cons ⟨_, rfl⟩ (.cons ⟨_, rfl⟩ (.cons ⟨_, rfl⟩ .nil))⟩⟩, ⟨_, PySem.W.mg_of X G tLONGEST, _, rfl⟩, ⟨_, PySem.W.mg_of X G tDEEPEST, _, rfl⟩, ⟨_, PySem.W.mg_of X G tMOST_DEPTH, _, rfl⟩, ⟨_, PySem.W.mg_of X G tMOST_NODES, _, rfl⟩⟩
  have cW : WC K CW := ⟨⟨pgCW, hdCW, poCW, saCW⟩, noCW0, noCW1, noCW2, wha, whn, wtk, whm⟩
  have cT : TC K CT := ⟨⟨pgCT, hdCT, poCT, saCT⟩, noCT0, noCT1⟩
  have cM : MC K CM := ⟨⟨pgCM, hdCM, poCM, saCM⟩, noCM0, noCM1, noCM2⟩
  have cD : DC K CD := ⟨⟨pgCD, hdCD, poCD, saCD⟩, noCD0, noCD1⟩
  have d_is_word : Df K mg "is_word" s_is_word ["thing"] := ⟨f0, _, fun_mk l0 c0 k0, PySem.W.mg_of X G a0, (fun_mk (st := s_is_word) l0 c0 k0).binds (fun _ _ _ _ _ _ us hl => match us, hl with | [_], _ => rfl)⟩
  have d_is_shallow : Df K mg "is_shallow" s_is_shallow ["thing", "most"] := ⟨f1, _, fun_mk l1 c1 k1, PySem.W.mg_of X G a1, (fun_mk (st := s_is_shallow) l1 c1 k1).binds (fun _ _ _ _ _ _ us hl => match us, hl with | [_, _], _ => rfl)⟩
  have d_is_concept : Df K mg "is_concept" s_is_concept ["thing"] := ⟨f2, _, fun_mk l2 c2 k2, PySem.W.mg_of X G a2, (fun_mk (st := s_is_concept) l2 c2 k2).binds (fun _ _ _ _ _ _ us hl => match us, hl with | [_], _ => rfl)⟩
  have d_check_concept : Df K mg "check_concept" s_check_concept ["thing"] := ⟨f3, _, fun_mk l3 c3 k3, PySem.W.mg_of X G a3, (fun_mk (st := s_check_concept) l3 c3 k3).binds (fun _ _ _ _ _ _ us hl => match us, hl with | [_], _ => rfl)⟩
  have d_inner : Df K mg "inner" s_inner ["concept"] := ⟨f4, _, fun_mk l4 c4 k4, PySem.W.mg_of X G a4, (fun_mk (st := s_inner) l4 c4 k4).binds (fun _ _ _ _ _ _ us hl => match us, hl with | [_], _ => rfl)⟩
  have d_text_of : Df K mg "text_of" s_text_of ["concept"] := ⟨f5, _, fun_mk l5 c5 k5, PySem.W.mg_of X G a5, (fun_mk (st := s_text_of) l5 c5 k5).binds (fun _ _ _ _ _ _ us hl => match us, hl with | [_], _ => rfl)⟩
  have d_closed_text : Df K mg "closed_text" s_closed_text ["concept", "around"] := ⟨f6, _, fun_mk l6 c6 k6, PySem.W.mg_of X G a6, (fun_mk (st := s_closed_text) l6 c6 k6).binds (fun _ _ _ _ _ _ us hl => match us, hl with | [_, _], _ => rfl)⟩
  have d_gather : Df K mg "gather" s_gather ["concept", "found"] := ⟨f7, _, fun_mk l7 c7 k7, PySem.W.mg_of X G a7, (fun_mk (st := s_gather) l7 c7 k7).binds (fun _ _ _ _ _ _ us hl => match us, hl with | [_, _], _ => rfl)⟩
  have d_parts_of : Df K mg "parts_of" s_parts_of ["concepts"] := ⟨f8, _, fun_mk l8 c8 k8, PySem.W.mg_of X G a8, (fun_mk (st := s_parts_of) l8 c8 k8).binds (fun _ _ _ _ _ _ us hl => match us, hl with | [_], _ => rfl)⟩
  have d_has_none : Df K mg "has_none" s_has_none ["concept"] := ⟨f9, _, fun_mk l9 c9 k9, PySem.W.mg_of X G a9, (fun_mk (st := s_has_none) l9 c9 k9).binds (fun _ _ _ _ _ _ us hl => match us, hl with | [_], _ => rfl)⟩
  have d_is_and : Df K mg "is_and" s_is_and ["concept"] := ⟨f10, _, fun_mk l10 c10 k10, PySem.W.mg_of X G a10, (fun_mk (st := s_is_and) l10 c10 k10).binds (fun _ _ _ _ _ _ us hl => match us, hl with | [_], _ => rfl)⟩
  have d_conjuncts : Df K mg "conjuncts" s_conjuncts ["concept"] := ⟨f11, _, fun_mk l11 c11 k11, PySem.W.mg_of X G a11, (fun_mk (st := s_conjuncts) l11 c11 k11).binds (fun _ _ _ _ _ _ us hl => match us, hl with | [_], _ => rfl)⟩
  have d_conjunction : Df K mg "conjunction" s_conjunction ["concepts"] := ⟨f12, _, fun_mk l12 c12 k12, PySem.W.mg_of X G a12, (fun_mk (st := s_conjunction) l12 c12 k12).binds (fun _ _ _ _ _ _ us hl => match us, hl with | [_], _ => rfl)⟩
  have d_is_ascending : Df K mg "is_ascending" s_is_ascending ["thing"] := ⟨f13, _, fun_mk l13 c13 k13, PySem.W.mg_of X G a13, (fun_mk (st := s_is_ascending) l13 c13 k13).binds (fun _ _ _ _ _ _ us hl => match us, hl with | [_], _ => rfl)⟩
  have d_is_number : Df K mg "is_number" s_is_number ["thing", "many"] := ⟨f14, _, fun_mk l14 c14 k14, PySem.W.mg_of X G a14, (fun_mk (st := s_is_number) l14 c14 k14).binds (fun _ _ _ _ _ _ us hl => match us, hl with | [_, _], _ => rfl)⟩
  have d_are_edges : Df K mg "are_edges" s_are_edges ["thing", "many"] := ⟨f15, _, fun_mk l15 c15 k15, PySem.W.mg_of X G a15, (fun_mk (st := s_are_edges) l15 c15 k15).binds (fun _ _ _ _ _ _ us hl => match us, hl with | [_, _], _ => rfl)⟩
  have d_World_names : Dm K CW "names" "World.names" s_World_names ["self"] := ⟨f16, _, fun_mk l16 c16 k16, ⟨a16, i16, k16⟩, (fun_mk (st := s_World_names) l16 c16 k16).binds (fun _ _ _ _ _ _ us hl => match us, hl with | [_], _ => rfl)⟩
  have d_World_edges : Dm K CW "edges" "World.edges" s_World_edges ["self"] := ⟨f17, _, fun_mk l17 c17 k17, ⟨a17, i17, k17⟩, (fun_mk (st := s_World_edges) l17 c17 k17).binds (fun _ _ _ _ _ _ us hl => match us, hl with | [_], _ => rfl)⟩
  have d_check_world : Df K mg "check_world" s_check_world ["thing"] := ⟨f18, _, fun_mk l18 c18 k18, PySem.W.mg_of X G a18, (fun_mk (st := s_check_world) l18 c18 k18).binds (fun _ _ _ _ _ _ us hl => match us, hl with | [_], _ => rfl)⟩
  have d_check_thing : Df K mg "check_thing" s_check_thing ["world", "thing"] := ⟨f19, _, fun_mk l19 c19 k19, PySem.W.mg_of X G a19, (fun_mk (st := s_check_thing) l19 c19 k19).binds (fun _ _ _ _ _ _ us hl => match us, hl with | [_, _], _ => rfl)⟩
  have d_World___init__ : Di K mg "World" CW "World.__init__" s_World___init__ ["self", "names", "edges"] := ⟨f20, _, fun_mk l20 c20 k20, ⟨mkCW, a20, i20, kcCW⟩, PySem.W.mg_of X G nCW, (fun_mk (st := s_World___init__) l20 c20 k20).binds (fun _ _ _ _ _ _ us hl => match us, hl with | [_, _, _], _ => rfl)⟩
  have d_Tree_grow : Dm K CT "grow" "Tree.grow" s_Tree_grow ["self", "concept", "parent", "role"] := ⟨f21, _, fun_mk l21 c21 k21, ⟨a21, i21, k21⟩, (fun_mk (st := s_Tree_grow) l21 c21 k21).binds (fun _ _ _ _ _ _ us hl => match us, hl with | [_, _, _, _], _ => rfl)⟩
  have d_Tree___init__ : Di K mg "Tree" CT "Tree.__init__" s_Tree___init__ ["self", "concept"] := ⟨f22, _, fun_mk l22 c22 k22, ⟨mkCT, a22, i22, kcCT⟩, PySem.W.mg_of X G nCT, (fun_mk (st := s_Tree___init__) l22 c22 k22).binds (fun _ _ _ _ _ _ us hl => match us, hl with | [_, _], _ => rfl)⟩
  have d_Tree_role : Dm K CT "role" "Tree.role" s_Tree_role ["self", "node"] := ⟨f23, _, fun_mk l23 c23 k23, ⟨a23, i23, k23⟩, (fun_mk (st := s_Tree_role) l23 c23 k23).binds (fun _ _ _ _ _ _ us hl => match us, hl with | [_, _], _ => rfl)⟩
  have d_Tree_names : Dm K CT "names" "Tree.names" s_Tree_names ["self", "node"] := ⟨f24, _, fun_mk l24 c24 k24, ⟨a24, i24, k24⟩, (fun_mk (st := s_Tree_names) l24 c24 k24).binds (fun _ _ _ _ _ _ us hl => match us, hl with | [_, _], _ => rfl)⟩
  have d_Mapping___init__ : Di K mg "Mapping" CM "Mapping.__init__" s_Mapping___init__ ["self", "source", "target"] := ⟨f25, _, fun_mk l25 c25 k25, ⟨mkCM, a25, i25, kcCM⟩, PySem.W.mg_of X G nCM, (fun_mk (st := s_Mapping___init__) l25 c25 k25).binds (fun _ _ _ _ _ _ us hl => match us, hl with | [_, _, _], _ => rfl)⟩
  have d_Mapping_child_image : Dm K CM "child_image" "Mapping.child_image" s_Mapping_child_image ["self", "child", "image"] := ⟨f26, _, fun_mk l26 c26 k26, ⟨a26, i26, k26⟩, (fun_mk (st := s_Mapping_child_image) l26 c26 k26).binds (fun _ _ _ _ _ _ us hl => match us, hl with | [_, _, _], _ => rfl)⟩
  have d_Mapping_fits : Dm K CM "fits" "Mapping.fits" s_Mapping_fits ["self", "node", "image"] := ⟨f27, _, fun_mk l27 c27 k27, ⟨a27, i27, k27⟩, (fun_mk (st := s_Mapping_fits) l27 c27 k27).binds (fun _ _ _ _ _ _ us hl => match us, hl with | [_, _, _], _ => rfl)⟩
  have d_lies_plainly : Df K mg "lies_plainly" s_lies_plainly ["concept", "other"] := ⟨f28, _, fun_mk l28 c28 k28, PySem.W.mg_of X G a28, (fun_mk (st := s_lies_plainly) l28 c28 k28).binds (fun _ _ _ _ _ _ us hl => match us, hl with | [_, _], _ => rfl)⟩
  have d_plainly_within : Df K mg "plainly_within" s_plainly_within ["concept", "other"] := ⟨f29, _, fun_mk l29 c29 k29, PySem.W.mg_of X G a29, (fun_mk (st := s_plainly_within) l29 c29 k29).binds (fun _ _ _ _ _ _ us hl => match us, hl with | [_, _], _ => rfl)⟩
  have d_reduced_tree : Df K mg "reduced_tree" s_reduced_tree ["one", "node"] := ⟨f30, _, fun_mk l30 c30 k30, PySem.W.mg_of X G a30, (fun_mk (st := s_reduced_tree) l30 c30 k30).binds (fun _ _ _ _ _ _ us hl => match us, hl with | [_, _], _ => rfl)⟩
  have d_reduced_of : Df K mg "reduced_of" s_reduced_of ["concept"] := ⟨f31, _, fun_mk l31 c31 k31, PySem.W.mg_of X G a31, (fun_mk (st := s_reduced_of) l31 c31 k31).binds (fun _ _ _ _ _ _ us hl => match us, hl with | [_], _ => rfl)⟩
  have d_Depths___init__ : Di K mg "Depths" CD "Depths.__init__" s_Depths___init__ ["self", "world"] := ⟨f32, _, fun_mk l32 c32 k32, ⟨mkCD, a32, i32, kcCD⟩, PySem.W.mg_of X G nCD, (fun_mk (st := s_Depths___init__) l32 c32 k32).binds (fun _ _ _ _ _ _ us hl => match us, hl with | [_, _], _ => rfl)⟩
  have d_Depths_write : Dm K CD "write" "Depths.write" s_Depths_write ["self", "thing", "depth"] := ⟨f33, _, fun_mk l33 c33 k33, ⟨a33, i33, k33⟩, (fun_mk (st := s_Depths_write) l33 c33 k33).binds (fun _ _ _ _ _ _ us hl => match us, hl with | [_, _, _], _ => rfl)⟩
  have d_least_in_depth : Df K mg "least_in_depth" s_least_in_depth ["world", "thing", "depth"] := ⟨f34, _, fun_mk l34 c34 k34, PySem.W.mg_of X G a34, (fun_mk (st := s_least_in_depth) l34 c34 k34).binds (fun _ _ _ _ _ _ us hl => match us, hl with | [_, _, _], _ => rfl)⟩
  have d__law_cell_at : Df K mg "_law_cell_at" s__law_cell_at ["_law_script", "_law_k"] := ⟨f35, _, fun_mk l35 c35 k35, PySem.W.mg_of X G a35, (fun_mk (st := s__law_cell_at) l35 c35 k35).binds (fun _ _ _ _ _ _ us hl => match us, hl with | [_, _], _ => rfl)⟩
  have d__law_draw : Df K mg "_law_draw" s__law_draw ["_law_cell", "_law_k", "_law_bound"] := ⟨f36, _, fun_mk l36 c36 k36, PySem.W.mg_of X G a36, (fun_mk (st := s__law_draw) l36 c36 k36).binds (fun _ _ _ _ _ _ us hl => match us, hl with | [_, _, _], _ => rfl)⟩
  have d__law_number : Df K mg "_law_number" s__law_number ["_law_cell", "_law_k", "_law_bound"] := ⟨f37, _, fun_mk l37 c37 k37, PySem.W.mg_of X G a37, (fun_mk (st := s__law_number) l37 c37 k37).binds (fun _ _ _ _ _ _ us hl => match us, hl with | [_, _, _], _ => rfl)⟩
  have d__law_next : Df K mg "_law_next" s__law_next ["_law_draw_here", "_law_bound"] := ⟨f38, _, fun_mk l38 c38 k38, PySem.W.mg_of X G a38, (fun_mk (st := s__law_next) l38 c38 k38).binds (fun _ _ _ _ _ _ us hl => match us, hl with | [_, _], _ => rfl)⟩
  have d__law_pick : Df K mg "_law_pick" s__law_pick ["_law_draw_here", "_law_things"] := ⟨f39, _, fun_mk l39 c39 k39, PySem.W.mg_of X G a39, (fun_mk (st := s__law_pick) l39 c39 k39).binds (fun _ _ _ _ _ _ us hl => match us, hl with | [_, _], _ => rfl)⟩
  have d__law_words : Df K mg "_law_words" s__law_words ["_law_draw_here", "_law_many"] := ⟨f40, _, fun_mk l40 c40 k40, PySem.W.mg_of X G a40, (fun_mk (st := s__law_words) l40 c40 k40).binds (fun _ _ _ _ _ _ us hl => match us, hl with | [_, _], _ => rfl)⟩
  have d__law_alphabet : Df K mg "_law_alphabet" s__law_alphabet ["_law_draw_here"] := ⟨f41, _, fun_mk l41 c41 k41, PySem.W.mg_of X G a41, (fun_mk (st := s__law_alphabet) l41 c41 k41).binds (fun _ _ _ _ _ _ us hl => match us, hl with | [_], _ => rfl)⟩
  have d__law_concept : Df K mg "_law_concept" s__law_concept ["_law_draw_here", "_law_names", "_law_roles", "_law_deep"] := ⟨f42, _, fun_mk l42 c42 k42, PySem.W.mg_of X G a42, (fun_mk (st := s__law_concept) l42 c42 k42).binds (fun _ _ _ _ _ _ us hl => match us, hl with | [_, _, _, _], _ => rfl)⟩
  have d__law_facts : Df K mg "_law_facts" s__law_facts ["_law_draw_here", "_law_names", "_law_roles", "_law_most"] := ⟨f43, _, fun_mk l43 c43 k43, PySem.W.mg_of X G a43, (fun_mk (st := s__law_facts) l43 c43 k43).binds (fun _ _ _ _ _ _ us hl => match us, hl with | [_, _, _, _], _ => rfl)⟩
  have d__law_text : Df K mg "_law_text" s__law_text ["_law_concept_here"] := ⟨f44, _, fun_mk l44 c44 k44, PySem.W.mg_of X G a44, (fun_mk (st := s__law_text) l44 c44 k44).binds (fun _ _ _ _ _ _ us hl => match us, hl with | [_], _ => rfl)⟩
  have d__law_parts : Df K mg "_law_parts" s__law_parts ["_law_concept_here"] := ⟨f45, _, fun_mk l45 c45 k45, PySem.W.mg_of X G a45, (fun_mk (st := s__law_parts) l45 c45 k45).binds (fun _ _ _ _ _ _ us hl => match us, hl with | [_], _ => rfl)⟩
  have d__law_spoilt : Df K mg "_law_spoilt" s__law_spoilt ["_law_concept_here"] := ⟨f46, _, fun_mk l46 c46 k46, PySem.W.mg_of X G a46, (fun_mk (st := s__law_spoilt) l46 c46 k46).binds (fun _ _ _ _ _ _ us hl => match us, hl with | [_], _ => rfl)⟩
  have d__law_height : Df K mg "_law_height" s__law_height ["_law_concept_here"] := ⟨f47, _, fun_mk l47 c47 k47, PySem.W.mg_of X G a47, (fun_mk (st := s__law_height) l47 c47 k47).binds (fun _ _ _ _ _ _ us hl => match us, hl with | [_], _ => rfl)⟩
  have d__law_inside : Df K mg "_law_inside" s__law_inside ["_law_rows", "_law_edges", "_law_concept_here"] := ⟨f48, _, fun_mk l48 c48 k48, PySem.W.mg_of X G a48, (fun_mk (st := s__law_inside) l48 c48 k48).binds (fun _ _ _ _ _ _ us hl => match us, hl with | [_, _, _], _ => rfl)⟩
  have d__law_node : Df K mg "_law_node" s__law_node ["_law_concept_here"] := ⟨f49, _, fun_mk l49 c49 k49, PySem.W.mg_of X G a49, (fun_mk (st := s__law_node) l49 c49 k49).binds (fun _ _ _ _ _ _ us hl => match us, hl with | [_], _ => rfl)⟩
  have d__law_maps : Df K mg "_law_maps" s__law_maps ["_law_one", "_law_other"] := ⟨f50, _, fun_mk l50 c50 k50, PySem.W.mg_of X G a50, (fun_mk (st := s__law_maps) l50 c50 k50).binds (fun _ _ _ _ _ _ us hl => match us, hl with | [_, _], _ => rfl)⟩
  have d__law_plainly : Df K mg "_law_plainly" s__law_plainly ["_law_concept_here", "_law_other"] := ⟨f51, _, fun_mk l51 c51 k51, PySem.W.mg_of X G a51, (fun_mk (st := s__law_plainly) l51 c51 k51).binds (fun _ _ _ _ _ _ us hl => match us, hl with | [_, _], _ => rfl)⟩
  have d__law_tree : Df K mg "_law_tree" s__law_tree ["_law_rows", "_law_edges", "_law_thing", "_law_depth"] := ⟨f52, _, fun_mk l52 c52 k52, PySem.W.mg_of X G a52, (fun_mk (st := s__law_tree) l52 c52 k52).binds (fun _ _ _ _ _ _ us hl => match us, hl with | [_, _, _, _], _ => rfl)⟩
  have d__law_written : Df K mg "_law_written" s__law_written ["_law_one"] := ⟨f53, _, fun_mk l53 c53 k53, PySem.W.mg_of X G a53, (fun_mk (st := s__law_written) l53 c53 k53).binds (fun _ _ _ _ _ _ us hl => match us, hl with | [_], _ => rfl)⟩
  have d__law_larger : Df K mg "_law_larger" s__law_larger ["_law_draw_here", "_law_concept_here"] := ⟨f54, _, fun_mk l54 c54 k54, PySem.W.mg_of X G a54, (fun_mk (st := s__law_larger) l54 c54 k54).binds (fun _ _ _ _ _ _ us hl => match us, hl with | [_, _], _ => rfl)⟩
  have d__law_told : Df K mg "_law_told" s__law_told ["_law_world", "_law_thing", "_law_depth"] := ⟨f55, _, fun_mk l55 c55 k55, PySem.W.mg_of X G a55, (fun_mk (st := s__law_told) l55 c55 k55).binds (fun _ _ _ _ _ _ us hl => match us, hl with | [_, _, _], _ => rfl)⟩
  have d_law := fun_mk (x := "law") (qual := "law") (st := s_law) l56 c56 k56
  have zF := fun_mk (x := "size") (st := s_World_size) l99 c99 k99
  have zb := zF.binds (ps := ["self"]) (fun _ _ _ _ _ _ us hl => match us, hl with | [_], _ => rfl)
  have eL := hfa.symm.trans (PySem.W.mg_of X G a56)
  cases eL
  exact ⟨_, fun s u => .of_eq rfl, fun base _ _ => all_ok (P := PySem.Challenge.rw_conceptworlds_k77_whole_depths.prog) (w := w) T cW cT cM cD (PySem.W.mg_of X G nCE) (PySem.W.mg_of X G nCW) zF zb ⟨zat, zget, ztak, _, zrec⟩ d_is_word d_is_shallow d_is_concept d_check_concept d_inner d_text_of d_closed_text d_gather d_parts_of d_has_none d_is_and d_conjuncts d_conjunction d_is_ascending d_is_number d_are_edges d_World_names d_World_edges d_check_world d_check_thing d_World___init__ d_Tree_grow d_Tree___init__ d_Tree_role d_Tree_names d_Mapping___init__ d_Mapping_child_image d_Mapping_fits d_lies_plainly d_plainly_within d_reduced_tree d_reduced_of d_Depths___init__ d_Depths_write d_least_in_depth d__law_cell_at d__law_draw d__law_number d__law_next d__law_pick d__law_words d__law_alphabet d__law_concept d__law_facts d__law_text d__law_parts d__law_spoilt d__law_height d__law_inside d__law_node d__law_maps d__law_plainly d__law_tree d__law_written d__law_larger d__law_told d_law base⟩
end K77
end

section
set_option Elab.async false
open PySem PySem.W PyProof.Rows
set_option maxRecDepth 100000 in
set_option maxHeartbeats 0 in
open_top head for PySem.Challenge.rw_conceptworlds_k77_whole_depths
end

section
set_option Elab.async false
open PySem PySem.W PyProof.Rows
set_option maxRecDepth 100000 in
set_option maxHeartbeats 0 in
theorem PySem.Challenge.cw_conceptworlds_k77_whole_depths_holds : PySem.Challenge.rw_conceptworlds_k77_whole_depths.Holds := by
  refine head ?_
  k_fill
  refine L2.walk_ofK (l := PySem.Challenge.rw_conceptworlds_k77_whole_depths) (n := 63) (k := 106) (x := "_law_script") (CX := L2.CX0) (sp := K77.spLaw) rfl (by decide) rfl ⟨rfl, by decide, by decide⟩ (fun w h Y => PySem.W.kIn_of Y) ?F ?h1 (fun _ _ _ _ h => h)
  case h1 => exact fun K H a ns _ _ hS => ⟨a, ns, rfl, hS, fun _ => rfl⟩
  case F =>
    intro w mg fa h KX G hmg
    refine' K77.fin_mk KX G hmg ?nCW ?nCT ?nCM ?nCD ?nCE ?a0 ?l0 ?c0 ?k0 ?a1 ?l1 ?c1 ?k1 ?a2 ?l2 ?c2 ?k2 ?a3 ?l3 ?c3 ?k3 ?a4 ?l4 ?c4 ?k4 ?a5 ?l5 ?c5 ?k5 ?a6 ?l6 ?c6 ?k6 ?a7 ?l7 ?c7 ?k7 ?a8 ?l8 ?c8 ?k8 ?a9 ?l9 ?c9 ?k9 ?a10 ?l10 ?c10 ?k10 ?a11 ?l11 ?c11 ?k11 ?a12 ?l12 ?c12 ?k12 ?a13 ?l13 ?c13 ?k13 ?a14 ?l14 ?c14 ?k14 ?a15 ?l15 ?c15 ?k15 ?a16 ?i16 ?l16 ?c16 ?k16 ?a17 ?i17 ?l17 ?c17 ?k17 ?a18 ?l18 ?c18 ?k18 ?a19 ?l19 ?c19 ?k19 ?a20 ?i20 ?l20 ?c20 ?k20 ?a21 ?i21 ?l21 ?c21 ?k21 ?a22 ?i22 ?l22 ?c22 ?k22 ?a23 ?i23 ?l23 ?c23 ?k23 ?a24 ?i24 ?l24 ?c24 ?k24 ?a25 ?i25 ?l25 ?c25 ?k25 ?a26 ?i26 ?l26 ?c26 ?k26 ?a27 ?i27 ?l27 ?c27 ?k27 ?a28 ?l28 ?c28 ?k28 ?a29 ?l29 ?c29 ?k29 ?a30 ?l30 ?c30 ?k30 ?a31 ?l31 ?c31 ?k31 ?a32 ?i32 ?l32 ?c32 ?k32 ?a33 ?i33 ?l33 ?c33 ?k33 ?a34 ?l34 ?c34 ?k34 ?a35 ?l35 ?c35 ?k35 ?a36 ?l36 ?c36 ?k36 ?a37 ?l37 ?c37 ?k37 ?a38 ?l38 ?c38 ?k38 ?a39 ?l39 ?c39 ?k39 ?a40 ?l40 ?c40 ?k40 ?a41 ?l41 ?c41 ?k41 ?a42 ?l42 ?c42 ?k42 ?a43 ?l43 ?c43 ?k43 ?a44 ?l44 ?c44 ?k44 ?a45 ?l45 ?c45 ?k45 ?a46 ?l46 ?c46 ?k46 ?a47 ?l47 ?c47 ?k47 ?a48 ?l48 ?c48 ?k48 ?a49 ?l49 ?c49 ?k49 ?a50 ?l50 ?c50 ?k50 ?a51 ?l51 ?c51 ?k51 ?a52 ?l52 ?c52 ?k52 ?a53 ?l53 ?c53 ?k53 ?a54 ?l54 ?c54 ?k54 ?a55 ?l55 ?c55 ?k55 ?a56 ?l56 ?c56 ?k56 ?pgCW ?hdCW ?poCW ?saCW ?mkCW ?kcCW ?noCW0 ?noCW1 ?noCW2 ?pgCT ?hdCT ?poCT ?saCT ?mkCT ?kcCT ?noCT0 ?noCT1 ?pgCM ?hdCM ?poCM ?saCM ?mkCM ?kcCM ?noCM0 ?noCM1 ?noCM2 ?pgCD ?hdCD ?poCD ?saCD ?mkCD ?kcCD ?noCD0 ?noCD1 ?wha ?whn ?wtk ?whm ?zat ?zget ?ztak ?zrec ?l99 ?c99 ?k99 ?t_isinstance ?t_str ?t_tuple ?t_list ?t_int ?t_bool ?t_len ?t_all ?t_any ?t_max ?t_zip ?t_range ?t_sorted ?tLET ?tLONGEST ?tDEEPEST ?tMOST_DEPTH ?tMOST_NODES ?tKEPT ?lKEPT
    (case nCW => k_is)
    (case nCT => k_is)
    (case nCM => k_is)
    (case nCD => k_is)
    (case nCE => k_is)
    (case a0 => k_is)
    (case l0 => k_is)
    (case c0 => k_is)
    (case k0 => k_is)
    (case a1 => k_is)
    (case l1 => k_is)
    (case c1 => k_is)
    (case k1 => k_is)
    (case a2 => k_is)
    (case l2 => k_is)
    (case c2 => k_is)
    (case k2 => k_is)
    (case a3 => k_is)
    (case l3 => k_is)
    (case c3 => k_is)
    (case k3 => k_is)
    (case a4 => k_is)
    (case l4 => k_is)
    (case c4 => k_is)
    (case k4 => k_is)
    (case a5 => k_is)
    (case l5 => k_is)
    (case c5 => k_is)
    (case k5 => k_is)
    (case a6 => k_is)
    (case l6 => k_is)
    (case c6 => k_is)
    (case k6 => k_is)
    (case a7 => k_is)
    (case l7 => k_is)
    (case c7 => k_is)
    (case k7 => k_is)
    (case a8 => k_is)
    (case l8 => k_is)
    (case c8 => k_is)
    (case k8 => k_is)
    (case a9 => k_is)
    (case l9 => k_is)
    (case c9 => k_is)
    (case k9 => k_is)
    (case a10 => k_is)
    (case l10 => k_is)
    (case c10 => k_is)
    (case k10 => k_is)
    (case a11 => k_is)
    (case l11 => k_is)
    (case c11 => k_is)
    (case k11 => k_is)
    (case a12 => k_is)
    (case l12 => k_is)
    (case c12 => k_is)
    (case k12 => k_is)
    (case a13 => k_is)
    (case l13 => k_is)
    (case c13 => k_is)
    (case k13 => k_is)
    (case a14 => k_is)
    (case l14 => k_is)
    (case c14 => k_is)
    (case k14 => k_is)
    (case a15 => k_is)
    (case l15 => k_is)
    (case c15 => k_is)
    (case k15 => k_is)
    (case a16 => k_is)
    (case i16 => k_is)
    (case l16 => k_is)
    (case c16 => k_is)
    (case k16 => k_is)
    (case a17 => k_is)
    (case i17 => k_is)
    (case l17 => k_is)
    (case c17 => k_is)
    (case k17 => k_is)
    (case a18 => k_is)
    (case l18 => k_is)
    (case c18 => k_is)
    (case k18 => k_is)
    (case a19 => k_is)
    (case l19 => k_is)
    (case c19 => k_is)
    (case k19 => k_is)
    (case a20 => k_is)
    (case i20 => k_is)
    (case l20 => k_is)
    (case c20 => k_is)
    (case k20 => k_is)
    (case a21 => k_is)
    (case i21 => k_is)
    (case l21 => k_is)
    (case c21 => k_is)
    (case k21 => k_is)
    (case a22 => k_is)
    (case i22 => k_is)
    (case l22 => k_is)
    (case c22 => k_is)
    (case k22 => k_is)
    (case a23 => k_is)
    (case i23 => k_is)
    (case l23 => k_is)
    (case c23 => k_is)
    (case k23 => k_is)
    (case a24 => k_is)
    (case i24 => k_is)
    (case l24 => k_is)
    (case c24 => k_is)
    (case k24 => k_is)
    (case a25 => k_is)
    (case i25 => k_is)
    (case l25 => k_is)
    (case c25 => k_is)
    (case k25 => k_is)
    (case a26 => k_is)
    (case i26 => k_is)
    (case l26 => k_is)
    (case c26 => k_is)
    (case k26 => k_is)
    (case a27 => k_is)
    (case i27 => k_is)
    (case l27 => k_is)
    (case c27 => k_is)
    (case k27 => k_is)
    (case a28 => k_is)
    (case l28 => k_is)
    (case c28 => k_is)
    (case k28 => k_is)
    (case a29 => k_is)
    (case l29 => k_is)
    (case c29 => k_is)
    (case k29 => k_is)
    (case a30 => k_is)
    (case l30 => k_is)
    (case c30 => k_is)
    (case k30 => k_is)
    (case a31 => k_is)
    (case l31 => k_is)
    (case c31 => k_is)
    (case k31 => k_is)
    (case a32 => k_is)
    (case i32 => k_is)
    (case l32 => k_is)
    (case c32 => k_is)
    (case k32 => k_is)
    (case a33 => k_is)
    (case i33 => k_is)
    (case l33 => k_is)
    (case c33 => k_is)
    (case k33 => k_is)
    (case a34 => k_is)
    (case l34 => k_is)
    (case c34 => k_is)
    (case k34 => k_is)
    (case a35 => k_is)
    (case l35 => k_is)
    (case c35 => k_is)
    (case k35 => k_is)
    (case a36 => k_is)
    (case l36 => k_is)
    (case c36 => k_is)
    (case k36 => k_is)
    (case a37 => k_is)
    (case l37 => k_is)
    (case c37 => k_is)
    (case k37 => k_is)
    (case a38 => k_is)
    (case l38 => k_is)
    (case c38 => k_is)
    (case k38 => k_is)
    (case a39 => k_is)
    (case l39 => k_is)
    (case c39 => k_is)
    (case k39 => k_is)
    (case a40 => k_is)
    (case l40 => k_is)
    (case c40 => k_is)
    (case k40 => k_is)
    (case a41 => k_is)
    (case l41 => k_is)
    (case c41 => k_is)
    (case k41 => k_is)
    (case a42 => k_is)
    (case l42 => k_is)
    (case c42 => k_is)
    (case k42 => k_is)
    (case a43 => k_is)
    (case l43 => k_is)
    (case c43 => k_is)
    (case k43 => k_is)
    (case a44 => k_is)
    (case l44 => k_is)
    (case c44 => k_is)
    (case k44 => k_is)
    (case a45 => k_is)
    (case l45 => k_is)
    (case c45 => k_is)
    (case k45 => k_is)
    (case a46 => k_is)
    (case l46 => k_is)
    (case c46 => k_is)
    (case k46 => k_is)
    (case a47 => k_is)
    (case l47 => k_is)
    (case c47 => k_is)
    (case k47 => k_is)
    (case a48 => k_is)
    (case l48 => k_is)
    (case c48 => k_is)
    (case k48 => k_is)
    (case a49 => k_is)
    (case l49 => k_is)
    (case c49 => k_is)
    (case k49 => k_is)
    (case a50 => k_is)
    (case l50 => k_is)
    (case c50 => k_is)
    (case k50 => k_is)
    (case a51 => k_is)
    (case l51 => k_is)
    (case c51 => k_is)
    (case k51 => k_is)
    (case a52 => k_is)
    (case l52 => k_is)
    (case c52 => k_is)
    (case k52 => k_is)
    (case a53 => k_is)
    (case l53 => k_is)
    (case c53 => k_is)
    (case k53 => k_is)
    (case a54 => k_is)
    (case l54 => k_is)
    (case c54 => k_is)
    (case k54 => k_is)
    (case a55 => k_is)
    (case l55 => k_is)
    (case c55 => k_is)
    (case k55 => k_is)
    (case a56 => k_is)
    (case l56 => k_is)
    (case c56 => k_is)
    (case k56 => k_is)
    (case pgCW => k_is)
    (case hdCW => k_is)
    (case poCW => k_is)
    (case saCW => k_is)
    (case mkCW => k_is)
    (case kcCW => k_is)
    (case noCW0 => k_is)
    (case noCW1 => k_is)
    (case noCW2 => k_is)
    (case pgCT => k_is)
    (case hdCT => k_is)
    (case poCT => k_is)
    (case saCT => k_is)
    (case mkCT => k_is)
    (case kcCT => k_is)
    (case noCT0 => k_is)
    (case noCT1 => k_is)
    (case pgCM => k_is)
    (case hdCM => k_is)
    (case poCM => k_is)
    (case saCM => k_is)
    (case mkCM => k_is)
    (case kcCM => k_is)
    (case noCM0 => k_is)
    (case noCM1 => k_is)
    (case noCM2 => k_is)
    (case pgCD => k_is)
    (case hdCD => k_is)
    (case poCD => k_is)
    (case saCD => k_is)
    (case mkCD => k_is)
    (case kcCD => k_is)
    (case noCD0 => k_is)
    (case noCD1 => k_is)
    (case wha => k_is)
    (case whn => k_is)
    (case wtk => k_is)
    (case whm => k_is)
    (case zat => k_is)
    (case zget => k_is)
    (case ztak => k_is)
    (case zrec => k_is)
    (case l99 => k_is)
    (case c99 => k_is)
    (case k99 => k_is)
    (case t_isinstance => k_is)
    (case t_str => k_is)
    (case t_tuple => k_is)
    (case t_list => k_is)
    (case t_int => k_is)
    (case t_bool => k_is)
    (case t_len => k_is)
    (case t_all => k_is)
    (case t_any => k_is)
    (case t_max => k_is)
    (case t_zip => k_is)
    (case t_range => k_is)
    (case t_sorted => k_is)
    (case tLET => k_is)
    (case tLONGEST => k_is)
    (case tDEEPEST => k_is)
    (case tMOST_DEPTH => k_is)
    (case tMOST_NODES => k_is)
    (case tKEPT => k_is)
    (case lKEPT => k_is)
end
