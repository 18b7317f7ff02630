import PyProof.Rows.All
import Wide.All
import OpenK.AllK
import Wide.FinOn
import HandS.ForMost
import HandS.ForExc
import HandS.RevTup
import HandS.Text
import HandS.More
import HandS.IsInst
import HandS.SortInts
import HandS.WordsDict
import HandS.Conv
import HandS.Replace
import HandS.Flow
import HandS.CallSlots
import HandS.Zip
import HandS.Defaults
import HandS.Head0
import HandS.Head1
import HandS.Head2
import HandS.HeadEnd
import HandS.HeadHook1
import HandS.HeadHook2
import PySem.Challenge.RW_reachbook_k25_questions_as_texts
section
set_option Elab.async false
set_option maxRecDepth 100000
/-! RB: deep data, what represents it in the heap -/
namespace RB
open PySem L2

inductive D where
  | non | bl (b : Bool) | int (i : Int) | str (s : Str)
  | tup (xs : List D)
  | lst (o : Bool) (xs : List D)
  | dct (o : Bool) (kvs : List (Key × D))
  | ins (o : Bool) (c : Nat) (fs : List (Str × D))
  | link (r : Nat)
  | scr (ns : List Int)
  deriving Inhabited

/-! ### valid texts -/
def okS (z : Str) : Prop := ∀ c ∈ z.cps.toList, c < 0x110000
def okB (z : Str) : Bool := z.cps.toList.all fun c => decide (c < 0x110000)
theorem okB_of {z : Str} (h : okB z = true) : okS z := fun c hc => by
  have := List.all_eq_true.mp h c hc
  simpa using this
theorem okS_app {a b : Str} (ha : okS a) (hb : okS b) : okS (a ++ b) := fun c hc => by
  have e : (a ++ b).cps.toList = a.cps.toList ++ b.cps.toList := TL.tl_append a b
  rw [e] at hc
  exact (List.mem_append.mp hc).elim (ha c) (hb c)
theorem okS_cut {z : Str} {lo hi : Option Int} (h : okS z) : okS (cutS z lo hi) := fun c hc => by
  have e : (cutS z lo hi).cps.toList = (z.cps.toList.drop (HT.sIx z.length 0 lo)).take (HT.sIx z.length z.length hi - HT.sIx z.length 0 lo) := rfl
  rw [e] at hc
  exact h c (List.mem_of_mem_drop (List.mem_of_mem_take hc))
theorem okS_one {z : Str} {c : Nat} (h : okS z) (hc : c ∈ z.cps.toList) : okS ⟨#[c]⟩ := fun d hd => by
  have : d = c := by simpa using hd
  rw [this]; exact h c hc
theorem ok_joinL {S : List Nat} {P : Nat → Prop} (hS : ∀ c ∈ S, P c) : ∀ (l : List (List Nat)), (∀ x ∈ l, ∀ c ∈ x, P c) → ∀ c ∈ TL.joinL S l, P c
  | [], _, c, hc => by cases hc
  | [x], h, c, hc => h x List.mem_cons_self c hc
  | x :: y :: r, h, c, hc => by
    rcases List.mem_append.mp (show c ∈ x ++ (S ++ TL.joinL S (y :: r)) from hc) with hc | hc
    · exact h x List.mem_cons_self c hc
    · rcases List.mem_append.mp hc with hc | hc
      · exact hS c hc
      · exact ok_joinL hS (y :: r) (fun z hz => h z (List.mem_cons_of_mem _ hz)) c hc
theorem okS_join {a : Str} {l : List Str} (ha : okS a) (hl : ∀ x ∈ l, okS x) : okS (Txt.join a l) := fun c hc => by
  rw [TL.join_eq] at hc
  have e : (Str.join a l).cps.toList = TL.joinL a.cps.toList (l.map TL.tl) := TL.tl_join a l
  rw [e] at hc
  refine ok_joinL ha _ (fun x hx d hd => ?_) c hc
  obtain ⟨z, hz, rfl⟩ := List.mem_map.mp hx
  exact hl z hz d hd
theorem ok_spl {S : List Nat} {P : Nat → Prop} : ∀ (l : List Nat) (k : Nat) (acc : List Nat), (∀ c ∈ l, P c) → (∀ c ∈ acc, P c) → ∀ x ∈ TL.spl S k acc l, ∀ c ∈ x, P c
  | [], k, acc, _, ha, x, hx => by
    rw [TL.spl_nil] at hx
    cases List.mem_singleton.mp hx
    exact ha
  | c :: r, k, acc, hl, ha, x, hx => by
    have hr : ∀ c ∈ r, P c := fun d hd => hl d (List.mem_cons_of_mem _ hd)
    cases k with
    | succ k =>
      rw [TL.spl_pass] at hx
      have := ok_spl (S := S) r k acc hr ha x
      rw [TL.spl_pass] at this
      exact this hx
    | zero =>
      cases hp : TL.pre S (c :: r) with
      | true =>
        rw [TL.spl_hit hp] at hx
        rcases List.mem_cons.mp hx with rfl | hx
        · exact ha
        · exact ok_spl r _ [] hr (fun d hd => by cases hd) x hx
      | false =>
        rw [TL.spl_miss hp] at hx
        exact ok_spl r 0 (acc ++ [c]) hr (fun d hd => (List.mem_append.mp hd).elim (ha d) fun hd => by cases List.mem_singleton.mp hd; exact hl _ List.mem_cons_self) x hx
theorem okS_split {a b : Str} (ha : okS a) (hb : b.length ≠ 0) : ∀ x ∈ Txt.split a b, okS x := by
  intro x hx
  by_cases hk : Builtin.Str.strKind a < Builtin.Str.strKind b
  · have : Txt.split a b = [a] := by
      unfold Txt.split
      rw [if_pos (by simp [hk])]
    rw [this] at hx
    cases List.mem_singleton.mp hx
    exact ha
  · have e := TL.split_spl a b (fun z => hb (by rw [TL.len_tl, z]; rfl)) hk
    have hm : TL.tl x ∈ TL.spl (TL.tl b) 0 [] (TL.tl a) := by
      rw [← e]
      exact List.mem_map.mpr ⟨x, hx, rfl⟩
    exact ok_spl _ 0 [] ha (fun d hd => by cases hd) _ hm
theorem okS_ofString (z : String) : okS (Str.ofString z) := fun c hc => by
  have e : (Str.ofString z).cps.toList = z.toList.map Char.toNat := TL.tl_ofString z
  rw [e] at hc
  obtain ⟨d, _, rfl⟩ := List.mem_map.mp hc
  have := d.valid
  have h2 : d.toNat.isValidChar := this
  rcases h2 with h | ⟨_, h⟩ <;> omega
def okKey : Key → Prop
  | .inl _ => True
  | .inr s => okS s
mutual
/-- given up: nobody changes it any more -/
def D.leak : D → D
  | .tup xs => .tup (D.leakL xs)
  | .lst _ xs => .lst false (D.leakL xs)
  | .dct _ kvs => .dct false (D.leakK kvs)
  | .ins _ c fs => .ins false c (D.leakF fs)
  | .non => .non | .bl b => .bl b | .int i => .int i | .str s => .str s | .link r => .link r | .scr ns => .scr ns
def D.leakL : List D → List D
  | [] => []
  | d :: ds => d.leak :: D.leakL ds
def D.leakK : List (Key × D) → List (Key × D)
  | [] => []
  | (k, d) :: ds => (k, d.leak) :: D.leakK ds
def D.leakF : List (Str × D) → List (Str × D)
  | [] => []
  | (k, d) :: ds => (k, d.leak) :: D.leakF ds
end
mutual
/-- nothing in it is owned -/
def D.free : D → Bool
  | .tup xs => D.freeL xs
  | .lst o xs => !o && D.freeL xs
  | .dct o kvs => !o && D.freeK kvs
  | .ins o _ fs => !o && D.freeF fs
  | .non => true | .bl _ => true | .int _ => true | .str _ => true | .link _ => true | .scr _ => true
def D.freeL : List D → Bool
  | [] => true
  | d :: ds => d.free && D.freeL ds
def D.freeK : List (Key × D) → Bool
  | [] => true
  | (_, d) :: ds => d.free && D.freeK ds
def D.freeF : List (Str × D) → Bool
  | [] => true
  | (_, d) :: ds => d.free && D.freeF ds
end

section
variable {κ : Type} [DecidableEq κ] {α : Type}
/-- look up, put, in lists of pairs (keys in order) -/
def lookP (l : List (κ × α)) (k : κ) : Option α :=
  match l with
  | [] => none
  | (x, d) :: r => if x = k then some d else lookP r k
def putP (l : List (κ × α)) (k : κ) (d : α) : List (κ × α) :=
  match l with
  | [] => [(k, d)]
  | (x, e) :: r => if x = k then (x, d) :: r else (x, e) :: putP r k d
theorem lookP_put_ne {l : List (κ × α)} {k x : κ} {d : α} (h : x ≠ k) : lookP (putP l k d) x = lookP l x := by
  induction l with
  | nil => simp [putP, lookP, Ne.symm h]
  | cons p r ih =>
    obtain ⟨y, e⟩ := p
    by_cases hy : y = k
    · subst hy; simp [putP, lookP, Ne.symm h]
    · simp only [putP, if_neg hy, lookP, ih]
theorem lookP_put {l : List (κ × α)} {k : κ} {d : α} : lookP (putP l k d) k = some d := by
  induction l with
  | nil => simp [putP, lookP]
  | cons p r ih =>
    obtain ⟨y, e⟩ := p
    by_cases hy : y = k
    · subst hy; simp [putP, lookP]
    · simp only [putP, if_neg hy, lookP, ih]
end
theorem lookP_leak {k : Key} : ∀ {l : List (Key × D)}, lookP (D.leakK l) k = (lookP l k).map D.leak
  | [] => rfl
  | (x, d) :: r => by
    by_cases h : x = k
    · simp [D.leakK, lookP, h]
    · simp only [D.leakK, lookP, if_neg h]; exact lookP_leak
/-- a world: the classes' addresses, the heap, the addresses that are given up, the regions' values -/
structure Sta where
  ca : Nat → Addr
  K : PySem.W.Frag
structure Wd where
  st : Sta
  H : Hp
  P : Addr → Prop
  RV : List V

/-- a list of the written part -/
def KSeq (K : PySem.W.Frag) (a : Addr) (xs : List V) : Prop := ∃ (o : Obj) (its : Array Value) (n : Nat), K.lookup a = some o ∧ o.cls = .type "list" ∧ o.dict = none ∧ o.data = .seq its n ∧ its.size ≤ sizeLine ∧ Vals xs its.toList
mutual
def Rep (W : Wd) : D → V → List Addr → Prop
  | .non, v, F => v = .non ∧ F = []
  | .bl b, v, F => v = .bl b ∧ F = []
  | .int i, v, F => v = .int i ∧ F = []
  | .str s, v, F => v = .str s ∧ F = [] ∧ okS s
  | .tup xs, v, F => F = [] ∧ ∃ a vs, v = .ref a ∧ W.P a ∧ W.H a = some (.tup vs) ∧ RepL W xs vs []
  | .lst true xs, v, F => ∃ a vs G, v = .ref a ∧ W.H a = some (.lst vs) ∧ RepL W xs vs G ∧ F.Perm (a :: G)
  | .lst false xs, v, F => F = [] ∧ ∃ a vs, v = .ref a ∧ W.P a ∧ W.H a = some (.lst vs) ∧ RepL W xs vs []
  | .dct true kvs, v, F => ∃ a vs G, v = .ref a ∧ W.H a = some (.dK vs) ∧ RepK W kvs vs G ∧ F.Perm (a :: G)
  | .dct false kvs, v, F => F = [] ∧ ∃ a vs, v = .ref a ∧ W.P a ∧ W.H a = some (.dK vs) ∧ RepK W kvs vs []
  | .ins true c fs, v, F => ∃ a dx vs G, v = .ref a ∧ W.H a = some (.ins (W.st.ca c) dx vs) ∧ RepF W fs vs G ∧ F.Perm (a :: G)
  | .ins false c fs, v, F => F = [] ∧ ∃ a dx vs, v = .ref a ∧ W.P a ∧ W.H a = some (.ins (W.st.ca c) dx vs) ∧ RepF W fs vs []
  | .link r, v, F => F = [] ∧ W.RV[r]? = some v
  | .scr ns, v, F => F = [] ∧ ∃ a, v = .ref a ∧ ((W.P a ∧ Rd W.H a (.lst (ns.map V.int))) ∨ KSeq W.st.K a (ns.map V.int))
def RepL (W : Wd) : List D → List V → List Addr → Prop
  | [], vs, F => vs = [] ∧ F = []
  | d :: ds, vs, F => ∃ v ws F1 F2, vs = v :: ws ∧ Rep W d v F1 ∧ RepL W ds ws F2 ∧ F.Perm (F1 ++ F2)
def RepK (W : Wd) : List (Key × D) → List (Key × V) → List Addr → Prop
  | [], vs, F => vs = [] ∧ F = []
  | (k, d) :: ds, vs, F => ∃ v ws F1 F2, vs = (k, v) :: ws ∧ Rep W d v F1 ∧ RepK W ds ws F2 ∧ F.Perm (F1 ++ F2) ∧ okKey k ∧ lookP ds k = none
def RepF (W : Wd) : List (Str × D) → List (Str × V) → List Addr → Prop
  | [], vs, F => vs = [] ∧ F = []
  | (k, d) :: ds, vs, F => ∃ v ws F1 F2, vs = (k, v) :: ws ∧ Rep W d v F1 ∧ RepF W ds ws F2 ∧ F.Perm (F1 ++ F2)
end

/-- W' leaves F and what is given up as it was -/
structure Stay (W W' : Wd) (F : List Addr) : Prop where
  keep : ∀ a o, (a ∈ F ∨ W.P a) → W.H a = some o → W'.H a = some o
  perm : ∀ a, W.P a → W'.P a
  rv : ∃ m, W'.RV = W.RV ++ m
  ca : W'.st = W.st
theorem Stay.sub {W W' : Wd} {F G : List Addr} (s : Stay W W' F) (h : ∀ a ∈ G, a ∈ F) : Stay W W' G :=
  ⟨fun a o q => s.keep a o (q.imp (h a) id), s.perm, s.rv, s.ca⟩
theorem Stay.left {W W' : Wd} {F G : List Addr} (s : Stay W W' (F ++ G)) : Stay W W' F := s.sub fun _ h => List.mem_append_left _ h
theorem Stay.right {W W' : Wd} {F G : List Addr} (s : Stay W W' (F ++ G)) : Stay W W' G := s.sub fun _ h => List.mem_append_right _ h
theorem Stay.tail {W W' : Wd} {a : Addr} {G : List Addr} (s : Stay W W' (a :: G)) : Stay W W' G := s.sub fun _ h => List.mem_cons_of_mem _ h
theorem Stay.nil {W W' : Wd} {F : List Addr} (s : Stay W W' F) : Stay W W' [] := s.sub fun _ h => by cases h
theorem Stay.pm {W W' : Wd} {F G : List Addr} (s : Stay W W' F) (h : F.Perm G) : Stay W W' G := s.sub fun _ q => h.mem_iff.mpr q
theorem Stay.refl (W : Wd) (F : List Addr) : Stay W W F := ⟨fun _ _ _ h => h, fun _ h => h, ⟨[], by simp⟩, rfl⟩
theorem Stay.rd {W W' : Wd} {F : List Addr} {a : Addr} {u : HO} (s : Stay W W' F) (p : W.P a) (h : Rd W.H a u) : Rd W'.H a u := by
  rcases h with h | ⟨o, h⟩
  · exact .inl (s.keep a _ (.inr p) h)
  · exact .inr ⟨o, s.keep a _ (.inr p) h⟩
theorem Stay.rvs {W W' : Wd} {F : List Addr} (s : Stay W W' F) {r : Nat} {v : V} (h : W.RV[r]? = some v) : W'.RV[r]? = some v := by
  obtain ⟨m, e⟩ := s.rv
  rw [e, List.getElem?_append_left (List.getElem?_eq_some_iff.mp h).1]
  exact h

mutual
theorem Rep.frame {W W' : Wd} : ∀ (d : D) {v : V} {F : List Addr}, Rep W d v F → Stay W W' F → Rep W' d v F
  | .non, v, F, h, s => by simpa only [Rep] using h
  | .bl b, v, F, h, s => by simpa only [Rep] using h
  | .int b, v, F, h, s => by simpa only [Rep] using h
  | .str b, v, F, h, s => by simpa only [Rep] using h
  | .tup xs, v, F, h, s => by
    simp only [Rep] at h ⊢
    obtain ⟨rfl, a, vs, e, p, r, h⟩ := h
    exact ⟨rfl, a, vs, e, s.perm a p, s.keep a _ (.inr p) r, RepL.frame xs h s⟩
  | .lst true xs, v, F, h, s => by
    simp only [Rep] at h ⊢
    obtain ⟨a, vs, G, e, r, h, pm⟩ := h
    exact ⟨a, vs, G, e, s.keep a _ (.inl (pm.mem_iff.mpr List.mem_cons_self)) r, RepL.frame xs h (s.pm pm).tail, pm⟩
  | .lst false xs, v, F, h, s => by
    simp only [Rep] at h ⊢
    obtain ⟨rfl, a, vs, e, p, r, h⟩ := h
    exact ⟨rfl, a, vs, e, s.perm a p, s.keep a _ (.inr p) r, RepL.frame xs h s⟩
  | .dct true xs, v, F, h, s => by
    simp only [Rep] at h ⊢
    obtain ⟨a, vs, G, e, r, h, pm⟩ := h
    exact ⟨a, vs, G, e, s.keep a _ (.inl (pm.mem_iff.mpr List.mem_cons_self)) r, RepK.frame xs h (s.pm pm).tail, pm⟩
  | .dct false xs, v, F, h, s => by
    simp only [Rep] at h ⊢
    obtain ⟨rfl, a, vs, e, p, r, h⟩ := h
    exact ⟨rfl, a, vs, e, s.perm a p, s.keep a _ (.inr p) r, RepK.frame xs h s⟩
  | .ins true c xs, v, F, h, s => by
    simp only [Rep] at h ⊢
    obtain ⟨a, dx, vs, G, e, r, h, pm⟩ := h
    rw [← s.ca] at r
    exact ⟨a, dx, vs, G, e, s.keep a _ (.inl (pm.mem_iff.mpr List.mem_cons_self)) r, RepF.frame xs h (s.pm pm).tail, pm⟩
  | .ins false c xs, v, F, h, s => by
    simp only [Rep] at h ⊢
    obtain ⟨rfl, a, dx, vs, e, p, r, h⟩ := h
    rw [← s.ca] at r
    exact ⟨rfl, a, dx, vs, e, s.perm a p, s.keep a _ (.inr p) r, RepF.frame xs h s⟩
  | .link r, v, F, h, s => by
    simp only [Rep] at h ⊢
    exact ⟨h.1, s.rvs h.2⟩
  | .scr ns, v, F, h, s => by
    simp only [Rep] at h ⊢
    obtain ⟨rfl, a, e, h⟩ := h
    refine ⟨rfl, a, e, h.imp (fun z => ⟨s.perm a z.1, s.rd z.1 z.2⟩) fun z => ?_⟩
    rw [s.ca]; exact z
theorem RepL.frame {W W' : Wd} : ∀ (ds : List D) {vs : List V} {F : List Addr}, RepL W ds vs F → Stay W W' F → RepL W' ds vs F
  | [], vs, F, h, s => by simpa only [RepL] using h
  | d :: ds, vs, F, h, s => by
    simp only [RepL] at h ⊢
    obtain ⟨v, ws, F1, F2, e, h1, h2, pm⟩ := h
    exact ⟨v, ws, F1, F2, e, Rep.frame d h1 (s.pm pm).left, RepL.frame ds h2 (s.pm pm).right, pm⟩
theorem RepK.frame {W W' : Wd} : ∀ (ds : List (Key × D)) {vs : List (Key × V)} {F : List Addr}, RepK W ds vs F → Stay W W' F → RepK W' ds vs F
  | [], vs, F, h, s => by simpa only [RepK] using h
  | (k, d) :: ds, vs, F, h, s => by
    simp only [RepK] at h ⊢
    obtain ⟨v, ws, F1, F2, e, h1, h2, pm, ok⟩ := h
    exact ⟨v, ws, F1, F2, e, Rep.frame d h1 (s.pm pm).left, RepK.frame ds h2 (s.pm pm).right, pm, ok⟩
theorem RepF.frame {W W' : Wd} : ∀ (ds : List (Str × D)) {vs : List (Str × V)} {F : List Addr}, RepF W ds vs F → Stay W W' F → RepF W' ds vs F
  | [], vs, F, h, s => by simpa only [RepF] using h
  | (k, d) :: ds, vs, F, h, s => by
    simp only [RepF] at h ⊢
    obtain ⟨v, ws, F1, F2, e, h1, h2, pm⟩ := h
    exact ⟨v, ws, F1, F2, e, Rep.frame d h1 (s.pm pm).left, RepF.frame ds h2 (s.pm pm).right, pm⟩
end

/-- footprints up to order -/
theorem Rep.pm {W : Wd} {d : D} {v : V} {F G : List Addr} (h : Rep W d v F) (p : F.Perm G) : Rep W d v G := by
  cases d with
  | non => simp only [Rep] at h ⊢; obtain ⟨e, rfl⟩ := h; exact ⟨e, p.symm.eq_nil⟩
  | bl => simp only [Rep] at h ⊢; obtain ⟨e, rfl⟩ := h; exact ⟨e, p.symm.eq_nil⟩
  | int => simp only [Rep] at h ⊢; obtain ⟨e, rfl⟩ := h; exact ⟨e, p.symm.eq_nil⟩
  | str => simp only [Rep] at h ⊢; obtain ⟨e, rfl, o⟩ := h; exact ⟨e, p.symm.eq_nil, o⟩
  | tup xs => simp only [Rep] at h ⊢; obtain ⟨rfl, e⟩ := h; exact ⟨p.symm.eq_nil, e⟩
  | link r => simp only [Rep] at h ⊢; obtain ⟨rfl, e⟩ := h; exact ⟨p.symm.eq_nil, e⟩
  | scr r => simp only [Rep] at h ⊢; obtain ⟨rfl, e⟩ := h; exact ⟨p.symm.eq_nil, e⟩
  | lst o xs =>
    cases o with
    | true => simp only [Rep] at h ⊢; obtain ⟨a, vs, G', e, r, h, pm⟩ := h; exact ⟨a, vs, G', e, r, h, p.symm.trans pm⟩
    | false => simp only [Rep] at h ⊢; obtain ⟨rfl, e⟩ := h; exact ⟨p.symm.eq_nil, e⟩
  | dct o xs =>
    cases o with
    | true => simp only [Rep] at h ⊢; obtain ⟨a, vs, G', e, r, h, pm⟩ := h; exact ⟨a, vs, G', e, r, h, p.symm.trans pm⟩
    | false => simp only [Rep] at h ⊢; obtain ⟨rfl, e⟩ := h; exact ⟨p.symm.eq_nil, e⟩
  | ins o c xs =>
    cases o with
    | true => simp only [Rep] at h ⊢; obtain ⟨a, dx, vs, G', e, r, h, pm⟩ := h; exact ⟨a, dx, vs, G', e, r, h, p.symm.trans pm⟩
    | false => simp only [Rep] at h ⊢; obtain ⟨rfl, e⟩ := h; exact ⟨p.symm.eq_nil, e⟩
theorem RepL.pm {W : Wd} {d : List D} {v : List V} {F G : List Addr} (h : RepL W d v F) (p : F.Perm G) : RepL W d v G := by
  cases d with
  | nil => simp only [RepL] at h ⊢; obtain ⟨e, rfl⟩ := h; exact ⟨e, p.symm.eq_nil⟩
  | cons d ds => simp only [RepL] at h ⊢; obtain ⟨v, ws, F1, F2, e, h1, h2, q⟩ := h; exact ⟨v, ws, F1, F2, e, h1, h2, p.symm.trans q⟩
theorem RepK.pm {W : Wd} {d : List (Key × D)} {v : List (Key × V)} {F G : List Addr} (h : RepK W d v F) (p : F.Perm G) : RepK W d v G := by
  cases d with
  | nil => simp only [RepK] at h ⊢; obtain ⟨e, rfl⟩ := h; exact ⟨e, p.symm.eq_nil⟩
  | cons d ds => simp only [RepK] at h ⊢; obtain ⟨v, ws, F1, F2, e, h1, h2, q, ok⟩ := h; exact ⟨v, ws, F1, F2, e, h1, h2, p.symm.trans q, ok⟩
theorem RepF.pm {W : Wd} {d : List (Str × D)} {v : List (Str × V)} {F G : List Addr} (h : RepF W d v F) (p : F.Perm G) : RepF W d v G := by
  cases d with
  | nil => simp only [RepF] at h ⊢; obtain ⟨e, rfl⟩ := h; exact ⟨e, p.symm.eq_nil⟩
  | cons d ds => simp only [RepF] at h ⊢; obtain ⟨v, ws, F1, F2, e, h1, h2, q⟩ := h; exact ⟨v, ws, F1, F2, e, h1, h2, p.symm.trans q⟩

mutual
/-- owned objects are tracked -/
theorem Rep.trk {W : Wd} : ∀ (d : D) {v : V} {F : List Addr}, Rep W d v F → ∀ a ∈ F, ∃ o, W.H a = some o
  | .non, v, F, h => by simp only [Rep] at h; rw [h.2]; intro a ha; cases ha
  | .bl b, v, F, h => by simp only [Rep] at h; rw [h.2]; intro a ha; cases ha
  | .int b, v, F, h => by simp only [Rep] at h; rw [h.2]; intro a ha; cases ha
  | .str b, v, F, h => by simp only [Rep] at h; rw [h.2.1]; intro a ha; cases ha
  | .tup b, v, F, h => by simp only [Rep] at h; rw [h.1]; intro a ha; cases ha
  | .link b, v, F, h => by simp only [Rep] at h; rw [h.1]; intro a ha; cases ha
  | .scr b, v, F, h => by simp only [Rep] at h; rw [h.1]; intro a ha; cases ha
  | .lst false b, v, F, h => by simp only [Rep] at h; rw [h.1]; intro a ha; cases ha
  | .dct false b, v, F, h => by simp only [Rep] at h; rw [h.1]; intro a ha; cases ha
  | .ins false c b, v, F, h => by simp only [Rep] at h; rw [h.1]; intro a ha; cases ha
  | .lst true xs, v, F, h => by
    simp only [Rep] at h
    obtain ⟨a, vs, G, e, r, h, pm⟩ := h
    intro b hb
    rcases List.mem_cons.mp (pm.mem_iff.mp hb) with rfl | hb
    · exact ⟨_, r⟩
    · exact RepL.trk xs h b hb
  | .dct true xs, v, F, h => by
    simp only [Rep] at h
    obtain ⟨a, vs, G, e, r, h, pm⟩ := h
    intro b hb
    rcases List.mem_cons.mp (pm.mem_iff.mp hb) with rfl | hb
    · exact ⟨_, r⟩
    · exact RepK.trk xs h b hb
  | .ins true c xs, v, F, h => by
    simp only [Rep] at h
    obtain ⟨a, dx, vs, G, e, r, h, pm⟩ := h
    intro b hb
    rcases List.mem_cons.mp (pm.mem_iff.mp hb) with rfl | hb
    · exact ⟨_, r⟩
    · exact RepF.trk xs h b hb
theorem RepL.trk {W : Wd} : ∀ (ds : List D) {vs : List V} {F : List Addr}, RepL W ds vs F → ∀ a ∈ F, ∃ o, W.H a = some o
  | [], vs, F, h => by simp only [RepL] at h; rw [h.2]; intro a ha; cases ha
  | d :: ds, vs, F, h => by
    simp only [RepL] at h
    obtain ⟨v, ws, F1, F2, e, h1, h2, pm⟩ := h
    intro a ha
    rcases List.mem_append.mp (pm.mem_iff.mp ha) with ha | ha
    · exact Rep.trk d h1 a ha
    · exact RepL.trk ds h2 a ha
theorem RepK.trk {W : Wd} : ∀ (ds : List (Key × D)) {vs : List (Key × V)} {F : List Addr}, RepK W ds vs F → ∀ a ∈ F, ∃ o, W.H a = some o
  | [], vs, F, h => by simp only [RepK] at h; rw [h.2]; intro a ha; cases ha
  | (k, d) :: ds, vs, F, h => by
    simp only [RepK] at h
    obtain ⟨v, ws, F1, F2, e, h1, h2, pm, ok⟩ := h
    intro a ha
    rcases List.mem_append.mp (pm.mem_iff.mp ha) with ha | ha
    · exact Rep.trk d h1 a ha
    · exact RepK.trk ds h2 a ha
theorem RepF.trk {W : Wd} : ∀ (ds : List (Str × D)) {vs : List (Str × V)} {F : List Addr}, RepF W ds vs F → ∀ a ∈ F, ∃ o, W.H a = some o
  | [], vs, F, h => by simp only [RepF] at h; rw [h.2]; intro a ha; cases ha
  | (k, d) :: ds, vs, F, h => by
    simp only [RepF] at h
    obtain ⟨v, ws, F1, F2, e, h1, h2, pm⟩ := h
    intro a ha
    rcases List.mem_append.mp (pm.mem_iff.mp ha) with ha | ha
    · exact Rep.trk d h1 a ha
    · exact RepF.trk ds h2 a ha
end

mutual
/-- what owns nothing has no footprint -/
theorem Rep.free {W : Wd} : ∀ (d : D) {v : V} {F : List Addr}, Rep W d v F → d.free = true → F = []
  | .non, v, F, h, _ => by simp only [Rep] at h; exact h.2
  | .bl b, v, F, h, _ => by simp only [Rep] at h; exact h.2
  | .int b, v, F, h, _ => by simp only [Rep] at h; exact h.2
  | .str b, v, F, h, _ => by simp only [Rep] at h; exact h.2.1
  | .tup b, v, F, h, _ => by simp only [Rep] at h; exact h.1
  | .link b, v, F, h, _ => by simp only [Rep] at h; exact h.1
  | .scr b, v, F, h, _ => by simp only [Rep] at h; exact h.1
  | .lst false b, v, F, h, _ => by simp only [Rep] at h; exact h.1
  | .dct false b, v, F, h, _ => by simp only [Rep] at h; exact h.1
  | .ins false c b, v, F, h, _ => by simp only [Rep] at h; exact h.1
  | .lst true xs, v, F, h, q => by simp [D.free] at q
  | .dct true xs, v, F, h, q => by simp [D.free] at q
  | .ins true c xs, v, F, h, q => by simp [D.free] at q
end
theorem RepL.free {W : Wd} : ∀ (ds : List D) {vs : List V} {F : List Addr}, RepL W ds vs F → D.freeL ds = true → F = []
  | [], vs, F, h, _ => by simp only [RepL] at h; exact h.2
  | d :: ds, vs, F, h, q => by
    simp only [RepL] at h
    obtain ⟨v, ws, F1, F2, e, h1, h2, pm⟩ := h
    simp only [D.freeL, Bool.and_eq_true] at q
    have e1 := Rep.free d h1 q.1
    have e2 := RepL.free ds h2 q.2
    subst e1; subst e2
    exact pm.eq_nil
theorem RepK.free {W : Wd} : ∀ (ds : List (Key × D)) {vs : List (Key × V)} {F : List Addr}, RepK W ds vs F → D.freeK ds = true → F = []
  | [], vs, F, h, _ => by simp only [RepK] at h; exact h.2
  | (k, d) :: ds, vs, F, h, q => by
    simp only [RepK] at h
    obtain ⟨v, ws, F1, F2, e, h1, h2, pm, ok⟩ := h
    simp only [D.freeK, Bool.and_eq_true] at q
    have e1 := Rep.free d h1 q.1
    have e2 := RepK.free ds h2 q.2
    subst e1; subst e2
    exact pm.eq_nil
theorem RepF.free {W : Wd} : ∀ (ds : List (Str × D)) {vs : List (Str × V)} {F : List Addr}, RepF W ds vs F → D.freeF ds = true → F = []
  | [], vs, F, h, _ => by simp only [RepF] at h; exact h.2
  | (k, d) :: ds, vs, F, h, q => by
    simp only [RepF] at h
    obtain ⟨v, ws, F1, F2, e, h1, h2, pm⟩ := h
    simp only [D.freeF, Bool.and_eq_true] at q
    have e1 := Rep.free d h1 q.1
    have e2 := RepF.free ds h2 q.2
    subst e1; subst e2
    exact pm.eq_nil

/-- the world in which more is given up -/
abbrev Wd.give (W : Wd) (B : List Addr) : Wd := { W with P := fun a => W.P a ∨ a ∈ B }
theorem stay_give (W : Wd) (B F : List Addr) : Stay W (W.give B) F := ⟨fun _ _ _ h => h, fun _ h => .inl h, ⟨[], by simp⟩, rfl⟩
theorem Wd.give_cons {W : Wd} {B : List Addr} (h : ∀ a ∈ B, W.P a) : Stay (W.give B) W [] := ⟨fun _ _ _ h => h, fun a q => q.elim id (h a), ⟨[], by simp⟩, rfl⟩

mutual
theorem Rep.leak {W : Wd} : ∀ (d : D) {v : V} {F : List Addr}, Rep W d v F → (∀ a ∈ F, W.P a) → Rep W d.leak v []
  | .non, v, F, h, p => by simp only [Rep, D.leak] at h ⊢; exact ⟨h.1, trivial⟩
  | .bl b, v, F, h, p => by simp only [Rep, D.leak] at h ⊢; exact ⟨h.1, trivial⟩
  | .int b, v, F, h, p => by simp only [Rep, D.leak] at h ⊢; exact ⟨h.1, trivial⟩
  | .str b, v, F, h, p => by simp only [Rep, D.leak] at h ⊢; exact ⟨h.1, trivial, h.2.2⟩
  | .tup xs, v, F, h, p => by
    simp only [Rep, D.leak] at h ⊢
    obtain ⟨rfl, a, vs, e, q, r, h⟩ := h
    exact ⟨trivial, a, vs, e, q, r, RepL.leak xs h p⟩
  | .link b, v, F, h, p => by simp only [Rep, D.leak] at h ⊢; exact ⟨trivial, h.2⟩
  | .scr b, v, F, h, p => by simp only [Rep, D.leak] at h ⊢; exact ⟨trivial, h.2⟩
  | .lst false xs, v, F, h, p => by
    simp only [Rep, D.leak] at h ⊢
    obtain ⟨rfl, a, vs, e, q, r, h⟩ := h
    exact ⟨trivial, a, vs, e, q, r, RepL.leak xs h p⟩
  | .dct false xs, v, F, h, p => by
    simp only [Rep, D.leak] at h ⊢
    obtain ⟨rfl, a, vs, e, q, r, h⟩ := h
    exact ⟨trivial, a, vs, e, q, r, RepK.leak xs h p⟩
  | .ins false c xs, v, F, h, p => by
    simp only [Rep, D.leak] at h ⊢
    obtain ⟨rfl, a, dx, vs, e, q, r, h⟩ := h
    exact ⟨trivial, a, dx, vs, e, q, r, RepF.leak xs h p⟩
  | .lst true xs, v, F, h, p => by
    simp only [Rep, D.leak] at h ⊢
    obtain ⟨a, vs, G, e, r, h, pm⟩ := h
    exact ⟨trivial, a, vs, e, p a (pm.mem_iff.mpr List.mem_cons_self), r, RepL.leak xs h fun b hb => p b (pm.mem_iff.mpr (List.mem_cons_of_mem _ hb))⟩
  | .dct true xs, v, F, h, p => by
    simp only [Rep, D.leak] at h ⊢
    obtain ⟨a, vs, G, e, r, h, pm⟩ := h
    exact ⟨trivial, a, vs, e, p a (pm.mem_iff.mpr List.mem_cons_self), r, RepK.leak xs h fun b hb => p b (pm.mem_iff.mpr (List.mem_cons_of_mem _ hb))⟩
  | .ins true c xs, v, F, h, p => by
    simp only [Rep, D.leak] at h ⊢
    obtain ⟨a, dx, vs, G, e, r, h, pm⟩ := h
    exact ⟨trivial, a, dx, vs, e, p a (pm.mem_iff.mpr List.mem_cons_self), r, RepF.leak xs h fun b hb => p b (pm.mem_iff.mpr (List.mem_cons_of_mem _ hb))⟩
theorem RepL.leak {W : Wd} : ∀ (ds : List D) {vs : List V} {F : List Addr}, RepL W ds vs F → (∀ a ∈ F, W.P a) → RepL W (D.leakL ds) vs []
  | [], vs, F, h, p => by simp only [RepL, D.leakL] at h ⊢; exact ⟨h.1, trivial⟩
  | d :: ds, vs, F, h, p => by
    simp only [RepL, D.leakL] at h ⊢
    obtain ⟨v, ws, F1, F2, e, h1, h2, pm⟩ := h
    exact ⟨v, ws, [], [], e, Rep.leak d h1 fun a ha => p a (pm.mem_iff.mpr (List.mem_append_left _ ha)), RepL.leak ds h2 fun a ha => p a (pm.mem_iff.mpr (List.mem_append_right _ ha)), .nil⟩
theorem RepK.leak {W : Wd} : ∀ (ds : List (Key × D)) {vs : List (Key × V)} {F : List Addr}, RepK W ds vs F → (∀ a ∈ F, W.P a) → RepK W (D.leakK ds) vs []
  | [], vs, F, h, p => by simp only [RepK, D.leakK] at h ⊢; exact ⟨h.1, trivial⟩
  | (k, d) :: ds, vs, F, h, p => by
    simp only [RepK, D.leakK] at h ⊢
    obtain ⟨v, ws, F1, F2, e, h1, h2, pm, ok⟩ := h
    exact ⟨v, ws, [], [], e, Rep.leak d h1 fun a ha => p a (pm.mem_iff.mpr (List.mem_append_left _ ha)), RepK.leak ds h2 fun a ha => p a (pm.mem_iff.mpr (List.mem_append_right _ ha)), .nil, ok.1, by rw [lookP_leak, ok.2]; rfl⟩
theorem RepF.leak {W : Wd} : ∀ (ds : List (Str × D)) {vs : List (Str × V)} {F : List Addr}, RepF W ds vs F → (∀ a ∈ F, W.P a) → RepF W (D.leakF ds) vs []
  | [], vs, F, h, p => by simp only [RepF, D.leakF] at h ⊢; exact ⟨h.1, trivial⟩
  | (k, d) :: ds, vs, F, h, p => by
    simp only [RepF, D.leakF] at h ⊢
    obtain ⟨v, ws, F1, F2, e, h1, h2, pm⟩ := h
    exact ⟨v, ws, [], [], e, Rep.leak d h1 fun a ha => p a (pm.mem_iff.mpr (List.mem_append_left _ ha)), RepF.leak ds h2 fun a ha => p a (pm.mem_iff.mpr (List.mem_append_right _ ha)), .nil⟩
end
end RB
end

section
set_option Elab.async false
set_option maxRecDepth 100000
namespace RB
open PySem L2

/-! ### paths within data -/
variable {κ : Type} [DecidableEq κ] {α : Type}
inductive Step where
  | fld (f : Str) | key (k : Key) | idx (n : Nat)
  deriving DecidableEq, Inhabited

def getP : D → List Step → Option D
  | d, [] => some d
  | .ins _ _ fs, .fld f :: p => (lookP fs f).bind fun d => getP d p
  | .dct _ kvs, .key k :: p => (lookP kvs k).bind fun d => getP d p
  | .lst _ xs, .idx n :: p => xs[n]?.bind fun d => getP d p
  | .tup xs, .idx n :: p => xs[n]?.bind fun d => getP d p
  | _, _ :: _ => none
/-- through owned nodes alone -/
def setP : D → List Step → D → Option D
  | _, [], e => some e
  | .ins true c fs, .fld f :: p, e => (lookP fs f).bind fun d => (setP d p e).map fun d' => .ins true c (putP fs f d')
  | .dct true kvs, .key k :: p, e => (lookP kvs k).bind fun d => (setP d p e).map fun d' => .dct true (putP kvs k d')
  | .lst true xs, .idx n :: p, e => xs[n]?.bind fun d => (setP d p e).map fun d' => .lst true (xs.set n d')
  | _, _ :: _, _ => none

/-- the value that stands there -/
def ValAt (H : Hp) : V → List Step → V → Prop
  | v, [], u => v = u
  | v, .fld f :: p, u => ∃ a C dx fs w, v = .ref a ∧ H a = some (.ins C dx fs) ∧ lookP fs f = some w ∧ ValAt H w p u
  | v, .key k :: p, u => ∃ a kvs w, v = .ref a ∧ Rd H a (.dK kvs) ∧ lookP kvs k = some w ∧ ValAt H w p u
  | v, .idx n :: p, u => ∃ a vs w, v = .ref a ∧ (Rd H a (.lst vs) ∨ Rd H a (.tup vs)) ∧ vs[n]? = some w ∧ ValAt H w p u

/-! ### one part of a list of parts -/
theorem RepL.at {W : Wd} : ∀ {ds : List D} {vs : List V} {F : List Addr} {i : Nat} {d : D}, RepL W ds vs F → ds[i]? = some d →
    ∃ v F1 F2, vs[i]? = some v ∧ Rep W d v F1 ∧ F.Perm (F1 ++ F2) ∧ ∀ W' d' v' F1', Stay W W' F2 → Rep W' d' v' F1' → RepL W' (ds.set i d') (vs.set i v') (F1' ++ F2)
  | [], vs, F, i, d, h, e => by simp at e
  | x :: ds, vs, F, 0, d, h, e => by
    simp only [RepL] at h
    obtain ⟨v, ws, F1, F2, rfl, h1, h2, pm⟩ := h
    simp only [List.getElem?_cons_zero, Option.some.injEq] at e
    subst e
    refine ⟨v, F1, F2, rfl, h1, pm, fun W' d' v' F1' st r => ?_⟩
    simp only [List.set_cons_zero, RepL]
    exact ⟨v', ws, F1', F2, rfl, r, RepL.frame ds h2 st, .refl _⟩
  | x :: ds, vs, F, i + 1, d, h, e => by
    simp only [RepL] at h
    obtain ⟨v, ws, F1, F2, rfl, h1, h2, pm⟩ := h
    simp only [List.getElem?_cons_succ] at e
    obtain ⟨v0, G1, G2, e0, r0, p0, k0⟩ := RepL.at h2 e
    refine ⟨v0, G1, F1 ++ G2, by simpa using e0, r0, ?_, fun W' d' v' F1' st r => ?_⟩
    · refine pm.trans ?_
      refine (List.Perm.append_left F1 p0).trans ?_
      rw [← List.append_assoc, ← List.append_assoc]
      exact List.perm_append_comm.append_right G2
    · simp only [List.set_cons_succ, RepL]
      refine ⟨v, ws.set i v', F1, F1' ++ G2, rfl, Rep.frame x h1 st.left, k0 W' d' v' F1' st.right r, ?_⟩
      rw [← List.append_assoc, ← List.append_assoc]
      exact List.perm_append_comm.append_right G2
theorem RepL.len {W : Wd} : ∀ {ds : List D} {vs : List V} {F : List Addr}, RepL W ds vs F → vs.length = ds.length
  | [], vs, F, h => by simp only [RepL] at h; rw [h.1]; rfl
  | x :: ds, vs, F, h => by
    simp only [RepL] at h
    obtain ⟨v, ws, F1, F2, rfl, h1, h2, pm⟩ := h
    simp [RepL.len h2]
theorem RepK.at {W : Wd} : ∀ {ds : List (Key × D)} {vs : List (Key × V)} {F : List Addr} {k : Key} {d : D}, RepK W ds vs F → lookP ds k = some d →
    ∃ v F1 F2, lookP vs k = some v ∧ Rep W d v F1 ∧ F.Perm (F1 ++ F2) ∧ ∀ W' d' v' F1', Stay W W' F2 → Rep W' d' v' F1' → RepK W' (putP ds k d') (putP vs k v') (F1' ++ F2)
  | [], vs, F, i, d, h, e => by simp [lookP] at e
  | (x, y) :: ds, vs, F, k, d, h, e => by
    simp only [RepK] at h
    obtain ⟨v, ws, F1, F2, rfl, h1, h2, pm, ok⟩ := h
    by_cases hk : x = k
    · subst hk
      simp only [lookP, if_true, Option.some.injEq] at e
      subst e
      refine ⟨v, F1, F2, by simp [lookP], h1, pm, fun W' d' v' F1' st r => ?_⟩
      simp only [putP, if_true, RepK]
      exact ⟨v', ws, F1', F2, rfl, r, RepK.frame ds h2 st, .refl _, ok⟩
    · simp only [lookP, if_neg hk] at e
      obtain ⟨v0, G1, G2, e0, r0, p0, k0⟩ := RepK.at h2 e
      refine ⟨v0, G1, F1 ++ G2, by simp [lookP, if_neg hk, e0], r0, ?_, fun W' d' v' F1' st r => ?_⟩
      · refine pm.trans ?_
        refine (List.Perm.append_left F1 p0).trans ?_
        rw [← List.append_assoc, ← List.append_assoc]
        exact List.perm_append_comm.append_right G2
      · simp only [putP, if_neg hk, RepK]
        refine ⟨v, putP ws k v', F1, F1' ++ G2, rfl, Rep.frame y h1 st.left, k0 W' d' v' F1' st.right r, ?_, ok.1, by rw [lookP_put_ne hk]; exact ok.2⟩
        rw [← List.append_assoc, ← List.append_assoc]
        exact List.perm_append_comm.append_right G2
theorem RepF.at {W : Wd} : ∀ {ds : List (Str × D)} {vs : List (Str × V)} {F : List Addr} {k : Str} {d : D}, RepF W ds vs F → lookP ds k = some d →
    ∃ v F1 F2, lookP vs k = some v ∧ Rep W d v F1 ∧ F.Perm (F1 ++ F2) ∧ ∀ W' d' v' F1', Stay W W' F2 → Rep W' d' v' F1' → RepF W' (putP ds k d') (putP vs k v') (F1' ++ F2)
  | [], vs, F, i, d, h, e => by simp [lookP] at e
  | (x, y) :: ds, vs, F, k, d, h, e => by
    simp only [RepF] at h
    obtain ⟨v, ws, F1, F2, rfl, h1, h2, pm⟩ := h
    by_cases hk : x = k
    · subst hk
      simp only [lookP, if_true, Option.some.injEq] at e
      subst e
      refine ⟨v, F1, F2, by simp [lookP], h1, pm, fun W' d' v' F1' st r => ?_⟩
      simp only [putP, if_true, RepF]
      exact ⟨v', ws, F1', F2, rfl, r, RepF.frame ds h2 st, .refl _⟩
    · simp only [lookP, if_neg hk] at e
      obtain ⟨v0, G1, G2, e0, r0, p0, k0⟩ := RepF.at h2 e
      refine ⟨v0, G1, F1 ++ G2, by simp [lookP, if_neg hk, e0], r0, ?_, fun W' d' v' F1' st r => ?_⟩
      · refine pm.trans ?_
        refine (List.Perm.append_left F1 p0).trans ?_
        rw [← List.append_assoc, ← List.append_assoc]
        exact List.perm_append_comm.append_right G2
      · simp only [putP, if_neg hk, RepF]
        refine ⟨v, putP ws k v', F1, F1' ++ G2, rfl, Rep.frame y h1 st.left, k0 W' d' v' F1' st.right r, ?_⟩
        rw [← List.append_assoc, ← List.append_assoc]
        exact List.perm_append_comm.append_right G2
/-- a part that isn't there -/
theorem RepK.no {W : Wd} : ∀ {ds : List (Key × D)} {vs : List (Key × V)} {F : List Addr} {k : Key}, RepK W ds vs F → lookP ds k = none → lookP vs k = none
  | [], vs, F, k, h, e => by simp only [RepK] at h; rw [h.1]; rfl
  | (x, y) :: ds, vs, F, k, h, e => by
    simp only [RepK] at h
    obtain ⟨v, ws, F1, F2, rfl, h1, h2, pm⟩ := h
    by_cases hk : x = k
    · simp [lookP, hk] at e
    · simp only [lookP, if_neg hk] at e ⊢
      exact RepK.no h2 e
theorem RepF.no {W : Wd} : ∀ {ds : List (Str × D)} {vs : List (Str × V)} {F : List Addr} {k : Str}, RepF W ds vs F → lookP ds k = none → lookP vs k = none
  | [], vs, F, k, h, e => by simp only [RepF] at h; rw [h.1]; rfl
  | (x, y) :: ds, vs, F, k, h, e => by
    simp only [RepF] at h
    obtain ⟨v, ws, F1, F2, rfl, h1, h2, pm⟩ := h
    by_cases hk : x = k
    · simp [lookP, hk] at e
    · simp only [lookP, if_neg hk] at e ⊢
      exact RepF.no h2 e
theorem RepK.snoc {W : Wd} {k : Key} {d' : D} {v' : V} {F1 : List Addr} (r : Rep W d' v' F1) (okk : okKey k) : ∀ {ds : List (Key × D)} {vs : List (Key × V)} {F : List Addr}, RepK W ds vs F → lookP ds k = none → RepK W (putP ds k d') (putP vs k v') (F1 ++ F)
  | [], vs, F, h, e => by
    simp only [RepK] at h
    rw [h.1, h.2]
    simp only [putP, RepK]
    exact ⟨v', [], F1, [], rfl, r, ⟨rfl, rfl⟩, .refl _, okk, rfl⟩
  | (x, y) :: ds, vs, F, h, e => by
    simp only [RepK] at h
    obtain ⟨v, ws, G1, G2, rfl, h1, h2, pm, ok⟩ := h
    by_cases hk : x = k
    · simp [lookP, hk] at e
    · simp only [lookP, if_neg hk] at e
      simp only [putP, if_neg hk, RepK]
      refine ⟨v, putP ws k v', G1, F1 ++ G2, rfl, h1, RepK.snoc r okk h2 e, ?_, ok.1, by rw [lookP_put_ne hk]; exact ok.2⟩
      refine (List.Perm.append_left F1 pm).trans ?_
      rw [← List.append_assoc, ← List.append_assoc]
      exact List.perm_append_comm.append_right G2
theorem RepF.snoc {W : Wd} {k : Str} {d' : D} {v' : V} {F1 : List Addr} (r : Rep W d' v' F1) : ∀ {ds : List (Str × D)} {vs : List (Str × V)} {F : List Addr}, RepF W ds vs F → lookP ds k = none → RepF W (putP ds k d') (putP vs k v') (F1 ++ F)
  | [], vs, F, h, e => by
    simp only [RepF] at h
    rw [h.1, h.2]
    simp only [putP, RepF]
    exact ⟨v', [], F1, [], rfl, r, ⟨rfl, rfl⟩, .refl _⟩
  | (x, y) :: ds, vs, F, h, e => by
    simp only [RepF] at h
    obtain ⟨v, ws, G1, G2, rfl, h1, h2, pm⟩ := h
    by_cases hk : x = k
    · simp [lookP, hk] at e
    · simp only [lookP, if_neg hk] at e
      simp only [putP, if_neg hk, RepF]
      refine ⟨v, putP ws k v', G1, F1 ++ G2, rfl, h1, RepF.snoc r h2 e, ?_⟩
      refine (List.Perm.append_left F1 pm).trans ?_
      rw [← List.append_assoc, ← List.append_assoc]
      exact List.perm_append_comm.append_right G2
theorem RepL.app {W : Wd} {ys : List D} {us : List V} {G : List Addr} (r : RepL W ys us G) : ∀ {ds : List D} {vs : List V} {F : List Addr}, RepL W ds vs F → RepL W (ds ++ ys) (vs ++ us) (F ++ G)
  | [], vs, F, h => by
    simp only [RepL] at h
    rw [h.1, h.2]
    exact r
  | x :: ds, vs, F, h => by
    simp only [RepL] at h
    obtain ⟨v, ws, F1, F2, rfl, h1, h2, pm⟩ := h
    simp only [List.cons_append, RepL]
    refine ⟨v, ws ++ us, F1, F2 ++ G, rfl, h1, RepL.app r h2, ?_⟩
    rw [← List.append_assoc]
    exact pm.append_right G
theorem RepL.one {W : Wd} {d : D} {v : V} {F : List Addr} (h : Rep W d v F) : RepL W [d] [v] F := by
  simp only [RepL]
  exact ⟨v, [], F, [], rfl, h, ⟨rfl, rfl⟩, by simp⟩

/-! ### a place within data -/
theorem putP_same : ∀ {l : List (κ × α)} {k : κ} {d : α}, lookP l k = some d → putP l k d = l
  | [], k, d, h => by simp [lookP] at h
  | (x, e) :: r, k, d, h => by
    by_cases hx : x = k
    · simp only [lookP, if_pos hx, Option.some.injEq] at h
      subst h; simp [putP, hx]
    · simp only [lookP, if_neg hx] at h
      simp only [putP, if_neg hx, putP_same h]
theorem set_same {l : List α} {n : Nat} {d : α} (h : l[n]? = some d) : l.set n d = l := by
  apply List.ext_getElem?
  intro i
  by_cases e : n = i
  · subst e
    rw [List.getElem?_set_self (List.getElem?_eq_some_iff.mp h).1, h]
  · rw [List.getElem?_set_ne e]
theorem RepL.at0 {W : Wd} {ds : List D} {vs : List V} {i : Nat} {d : D} (h : RepL W ds vs []) (e : ds[i]? = some d) : ∃ v, vs[i]? = some v ∧ Rep W d v [] := by
  obtain ⟨v, F1, F2, e1, r, p, _⟩ := RepL.at h e
  have := p.symm.eq_nil
  simp only [List.append_eq_nil_iff] at this
  rw [this.1] at r
  exact ⟨v, e1, r⟩
theorem RepK.at0 {W : Wd} {ds : List (Key × D)} {vs : List (Key × V)} {k : Key} {d : D} (h : RepK W ds vs []) (e : lookP ds k = some d) : ∃ v, lookP vs k = some v ∧ Rep W d v [] := by
  obtain ⟨v, F1, F2, e1, r, p, _⟩ := RepK.at h e
  have := p.symm.eq_nil
  simp only [List.append_eq_nil_iff] at this
  rw [this.1] at r
  exact ⟨v, e1, r⟩
theorem RepF.at0 {W : Wd} {ds : List (Str × D)} {vs : List (Str × V)} {k : Str} {d : D} (h : RepF W ds vs []) (e : lookP ds k = some d) : ∃ v, lookP vs k = some v ∧ Rep W d v [] := by
  obtain ⟨v, F1, F2, e1, r, p, _⟩ := RepF.at h e
  have := p.symm.eq_nil
  simp only [List.append_eq_nil_iff] at this
  rw [this.1] at r
  exact ⟨v, e1, r⟩
theorem path_perm {a : Addr} {F G1 G2 F1 F2 G : List Addr} (pm : F.Perm (a :: G)) (p1 : G.Perm (F1 ++ F2)) (p2 : F1.Perm (G1 ++ G2)) : F.Perm (G1 ++ a :: (G2 ++ F2)) := by
  refine pm.trans ((List.Perm.cons a (p1.trans (p2.append_right F2))).trans ?_)
  rw [List.append_assoc]
  exact List.perm_middle.symm
theorem path_perm2 {a : Addr} {F1 G2 F2 : List Addr} : (F1 ++ a :: (G2 ++ F2)).Perm (a :: ((F1 ++ G2) ++ F2)) := by
  rw [List.append_assoc]
  exact List.perm_middle
theorem Rep.path {W : Wd} : ∀ (p : List Step) {d e : D} {v : V} {F : List Addr}, Rep W d v F → getP d p = some e → ∃ u F1 F2, ValAt W.H v p u ∧ Rep W e u F1 ∧ F.Perm (F1 ++ F2) ∧
    ∀ W' e' d' F1', setP d p e' = some d' → Stay W W' F2 → Rep W' e' u F1' → Rep W' d' v (F1' ++ F2)
  | [], d, e, v, F, h, g => by
    simp only [getP, Option.some.injEq] at g
    subst g
    refine ⟨v, F, [], rfl, h, by simp, fun W' e' d' F1' q st r => ?_⟩
    simp only [setP, Option.some.injEq] at q
    subst q
    exact r.pm (by simp)
  | .fld f :: p, d, e, v, F, h, g => by
    cases d with
    | ins o c fs =>
      simp only [getP, Option.bind_eq_some_iff] at g
      obtain ⟨x, g1, g2⟩ := g
      cases o with
      | true =>
        simp only [Rep] at h
        obtain ⟨a, dx, vs, G, rfl, r, h, pm⟩ := h
        obtain ⟨w, F1, F2, e1, r1, p1, k1⟩ := RepF.at h g1
        obtain ⟨u, G1, G2, v2, r2, p2, k2⟩ := Rep.path p r1 g2
        refine ⟨u, G1, a :: (G2 ++ F2), ⟨a, _, dx, vs, w, rfl, r, e1, v2⟩, r2, path_perm pm p1 p2, fun W' e' d' F1' q st rr => ?_⟩
        simp only [setP, g1, Option.bind_some, Option.map_eq_some_iff] at q
        obtain ⟨y, q1, rfl⟩ := q
        have hh := k1 W' y w (F1' ++ G2) st.tail.right (k2 W' e' y F1' q1 st.tail.left rr)
        rw [putP_same e1] at hh
        simp only [Rep]
        exact ⟨a, dx, vs, _, rfl, by rw [st.ca]; exact st.keep a _ (.inl List.mem_cons_self) r, hh, path_perm2⟩
      | false =>
        simp only [Rep] at h
        obtain ⟨rfl, a, dx, vs, rfl, pa, r, h⟩ := h
        obtain ⟨w, e1, r1⟩ := RepF.at0 h g1
        obtain ⟨u, G1, G2, v2, r2, p2, k2⟩ := Rep.path p r1 g2
        exact ⟨u, G1, G2, ⟨a, _, dx, vs, w, rfl, r, e1, v2⟩, r2, p2, fun W' e' d' F1' q st rr => by simp [setP] at q⟩
    | _ => simp [getP] at g
  | .key k :: p, d, e, v, F, h, g => by
    cases d with
    | dct o fs =>
      simp only [getP, Option.bind_eq_some_iff] at g
      obtain ⟨x, g1, g2⟩ := g
      cases o with
      | true =>
        simp only [Rep] at h
        obtain ⟨a, vs, G, rfl, r, h, pm⟩ := h
        obtain ⟨w, F1, F2, e1, r1, p1, k1⟩ := RepK.at h g1
        obtain ⟨u, G1, G2, v2, r2, p2, k2⟩ := Rep.path p r1 g2
        refine ⟨u, G1, a :: (G2 ++ F2), ⟨a, vs, w, rfl, .inl r, e1, v2⟩, r2, path_perm pm p1 p2, fun W' e' d' F1' q st rr => ?_⟩
        simp only [setP, g1, Option.bind_some, Option.map_eq_some_iff] at q
        obtain ⟨y, q1, rfl⟩ := q
        have hh := k1 W' y w (F1' ++ G2) st.tail.right (k2 W' e' y F1' q1 st.tail.left rr)
        rw [putP_same e1] at hh
        simp only [Rep]
        exact ⟨a, vs, _, rfl, st.keep a _ (.inl List.mem_cons_self) r, hh, path_perm2⟩
      | false =>
        simp only [Rep] at h
        obtain ⟨rfl, a, vs, rfl, pa, r, h⟩ := h
        obtain ⟨w, e1, r1⟩ := RepK.at0 h g1
        obtain ⟨u, G1, G2, v2, r2, p2, k2⟩ := Rep.path p r1 g2
        exact ⟨u, G1, G2, ⟨a, vs, w, rfl, .inl r, e1, v2⟩, r2, p2, fun W' e' d' F1' q st rr => by simp [setP] at q⟩
    | _ => simp [getP] at g
  | .idx n :: p, d, e, v, F, h, g => by
    cases d with
    | tup fs =>
      simp only [getP, Option.bind_eq_some_iff] at g
      obtain ⟨x, g1, g2⟩ := g
      simp only [Rep] at h
      obtain ⟨rfl, a, vs, rfl, pa, r, h⟩ := h
      obtain ⟨w, e1, r1⟩ := RepL.at0 h g1
      obtain ⟨u, G1, G2, v2, r2, p2, k2⟩ := Rep.path p r1 g2
      exact ⟨u, G1, G2, ⟨a, vs, w, rfl, .inr (.inl r), e1, v2⟩, r2, p2, fun W' e' d' F1' q st rr => by simp [setP] at q⟩
    | lst o fs =>
      simp only [getP, Option.bind_eq_some_iff] at g
      obtain ⟨x, g1, g2⟩ := g
      cases o with
      | true =>
        simp only [Rep] at h
        obtain ⟨a, vs, G, rfl, r, h, pm⟩ := h
        obtain ⟨w, F1, F2, e1, r1, p1, k1⟩ := RepL.at h g1
        obtain ⟨u, G1, G2, v2, r2, p2, k2⟩ := Rep.path p r1 g2
        refine ⟨u, G1, a :: (G2 ++ F2), ⟨a, vs, w, rfl, .inl (.inl r), e1, v2⟩, r2, path_perm pm p1 p2, fun W' e' d' F1' q st rr => ?_⟩
        simp only [setP, g1, Option.bind_some, Option.map_eq_some_iff] at q
        obtain ⟨y, q1, rfl⟩ := q
        have hh := k1 W' y w (F1' ++ G2) st.tail.right (k2 W' e' y F1' q1 st.tail.left rr)
        rw [set_same e1] at hh
        simp only [Rep]
        exact ⟨a, vs, _, rfl, st.keep a _ (.inl List.mem_cons_self) r, hh, path_perm2⟩
      | false =>
        simp only [Rep] at h
        obtain ⟨rfl, a, vs, rfl, pa, r, h⟩ := h
        obtain ⟨w, e1, r1⟩ := RepL.at0 h g1
        obtain ⟨u, G1, G2, v2, r2, p2, k2⟩ := Rep.path p r1 g2
        exact ⟨u, G1, G2, ⟨a, vs, w, rfl, .inl (.inl r), e1, v2⟩, r2, p2, fun W' e' d' F1' q st rr => by simp [setP] at q⟩
    | _ => simp [getP] at g

/-! ### the state of a frame: its slots, the regions -/
structure DS where
  ds : List (Option D)
  rg : List D
def RepS (W : Wd) : List (Option D) → St → List (List Addr) → Prop
  | [], σ, Fs => σ = [] ∧ Fs = []
  | none :: ds, σ, Fs => ∃ o σ' Fs', σ = o :: σ' ∧ Fs = [] :: Fs' ∧ RepS W ds σ' Fs'
  | some d :: ds, σ, Fs => ∃ v σ' F Fs', σ = some v :: σ' ∧ Fs = F :: Fs' ∧ Rep W d v F ∧ RepS W ds σ' Fs'
theorem RepS.len {W : Wd} : ∀ {ds : List (Option D)} {σ : St} {Fs : List (List Addr)}, RepS W ds σ Fs → σ.length = ds.length ∧ Fs.length = ds.length
  | [], σ, Fs, h => by simp only [RepS] at h; rw [h.1, h.2]; exact ⟨rfl, rfl⟩
  | none :: ds, σ, Fs, h => by
    simp only [RepS] at h
    obtain ⟨o, σ', Fs', rfl, rfl, h⟩ := h
    have := RepS.len h
    simp [this.1, this.2]
  | some d :: ds, σ, Fs, h => by
    simp only [RepS] at h
    obtain ⟨v, σ', F, Fs', rfl, rfl, _, h⟩ := h
    have := RepS.len h
    simp [this.1, this.2]
theorem RepS.frame {W W' : Wd} : ∀ {ds : List (Option D)} {σ : St} {Fs : List (List Addr)}, RepS W ds σ Fs → Stay W W' Fs.flatten → RepS W' ds σ Fs
  | [], σ, Fs, h, s => by simpa only [RepS] using h
  | none :: ds, σ, Fs, h, s => by
    simp only [RepS] at h ⊢
    obtain ⟨o, σ', Fs', rfl, rfl, h⟩ := h
    exact ⟨o, σ', Fs', rfl, rfl, RepS.frame h (by simpa using s)⟩
  | some d :: ds, σ, Fs, h, s => by
    simp only [RepS] at h ⊢
    obtain ⟨v, σ', F, Fs', rfl, rfl, r, h⟩ := h
    have s' : Stay W W' (F ++ Fs'.flatten) := by simpa using s
    exact ⟨v, σ', F, Fs', rfl, rfl, Rep.frame d r s'.left, RepS.frame h s'.right⟩
theorem RepS.trk {W : Wd} : ∀ {ds : List (Option D)} {σ : St} {Fs : List (List Addr)}, RepS W ds σ Fs → ∀ a ∈ Fs.flatten, ∃ o, W.H a = some o
  | [], σ, Fs, h => by simp only [RepS] at h; rw [h.2]; intro a ha; simp at ha
  | none :: ds, σ, Fs, h => by
    simp only [RepS] at h
    obtain ⟨o, σ', Fs', rfl, rfl, h⟩ := h
    intro a ha
    exact RepS.trk h a (by simpa using ha)
  | some d :: ds, σ, Fs, h => by
    simp only [RepS] at h
    obtain ⟨v, σ', F, Fs', rfl, rfl, r, h⟩ := h
    intro a ha
    rw [List.flatten_cons, List.mem_append] at ha
    rcases ha with ha | ha
    · exact Rep.trk d r a ha
    · exact RepS.trk h a ha
/-- one slot, and what stands there instead -/
theorem RepS.at {W : Wd} : ∀ {ds : List (Option D)} {σ : St} {Fs : List (List Addr)} {i : Nat} {d : D}, RepS W ds σ Fs → ds[i]? = some (some d) →
    ∃ v F, σ[i]? = some (some v) ∧ Fs[i]? = some F ∧ Rep W d v F
  | [], σ, Fs, i, d, h, e => by simp at e
  | x :: ds, σ, Fs, 0, d, h, e => by
    simp only [List.getElem?_cons_zero, Option.some.injEq] at e
    subst e
    simp only [RepS] at h
    obtain ⟨v, σ', F, Fs', rfl, rfl, r, h⟩ := h
    exact ⟨v, F, rfl, rfl, r⟩
  | none :: ds, σ, Fs, i + 1, d, h, e => by
    simp only [RepS] at h
    obtain ⟨o, σ', Fs', rfl, rfl, h⟩ := h
    simpa using RepS.at h (by simpa using e)
  | some y :: ds, σ, Fs, i + 1, d, h, e => by
    simp only [RepS] at h
    obtain ⟨v, σ', F, Fs', rfl, rfl, r, h⟩ := h
    simpa using RepS.at h (by simpa using e)
/-- a slot is set anew (the others as they were in a world that may have changed) -/
theorem RepS.set {W : Wd} : ∀ {ds : List (Option D)} {σ : St} {Fs : List (List Addr)} (i : Nat) {d : D} {v : V} {F : List Addr}, RepS W ds σ Fs → Rep W d v F → i < ds.length → RepS W (ds.set i (some d)) (σ.set i (some v)) (Fs.set i F)
  | [], σ, Fs, i, d, v, F, h, r, hi => by simp at hi
  | none :: ds, σ, Fs, 0, d, v, F, h, r, hi => by
    simp only [RepS] at h
    obtain ⟨o, σ', Fs', rfl, rfl, h⟩ := h
    simp only [List.set_cons_zero, RepS]
    exact ⟨v, σ', F, Fs', rfl, rfl, r, h⟩
  | some y :: ds, σ, Fs, 0, d, v, F, h, r, hi => by
    simp only [RepS] at h
    obtain ⟨v', σ', F', Fs', rfl, rfl, _, h⟩ := h
    simp only [List.set_cons_zero, RepS]
    exact ⟨v, σ', F, Fs', rfl, rfl, r, h⟩
  | none :: ds, σ, Fs, i + 1, d, v, F, h, r, hi => by
    simp only [RepS] at h
    obtain ⟨o, σ', Fs', rfl, rfl, h⟩ := h
    simp only [List.set_cons_succ, RepS]
    exact ⟨o, _, _, rfl, rfl, RepS.set i h r (by simpa using hi)⟩
  | some y :: ds, σ, Fs, i + 1, d, v, F, h, r, hi => by
    simp only [RepS] at h
    obtain ⟨v', σ', F', Fs', rfl, rfl, r', h⟩ := h
    simp only [List.set_cons_succ, RepS]
    exact ⟨v', _, F', _, rfl, rfl, r', RepS.set i h r (by simpa using hi)⟩
/-- a slot is emptied -/
theorem RepS.drop {W : Wd} : ∀ {ds : List (Option D)} {σ : St} {Fs : List (List Addr)} (i : Nat), RepS W ds σ Fs → RepS W (ds.set i none) σ (Fs.set i [])
  | [], σ, Fs, i, h => by simp only [RepS] at h; simp only [List.set_nil, RepS]; rw [h.2]; exact ⟨h.1, by simp⟩
  | none :: ds, σ, Fs, 0, h => by
    simp only [RepS] at h
    obtain ⟨o, σ', Fs', rfl, rfl, h⟩ := h
    simp only [List.set_cons_zero, RepS]
    exact ⟨o, σ', Fs', rfl, rfl, h⟩
  | some y :: ds, σ, Fs, 0, h => by
    simp only [RepS] at h
    obtain ⟨v', σ', F', Fs', rfl, rfl, _, h⟩ := h
    simp only [List.set_cons_zero, RepS]
    exact ⟨some v', σ', Fs', rfl, rfl, h⟩
  | none :: ds, σ, Fs, i + 1, h => by
    simp only [RepS] at h
    obtain ⟨o, σ', Fs', rfl, rfl, h⟩ := h
    simp only [List.set_cons_succ, RepS]
    exact ⟨o, _, _, rfl, rfl, RepS.drop i h⟩
  | some y :: ds, σ, Fs, i + 1, h => by
    simp only [RepS] at h
    obtain ⟨v', σ', F', Fs', rfl, rfl, r', h⟩ := h
    simp only [List.set_cons_succ, RepS]
    exact ⟨v', _, F', _, rfl, rfl, r', RepS.drop i h⟩
/-- what stands in an empty slot doesn't matter -/
theorem RepS.hole {W : Wd} : ∀ {ds : List (Option D)} {σ : St} {Fs : List (List Addr)} (i : Nat) (o : Option V), RepS W ds σ Fs → ds[i]? = some none → RepS W ds (σ.set i o) Fs
  | [], σ, Fs, i, o, h, e => by simp at e
  | none :: ds, σ, Fs, 0, o, h, e => by
    simp only [RepS] at h ⊢
    obtain ⟨o', σ', Fs', rfl, rfl, h⟩ := h
    exact ⟨o, σ', Fs', rfl, rfl, h⟩
  | some y :: ds, σ, Fs, 0, o, h, e => by simp at e
  | none :: ds, σ, Fs, i + 1, o, h, e => by
    simp only [RepS] at h ⊢
    obtain ⟨o', σ', Fs', rfl, rfl, h⟩ := h
    exact ⟨o', _, Fs', rfl, rfl, RepS.hole i o h (by simpa using e)⟩
  | some y :: ds, σ, Fs, i + 1, o, h, e => by
    simp only [RepS] at h ⊢
    obtain ⟨v', σ', F', Fs', rfl, rfl, r', h⟩ := h
    exact ⟨v', _, F', Fs', rfl, rfl, r', RepS.hole i o h (by simpa using e)⟩
end RB
end

section
set_option Elab.async false
set_option maxRecDepth 100000
namespace RB
open PySem L2

inductive Root where
  | slot (i : Nat) | reg (r : Nat)
  deriving DecidableEq, Inhabited
structure Loc where
  root : Root
  path : List Step
  deriving DecidableEq, Inhabited
/-- an operand: a value of its own, or a place -/
inductive Opd where
  | own (d : D) | loc (l : Loc)
  deriving Inhabited
def rootD (S : DS) : Root → Option D
  | .slot i => (S.ds[i]?).join
  | .reg r => S.rg[r]?
def look (S : DS) (l : Loc) : Option D := (rootD S l.root).bind fun d => getP d l.path
def dat (S : DS) : Opd → Option D
  | .own d => some d
  | .loc l => look S l
def rootV (W : Wd) (σ : St) : Root → Option V
  | .slot i => (σ[i]?).join
  | .reg r => W.RV[r]?
def LocVal (W : Wd) (σ : St) (l : Loc) (v : V) : Prop := ∃ u, rootV W σ l.root = some u ∧ ValAt W.H u l.path v

structure SR (W : Wd) (σ : St) (S : DS) (Fs : List (List Addr)) (G : List Addr) : Prop where
  sl : RepS W S.ds σ Fs
  rg : RepL W S.rg W.RV G
structure Sep (W : Wd) (A : List Addr) : Prop where
  nd : A.Nodup
  np : ∀ a ∈ A, ¬ W.P a
  tk : ∀ a, W.P a → ∃ o, W.H a = some o
  tr : ∀ a ∈ A, ∃ o, W.H a = some o
theorem Sep.pm {W : Wd} {A B : List Addr} (s : Sep W A) (p : A.Perm B) : Sep W B :=
  ⟨p.nodup_iff.mp s.nd, fun a h => s.np a (p.mem_iff.mpr h), s.tk, fun a h => s.tr a (p.mem_iff.mpr h)⟩
theorem Sep.left {W : Wd} {A B : List Addr} (s : Sep W (A ++ B)) : Sep W A :=
  ⟨(List.nodup_append.mp s.nd).1, fun a h => s.np a (List.mem_append_left _ h), s.tk, fun a h => s.tr a (List.mem_append_left _ h)⟩
theorem Sep.right {W : Wd} {A B : List Addr} (s : Sep W (A ++ B)) : Sep W B :=
  ⟨(List.nodup_append.mp s.nd).2.1, fun a h => s.np a (List.mem_append_right _ h), s.tk, fun a h => s.tr a (List.mem_append_right _ h)⟩
theorem Sep.dj {W : Wd} {A B : List Addr} (s : Sep W (A ++ B)) {a : Addr} (h : a ∈ A) : a ∉ B := fun h' => (List.nodup_append.mp s.nd).2.2 a h a h' rfl

/-- from one world, where A is owned, to another one, where A' is -/
structure Evo (W : Wd) (A : List Addr) (W' : Wd) (A' : List Addr) : Prop where
  keep : ∀ a o, W.H a = some o → a ∉ A → W'.H a = some o
  perm : ∀ a, W.P a → W'.P a
  newA : ∀ a ∈ A', a ∈ A ∨ W.H a = none
  newP : ∀ a, W'.P a → W.P a ∨ a ∈ A ∨ W.H a = none
  rv : ∃ m, W'.RV = W.RV ++ m
  ca : W'.st = W.st
theorem Evo.refl (W : Wd) (A : List Addr) : Evo W A W A := ⟨fun _ _ h _ => h, fun _ h => h, fun _ h => .inl h, fun _ h => .inl h, ⟨[], by simp⟩, rfl⟩
theorem Evo.trans {W W1 W2 : Wd} {A A1 A2 : List Addr} (e1 : Evo W A W1 A1) (e2 : Evo W1 A1 W2 A2) : Evo W A W2 A2 := by
  have bk : ∀ a, W1.H a = none → a ∈ A ∨ W.H a = none := fun a h => by
    by_cases ha : a ∈ A
    · exact .inl ha
    · cases q : W.H a with
      | none => exact .inr rfl
      | some o => rw [e1.keep a o q ha] at h; cases h
  refine ⟨fun a o h ha => e2.keep a o (e1.keep a o h ha) fun h1 => ?_, fun a h => e2.perm a (e1.perm a h), fun a h => ?_, fun a h => ?_, ?_, e2.ca.trans e1.ca⟩
  · rcases e1.newA a h1 with h2 | h2
    · exact ha h2
    · rw [h] at h2; cases h2
  · rcases e2.newA a h with h1 | h1
    · exact e1.newA a h1
    · exact bk a h1
  · rcases e2.newP a h with h1 | h1 | h1
    · exact e1.newP a h1
    · exact .inr (e1.newA a h1)
    · exact .inr (bk a h1)
  · obtain ⟨m, h1⟩ := e1.rv
    obtain ⟨n, h2⟩ := e2.rv
    exact ⟨m ++ n, by rw [h2, h1, List.append_assoc]⟩
theorem Evo.sub {W W' : Wd} {A A' B' : List Addr} (e : Evo W A W' A') (h : ∀ a ∈ B', a ∈ A') : Evo W A W' B' := ⟨e.keep, e.perm, fun a q => e.newA a (h a q), e.newP, e.rv, e.ca⟩
theorem Evo.pmL {W W' : Wd} {A A' B : List Addr} (e : Evo W A W' A') (h : A.Perm B) : Evo W B W' A' :=
  ⟨fun a o q n => e.keep a o q fun z => n (h.mem_iff.mp z), e.perm, fun a q => (e.newA a q).imp h.mem_iff.mp id, fun a q => (e.newP a q).imp id (Or.imp h.mem_iff.mp id), e.rv, e.ca⟩
/-- what is beside stays -/
theorem Evo.stay {W W' : Wd} {A A' B : List Addr} (e : Evo W A W' A') (hb : ∀ a ∈ B, a ∉ A) (hp : ∀ a ∈ A, ¬ W.P a) : Stay W W' B :=
  ⟨fun a o h q => e.keep a o q (h.elim (hb a) fun p z => hp a z p), e.perm, e.rv, e.ca⟩
/-- with something beside -/
theorem Evo.beside {W W' : Wd} {A A' : List Addr} (e : Evo W A W' A') (B : List Addr) : Evo W (A ++ B) W' (A' ++ B) where
  keep := fun a o h n => e.keep a o h fun z => n (List.mem_append_left _ z)
  perm := e.perm
  newA := fun a h => by
    rcases List.mem_append.mp h with h | h
    · exact (e.newA a h).imp (List.mem_append_left _) id
    · exact .inl (List.mem_append_right _ h)
  newP := fun a h => (e.newP a h).imp id (Or.imp (List.mem_append_left _) id)
  rv := e.rv
  ca := e.ca
theorem Sep.beside {W W' : Wd} {A A' B : List Addr} (e : Evo W A W' A') (s : Sep W (A ++ B)) (s' : Sep W' A') : Sep W' (A' ++ B) := by
  have h1 : ∀ a ∈ B, a ∉ A := fun a hb ha => s.dj ha hb
  have h2 : ∀ a ∈ B, ∃ o, W'.H a = some o := fun a hb => by
    obtain ⟨o, q⟩ := s.tr a (List.mem_append_right _ hb)
    exact ⟨o, e.keep a o q (h1 a hb)⟩
  refine ⟨List.nodup_append.mpr ⟨s'.nd, (List.nodup_append.mp s.nd).2.1, fun a ha b hb z => ?_⟩, fun a h => ?_, s'.tk, fun a h => ?_⟩
  · subst z
    rcases e.newA a ha with h | h
    · exact h1 a hb h
    · obtain ⟨o, q⟩ := s.tr a (List.mem_append_right _ hb)
      rw [q] at h; cases h
  · rcases List.mem_append.mp h with h | h
    · exact s'.np a h
    · intro p
      rcases e.newP a p with q | q | q
      · exact s.np a (List.mem_append_right _ h) q
      · exact h1 a h q
      · obtain ⟨o, q'⟩ := s.tr a (List.mem_append_right _ h)
        rw [q'] at q; cases q
  · rcases List.mem_append.mp h with h | h
    · exact s'.tr a h
    · exact h2 a h

/-- which slots (some i), and whether the regions (none), may be touched -/
abbrev Tch := Option Nat → Bool
structure Pres (T : Tch) (W : Wd) (S : DS) (Fs : List (List Addr)) (G : List Addr) (W' : Wd) (S' : DS) (Fs' : List (List Addr)) (G' : List Addr) : Prop where
  sl : ∀ i, T (some i) = false → S'.ds[i]? = S.ds[i]? ∧ Fs'[i]? = Fs[i]? ∧ ∀ F, Fs[i]? = some F → ∀ a ∈ F, W'.H a = W.H a
  rg : T none = false → S'.rg = S.rg ∧ G' = G ∧ W'.RV = W.RV ∧ ∀ a ∈ G, W'.H a = W.H a
theorem Pres.refl {T : Tch} {W : Wd} {S : DS} {Fs : List (List Addr)} {G : List Addr} : Pres T W S Fs G W S Fs G := ⟨fun _ _ => ⟨rfl, rfl, fun _ _ _ _ => rfl⟩, fun _ => ⟨rfl, rfl, rfl, fun _ _ => rfl⟩⟩
theorem Pres.trans {T1 T2 : Tch} {W W1 W2 : Wd} {S S1 S2 : DS} {Fs Fs1 Fs2 : List (List Addr)} {G G1 G2 : List Addr} (p : Pres T1 W S Fs G W1 S1 Fs1 G1) (q : Pres T2 W1 S1 Fs1 G1 W2 S2 Fs2 G2) :
    Pres (fun i => T1 i || T2 i) W S Fs G W2 S2 Fs2 G2 := by
  refine ⟨fun i h => ?_, fun h => ?_⟩
  · simp only [Bool.or_eq_false_iff] at h
    obtain ⟨a1, a2, a3⟩ := p.sl i h.1
    obtain ⟨b1, b2, b3⟩ := q.sl i h.2
    exact ⟨b1.trans a1, b2.trans a2, fun F hF a ha => (b3 F (a2.trans hF) a ha).trans (a3 F hF a ha)⟩
  · simp only [Bool.or_eq_false_iff] at h
    obtain ⟨a1, a2, a3, a4⟩ := p.rg h.1
    obtain ⟨b1, b2, b3, b4⟩ := q.rg h.2
    exact ⟨b1.trans a1, b2.trans a2, b3.trans a3, fun a ha => (b4 a (by rw [a2]; exact ha)).trans (a4 a ha)⟩
theorem Pres.mono {T T' : Tch} {W W' : Wd} {S S' : DS} {Fs Fs' : List (List Addr)} {G G' : List Addr} (p : Pres T W S Fs G W' S' Fs' G') (h : ∀ i, T' i = false → T i = false) : Pres T' W S Fs G W' S' Fs' G' :=
  ⟨fun i q => p.sl i (h _ q), fun q => p.rg (h _ q)⟩
/-- nothing that stands is changed -/
theorem Pres.grow {T : Tch} {W W' : Wd} {S : DS} {Fs : List (List Addr)} {G : List Addr} {σ : St} (sr : SR W σ S Fs G) (h : ∀ a o, (a ∈ Fs.flatten ∨ a ∈ G) → W.H a = some o → W'.H a = some o) (rv : W'.RV = W.RV) : Pres T W S Fs G W' S Fs G :=
  ⟨fun i _ => ⟨rfl, rfl, fun F hF a ha => by
    have hm : a ∈ Fs.flatten := List.mem_flatten.mpr ⟨F, List.mem_of_getElem? hF, ha⟩
    obtain ⟨o, q⟩ := sr.sl.trk a hm
    rw [q]; exact h a o (.inl hm) q⟩, fun _ => ⟨rfl, rfl, rv, fun a ha => by
    obtain ⟨o, q⟩ := RepL.trk _ sr.rg a ha
    rw [q]; exact h a o (.inr ha) q⟩⟩

/-- operands in a row -/
def OpsRep (W : Wd) (σ : St) : List Opd → List V → List Addr → Prop
  | [], vs, F => vs = [] ∧ F = []
  | .own d :: os, vs, F => ∃ v ws F1 F2, vs = v :: ws ∧ Rep W d v F1 ∧ OpsRep W σ os ws F2 ∧ F.Perm (F1 ++ F2)
  | .loc l :: os, vs, F => ∃ v ws, vs = v :: ws ∧ LocVal W σ l v ∧ OpsRep W σ os ws F
theorem OpsRep.pm {W : Wd} {σ : St} {os : List Opd} {vs : List V} {F G : List Addr} (h : OpsRep W σ os vs F) (p : F.Perm G) : OpsRep W σ os vs G := by
  induction os generalizing vs F G with
  | nil => simp only [OpsRep] at h ⊢; obtain ⟨e, rfl⟩ := h; exact ⟨e, p.symm.eq_nil⟩
  | cons o os ih =>
    cases o with
    | own d => simp only [OpsRep] at h ⊢; obtain ⟨v, ws, F1, F2, e, h1, h2, q⟩ := h; exact ⟨v, ws, F1, F2, e, h1, h2, p.symm.trans q⟩
    | loc l => simp only [OpsRep] at h ⊢; obtain ⟨v, ws, e, h1, h2⟩ := h; exact ⟨v, ws, e, h1, ih h2 p⟩
/-- what comes of a row of operands -/
structure Posts (T : Tch) (W : Wd) (σ : St) (S : DS) (Fs : List (List Addr)) (G : List Addr) (os : List Opd) (S' : DS) (vs : List V) (W' : Wd) (Fs' : List (List Addr)) (G' : List Addr) (F : List Addr) : Prop where
  sr : SR W' σ S' Fs' G'
  op : OpsRep W' σ os vs F
  sep : Sep W' ((Fs'.flatten ++ G') ++ F)
  evo : Evo W (Fs.flatten ++ G) W' ((Fs'.flatten ++ G') ++ F)
  pres : Pres T W S Fs G W' S' Fs' G'

/-- a place whose way stays -/
theorem ValAt.stay {W W' : Wd} : ∀ (p : List Step) {d e : D} {v u : V} {F : List Addr}, Rep W d v F → getP d p = some e → ValAt W.H v p u → Stay W W' F → ValAt W'.H v p u := by
  intro p d e v u F h g hv st
  obtain ⟨u', F1, F2, v', r', pm, _⟩ := Rep.path p h g
  have key : ∀ (p : List Step) {d e : D} {v u : V} {F : List Addr}, Rep W d v F → getP d p = some e → ValAt W.H v p u → Stay W W' F → ValAt W'.H v p u := by
    intro p
    induction p with
    | nil => intro d e v u F h g hv st; exact hv
    | cons s p ih =>
      intro d e v u F h g hv st
      cases s with
      | fld f =>
        cases d with
        | ins o c fs =>
          simp only [getP, Option.bind_eq_some_iff] at g
          obtain ⟨x, g1, g2⟩ := g
          obtain ⟨a, C, dx, vs, w, rfl, r, e1, v2⟩ := hv
          cases o with
          | true =>
            simp only [Rep] at h
            obtain ⟨a', dx', vs', G, e0, r', h, pm⟩ := h
            cases e0
            rw [r] at r'; cases r'
            obtain ⟨w', F1, F2, e1', r1, p1, _⟩ := RepF.at h g1
            rw [e1] at e1'; cases e1'
            exact ⟨a, _, dx, vs, w, rfl, st.keep a _ (.inl (pm.mem_iff.mpr List.mem_cons_self)) r, e1, ih r1 g2 v2 (((st.pm pm).tail).pm p1).left⟩
          | false =>
            simp only [Rep] at h
            obtain ⟨rfl, a', dx', vs', e0, pa, r', h⟩ := h
            cases e0
            rw [r] at r'; cases r'
            obtain ⟨w', e1', r1⟩ := RepF.at0 h g1
            rw [e1] at e1'; cases e1'
            exact ⟨a, _, dx, vs, w, rfl, st.keep a _ (.inr pa) r, e1, ih r1 g2 v2 st⟩
        | _ => simp [getP] at g
      | key k =>
        cases d with
        | dct o fs =>
          simp only [getP, Option.bind_eq_some_iff] at g
          obtain ⟨x, g1, g2⟩ := g
          obtain ⟨a, vs, w, rfl, r, e1, v2⟩ := hv
          cases o with
          | true =>
            simp only [Rep] at h
            obtain ⟨a', vs', G, e0, r', h, pm⟩ := h
            cases e0
            have e2 : vs = vs' := by
              rcases r with r | ⟨ob, r⟩
              · rw [r'] at r; cases r; rfl
              · rw [r'] at r; cases r
            subst e2
            obtain ⟨w', F1, F2, e1', r1, p1, _⟩ := RepK.at h g1
            rw [e1] at e1'; cases e1'
            exact ⟨a, vs, w, rfl, .inl (st.keep a _ (.inl (pm.mem_iff.mpr List.mem_cons_self)) r'), e1, ih r1 g2 v2 (((st.pm pm).tail).pm p1).left⟩
          | false =>
            simp only [Rep] at h
            obtain ⟨rfl, a', vs', e0, pa, r', h⟩ := h
            cases e0
            have e2 : vs = vs' := by
              rcases r with r | ⟨ob, r⟩
              · rw [r'] at r; cases r; rfl
              · rw [r'] at r; cases r
            subst e2
            obtain ⟨w', e1', r1⟩ := RepK.at0 h g1
            rw [e1] at e1'; cases e1'
            exact ⟨a, vs, w, rfl, .inl (st.keep a _ (.inr pa) r'), e1, ih r1 g2 v2 st⟩
        | _ => simp [getP] at g
      | idx n =>
        obtain ⟨a, vs, w, rfl, r, e1, v2⟩ := hv
        cases d with
        | tup fs =>
          simp only [getP, Option.bind_eq_some_iff] at g
          obtain ⟨x, g1, g2⟩ := g
          simp only [Rep] at h
          obtain ⟨rfl, a', vs', e0, pa, r', h⟩ := h
          cases e0
          have e2 : vs = vs' := by
            rcases r with (r | ⟨ob, r⟩) | (r | ⟨ob, r⟩) <;> (rw [r'] at r; cases r; try rfl)
          subst e2
          obtain ⟨w', e1', r1⟩ := RepL.at0 h g1
          rw [e1] at e1'; cases e1'
          exact ⟨a, vs, w, rfl, .inr (.inl (st.keep a _ (.inr pa) r')), e1, ih r1 g2 v2 st⟩
        | lst o fs =>
          simp only [getP, Option.bind_eq_some_iff] at g
          obtain ⟨x, g1, g2⟩ := g
          cases o with
          | true =>
            simp only [Rep] at h
            obtain ⟨a', vs', G, e0, r', h, pm⟩ := h
            cases e0
            have e2 : vs = vs' := by
              rcases r with (r | ⟨ob, r⟩) | (r | ⟨ob, r⟩) <;> (rw [r'] at r; cases r; try rfl)
            subst e2
            obtain ⟨w', F1, F2, e1', r1, p1, _⟩ := RepL.at h g1
            rw [e1] at e1'; cases e1'
            exact ⟨a, vs, w, rfl, .inl (.inl (st.keep a _ (.inl (pm.mem_iff.mpr List.mem_cons_self)) r')), e1, ih r1 g2 v2 (((st.pm pm).tail).pm p1).left⟩
          | false =>
            simp only [Rep] at h
            obtain ⟨rfl, a', vs', e0, pa, r', h⟩ := h
            cases e0
            have e2 : vs = vs' := by
              rcases r with (r | ⟨ob, r⟩) | (r | ⟨ob, r⟩) <;> (rw [r'] at r; cases r; try rfl)
            subst e2
            obtain ⟨w', e1', r1⟩ := RepL.at0 h g1
            rw [e1] at e1'; cases e1'
            exact ⟨a, vs, w, rfl, .inl (.inl (st.keep a _ (.inr pa) r')), e1, ih r1 g2 v2 st⟩
        | _ => simp [getP] at g
  exact key p h g hv st
/-- one value alone stands at a place -/
theorem ValAt.inj {H : Hp} : ∀ (p : List Step) {v u u' : V}, ValAt H v p u → ValAt H v p u' → u = u'
  | [], v, u, u', h, h' => h.symm.trans h'
  | .fld f :: p, v, u, u', h, h' => by
    obtain ⟨a, C, dx, fs, w, e, r, l, q⟩ := h
    obtain ⟨a', C', dx', fs', w', e', r', l', q'⟩ := h'
    rw [e] at e'; cases e'
    rw [r] at r'; cases r'
    rw [l] at l'; cases l'
    exact ValAt.inj p q q'
  | .key k :: p, v, u, u', h, h' => by
    obtain ⟨a, fs, w, e, r, l, q⟩ := h
    obtain ⟨a', fs', w', e', r', l', q'⟩ := h'
    rw [e] at e'; cases e'
    have e2 : fs = fs' := by
      rcases r with r | ⟨ob, r⟩ <;> rcases r' with r' | ⟨ob', r'⟩ <;> (rw [r'] at r; cases r; try rfl)
    subst e2
    rw [l] at l'; cases l'
    exact ValAt.inj p q q'
  | .idx k :: p, v, u, u', h, h' => by
    obtain ⟨a, fs, w, e, r, l, q⟩ := h
    obtain ⟨a', fs', w', e', r', l', q'⟩ := h'
    rw [e] at e'; cases e'
    have e2 : fs = fs' := by
      rcases r with (r | ⟨ob, r⟩) | (r | ⟨ob, r⟩) <;> rcases r' with (r' | ⟨ob', r'⟩) | (r' | ⟨ob', r'⟩) <;> (rw [r'] at r; cases r; try rfl)
    subst e2
    rw [l] at l'; cases l'
    exact ValAt.inj p q q'
/-- what stands at a place that is named -/
theorem SR.at {W : Wd} {σ : St} {S : DS} {Fs : List (List Addr)} {G : List Addr} (sr : SR W σ S Fs G) {l : Loc} {d : D} (h : look S l = some d) : ∃ v F, LocVal W σ l v ∧ Rep W d v F := by
  unfold look at h
  obtain ⟨x, h1, h2⟩ := Option.bind_eq_some_iff.mp h
  obtain ⟨rt, p⟩ := l
  cases rt with
  | slot i =>
    simp only [rootD, Option.join_eq_some_iff] at h1
    obtain ⟨v, F, e1, e2, r⟩ := sr.sl.at h1
    obtain ⟨u, F1, F2, vv, r', _⟩ := Rep.path p r h2
    exact ⟨u, F1, ⟨v, by simp [rootV, e1], vv⟩, r'⟩
  | reg n =>
    simp only [rootD] at h1
    obtain ⟨v, F1, F2, e1, r, pm, _⟩ := RepL.at sr.rg h1
    obtain ⟨u, G1, G2, vv, r', _⟩ := Rep.path p r h2
    exact ⟨u, G1, ⟨v, by simp [rootV, e1], vv⟩, r'⟩
theorem LocVal.inj {W : Wd} {σ : St} {l : Loc} {v u : V} (h : LocVal W σ l v) (h' : LocVal W σ l u) : v = u := by
  obtain ⟨x, e, q⟩ := h
  obtain ⟨x', e', q'⟩ := h'
  rw [e] at e'; cases e'
  exact ValAt.inj _ q q'
/-- how an operand is read -/
theorem SR.read {W : Wd} {σ : St} {S : DS} {Fs : List (List Addr)} {G : List Addr} (sr : SR W σ S Fs G) {l : Loc} {d : D} {v : V} (h : look S l = some d) (hv : LocVal W σ l v) : ∃ F, Rep W d v F := by
  obtain ⟨u, F, hu, r⟩ := sr.at h
  rw [hv.inj hu]
  exact ⟨F, r⟩
def rootT : Root → Option Nat
  | .slot i => some i
  | .reg _ => none
theorem LocVal.stay {T : Tch} {W W' : Wd} {σ : St} {S S' : DS} {Fs Fs' : List (List Addr)} {G G' : List Addr} {A A' : List Addr} {l : Loc} {d : D} {v : V} (sr : SR W σ S Fs G) (h : look S l = some d) (hv : LocVal W σ l v)
    (pr : Pres T W S Fs G W' S' Fs' G') (ev : Evo W A W' A') (ha : ∀ a ∈ A, ¬ W.P a) (ht : l.path = [] ∨ T (rootT l.root) = false) : LocVal W' σ l v := by
  obtain ⟨u, hu, vv⟩ := hv
  obtain ⟨rt, p⟩ := l
  rcases ht with ht | ht
  · simp only at ht
    subst ht
    refine ⟨u, ?_, vv⟩
    cases rt with
    | slot i => exact hu
    | reg n =>
      obtain ⟨m, e⟩ := ev.rv
      simp only [rootV] at hu ⊢
      rw [e, List.getElem?_append_left (List.getElem?_eq_some_iff.mp hu).1]
      exact hu
  · unfold look at h
    obtain ⟨x, h1, h2⟩ := Option.bind_eq_some_iff.mp h
    cases rt with
    | slot i =>
      simp only [rootD, Option.join_eq_some_iff] at h1
      simp only [rootV, Option.join_eq_some_iff] at hu
      obtain ⟨v', F, e1, e2, r⟩ := sr.sl.at h1
      rw [hu] at e1; cases e1
      obtain ⟨_, _, k⟩ := pr.sl i ht
      refine ⟨u, by simp [rootV, hu], ValAt.stay p r h2 vv ⟨fun a o q e => ?_, ev.perm, ev.rv, ev.ca⟩⟩
      rcases q with q | q
      · rw [k F e2 a q]; exact e
      · exact ev.keep a o e fun z => ha a z q
    | reg n =>
      simp only [rootD] at h1
      simp only [rootV] at hu
      obtain ⟨v', F1, F2, e1, r, pm, _⟩ := RepL.at sr.rg h1
      rw [hu] at e1; cases e1
      obtain ⟨_, _, rv, k⟩ := pr.rg ht
      refine ⟨u, by simp only [rootV]; rw [rv]; exact hu, ValAt.stay p r h2 vv ⟨fun a o q e => ?_, ev.perm, ev.rv, ev.ca⟩⟩
      rcases q with q | q
      · rw [k a (pm.mem_iff.mpr (List.mem_append_left _ q))]; exact e
      · exact ev.keep a o e fun z => ha a z q

/-- an operand can wait while others are evaluated -/
def waits (T : Tch) (S : DS) : Opd → Prop
  | .own _ => True
  | .loc l => (∃ d, look S l = some d) ∧ (l.path = [] ∨ T (rootT l.root) = false)
theorem Posts.nil {W : Wd} {σ : St} {S : DS} {Fs : List (List Addr)} {G : List Addr} (sr : SR W σ S Fs G) (sp : Sep W (Fs.flatten ++ G)) : Posts (fun _ => false) W σ S Fs G [] S [] W Fs G [] :=
  ⟨sr, ⟨rfl, rfl⟩, by simpa using sp, by simpa using Evo.refl W (Fs.flatten ++ G), .refl⟩
theorem Posts.snoc {T1 T2 : Tch} {W W1 W2 : Wd} {σ : St} {S S1 S2 : DS} {Fs Fs1 Fs2 : List (List Addr)} {G G1 G2 : List Addr} {os ps : List Opd} {vs us : List V} {F1 F2 : List Addr}
    (p : Posts T1 W σ S Fs G os S1 vs W1 Fs1 G1 F1) (hw : ∀ o ∈ os, waits T2 S1 o) (q : Posts T2 W1 σ S1 Fs1 G1 ps S2 us W2 Fs2 G2 F2) : Posts (fun i => T1 i || T2 i) W σ S Fs G (os ++ ps) S2 (vs ++ us) W2 Fs2 G2 (F1 ++ F2) := by
  have np : ∀ a ∈ Fs1.flatten ++ G1, ¬ W1.P a := p.sep.left.np
  have perm : ((Fs2.flatten ++ G2) ++ F2 ++ F1).Perm ((Fs2.flatten ++ G2) ++ (F1 ++ F2)) := by
    rw [List.append_assoc]
    exact List.Perm.append_left _ List.perm_append_comm
  have st : Stay W1 W2 F1 := q.evo.stay (fun a ha h => p.sep.dj h ha) np
  refine ⟨q.sr, ?_, (Sep.beside q.evo p.sep q.sep).pm perm, ?_, p.pres.trans q.pres⟩
  · have base := q.op
    have hop := p.op
    have sr1 := p.sr
    clear perm
    clear p
    induction os generalizing vs F1 with
    | nil =>
      simp only [OpsRep] at hop
      rw [hop.1, hop.2]
      exact base
    | cons o os ih =>
      cases o with
      | own d =>
        simp only [OpsRep] at hop
        obtain ⟨v, ws, H1, H2, rfl, h1, h2, pm⟩ := hop
        simp only [List.cons_append, OpsRep]
        refine ⟨v, ws ++ us, H1, H2 ++ F2, rfl, Rep.frame d h1 (st.pm pm).left, ih (fun o ho => hw o (List.mem_cons_of_mem _ ho)) ((st.pm pm).right) h2, ?_⟩
        rw [← List.append_assoc]
        exact pm.append_right F2
      | loc l =>
        simp only [OpsRep] at hop
        obtain ⟨v, ws, rfl, h1, h2⟩ := hop
        simp only [List.cons_append, OpsRep]
        obtain ⟨⟨d, hd⟩, ht⟩ := hw (.loc l) List.mem_cons_self
        exact ⟨v, ws ++ us, rfl, LocVal.stay sr1 hd h1 q.pres q.evo np ht, ih (fun o ho => hw o (List.mem_cons_of_mem _ ho)) st h2⟩
  · refine (p.evo.trans (q.evo.beside F1)).sub fun a ha => ?_
    exact perm.mem_iff.mpr ha
end RB
end

section
set_option Elab.async false
set_option maxRecDepth 100000
namespace RB
open PySem L2

/-! ### syntax -/
inductive BOp where
  | add | sub | mul | fdiv | mod | pow | shl
  deriving DecidableEq, Inhabited
inductive COp where
  | eq | ne | lt | le | gt | ge | isIn | notIn
  deriving DecidableEq, Inhabited
inductive Ty where
  | int | str | bool | list | tuple | dict
  | cls (c : Nat)
  deriving DecidableEq, Inhabited
/-- built-in functions that read -/
inductive Bi where
  | len | abs | min2 | max2 | sum | any | all | str | int | list | tuple | sorted | dict
  deriving DecidableEq, Inhabited
/-- methods of built-in types that read -/
inductive Bm where
  | join | split | index
  deriving DecidableEq, Inhabited
/-- methods of built-in types that change -/
inductive Mm where
  | append | extend | insert | pop | popAt | remove | reverse | clear | dpop
  deriving DecidableEq, Inhabited
/-- targets of loops -/
inductive Tg where
  | name (i : Nat) | tup (is : List Nat)
  deriving DecidableEq, Inhabited
mutual
inductive E where
  | non | bl (b : Bool) | int (i : Int) | str (s : Str)
  | var (i : Nat)
  | glob (x : Str) (d : D)
  | bin (op : BOp) (a b : E)
  | notE (a : E) | neg (a : E)
  | andE (a b : E) | orE (a b : E)
  | cmp (op : COp) (a b : E) | isN (a : E) | notN (a : E)
  | chain (o1 o2 : COp) (a b c : E)
  | ife (t a b : E)
  | lst (es : List E) | tup (es : List E)
  | dct0 | dct (es : List E) | keep (a : E) | sortK (f : Nat) (a : E)
  | sub (a i : E) | slice (a : E) (lo hi : Option E)
  | attr (a : E) (f : Str)
  | isi (a : E) (t : Ty)
  | bi (b : Bi) (args : List E)
  | bm (b : Bm) (a : E) (args : List E)
  | jrev (a e : E)
  | mm (b : Mm) (a : E) (args : List E)
  | call (f : Nat) (args : List E)
  | mk (c : Nat) (args : List E)
  | meth (a : E) (m : Str) (args : List E)
  | comp (g : Tg) (src : Src) (cond : Option E) (elt : E)
inductive Src where
  | seq (e : E) | rng1 (e : E) | rng2 (a b : E) | enum (e : E) | zip (a b : E) | rev (e : E)
end
inductive Tgt where
  | name (i : Nat) | sub (o k : E) | attr (o : E) (f : Str) | tup (is : List Nat)
inductive S where
  | expr (e : E)
  | asg (t : Tgt) (e : E)
  | par (i j : Nat) (a b : E)
  | aug (i : Nat) (op : BOp) (e : E)
  | augS (o k : E) (op : BOp) (e : E) | augA (o : E) (f : Str) (op : BOp) (e : E) | tryT (b : List S)
  | ife (t : E) (a b : List S)
  | whileS (t : E) (b : List S)
  | forS (g : Tg) (src : Src) (b : List S)
  | ret (e : E) | retN | pass | brk | cont
  | dead

/-! ### results -/
structure XD where
  c : Nat
  fs : List (Str × D)
inductive R (α : Type) where
  | ok (a : α) (S : DS) | exc (x : XD) (S : DS) | fail
abbrev M (α : Type) := DS → R α
@[reducible] def M.pure {α : Type} (a : α) : M α := fun S => .ok a S
def R.bind {α β : Type} : R α → (α → DS → R β) → R β
  | .ok a S, k => k a S
  | .exc x S, _ => .exc x S
  | .fail, _ => .fail
@[simp] theorem R.bind_ok {α β : Type} {a : α} {S : DS} {k : α → DS → R β} : (R.ok a S).bind k = k a S := rfl
@[simp] theorem R.bind_exc {α β : Type} {x : XD} {S : DS} {k : α → DS → R β} : (R.exc x S).bind k = .exc x S := rfl
@[simp] theorem R.bind_fail {α β : Type} {k : α → DS → R β} : R.bind .fail k = .fail := rfl
/-- of an option -/
def optR {α : Type} : Option α → DS → R α
  | some a, S => .ok a S
  | none, _ => .fail
@[simp] theorem optR_some {α : Type} {a : α} {S : DS} : optR (some a) S = .ok a S := rfl
@[simp] theorem optR_none {α : Type} {S : DS} : optR (none : Option α) S = .fail := rfl

/-- what a call comes to: the value, what became of the arguments, the regions -/
inductive CR where
  | ret (d : D) (ps : List (Option D)) (rg : List D) | exc (x : XD) (ps : List (Option D)) (rg : List D) | fail
/-- one class: its name, the fields of its instances, its methods, its maker, whether its instances are never changed, the classes that it is of -/
structure ClsD where
  nm : Str
  flds : List Str
  meths : List (Str × Nat)
  init : Option Nat
  perm : Bool
  sups : List Nat
  deriving Inhabited
abbrev CT := List ClsD
def CT.fld (ct : CT) (c : Nat) (f : Str) : Bool := match ct[c]? with | some k => k.flds.elem f | none => false
def CT.meth (ct : CT) (c : Nat) (m : Str) : Option Nat := match ct[c]? with | some k => k.meths.lookup m | none => none
def CT.init (ct : CT) (c : Nat) : Option Nat := match ct[c]? with | some k => k.init | none => none
def CT.perm (ct : CT) (c : Nat) : Bool := match ct[c]? with | some k => k.perm | none => false
def CT.sub (ct : CT) (c k : Nat) : Option Bool := match ct[c]?, ct[k]? with | some z, some _ => some (z.sups.elem k) | _, _ => none
def CT.has (ct : CT) (c : Nat) : Bool := decide (c < ct.length)
structure Tab where
  call : Nat → List D → List D → CR
  dflt : Nat → Nat → List D
  ct : CT

/-! ### built-ins on data -/
abbrev sz : Nat := 16777216
def mkO : D → Opd
  | .link r => .loc ⟨.reg r, []⟩
  | d => .own d
mutual
def toPy : D → Option PyData
  | .non => some .none | .bl b => some (.bool b) | .int i => some (.int i) | .str s => some (.str s)
  | .tup xs => (toPyL xs).map .tuple
  | .lst _ xs => (toPyL xs).map .list
  | _ => none
def toPyL : List D → Option (List PyData)
  | [] => some []
  | d :: ds => (toPy d).bind fun x => (toPyL ds).map fun xs => x :: xs
end
def flatD : D → Bool
  | .non => true | .bl _ => true | .int _ => true | .str _ => true
  | _ => false
def eqF : D → D → Bool
  | .non, .non => true
  | .bl a, .bl b => a == b
  | .bl a, .int b => (if a then 1 else 0) == b
  | .int a, .bl b => a == (if b then 1 else 0)
  | .int a, .int b => a == b
  | .str a, .str b => a == b
  | _, _ => false
def eqD (d e : D) : Option Bool :=
  (toPy d).bind fun x => (toPy e).bind fun y => if decide (x.depth ≤ 64) && decide (y.depth ≤ 64) then some (PyData.eqv x y) else none
def keyOf : D → Option Key
  | .int i => some (.inl i)
  | .str s => some (.inr s)
  | _ => none
def inD (x y : D) : Option Bool :=
  match x, y with
  | x, .lst _ ys => if flatD x && ys.all flatD then some (ys.any fun y => eqF y x) else none
  | x, .tup ys => if flatD x && ys.all flatD then some (ys.any fun y => eqF y x) else none
  | x, .dct _ kvs => (keyOf x).map fun k => (lookP kvs k).isSome
  | .str a, .str b => match a.cps.toList with
    | [c] => some (decide (c ∈ b.cps.toList))
    | _ => none
  | _, _ => none
def cmpD (op : COp) (d e : D) : Option Bool :=
  match op with
  | .eq => eqD d e
  | .ne => (eqD d e).map (!·)
  | .isIn => inD d e
  | .notIn => (inD d e).map (!·)
  | .lt => match d, e with | .int i, .int j => some (decide (i < j)) | _, _ => none
  | .le => match d, e with | .int i, .int j => some (decide (i ≤ j)) | _, _ => none
  | .gt => match d, e with | .int i, .int j => some (decide (j < i)) | _, _ => none
  | .ge => match d, e with | .int i, .int j => some (decide (j ≤ i)) | _, _ => none
def small64 (i : Int) : Bool := decide (-(2 ^ 64) < i) && decide (i < 2 ^ 64)
def binD (op : BOp) (d e : D) : Option D :=
  match op, d, e with
  | .add, .int i, .int j => some (.int (i + j))
  | .sub, .int i, .int j => some (.int (i - j))
  | .mul, .int i, .int j => if small64 i || small64 j then some (.int (i * j)) else none
  | .fdiv, .int i, .int j => if j != 0 && decide (j.natAbs < 1073741824) then some (.int (i.fdiv j)) else none
  | .mod, .int i, .int j => if j != 0 then some (.int (i.fmod j)) else none
  | .pow, .int i, .int j => if decide (0 ≤ j) && decide (j ≤ 1000000) && decide (i.natAbs < 2 ^ 64) then some (.int (i ^ j.toNat)) else none
  | .shl, .int i, .int j => if decide (0 ≤ j) && decide (j ≤ 1000000) && decide (i.natAbs < 2 ^ 64) then some (.int (i * 2 ^ j.toNat)) else none
  | .add, .str a, .str b => if a.length + b.length ≤ sz then some (.str (a ++ b)) else none
  | .add, .lst _ xs, .lst _ ys => if D.freeL xs && D.freeL ys && decide (xs.length + ys.length ≤ sz) then some (.lst true (xs ++ ys)) else none
  | .mul, .lst _ xs, .int k => if D.freeL xs && decide (-(2 ^ 63) ≤ k) && decide (k < 2 ^ 63) && decide (xs.length * k.toNat ≤ sz) then some (.lst true (List.flatten (List.replicate k.toNat xs))) else none
  | _, _, _ => none
def truD : D → Option Bool
  | .non => some false | .bl b => some b | .int i => some (i != 0)
  | .str s => if s.length ≤ sz then some (s.length != 0) else none
  | .lst _ xs => some (!xs.isEmpty) | .tup xs => some (!xs.isEmpty) | .dct _ kvs => some (!kvs.isEmpty)
  | _ => none
/-- an item's place -/
def ixOf (n : Nat) (i : Int) : Option Nat := if 0 ≤ i then (if i < n then some i.toNat else none) else if -(n : Int) ≤ i then some (i + n).toNat else none
def stepOf : D → D → Option Step
  | .lst _ xs, .int i => (ixOf xs.length i).map .idx
  | .tup xs, .int i => (ixOf xs.length i).map .idx
  | .dct _ _, .int i => some (.key (.inl i))
  | .dct _ _, .str s => some (.key (.inr s))
  | _, _ => none
/-- a part of a value of its own, or at a place -/
def partO (S : DS) (o : Opd) (st : Step) : Option Opd :=
  match o with
  | .own d => (getP d [st]).map mkO
  | .loc l => match look S ⟨l.root, l.path ++ [st]⟩ with
    | some (.link r) => some (.loc ⟨.reg r, []⟩)
    | some d => if d.free then some (.own d) else some (.loc ⟨l.root, l.path ++ [st]⟩)
    | none => none
def sIxD (n d : Nat) : Option Int → Nat := HT.sIx n d
def cutD (xs : List D) (lo hi : Option Int) : List D := (xs.drop (HT.sIx xs.length 0 lo)).take (HT.sIx xs.length xs.length hi - HT.sIx xs.length 0 lo)
def sliceD (d : D) (lo hi : Option Int) : Option D :=
  match d with
  | .str z => if z.length ≤ sz then some (.str (cutS z lo hi)) else none
  | .lst _ xs => if D.freeL xs then some (.lst true (cutD xs lo hi)) else none
  | .scr ns => some (.lst true (cutD (ns.map .int) lo hi))
  | _ => none
def lenD : D → Option Nat
  | .str s => if s.length ≤ sz then some s.length else none
  | .lst _ xs => some xs.length | .tup xs => some xs.length | .dct _ kvs => some kvs.length | .scr ns => some ns.length
  | _ => none
def intsD : List D → Option (List Int)
  | [] => some []
  | .int i :: ds => (intsD ds).map fun r => i :: r
  | _ :: _ => none
def strsD : List D → Option (List Str)
  | [] => some []
  | .str i :: ds => (strsD ds).map fun r => i :: r
  | _ :: _ => none
def blsD : List D → Option (List Bool)
  | [] => some []
  | .bl i :: ds => (blsD ds).map fun r => i :: r
  | _ :: _ => none
def sortI (l : List Int) : List Int := l.mergeSort (fun a b => decide (a ≤ b))
def biD (b : Bi) (ds : List D) : Option D :=
  match b, ds with
  | .len, [d] => (lenD d).map fun (n : Nat) => D.int (n : Int)
  | .abs, [.int i] => some (.int (if i < 0 then -i else i))
  | .min2, [.int i, .int j] => some (.int (if j < i then j else i))
  | .max2, [.int i, .int j] => some (.int (if j > i then j else i))
  | .sum, [.lst _ xs] => (intsD xs).map fun l => .int l.sum
  | .any, [.lst _ xs] => (blsD xs).map fun l => .bl (l.any id)
  | .all, [.lst _ xs] => (blsD xs).map fun l => .bl (l.all id)
  | .str, [.int i] => if i.natAbs.log2 < 1920 then some (.str (Str.ofString (toString i))) else none
  | .int, [.int i] => some (.int i)
  | .int, [.bl k] => some (.int (if k then 1 else 0))
  | .int, [.str a] => if a.length ≤ 640 then (PySem.intText? a).map .int else none
  | .list, [.lst _ xs] => if D.freeL xs then some (.lst true xs) else none
  | .list, [.tup xs] => some (.lst true xs)
  | .list, [.scr ns] => some (.lst true (ns.map .int))
  | .list, [.dct _ kvs] => some (.lst true (kvs.map fun p => match p.1 with | .inl i => .int i | .inr s => .str s))
  | .tuple, [.lst _ xs] => if D.freeL xs then some (.tup xs) else none
  | .sorted, [.lst _ xs] => (intsD xs).map fun l => .lst true ((sortI l).map .int)
  | .dict, [.dct _ kvs] => if D.freeK kvs then some (.dct true kvs) else none
  | _, _ => none
def findI (y : D) : List D → Option Nat
  | [] => none
  | x :: xs => if eqF x y then some 0 else (findI y xs).map (· + 1)
def bmD (b : Bm) (d : D) (ds : List D) : Option D :=
  match b, d, ds with
  | .join, .str a, [.lst _ xs] => (strsD xs).bind fun ys => if (ys.map (·.length)).sum + ys.length * a.length ≤ sz then some (.str (Txt.join a ys)) else none
  | .split, .str a, [.str b] => if b.length != 0 && decide (a.length + 2 ≤ sz) then some (.lst true ((Txt.split a b).map .str)) else none
  | .index, .lst _ xs, [y] => if flatD y && xs.all flatD then (findI y xs).map fun (n : Nat) => D.int (n : Int) else none
  | .index, .str a, [.str b] => match Builtin.Str.occurrences a b 0 a.length 1 with | i :: _ => some (.int (i : Nat)) | [] => none
  | _, _, _ => none
def jrevF : List D → Option D
  | [.str a, .lst _ xs] => (strsD xs).bind fun ys => if (ys.map (·.length)).sum + ys.length * a.length ≤ sz then some (.str (Txt.join a ys.reverse)) else none
  | _ => none
def tyD (ct : CT) (t : Ty) (d : D) : Option Bool :=
  match t with
  | .cls k => if ct.has k then match d with
    | .ins _ c _ => ct.sub c k
    | .link _ => none
    | .scr _ => none
    | _ => some false else none
  | t => match d with
    | .non => some false
    | .bl _ => some (match t with | .int => true | .bool => true | _ => false)
    | .int _ => some (match t with | .int => true | _ => false)
    | .str _ => some (match t with | .str => true | _ => false)
    | .lst _ _ => some (match t with | .list => true | _ => false)
    | .tup _ => some (match t with | .tuple => true | _ => false)
    | .dct _ _ => some (match t with | .dict => true | _ => false)
    | .ins _ c _ => if ct.has c then some false else none
    | _ => none

/-! ### the state -/
def setLoc (S : DS) (l : Loc) (e : D) : Option DS :=
  match l.root with
  | .slot i => (rootD S l.root).bind fun d => (setP d l.path e).map fun d' => { S with ds := S.ds.set i (some d') }
  | .reg r => (rootD S l.root).bind fun d => (setP d l.path e).map fun d' => { S with rg := S.rg.set r d' }
/-- a value of its own: what stands in a slot is moved out, a region is linked -/
def valM : Opd → M D
  | .own d => fun S => .ok d S
  | .loc ⟨.reg r, []⟩ => fun S => .ok (.link r) S
  | .loc ⟨.slot i, []⟩ => fun S => match S.ds[i]? with
    | some (some d) => .ok d { S with ds := S.ds.set i none }
    | _ => .fail
  | .loc _ => fun _ => .fail
def valL : List Opd → M (List D)
  | [] => fun S => .ok [] S
  | o :: os => fun S => (valM o S).bind fun d S1 => (valL os S1).bind fun ds S2 => .ok (d :: ds) S2
def okWait (T : List (Option Nat)) : Opd → Bool
  | .own _ => true
  | .loc l => l.path.isEmpty || !(T.elem (rootT l.root))
/-- operands in a row: how they are evaluated, what they touch -/
def evL : List (M Opd × List (Option Nat)) → M (List Opd)
  | [] => fun S => .ok [] S
  | (m, _) :: r => fun S => (m S).bind fun o S1 => if okWait (r.flatMap (·.2)) o then (evL r S1).bind fun os S2 => .ok (o :: os) S2 else .fail

def varO (i : Nat) : D → Opd
  | .link r => .loc ⟨.reg r, []⟩
  | d => if d.free then .own d else .loc ⟨.slot i, []⟩
theorem varO_cases (i : Nat) (d : D) : (∃ r, d = .link r ∧ varO i d = .loc ⟨.reg r, []⟩) ∨ (d.free = true ∧ varO i d = .own d) ∨ (d.free = false ∧ varO i d = .loc ⟨.slot i, []⟩) := by
  cases h : d.free with
  | true =>
    cases d with
    | link r => exact .inl ⟨r, rfl, rfl⟩
    | _ => exact .inr (.inl ⟨rfl, by simp only [varO, h, if_true]⟩)
  | false =>
    cases d with
    | link r => exact .inl ⟨r, rfl, rfl⟩
    | _ => exact .inr (.inr ⟨rfl, by simp [varO, h]⟩)
def xVar (i : Nat) : M Opd := fun S => match S.ds[i]? with
  | some (some d) => .ok (varO i d) S
  | _ => .fail
def datL (S : DS) (os : List Opd) : Option (List D) := os.mapM (dat S)
/-- an operation that reads -/
def xRead (ms : List (M Opd × List (Option Nat))) (f : List D → Option D) : M Opd := fun S => (evL ms S).bind fun os S1 => match (datL S1 os).bind f with
  | some d => .ok (.own d) S1
  | none => .fail
/-- as a test -/
def xTest (m : M Opd) : M Bool := fun S => (m S).bind fun o S1 => match (dat S1 o).bind truD with
  | some b => .ok b S1
  | none => .fail
/-- arguments handed in: values, and places that are written back -/
def argD (S : DS) : Opd → Option D
  | .own d => some d
  | .loc ⟨.reg r, []⟩ => some (.link r)
  | .loc ⟨.slot i, p⟩ => look S ⟨.slot i, p⟩
  | .loc _ => none
def backs (S : DS) : List Opd → List (Option D) → Option DS
  | [], [] => some S
  | .own _ :: os, _ :: ps => backs S os ps
  | .loc ⟨.reg _, _⟩ :: os, _ :: ps => backs S os ps
  | .loc ⟨.slot i, p⟩ :: os, some d :: ps => (setLoc S ⟨.slot i, p⟩ d).bind fun S' => backs S' os ps
  | .loc ⟨.slot i, []⟩ :: os, none :: ps => backs { S with ds := S.ds.set i none } os ps
  | _, _ => none
def slotsOf : List Opd → List Nat
  | [] => []
  | .loc ⟨.slot i, _⟩ :: os => i :: slotsOf os
  | _ :: os => slotsOf os
def nodupB : List Nat → Bool
  | [] => true
  | x :: xs => !(xs.elem x) && nodupB xs
def xCallO (t : Tab) (f : Nat) (os : List Opd) (pre : List D) : DS → R (D × List (Option D)) := fun S =>
  if nodupB (slotsOf os) then
    match os.mapM (argD S) with
    | some ds => match t.call f (pre ++ ds ++ t.dflt f (pre.length + ds.length)) S.rg with
      | .ret d ps rg => match backs { S with rg := rg } os ((ps.drop pre.length).take os.length) with
        | some S' => .ok (d, ps.take pre.length) S'
        | none => .fail
      | .exc x ps rg => match backs { S with rg := rg } os ((ps.drop pre.length).take os.length) with
        | some S' => .exc x S'
        | none => .fail
      | .fail => .fail
    | none => .fail
  else .fail
end RB
end

section
set_option Elab.async false
set_option maxRecDepth 100000
namespace RB
open PySem L2

/-! ### what an expression touches -/
def E.rootT : E → List (Option Nat)
  | .var i => [some i]
  | .sub a _ => a.rootT
  | .attr a _ => a.rootT
  | .andE _ b => b.rootT
  | .orE _ b => b.rootT
  | _ => []
def Tg.slots : Tg → List Nat
  | .name i => [i]
  | .tup is => is
mutual
def E.touch : E → List (Option Nat)
  | .non => [] | .bl _ => [] | .int _ => [] | .str _ => [] | .var _ => [] | .glob _ _ => [] | .dct0 => []
  | .dct es => E.touchL es ++ es.flatMap E.rootT
  | .keep a => none :: a.rootT ++ a.touch
  | .sortK _ a => none :: a.rootT ++ a.touch
  | .bin _ a b => a.touch ++ b.touch
  | .notE a => a.touch | .neg a => a.touch
  | .andE a b => a.touch ++ b.touch | .orE a b => a.touch ++ b.touch
  | .cmp _ a b => a.touch ++ b.touch
  | .isN a => a.touch | .notN a => a.touch
  | .chain _ _ a b c => a.touch ++ (b.touch ++ c.touch)
  | .ife t a b => t.touch ++ (a.touch ++ b.touch) ++ (a.rootT ++ b.rootT)
  | .lst es => E.touchL es ++ es.flatMap E.rootT
  | .tup es => E.touchL es ++ es.flatMap E.rootT
  | .sub a i => a.touch ++ i.touch
  | .slice a lo hi => a.touch ++ (E.touchO lo ++ E.touchO hi)
  | .attr a _ => a.touch
  | .isi a _ => a.touch
  | .bi _ es => E.touchL es
  | .bm _ a es => a.touch ++ E.touchL es
  | .jrev a e => a.touch ++ e.touch
  | .mm _ a es => none :: a.rootT ++ a.touch ++ E.touchL es ++ es.flatMap E.rootT
  | .call _ es => none :: es.flatMap E.rootT ++ E.touchL es
  | .mk _ es => none :: es.flatMap E.rootT ++ E.touchL es
  | .meth a _ es => none :: a.rootT ++ a.touch ++ es.flatMap E.rootT ++ E.touchL es
  | .comp g s c e => g.slots.map some ++ s.touch ++ E.touchO c ++ e.touch ++ e.rootT
def E.touchL : List E → List (Option Nat)
  | [] => []
  | e :: es => e.touch ++ E.touchL es
def E.touchO : Option E → List (Option Nat)
  | none => []
  | some e => e.touch
def Src.touch : Src → List (Option Nat)
  | .seq e => none :: e.rootT ++ e.touch | .rng1 e => e.touch | .rng2 a b => a.touch ++ b.touch | .enum e => none :: e.rootT ++ e.touch | .zip a b => none :: a.rootT ++ a.touch ++ b.rootT ++ b.touch | .rev e => none :: e.rootT ++ e.touch
end

/-! ### small pieces -/
def xBoolV (b : Bool) : Opd := .own (.bl b)
def xNot (m : M Opd) : M Opd := fun S => (xTest m S).bind fun b S1 => .ok (.own (.bl (!b))) S1
/-- a and b, a or b as values: all but the last are truths -/
def xAnd (a b : M Opd) : M Opd := fun S => (a S).bind fun o S1 => match dat S1 o with
  | some (.bl true) => b S1
  | some (.bl false) => .ok (.own (.bl false)) S1
  | _ => .fail
def xOr (a b : M Opd) : M Opd := fun S => (a S).bind fun o S1 => match dat S1 o with
  | some (.bl true) => .ok (.own (.bl true)) S1
  | some (.bl false) => b S1
  | _ => .fail
def xVal (m : M Opd) : M D := fun S => (m S).bind fun o S1 => valM o S1
def xIfe (t : M Bool) (a b : M Opd) : M Opd := fun S => (t S).bind fun c S1 => if c then (xVal a S1).bind fun d S2 => .ok (mkO d) S2 else (xVal b S1).bind fun d S2 => .ok (mkO d) S2
def xLst (ms : List (M Opd × List (Option Nat))) : M Opd := fun S => (evL ms S).bind fun os S1 => if os.length ≤ sz then (valL os S1).bind fun ds S2 => .ok (.own (.lst true ds)) S2 else .fail
def xTup (ms : List (M Opd × List (Option Nat))) : M Opd := fun S => (evL ms S).bind fun os S1 => if os.length ≤ sz then (valL os S1).bind fun ds S2 => .ok (.own (.tup (D.leakL ds))) S2 else .fail
def xSub (a : M Opd) (ta : List (Option Nat)) (i : M Opd) (ti : List (Option Nat)) : M Opd := fun S => (evL [(a, ta), (i, ti)] S).bind fun os S1 => match os with
  | [oa, oi] => match dat S1 oa, dat S1 oi with
    | some (.scr ns), some (.int k) => match atI ns k with
      | some c => .ok (.own (.int c)) S1
      | none => .fail
    | some (.str z), some (.int k) => if z.length ≤ sz then match atI z.cps.toList k with
      | some c => .ok (.own (.str ⟨#[c]⟩)) S1
      | none => .fail else .fail
    | some da, some di => match (stepOf da di).bind (partO S1 oa) with
      | some o => .ok o S1
      | none => .fail
    | _, _ => .fail
  | _ => .fail
def xAttr (ct : CT) (a : M Opd) (f : Str) : M Opd := fun S => (a S).bind fun oa S1 => match dat S1 oa with
  | some (.ins _ c _) => if ct.fld c f then match partO S1 oa (.fld f) with
    | some o => .ok o S1
    | none => .fail else .fail
  | _ => .fail
def delP {κ : Type} [DecidableEq κ] {α : Type} (l : List (κ × α)) (k : κ) : List (κ × α) :=
  match l with
  | [] => []
  | (x, e) :: r => if x = k then r else (x, e) :: delP r k
def mmD (b : Mm) (d : D) (ds : List D) : Option (D × D) :=
  match b, d, ds with
  | .append, .lst true xs, [e] => if xs.length < sz then some (.non, .lst true (xs ++ [e])) else none
  | .extend, .lst true xs, [.lst _ ys] => if D.freeL ys && decide (xs.length + ys.length ≤ sz) then some (.non, .lst true (xs ++ ys)) else none
  | .insert, .lst true xs, [.int i, e] => if decide (xs.length < sz) && decide (0 ≤ i) && decide (i < 2 ^ 63) then some (.non, .lst true (xs.take i.toNat ++ [e] ++ xs.drop i.toNat)) else none
  | .pop, .lst true xs, [] => match xs[xs.length - 1]? with | some d => some (d, .lst true xs.dropLast) | none => none
  | .popAt, .lst true xs, [.int i] => match ixOf xs.length i with | some n => (match xs[n]? with | some d => some (d, .lst true (xs.eraseIdx n)) | none => none) | none => none
  | .remove, .lst true xs, [e] => if flatD e && xs.all flatD then (match findI e xs with | some n => some (.non, .lst true (xs.eraseIdx n)) | none => none) else none
  | .reverse, .lst true xs, [] => some (.non, .lst true xs.reverse)
  | .clear, .lst true _, [] => some (.non, .lst true [])
  | .dpop, .dct true kvs, [k] => (keyOf k).bind fun k => match lookP kvs k with | some d => some (d, .dct true (delP kvs k)) | none => none
  | _, _, _ => none
/-- of such a kind -/
def xKind (k : D → Bool) (m : M Opd) : M Opd := fun S => (m S).bind fun o S1 => match dat S1 o with
  | some d => if k d then .ok o S1 else .fail
  | none => .fail
def isStr : D → Bool
  | .str _ => true
  | _ => false
def isLst : D → Bool
  | .lst _ _ => true
  | _ => false
def isDct : D → Bool
  | .dct _ _ => true
  | _ => false
def bmK : Bm → D → Bool
  | .join, d => isStr d | .split, d => isStr d | .index, d => isStr d || isLst d
def mmK : Mm → D → Bool
  | .dpop, d => isDct d
  | _, d => isLst d
def xMm (b : Mm) (a : M Opd) (ta : List (Option Nat)) (ms : List (M Opd × List (Option Nat))) : M Opd := fun S => (evL ((a, ta) :: ms) S).bind fun os S1 => match os with
  | .loc l :: os => (valL os S1).bind fun ds S2 => match (look S2 l).bind fun d => mmD b d ds with
    | some (r, d') => match setLoc S2 l d' with
      | some S3 => .ok (.own r) S3
      | none => .fail
    | none => .fail
  | _ => .fail
def xCall (t : Tab) (f : Nat) (ms : List (M Opd × List (Option Nat))) : M Opd := fun S => (evL ms S).bind fun os S1 => (xCallO t f os [] S1).bind fun r S2 => .ok (mkO r.1) S2
def xMk (t : Tab) (c : Nat) (ms : List (M Opd × List (Option Nat))) : M Opd := fun S => match t.ct.init c with
  | some f => (evL ms S).bind fun os S1 => (xCallO t f os [.ins true c []] S1).bind fun r S2 => match r with
    | (.non, [some d]) => .ok (.own (if t.ct.perm c then d.leak else d)) S2
    | _ => .fail
  | none => .fail
def xMeth (t : Tab) (a : M Opd) (m : Str) (ms : List (M Opd × List (Option Nat))) : M Opd := fun S => (a S).bind fun oa S1 => match dat S1 oa with
  | some (.ins _ c fs) => match lookP fs m, t.ct.meth c m with
    | none, some f => if okWait (ms.flatMap (·.2)) oa then (evL ms S1).bind fun os S2 => (xCallO t f (oa :: os) [] S2).bind fun r S3 => .ok (mkO r.1) S3 else .fail
    | _, _ => .fail
  | _ => .fail
def xChain (o1 o2 : COp) (fa : M Opd) (Ta : List (Option Nat)) (fb : M Opd) (Tbc : List (Option Nat)) (fc : M Opd) : M Opd := fun S => (evL [(fa, Ta), (fb, Tbc)] S).bind fun os S1 => match os with
    | [oa, ob] => match dat S1 oa, dat S1 ob with
      | some (.int i), some (.int j) => match cmpD o1 (.int i) (.int j) with
        | some true => (fc S1).bind fun oc S2 => match dat S2 oc with
          | some (.int k) => match cmpD o2 (.int j) (.int k) with
            | some r => .ok (.own (.bl r)) S2
            | none => .fail
          | _ => .fail
        | some false => .ok (.own (.bl false)) S1
        | none => .fail
      | _, _ => .fail
    | _ => .fail
def xInt (m : M Opd) : M Opd := fun S => (m S).bind fun o S1 => match o with
  | .own (.int i) => .ok (.own (.int i)) S1
  | _ => .fail
def sliceF (l h : Bool) : List D → Option D := fun ds => match ds, l, h with
  | [d], false, false => sliceD d none none
  | [d, .int i], true, false => sliceD d (some i) none
  | [d, .int i], false, true => sliceD d none (some i)
  | [d, .int i, .int j], true, true => sliceD d (some i) (some j)
  | _, _, _ => none
def isND : D → Option Bool
  | .non => some true
  | .link _ => none
  | _ => some false
/-! ### what is walked -/
/-- the items, each given up -/
def itemsD : D → Option (List D)
  | .lst _ xs => some (D.leakL xs)
  | .tup xs => some xs
  | .str z => some (z.cps.toList.map fun c => .str ⟨#[c]⟩)
  | .scr ns => some (ns.map .int)
  | _ => none
/-- a walked thing is given up where it stands -/
def giveUp : Opd → M Unit
  | .own _ => fun S => .ok () S
  | .loc l => fun S => match (look S l).bind fun d => setLoc S l d.leak with
    | some S' => .ok () S'
    | none => .fail
/-- a value that is given up where it stands -/
def xKeep (a : M Opd) : M Opd := fun S => (a S).bind fun o S1 => match dat S1 o with
  | some (.link _) => .fail
  | some d => (giveUp o S1).bind fun _ S2 => .ok (.own d.leak) S2
  | none => .fail
def pairUp : List D → Option (List (Key × D))
  | [] => some []
  | k :: v :: r => (keyOf k).bind fun k => (pairUp r).map fun l => (k, v) :: l
  | _ => none
def noTwice : List (Key × D) → Bool
  | [] => true
  | (k, _) :: r => (lookP r k).isNone && noTwice r
def xDct (ms : List (M Opd × List (Option Nat))) : M Opd := fun S => (evL ms S).bind fun os S1 => (valL os S1).bind fun ds S2 => match pairUp ds with
  | some kvs => if noTwice kvs && decide (kvs.length ≤ 15) then .ok (.own (.dct true kvs)) S2 else .fail
  | none => .fail
/-- stable, by keys: whole numbers, or pairs of them -/
def keyN : D → Option (Int × Int)
  | .int i => some (i, 0)
  | .tup [.int i, .int j] => some (i, j)
  | _ => none
def keysM (call : D → Option D) : List D → Option (List ((Int × Int) × D))
  | [] => some []
  | d :: ds => (call d).bind fun k => (keyN k).bind fun n => (keysM call ds).map fun r => (n, d) :: r
def leP (a b : Int × Int) : Bool := decide (a.1 < b.1) || (decide (a.1 = b.1) && decide (a.2 ≤ b.2))
def sortP (l : List ((Int × Int) × D)) : List D := (l.mergeSort fun a b => leP a.1 b.1).map (·.2)
/-- f of one item, which changes nothing -/
def callPure (t : Tab) (f : Nat) (rg : List D) (d : D) : Option D := match t.call f [d] rg with
  | .ret r [some d'] rg' => some r
  | _ => none
def xSortK (t : Tab) (f : Nat) (a : M Opd) : M Opd := fun S => (a S).bind fun o S1 => match dat S1 o with
  | some (.lst _ xs) => (giveUp o S1).bind fun _ S2 => match keysM (callPure t f S2.rg) (D.leakL xs) with
    | some l => .ok (.own (.lst true (sortP l))) S2
    | none => .fail
  | _ => .fail
def rngD (a b : Int) : List D := (List.range (b - a).toNat).map fun (i : Nat) => .int (a + (i : Int))
def rngOk (a : Int) : Bool := decide (-(2 ^ 62) ≤ a) && decide (a < 2 ^ 62)
def zipD (a b : List D) : List D := (a.zip b).map fun p => .tup [p.1, p.2]
def enumD (i : Nat) : List D → List D
  | [] => []
  | x :: xs => .tup [.int i, x] :: enumD (i + 1) xs
def xSeq (a : M Opd) : M (List D) := fun S => (a S).bind fun o S1 => match (dat S1 o).bind itemsD with
  | some xs => (giveUp o S1).bind fun _ S2 => .ok xs S2
  | none => .fail
def xSeqL (a : M Opd) : M (List D) := fun S => (a S).bind fun o S1 => match dat S1 o with
  | some (.lst _ xs) => (giveUp o S1).bind fun _ S2 => .ok (D.leakL xs) S2
  | _ => .fail

def xZip (a : M Opd) (ta : List (Option Nat)) (b : M Opd) (tb : List (Option Nat)) : M (List D) := fun S => (evL [(a, ta), (b, tb)] S).bind fun os S1 => match os with
  | [oa, ob] => match dat S1 oa with
    | some (.lst _ xs) => (giveUp oa S1).bind fun _ S2 => match dat S2 ob with
      | some (.lst _ ys) => (giveUp ob S2).bind fun _ S3 => .ok (zipD (D.leakL xs) (D.leakL ys)) S3
      | _ => .fail
    | _ => .fail
  | _ => .fail
/-! ### loops -/
inductive Fl where
  | next | brk | cont | ret (d : D)
def isScalar : D → Bool
  | .non => true | .bl _ => true | .int _ => true | .str _ => true
  | _ => false
def setVar (np i : Nat) (d : D) (S : DS) : Option DS := if np ≤ i && decide (i < S.ds.length) then some { S with ds := S.ds.set i (some d) } else none
def setVars (np : Nat) : List Nat → List D → DS → Option DS
  | [], [], S => some S
  | i :: is, d :: ds, S => (setVar np i d S).bind fun S' => setVars np is ds S'
  | _, _, _ => none
def setTg (np : Nat) (g : Tg) (d : D) (S : DS) : Option DS :=
  match g, d with
  | .name i, d => setVar np i d S
  | .tup is, .tup ds => setVars np is ds S
  | _, _ => none
def forLoop (np : Nat) (g : Tg) (body : M Fl) : List D → DS → R Fl
  | [], S => .ok .next S
  | d :: ds, S => match setTg np g d S with
    | none => .fail
    | some S1 => (body S1).bind fun f S2 => match f with
      | .next => forLoop np g body ds S2
      | .cont => forLoop np g body ds S2
      | .brk => .ok .next S2
      | .ret v => .ok (.ret v) S2
def whileLoop (t : M Bool) (body : M Fl) : Nat → DS → R Fl
  | 0, _ => .fail
  | n + 1, S => (t S).bind fun b S1 => if b then (body S1).bind fun f S2 => match f with
      | .next => whileLoop t body n S2
      | .cont => whileLoop t body n S2
      | .brk => .ok .next S2
      | .ret v => .ok (.ret v) S2
    else .ok .next S1
def hideD (ds : List (Option D)) : List Nat → List (Option D)
  | [] => ds
  | i :: is => (hideD ds is).set i none
def showD (ds0 ds : List (Option D)) : List Nat → List (Option D)
  | [] => ds
  | i :: is => (showD ds0 ds is).set i (ds0[i]?).join
def hideS (is : List Nat) (S : DS) : DS := { S with ds := hideD S.ds is }
/-- nothing is raised -/
def noX {α : Type} : R α → R α
  | .exc _ _ => .fail
  | r => r
def condM : Option (M Bool) → M Bool
  | none => fun S => .ok true S
  | some c => c
def compLoop (g : Tg) (cond : M Bool) (elt : M D) : List D → List D → DS → R (List D)
  | [], acc, S => .ok acc (hideS g.slots S)
  | d :: ds, acc, S => match setTg 0 g d (hideS g.slots S) with
    | none => .fail
    | some S1 => (noX (cond S1)).bind fun b S2 =>
      if b then (noX (elt S2)).bind fun x S3 => if acc.length < sz then compLoop g cond elt ds (acc ++ [x]) S3 else .fail
      else compLoop g cond elt ds acc S2
def xComp (g : Tg) (src : M (List D)) (cond : M Bool) (elt : M Opd) : M Opd := fun S => (src S).bind fun xs S1 =>
  (compLoop g cond (xVal elt) xs [] S1).bind fun acc S2 => .ok (.own (.lst true acc)) { S2 with ds := showD S1.ds S2.ds g.slots }

mutual
def ev (t : Tab) : E → M Opd
  | .non => fun S => .ok (.own .non) S
  | .bl b => fun S => .ok (.own (.bl b)) S
  | .int i => fun S => .ok (.own (.int i)) S
  | .str s => fun S => .ok (.own (.str s)) S
  | .var i => xVar i
  | .glob _ d => fun S => .ok (.own d) S
  | .bin op a b => xRead [(ev t a, a.touch), (ev t b, b.touch)] fun ds => match ds with | [x, y] => binD op x y | _ => none
  | .notE a => xNot (ev t a)
  | .neg a => xRead [(ev t a, a.touch)] fun ds => match ds with | [.int i] => some (.int (-i)) | _ => none
  | .andE a b => xAnd (ev t a) (ev t b)
  | .orE a b => xOr (ev t a) (ev t b)
  | .cmp op a b => xRead [(ev t a, a.touch), (ev t b, b.touch)] fun ds => match ds with | [x, y] => (cmpD op x y).map .bl | _ => none
  | .isN a => xRead [(ev t a, a.touch)] fun ds => match ds with | [x] => (isND x).map .bl | _ => none
  | .notN a => xRead [(ev t a, a.touch)] fun ds => match ds with | [x] => (isND x).map fun b => .bl (!b) | _ => none
  | .chain o1 o2 a b c => xChain o1 o2 (ev t a) a.touch (ev t b) (b.touch ++ c.touch) (ev t c)
  | .ife c a b => xIfe (xTest (ev t c)) (ev t a) (ev t b)
  | .lst es => xLst (evP t es)
  | .tup es => xTup (evP t es)
  | .dct0 => fun S => .ok (.own (.dct true [])) S
  | .sub a i => xSub (ev t a) a.touch (ev t i) i.touch
  | .slice a lo hi => xRead ((ev t a, a.touch) :: (evO t lo ++ evO t hi)) (sliceF lo.isSome hi.isSome)
  | .dct es => xDct (evP t es)
  | .keep a => xKeep (ev t a)
  | .sortK f a => xSortK t f (ev t a)
  | .attr a f => xAttr t.ct (ev t a) f
  | .isi a ty => xRead [(ev t a, a.touch)] fun ds => match ds with | [x] => (tyD t.ct ty x).map .bl | _ => none
  | .bi b es => xRead (evP t es) (biD b)
  | .bm b a es => xRead ((xKind (bmK b) (ev t a), a.touch) :: evP t es) fun ds => match ds with | d :: r => bmD b d r | _ => none
  | .jrev a e => xRead [(xKind isStr (ev t a), a.touch), (ev t e, e.touch)] jrevF
  | .mm b a es => xMm b (xKind (mmK b) (ev t a)) a.touch (evP t es)
  | .call f es => xCall t f (evP t es)
  | .mk c es => xMk t c (evP t es)
  | .meth a m es => xMeth t (ev t a) m (evP t es)
  | .comp g s c e => xComp g (evSrc t s) (match c with | none => fun S => .ok true S | some c => xTest (ev t c)) (ev t e)
def evP (t : Tab) : List E → List (M Opd × List (Option Nat))
  | [] => []
  | e :: es => (ev t e, e.touch) :: evP t es
def evO (t : Tab) : Option E → List (M Opd × List (Option Nat))
  | none => []
  | some e => [(xInt (ev t e), e.touch)]
def evSrc (t : Tab) : Src → M (List D)
  | .seq e => xSeq (ev t e)
  | .rng1 e => fun S => (ev t e S).bind fun o S1 => match dat S1 o with
    | some (.int j) => if rngOk j then .ok (rngD 0 j) S1 else .fail
    | _ => .fail
  | .rng2 a b => fun S => (evL [(ev t a, a.touch), (ev t b, b.touch)] S).bind fun os S1 => match datL S1 os with
    | some [.int i, .int j] => if rngOk i && rngOk j then .ok (rngD i j) S1 else .fail
    | _ => .fail
  | .enum e => fun S => (xSeqL (ev t e) S).bind fun xs S1 => .ok (enumD 0 xs) S1
  | .zip a b => xZip (ev t a) a.touch (ev t b) b.touch
  | .rev e => fun S => (xSeqL (ev t e) S).bind fun xs S1 => .ok xs.reverse S1
end
/-- o[k] = a value -/
def asgSub (d : D) (os : List Opd) (S2 : DS) : R Fl := match os with
  | [.loc l, ok] => match look S2 l, dat S2 ok with
    | some (.lst true xs), some (.int i) => match ixOf xs.length i with
      | some n => match setLoc S2 l (.lst true (xs.set n d)) with | some S3 => .ok .next S3 | none => .fail
      | none => .fail
    | some (.dct true kvs), some dk => match keyOf dk with
      | some k => if kvs.length < sz then match setLoc S2 l (.dct true (putP kvs k d)) with | some S3 => .ok .next S3 | none => .fail else .fail
      | none => .fail
    | _, _ => .fail
  | _ => .fail
/-- o.f = a value -/
def asgAttr (ct : CT) (f : Str) (d : D) (oo : Opd) (S2 : DS) : R Fl := match oo with
  | .loc l => match look S2 l with
    | some (.ins true c fs) => if ct.fld c f && decide (fs.length < 1000) then match setLoc S2 l (.ins true c (putP fs f d)) with | some S3 => .ok .next S3 | none => .fail else .fail
    | _ => .fail
  | _ => .fail
def augI : BOp → Int → Int → Option Int
  | .add, a, b => some (a + b)
  | .sub, a, b => some (a - b)
  | _, _, _ => none
def xAug (np i : Nat) (op : BOp) (f : M Opd) : M Fl := fun S => match S.ds[i]? with
  | some (some (.int k)) => (f S).bind fun o S1 => match dat S1 o with
    | some (.int j) => match (augI op k j).bind fun d => setVar np i (.int d) S1 with | some S2 => .ok .next S2 | none => .fail
    | _ => .fail
  | _ => .fail
def xPar (np i j : Nat) (a : M Opd) (ta : List (Option Nat)) (b : M Opd) (tb : List (Option Nat)) : M Fl := fun S => (evL [(a, ta), (b, tb)] S).bind fun os S1 => (valL os S1).bind fun ds S2 => match ds with
    | [x, y] => if i == j then .fail else match (setVar np i x S2).bind (setVar np j y) with | some S3 => .ok .next S3 | none => .fail
    | _ => .fail
/-- o[k] op= e of a dict -/
def xAugS (o : M Opd) (to : List (Option Nat)) (k : M Opd) (tk : List (Option Nat)) (op : BOp) (e : M Opd) (te : List (Option Nat)) : M Fl := fun S => (evL [(o, to), (k, tk), (e, te)] S).bind fun os S1 => match os with
  | [.loc l, ok, oe] => match look S1 l, dat S1 ok, dat S1 oe with
    | some (.dct true kvs), some dk, some (.int j) => match keyOf dk with
      | some k => match lookP kvs k with
        | some (.int i) => match augI op i j with
          | some r => if kvs.length < sz then match setLoc S1 l (.dct true (putP kvs k (.int r))) with | some S2 => .ok .next S2 | none => .fail else .fail
          | none => .fail
        | _ => .fail
      | none => .fail
    | _, _, _ => .fail
  | _ => .fail
def xAugA (ct : CT) (o : M Opd) (to : List (Option Nat)) (f : Str) (op : BOp) (e : M Opd) (te : List (Option Nat)) : M Fl := fun S => (evL [(o, to), (e, te)] S).bind fun os S1 => match os with
  | [.loc l, oe] => match look S1 l, dat S1 oe with
    | some (.ins true c fs), some (.int j) => match lookP fs f with
      | some (.int i) => match augI op i j with
        | some r => if ct.fld c f && decide (fs.length < 1000) then match setLoc S1 l (.ins true c (putP fs f (.int r))) with | some S2 => .ok .next S2 | none => .fail else .fail
        | none => .fail
      | _ => .fail
    | _, _ => .fail
  | _ => .fail
def fuelW : Nat := 100000
mutual
def exec (t : Tab) (np : Nat) : S → M Fl
  | .expr e => fun S => (ev t e S).bind fun _ S1 => .ok .next S1
  | .asg g e => fun S => (xVal (ev t e) S).bind fun d S1 => match g with
    | .name i => match setVar np i d S1 with | some S2 => .ok .next S2 | none => .fail
    | .tup is => match setTg np (.tup is) d S1 with | some S2 => .ok .next S2 | none => .fail
    | .sub o k => (evL [(ev t o, o.touch), (ev t k, k.touch)] S1).bind fun os S2 => asgSub d os S2
    | .attr o f => (ev t o S1).bind fun oo S2 => asgAttr t.ct f d oo S2
  | .par i j a b => xPar np i j (ev t a) a.touch (ev t b) b.touch
  | .aug i op e => xAug np i op (ev t e)
  | .augS o k op e => xAugS (ev t o) o.touch (ev t k) k.touch op (ev t e) e.touch
  | .augA o f op e => xAugA t.ct (ev t o) o.touch f op (ev t e) e.touch
  | .tryT b => fun S => noX (execs t np b S)
  | .ife c a b => fun S => (xTest (ev t c) S).bind fun r S1 => if r then execs t np a S1 else execs t np b S1
  | .whileS c b => fun S => whileLoop (xTest (ev t c)) (execs t np b) fuelW S
  | .forS g s b => fun S => (evSrc t s S).bind fun xs S1 => forLoop np g (execs t np b) xs S1
  | .ret e => fun S => (xVal (ev t e) S).bind fun d S1 => .ok (.ret d) S1
  | .retN => fun S => .ok (.ret .non) S
  | .pass => fun S => .ok .next S
  | .brk => fun S => .ok .brk S
  | .cont => fun S => .ok .cont S
  | .dead => fun _ => .fail
def execs (t : Tab) (np : Nat) : List S → M Fl
  | [] => fun S => .ok .next S
  | s :: ss => fun S => (exec t np s S).bind fun f S1 => match f with
    | .next => execs t np ss S1
    | f => .ok f S1
end
structure Fn where
  np : Nat
  nv : Nat
  body : List S
def runFn (t : Tab) (f : Fn) (ds : List D) (rg : List D) : CR :=
  if ds.length != f.np then .fail else match execs t f.np f.body ⟨ds.map some ++ List.replicate (f.nv - f.np) none, rg⟩ with
  | .ok (.ret d) S => .ret d (S.ds.take f.np) S.rg
  | .ok .next S => .ret .non (S.ds.take f.np) S.rg
  | .exc x S => .exc x (S.ds.take f.np) S.rg
  | _ => .fail
end RB
end

section
set_option Elab.async false
set_option maxRecDepth 100000
namespace RB
open PySem L2

abbrev tch (l : List (Option Nat)) : Tch := fun i => l.elem i
theorem tch_false {l : List (Option Nat)} {i : Option Nat} : tch l i = false ↔ i ∉ l := by simp [tch]
theorem tch_app {l m : List (Option Nat)} {i : Option Nat} : tch (l ++ m) i = (tch l i || tch m i) := by
  rw [Bool.eq_iff_iff]; simp [tch]

/-- an operand that is a place stands there -/
def placed (S : DS) : Opd → Prop
  | .own _ => True
  | .loc l => ∃ d, look S l = some d
/-- an exception's own dict and class -/
def XRep (W : Wd) (x : XD) (c : Value) (dd : Option Addr) (F : List Addr) : Prop :=
  c = .ref (W.st.ca x.c) ∧ match dd with
    | none => x.fs = [] ∧ F = []
    | some a => ∃ vs G, W.H a = some (.xd vs) ∧ RepF W x.fs vs G ∧ F.Perm (a :: G)

section
variable (ca : Sta) (Wx : WX)
/-- the state is told, the function gives an end, and whatever it leaves -/
def tE (T : List (Option Nat)) (f : M Opd) : TE := fun σ H Q => ∃ W S Fs G, W.H = H ∧ W.st = ca ∧ SR W σ S Fs G ∧ Sep W (Fs.flatten ++ G) ∧
  match f S with
  | .ok o S' => ∀ v W' Fs' G' F, Posts (tch T) W σ S Fs G [o] S' [v] W' Fs' G' F → placed S' o → Q v W'.H
  | .exc x S' => ∀ c dd W' Fs' G' F, SR W' σ S' Fs' G' → XRep W' x c dd F → Sep W' ((Fs'.flatten ++ G') ++ F) → Evo W (Fs.flatten ++ G) W' ((Fs'.flatten ++ G') ++ F) → Wx c dd σ W'.H
  | .fail => False
def tA (ms : List (M Opd × List (Option Nat))) : TA := fun σ H Q => ∃ W S Fs G, W.H = H ∧ W.st = ca ∧ SR W σ S Fs G ∧ Sep W (Fs.flatten ++ G) ∧
  match evL ms S with
  | .ok os S' => ∀ vs W' Fs' G' F, Posts (tch (ms.flatMap (·.2))) W σ S Fs G os S' vs W' Fs' G' F → Q vs W'.H
  | .exc x S' => ∀ c dd W' Fs' G' F, SR W' σ S' Fs' G' → XRep W' x c dd F → Sep W' ((Fs'.flatten ++ G') ++ F) → Evo W (Fs.flatten ++ G) W' ((Fs'.flatten ++ G') ++ F) → Wx c dd σ W'.H
  | .fail => False
def tT (T : List (Option Nat)) (f : M Bool) : TT := fun σ H Q => ∃ W S Fs G, W.H = H ∧ W.st = ca ∧ SR W σ S Fs G ∧ Sep W (Fs.flatten ++ G) ∧
  match f S with
  | .ok b S' => ∀ W' Fs' G', Posts (tch T) W σ S Fs G [] S' [] W' Fs' G' [] → Q b W'.H
  | .exc x S' => ∀ c dd W' Fs' G' F, SR W' σ S' Fs' G' → XRep W' x c dd F → Sep W' ((Fs'.flatten ++ G') ++ F) → Evo W (Fs.flatten ++ G) W' ((Fs'.flatten ++ G') ++ F) → Wx c dd σ W'.H
  | .fail => False
end

theorem PE.pt {X : Cx} {e : Expr} {T : TE} (h : ∀ σ H Q, T σ H Q → ∃ t, PE X e t ∧ t σ H Q) : PE X e T :=
  ⟨fun pins s σ H Q I q => by obtain ⟨t, p, z⟩ := h σ H Q q; exact p.run pins s σ H Q I z⟩
theorem PT.pt {X : Cx} {e : Expr} {T : TT} (h : ∀ σ H Q, T σ H Q → ∃ t, PT X e t ∧ t σ H Q) : PT X e T :=
  ⟨fun pins s σ H Q I q => by obtain ⟨t, p, z⟩ := h σ H Q q; exact p.run pins s σ H Q I z⟩
theorem PA.pt {X : Cx} {e : List Expr} {T : TA} (h : ∀ σ H Q, T σ H Q → ∃ t, PA X e t ∧ t σ H Q) : PA X e T :=
  ⟨fun pos pins s σ H Q I q => by obtain ⟨t, p, z⟩ := h σ H Q q; exact p.run pos pins s σ H Q I z⟩

theorem Posts.mono {T T' : Tch} {W W' : Wd} {σ : St} {S S' : DS} {Fs Fs' : List (List Addr)} {G G' : List Addr} {os : List Opd} {vs : List V} {F : List Addr} (p : Posts T W σ S Fs G os S' vs W' Fs' G' F) (h : ∀ i, T' i = false → T i = false) :
    Posts T' W σ S Fs G os S' vs W' Fs' G' F := ⟨p.sr, p.op, p.sep, p.evo, p.pres.mono h⟩
theorem Posts.len {T : Tch} {W W' : Wd} {σ : St} {S S' : DS} {Fs Fs' : List (List Addr)} {G G' : List Addr} {os : List Opd} {vs : List V} {F : List Addr} (p : Posts T W σ S Fs G os S' vs W' Fs' G' F) : vs.length = os.length := by
  have h := p.op
  clear p
  induction os generalizing vs F with
  | nil => simp only [OpsRep] at h; rw [h.1]; rfl
  | cons o os ih =>
    cases o with
    | own d => simp only [OpsRep] at h; obtain ⟨v, ws, F1, F2, rfl, _, h2, _⟩ := h; simp [ih h2]
    | loc l => simp only [OpsRep] at h; obtain ⟨v, ws, rfl, _, h2⟩ := h; simp [ih h2]
theorem okWait_of {T : List (Option Nat)} {S : DS} {o : Opd} (h : okWait T o = true) (hp : placed S o) : waits (tch T) S o := by
  cases o with
  | own d => trivial
  | loc l =>
    refine ⟨hp, ?_⟩
    simp only [okWait, Bool.or_eq_true, Bool.not_eq_true', List.isEmpty_iff] at h
    exact h
section
variable {ca : Sta} {Wx : WX} {σ : St} {H : Hp}
theorem tA_nil {Q : List V → Hp → Prop} (h : tA ca Wx [] σ H Q) : Q [] H := by
  obtain ⟨W, S, Fs, G, rfl, hc, sr, sp, h⟩ := h
  exact h [] W Fs G [] ((Posts.nil sr sp).mono (by intro i _; rfl))
theorem tA_cons {m : M Opd} {T : List (Option Nat)} {r : List (M Opd × List (Option Nat))} {Q : List V → Hp → Prop} (h : tA ca Wx ((m, T) :: r) σ H Q) :
    tE ca Wx T m σ H fun x H1 => tA ca Wx r σ H1 fun vs H2 => Q (x :: vs) H2 := by
  obtain ⟨W, S, Fs, G, rfl, hc, sr, sp, h⟩ := h
  refine ⟨W, S, Fs, G, rfl, hc, sr, sp, ?_⟩
  simp only [evL] at h
  cases e : m S with
  | fail => rw [e] at h; exact h
  | exc x S1 => rw [e] at h; exact h
  | ok o S1 =>
    rw [e] at h
    simp only [R.bind_ok] at h ⊢
    intro v W1 Fs1 G1 F1 p1 hpl
    refine ⟨W1, S1, Fs1, G1, rfl, p1.evo.ca.trans hc, p1.sr, p1.sep.left, ?_⟩
    by_cases hw : okWait (r.flatMap (·.2)) o = true
    · rw [if_pos hw] at h
      cases e2 : evL r S1 with
      | fail => rw [e2] at h; exact h
      | exc x S2 =>
        rw [e2] at h
        simp only [R.bind_exc] at h ⊢
        intro c dd W2 Fs2 G2 F2 sr2 xr2 sp2 ev2
        refine h c dd W2 Fs2 G2 F2 sr2 xr2 sp2 ?_
        have e3 := p1.evo.trans (ev2.beside F1)
        exact e3.sub fun a ha => List.mem_append_left _ ha
      | ok os S2 =>
        rw [e2] at h
        simp only [R.bind_ok] at h ⊢
        intro vs W2 Fs2 G2 F2 p2
        refine h (v :: vs) W2 Fs2 G2 (F1 ++ F2) ?_
        have := p1.snoc (T2 := tch (r.flatMap (·.2))) (fun o' ho => by
          have : o' = o := by simpa using ho
          subst this
          exact okWait_of hw hpl) p2
        refine Posts.mono this fun i hi => ?_
        rw [List.flatMap_cons, tch_app] at hi
        exact hi
    · rw [if_neg hw] at h
      exact h.elim
theorem tE_mono {T : List (Option Nat)} {f : M Opd} {Q Q' : VK} (h : tE ca Wx T f σ H Q) (hq : ∀ v H', Q v H' → Q' v H') : tE ca Wx T f σ H Q' := by
  obtain ⟨W, S, Fs, G, rfl, hc, sr, sp, h⟩ := h
  refine ⟨W, S, Fs, G, rfl, hc, sr, sp, ?_⟩
  cases e : f S with
  | fail => rw [e] at h; exact h
  | exc x S1 => rw [e] at h; exact h
  | ok o S1 => rw [e] at h; exact fun v W' Fs' G' F p hp => hq _ _ (h v W' Fs' G' F p hp)
theorem tA_mono {ms : List (M Opd × List (Option Nat))} {Q Q' : List V → Hp → Prop} (h : tA ca Wx ms σ H Q) (hq : ∀ v H', Q v H' → Q' v H') : tA ca Wx ms σ H Q' := by
  obtain ⟨W, S, Fs, G, rfl, hc, sr, sp, h⟩ := h
  refine ⟨W, S, Fs, G, rfl, hc, sr, sp, ?_⟩
  cases e : evL ms S with
  | fail => rw [e] at h; exact h
  | exc x S1 => rw [e] at h; exact h
  | ok o S1 => rw [e] at h; exact fun v W' Fs' G' F p => hq _ _ (h v W' Fs' G' F p)
theorem tA_1 {m : M Opd} {T : List (Option Nat)} {Q : List V → Hp → Prop} (h : tA ca Wx [(m, T)] σ H Q) : tE ca Wx T m σ H fun x H1 => Q [x] H1 :=
  tE_mono (tA_cons h) fun _ _ q => tA_nil q
theorem tA_2 {m n : M Opd} {T U : List (Option Nat)} {Q : List V → Hp → Prop} (h : tA ca Wx [(m, T), (n, U)] σ H Q) : tE ca Wx T m σ H fun x H1 => tE ca Wx U n σ H1 fun y H2 => Q [x, y] H2 :=
  tE_mono (tA_cons h) fun _ _ q => tA_1 q

/-- arguments -/
theorem pa_ms {X : Cx} {es : List Expr} {ms : List (M Opd × List (Option Nat))} (h : Paired (fun e m => PE X e (tE ca Wx m.2 m.1) ∧ ∀ r, starEach (e :: r) X.env = (false, eval e X.env) :: starEach r X.env) es ms) : PA X es (tA ca Wx ms) := by
  induction h with
  | nil => exact PA.pt fun σ H Q q => ⟨_, pa_nil, tA_nil q⟩
  | cons h _ ih => exact PA.pt fun σ H Q q => ⟨_, pa_cons h.1 ih (h.2 _), tA_cons q⟩

/-! ### reading operations -/
abbrev RepB (W : Wd) (d : D) (v : V) : Prop := ∃ F, Rep W d v F
theorem OpsRep.reads {W : Wd} {S : DS} {Fs : List (List Addr)} {G : List Addr} (sr : SR W σ S Fs G) : ∀ {os : List Opd} {vs : List V} {ds : List D} {F : List Addr}, OpsRep W σ os vs F → os.mapM (dat S) = some ds → Paired (RepB W) ds vs
  | [], vs, ds, F, h, e => by
    simp only [OpsRep] at h
    simp only [List.mapM_nil] at e
    cases e
    rw [h.1]
    exact .nil
  | .own d :: os, vs, ds, F, h, e => by
    simp only [OpsRep] at h
    obtain ⟨v, ws, F1, F2, rfl, h1, h2, pm⟩ := h
    simp only [List.mapM_cons, dat, Option.bind_eq_bind, Option.bind_some, Option.bind_eq_some_iff] at e
    obtain ⟨rs, e1, e2⟩ := e
    cases e2
    exact .cons ⟨F1, h1⟩ (OpsRep.reads sr h2 e1)
  | .loc l :: os, vs, ds, F, h, e => by
    simp only [OpsRep] at h
    obtain ⟨v, ws, rfl, h1, h2⟩ := h
    simp only [List.mapM_cons, dat, Option.bind_eq_bind, Option.bind_eq_some_iff] at e
    obtain ⟨d, e0, rs, e1, e2⟩ := e
    cases e2
    exact .cons (sr.read e0 h1) (OpsRep.reads sr h2 e1)
/-- behind the operands: a new value of its own -/
theorem Posts.fin {T : Tch} {W W1 W2 : Wd} {S S1 : DS} {Fs Fs1 : List (List Addr)} {G G1 : List Addr} {os : List Opd} {vs : List V} {F F2 : List Addr} {d : D} {v : V} (p : Posts T W σ S Fs G os S1 vs W1 Fs1 G1 F)
    (e : Evo W1 F W2 F2) (s : Sep W2 F2) (r : Rep W2 d v F2) (rv : W2.RV = W1.RV) : Posts T W σ S Fs G [.own d] S1 [v] W2 Fs1 G1 F2 := by
  have perm : (F ++ (Fs1.flatten ++ G1)).Perm ((Fs1.flatten ++ G1) ++ F) := List.perm_append_comm
  have sepF : Sep W1 (F ++ (Fs1.flatten ++ G1)) := p.sep.pm perm.symm
  have st : Stay W1 W2 (Fs1.flatten ++ G1) := e.stay (fun a ha h => sepF.dj h ha) p.sep.right.np
  have perm2 : (F2 ++ (Fs1.flatten ++ G1)).Perm ((Fs1.flatten ++ G1) ++ F2) := List.perm_append_comm
  refine ⟨⟨p.sr.sl.frame st.left, ?_⟩, ?_, (Sep.beside e sepF s).pm perm2, ?_, ?_⟩
  · rw [rv]; exact RepL.frame _ p.sr.rg st.right
  · exact ⟨v, [], F2, [], rfl, r, ⟨rfl, rfl⟩, by simp⟩
  · have e1 := (p.evo.sub (B' := F ++ (Fs1.flatten ++ G1)) fun a ha => perm.mem_iff.mp ha).trans (e.beside (Fs1.flatten ++ G1))
    exact e1.sub fun a ha => perm2.mem_iff.mpr ha
  · have := p.pres.trans (T2 := fun _ => false) (Pres.grow (W' := W2) p.sr (fun a o ha q => ?_) rv)
    · exact this.mono fun i hi => by simpa using hi
    · exact st.keep a o (.inl (List.mem_append.mpr ha)) q
/-- from a world nothing is owned of, something new -/
structure Grow (W W' : Wd) (F : List Addr) : Prop where
  evo : Evo W [] W' F
  sep : Sep W' F
  rv : W'.RV = W.RV
theorem tE_read {ms : List (M Opd × List (Option Nat))} {f : List D → Option D} {T : List (Option Nat)} {Q : VK} (hT : ∀ i, i ∉ T → i ∉ ms.flatMap (·.2)) (h : tE ca Wx T (xRead ms f) σ H Q) :
    tA ca Wx ms σ H fun vs H1 => ∃ W ds d, W.H = H1 ∧ W.st = ca ∧ Sep W [] ∧ Paired (RepB W) ds vs ∧ f ds = some d ∧ ∀ v W' F, Grow W W' F → Rep W' d v F → Q v W'.H := by
  obtain ⟨W, S, Fs, G, rfl, hc, sr, sp, h⟩ := h
  refine ⟨W, S, Fs, G, rfl, hc, sr, sp, ?_⟩
  simp only [xRead] at h
  cases e : evL ms S with
  | fail => rw [e] at h; exact h
  | exc x S1 => rw [e] at h; exact h
  | ok os S1 =>
    rw [e] at h
    simp only [R.bind_ok] at h ⊢
    cases e2 : (datL S1 os).bind f with
    | none => rw [e2] at h; exact h.elim
    | some d =>
      rw [e2] at h
      obtain ⟨ds, e3, e4⟩ := Option.bind_eq_some_iff.mp e2
      intro vs W1 Fs1 G1 F1 p
      refine ⟨W1, ds, d, rfl, p.evo.ca.trans hc, ⟨List.nodup_nil, by simp, p.sep.tk, by simp⟩, p.op.reads p.sr e3, e4, fun v W' F g r => ?_⟩
      refine h v W' Fs1 G1 F ((p.fin (F := F1) ?_ g.sep r g.rv).mono fun i hi => ?_) trivial
      · exact ⟨fun a o q _ => g.evo.keep a o q (by simp), g.evo.perm, fun a ha => .inr ((g.evo.newA a ha).resolve_left (by simp)), fun a ha => (g.evo.newP a ha).imp id fun z => .inr (z.resolve_left (by simp)), g.evo.rv, g.evo.ca⟩
      · rw [tch_false] at hi ⊢
        exact hT i hi
/-- nothing new -/
theorem Grow.refl {W : Wd} (s : Sep W []) : Grow W W [] := ⟨Evo.refl W [], s, rfl⟩
/-- a new object at p, its parts given up or none -/
abbrev Wd.put (W : Wd) (p : Addr) (o : HO) : Wd := { W with H := upd W.H p o }
theorem Grow.new {W : Wd} {p : Addr} (o : HO) (s : Sep W []) (hp : W.H p = none) : Grow W (W.put p o) [p] := by
  refine ⟨⟨fun a u h _ => by show upd W.H p o a = some u; rw [upd_ne (ne_of_none h hp)]; exact h, fun a h => h, fun a h => ?_, fun a h => .inl h, ⟨[], by simp⟩, rfl⟩, ⟨by simp, fun a h q => ?_, fun a q => ?_, fun a h => ?_⟩, rfl⟩
  · have : a = p := by simpa using h
    subst this; exact .inr hp
  · have : a = p := by simpa using h
    subst this
    obtain ⟨u, z⟩ := s.tk a q
    rw [hp] at z; cases z
  · obtain ⟨u, z⟩ := s.tk a q
    exact ⟨u, by show upd W.H p o a = some u; rw [upd_ne (ne_of_none z hp)]; exact z⟩
  · have : a = p := by simpa using h
    subst this; exact ⟨o, upd_same⟩
theorem stay_new {W : Wd} {p : Addr} (o : HO) (F : List Addr) (hp : W.H p = none) : Stay W (W.put p o) F :=
  ⟨fun a u _ h => by show upd W.H p o a = some u; rw [upd_ne (ne_of_none h hp)]; exact h, fun _ h => h, ⟨[], by simp⟩, rfl⟩
/-- a new one that is given up at once -/
abbrev Wd.putP (W : Wd) (p : Addr) (o : HO) : Wd := { W with H := upd W.H p o, P := fun a => W.P a ∨ a = p }
theorem Grow.newP {W : Wd} {p : Addr} (o : HO) (s : Sep W []) (hp : W.H p = none) : Grow W (W.putP p o) [] := by
  refine ⟨⟨fun a u h _ => by show upd W.H p o a = some u; rw [upd_ne (ne_of_none h hp)]; exact h, fun a h => .inl h, fun a h => (by cases h), fun a h => ?_, ⟨[], by simp⟩, rfl⟩, ⟨by simp, fun a h q => (by cases h), fun a q => ?_, fun a h => (by cases h)⟩, rfl⟩
  · rcases h with h | rfl
    · exact .inl h
    · exact .inr (.inr hp)
  · rcases q with q | rfl
    · obtain ⟨u, z⟩ := s.tk a q
      exact ⟨u, by show upd W.H p o a = some u; rw [upd_ne (ne_of_none z hp)]; exact z⟩
    · exact ⟨o, upd_same⟩
theorem stay_newP {W : Wd} {p : Addr} (o : HO) (F : List Addr) (hp : W.H p = none) : Stay W (W.putP p o) F :=
  ⟨fun a u _ h => by show upd W.H p o a = some u; rw [upd_ne (ne_of_none h hp)]; exact h, fun _ h => .inl h, ⟨[], by simp⟩, rfl⟩
end
end RB
end

section
set_option Elab.async false
set_option maxRecDepth 100000
namespace RB
open PySem L2

section
variable {W : Wd} {Q : VK} {x y : V} {d e r : D}
theorem rep_int {i : Int} (h : RepB W (.int i) x) : x = .int i := by obtain ⟨F, h⟩ := h; simp only [Rep] at h; exact h.1
theorem rep_bl {i : Bool} (h : RepB W (.bl i) x) : x = .bl i := by obtain ⟨F, h⟩ := h; simp only [Rep] at h; exact h.1
theorem rep_str {i : Str} (h : RepB W (.str i) x) : x = .str i := by obtain ⟨F, h⟩ := h; simp only [Rep] at h; exact h.1
theorem rep_non (h : RepB W .non x) : x = .non := by obtain ⟨F, h⟩ := h; simp only [Rep] at h; exact h.1
theorem rep_lst {o : Bool} {xs : List D} (h : RepB W (.lst o xs) x) : ∃ a vs F, x = .ref a ∧ W.H a = some (.lst vs) ∧ RepL W xs vs F := by
  obtain ⟨F, h⟩ := h
  cases o with
  | true => simp only [Rep] at h; obtain ⟨a, vs, G, e, r, h, _⟩ := h; exact ⟨a, vs, G, e, r, h⟩
  | false => simp only [Rep] at h; obtain ⟨_, a, vs, e, _, r, h⟩ := h; exact ⟨a, vs, [], e, r, h⟩
theorem rep_tup {xs : List D} (h : RepB W (.tup xs) x) : ∃ a vs, x = .ref a ∧ W.H a = some (.tup vs) ∧ RepL W xs vs [] := by
  obtain ⟨F, h⟩ := h
  simp only [Rep] at h; obtain ⟨_, a, vs, e, _, r, h⟩ := h; exact ⟨a, vs, e, r, h⟩
theorem rep_dct {o : Bool} {xs : List (Key × D)} (h : RepB W (.dct o xs) x) : ∃ a vs F, x = .ref a ∧ W.H a = some (.dK vs) ∧ RepK W xs vs F := by
  obtain ⟨F, h⟩ := h
  cases o with
  | true => simp only [Rep] at h; obtain ⟨a, vs, G, e, r, h, _⟩ := h; exact ⟨a, vs, G, e, r, h⟩
  | false => simp only [Rep] at h; obtain ⟨_, a, vs, e, _, r, h⟩ := h; exact ⟨a, vs, [], e, r, h⟩
theorem rep_ins {o : Bool} {c : Nat} {xs : List (Str × D)} (h : RepB W (.ins o c xs) x) : ∃ a dx vs F, x = .ref a ∧ W.H a = some (.ins (W.st.ca c) dx vs) ∧ RepF W xs vs F := by
  obtain ⟨F, h⟩ := h
  cases o with
  | true => simp only [Rep] at h; obtain ⟨a, dx, vs, G, e, r, h, _⟩ := h; exact ⟨a, dx, vs, G, e, r, h⟩
  | false => simp only [Rep] at h; obtain ⟨_, a, dx, vs, e, _, r, h⟩ := h; exact ⟨a, dx, vs, [], e, r, h⟩
theorem rep_scr {ns : List Int} (h : RepB W (.scr ns) x) : ∃ a, x = .ref a ∧ SqL W.st.K W.H a (ns.map V.int) := by
  obtain ⟨F, h⟩ := h
  simp only [Rep] at h; obtain ⟨_, a, e, h⟩ := h
  exact ⟨a, e, h.imp (fun z => z.2) fun z => z⟩
theorem Rep.mkInt (i : Int) : Rep W (.int i) (.int i) [] := by simp only [Rep]; exact ⟨trivial, trivial⟩
theorem Rep.mkBl (i : Bool) : Rep W (.bl i) (.bl i) [] := by simp only [Rep]; exact ⟨trivial, trivial⟩
theorem Rep.mkStr {i : Str} (h : okS i) : Rep W (.str i) (.str i) [] := by simp only [Rep]; exact ⟨trivial, trivial, h⟩
theorem rep_ok {i : Str} {x : V} (h : RepB W (.str i) x) : okS i := by obtain ⟨F, h⟩ := h; simp only [Rep] at h; exact h.2.2
theorem Rep.mkNon : Rep W .non .non [] := by simp only [Rep]; exact ⟨trivial, trivial⟩
/-- a new list of what owns nothing -/
theorem Rep.mkLst {xs : List D} {vs : List V} {p : Addr} (hp : W.H p = none) (h : RepL W xs vs []) : Rep (W.put p (.lst vs)) (.lst true xs) (.ref p) [p] := by
  simp only [Rep]
  exact ⟨p, vs, [], rfl, upd_same, RepL.frame xs h (stay_new _ _ hp), .refl _⟩
theorem Rep.mkDct {xs : List (Key × D)} {vs : List (Key × V)} {p : Addr} (hp : W.H p = none) (h : RepK W xs vs []) : Rep (W.put p (.dK vs)) (.dct true xs) (.ref p) [p] := by
  simp only [Rep]
  exact ⟨p, vs, [], rfl, upd_same, RepK.frame _ h (stay_new _ _ hp), .refl _⟩
theorem RepK.free0 {xs : List (Key × D)} {vs : List (Key × V)} {F : List Addr} (h : RepK W xs vs F) (f : D.freeK xs = true) : RepK W xs vs [] := by
  have := RepK.free xs h f
  rw [this] at h; exact h
theorem Rep.mkTup {xs : List D} {vs : List V} {p : Addr} (hp : W.H p = none) (h : RepL W xs vs []) : Rep (W.putP p (.tup vs)) (.tup xs) (.ref p) [] := by
  simp only [Rep]
  exact ⟨trivial, p, vs, rfl, .inr rfl, upd_same, RepL.frame xs h (stay_newP _ _ hp)⟩
theorem RepL.free0 {xs : List D} {vs : List V} {F : List Addr} (h : RepL W xs vs F) (f : D.freeL xs = true) : RepL W xs vs [] := by
  have := RepL.free xs h f; subst this; exact h
theorem freeL_app : ∀ {xs ys : List D}, D.freeL (xs ++ ys) = (D.freeL xs && D.freeL ys)
  | [], ys => by simp [D.freeL]
  | x :: xs, ys => by simp [D.freeL, freeL_app, Bool.and_assoc]
theorem freeL_ints : ∀ (l : List Int), D.freeL (l.map D.int) = true
  | [] => rfl
  | x :: l => by simp [D.freeL, D.free, freeL_ints l]
theorem freeL_strs : ∀ (l : List Str), D.freeL (l.map D.str) = true
  | [] => rfl
  | x :: l => by simp [D.freeL, D.free, freeL_strs l]
theorem repL_ints : ∀ (l : List Int), RepL W (l.map D.int) (l.map V.int) []
  | [] => by simp [RepL]
  | x :: l => by simp only [List.map_cons, RepL]; exact ⟨_, _, [], [], rfl, Rep.mkInt x, repL_ints l, .nil⟩
theorem repL_strs : ∀ (l : List Str), (∀ x ∈ l, okS x) → RepL W (l.map D.str) (l.map V.str) []
  | [], _ => by simp [RepL]
  | x :: l, h => by simp only [List.map_cons, RepL]; exact ⟨_, _, [], [], rfl, Rep.mkStr (h x List.mem_cons_self), repL_strs l (fun y hy => h y (List.mem_cons_of_mem _ hy)), .nil⟩
theorem repL_oks : ∀ {l : List Str} {vs : List V} {F : List Addr}, RepL W (l.map D.str) vs F → ∀ x ∈ l, okS x
  | [], vs, F, h => fun x hx => by cases hx
  | y :: l, vs, F, h => fun x hx => by
    simp only [List.map_cons, RepL] at h
    obtain ⟨v, ws, F1, F2, rfl, h1, h2, _⟩ := h
    rcases List.mem_cons.mp hx with rfl | hx
    · exact rep_ok ⟨_, h1⟩
    · exact repL_oks h2 x hx
theorem intsD_some : ∀ {xs : List D} {l : List Int}, intsD xs = some l → xs = l.map D.int
  | [], l, h => by simp [intsD] at h; subst h; rfl
  | d :: xs, l, h => by
    cases d with
    | int i =>
      simp only [intsD, Option.map_eq_some_iff] at h
      obtain ⟨l', h1, rfl⟩ := h
      rw [intsD_some h1]; rfl
    | _ => simp [intsD] at h
theorem strsD_some : ∀ {xs : List D} {l : List Str}, strsD xs = some l → xs = l.map D.str
  | [], l, h => by simp [strsD] at h; subst h; rfl
  | d :: xs, l, h => by
    cases d with
    | str i =>
      simp only [strsD, Option.map_eq_some_iff] at h
      obtain ⟨l', h1, rfl⟩ := h
      rw [strsD_some h1]; rfl
    | _ => simp [strsD] at h
theorem blsD_some : ∀ {xs : List D} {l : List Bool}, blsD xs = some l → xs = l.map D.bl
  | [], l, h => by simp [blsD] at h; subst h; rfl
  | d :: xs, l, h => by
    cases d with
    | bl i =>
      simp only [blsD, Option.map_eq_some_iff] at h
      obtain ⟨l', h1, rfl⟩ := h
      rw [blsD_some h1]; rfl
    | _ => simp [blsD] at h
theorem repL_ints_eq : ∀ {l : List Int} {vs : List V} {F : List Addr}, RepL W (l.map D.int) vs F → vs = l.map V.int
  | [], vs, F, h => by simp only [List.map_nil, RepL] at h; exact h.1
  | x :: l, vs, F, h => by
    simp only [List.map_cons, RepL] at h
    obtain ⟨v, ws, F1, F2, rfl, h1, h2, _⟩ := h
    rw [rep_int ⟨_, h1⟩, repL_ints_eq h2]; rfl
theorem repL_strs_eq : ∀ {l : List Str} {vs : List V} {F : List Addr}, RepL W (l.map D.str) vs F → vs = l.map V.str
  | [], vs, F, h => by simp only [List.map_nil, RepL] at h; exact h.1
  | x :: l, vs, F, h => by
    simp only [List.map_cons, RepL] at h
    obtain ⟨v, ws, F1, F2, rfl, h1, h2, _⟩ := h
    rw [rep_str ⟨_, h1⟩, repL_strs_eq h2]; rfl
theorem repL_bls_eq : ∀ {l : List Bool} {vs : List V} {F : List Addr}, RepL W (l.map D.bl) vs F → vs = l.map V.bl
  | [], vs, F, h => by simp only [List.map_nil, RepL] at h; exact h.1
  | x :: l, vs, F, h => by
    simp only [List.map_cons, RepL] at h
    obtain ⟨v, ws, F1, F2, rfl, h1, h2, _⟩ := h
    rw [rep_bl ⟨_, h1⟩, repL_bls_eq h2]; rfl
theorem RepL.drop {ds : List D} {vs : List V} : ∀ (n : Nat), RepL W ds vs [] → RepL W (ds.drop n) (vs.drop n) [] := by
  intro n
  induction n generalizing ds vs with
  | zero => intro h; simpa using h
  | succ n ih =>
    intro h
    cases ds with
    | nil => simp only [RepL] at h; rw [h.1]; simp [RepL]
    | cons d ds =>
      simp only [RepL] at h
      obtain ⟨v, ws, F1, F2, rfl, h1, h2, pm⟩ := h
      have := pm.symm.eq_nil
      simp only [List.append_eq_nil_iff] at this
      rw [this.2] at h2
      simpa using ih h2
theorem RepL.take {ds : List D} {vs : List V} : ∀ (n : Nat), RepL W ds vs [] → RepL W (ds.take n) (vs.take n) [] := by
  intro n
  induction n generalizing ds vs with
  | zero => intro h; simp [RepL]
  | succ n ih =>
    intro h
    cases ds with
    | nil => simp only [RepL] at h; rw [h.1]; simp [RepL]
    | cons d ds =>
      simp only [RepL] at h
      obtain ⟨v, ws, F1, F2, rfl, h1, h2, pm⟩ := h
      have := pm.symm.eq_nil
      simp only [List.append_eq_nil_iff] at this
      rw [this.2] at h2
      rw [this.1] at h1
      simp only [List.take_succ_cons, RepL]
      exact ⟨v, _, [], [], rfl, h1, ih h2, .nil⟩
theorem RepL.cut {ds : List D} {vs : List V} {lo hi : Option Int} (h : RepL W ds vs []) : RepL W (cutD ds lo hi) (cutV vs lo hi) [] := by
  unfold cutD cutV
  rw [RepL.len h]
  exact (h.drop _).take _

/-! ### + - * // % ** << -/
def opOf : BOp → Operator
  | .add => .Add | .sub => .Sub | .mul => .Mult | .fdiv => .FloorDiv | .mod => .Mod | .pow => .Pow | .shl => .LShift
theorem szl : sizeLine = 16777216 := sizeLine_eq
theorem op_bin {X : Cx} {op : BOp} (hx : RepB W d x) (hy : RepB W e y) (h : binD op d e = some r) (s : Sep W []) (q : ∀ v W' F, Grow W W' F → Rep W' r v F → Q v W'.H) :
    ∃ rr, OpR X (binaryOp (opOf op)) rr ∧ rr x y W.H Q := by
  unfold binD at h
  split at h
  all_goals first
    | (rename_i i j; cases h; cases rep_int hx; cases rep_int hy; first
        | exact ⟨_, op_add, i, j, rfl, rfl, q _ W [] (.refl s) (.mkInt _)⟩
        | exact ⟨_, op_sub, i, j, rfl, rfl, q _ W [] (.refl s) (.mkInt _)⟩)
    | skip
  · rename_i i j
    split at h
    · rename_i hc
      cases h; cases rep_int hx; cases rep_int hy
      refine ⟨_, op_mul, i, j, rfl, rfl, ?_, q _ W [] (.refl s) (.mkInt _)⟩
      simpa [small64, CMul] using hc
    · cases h
  · rename_i i j
    split at h
    · rename_i hc
      cases h; cases rep_int hx; cases rep_int hy
      refine ⟨_, op_fdivN, i, j, rfl, rfl, ?_, q _ W [] (.refl s) (.mkInt _)⟩
      simpa [CDivN] using hc
    · cases h
  · rename_i i j
    split at h
    · rename_i hc
      cases h; cases rep_int hx; cases rep_int hy
      refine ⟨_, op_modN, i, j, rfl, rfl, ?_, q _ W [] (.refl s) (.mkInt _)⟩
      simpa using hc
    · cases h
  · rename_i i j
    split at h
    · rename_i hc
      cases h; cases rep_int hx; cases rep_int hy
      refine ⟨_, op_pow, i, j, rfl, rfl, ?_, q _ W [] (.refl s) (.mkInt _)⟩
      simp only [Bool.and_eq_true, decide_eq_true_eq] at hc
      exact ⟨hc.1.1, hc.1.2, hc.2⟩
    · cases h
  · rename_i i j
    split at h
    · rename_i hc
      cases h; cases rep_int hx; cases rep_int hy
      refine ⟨_, op_shl, i, j, rfl, rfl, ?_, q _ W [] (.refl s) (.mkInt _)⟩
      simp only [Bool.and_eq_true, decide_eq_true_eq] at hc
      exact ⟨hc.1.1, hc.1.2, hc.2⟩
    · cases h
  · rename_i i j
    split at h
    · rename_i hc
      have o1 := rep_ok hx
      have o2 := rep_ok hy
      cases h; cases rep_str hx; cases rep_str hy
      exact ⟨_, op_add_str, i, j, rfl, rfl, by rw [szl]; exact hc, q _ W [] (.refl s) (.mkStr (okS_app o1 o2))⟩
    · cases h
  · rename_i o1 xs o2 ys
    split at h
    · rename_i hc
      cases h
      simp only [Bool.and_eq_true, decide_eq_true_eq] at hc
      obtain ⟨a, vs, F, rfl, r1, h1⟩ := rep_lst hx
      obtain ⟨b, us, F', rfl, r2, h2⟩ := rep_lst hy
      have l1 := h1.len
      have l2 := h2.len
      refine ⟨_, op_cat, a, b, vs, us, rfl, rfl, r1, r2, by rw [szl, l1, l2]; exact hc.2, fun p hp => q _ (W.put p _) [p] (.new _ s hp) (Rep.mkLst hp ?_)⟩
      exact RepL.app (RepL.free0 h2 hc.1.2) (RepL.free0 h1 hc.1.1)
    · cases h
  · rename_i o1 xs k
    split at h
    · rename_i hc
      cases h
      simp only [Bool.and_eq_true, decide_eq_true_eq] at hc
      obtain ⟨a, vs, F, rfl, r1, h1⟩ := rep_lst hx
      cases rep_int hy
      have l1 := h1.len
      refine ⟨_, op_rep, a, k, vs, rfl, rfl, r1, hc.1.1.2, hc.1.2, by rw [szl, l1]; exact hc.2, fun p hp => ?_⟩
      have hr : ∀ n : Nat, RepL W (List.replicate n xs).flatten (List.replicate n vs).flatten [] := fun n => by
        induction n with
        | zero => simp [RepL]
        | succ n ih => simpa [List.replicate_succ] using RepL.app ih (RepL.free0 h1 hc.1.1.1)
      exact q _ (W.put p _) [p] (.new _ s hp) (Rep.mkLst hp (hr _))
    · cases h
  · cases h
end
end RB
end

section
set_option Elab.async false
set_option maxRecDepth 100000
namespace RB
open PySem L2

section
variable {W : Wd} {Q : VK} {x y : V} {d e r : D}
/-! ### == of data -/
mutual
theorem Rep.dp {K : PySem.W.Frag} : ∀ (d : D) {v : V} {F : List Addr} {p : PyData}, Rep W d v F → toPy d = some p → Dp K W.H v p
  | .non, v, F, p, h, e => by simp only [toPy, Option.some.injEq] at e; subst e; rw [rep_non ⟨_, h⟩]; exact .non
  | .bl b, v, F, p, h, e => by simp only [toPy, Option.some.injEq] at e; subst e; rw [rep_bl ⟨_, h⟩]; exact .bl b
  | .int b, v, F, p, h, e => by simp only [toPy, Option.some.injEq] at e; subst e; rw [rep_int ⟨_, h⟩]; exact .int b
  | .str b, v, F, p, h, e => by simp only [toPy, Option.some.injEq] at e; subst e; rw [rep_str ⟨_, h⟩]; exact .str b
  | .tup xs, v, F, p, h, e => by
    simp only [toPy, Option.map_eq_some_iff] at e
    obtain ⟨ps, e, rfl⟩ := e
    obtain ⟨a, vs, rfl, r, h⟩ := rep_tup ⟨_, h⟩
    exact .tup (SqT.of r) (RepL.dp xs h e)
  | .lst true xs, v, F, p, h, e => by
    simp only [toPy, Option.map_eq_some_iff] at e
    obtain ⟨ps, e, rfl⟩ := e
    simp only [Rep] at h
    obtain ⟨a, vs, G, rfl, r, h, _⟩ := h
    exact .lst (SqL.of r) (RepL.dp xs h e)
  | .lst false xs, v, F, p, h, e => by
    simp only [toPy, Option.map_eq_some_iff] at e
    obtain ⟨ps, e, rfl⟩ := e
    simp only [Rep] at h
    obtain ⟨_, a, vs, rfl, _, r, h⟩ := h
    exact .lst (SqL.of r) (RepL.dp xs h e)
  | .dct _ _, v, F, p, h, e => by simp [toPy] at e
  | .ins _ _ _, v, F, p, h, e => by simp [toPy] at e
  | .link _, v, F, p, h, e => by simp [toPy] at e
  | .scr _, v, F, p, h, e => by simp [toPy] at e
theorem RepL.dp {K : PySem.W.Frag} : ∀ (ds : List D) {vs : List V} {F : List Addr} {ps : List PyData}, RepL W ds vs F → toPyL ds = some ps → DpAll K W.H vs ps
  | [], vs, F, ps, h, e => by
    simp only [toPyL, Option.some.injEq] at e
    simp only [RepL] at h
    subst e; rw [h.1]; exact .nil
  | d :: ds, vs, F, ps, h, e => by
    simp only [toPyL, Option.bind_eq_some_iff, Option.map_eq_some_iff] at e
    obtain ⟨p, e1, qs, e2, rfl⟩ := e
    simp only [RepL] at h
    obtain ⟨v, ws, F1, F2, rfl, h1, h2, _⟩ := h
    exact .cons (Rep.dp d h1 e1) (RepL.dp ds h2 e2)
end
/-! ### in -/
theorem flat_of (f : flatD d = true) (h : RepB W d x) : flatV x = true := by
  cases d with
  | non => rw [rep_non h]; rfl
  | bl b => rw [rep_bl h]; rfl
  | int b => rw [rep_int h]; rfl
  | str b => rw [rep_str h]; rfl
  | _ => simp [flatD] at f
theorem eqF_of (f : flatD d = true) (f' : flatD e = true) (h : RepB W d x) (h' : RepB W e y) : eqV x y = eqF d e := by
  cases d with
  | non =>
    rw [rep_non h]
    cases e with
    | non => rw [rep_non h']; rfl
    | bl b => rw [rep_bl h']; rfl
    | int b => rw [rep_int h']; rfl
    | str b => rw [rep_str h']; rfl
    | _ => simp [flatD] at f'
  | bl b =>
    rw [rep_bl h]
    cases e with
    | non => rw [rep_non h']; rfl
    | bl b => rw [rep_bl h']; rfl
    | int b => rw [rep_int h']; rfl
    | str b => rw [rep_str h']; rfl
    | _ => simp [flatD] at f'
  | int b =>
    rw [rep_int h]
    cases e with
    | non => rw [rep_non h']; rfl
    | bl b => rw [rep_bl h']; rfl
    | int b => rw [rep_int h']; rfl
    | str b => rw [rep_str h']; rfl
    | _ => simp [flatD] at f'
  | str b =>
    rw [rep_str h]
    cases e with
    | non => rw [rep_non h']; rfl
    | bl b => rw [rep_bl h']; rfl
    | int b => rw [rep_int h']; rfl
    | str b => rw [rep_str h']; rfl
    | _ => simp [flatD] at f'
  | _ => simp [flatD] at f
theorem RepL.flat : ∀ {ds : List D} {vs : List V} {F : List Addr}, RepL W ds vs F → ds.all flatD = true → vs.all flatV = true
  | [], vs, F, h, f => by simp only [RepL] at h; rw [h.1]; rfl
  | d :: ds, vs, F, h, f => by
    simp only [RepL] at h
    obtain ⟨v, ws, F1, F2, rfl, h1, h2, _⟩ := h
    simp only [List.all_cons, Bool.and_eq_true] at f ⊢
    exact ⟨flat_of f.1 ⟨_, h1⟩, RepL.flat h2 f.2⟩
theorem RepL.inV (f' : flatD e = true) (he : RepB W e y) : ∀ {ds : List D} {vs : List V} {F : List Addr}, RepL W ds vs F → ds.all flatD = true → L2.inV y vs = ds.any fun z => eqF z e
  | [], vs, F, h, f => by simp only [RepL] at h; rw [h.1]; rfl
  | d :: ds, vs, F, h, f => by
    simp only [RepL] at h
    obtain ⟨v, ws, F1, F2, rfl, h1, h2, _⟩ := h
    simp only [List.all_cons, Bool.and_eq_true] at f
    have := RepL.inV f' he h2 f.2
    simp only [L2.inV] at this
    simp only [L2.inV, List.any_cons, eqF_of f.1 f' ⟨_, h1⟩ he, this]
theorem lookP_valV {k : Key} : ∀ (l : List (Key × V)), valV l k = lookP l k
  | [] => rfl
  | (a, b) :: l => by
    by_cases h : a = k
    · rw [valV_pos (p := (a, b)) h]; simp [lookP, h]
    · rw [valV_neg (p := (a, b)) h, lookP_valV l]; simp [lookP, h]
theorem RepK.look {k : Key} {ds : List (Key × D)} {vs : List (Key × V)} {F : List Addr} (h : RepK W ds vs F) : (valV vs k).isSome = (lookP ds k).isSome := by
  rw [lookP_valV]
  cases q : lookP ds k with
  | none => rw [RepK.no h q]; rfl
  | some d => obtain ⟨v, _, _, e, _⟩ := RepK.at h q; rw [e]; rfl
theorem keyOf_kV {k : Key} (h : keyOf d = some k) (hx : RepB W d x) : x = kV k := by
  cases d with
  | int i => simp only [keyOf, Option.some.injEq] at h; subst h; exact rep_int hx
  | str i => simp only [keyOf, Option.some.injEq] at h; subst h; exact rep_str hx
  | _ => simp [keyOf] at h
theorem op_din {X : Cx} (hu : X.A.units + 1 < cLine) : OpR X (compareOp .In) (fun y x H Q => ∃ a o, x = .ref a ∧ DGet H a y o ∧ Q (.bl o.isSome) H) := by
  intro pins s σ H y x iv u Q I ry rx h
  obtain ⟨a, ov, ex, g, q⟩ := h
  subst ex
  obtain rfl : u = Value.ref a := rx
  exact d_in hu I g ry fun s3 I3 => ⟨.bl ov.isSome, H, I3, rfl, q⟩
theorem op_dnotin {X : Cx} (hu : X.A.units + 1 < cLine) : OpR X (compareOp .NotIn) (fun y x H Q => ∃ a o, x = .ref a ∧ DGet H a y o ∧ Q (.bl (!o.isSome)) H) := by
  intro pins s σ H y x iv u Q I ry rx h
  obtain ⟨a, ov, ex, g, q⟩ := h
  subst ex
  obtain rfl : u = Value.ref a := rx
  exact d_notIn hu I g ry fun s3 I3 => ⟨.bl (!ov.isSome), H, I3, rfl, q⟩
def copOf : COp → CmpOp
  | .eq => .Eq | .ne => .NotEq | .lt => .Lt | .le => .LtE | .gt => .Gt | .ge => .GtE | .isIn => .In | .notIn => .NotIn
theorem str_one {a : Str} {c : Nat} (h : a.cps.toList = [c]) : a = ⟨#[c]⟩ := by
  apply TL.ext_tl
  exact h
theorem op_in_any {X : Cx} {b : Bool} (hu : X.A.units + 64 < cLine) (hx : RepB W d x) (hy : RepB W e y) (h : inD d e = some b) : (∃ rr, OpR X (compareOp .In) rr ∧ ∀ Q : VK, Q (.bl b) W.H → rr x y W.H Q) ∧ (∃ rr, OpR X (compareOp .NotIn) rr ∧ ∀ Q : VK, Q (.bl (!b)) W.H → rr x y W.H Q) := by
  have hu1 : X.A.units + 1 < cLine := by omega
  unfold inD at h
  split at h
  · rename_i o ys
    split at h
    · rename_i hc
      simp only [Bool.and_eq_true] at hc
      cases h
      obtain ⟨a, vs, F, rfl, r1, h1⟩ := rep_lst hy
      have e1 := h1.inV hc.1 hx hc.2
      refine ⟨⟨_, op_in_seq, fun Q q => ⟨a, vs, rfl, .inl (SqL.of r1), flat_of hc.1 hx, h1.flat hc.2, ?_⟩⟩, ⟨_, op_notIn_seq, fun Q q => ⟨a, vs, rfl, .inl (SqL.of r1), flat_of hc.1 hx, h1.flat hc.2, ?_⟩⟩⟩
      · rw [e1]; exact q
      · rw [e1]; exact q
    · cases h
  · rename_i ys
    split at h
    · rename_i hc
      simp only [Bool.and_eq_true] at hc
      cases h
      obtain ⟨a, vs, rfl, r1, h1⟩ := rep_tup hy
      have e1 := h1.inV hc.1 hx hc.2
      refine ⟨⟨_, op_in_seq, fun Q q => ⟨a, vs, rfl, .inr (SqT.of r1), flat_of hc.1 hx, h1.flat hc.2, ?_⟩⟩, ⟨_, op_notIn_seq, fun Q q => ⟨a, vs, rfl, .inr (SqT.of r1), flat_of hc.1 hx, h1.flat hc.2, ?_⟩⟩⟩
      · rw [e1]; exact q
      · rw [e1]; exact q
    · cases h
  · rename_i o kvs
    simp only [Option.map_eq_some_iff] at h
    obtain ⟨k, hk, rfl⟩ := h
    obtain ⟨a, vs, F, rfl, r1, h1⟩ := rep_dct hy
    have ex := keyOf_kV hk hx
    subst ex
    refine ⟨⟨_, op_din hu1, fun Q q => ⟨a, _, rfl, DGet.k r1, ?_⟩⟩, ⟨_, op_dnotin hu1, fun Q q => ⟨a, _, rfl, DGet.k r1, ?_⟩⟩⟩
    · rw [h1.look]; exact q
    · rw [h1.look]; exact q
  · rename_i a b'
    split at h
    · rename_i c hc
      cases h
      cases rep_str hx
      cases rep_str hy
      have ea := str_one hc
      subst ea
      exact ⟨⟨_, op_in_sign, fun Q q => ⟨c, b', rfl, rfl, q⟩⟩, ⟨_, op_notIn_sign, fun Q q => ⟨c, b', rfl, rfl, q⟩⟩⟩
    · cases h
  · cases h
mutual
theorem Rep.lay : ∀ (d : D) {v : V} {F : List Addr} {p : PyData}, Rep W d v F → toPy d = some p → p.canLay0 = true
  | .non, v, F, p, h, e => by simp only [toPy, Option.some.injEq] at e; subst e; rfl
  | .bl b, v, F, p, h, e => by simp only [toPy, Option.some.injEq] at e; subst e; rfl
  | .int b, v, F, p, h, e => by simp only [toPy, Option.some.injEq] at e; subst e; rfl
  | .str b, v, F, p, h, e => by
    simp only [toPy, Option.some.injEq] at e
    subst e
    simp only [Rep] at h
    have o := h.2.2
    simp only [PyData.canLay0, PyData.strOk]
    rw [← Array.all_toList, List.all_eq_true]
    exact fun c hc => decide_eq_true (o c hc)
  | .tup xs, v, F, p, h, e => by
    simp only [toPy, Option.map_eq_some_iff] at e
    obtain ⟨ps, e, rfl⟩ := e
    simp only [Rep] at h
    obtain ⟨_, a, vs, _, _, _, h⟩ := h
    simp only [PyData.canLay0]
    exact RepL.lay xs h e
  | .lst true xs, v, F, p, h, e => by
    simp only [toPy, Option.map_eq_some_iff] at e
    obtain ⟨ps, e, rfl⟩ := e
    simp only [Rep] at h
    obtain ⟨a, vs, G, _, _, h, _⟩ := h
    simp only [PyData.canLay0]
    exact RepL.lay xs h e
  | .lst false xs, v, F, p, h, e => by
    simp only [toPy, Option.map_eq_some_iff] at e
    obtain ⟨ps, e, rfl⟩ := e
    simp only [Rep] at h
    obtain ⟨_, a, vs, _, _, _, h⟩ := h
    simp only [PyData.canLay0]
    exact RepL.lay xs h e
  | .dct _ _, v, F, p, h, e => by simp [toPy] at e
  | .ins _ _ _, v, F, p, h, e => by simp [toPy] at e
  | .link _, v, F, p, h, e => by simp [toPy] at e
  | .scr _, v, F, p, h, e => by simp [toPy] at e
theorem RepL.lay : ∀ (ds : List D) {vs : List V} {F : List Addr} {ps : List PyData}, RepL W ds vs F → toPyL ds = some ps → PyData.canLayAll0 ps = true
  | [], vs, F, ps, h, e => by simp only [toPyL, Option.some.injEq] at e; subst e; rfl
  | d :: ds, vs, F, ps, h, e => by
    simp only [toPyL, Option.bind_eq_some_iff, Option.map_eq_some_iff] at e
    obtain ⟨p, e1, ps', e2, rfl⟩ := e
    simp only [RepL] at h
    obtain ⟨v, ws, F1, F2, _, h1, h2, _⟩ := h
    simp only [PyData.canLayAll0, Rep.lay d h1 e1, RepL.lay ds h2 e2, Bool.and_self]
end
theorem shaped_of {p : PyData} (h : p.canLay0 = true) (h2 : decide (p.depth ≤ 64) = true) : SeqAt.shaped p = true := by
  unfold SeqAt.shaped
  rw [h, h2]; rfl
theorem op_cmp {X : Cx} {op : COp} {b : Bool} (hu : X.A.units + 64 < cLine) (hx : RepB W d x) (hy : RepB W e y) (h : cmpD op d e = some b) : ∃ rr, OpR X (compareOp (copOf op)) rr ∧ ∀ Q : VK, Q (.bl b) W.H → rr x y W.H Q := by
  cases op with
  | eq =>
    simp only [cmpD, eqD, Option.bind_eq_some_iff] at h
    obtain ⟨p, e1, p', e2, h⟩ := h
    split at h
    · rename_i hc
      simp only [Bool.and_eq_true] at hc
      cases h
      obtain ⟨F, hx⟩ := hx
      obtain ⟨F', hy⟩ := hy
      exact ⟨_, op_eqD hu, fun Q q => ⟨p, p', Rep.dp _ hx e1, Rep.dp _ hy e2, shaped_of (Rep.lay _ hx e1) hc.1, shaped_of (Rep.lay _ hy e2) hc.2, q⟩⟩
    · cases h
  | ne =>
    simp only [cmpD, eqD, Option.map_eq_some_iff, Option.bind_eq_some_iff] at h
    obtain ⟨b', ⟨p, e1, p', e2, h⟩, rfl⟩ := h
    split at h
    · rename_i hc
      simp only [Bool.and_eq_true] at hc
      cases h
      obtain ⟨F, hx⟩ := hx
      obtain ⟨F', hy⟩ := hy
      exact ⟨_, op_neD hu, fun Q q => ⟨p, p', Rep.dp _ hx e1, Rep.dp _ hy e2, shaped_of (Rep.lay _ hx e1) hc.1, shaped_of (Rep.lay _ hy e2) hc.2, q⟩⟩
    · cases h
  | isIn => exact (op_in_any hu hx hy h).1
  | notIn =>
    simp only [cmpD, Option.map_eq_some_iff] at h
    obtain ⟨b', h, rfl⟩ := h
    exact (op_in_any hu hx hy h).2
  | lt =>
    simp only [cmpD] at h
    split at h
    · rename_i i j
      cases h; cases rep_int hx; cases rep_int hy
      exact ⟨_, op_lt, fun Q q => ⟨i, j, rfl, rfl, q⟩⟩
    · cases h
  | le =>
    simp only [cmpD] at h
    split at h
    · rename_i i j
      cases h; cases rep_int hx; cases rep_int hy
      exact ⟨_, op_le, fun Q q => ⟨i, j, rfl, rfl, q⟩⟩
    · cases h
  | gt =>
    simp only [cmpD] at h
    split at h
    · rename_i i j
      cases h; cases rep_int hx; cases rep_int hy
      exact ⟨_, op_gt, fun Q q => ⟨i, j, rfl, rfl, q⟩⟩
    · cases h
  | ge =>
    simp only [cmpD] at h
    split at h
    · rename_i i j
      cases h; cases rep_int hx; cases rep_int hy
      exact ⟨_, op_ge, fun Q q => ⟨i, j, rfl, rfl, q⟩⟩
    · cases h

/-! ### truth -/
theorem tru_of {K : PySem.W.Frag} {b : Bool} (h : truD d = some b) (hx : RepB W d x) : TruV K x W.H b := by
  cases d with
  | non => simp only [truD, Option.some.injEq] at h; rw [rep_non hx]; exact h.symm
  | bl c => simp only [truD, Option.some.injEq] at h; rw [rep_bl hx]; exact h.symm
  | int c => simp only [truD, Option.some.injEq] at h; rw [rep_int hx]; exact h.symm
  | str c =>
    simp only [truD] at h
    split at h
    · rename_i hc
      rw [rep_str hx]
      cases h
      refine ⟨by rw [szl]; exact hc, ?_⟩
      rw [Bool.eq_iff_iff]; simp
    · cases h
  | lst o xs =>
    simp only [truD, Option.some.injEq] at h
    obtain ⟨a, vs, F, rfl, r1, h1⟩ := rep_lst hx
    refine .inl ⟨vs, SqL.of r1, ?_⟩
    rw [← h]
    have := h1.len
    cases xs <;> cases vs <;> simp_all
  | tup xs =>
    simp only [truD, Option.some.injEq] at h
    obtain ⟨a, vs, rfl, r1, h1⟩ := rep_tup hx
    refine .inr (.inl ⟨vs, SqT.of r1, ?_⟩)
    rw [← h]
    have := h1.len
    cases xs <;> cases vs <;> simp_all
  | dct o xs =>
    simp only [truD, Option.some.injEq] at h
    obtain ⟨a, vs, F, rfl, r1, h1⟩ := rep_dct hx
    refine .inr (.inr ⟨vs, r1, ?_⟩)
    rw [← h]
    cases xs with
    | nil => simp only [RepK] at h1; rw [h1.1]; rfl
    | cons z zs => obtain ⟨k, d⟩ := z; simp only [RepK] at h1; obtain ⟨v, ws, F1, F2, rfl, _⟩ := h1; rfl
  | _ => simp [truD] at h
end
end RB
end

section
set_option Elab.async false
set_option maxRecDepth 100000
namespace RB
open PySem L2

section
variable {W : Wd} {Q : VK} {x y : V} {d e r : D} {ds : List D} {vs : List V}
theorem pair1 (h : Paired (RepB W) [d] vs) : ∃ x, vs = [x] ∧ RepB W d x := by
  cases h with
  | cons h1 h2 => cases h2; exact ⟨_, rfl, h1⟩
theorem pair2 (h : Paired (RepB W) [d, e] vs) : ∃ x y, vs = [x, y] ∧ RepB W d x ∧ RepB W e y := by
  cases h with
  | cons h1 h2 => cases h2 with | cons h2 h3 => cases h3; exact ⟨_, _, rfl, h1, h2⟩
/-! ### built-in functions -/
inductive BV where
  | b (id : String) | t (T : String)
def BV.val : BV → Value
  | .b id => .builtin id
  | .t T => .type T
def biV : Bi → BV
  | .len => .b "len" | .abs => .b "abs" | .min2 => .b "min" | .max2 => .b "max" | .sum => .b "sum" | .any => .b "any" | .all => .b "all" | .sorted => .b "sorted"
  | .str => .t "str" | .int => .t "int" | .list => .t "list" | .tuple => .t "tuple" | .dict => .t "dict"
theorem len_of {K : PySem.W.Frag} {n : Nat} (hK : K = W.st.K) (h : lenD d = some n) (hx : RepB W d x) : LenV K x W.H n ∨ ∃ a kvs, x = V.ref a ∧ W.H a = some (.dK kvs) ∧ kvs.length = n := by
  cases d with
  | str c =>
    simp only [lenD] at h
    split at h
    · rename_i hc
      cases h
      rw [rep_str hx]
      exact .inl ⟨by rw [szl]; exact hc, rfl⟩
    · cases h
  | lst o xs =>
    simp only [lenD, Option.some.injEq] at h
    obtain ⟨a, vs, F, rfl, r1, h1⟩ := rep_lst hx
    exact .inl (.inl ⟨vs, SqL.of r1, by rw [← h, h1.len]⟩)
  | tup xs =>
    simp only [lenD, Option.some.injEq] at h
    obtain ⟨a, vs, rfl, r1, h1⟩ := rep_tup hx
    exact .inl (.inr ⟨vs, SqT.of r1, by rw [← h, h1.len]⟩)
  | scr ns =>
    simp only [lenD, Option.some.injEq] at h
    obtain ⟨a, rfl, r1⟩ := rep_scr hx
    exact .inl (.inl ⟨_, by rw [hK]; exact r1, by rw [← h, List.length_map]⟩)
  | dct o xs =>
    simp only [lenD, Option.some.injEq] at h
    obtain ⟨a, vs, F, rfl, r1, h1⟩ := rep_dct hx
    refine .inr ⟨a, vs, rfl, r1, ?_⟩
    rw [← h]
    clear h hx r1
    induction xs generalizing vs F with
    | nil => simp only [RepK] at h1; rw [h1.1]; rfl
    | cons z zs ih => obtain ⟨k, d⟩ := z; simp only [RepK] at h1; obtain ⟨v, ws, F1, F2, rfl, _, h2, _⟩ := h1; simp [ih _ _ h2]
  | _ => simp [lenD] at h
theorem sortI_perm (l : List Int) : (sortI l).Perm l := List.mergeSort_perm _ _
theorem sortI_pair (l : List Int) : (sortI l).Pairwise (· ≤ ·) := by
  have := List.pairwise_mergeSort (le := fun a b : Int => decide (a ≤ b)) (by intro a b c; simp; omega) (by intro a b; simp; omega) l
  exact this.imp fun h => by simpa using h
theorem sortI_eq {l m : List Int} (p : m.Perm l) (s : m.Pairwise (· ≤ ·)) : m = sortI l :=
  List.Perm.eq_of_pairwise (fun a b _ _ h1 h2 => Int.le_antisymm h1 h2) s (sortI_pair l) (p.trans (sortI_perm l).symm)
theorem repK_keys : ∀ {xs : List (Key × D)} {vs : List (Key × V)} {F : List Addr}, RepK W xs vs F → RepL W (xs.map fun p => match p.1 with | .inl i => D.int i | .inr s => D.str s) (vs.map fun kv => kV kv.1) []
  | [], vs, F, h => by simp only [RepK] at h; rw [h.1]; simp [RepL]
  | (k, d) :: xs, vs, F, h => by
    simp only [RepK] at h
    obtain ⟨v, ws, F1, F2, rfl, h1, h2, _, ok⟩ := h
    simp only [List.map_cons, RepL]
    refine ⟨_, _, [], [], rfl, ?_, repK_keys h2, .nil⟩
    cases k with
    | inl i => exact Rep.mkInt i
    | inr i => exact Rep.mkStr ok.1
theorem cr_bi {X : Cx} {b : Bi} (hK : X.K = W.st.K) (hc : X.calm = true) (hv : Paired (RepB W) ds vs) (h : biD b ds = some r) (s : Sep W []) (q : ∀ v W' F, Grow W W' F → Rep W' r v F → Q v W'.H) :
    ∃ rr, CallR X (biV b).val rr ∧ rr vs W.H Q := by
  unfold biD at h
  split at h
  · rename_i d
    obtain ⟨x, rfl, hx⟩ := pair1 hv
    simp only [Option.map_eq_some_iff] at h
    obtain ⟨n, hn, rfl⟩ := h
    rcases len_of hK hn hx with z | ⟨a, kvs, rfl, r1, rfl⟩
    · exact ⟨_, call_len, x, n, rfl, z, q _ W [] (.refl s) (.mkInt _)⟩
    · exact ⟨_, call_lenD, a, kvs, rfl, r1, q _ W [] (.refl s) (.mkInt _)⟩
  · rename_i i
    obtain ⟨x, rfl, hx⟩ := pair1 hv
    cases rep_int hx; cases h
    exact ⟨_, call_abs, i, rfl, q _ W [] (.refl s) (.mkInt _)⟩
  · rename_i i j
    obtain ⟨x, y, rfl, hx, hy⟩ := pair2 hv
    cases rep_int hx; cases rep_int hy; cases h
    exact ⟨_, call_min2 hc, i, j, rfl, q _ W [] (.refl s) (.mkInt _)⟩
  · rename_i i j
    obtain ⟨x, y, rfl, hx, hy⟩ := pair2 hv
    cases rep_int hx; cases rep_int hy; cases h
    exact ⟨_, call_max2 hc, i, j, rfl, q _ W [] (.refl s) (.mkInt _)⟩
  · rename_i o xs
    obtain ⟨x, rfl, hx⟩ := pair1 hv
    simp only [Option.map_eq_some_iff] at h
    obtain ⟨l, hl, rfl⟩ := h
    obtain ⟨a, us, F, rfl, r1, h1⟩ := rep_lst hx
    cases intsD_some hl
    cases repL_ints_eq h1
    exact ⟨_, cr_sum hc, a, l, rfl, SqL.of r1, q _ W [] (.refl s) (.mkInt _)⟩
  · rename_i o xs
    obtain ⟨x, rfl, hx⟩ := pair1 hv
    simp only [Option.map_eq_some_iff] at h
    obtain ⟨l, hl, rfl⟩ := h
    obtain ⟨a, us, F, rfl, r1, h1⟩ := rep_lst hx
    cases blsD_some hl
    cases repL_bls_eq h1
    exact ⟨_, cr_any hc, a, l, rfl, SqL.of r1, q _ W [] (.refl s) (.mkBl _)⟩
  · rename_i o xs
    obtain ⟨x, rfl, hx⟩ := pair1 hv
    simp only [Option.map_eq_some_iff] at h
    obtain ⟨l, hl, rfl⟩ := h
    obtain ⟨a, us, F, rfl, r1, h1⟩ := rep_lst hx
    cases blsD_some hl
    cases repL_bls_eq h1
    exact ⟨_, cr_all hc, a, l, rfl, SqL.of r1, q _ W [] (.refl s) (.mkBl _)⟩
  · rename_i i
    obtain ⟨x, rfl, hx⟩ := pair1 hv
    split at h
    · rename_i hz
      cases rep_int hx; cases h
      exact ⟨_, call_str_int, i, rfl, hz, q _ W [] (.refl s) (.mkStr (okS_ofString _))⟩
    · cases h
  · rename_i i
    obtain ⟨x, rfl, hx⟩ := pair1 hv
    cases rep_int hx; cases h
    exact ⟨_, call_int1, .inl ⟨i, rfl, q _ W [] (.refl s) (.mkInt _)⟩⟩
  · rename_i k
    obtain ⟨x, rfl, hx⟩ := pair1 hv
    cases rep_bl hx; cases h
    exact ⟨_, call_int1, .inr ⟨k, rfl, q _ W [] (.refl s) (.mkInt _)⟩⟩
  · rename_i a
    obtain ⟨x, rfl, hx⟩ := pair1 hv
    split at h
    · rename_i hz
      simp only [Option.map_eq_some_iff] at h
      obtain ⟨n, hn, rfl⟩ := h
      cases rep_str hx
      exact ⟨_, call_int_str, a, n, rfl, hn, hz, q _ W [] (.refl s) (.mkInt _)⟩
    · cases h
  · rename_i o xs
    obtain ⟨x, rfl, hx⟩ := pair1 hv
    split at h
    · rename_i hz
      cases h
      obtain ⟨a, us, F, rfl, r1, h1⟩ := rep_lst hx
      exact ⟨_, call_list_of, a, us, rfl, .inl (SqL.of r1), fun p hp => q _ (W.put p _) [p] (.new _ s hp) (Rep.mkLst hp (h1.free0 hz))⟩
    · cases h
  · rename_i xs
    obtain ⟨x, rfl, hx⟩ := pair1 hv
    cases h
    obtain ⟨a, us, rfl, r1, h1⟩ := rep_tup hx
    exact ⟨_, call_list_of, a, us, rfl, .inr (SqT.of r1), fun p hp => q _ (W.put p _) [p] (.new _ s hp) (Rep.mkLst hp h1)⟩
  · rename_i ns
    obtain ⟨x, rfl, hx⟩ := pair1 hv
    cases h
    obtain ⟨a, rfl, r1⟩ := rep_scr hx
    exact ⟨_, call_list_of, a, _, rfl, .inl (by rw [hK]; exact r1), fun p hp => q _ (W.put p _) [p] (.new _ s hp) (Rep.mkLst hp (repL_ints ns))⟩
  · rename_i o xs
    obtain ⟨x, rfl, hx⟩ := pair1 hv
    cases h
    obtain ⟨a, us, F, rfl, r1, h1⟩ := rep_dct hx
    exact ⟨_, call_list_dK hc, a, us, rfl, r1, fun p hp => q _ (W.put p _) [p] (.new _ s hp) (Rep.mkLst hp (repK_keys h1))⟩
  · rename_i o xs
    obtain ⟨x, rfl, hx⟩ := pair1 hv
    split at h
    · rename_i hz
      cases h
      obtain ⟨a, us, F, rfl, r1, h1⟩ := rep_lst hx
      exact ⟨_, call_tuple_of, a, us, rfl, .inl ⟨SqL.of r1, fun p hp => q _ (W.putP p _) [] (.newP _ s hp) (Rep.mkTup hp (h1.free0 hz))⟩⟩
    · cases h
  · rename_i o xs
    obtain ⟨x, rfl, hx⟩ := pair1 hv
    simp only [Option.map_eq_some_iff] at h
    obtain ⟨l, hl, rfl⟩ := h
    obtain ⟨a, us, F, rfl, r1, h1⟩ := rep_lst hx
    cases intsD_some hl
    cases repL_ints_eq h1
    refine ⟨_, cr_sortedI, a, l, rfl, SqL.of r1, fun ns' p pm pw hp => ?_⟩
    cases sortI_eq pm pw
    exact q _ (W.put p _) [p] (.new _ s hp) (Rep.mkLst hp (repL_ints _))
  · rename_i o xs
    obtain ⟨x, rfl, hx⟩ := pair1 hv
    split at h
    · rename_i hz
      cases h
      obtain ⟨a, us, F, rfl, r1, h1⟩ := rep_dct hx
      exact ⟨_, call_dictD, a, us, rfl, .inl r1, fun p hp => q _ (W.put p _) [p] (.new _ s hp) (Rep.mkDct hp (h1.free0 hz))⟩
    · cases h
  · cases h

/-! ### built-in methods that read -/
def bmId : Bm → D → String × String
  | .join, _ => ("str", "str.join") | .split, _ => ("str", "str.split")
  | .index, .str _ => ("str", "str.index") | .index, _ => ("list", "list.index")
def bmName : Bm → Str
  | .join => "join" | .split => "split" | .index => "index"
theorem findI_some {y : D} : ∀ {xs : List D} {n : Nat}, findI y xs = some n → ∃ z, xs[n]? = some z ∧ eqF z y = true ∧ ∀ m z', m < n → xs[m]? = some z' → eqF z' y = false
  | [], n, h => by simp [findI] at h
  | x :: xs, n, h => by
    simp only [findI] at h
    split at h
    · rename_i hx
      cases h
      exact ⟨x, rfl, hx, fun m z' hm => by omega⟩
    · rename_i hx
      simp only [Option.map_eq_some_iff] at h
      obtain ⟨k, hk, rfl⟩ := h
      obtain ⟨z, h1, h2, h3⟩ := findI_some hk
      refine ⟨z, by simpa using h1, h2, fun m z' hm hz => ?_⟩
      cases m with
      | zero => simp only [List.getElem?_cons_zero, Option.some.injEq] at hz; subst hz; simpa using hx
      | succ m => exact h3 m z' (by omega) (by simpa using hz)
theorem mt_bm {X : Cx} {b : Bm} (hK : X.K = W.st.K) (hx : RepB W d x) (hv : Paired (RepB W) ds vs) (h : bmD b d ds = some r) (s : Sep W []) (q : ∀ v W' F, Grow W W' F → Rep W' r v F → Q v W'.H) :
    ∃ rr, MtR X (bmId b d).2 rr ∧ rr x vs W.H Q ∧ tyV X.K (bmId b d).1 x W.H := by
  unfold bmD at h
  split at h
  · rename_i a o xs
    obtain ⟨z, rfl, hz⟩ := pair1 hv
    simp only [Option.bind_eq_some_iff] at h
    obtain ⟨ys, hy, h⟩ := h
    split at h
    · rename_i hl
      cases h
      have o1 := rep_ok hx
      cases rep_str hx
      obtain ⟨p, us, F, rfl, r1, h1⟩ := rep_lst hz
      cases strsD_some hy
      have o2 := repL_oks h1
      cases repL_strs_eq h1
      exact ⟨_, mt_join, ⟨a, p, ys, rfl, rfl, .inl (SqL.of r1), hl, q _ W [] (.refl s) (.mkStr (okS_join o1 o2))⟩, rfl⟩
    · cases h
  · rename_i a b'
    obtain ⟨z, rfl, hz⟩ := pair1 hv
    split at h
    · rename_i hl
      simp only [Bool.and_eq_true, decide_eq_true_eq] at hl
      cases h
      have o1 := rep_ok hx
      cases rep_str hx; cases rep_str hz
      refine ⟨_, mt_split, ⟨a, b', rfl, rfl, by simpa using hl.1, by rw [szl]; exact hl.2, fun p hp => q _ (W.put p _) [p] (.new _ s hp) (Rep.mkLst hp (repL_strs _ (okS_split o1 (by simpa using hl.1))))⟩, rfl⟩
    · cases h
  · rename_i o xs y
    obtain ⟨z, rfl, hz⟩ := pair1 hv
    split at h
    · rename_i hl
      simp only [Bool.and_eq_true] at hl
      simp only [Option.map_eq_some_iff] at h
      obtain ⟨n, hn, rfl⟩ := h
      obtain ⟨p, us, F, rfl, r1, h1⟩ := rep_lst hx
      obtain ⟨w, e1, e2, e3⟩ := findI_some hn
      obtain ⟨v, F1, F2, g1, g2, _⟩ := RepL.at h1 e1
      have fw : ∀ {m : Nat} {w : D}, xs[m]? = some w → flatD w = true := fun h => List.all_eq_true.mp hl.2 _ (List.mem_of_getElem? h)
      refine ⟨_, mt_index, ⟨p, us, z, n, v, rfl, rfl, SqL.of r1, flat_of hl.1 hz, h1.flat hl.2, g1, ?_, fun m z' hm hz' => ?_, q _ W [] (.refl s) (.mkInt _)⟩, .inl ⟨rfl, us, SqL.of r1⟩⟩
      · rw [eqF_of (fw e1) hl.1 ⟨_, g2⟩ hz]; exact e2
      · have hm' : m < xs.length := by rw [← h1.len]; exact (List.getElem?_eq_some_iff.mp hz').1
        obtain ⟨w', hw'⟩ : ∃ w', xs[m]? = some w' := ⟨_, List.getElem?_eq_getElem hm'⟩
        obtain ⟨v', F1', F2', g1', g2', _⟩ := RepL.at h1 hw'
        rw [g1'] at hz'; cases hz'
        rw [eqF_of (fw hw') hl.1 ⟨_, g2'⟩ hz]
        exact e3 m w' hm hw'
    · cases h
  · rename_i a b'
    obtain ⟨z, rfl, hz⟩ := pair1 hv
    split at h
    · rename_i i rest ho
      cases h
      cases rep_str hx; cases rep_str hz
      exact ⟨_, mt_sindex, ⟨a, b', i, rest, rfl, rfl, ho, q _ W [] (.refl s) (.mkInt _)⟩, rfl⟩
    · cases h
  · cases h

/-! ### slices -/
theorem sl_of {X : Cx} {lo hi : Option Int} (hK : X.K = W.st.K) (hx : RepB W d x) (h : sliceD d lo hi = some r) (s : Sep W []) (q : ∀ v W' F, Grow W W' F → Rep W' r v F → Q v W'.H) :
    ∃ rr, SlR X rr ∧ rr x lo hi W.H Q := by
  unfold sliceD at h
  split at h
  · rename_i z
    split at h
    · rename_i hz
      cases h
      have o1 := rep_ok hx
      cases rep_str hx
      exact ⟨_, sl_str, z, rfl, by rw [szl]; exact hz, q _ W [] (.refl s) (.mkStr (okS_cut o1))⟩
    · cases h
  · rename_i o xs
    split at h
    · rename_i hz
      cases h
      obtain ⟨p, us, F, rfl, r1, h1⟩ := rep_lst hx
      exact ⟨_, sl_list, p, us, rfl, SqL.of r1, fun p hp => q _ (W.put p _) [p] (.new _ s hp) (Rep.mkLst hp (h1.free0 hz).cut)⟩
    · cases h
  · rename_i ns
    cases h
    obtain ⟨a, rfl, r1⟩ := rep_scr hx
    exact ⟨_, sl_list, a, _, rfl, by rw [hK]; exact r1, fun p hp => q _ (W.put p _) [p] (.new _ s hp) (Rep.mkLst hp (repL_ints ns).cut)⟩
  · cases h
end
end RB
end

section
set_option Elab.async false
set_option maxRecDepth 100000
namespace RB
open PySem L2

/-- what is known of where one stands -/
structure XC (st : Sta) (X : Cx) : Prop where
  K : X.K = st.K
  calm : X.calm = true
  un : X.A.units + 64 < cLine

/-! ### footprints of slots -/
theorem flat_set {Fs : List (List Addr)} {i : Nat} {F F' : List Addr} (h : Fs[i]? = some F) : ((Fs.set i F').flatten ++ F).Perm (Fs.flatten ++ F') := by
  induction Fs generalizing i with
  | nil => simp at h
  | cons A Fs ih =>
    cases i with
    | zero =>
      simp only [List.getElem?_cons_zero, Option.some.injEq] at h
      subst h
      simp only [List.set_cons_zero, List.flatten_cons]
      exact List.perm_iff_count.mpr fun a => by simp only [List.count_append]; omega
    | succ i =>
      simp only [List.getElem?_cons_succ] at h
      simp only [List.set_cons_succ, List.flatten_cons, List.append_assoc]
      exact (ih h).append_left A
theorem flat_set0 {Fs : List (List Addr)} {i : Nat} {F : List Addr} (h : Fs[i]? = some F) : ((Fs.set i []).flatten ++ F).Perm Fs.flatten := by simpa using flat_set (F' := []) h
theorem mem_flat {Fs : List (List Addr)} {i : Nat} {F : List Addr} (h : Fs[i]? = some F) {a : Addr} (ha : a ∈ F) : a ∈ Fs.flatten := List.mem_flatten.mpr ⟨F, List.mem_of_getElem? h, ha⟩

section
variable {st : Sta} {Wx : WX} {X : Cx} {σ : St} {H : Hp}
/-- a value that owns nothing -/
theorem Posts.const {T : Tch} {W : Wd} {S : DS} {Fs : List (List Addr)} {G : List Addr} {d : D} {v : V} (sr : SR W σ S Fs G) (sp : Sep W (Fs.flatten ++ G)) (r : Rep W d v []) : Posts T W σ S Fs G [.own d] S [v] W Fs G [] :=
  ⟨sr, ⟨v, [], [], [], rfl, r, ⟨rfl, rfl⟩, .nil⟩, by simpa using sp, by simpa using Evo.refl W (Fs.flatten ++ G), .refl⟩
theorem Posts.place {T : Tch} {W : Wd} {S : DS} {Fs : List (List Addr)} {G : List Addr} {l : Loc} {v : V} (sr : SR W σ S Fs G) (sp : Sep W (Fs.flatten ++ G)) (r : LocVal W σ l v) : Posts T W σ S Fs G [.loc l] S [v] W Fs G [] :=
  ⟨sr, ⟨v, [], rfl, r, ⟨rfl, rfl⟩⟩, by simpa using sp, by simpa using Evo.refl W (Fs.flatten ++ G), .refl⟩

/-! ### constants and names -/
theorem tE_own {T : List (Option Nat)} {d : D} {v : V} {Q : VK} (hr : ∀ W, Rep W d v []) (h : tE st Wx T (fun S => .ok (.own d) S) σ H Q) : Q v H := by
  obtain ⟨W, S, Fs, G, rfl, hc, sr, sp, h⟩ := h
  exact h v W Fs G [] (.const sr sp (hr W)) trivial
theorem s_int {T : List (Option Nat)} {i j pos} : PE X (.Constant (.int i) j pos) (tE st Wx T fun S => .ok (.own (.int i)) S) := PE.pt fun _ _ _ h => ⟨_, pe_int, tE_own (fun _ => .mkInt i) h⟩
theorem s_str {T : List (Option Nat)} {i j pos} (hi : okS i) : PE X (.Constant (.str i) j pos) (tE st Wx T fun S => .ok (.own (.str i)) S) := PE.pt fun _ _ _ h => ⟨_, pe_str, tE_own (fun _ => .mkStr hi) h⟩
theorem s_bl {T : List (Option Nat)} {i j pos} : PE X (.Constant (.bool i) j pos) (tE st Wx T fun S => .ok (.own (.bl i)) S) := PE.pt fun _ _ _ h => ⟨_, pe_bl, tE_own (fun _ => .mkBl i) h⟩
theorem s_non {T : List (Option Nat)} {j pos} : PE X (.Constant .none j pos) (tE st Wx T fun S => .ok (.own .non) S) := PE.pt fun _ _ _ h => ⟨_, pe_non, tE_own (fun _ => .mkNon) h⟩
/-- a module's constant -/
def scalV : D → Option V
  | .int i => some (.int i) | .str s => if okB s then some (.str s) else none | .bl b => some (.bl b) | .non => some .non
  | _ => none
theorem scal_rep {W : Wd} {d : D} {v : V} (h : scalV d = some v) : Rep W d v [] := by
  cases d with
  | str s =>
    simp only [scalV] at h
    split at h
    · rename_i ho
      cases h
      exact .mkStr (okB_of ho)
    · cases h
  | non => simp [scalV] at h; subst h; exact .mkNon
  | bl b => simp [scalV] at h; subst h; exact .mkBl _
  | int b => simp [scalV] at h; subst h; exact .mkInt _
  | _ => simp [scalV] at h
theorem s_glob {T : List (Option Nat)} {x : Str} {d : D} {v : V} {u : Value} {pos} (hv : scalV d = some v) (hg : Gl X x) (hm : X.mg x = some u) (r : RelV v u) (hd : (x == ("__debug__" : Str)) = false) : PE X (.Name x pos) (tE st Wx T fun S => .ok (.own d) S) :=
  PE.pt fun _ _ _ h => ⟨_, pe_glob hg hm r hd, tE_own (fun _ => scal_rep hv) h⟩
theorem s_var {T : List (Option Nat)} {i : Nat} {x : Str} {pos : Pos} (hN : X.N[i]? = some x) (hv : Vis X.env.scope x) (hd : (x == ("__debug__" : Str)) = false) (hcd : (x == ("__classdict__" : Str)) = false) : PE X (.Name x pos) (tE st Wx T (xVar i)) := by
  refine PE.pt fun σ H Q h => ⟨_, pe_var hN hv hd hcd, ?_⟩
  obtain ⟨W, S, Fs, G, rfl, hc, sr, sp, h⟩ := h
  unfold xVar at h
  cases e : S.ds[i]? with
  | none => rw [e] at h; exact h.elim
  | some o =>
    cases o with
    | none => rw [e] at h; exact h.elim
    | some d =>
      rw [e] at h
      obtain ⟨v, F, e1, e2, r⟩ := sr.sl.at e
      refine ⟨v, e1, ?_⟩
      simp only at h
      rcases varO_cases i d with ⟨n, rfl, ho⟩ | ⟨hf, ho⟩ | ⟨hf, ho⟩
      · rw [ho] at h
        simp only [Rep] at r
        obtain ⟨rfl, hr⟩ := r
        have hl : n < S.rg.length := by rw [← sr.rg.len]; exact (List.getElem?_eq_some_iff.mp hr).1
        exact h v W Fs G [] (.place sr sp ⟨v, hr, rfl⟩) ⟨S.rg[n], by simp [look, rootD, hl, getP]⟩
      · rw [ho] at h
        have := Rep.free d r hf
        subst this
        exact h v W Fs G [] (.const sr sp r) trivial
      · rw [ho] at h
        exact h v W Fs G [] (.place sr sp ⟨v, by simp [rootV, e1], rfl⟩) ⟨d, by simp [look, rootD, e, getP]⟩

/-! ### operations on values -/
theorem s_bin {T Ta Tb : List (Option Nat)} {fa fb : M Opd} {op : BOp} {a b : Expr} {pos : Pos} (hT : ∀ i, i ∉ T → i ∉ Ta ++ Tb) (ha : PE X a (tE st Wx Ta fa)) (hb : PE X b (tE st Wx Tb fb)) :
    PE X (.BinOp a (opOf op) b pos) (tE st Wx T (xRead [(fa, Ta), (fb, Tb)] fun ds => match ds with | [x, y] => binD op x y | _ => none)) := by
  refine PE.pt fun σ H Q h => ?_
  refine ⟨tOp (fun x y H2 Q => ∃ rr, OpR X (binaryOp (opOf op)) rr ∧ rr x y H2 Q) _ _, pe_op ?_ ha hb, ?_⟩
  · intro pins s σ H x y v u Q I rx ry ⟨rr, h1, h2⟩
    exact h1 pins s σ H x y v u Q I rx ry h2
  · refine tE_mono (tA_2 (tE_read (by simpa using hT) h)) fun v H1 q => tE_mono q fun u H2 q => ?_
    obtain ⟨W, ds, d, rfl, hc, sp, hp, hf, q⟩ := q
    split at hf
    · rename_i x y
      obtain ⟨x', y', e, hx, hy⟩ := pair2 hp
      cases e
      exact op_bin hx hy hf sp q
    · cases hf
theorem s_neg {T Ta : List (Option Nat)} {fa : M Opd} {a : Expr} {pos : Pos} (hT : ∀ i, i ∉ T → i ∉ Ta) (ha : PE X a (tE st Wx Ta fa)) :
    PE X (.UnaryOp .USub a pos) (tE st Wx T (xRead [(fa, Ta)] fun ds => match ds with | [.int i] => some (.int (-i)) | _ => none)) := by
  refine PE.pt fun σ H Q h => ⟨_, pe_un un_neg ha, ?_⟩
  refine tE_mono (tA_1 (tE_read (by simpa using hT) h)) fun v H1 q => ?_
  obtain ⟨W, ds, d, rfl, hc, sp, hp, hf, q⟩ := q
  split at hf
  · rename_i i
    obtain ⟨x', e, hx⟩ := pair1 hp
    cases e; cases rep_int hx; cases hf
    exact ⟨i, rfl, q _ W [] (.refl sp) (.mkInt _)⟩
  · cases hf
theorem s_cmp {T Ta Tb : List (Option Nat)} {fa fb : M Opd} {op : COp} {a b : Expr} {pos : Pos} (xc : XC st X) (hT : ∀ i, i ∉ T → i ∉ Ta ++ Tb) (ha : PE X a (tE st Wx Ta fa)) (hb : PE X b (tE st Wx Tb fb)) (hm : behindInMarks (copOf op) b = false) :
    PE X (.Compare a [copOf op] [b] pos) (tE st Wx T (xRead [(fa, Ta), (fb, Tb)] fun ds => match ds with | [x, y] => (cmpD op x y).map .bl | _ => none)) := by
  refine PE.pt fun σ H Q h => ?_
  refine ⟨tOp (fun x y H2 Q => ∃ rr, OpR X (compareOp (copOf op)) rr ∧ rr x y H2 Q) _ _, pe_cmpR ?_ ha hb hm, ?_⟩
  · intro pins s σ H x y v u Q I rx ry ⟨rr, h1, h2⟩
    exact h1 pins s σ H x y v u Q I rx ry h2
  · refine tE_mono (tA_2 (tE_read (by simpa using hT) h)) fun v H1 q => tE_mono q fun u H2 q => ?_
    obtain ⟨W, ds, d, rfl, hc, sp, hp, hf, q⟩ := q
    split at hf
    · rename_i x y
      obtain ⟨x', y', e, hx, hy⟩ := pair2 hp
      cases e
      simp only [Option.map_eq_some_iff] at hf
      obtain ⟨c, hf, rfl⟩ := hf
      obtain ⟨rr, h1, h2⟩ := op_cmp (X := X) xc.un hx hy hf
      exact ⟨rr, h1, h2 _ (q _ W [] (.refl sp) (.mkBl c))⟩
    · cases hf
theorem rep_isN {W : Wd} {d : D} {x : V} (h : RepB W d x) (hn : d ≠ .non) (hl : ∀ r, d ≠ .link r) : x ≠ .non := by
  cases d with
  | non => exact absurd rfl hn
  | link r => exact absurd rfl (hl r)
  | bl b => rw [rep_bl h]; intro z; cases z
  | int b => rw [rep_int h]; intro z; cases z
  | str b => rw [rep_str h]; intro z; cases z
  | tup b => obtain ⟨a, _, rfl, _⟩ := rep_tup h; intro z; cases z
  | lst o b => obtain ⟨a, _, _, rfl, _⟩ := rep_lst h; intro z; cases z
  | dct o b => obtain ⟨a, _, _, rfl, _⟩ := rep_dct h; intro z; cases z
  | ins o c b => obtain ⟨a, _, _, _, rfl, _⟩ := rep_ins h; intro z; cases z
  | scr b => obtain ⟨a, rfl, _⟩ := rep_scr h; intro z; cases z
end
end RB
end

section
set_option Elab.async false
set_option maxRecDepth 100000
namespace RB
open PySem L2

section
variable {st : Sta} {Wx : WX} {X : Cx} {σ : St} {H : Hp}
theorem isND_of {W : Wd} {d : D} {x : V} {b : Bool} (h : isND d = some b) (hx : RepB W d x) : decide (x = .non) = b := by
  cases d with
  | non => simp only [isND, Option.some.injEq] at h; subst h; rw [rep_non hx]; rfl
  | link r => simp [isND] at h
  | _ =>
    simp only [isND, Option.some.injEq] at h
    subst h
    exact decide_eq_false (rep_isN hx (by simp) (by simp))
theorem s_isN {T Ta : List (Option Nat)} {fa : M Opd} {a : Expr} {j pos pos'} (hT : ∀ i, i ∉ T → i ∉ Ta) (ha : PE X a (tE st Wx Ta fa)) :
    PE X (.Compare a [.Is] [.Constant .none j pos'] pos) (tE st Wx T (xRead [(fa, Ta)] fun ds => match ds with | [x] => (isND x).map .bl | _ => none)) := by
  refine PE.pt fun σ H Q h => ⟨_, pe_cmpR op_isN ha pe_non (nomark _), ?_⟩
  refine tE_mono (tA_1 (tE_read (by simpa using hT) h)) fun v H1 q => ?_
  obtain ⟨W, ds, d, rfl, hc, sp, hp, hf, q⟩ := q
  split at hf
  · rename_i i
    obtain ⟨x', e, hx⟩ := pair1 hp
    cases e
    simp only [Option.map_eq_some_iff] at hf
    obtain ⟨c, hf, rfl⟩ := hf
    refine ⟨rfl, ?_⟩
    rw [isND_of hf hx]
    exact q _ W [] (.refl sp) (.mkBl _)
  · cases hf
theorem s_notN {T Ta : List (Option Nat)} {fa : M Opd} {a : Expr} {j pos pos'} (hT : ∀ i, i ∉ T → i ∉ Ta) (ha : PE X a (tE st Wx Ta fa)) :
    PE X (.Compare a [.IsNot] [.Constant .none j pos'] pos) (tE st Wx T (xRead [(fa, Ta)] fun ds => match ds with | [x] => (isND x).map fun b => .bl (!b) | _ => none)) := by
  refine PE.pt fun σ H Q h => ⟨_, pe_cmpR op_notN ha pe_non (nomark _), ?_⟩
  refine tE_mono (tA_1 (tE_read (by simpa using hT) h)) fun v H1 q => ?_
  obtain ⟨W, ds, d, rfl, hc, sp, hp, hf, q⟩ := q
  split at hf
  · rename_i i
    obtain ⟨x', e, hx⟩ := pair1 hp
    cases e
    simp only [Option.map_eq_some_iff] at hf
    obtain ⟨c, hf, rfl⟩ := hf
    refine ⟨rfl, ?_⟩
    rw [isND_of hf hx]
    exact q _ W [] (.refl sp) (.mkBl _)
  · cases hf

/-! ### one operand read -/
/-- an operand's data -/
theorem Posts.dat {T : Tch} {W W1 : Wd} {S S1 : DS} {Fs Fs1 : List (List Addr)} {G G1 : List Addr} {o : Opd} {v : V} {F : List Addr} {d : D} (p : Posts T W σ S Fs G [o] S1 [v] W1 Fs1 G1 F) (e : dat S1 o = some d) : RepB W1 d v := by
  have := p.op.reads p.sr (ds := [d]) (by simp [e])
  obtain ⟨x, ex, hx⟩ := pair1 this
  cases ex
  exact hx
/-- operands forgotten -/
theorem Posts.drop {T : Tch} {W W1 : Wd} {S S1 : DS} {Fs Fs1 : List (List Addr)} {G G1 : List Addr} {os : List Opd} {vs : List V} {F : List Addr} (p : Posts T W σ S Fs G os S1 vs W1 Fs1 G1 F) : Posts T W σ S Fs G [] S1 [] W1 Fs1 G1 [] :=
  ⟨p.sr, ⟨rfl, rfl⟩, by simpa using p.sep.left, p.evo.sub fun a ha => List.mem_append_left _ (by simpa using ha), p.pres⟩
/-- a value that owns nothing, behind operands that are forgotten -/
theorem Posts.const' {T : Tch} {W W1 : Wd} {S S1 : DS} {Fs Fs1 : List (List Addr)} {G G1 : List Addr} {d : D} {v : V} {os : List Opd} {vs : List V} {F : List Addr} (p : Posts T W σ S Fs G os S1 vs W1 Fs1 G1 F) (r : Rep W1 d v []) : Posts T W σ S Fs G [.own d] S1 [v] W1 Fs1 G1 [] :=
  let q := p.drop
  ⟨q.sr, ⟨v, [], [], [], rfl, r, ⟨rfl, rfl⟩, .nil⟩, q.sep, q.evo, q.pres⟩
/-- one evaluation behind another one, the first one's operands forgotten -/
theorem Posts.then {T1 T2 : Tch} {W W1 W2 : Wd} {S S1 S2 : DS} {Fs Fs1 Fs2 : List (List Addr)} {G G1 G2 : List Addr} {os ps : List Opd} {vs us : List V} {F1 F2 : List Addr}
    (p : Posts T1 W σ S Fs G os S1 vs W1 Fs1 G1 F1) (q : Posts T2 W1 σ S1 Fs1 G1 ps S2 us W2 Fs2 G2 F2) : Posts (fun i => T1 i || T2 i) W σ S Fs G ps S2 us W2 Fs2 G2 F2 :=
  ⟨q.sr, q.op, q.sep, (p.drop.evo.sub (B' := Fs1.flatten ++ G1) fun a ha => by simpa using ha).trans q.evo, p.pres.trans q.pres⟩
theorem tE_ev {T : List (Option Nat)} {f : M Opd} {W : Wd} {S : DS} {Fs : List (List Addr)} {G : List Addr} {Q : VK} (hc : W.st = st) (sr : SR W σ S Fs G) (sp : Sep W (Fs.flatten ++ G))
    (h : match f S with
      | .ok o S' => ∀ v W' Fs' G' F, Posts (tch T) W σ S Fs G [o] S' [v] W' Fs' G' F → placed S' o → Q v W'.H
      | .exc x S' => ∀ c dd W' Fs' G' F, SR W' σ S' Fs' G' → XRep W' x c dd F → Sep W' ((Fs'.flatten ++ G') ++ F) → Evo W (Fs.flatten ++ G) W' ((Fs'.flatten ++ G') ++ F) → Wx c dd σ W'.H
      | .fail => False) : tE st Wx T f σ W.H Q := ⟨W, S, Fs, G, rfl, hc, sr, sp, h⟩
theorem tE_test {T : List (Option Nat)} {f : M Opd} {Q : Bool → Hp → Prop} (h : tT st Wx T (xTest f) σ H Q) : tE st Wx T f σ H fun x H1 => ∃ k, TruV st.K x H1 k ∧ Q k H1 := by
  obtain ⟨W, S, Fs, G, rfl, hc, sr, sp, h⟩ := h
  refine ⟨W, S, Fs, G, rfl, hc, sr, sp, ?_⟩
  unfold xTest at h
  cases e : f S with
  | fail => rw [e] at h; exact h
  | exc x S1 => rw [e] at h; exact h
  | ok o S1 =>
    rw [e] at h
    simp only [R.bind_ok] at h ⊢
    intro v W1 Fs1 G1 F p _
    cases e2 : (dat S1 o).bind truD with
    | none => rw [e2] at h; exact h.elim
    | some b =>
      rw [e2] at h
      obtain ⟨d, e3, e4⟩ := Option.bind_eq_some_iff.mp e2
      exact ⟨b, tru_of e4 (p.dat e3), h W1 Fs1 G1 p.drop⟩
/-- a test by a value's truth -/
theorem s_truth {T : List (Option Nat)} {f : M Opd} {a : Expr} (xc : XC st X) (ha : PE X a (tE st Wx T f)) (he : ∀ whole, isTrue a X.env whole = (do let v ← whole; standAt a.pos; holding [v] (truthy v))) : PT X a (tT st Wx T (xTest f)) := by
  refine PT.pt fun σ H Q h => ⟨_, pt_truth ha he, ?_⟩
  rw [xc.K]
  exact tE_test h
theorem tT_not {T : List (Option Nat)} {f : M Opd} {Q : Bool → Hp → Prop} (h : tT st Wx T (xTest (xNot f)) σ H Q) : tT st Wx T (xTest f) σ H fun c H1 => Q (!c) H1 := by
  obtain ⟨W, S, Fs, G, rfl, hc, sr, sp, h⟩ := h
  refine ⟨W, S, Fs, G, rfl, hc, sr, sp, ?_⟩
  unfold xNot at h
  simp only [xTest] at h ⊢
  cases e : f S with
  | fail => rw [e] at h; exact h
  | exc x S1 => rw [e] at h; exact h
  | ok o S1 =>
    rw [e] at h
    simp only [R.bind_ok] at h ⊢
    cases e2 : (dat S1 o).bind truD with
    | none => rw [e2] at h; exact h
    | some b => rw [e2] at h; exact h
theorem s_not {T : List (Option Nat)} {f : M Opd} {a : Expr} {pos : Pos} (xc : XC st X) (ha : PE X a (tE st Wx T f)) : PE X (.UnaryOp .Not a pos) (tE st Wx T (xNot f)) := by
  refine PE.pt fun σ H Q h => ⟨_, pe_notT ha, ?_⟩
  rw [xc.K]
  refine tE_test (T := T) ?_
  obtain ⟨W, S, Fs, G, rfl, hc, sr, sp, h⟩ := h
  refine ⟨W, S, Fs, G, rfl, hc, sr, sp, ?_⟩
  unfold xNot at h
  cases e : xTest f S with
  | fail => rw [e] at h; exact h
  | exc x S1 => rw [e] at h; exact h
  | ok o S1 =>
    rw [e] at h
    simp only [R.bind_ok] at h ⊢
    exact fun W1 Fs1 G1 p => h _ W1 Fs1 G1 [] (p.const' (.mkBl _)) trivial
theorem t_not {T : List (Option Nat)} {f : M Opd} {a : Expr} {pos : Pos} (ha : PT X a (tT st Wx T (xTest f))) : PT X (.UnaryOp .Not a pos) (tT st Wx T (xTest (xNot f))) :=
  PT.pt fun _ _ _ h => ⟨_, pt_not ha, tT_not h⟩

/-! ### and, or -/
theorem Posts.or {T1 T2 T : List (Option Nat)} {W W2 : Wd} {S S2 : DS} {Fs Fs2 : List (List Addr)} {G G2 : List Addr} {ps : List Opd} {us : List V} {F2 : List Addr} (hT : ∀ i, i ∉ T → i ∉ T1 ++ T2)
    (p : Posts (fun i => tch T1 i || tch T2 i) W σ S Fs G ps S2 us W2 Fs2 G2 F2) : Posts (tch T) W σ S Fs G ps S2 us W2 Fs2 G2 F2 :=
  p.mono fun i hi => by
    have := hT i (tch_false.mp hi)
    rw [← tch_app]
    exact tch_false.mpr this
/-- the ends of an evaluation -/
def Out (Wx : WX) (W : Wd) (σ : St) (Fs : List (List Addr)) (G : List Addr) {α : Type} (r : R α) (K : α → DS → Prop) : Prop :=
  match r with
  | .ok a S' => K a S'
  | .exc x S' => ∀ c dd W' Fs' G' F, SR W' σ S' Fs' G' → XRep W' x c dd F → Sep W' ((Fs'.flatten ++ G') ++ F) → Evo W (Fs.flatten ++ G) W' ((Fs'.flatten ++ G') ++ F) → Wx c dd σ W'.H
  | .fail => False
section
variable {W W1 : Wd} {S S1 : DS} {Fs Fs1 : List (List Addr)} {G G1 : List Addr} {α β : Type}
theorem Out.ok {a : α} {K : α → DS → Prop} (h : Out Wx W σ Fs G (R.ok a S1) K) : K a S1 := h
theorem Out.bind {r : R α} {k : α → DS → R β} {K : β → DS → Prop} (h : Out Wx W σ Fs G (r.bind k) K) : Out Wx W σ Fs G r fun a S' => Out Wx W σ Fs G (k a S') K := by
  cases r with
  | fail => exact h
  | exc x S' => exact h
  | ok a S' => exact h
theorem Out.mono {r : R α} {K K' : α → DS → Prop} (h : Out Wx W σ Fs G r K) (hk : ∀ a S', r = .ok a S' → K a S' → K' a S') : Out Wx W σ Fs G r K' := by
  cases r with
  | fail => exact h
  | exc x S' => exact h
  | ok a S' => exact hk a S' rfl h
theorem Out.shift {r : R α} {K : α → DS → Prop} (e : Evo W (Fs.flatten ++ G) W1 (Fs1.flatten ++ G1)) (h : Out Wx W σ Fs G r K) : Out Wx W1 σ Fs1 G1 r K := by
  cases r with
  | fail => exact h
  | exc x S' => exact fun c dd W' Fs' G' F a b c' d => h c dd W' Fs' G' F a b c' (e.trans d)
  | ok a S' => exact h
theorem Posts.ev {T : Tch} {os : List Opd} {vs : List V} {F : List Addr} (p : Posts T W σ S Fs G os S1 vs W1 Fs1 G1 F) : Evo W (Fs.flatten ++ G) W1 (Fs1.flatten ++ G1) := p.evo.sub fun a ha => List.mem_append_left _ ha
/-- tE, tT, tA by their ends -/
theorem tE_of {T : List (Option Nat)} {f : M Opd} {Q : VK} (hc : W.st = st) (sr : SR W σ S Fs G) (sp : Sep W (Fs.flatten ++ G))
    (h : Out Wx W σ Fs G (f S) fun o S' => ∀ v W' Fs' G' F, Posts (tch T) W σ S Fs G [o] S' [v] W' Fs' G' F → placed S' o → Q v W'.H) : tE st Wx T f σ W.H Q := by
  refine ⟨W, S, Fs, G, rfl, hc, sr, sp, ?_⟩
  cases e : f S with
  | fail => rw [e] at h; exact h
  | exc x S' => rw [e] at h; exact h
  | ok a S' => rw [e] at h; exact h
theorem of_tE {T : List (Option Nat)} {f : M Opd} {Q : VK} (h : tE st Wx T f σ H Q) : ∃ W S Fs G, W.H = H ∧ W.st = st ∧ SR W σ S Fs G ∧ Sep W (Fs.flatten ++ G) ∧
    Out Wx W σ Fs G (f S) fun o S' => ∀ v W' Fs' G' F, Posts (tch T) W σ S Fs G [o] S' [v] W' Fs' G' F → placed S' o → Q v W'.H := by
  obtain ⟨W, S, Fs, G, hw, hc, sr, sp, h⟩ := h
  refine ⟨W, S, Fs, G, hw, hc, sr, sp, ?_⟩
  cases e : f S with
  | fail => rw [e] at h; exact h
  | exc x S' => rw [e] at h; exact h
  | ok a S' => rw [e] at h; exact h
theorem tT_of {T : List (Option Nat)} {f : M Bool} {Q : Bool → Hp → Prop} (hc : W.st = st) (sr : SR W σ S Fs G) (sp : Sep W (Fs.flatten ++ G))
    (h : Out Wx W σ Fs G (f S) fun b S' => ∀ W' Fs' G', Posts (tch T) W σ S Fs G [] S' [] W' Fs' G' [] → Q b W'.H) : tT st Wx T f σ W.H Q := by
  refine ⟨W, S, Fs, G, rfl, hc, sr, sp, ?_⟩
  cases e : f S with
  | fail => rw [e] at h; exact h
  | exc x S' => rw [e] at h; exact h
  | ok a S' => rw [e] at h; exact h
theorem of_tT {T : List (Option Nat)} {f : M Bool} {Q : Bool → Hp → Prop} (h : tT st Wx T f σ H Q) : ∃ W S Fs G, W.H = H ∧ W.st = st ∧ SR W σ S Fs G ∧ Sep W (Fs.flatten ++ G) ∧
    Out Wx W σ Fs G (f S) fun b S' => ∀ W' Fs' G', Posts (tch T) W σ S Fs G [] S' [] W' Fs' G' [] → Q b W'.H := by
  obtain ⟨W, S, Fs, G, hw, hc, sr, sp, h⟩ := h
  refine ⟨W, S, Fs, G, hw, hc, sr, sp, ?_⟩
  cases e : f S with
  | fail => rw [e] at h; exact h
  | exc x S' => rw [e] at h; exact h
  | ok a S' => rw [e] at h; exact h
theorem tA_of {ms : List (M Opd × List (Option Nat))} {Q : List V → Hp → Prop} (hc : W.st = st) (sr : SR W σ S Fs G) (sp : Sep W (Fs.flatten ++ G))
    (h : Out Wx W σ Fs G (evL ms S) fun os S' => ∀ vs W' Fs' G' F, Posts (tch (ms.flatMap (·.2))) W σ S Fs G os S' vs W' Fs' G' F → Q vs W'.H) : tA st Wx ms σ W.H Q := by
  refine ⟨W, S, Fs, G, rfl, hc, sr, sp, ?_⟩
  cases e : evL ms S with
  | fail => rw [e] at h; exact h
  | exc x S' => rw [e] at h; exact h
  | ok a S' => rw [e] at h; exact h
end
theorem tE_and {T Ta Tb : List (Option Nat)} {fa fb : M Opd} {Q : VK} (hT : ∀ i, i ∉ T → i ∉ Ta ++ Tb) (h : tE st Wx T (xAnd fa fb) σ H Q) :
    tE st Wx Ta fa σ H fun x H1 => ∃ c, x = .bl c ∧ if c = true then tE st Wx Tb fb σ H1 Q else Q (.bl false) H1 := by
  obtain ⟨W, S, Fs, G, rfl, hc, sr, sp, h⟩ := of_tE h
  refine tE_of hc sr sp (h.bind.mono fun o S1 _ h v W1 Fs1 G1 F p _ => ?_)
  cases hd : dat S1 o with
  | none => rw [hd] at h; exact h.elim
  | some d =>
    rw [hd] at h
    cases d with
    | bl c =>
      refine ⟨c, rep_bl (p.dat hd), ?_⟩
      cases c with
      | true =>
        rw [if_pos rfl]
        exact tE_of (p.evo.ca.trans hc) p.sr p.sep.left ((h.shift p.ev).mono fun o2 S2 _ h v2 W2 Fs2 G2 F2 q hp => h v2 W2 Fs2 G2 F2 (Posts.or hT (p.then q)) hp)
      | false =>
        rw [if_neg Bool.false_ne_true]
        exact h _ W1 Fs1 G1 [] ((p.const' (.mkBl false)).mono fun i hi => tch_false.mpr fun z => hT i (tch_false.mp hi) (List.mem_append_left _ z)) trivial
    | _ => exact h.elim
theorem tE_or {T Ta Tb : List (Option Nat)} {fa fb : M Opd} {Q : VK} (hT : ∀ i, i ∉ T → i ∉ Ta ++ Tb) (h : tE st Wx T (xOr fa fb) σ H Q) :
    tE st Wx Ta fa σ H fun x H1 => ∃ c, x = .bl c ∧ if c = true then Q (.bl true) H1 else tE st Wx Tb fb σ H1 Q := by
  obtain ⟨W, S, Fs, G, rfl, hc, sr, sp, h⟩ := of_tE h
  refine tE_of hc sr sp (h.bind.mono fun o S1 _ h v W1 Fs1 G1 F p _ => ?_)
  cases hd : dat S1 o with
  | none => rw [hd] at h; exact h.elim
  | some d =>
    rw [hd] at h
    cases d with
    | bl c =>
      refine ⟨c, rep_bl (p.dat hd), ?_⟩
      cases c with
      | false =>
        rw [if_neg Bool.false_ne_true]
        exact tE_of (p.evo.ca.trans hc) p.sr p.sep.left ((h.shift p.ev).mono fun o2 S2 _ h v2 W2 Fs2 G2 F2 q hp => h v2 W2 Fs2 G2 F2 (Posts.or hT (p.then q)) hp)
      | true =>
        rw [if_pos rfl]
        exact h _ W1 Fs1 G1 [] ((p.const' (.mkBl true)).mono fun i hi => tch_false.mpr fun z => hT i (tch_false.mp hi) (List.mem_append_left _ z)) trivial
    | _ => exact h.elim
theorem s_and {T Ta Tb : List (Option Nat)} {fa fb : M Opd} {a b : Expr} {rest : List Expr} {pos : Pos} (hT : ∀ i, i ∉ T → i ∉ Ta ++ Tb) (ha : PE X a (tE st Wx Ta fa)) (hb : PE X (.BoolOp .And (b :: rest) pos) (tE st Wx Tb fb)) :
    PE X (.BoolOp .And (a :: b :: rest) pos) (tE st Wx T (xAnd fa fb)) := PE.pt fun _ _ _ h => ⟨_, pe_and ha hb, tE_and hT h⟩
theorem s_or {T Ta Tb : List (Option Nat)} {fa fb : M Opd} {a b : Expr} {rest : List Expr} {pos : Pos} (hT : ∀ i, i ∉ T → i ∉ Ta ++ Tb) (ha : PE X a (tE st Wx Ta fa)) (hb : PE X (.BoolOp .Or (b :: rest) pos) (tE st Wx Tb fb)) :
    PE X (.BoolOp .Or (a :: b :: rest) pos) (tE st Wx T (xOr fa fb)) := PE.pt fun _ _ _ h => ⟨_, pe_or ha hb, tE_or hT h⟩
theorem PW.of {e : Expr} {T : TT} (h : ∀ σ H Q, T σ H Q → ∃ t, PW X e t ∧ t σ H Q) : PW X e T :=
  ⟨fun wh pins s σ H Q I q => by obtain ⟨t, p, z⟩ := h σ H Q q; exact p.run wh pins s σ H Q I z⟩
theorem t_and {T Ta Tb : List (Option Nat)} {fa fb : M Opd} {a b : Expr} {rest : List Expr} {pos : Pos} (hT : ∀ i, i ∉ T → i ∉ Ta ++ Tb) (ha : PT X a (tT st Wx Ta (xTest fa))) (hb : PW X (.BoolOp .And (b :: rest) pos) (tT st Wx Tb (xTest fb))) :
    PW X (.BoolOp .And (a :: b :: rest) pos) (tT st Wx T (xTest (xAnd fa fb))) := by
  refine PW.of fun σ H Q h => ⟨_, pw_and ha hb, ?_⟩
  obtain ⟨W, S, Fs, G, rfl, hc, sr, sp, h⟩ := of_tT h
  unfold xTest xAnd at h
  refine tT_of hc sr sp ?_
  unfold xTest
  cases e : fa S with
  | fail => rw [e] at h; exact h
  | exc x S' => rw [e] at h; exact h
  | ok o S1 =>
    rw [e] at h
    simp only [R.bind_ok] at h ⊢
    cases hd : dat S1 o with
    | none => rw [hd] at h; exact h.elim
    | some d =>
      rw [hd] at h
      cases d with
      | bl c =>
        simp only [Option.bind_some, truD]
        intro W1 Fs1 G1 p
        cases c with
        | true =>
          rw [if_pos rfl]
          exact tT_of (p.evo.ca.trans hc) p.sr p.sep.left ((h.shift p.ev).mono fun b2 S2 _ h W2 Fs2 G2 q => h W2 Fs2 G2 (Posts.or hT (p.then q)))
        | false =>
          rw [if_neg Bool.false_ne_true]
          exact h W1 Fs1 G1 (p.mono fun i hi => tch_false.mpr fun z => hT i (tch_false.mp hi) (List.mem_append_left _ z))
      | _ => exact h.elim
theorem t_or {T Ta Tb : List (Option Nat)} {fa fb : M Opd} {a b : Expr} {rest : List Expr} {pos : Pos} (hT : ∀ i, i ∉ T → i ∉ Ta ++ Tb) (ha : PT X a (tT st Wx Ta (xTest fa))) (hb : PW X (.BoolOp .Or (b :: rest) pos) (tT st Wx Tb (xTest fb))) :
    PW X (.BoolOp .Or (a :: b :: rest) pos) (tT st Wx T (xTest (xOr fa fb))) := by
  refine PW.of fun σ H Q h => ⟨_, pw_or ha hb, ?_⟩
  obtain ⟨W, S, Fs, G, rfl, hc, sr, sp, h⟩ := of_tT h
  unfold xTest xOr at h
  refine tT_of hc sr sp ?_
  unfold xTest
  cases e : fa S with
  | fail => rw [e] at h; exact h
  | exc x S' => rw [e] at h; exact h
  | ok o S1 =>
    rw [e] at h
    simp only [R.bind_ok] at h ⊢
    cases hd : dat S1 o with
    | none => rw [hd] at h; exact h.elim
    | some d =>
      rw [hd] at h
      cases d with
      | bl c =>
        simp only [Option.bind_some, truD]
        intro W1 Fs1 G1 p
        cases c with
        | false =>
          rw [if_neg Bool.false_ne_true]
          exact tT_of (p.evo.ca.trans hc) p.sr p.sep.left ((h.shift p.ev).mono fun b2 S2 _ h W2 Fs2 G2 q => h W2 Fs2 G2 (Posts.or hT (p.then q)))
        | true =>
          rw [if_pos rfl]
          exact h W1 Fs1 G1 (p.mono fun i hi => tch_false.mpr fun z => hT i (tch_false.mp hi) (List.mem_append_left _ z))
      | _ => exact h.elim

/-! ### comparisons as tests -/
theorem tT_bool {T : List (Option Nat)} {f : M Opd} {Q : Bool → Hp → Prop} (h : tT st Wx T (xTest f) σ H Q) (hb : ∀ S o S', f S = .ok o S' → ∃ c, o = .own (.bl c)) : tE st Wx T f σ H fun x H1 => ∃ k, x = .bl k ∧ Q k H1 := by
  obtain ⟨W, S, Fs, G, rfl, hc, sr, sp, h⟩ := of_tT h
  refine tE_of hc sr sp (h.bind.mono fun o S1 e h v W1 Fs1 G1 F p _ => ?_)
  obtain ⟨c, rfl⟩ := hb S o S1 e
  simp only [dat, Option.bind_some, truD] at h
  exact ⟨c, rep_bl (p.dat (d := .bl c) rfl), h W1 Fs1 G1 p.drop⟩
theorem xRead_own {ms : List (M Opd × List (Option Nat))} {f : List D → Option D} {S S' : DS} {o : Opd} (h : xRead ms f S = .ok o S') : ∃ ds d, f ds = some d ∧ o = .own d := by
  unfold xRead at h
  cases e : evL ms S with
  | fail => rw [e] at h; simp at h
  | exc x S1 => rw [e] at h; simp at h
  | ok os S1 =>
    rw [e] at h
    simp only [R.bind_ok] at h
    cases e2 : (datL S1 os).bind f with
    | none => rw [e2] at h; cases h
    | some d =>
      rw [e2] at h
      obtain ⟨ds, _, e4⟩ := Option.bind_eq_some_iff.mp e2
      cases h
      exact ⟨ds, d, e4, rfl⟩
end
end RB
end

section
set_option Elab.async false
set_option maxRecDepth 100000
namespace RB
open PySem L2

section
variable {st : Sta} {Wx : WX} {X : Cx} {σ : St} {H : Hp}
theorem opr_ex {f : Value → Value → Sem Value} : OpR X f (fun x y H2 Q => ∃ rr, OpR X f rr ∧ rr x y H2 Q) := by
  intro pins s σ H x y v u Q I rx ry ⟨rr, h1, h2⟩
  exact h1 pins s σ H x y v u Q I rx ry h2
abbrev cmpF (op : COp) : List D → Option D := fun ds => match ds with | [x, y] => (cmpD op x y).map .bl | _ => none
abbrev isNF : List D → Option D := fun ds => match ds with | [x] => (isND x).map .bl | _ => none
abbrev notNF : List D → Option D := fun ds => match ds with | [x] => (isND x).map fun b => .bl (!b) | _ => none
theorem rd_cmp {T Ta Tb : List (Option Nat)} {fa fb : M Opd} {op : COp} {Q : VK} (xc : XC st X) (hT : ∀ i, i ∉ T → i ∉ Ta ++ Tb) (h : tE st Wx T (xRead [(fa, Ta), (fb, Tb)] (cmpF op)) σ H Q) :
    tOp (fun x y H2 Q => ∃ rr, OpR X (compareOp (copOf op)) rr ∧ rr x y H2 Q) (tE st Wx Ta fa) (tE st Wx Tb fb) σ H Q := by
  refine tE_mono (tA_2 (tE_read (by simpa using hT) h)) fun v H1 q => tE_mono q fun u H2 q => ?_
  obtain ⟨W, ds, d, rfl, hc, sp, hp, hf, q⟩ := q
  unfold cmpF at hf
  split at hf
  · rename_i x y
    obtain ⟨x', y', e, hx, hy⟩ := pair2 hp
    cases e
    simp only [Option.map_eq_some_iff] at hf
    obtain ⟨c, hf, rfl⟩ := hf
    obtain ⟨rr, h1, h2⟩ := op_cmp (X := X) xc.un hx hy hf
    exact ⟨rr, h1, h2 _ (q _ W [] (.refl sp) (.mkBl c))⟩
  · cases hf
theorem xRead_bl {ms : List (M Opd × List (Option Nat))} {f : List D → Option D} (hf : ∀ ds d, f ds = some d → ∃ c, d = .bl c) : ∀ S o S', xRead ms f S = .ok o S' → ∃ c, o = .own (.bl c) := fun S o S' h => by
  obtain ⟨ds, d, h1, rfl⟩ := xRead_own h
  obtain ⟨c, rfl⟩ := hf ds d h1
  exact ⟨c, rfl⟩
theorem cmpF_bl {op : COp} : ∀ ds d, cmpF op ds = some d → ∃ c, d = .bl c := fun ds d h => by
  unfold cmpF at h
  split at h
  · simp only [Option.map_eq_some_iff] at h
    obtain ⟨c, _, rfl⟩ := h; exact ⟨c, rfl⟩
  · cases h
theorem isNF_bl : ∀ ds d, isNF ds = some d → ∃ c, d = .bl c := fun ds d h => by
  unfold isNF at h
  split at h
  · simp only [Option.map_eq_some_iff] at h
    obtain ⟨c, _, rfl⟩ := h; exact ⟨c, rfl⟩
  · cases h
theorem notNF_bl : ∀ ds d, notNF ds = some d → ∃ c, d = .bl c := fun ds d h => by
  unfold notNF at h
  split at h
  · simp only [Option.map_eq_some_iff] at h
    obtain ⟨c, _, rfl⟩ := h; exact ⟨_, rfl⟩
  · cases h
theorem t_cmp {T Ta Tb : List (Option Nat)} {fa fb : M Opd} {op : COp} {a b : Expr} {pos : Pos} (xc : XC st X) (hT : ∀ i, i ∉ T → i ∉ Ta ++ Tb) (ha : PE X a (tE st Wx Ta fa)) (hb : PE X b (tE st Wx Tb fb)) (hm : behindInMarks (copOf op) b = false) :
    PT X (.Compare a [copOf op] [b] pos) (tT st Wx T (xTest (xRead [(fa, Ta), (fb, Tb)] (cmpF op)))) :=
  PT.pt fun σ H Q h => ⟨_, pt_cmpR opr_ex ha hb hm, rd_cmp xc hT (tT_bool h (xRead_bl cmpF_bl))⟩
theorem rd_isN {T Ta : List (Option Nat)} {fa : M Opd} {Q : VK} (hT : ∀ i, i ∉ T → i ∉ Ta) (h : tE st Wx T (xRead [(fa, Ta)] isNF) σ H Q) : tE st Wx Ta fa σ H fun x H1 => Q (.bl (decide (x = .non))) H1 := by
  refine tE_mono (tA_1 (tE_read (by simpa using hT) h)) fun v H1 q => ?_
  obtain ⟨W, ds, d, rfl, hc, sp, hp, hf, q⟩ := q
  unfold isNF at hf
  split at hf
  · obtain ⟨x', e, hx⟩ := pair1 hp
    cases e
    simp only [Option.map_eq_some_iff] at hf
    obtain ⟨c, hf, rfl⟩ := hf
    rw [isND_of hf hx]
    exact q _ W [] (.refl sp) (.mkBl _)
  · cases hf
theorem rd_notN {T Ta : List (Option Nat)} {fa : M Opd} {Q : VK} (hT : ∀ i, i ∉ T → i ∉ Ta) (h : tE st Wx T (xRead [(fa, Ta)] notNF) σ H Q) : tE st Wx Ta fa σ H fun x H1 => Q (.bl (!decide (x = .non))) H1 := by
  refine tE_mono (tA_1 (tE_read (by simpa using hT) h)) fun v H1 q => ?_
  obtain ⟨W, ds, d, rfl, hc, sp, hp, hf, q⟩ := q
  unfold notNF at hf
  split at hf
  · obtain ⟨x', e, hx⟩ := pair1 hp
    cases e
    simp only [Option.map_eq_some_iff] at hf
    obtain ⟨c, hf, rfl⟩ := hf
    rw [isND_of hf hx]
    exact q _ W [] (.refl sp) (.mkBl _)
  · cases hf
theorem t_isN {T Ta : List (Option Nat)} {fa : M Opd} {a : Expr} {j pos pos'} (hT : ∀ i, i ∉ T → i ∉ Ta) (ha : PE X a (tE st Wx Ta fa)) :
    PT X (.Compare a [.Is] [.Constant .none j pos'] pos) (tT st Wx T (xTest (xRead [(fa, Ta)] isNF))) :=
  PT.pt fun σ H Q h => ⟨_, pt_cmpR op_isN ha pe_non (nomark _), by
    show tE st Wx Ta fa σ H fun x H1 => V.non = V.non ∧ ∃ k, V.bl (decide (x = .non)) = .bl k ∧ Q k H1
    exact tE_mono (rd_isN hT (tT_bool h (xRead_bl isNF_bl))) fun _ _ q => ⟨rfl, q⟩⟩
theorem t_notN {T Ta : List (Option Nat)} {fa : M Opd} {a : Expr} {j pos pos'} (hT : ∀ i, i ∉ T → i ∉ Ta) (ha : PE X a (tE st Wx Ta fa)) :
    PT X (.Compare a [.IsNot] [.Constant .none j pos'] pos) (tT st Wx T (xTest (xRead [(fa, Ta)] notNF))) :=
  PT.pt fun σ H Q h => ⟨_, pt_cmpR op_notN ha pe_non (nomark _), by
    show tE st Wx Ta fa σ H fun x H1 => V.non = V.non ∧ ∃ k, V.bl (!decide (x = .non)) = .bl k ∧ Q k H1
    exact tE_mono (rd_notN hT (tT_bool h (xRead_bl notNF_bl))) fun _ _ q => ⟨rfl, q⟩⟩

/-! ### chains -/
theorem PE_mono {e : Expr} {T T' : TE} (h : PE X e T) (hT : ∀ σ H Q, T' σ H Q → T σ H Q) : PE X e T' := ⟨fun pins s σ H Q I q => h.run pins s σ H Q I (hT σ H Q q)⟩
theorem tE_wide {T T' : List (Option Nat)} {f : M Opd} {Q : VK} (hT : ∀ i, i ∉ T' → i ∉ T) (h : tE st Wx T' f σ H Q) : tE st Wx T f σ H Q := by
  obtain ⟨W, S, Fs, G, rfl, hc, sr, sp, h⟩ := of_tE h
  exact tE_of hc sr sp (h.mono fun o S1 _ h v W' Fs' G' F p hp => h v W' Fs' G' F (p.mono fun i hi => tch_false.mpr (hT i (tch_false.mp hi))) hp)
theorem rd_chain {T Ta Tb Tc : List (Option Nat)} {fa fb fc : M Opd} {o1 o2 : COp} {Q : VK} (xc : XC st X) (hT : ∀ i, i ∉ T → i ∉ Ta ++ (Tb ++ Tc)) (h : tE st Wx T (xChain o1 o2 fa Ta fb (Tb ++ Tc) fc) σ H Q) :
    tChain (fun x y H2 Q => ∃ rr, OpR X (compareOp (copOf o1)) rr ∧ rr x y H2 Q) (fun x y H2 Q => ∃ rr, OpR X (compareOp (copOf o2)) rr ∧ rr x y H2 Q) (tE st Wx Ta fa) (tE st Wx (Tb ++ Tc) fb) (tE st Wx Tc fc) σ H Q := by
  obtain ⟨W, S, Fs, G, rfl, hc, sr, sp, h⟩ := of_tE h
  have key : tA st Wx [(fa, Ta), (fb, Tb ++ Tc)] σ W.H fun vs H2 => ∃ x y, vs = [x, y] ∧ ∃ rr, OpR X (compareOp (copOf o1)) rr ∧ rr x y H2 fun z H3 => ∃ k, z = .bl k ∧
      if k = true then tE st Wx Tc fc σ H3 fun w H4 => ∃ rr, OpR X (compareOp (copOf o2)) rr ∧ rr y w H4 Q else Q (.bl false) H3 := by
    refine tA_of hc sr sp (h.bind.mono fun os S1 _ h vs W1 Fs1 G1 F p => ?_)
    split at h
    · rename_i oa ob
      split at h
      · rename_i i j hda hdb
        have hp := p.op.reads p.sr (ds := [.int i, .int j]) (by simp [hda, hdb])
        obtain ⟨x', y', rfl, hx, hy⟩ := pair2 hp
        cases rep_int hx; cases rep_int hy
        refine ⟨_, _, rfl, ?_⟩
        cases hk : cmpD o1 (.int i) (.int j) with
        | none => rw [hk] at h; exact h.elim
        | some k =>
          rw [hk] at h
          obtain ⟨rr, h1, h2⟩ := op_cmp (X := X) xc.un hx hy hk
          refine ⟨rr, h1, h2 _ ⟨k, rfl, ?_⟩⟩
          cases k with
          | true =>
            rw [if_pos rfl]
            refine tE_of (p.evo.ca.trans hc) p.sr p.sep.left ((h.shift p.ev).bind.mono fun oc S2 _ h v2 W2 Fs2 G2 F2 q _ => ?_)
            split at h
            · rename_i k hdc
              cases hk2 : cmpD o2 (.int j) (.int k) with
              | none => rw [hk2] at h; exact h.elim
              | some r =>
                rw [hk2] at h
                have hz := q.dat hdc
                cases rep_int hz
                obtain ⟨rr', h1', h2'⟩ := op_cmp (W := W2) (X := X) xc.un ⟨[], .mkInt j⟩ hz hk2
                refine ⟨rr', h1', h2' _ (h _ W2 Fs2 G2 [] ((p.then q).const' (.mkBl r) |>.mono fun i hi => ?_) trivial)⟩
                have := hT i (tch_false.mp hi)
                simp only [List.mem_append, not_or] at this
                simp [tch, this.1, this.2.1, this.2.2]
            · exact h.elim
          | false =>
            rw [if_neg Bool.false_ne_true]
            refine h _ W1 Fs1 G1 [] ((p.const' (.mkBl false)).mono fun i hi => tch_false.mpr ?_) trivial
            have := hT i (tch_false.mp hi)
            simpa using this
      · exact h.elim
    · exact h.elim
  refine tE_mono (tA_2 key) fun v H1 q => tE_mono q fun u H2 q => ?_
  obtain ⟨x, y, e, rr, h1, h2⟩ := q
  cases e
  exact ⟨rr, h1, h2⟩
theorem xChain_bl {o1 o2 : COp} {fa fb fc : M Opd} {Ta Tb : List (Option Nat)} : ∀ S o S', xChain o1 o2 fa Ta fb Tb fc S = .ok o S' → ∃ c, o = .own (.bl c) := fun S o S' h => by
  unfold xChain at h
  cases e : evL [(fa, Ta), (fb, Tb)] S with
  | fail => rw [e] at h; simp at h
  | exc x S1 => rw [e] at h; simp at h
  | ok os S1 =>
    rw [e] at h
    simp only [R.bind_ok] at h
    split at h
    · split at h
      · split at h
        · cases e2 : fc S1 with
          | fail => rw [e2] at h; simp at h
          | exc x S2 => rw [e2] at h; simp at h
          | ok oc S2 =>
            rw [e2] at h
            simp only [R.bind_ok] at h
            split at h
            · split at h
              · cases h; exact ⟨_, rfl⟩
              · cases h
            · cases h
        · cases h; exact ⟨_, rfl⟩
        · cases h
      · cases h
    · cases h
theorem s_chain {T Ta Tb Tc : List (Option Nat)} {fa fb fc : M Opd} {o1 o2 : COp} {a b c : Expr} {pos : Pos} (xc : XC st X) (hT : ∀ i, i ∉ T → i ∉ Ta ++ (Tb ++ Tc)) (ha : PE X a (tE st Wx Ta fa)) (hb : PE X b (tE st Wx Tb fb)) (hd : PE X c (tE st Wx Tc fc))
    (hm : lastMarks [copOf o1, copOf o2] [b, c] = false) : PE X (.Compare a [copOf o1, copOf o2] [b, c] pos) (tE st Wx T (xChain o1 o2 fa Ta fb (Tb ++ Tc) fc)) :=
  PE.pt fun _ _ _ h => ⟨_, pe_chain opr_ex opr_ex ha (PE_mono hb fun _ _ _ q => tE_wide (fun i hi z => hi (List.mem_append_left _ z)) q) hd hm, rd_chain xc hT h⟩
theorem t_chain {T Ta Tb Tc : List (Option Nat)} {fa fb fc : M Opd} {o1 o2 : COp} {a b c : Expr} {pos : Pos} (xc : XC st X) (hT : ∀ i, i ∉ T → i ∉ Ta ++ (Tb ++ Tc)) (ha : PE X a (tE st Wx Ta fa)) (hb : PE X b (tE st Wx Tb fb)) (hd : PE X c (tE st Wx Tc fc))
    (hm : lastMarks [copOf o1, copOf o2] [b, c] = false) : PT X (.Compare a [copOf o1, copOf o2] [b, c] pos) (tT st Wx T (xTest (xChain o1 o2 fa Ta fb (Tb ++ Tc) fc))) :=
  PT.pt fun _ _ _ h => ⟨_, pt_chain opr_ex opr_ex ha (PE_mono hb fun _ _ _ q => tE_wide (fun i hi z => hi (List.mem_append_left _ z)) q) hd hm, rd_chain xc hT (tT_bool h xChain_bl)⟩

/-! ### values of their own -/
theorem Posts.val {T : Tch} {W W1 : Wd} {S S1 S2 : DS} {Fs Fs1 : List (List Addr)} {G G1 : List Addr} {o : Opd} {v : V} {F : List Addr} {d : D} (p : Posts T W σ S Fs G [o] S1 [v] W1 Fs1 G1 F) (h : valM o S1 = .ok d S2)
    (hT : ∀ i, o = .loc ⟨.slot i, []⟩ → T (some i) = true) : ∃ Fs2 F2, Posts T W σ S Fs G [.own d] S2 [v] W1 Fs2 G1 F2 := by
  cases o with
  | own e => cases h; exact ⟨Fs1, F, p⟩
  | loc l =>
    obtain ⟨rt, pth⟩ := l
    cases rt with
    | reg r =>
      cases pth with
      | cons s q => simp [valM] at h
      | nil =>
        cases h
        have hop := p.op
        simp only [OpsRep] at hop
        obtain ⟨v', ws, e, ⟨u, hu, hv⟩, e2, rfl⟩ := hop
        cases e
        simp only [ValAt] at hv
        subst hv
        exact ⟨Fs1, [], p.const' (by simp only [Rep]; exact ⟨trivial, hu⟩)⟩
    | slot i =>
      cases pth with
      | cons s q => simp [valM] at h
      | nil =>
        simp only [valM] at h
        cases e1 : S1.ds[i]? with
        | none => rw [e1] at h; cases h
        | some oo =>
          cases oo with
          | none => rw [e1] at h; cases h
          | some d' =>
            rw [e1] at h
            cases h
            have hop := p.op
            simp only [OpsRep] at hop
            obtain ⟨v', ws, e, ⟨u, hu, hv⟩, e2, rfl⟩ := hop
            cases e
            simp only [ValAt] at hv
            subst hv
            obtain ⟨v'', Fi, g1, g2, r⟩ := p.sr.sl.at e1
            simp only [rootV, g1, Option.join_some, Option.some.injEq] at hu
            subst hu
            have pm := flat_set0 g2
            have pm2 : ((Fs1.flatten ++ G1) ++ []).Perm (((Fs1.set i []).flatten ++ G1) ++ Fi) := List.perm_iff_count.mpr fun a => by
              have := List.perm_iff_count.mp pm a
              simp only [List.count_append, List.count_nil] at this ⊢
              omega
            refine ⟨Fs1.set i [], Fi, ⟨⟨p.sr.sl.drop i, p.sr.rg⟩, ⟨_, [], Fi, [], rfl, r, ⟨rfl, rfl⟩, by simp⟩, p.sep.pm pm2, p.evo.sub fun a ha => pm2.mem_iff.mpr ha, ?_⟩⟩
            have ti := hT i rfl
            refine ⟨fun j hj => ?_, p.pres.rg⟩
            have hji : i ≠ j := fun z => by subst z; rw [ti] at hj; cases hj
            obtain ⟨a1, a2, a3⟩ := p.pres.sl j hj
            exact ⟨by show (S1.ds.set i none)[j]? = _; rw [List.getElem?_set_ne hji]; exact a1, by rw [List.getElem?_set_ne hji]; exact a2, a3⟩
theorem placed_mkO {T : Tch} {W W1 : Wd} {S S1 : DS} {Fs Fs1 : List (List Addr)} {G G1 : List Addr} {v : V} {F : List Addr} {d : D} (p : Posts T W σ S Fs G [.own d] S1 [v] W1 Fs1 G1 F) : Posts T W σ S Fs G [mkO d] S1 [v] W1 Fs1 G1 F ∧ placed S1 (mkO d) := by
  cases d with
  | link r =>
    have hop := p.op
    simp only [OpsRep] at hop
    obtain ⟨v', ws, F1, F2, e, hr, ⟨e2, rfl⟩, pm⟩ := hop
    cases e
    simp only [Rep] at hr
    obtain ⟨rfl, hr⟩ := hr
    have := pm.eq_nil
    subst this
    have hl : r < S1.rg.length := by rw [← p.sr.rg.len]; exact (List.getElem?_eq_some_iff.mp hr).1
    exact ⟨⟨p.sr, ⟨_, [], rfl, ⟨_, hr, rfl⟩, ⟨rfl, rfl⟩⟩, p.sep, p.evo, p.pres⟩, ⟨S1.rg[r], by simp [look, rootD, hl, getP]⟩⟩
  | _ => exact ⟨p, trivial⟩
/-- what is wanted of an evaluation to a value -/
theorem xVal_out {W W1 : Wd} {S S1 : DS} {Fs Fs1 : List (List Addr)} {G G1 : List Addr} {o : Opd} {K : D → DS → Prop} (h : Out Wx W σ Fs G (valM o S1) K) : ∃ d S2, valM o S1 = .ok d S2 ∧ K d S2 := by
  cases e : valM o S1 with
  | fail => rw [e] at h; exact h.elim
  | exc x S' =>
    exfalso
    cases o with
    | own d => cases e
    | loc l =>
      obtain ⟨rt, p⟩ := l
      cases rt <;> cases p <;> simp only [valM] at e <;> (try cases e)
      split at e <;> cases e
  | ok d S2 => rw [e] at h; exact ⟨d, S2, rfl, h⟩
theorem rd_ife {T Tt Ta Tb : List (Option Nat)} {ft : M Bool} {fa fb : M Opd} {Q : VK} (hT : ∀ i, i ∉ T → i ∉ Tt ++ (Ta ++ Tb)) (ha : ∀ S i S', fa S = .ok (.loc ⟨.slot i, []⟩) S' → some i ∈ T) (hb : ∀ S i S', fb S = .ok (.loc ⟨.slot i, []⟩) S' → some i ∈ T)
    (h : tE st Wx T (xIfe ft fa fb) σ H Q) : tIf (tT st Wx Tt ft) (tE st Wx Ta fa) (tE st Wx Tb fb) σ H Q := by
  obtain ⟨W, S, Fs, G, rfl, hc, sr, sp, h⟩ := of_tE h
  refine tT_of hc sr sp (h.bind.mono fun c S1 _ h W1 Fs1 G1 p => ?_)
  have fin : ∀ {U : List (Option Nat)} {f : M Opd} {S2 : DS} {o : Opd} {v2 : V} {W2 : Wd} {Fs2 : List (List Addr)} {G2 F2 : List Addr}, (∀ i, i ∉ T → i ∉ Tt ++ U) → (∀ S i S', f S = .ok (.loc ⟨.slot i, []⟩) S' → some i ∈ T) → f S1 = .ok o S2 →
      Posts (tch U) W1 σ S1 Fs1 G1 [o] S2 [v2] W2 Fs2 G2 F2 → Out Wx W σ Fs G ((valM o S2).bind fun d S3 => .ok (mkO d) S3) (fun o S' => ∀ v W' Fs' G' F, Posts (tch T) W σ S Fs G [o] S' [v] W' Fs' G' F → placed S' o → Q v W'.H) → Q v2 W2.H := fun {U f S2 o v2 W2 Fs2 G2 F2} hU hl e q h => by
    obtain ⟨d, S3, e3, h⟩ := xVal_out (W1 := W) (S := S) (Fs1 := Fs) (G1 := G) h.bind
    have q1 : Posts (tch T) W σ S Fs G [o] S2 [v2] W2 Fs2 G2 F2 := Posts.or hU (p.then q)
    obtain ⟨Fs3, F3, q3⟩ := q1.val e3 fun i hi => by subst hi; simpa [tch] using hl _ _ _ e
    obtain ⟨q4, pl⟩ := placed_mkO q3
    exact h v2 W2 Fs3 G2 F3 q4 pl
  cases c with
  | true =>
    rw [if_pos rfl] at h ⊢
    refine tE_of (p.evo.ca.trans hc) p.sr p.sep.left ?_
    have h2 : Out Wx W σ Fs G (fa S1) fun o S2 => Out Wx W σ Fs G ((valM o S2).bind fun d S3 => .ok (mkO d) S3) (fun o S' => ∀ v W' Fs' G' F, Posts (tch T) W σ S Fs G [o] S' [v] W' Fs' G' F → placed S' o → Q v W'.H) := by
      unfold xVal at h
      refine Out.bind (k := fun o S2 => (valM o S2).bind fun d S3 => .ok (mkO d) S3) ?_
      cases e : fa S1 with
      | fail => rw [e] at h; exact h
      | exc x S' => rw [e] at h; exact h
      | ok o S2 => rw [e] at h; exact h
    exact (h2.shift p.ev).mono fun o S2 e h v2 W2 Fs2 G2 F2 q _ => fin (fun i hi => by have := hT i hi; simp only [List.mem_append, not_or] at this ⊢; exact ⟨this.1, this.2.1⟩) ha e q h
  | false =>
    rw [if_neg Bool.false_ne_true] at h ⊢
    refine tE_of (p.evo.ca.trans hc) p.sr p.sep.left ?_
    have h2 : Out Wx W σ Fs G (fb S1) fun o S2 => Out Wx W σ Fs G ((valM o S2).bind fun d S3 => .ok (mkO d) S3) (fun o S' => ∀ v W' Fs' G' F, Posts (tch T) W σ S Fs G [o] S' [v] W' Fs' G' F → placed S' o → Q v W'.H) := by
      unfold xVal at h
      refine Out.bind (k := fun o S2 => (valM o S2).bind fun d S3 => .ok (mkO d) S3) ?_
      cases e : fb S1 with
      | fail => rw [e] at h; exact h
      | exc x S' => rw [e] at h; exact h
      | ok o S2 => rw [e] at h; exact h
    exact (h2.shift p.ev).mono fun o S2 e h v2 W2 Fs2 G2 F2 q _ => fin (fun i hi => by have := hT i hi; simp only [List.mem_append, not_or] at this ⊢; exact ⟨this.1, this.2.2⟩) hb e q h
end
end RB
end

section
set_option Elab.async false
set_option maxRecDepth 100000
namespace RB
open PySem L2

section
variable {st : Sta} {Wx : WX} {X : Cx} {σ : St} {H : Hp}
/-! ### several values of their own -/
theorem vals_aux {W : Wd} {G : List Addr} : ∀ {os : List Opd} {S1 S2 : DS} {Fs1 : List (List Addr)} {F : List Addr} {vs : List V} {ds : List D}, SR W σ S1 Fs1 G → OpsRep W σ os vs F → valL os S1 = .ok ds S2 →
    ∃ Fs2 F2, SR W σ S2 Fs2 G ∧ RepL W ds vs F2 ∧ ((Fs1.flatten ++ G) ++ F).Perm ((Fs2.flatten ++ G) ++ F2) ∧ (∀ j, j ∉ slotsOf os → S2.ds[j]? = S1.ds[j]? ∧ Fs2[j]? = Fs1[j]?) ∧ S2.rg = S1.rg
  | [], S1, S2, Fs1, F, vs, ds, sr, op, h => by
    simp only [valL] at h
    cases h
    simp only [OpsRep] at op
    obtain ⟨rfl, rfl⟩ := op
    exact ⟨Fs1, [], sr, ⟨rfl, rfl⟩, .refl _, fun j _ => ⟨rfl, rfl⟩, rfl⟩
  | o :: os, S1, S2, Fs1, F, vs, ds, sr, op, h => by
    simp only [valL] at h
    cases e : valM o S1 with
    | fail => rw [e] at h; cases h
    | exc x S' => rw [e] at h; cases h
    | ok d S' =>
      rw [e] at h
      simp only [R.bind_ok] at h
      cases e' : valL os S' with
      | fail => rw [e'] at h; cases h
      | exc x S'' => rw [e'] at h; cases h
      | ok ds' S'' =>
        rw [e'] at h
        cases h
        cases o with
        | own d0 =>
          cases e
          simp only [OpsRep] at op
          obtain ⟨v, ws, F1, F2, rfl, h1, h2, pm⟩ := op
          obtain ⟨Fs2, F3, sr2, r2, pm2, un, rg⟩ := vals_aux sr h2 e'
          refine ⟨Fs2, F1 ++ F3, sr2, ⟨v, ws, F1, F3, rfl, h1, r2, .refl _⟩, List.perm_iff_count.mpr fun a => ?_, un, rg⟩
          have c1 := List.perm_iff_count.mp pm a
          have c2 := List.perm_iff_count.mp pm2 a
          simp only [List.count_append] at c1 c2 ⊢
          omega
        | loc l =>
          obtain ⟨rt, pth⟩ := l
          simp only [OpsRep] at op
          obtain ⟨v, ws, rfl, ⟨u, hu, hv⟩, h2⟩ := op
          cases rt with
          | reg r =>
            cases pth with
            | cons s q => simp [valM] at e
            | nil =>
              cases e
              simp only [ValAt] at hv
              subst hv
              obtain ⟨Fs2, F3, sr2, r2, pm2, un, rg⟩ := vals_aux sr h2 e'
              exact ⟨Fs2, F3, sr2, ⟨_, ws, [], F3, rfl, by simp only [Rep]; exact ⟨trivial, hu⟩, r2, by simp⟩, pm2, un, rg⟩
          | slot i =>
            cases pth with
            | cons s q => simp [valM] at e
            | nil =>
              simp only [valM] at e
              cases e1 : S1.ds[i]? with
              | none => rw [e1] at e; cases e
              | some oo =>
                cases oo with
                | none => rw [e1] at e; cases e
                | some d' =>
                  rw [e1] at e
                  cases e
                  simp only [ValAt] at hv
                  subst hv
                  obtain ⟨v'', Fi, g1, g2, r⟩ := sr.sl.at e1
                  simp only [rootV, g1, Option.join_some, Option.some.injEq] at hu
                  subst hu
                  obtain ⟨Fs2, F3, sr2, r2, pm2, un, rg⟩ := vals_aux (S1 := { S1 with ds := S1.ds.set i none }) (Fs1 := Fs1.set i []) ⟨sr.sl.drop i, sr.rg⟩ h2 e'
                  refine ⟨Fs2, Fi ++ F3, sr2, ⟨_, ws, Fi, F3, rfl, r, r2, .refl _⟩, List.perm_iff_count.mpr fun a => ?_, fun j hj => ?_, rg⟩
                  · have c1 := List.perm_iff_count.mp (flat_set0 g2) a
                    have c2 := List.perm_iff_count.mp pm2 a
                    simp only [List.count_append] at c1 c2 ⊢
                    omega
                  · simp only [slotsOf, List.mem_cons, not_or] at hj
                    obtain ⟨u1, u2⟩ := un j hj.2
                    exact ⟨u1.trans (List.getElem?_set_ne (Ne.symm hj.1)), u2.trans (List.getElem?_set_ne (Ne.symm hj.1))⟩
theorem ops_own {W : Wd} : ∀ {ds : List D} {vs : List V} {F : List Addr}, RepL W ds vs F → OpsRep W σ (ds.map .own) vs F
  | [], vs, F, h => by simpa only [RepL, OpsRep, List.map_nil] using h
  | d :: ds, vs, F, h => by
    simp only [RepL] at h
    obtain ⟨v, ws, F1, F2, e, h1, h2, pm⟩ := h
    simp only [List.map_cons, OpsRep]
    exact ⟨v, ws, F1, F2, e, h1, ops_own h2, pm⟩
theorem own_ops {W : Wd} : ∀ {ds : List D} {vs : List V} {F : List Addr}, OpsRep W σ (ds.map .own) vs F → RepL W ds vs F
  | [], vs, F, h => by simpa only [RepL, OpsRep, List.map_nil] using h
  | d :: ds, vs, F, h => by
    simp only [List.map_cons, OpsRep] at h
    obtain ⟨v, ws, F1, F2, e, h1, h2, pm⟩ := h
    simp only [RepL]
    exact ⟨v, ws, F1, F2, e, h1, own_ops h2, pm⟩
/-- the slots among operands at no path -/
theorem Posts.vals {T : Tch} {W W1 : Wd} {S S1 S2 : DS} {Fs Fs1 : List (List Addr)} {G G1 : List Addr} {os : List Opd} {vs : List V} {F : List Addr} {ds : List D} (p : Posts T W σ S Fs G os S1 vs W1 Fs1 G1 F) (h : valL os S1 = .ok ds S2)
    (hT : ∀ i, i ∈ slotsOf os → T (some i) = true) : ∃ Fs2 F2, Posts T W σ S Fs G (ds.map .own) S2 vs W1 Fs2 G1 F2 := by
  obtain ⟨Fs2, F2, sr2, r2, pm, un, rg⟩ := vals_aux p.sr p.op h
  refine ⟨Fs2, F2, sr2, ops_own r2, p.sep.pm pm, p.evo.sub fun a ha => pm.mem_iff.mpr ha, ⟨fun j hj => ?_, fun hr => ?_⟩⟩
  · have hji : j ∉ slotsOf os := fun z => by rw [hT j z] at hj; cases hj
    obtain ⟨a1, a2, a3⟩ := p.pres.sl j hj
    obtain ⟨b1, b2⟩ := un j hji
    exact ⟨b1.trans a1, b2.trans a2, a3⟩
  · obtain ⟨a1, a2, a3, a4⟩ := p.pres.rg hr
    exact ⟨rg.trans a1, a2, a3, a4⟩
theorem valL_out {W : Wd} {Fs : List (List Addr)} {G : List Addr} : ∀ {os : List Opd} {S1 : DS} {K : List D → DS → Prop}, Out Wx W σ Fs G (valL os S1) K → ∃ ds S2, valL os S1 = .ok ds S2 ∧ K ds S2
  | [], S1, K, h => ⟨[], S1, rfl, h⟩
  | o :: os, S1, K, h => by
    simp only [valL] at h ⊢
    obtain ⟨d, S2, e, h⟩ := xVal_out (W1 := W) (S := S1) (Fs1 := Fs) (G1 := G) h.bind
    obtain ⟨ds, S3, e', h⟩ := valL_out h.bind
    exact ⟨d :: ds, S3, by rw [e]; simp [e'], h⟩

/-! ### displays -/
theorem rd_lst {T : List (Option Nat)} {ms : List (M Opd × List (Option Nat))} {Q : VK} (hT : ∀ i, i ∉ T → i ∉ ms.flatMap (·.2)) (hs : ∀ S os S', evL ms S = .ok os S' → ∀ i ∈ slotsOf os, some i ∈ T) (h : tE st Wx T (xLst ms) σ H Q) : tLst (tA st Wx ms) σ H Q := by
  obtain ⟨W, S, Fs, G, rfl, hc, sr, sp, h⟩ := of_tE h
  refine tA_of hc sr sp (h.bind.mono fun os S1 e h vs W1 Fs1 G1 F p => ?_)
  have hl := p.len
  split at h
  · rename_i hz
    obtain ⟨ds, S2, e2, h⟩ := valL_out h.bind
    refine ⟨by rw [szl, hl]; exact hz, fun q hq => ?_⟩
    have p' : Posts (tch T) W σ S Fs G os S1 vs W1 Fs1 G1 F := p.mono fun i hi => tch_false.mpr (hT i (tch_false.mp hi))
    obtain ⟨Fs2, F2, p2⟩ := p'.vals e2 fun i hi => by simpa [tch] using hs S os S1 e i hi
    have r2 := own_ops p2.op
    have nq : q ∉ F2 := fun z => by obtain ⟨o, ho⟩ := RepL.trk _ r2 q z; rw [hq] at ho; cases ho
    have npq : ¬ W1.P q := fun z => by obtain ⟨o, ho⟩ := p2.sep.tk q z; rw [hq] at ho; cases ho
    refine h (.ref q) (W1.put q (.lst vs)) Fs2 G1 (q :: F2) (p2.fin (F := F2) ⟨fun a o z _ => ?_, fun a z => z, fun a z => ?_, fun a z => .inl z, ⟨[], by simp⟩, rfl⟩ ⟨?_, fun a z => ?_, fun a z => ?_, fun a z => ?_⟩ ?_ rfl) trivial
    · show upd W1.H q _ a = some o; rw [upd_ne (ne_of_none z hq)]; exact z
    · rcases List.mem_cons.mp z with rfl | z
      · exact .inr hq
      · exact .inl z
    · exact List.nodup_cons.mpr ⟨nq, p2.sep.right.nd⟩
    · rcases List.mem_cons.mp z with rfl | z
      · exact npq
      · exact p2.sep.right.np a z
    · obtain ⟨o, ho⟩ := p2.sep.tk a z
      exact ⟨o, by show upd W1.H q _ a = some o; rw [upd_ne (ne_of_none ho hq)]; exact ho⟩
    · rcases List.mem_cons.mp z with rfl | z
      · exact ⟨_, upd_same⟩
      · obtain ⟨o, ho⟩ := p2.sep.right.tr a z
        exact ⟨o, by show upd W1.H q _ a = some o; rw [upd_ne (ne_of_none ho hq)]; exact ho⟩
    · simp only [Rep]
      exact ⟨q, vs, F2, rfl, upd_same, RepL.frame _ r2 (stay_new _ _ hq), .refl _⟩
  · exact h.elim
theorem s_lst {T : List (Option Nat)} {ms : List (M Opd × List (Option Nat))} {es : List Expr} {pos : Pos} (hT : ∀ i, i ∉ T → i ∉ ms.flatMap (·.2)) (hs : ∀ S os S', evL ms S = .ok os S' → ∀ i ∈ slotsOf os, some i ∈ T) (h : PA X es (tA st Wx ms)) : PE X (.List es pos) (tE st Wx T (xLst ms)) :=
  PE.pt fun _ _ _ q => ⟨_, pe_lst h, rd_lst hT hs q⟩
theorem rd_tup {T : List (Option Nat)} {ms : List (M Opd × List (Option Nat))} {Q : VK} (hT : ∀ i, i ∉ T → i ∉ ms.flatMap (·.2)) (hs : ∀ S os S', evL ms S = .ok os S' → ∀ i ∈ slotsOf os, some i ∈ T) (h : tE st Wx T (xTup ms) σ H Q) : tTup (tA st Wx ms) σ H Q := by
  obtain ⟨W, S, Fs, G, rfl, hc, sr, sp, h⟩ := of_tE h
  refine tA_of hc sr sp (h.bind.mono fun os S1 e h vs W1 Fs1 G1 F p => ?_)
  have hl := p.len
  split at h
  · rename_i hz
    obtain ⟨ds, S2, e2, h⟩ := valL_out h.bind
    refine ⟨by rw [szl, hl]; exact hz, fun q hq => ?_⟩
    have p' : Posts (tch T) W σ S Fs G os S1 vs W1 Fs1 G1 F := p.mono fun i hi => tch_false.mpr (hT i (tch_false.mp hi))
    obtain ⟨Fs2, F2, p2⟩ := p'.vals e2 fun i hi => by simpa [tch] using hs S os S1 e i hi
    have r2 := own_ops p2.op
    let W2 : Wd := { W1 with H := upd W1.H q (.tup vs), P := fun a => W1.P a ∨ a ∈ F2 ∨ a = q }
    have st2 : Stay W1 W2 F2 := ⟨fun a o _ z => by show upd W1.H q _ a = some o; rw [upd_ne (ne_of_none z hq)]; exact z, fun a z => .inl z, ⟨[], by simp [W2]⟩, rfl⟩
    have r3 : RepL W2 (D.leakL ds) vs [] := RepL.leak _ (RepL.frame _ r2 st2) fun a ha => .inr (.inl ha)
    refine h (.ref q) W2 Fs2 G1 [] (p2.fin (F := F2) ⟨fun a o z _ => ?_, fun a z => .inl z, fun a z => (by cases z), fun a z => ?_, ⟨[], by simp [W2]⟩, rfl⟩ ⟨List.nodup_nil, fun a z => (by cases z), fun a z => ?_, fun a z => (by cases z)⟩ ?_ rfl) trivial
    · show upd W1.H q _ a = some o; rw [upd_ne (ne_of_none z hq)]; exact z
    · rcases z with z | z | rfl
      · exact .inl z
      · exact .inr (.inl z)
      · exact .inr (.inr hq)
    · rcases z with z | z | rfl
      · obtain ⟨o, ho⟩ := p2.sep.tk a z
        exact ⟨o, by show upd W1.H q _ a = some o; rw [upd_ne (ne_of_none ho hq)]; exact ho⟩
      · obtain ⟨o, ho⟩ := p2.sep.right.tr a z
        exact ⟨o, by show upd W1.H q _ a = some o; rw [upd_ne (ne_of_none ho hq)]; exact ho⟩
      · exact ⟨_, upd_same⟩
    · simp only [Rep]
      exact ⟨trivial, q, vs, rfl, .inr (.inr rfl), upd_same, r3⟩
  · exact h.elim
theorem s_tup {T : List (Option Nat)} {ms : List (M Opd × List (Option Nat))} {es : List Expr} {k : Nat} {pos : Pos} (hT : ∀ i, i ∉ T → i ∉ ms.flatMap (·.2)) (hs : ∀ S os S', evL ms S = .ok os S' → ∀ i ∈ slotsOf os, some i ∈ T) (h : PA X es (tA st Wx ms)) : PE X (.Tuple es k pos) (tE st Wx T (xTup ms)) :=
  PE.pt fun _ _ _ q => ⟨_, pe_tup h, rd_tup hT hs q⟩
theorem s_dct0 {T : List (Option Nat)} {pos : Pos} : PE X (.Dict [] [] pos) (tE st Wx T fun S => .ok (.own (.dct true [])) S) := by
  refine PE.pt fun σ H Q h => ⟨_, pe_dnewK, ?_⟩
  obtain ⟨W, S, Fs, G, rfl, hc, sr, sp, h⟩ := of_tE h
  intro p hp
  have p0 := (Posts.nil sr sp).mono (T' := tch T) (by intro i _; rfl)
  have g := Grow.new (W := W) (p := p) (.dK []) ⟨List.nodup_nil, by simp, sp.tk, by simp⟩ hp
  refine h _ (W.put p (.dK [])) Fs G [p] (p0.fin g.evo g.sep ?_ g.rv) trivial
  simp only [Rep]
  exact ⟨p, [], [], rfl, upd_same, ⟨rfl, rfl⟩, .refl _⟩

/-! ### built-in functions and methods -/
theorem rd_bi {T : List (Option Nat)} {ms : List (M Opd × List (Option Nat))} {b : Bi} {Q : VK} (xc : XC st X) (hT : ∀ i, i ∉ T → i ∉ ms.flatMap (·.2)) (h : tE st Wx T (xRead ms (biD b)) σ H Q) :
    tCB (fun vs H2 Q => ∃ rr, CallR X (biV b).val rr ∧ rr vs H2 Q) (tA st Wx ms) σ H Q := by
  refine tA_mono (tE_read hT h) fun vs H1 q => ?_
  obtain ⟨W, ds, d, rfl, hc, sp, hp, hf, q⟩ := q
  exact cr_bi (by rw [xc.K, hc]) xc.calm hp hf sp q
theorem callr_ex {v : Value} : CallR X v (fun vs H2 Q => ∃ rr, CallR X v rr ∧ rr vs H2 Q) := by
  intro pins s σ H xs us Q I r ⟨rr, h1, h2⟩
  exact h1 pins s σ H xs us Q I r h2
theorem rd_bm {T Ta : List (Option Nat)} {fa : M Opd} {ms : List (M Opd × List (Option Nat))} {b : Bm} {Q : VK} (xc : XC st X) (hT : ∀ i, i ∉ T → i ∉ Ta ++ ms.flatMap (·.2)) (h : tE st Wx T (xRead ((fa, Ta) :: ms) fun ds => match ds with | d :: r => bmD b d r | _ => none) σ H Q) :
    tE st Wx Ta fa σ H fun x H1 => tA st Wx ms σ H1 fun vs H2 => ∃ W d ds r, W.H = H2 ∧ W.st = st ∧ Sep W [] ∧ RepB W d x ∧ Paired (RepB W) ds vs ∧ bmD b d ds = some r ∧ ∀ v W' F, Grow W W' F → Rep W' r v F → Q v W'.H := by
  refine tE_mono (tA_cons (tE_read (by simpa using hT) h)) fun v H1 q => tA_mono q fun vs H2 q => ?_
  obtain ⟨W, ds, d, rfl, hc, sp, hp, hf, q⟩ := q
  split at hf
  · rename_i d0 r0
    cases hp with
    | cons h1 h2 => exact ⟨W, _, _, d, rfl, hc, sp, h1, h2, hf, q⟩
  · cases hf

/-! ### slices -/
theorem PO.pt {e : Option Expr} {T : TO} (h : ∀ σ H Q, T σ H Q → ∃ t, PO X e t ∧ t σ H Q) : PO X e T :=
  ⟨fun pins s σ H Q I q => by obtain ⟨t, p, z⟩ := h σ H Q q; exact p.run pins s σ H Q I z⟩
end
end RB
end

section
set_option Elab.async false
set_option maxRecDepth 100000
namespace RB
open PySem L2
theorem mem_atI {α : Type} {l : List α} {k : Int} {c : α} (h : atI l k = some c) : c ∈ l := by
  unfold atI at h
  obtain ⟨j, _, h⟩ := Option.bind_eq_some_iff.mp h
  exact List.mem_of_getElem? h

section
variable {st : Sta} {Wx : WX} {X : Cx} {σ : St} {H : Hp}
/-! ### slices -/
theorem slr_ex : SlR X (fun x lo hi H2 Q => ∃ rr, SlR X rr ∧ rr x lo hi H2 Q) := by
  have h : ∀ rr : V → Option Int → Option Int → Hp → VK → Prop, SlR X rr → SlR X rr := fun _ h => h
  unfold SlR at *
  intro pins s σ H x lo hi
  intros
  rename_i hh
  obtain ⟨rr, h1, h2⟩ := hh
  apply h1 <;> assumption
theorem tE_int {T : List (Option Nat)} {f : M Opd} {Q : VK} (h : tE st Wx T (xInt f) σ H Q) : tE st Wx T f σ H fun y H1 => ∃ i, y = .int i ∧ Q (.int i) H1 := by
  obtain ⟨W, S, Fs, G, rfl, hc, sr, sp, h⟩ := of_tE h
  refine tE_of hc sr sp (h.bind.mono fun o S1 _ h v W1 Fs1 G1 F p _ => ?_)
  cases o with
  | loc l => exact h.elim
  | own d =>
    cases d with
    | int i =>
      have e := rep_int (p.dat (d := .int i) rfl)
      subst e
      exact ⟨i, rfl, h _ W1 Fs1 G1 F p trivial⟩
    | _ => exact h.elim
theorem rd_slice {T Ta : List (Option Nat)} {fa : M Opd} {ml mh : List (M Opd × List (Option Nat))} {l h : Bool} {Q : VK} (xc : XC st X) (hT : ∀ i, i ∉ T → i ∉ Ta ++ (ml ++ mh).flatMap (·.2)) (hh : tE st Wx T (xRead ((fa, Ta) :: (ml ++ mh)) (sliceF l h)) σ H Q) :
    tE st Wx Ta fa σ H fun x H1 => tA st Wx (ml ++ mh) σ H1 fun vs H2 => (vs = [] ∧ l = false ∧ h = false ∧ ∃ rr, SlR X rr ∧ rr x none none H2 Q) ∨ (∃ i, vs = [.int i] ∧ l = true ∧ h = false ∧ ∃ rr, SlR X rr ∧ rr x (some i) none H2 Q) ∨
      (∃ i, vs = [.int i] ∧ l = false ∧ h = true ∧ ∃ rr, SlR X rr ∧ rr x none (some i) H2 Q) ∨ ∃ i j, vs = [.int i, .int j] ∧ l = true ∧ h = true ∧ ∃ rr, SlR X rr ∧ rr x (some i) (some j) H2 Q := by
  refine tE_mono (tA_cons (tE_read (by simpa using hT) hh)) fun v H1 q0 => tA_mono q0 fun vs H2 q => ?_
  clear q0
  obtain ⟨W, ds, d, rfl, hc, sp, hp, hf, q⟩ := q
  unfold sliceF at hf
  split at hf
  · cases hp with
    | cons h1 h2 => cases h2; exact .inl ⟨rfl, rfl, rfl, sl_of (by rw [xc.K, hc]) h1 hf sp q⟩
  · cases hp with
    | cons h1 h2 => cases h2 with | cons h2 h3 => cases h3; cases rep_int h2; exact .inr (.inl ⟨_, rfl, rfl, rfl, sl_of (by rw [xc.K, hc]) h1 hf sp q⟩)
  · cases hp with
    | cons h1 h2 => cases h2 with | cons h2 h3 => cases h3; cases rep_int h2; exact .inr (.inr (.inl ⟨_, rfl, rfl, rfl, sl_of (by rw [xc.K, hc]) h1 hf sp q⟩))
  · cases hp with
    | cons h1 h2 => cases h2 with | cons h2 h3 => cases h3 with | cons h3 h4 => cases h4; cases rep_int h2; cases rep_int h3; exact .inr (.inr (.inr ⟨_, _, rfl, rfl, rfl, sl_of (by rw [xc.K, hc]) h1 hf sp q⟩))
  · cases hf
theorem s_slice00 {T Ta : List (Option Nat)} {fa : M Opd} {a : Expr} {p2 pos : Pos} (xc : XC st X) (hT : ∀ i, i ∉ T → i ∉ Ta) (ha : PE X a (tE st Wx Ta fa)) : PE X (.Subscript a (.Slice none none none p2) pos) (tE st Wx T (xRead ((fa, Ta) :: ([] ++ [])) (sliceF false false))) := by
  refine PE.pt fun σ H Q h => ⟨_, pe_slice slr_ex ha po_none po_none, ?_⟩
  refine tE_mono (rd_slice xc (by simpa using hT) h) fun x H1 q => ?_
  have q := tA_nil q
  rcases q with ⟨_, _, _, q⟩ | ⟨i, e, _⟩ | ⟨i, e, _⟩ | ⟨i, j, e, _⟩
  · exact q
  · cases e
  · cases e
  · cases e
theorem s_slice10 {T Ta Tb : List (Option Nat)} {fa fb : M Opd} {a b : Expr} {p2 pos : Pos} (xc : XC st X) (hT : ∀ i, i ∉ T → i ∉ Ta ++ Tb) (ha : PE X a (tE st Wx Ta fa)) (hb : PE X b (tE st Wx Tb fb)) :
    PE X (.Subscript a (.Slice (some b) none none p2) pos) (tE st Wx T (xRead ((fa, Ta) :: ([(xInt fb, Tb)] ++ [])) (sliceF true false))) := by
  refine PE.pt fun σ H Q h => ⟨_, pe_slice slr_ex ha (po_some hb) po_none, ?_⟩
  refine tE_mono (rd_slice xc (by simpa using hT) h) fun x H1 q => ?_
  refine tE_mono (Q := fun y H2 => ∃ i, y = .int i ∧ _) (tE_int (tA_1 q)) fun y H2 q => ?_
  obtain ⟨i, rfl, q⟩ := q
  rcases q with ⟨e, _⟩ | ⟨i, e, _, _, q⟩ | ⟨i, e, z, _⟩ | ⟨i, j, e, _⟩
  · cases e
  · cases e; exact ⟨i, rfl, q⟩
  · cases z
  · cases e
theorem s_slice01 {T Ta Tb : List (Option Nat)} {fa fb : M Opd} {a b : Expr} {p2 pos : Pos} (xc : XC st X) (hT : ∀ i, i ∉ T → i ∉ Ta ++ Tb) (ha : PE X a (tE st Wx Ta fa)) (hb : PE X b (tE st Wx Tb fb)) :
    PE X (.Subscript a (.Slice none (some b) none p2) pos) (tE st Wx T (xRead ((fa, Ta) :: ([] ++ [(xInt fb, Tb)])) (sliceF false true))) := by
  refine PE.pt fun σ H Q h => ⟨_, pe_slice slr_ex ha po_none (po_some hb), ?_⟩
  refine tE_mono (rd_slice xc (by simpa using hT) h) fun x H1 q => ?_
  show tE st Wx Tb fb σ H1 fun y H2 => ∃ i, y = .int i ∧ ∃ rr, SlR X rr ∧ rr x none (some i) H2 Q
  refine tE_mono (Q := fun y H2 => ∃ i, y = .int i ∧ _) (tE_int (tA_1 q)) fun y H2 q => ?_
  obtain ⟨i, rfl, q⟩ := q
  rcases q with ⟨e, _⟩ | ⟨i, e, z, _⟩ | ⟨i, e, _, _, q⟩ | ⟨i, j, e, _⟩
  · cases e
  · cases z
  · cases e; exact ⟨i, rfl, q⟩
  · cases e
theorem s_slice11 {T Ta Tb Tc : List (Option Nat)} {fa fb fc : M Opd} {a b c : Expr} {p2 pos : Pos} (xc : XC st X) (hT : ∀ i, i ∉ T → i ∉ Ta ++ (Tb ++ Tc)) (ha : PE X a (tE st Wx Ta fa)) (hb : PE X b (tE st Wx Tb fb)) (hc : PE X c (tE st Wx Tc fc)) :
    PE X (.Subscript a (.Slice (some b) (some c) none p2) pos) (tE st Wx T (xRead ((fa, Ta) :: ([(xInt fb, Tb)] ++ [(xInt fc, Tc)])) (sliceF true true))) := by
  refine PE.pt fun σ H Q h => ⟨_, pe_slice slr_ex ha (po_some hb) (po_some hc), ?_⟩
  refine tE_mono (rd_slice xc (by simpa using hT) h) fun x H1 q => ?_
  refine tE_mono (Q := fun y H2 => ∃ i, y = .int i ∧ _) (tE_int (tA_cons q)) fun y H2 q => ?_
  obtain ⟨i, rfl, q⟩ := q
  refine ⟨i, rfl, ?_⟩
  refine tE_mono (Q := fun y H2 => ∃ i, y = .int i ∧ _) (tE_int (tA_1 q)) fun y H2 q => ?_
  obtain ⟨j, rfl, q⟩ := q
  rcases q with ⟨e, _⟩ | ⟨i, e, z, _⟩ | ⟨i, e, _, _, q⟩ | ⟨i, j, e, _, _, q⟩
  · cases e
  · cases e
  · cases e
  · cases e; exact ⟨j, rfl, q⟩

/-! ### subscripts -/
theorem ixOf_ixN (n : Nat) (i : Int) : ixOf n i = ixN n i := rfl
theorem ValAt.snoc {H : Hp} {s : Step} {w : V} : ∀ {p : List Step} {v u : V}, ValAt H v p u → ValAt H u [s] w → ValAt H v (p ++ [s]) w
  | [], v, u, h, h' => by cases h; exact h'
  | .fld f :: p, v, u, h, h' => by
    obtain ⟨a, C, dx, fs, w, e, r, l, q⟩ := h
    exact ⟨a, C, dx, fs, w, e, r, l, ValAt.snoc q h'⟩
  | .key f :: p, v, u, h, h' => by
    obtain ⟨a, fs, w, e, r, l, q⟩ := h
    exact ⟨a, fs, w, e, r, l, ValAt.snoc q h'⟩
  | .idx f :: p, v, u, h, h' => by
    obtain ⟨a, fs, w, e, r, l, q⟩ := h
    exact ⟨a, fs, w, e, r, l, ValAt.snoc q h'⟩
theorem getP_snoc {s : Step} : ∀ {p : List Step} {d : D}, getP d (p ++ [s]) = (getP d p).bind fun e => getP e [s]
  | [], d => by simp [getP]
  | .fld f :: p, d => by
    cases d with
    | ins o c fs =>
      simp only [List.cons_append, getP]
      cases lookP fs f with
      | none => rfl
      | some x => simp only [Option.bind_some]; exact getP_snoc
    | _ => simp [getP]
  | .key f :: p, d => by
    cases d with
    | dct o fs =>
      simp only [List.cons_append, getP]
      cases lookP fs f with
      | none => rfl
      | some x => simp only [Option.bind_some]; exact getP_snoc
    | _ => simp [getP]
  | .idx f :: p, d => by
    cases d with
    | tup fs =>
      simp only [List.cons_append, getP]
      cases fs[f]? with
      | none => rfl
      | some x => simp only [Option.bind_some]; exact getP_snoc
    | lst o fs =>
      simp only [List.cons_append, getP]
      cases fs[f]? with
      | none => rfl
      | some x => simp only [Option.bind_some]; exact getP_snoc
    | _ => simp [getP]
/-- a part of an operand -/
theorem Posts.part {T : Tch} {W W1 : Wd} {S S1 : DS} {Fs Fs1 : List (List Addr)} {G G1 : List Addr} {os : List Opd} {oa o : Opd} {v : V} {vs : List V} {F : List Addr} {da : D} {s : Step} (p : Posts T W σ S Fs G (oa :: os) S1 (v :: vs) W1 Fs1 G1 F) (hd : RB.dat S1 oa = some da) (h : partO S1 oa s = some o) :
    ∃ w F', ValAt W1.H v [s] w ∧ Posts T W σ S Fs G [o] S1 [w] W1 Fs1 G1 F' ∧ placed S1 o := by
  have p1 : ∃ F0, Posts T W σ S Fs G [oa] S1 [v] W1 Fs1 G1 F0 := by
    have hop := p.op
    cases oa with
    | own d =>
      simp only [OpsRep] at hop
      obtain ⟨v', ws, F1, F2, e, h1, h2, pm⟩ := hop
      cases e
      have sep : Sep W1 ((Fs1.flatten ++ G1) ++ (F1 ++ F2)) := p.sep.pm (pm.append_left _)
      refine ⟨F1, ⟨p.sr, ⟨v, [], F1, [], rfl, h1, ⟨rfl, rfl⟩, by simp⟩, ?_, p.evo.sub fun a ha => ?_, p.pres⟩⟩
      · rw [← List.append_assoc] at sep
        exact sep.left
      · rcases List.mem_append.mp ha with ha | ha
        · exact List.mem_append_left _ ha
        · exact List.mem_append_right _ (pm.mem_iff.mpr (List.mem_append_left _ ha))
    | loc l =>
      simp only [OpsRep] at hop
      obtain ⟨v', ws, e, h1, h2⟩ := hop
      cases e
      exact ⟨[], ⟨p.sr, ⟨v, [], rfl, h1, ⟨rfl, rfl⟩⟩, by simpa using p.sep.left, p.evo.sub fun a ha => List.mem_append_left _ (by simpa using ha), p.pres⟩⟩
  obtain ⟨F0, p1⟩ := p1
  cases oa with
  | own d =>
    simp only [partO, Option.map_eq_some_iff] at h
    obtain ⟨c, hg, rfl⟩ := h
    cases hd
    have hop := p1.op
    simp only [OpsRep] at hop
    obtain ⟨v', ws, F1, F2, e, h1, ⟨_, rfl⟩, pm⟩ := hop
    cases e
    obtain ⟨u, G1', G2', vv, r, pm2, _⟩ := Rep.path [s] h1 hg
    have pm3 : F0.Perm (G1' ++ G2') := (pm.trans (by simp)).trans pm2
    have sep : Sep W1 ((Fs1.flatten ++ G1) ++ (G1' ++ G2')) := p1.sep.pm (pm3.append_left _)
    have p2 : Posts T W σ S Fs G [.own c] S1 [u] W1 Fs1 G1 G1' := by
      refine ⟨p1.sr, ⟨u, [], G1', [], rfl, r, ⟨rfl, rfl⟩, by simp⟩, ?_, p1.evo.sub fun a ha => ?_, p1.pres⟩
      · rw [← List.append_assoc] at sep
        exact sep.left
      · rcases List.mem_append.mp ha with ha | ha
        · exact List.mem_append_left _ ha
        · exact List.mem_append_right _ (pm3.mem_iff.mpr (List.mem_append_left _ ha))
    obtain ⟨p3, pl⟩ := placed_mkO p2
    exact ⟨u, G1', vv, p3, pl⟩
  | loc l =>
    have hop := p1.op
    simp only [OpsRep] at hop
    obtain ⟨v', ws, e, hl, ⟨_, rfl⟩⟩ := hop
    cases e
    simp only [partO] at h
    cases e : look S1 ⟨l.root, l.path ++ [s]⟩ with
    | none => rw [e] at h; cases h
    | some c =>
      rw [e] at h
      -- the value there
      obtain ⟨w, F2, hw, rw'⟩ := p1.sr.at e
      have hvs : ValAt W1.H v [s] w := by
        obtain ⟨u, hu, hv⟩ := hl
        obtain ⟨u', hu', hv'⟩ := hw
        simp only at hu' hv'
        rw [hu] at hu'; cases hu'
        -- split the longer way
        have split : ∀ {q : List Step} {a b : V}, ValAt W1.H a q b → ValAt W1.H a (q ++ [s]) w → ValAt W1.H b [s] w := by
          intro q
          induction q with
          | nil => intro a b h h'; cases h; exact h'
          | cons st q ih =>
            intro a b h h'
            cases st with
            | fld f =>
              obtain ⟨a1, C, dx, fs, w1, e1, r1, l1, q1⟩ := h
              obtain ⟨a2, C', dx', fs', w2, e2, r2, l2, q2⟩ := h'
              rw [e1] at e2; cases e2
              rw [r1] at r2; cases r2
              rw [l1] at l2; cases l2
              exact ih q1 q2
            | key f =>
              obtain ⟨a1, fs, w1, e1, r1, l1, q1⟩ := h
              obtain ⟨a2, fs', w2, e2, r2, l2, q2⟩ := h'
              rw [e1] at e2; cases e2
              have e3 : fs = fs' := by
                rcases r1 with r1 | ⟨ob, r1⟩ <;> rcases r2 with r2 | ⟨ob', r2⟩ <;> (rw [r2] at r1; cases r1; try rfl)
              subst e3
              rw [l1] at l2; cases l2
              exact ih q1 q2
            | idx f =>
              obtain ⟨a1, fs, w1, e1, r1, l1, q1⟩ := h
              obtain ⟨a2, fs', w2, e2, r2, l2, q2⟩ := h'
              rw [e1] at e2; cases e2
              have e3 : fs = fs' := by
                rcases r1 with (r1 | ⟨ob, r1⟩) | (r1 | ⟨ob, r1⟩) <;> rcases r2 with (r2 | ⟨ob', r2⟩) | (r2 | ⟨ob', r2⟩) <;> (rw [r2] at r1; cases r1; try rfl)
              subst e3
              rw [l1] at l2; cases l2
              exact ih q1 q2
        exact split hv hv'
      have place : Posts T W σ S Fs G [.loc ⟨l.root, l.path ++ [s]⟩] S1 [w] W1 Fs1 G1 [] := ⟨p1.sr, ⟨w, [], rfl, hw, ⟨rfl, rfl⟩⟩, p1.sep, p1.evo, p1.pres⟩
      have other : (∀ r, c ≠ .link r) → (if c.free = true then some (Opd.own c) else some (.loc ⟨l.root, l.path ++ [s]⟩)) = some o → ∃ w F', ValAt W1.H v [s] w ∧ Posts T W σ S Fs G [o] S1 [w] W1 Fs1 G1 F' ∧ placed S1 o := fun _ h => by
        split at h
        · rename_i hf
          cases h
          have := Rep.free c rw' hf
          subst this
          exact ⟨w, [], hvs, p1.const' rw', trivial⟩
        · cases h
          exact ⟨w, [], hvs, place, ⟨c, e⟩⟩
      cases c with
      | link r =>
        cases h
        simp only [Rep] at rw'
        obtain ⟨rfl, hr⟩ := rw'
        have hlt : r < S1.rg.length := by rw [← p1.sr.rg.len]; exact (List.getElem?_eq_some_iff.mp hr).1
        exact ⟨w, [], hvs, ⟨p1.sr, ⟨w, [], rfl, ⟨w, hr, rfl⟩, ⟨rfl, rfl⟩⟩, p1.sep, p1.evo, p1.pres⟩, ⟨S1.rg[r], by simp [look, rootD, hlt, getP]⟩⟩
      | _ => exact other (by simp) h
theorem s_sub {T Ta Tb : List (Option Nat)} {fa fb : M Opd} {a b : Expr} {pos : Pos} (xc : XC st X) (hT : ∀ i, i ∉ T → i ∉ Ta ++ Tb) (ha : PE X a (tE st Wx Ta fa)) (hb : PE X b (tE st Wx Tb fb)) (hs : PlainIx b) :
    PE X (.Subscript a b pos) (tE st Wx T (xSub fa Ta fb Tb)) := by
  have hu1 : X.A.units + 1 < cLine := by have := xc.un; omega
  refine PE.pt fun σ H Q h => ?_
  obtain ⟨W, S, Fs, G, rfl, hc, sr, sp, h⟩ := of_tE h
  -- which kind of thing it is, is known ahead
  have gen : ∀ (t : TE → TE → TE) (R : V → V → Hp → Prop), (∀ ta tb, PE X a ta → PE X b tb → PE X (.Subscript a b pos) (t ta tb)) → (∀ ta tb, (ta σ W.H fun x H1 => tb σ H1 fun y H2 => R x y H2) → t ta tb σ W.H Q) →
      (tA st Wx [(fa, Ta), (fb, Tb)] σ W.H fun vs H2 => ∃ x y, vs = [x, y] ∧ R x y H2) → ∃ t, PE X (.Subscript a b pos) t ∧ t σ W.H Q := fun t R h1 h2 h3 =>
    ⟨_, h1 _ _ ha hb, h2 _ _ (tE_mono (tA_2 h3) fun x H1 q => tE_mono q fun y H2 ⟨x', y', e, r⟩ => by cases e; exact r)⟩
  replace h := h.bind
  cases e : evL [(fa, Ta), (fb, Tb)] S with
  | fail => rw [e] at h; exact h.elim
  | exc x S1 =>
    refine gen (fun ta tb => tOp (rIxL X.K) ta tb) (fun x y H2 => rIxL X.K x y H2 Q) (fun ta tb h1 h2 => pe_ix ix_list h1 h2 hs) (fun ta tb h => h) (tA_of hc sr sp ?_)
    rw [e] at h ⊢
    exact h
  | ok os S1 =>
    rw [e] at h
    replace h := h.ok
    split at h
    · rename_i oa ob
      -- with the operands: the ends
      have fin : ∀ (R : V → V → Hp → Prop), (∀ x y W1 Fs1 G1 F, Posts (tch T) W σ S Fs G [oa, ob] S1 [x, y] W1 Fs1 G1 F → R x y W1.H) → tA st Wx [(fa, Ta), (fb, Tb)] σ W.H fun vs H2 => ∃ x y, vs = [x, y] ∧ R x y H2 := fun R hR => by
        refine tA_of hc sr sp ?_
        rw [e]
        show ∀ vs W' Fs' G' F, _ → _
        intro vs W1 Fs1 G1 F p
        have hl := p.len
        match vs, hl with
        | [x, y], _ => exact ⟨x, y, rfl, hR x y W1 Fs1 G1 F (p.mono fun i hi => tch_false.mpr (by simpa using hT i (tch_false.mp hi)))⟩
      split at h
      · rename_i ns k hda hdb
        split at h
        · rename_i c hcc
          refine gen (fun ta tb => tOp (rIxL X.K) ta tb) (fun x y H2 => rIxL X.K x y H2 Q) (fun ta tb h1 h2 => pe_ix ix_list h1 h2 hs) (fun ta tb h => h) (fin _ fun x y W1 Fs1 G1 F p => ?_)
          have hp := p.op.reads p.sr (ds := [.scr ns, .int k]) (by simp [hda, hdb])
          obtain ⟨x', y', ee, hx, hy⟩ := pair2 hp
          cases ee
          cases rep_int hy
          obtain ⟨q, rfl, r1⟩ := rep_scr hx
          refine ⟨q, _, k, .int c, rfl, rfl, by rw [xc.K, ← hc, ← p.evo.ca]; exact r1, ?_, h _ W1 Fs1 G1 [] (p.const' (.mkInt c)) trivial⟩
          unfold atI at hcc ⊢
          rw [List.length_map]
          cases hk : ixN ns.length k with
          | none => rw [hk] at hcc; cases hcc
          | some j =>
            rw [hk] at hcc
            simp only [Option.bind_some] at hcc ⊢
            rw [List.getElem?_map, hcc]; rfl
        · exact h.elim
      · rename_i z k hda hdb
        split at h
        · rename_i hz
          split at h
          · rename_i c hcc
            refine gen (fun ta tb => tOp rIxS ta tb) (fun x y H2 => rIxS x y H2 Q) (fun ta tb h1 h2 => pe_ix ix_str h1 h2 hs) (fun ta tb h => h) (fin _ fun x y W1 Fs1 G1 F p => ?_)
            have hp := p.op.reads p.sr (ds := [.str z, .int k]) (by simp [hda, hdb])
            obtain ⟨x', y', ee, hx, hy⟩ := pair2 hp
            cases ee
            have o1 := rep_ok hx
            cases rep_int hy; cases rep_str hx
            exact ⟨z, k, c, rfl, rfl, by rw [szl]; exact hz, hcc, h _ W1 Fs1 G1 [] (p.const' (.mkStr (okS_one o1 (mem_atI hcc)))) trivial⟩
          · exact h.elim
        · exact h.elim
      · rename_i da di hn1 hn2 hda hdb
        cases hst : (stepOf da di).bind (partO S1 oa) with
        | none => rw [hst] at h; exact h.elim
        | some o =>
          rw [hst] at h
          obtain ⟨stp, hs1, hs2⟩ := Option.bind_eq_some_iff.mp hst
          have rd : ∀ {x y : V} {W1 : Wd} {Fs1 : List (List Addr)} {G1 F : List Addr}, Posts (tch T) W σ S Fs G [oa, ob] S1 [x, y] W1 Fs1 G1 F → RepB W1 da x ∧ RepB W1 di y ∧ ∃ w, ValAt W1.H x [stp] w ∧ Q w W1.H := fun {x y W1 Fs1 G1 F} p => by
            have hp := p.op.reads p.sr (ds := [da, di]) (by simp [hda, hdb])
            obtain ⟨x', y', ee, hx, hy⟩ := pair2 hp
            cases ee
            obtain ⟨w, F', vv, p2, pl⟩ := p.part hda hs2
            exact ⟨hx, hy, w, vv, h w W1 Fs1 G1 F' p2 pl⟩
          have atI_of : ∀ {us : List V} {n m : Nat} {k : Int} {w : V}, ixOf n k = some m → us.length = n → us[m]? = some w → atI us k = some w := fun {us n m k w} h1 h2 h3 => by
            unfold atI
            rw [h2, ← ixOf_ixN, h1]
            exact h3
          cases da with
          | lst o' xs =>
            cases di with
            | int k =>
              simp only [stepOf, Option.map_eq_some_iff] at hs1
              obtain ⟨m, hm, rfl⟩ := hs1
              refine gen (fun ta tb => tOp (rIxL X.K) ta tb) (fun x y H2 => rIxL X.K x y H2 Q) (fun ta tb h1 h2 => pe_ix ix_list h1 h2 hs) (fun ta tb h => h) (fin _ fun x y W1 Fs1 G1 F p => ?_)
              obtain ⟨hx, hy, w, vv, q⟩ := rd p
              cases rep_int hy
              obtain ⟨a1, us, F2, rfl, r1, h1⟩ := rep_lst hx
              obtain ⟨a2, vs2, w2, ee, r2, l2, q2⟩ := vv
              cases ee; cases q2
              have e3 : us = vs2 := by
                rcases r2 with (r2 | ⟨ob', r2⟩) | (r2 | ⟨ob', r2⟩) <;> (rw [r1] at r2; cases r2; try rfl)
              subst e3
              exact ⟨a1, us, k, w, rfl, rfl, SqL.of r1, atI_of hm h1.len l2, q⟩
            | _ => simp [stepOf] at hs1
          | tup xs =>
            cases di with
            | int k =>
              simp only [stepOf, Option.map_eq_some_iff] at hs1
              obtain ⟨m, hm, rfl⟩ := hs1
              refine gen (fun ta tb => tOp (rIxT X.K) ta tb) (fun x y H2 => rIxT X.K x y H2 Q) (fun ta tb h1 h2 => pe_ix ix_tup h1 h2 hs) (fun ta tb h => h) (fin _ fun x y W1 Fs1 G1 F p => ?_)
              obtain ⟨hx, hy, w, vv, q⟩ := rd p
              cases rep_int hy
              obtain ⟨a1, us, rfl, r1, h1⟩ := rep_tup hx
              obtain ⟨a2, vs2, w2, ee, r2, l2, q2⟩ := vv
              cases ee; cases q2
              have e3 : us = vs2 := by
                rcases r2 with (r2 | ⟨ob', r2⟩) | (r2 | ⟨ob', r2⟩) <;> (rw [r1] at r2; cases r2; try rfl)
              subst e3
              exact ⟨a1, us, k, w, rfl, rfl, SqT.of r1, atI_of hm h1.len l2, q⟩
            | _ => simp [stepOf] at hs1
          | dct o' xs =>
            have dk : ∀ (kk : Key), stp = .key kk → (∀ {W1 : Wd} {y : V}, RepB W1 di y → y = kV kk) → ∃ t, PE X (.Subscript a b pos) t ∧ t σ W.H Q := fun kk es hk => by
              subst es
              refine gen (fun ta tb => tDGet ta tb) (fun x y H2 => ∃ a v, x = .ref a ∧ DGet H2 a y (some v) ∧ Q v H2) (fun ta tb h1 h2 => pe_dget hu1 h1 h2 hs) (fun ta tb h => h) (fin _ fun x y W1 Fs1 G1 F p => ?_)
              obtain ⟨hx, hy, w, vv, q⟩ := rd p
              cases hk hy
              obtain ⟨a1, us, F2, rfl, r1, h1⟩ := rep_dct hx
              obtain ⟨a2, vs2, w2, ee, r2, l2, q2⟩ := vv
              cases ee; cases q2
              have e3 : us = vs2 := by
                rcases r2 with r2 | ⟨ob', r2⟩ <;> (rw [r1] at r2; cases r2; try rfl)
              subst e3
              refine ⟨a1, w, rfl, ?_, q⟩
              have g := DGet.k (k := kk) r1
              rw [lookP_valV, l2] at g
              exact g
            cases di with
            | int k =>
              simp only [stepOf, Option.some.injEq] at hs1
              exact dk (.inl k) hs1.symm fun hy => rep_int hy
            | str k =>
              simp only [stepOf, Option.some.injEq] at hs1
              exact dk (.inr k) hs1.symm fun hy => rep_str hy
            | _ => simp [stepOf] at hs1
          | _ => simp [stepOf] at hs1
      · exact h.elim
    · exact h.elim
end
end RB
end

section
set_option Elab.async false
set_option maxRecDepth 100000
namespace RB
open PySem L2

section
variable {st : Sta} {Wx : WX} {X : Cx} {σ : St} {H : Hp}
theorem tE_kind {T : List (Option Nat)} {k : D → Bool} {f : M Opd} {Q : VK} (h : tE st Wx T (xKind k f) σ H Q) : tE st Wx T f σ H fun v H1 => (∃ W d, W.H = H1 ∧ W.st = st ∧ RepB W d v ∧ k d = true) ∧ Q v H1 := by
  obtain ⟨W, S, Fs, G, rfl, hc, sr, sp, h⟩ := of_tE h
  refine tE_of hc sr sp (h.bind.mono fun o S1 _ h v W1 Fs1 G1 F p pl => ?_)
  cases e : dat S1 o with
  | none => rw [e] at h; exact h.elim
  | some d =>
    rw [e] at h
    by_cases hk : k d = true
    · simp only [hk, if_true] at h
      exact ⟨⟨W1, d, rfl, p.evo.ca.trans hc, p.dat e, hk⟩, h v W1 Fs1 G1 F p pl⟩
    · simp only [hk] at h
      exact h.elim

/-! ### isinstance -/
def tyN : Ty → String
  | .int => "int" | .str => "str" | .bool => "bool" | .list => "list" | .tuple => "tuple" | .dict => "dict" | .cls _ => ""
def isB : Ty → Bool
  | .cls _ => false
  | _ => true
theorem isi_of {K : PySem.W.Frag} {W : Wd} {d : D} {x : V} {t : Ty} {b : Bool} {ct : CT} (hb : isB t = true) (h : tyD ct t d = some b) (hx : RepB W d x) (hcl : ∀ c o fs, d = .ins o c fs → ct.has c = true → ∃ u, TyX K W.H x u ∧ PySem.W.kitOne K u (.type (tyN t)) = some false) : ∃ u, TyX K W.H x u ∧ PySem.W.kitOne K u (.type (tyN t)) = some b := by
  cases t with
  | cls k => simp [isB] at hb
  | _ =>
    cases d with
    | non => simp only [tyD, Option.some.injEq] at h; subst h; rw [rep_non hx]; exact ⟨_, .base .non, kit_ty (by decide +kernel)⟩
    | bl c => simp only [tyD, Option.some.injEq] at h; subst h; rw [rep_bl hx]; exact ⟨_, .base (.bl c), kit_ty (by decide +kernel)⟩
    | int c => simp only [tyD, Option.some.injEq] at h; subst h; rw [rep_int hx]; exact ⟨_, .base (.int c), kit_ty (by decide +kernel)⟩
    | str c => simp only [tyD, Option.some.injEq] at h; subst h; rw [rep_str hx]; exact ⟨_, .base (.str c), kit_ty (by decide +kernel)⟩
    | lst o c => simp only [tyD, Option.some.injEq] at h; subst h; obtain ⟨a, vs, F, rfl, r, _⟩ := rep_lst hx; exact ⟨_, .base (.lst r), kit_ty (by decide +kernel)⟩
    | tup c => simp only [tyD, Option.some.injEq] at h; subst h; obtain ⟨a, vs, rfl, r, _⟩ := rep_tup hx; exact ⟨_, .base (.tup r), kit_ty (by decide +kernel)⟩
    | dct o c => simp only [tyD, Option.some.injEq] at h; subst h; obtain ⟨a, vs, F, rfl, r, _⟩ := rep_dct hx; exact ⟨_, .base (.dK r), kit_ty (by decide +kernel)⟩
    | ins o c fs =>
      simp only [tyD] at h
      split at h
      · rename_i hc; cases h; exact hcl c o fs rfl hc
      · cases h
    | _ => simp [tyD] at h
theorem s_isi {T Ta : List (Option Nat)} {fa : M Opd} {a : Expr} {p q pos : Pos} {t : Ty} {tn : Str} {ct : CT} (hcl : ∀ (W : Wd) (x : V) (c : Nat) o fs, W.st = st → RepB W (.ins o c fs) x → ct.has c = true → ∃ u, TyX X.K W.H x u ∧ PySem.W.kitOne X.K u (.type (tyN t)) = some false) (hb : isB t = true) (hT : ∀ i, i ∉ T → i ∉ Ta) (ha : PE X a (tE st Wx Ta fa)) (h1 : Gl X "isinstance") (h2 : X.mg "isinstance" = none)
    (hn : Gl X tn) (hm : X.mg tn = none) (hv : bootBuiltins tn = some (.type (tyN t))) (hnn : tn ≠ "__name__") (hdb : (tn == ("__debug__" : Str)) = false) (hs : ∀ r, starEach (a :: r) X.env = (false, eval a X.env) :: starEach r X.env) :
    PE X (.Call (.Name "isinstance" p) [a, .Name tn q] [] pos) (tE st Wx T (xRead [(fa, Ta)] fun ds => match ds with | [x] => (tyD ct t x).map .bl | _ => none)) := by
  refine PE.pt fun σ H Q h => ⟨_, pe_callB call_isi h1 h2 PyProof.Rows.boot_isinstance (pa_cons ha (pa_cons (pe_bltn (v := .ty (tyN t)) hn hm hv rfl hnn hdb) pa_nil rfl) (hs _)) (by decide) (by decide) (hs _) rfl, ?_⟩
  refine tE_mono (tA_1 (tE_read (by simpa using hT) h)) fun v H1 q => ?_
  obtain ⟨W, ds, d, rfl, hc, sp, hp, hf, q⟩ := q
  split at hf
  · obtain ⟨x', e, hx⟩ := pair1 hp
    cases e
    simp only [Option.map_eq_some_iff] at hf
    obtain ⟨c, hf, rfl⟩ := hf
    obtain ⟨u, z1, z2⟩ := isi_of (K := X.K) hb hf hx (fun c o fs e hh => by subst e; exact hcl W v c o fs hc hx hh)
    exact ⟨v, .ty (tyN t), u, _, c, rfl, .ty _, z1, z2, q _ W [] (.refl sp) (.mkBl _)⟩
  · cases hf

/-! ### a place is changed -/
/-- the part at a place of the state, and what stands there instead -/
theorem SR.focus {W : Wd} {S : DS} {Fs : List (List Addr)} {G : List Addr} (sr : SR W σ S Fs G) {l : Loc} {d : D} {v : V} (h : look S l = some d) (hv : LocVal W σ l v) : ∃ F1 F2, Rep W d v F1 ∧ (Fs.flatten ++ G).Perm (F1 ++ F2) ∧ (∀ j A, some j ≠ rootT l.root → Fs[j]? = some A → ∀ b ∈ A, b ∈ F2) ∧ (rootT l.root ≠ none → ∀ b ∈ G, b ∈ F2) ∧
    ∀ W' e S' F1', setLoc S l e = some S' → Stay W W' F2 → W'.RV = W.RV → Rep W' e v F1' → ∃ Fs' G', SR W' σ S' Fs' G' ∧ (Fs'.flatten ++ G').Perm (F1' ++ F2) ∧ (∀ j, some j ≠ rootT l.root → S'.ds[j]? = S.ds[j]? ∧ Fs'[j]? = Fs[j]?) ∧ (rootT l.root ≠ none → S'.rg = S.rg ∧ G' = G) := by
  obtain ⟨rt, p⟩ := l
  unfold look at h
  obtain ⟨x, h1, h2⟩ := Option.bind_eq_some_iff.mp h
  obtain ⟨u, hu, hvv⟩ := hv
  cases rt with
  | slot i =>
    simp only [rootD, Option.join_eq_some_iff] at h1
    obtain ⟨v0, Fi, e1, e2, r⟩ := sr.sl.at h1
    simp only [rootV, e1, Option.join_some, Option.some.injEq] at hu
    subst hu
    obtain ⟨u', A1, A2, vv, r', pm, k⟩ := Rep.path p r h2
    have := ValAt.inj p hvv vv
    subst this
    have pmi := flat_set0 e2
    refine ⟨A1, A2 ++ ((Fs.set i []).flatten ++ G), r', List.perm_iff_count.mpr fun a => ?_, fun j A hj hA b hb => ?_, fun _ b hb => List.mem_append_right _ (List.mem_append_right _ hb), fun W' e S' F1' hs stay rv re => ?_⟩
    · have c1 := List.perm_iff_count.mp pm a
      have c2 := List.perm_iff_count.mp pmi a
      simp only [List.count_append] at c1 c2 ⊢
      omega
    · have hji : i ≠ j := fun z => hj (by subst z; rfl)
      exact List.mem_append_right _ (List.mem_append_left _ (mem_flat (by rw [List.getElem?_set_ne hji]; exact hA) hb))
    · simp only [setLoc, rootD, h1, Option.join_some, Option.bind_some, Option.map_eq_some_iff] at hs
      obtain ⟨x', hx', rfl⟩ := hs
      have rx := k W' e x' F1' hx' stay.left re
      have sl0 : RepS W' (S.ds.set i none) σ (Fs.set i []) := (sr.sl.drop i).frame stay.right.left
      have hi : i < (S.ds.set i none).length := by rw [List.length_set]; exact (List.getElem?_eq_some_iff.mp h1).1
      have sl1 := sl0.set i rx hi
      rw [List.set_set, List.set_set] at sl1
      have es : σ.set i (some v0) = σ := set_same e1
      rw [es] at sl1
      refine ⟨Fs.set i (F1' ++ A2), G, ⟨sl1, by rw [rv]; exact RepL.frame _ sr.rg stay.right.right⟩, List.perm_iff_count.mpr fun a => ?_, fun j hj => ?_, fun _ => ⟨rfl, rfl⟩⟩
      · have c1 := List.perm_iff_count.mp (flat_set (F' := F1' ++ A2) e2) a
        have c2 := List.perm_iff_count.mp pmi a
        simp only [List.count_append] at c1 c2 ⊢
        omega
      · have hji : i ≠ j := fun z => hj (by subst z; rfl)
        exact ⟨List.getElem?_set_ne hji, List.getElem?_set_ne hji⟩
  | reg r0 =>
    simp only [rootD] at h1
    obtain ⟨v0, B1, B2, e1, r, pm0, k0⟩ := RepL.at sr.rg h1
    simp only [rootV, e1, Option.some.injEq] at hu
    subst hu
    obtain ⟨u', A1, A2, vv, r', pm, k⟩ := Rep.path p r h2
    have := ValAt.inj p hvv vv
    subst this
    refine ⟨A1, A2 ++ (B2 ++ Fs.flatten), r', List.perm_iff_count.mpr fun a => ?_, fun j A _ hA b hb => List.mem_append_right _ (List.mem_append_right _ (mem_flat hA hb)), fun z => absurd rfl z, fun W' e S' F1' hs stay rv re => ?_⟩
    · have c1 := List.perm_iff_count.mp pm a
      have c2 := List.perm_iff_count.mp pm0 a
      simp only [List.count_append] at c1 c2 ⊢
      omega
    · simp only [setLoc, rootD, h1, Option.bind_some, Option.map_eq_some_iff] at hs
      obtain ⟨x', hx', rfl⟩ := hs
      have rx := k W' e x' F1' hx' stay.left re
      have g1 := k0 W' x' v0 (F1' ++ A2) stay.right.left rx
      rw [set_same e1] at g1
      refine ⟨Fs, (F1' ++ A2) ++ B2, ⟨sr.sl.frame stay.right.right, by rw [rv]; exact g1⟩, List.perm_iff_count.mpr fun a => ?_, fun j _ => ⟨rfl, rfl⟩, fun z => absurd rfl z⟩
      simp only [List.count_append]
      omega
/-- one object of one's own is changed, with values that are taken in -/
theorem Posts.change {T : Tch} {W W1 : Wd} {S S1 S3 : DS} {Fs Fs1 : List (List Addr)} {G G1 : List Addr} {l : Loc} {ds : List D} {x : V} {vs : List V} {F : List Addr} {d d' : D} {a : Addr} {o' : HO}
    (p : Posts T W σ S Fs G (.loc l :: ds.map .own) S1 (x :: vs) W1 Fs1 G1 F) (h : look S1 l = some d) (hT : T (rootT l.root) = true) (hs : setLoc S1 l d' = some S3)
    (ho : ∀ F1, Rep W1 d x F1 → RepL W1 ds vs F → (F1 ++ F).Nodup → (∀ b ∈ F1, ¬ W1.P b) → a ∈ F1 ∧ ∃ C J, (C ++ J).Perm (F1 ++ F) ∧ Rep (W1.put a o') d' x C) :
    ∃ Fs3 G3, Posts T W σ S Fs G [] S3 [] (W1.put a o') Fs3 G3 [] := by
  have hop := p.op
  simp only [OpsRep] at hop
  obtain ⟨x', ws, e, hl, hd⟩ := hop
  cases e
  obtain ⟨F1, F2, r1, pm, jj, gg, k⟩ := p.sr.focus h hl
  have sepAll : Sep W1 ((F1 ++ F2) ++ F) := p.sep.pm (pm.append_right F)
  have nd1 : (F1 ++ F).Nodup := by
    have h1 := sepAll.nd
    have : ((F1 ++ F2) ++ F).Perm ((F1 ++ F) ++ F2) := List.perm_iff_count.mpr fun b => by simp only [List.count_append]; omega
    exact (List.nodup_append.mp (this.nodup_iff.mp h1)).1
  obtain ⟨ha, C, J, pmC, rC⟩ := ho F1 r1 (own_ops hd) nd1 fun b hb => sepAll.np b (List.mem_append_left _ (List.mem_append_left _ hb))
  have haF2 : a ∉ F2 := fun z => sepAll.left.dj ha z
  have haF : a ∉ F := fun z => sepAll.dj (List.mem_append_left _ ha) z
  have npa : ¬ W1.P a := sepAll.np a (List.mem_append_left _ (List.mem_append_left _ ha))
  have keep : ∀ b u, b ≠ a → W1.H b = some u → (W1.put a o').H b = some u := fun b u hb hu => by show upd W1.H a o' b = some u; rw [upd_ne hb]; exact hu
  have stay : Stay W1 (W1.put a o') F2 := ⟨fun b u hb hu => keep b u (fun z => by subst z; rcases hb with hb | hb; exact haF2 hb; exact npa hb) hu, fun _ z => z, ⟨[], by simp⟩, rfl⟩
  obtain ⟨Fs3, G3, sr3, pm3, un, ug⟩ := k _ d' S3 C hs stay rfl rC
  -- all that is owned then was owned
  have sub : ∀ b ∈ Fs3.flatten ++ G3, b ∈ (F1 ++ F2) ++ F := fun b hb => by
    rcases List.mem_append.mp (pm3.mem_iff.mp hb) with hb | hb
    · rcases List.mem_append.mp (pmC.mem_iff.mp (List.mem_append_left J hb)) with hb | hb
      · exact List.mem_append_left _ (List.mem_append_left _ hb)
      · exact List.mem_append_right _ hb
    · exact List.mem_append_left _ (List.mem_append_right _ hb)
  have nd3 : (Fs3.flatten ++ G3).Nodup := by
    have h1 : ((C ++ F2) ++ J).Perm ((F1 ++ F2) ++ F) := List.perm_iff_count.mpr fun b => by
      have c1 := List.perm_iff_count.mp pmC b
      simp only [List.count_append] at c1 ⊢
      omega
    exact pm3.nodup_iff.mpr (List.nodup_append.mp (h1.nodup_iff.mpr sepAll.nd)).1
  refine ⟨Fs3, G3, sr3, ⟨rfl, rfl⟩, ?_, ?_, ?_⟩
  · rw [List.append_nil]
    refine ⟨nd3, fun b hb => sepAll.np b (sub b hb), fun b hb => ?_, fun b hb => ?_⟩
    · obtain ⟨u, hu⟩ := sepAll.tk b hb
      exact ⟨u, keep b u (fun z => by subst z; exact npa hb) hu⟩
    · by_cases z : b = a
      · subst z; exact ⟨o', upd_same⟩
      · obtain ⟨u, hu⟩ := sepAll.tr b (sub b hb)
        exact ⟨u, keep b u z hu⟩
  · rw [List.append_nil]
    have e1 : Evo W1 ((Fs1.flatten ++ G1) ++ F) (W1.put a o') (Fs3.flatten ++ G3) := by
      refine ⟨fun b u hu hb => keep b u (fun z => ?_) hu, fun _ z => z, fun b hb => .inl ?_, fun _ z => .inl z, ⟨[], by simp⟩, rfl⟩
      · subst z; exact hb (List.mem_append_left _ (pm.mem_iff.mpr (List.mem_append_left _ ha)))
      · rcases List.mem_append.mp (sub b hb) with hb | hb
        · exact List.mem_append_left _ (pm.mem_iff.mpr hb)
        · exact List.mem_append_right _ hb
    exact p.evo.trans e1
  · refine ⟨fun j hj => ?_, fun hr => ?_⟩
    · have hjr : some j ≠ rootT l.root := fun z => by rw [z, hT] at hj; cases hj
      obtain ⟨a1, a2, a3⟩ := p.pres.sl j hj
      obtain ⟨b1, b2⟩ := un j hjr
      refine ⟨b1.trans a1, b2.trans a2, fun A hA c hc => ?_⟩
      rw [← a3 A hA c hc]
      show upd W1.H a o' c = W1.H c
      rw [upd_ne]
      intro z; subst z
      exact haF2 (jj j A hjr (a2.trans hA) _ hc)
    · have hjr : rootT l.root ≠ none := fun z => by rw [z, hr] at hT; cases hT
      obtain ⟨a1, a2, a3, a4⟩ := p.pres.rg hr
      obtain ⟨b1, b2⟩ := ug hjr
      refine ⟨b1.trans a1, b2.trans a2, a3, fun c hc => ?_⟩
      rw [← a4 c hc]
      show upd W1.H a o' c = W1.H c
      rw [upd_ne]
      intro z; subst z
      exact haF2 (gg hjr _ (by rw [a2]; exact hc))
/-- the same, with something that is told -/
theorem Posts.changeR {T : Tch} {W W1 : Wd} {S S1 S3 : DS} {Fs Fs1 : List (List Addr)} {G G1 : List Addr} {l : Loc} {ds : List D} {x y : V} {vs : List V} {F : List Addr} {d d' r : D} {a : Addr} {o' : HO}
    (p : Posts T W σ S Fs G (.loc l :: ds.map .own) S1 (x :: vs) W1 Fs1 G1 F) (h : look S1 l = some d) (hT : T (rootT l.root) = true) (hs : setLoc S1 l d' = some S3)
    (ho : ∀ F1, Rep W1 d x F1 → RepL W1 ds vs F → (F1 ++ F).Nodup → (∀ b ∈ F1, ¬ W1.P b) → (∀ b ∈ F, ¬ W1.P b) → a ∈ F1 ∧ ∃ C J J2, (C ++ (J ++ J2)).Perm (F1 ++ F) ∧ Rep (W1.put a o') d' x C ∧ Rep (W1.put a o') r y J) :
    ∃ Fs3 G3 J, Posts T W σ S Fs G [.own r] S3 [y] (W1.put a o') Fs3 G3 J := by
  have hop := p.op
  simp only [OpsRep] at hop
  obtain ⟨x', ws, e, hl, hd⟩ := hop
  cases e
  obtain ⟨F1, F2, r1, pm, jj, gg, k⟩ := p.sr.focus h hl
  have sepAll : Sep W1 ((F1 ++ F2) ++ F) := p.sep.pm (pm.append_right F)
  have nd1 : (F1 ++ F).Nodup := by
    have h1 := sepAll.nd
    have : ((F1 ++ F2) ++ F).Perm ((F1 ++ F) ++ F2) := List.perm_iff_count.mpr fun b => by simp only [List.count_append]; omega
    exact (List.nodup_append.mp (this.nodup_iff.mp h1)).1
  obtain ⟨ha, C, J, J2, pmC, rC, rJ⟩ := ho F1 r1 (own_ops hd) nd1 (fun b hb => sepAll.np b (List.mem_append_left _ (List.mem_append_left _ hb))) fun b hb => sepAll.np b (List.mem_append_right _ hb)
  have haF2 : a ∉ F2 := fun z => sepAll.left.dj ha z
  have haF : a ∉ F := fun z => sepAll.dj (List.mem_append_left _ ha) z
  have npa : ¬ W1.P a := sepAll.np a (List.mem_append_left _ (List.mem_append_left _ ha))
  have keep : ∀ b u, b ≠ a → W1.H b = some u → (W1.put a o').H b = some u := fun b u hb hu => by show upd W1.H a o' b = some u; rw [upd_ne hb]; exact hu
  have stay : Stay W1 (W1.put a o') F2 := ⟨fun b u hb hu => keep b u (fun z => by subst z; rcases hb with hb | hb; exact haF2 hb; exact npa hb) hu, fun _ z => z, ⟨[], by simp⟩, rfl⟩
  obtain ⟨Fs3, G3, sr3, pm3, un, ug⟩ := k _ d' S3 C hs stay rfl rC
  have pmAll : (((Fs3.flatten ++ G3) ++ J) ++ J2).Perm ((F1 ++ F2) ++ F) := List.perm_iff_count.mpr fun b => by
    have c1 := List.perm_iff_count.mp pmC b
    have c2 := List.perm_iff_count.mp pm3 b
    simp only [List.count_append] at c1 c2 ⊢
    omega
  have sub : ∀ b ∈ (Fs3.flatten ++ G3) ++ J, b ∈ (F1 ++ F2) ++ F := fun b hb => pmAll.mem_iff.mp (List.mem_append_left _ hb)
  have nd3 : ((Fs3.flatten ++ G3) ++ J).Nodup := (List.nodup_append.mp (pmAll.nodup_iff.mpr sepAll.nd)).1
  refine ⟨Fs3, G3, J, sr3, ⟨y, [], J, [], rfl, rJ, ⟨rfl, rfl⟩, by simp⟩, ?_, ?_, ?_⟩
  · refine ⟨nd3, fun b hb => sepAll.np b (sub b hb), fun b hb => ?_, fun b hb => ?_⟩
    · obtain ⟨u, hu⟩ := sepAll.tk b hb
      exact ⟨u, keep b u (fun z => by subst z; exact npa hb) hu⟩
    · by_cases z : b = a
      · subst z; exact ⟨o', upd_same⟩
      · obtain ⟨u, hu⟩ := sepAll.tr b (sub b hb)
        exact ⟨u, keep b u z hu⟩
  · have e1 : Evo W1 ((Fs1.flatten ++ G1) ++ F) (W1.put a o') ((Fs3.flatten ++ G3) ++ J) := by
      refine ⟨fun b u hu hb => keep b u (fun z => ?_) hu, fun _ z => z, fun b hb => .inl ?_, fun _ z => .inl z, ⟨[], by simp⟩, rfl⟩
      · subst z; exact hb (List.mem_append_left _ (pm.mem_iff.mpr (List.mem_append_left _ ha)))
      · rcases List.mem_append.mp (sub b hb) with hb | hb
        · exact List.mem_append_left _ (pm.mem_iff.mpr hb)
        · exact List.mem_append_right _ hb
    exact p.evo.trans e1
  · refine ⟨fun j hj => ?_, fun hr => ?_⟩
    · have hjr : some j ≠ rootT l.root := fun z => by rw [z, hT] at hj; cases hj
      obtain ⟨a1, a2, a3⟩ := p.pres.sl j hj
      obtain ⟨b1, b2⟩ := un j hjr
      refine ⟨b1.trans a1, b2.trans a2, fun A hA c hc => ?_⟩
      rw [← a3 A hA c hc]
      show upd W1.H a o' c = W1.H c
      rw [upd_ne]
      intro z; subst z
      exact haF2 (jj j A hjr (a2.trans hA) _ hc)
    · have hjr : rootT l.root ≠ none := fun z => by rw [z, hr] at hT; cases hT
      obtain ⟨a1, a2, a3, a4⟩ := p.pres.rg hr
      obtain ⟨b1, b2⟩ := ug hjr
      refine ⟨b1.trans a1, b2.trans a2, a3, fun c hc => ?_⟩
      rw [← a4 c hc]
      show upd W1.H a o' c = W1.H c
      rw [upd_ne]
      intro z; subst z
      exact haF2 (gg hjr _ (by rw [a2]; exact hc))
/-- an object's parts stay when it is changed itself -/
theorem stay_put {W : Wd} {a : Addr} {o : HO} {F : List Addr} (ha : a ∉ F) (np : ¬ W.P a) : Stay W (W.put a o) F :=
  ⟨fun b u hb hu => by
    show upd W.H a o b = some u
    rw [upd_ne]
    · exact hu
    · intro z; subst z; rcases hb with hb | hb; exact ha hb; exact np hb, fun _ z => z, ⟨[], by simp⟩, rfl⟩
theorem rep_own {W : Wd} {xs : List D} {x : V} {F1 : List Addr} (h : Rep W (.lst true xs) x F1) : ∃ a us, x = .ref a ∧ W.H a = some (.lst us) ∧ us.length = xs.length ∧ a ∈ F1 := by
  simp only [Rep] at h
  obtain ⟨a, us, B, rfl, r, hr, pm⟩ := h
  exact ⟨a, us, rfl, r, hr.len, pm.mem_iff.mpr List.mem_cons_self⟩
/-- the list at a place is changed -/
theorem rep_lchange {W : Wd} {xs ys : List D} {a : Addr} {us ws : List V} {F1 F : List Addr} (h : Rep W (.lst true xs) (.ref a) F1) (hu : W.H a = some (.lst us)) (nd : (F1 ++ F).Nodup) (np : ∀ b ∈ F1, ¬ W.P b)
    (hr : ∀ B, RepL W xs us B → (B ++ F).Nodup → ∃ C J, (C ++ J).Perm (B ++ F) ∧ RepL W ys ws C) : ∃ C J, (C ++ J).Perm (F1 ++ F) ∧ Rep (W.put a (.lst ws)) (.lst true ys) (.ref a) C := by
  simp only [Rep] at h
  obtain ⟨a', us', B, e, r, hB, pm⟩ := h
  cases e
  rw [hu] at r; cases r
  have nd2 : ((a :: B) ++ F).Nodup := (pm.append_right F).nodup_iff.mp nd
  rw [List.cons_append] at nd2
  obtain ⟨naB, ndB⟩ := List.nodup_cons.mp nd2
  obtain ⟨C, J, pmC, rC⟩ := hr B hB ndB
  refine ⟨a :: C, J, ?_, ?_⟩
  · rw [List.cons_append]
    exact (pmC.cons a).trans (by rw [← List.cons_append]; exact (pm.append_right F).symm)
  · simp only [Rep]
    refine ⟨a, ws, C, rfl, upd_same, RepL.frame _ rC (stay_put (fun z => naB (pmC.mem_iff.mp (List.mem_append_left _ z))) (np a (pm.mem_iff.mpr List.mem_cons_self))), .refl _⟩

/-- the list at a place is changed, something is told -/
theorem rep_lchangeR {W : Wd} {xs ys : List D} {r : D} {y : V} {a : Addr} {us ws : List V} {F1 F : List Addr} (h : Rep W (.lst true xs) (.ref a) F1) (hu : W.H a = some (.lst us)) (nd : (F1 ++ F).Nodup) (np : ∀ b ∈ F1, ¬ W.P b)
    (hr : ∀ B, RepL W xs us B → (B ++ F).Nodup → ∃ C J J2, (C ++ (J ++ J2)).Perm (B ++ F) ∧ RepL W ys ws C ∧ Rep W r y J) : ∃ C J J2, (C ++ (J ++ J2)).Perm (F1 ++ F) ∧ Rep (W.put a (.lst ws)) (.lst true ys) (.ref a) C ∧ Rep (W.put a (.lst ws)) r y J := by
  simp only [Rep] at h
  obtain ⟨a', us', B, e, r0, hB, pm⟩ := h
  cases e
  rw [hu] at r0; cases r0
  have nd2 : ((a :: B) ++ F).Nodup := (pm.append_right F).nodup_iff.mp nd
  rw [List.cons_append] at nd2
  obtain ⟨naB, ndB⟩ := List.nodup_cons.mp nd2
  obtain ⟨C, J, J2, pmC, rC, rJ⟩ := hr B hB ndB
  have npa : ¬ W.P a := np a (pm.mem_iff.mpr List.mem_cons_self)
  refine ⟨a :: C, J, J2, ?_, ?_, ?_⟩
  · rw [List.cons_append]
    exact (pmC.cons a).trans (by rw [← List.cons_append]; exact (pm.append_right F).symm)
  · simp only [Rep]
    exact ⟨a, ws, C, rfl, upd_same, RepL.frame _ rC (stay_put (fun z => naB (pmC.mem_iff.mp (List.mem_append_left _ z))) npa), .refl _⟩
  · exact Rep.frame _ rJ (stay_put (fun z => naB (pmC.mem_iff.mp (List.mem_append_right _ (List.mem_append_left _ z)))) npa)

/-! ### methods that change a list -/
/-- what such a method's rule must tell -/
def MmOk (b : Mm) (rr : V → List V → Hp → VK → Prop) : Prop := ∀ (W : Wd) (a : Addr) (us : List V) (xs ds ys : List D) (ws : List V) (B0 F2 : List Addr) (Q : VK) (r : D), W.H a = some (.lst us) → RepL W xs us B0 → RepL W ds ws F2 → mmD b (.lst true xs) ds = some (r, .lst true ys) →
  ∃ (vs' : List V) (y : V), (Q y (upd W.H a (.lst vs')) → rr (.ref a) ws W.H Q) ∧ ∀ B, RepL W xs us B → (B ++ F2).Nodup → ∃ C J J2, (C ++ (J ++ J2)).Perm (B ++ F2) ∧ RepL W ys vs' C ∧ Rep W r y J
theorem mmD_kind {b : Mm} {d : D} {ds : List D} {rd : D × D} (h : mmD b d ds = some rd) : mmK b d = true := by
  unfold mmD at h
  split at h <;> first | rfl | cases h
theorem mmD_lst {b : Mm} {d d' r : D} {ds : List D} (hb : mmK b d = isLst d) (hk : isLst d = true) (h : mmD b d ds = some (r, d')) : ∃ xs ys, d = .lst true xs ∧ d' = .lst true ys := by
  unfold mmD at h
  split at h <;> first
    | (exfalso; cases h; done)
    | (split at h <;> first | (cases h; exact ⟨_, _, rfl, rfl⟩) | (exfalso; cases h; done))
    | (cases h; exact ⟨_, _, rfl, rfl⟩)
    | (simp [isLst] at hk; done)
    | skip
  · split at h
    · split at h
      · cases h; exact ⟨_, _, rfl, rfl⟩
      · cases h
    · cases h
  · split at h
    · split at h
      · cases h; exact ⟨_, _, rfl, rfl⟩
      · cases h
    · cases h
theorem rd_mm {b : Mm} {rr : V → List V → Hp → VK → Prop} {T Ta : List (Option Nat)} {fa : M Opd} {ms : List (M Opd × List (Option Nat))} {Q : VK} (hb : ∀ d, mmK b d = isLst d) (ok : MmOk b rr) (hT : ∀ i, i ∉ T → i ∉ Ta ++ ms.flatMap (·.2)) (hl : ∀ S l S', fa S = .ok (.loc l) S' → rootT l.root ∈ T) (hs : ∀ S os S', evL ms S = .ok os S' → ∀ i ∈ slotsOf os, some i ∈ T)
    (h : tE st Wx T (xMm b (xKind (mmK b) fa) Ta ms) σ H Q) : tE st Wx Ta fa σ H fun x H1 => tyV X.K "list" x H1 ∧ tA st Wx ms σ H1 fun vs H2 => rr x vs H2 Q := by
  obtain ⟨W, S, Fs, G, rfl, hc, sr, sp, h⟩ := of_tE h
  have key : tA st Wx ((xKind (mmK b) fa, Ta) :: ms) σ W.H fun vs H2 => ∃ x xs, vs = x :: xs ∧ rr x xs H2 Q := by
    refine tA_of hc sr sp (h.bind.mono fun os S1 e h vs W1 Fs1 G1 F p => ?_)
    split at h
    · rename_i l os
      -- the slots moved are the arguments'
      have hsl : (∀ i ∈ slotsOf os, some i ∈ T) ∧ rootT l.root ∈ T := by
        simp only [evL] at e
        cases e1 : xKind (mmK b) fa S with
        | fail => rw [e1] at e; cases e
        | exc z S' => rw [e1] at e; cases e
        | ok oo S' =>
          rw [e1] at e
          simp only [R.bind_ok] at e
          split at e
          · cases e2 : evL ms S' with
            | fail => rw [e2] at e; cases e
            | exc z S'' => rw [e2] at e; cases e
            | ok os' S'' =>
              rw [e2] at e
              cases e
              refine ⟨hs _ _ _ e2, ?_⟩
              unfold xKind at e1
              cases e3 : fa S with
              | fail => rw [e3] at e1; cases e1
              | exc z S3 => rw [e3] at e1; cases e1
              | ok o3 S3 =>
                rw [e3] at e1
                simp only [R.bind_ok] at e1
                split at e1
                · split at e1
                  · cases e1; exact hl _ _ _ e3
                  · cases e1
                · cases e1
          · cases e
      obtain ⟨ds, S2, e2, h⟩ := valL_out h.bind
      have p' : Posts (tch T) W σ S Fs G (.loc l :: os) S1 vs W1 Fs1 G1 F := p.mono fun i hi => tch_false.mpr (by simpa using hT i (tch_false.mp hi))
      have hop := p'.op
      simp only [OpsRep] at hop
      obtain ⟨x, ws, rfl, hlv, hos⟩ := hop
      refine ⟨x, ws, rfl, ?_⟩
      obtain ⟨Fs2, F2, sr2, r2, pm, un, rg⟩ := vals_aux p'.sr hos e2
      have p2 : Posts (tch T) W σ S Fs G (.loc l :: ds.map .own) S2 (x :: ws) W1 Fs2 G1 F2 := by
        refine ⟨sr2, ⟨x, ws, rfl, hlv, ops_own r2⟩, p'.sep.pm pm, p'.evo.sub fun a ha => pm.mem_iff.mpr ha, ⟨fun j hj => ?_, fun hr => ?_⟩⟩
        · have hji : j ∉ slotsOf os := fun z => (tch_false.mp hj) (hsl.1 j z)
          obtain ⟨a1, a2, a3⟩ := p'.pres.sl j hj
          obtain ⟨b1, b2⟩ := un j hji
          exact ⟨b1.trans a1, b2.trans a2, a3⟩
        · obtain ⟨a1, a2, a3, a4⟩ := p'.pres.rg hr
          exact ⟨rg.trans a1, a2, a3, a4⟩
      cases e3 : (look S2 l).bind fun d => mmD b d ds with
      | none => rw [e3] at h; exact h.elim
      | some rd =>
        obtain ⟨rv, d'⟩ := rd
        rw [e3] at h
        obtain ⟨d, e4, e5⟩ := Option.bind_eq_some_iff.mp e3
        simp only at h
        cases e6 : setLoc S2 l d' with
        | none => rw [e6] at h; exact h.elim
        | some S3 =>
          rw [e6] at h
          have hk : isLst d = true := by rw [← hb]; exact mmD_kind e5
          obtain ⟨xs, ys, rfl, rfl⟩ := mmD_lst (hb d) hk e5
          obtain ⟨FF, hF⟩ := sr2.read e4 hlv
          obtain ⟨a, us, rfl, hu, hlen, _⟩ := rep_own hF
          have hB0 : ∃ B0, RepL W1 xs us B0 := by
            simp only [Rep] at hF
            obtain ⟨a', us', B, ea, r0, hB, _⟩ := hF
            cases ea
            rw [hu] at r0; cases r0
            exact ⟨B, hB⟩
          obtain ⟨B0, hB0⟩ := hB0
          obtain ⟨vs', y, hq, hch⟩ := ok W1 a us xs ds ys ws B0 F2 Q rv hu hB0 r2 e5
          refine hq ?_
          obtain ⟨Fs3, G3, J, p3⟩ := p2.changeR (a := a) (o' := .lst vs') (r := rv) (y := y) e4 (by simpa [tch] using hsl.2) e6 fun F1 h1 h2 nd np npF => by
            obtain ⟨a', us', ea, hu', _, hm⟩ := rep_own h1
            cases ea
            exact ⟨hm, rep_lchangeR h1 hu nd np hch⟩
          exact h _ _ Fs3 G3 J p3 trivial
    · exact h.elim
  refine tE_mono (tE_kind (tA_cons key)) fun x H1 ⟨⟨W, d, hH, hst, hr, hk⟩, q⟩ => ?_
  rw [hb] at hk
  cases d with
  | lst o xs =>
    obtain ⟨a, vs, F, rfl, r, _⟩ := rep_lst hr
    subst hH
    exact ⟨.inl ⟨rfl, vs, SqL.of r⟩, tA_mono q fun vs H2 ⟨x', xs', e, z⟩ => by cases e; exact z⟩
  | _ => simp [isLst] at hk
theorem RepL.rev {W : Wd} : ∀ {xs : List D} {us : List V} {B : List Addr}, RepL W xs us B → RepL W xs.reverse us.reverse B
  | [], us, B, h => by simp only [RepL] at h; rw [h.1, h.2]; simp [RepL]
  | x :: xs, us, B, h => by
    simp only [RepL] at h
    obtain ⟨v, ws, F1, F2, rfl, h1, h2, pm⟩ := h
    simp only [List.reverse_cons]
    refine (RepL.app (ys := [x]) (us := [v]) (G := F1) ?_ (RepL.rev h2)).pm (List.perm_append_comm.trans pm.symm)
    simp only [RepL]
    exact ⟨v, [], F1, [], rfl, h1, ⟨rfl, rfl⟩, by simp⟩
theorem ok_append : MmOk .append rAppend := by
  intro W a us xs ds ys ws B0 F2 Q r hu hB0 hd h
  match ds, hd, h with
  | [], _, h => simp [mmD] at h
  | _ :: _ :: _, _, h => simp [mmD] at h
  | [e], hd, h =>
    simp only [mmD] at h
    split at h
    · rename_i hz
      cases h
      simp only [RepL] at hd
      obtain ⟨y, ws', A1, A2, rfl, r1, ⟨rfl, rfl⟩, pm⟩ := hd
      refine ⟨us ++ [y], .non, fun q => ⟨a, us, y, rfl, rfl, hu, by rw [szl, hB0.len]; exact hz, q⟩, fun B hB nd => ⟨B ++ F2, [], [], by simp, RepL.app ?_ hB, .mkNon⟩⟩
      simp only [RepL]
      exact ⟨y, [], A1, [], rfl, r1, ⟨rfl, rfl⟩, pm⟩
    · cases h
theorem ok_extend : MmOk .extend rExtend := by
  intro W a us xs ds ys ws B0 F2 Q r hu hB0 hd h
  match ds, hd, h with
  | [], _, h => simp [mmD] at h
  | _ :: _ :: _, _, h => simp [mmD] at h
  | [.lst o zs], hd, h =>
    simp only [mmD] at h
    split at h
    · rename_i hz
      simp only [Bool.and_eq_true, decide_eq_true_eq] at hz
      cases h
      simp only [RepL] at hd
      obtain ⟨y, ws', A1, A2, rfl, r1, ⟨rfl, rfl⟩, pm⟩ := hd
      obtain ⟨b, vs, F, rfl, rb, hz2⟩ := rep_lst ⟨_, r1⟩
      exact ⟨us ++ vs, .non, fun q => ⟨a, b, us, vs, rfl, rfl, hu, rb, by rw [szl, hB0.len, hz2.len]; exact hz.2, q⟩, fun B hB nd => ⟨B ++ [], [], F2, by simp, RepL.app (hz2.free0 hz.1) hB, .mkNon⟩⟩
    · cases h
  | [.non], _, h => simp [mmD] at h
  | [.bl _], _, h => simp [mmD] at h
  | [.int _], _, h => simp [mmD] at h
  | [.str _], _, h => simp [mmD] at h
  | [.tup _], _, h => simp [mmD] at h
  | [.dct _ _], _, h => simp [mmD] at h
  | [.ins _ _ _], _, h => simp [mmD] at h
  | [.link _], _, h => simp [mmD] at h
  | [.scr _], _, h => simp [mmD] at h
theorem RepL.splitT {W : Wd} : ∀ {xs : List D} {us : List V} {B : List Addr} (n : Nat), RepL W xs us B → ∃ B1 B2, B.Perm (B1 ++ B2) ∧ RepL W (xs.take n) (us.take n) B1 ∧ RepL W (xs.drop n) (us.drop n) B2
  | xs, us, B, 0, h => ⟨[], B, by simp, by simp [RepL], by simpa using h⟩
  | [], us, B, n + 1, h => by
    simp only [RepL] at h
    rw [h.1, h.2]
    exact ⟨[], [], by simp, by simp [RepL], by simp [RepL]⟩
  | x :: xs, us, B, n + 1, h => by
    simp only [RepL] at h
    obtain ⟨v, ws, F1, F2, rfl, h1, h2, pm⟩ := h
    obtain ⟨B1, B2, pm2, a1, a2⟩ := RepL.splitT n h2
    refine ⟨F1 ++ B1, B2, ?_, ?_, by simpa using a2⟩
    · rw [List.append_assoc]; exact pm.trans (pm2.append_left F1)
    · simp only [List.take_succ_cons, RepL]
      exact ⟨v, _, F1, B1, rfl, h1, a1, .refl _⟩
theorem ok_insert : MmOk .insert (fun x vs H Q => ∃ (l : Addr) (xs : List V) (i : Int) (y : V), x = .ref l ∧ vs = [.int i, y] ∧ H l = some (.lst xs) ∧ xs.length < sizeLine ∧ 0 ≤ i ∧ i < 2 ^ 63 ∧ Q .non (upd H l (.lst (xs.take i.toNat ++ [y] ++ xs.drop i.toNat)))) := by
  intro W a us xs ds ys ws B0 F2 Q r hu hB0 hd h
  match ds, hd, h with
  | [], _, h => simp [mmD] at h
  | [_], _, h => simp [mmD] at h
  | _ :: _ :: _ :: _, _, h => simp [mmD] at h
  | [.int i, e], hd, h =>
    simp only [mmD] at h
    split at h
    · rename_i hz
      simp only [Bool.and_eq_true, decide_eq_true_eq] at hz
      cases h
      simp only [RepL] at hd
      obtain ⟨y0, ws', A0, A1, rfl, r0, ⟨y, ws2, A2, A3, rfl, r1, ⟨rfl, rfl⟩, pm⟩, pm0⟩ := hd
      simp only [Rep] at r0
      obtain ⟨rfl, rfl⟩ := r0
      refine ⟨us.take i.toNat ++ [y] ++ us.drop i.toNat, .non, fun q => ⟨a, us, i, y, rfl, rfl, hu, by rw [szl, hB0.len]; exact hz.1.1, hz.1.2, hz.2, q⟩, fun B hB nd => ?_⟩
      obtain ⟨B1, B2, pmB, t1, t2⟩ := RepL.splitT i.toNat hB
      refine ⟨(B1 ++ F2) ++ B2, [], [], List.perm_iff_count.mpr fun b => ?_, RepL.app t2 (RepL.app ?_ t1), .mkNon⟩
      · have c := List.perm_iff_count.mp pmB b
        simp only [List.count_append, List.count_nil] at c ⊢
        omega
      · simp only [RepL]
        exact ⟨y, [], A2, [], rfl, r1, ⟨rfl, rfl⟩, pm0.trans (by simpa using pm)⟩
    · cases h
  | [.non, _], _, h => simp [mmD] at h
  | [.bl _, _], _, h => simp [mmD] at h
  | [.str _, _], _, h => simp [mmD] at h
  | [.tup _, _], _, h => simp [mmD] at h
  | [.lst _ _, _], _, h => simp [mmD] at h
  | [.dct _ _, _], _, h => simp [mmD] at h
  | [.ins _ _ _, _], _, h => simp [mmD] at h
  | [.link _, _], _, h => simp [mmD] at h
  | [.scr _, _], _, h => simp [mmD] at h
theorem RepL.erase {W : Wd} : ∀ {xs : List D} {us : List V} {B : List Addr} {n : Nat} {d : D}, RepL W xs us B → xs[n]? = some d → ∃ v B1 B2, us[n]? = some v ∧ B.Perm (B1 ++ B2) ∧ RepL W (xs.eraseIdx n) (us.eraseIdx n) B1 ∧ Rep W d v B2
  | [], us, B, n, d, h, e => by simp at e
  | x :: xs, us, B, 0, d, h, e => by
    simp only [RepL] at h
    obtain ⟨v, ws, F1, F2, rfl, h1, h2, pm⟩ := h
    cases e
    exact ⟨v, F2, F1, rfl, pm.trans List.perm_append_comm, by simpa using h2, h1⟩
  | x :: xs, us, B, n + 1, d, h, e => by
    simp only [RepL] at h
    obtain ⟨v, ws, F1, F2, rfl, h1, h2, pm⟩ := h
    obtain ⟨w, B1, B2, e1, pm2, a1, a2⟩ := RepL.erase h2 (by simpa using e)
    refine ⟨w, F1 ++ B1, B2, by simpa using e1, ?_, ?_, a2⟩
    · rw [List.append_assoc]; exact pm.trans (pm2.append_left F1)
    · simp only [List.eraseIdx_cons_succ, RepL]
      exact ⟨v, _, F1, B1, rfl, h1, a1, .refl _⟩
theorem dropLast_erase {α : Type} : ∀ (l : List α), l.dropLast = l.eraseIdx (l.length - 1)
  | [] => rfl
  | [a] => rfl
  | a :: b :: r => by
    have := dropLast_erase (b :: r)
    simp only [List.dropLast_cons_cons, List.length_cons, Nat.add_sub_cancel, List.eraseIdx_cons_succ] at this ⊢
    rw [this]
theorem ok_pop : MmOk .pop rPop := by
  intro W a us xs ds ys ws B0 F2 Q r hu hB0 hd h
  match ds, hd, h with
  | _ :: _, _, h => simp [mmD] at h
  | [], hd, h =>
    simp only [mmD] at h
    split at h
    · rename_i d hz
      cases h
      simp only [RepL] at hd
      obtain ⟨rfl, rfl⟩ := hd
      obtain ⟨v, B1, B2, e1, pm, a1, a2⟩ := RepL.erase hB0 hz
      refine ⟨us.dropLast, v, fun q => ⟨a, us, v, rfl, rfl, hu, by rw [hB0.len]; exact e1, q⟩, fun B hB nd => ?_⟩
      obtain ⟨v', C1, C2, e2, pm2, b1, b2⟩ := RepL.erase hB hz
      rw [e1] at e2; cases e2
      refine ⟨C1, C2, [], by simpa using pm2.symm, ?_, b2⟩
      rw [dropLast_erase, dropLast_erase, hB.len]; exact b1
    · cases h
theorem ok_reverse : MmOk .reverse rReverse := by
  intro W a us xs ds ys ws B0 F2 Q r hu hB0 hd h
  match ds, hd, h with
  | _ :: _, _, h => simp [mmD] at h
  | [], hd, h =>
    simp only [mmD] at h
    cases h
    simp only [RepL] at hd
    obtain ⟨rfl, rfl⟩ := hd
    refine ⟨us.reverse, .non, fun q => ⟨a, us, rfl, rfl, hu, q⟩, fun B hB nd => ⟨B, [], [], by simp, RepL.rev hB, .mkNon⟩⟩
theorem ok_clear : MmOk .clear rClear := by
  intro W a us xs ds ys ws B0 F2 Q r hu hB0 hd h
  match ds, hd, h with
  | _ :: _, _, h => simp [mmD] at h
  | [], hd, h =>
    simp only [mmD] at h
    cases h
    simp only [RepL] at hd
    obtain ⟨rfl, rfl⟩ := hd
    exact ⟨[], .non, fun q => ⟨a, us, rfl, rfl, hu, q⟩, fun B hB nd => ⟨[], [], B, by simp, by simp [RepL], .mkNon⟩⟩
end
end RB
end

section
set_option Elab.async false
set_option maxRecDepth 100000
namespace RB
open PySem L2

section
variable {st : Sta} {Wx : WX} {X : Cx} {σ : St} {H : Hp}
/-! ### arguments handed in -/
theorem look_set {S : DS} {i : Nat} {x : Option D} {l : Loc} (h : l.root ≠ .slot i) : look { S with ds := S.ds.set i x } l = look S l := by
  obtain ⟨rt, p⟩ := l
  unfold look
  cases rt with
  | reg r => rfl
  | slot j =>
    have hij : i ≠ j := fun z => h (by subst z; rfl)
    simp only [rootD, List.getElem?_set_ne hij]
theorem argD_set {S : DS} {i : Nat} {x : Option D} {o : Opd} (h : i ∉ slotsOf [o]) : argD { S with ds := S.ds.set i x } o = argD S o := by
  cases o with
  | own d => rfl
  | loc l =>
    obtain ⟨rt, p⟩ := l
    cases rt with
    | reg r => cases p <;> rfl
    | slot j =>
      simp only [argD]
      refine look_set ?_
      simp only [slotsOf, List.mem_cons, List.not_mem_nil, or_false] at h
      exact fun z => h (by cases z; rfl)
theorem slotsOf_cons {o : Opd} {os : List Opd} : slotsOf (o :: os) = slotsOf [o] ++ slotsOf os := by
  cases o with
  | own d => rfl
  | loc l => obtain ⟨rt, p⟩ := l; cases rt <;> rfl
theorem argsD_set {S : DS} {i : Nat} {x : Option D} : ∀ {os : List Opd}, i ∉ slotsOf os → os.mapM (argD { S with ds := S.ds.set i x }) = os.mapM (argD S)
  | [], _ => rfl
  | o :: os, h => by
    rw [slotsOf_cons, List.mem_append, not_or] at h
    simp only [List.mapM_cons, argD_set h.1, argsD_set h.2]
theorem setLoc_set {S : DS} {i j : Nat} {x : Option D} {p : List Step} {e : D} (h : i ≠ j) : setLoc { S with ds := S.ds.set i x } ⟨.slot j, p⟩ e = (setLoc S ⟨.slot j, p⟩ e).map fun S' => { S' with ds := S'.ds.set i x } := by
  simp only [setLoc, rootD, List.getElem?_set_ne h]
  cases (S.ds[j]?).join with
  | none => rfl
  | some d =>
    simp only [Option.bind_some]
    cases setP d p e with
    | none => rfl
    | some d' => simp only [Option.map_some]; rw [List.set_comm _ _ h]
theorem backs_set {i : Nat} {x : Option D} : ∀ {os : List Opd} {ps : List (Option D)} {S : DS}, i ∉ slotsOf os → backs { S with ds := S.ds.set i x } os ps = (backs S os ps).map fun S' => { S' with ds := S'.ds.set i x }
  | [], [], S, _ => rfl
  | [], p :: ps, S, _ => rfl
  | .own d :: os, [], S, h => rfl
  | .own d :: os, p :: ps, S, h => by simp only [backs]; exact backs_set (by simpa [slotsOf] using h)
  | .loc ⟨.reg r, q⟩ :: os, [], S, h => by cases q <;> rfl
  | .loc ⟨.reg r, q⟩ :: os, p :: ps, S, h => by simp only [backs]; exact backs_set (by simpa [slotsOf] using h)
  | .loc ⟨.slot j, q⟩ :: os, [], S, h => by cases q <;> rfl
  | .loc ⟨.slot j, q⟩ :: os, some d :: ps, S, h => by
    simp only [slotsOf, List.mem_cons, not_or] at h
    simp only [backs, setLoc_set h.1]
    cases setLoc S ⟨.slot j, q⟩ d with
    | none => rfl
    | some S' => simp only [Option.map_some, Option.bind_some]; exact backs_set h.2
  | .loc ⟨.slot j, []⟩ :: os, none :: ps, S, h => by
    simp only [slotsOf, List.mem_cons, not_or] at h
    simp only [backs]
    rw [List.set_comm _ _ h.1]
    exact backs_set (S := { S with ds := S.ds.set j none }) h.2
  | .loc ⟨.slot j, s :: q⟩ :: os, none :: ps, S, h => by simp [backs]
theorem nodupB_cons {x : Nat} {xs : List Nat} (h : nodupB (x :: xs) = true) : x ∉ xs ∧ nodupB xs = true := by
  simpa [nodupB] using h
/-- what is handed in, what stays, and how it is put back -/
theorem args_split {W : Wd} {G : List Addr} : ∀ {os : List Opd} {S : DS} {Fs : List (List Addr)} {vs : List V} {F : List Addr} {ds : List D}, RepS W S.ds σ Fs → S.rg.length = W.RV.length → RepL W S.rg W.RV G → OpsRep W σ os vs F → nodupB (slotsOf os) = true → os.mapM (argD S) = some ds →
    ∃ FC Rest, RepS W (ds.map some) (vs.map some) FC ∧ (Fs.flatten ++ F).Perm (FC.flatten ++ Rest) ∧ ds.length = os.length ∧ vs.length = os.length ∧ (∀ j, j ∉ slotsOf os → ∀ A, Fs[j]? = some A → ∀ b ∈ A, b ∈ Rest) ∧
      ∀ W' ps FC' S' rg, Stay W W' Rest → RepS W' ps (vs.map some) FC' → backs { S with rg := rg } os ps = some S' → ∃ Fs' J, RepS W' S'.ds σ Fs' ∧ (Fs'.flatten ++ J).Perm (FC'.flatten ++ Rest) ∧ S'.rg = rg ∧ ∀ j, j ∉ slotsOf os → S'.ds[j]? = S.ds[j]? ∧ Fs'[j]? = Fs[j]?
  | [], S, Fs, vs, F, ds, sl, hrl, hrg, op, nd, hm => by
    simp only [List.mapM_nil] at hm
    cases hm
    simp only [OpsRep] at op
    obtain ⟨rfl, rfl⟩ := op
    refine ⟨[], Fs.flatten, ⟨rfl, rfl⟩, by simp, rfl, rfl, fun j _ A hA b hb => mem_flat hA hb, fun W' ps FC' S' rg stay rp hb => ?_⟩
    cases ps with
    | cons p ps => simp [backs] at hb
    | nil =>
      simp only [backs, Option.some.injEq] at hb
      subst hb
      simp only [List.map_nil, RepS] at rp
      rw [rp.2]
      exact ⟨Fs, [], sl.frame stay, by simp, rfl, fun j _ => ⟨rfl, rfl⟩⟩
  | .own d :: os, S, Fs, vs, F, ds, sl, hrl, hrg, op, nd, hm => by
    simp only [OpsRep] at op
    obtain ⟨v, ws, F1, F2, rfl, h1, h2, pm⟩ := op
    simp only [List.mapM_cons, argD, Option.bind_eq_bind, Option.bind_some, Option.bind_eq_some_iff] at hm
    obtain ⟨rs, e1, e2⟩ := hm
    cases e2
    obtain ⟨FC, Rest, rc, pm2, l1, l2, jr, k⟩ := args_split sl hrl hrg h2 (by simpa [slotsOf] using nd) e1
    refine ⟨F1 :: FC, Rest, ⟨v, ws.map some, F1, FC, rfl, rfl, h1, rc⟩, List.perm_iff_count.mpr fun a => ?_, by simp [l1], by simp [l2], fun j hj => jr j (by simpa [slotsOf] using hj), fun W' ps FC' S' rg stay rp hb => ?_⟩
    · have c1 := List.perm_iff_count.mp pm a
      have c2 := List.perm_iff_count.mp pm2 a
      simp only [List.count_append, List.flatten_cons] at c1 c2 ⊢
      omega
    · cases ps with
      | nil => simp [backs] at hb
      | cons p ps =>
        simp only [backs] at hb
        have tail : ∃ A FC2, FC' = A :: FC2 ∧ RepS W' ps (ws.map some) FC2 := by
          cases p with
          | none => simp only [List.map_cons, RepS] at rp; obtain ⟨o, σ', Fs', e, e', h⟩ := rp; cases e; exact ⟨[], Fs', e', h⟩
          | some y => simp only [List.map_cons, RepS] at rp; obtain ⟨v', σ', A, Fs', e, e', _, h⟩ := rp; cases e; exact ⟨A, Fs', e', h⟩
        obtain ⟨A, FC2, rfl, rp2⟩ := tail
        obtain ⟨Fs', J, s1, s2, s3, s4⟩ := k W' ps FC2 S' rg stay rp2 hb
        refine ⟨Fs', J ++ A, s1, List.perm_iff_count.mpr fun a => ?_, s3, fun j hj => s4 j (by simpa [slotsOf] using hj)⟩
        have c1 := List.perm_iff_count.mp s2 a
        simp only [List.count_append, List.flatten_cons] at c1 ⊢
        omega
  | .loc ⟨.reg r, q⟩ :: os, S, Fs, vs, F, ds, sl, hrl, hrg, op, nd, hm => by
    cases q with
    | cons s q => simp [argD] at hm
    | nil =>
      simp only [OpsRep] at op
      obtain ⟨v, ws, rfl, ⟨u, hu, hv⟩, h2⟩ := op
      simp only [ValAt] at hv
      subst hv
      simp only [List.mapM_cons, argD, Option.bind_eq_bind, Option.bind_some, Option.bind_eq_some_iff] at hm
      obtain ⟨rs, e1, e2⟩ := hm
      cases e2
      obtain ⟨FC, Rest, rc, pm2, l1, l2, jr, k⟩ := args_split sl hrl hrg h2 (by simpa [slotsOf] using nd) e1
      refine ⟨[] :: FC, Rest, ⟨_, ws.map some, [], FC, rfl, rfl, by simp only [Rep]; exact ⟨trivial, hu⟩, rc⟩, by simpa using pm2, by simp [l1], by simp [l2], fun j hj => jr j (by simpa [slotsOf] using hj), fun W' ps FC' S' rg stay rp hb => ?_⟩
      cases ps with
      | nil => simp [backs] at hb
      | cons p ps =>
        simp only [backs] at hb
        have tail : ∃ A FC2, FC' = A :: FC2 ∧ RepS W' ps (ws.map some) FC2 := by
          cases p with
          | none => simp only [List.map_cons, RepS] at rp; obtain ⟨o, σ', Fs', e, e', h⟩ := rp; cases e; exact ⟨[], Fs', e', h⟩
          | some y => simp only [List.map_cons, RepS] at rp; obtain ⟨v', σ', A, Fs', e, e', _, h⟩ := rp; cases e; exact ⟨A, Fs', e', h⟩
        obtain ⟨A, FC2, rfl, rp2⟩ := tail
        obtain ⟨Fs', J, s1, s2, s3, s4⟩ := k W' ps FC2 S' rg stay rp2 hb
        refine ⟨Fs', J ++ A, s1, List.perm_iff_count.mpr fun a => ?_, s3, fun j hj => s4 j (by simpa [slotsOf] using hj)⟩
        have c1 := List.perm_iff_count.mp s2 a
        simp only [List.count_append, List.flatten_cons] at c1 ⊢
        omega
  | .loc ⟨.slot i, q⟩ :: os, S, Fs, vs, F, ds, sl, hrl, hrg, op, nd, hm => by
    simp only [OpsRep] at op
    obtain ⟨v, ws, rfl, ⟨u, hu, hv⟩, h2⟩ := op
    simp only [List.mapM_cons, argD, Option.bind_eq_bind, Option.bind_eq_some_iff] at hm
    obtain ⟨d, e0, rs, e1, e2⟩ := hm
    cases e2
    obtain ⟨ni, nd'⟩ := nodupB_cons nd
    unfold look at e0
    obtain ⟨x, g1, g2⟩ := Option.bind_eq_some_iff.mp e0
    simp only [rootD, Option.join_eq_some_iff] at g1
    obtain ⟨v0, Fi, a1, a2, r⟩ := sl.at g1
    simp only [rootV, a1, Option.join_some, Option.some.injEq] at hu
    subst hu
    obtain ⟨u', A1, A2, vv, r', pmp, kp⟩ := Rep.path q r g2
    have := ValAt.inj q hv vv
    subst this
    -- the rest, that slot emptied
    obtain ⟨FC, Rest, rc, pm2, l1, l2, jr, k⟩ := args_split (S := { S with ds := S.ds.set i none }) (Fs := Fs.set i []) (sl.drop i) hrl hrg h2 nd' (by rw [argsD_set ni]; exact e1)
    have pmi := flat_set0 a2
    refine ⟨A1 :: FC, A2 ++ Rest, ⟨v, ws.map some, A1, FC, rfl, rfl, r', rc⟩, List.perm_iff_count.mpr fun a => ?_, by simp [l1], by simp [l2], fun j hj A hA b hb => ?_, fun W' ps FC' S' rg stay rp hb => ?_⟩
    · have c1 := List.perm_iff_count.mp pmi a
      have c2 := List.perm_iff_count.mp pm2 a
      have c3 := List.perm_iff_count.mp pmp a
      simp only [List.count_append, List.flatten_cons] at c1 c2 c3 ⊢
      omega
    · simp only [slotsOf, List.mem_cons, not_or] at hj
      exact List.mem_append_right _ (jr j hj.2 A (by rw [List.getElem?_set_ne (Ne.symm hj.1)]; exact hA) b hb)
    · have hi : i < S.ds.length := (List.getElem?_eq_some_iff.mp g1).1
      have es : σ.set i (some v0) = σ := set_same a1
      -- what comes of the others alone
      have others : ∀ {ps : List (Option D)} {FC2 : List (List Addr)} {x' : Option D} {S' : DS}, RepS W' ps (ws.map some) FC2 → backs { S with ds := S.ds.set i x', rg := rg } os ps = some S' →
          ∃ (S0 : DS) (Fs0 : List (List Addr)) (J : List Addr), S' = { S0 with ds := S0.ds.set i x' } ∧ RepS W' S0.ds σ Fs0 ∧ (Fs0.flatten ++ J).Perm (FC2.flatten ++ Rest) ∧ S0.rg = rg ∧ S0.ds.length = S.ds.length ∧ Fs0[i]? = some [] ∧ ∀ j, j ∉ slotsOf os → S0.ds[j]? = (S.ds.set i none)[j]? ∧ Fs0[j]? = (Fs.set i [])[j]? := fun {ps FC2 x' S'} rp2 hb2 => by
        have hb3 : backs { S with ds := (S.ds.set i none).set i x', rg := rg } os ps = some S' := by rw [List.set_set]; exact hb2
        rw [show ({ S with ds := (S.ds.set i none).set i x', rg := rg } : DS) = { ({ S with ds := S.ds.set i none, rg := rg } : DS) with ds := ({ S with ds := S.ds.set i none, rg := rg } : DS).ds.set i x' } from rfl, backs_set ni] at hb3
        simp only [Option.map_eq_some_iff] at hb3
        obtain ⟨S0, hb4, rfl⟩ := hb3
        obtain ⟨Fs0, J, s1, s2, s3, s4⟩ := k W' ps FC2 S0 rg stay.right rp2 hb4
        have ln := s1.len
        have ln0 := sl.len
        refine ⟨S0, Fs0, J, rfl, s1, s2, s3, ?_, ?_, s4⟩
        · rw [← ln.1, ln0.1]
        · rw [(s4 i ni).2, List.getElem?_set_self]
          rw [ln0.2]; exact hi
      cases ps with
      | nil => cases q <;> simp [backs] at hb
      | cons p ps =>
        cases p with
        | some d' =>
          simp only [backs] at hb
          simp only [setLoc, rootD, g1, Option.join_some, Option.bind_some] at hb
          cases e3 : setP x q d' with
          | none => rw [e3] at hb; simp at hb
          | some x' =>
            rw [e3] at hb
            simp only [Option.map_some, Option.bind_some] at hb
            simp only [List.map_cons, RepS] at rp
            obtain ⟨v', σ', A, FC2, e4, e5, rd', rp2⟩ := rp
            cases e4; subst e5
            obtain ⟨S0, Fs0, J, rfl, s1, s2, s3, ln, f0, s4⟩ := others rp2 hb
            have rx := kp W' d' x' A e3 stay.left rd'
            have s5 := s1.set i rx (by rw [ln]; exact hi)
            rw [es] at s5
            refine ⟨Fs0.set i (A ++ A2), J, s5, List.perm_iff_count.mpr fun a => ?_, s3, fun j hj => ?_⟩
            · have c1 := List.perm_iff_count.mp (flat_set (F' := A ++ A2) f0) a
              have c2 := List.perm_iff_count.mp s2 a
              simp only [List.count_append, List.flatten_cons, List.count_nil] at c1 c2 ⊢
              omega
            · simp only [slotsOf, List.mem_cons, not_or] at hj
              obtain ⟨b1, b2⟩ := s4 j hj.2
              rw [List.getElem?_set_ne (Ne.symm hj.1)] at b1 b2
              exact ⟨(List.getElem?_set_ne (Ne.symm hj.1)).trans b1, (List.getElem?_set_ne (Ne.symm hj.1)).trans b2⟩
        | none =>
          cases q with
          | cons s q => simp [backs] at hb
          | nil =>
            simp only [backs] at hb
            simp only [List.map_cons, RepS] at rp
            obtain ⟨o, σ', FC2, e4, e5, rp2⟩ := rp
            cases e4; subst e5
            obtain ⟨S0, Fs0, J, rfl, s1, s2, s3, ln, f0, s4⟩ := others rp2 hb
            refine ⟨Fs0.set i [], J ++ A2, s1.drop i, List.perm_iff_count.mpr fun a => ?_, s3, fun j hj => ?_⟩
            · have c1 := List.perm_iff_count.mp (flat_set0 f0) a
              have c2 := List.perm_iff_count.mp s2 a
              simp only [List.count_append, List.flatten_cons, List.count_nil] at c1 c2 ⊢
              omega
            · simp only [slotsOf, List.mem_cons, not_or] at hj
              obtain ⟨b1, b2⟩ := s4 j hj.2
              rw [List.getElem?_set_ne (Ne.symm hj.1)] at b1 b2
              exact ⟨(List.getElem?_set_ne (Ne.symm hj.1)).trans b1, (List.getElem?_set_ne (Ne.symm hj.1)).trans b2⟩
end
end RB
end

section
set_option Elab.async false
set_option maxRecDepth 100000
namespace RB
open PySem L2

/-- the promise of every def: what the table tells -/
def spD (st : Sta) (t : Tab) (f n : Nat) : Sp := fun vs H Q E => ∃ W ds rg Fs G, W.H = H ∧ W.st = st ∧ RepS W (ds.map some) (vs.map some) Fs ∧ RepL W rg W.RV G ∧ Sep W (Fs.flatten ++ G) ∧ vs.length = n ∧
  match t.call f ds rg with
  | .ret d ps rg' => ∀ v W' Fs' G' F, RepS W' ps (vs.map some) Fs' → RepL W' rg' W'.RV G' → Rep W' d v F → Sep W' ((Fs'.flatten ++ G') ++ F) → Evo W (Fs.flatten ++ G) W' ((Fs'.flatten ++ G') ++ F) → Q v W'.H
  | .exc x ps rg' => ∀ c dd W' Fs' G' F, RepS W' ps (vs.map some) Fs' → RepL W' rg' W'.RV G' → XRep W' x c dd F → Sep W' ((Fs'.flatten ++ G') ++ F) → Evo W (Fs.flatten ++ G) W' ((Fs'.flatten ++ G') ++ F) → E c dd W'.H
  | .fail => False
/-- a def at its address keeps it -/
def FnGood (P : Program) (w : World) (K : PySem.W.Frag) (mg : Str → Option Value) (base : Heap) (st : Sta) (t : Tab) (k : Nat) (f : Nat) (a : Addr) : Prop :=
  PySem.W.keepIn K (.ref a) = true ∧ ∃ fd ps n, FnOk P w K mg base (L2.CX P w) k a fd ps (spD st t f n) ∧ (∀ ds rg, t.call f ds rg ≠ .fail → ds.length = n) ∧
    ∀ m, ∃ dvs dvals, Paired (fun d v => scalV d = some v) (t.dflt f m) dvs ∧ Vals dvs dvals ∧ Binds K fd ps dvals

section
variable {st : Sta} {Wx : WX} {X : Cx} {σ : St} {H : Hp}
theorem RepS.app {W : Wd} : ∀ {ds es : List (Option D)} {σ τ : St} {Fs Gs : List (List Addr)}, RepS W ds σ Fs → RepS W es τ Gs → RepS W (ds ++ es) (σ ++ τ) (Fs ++ Gs)
  | [], es, σ, τ, Fs, Gs, h, h' => by simp only [RepS] at h; rw [h.1, h.2]; exact h'
  | none :: ds, es, σ, τ, Fs, Gs, h, h' => by
    simp only [RepS] at h
    obtain ⟨o, σ', Fs', rfl, rfl, h⟩ := h
    simp only [List.cons_append, RepS]
    exact ⟨o, _, _, rfl, rfl, RepS.app h h'⟩
  | some d :: ds, es, σ, τ, Fs, Gs, h, h' => by
    simp only [RepS] at h
    obtain ⟨v, σ', F, Fs', rfl, rfl, r, h⟩ := h
    simp only [List.cons_append, RepS]
    exact ⟨v, _, F, _, rfl, rfl, r, RepS.app h h'⟩
theorem RepS.take {W : Wd} : ∀ {ds : List (Option D)} {σ τ : St} {Fs : List (List Addr)}, RepS W ds (σ ++ τ) Fs → RepS W (ds.take σ.length) σ (Fs.take σ.length)
  | ds, [], τ, Fs, h => by simp [RepS]
  | [], o :: σ, τ, Fs, h => by simp only [RepS] at h; simp at h
  | none :: ds, o :: σ, τ, Fs, h => by
    simp only [List.cons_append, RepS] at h
    obtain ⟨o', σ', Fs', e, rfl, h⟩ := h
    cases e
    simp only [List.length_cons, List.take_succ_cons, RepS]
    exact ⟨_, _, _, rfl, rfl, RepS.take h⟩
  | some d :: ds, o :: σ, τ, Fs, h => by
    simp only [List.cons_append, RepS] at h
    obtain ⟨v, σ', F, Fs', e, rfl, r, h⟩ := h
    cases e
    simp only [List.length_cons, List.take_succ_cons, RepS]
    exact ⟨v, _, F, _, rfl, rfl, r, RepS.take h⟩
theorem reps_scal {W : Wd} : ∀ {ds : List D} {vs : List V}, Paired (fun d v => scalV d = some v) ds vs → RepS W (ds.map some) (vs.map some) (List.replicate ds.length [])
  | [], _, .nil => ⟨rfl, rfl⟩
  | d :: ds, _, .cons h t => by
    simp only [List.map_cons, List.length_cons, List.replicate_succ, RepS]
    exact ⟨_, _, [], _, rfl, rfl, scal_rep h, reps_scal t⟩
theorem flat_rep (n : Nat) : (List.replicate n ([] : List Addr)).flatten = [] := by
  induction n with
  | zero => rfl
  | succ n ih => simp [List.replicate_succ, ih]
theorem paired_len {α β : Type} {R : α → β → Prop} : ∀ {xs : List α} {ys : List β}, Paired R xs ys → xs.length = ys.length
  | _, _, .nil => rfl
  | _, _, .cons _ t => by simp [paired_len t]
/-- behind the arguments: the promise -/
theorem call_ok {T : List (Option Nat)} {t : Tab} {f n : Nat} {W W1 : Wd} {S S1 : DS} {Fs Fs1 : List (List Addr)} {G G1 : List Addr} {os : List Opd} {vs dvs : List V} {F : List Addr} {Q : VK} (hc : W1.st = st) (p : Posts (tch T) W σ S Fs G os S1 vs W1 Fs1 G1 F)
    (hn : none ∈ T) (hs : ∀ i ∈ slotsOf os, some i ∈ T) (har : ∀ ds rg, t.call f ds rg ≠ .fail → ds.length = n) (hd : Paired (fun d v => scalV d = some v) (t.dflt f os.length) dvs)
    (h : Out Wx W σ Fs G (xCallO t f os [] S1) fun r S' => ∀ v W' Fs' G' F, Posts (tch T) W σ S Fs G [.own r.1] S' [v] W' Fs' G' F → Q v W'.H) : spD st t f n (vs ++ dvs) W1.H Q (WE Wx σ) := by
  unfold xCallO at h
  split at h
  · rename_i nd
    split at h
    · rename_i ds hm
      have hrl : S1.rg.length = W1.RV.length := p.sr.rg.len.symm
      obtain ⟨FC, Rest, rc, pm, l1, l2, jr, k⟩ := args_split p.sr.sl hrl p.sr.rg p.op nd hm
      simp only [List.nil_append, List.length_nil, Nat.zero_add, List.drop_zero, List.take_zero] at h
      have sepA : Sep W1 ((FC.flatten ++ G1) ++ Rest) := p.sep.pm (List.perm_iff_count.mpr fun a => by
        have c1 := List.perm_iff_count.mp pm a
        simp only [List.count_append] at c1 ⊢
        omega)
      rw [l1] at h
      refine ⟨W1, ds ++ t.dflt f os.length, S1.rg, FC ++ List.replicate (t.dflt f os.length).length [], G1, rfl, hc, ?_, p.sr.rg, ?_, ?_, ?_⟩
      · rw [List.map_append, List.map_append]
        exact rc.app (reps_scal hd)
      · rw [List.flatten_append, flat_rep, List.append_nil]; exact sepA.left
      · have e1 : t.call f (ds ++ t.dflt f os.length) S1.rg ≠ .fail := fun z => by rw [z] at h; exact h
        have := har _ _ e1
        rw [List.length_append, l1] at this
        rw [List.length_append, ← paired_len hd, l2]; exact this
      · have flat0 : ((FC ++ List.replicate (t.dflt f os.length).length []).flatten : List Addr) = FC.flatten := by rw [List.flatten_append, flat_rep, List.append_nil]
        rw [flat0]
        -- how the caller goes on, whatever the callee leaves beside
        have go : ∀ {ps : List (Option D)} {rg : List D} {W' : Wd} {FsC : List (List Addr)} {G' F' : List Addr} {S' : DS}, RepS W' ps ((vs ++ dvs).map some) FsC → RepL W' rg W'.RV G' → Sep W' ((FsC.flatten ++ G') ++ F') → Evo W1 (FC.flatten ++ G1) W' ((FsC.flatten ++ G') ++ F') →
            backs { S1 with rg := rg } os (ps.take os.length) = some S' → ∃ Fs', SR W' σ S' Fs' G' ∧ Sep W' ((Fs'.flatten ++ G') ++ F') ∧ Evo W (Fs.flatten ++ G) W' ((Fs'.flatten ++ G') ++ F') ∧ Pres (tch T) W S Fs G W' S' Fs' G' := fun {ps rg W' FsC G' F' S'} rp rrg sp ev hb => by
          have stay : Stay W1 W' Rest := ev.stay (fun a ha z => sepA.dj z ha) sepA.left.np
          rw [List.map_append] at rp
          have rp2 := rp.take
          rw [List.length_map, l2] at rp2
          obtain ⟨Fs', J, s1, s2, s3, s4⟩ := k W' (ps.take os.length) (FsC.take os.length) S' rg stay rp2 hb
          have sepB : Sep W' (((FsC.flatten ++ G') ++ F') ++ Rest) := Sep.beside ev sepA sp
          have flT : FsC.flatten = (FsC.take os.length).flatten ++ (FsC.drop os.length).flatten := by rw [← List.flatten_append, List.take_append_drop]
          have pmB : (((FsC.flatten ++ G') ++ F') ++ Rest).Perm (((Fs'.flatten ++ G') ++ F') ++ (J ++ (FsC.drop os.length).flatten)) := List.perm_iff_count.mpr fun a => by
            have c1 := List.perm_iff_count.mp s2 a
            rw [flT]
            simp only [List.count_append] at c1 ⊢
            omega
          have evB : Evo W1 ((FC.flatten ++ G1) ++ Rest) W' (((FsC.flatten ++ G') ++ F') ++ Rest) := ev.beside Rest
          refine ⟨Fs', ⟨s1, by rw [s3]; exact rrg⟩, (sepB.pm pmB).left, ?_, ⟨fun j hj => ?_, fun hr => ?_⟩⟩
          · have e1 : Evo W1 ((Fs1.flatten ++ G1) ++ F) W' (((FsC.flatten ++ G') ++ F') ++ Rest) := evB.pmL (List.perm_iff_count.mpr fun a => by
              have c1 := List.perm_iff_count.mp pm a
              simp only [List.count_append] at c1 ⊢
              omega)
            exact (p.evo.trans e1).sub fun a ha => pmB.mem_iff.mpr (List.mem_append_left _ ha)
          · have hji : j ∉ slotsOf os := fun z => (tch_false.mp hj) (hs j z)
            obtain ⟨a1, a2, a3⟩ := p.pres.sl j hj
            obtain ⟨b1, b2⟩ := s4 j hji
            refine ⟨b1.trans a1, b2.trans a2, fun A hA c hcA => ?_⟩
            rw [← a3 A hA c hcA]
            obtain ⟨u, hu⟩ := p.sr.sl.trk c (mem_flat (a2.trans hA) hcA)
            rw [hu]
            exact stay.keep c u (.inl (jr j hji A (a2.trans hA) c hcA)) hu
          · exact absurd hn (tch_false.mp hr)
        cases e : t.call f (ds ++ t.dflt f os.length) S1.rg with
        | fail => rw [e] at h; exact h
        | ret d ps rg =>
          rw [e] at h
          simp only at h ⊢
          intro v W' FsC G' F' rp rrg rd sp ev
          cases hb : backs { S1 with rg := rg } os (ps.take os.length) with
          | none => rw [hb] at h; exact h.elim
          | some S' =>
            rw [hb] at h
            obtain ⟨Fs', s1, s2, s3, s4⟩ := go rp rrg sp ev hb
            exact h v W' Fs' G' F' ⟨s1, ⟨v, [], F', [], rfl, rd, ⟨rfl, rfl⟩, by simp⟩, s2, s3, s4⟩
        | exc x ps rg =>
          rw [e] at h
          simp only at h ⊢
          intro c dd W' FsC G' F' rp rrg rx sp ev
          cases hb : backs { S1 with rg := rg } os (ps.take os.length) with
          | none => rw [hb] at h; exact h.elim
          | some S' =>
            rw [hb] at h
            obtain ⟨Fs', s1, s2, s3, s4⟩ := go rp rrg sp ev hb
            exact h c dd W' Fs' G' F' s1 rx s2 s3
    · exact h.elim
  · exact h.elim
theorem rd_call {T : List (Option Nat)} {ms : List (M Opd × List (Option Nat))} {t : Tab} {f n : Nat} {dvs : List V} {Q : VK} (hT : ∀ i, i ∉ T → i ∉ ms.flatMap (·.2)) (hn : none ∈ T) (hs : ∀ S os S', evL ms S = .ok os S' → (∀ i ∈ slotsOf os, some i ∈ T) ∧ os.length = ms.length)
    (har : ∀ ds rg, t.call f ds rg ≠ .fail → ds.length = n) (hd : Paired (fun d v => scalV d = some v) (t.dflt f ms.length) dvs) (h : tE st Wx T (xCall t f ms) σ H Q) : tCallSD (spD st t f n) dvs (WE Wx) (tA st Wx ms) σ H Q := by
  obtain ⟨W, S, Fs, G, rfl, hc, sr, sp, h⟩ := of_tE h
  refine tA_of hc sr sp (h.bind.mono fun os S1 e h vs W1 Fs1 G1 F p => ?_)
  obtain ⟨h1, h2⟩ := hs S os S1 e
  refine call_ok (p.evo.ca.trans hc) (p.mono fun i hi => tch_false.mpr (hT i (tch_false.mp hi))) hn h1 har (by rw [h2]; exact hd) (h.bind.mono fun r S' _ h v W' Fs' G' F' q => ?_)
  obtain ⟨q2, pl⟩ := placed_mkO q
  exact h v W' Fs' G' F' q2 pl
theorem s_call {T : List (Option Nat)} {ms : List (M Opd × List (Option Nat))} {t : Tab} {k f : Nat} {a : Addr} {x : Str} {e : Expr} {es : List Expr} {p pos : Pos} (FG : FnGood X.prog X.w X.K X.mg X.base st t k f a) (hr : Room k X.A) (hg : Gl X x) (hm : X.mg x = some (.ref a)) (tk : Takes X Wx)
    (ha : PA X (e :: es) (tA st Wx ms)) (hdb : (x == ("__debug__" : Str)) = false) (he : starEach (e :: es) X.env = (false, eval e X.env) :: starEach es X.env) (hpl : (backTo pos (starEach es X.env)).any (·.1) = false)
    (hT : ∀ i, i ∉ T → i ∉ ms.flatMap (·.2)) (hn : none ∈ T) (hs : ∀ S os S', evL ms S = .ok os S' → (∀ i ∈ slotsOf os, some i ∈ T) ∧ os.length = ms.length) :
    PE X (.Call (.Name x p) (e :: es) [] pos) (tE st Wx T (xCall t f ms)) := by
  obtain ⟨kp, fd, ps, n, F, har, hb⟩ := FG
  obtain ⟨dvs, dvals, hd, hv, hbd⟩ := hb ms.length
  exact PE.pt fun σ H Q h => ⟨_, pe_callSD F hr hg hm kp hbd hv (fun σ => passAt tk σ) ha hdb he hpl, rd_call hT hn hs har hd h⟩
theorem s_call0 {T : List (Option Nat)} {t : Tab} {k f : Nat} {a : Addr} {x : Str} {p pos : Pos} (FG : FnGood X.prog X.w X.K X.mg X.base st t k f a) (hr : Room k X.A) (hg : Gl X x) (hm : X.mg x = some (.ref a)) (tk : Takes X Wx) (hdb : (x == ("__debug__" : Str)) = false)
    (hn : none ∈ T) : PE X (.Call (.Name x p) [] [] pos) (tE st Wx T (xCall t f [])) := by
  obtain ⟨kp, fd, ps, n, F, har, hb⟩ := FG
  obtain ⟨dvs, dvals, hd, hv, hbd⟩ := hb 0
  refine ⟨fun pins s σ H Q I h => ?_⟩
  have h2 := tA_nil (rd_call (dvs := dvs) (by simp) hn (fun S os S' e => by simp only [evL] at e; cases e; exact ⟨by simp [slotsOf], rfl⟩) har hd h)
  refine wpAny_Call_Name_kw (ld_glob I hg hm ?_ hdb)
  exact PySem.W.callWith_K0 I.kIn kp (run_fnSD (us := []) F hr hbd hv (passAt tk σ) I .nil h2)
end
end RB
end

section
set_option Elab.async false
set_option maxRecDepth 100000
namespace RB
open PySem L2

/-- parameters keep their values -/
def Par (np : Nat) (σ σ' : St) : Prop := ∀ i, i < np → σ'[i]? = σ[i]?
theorem Par.refl {np : Nat} {σ : St} : Par np σ σ := fun _ _ => rfl
theorem Par.trans {np : Nat} {σ σ' σ'' : St} (a : Par np σ σ') (b : Par np σ' σ'') : Par np σ σ'' := fun i h => (b i h).trans (a i h)
theorem Par.set {np i : Nat} {σ : St} {v : Option V} (h : np ≤ i) : Par np σ (σ.set i v) := fun j hj => List.getElem?_set_ne (by omega)
/-- what a statement leaves -/
structure SPost (np : Nat) (W : Wd) (σ : St) (Fs : List (List Addr)) (G : List Addr) (W' : Wd) (σ' : St) (S' : DS) (Fs' : List (List Addr)) (G' : List Addr) (F : List Addr) : Prop where
  sr : SR W' σ' S' Fs' G'
  sep : Sep W' ((Fs'.flatten ++ G') ++ F)
  evo : Evo W (Fs.flatten ++ G) W' ((Fs'.flatten ++ G') ++ F)
  par : Par np σ σ'
def OutS (Wx : WX) (np : Nat) (W : Wd) (σ : St) (Fs : List (List Addr)) (G : List Addr) {α : Type} (r : R α) (K : α → DS → Prop) : Prop :=
  match r with
  | .ok a S' => K a S'
  | .exc x S' => ∀ c dd W' σ' Fs' G' F, SPost np W σ Fs G W' σ' S' Fs' G' F → XRep W' x c dd F → Wx c dd σ' W'.H
  | .fail => False
def KEnd (D : Ends) (np : Nat) (W : Wd) (σ : St) (Fs : List (List Addr)) (G : List Addr) : Fl → DS → Prop
  | .next, S' => ∀ W' σ' Fs' G', SPost np W σ Fs G W' σ' S' Fs' G' [] → D.nx σ' W'.H
  | .brk, S' => ∀ W' σ' Fs' G', SPost np W σ Fs G W' σ' S' Fs' G' [] → D.bk σ' W'.H
  | .cont, S' => ∀ W' σ' Fs' G', SPost np W σ Fs G W' σ' S' Fs' G' [] → D.ct σ' W'.H
  | .ret d, S' => ∀ v W' σ' Fs' G' F, SPost np W σ Fs G W' σ' S' Fs' G' F → Rep W' d v F → D.rt v W'.H
def tS (st : Sta) (Wx : WX) (np : Nat) (f : M Fl) : TS := fun D σ H => ∃ W S Fs G, W.H = H ∧ W.st = st ∧ SR W σ S Fs G ∧ Sep W (Fs.flatten ++ G) ∧ OutS Wx np W σ Fs G (f S) (KEnd D np W σ Fs G)
theorem PS.pt {X : Cx} {s : Stmt} {T : TS} (h : ∀ D σ H, T D σ H → ∃ t, PS X s t ∧ t D σ H) : PS X s T :=
  ⟨fun pins s σ H D I q => by obtain ⟨t, p, z⟩ := h D σ H q; exact p.run pins s σ H D I z⟩
theorem PSs.pt {X : Cx} {s : List Stmt} {T : TS} (h : ∀ D σ H, T D σ H → ∃ t, PSs X s t ∧ t D σ H) : PSs X s T :=
  ⟨fun pins s σ H D I q => by obtain ⟨t, p, z⟩ := h D σ H q; exact p.run pins s σ H D I z⟩

section
variable {st : Sta} {Wx : WX} {X : Cx} {σ σ1 : St} {H : Hp} {np : Nat}
section
variable {W W1 W2 : Wd} {S S1 S2 : DS} {Fs Fs1 Fs2 : List (List Addr)} {G G1 G2 : List Addr} {F F2 : List Addr} {α β : Type} {D : Ends}
theorem SPost.refl (sr : SR W σ S Fs G) (sp : Sep W (Fs.flatten ++ G)) : SPost np W σ Fs G W σ S Fs G [] := ⟨sr, by simpa using sp, by simpa using Evo.refl W (Fs.flatten ++ G), .refl⟩
theorem SPost.ev (p : SPost np W σ Fs G W1 σ1 S1 Fs1 G1 F) : Evo W (Fs.flatten ++ G) W1 (Fs1.flatten ++ G1) := p.evo.sub fun a ha => List.mem_append_left _ ha
theorem SPost.trans {σ2 : St} (p : SPost np W σ Fs G W1 σ1 S1 Fs1 G1 F) (q : SPost np W1 σ1 Fs1 G1 W2 σ2 S2 Fs2 G2 F2) : SPost np W σ Fs G W2 σ2 S2 Fs2 G2 F2 := ⟨q.sr, q.sep, p.ev.trans q.evo, p.par.trans q.par⟩
theorem Posts.sp {T : Tch} {os : List Opd} {vs : List V} (p : Posts T W σ S Fs G os S1 vs W1 Fs1 G1 F) : SPost np W σ Fs G W1 σ S1 Fs1 G1 F := ⟨p.sr, p.sep, p.evo, .refl⟩
theorem SPost.drop (p : SPost np W σ Fs G W1 σ1 S1 Fs1 G1 F) : SPost np W σ Fs G W1 σ1 S1 Fs1 G1 [] := ⟨p.sr, by simpa using p.sep.left, by simpa using p.ev, p.par⟩
theorem OutS.bind {r : R α} {k : α → DS → R β} {K : β → DS → Prop} (h : OutS Wx np W σ Fs G (r.bind k) K) : OutS Wx np W σ Fs G r fun a S' => OutS Wx np W σ Fs G (k a S') K := by
  cases r with
  | fail => exact h
  | exc x S' => exact h
  | ok a S' => exact h
theorem OutS.mono {r : R α} {K K' : α → DS → Prop} (h : OutS Wx np W σ Fs G r K) (hk : ∀ a S', r = .ok a S' → K a S' → K' a S') : OutS Wx np W σ Fs G r K' := by
  cases r with
  | fail => exact h
  | exc x S' => exact h
  | ok a S' => exact hk a S' rfl h
/-- within an expression the slots stand -/
theorem OutS.out {r : R α} {K : α → DS → Prop} (h : OutS Wx np W σ Fs G r K) : Out Wx W σ Fs G r K := by
  cases r with
  | fail => exact h
  | exc x S' => exact fun c dd W' Fs' G' F a b c' d => h c dd W' σ Fs' G' F ⟨a, c', d, .refl⟩ b
  | ok a S' => exact h
theorem OutS.shift {r : R α} {K : α → DS → Prop} (p : SPost np W σ Fs G W1 σ1 S1 Fs1 G1 F) (h : OutS Wx np W σ Fs G r K) : OutS Wx np W1 σ1 Fs1 G1 r K := by
  cases r with
  | fail => exact h
  | exc x S' => exact fun c dd W' σ' Fs' G' F' q xr => h c dd W' σ' Fs' G' F' (p.trans q) xr
  | ok a S' => exact h
theorem KEnd.shift {fl : Fl} (p : SPost np W σ Fs G W1 σ1 S1 Fs1 G1 F) (h : KEnd D np W σ Fs G fl S2) : KEnd D np W1 σ1 Fs1 G1 fl S2 := by
  cases fl with
  | next => exact fun W' σ' Fs' G' q => h W' σ' Fs' G' (p.trans q)
  | brk => exact fun W' σ' Fs' G' q => h W' σ' Fs' G' (p.trans q)
  | cont => exact fun W' σ' Fs' G' q => h W' σ' Fs' G' (p.trans q)
  | ret d => exact fun v W' σ' Fs' G' F q r => h v W' σ' Fs' G' F (p.trans q) r
theorem tS_of {f : M Fl} (hc : W.st = st) (sr : SR W σ S Fs G) (sp : Sep W (Fs.flatten ++ G)) (h : OutS Wx np W σ Fs G (f S) (KEnd D np W σ Fs G)) : tS st Wx np f D σ W.H := ⟨W, S, Fs, G, rfl, hc, sr, sp, h⟩
end
/-! ### blocks -/
theorem ss_nil : PSs X [] (tS st Wx np fun S => .ok .next S) := by
  refine PSs.pt fun D σ H h => ⟨_, pss_nil, ?_⟩
  obtain ⟨W, S, Fs, G, rfl, hc, sr, sp, h⟩ := h
  exact h W σ Fs G (.refl sr sp)
def xSeqS (a b : M Fl) : M Fl := fun S => (a S).bind fun f S1 => match f with
  | .next => b S1
  | f => .ok f S1
theorem ss_cons {a b : M Fl} {s : Stmt} {ss : List Stmt} (h1 : PS X s (tS st Wx np a)) (h2 : PSs X ss (tS st Wx np b)) : PSs X (s :: ss) (tS st Wx np (xSeqS a b)) := by
  refine PSs.pt fun D σ H h => ⟨_, pss_cons h1 h2, ?_⟩
  obtain ⟨W, S, Fs, G, rfl, hc, sr, sp, h⟩ := h
  refine tS_of hc sr sp (h.bind.mono fun fl S1 _ h => ?_)
  cases fl with
  | next => exact fun W1 σ1 Fs1 G1 p => tS_of (p.evo.ca.trans hc) p.sr (by simpa using p.sep) ((h.shift p).mono fun fl2 S2 _ h => h.shift p)
  | brk => exact h
  | cont => exact h
  | ret d => exact h
/-! ### small statements -/
theorem st_pass {pos : Pos} : PS X (.Pass pos) (tS st Wx np fun S => .ok .next S) := by
  refine PS.pt fun D σ H h => ⟨_, ps_pass, ?_⟩
  obtain ⟨W, S, Fs, G, rfl, hc, sr, sp, h⟩ := h
  exact h W σ Fs G (.refl sr sp)
theorem st_brk {pos : Pos} : PS X (.Break pos) (tS st Wx np fun S => .ok .brk S) := by
  refine PS.pt fun D σ H h => ⟨_, ps_break, ?_⟩
  obtain ⟨W, S, Fs, G, rfl, hc, sr, sp, h⟩ := h
  exact h W σ Fs G (.refl sr sp)
theorem st_cont {pos : Pos} : PS X (.Continue pos) (tS st Wx np fun S => .ok .cont S) := by
  refine PS.pt fun D σ H h => ⟨_, ps_continue, ?_⟩
  obtain ⟨W, S, Fs, G, rfl, hc, sr, sp, h⟩ := h
  exact h W σ Fs G (.refl sr sp)
theorem st_dead {s : Stmt} : PS X s (tS st Wx np fun _ => .fail) := by
  refine PS.pt fun D σ H h => ⟨_, ps_never, ?_⟩
  obtain ⟨W, S, Fs, G, rfl, hc, sr, sp, h⟩ := h
  exact h
theorem st_expr {T : List (Option Nat)} {f : M Opd} {e : Expr} {pos : Pos} (he : PE X e (tE st Wx T f)) (hs : swapsWith e none pos.line X.env = pure false) : PS X (.Expr e pos) (tS st Wx np fun S => (f S).bind fun _ S1 => .ok .next S1) := by
  refine PS.pt fun D σ H h => ⟨_, ps_expr he hs, ?_⟩
  obtain ⟨W, S, Fs, G, rfl, hc, sr, sp, h⟩ := h
  exact tE_of hc sr sp (h.bind.out.mono fun o S1 _ h v W1 Fs1 G1 F p _ => h W1 σ Fs1 G1 p.sp.drop)
theorem st_if {T : List (Option Nat)} {ft : M Bool} {a b : M Fl} {c : Expr} {sa sb : List Stmt} {pos : Pos} (hc : PT X c (tT st Wx T ft)) (ha : PSs X sa (tS st Wx np a)) (hb : PSs X sb (tS st Wx np b)) :
    PS X (.If c sa sb pos) (tS st Wx np fun S => (ft S).bind fun r S1 => if r then a S1 else b S1) := by
  refine PS.pt fun D σ H h => ⟨_, ps_if hc ha hb, ?_⟩
  obtain ⟨W, S, Fs, G, rfl, hc, sr, sp, h⟩ := h
  refine tT_of hc sr sp (h.bind.out.mono fun r S1 e _ W1 Fs1 G1 p => ?_)
  have h1 := h.bind
  rw [e] at h1
  have h2 : OutS Wx np W σ Fs G (if r = true then a S1 else b S1) _ := h1
  cases r with
  | true =>
    rw [if_pos rfl] at h2 ⊢
    exact tS_of (p.evo.ca.trans hc) p.sr p.sep.left ((h2.shift (p.sp (np := np))).mono fun fl S2 _ h => h.shift (p.sp (np := np)))
  | false =>
    rw [if_neg Bool.false_ne_true] at h2 ⊢
    exact tS_of (p.evo.ca.trans hc) p.sr p.sep.left ((h2.shift (p.sp (np := np))).mono fun fl S2 _ h => h.shift (p.sp (np := np)))
/-- a value, for an assignment or a return -/
theorem xVal_bind {W : Wd} {S : DS} {Fs : List (List Addr)} {G : List Addr} {f : M Opd} {β : Type} {k : D → DS → R β} {K : β → DS → Prop} {T : List (Option Nat)} {Q : VK} (hc : W.st = st) (sr : SR W σ S Fs G) (sp : Sep W (Fs.flatten ++ G)) (hT : ∀ S i S', f S = .ok (.loc ⟨.slot i, []⟩) S' → some i ∈ T)
    (h : OutS Wx np W σ Fs G ((xVal f S).bind k) K) (hk : ∀ d v S2 W1 Fs2 G1 F2, Posts (tch T) W σ S Fs G [.own d] S2 [v] W1 Fs2 G1 F2 → OutS Wx np W σ Fs G (k d S2) K → Q v W1.H) : ∀ {U : List (Option Nat)}, (∀ i, i ∉ T → i ∉ U) → tE st Wx U f σ W.H Q := fun {U} hU => by
  refine tE_of hc sr sp ?_
  unfold xVal at h
  cases e : f S with
  | fail => rw [e] at h; exact h
  | exc x S1 => rw [e] at h; exact h.out
  | ok o S1 =>
    rw [e] at h
    simp only [R.bind_ok] at h
    intro v W1 Fs1 G1 F p _
    obtain ⟨d, S2, e2, h⟩ := xVal_out (W1 := W) (S := S) (Fs1 := Fs) (G1 := G) h.bind.out
    have p1 : Posts (tch T) W σ S Fs G [o] S1 [v] W1 Fs1 G1 F := p.mono fun i hi => tch_false.mpr (hU i (tch_false.mp hi))
    obtain ⟨Fs2, F2, p2⟩ := p1.val e2 fun i hi => by subst hi; simpa [tch] using hT _ _ _ e
    exact hk d v S2 W1 Fs2 G1 F2 p2 h
theorem st_ret {U : List (Option Nat)} {V0 : List (Option Nat)} {f : M Opd} {e : Expr} {pos : Pos} (hT : ∀ S i S', f S = .ok (.loc ⟨.slot i, []⟩) S' → some i ∈ V0) (he : PE X e (tE st Wx U f)) : PS X (.Return (some e) pos) (tS st Wx np fun S => (xVal f S).bind fun d S1 => .ok (.ret d) S1) := by
  refine PS.pt fun D σ H h => ⟨_, ps_ret he, ?_⟩
  obtain ⟨W, S, Fs, G, rfl, hc, sr, sp, h⟩ := h
  refine xVal_bind (T := U ++ V0) hc sr sp (fun S i S' h => List.mem_append_right _ (hT S i S' h)) h (fun d v S2 W1 Fs2 G1 F2 p h => ?_) (fun i hi z => hi (List.mem_append_left _ z))
  have hop := p.op
  simp only [OpsRep] at hop
  obtain ⟨v', ws, A1, A2, e, hr, ⟨_, rfl⟩, pm⟩ := hop
  cases e
  exact h v W1 σ Fs2 G1 F2 p.sp (hr.pm (by simpa using pm.symm))
theorem st_retN {pos : Pos} : PS X (.Return none pos) (tS st Wx np fun S => .ok (.ret .non) S) := by
  refine PS.pt fun D σ H h => ⟨_, ps_retN, ?_⟩
  obtain ⟨W, S, Fs, G, rfl, hc, sr, sp, h⟩ := h
  exact h .non W σ Fs G [] (.refl sr sp) .mkNon
/-- a slot is set -/
theorem Posts.setVar {T : Tch} {W W1 : Wd} {S S1 S2 : DS} {Fs Fs1 : List (List Addr)} {G G1 F : List Addr} {d : D} {v : V} {i : Nat} (p : Posts T W σ S Fs G [.own d] S1 [v] W1 Fs1 G1 F) (h : RB.setVar np i d S1 = some S2) : SPost np W σ Fs G W1 (σ.set i (some v)) S2 (Fs1.set i F) G1 [] := by
  unfold RB.setVar at h
  split at h
  · rename_i hc
    simp only [Bool.and_eq_true, decide_eq_true_eq] at hc
    cases h
    have hop := p.op
    simp only [OpsRep] at hop
    obtain ⟨v', ws, A1, A2, e, hr, ⟨_, rfl⟩, pm⟩ := hop
    cases e
    have hr2 : Rep W1 d v F := hr.pm (by simpa using pm.symm)
    obtain ⟨A, hA⟩ : ∃ A, Fs1[i]? = some A := ⟨_, List.getElem?_eq_getElem (by rw [p.sr.sl.len.2]; exact hc.2)⟩
    have pmf : ((Fs1.flatten ++ G1) ++ F).Perm (((Fs1.set i F).flatten ++ G1) ++ A) := List.perm_iff_count.mpr fun a => by
      have c1 := List.perm_iff_count.mp (flat_set (F' := F) hA) a
      simp only [List.count_append] at c1 ⊢
      omega
    refine ⟨⟨p.sr.sl.set i hr2 hc.2, p.sr.rg⟩, ?_, ?_, .set hc.1⟩
    · rw [List.append_nil]; exact (p.sep.pm pmf).left
    · rw [List.append_nil]; exact p.evo.sub fun a ha => pmf.mem_iff.mpr (List.mem_append_left _ ha)
  · cases h
theorem st_asg {U V0 : List (Option Nat)} {f : M Opd} {e : Expr} {i : Nat} {x : Str} {pos pos' : Pos} (hT : ∀ S i S', f S = .ok (.loc ⟨.slot i, []⟩) S' → some i ∈ V0) (hN : X.N.Nodup) (hi : X.N[i]? = some x) (hx : L2.Loc X.env.scope x) (he : PE X e (tE st Wx U f))
    (hs : swapsWith e (some (.Name x pos')) pos.line X.env = pure false) (hf : X.fn x = true ∨ X.env.scope.names.lookup x = some .local) :
    PS X (.Assign [.Name x pos'] e pos) (tS st Wx np fun S => (xVal f S).bind fun d S1 => match setVar np i d S1 with | some S2 => .ok .next S2 | none => .fail) := by
  refine PS.pt fun D σ H h => ⟨_, ps_set hN hi hx he hs hf, ?_⟩
  obtain ⟨W, S, Fs, G, rfl, hc, sr, sp, h⟩ := h
  refine xVal_bind (T := U ++ V0) hc sr sp (fun S i S' h => List.mem_append_right _ (hT S i S' h)) h (fun d v S2 W1 Fs2 G1 F2 p h => ?_) (fun i hi z => hi (List.mem_append_left _ z))
  cases e3 : setVar np i d S2 with
  | none => rw [e3] at h; exact h.elim
  | some S3 => rw [e3] at h; exact h W1 _ _ G1 (p.setVar e3)
end
end RB
end

section
set_option Elab.async false
set_option maxRecDepth 100000
namespace RB
open PySem L2

/-- how the items come, while what is given up stays -/
structure Wk (J : It) (W0 : Wd) (xs : List D) : Prop where
  go : ∀ i W', Stay W0 W' [] → i < xs.length → J.go i W'.H
  yld : ∀ i W' x H' d, Stay W0 W' [] → Sep W' [] → xs[i]? = some d → J.yld i W'.H x H' → ∃ W'', W''.H = H' ∧ Grow W' W'' [] ∧ Rep W'' d x []
  stop : ∀ W', Stay W0 W' [] → J.stop xs.length W'.H
def tI (st : Sta) (Wx : WX) (T : List (Option Nat)) (f : M (List D)) : TI := fun σ H R => ∃ W S Fs G, W.H = H ∧ W.st = st ∧ SR W σ S Fs G ∧ Sep W (Fs.flatten ++ G) ∧
  Out Wx W σ Fs G (f S) fun xs S1 => ∀ J W1 Fs1 G1, Posts (tch T) W σ S Fs G [] S1 [] W1 Fs1 G1 [] → Wk J W1 xs → R J W1.H
theorem PI.pt {X : Cx} {tg e : Expr} {T : TI} (h : ∀ σ H R, T σ H R → ∃ t, PI X tg e t ∧ t σ H R) : PI X tg e T :=
  ⟨fun pins s σ H R I q => by obtain ⟨t, p, z⟩ := h σ H R q; exact p.run pins s σ H R I z⟩

section
variable {st : Sta} {Wx : WX} {X : Cx} {σ σ1 : St} {H : Hp} {np : Nat} {tg : Expr}
theorem Stay.trans0 {W W1 W2 : Wd} (a : Stay W W1 []) (b : Stay W1 W2 []) : Stay W W2 [] :=
  ⟨fun c o h q => by
    rcases h with h | h
    · cases h
    · exact b.keep c o (.inr (a.perm c h)) (a.keep c o (.inr h) q), fun c h => b.perm c (a.perm c h), by
    obtain ⟨m, e⟩ := a.rv
    obtain ⟨n, e'⟩ := b.rv
    exact ⟨m ++ n, by rw [e', e, List.append_assoc]⟩, b.ca.trans a.ca⟩
theorem Evo.stay0 {W W1 : Wd} {A A1 : List Addr} (e : Evo W A W1 A1) (hp : ∀ a ∈ A, ¬ W.P a) : Stay W W1 [] := e.stay (by simp) hp
/-- a walked thing is given up -/
theorem Posts.give {T : Tch} {W W1 : Wd} {S S1 S2 : DS} {Fs Fs1 : List (List Addr)} {G G1 F : List Addr} {o : Opd} {v : V} {d : D} (p : Posts T W σ S Fs G [o] S1 [v] W1 Fs1 G1 F) (hd : RB.dat S1 o = some d) (h : giveUp o S1 = .ok () S2) (hT : ∀ l, o = .loc l → T (rootT l.root) = true) :
    ∃ B Fs2 G2, Posts T W σ S Fs G [] S2 [] (W1.give B) Fs2 G2 [] ∧ Rep (W1.give B) d.leak v [] := by
  cases o with
  | own e =>
    cases h
    cases hd
    have hop := p.op
    simp only [OpsRep] at hop
    obtain ⟨v', ws, A1, A2, e, hr, ⟨_, rfl⟩, pm⟩ := hop
    cases e
    have hr2 : Rep W1 d v F := hr.pm (by simpa using pm.symm)
    have st1 : Stay W1 (W1.give F) (Fs1.flatten ++ G1) := stay_give _ _ _
    refine ⟨F, Fs1, G1, ⟨⟨p.sr.sl.frame st1.left, RepL.frame _ p.sr.rg st1.right⟩, ⟨rfl, rfl⟩, ?_, ?_, ?_⟩, Rep.leak d (Rep.frame d hr2 (stay_give _ _ _)) fun a ha => .inr ha⟩
    · rw [List.append_nil]
      refine ⟨p.sep.left.nd, fun a ha z => ?_, fun a z => ?_, p.sep.left.tr⟩
      · rcases z with z | z
        · exact p.sep.left.np a ha z
        · exact p.sep.dj ha z
      · rcases z with z | z
        · exact p.sep.tk a z
        · exact p.sep.right.tr a z
    · rw [List.append_nil]
      have e1 : Evo W1 ((Fs1.flatten ++ G1) ++ F) (W1.give F) (Fs1.flatten ++ G1) := ⟨fun _ _ q _ => q, fun _ q => .inl q, fun a ha => .inl (List.mem_append_left _ ha), fun a ha => ha.elim .inl fun z => .inr (.inl (List.mem_append_right _ z)), ⟨[], by simp⟩, rfl⟩
      exact p.evo.trans e1
    · exact ⟨p.pres.sl, p.pres.rg⟩
  | loc l =>
    have hop := p.op
    simp only [OpsRep] at hop
    obtain ⟨v', ws, e, hl, ⟨_, rfl⟩⟩ := hop
    cases e
    simp only [giveUp] at h
    simp only [RB.dat] at hd
    rw [hd] at h
    simp only [Option.bind_some] at h
    cases hs : setLoc S1 l d.leak with
    | none => rw [hs] at h; cases h
    | some S3 =>
      rw [hs] at h
      cases h
      obtain ⟨F1, F2, r1, pm, jj, gg, k⟩ := p.sr.focus hd hl
      have sepA : Sep W1 (F1 ++ F2) := p.sep.left.pm pm
      obtain ⟨Fs2, G2, sr2, pm2, un, ug⟩ := k (W1.give F1) d.leak S2 [] hs (stay_give _ _ _) rfl (Rep.leak d (Rep.frame d r1 (stay_give _ _ _)) fun a ha => .inr ha)
      have pm3 : (Fs2.flatten ++ G2).Perm F2 := by simpa using pm2
      have hTr := hT l rfl
      refine ⟨F1, Fs2, G2, ⟨sr2, ⟨rfl, rfl⟩, ?_, ?_, ⟨fun j hj => ?_, fun hr => ?_⟩⟩, Rep.leak d (Rep.frame d r1 (stay_give _ _ _)) fun a ha => .inr ha⟩
      · rw [List.append_nil]
        refine ⟨pm3.nodup_iff.mpr sepA.right.nd, fun a ha z => ?_, fun a z => ?_, fun a ha => sepA.right.tr a (pm3.mem_iff.mp ha)⟩
        · rcases z with z | z
          · exact sepA.right.np a (pm3.mem_iff.mp ha) z
          · exact sepA.dj z (pm3.mem_iff.mp ha)
        · rcases z with z | z
          · exact sepA.tk a z
          · exact sepA.left.tr a z
      · rw [List.append_nil]
        have e1 : Evo W1 ((Fs1.flatten ++ G1) ++ []) (W1.give F1) (Fs2.flatten ++ G2) := ⟨fun _ _ q _ => q, fun _ q => .inl q, fun a ha => .inl (List.mem_append_left _ (pm.mem_iff.mpr (List.mem_append_right _ (pm3.mem_iff.mp ha)))), fun a ha => ha.elim .inl fun z => .inr (.inl (List.mem_append_left _ (pm.mem_iff.mpr (List.mem_append_left _ z)))), ⟨[], by simp⟩, rfl⟩
        exact p.evo.trans e1
      · have hjr : some j ≠ rootT l.root := fun z => by rw [z, hTr] at hj; cases hj
        obtain ⟨a1, a2, a3⟩ := p.pres.sl j hj
        obtain ⟨b1, b2⟩ := un j hjr
        exact ⟨b1.trans a1, b2.trans a2, a3⟩
      · have hjr : rootT l.root ≠ none := fun z => by rw [z, hr] at hTr; cases hTr
        obtain ⟨a1, a2, a3, a4⟩ := p.pres.rg hr
        obtain ⟨b1, b2⟩ := ug hjr
        exact ⟨b1.trans a1, b2.trans a2, a3, a4⟩
theorem giveUp_out {W : Wd} {Fs : List (List Addr)} {G : List Addr} {o : Opd} {S1 : DS} {K : Unit → DS → Prop} (h : Out Wx W σ Fs G (giveUp o S1) K) : ∃ S2, giveUp o S1 = .ok () S2 ∧ K () S2 := by
  cases o with
  | own d => exact ⟨S1, rfl, h⟩
  | loc l =>
    simp only [giveUp] at h ⊢
    split at h
    · rename_i S' e
      exact ⟨S', rfl, h⟩
    · exact h.elim

/-! ### walks -/
theorem rl_at {W : Wd} {xs : List D} {vs : List V} {i : Nat} {d : D} (h : RepL W xs vs []) (e : xs[i]? = some d) : ∃ v, vs[i]? = some v ∧ Rep W d v [] := RepL.at0 h e
theorem wk_list {W0 : Wd} {K : PySem.W.Frag} {a : Addr} {xs : List D} {vs : List V} (hp : W0.P a) (hv : W0.H a = some (.lst vs)) (h : RepL W0 xs vs []) : Wk (Itl K a) W0 xs where
  go := fun i W' s hi => by
    have : i < vs.length := by rw [h.len]; exact hi
    exact ⟨vs, vs[i], SqL.of (s.keep a _ (.inr hp) hv), by simp [this]⟩
  yld := fun i W' x H' d s sp e y => by
    obtain ⟨rfl, y⟩ := y
    obtain ⟨v, e1, r⟩ := rl_at h e
    have := y vs (SqL.of (s.keep a _ (.inr hp) hv))
    rw [e1] at this; cases this
    exact ⟨W', rfl, .refl sp, Rep.frame d r s⟩
  stop := fun W' s => ⟨vs, SqL.of (s.keep a _ (.inr hp) hv), by rw [h.len]; exact Nat.le_refl _⟩
theorem wk_tup {W0 : Wd} {K : PySem.W.Frag} {a : Addr} {xs : List D} {vs : List V} (hp : W0.P a) (hv : W0.H a = some (.tup vs)) (h : RepL W0 xs vs []) : Wk (Itt K a) W0 xs where
  go := fun i W' s hi => by
    have : i < vs.length := by rw [h.len]; exact hi
    exact ⟨vs, vs[i], SqT.of (s.keep a _ (.inr hp) hv), by simp [this]⟩
  yld := fun i W' x H' d s sp e y => by
    obtain ⟨rfl, y⟩ := y
    obtain ⟨v, e1, r⟩ := rl_at h e
    have := y vs (SqT.of (s.keep a _ (.inr hp) hv))
    rw [e1] at this; cases this
    exact ⟨W', rfl, .refl sp, Rep.frame d r s⟩
  stop := fun W' s => ⟨vs, SqT.of (s.keep a _ (.inr hp) hv), by rw [h.len]; exact Nat.le_refl _⟩
theorem scr_seq {W0 W' : Wd} {a : Addr} {ns : List Int} (h : Rep W0 (.scr ns) (.ref a) []) (s : Stay W0 W' []) : SqL W0.st.K W'.H a (ns.map V.int) := by
  obtain ⟨a', e, r⟩ := rep_scr ⟨_, Rep.frame _ h s⟩
  cases e
  rw [← s.ca]; exact r
theorem wk_scr {W0 : Wd} {a : Addr} {ns : List Int} (h : Rep W0 (.scr ns) (.ref a) []) : Wk (Itl W0.st.K a) W0 (ns.map .int) where
  go := fun i W' s hi => by
    rw [List.length_map] at hi
    exact ⟨_, .int ns[i], scr_seq h s, by simp [hi]⟩
  yld := fun i W' x H' d s sp e y => by
    obtain ⟨rfl, y⟩ := y
    have := y _ (scr_seq h s)
    rw [List.getElem?_map] at this e
    cases hn : ns[i]? with
    | none => rw [hn] at e; cases e
    | some n =>
      rw [hn] at this e
      cases this; cases e
      exact ⟨W', rfl, .refl sp, .mkInt n⟩
  stop := fun W' s => ⟨_, scr_seq h s, by simp⟩
theorem wk_str {W0 : Wd} {z : Str} (ok : okS z) : Wk (Its z) W0 (z.cps.toList.map fun c => .str ⟨#[c]⟩) where
  go := fun i W' s hi => by show i < z.cps.size; simpa using hi
  yld := fun i W' x H' d s sp e y => by
    obtain ⟨rfl, c, hc, rfl⟩ := y
    rw [List.getElem?_map] at e
    have : z.cps.toList[i]? = some c := by simpa using hc
    rw [this] at e
    cases e
    exact ⟨W', rfl, .refl sp, .mkStr (okS_one ok (List.mem_of_getElem? this))⟩
  stop := fun W' s => by show z.cps.size ≤ _; simp
theorem wk_rng {W0 : Wd} {a b : Int} : Wk (Itr a (b - a).toNat) W0 (rngD a b) where
  go := fun i W' s hi => by
    rw [rngD, List.length_map, List.length_range] at hi
    exact hi
  yld := fun i W' x H' d s sp e y => by
    obtain ⟨rfl, rfl⟩ := y
    have hi : i < (b - a).toNat := by simpa [rngD] using (List.getElem?_eq_some_iff.mp e).1
    have : d = .int (a + i) := by
      unfold rngD at e
      rw [List.getElem?_map, List.getElem?_range hi] at e
      cases e; rfl
    subst this
    exact ⟨W', rfl, .refl sp, .mkInt _⟩
  stop := fun W' s => by show (b - a).toNat ≤ _; simp [rngD]
theorem s_seq {T Ta : List (Option Nat)} {f : M Opd} {e : Expr} (xc : XC st X) (hT : ∀ i, i ∉ T → i ∉ Ta) (hl : ∀ S l S', f S = .ok (.loc l) S' → rootT l.root ∈ T) (he : PE X e (tE st Wx Ta f)) : PI X tg e (tI st Wx T (xSeq f)) := by
  refine PI.pt fun σ H R h => ?_
  obtain ⟨W, S, Fs, G, rfl, hc, sr, sp, h⟩ := h
  have gen : ∀ (t : TE → TI) (Rr : V → Hp → Prop), (∀ te, PE X e te → PI X tg e (t te)) → (∀ te, (te σ W.H fun x H1 => Rr x H1) → t te σ W.H R) → (tE st Wx Ta f σ W.H Rr) → ∃ t, PI X tg e t ∧ t σ W.H R := fun t Rr h1 h2 h3 => ⟨_, h1 _ he, h2 _ h3⟩
  replace h := h.bind
  cases e1 : f S with
  | fail => rw [e1] at h; exact h.elim
  | exc x S1 =>
    refine gen (fun te => iStr te) (fun v H1 => ∃ x, v = .str x ∧ R (Its x) H1) (fun te h => pi_str h) (fun te h => h) (tE_of hc sr sp ?_)
    rw [e1] at h ⊢
    exact h
  | ok o S1 =>
    rw [e1] at h
    replace h := h.ok
    cases e2 : (dat S1 o).bind itemsD with
    | none => rw [e2] at h; exact h.elim
    | some xs =>
      rw [e2] at h
      obtain ⟨d, e3, e4⟩ := Option.bind_eq_some_iff.mp e2
      obtain ⟨S2, e5, h⟩ := giveUp_out h.bind
      have fin : ∀ (Rr : V → Hp → Prop), (∀ v W2 Fs2 G2, Posts (tch T) W σ S Fs G [] S2 [] W2 Fs2 G2 [] → Rep W2 d.leak v [] → Rr v W2.H) → tE st Wx Ta f σ W.H Rr := fun Rr hR => by
        refine tE_of hc sr sp ?_
        rw [e1]
        intro v W1 Fs1 G1 F p _
        obtain ⟨B, Fs2, G2, p2, r2⟩ := (p.mono (T' := tch T) fun i hi => tch_false.mpr (hT i (tch_false.mp hi))).give e3 e5 fun l hlo => by subst hlo; simpa [tch] using hl _ _ _ e1
        exact hR v (W1.give B) Fs2 G2 p2 r2
      cases d with
      | lst o' ys =>
        simp only [itemsD, Option.some.injEq] at e4
        subst e4
        refine gen (fun te => iList X.K te) (fun v H1 => ∃ a, v = .ref a ∧ (∃ xs, SqL X.K H1 a xs) ∧ R (Itl X.K a) H1) (fun te h => pi_list h) (fun te h => h) (fin _ fun v W2 Fs2 G2 p2 r2 => ?_)
        simp only [D.leak, Rep] at r2
        obtain ⟨_, a, vs, rfl, hp, hv, hr⟩ := r2
        exact ⟨a, rfl, ⟨vs, SqL.of hv⟩, h _ W2 Fs2 G2 p2 (wk_list hp hv hr)⟩
      | tup ys =>
        simp only [itemsD, Option.some.injEq] at e4
        subst e4
        refine gen (fun te => iTup X.K te) (fun v H1 => ∃ a, v = .ref a ∧ (∃ xs, SqT X.K H1 a xs) ∧ R (Itt X.K a) H1) (fun te h => pi_tup h) (fun te h => h) ?_
        refine tE_of hc sr sp ?_
        rw [e1]
        intro v W1 Fs1 G1 F p _
        have hr := p.dat e3
        obtain ⟨F0, hr⟩ := hr
        have hf : F0 = [] := by simp only [Rep] at hr; exact hr.1
        subst hf
        simp only [Rep] at hr
        obtain ⟨_, a, vs, rfl, hp, hv, hr⟩ := hr
        -- nothing is given up: what owns nothing stays
        have p2 : ∃ Fs2 G2 W2, Posts (tch T) W σ S Fs G [] S2 [] W2 Fs2 G2 [] ∧ W2.H = W1.H ∧ (∀ b, W1.P b → W2.P b) ∧ Stay W1 W2 [] := by
          obtain ⟨B, Fs2, G2, p2, _⟩ := (p.mono (T' := tch T) fun i hi => tch_false.mpr (hT i (tch_false.mp hi))).give e3 e5 fun l hlo => by subst hlo; simpa [tch] using hl _ _ _ e1
          exact ⟨Fs2, G2, _, p2, rfl, fun b z => .inl z, stay_give _ _ _⟩
        obtain ⟨Fs2, G2, W2, p2, eH, hP, st2⟩ := p2
        refine ⟨a, rfl, ⟨vs, SqT.of hv⟩, ?_⟩
        rw [← eH]
        exact h _ W2 Fs2 G2 p2 (wk_tup (hP a hp) (by rw [eH]; exact hv) (RepL.frame _ hr st2))
      | str z =>
        simp only [itemsD, Option.some.injEq] at e4
        subst e4
        refine gen (fun te => iStr te) (fun v H1 => ∃ x, v = .str x ∧ R (Its x) H1) (fun te h => pi_str h) (fun te h => h) (fin _ fun v W2 Fs2 G2 p2 r2 => ?_)
        exact ⟨z, rep_str ⟨_, r2⟩, h _ W2 Fs2 G2 p2 (wk_str (rep_ok ⟨_, r2⟩))⟩
      | scr ns =>
        simp only [itemsD, Option.some.injEq] at e4
        subst e4
        refine gen (fun te => iList X.K te) (fun v H1 => ∃ a, v = .ref a ∧ (∃ xs, SqL X.K H1 a xs) ∧ R (Itl X.K a) H1) (fun te h => pi_list h) (fun te h => h) (fin _ fun v W2 Fs2 G2 p2 r2 => ?_)
        have eK : X.K = W2.st.K := by rw [xc.K, ← hc, ← p2.evo.ca]
        have r3 : Rep W2 (.scr ns) v [] := r2
        obtain ⟨a, rfl, hq⟩ := rep_scr ⟨_, r3⟩
        refine ⟨a, rfl, ⟨_, by rw [eK]; exact hq⟩, ?_⟩
        rw [eK]
        exact h _ W2 Fs2 G2 p2 (wk_scr r3)
      | _ => simp [itemsD] at e4
theorem s_rng1 {T : List (Option Nat)} {f : M Opd} {e : Expr} {p pos : Pos} (hg : Gl X "range") (hm : X.mg "range" = none) (he : PE X e (tE st Wx T f)) (hs : ∀ r, starEach (e :: r) X.env = (false, eval e X.env) :: starEach r X.env) :
    PI X tg (.Call (.Name "range" p) [e] [] pos) (tI st Wx T fun S => (f S).bind fun o S1 => match dat S1 o with | some (.int j) => if rngOk j then .ok (rngD 0 j) S1 else .fail | _ => .fail) := by
  refine PI.pt fun σ H R h => ⟨_, pi_range1 hg hm (pa_cons he pa_nil (hs _)) (hs _), ?_⟩
  obtain ⟨W, S, Fs, G, rfl, hc, sr, sp, h⟩ := h
  refine tE_of hc sr sp (h.bind.mono fun o S1 _ h v W1 Fs1 G1 F pp _ => ?_)
  cases e3 : dat S1 o with
  | none => rw [e3] at h; exact h.elim
  | some d =>
    rw [e3] at h
    cases d with
    | int j =>
      simp only at h
      split at h
      · rename_i hz
        simp only [rngOk, Bool.and_eq_true, decide_eq_true_eq] at hz
        refine ⟨j, by rw [rep_int (pp.dat e3)], hz.1, hz.2, ?_⟩
        have := h (Itr 0 (j - 0).toNat) W1 Fs1 G1 pp.drop wk_rng
        rw [Int.sub_zero] at this
        exact this
      · exact h.elim
    | _ => exact h.elim
theorem s_rng2 {T Ta Tb : List (Option Nat)} {fa fb : M Opd} {a b : Expr} {p pos : Pos} (hT : ∀ i, i ∉ T → i ∉ Ta ++ Tb) (hg : Gl X "range") (hm : X.mg "range" = none) (ha : PE X a (tE st Wx Ta fa)) (hb : PE X b (tE st Wx Tb fb)) (hs : ∀ r, starEach (a :: r) X.env = (false, eval a X.env) :: starEach r X.env)
    (hs2 : ∀ r, starEach (b :: r) X.env = (false, eval b X.env) :: starEach r X.env) :
    PI X tg (.Call (.Name "range" p) [a, b] [] pos) (tI st Wx T fun S => (evL [(fa, Ta), (fb, Tb)] S).bind fun os S1 => match datL S1 os with | some [.int i, .int j] => if rngOk i && rngOk j then .ok (rngD i j) S1 else .fail | _ => .fail) := by
  refine PI.pt fun σ H R h => ⟨_, pi_range2 hg hm (pa_cons ha (pa_cons hb pa_nil (hs2 _)) (hs _)) (by rw [hs, hs2]; rfl) (hs2 _), ?_⟩
  obtain ⟨W, S, Fs, G, rfl, hc, sr, sp, h⟩ := h
  have key : tA st Wx [(fa, Ta), (fb, Tb)] σ W.H fun vs H1 => ∃ i j : Int, vs = [.int i, .int j] ∧ (-(2 ^ 62) ≤ i ∧ i < 2 ^ 62 ∧ -(2 ^ 62) ≤ j ∧ j < 2 ^ 62) ∧ R (Itr i (j - i).toNat) H1 := by
    refine tA_of hc sr sp (h.bind.mono fun os S1 _ h vs W1 Fs1 G1 F pp => ?_)
    split at h
    · rename_i i j e3
      split at h
      · rename_i hz
        simp only [rngOk, Bool.and_eq_true, decide_eq_true_eq] at hz
        have hp := pp.op.reads pp.sr e3
        obtain ⟨x', y', rfl, hx, hy⟩ := pair2 hp
        cases rep_int hx; cases rep_int hy
        exact ⟨i, j, rfl, ⟨hz.1.1, hz.1.2, hz.2.1, hz.2.2⟩, h _ W1 Fs1 G1 (pp.drop.mono fun i hi => tch_false.mpr (by simpa using hT i (tch_false.mp hi))) wk_rng⟩
      · exact h.elim
    · exact h.elim
  exact tE_mono (tA_2 key) fun x H1 q => tE_mono q fun y H2 q => q
end
end RB
end

section
set_option Elab.async false
set_option maxRecDepth 100000
namespace RB
open PySem L2

section
variable {st : Sta} {Wx : WX} {X : Cx} {σ σ1 : St} {H : Hp} {np : Nat} {tg : Expr}
/-! ### targets -/
def gNames : List Nat → TGs
  | [] => gNil
  | i :: is => gCons (gName i) (gNames is)
def tgR (K : PySem.W.Frag) : Tg → TG
  | .name i => gName i
  | .tup is => gTup K is.length (gNames is)
theorem setVar_post {W : Wd} {S S' : DS} {Fs : List (List Addr)} {G : List Addr} {d : D} {v : V} {i : Nat} (sr : SR W σ S Fs G) (sp : Sep W (Fs.flatten ++ G)) (r : Rep W d v []) (h : setVar np i d S = some S') : SPost np W σ Fs G W (σ.set i (some v)) S' (Fs.set i []) G [] :=
  (Posts.const (T := fun _ => true) sr sp r).setVar h
theorem names_ok {W : Wd} {G : List Addr} {σ0 : St} {Fs0 : List (List Addr)} {K' : St → Hp → Prop} : ∀ {is : List Nat} {ds : List D} {vs : List V} {σ : St} {S S' : DS} {Fs : List (List Addr)}, RepL W ds vs [] → SPost np W σ0 Fs0 G W σ S Fs G [] → setVars np is ds S = some S' →
    (∀ σ' Fs', SPost np W σ0 Fs0 G W σ' S' Fs' G [] → K' σ' W.H) → gNames is vs σ W.H K'
  | [], ds, vs, σ, S, S', Fs, hr, p, h, hk => by
    cases ds with
    | cons d ds => simp [setVars] at h
    | nil =>
      simp only [setVars, Option.some.injEq] at h
      subst h
      simp only [RepL] at hr
      exact ⟨hr.1, hk σ Fs p⟩
  | i :: is, ds, vs, σ, S, S', Fs, hr, p, h, hk => by
    cases ds with
    | nil => simp [setVars] at h
    | cons d ds =>
      simp only [setVars, Option.bind_eq_some_iff] at h
      obtain ⟨S1, h1, h2⟩ := h
      simp only [RepL] at hr
      obtain ⟨v, ws, F1, F2, rfl, r1, r2, pm⟩ := hr
      have := pm.symm.eq_nil
      simp only [List.append_eq_nil_iff] at this
      obtain ⟨rfl, rfl⟩ := this
      exact ⟨v, ws, rfl, names_ok r2 (p.trans (setVar_post p.sr (by simpa using p.sep) r1 h1)) h2 hk⟩
theorem setVars_len : ∀ {is : List Nat} {ds : List D} {S S' : DS}, setVars np is ds S = some S' → ds.length = is.length
  | [], [], _, _, _ => rfl
  | [], _ :: _, _, _, h => by simp [setVars] at h
  | _ :: _, [], _, _, h => by simp [setVars] at h
  | i :: is, d :: ds, S, S', h => by
    simp only [setVars, Option.bind_eq_some_iff] at h
    obtain ⟨S1, _, h2⟩ := h
    simp [setVars_len h2]
theorem tg_ok {W : Wd} {S S' : DS} {Fs : List (List Addr)} {G : List Addr} {g : Tg} {d : D} {v : V} {K : PySem.W.Frag} {K' : St → Hp → Prop} (sr : SR W σ S Fs G) (sp : Sep W (Fs.flatten ++ G)) (r : Rep W d v []) (h : setTg np g d S = some S')
    (hk : ∀ σ' Fs', SPost np W σ Fs G W σ' S' Fs' G [] → K' σ' W.H) : tgR K g v σ W.H K' := by
  cases g with
  | name i => exact hk _ _ (setVar_post sr sp r (by cases d <;> exact h))
  | tup is =>
    cases d with
    | tup ds =>
      simp only [setTg] at h
      obtain ⟨a, vs, rfl, hv, hr⟩ := rep_tup ⟨_, r⟩
      refine ⟨a, vs, rfl, SqT.of hv, ?_, names_ok hr (.refl sr sp) h hk⟩
      rw [hr.len, setVars_len h]
    | _ => simp [setTg] at h

/-! ### while -/
theorem st_while {T : List (Option Nat)} {ft : M Bool} {b : M Fl} {c : Expr} {sb : List Stmt} {pos : Pos} {n : Nat} (hp : PassesOwn (model X.prog X.w) X.A X.env X.xe) (hc : PT X c (tT st Wx T ft)) (hb : PSs X sb (tS st Wx np b)) :
    PS X (.While c sb [] pos) (tS st Wx np fun S => whileLoop ft b n S) := by
  refine PS.pt fun D σ0 H h => ⟨_, ps_while hp hc hb, ?_⟩
  obtain ⟨W0, S0, Fs0, G0, rfl, hst, sr0, sp0, h0⟩ := h
  refine ⟨fun m σ H => ∃ W S Fs G, W.H = H ∧ SPost np W0 σ0 Fs0 G0 W σ S Fs G [] ∧ OutS Wx np W0 σ0 Fs0 G0 (whileLoop ft b m S) (KEnd D np W0 σ0 Fs0 G0), ⟨n, W0, S0, Fs0, G0, rfl, .refl sr0 sp0, h0⟩, ?_⟩
  rintro m σ H ⟨W, S, Fs, G, rfl, p, h⟩
  cases m with
  | zero => exact h.elim
  | succ m =>
    simp only [whileLoop] at h
    refine tT_of (p.evo.ca.trans hst) p.sr (by simpa using p.sep) ((h.shift p).bind.out.mono fun r S1 e _ W1 Fs1 G1 q => ?_)
    have h1 := h.bind
    rw [e] at h1
    have p1 : SPost np W0 σ0 Fs0 G0 W1 σ S1 Fs1 G1 [] := p.trans (q.sp (np := np))
    have hst1 : W1.st = st := p1.evo.ca.trans hst
    cases r with
    | false =>
      have h2 : KEnd D np W0 σ0 Fs0 G0 .next S1 := h1
      rw [if_neg Bool.false_ne_true]
      exact h2 W1 σ Fs1 G1 p1
    | true =>
      have h2 : OutS Wx np W0 σ0 Fs0 G0 ((b S1).bind fun f S2 => match f with
        | .next => whileLoop ft b m S2
        | .cont => whileLoop ft b m S2
        | .brk => .ok .next S2
        | .ret v => .ok (.ret v) S2) (KEnd D np W0 σ0 Fs0 G0) := h1
      rw [if_pos rfl]
      refine ⟨fun σ' H' => ∃ W S Fs G, W.H = H' ∧ SPost np W0 σ0 Fs0 G0 W σ' S Fs G [] ∧ OutS Wx np W0 σ0 Fs0 G0 (whileLoop ft b m S) (KEnd D np W0 σ0 Fs0 G0), fun σ' H' z => ⟨m, Nat.lt_succ_self m, z⟩, ?_⟩
      refine tS_of hst1 p1.sr (by simpa using p1.sep) ((h2.shift p1).bind.mono fun fl S2 e2 _ => ?_)
      have h3 := h2.bind
      rw [e2] at h3
      cases fl with
      | next => exact fun W2 σ2 Fs2 G2 q2 => ⟨W2, S2, Fs2, G2, rfl, p1.trans q2, h3⟩
      | cont => exact fun W2 σ2 Fs2 G2 q2 => ⟨W2, S2, Fs2, G2, rfl, p1.trans q2, h3⟩
      | brk =>
        have h4 : KEnd D np W0 σ0 Fs0 G0 .next S2 := h3
        exact fun W2 σ2 Fs2 G2 q2 => h4 W2 σ2 Fs2 G2 (p1.trans q2)
      | ret d =>
        have h4 : KEnd D np W0 σ0 Fs0 G0 (.ret d) S2 := h3
        exact fun v W2 σ2 Fs2 G2 F q2 r2 => h4 v W2 σ2 Fs2 G2 F (p1.trans q2) r2

/-! ### for -/
theorem Grow.spost {W W1 : Wd} {S : DS} {Fs : List (List Addr)} {G : List Addr} (sr : SR W σ S Fs G) (sp : Sep W (Fs.flatten ++ G)) (g : Grow W W1 []) : SPost np W σ Fs G W1 σ S Fs G [] := by
  have s0 : Stay W W1 (Fs.flatten ++ G) := ⟨fun a o _ q => g.evo.keep a o q (by simp), g.evo.perm, g.evo.rv, g.evo.ca⟩
  refine ⟨⟨sr.sl.frame s0.left, by rw [g.rv]; exact RepL.frame _ sr.rg s0.right⟩, ?_, ?_, .refl⟩
  · have := Sep.beside (B := Fs.flatten ++ G) g.evo (by simpa using sp) g.sep
    simpa using this
  · have := g.evo.beside (Fs.flatten ++ G)
    simpa using this
theorem st_for {T : List (Option Nat)} {fs : M (List D)} {b : M Fl} {g : Tg} {iter : Expr} {sb : List Stmt} {pos : Pos} (hp : PassesOwn (model X.prog X.w) X.A X.env X.xe) (hcm : X.calm = true) (hi : PI X tg iter (tI st Wx T fs)) (hg : PG X tg (tgR X.K g)) (hb : PSs X sb (tS st Wx np b))
    (hs : ∀ x, foldedSetIterable iter X.env x = pure x) : PS X (.For tg iter sb [] pos) (tS st Wx np fun S => (fs S).bind fun xs S1 => forLoop np g b xs S1) := by
  refine PS.pt fun D σ0 H h => ⟨_, ps_for hp hcm hi hg hb hs, ?_⟩
  obtain ⟨W0, S0, Fs0, G0, rfl, hst, sr0, sp0, h0⟩ := h
  refine ⟨W0, S0, Fs0, G0, rfl, hst, sr0, sp0, h0.bind.out.mono fun xs S1 e _ J W1 Fs1 G1 q wk => ?_⟩
  have h1 := h0.bind
  rw [e] at h1
  have h1 : OutS Wx np W0 σ0 Fs0 G0 (forLoop np g b xs S1) (KEnd D np W0 σ0 Fs0 G0) := h1
  have p1 : SPost np W0 σ0 Fs0 G0 W1 σ0 S1 Fs1 G1 [] := q.sp
  -- the invariant
  let Iv : Nat → St → Hp → Prop := fun i σ H => ∃ W S Fs G, W.H = H ∧ SPost np W1 σ0 Fs1 G1 W σ S Fs G [] ∧ OutS Wx np W0 σ0 Fs0 G0 (forLoop np g b (xs.drop i) S) (KEnd D np W0 σ0 Fs0 G0)
  refine ⟨fun i m σ H => m = xs.length - i ∧ i ≤ xs.length ∧ Iv i σ H, ⟨xs.length, by simp, Nat.zero_le _, W1, S1, Fs1, G1, rfl, .refl q.sr (by simpa using q.sep), by simpa using h1⟩, ?_⟩
  rintro i m σ H ⟨rfl, hil, W, S, Fs, G, rfl, p, h⟩
  have np1 : ∀ a ∈ Fs1.flatten ++ G1, ¬ W1.P a := fun a ha => by have := q.sep; simp only [List.append_nil] at this; exact this.np a ha
  have stay : Stay W1 W [] := p.ev.stay0 np1
  have pAll : SPost np W0 σ0 Fs0 G0 W σ S Fs G [] := p1.trans p
  by_cases hlt : i < xs.length
  · have hd : xs.drop i = xs[i] :: xs.drop (i + 1) := List.drop_eq_getElem_cons hlt
    rw [hd] at h
    simp only [forLoop] at h
    refine .inr ⟨wk.go i W stay hlt, Iv (i + 1), fun σ' H' z => ⟨xs.length - (i + 1), by omega, rfl, hlt, z⟩, fun x H' y => ?_⟩
    obtain ⟨W', rfl, gr, rx⟩ := wk.yld i W x H' xs[i] stay ⟨List.nodup_nil, by simp, p.sep.tk, by simp⟩ (List.getElem?_eq_getElem hlt) y
    cases e2 : setTg np g xs[i] S with
    | none => rw [e2] at h; exact h.elim
    | some S2 =>
      rw [e2] at h
      have pg : SPost np W σ Fs G W' σ S Fs G [] := Grow.spost p.sr (by simpa using p.sep) gr
      refine tg_ok pg.sr (by simpa using pg.sep) rx e2 fun σ2 Fs2 p2 => ?_
      have p3 : SPost np W1 σ0 Fs1 G1 W' σ2 S2 Fs2 G [] := (p.trans pg).trans p2
      have p4 : SPost np W0 σ0 Fs0 G0 W' σ2 S2 Fs2 G [] := p1.trans p3
      have h : OutS Wx np W0 σ0 Fs0 G0 ((b S2).bind _) (KEnd D np W0 σ0 Fs0 G0) := h
      refine tS_of (p4.evo.ca.trans hst) p3.sr (by simpa using p3.sep) ((h.shift p4).bind.mono fun fl S3 e3 _ => ?_)
      have h3 := h.bind
      rw [e3] at h3
      cases fl with
      | next => exact fun W4 σ4 Fs4 G4 q4 => ⟨W4, S3, Fs4, G4, rfl, p3.trans q4, h3⟩
      | cont => exact fun W4 σ4 Fs4 G4 q4 => ⟨W4, S3, Fs4, G4, rfl, p3.trans q4, h3⟩
      | brk =>
        have h4 : KEnd D np W0 σ0 Fs0 G0 .next S3 := h3
        exact fun W4 σ4 Fs4 G4 q4 => h4 W4 σ4 Fs4 G4 (p4.trans q4)
      | ret d =>
        have h4 : KEnd D np W0 σ0 Fs0 G0 (.ret d) S3 := h3
        exact fun v W4 σ4 Fs4 G4 F q4 r4 => h4 v W4 σ4 Fs4 G4 F (p4.trans q4) r4
  · have e3 : i = xs.length := by omega
    subst e3
    rw [List.drop_length] at h
    have h4 : KEnd D np W0 σ0 Fs0 G0 .next S := h
    exact .inl ⟨wk.stop W stay, h4 W σ Fs G pAll⟩
end
end RB
end

section
set_option Elab.async false
set_option maxRecDepth 100000
namespace RB
open PySem L2

section
variable {st : Sta} {Wx : WX} {X : Cx} {σ σ1 : St} {H : Hp} {np : Nat} {tg : Expr}
/-! ### a comprehension's own names -/
theorem hideD_len {ds : List (Option D)} : ∀ (is : List Nat), (hideD ds is).length = ds.length
  | [] => rfl
  | i :: is => by simp [hideD, hideD_len is]
theorem hideD_out {ds : List (Option D)} {j : Nat} : ∀ {is : List Nat}, j ∉ is → (hideD ds is)[j]? = ds[j]?
  | [], _ => rfl
  | i :: is, h => by
    simp only [List.mem_cons, not_or] at h
    simp only [hideD]
    rw [List.getElem?_set_ne (Ne.symm h.1), hideD_out h.2]
theorem hideD_in {ds : List (Option D)} {j : Nat} : ∀ {is : List Nat}, j ∈ is → j < ds.length → (hideD ds is)[j]? = some none
  | [], h, _ => by cases h
  | i :: is, h, hl => by
    simp only [hideD]
    by_cases e : i = j
    · subst e; rw [List.getElem?_set_self (by rw [hideD_len]; exact hl)]
    · rw [List.getElem?_set_ne e]
      exact hideD_in ((List.mem_cons.mp h).resolve_left (Ne.symm e)) hl
theorem showD_out {ds0 ds : List (Option D)} {j : Nat} : ∀ {is : List Nat}, j ∉ is → (showD ds0 ds is)[j]? = ds[j]?
  | [], _ => rfl
  | i :: is, h => by
    simp only [List.mem_cons, not_or] at h
    simp only [showD]
    rw [List.getElem?_set_ne (Ne.symm h.1), showD_out h.2]
theorem showD_set {ds0 ds : List (Option D)} {i : Nat} {x : Option D} : ∀ {is : List Nat}, i ∉ is → showD ds0 (ds.set i x) is = (showD ds0 ds is).set i x
  | [], _ => rfl
  | k :: is, h => by
    simp only [List.mem_cons, not_or] at h
    simp only [showD]
    rw [showD_set h.2, List.set_comm _ _ h.1]
theorem RepS_nil_at {W : Wd} : ∀ {ds : List (Option D)} {σ : St} {Fs : List (List Addr)} {i : Nat} {A : List Addr}, RepS W ds σ Fs → ds[i]? = some none → Fs[i]? = some A → A = []
  | [], σ, Fs, i, A, h, e, e' => by simp at e
  | none :: ds, σ, Fs, 0, A, h, e, e' => by
    simp only [RepS] at h
    obtain ⟨o, σ', Fs', rfl, rfl, h⟩ := h
    simpa using e'.symm
  | some d :: ds, σ, Fs, 0, A, h, e, e' => by simp at e
  | none :: ds, σ, Fs, i + 1, A, h, e, e' => by
    simp only [RepS] at h
    obtain ⟨o, σ', Fs', rfl, rfl, h⟩ := h
    exact RepS_nil_at h (by simpa using e) (by simpa using e')
  | some d :: ds, σ, Fs, i + 1, A, h, e, e' => by
    simp only [RepS] at h
    obtain ⟨v, σ', F, Fs', rfl, rfl, _, h⟩ := h
    exact RepS_nil_at h (by simpa using e) (by simpa using e')
theorem set_oob {α : Type} {l : List α} {i : Nat} {x : α} (h : ¬ i < l.length) : l.set i x = l := List.set_eq_of_length_le (by omega)
theorem hide_split {W : Wd} {ds : List (Option D)} {Fs : List (List Addr)} (h : RepS W ds σ Fs) : ∀ {is : List Nat}, is.Nodup → ∃ Fh B, RepS W (hideD ds is) (wipe σ is) Fh ∧ Fs.flatten.Perm (Fh.flatten ++ B) ∧ (∀ j, j ∉ is → Fh[j]? = Fs[j]?) ∧
    ∀ W' ds' Fs', Stay W W' B → RepS W' ds' (wipe σ is) Fs' → (∀ i ∈ is, i < ds.length → ds'[i]? = some none) → ∃ F2, RepS W' (showD ds ds' is) σ F2 ∧ F2.flatten.Perm (Fs'.flatten ++ B) ∧ ∀ j, j ∉ is → F2[j]? = Fs'[j]?
  | [], _ => ⟨Fs, [], h, by simp, fun _ _ => rfl, fun W' ds' Fs' _ h' _ => ⟨Fs', h', by simp, fun _ _ => rfl⟩⟩
  | i :: is, nd => by
    obtain ⟨hi, nd'⟩ := List.nodup_cons.mp nd
    obtain ⟨Fh, B, r1, pm1, un1, k1⟩ := hide_split h nd'
    have len1 := r1.len
    have lw : (wipe σ is).length = σ.length := wipe_length σ is
    by_cases hl : i < ds.length
    · have hlh : i < (hideD ds is).length := by rw [hideD_len]; exact hl
      obtain ⟨A, hA⟩ : ∃ A, Fh[i]? = some A := ⟨_, List.getElem?_eq_getElem (by rw [len1.2]; exact hlh)⟩
      have r2 : RepS W ((hideD ds is).set i none) ((wipe σ is).set i none) (Fh.set i []) := (r1.drop i).hole i none (by rw [List.getElem?_set_self hlh])
      have pmA := flat_set0 hA
      refine ⟨Fh.set i [], B ++ A, r2, List.perm_iff_count.mpr fun a => ?_, fun j hj => ?_, fun W' ds' Fs' stay r' hh => ?_⟩
      · have c1 := List.perm_iff_count.mp pm1 a
        have c2 := List.perm_iff_count.mp pmA a
        simp only [List.count_append] at c1 c2 ⊢
        omega
      · simp only [List.mem_cons, not_or] at hj
        rw [List.getElem?_set_ne (Ne.symm hj.1)]
        exact un1 j hj.2
      · have len' := r'.len
        have hld : i < ds'.length := by
          have := len'.1
          rw [show (wipe σ (i :: is)) = (wipe σ is).set i none from rfl, List.length_set] at this
          rw [← this, len1.1]; exact hlh
        have hn : ds'[i]? = some none := hh i List.mem_cons_self hl
        obtain ⟨A', hA'⟩ : ∃ A', Fs'[i]? = some A' := ⟨_, List.getElem?_eq_getElem (by rw [len'.2]; exact hld)⟩
        -- what stood in the slot
        have cur : (hideD ds is)[i]? = ds[i]? := hideD_out hi
        obtain ⟨o, ho⟩ : ∃ o, ds[i]? = some o := ⟨_, List.getElem?_eq_getElem hl⟩
        obtain ⟨w, hw⟩ : ∃ w, (wipe σ is)[i]? = some w := ⟨_, List.getElem?_eq_getElem (by rw [len1.1]; exact hlh)⟩
        have back : ((wipe σ is).set i none).set i w = wipe σ is := by rw [List.set_set]; exact set_same hw
        have step : ∃ F3, RepS W' (ds'.set i o) (wipe σ is) F3 ∧ F3.flatten.Perm (Fs'.flatten ++ A) ∧ ∀ j, j ≠ i → F3[j]? = Fs'[j]? := by
          have e0 : A' = [] := RepS_nil_at r' hn hA'
          subst e0
          cases o with
          | none =>
            have r3 := r'.hole i w hn
            rw [show (wipe σ (i :: is)) = (wipe σ is).set i none from rfl, back] at r3
            have eA : A = [] := RepS_nil_at r1 (cur.trans ho) hA
            subst eA
            exact ⟨Fs', by rw [set_same hn]; exact r3, by simp, fun _ _ => rfl⟩
          | some d =>
            obtain ⟨v, F, e1, e2, rd⟩ := r1.at (cur.trans ho)
            rw [hA] at e2; cases e2
            have r3 := r'.set i (Rep.frame d rd stay.right) hld
            rw [hw] at e1; cases e1
            rw [show (wipe σ (i :: is)) = (wipe σ is).set i none from rfl, back] at r3
            refine ⟨Fs'.set i A, r3, List.perm_iff_count.mpr fun a => ?_, fun j hj => List.getElem?_set_ne (Ne.symm hj)⟩
            have c1 := List.perm_iff_count.mp (flat_set (F' := A) hA') a
            simp only [List.count_append, List.count_nil] at c1 ⊢
            omega
        obtain ⟨F3, r3, pm3, un3⟩ := step
        obtain ⟨F4, r4, pm4, un4⟩ := k1 W' (ds'.set i o) F3 stay.left r3 fun k hk hkl => by
          have hki : k ≠ i := fun z => by subst z; exact hi hk
          rw [List.getElem?_set_ne (Ne.symm hki)]
          exact hh k (List.mem_cons_of_mem _ hk) hkl
        refine ⟨F4, ?_, List.perm_iff_count.mpr fun a => ?_, fun j hj => ?_⟩
        · rw [showD_set hi] at r4
          simp only [showD, ho, Option.join_some]
          cases o <;> exact r4
        · have c1 := List.perm_iff_count.mp pm3 a
          have c2 := List.perm_iff_count.mp pm4 a
          simp only [List.count_append] at c1 c2 ⊢
          omega
        · simp only [List.mem_cons, not_or] at hj
          exact (un4 j hj.2).trans (un3 j hj.1)
    · -- no such slot
      have hln : ¬ i < (hideD ds is).length := by rw [hideD_len]; exact hl
      have hlw : ¬ i < (wipe σ is).length := by rw [len1.1]; exact hln
      have e1 : hideD ds (i :: is) = hideD ds is := set_oob hln
      have e2 : wipe σ (i :: is) = wipe σ is := set_oob hlw
      refine ⟨Fh, B, by rw [e1, e2]; exact r1, pm1, fun j hj => un1 j fun z => hj (List.mem_cons_of_mem _ z), fun W' ds' Fs' stay r' hh => ?_⟩
      rw [e2] at r'
      obtain ⟨F4, r4, pm4, un4⟩ := k1 W' ds' Fs' stay r' fun k hk hkl => hh k (List.mem_cons_of_mem _ hk) hkl
      have len' := r'.len
      have e3 : showD ds ds' (i :: is) = showD ds ds' is := set_oob (by rw [← r4.len.1, ← wipe_length σ is]; exact hlw)
      exact ⟨F4, by rw [e3]; exact r4, pm4, fun j hj => un4 j fun z => hj (List.mem_cons_of_mem _ z)⟩
end
end RB
end

section
set_option Elab.async false
set_option maxRecDepth 100000
namespace RB
open PySem L2

section
variable {st : Sta} {Wx : WX} {X : Cx} {σ σ1 : St} {H : Hp} {tg : Expr}
abbrev WF : WX := fun _ _ _ _ => False
theorem noX_out {W W' : Wd} {Fs Fs' : List (List Addr)} {G G' : List Addr} {α : Type} {r : R α} {σ' : St} {Wx' : WX} {K : α → DS → Prop} (h : Out Wx W σ Fs G (noX r) K) : Out Wx' W' σ' Fs' G' r K := by
  cases r with
  | fail => exact h
  | exc x S' => exact h.elim
  | ok a S' => exact h
theorem noX_bind {W : Wd} {Fs : List (List Addr)} {G : List Addr} {α β : Type} {r : R α} {k : α → DS → R β} {K : β → DS → Prop} (h : Out Wx W σ Fs G ((noX r).bind k) K) : Out Wx W σ Fs G (noX r) fun a S' => Out Wx W σ Fs G (k a S') K := h.bind
/-- a hidden slot is set anew -/
theorem hid_set {W : Wd} {S S' : DS} {Fs : List (List Addr)} {G : List Addr} {d : D} {v : V} {i : Nat} {σ : St} (sr : SR W σ S Fs G) (r : Rep W d v []) (h : setVar 0 i d S = some S') (hn : S.ds[i]? = some none) : SR W (σ.set i (some v)) S' Fs G ∧ ∀ j, j ≠ i → S'.ds[j]? = S.ds[j]? := by
  unfold setVar at h
  split at h
  · rename_i hc
    simp only [Bool.and_eq_true, decide_eq_true_eq] at hc
    cases h
    obtain ⟨A, hA⟩ : ∃ A, Fs[i]? = some A := ⟨_, List.getElem?_eq_getElem (by rw [sr.sl.len.2]; exact hc.2)⟩
    have eA := RepS_nil_at sr.sl hn hA
    subst eA
    have := sr.sl.set i r hc.2
    rw [set_same hA] at this
    exact ⟨⟨this, sr.rg⟩, fun j hj => List.getElem?_set_ne (Ne.symm hj)⟩
  · cases h
theorem wipe_set {i : Nat} {x : Option V} : ∀ {is : List Nat} {σ : St}, i ∈ is → wipe (σ.set i x) is = wipe σ is
  | [], σ, h => by cases h
  | k :: is, σ, h => by
    simp only [wipe]
    by_cases e : i ∈ is
    · rw [wipe_set e]
    · have hk : i = k := (List.mem_cons.mp h).resolve_right e
      subst hk
      have : ∀ {is : List Nat} {σ : St}, i ∉ is → wipe (σ.set i x) is = (wipe σ is).set i x := fun {is σ} he => by
        induction is with
        | nil => rfl
        | cons m ms ih =>
          simp only [List.mem_cons, not_or] at he
          simp only [wipe]
          rw [ih he.2, List.set_comm _ _ he.1]
      rw [this e, List.set_set]
theorem wipe_wipe {is : List Nat} {σ : St} : wipe (wipe σ is) is = wipe σ is := by
  have : ∀ {js : List Nat}, (∀ j ∈ js, j ∈ is) → wipe (wipe σ js) is = wipe σ is := fun {js} h => by
    induction js with
    | nil => rfl
    | cons j js ih =>
      simp only [wipe]
      rw [wipe_set (h j List.mem_cons_self)]
      exact ih fun k hk => h k (List.mem_cons_of_mem _ hk)
  exact this fun _ h => h
theorem hid_names {W : Wd} {G : List Addr} {Fs : List (List Addr)} {is0 : List Nat} {τ : St} {K' : St → Hp → Prop} : ∀ {is : List Nat} {ds : List D} {vs : List V} {σ : St} {S S' : DS}, is.Nodup → (∀ i ∈ is, i ∈ is0) → RepL W ds vs [] → SR W σ S Fs G → wipe σ is0 = τ → (∀ i ∈ is, i < S.ds.length → S.ds[i]? = some none) → setVars 0 is ds S = some S' →
    (∀ σ', SR W σ' S' Fs G → wipe σ' is0 = τ → (∀ j, j ∉ is → S'.ds[j]? = S.ds[j]?) → K' σ' W.H) → gNames is vs σ W.H K'
  | [], ds, vs, σ, S, S', nd, hin, hr, sr, hw, hh, h, hk => by
    cases ds with
    | cons d ds => simp [setVars] at h
    | nil =>
      simp only [setVars, Option.some.injEq] at h
      subst h
      simp only [RepL] at hr
      exact ⟨hr.1, hk σ sr hw fun _ _ => rfl⟩
  | i :: is, ds, vs, σ, S, S', nd, hin, hr, sr, hw, hh, h, hk => by
    cases ds with
    | nil => simp [setVars] at h
    | cons d ds =>
      simp only [setVars, Option.bind_eq_some_iff] at h
      obtain ⟨S1, h1, h2⟩ := h
      simp only [RepL] at hr
      obtain ⟨v, ws, F1, F2, rfl, r1, r2, pm⟩ := hr
      have := pm.symm.eq_nil
      simp only [List.append_eq_nil_iff] at this
      obtain ⟨rfl, rfl⟩ := this
      obtain ⟨hni, nd'⟩ := List.nodup_cons.mp nd
      have hil : i < S.ds.length := by
        unfold setVar at h1
        split at h1
        · rename_i hc
          simp only [Bool.and_eq_true, decide_eq_true_eq] at hc
          exact hc.2
        · cases h1
      obtain ⟨sr1, un1⟩ := hid_set sr r1 h1 (hh i List.mem_cons_self hil)
      refine ⟨v, ws, rfl, hid_names nd' (fun k hk => hin k (List.mem_cons_of_mem _ hk)) r2 sr1 ?_ (fun k hkm hkl => ?_) h2 fun σ' s1 s2 s3 => hk σ' s1 s2 fun j hj => ?_⟩
      · rw [wipe_set (hin i List.mem_cons_self)]; exact hw
      · have hki : k ≠ i := fun z => by subst z; exact hni hkm
        rw [un1 k hki]
        refine hh k (List.mem_cons_of_mem _ hkm) ?_
        rw [← sr.sl.len.1]; rw [← sr1.sl.len.1, List.length_set] at hkl; exact hkl
      · simp only [List.mem_cons, not_or] at hj
        exact (s3 j hj.2).trans (un1 j hj.1)
theorem hid_tg {W : Wd} {S S' : DS} {Fs : List (List Addr)} {G : List Addr} {g : Tg} {d : D} {v : V} {K : PySem.W.Frag} {τ : St} {K' : St → Hp → Prop} (nd : g.slots.Nodup) (sr : SR W σ S Fs G) (hw : wipe σ g.slots = τ) (hh : ∀ i ∈ g.slots, i < S.ds.length → S.ds[i]? = some none) (r : Rep W d v [])
    (h : setTg 0 g d S = some S') (hk : ∀ σ', SR W σ' S' Fs G → wipe σ' g.slots = τ → (∀ j, j ∉ g.slots → S'.ds[j]? = S.ds[j]?) → K' σ' W.H) : tgR K g v σ W.H K' := by
  cases g with
  | name i =>
    have h' : setVar 0 i d S = some S' := by cases d <;> exact h
    have hil : i < S.ds.length := by
      unfold setVar at h'
      split at h'
      · rename_i hc
        simp only [Bool.and_eq_true, decide_eq_true_eq] at hc
        exact hc.2
      · cases h'
    obtain ⟨sr1, un1⟩ := hid_set sr r h' (hh i (by simp [Tg.slots]) hil)
    exact hk _ sr1 (by rw [wipe_set (by simp [Tg.slots])]; exact hw) fun j hj => un1 j (by simpa [Tg.slots] using hj)
  | tup is =>
    cases d with
    | tup ds =>
      simp only [setTg] at h
      obtain ⟨a, vs, rfl, hv, hr⟩ := rep_tup ⟨_, r⟩
      refine ⟨a, vs, rfl, SqT.of hv, ?_, hid_names (is0 := is) nd (fun _ h => h) hr sr hw hh h hk⟩
      rw [hr.len, setVars_len h]
    | _ => simp [setTg] at h
theorem setVar_rg {np i : Nat} {d : D} {S S' : DS} (h : setVar np i d S = some S') : S'.rg = S.rg := by
  unfold setVar at h
  split at h
  · cases h; rfl
  · cases h
theorem setVars_rg {np : Nat} : ∀ {is : List Nat} {ds : List D} {A B : DS}, setVars np is ds A = some B → B.rg = A.rg
  | [], ds, A, B, h => by cases ds <;> simp [setVars] at h; rw [h]
  | k :: ks, [], A, B, h => by simp [setVars] at h
  | k :: ks, d :: ds, A, B, h => by
    simp only [setVars, Option.bind_eq_some_iff] at h
    obtain ⟨A1, h1, h2⟩ := h
    rw [setVars_rg h2, setVar_rg h1]
theorem setTg_rg {np : Nat} {g : Tg} {d : D} {S S' : DS} (h : setTg np g d S = some S') : S'.rg = S.rg := by
  cases g with
  | name i => exact setVar_rg (np := np) (i := i) (d := d) (by cases d <;> exact h)
  | tup is =>
    cases d with
    | tup ds => exact setVars_rg h
    | _ => simp [setTg] at h
theorem xVal_noX {W W' : Wd} {S : DS} {Fs Fs' : List (List Addr)} {G G' : List Addr} {f : M Opd} {K : D → DS → Prop} (h : Out Wx W σ Fs G (noX (xVal f S)) K) : Out WF W' σ1 Fs' G' (f S) fun o S1 => ∃ d S2, valM o S1 = .ok d S2 ∧ K d S2 := by
  unfold xVal at h
  cases e : f S with
  | fail => rw [e] at h; exact h
  | exc x S1 => rw [e] at h; exact h.elim
  | ok o S1 =>
    rw [e] at h
    simp only [R.bind_ok] at h
    exact xVal_out (W1 := W) (S := S) (Fs1 := Fs) (G1 := G) (noX_out (Wx' := Wx) (σ' := σ) (W' := W) (Fs' := Fs) (G' := G) h)
theorem rd_comp {T Ts Tc Te : List (Option Nat)} {g : Tg} {src : M (List D)} {cond : M Bool} {elt : M Opd} {Q : VK} {KK : PySem.W.Frag} (nd : g.slots.Nodup) (hT : ∀ i, i ∉ T → i ∉ Ts ++ (Tc ++ Te)) (hsl : ∀ i ∈ g.slots, some i ∈ T) (hv : ∀ S i S', elt S = .ok (.loc ⟨.slot i, []⟩) S' → some i ∈ T)
    (h : tE st Wx T (xComp g src cond elt) σ H Q) : tLc (tI st Wx Ts src) (tgR KK g) (tT st WF Tc cond) (tE st WF Te elt) g.slots σ H Q := by
  obtain ⟨W0, S0, Fs0, G0, rfl, hst, sr0, sp0, h⟩ := of_tE h
  refine ⟨W0, S0, Fs0, G0, rfl, hst, sr0, sp0, h.bind.mono fun xs S1 _ h J W1 Fs1 G1 p1 wk => ?_⟩
  intro Dd hD
  have sep1 : Sep W1 (Fs1.flatten ++ G1) := by simpa using p1.sep
  obtain ⟨Fh, B, rh, pmh, unh, kh⟩ := hide_split p1.sr.sl nd
  have srh : SR W1 (wipe σ g.slots) (hideS g.slots S1) Fh G1 := ⟨rh, p1.sr.rg⟩
  have sepB : Sep W1 ((Fh.flatten ++ G1) ++ B) := sep1.pm (List.perm_iff_count.mpr fun a => by
    have c1 := List.perm_iff_count.mp pmh a
    simp only [List.count_append] at c1 ⊢
    omega)
  have hst1 : W1.st = st := p1.evo.ca.trans hst
  -- the invariant
  let Iv : Nat → Hp → Prop := fun i H => ∃ W S Fs G acc us Fa, W.H = H ∧ SR W (wipe σ g.slots) (hideS g.slots S) Fs G ∧ W.H Dd = some (.lst us) ∧ RepL W acc us Fa ∧ Sep W ((Fs.flatten ++ G) ++ (Dd :: Fa)) ∧ Evo W1 (Fh.flatten ++ G1) W ((Fs.flatten ++ G) ++ (Dd :: Fa)) ∧
    Pres (tch T) W1 (hideS g.slots S1) Fh G1 W (hideS g.slots S) Fs G ∧ acc.length ≤ sz ∧ Out Wx W0 σ Fs0 G0 (compLoop g cond (xVal elt) (xs.drop i) acc S) fun acc S2 => Out Wx W0 σ Fs0 G0 (.ok (.own (.lst true acc)) { S2 with ds := showD S1.ds S2.ds g.slots }) fun o S' => ∀ v W' Fs' G' F, Posts (tch T) W0 σ S0 Fs0 G0 [o] S' [v] W' Fs' G' F → placed S' o → Q v W'.H
  refine ⟨fun i m H => m = xs.length - i ∧ i ≤ xs.length ∧ Iv i H, ⟨xs.length, by simp, Nat.zero_le _, W1.put Dd (.lst []), S1, Fh, G1, [], [], [], rfl, ?_, upd_same, ⟨rfl, rfl⟩, ?_, ?_, ?_, Nat.zero_le _, by simpa using h.bind⟩, ?_⟩
  · have s0 := stay_new (W := W1) (.lst []) (Fh.flatten ++ G1) hD
    exact ⟨srh.sl.frame s0.left, RepL.frame _ srh.rg s0.right⟩
  · have g0 := Grow.new (W := W1) (p := Dd) (.lst []) ⟨List.nodup_nil, by simp, sep1.tk, by simp⟩ hD
    have := Sep.beside (B := Fh.flatten ++ G1) g0.evo (by simpa using sepB.left) g0.sep
    exact this.pm List.perm_append_comm
  · have g0 := Grow.new (W := W1) (p := Dd) (.lst []) ⟨List.nodup_nil, by simp, sep1.tk, by simp⟩ hD
    have := g0.evo.beside (Fh.flatten ++ G1)
    exact (by simpa using this : Evo W1 (Fh.flatten ++ G1) _ (Dd :: (Fh.flatten ++ G1))).sub fun a ha => by
      rcases List.mem_append.mp ha with ha | ha
      · exact List.mem_cons_of_mem _ ha
      · have : a = Dd := by simpa using ha
        subst this; exact List.mem_cons_self
  · exact Pres.grow srh (fun a o ha q => by show upd W1.H Dd _ a = some o; rw [upd_ne (ne_of_none q hD)]; exact q) rfl
  rintro i m H ⟨rfl, hil, W, S, Fs, G, acc, us, Fa, rfl, sr, hDd, ra, sp, ev, pr, hacc, h⟩
  have npB : ∀ a ∈ Fh.flatten ++ G1, ¬ W1.P a := sepB.left.np
  have stay : Stay W1 W [] := ev.stay0 npB
  have hstW : W.st = st := ev.ca.trans hst1
  by_cases hlt : i < xs.length
  · have hd : xs.drop i = xs[i] :: xs.drop (i + 1) := List.drop_eq_getElem_cons hlt
    rw [hd] at h
    simp only [compLoop] at h
    refine .inr ⟨wk.go i W stay hlt, Iv (i + 1), fun H' z => ⟨xs.length - (i + 1), by omega, rfl, hlt, z⟩, fun x H' y => ?_⟩
    obtain ⟨W', rfl, gr, rx⟩ := wk.yld i W x H' xs[i] stay ⟨List.nodup_nil, by simp, sp.tk, by simp⟩ (List.getElem?_eq_getElem hlt) y
    cases e2 : setTg 0 g xs[i] (hideS g.slots S) with
    | none => rw [e2] at h; exact h.elim
    | some S2 =>
      rw [e2] at h
      -- the world has grown
      have s0 : Stay W W' ((Fs.flatten ++ G) ++ (Dd :: Fa)) := ⟨fun a o _ q => gr.evo.keep a o q (by simp), gr.evo.perm, gr.evo.rv, gr.evo.ca⟩
      have sr' : SR W' (wipe σ g.slots) (hideS g.slots S) Fs G := ⟨sr.sl.frame s0.left.left, by rw [gr.rv]; exact RepL.frame _ sr.rg s0.left.right⟩
      have sp' : Sep W' ((Fs.flatten ++ G) ++ (Dd :: Fa)) := by
        have := Sep.beside (B := (Fs.flatten ++ G) ++ (Dd :: Fa)) gr.evo (by simpa using sp) gr.sep
        simpa using this
      have ev' : Evo W1 (Fh.flatten ++ G1) W' ((Fs.flatten ++ G) ++ (Dd :: Fa)) := by
        have := gr.evo.beside ((Fs.flatten ++ G) ++ (Dd :: Fa))
        exact ev.trans (by simpa using this)
      have ra' : RepL W' acc us Fa := RepL.frame _ ra s0.right.tail
      have hDd' : W'.H Dd = some (.lst us) := gr.evo.keep Dd _ hDd (by simp)
      have pr' : Pres (tch T) W1 (hideS g.slots S1) Fh G1 W' (hideS g.slots S) Fs G := (pr.trans (T2 := fun _ => false) (Pres.grow sr (fun a o ha q => gr.evo.keep a o q (by simp)) gr.rv)).mono fun i hi => by simpa using hi
      refine hid_tg nd sr' wipe_wipe (fun k hk hkl => hideD_in hk (by rw [← hideD_len g.slots]; exact hkl)) rx e2 fun σ2 sr2 hw2 un2 => ?_
      refine ⟨hw2, ?_⟩
      have hst2 : W'.st = st := gr.evo.ca.trans hstW
      -- slots beside the comprehension's own
      have pr2 : Pres (tch T) W1 (hideS g.slots S1) Fh G1 W' S2 Fs G := ⟨fun j hj => by
        obtain ⟨a1, a2, a3⟩ := pr'.sl j hj
        have hj2 : j ∉ g.slots := fun z => (tch_false.mp hj) (hsl j z)
        exact ⟨(un2 j hj2).trans a1, a2, a3⟩, fun hr => by
        obtain ⟨a1, a2, a3, a4⟩ := pr'.rg hr
        have erg : S2.rg = (hideS g.slots S).rg := setTg_rg e2
        exact ⟨erg.trans a1, a2, a3, a4⟩⟩
      refine tT_of hst2 sr2 sp'.left (noX_out (noX_bind h) |>.mono fun b S3 _ h W3 Fs3 G3 p3 => ?_)
      have sep3 : Sep W3 ((Fs3.flatten ++ G3) ++ (Dd :: Fa)) := by
        have := Sep.beside (B := Dd :: Fa) (p3.evo.sub (B' := Fs3.flatten ++ G3) fun a ha => List.mem_append_left _ ha) sp' (by simpa using p3.sep)
        exact this
      have ev3 : Evo W1 (Fh.flatten ++ G1) W3 ((Fs3.flatten ++ G3) ++ (Dd :: Fa)) := ev'.trans (p3.ev.beside (Dd :: Fa))
      have stD : Stay W' W3 (Dd :: Fa) := p3.ev.stay (fun a ha z => sp'.dj z ha) sp'.left.np
      have hD3 : W3.H Dd = some (.lst us) := stD.keep Dd _ (.inl List.mem_cons_self) hDd'
      have ra3 : RepL W3 acc us Fa := RepL.frame _ ra' stD.tail
      have prT : ∀ {i : Option Nat}, tch T i = false → tch Tc i = false ∧ tch Te i = false := fun {i} hi => by
        have := hT i (tch_false.mp hi)
        simp only [List.mem_append, not_or] at this
        exact ⟨tch_false.mpr this.2.1, tch_false.mpr this.2.2⟩
      have pr3 : Pres (tch T) W1 (hideS g.slots S1) Fh G1 W3 S3 Fs3 G3 := (pr2.trans p3.pres).mono fun i hi => by show (tch T i || tch Tc i) = false; rw [hi, (prT hi).1]; rfl
      -- the slots are hidden again
      have hideAgain : ∀ {Wn : Wd} {Sn : DS} {Fn : List (List Addr)} {Gn : List Addr} {R' : List Addr}, SR Wn σ2 Sn Fn Gn → Pres (tch T) W1 (hideS g.slots S1) Fh G1 Wn Sn Fn Gn → ∃ Fn' Bn, SR Wn (wipe σ g.slots) (hideS g.slots Sn) Fn' Gn ∧ Fn.flatten.Perm (Fn'.flatten ++ Bn) ∧ Pres (tch T) W1 (hideS g.slots S1) Fh G1 Wn (hideS g.slots Sn) Fn' Gn := fun {Wn Sn Fn Gn R'} srn prn => by
        obtain ⟨Fn', Bn, r1, pm, un, _⟩ := hide_split srn.sl nd
        rw [hw2] at r1
        refine ⟨Fn', Bn, ⟨r1, srn.rg⟩, pm, ⟨fun j hj => ?_, prn.rg⟩⟩
        have hj2 : j ∉ g.slots := fun z => (tch_false.mp hj) (hsl j z)
        obtain ⟨a1, a2, a3⟩ := prn.sl j hj
        exact ⟨(hideD_out hj2).trans a1, (un j hj2).trans a2, a3⟩
      cases b with
      | false =>
        rw [if_neg Bool.false_ne_true]
        simp only [Bool.false_eq_true, if_false] at h
        obtain ⟨Fn', Bn, srn, pmn, prn⟩ := hideAgain (R' := []) p3.sr pr3
        have pmA : ((Fs3.flatten ++ G3) ++ (Dd :: Fa)).Perm (((Fn'.flatten ++ G3) ++ (Dd :: Fa)) ++ Bn) := List.perm_iff_count.mpr fun a => by
          have c1 := List.perm_iff_count.mp pmn a
          simp only [List.count_append] at c1 ⊢
          omega
        exact ⟨W3, S3, Fn', G3, acc, us, Fa, rfl, srn, hD3, ra3, (sep3.pm pmA).left, ev3.sub fun a ha => pmA.mem_iff.mpr (List.mem_append_left _ ha), prn, hacc, h⟩
      | true =>
        rw [if_pos rfl]
        simp only [if_true] at h
        refine tE_of (p3.evo.ca.trans hst2) p3.sr (by simpa using p3.sep) ((xVal_noX (noX_bind h)).mono fun o S4 e4 h v W4 Fs4 G4 F4 p4 _ => ?_)
        obtain ⟨d, S5, e5, h⟩ := h
        have p4T : Posts (tch T) W3 σ2 S3 Fs3 G3 [o] S4 [v] W4 Fs4 G4 F4 := p4.mono fun i hi => (prT hi).2
        obtain ⟨Fs5, F5, p5⟩ := p4T.val e5 fun i hi => by subst hi; simpa [tch] using hv _ _ _ e4
        have hop := p5.op
        simp only [OpsRep] at hop
        obtain ⟨v', ws, A1, A2, ee, hr, ⟨_, rfl⟩, pm⟩ := hop
        cases ee
        have hr5 : Rep W4 d v F5 := hr.pm (by simpa using pm.symm)
        by_cases hz : acc.length < sz
        · simp only [hz, if_true] at h
          have stD4 : Stay W3 W4 (Dd :: Fa) := p5.evo.stay (fun a ha z => sep3.dj z ha) sep3.left.np
          have hD4 : W4.H Dd = some (.lst us) := stD4.keep Dd _ (.inl List.mem_cons_self) hD3
          have ra4 : RepL W4 acc us Fa := RepL.frame _ ra3 stD4.tail
          have sep4 : Sep W4 (((Fs5.flatten ++ G4) ++ F5) ++ (Dd :: Fa)) := Sep.beside p5.evo sep3 p5.sep
          have ev4 : Evo W1 (Fh.flatten ++ G1) W4 (((Fs5.flatten ++ G4) ++ F5) ++ (Dd :: Fa)) := ev3.trans (p5.evo.beside (Dd :: Fa))
          have nD1 : Dd ∉ (Fs5.flatten ++ G4) ++ F5 := fun z => sep4.dj z List.mem_cons_self
          have nD2 : Dd ∉ Fa := (List.nodup_cons.mp sep4.right.nd).1
          have nP : ¬ W4.P Dd := sep4.right.np Dd List.mem_cons_self
          have stP : ∀ {F : List Addr}, Dd ∉ F → Stay W4 (W4.put Dd (.lst (us ++ [v]))) F := fun hF => stay_put hF nP
          have nD3 : Dd ∉ Fs5.flatten := fun z => nD1 (List.mem_append_left _ (List.mem_append_left _ z))
          have nD4 : Dd ∉ G4 := fun z => nD1 (List.mem_append_left _ (List.mem_append_right _ z))
          have nD5 : Dd ∉ F5 := fun z => nD1 (List.mem_append_right _ z)
          have sr5 : SR (W4.put Dd (.lst (us ++ [v]))) σ2 S5 Fs5 G4 := ⟨p5.sr.sl.frame (stP nD3), RepL.frame _ p5.sr.rg (stP nD4)⟩
          have pr4 : Pres (tch T) W1 (hideS g.slots S1) Fh G1 W4 S5 Fs5 G4 := (pr3.trans p5.pres).mono fun i hi => by show (tch T i || tch T i) = false; rw [hi]; rfl
          have pr5 : Pres (tch T) W1 (hideS g.slots S1) Fh G1 (W4.put Dd (.lst (us ++ [v]))) S5 Fs5 G4 := by
            refine ⟨fun j hj => ?_, fun hr => ?_⟩
            · obtain ⟨a1, a2, a3⟩ := pr4.sl j hj
              refine ⟨a1, a2, fun A hA c hc => ?_⟩
              rw [← a3 A hA c hc]
              show upd W4.H Dd _ c = W4.H c
              rw [upd_ne]
              intro z; subst z
              obtain ⟨u, hu⟩ := srh.sl.trk c (mem_flat hA hc)
              rw [hD] at hu; cases hu
            · obtain ⟨a1, a2, a3, a4⟩ := pr4.rg hr
              refine ⟨a1, a2, a3, fun c hc => ?_⟩
              rw [← a4 c hc]
              show upd W4.H Dd _ c = W4.H c
              rw [upd_ne]
              intro z; subst z
              obtain ⟨u, hu⟩ := RepL.trk _ srh.rg c hc
              rw [hD] at hu; cases hu
          obtain ⟨Fn', Bn, srn, pmn, prn⟩ := hideAgain (R' := []) sr5 pr5
          have pmA : (((Fs5.flatten ++ G4) ++ F5) ++ (Dd :: Fa)).Perm (((Fn'.flatten ++ G4) ++ (Dd :: (Fa ++ F5))) ++ Bn) := List.perm_iff_count.mpr fun a => by
            have c1 := List.perm_iff_count.mp pmn a
            simp only [List.count_append, List.count_cons] at c1 ⊢
            omega
          refine ⟨us, hD4, by rw [szl, ra4.len]; exact hz, W4.put Dd (.lst (us ++ [v])), S5, Fn', G4, acc ++ [d], us ++ [v], Fa ++ F5, rfl, srn, upd_same, RepL.app (RepL.frame _ (RepL.one hr5) (stP nD5)) (RepL.frame _ ra4 (stP nD2)), ?_, ?_, prn, by rw [List.length_append]; simp only [List.length_cons, List.length_nil]; omega, h⟩
          · have sepP := (sep4.pm pmA).left
            refine ⟨sepP.nd, sepP.np, fun a z => ?_, fun a ha => ?_⟩
            · obtain ⟨u, hu⟩ := sepP.tk a z
              exact ⟨u, by show upd W4.H Dd _ a = some u; rw [upd_ne (fun e => by subst e; exact nP z)]; exact hu⟩
            · by_cases e : a = Dd
              · subst e; exact ⟨_, upd_same⟩
              · obtain ⟨u, hu⟩ := sepP.tr a ha
                exact ⟨u, by show upd W4.H Dd _ a = some u; rw [upd_ne e]; exact hu⟩
          · have e1 : Evo W4 (((Fs5.flatten ++ G4) ++ F5) ++ (Dd :: Fa)) (W4.put Dd (.lst (us ++ [v]))) ((Fn'.flatten ++ G4) ++ (Dd :: (Fa ++ F5))) :=
              ⟨fun a o q n => by show upd W4.H Dd _ a = some o; rw [upd_ne (fun e => by subst e; exact n (List.mem_append_right _ List.mem_cons_self))]; exact q, fun _ q => q, fun a ha => .inl (pmA.mem_iff.mpr (List.mem_append_left _ ha)), fun _ q => .inl q, ⟨[], by simp⟩, rfl⟩
            exact ev4.trans e1
        · simp only [hz, if_false] at h
          exact h.elim
  · have e3 : i = xs.length := by omega
    subst e3
    rw [List.drop_length] at h
    refine .inl ⟨wk.stop W stay, ?_⟩
    have stB : Stay W1 W B := ev.stay (fun a ha z => sepB.dj z ha) npB
    obtain ⟨F2, r2, pm2, un2⟩ := kh W (hideS g.slots S).ds Fs stB sr.sl fun k hk hkl => hideD_in hk (by
      have l1 := sr.sl.len.1
      have l2 := srh.sl.len.1
      have l3 : (hideS g.slots S1).ds.length = S1.ds.length := hideD_len _
      have l4 : (hideS g.slots S).ds.length = S.ds.length := hideD_len _
      omega)
    have sepAll : Sep W (((Fs.flatten ++ G) ++ (Dd :: Fa)) ++ B) := Sep.beside ev sepB sp
    have pmA : (((Fs.flatten ++ G) ++ (Dd :: Fa)) ++ B).Perm ((F2.flatten ++ G) ++ (Dd :: Fa)) := List.perm_iff_count.mpr fun a => by
      have c1 := List.perm_iff_count.mp pm2 a
      simp only [List.count_append] at c1 ⊢
      omega
    refine h (.ref Dd) W F2 G (Dd :: Fa) ⟨⟨r2, sr.rg⟩, ⟨.ref Dd, [], Dd :: Fa, [], rfl, ?_, ⟨rfl, rfl⟩, by simp⟩, sepAll.pm pmA, ?_, ?_⟩ trivial
    · simp only [Rep]
      exact ⟨Dd, us, Fa, rfl, hDd, ra, .refl _⟩
    · have e1 : Evo W1 (Fs1.flatten ++ G1) W (((Fs.flatten ++ G) ++ (Dd :: Fa)) ++ B) := (ev.beside B).pmL (List.perm_iff_count.mpr fun a => by
        have c1 := List.perm_iff_count.mp pmh a
        simp only [List.count_append] at c1 ⊢
        omega)
      exact (p1.ev.trans e1).sub fun a ha => pmA.mem_iff.mpr ha
    · have prE : Pres (tch T) W1 S1 Fs1 G1 W { hideS g.slots S with ds := showD S1.ds (hideS g.slots S).ds g.slots } F2 G := ⟨fun j hj => by
        have hj2 : j ∉ g.slots := fun z => (tch_false.mp hj) (hsl j z)
        obtain ⟨a1, a2, a3⟩ := pr.sl j hj
        refine ⟨(showD_out hj2).trans (a1.trans (hideD_out hj2)), (un2 j hj2).trans (a2.trans (unh j hj2)), fun A hA c hc => a3 A ((unh j hj2).trans hA) c hc⟩, fun hr => pr.rg hr⟩
      exact (p1.pres.trans prE).mono fun i hi => by
        have := hT i (tch_false.mp hi)
        simp only [List.mem_append, not_or] at this
        show (tch Ts i || tch T i) = false
        rw [hi, tch_false.mpr this.1]; rfl
end
end RB
end

section
set_option Elab.async false
set_option maxRecDepth 100000
namespace RB
open PySem L2

section
variable {st : Sta} {Wx : WX} {X : Cx} {σ σ1 : St} {H : Hp} {np : Nat} {tg : Expr}
theorem RepL.setAt {W : Wd} {xs : List D} {us : List V} {B F : List Addr} {n : Nat} {d : D} {v : V} (h : RepL W xs us B) (hn : n < xs.length) (hd : Rep W d v F) : ∃ C J, (C ++ J).Perm (B ++ F) ∧ RepL W (xs.set n d) (us.set n v) C := by
  obtain ⟨v0, F1, F2, e, r, pm, k⟩ := RepL.at h (List.getElem?_eq_getElem hn)
  refine ⟨F ++ F2, F1, List.perm_iff_count.mpr fun a => ?_, k W d v F (Stay.refl _ _) hd⟩
  have c1 := List.perm_iff_count.mp pm a
  simp only [List.count_append] at c1 ⊢
  omega
theorem ixOf_lt {n m : Nat} {i : Int} (h : ixOf n i = some m) : m < n := by
  unfold ixOf at h
  split at h
  · split at h
    · cases h; omega
    · cases h
  · split at h
    · cases h; omega
    · cases h
def asgSubL (d : D) (os : List Opd) (S2 : DS) : R Fl := match os with
  | [.loc l, ok] => match look S2 l, dat S2 ok with
    | some (.lst true xs), some (.int i) => match ixOf xs.length i with
      | some n => match setLoc S2 l (.lst true (xs.set n d)) with | some S3 => .ok .next S3 | none => .fail
      | none => .fail
    | _, _ => .fail
  | _ => .fail
def asgSubK (d : D) (os : List Opd) (S2 : DS) : R Fl := match os with
  | [.loc l, ok] => match look S2 l, dat S2 ok with
    | some (.dct true kvs), some dk => match keyOf dk with
      | some k => if kvs.length < sz then match setLoc S2 l (.dct true (putP kvs k d)) with | some S3 => .ok .next S3 | none => .fail else .fail
      | none => .fail
    | _, _ => .fail
  | _ => .fail
theorem asgSub_or (d : D) (os : List Opd) (S2 : DS) : asgSub d os S2 = asgSubL d os S2 ∨ asgSub d os S2 = asgSubK d os S2 := by
  match os with
  | [.loc l, ok] =>
    simp only [asgSub, asgSubL, asgSubK]
    cases look S2 l with
    | none => exact .inl rfl
    | some dl =>
      cases dl with
      | lst o xs => cases o <;> cases dat S2 ok with
        | none => exact .inl rfl
        | some di => cases di <;> exact .inl rfl
      | dct o xs => cases o <;> cases dat S2 ok with
        | none => exact .inl rfl
        | some di => exact .inr rfl
      | _ => cases dat S2 ok <;> exact .inl rfl
  | [] => exact .inl rfl
  | [.own _] => exact .inl rfl
  | [.loc _] => exact .inl rfl
  | .own _ :: _ :: _ => exact .inl rfl
  | .loc _ :: _ :: _ :: _ => exact .inl rfl
theorem RepK.len {W : Wd} : ∀ {ds : List (Key × D)} {vs : List (Key × V)} {F : List Addr}, RepK W ds vs F → vs.length = ds.length
  | [], vs, F, h => by simp only [RepK] at h; rw [h.1]; rfl
  | (k, x) :: ds, vs, F, h => by
    simp only [RepK] at h
    obtain ⟨v, ws, F1, F2, rfl, h1, h2, pm⟩ := h
    simp [RepK.len h2]
theorem st_setitemL {U V0 To Tk : List (Option Nat)} {f fo fk : M Opd} {e o k : Expr} {pos pos' : Pos} (hT : ∀ S i S', f S = .ok (.loc ⟨.slot i, []⟩) S' → some i ∈ V0) (he : PE X e (tE st Wx U f)) (ho : PE X o (tE st Wx To fo)) (hk : PE X k (tE st Wx Tk fk))
    (hs : swapsWithSole [.Subscript o k pos'] e pos.line X.env = pure false) (hw : swappedStores [.Subscript o k pos'] e X.env = pure none)
    (ha : ∀ v, assign (.Subscript o k pos') X.env v = (do
      let ov ← holding [v] (eval o X.env)
      let iv ← holding [v, ov] (eval k X.env)
      standAt pos'
      holding [v, ov, iv] (setItem ov iv v)
      release [v, ov, iv] [])) :
    PS X (.Assign [.Subscript o k pos'] e pos) (tS st Wx np fun S => (xVal f S).bind fun d S1 => (evL [(fo, To), (fk, Tk)] S1).bind fun os S2 => asgSubL d os S2) := by
  refine PS.pt fun D σ H h => ⟨_, ps_asg he (pg_sub ho hk set_list ha) hs hw rfl, ?_⟩
  obtain ⟨W, S, Fs, G, rfl, hc, sr, sp, h⟩ := h
  refine xVal_bind (T := U ++ V0) hc sr sp (fun S i S' h => List.mem_append_right _ (hT S i S' h)) h (fun d v S1 W1 Fs1 G1 F1 p h => ?_) (fun i hi z => hi (List.mem_append_left _ z))
  have key : tA st Wx [(fo, To), (fk, Tk)] σ W1.H fun vs H2 => ∃ x y, vs = [x, y] ∧ rSetL x y v H2 fun H3 => D.nx σ H3 := by
    refine tA_of (p.evo.ca.trans hc) p.sr p.sep.left ((h.shift (p.sp (np := np))).bind.out.mono fun os S2 eo _ vs W2 Fs2 G2 F2 q => ?_)
    have h2 := h.bind
    rw [eo] at h2
    have h3 : OutS Wx np W σ Fs G (asgSubL d os S2) (KEnd D np W σ Fs G) := h2
    match os, eo, h3 with
    | [.loc l, okk], eo, h3 =>
      unfold asgSubL at h3
      cases hl : look S2 l with
      | none => simp only [hl] at h3; exact h3.elim
      | some dl =>
        cases hi : dat S2 okk with
        | none => simp only [hl, hi] at h3; cases dl <;> exact h3.elim
        | some di =>
          simp only [hl, hi] at h3
          split at h3
          rotate_left
          · exact h3.elim
          rename_i xs i e1 e2
          cases e1; cases e2
          split at h3
          rotate_left
          · exact h3.elim
          · rename_i n hn
            split at h3
            rotate_left
            · exact h3.elim
            rename_i S3 hs3
            -- all operands at once
            have pq := (p.mono (T' := fun _ => true) (by intro i hi; cases hi)).snoc (T2 := fun _ => true) (fun o1 ho1 => by
              have e1 : o1 = .own d := by simpa using ho1
              subst e1; trivial) (q.mono (T' := fun _ => true) (by intro i hi; cases hi))
            have hop := pq.op
            simp only [List.cons_append, List.nil_append, OpsRep] at hop
            obtain ⟨v', ws, A1, A2, ee, hr, ⟨x, ws2, ee2, hlv, hrest⟩, pm⟩ := hop
            have hq := q.len
            have hvs : ∃ x1 y, vs = [x1, y] := by
              match vs, hq with
              | [a, b], _ => exact ⟨a, b, rfl⟩
            obtain ⟨x1, y, rfl⟩ := hvs
            cases ee
            cases ee2
            refine ⟨x, y, rfl, ?_⟩
            have hky := q.op.reads q.sr (ds := [.lst true xs, .int i]) (by
              have e0 : RB.dat S2 (.loc l) = some (.lst true xs) := hl
              simp [List.mapM_cons, e0, hi])
            obtain ⟨x', y', ee3, hx, hy⟩ := pair2 hky
            cases ee3
            cases rep_int hy
            obtain ⟨FF, hF⟩ := q.sr.read hl hlv
            obtain ⟨a, us, rfl, hu, hlen, _⟩ := rep_own hF
            refine ⟨a, us, i, n, rfl, rfl, hu, by rw [hlen, ← ixOf_ixN]; exact hn, ?_⟩
            have sepA : Sep W2 (((Fs2.flatten ++ G2) ++ A1) ++ A2) := by
              have := pq.sep.pm (pm.append_left _)
              rw [← List.append_assoc] at this
              exact this
            have p2 : Posts (fun _ => true) W σ S Fs G (.loc l :: [d].map .own) S2 (.ref a :: [v]) W2 Fs2 G2 A1 :=
              ⟨q.sr, ⟨.ref a, [v], rfl, hlv, ⟨v, [], A1, [], rfl, hr, ⟨rfl, rfl⟩, by simp⟩⟩, sepA.left, pq.evo.sub fun b hb => by
                rcases List.mem_append.mp hb with hb | hb
                · exact List.mem_append_left _ hb
                · exact List.mem_append_right _ (pm.mem_iff.mpr (List.mem_append_left _ hb)), ⟨fun i hi => (by cases hi), fun hi => (by cases hi)⟩⟩
            obtain ⟨Fs3, G3, p3⟩ := p2.change (a := a) (o' := .lst (us.set n v)) hl rfl hs3 fun F0 h1 h2 nd np' => by
              obtain ⟨a', us', ea, hu', _, hm⟩ := rep_own h1
              cases ea
              refine ⟨hm, rep_lchange h1 hu nd np' fun B hB ndB => ?_⟩
              simp only [RepL] at h2
              obtain ⟨v1, ws1, B1, B2, e1, r1, ⟨_, rfl⟩, pm1⟩ := h2
              cases e1
              have r2 : Rep W2 d v A1 := r1.pm (by simpa using pm1.symm)
              exact hB.setAt (ixOf_lt hn) r2
            exact h3 _ σ Fs3 G3 p3.sp
    | [], _, h3 => exact h3.elim
    | [.own _], _, h3 => exact h3.elim
    | [.loc _], _, h3 => exact h3.elim
    | .own _ :: _ :: _, _, h3 => exact h3.elim
    | .loc _ :: _ :: _ :: _, _, h3 => exact h3.elim
  exact tE_mono (tA_2 key) fun x H1 q => tE_mono q fun y H2 ⟨x', y', e, r⟩ => by cases e; exact r
def NoTw : List (Key × V) → Prop
  | [] => True
  | (k, _) :: r => lookP r k = none ∧ NoTw r
theorem RepK.noTw {W : Wd} : ∀ {ds : List (Key × D)} {vs : List (Key × V)} {F : List Addr}, RepK W ds vs F → NoTw vs
  | [], vs, F, h => by simp only [RepK] at h; rw [h.1]; trivial
  | (k, d) :: ds, vs, F, h => by
    simp only [RepK] at h
    obtain ⟨v, ws, F1, F2, rfl, _, h2, _, _, ok⟩ := h
    exact ⟨RepK.no h2 ok, RepK.noTw h2⟩
theorem map_no {k : Key} {v : V} : ∀ {r : List (Key × V)}, lookP r k = none → (r.map fun kv => if kv.1 = k then (kv.1, v) else kv) = r ∧ (r.any fun kv => decide (kv.1 = k)) = false
  | [], _ => ⟨rfl, rfl⟩
  | (x, e) :: r, h => by
    by_cases hx : x = k
    · simp [lookP, hx] at h
    · simp only [lookP, if_neg hx] at h
      obtain ⟨h1, h2⟩ := map_no h
      exact ⟨by rw [List.map_cons, if_neg hx, h1], by rw [List.any_cons, h2]; simp [hx]⟩
theorem putK_putP {k : Key} {v : V} : ∀ {vs : List (Key × V)}, NoTw vs → putK vs k v = putP vs k v
  | [], _ => rfl
  | (x, e) :: r, h => by
    obtain ⟨h1, h2⟩ := h
    by_cases hx : x = k
    · subst hx
      obtain ⟨m1, m2⟩ := map_no (v := v) h1
      unfold putK
      rw [if_pos (by simp), List.map_cons, if_pos rfl, m1]
      simp [putP]
    · have ih := putK_putP (k := k) (v := v) h2
      simp only [putP, if_neg hx]
      rw [← ih]
      unfold putK
      rw [List.any_cons]
      have : decide ((x, e).1 = k) = false := by simpa using hx
      rw [this, Bool.false_or]
      by_cases ha : (r.any fun kv => decide (kv.1 = k)) = true
      · rw [if_pos ha, if_pos ha, List.map_cons, if_neg hx]
      · rw [if_neg ha, if_neg ha, List.cons_append]
theorem RepK.setAt {W : Wd} {ds : List (Key × D)} {vs : List (Key × V)} {B F : List Addr} {k : Key} {d : D} {v : V} (h : RepK W ds vs B) (okk : okKey k) (hd : Rep W d v F) : ∃ C J, (C ++ J).Perm (B ++ F) ∧ RepK W (putP ds k d) (putK vs k v) C := by
  rw [putK_putP h.noTw]
  cases q : lookP ds k with
  | none => exact ⟨F ++ B, [], by simpa using List.perm_append_comm, RepK.snoc hd okk h q⟩
  | some d0 =>
    obtain ⟨v0, F1, F2, _, _, pm, kk⟩ := RepK.at h q
    refine ⟨F ++ F2, F1, List.perm_iff_count.mpr fun b => ?_, kk W d v F (Stay.refl _ _) hd⟩
    have c := List.perm_iff_count.mp pm b
    simp only [List.count_append] at c ⊢
    omega
theorem rep_kown {W : Wd} {xs : List (Key × D)} {x : V} {F1 : List Addr} (h : Rep W (.dct true xs) x F1) : ∃ a us, x = .ref a ∧ W.H a = some (.dK us) ∧ us.length = xs.length ∧ a ∈ F1 ∧ ∃ B, RepK W xs us B := by
  simp only [Rep] at h
  obtain ⟨a, us, B, rfl, r, hr, pm⟩ := h
  exact ⟨a, us, rfl, r, hr.len, pm.mem_iff.mpr List.mem_cons_self, B, hr⟩
/-- the dict at a place is changed -/
theorem rep_kchange {W : Wd} {xs ys : List (Key × D)} {a : Addr} {us ws : List (Key × V)} {F1 F : List Addr} (h : Rep W (.dct true xs) (.ref a) F1) (hu : W.H a = some (.dK us)) (nd : (F1 ++ F).Nodup) (np : ∀ b ∈ F1, ¬ W.P b)
    (hr : ∀ B, RepK W xs us B → (B ++ F).Nodup → ∃ C J, (C ++ J).Perm (B ++ F) ∧ RepK W ys ws C) : ∃ C J, (C ++ J).Perm (F1 ++ F) ∧ Rep (W.put a (.dK ws)) (.dct true ys) (.ref a) C := by
  simp only [Rep] at h
  obtain ⟨a', us', B, e, r, hB, pm⟩ := h
  cases e
  rw [hu] at r; cases r
  have nd2 : ((a :: B) ++ F).Nodup := (pm.append_right F).nodup_iff.mp nd
  rw [List.cons_append] at nd2
  obtain ⟨naB, ndB⟩ := List.nodup_cons.mp nd2
  obtain ⟨C, J, pmC, rC⟩ := hr B hB ndB
  refine ⟨a :: C, J, ?_, ?_⟩
  · rw [List.cons_append]
    exact (pmC.cons a).trans (by rw [← List.cons_append]; exact (pm.append_right F).symm)
  · simp only [Rep]
    refine ⟨a, ws, C, rfl, upd_same, RepK.frame _ rC (stay_put (fun z => naB (pmC.mem_iff.mp (List.mem_append_left _ z))) (np a (pm.mem_iff.mpr List.mem_cons_self))), .refl _⟩
theorem keyOf_ok {W : Wd} {d : D} {y : V} {k : Key} (h : keyOf d = some k) (hx : RepB W d y) : okKey k := by
  cases d <;> simp only [keyOf, Option.some.injEq] at h <;> try cases h
  · trivial
  · exact rep_ok hx
theorem st_setitemK {U V0 To Tk : List (Option Nat)} {f fo fk : M Opd} {e o k : Expr} {pos pos' : Pos} (hT : ∀ S i S', f S = .ok (.loc ⟨.slot i, []⟩) S' → some i ∈ V0) (he : PE X e (tE st Wx U f)) (ho : PE X o (tE st Wx To fo)) (hk : PE X k (tE st Wx Tk fk)) (hsw : swapsWith e (some (.Subscript o k pos')) pos.line X.env = pure false) (xc : XC st X) :
    PS X (.Assign [.Subscript o k pos'] e pos) (tS st Wx np fun S => (xVal f S).bind fun d S1 => (evL [(fo, To), (fk, Tk)] S1).bind fun os S2 => asgSubK d os S2) := by
  refine PS.pt fun D σ H h => ⟨_, ps_dput (by have := xc.un; omega) ho hk he hsw, ?_⟩
  obtain ⟨W, S, Fs, G, rfl, hc, sr, sp, h⟩ := h
  refine xVal_bind (T := U ++ V0) hc sr sp (fun S i S' h => List.mem_append_right _ (hT S i S' h)) h (fun d v S1 W1 Fs1 G1 F1 p h => ?_) (fun i hi z => hi (List.mem_append_left _ z))
  have key : tA st Wx [(fo, To), (fk, Tk)] σ W1.H fun vs H2 => ∃ x y, vs = [x, y] ∧ ∃ a H4, x = .ref a ∧ DPut H2 a y v H4 ∧ D.nx σ H4 := by
    refine tA_of (p.evo.ca.trans hc) p.sr p.sep.left ((h.shift (p.sp (np := np))).bind.out.mono fun os S2 eo _ vs W2 Fs2 G2 F2 q => ?_)
    have h2 := h.bind
    rw [eo] at h2
    have h3 : OutS Wx np W σ Fs G (asgSubK d os S2) (KEnd D np W σ Fs G) := h2
    match os, eo, h3 with
    | [.loc l, okk], eo, h3 =>
      unfold asgSubK at h3
      cases hl : look S2 l with
      | none => simp only [hl] at h3; exact h3.elim
      | some dl =>
        cases hi : dat S2 okk with
        | none => simp only [hl, hi] at h3; cases dl <;> exact h3.elim
        | some di =>
          simp only [hl, hi] at h3
          split at h3
          rotate_left
          · exact h3.elim
          rename_i kvs dk2 e1 e2
          cases e1; cases e2
          split at h3
          rotate_left
          · exact h3.elim
          rename_i kk hkk
          split at h3
          rotate_left
          · exact h3.elim
          rename_i hz
          split at h3
          rotate_left
          · exact h3.elim
          rename_i S3 hs3
          have pq := (p.mono (T' := fun _ => true) (by intro i hi; cases hi)).snoc (T2 := fun _ => true) (fun o1 ho1 => by
            have e1 : o1 = .own d := by simpa using ho1
            subst e1; trivial) (q.mono (T' := fun _ => true) (by intro i hi; cases hi))
          have hop := pq.op
          simp only [List.cons_append, List.nil_append, OpsRep] at hop
          obtain ⟨v', ws, A1, A2, ee, hr, ⟨x, ws2, ee2, hlv, hrest⟩, pm⟩ := hop
          have hq := q.len
          have hvs : ∃ x1 y, vs = [x1, y] := by
            match vs, hq with
            | [a, b], _ => exact ⟨a, b, rfl⟩
          obtain ⟨x1, y, rfl⟩ := hvs
          cases ee
          cases ee2
          refine ⟨x, y, rfl, ?_⟩
          have hky := q.op.reads q.sr (ds := [.dct true kvs, di]) (by
            have e0 : RB.dat S2 (.loc l) = some (.dct true kvs) := hl
            simp [List.mapM_cons, e0, hi])
          obtain ⟨x', y', ee3, hx, hy⟩ := pair2 hky
          cases ee3
          obtain ⟨FF, hF⟩ := q.sr.read hl hlv
          obtain ⟨a, us, rfl, hu, hlen, _, B0, hB0⟩ := rep_kown hF
          cases keyOf_kV hkk hy
          refine ⟨a, upd W2.H a (.dK (putK us kk v)), rfl, DPut.k hu (by rw [szl, hlen]; exact hz), ?_⟩
          have sepA : Sep W2 (((Fs2.flatten ++ G2) ++ A1) ++ A2) := by
            have := pq.sep.pm (pm.append_left _)
            rw [← List.append_assoc] at this
            exact this
          have p2 : Posts (fun _ => true) W σ S Fs G (.loc l :: [d].map .own) S2 (.ref a :: [v]) W2 Fs2 G2 A1 :=
            ⟨q.sr, ⟨.ref a, [v], rfl, hlv, ⟨v, [], A1, [], rfl, hr, ⟨rfl, rfl⟩, by simp⟩⟩, sepA.left, pq.evo.sub fun b hb => by
              rcases List.mem_append.mp hb with hb | hb
              · exact List.mem_append_left _ hb
              · exact List.mem_append_right _ (pm.mem_iff.mpr (List.mem_append_left _ hb)), ⟨fun i hi => (by cases hi), fun hi => (by cases hi)⟩⟩
          obtain ⟨Fs3, G3, p3⟩ := p2.change (a := a) (o' := .dK (putK us kk v)) hl rfl hs3 fun F0 h1 h2 nd np' => by
            obtain ⟨a', us', ea, hu', _, hm, _⟩ := rep_kown h1
            cases ea
            refine ⟨hm, rep_kchange h1 hu nd np' fun B hB ndB => ?_⟩
            simp only [RepL] at h2
            obtain ⟨v1, ws1, B1, B2, e1, r1, ⟨_, rfl⟩, pm1⟩ := h2
            cases e1
            have r2 : Rep W2 d v A1 := r1.pm (by simpa using pm1.symm)
            exact hB.setAt (keyOf_ok hkk hy) r2
          exact h3 _ σ Fs3 G3 p3.sp
    | [], _, h3 => exact h3.elim
    | [.own _], _, h3 => exact h3.elim
    | [.loc _], _, h3 => exact h3.elim
    | .own _ :: _ :: _, _, h3 => exact h3.elim
    | .loc _ :: _ :: _ :: _, _, h3 => exact h3.elim
  exact tE_mono (tA_2 key) fun x H1 q => tE_mono q fun y H2 ⟨x', y', e, r⟩ => by cases e; exact r
theorem st_setitem {U V0 To Tk : List (Option Nat)} {f fo fk : M Opd} {e o k : Expr} {pos pos' : Pos} (hT : ∀ S i S', f S = .ok (.loc ⟨.slot i, []⟩) S' → some i ∈ V0) (he : PE X e (tE st Wx U f)) (ho : PE X o (tE st Wx To fo)) (hk : PE X k (tE st Wx Tk fk))
    (hs : swapsWithSole [.Subscript o k pos'] e pos.line X.env = pure false) (hw : swappedStores [.Subscript o k pos'] e X.env = pure none)
    (ha : ∀ v, assign (.Subscript o k pos') X.env v = (do
      let ov ← holding [v] (eval o X.env)
      let iv ← holding [v, ov] (eval k X.env)
      standAt pos'
      holding [v, ov, iv] (setItem ov iv v)
      release [v, ov, iv] []))
    (hsw : swapsWith e (some (.Subscript o k pos')) pos.line X.env = pure false) (xc : XC st X) :
    PS X (.Assign [.Subscript o k pos'] e pos) (tS st Wx np fun S => (xVal f S).bind fun d S1 => (evL [(fo, To), (fk, Tk)] S1).bind fun os S2 => asgSub d os S2) := by
  refine PS.pt fun D σ H h => ?_
  obtain ⟨W, S, Fs, G, hH, hc, sr, sp, h⟩ := h
  cases e1 : xVal f S with
  | ok d S1 =>
    cases e2 : evL [(fo, To), (fk, Tk)] S1 with
    | ok os S2 =>
      simp only [e1, e2, R.bind_ok] at h
      rcases asgSub_or d os S2 with z | z
      · exact ⟨_, st_setitemL hT he ho hk hs hw ha, W, S, Fs, G, hH, hc, sr, sp, by simp only [e1, e2, R.bind_ok]; rw [← z]; exact h⟩
      · exact ⟨_, st_setitemK hT he ho hk hsw xc, W, S, Fs, G, hH, hc, sr, sp, by simp only [e1, e2, R.bind_ok]; rw [← z]; exact h⟩
    | exc x S2 => exact ⟨_, st_setitemL hT he ho hk hs hw ha, W, S, Fs, G, hH, hc, sr, sp, by simp only [e1, e2, R.bind_ok, R.bind_exc] at h ⊢; exact h⟩
    | fail => simp only [e1, e2, R.bind_ok, R.bind_fail] at h; exact h.elim
  | exc x S1 => exact ⟨_, st_setitemL hT he ho hk hs hw ha, W, S, Fs, G, hH, hc, sr, sp, by simp only [e1, R.bind_exc] at h ⊢; exact h⟩
  | fail => simp only [e1, R.bind_fail] at h; exact h.elim
/-- a, b = a tuple -/
theorem st_asgTup {U V0 : List (Option Nat)} {f : M Opd} {e : Expr} {es : List Expr} {kk : Nat} {is : List Nat} {pos pos' : Pos} (hT : ∀ S i S', f S = .ok (.loc ⟨.slot i, []⟩) S' → some i ∈ V0) (he : PE X e (tE st Wx U f)) (hg : PG X (.Tuple es kk pos') (tgR X.K (.tup is)))
    (hs : swapsWithSole [.Tuple es kk pos'] e pos.line X.env = pure false) (hw : swappedStores [.Tuple es kk pos'] e X.env = pure none) :
    PS X (.Assign [.Tuple es kk pos'] e pos) (tS st Wx np fun S => (xVal f S).bind fun d S1 => match setTg np (.tup is) d S1 with | some S2 => .ok .next S2 | none => .fail) := by
  refine PS.pt fun D σ H h => ⟨_, ps_asg he hg hs hw rfl, ?_⟩
  obtain ⟨W, S, Fs, G, rfl, hc, sr, sp, h⟩ := h
  refine xVal_bind (T := U ++ V0) hc sr sp (fun S i S' h => List.mem_append_right _ (hT S i S' h)) h (fun d v S1 W1 Fs1 G1 F1 p h => ?_) (fun i hi z => hi (List.mem_append_left _ z))
  cases e3 : setTg np (.tup is) d S1 with
  | none => rw [e3] at h; exact h.elim
  | some S3 =>
    rw [e3] at h
    have hop := p.op
    simp only [OpsRep] at hop
    obtain ⟨v', ws, A1, A2, ee, hr, ⟨_, rfl⟩, pm⟩ := hop
    cases ee
    have hr0 : Rep W1 d v [] := by
      cases d with
      | tup ds => simp only [Rep] at hr ⊢; exact ⟨trivial, hr.2⟩
      | _ => simp [setTg] at e3
    exact tg_ok p.sr p.sep.left hr0 e3 fun σ' Fs' q => h W1 σ' Fs' G1 ((p.sp (np := np)).drop.trans q)
/-! ### zip -/
theorem wk_zip {W0 : Wd} {K : PySem.W.Frag} {a b : Addr} {xs ys : List D} {us ws : List V} (hp : W0.P a) (hv : W0.H a = some (.lst us)) (h : RepL W0 xs us []) (hp' : W0.P b) (hv' : W0.H b = some (.lst ws)) (h' : RepL W0 ys ws []) : Wk (Itz K a b) W0 (zipD xs ys) where
  go := fun i W' s hi => by
    simp only [zipD, List.length_map, List.length_zip] at hi
    have h1 : i < us.length := by rw [h.len]; omega
    have h2 : i < ws.length := by rw [h'.len]; omega
    exact ⟨us, ws, us[i], ws[i], SqL.of (s.keep a _ (.inr hp) hv), SqL.of (s.keep b _ (.inr hp') hv'), by simp [h1], by simp [h2]⟩
  yld := fun i W' x H' d s sp e y => by
    obtain ⟨T, x1, y1, rfl, hT, rfl, hx, hy⟩ := y
    simp only [zipD, List.getElem?_map, Option.map_eq_some_iff] at e
    obtain ⟨⟨d1, d2⟩, e, rfl⟩ := e
    have e1 : xs[i]? = some d1 ∧ ys[i]? = some d2 := by
      have hl := (List.getElem?_eq_some_iff.mp e).1
      rw [List.length_zip] at hl
      have := (List.getElem?_eq_some_iff.mp e).2
      rw [List.getElem_zip] at this
      injection this with t1 t2
      exact ⟨by rw [← t1]; exact List.getElem?_eq_getElem _, by rw [← t2]; exact List.getElem?_eq_getElem _⟩
    obtain ⟨v1, g1, r1⟩ := rl_at h e1.1
    obtain ⟨v2, g2, r2⟩ := rl_at h' e1.2
    have z1 := hx us (SqL.of (s.keep a _ (.inr hp) hv))
    have z2 := hy ws (SqL.of (s.keep b _ (.inr hp') hv'))
    rw [g1] at z1; cases z1
    rw [g2] at z2; cases z2
    refine ⟨W'.putP T (.tup [x1, y1]), rfl, .newP _ sp hT, Rep.mkTup hT ?_⟩
    simp only [RepL]
    exact ⟨x1, [y1], [], [], rfl, Rep.frame _ r1 s, ⟨y1, [], [], [], rfl, Rep.frame _ r2 s, ⟨rfl, rfl⟩, .nil⟩, .nil⟩
  stop := fun W' s => by
    simp only [zipD, List.length_map, List.length_zip]
    have h1 := h.len
    have h2 := h'.len
    exact ⟨us, ws, SqL.of (s.keep a _ (.inr hp) hv), SqL.of (s.keep b _ (.inr hp') hv'), by omega⟩
end
end RB
end

section
set_option Elab.async false
set_option maxRecDepth 100000
set_option linter.unusedVariables false
namespace RB
open PySem L2

section
variable {st : Sta} {Wx : WX} {X : Cx} {σ σ1 : St} {H : Hp} {np : Nat} {tg : Expr}
def biN : Bi → Str
  | .len => "len" | .abs => "abs" | .min2 => "min" | .max2 => "max" | .sum => "sum" | .any => "any" | .all => "all" | .sorted => "sorted"
  | .str => "str" | .int => "int" | .list => "list" | .tuple => "tuple" | .dict => "dict"
theorem s_bi {T : List (Option Nat)} {ms : List (M Opd × List (Option Nat))} {b : Bi} {e : Expr} {es : List Expr} {p pos : Pos} (xc : XC st X) (hT : ∀ i, i ∉ T → i ∉ ms.flatMap (·.2)) (hg : Gl X (biN b)) (hm : X.mg (biN b) = none) (ha : PA X (e :: es) (tA st Wx ms))
    (he : starEach (e :: es) X.env = (false, eval e X.env) :: starEach es X.env) (hpl : (backTo pos (starEach es X.env)).any (·.1) = false) : PE X (.Call (.Name (biN b) p) (e :: es) [] pos) (tE st Wx T (xRead ms (biD b))) := by
  refine PE.pt fun σ H Q h => ⟨_, ?_, rd_bi xc hT h⟩
  cases b with
  | len => exact pe_callB callr_ex hg hm (by kernel_rfl) ha (by decide) (by decide) he hpl
  | abs => exact pe_callB callr_ex hg hm PyProof.Rows.boot_abs ha (by decide) (by decide) he hpl
  | min2 => exact pe_callB callr_ex hg hm PyProof.Rows.boot_min ha (by decide) (by decide) he hpl
  | max2 => exact pe_callB callr_ex hg hm PyProof.Rows.boot_max ha (by decide) (by decide) he hpl
  | sum => exact pe_callB callr_ex hg hm PyProof.Rows.boot_sum ha (by decide) (by decide) he hpl
  | any => exact pe_callB callr_ex hg hm PyProof.Rows.boot_any ha (by decide) (by decide) he hpl
  | all => exact pe_callB callr_ex hg hm PyProof.Rows.boot_all ha (by decide) (by decide) he hpl
  | sorted => exact pe_callB callr_ex hg hm PyProof.Rows.boot_sorted ha (by decide) (by decide) he hpl
  | str => exact pe_callTy callr_ex hg hm PyProof.Rows.boot_str ha (by decide) (by decide) he hpl
  | int => exact pe_callTy callr_ex hg hm PyProof.Rows.boot_int ha (by decide) (by decide) he hpl
  | list => exact pe_callTy callr_ex hg hm PyProof.Rows.boot_list ha (by decide) (by decide) he hpl
  | tuple => exact pe_callTy callr_ex hg hm PyProof.Rows.boot_tuple ha (by decide) (by decide) he hpl
  | dict => exact pe_callTy callr_ex hg hm PyProof.Rows.boot_dict ha (by decide) (by decide) he hpl
/-! ### methods of built-in types -/
theorem mtr_ex {id : String} : MtR X id (fun x vs H2 Q => ∃ rr, MtR X id rr ∧ rr x vs H2 Q) := by
  intro pins s σ H x xs v us Q I r r' ⟨rr, h1, h2⟩
  exact h1 pins s σ H x xs v us Q I r r' h2
theorem tE_kor {T : List (Option Nat)} {k k' : D → Bool} {f : M Opd} {Q : VK} (h : tE st Wx T (xKind (fun d => k d || k' d) f) σ H Q) : tE st Wx T (xKind k f) σ H Q ∨ tE st Wx T (xKind k' f) σ H Q := by
  obtain ⟨W, S, Fs, G, hH, hc, sr, sp, h⟩ := h
  unfold xKind at h
  cases e1 : f S with
  | fail => rw [e1] at h; exact h.elim
  | exc x S1 => rw [e1] at h; refine .inl ⟨W, S, Fs, G, hH, hc, sr, sp, ?_⟩; simp only [xKind, e1]; exact h
  | ok o S1 =>
    rw [e1] at h
    simp only [R.bind_ok] at h
    cases e2 : dat S1 o with
    | none => rw [e2] at h; exact h.elim
    | some d =>
      rw [e2] at h
      by_cases hk : k d = true
      · refine .inl ⟨W, S, Fs, G, hH, hc, sr, sp, ?_⟩
        simp only [xKind, e1, R.bind_ok, e2, hk, if_true]
        simp only [hk, Bool.true_or, if_true] at h
        exact h
      · by_cases hk' : k' d = true
        · refine .inr ⟨W, S, Fs, G, hH, hc, sr, sp, ?_⟩
          simp only [xKind, e1, R.bind_ok, e2, hk', if_true]
          simp only [hk', Bool.or_true, if_true] at h
          exact h
        · simp only [hk, hk'] at h
          exact h.elim
theorem kind_str {W : Wd} {d : D} {x : V} (hr : RepB W d x) (hk : isStr d = true) {K : PySem.W.Frag} : tyV K "str" x W.H := by
  cases d with
  | str z => rw [rep_str hr]; rfl
  | _ => cases hk
theorem kind_lst {W : Wd} {d : D} {x : V} (hr : RepB W d x) (hk : isLst d = true) {K : PySem.W.Frag} : tyV K "list" x W.H := by
  cases d with
  | lst o c => obtain ⟨a, vs, F, rfl, r, _⟩ := rep_lst hr; exact .inl ⟨rfl, vs, SqL.of r⟩
  | _ => cases hk
theorem tyV_one {K : PySem.W.Frag} {x : V} {H1 H2 : Hp} (h : tyV K "str" x H1) (h' : tyV K "list" x H2) : False := by
  cases x with
  | ref p => rcases (show (_ ∨ _) from h) with ⟨z, _⟩ | ⟨z, _⟩ | ⟨z, _⟩ | ⟨z, _⟩ <;> exact absurd z (by decide)
  | str z => exact absurd (show ("list" : String) = "str" from h') (by decide)
  | int z => exact absurd (show ("list" : String) = "int" from h') (by decide)
  | _ => exact h
theorem s_bm {T Ta : List (Option Nat)} {fa : M Opd} {ms : List (M Opd × List (Option Nat))} {b : Bm} {o e : Expr} {es : List Expr} {apos cpos : Pos} (xc : XC st X) (hT : ∀ i, i ∉ T → i ∉ Ta ++ ms.flatMap (·.2)) (ho : PE X o (tE st Wx Ta fa)) (ha : PA X (e :: es) (tA st Wx ms))
    (hbase : attributeBase o (bmName b) X.env (eval o X.env) = eval o X.env)
    (hfew : ((backTo cpos (starEach (e :: es) X.env)).all (fun x => !x.1) && (backToKw cpos (keywordEach [] X.env)).all (fun x => x.1.isSome)
      && decide ((e :: es).length + ([] : List Keyword).length + (if ([] : List Keyword).isEmpty then 0 else 1) < 30)) = true)
    (hline : (apos.endLine == cpos.line) = true) (hs : starEach (e :: es) X.env = (false, eval e X.env) :: starEach es X.env) (hplain : (backTo cpos (starEach es X.env)).any (·.1) = false) :
    PE X (.Call (.Attribute o (bmName b) apos) (e :: es) [] cpos) (tE st Wx T (xRead ((xKind (bmK b) fa, Ta) :: ms) fun ds => match ds with | d :: r => bmD b d r | _ => none)) := by
  refine PE.pt fun σ H Q h => ?_
  have h1 := rd_bm xc hT h
  have fin : ∀ {Tn id : String}, (∀ d : D, (bmId b d).1 = Tn → (bmId b d).2 = id) → (∀ d : D, (bmId b d).1 = "str" ∨ (bmId b d).1 = "list") → (Tn = "str" ∨ Tn = "list") → (∀ {W : Wd} {d : D} {x : V}, RepB W d x → ∀ {K : PySem.W.Frag}, bmK b d = true → True) →
      (tE st Wx Ta fa σ H fun v H1 => tyV X.K Tn v H1 ∧ tA st Wx ms σ H1 fun vs H2 => ∃ W d ds r, W.H = H2 ∧ W.st = st ∧ Sep W [] ∧ RepB W d v ∧ Paired (RepB W) ds vs ∧ bmD b d ds = some r ∧ ∀ v W' F, Grow W W' F → Rep W' r v F → Q v W'.H) →
      tBM X.K Tn (fun x vs H2 Q => ∃ rr, MtR X id rr ∧ rr x vs H2 Q) (tE st Wx Ta fa) (tA st Wx ms) σ H Q := fun {Tn id} hi hor htn _ h => by
    refine tE_mono h fun v H1 ⟨ty, q⟩ => ⟨ty, tA_mono q fun vs H2 ⟨W, d, ds, r, hH, hc, sp, hr, hp, hb, q⟩ => ?_⟩
    subst hH
    obtain ⟨rr, z1, z2, z3⟩ := mt_bm (X := X) (by rw [xc.K, hc]) hr hp hb sp q
    have : (bmId b d).1 = Tn := by
      rcases hor d with e1 | e1 <;> rcases htn with e2 | e2
      · rw [e1, e2]
      · rw [e1] at z3; rw [e2] at ty; exact (tyV_one z3 ty).elim
      · rw [e1] at z3; rw [e2] at ty; exact (tyV_one ty z3).elim
      · rw [e1, e2]
    rw [hi d this] at z1
    exact ⟨rr, z1, z2⟩
  cases b with
  | join =>
    exact ⟨_, pe_bm PySem.F.plainAttrs_str PySem.F.slot_str_join PySem.F.type_str_join mtr_ex ho ha hbase hfew hline hs hplain, fin (fun d _ => rfl) (fun d => .inl rfl) (.inl rfl) (fun _ _ _ => trivial) (tE_mono (tE_kind h1) fun v H1 ⟨⟨W, d, hH, _, hr, hk⟩, q⟩ => ⟨hH ▸ kind_str hr hk, q⟩)⟩
  | split =>
    exact ⟨_, pe_bm PySem.F.plainAttrs_str PySem.F.slot_str_split PySem.F.type_str_split mtr_ex ho ha hbase hfew hline hs hplain, fin (fun d _ => rfl) (fun d => .inl rfl) (.inl rfl) (fun _ _ _ => trivial) (tE_mono (tE_kind h1) fun v H1 ⟨⟨W, d, hH, _, hr, hk⟩, q⟩ => ⟨hH ▸ kind_str hr hk, q⟩)⟩
  | index =>
    have hor : ∀ d : D, (bmId .index d).1 = "str" ∨ (bmId .index d).1 = "list" := fun d => by cases d <;> first | exact .inl rfl | exact .inr rfl
    rcases tE_kor (k := isStr) (k' := isLst) h1 with h1 | h1
    · exact ⟨_, pe_bm PySem.F.plainAttrs_str PySem.F.slot_str_index PySem.F.type_str_index mtr_ex ho ha hbase hfew hline hs hplain, fin (fun d => by cases d <;> first | (intro _; rfl) | (intro z; exact absurd (show ("list" : String) = "str" from z) (by decide))) hor (.inl rfl) (fun _ _ _ => trivial) (tE_mono (tE_kind h1) fun v H1 ⟨⟨W, d, hH, _, hr, hk⟩, q⟩ => ⟨hH ▸ kind_str hr hk, q⟩)⟩
    · exact ⟨_, pe_bm PySem.F.plainAttrs_list PySem.F.slot_list_index PySem.F.type_list_index mtr_ex ho ha hbase hfew hline hs hplain, fin (fun d => by cases d <;> first | (intro _; rfl) | (intro z; exact absurd (show ("str" : String) = "list" from z) (by decide))) hor (.inr rfl) (fun _ _ _ => trivial) (tE_mono (tE_kind h1) fun v H1 ⟨⟨W, d, hH, _, hr, hk⟩, q⟩ => ⟨hH ▸ kind_lst hr hk, q⟩)⟩
def mmName : Mm → Str
  | .append => "append" | .extend => "extend" | .insert => "insert" | .pop => "pop" | .popAt => "pop" | .remove => "remove" | .reverse => "reverse" | .clear => "clear" | .dpop => "pop"
/-- methods with arguments, and those without -/
def mmA : Mm → Bool
  | .append => true | .extend => true | .insert => true | _ => false
def mm0 : Mm → Bool
  | .pop => true | .reverse => true | .clear => true | _ => false
theorem s_mm {T Ta : List (Option Nat)} {fa : M Opd} {ms : List (M Opd × List (Option Nat))} {b : Mm} {o e : Expr} {es : List Expr} {apos cpos : Pos} (hb : mmA b = true) (hT : ∀ i, i ∉ T → i ∉ Ta ++ ms.flatMap (·.2)) (hl : ∀ S l S', fa S = .ok (.loc l) S' → rootT l.root ∈ T) (hss : ∀ S os S', evL ms S = .ok os S' → ∀ i ∈ slotsOf os, some i ∈ T)
    (ho : PE X o (tE st Wx Ta fa)) (ha : PA X (e :: es) (tA st Wx ms))
    (hbase : attributeBase o (mmName b) X.env (eval o X.env) = eval o X.env)
    (hfew : ((backTo cpos (starEach (e :: es) X.env)).all (fun x => !x.1) && (backToKw cpos (keywordEach [] X.env)).all (fun x => x.1.isSome)
      && decide ((e :: es).length + ([] : List Keyword).length + (if ([] : List Keyword).isEmpty then 0 else 1) < 30)) = true)
    (hline : (apos.endLine == cpos.line) = true) (hs : starEach (e :: es) X.env = (false, eval e X.env) :: starEach es X.env) (hplain : (backTo cpos (starEach es X.env)).any (·.1) = false) :
    PE X (.Call (.Attribute o (mmName b) apos) (e :: es) [] cpos) (tE st Wx T (xMm b (xKind (mmK b) fa) Ta ms)) := by
  cases b with
  | append => exact PE.pt fun σ H Q h => ⟨_, pe_bm PySem.F.plainAttrs_list PySem.F.slot_list_append PySem.F.type_list_append mt_append ho ha hbase hfew hline hs hplain, rd_mm (fun _ => rfl) ok_append hT hl hss h⟩
  | extend => exact PE.pt fun σ H Q h => ⟨_, pe_bm PySem.F.plainAttrs_list PySem.F.slot_list_extend PySem.F.type_list_extend mt_extend ho ha hbase hfew hline hs hplain, rd_mm (fun _ => rfl) ok_extend hT hl hss h⟩
  | insert => exact PE.pt fun σ H Q h => ⟨_, pe_bm PySem.F.plainAttrs_list PySem.F.slot_list_insert PySem.F.type_list_insert mt_insert ho ha hbase hfew hline hs hplain, rd_mm (fun _ => rfl) ok_insert hT hl hss h⟩
  | _ => cases hb
theorem s_mm0 {T Ta : List (Option Nat)} {fa : M Opd} {b : Mm} {o : Expr} {apos cpos : Pos} (hb : mm0 b = true) (hT : ∀ i, i ∉ T → i ∉ Ta) (hl : ∀ S l S', fa S = .ok (.loc l) S' → rootT l.root ∈ T)
    (ho : PE X o (tE st Wx Ta fa)) (hbase : attributeBase o (mmName b) X.env (eval o X.env) = eval o X.env) (hline : (apos.endLine == cpos.line) = true) :
    PE X (.Call (.Attribute o (mmName b) apos) [] [] cpos) (tE st Wx T (xMm b (xKind (mmK b) fa) Ta [])) := by
  have hT' : ∀ i, i ∉ T → i ∉ Ta ++ ([] : List (M Opd × List (Option Nat))).flatMap (·.2) := fun i hi => by simpa using hT i hi
  have hss : ∀ S os S', evL [] S = .ok os S' → ∀ i ∈ slotsOf os, some i ∈ T := fun S os S' h i hi => by
    simp only [evL] at h
    cases h
    simp [slotsOf] at hi
  cases b with
  | pop => exact PE.pt fun σ H Q h => ⟨_, pe_bm0 PySem.F.plainAttrs_list PySem.F.slot_list_pop PySem.F.type_list_pop mt_pop ho hbase hline, tE_mono (rd_mm (X := X) (fun _ => rfl) ok_pop hT' hl hss h) fun x H1 ⟨q1, q2⟩ => ⟨q1, tA_nil q2⟩⟩
  | reverse => exact PE.pt fun σ H Q h => ⟨_, pe_bm0 PySem.F.plainAttrs_list PySem.F.slot_list_reverse PySem.F.type_list_reverse mt_reverse ho hbase hline, tE_mono (rd_mm (X := X) (fun _ => rfl) ok_reverse hT' hl hss h) fun x H1 ⟨q1, q2⟩ => ⟨q1, tA_nil q2⟩⟩
  | clear => exact PE.pt fun σ H Q h => ⟨_, pe_bm0 PySem.F.plainAttrs_list PySem.F.slot_list_clear PySem.F.type_list_clear mt_clear ho hbase hline, tE_mono (rd_mm (X := X) (fun _ => rfl) ok_clear hT' hl hss h) fun x H1 ⟨q1, q2⟩ => ⟨q1, tA_nil q2⟩⟩
  | _ => cases hb
theorem s_ife {T Tt Ta Tb : List (Option Nat)} {ft : M Bool} {fa fb : M Opd} {c a b : Expr} {pos : Pos} (hT : ∀ i, i ∉ T → i ∉ Tt ++ (Ta ++ Tb)) (ha : ∀ S i S', fa S = .ok (.loc ⟨.slot i, []⟩) S' → some i ∈ T) (hb : ∀ S i S', fb S = .ok (.loc ⟨.slot i, []⟩) S' → some i ∈ T)
    (hc : PT X c (tT st Wx Tt ft)) (h1 : PE X a (tE st Wx Ta fa)) (h2 : PE X b (tE st Wx Tb fb)) : PE X (.IfExp c a b pos) (tE st Wx T (xIfe ft fa fb)) :=
  PE.pt fun σ H Q h => ⟨_, pe_ifExp hc h1 h2, rd_ife hT ha hb h⟩
/-! ### name op= e -/
theorem st_aug {T : List (Option Nat)} {f : M Opd} {i : Nat} {x : Str} {e : Expr} {o : BOp} {op : Operator} {pos pos' : Pos} (ho : (o = .add ∧ op = .Add) ∨ (o = .sub ∧ op = .Sub)) (hN : X.N.Nodup) (hi : X.N[i]? = some x) (hx : L2.Loc X.env.scope x) (he : PE X e (tE st Wx T f)) (hf : X.fn x = true ∨ X.env.scope.names.lookup x = some .local) :
    PS X (.AugAssign (.Name x pos') op e pos) (tS st Wx np (xAug np i o f)) := by
  have key : ∀ {D : Ends} {σ : St} {H : Hp} {fi : Int → Int → Int}, (∀ a b, augI o a b = some (fi a b)) → tS st Wx np (xAug np i o f) D σ H → tAug i (tE st Wx T f) (ipI fi) D σ H := fun {D σ H fi} hfi h => by
    obtain ⟨W, S, Fs, G, rfl, hc, sr, sp, h⟩ := h
    unfold xAug at h
    split at h
    rotate_left
    · exact h.elim
    rename_i k hk
    obtain ⟨v, F, hv, hF, hr⟩ := sr.sl.at hk
    cases rep_int ⟨F, hr⟩
    refine ⟨.int k, hv, tE_of hc sr sp (h.bind.out.mono fun o1 S1 e1 _ v W1 Fs1 G1 F1 p _ => ?_)⟩
    have h2 := h.bind
    rw [e1] at h2
    have h3 : OutS Wx np W σ Fs G (match dat S1 o1 with
      | some (.int j) => match (augI o k j).bind fun d => setVar np i (.int d) S1 with | some S2 => R.ok Fl.next S2 | none => .fail
      | _ => .fail) (KEnd D np W σ Fs G) := h2
    split at h3
    rotate_left
    · exact h3.elim
    rename_i j hj
    cases rep_int (p.dat hj)
    refine ⟨k, j, rfl, rfl, ?_⟩
    split at h3
    rotate_left
    · exact h3.elim
    rename_i S2 hs
    rw [hfi, Option.bind_some] at hs
    have q := setVar_post (np := np) p.sr p.sep.left (.mkInt _) hs
    exact h3 W1 _ _ G1 ((p.sp (np := np)).drop.trans q)
  refine PS.pt fun D σ H h => ?_
  rcases ho with ⟨rfl, rfl⟩ | ⟨rfl, rfl⟩
  · exact ⟨_, ps_aug hN hi hx he ip_add hf, key (fun _ _ => rfl) h⟩
  · exact ⟨_, ps_aug hN hi hx he ip_sub hf, key (fun _ _ => rfl) h⟩
end
end RB
end

section
set_option Elab.async false
set_option maxRecDepth 100000
set_option linter.unusedVariables false
namespace RB
open PySem L2

section
variable {st : Sta} {Wx : WX} {X : Cx} {σ σ1 : St} {H : Hp} {np : Nat} {tg : Expr}
theorem OpsRep.give {W : Wd} {B : List Addr} : ∀ {os : List Opd} {vs : List V} {F : List Addr}, OpsRep W σ os vs F → OpsRep (W.give B) σ os vs F
  | [], vs, F, h => h
  | .own d :: os, vs, F, h => by
    simp only [OpsRep] at h ⊢
    obtain ⟨v, ws, F1, F2, e, r, h, pm⟩ := h
    exact ⟨v, ws, F1, F2, e, Rep.frame d r (stay_give _ _ _), OpsRep.give h, pm⟩
  | .loc l :: os, vs, F, h => by
    simp only [OpsRep] at h ⊢
    obtain ⟨v, ws, e, r, h⟩ := h
    exact ⟨v, ws, e, r, OpsRep.give h⟩
theorem Posts.giveC {T : Tch} {W W1 : Wd} {S S1 S2 : DS} {Fs Fs1 : List (List Addr)} {G G1 F : List Addr} {o : Opd} {os : List Opd} {v : V} {vs : List V} {d : D} (p : Posts T W σ S Fs G (o :: os) S1 (v :: vs) W1 Fs1 G1 F) (hd : RB.dat S1 o = some d) (h : giveUp o S1 = .ok () S2) (hT : ∀ l, o = .loc l → T (rootT l.root) = true) :
    ∃ B Fs2 G2 F', Posts T W σ S Fs G os S2 vs (W1.give B) Fs2 G2 F' ∧ Rep (W1.give B) d.leak v [] := by
  cases o with
  | own e =>
    cases h
    cases hd
    have hop := p.op
    simp only [OpsRep] at hop
    obtain ⟨v', ws, A1, A2, e, hr, ho, pm⟩ := hop
    cases e
    have st1 : Stay W1 (W1.give A1) (Fs1.flatten ++ G1) := stay_give _ _ _
    have sepA : Sep W1 (((Fs1.flatten ++ G1) ++ A2) ++ A1) := p.sep.pm (List.perm_iff_count.mpr fun a => by
      have c1 := List.perm_iff_count.mp pm a
      simp only [List.count_append] at c1 ⊢
      omega)
    refine ⟨A1, Fs1, G1, A2, ⟨⟨p.sr.sl.frame st1.left, RepL.frame _ p.sr.rg st1.right⟩, ho.give, ?_, ?_, ?_⟩, Rep.leak d (Rep.frame d hr (stay_give _ _ _)) fun a ha => .inr ha⟩
    · refine ⟨sepA.left.nd, fun a ha z => ?_, fun a z => ?_, sepA.left.tr⟩
      · rcases z with z | z
        · exact sepA.left.np a ha z
        · exact sepA.dj ha z
      · rcases z with z | z
        · exact sepA.tk a z
        · exact sepA.right.tr a z
    · have e1 : Evo W1 ((Fs1.flatten ++ G1) ++ F) (W1.give A1) ((Fs1.flatten ++ G1) ++ A2) := ⟨fun _ _ q _ => q, fun _ q => .inl q, fun a ha => by
        rcases List.mem_append.mp ha with z | z
        · exact .inl (List.mem_append_left _ z)
        · exact .inl (List.mem_append_right _ (pm.mem_iff.mpr (List.mem_append_right _ z))), fun a ha => ha.elim .inl fun z => .inr (.inl (List.mem_append_right _ (pm.mem_iff.mpr (List.mem_append_left _ z)))), ⟨[], by simp⟩, rfl⟩
      exact p.evo.trans e1
    · exact ⟨p.pres.sl, p.pres.rg⟩
  | loc l =>
    have hop := p.op
    simp only [OpsRep] at hop
    obtain ⟨v', ws, e, hl, ho⟩ := hop
    cases e
    simp only [giveUp] at h
    simp only [RB.dat] at hd
    rw [hd] at h
    simp only [Option.bind_some] at h
    cases hs : setLoc S1 l d.leak with
    | none => rw [hs] at h; cases h
    | some S3 =>
      rw [hs] at h
      cases h
      obtain ⟨F1, F2, r1, pm, jj, gg, k⟩ := p.sr.focus hd hl
      have sepA : Sep W1 ((F1 ++ F2) ++ F) := p.sep.pm (pm.append_right _)
      obtain ⟨Fs2, G2, sr2, pm2, un, ug⟩ := k (W1.give F1) d.leak S2 [] hs (stay_give _ _ _) rfl (Rep.leak d (Rep.frame d r1 (stay_give _ _ _)) fun a ha => .inr ha)
      have pm3 : (Fs2.flatten ++ G2).Perm F2 := by simpa using pm2
      have sepB : Sep W1 (((Fs2.flatten ++ G2) ++ F) ++ F1) := sepA.pm (List.perm_iff_count.mpr fun a => by
        have c1 := List.perm_iff_count.mp pm3 a
        simp only [List.count_append] at c1 ⊢
        omega)
      have hTr := hT l rfl
      refine ⟨F1, Fs2, G2, F, ⟨sr2, ho.give, ?_, ?_, ⟨fun j hj => ?_, fun hr => ?_⟩⟩, Rep.leak d (Rep.frame d r1 (stay_give _ _ _)) fun a ha => .inr ha⟩
      · refine ⟨sepB.left.nd, fun a ha z => ?_, fun a z => ?_, sepB.left.tr⟩
        · rcases z with z | z
          · exact sepB.left.np a ha z
          · exact sepB.dj ha z
        · rcases z with z | z
          · exact sepB.tk a z
          · exact sepB.right.tr a z
      · have e1 : Evo W1 ((Fs1.flatten ++ G1) ++ F) (W1.give F1) ((Fs2.flatten ++ G2) ++ F) := ⟨fun _ _ q _ => q, fun _ q => .inl q, fun a ha => by
          rcases List.mem_append.mp ha with z | z
          · exact .inl (List.mem_append_left _ (pm.mem_iff.mpr (List.mem_append_right _ (pm3.mem_iff.mp z))))
          · exact .inl (List.mem_append_right _ z), fun a ha => ha.elim .inl fun z => .inr (.inl (List.mem_append_left _ (pm.mem_iff.mpr (List.mem_append_left _ z)))), ⟨[], by simp⟩, rfl⟩
        exact p.evo.trans e1
      · have hjr : some j ≠ rootT l.root := fun z => by rw [z, hTr] at hj; cases hj
        obtain ⟨a1, a2, a3⟩ := p.pres.sl j hj
        obtain ⟨b1, b2⟩ := un j hjr
        exact ⟨b1.trans a1, b2.trans a2, a3⟩
      · have hjr : rootT l.root ≠ none := fun z => by rw [z, hr] at hTr; cases hTr
        obtain ⟨a1, a2, a3, a4⟩ := p.pres.rg hr
        obtain ⟨b1, b2⟩ := ug hjr
        exact ⟨b1.trans a1, b2.trans a2, a3, a4⟩
theorem RepL.perm0 {W W' : Wd} {xs : List D} {vs : List V} (h : RepL W xs vs []) (s : Stay W W' []) : RepL W' xs vs [] := RepL.frame _ h s
theorem s_zip {T Ta Tb : List (Option Nat)} {fa fb : M Opd} {a b : Expr} {p pos tpos : Pos} {elts : List Expr} {kk : Nat} (hT : ∀ i, i ∉ T → i ∉ Ta ++ Tb) (hla : ∀ S l S', fa S = .ok (.loc l) S' → rootT l.root ∈ T) (hlb : ∀ S l S', fb S = .ok (.loc l) S' → rootT l.root ∈ T) (hg : Gl X "zip") (hm : X.mg "zip" = none)
    (ha : PE X a (tE st Wx Ta fa)) (hb : PE X b (tE st Wx Tb fb)) (hs : ∀ r, starEach (a :: r) X.env = (false, eval a X.env) :: starEach r X.env) (hs2 : ∀ r, starEach (b :: r) X.env = (false, eval b X.env) :: starEach r X.env) :
    PI X (.Tuple elts kk tpos) (.Call (.Name "zip" p) [a, b] [] pos) (tI st Wx T (xZip fa Ta fb Tb)) := by
  refine PI.pt fun σ H R h => ⟨_, pi_zip hg hm (pa_cons ha (pa_cons hb pa_nil (hs2 _)) (hs _)) (hs _) (by rw [hs2]; rfl), ?_⟩
  obtain ⟨W, S, Fs, G, rfl, hc, sr, sp, h⟩ := h
  have key : tA st Wx [(fa, Ta), (fb, Tb)] σ W.H fun vs H1 => ∃ a b xs ys, vs = [.ref a, .ref b] ∧ SqL X.K H1 a xs ∧ SqL X.K H1 b ys ∧ R (Itz X.K a b) H1 := by
    refine tA_of hc sr sp (h.bind.mono fun os S1 e h vs W1 Fs1 G1 F p => ?_)
    split at h
    rotate_left
    · exact h.elim
    rename_i oa ob
    have hroot : (∀ l, oa = .loc l → rootT l.root ∈ T) ∧ (∀ l, ob = .loc l → rootT l.root ∈ T) := by
      simp only [evL] at e
      cases e1 : fa S with
      | fail => rw [e1] at e; cases e
      | exc z S' => rw [e1] at e; cases e
      | ok oo S' =>
        rw [e1] at e
        simp only [RB.R.bind_ok] at e
        split at e
        · cases e2 : fb S' with
          | fail => rw [e2] at e; cases e
          | exc z S'' => rw [e2] at e; cases e
          | ok oo' S'' =>
            rw [e2] at e
            simp only [RB.R.bind_ok] at e
            split at e
            · simp only [RB.R.bind_ok] at e
              cases e
              exact ⟨fun l z => by subst z; exact hla _ _ _ e1, fun l z => by subst z; exact hlb _ _ _ e2⟩
            · cases e
        · cases e
    have p' : Posts (tch T) W σ S Fs G [oa, ob] S1 vs W1 Fs1 G1 F := p.mono fun i hi => tch_false.mpr (by simpa using hT i (tch_false.mp hi))
    obtain ⟨x, y, rfl⟩ : ∃ x y, vs = [x, y] := by
      have := p'.len
      match vs, this with
      | [x, y], _ => exact ⟨x, y, rfl⟩
    split at h
    rotate_left
    · exact h.elim
    rename_i o1 xs hd1
    obtain ⟨S2, e2, h⟩ := giveUp_out h.bind
    split at h
    rotate_left
    · exact h.elim
    rename_i o2 ys hd2
    obtain ⟨S3, e3, h⟩ := giveUp_out h.bind
    obtain ⟨B, Fs2, G2, F2, p2, r2⟩ := p'.giveC hd1 e2 fun l z => by simpa [tch] using hroot.1 l z
    obtain ⟨B', Fs3, G3, F3, p3, r3⟩ := p2.giveC hd2 e3 fun l z => by simpa [tch] using hroot.2 l z
    have r2' := Rep.frame _ r2 (stay_give (W1.give B) B' [])
    simp only [D.leak, Rep] at r2' r3
    obtain ⟨_, a, us, rfl, hp, hv, hr⟩ := r2'
    obtain ⟨_, b, ws, rfl, hp', hv', hr'⟩ := r3
    exact ⟨a, b, us, ws, rfl, SqL.of hv, SqL.of hv', h _ ((W1.give B).give B') Fs3 G3 p3.drop (wk_zip hp hv hr hp' hv' hr')⟩
  exact tE_mono (tA_2 key) fun x H1 q => tE_mono q fun y H2 q => q
/-- the list's own walk, given up -/
theorem seqL_out {T Ta : List (Option Nat)} {f : M Opd} {W : Wd} {S : DS} {Fs : List (List Addr)} {G : List Addr} {K : List D → DS → Prop} {R : V → Hp → Prop} (hc : W.st = st) (sr : SR W σ S Fs G) (sp : Sep W (Fs.flatten ++ G)) (hT : ∀ i, i ∉ T → i ∉ Ta) (hl : ∀ S l S', f S = .ok (.loc l) S' → rootT l.root ∈ T)
    (h : Out Wx W σ Fs G (xSeqL f S) K) (hk : ∀ a xs us S2 W2 Fs2 G2, Posts (tch T) W σ S Fs G [] S2 [] W2 Fs2 G2 [] → W2.P a → W2.H a = some (.lst us) → RepL W2 xs us [] → K xs S2 → R (.ref a) W2.H) : tE st Wx Ta f σ W.H R := by
  unfold xSeqL at h
  refine tE_of hc sr sp (h.bind.mono fun o S1 e h v W1 Fs1 G1 F p _ => ?_)
  split at h
  rotate_left
  · exact h.elim
  rename_i o1 xs hd
  obtain ⟨S2, e2, h⟩ := giveUp_out h.bind
  obtain ⟨B, Fs2, G2, p2, r2⟩ := (p.mono (T' := tch T) fun i hi => tch_false.mpr (hT i (tch_false.mp hi))).give hd e2 fun l hlo => by subst hlo; simpa [tch] using hl _ _ _ e
  simp only [D.leak, Rep] at r2
  obtain ⟨_, a, us, rfl, hp, hv, hr⟩ := r2
  exact hk a _ us S2 (W1.give B) Fs2 G2 p2 hp hv hr h
theorem wk_rev {W0 : Wd} {K : PySem.W.Frag} {a : Addr} {xs : List D} {us : List V} (hp : W0.P a) (hv : W0.H a = some (.lst us)) (h : RepL W0 xs us []) : Wk (Itv K a us.length) W0 xs.reverse where
  go := fun i W' s hi => by
    simp only [List.length_reverse] at hi
    have hl := h.len
    exact ⟨by omega, us, us[us.length - 1 - i]'(by omega), SqL.of (s.keep a _ (.inr hp) hv), by simp [show us.length - 1 - i < us.length by omega]⟩
  yld := fun i W' x H' d s sp e y => by
    obtain ⟨rfl, hx⟩ := y
    have hl := h.len
    have z1 := hx us (SqL.of (s.keep a _ (.inr hp) hv))
    have hi : i < xs.length := by
      have := (List.getElem?_eq_some_iff.mp e).1
      simpa using this
    rw [List.getElem?_reverse hi, ← hl] at e
    obtain ⟨v1, g1, r1⟩ := rl_at h e
    rw [g1] at z1; cases z1
    exact ⟨W', rfl, .refl sp, Rep.frame _ r1 s⟩
  stop := fun W' s => by
    simp only [List.length_reverse]
    show us.length ≤ xs.length
    rw [h.len]; exact Nat.le_refl _
theorem s_rev {T Ta : List (Option Nat)} {f : M Opd} {e : Expr} {p pos : Pos} (hT : ∀ i, i ∉ T → i ∉ Ta) (hl : ∀ S l S', f S = .ok (.loc l) S' → rootT l.root ∈ T) (hg : Gl X "reversed") (hm : X.mg "reversed" = none) (he : PE X e (tE st Wx Ta f)) (hs : ∀ r, starEach (e :: r) X.env = (false, eval e X.env) :: starEach r X.env) :
    PI X tg (.Call (.Name "reversed" p) [e] [] pos) (tI st Wx T fun S => (xSeqL f S).bind fun xs S1 => .ok xs.reverse S1) := by
  refine PI.pt fun σ H R h => ⟨_, pi_reversed hg hm (pa_cons he pa_nil (hs _)) (hs _), ?_⟩
  obtain ⟨W, S, Fs, G, rfl, hc, sr, sp, h⟩ := h
  refine seqL_out hc sr sp hT hl h.bind fun a xs us S2 W2 Fs2 G2 p2 hp hv hr h => ?_
  exact ⟨a, us, rfl, SqL.of hv, h _ W2 Fs2 G2 p2 (wk_rev hp hv hr)⟩
theorem enumD_at : ∀ {xs : List D} {k i : Nat} {d : D}, (enumD k xs)[i]? = some d → ∃ e, xs[i]? = some e ∧ d = .tup [.int ((k + i : Nat) : Int), e]
  | [], k, i, d, h => by simp [enumD] at h
  | x :: xs, k, 0, d, h => by simp only [enumD, List.getElem?_cons_zero, Option.some.injEq] at h; exact ⟨x, rfl, by rw [← h]; rfl⟩
  | x :: xs, k, i + 1, d, h => by
    simp only [enumD, List.getElem?_cons_succ] at h
    obtain ⟨e, e1, e2⟩ := enumD_at h
    exact ⟨e, by simpa using e1, by rw [e2, show k + 1 + i = k + (i + 1) by omega]⟩
theorem enumD_len : ∀ {xs : List D} {k : Nat}, (enumD k xs).length = xs.length
  | [], k => rfl
  | x :: xs, k => by simp [enumD, enumD_len]
theorem wk_enum {W0 : Wd} {K : PySem.W.Frag} {a : Addr} {xs : List D} {us : List V} (hp : W0.P a) (hv : W0.H a = some (.lst us)) (h : RepL W0 xs us []) : Wk (Ite K a) W0 (enumD 0 xs) where
  go := fun i W' s hi => by
    rw [enumD_len] at hi
    have hl := h.len
    exact ⟨us, us[i]'(by omega), SqL.of (s.keep a _ (.inr hp) hv), by simp [show i < us.length by omega]⟩
  yld := fun i W' x H' d s sp e y => by
    obtain ⟨T, x1, rfl, hT, rfl, hx⟩ := y
    obtain ⟨d1, e1, rfl⟩ := enumD_at e
    obtain ⟨v1, g1, r1⟩ := rl_at h e1
    have z1 := hx us (SqL.of (s.keep a _ (.inr hp) hv))
    rw [g1] at z1; cases z1
    refine ⟨W'.putP T (.tup [.int (i : Nat), x1]), rfl, .newP _ sp hT, Rep.mkTup hT ?_⟩
    simp only [RepL]
    refine ⟨.int (i : Nat), [x1], [], [], rfl, ?_, ⟨x1, [], [], [], rfl, Rep.frame _ r1 s, ⟨rfl, rfl⟩, .nil⟩, .nil⟩
    rw [Nat.zero_add]
    exact .mkInt _
  stop := fun W' s => by
    rw [enumD_len]
    exact ⟨us, SqL.of (s.keep a _ (.inr hp) hv), by rw [h.len]; exact Nat.le_refl _⟩
theorem s_enum {T Ta : List (Option Nat)} {f : M Opd} {e : Expr} {p pos tpos : Pos} {elts : List Expr} {kk : Nat} (hT : ∀ i, i ∉ T → i ∉ Ta) (hl : ∀ S l S', f S = .ok (.loc l) S' → rootT l.root ∈ T) (hg : Gl X "enumerate") (hm : X.mg "enumerate" = none) (he : PE X e (tE st Wx Ta f)) (hs : ∀ r, starEach (e :: r) X.env = (false, eval e X.env) :: starEach r X.env) :
    PI X (.Tuple elts kk tpos) (.Call (.Name "enumerate" p) [e] [] pos) (tI st Wx T fun S => (xSeqL f S).bind fun xs S1 => .ok (enumD 0 xs) S1) := by
  refine PI.pt fun σ H R h => ⟨_, pi_enum hg hm (pa_cons he pa_nil (hs _)) (hs _), ?_⟩
  obtain ⟨W, S, Fs, G, rfl, hc, sr, sp, h⟩ := h
  refine seqL_out hc sr sp hT hl h.bind fun a xs us S2 W2 Fs2 G2 p2 hp hv hr h => ?_
  exact ⟨a, us, rfl, SqL.of hv, h _ W2 Fs2 G2 p2 (wk_enum hp hv hr)⟩
/-! ### comprehensions -/
theorem s_comp {T Ts Tc Te : List (Option Nat)} {g : Tg} {src : M (List D)} {cond : M Bool} {felt : M Opd} {elt iter : Expr} {ifs : List Expr} {scope : Scope} {own : List (Str × Nat)} {pos : Pos} (nd : g.slots.Nodup) (hT : ∀ i, i ∉ T → i ∉ Ts ++ (Tc ++ Te)) (hsl : ∀ i ∈ g.slots, some i ∈ T) (hv : ∀ S i S', felt S = .ok (.loc ⟨.slot i, []⟩) S' → some i ∈ T)
    (hc : X.calm = true) (hN : X.N.Nodup) (hi : PI X tg iter (tI st Wx Ts src)) (ok : BlkOk X.N X.env.scope scope own) (how : own.map (·.2) = g.slots)
    (hg : ∀ (s : Shared) (H : Hp) (C : Addr) (cl : List (Str × Addr)) (fp : List Addr), PG (X.blk s H scope (compEnvC scope cl C X.env) fp) tg (tgR X.K g))
    (ht : ∀ (s : Shared) (H : Hp) (C : Addr) (cl : List (Str × Addr)) (fp : List Addr), PTs (X.blk s H scope (compEnvC scope cl C X.env) fp) ifs (tT st WF Tc cond))
    (he : ∀ (s : Shared) (H : Hp) (C : Addr) (cl : List (Str × Addr)) (fp : List Addr), PE (X.blk s H scope (compEnvC scope cl C X.env) fp) elt (tE st WF Te felt)) (hs : ∀ x, foldedSetIterable iter X.env x = pure x) :
    PE X (.ListComp elt [⟨tg, iter, ifs, 0⟩] scope pos) (tE st Wx T (xComp g src cond felt)) := by
  refine PE.pt fun σ H Q h => ⟨_, pe_lc hc hN hi ok hg ht he hs, ?_⟩
  rw [how]
  exact rd_comp nd hT hsl hv h
theorem st_setLc {T Ts Tc Te : List (Option Nat)} {g : Tg} {src : M (List D)} {cond : M Bool} {felt : M Opd} {elt iter : Expr} {ifs : List Expr} {scope : Scope} {own : List (Str × Nat)} {pos spos py : Pos} {i : Nat} {y : Str} (nd : g.slots.Nodup) (hT : ∀ i, i ∉ T → i ∉ Ts ++ (Tc ++ Te)) (hsl : ∀ i ∈ g.slots, some i ∈ T) (hv : ∀ S i S', felt S = .ok (.loc ⟨.slot i, []⟩) S' → some i ∈ T)
    (hc : X.calm = true) (hN : X.N.Nodup) (hy : X.N[i]? = some y) (hyl : X.env.scope.names.lookup y = some .local)
    (hsw : swapsWith (.ListComp elt [⟨tg, iter, ifs, 0⟩] scope pos) (some (.Name y py)) spos.line X.env = pure true) (hi : PI X tg iter (tI st Wx Ts src)) (ok : BlkOk X.N X.env.scope scope own) (how : own.map (·.2) = g.slots)
    (hg : ∀ (s : Shared) (H : Hp) (C : Addr) (cl : List (Str × Addr)) (fp : List Addr), PG (X.blk s H scope (compEnvC scope cl C X.env) fp) tg (tgR X.K g))
    (ht : ∀ (s : Shared) (H : Hp) (C : Addr) (cl : List (Str × Addr)) (fp : List Addr), PTs (X.blk s H scope (compEnvC scope cl C X.env) fp) ifs (tT st WF Tc cond))
    (he : ∀ (s : Shared) (H : Hp) (C : Addr) (cl : List (Str × Addr)) (fp : List Addr), PE (X.blk s H scope (compEnvC scope cl C X.env) fp) elt (tE st WF Te felt)) (hs : ∀ x, foldedSetIterable iter X.env x = pure x) :
    PS X (.Assign [.Name y py] (.ListComp elt [⟨tg, iter, ifs, 0⟩] scope pos) spos) (tS st Wx np fun S => (xVal (xComp g src cond felt) S).bind fun d S1 => match setVar np i d S1 with | some S2 => .ok .next S2 | none => .fail) := by
  refine PS.pt fun D σ H h => ⟨_, ps_setLc hc hN hy hyl hsw hi ok hg ht he hs, ?_⟩
  rw [how]
  obtain ⟨W, S, Fs, G, rfl, hc', sr, sp, h⟩ := h
  refine rd_comp nd hT hsl hv (xVal_bind (T := T) hc' sr sp (fun S i S' h => by
    unfold xComp at h
    cases e1 : src S with
    | fail => rw [e1] at h; cases h
    | exc z S1 => rw [e1] at h; cases h
    | ok xs S1 =>
      rw [e1] at h
      simp only [R.bind_ok] at h
      cases e2 : compLoop g cond (xVal felt) xs [] S1 with
      | fail => rw [e2] at h; cases h
      | exc z S1 => rw [e2] at h; cases h
      | ok acc S1 => rw [e2] at h; cases h) h (fun d v S2 W1 Fs2 G1 F2 p h => ?_) (fun i hi => hi))
  cases e3 : setVar np i d S2 with
  | none => rw [e3] at h; exact h.elim
  | some S3 => rw [e3] at h; exact h W1 _ _ G1 (p.setVar e3)
/-! ### a, b = x, y -/
theorem SPost.setVar {σ0 : St} {W W1 : Wd} {S1 S2 : DS} {Fs Fs1 : List (List Addr)} {G G1 F A1 A2 : List Addr} {d : D} {v : V} {i : Nat} (p : SPost np W σ0 Fs G W1 σ1 S1 Fs1 G1 F) (pm : F.Perm (A1 ++ A2)) (r : Rep W1 d v A1) (h : RB.setVar np i d S1 = some S2) : SPost np W σ0 Fs G W1 (σ1.set i (some v)) S2 (Fs1.set i A1) G1 A2 := by
  unfold RB.setVar at h
  split at h
  · rename_i hc
    simp only [Bool.and_eq_true, decide_eq_true_eq] at hc
    cases h
    obtain ⟨A, hA⟩ : ∃ A, Fs1[i]? = some A := ⟨_, List.getElem?_eq_getElem (by rw [p.sr.sl.len.2]; exact hc.2)⟩
    have pmf : ((Fs1.flatten ++ G1) ++ F).Perm ((((Fs1.set i A1).flatten ++ G1) ++ A2) ++ A) := List.perm_iff_count.mpr fun a => by
      have c1 := List.perm_iff_count.mp (flat_set (F' := A1) hA) a
      have c2 := List.perm_iff_count.mp pm a
      simp only [List.count_append] at c1 c2 ⊢
      omega
    exact ⟨⟨p.sr.sl.set i r hc.2, p.sr.rg⟩, (p.sep.pm pmf).left, p.evo.sub fun a ha => pmf.mem_iff.mpr (List.mem_append_left _ ha), p.par.trans (.set hc.1)⟩
  · cases h
theorem st_par {Ta Tb V0 : List (Option Nat)} {fa fb : M Opd} {i j : Nat} {x y : Str} {a b : Expr} {px py pt pos : Pos} {kt k2 pt2} (hsl : ∀ S os S', evL [(fa, Ta), (fb, Tb)] S = .ok os S' → ∀ i ∈ slotsOf os, some i ∈ V0) (hc : X.calm = true) (hN : X.N.Nodup) (hi : X.N[i]? = some x) (hj : X.N[j]? = some y) (hij : i ≠ j)
    (hx : X.env.scope.names.lookup x = some .local) (hy : X.env.scope.names.lookup y = some .local) (ha : PA X [a, b] (tA st Wx [(fa, Ta), (fb, Tb)]))
    (hw : swappedStores [.Tuple [.Name x px, .Name y py] kt pt] (.Tuple [a, b] k2 pt2) X.env = pure (some [x, y]))
    (hs : swapsWithSole [.Tuple [.Name x px, .Name y py] kt pt] (.Tuple [a, b] k2 pt2) pos.line X.env = pure false) :
    PS X (.Assign [.Tuple [.Name x px, .Name y py] kt pt] (.Tuple [a, b] k2 pt2) pos) (tS st Wx np (xPar np i j fa Ta fb Tb)) := by
  refine PS.pt fun D σ H h => ⟨_, ps_par hc hN hi hj hij hx hy ha hw hs, ?_⟩
  obtain ⟨W, S, Fs, G, rfl, hst, sr, sp, h⟩ := h
  unfold xPar at h
  refine tA_of hst sr sp (h.bind.out.mono fun os S1 e1 _ vs W1 Fs1 G1 F p => ?_)
  have h2 := h.bind
  rw [e1] at h2
  have h3 : OutS Wx np W σ Fs G ((valL os S1).bind fun ds S2 => match ds with
    | [x, y] => if i == j then .fail else match (setVar np i x S2).bind (setVar np j y) with | some S3 => .ok .next S3 | none => .fail
    | _ => .fail) (KEnd D np W σ Fs G) := h2
  obtain ⟨ds, S2, e2, _⟩ := valL_out h3.bind.out
  rw [e2] at h3
  simp only [R.bind_ok] at h3
  have p' : Posts (tch ([(fa, Ta), (fb, Tb)].flatMap (·.2) ++ V0)) W σ S Fs G os S1 vs W1 Fs1 G1 F := p.mono fun i hi => tch_false.mpr fun z => (tch_false.mp hi) (List.mem_append_left _ z)
  obtain ⟨Fs2, F2, p2⟩ := p'.vals e2 (fun k hk => by
    have := hsl _ _ _ e1 k hk
    simp only [tch, List.elem_eq_mem, decide_eq_true_eq]
    exact List.mem_append_right _ this)
  split at h3
  rotate_left
  · exact h3.elim
  rename_i d1 d2
  obtain ⟨v, w, rfl⟩ : ∃ v w, vs = [v, w] := by
    have := p2.len
    match vs, this with
    | [v, w], _ => exact ⟨v, w, rfl⟩
  refine ⟨v, w, rfl, ?_⟩
  split at h3
  · exact h3.elim
  split at h3
  rotate_left
  · exact h3.elim
  rename_i S3 e3
  obtain ⟨S4, e4, e5⟩ := Option.bind_eq_some_iff.mp e3
  have hop := own_ops p2.op
  simp only [RepL] at hop
  obtain ⟨v', ws, A1, A2, e, r1, ⟨w', ws', B1, B2, e', r2, ⟨_, rfl⟩, pm'⟩, pm⟩ := hop
  cases e; cases e'
  have q1 := (p2.sp (np := np)).setVar pm r1 e4
  have q2 := q1.setVar pm' r2 e5
  exact h3 W1 _ _ G1 q2
/-! ### sep.join(reversed(a list)) -/
open Builtin in
theorem vals_rev {us : List Value} {acc : Array Value} (h : ItemsOf (fun i v => us.toArray[us.toArray.size - 1 - i]? = some v) acc us.toArray.size) : acc.toList = us.reverse := by
  apply List.ext_getElem?
  intro i
  by_cases hi : i < us.length
  · have h1 : i < acc.size := by rw [h.1]; simpa using hi
    have h2 := h.2 i acc[i] (Array.getElem?_eq_getElem h1)
    rw [List.getElem?_reverse hi]
    simp only [List.size_toArray, List.getElem?_toArray] at h2
    rw [h2]
    simp [h1]
  · have h1 : ¬ i < acc.size := by rw [h.1]; simpa using hi
    rw [List.getElem?_eq_none (by simpa using h1), List.getElem?_eq_none (by simpa using hi)]
theorem strs_app : ∀ {us vs : List Value} {ys zs : List Str}, PyProof.Rows.StrsAre us ys → PyProof.Rows.StrsAre vs zs → PyProof.Rows.StrsAre (us ++ vs) (ys ++ zs)
  | _, _, _, _, .nil, h => h
  | _, _, _, _, .cons y k t, h => .cons y k (strs_app t h)
theorem strs_rev : ∀ {us : List Value} {ys : List Str}, PyProof.Rows.StrsAre us ys → PyProof.Rows.StrsAre us.reverse ys.reverse
  | _, _, .nil => .nil
  | _, _, .cons y k t => by
    rw [List.reverse_cons, List.reverse_cons]
    exact strs_app (strs_rev t) (.cons y k .nil)
theorem sum_rev {l : List Nat} : l.reverse.sum = l.sum := by
  induction l with
  | nil => rfl
  | cons x xs ih => simp [List.sum_append, ih]; omega
open Builtin in
theorem call_joinRev {pins : List (Addr × Obj)} {s : Shared} {σ : St} {H : Hp} {a : Str} {p : Addr} {ys : List Str} {Q : VK} {t : Tok} (hc : X.calm = true) (I : Inv X pins σ H s) (hp : SqL X.K H p (ys.map V.str)) (hz : (ys.map (·.length)).sum + ys.length * a.length ≤ 16777216) (h : Q (.str (Txt.join a ys.reverse)) H) :
    wpAny (model X.prog X.w) X.A (call (.type "reversed") [.ref p]) (fun it s2 => wpAny (model X.prog X.w) X.A (call (.builtin "str.join") [.str a t, it]) (EP X pins σ Q) X.xe s2) X.xe s := by
  obtain ⟨its, rv, pl, hz'⟩ := I.list hp
  refine PySem.call_reversed_list pl.isList ?_
  have hit : (s.heap.push (revObj p ((its.toArray.size : Int) - 1))).IsRevIter s.heap.objs.size p ((its.toArray.size : Int) - 1) := ⟨_, Heap.get?_push_size _ rfl, rfl, rfl⟩
  have hne : p ≠ s.heap.objs.size := by
    obtain ⟨o, ho, _⟩ := pl.isList
    exact Nat.ne_of_lt (Heap.lt_size ho)
  have hl : (s.heap.push (revObj p ((its.toArray.size : Int) - 1))).IsList p its.toArray := by
    obtain ⟨o, ho, r⟩ := pl.isList
    exact ⟨o, Heap.get?_push_of_some _ ho, r⟩
  refine wpAny_call (codeAny_call_builtin F.slot_str_join.plain F.entry_str_join (F.slot_str_join.check _ _ _ _ _ _ _ _ (typeIs_str _ _ _) (F.args_str_join_2 _ _) ?_))
  rw [join_tree_other]
  refine wpAny_bind (wpAny_typeOf hit.typeIs ?_)
  show wpAny _ X.A.in1 ((pyIter (.ref s.heap.objs.size)).tryCatch _ >>= fun it => collect it >>= fun items => joinTail a items) _ _ _
  refine wpAny_bind (wpAny_tryCatch (wpAny_pyIter_revIter hit ?_))
  refine wpAny_bind (RT.collect_rev (I.ok.hd hc) hit hl hne (by have e1 := rv.length; simp only [List.size_toArray]; rw [← e1]; exact hz') fun h' tk acc hk hacc => ?_)
  have e := vals_rev hacc
  rw [e]
  have hs : PyProof.Rows.StrsAre its.reverse ys.reverse := strs_rev (strs_of_vals rv)
  obtain ⟨l, hv, ht⟩ := PyProof.Rows.strsAre_values hs
  rw [hv]
  have hok : JoinOk a ys.reverse = true := PyProof.Rows.joinOk_of (by rw [List.map_reverse, sum_rev, List.length_reverse]; exact hz)
  rw [← ht] at hok h
  unfold JoinOk at hok
  rw [Bool.not_eq_true'] at hok
  have g : Gives (joinTail a (strValues l)) (joinMade a l) := by
    have g0 := gives_joinTail a l hok
    cases l with
    | nil => exact g0
    | cons p r => cases r with
      | nil => exact g0
      | cons q r' => exact g0
  refine g X.prog X.w X.A (wants _ _) _ (post_join l ⟨joinFit_length hok, fun t' k => ?_⟩)
  exact ⟨.str _, H, I.kept (h' := h') (t' := k) (fun b o e => hk b o (Nat.ne_of_lt (Heap.lt_size e)) (Heap.get?_push_of_some _ e)), ⟨t', rfl⟩, h⟩
theorem strs_rep {W : Wd} : ∀ {xs : List D} {ys : List Str} {vs : List V} {F : List Addr}, RepL W xs vs F → strsD xs = some ys → vs = ys.map V.str
  | [], ys, vs, F, h, e => by simp only [strsD, Option.some.injEq] at e; simp only [RepL] at h; rw [← e, h.1]; rfl
  | x :: xs, ys, vs, F, h, e => by
    cases x with
    | str z =>
      simp only [strsD, Option.map_eq_some_iff] at e
      obtain ⟨r, e, rfl⟩ := e
      simp only [RepL] at h
      obtain ⟨v, ws, A1, A2, rfl, hr, h, _⟩ := h
      rw [strs_rep h e, rep_str ⟨_, hr⟩]
      rfl
    | _ => simp [strsD] at e
theorem s_jrev {T Ta Te : List (Option Nat)} {fa fe : M Opd} {o e : Expr} {apos cpos p rpos : Pos} (xc : XC st X) (hT : ∀ i, i ∉ T → i ∉ Ta ++ Te) (ho : PE X o (tE st Wx Ta fa)) (he : PE X e (tE st Wx Te fe)) (hg : Gl X "reversed") (hm : X.mg "reversed" = none)
    (hs : ∀ r, starEach (e :: r) X.env = (false, eval e X.env) :: starEach r X.env) (hbase : attributeBase o "join" X.env (eval o X.env) = eval o X.env) (hline : (apos.endLine == cpos.line) = true) :
    PE X (.Call (.Attribute o "join" apos) [.Call (.Name "reversed" p) [e] [] rpos] [] cpos) (tE st Wx T (xRead [(xKind isStr fa, Ta), (fe, Te)] jrevF)) := by
  refine ⟨fun pins s σ H Q I h => ?_⟩
  have h1 := tE_kind (tA_2 (tE_read (by simpa using hT) h))
  refine wpAny_Call_method_late hbase rfl hline rfl (thn (ho.run pins s σ H _ I h1) fun v s1 ⟨x, H1, I1, r1, ⟨⟨W, d, hH, _, hr, hk⟩, q1⟩⟩ => ?_)
  have ty : tyV X.K "str" x H1 := hH ▸ kind_str hr hk
  obtain ⟨h1, h2⟩ := tyV_is I1 r1 ty
  refine ⟨"str", "str.join", F.plainAttrs_str, F.slot_str_join, F.type_str_join, h1, h2, ?_⟩
  refine Calls.callWith_builtin rfl (Calls.evalArgs_plain ?_)
  refine Calls.spliced_cons ?_
  refine PyProof.Rows.Call_ (ld_blt I1 hg hm PyProof.Rows.boot_reversed (PyProof.Rows.callWith_type1 (PyProof.Rows.args_cons (thn (he.run pins s1 σ H1 _ I1 q1) fun u s2 ⟨y, H2, I2, r2, q2⟩ => PyProof.Rows.args_nil ?_) (hs _)) (hs _) rfl))
  obtain ⟨W2, ds, d2, hH2, hst2, sp2, hp, hj, q2⟩ := q2
  cases hp with
  | cons h1 hp => cases hp with
    | cons h2 hp => cases hp with
      | nil =>
        rename_i dx dy
        cases dx with
        | str a =>
          cases dy with
          | lst oo xs =>
            simp only [jrevF, Option.bind_eq_some_iff] at hj
            obtain ⟨ys, e1, e2⟩ := hj
            split at e2
            · rename_i hz
              simp only [Option.some.injEq] at e2
              obtain ⟨p, vs, F, rfl, rl, r3⟩ := rep_lst h2
              have o1 := rep_ok h1
              have hx := rep_str h1
              subst hx
              obtain ⟨t1, rfl⟩ := r1
              have hu : u = .ref p := r2
              subst hu
              have o2 : ∀ z ∈ ys, okS z := by
                have e3 := strsD_some e1
                subst e3
                exact repL_oks r3
              have ev := strs_rep r3 e1
              subst ev
              subst hH2
              have := call_joinRev (X := X) (t := t1) (Q := Q) xc.calm I2 (SqL.of rl) hz (by
                subst e2
                exact q2 (.str _) W2 [] (Grow.refl sp2) (.mkStr (okS_join o1 fun z hz => o2 z (List.mem_reverse.mp hz))))
              exact thn this fun it s3 z => PyProof.Rows.args_nil z
            · cases e2
          | _ => simp [jrevF] at hj
        | _ => simp [jrevF] at hj
end
end RB
end

section
set_option Elab.async false
set_option maxRecDepth 100000
set_option linter.unusedVariables false
namespace RB
open PySem L2

/-! ### where a place comes from -/
def LocIn (e : List (Option Nat)) (l : Loc) : Prop := rootT l.root = none ∨ rootT l.root ∈ e
theorem mkO_loc {d : D} {l : Loc} {T : List (Option Nat)} (h : mkO d = .loc l) : LocIn T l := by
  unfold mkO at h
  split at h
  · cases h; exact .inl rfl
  · cases h
theorem R.bind_eq_ok {α β : Type} {r : R α} {k : α → DS → R β} {b : β} {S : DS} (h : r.bind k = .ok b S) : ∃ a S1, r = .ok a S1 ∧ k a S1 = .ok b S := by
  cases r with
  | ok a S1 => exact ⟨a, S1, rfl, h⟩
  | exc x S1 => cases h
  | fail => cases h
theorem partO_loc {S : DS} {oa : Opd} {s : Step} {l : Loc} {T : List (Option Nat)} (h : partO S oa s = some (.loc l)) (ha : ∀ l', oa = .loc l' → LocIn T l') : LocIn T l := by
  unfold partO at h
  split at h
  · simp only [Option.map_eq_some_iff] at h
    obtain ⟨d, _, h⟩ := h
    exact mkO_loc h
  · rename_i l'
    split at h
    · cases h; exact .inl rfl
    · split at h
      · cases h
      · cases h; exact ha l' rfl
    · cases h
theorem evL2 {f g : M Opd} {Tf Tg : List (Option Nat)} {S S' : DS} {os : List Opd} (h : evL [(f, Tf), (g, Tg)] S = .ok os S') : ∃ a b S1, os = [a, b] ∧ f S = .ok a S1 ∧ g S1 = .ok b S' := by
  simp only [evL] at h
  obtain ⟨a, S1, e1, h⟩ := R.bind_eq_ok h
  split at h
  · obtain ⟨os', S2, e2, h⟩ := R.bind_eq_ok h
    obtain ⟨b, S3, e3, e2⟩ := R.bind_eq_ok e2
    split at e2
    · simp only [R.bind_ok] at e2
      cases e2; cases h
      exact ⟨a, b, S1, rfl, e1, e3⟩
    · cases e2
  · cases h
theorem xRead_noloc {ms : List (M Opd × List (Option Nat))} {f : List D → Option D} {S S' : DS} {l : Loc} : xRead ms f S ≠ .ok (.loc l) S' := fun h => by
  obtain ⟨_, _, _, h⟩ := xRead_own h
  cases h
theorem ev_loc (t : Tab) : ∀ (e : E) (S : DS) (l : Loc) (S' : DS), ev t e S = .ok (.loc l) S' → LocIn e.rootT l
  | .non, S, l, S', h => by simp [ev] at h
  | .bl b, S, l, S', h => by simp [ev] at h
  | .int b, S, l, S', h => by simp [ev] at h
  | .str b, S, l, S', h => by simp [ev] at h
  | .glob _ _, S, l, S', h => by simp only [ev] at h; cases h
  | .dct0, S, l, S', h => by simp [ev] at h
  | .var i, S, l, S', h => by
    simp only [ev, xVar] at h
    split at h
    · rename_i d _
      rcases varO_cases i d with ⟨r, _, e⟩ | ⟨_, e⟩ | ⟨_, e⟩
      · rw [e] at h; cases h; exact .inl rfl
      · rw [e] at h; cases h
      · rw [e] at h; cases h; exact .inr (by simp [E.rootT, rootT])
    · cases h
  | .bin .., S, l, S', h => (xRead_noloc (by simpa only [ev] using h)).elim
  | .neg .., S, l, S', h => (xRead_noloc (by simpa only [ev] using h)).elim
  | .cmp .., S, l, S', h => (xRead_noloc (by simpa only [ev] using h)).elim
  | .isN .., S, l, S', h => (xRead_noloc (by simpa only [ev] using h)).elim
  | .notN .., S, l, S', h => (xRead_noloc (by simpa only [ev] using h)).elim
  | .slice .., S, l, S', h => (xRead_noloc (by simpa only [ev] using h)).elim
  | .isi .., S, l, S', h => (xRead_noloc (by simpa only [ev] using h)).elim
  | .bi .., S, l, S', h => (xRead_noloc (by simpa only [ev] using h)).elim
  | .bm .., S, l, S', h => (xRead_noloc (by simpa only [ev] using h)).elim
  | .jrev .., S, l, S', h => (xRead_noloc (by simpa only [ev] using h)).elim
  | .notE a, S, l, S', h => by
    simp only [ev, xNot] at h
    obtain ⟨b, S1, _, h⟩ := R.bind_eq_ok h
    cases h
  | .andE a b, S, l, S', h => by
    simp only [ev, xAnd] at h
    obtain ⟨o, S1, _, h⟩ := R.bind_eq_ok h
    split at h
    · exact ev_loc t b _ _ _ h
    · cases h
    · cases h
  | .orE a b, S, l, S', h => by
    simp only [ev, xOr] at h
    obtain ⟨o, S1, _, h⟩ := R.bind_eq_ok h
    split at h
    · cases h
    · exact ev_loc t b _ _ _ h
    · cases h
  | .chain o1 o2 a b c, S, l, S', h => by
    simp only [ev] at h
    obtain ⟨c, h⟩ := xChain_bl _ _ _ h
    cases h
  | .ife c a b, S, l, S', h => by
    simp only [ev, xIfe] at h
    obtain ⟨o, S1, _, h⟩ := R.bind_eq_ok h
    split at h <;>
    · obtain ⟨d, S2, _, h⟩ := R.bind_eq_ok h
      injection h with h _
      exact mkO_loc h
  | .lst es, S, l, S', h => by
    simp only [ev, xLst] at h
    obtain ⟨o, S1, _, h⟩ := R.bind_eq_ok h
    split at h
    · obtain ⟨d, S2, _, h⟩ := R.bind_eq_ok h
      cases h
    · cases h
  | .tup es, S, l, S', h => by
    simp only [ev, xTup] at h
    obtain ⟨o, S1, _, h⟩ := R.bind_eq_ok h
    split at h
    · obtain ⟨d, S2, _, h⟩ := R.bind_eq_ok h
      cases h
    · cases h
  | .sub a i, S, l, S', h => by
    simp only [ev, xSub] at h
    obtain ⟨os, S1, e1, h⟩ := R.bind_eq_ok h
    obtain ⟨oa, ob, S2, rfl, e2, e3⟩ := evL2 e1
    simp only at h
    split at h
    · split at h <;> cases h
    · split at h
      · split at h <;> cases h
      · cases h
    · split at h
      · rename_i o ho
        cases h
        obtain ⟨s, _, ho⟩ := Option.bind_eq_some_iff.mp ho
        exact partO_loc ho fun l' e => by subst e; exact ev_loc t a _ _ _ e2
      · cases h
    · cases h
  | .attr a f, S, l, S', h => by
    simp only [ev, xAttr] at h
    obtain ⟨oa, S1, e1, h⟩ := R.bind_eq_ok h
    split at h
    · split at h
      · split at h
        · rename_i o ho
          cases h
          exact partO_loc ho fun l' e => by subst e; exact ev_loc t a _ _ _ e1
        · cases h
      · cases h
    · cases h
  | .dct es, S, l, S', h => by
    simp only [ev, xDct] at h
    obtain ⟨o, S1, _, h⟩ := R.bind_eq_ok h
    obtain ⟨d, S2, _, h⟩ := R.bind_eq_ok h
    split at h
    · split at h <;> cases h
    · cases h
  | .keep a, S, l, S', h => by
    simp only [ev, xKeep] at h
    obtain ⟨o, S1, _, h⟩ := R.bind_eq_ok h
    split at h
    · cases h
    · obtain ⟨d, S2, _, h⟩ := R.bind_eq_ok h
      cases h
    · cases h
  | .sortK f a, S, l, S', h => by
    simp only [ev, xSortK] at h
    obtain ⟨o, S1, _, h⟩ := R.bind_eq_ok h
    split at h
    · obtain ⟨d, S2, _, h⟩ := R.bind_eq_ok h
      split at h <;> cases h
    · cases h
  | .mm b a es, S, l, S', h => by
    simp only [ev, xMm] at h
    obtain ⟨os, S1, e1, h⟩ := R.bind_eq_ok h
    split at h
    · obtain ⟨ds, S2, _, h⟩ := R.bind_eq_ok h
      split at h
      · split at h
        · cases h
        · cases h
      · cases h
    · cases h
  | .call f es, S, l, S', h => by
    simp only [ev, xCall] at h
    obtain ⟨os, S1, e1, h⟩ := R.bind_eq_ok h
    obtain ⟨r, S2, _, h⟩ := R.bind_eq_ok h
    injection h with h _
    exact mkO_loc h
  | .mk c es, S, l, S', h => by
    simp only [ev, xMk] at h
    split at h
    · obtain ⟨os, S1, e1, h⟩ := R.bind_eq_ok h
      obtain ⟨r, S2, _, h⟩ := R.bind_eq_ok h
      split at h
      · cases h
      · cases h
    · cases h
  | .meth a m es, S, l, S', h => by
    simp only [ev, xMeth] at h
    obtain ⟨os, S1, e1, h⟩ := R.bind_eq_ok h
    split at h
    · split at h
      · split at h
        · obtain ⟨os2, S2, _, h⟩ := R.bind_eq_ok h
          obtain ⟨r, S3, _, h⟩ := R.bind_eq_ok h
          injection h with h _
          exact mkO_loc h
        · cases h
      · cases h
    · cases h
  | .comp g s c e, S, l, S', h => by
    unfold ev xComp at h
    obtain ⟨os, S1, e1, h⟩ := R.bind_eq_ok h
    obtain ⟨r, S2, _, h⟩ := R.bind_eq_ok h
    cases h
theorem ev_slot {t : Tab} {e : E} {S : DS} {i : Nat} {p : List Step} {S' : DS} (h : ev t e S = .ok (.loc ⟨.slot i, p⟩) S') : some i ∈ e.rootT := by
  rcases ev_loc t e S _ S' h with z | z
  · cases z
  · exact z
theorem evP_slots {t : Tab} : ∀ {es : List E} {S S' : DS} {os : List Opd}, evL (evP t es) S = .ok os S' → (∀ i ∈ slotsOf os, some i ∈ es.flatMap E.rootT) ∧ os.length = es.length
  | [], S, S', os, h => by simp only [evP, evL] at h; cases h; exact ⟨by simp [slotsOf], rfl⟩
  | e :: es, S, S', os, h => by
    simp only [evP, evL] at h
    obtain ⟨o, S1, e1, h⟩ := R.bind_eq_ok h
    split at h
    · obtain ⟨os', S2, e2, h⟩ := R.bind_eq_ok h
      cases h
      obtain ⟨i1, i2⟩ := evP_slots e2
      refine ⟨fun i hi => ?_, by simp [i2]⟩
      rw [List.flatMap_cons]
      match o, e1, hi with
      | .own d, _, hi => exact List.mem_append_right _ (i1 i hi)
      | .loc ⟨.reg r, p⟩, _, hi => exact List.mem_append_right _ (i1 i hi)
      | .loc ⟨.slot j, p⟩, e1, hi =>
        simp only [slotsOf, List.mem_cons] at hi
        rcases hi with rfl | hi
        · exact List.mem_append_left _ (ev_slot e1)
        · exact List.mem_append_right _ (i1 i hi)
    · cases h
theorem evP_len {t : Tab} : ∀ {es : List E}, (evP t es).length = es.length
  | [] => by simp [evP]
  | e :: es => by simp [evP, evP_len]
theorem evP_touch {t : Tab} : ∀ {es : List E}, (evP t es).flatMap (·.2) = E.touchL es
  | [] => by simp [evP, E.touchL]
  | e :: es => by simp [evP, E.touchL, evP_touch]
end RB
end

section
set_option Elab.async false
set_option maxRecDepth 100000
set_option linter.unusedVariables false
namespace RB
open PySem L2

/-! ### own classes -/
theorem lookup_lookP {α : Type} (f : Str) : ∀ fs : List (Str × α), fs.lookup f = lookP fs f
  | [] => rfl
  | (x, e) :: r => by
    rw [List.lookup_cons]
    by_cases h : f = x
    · subst h; simp [lookP]
    · have h1 : (f == x) = false := by simpa using h
      rw [h1]
      simp only [lookP, if_neg (fun z => h (Eq.symm z))]
      exact lookup_lookP f r
theorem putF_putP (f : Str) (y : V) : ∀ fs : List (Str × V), putF f y fs = putP fs f y
  | [] => rfl
  | (x, e) :: r => by
    simp only [putF, putP]
    split
    · rfl
    · rw [putF_putP f y r]
def tysI : List String := ["int", "str", "bool", "list", "tuple", "dict"]
def tysD : List String := ["NoneType", "bool", "int", "str", "list", "tuple", "dict"]
/-- what is known of the classes -/
structure ClsOk (ca : Nat → Addr) (K : PySem.W.Frag) (ct : CT) : Prop where
  cls : ∀ c, ct.has c = true → Cls K (ca c)
  fld : ∀ c f, ct.fld c f = true → NoAttr K (ca c) f
  ty : ∀ c, ct.has c = true → PySem.W.findIn K (.ref (ca c)) "__class__" = some (some (.builtin "object.__class__")) ∧ PySem.W.specialIn K (.builtin "object.__class__") "__get__" = some (some (.builtin "getset_descriptor.__get__")) ∧ PySem.W.takesIn K (.builtin "object.__class__") = some true ∧ PySem.W.mroIn K (ca c) (.type "object") = some true
  sub : ∀ c k b, ct.sub c k = some b → PySem.W.kitOne K (.ref (ca c)) (.ref (ca k)) = some b
  bty : ∀ c, ct.has c = true → ∀ T ∈ tysI, PySem.W.kitOne K (.ref (ca c)) (.type T) = some false
  tyc : ∀ c, ct.has c = true → ∀ T ∈ tysD, PySem.W.kitOne K (.type T) (.ref (ca c)) = some false
theorem CT.fld_has {ct : CT} {c : Nat} {f : Str} (h : ct.fld c f = true) : ct.has c = true := by
  unfold CT.fld at h
  split at h
  · rename_i k e
    simp only [CT.has, decide_eq_true_eq]
    exact (List.getElem?_eq_some_iff.mp e).1
  · cases h
theorem CT.meth_has {ct : CT} {c : Nat} {m : Str} {g : Nat} (h : ct.meth c m = some g) : ct.has c = true := by
  unfold CT.meth at h
  split at h
  · rename_i k e
    simp only [CT.has, decide_eq_true_eq]
    exact (List.getElem?_eq_some_iff.mp e).1
  · cases h
section
variable {st : Sta} {Wx : WX} {X : Cx} {σ : St} {H : Hp} {np : Nat} {ct : CT}
/-- o.f -/
theorem s_attr {T Ta : List (Option Nat)} {fa : M Opd} {f : Str} {e : Expr} {pos : Pos} (ok : ClsOk st.ca X.K ct) (hT : ∀ i, i ∉ T → i ∉ Ta) (he : PE X e (tE st Wx Ta fa)) (hb : attributeBase e f X.env (eval e X.env) = eval e X.env) :
    PE X (.Attribute e f pos) (tE st Wx T (xAttr ct fa f)) := by
  refine PE.pt fun σ H Q h => ⟨_, pe_fld he hb, ?_⟩
  obtain ⟨W, S, Fs, G, rfl, hc, sr, sp, h⟩ := of_tE h
  refine tE_of hc sr sp (h.bind.mono fun oa S1 _ h v W1 Fs1 G1 F p pl => ?_)
  have hst : W1.st = st := p.evo.ca.trans hc
  cases e : dat S1 oa with
  | none => rw [e] at h; exact h.elim
  | some d =>
    rw [e] at h
    cases d with
    | ins o c fs =>
      simp only at h
      by_cases hf : ct.fld c f = true
      · rw [if_pos hf] at h
        cases e2 : partO S1 oa (.fld f) with
        | none => rw [e2] at h; exact h.elim
        | some o2 =>
          rw [e2] at h
          obtain ⟨w, F', vv, p2, pl2⟩ := p.part e e2
          simp only [ValAt] at vv
          obtain ⟨a, C, dx, fs', w', rfl, ha, hl, rfl⟩ := vv
          obtain ⟨a', dx', vs', F'', ea, ha', _⟩ := rep_ins (p.dat e)
          cases ea
          rw [ha] at ha'
          cases ha'
          rw [hst] at ha
          exact ⟨a, _, dx, fs', w', rfl, ha, ok.cls c (CT.fld_has hf), ok.fld c f hf, by rw [lookup_lookP]; exact hl, h w' W1 Fs1 G1 F' (p2.mono fun i hi => tch_false.mpr (hT i (tch_false.mp hi))) pl2⟩
      · rw [if_neg hf] at h; exact h.elim
    | _ => exact h.elim
theorem RepF.len {W : Wd} : ∀ {ds : List (Str × D)} {vs : List (Str × V)} {F : List Addr}, RepF W ds vs F → vs.length = ds.length
  | [], vs, F, h => by simp only [RepF] at h; rw [h.1]; rfl
  | (k, x) :: ds, vs, F, h => by
    simp only [RepF] at h
    obtain ⟨v, ws, F1, F2, rfl, h1, h2, pm⟩ := h
    simp [RepF.len h2]
theorem RepF.setAt {W : Wd} {ds : List (Str × D)} {vs : List (Str × V)} {B F : List Addr} {k : Str} {d : D} {v : V} (h : RepF W ds vs B) (hd : Rep W d v F) : ∃ C J, (C ++ J).Perm (B ++ F) ∧ RepF W (putP ds k d) (putP vs k v) C := by
  cases q : lookP ds k with
  | none => exact ⟨F ++ B, [], by simpa using List.perm_append_comm, RepF.snoc hd h q⟩
  | some d0 =>
    obtain ⟨v0, F1, F2, _, _, pm, kk⟩ := RepF.at h q
    refine ⟨F ++ F2, F1, List.perm_iff_count.mpr fun b => ?_, kk W d v F (Stay.refl _ _) hd⟩
    have c := List.perm_iff_count.mp pm b
    simp only [List.count_append] at c ⊢
    omega
theorem rep_iown {W : Wd} {c : Nat} {fs : List (Str × D)} {x : V} {F1 : List Addr} (h : Rep W (.ins true c fs) x F1) : ∃ a dx us, x = .ref a ∧ W.H a = some (.ins (W.st.ca c) dx us) ∧ us.length = fs.length ∧ a ∈ F1 := by
  simp only [Rep] at h
  obtain ⟨a, dx, us, B, rfl, r, hr, pm⟩ := h
  exact ⟨a, dx, us, rfl, r, hr.len, pm.mem_iff.mpr List.mem_cons_self⟩
theorem rep_ichange {W : Wd} {c : Nat} {xs ys : List (Str × D)} {a dx : Addr} {us ws : List (Str × V)} {F1 F : List Addr} (h : Rep W (.ins true c xs) (.ref a) F1) (hu : W.H a = some (.ins (W.st.ca c) dx us)) (nd : (F1 ++ F).Nodup) (np : ∀ b ∈ F1, ¬ W.P b)
    (hr : ∀ B, RepF W xs us B → (B ++ F).Nodup → ∃ C J, (C ++ J).Perm (B ++ F) ∧ RepF W ys ws C) : ∃ C J, (C ++ J).Perm (F1 ++ F) ∧ Rep (W.put a (.ins (W.st.ca c) dx ws)) (.ins true c ys) (.ref a) C := by
  simp only [Rep] at h
  obtain ⟨a', dx', us', B, e, r, hB, pm⟩ := h
  cases e
  rw [hu] at r; cases r
  have nd2 : ((a :: B) ++ F).Nodup := (pm.append_right F).nodup_iff.mp nd
  rw [List.cons_append] at nd2
  obtain ⟨naB, ndB⟩ := List.nodup_cons.mp nd2
  obtain ⟨C, J, pmC, rC⟩ := hr B hB ndB
  refine ⟨a :: C, J, ?_, ?_⟩
  · rw [List.cons_append]
    exact (pmC.cons a).trans (by rw [← List.cons_append]; exact (pm.append_right F).symm)
  · simp only [Rep]
    exact ⟨a, dx, ws, C, rfl, upd_same, RepF.frame _ rC (stay_put (fun z => naB (pmC.mem_iff.mp (List.mem_append_left _ z))) (np a (pm.mem_iff.mpr List.mem_cons_self))), .refl _⟩
/-- o.f = e -/
theorem st_attr {U V0 To : List (Option Nat)} {f fo : M Opd} {fl : Str} {e o : Expr} {pos pos' : Pos} (ok : ClsOk st.ca X.K ct) (hT : ∀ S i S', f S = .ok (.loc ⟨.slot i, []⟩) S' → some i ∈ V0) (he : PE X e (tE st Wx U f)) (ho : PE X o (tE st Wx To fo))
    (hsw : swapsWith e (some (.Attribute o fl pos')) pos.line X.env = pure false) :
    PS X (.Assign [.Attribute o fl pos'] e pos) (tS st Wx np fun S => (xVal f S).bind fun d S1 => (fo S1).bind fun oo S2 => asgAttr ct fl d oo S2) := by
  refine PS.pt fun D σ H h => ⟨_, ps_fld ho he hsw, ?_⟩
  obtain ⟨W, S, Fs, G, rfl, hc, sr, sp, h⟩ := h
  refine xVal_bind (T := U ++ V0) hc sr sp (fun S i S' h => List.mem_append_right _ (hT S i S' h)) h (fun d v S1 W1 Fs1 G1 F1 p h => ?_) (fun i hi z => hi (List.mem_append_left _ z))
  refine tE_of (p.evo.ca.trans hc) p.sr p.sep.left ((h.shift (p.sp (np := np))).bind.out.mono fun oo S2 eo _ x W2 Fs2 G2 F2 q pl => ?_)
  have hst : W2.st = st := q.evo.ca.trans (p.evo.ca.trans hc)
  have h2 := h.bind
  rw [eo] at h2
  have h3 : OutS Wx np W σ Fs G (asgAttr ct fl d oo S2) (KEnd D np W σ Fs G) := h2
  unfold asgAttr at h3
  match oo, eo, h3, q with
  | .own _, _, h3, _ => exact h3.elim
  | .loc l, eo, h3, q =>
    simp only at h3
    cases hl : look S2 l with
    | none => rw [hl] at h3; exact h3.elim
    | some dl =>
      rw [hl] at h3
      match dl, hl, h3 with
      | .ins true c fs, hl, h3 =>
        simp only at h3
        by_cases hf : (ct.fld c fl && decide (fs.length < 1000)) = true
        · rw [if_pos hf] at h3
          simp only [Bool.and_eq_true, decide_eq_true_eq] at hf
          cases hs3 : setLoc S2 l (.ins true c (putP fs fl d)) with
          | none => rw [hs3] at h3; exact h3.elim
          | some S3 =>
            rw [hs3] at h3
            have pq := (p.mono (T' := fun _ => true) (by intro i hi; cases hi)).snoc (T2 := fun _ => true) (fun o1 ho1 => by
              have e1 : o1 = .own d := by simpa using ho1
              subst e1; trivial) (q.mono (T' := fun _ => true) (by intro i hi; cases hi))
            have hop := pq.op
            simp only [List.cons_append, List.nil_append, OpsRep] at hop
            obtain ⟨v', ws, A1, A2, ee, hr, ⟨x', ws2, ee2, hlv, hrest⟩, pm⟩ := hop
            cases ee
            cases ee2
            obtain ⟨FF, hF⟩ := q.sr.read hl hlv
            obtain ⟨a, dx, us, rfl, hu, hlen, _⟩ := rep_iown hF
            have hu' := hu
            rw [hst] at hu'
            refine ⟨a, _, dx, us, rfl, hu', ok.cls c (CT.fld_has hf.1), ok.fld c fl hf.1, by rw [hlen]; exact hf.2, ?_⟩
            have sepA : Sep W2 (((Fs2.flatten ++ G2) ++ A1) ++ A2) := by
              have := pq.sep.pm (pm.append_left _)
              rw [← List.append_assoc] at this
              exact this
            have p2 : Posts (fun _ => true) W σ S Fs G (.loc l :: [d].map .own) S2 (.ref a :: [v]) W2 Fs2 G2 A1 :=
              ⟨q.sr, ⟨.ref a, [v], rfl, hlv, ⟨v, [], A1, [], rfl, hr, ⟨rfl, rfl⟩, by simp⟩⟩, sepA.left, pq.evo.sub fun b hb => by
                rcases List.mem_append.mp hb with hb | hb
                · exact List.mem_append_left _ hb
                · exact List.mem_append_right _ (pm.mem_iff.mpr (List.mem_append_left _ hb)), ⟨fun i hi => (by cases hi), fun hi => (by cases hi)⟩⟩
            obtain ⟨Fs3, G3, p3⟩ := p2.change (a := a) (o' := .ins (W2.st.ca c) dx (putP us fl v)) hl rfl hs3 fun F0 h1 h2 nd np' => by
              obtain ⟨a', dx', us', ea, hu', _, hm⟩ := rep_iown h1
              cases ea
              refine ⟨hm, rep_ichange h1 hu nd np' fun B hB ndB => ?_⟩
              simp only [RepL] at h2
              obtain ⟨v1, ws1, B1, B2, e1, r1, ⟨_, rfl⟩, pm1⟩ := h2
              cases e1
              have r2 : Rep W2 d v A1 := r1.pm (by simpa using pm1.symm)
              exact hB.setAt r2
            rw [putF_putP, ← hst]
            exact h3 _ σ Fs3 G3 p3.sp
        · rw [if_neg hf] at h3; exact h3.elim
      | .ins false _ _, _, h3 => exact h3.elim
      | .non, _, h3 => exact h3.elim
      | .bl _, _, h3 => exact h3.elim
      | .int _, _, h3 => exact h3.elim
      | .str _, _, h3 => exact h3.elim
      | .tup _, _, h3 => exact h3.elim
      | .lst _ _, _, h3 => exact h3.elim
      | .dct _ _, _, h3 => exact h3.elim
      | .link _, _, h3 => exact h3.elim
      | .scr _, _, h3 => exact h3.elim
/-- isinstance(x, C) of an own class -/
theorem isc_of {W : Wd} {d : D} {x : V} {k : Nat} {b : Bool} (ok : ClsOk W.st.ca X.K ct) (h : tyD ct (.cls k) d = some b) (hx : RepB W d x) : ∃ u, TyX X.K W.H x u ∧ PySem.W.kitOne X.K u (.ref (W.st.ca k)) = some b := by
  simp only [tyD] at h
  split at h
  · rename_i hk
    have m : ∀ T ∈ tysD, PySem.W.kitOne X.K (.type T) (.ref (W.st.ca k)) = some false := ok.tyc k hk
    cases d with
    | non => simp only [Option.some.injEq] at h; subst h; rw [rep_non hx]; exact ⟨_, .base .non, m _ (by decide)⟩
    | bl c => simp only [Option.some.injEq] at h; subst h; rw [rep_bl hx]; exact ⟨_, .base (.bl c), m _ (by decide)⟩
    | int c => simp only [Option.some.injEq] at h; subst h; rw [rep_int hx]; exact ⟨_, .base (.int c), m _ (by decide)⟩
    | str c => simp only [Option.some.injEq] at h; subst h; rw [rep_str hx]; exact ⟨_, .base (.str c), m _ (by decide)⟩
    | lst o c => simp only [Option.some.injEq] at h; subst h; obtain ⟨a, vs, F, rfl, r, _⟩ := rep_lst hx; exact ⟨_, .base (.lst r), m _ (by decide)⟩
    | tup c => simp only [Option.some.injEq] at h; subst h; obtain ⟨a, vs, rfl, r, _⟩ := rep_tup hx; exact ⟨_, .base (.tup r), m _ (by decide)⟩
    | dct o c => simp only [Option.some.injEq] at h; subst h; obtain ⟨a, vs, F, rfl, r, _⟩ := rep_dct hx; exact ⟨_, .base (.dK r), m _ (by decide)⟩
    | ins o c fs =>
      obtain ⟨a, dx, vs, F, rfl, r, _⟩ := rep_ins hx
      have h : ct.sub c k = some b := h
      have hc : ct.has c = true := by
        unfold CT.sub at h
        cases e : ct[c]? with
        | none => rw [e] at h; cases h
        | some z =>
          simp only [CT.has, decide_eq_true_eq]
          exact (List.getElem?_eq_some_iff.mp e).1
      obtain ⟨t1, t2, t3, t4⟩ := ok.ty c hc
      exact ⟨_, .base (.ins r (ok.cls c hc) t1 t2 t3 t4), ok.sub c k b h⟩
    | _ => cases h
  · cases h
theorem isb_of {W : Wd} {x : V} {c : Nat} {o : Bool} {fs : List (Str × D)} {T : String} (ok : ClsOk W.st.ca X.K ct) (hT : T ∈ tysI) (hx : RepB W (.ins o c fs) x) (hc : ct.has c = true) : ∃ u, TyX X.K W.H x u ∧ PySem.W.kitOne X.K u (.type T) = some false := by
  obtain ⟨a, dx, vs, F, rfl, r, _⟩ := rep_ins hx
  obtain ⟨t1, t2, t3, t4⟩ := ok.ty c hc
  exact ⟨_, .base (.ins r (ok.cls c hc) t1 t2 t3 t4), ok.bty c hc T hT⟩
theorem s_isiC {T Ta : List (Option Nat)} {fa : M Opd} {a : Expr} {p q pos : Pos} {k : Nat} {tn : Str} (ok : ClsOk st.ca X.K ct) (hT : ∀ i, i ∉ T → i ∉ Ta) (ha : PE X a (tE st Wx Ta fa)) (h1 : Gl X "isinstance") (h2 : X.mg "isinstance" = none)
    (hn : Gl X tn) (hm : X.mg tn = some (.ref (st.ca k))) (hdb : (tn == ("__debug__" : Str)) = false) (hs : ∀ r, starEach (a :: r) X.env = (false, eval a X.env) :: starEach r X.env) :
    PE X (.Call (.Name "isinstance" p) [a, .Name tn q] [] pos) (tE st Wx T (xRead [(fa, Ta)] fun ds => match ds with | [x] => (tyD ct (.cls k) x).map .bl | _ => none)) := by
  refine PE.pt fun σ H Q h => ⟨_, pe_callB call_isi h1 h2 PyProof.Rows.boot_isinstance (pa_cons ha (pa_cons (pe_glob (v := .ref (st.ca k)) hn hm rfl hdb) pa_nil rfl) (hs _)) (by decide) (by decide) (hs _) rfl, ?_⟩
  refine tE_mono (tA_1 (tE_read (by simpa using hT) h)) fun v H1 q => ?_
  obtain ⟨W, ds, d, rfl, hc, sp, hp, hf, q⟩ := q
  split at hf
  · obtain ⟨x', e, hx⟩ := pair1 hp
    cases e
    simp only [Option.map_eq_some_iff] at hf
    obtain ⟨c, hf, rfl⟩ := hf
    obtain ⟨u, z1, z2⟩ := isc_of (X := X) (by rw [hc]; exact ok) hf hx
    rw [hc] at z2
    exact ⟨v, .ref (st.ca k), u, _, c, rfl, .own _, z1, z2, q _ W [] (.refl sp) (.mkBl _)⟩
  · cases hf
end
end RB
end

section
set_option Elab.async false
set_option maxRecDepth 100000
set_option linter.unusedVariables false
namespace RB
open PySem L2
section
variable {st : Sta} {Wx : WX} {X : Cx} {σ : St} {H : Hp} {np : Nat} {ct : CT}
theorem RepS.skip {W : Wd} : ∀ {ds : List (Option D)} {σ τ : St} {Fs : List (List Addr)}, RepS W ds (σ ++ τ) Fs → RepS W (ds.drop σ.length) τ (Fs.drop σ.length)
  | ds, [], τ, Fs, h => by simpa using h
  | [], o :: σ, τ, Fs, h => by simp only [RepS] at h; simp at h
  | none :: ds, o :: σ, τ, Fs, h => by
    simp only [List.cons_append, RepS] at h
    obtain ⟨o', σ', Fs', e, rfl, h⟩ := h
    cases e
    simpa using RepS.skip h
  | some d :: ds, o :: σ, τ, Fs, h => by
    simp only [List.cons_append, RepS] at h
    obtain ⟨v, σ', F, Fs', e, rfl, r, h⟩ := h
    cases e
    simpa using RepS.skip h
/-- behind the arguments: the promise, with some more ahead of them -/
theorem call_okP {T : List (Option Nat)} {t : Tab} {f n : Nat} {W W1 : Wd} {S S1 : DS} {Fs Fs1 FP : List (List Addr)} {G G1 : List Addr} {os : List Opd} {vs dvs pvs : List V} {pre : List D} {F : List Addr} {Q : VK} (hc : W1.st = st)
    (sr : SR W1 σ S1 Fs1 G1) (op : OpsRep W1 σ os vs F) (rp0 : RepS W1 (pre.map some) (pvs.map some) FP) (hsep : Sep W1 ((Fs1.flatten ++ G1) ++ (F ++ FP.flatten))) (hevo : Evo W (Fs.flatten ++ G) W1 ((Fs1.flatten ++ G1) ++ (F ++ FP.flatten))) (hpres : Pres (tch T) W S Fs G W1 S1 Fs1 G1)
    (hn : none ∈ T) (hs : ∀ i ∈ slotsOf os, some i ∈ T) (har : ∀ ds rg, t.call f ds rg ≠ .fail → ds.length = n) (hd : Paired (fun d v => scalV d = some v) (t.dflt f (pre.length + os.length)) dvs)
    (h : Out Wx W σ Fs G (xCallO t f os pre S1) fun r S' => ∀ v W' Fs' G' F' FP', RepS W' r.2 (pvs.map some) FP' → SR W' σ S' Fs' G' → Rep W' r.1 v F' → Sep W' ((Fs'.flatten ++ G') ++ (F' ++ FP'.flatten)) → Evo W (Fs.flatten ++ G) W' ((Fs'.flatten ++ G') ++ (F' ++ FP'.flatten)) → Pres (tch T) W S Fs G W' S' Fs' G' → Q v W'.H) :
    spD st t f n (pvs ++ (vs ++ dvs)) W1.H Q (WE Wx σ) := by
  have lp : pvs.length = pre.length := by have := rp0.len.1; simpa using this
  unfold xCallO at h
  split at h
  · rename_i nd
    split at h
    · rename_i ds hm
      have hrl : S1.rg.length = W1.RV.length := sr.rg.len.symm
      obtain ⟨FC, Rest, rc, pm, l1, l2, jr, k⟩ := args_split sr.sl hrl sr.rg op nd hm
      have sepA : Sep W1 (((FP.flatten ++ FC.flatten) ++ G1) ++ Rest) := hsep.pm (List.perm_iff_count.mpr fun a => by
        have c1 := List.perm_iff_count.mp pm a
        simp only [List.count_append] at c1 ⊢
        omega)
      rw [l1] at h
      have flat0 : (((FP ++ FC) ++ List.replicate (t.dflt f (pre.length + os.length)).length []).flatten : List Addr) = FP.flatten ++ FC.flatten := by rw [List.flatten_append, flat_rep, List.append_nil, List.flatten_append]
      refine ⟨W1, pre ++ ds ++ t.dflt f (pre.length + os.length), S1.rg, (FP ++ FC) ++ List.replicate (t.dflt f (pre.length + os.length)).length [], G1, rfl, hc, ?_, sr.rg, ?_, ?_, ?_⟩
      · rw [List.map_append, List.map_append, List.map_append, List.map_append, ← List.append_assoc]
        exact (rp0.app rc).app (reps_scal hd)
      · rw [flat0]; exact sepA.left
      · have e1 : t.call f (pre ++ ds ++ t.dflt f (pre.length + os.length)) S1.rg ≠ .fail := fun z => by rw [z] at h; exact h
        have := har _ _ e1
        rw [List.length_append, List.length_append, l1] at this
        rw [List.length_append, List.length_append, ← paired_len hd, l2, lp]; omega
      · rw [flat0]
        -- how the caller goes on, whatever the callee leaves beside
        have go : ∀ {ps : List (Option D)} {rg : List D} {W' : Wd} {FsC : List (List Addr)} {G' F' : List Addr} {S' : DS}, RepS W' ps ((pvs ++ (vs ++ dvs)).map some) FsC → RepL W' rg W'.RV G' → Sep W' ((FsC.flatten ++ G') ++ F') → Evo W1 ((FP.flatten ++ FC.flatten) ++ G1) W' ((FsC.flatten ++ G') ++ F') →
            backs { S1 with rg := rg } os ((ps.drop pre.length).take os.length) = some S' → ∃ Fs' FP', RepS W' (ps.take pre.length) (pvs.map some) FP' ∧ SR W' σ S' Fs' G' ∧ Sep W' ((Fs'.flatten ++ G') ++ (F' ++ FP'.flatten)) ∧ Evo W (Fs.flatten ++ G) W' ((Fs'.flatten ++ G') ++ (F' ++ FP'.flatten)) ∧ Pres (tch T) W S Fs G W' S' Fs' G' := fun {ps rg W' FsC G' F' S'} rp rrg sp ev hb => by
          have stay : Stay W1 W' Rest := ev.stay (fun a ha z => sepA.dj z ha) sepA.left.np
          rw [List.map_append] at rp
          have rp1 := rp.take
          have rp3 := rp.skip
          rw [List.length_map, lp] at rp1 rp3
          rw [List.map_append] at rp3
          have rp2 := rp3.take
          rw [List.length_map, l2] at rp2
          obtain ⟨Fs', J, s1, s2, s3, s4⟩ := k W' ((ps.drop pre.length).take os.length) ((FsC.drop pre.length).take os.length) S' rg stay rp2 hb
          have sepB : Sep W' (((FsC.flatten ++ G') ++ F') ++ Rest) := Sep.beside ev sepA sp
          have flT : FsC.flatten = (FsC.take pre.length).flatten ++ (((FsC.drop pre.length).take os.length).flatten ++ ((FsC.drop pre.length).drop os.length).flatten) := by rw [← List.flatten_append, List.take_append_drop, ← List.flatten_append, List.take_append_drop]
          have pmB : (((FsC.flatten ++ G') ++ F') ++ Rest).Perm (((Fs'.flatten ++ G') ++ (F' ++ (FsC.take pre.length).flatten)) ++ (J ++ ((FsC.drop pre.length).drop os.length).flatten)) := List.perm_iff_count.mpr fun a => by
            have c1 := List.perm_iff_count.mp s2 a
            rw [flT]
            simp only [List.count_append] at c1 ⊢
            omega
          have evB : Evo W1 (((FP.flatten ++ FC.flatten) ++ G1) ++ Rest) W' (((FsC.flatten ++ G') ++ F') ++ Rest) := ev.beside Rest
          refine ⟨Fs', FsC.take pre.length, rp1, ⟨s1, by rw [s3]; exact rrg⟩, (sepB.pm pmB).left, ?_, ⟨fun j hj => ?_, fun hr => ?_⟩⟩
          · have e1 : Evo W1 ((Fs1.flatten ++ G1) ++ (F ++ FP.flatten)) W' (((FsC.flatten ++ G') ++ F') ++ Rest) := evB.pmL (List.perm_iff_count.mpr fun a => by
              have c1 := List.perm_iff_count.mp pm a
              simp only [List.count_append] at c1 ⊢
              omega)
            exact (hevo.trans e1).sub fun a ha => pmB.mem_iff.mpr (List.mem_append_left _ ha)
          · have hji : j ∉ slotsOf os := fun z => (tch_false.mp hj) (hs j z)
            obtain ⟨a1, a2, a3⟩ := hpres.sl j hj
            obtain ⟨b1, b2⟩ := s4 j hji
            refine ⟨b1.trans a1, b2.trans a2, fun A hA c hcA => ?_⟩
            rw [← a3 A hA c hcA]
            obtain ⟨u, hu⟩ := sr.sl.trk c (mem_flat (a2.trans hA) hcA)
            rw [hu]
            exact stay.keep c u (.inl (jr j hji A (a2.trans hA) c hcA)) hu
          · exact absurd hn (tch_false.mp hr)
        cases e : t.call f (pre ++ ds ++ t.dflt f (pre.length + os.length)) S1.rg with
        | fail => rw [e] at h; exact h
        | ret d ps rg =>
          rw [e] at h
          simp only at h ⊢
          intro v W' FsC G' F' rp rrg rd sp ev
          cases hb : backs { S1 with rg := rg } os ((ps.drop pre.length).take os.length) with
          | none => rw [hb] at h; exact h.elim
          | some S' =>
            rw [hb] at h
            obtain ⟨Fs', FP', s0, s1, s2, s3, s4⟩ := go rp rrg sp ev hb
            exact h v W' Fs' G' F' FP' s0 s1 rd s2 s3 s4
        | exc x ps rg =>
          rw [e] at h
          simp only at h ⊢
          intro c dd W' FsC G' F' rp rrg rx sp ev
          cases hb : backs { S1 with rg := rg } os ((ps.drop pre.length).take os.length) with
          | none => rw [hb] at h; exact h.elim
          | some S' =>
            rw [hb] at h
            obtain ⟨Fs', FP', s0, s1, s2, s3, s4⟩ := go rp rrg sp ev hb
            have s2' : Sep W' (((Fs'.flatten ++ G') ++ F') ++ FP'.flatten) := by rw [List.append_assoc]; exact s2
            exact h c dd W' Fs' G' F' s1 rx s2'.left (s3.sub fun a ha => by
              rcases List.mem_append.mp ha with ha | ha
              · exact List.mem_append_left _ ha
              · exact List.mem_append_right _ (List.mem_append_left _ ha))
    · exact h.elim
  · exact h.elim
/-- a new instance -/
theorem rep_inst {W : Wd} {c : Nat} {x dx : Addr} (hx : W.H x = none) (hdx : W.H dx = none) (ne : dx ≠ x) (F : List Addr) (s : Sep W F) :
    ∃ W' : Wd, W'.H = upd (upd W.H dx (.own x)) x (.ins (W.st.ca c) dx []) ∧ W'.st = W.st ∧ W'.RV = W.RV ∧ W'.P = W.P ∧ Rep W' (.ins true c []) (.ref x) [x] ∧ Evo W F W' (F ++ [x]) ∧ Sep W' (F ++ [x]) ∧ Stay W W' F := by
  refine ⟨{ W with H := upd (upd W.H dx (.own x)) x (.ins (W.st.ca c) dx []) }, rfl, rfl, rfl, rfl, ?_, ?_, ?_, ?_⟩
  · simp only [Rep]
    exact ⟨x, dx, [], [], rfl, upd_same, ⟨rfl, rfl⟩, .refl _⟩
  · refine ⟨fun a o h ha => ?_, fun _ h => h, fun a ha => ?_, fun a h => .inl h, ⟨[], by simp⟩, rfl⟩
    · have h1 : a ≠ x := fun z => by subst z; rw [hx] at h; cases h
      have h2 : a ≠ dx := fun z => by subst z; rw [hdx] at h; cases h
      show upd (upd W.H dx _) x _ a = _
      rw [upd_ne h1, upd_ne h2]; exact h
    · rcases List.mem_append.mp ha with ha | ha
      · exact .inl ha
      · cases List.mem_singleton.mp ha; exact .inr hx
  · have nF : x ∉ F := fun z => by obtain ⟨o, e⟩ := s.tr x z; rw [hx] at e; cases e
    have kp : ∀ a o, W.H a = some o → upd (upd W.H dx (.own x)) x (.ins (W.st.ca c) dx []) a = some o := fun a o h => by
      have h1 : a ≠ x := fun z => by subst z; rw [hx] at h; cases h
      have h2 : a ≠ dx := fun z => by subst z; rw [hdx] at h; cases h
      rw [upd_ne h1, upd_ne h2]; exact h
    refine ⟨List.nodup_append.mpr ⟨s.nd, by simp, fun a ha b hb z => ?_⟩, fun a ha hp => ?_, fun a hp => ?_, fun a ha => ?_⟩
    · cases List.mem_singleton.mp hb; subst z; exact nF ha
    · rcases List.mem_append.mp ha with ha | ha
      · exact s.np a ha hp
      · cases List.mem_singleton.mp ha
        obtain ⟨o, e⟩ := s.tk x hp
        rw [hx] at e; cases e
    · obtain ⟨o, e⟩ := s.tk a hp; exact ⟨o, kp a o e⟩
    · rcases List.mem_append.mp ha with ha | ha
      · obtain ⟨o, e⟩ := s.tr a ha; exact ⟨o, kp a o e⟩
      · cases List.mem_singleton.mp ha; exact ⟨_, upd_same⟩
  · refine ⟨fun a o _ h => ?_, fun _ h => h, ⟨[], by simp⟩, rfl⟩
    have h1 : a ≠ x := fun z => by subst z; rw [hx] at h; cases h
    have h2 : a ≠ dx := fun z => by subst z; rw [hdx] at h; cases h
    show upd (upd W.H dx _) x _ a = _
    rw [upd_ne h1, upd_ne h2]; exact h
end
end RB
end

section
set_option Elab.async false
set_option maxRecDepth 100000
set_option linter.unusedVariables false
namespace RB
open PySem PySem.Spec PyProof.Rows L2
section
variable {X : Cx} {CX : CXT} {k : Nat} {f C : Addr} {fd : FuncData} {ps : List Str} {sp : Sp} {dvs : List V} {ds : List Value} {E : L2.St → XK} {x m : Str} {p pos apos : Pos} {e o : Expr} {es : List Expr} {ta : TE} {t : TA}
/-! ### makers and methods, with the caller's slots -/
theorem run_makeSD {pins : List (Addr × Obj)} {σ : L2.St} {H : Hp} {s : Shared} {Q : VK} {us : List Value} {vs : List V} (M : Mk X.K C f) (F : FnOk X.prog X.w X.K X.mg X.base CX k f fd ps sp) (hr : Room (k + 1) X.A) (hb : Binds X.K fd ps ds) (hd : Vals dvs ds)
    (hx : PassesAt CX X σ (E σ)) (I : Inv X pins σ H s) (r : Vals vs us)
    (h : ∀ x dx, H x = none → H dx = none → dx ≠ x → sp (.ref x :: (vs ++ dvs)) (upd (upd H dx (.own x)) x (.ins C dx [])) (fun v H2 => v = .non ∧ Q (.ref x) H2) (E σ)) :
    wpAny (model X.prog X.w) X.A (call (.ref C) us) (EP X pins σ Q) X.xe s := by
  have hq := h (s.heap.objs.size + 1) s.heap.objs.size (I.hok.fresh (Nat.le_succ _)) (I.hok.fresh (Nat.le_refl _)) (Nat.ne_of_lt (Nat.lt_succ_self _))
  have I2 := Inv.made (C := C) I
  have r2 : Vals (V.ref (s.heap.objs.size + 1) :: (vs ++ dvs)) (Value.ref (s.heap.objs.size + 1) :: (us ++ ds)) := .cons rfl (r.append hd)
  have hl : (Value.ref (s.heap.objs.size + 1) :: us ++ ds).length = ps.length := by
    have e := r2.length
    rw [F.len _ _ _ _ hq] at e
    exact e.symm
  refine wpAny_call (make_map (f := f) I.kIn M.makes M.init (beq_iff_eq.mp M.fn) (codeAny_mono (F.run _ X.stack _ _ ⟨Value.ref (s.heap.objs.size + 1) :: us, []⟩ (Value.ref (s.heap.objs.size + 1) :: (us ++ ds)) _ _ (E σ) (hr.make C us [])
    (I2.env0.make C us []) (hb _ (Value.ref (s.heap.objs.size + 1) :: us) I2.kIn hl) r2 hq) fun r s' hq' => ?_))
  cases r with
  | error e => exact hx pins _ _ e s' I2 hq'
  | ok fl =>
    cases fl with
    | ret u =>
      obtain ⟨v, H', I3, rv, ev, q3⟩ := I2.after hq'
      subst ev
      exact ⟨rv, ⟨V.ref (s.heap.objs.size + 1), H', I3, rfl, q3⟩⟩
    | next => exact False.elim hq'
    | brk => exact False.elim hq'
    | cont => exact False.elim hq'
def tMakeSD (C : Addr) (sp : Sp) (dvs : List V) (E : L2.St → XK) (t : TA) : TE := fun σ H Q => t σ H fun vs H1 => ∀ x dx, H1 x = none → H1 dx = none → dx ≠ x →
  sp (.ref x :: (vs ++ dvs)) (upd (upd H1 dx (.own x)) x (.ins C dx [])) (fun v H2 => v = .non ∧ Q (.ref x) H2) (E σ)
theorem pe_makeSD (M : Mk X.K C f) (F : FnOk X.prog X.w X.K X.mg X.base CX k f fd ps sp) (hr : Room (k + 1) X.A) (hg : Gl X x) (hm : X.mg x = some (.ref C)) (hb : Binds X.K fd ps ds) (hd : Vals dvs ds) (hx : ∀ σ, PassesAt CX X σ (E σ))
    (ha : PA X (e :: es) t) (hdb : (x == ("__debug__" : Str)) = false) (he : starEach (e :: es) X.env = (false, eval e X.env) :: starEach es X.env) (hpl : (backTo pos (starEach es X.env)).any (·.1) = false) :
    PE X (.Call (.Name x p) (e :: es) [] pos) (tMakeSD C sp dvs E t) := by
  refine ⟨fun pins s σ H Q I h => ?_⟩
  refine wpAny_Call_Name_kw (ld_glob I hg hm ?_ hdb)
  refine PySem.W.callWith_K (h₀ := X.base) I.ok.mod.kin M.kp (thn (ha.run pos pins s σ H _ I h) fun us s1 ⟨vs, H1, I1, r, q⟩ => ⟨I1.kIn, ?_⟩) he hpl
  exact run_makeSD M F hr hb hd (hx σ) I1 r q
theorem pe_makeSD0 (M : Mk X.K C f) (F : FnOk X.prog X.w X.K X.mg X.base CX k f fd ps sp) (hr : Room (k + 1) X.A) (hg : Gl X x) (hm : X.mg x = some (.ref C)) (hb : Binds X.K fd ps ds) (hd : Vals dvs ds) (hx : ∀ σ, PassesAt CX X σ (E σ))
    (hdb : (x == ("__debug__" : Str)) = false) : PE X (.Call (.Name x p) [] [] pos) (tMakeSD C sp dvs E tNil) := by
  refine ⟨fun pins s σ H Q I h => ?_⟩
  refine wpAny_Call_Name_kw (ld_glob I hg hm ?_ hdb)
  exact PySem.W.callWith_K0 I.kIn M.kp (run_makeSD (us := []) M F hr hb hd (hx σ) I .nil h)
def tMethSD (C : Addr) (m : Str) (sp : Sp) (dvs : List V) (E : L2.St → XK) (ta : TE) (t : TA) : TE := fun σ H Q => ta σ H fun x H1 => ∃ a dx fs, x = .ref a ∧ H1 a = some (.ins C dx fs) ∧ fs.lookup m = none ∧
  t σ H1 fun vs H2 => sp (x :: (vs ++ dvs)) H2 Q (E σ)
theorem pe_methSD {pl : Sem Bool} (he : PE X o ta) (c : Cls X.K C) (hm : Meth X.K C m f) (F : FnOk X.prog X.w X.K X.mg X.base CX k f fd ps sp) (hr : Room k X.A) (hb : Binds X.K fd ps ds) (hd : Vals dvs ds) (hx : ∀ σ, PassesAt CX X σ (E σ)) (ha : PA X (e :: es) t)
    (hst : starEach (e :: es) X.env = (false, eval e X.env) :: starEach es X.env) (hpl : (backTo pos (starEach es X.env)).any (·.1) = false)
    (ht : eval (.Call (.Attribute o m apos) (e :: es) [] pos) X.env = (do
      let ov ← eval o X.env
      standAt apos.atName
      let (f, first) ← holding [ov] (getMethod ov m pl)
      callWith pos f first (backTo pos (starEach (e :: es) X.env)) (backToKw pos (keywordEach [] X.env)))) :
    PE X (.Call (.Attribute o m apos) (e :: es) [] pos) (tMethSD C m sp dvs E ta t) := by
  refine ⟨fun pins s σ H Q I h => ?_⟩
  refine PySem.W.methodCall_KW (pl := pl) (thn (he.run pins s σ H _ I h) fun u s1 ⟨x, H1, I1, rx, a, dx, fs, ex, ea, l, q⟩ => ?_) ht
  subst ex
  obtain rfl : u = Value.ref a := rx
  refine getmeth_ok I1 ea c hm l ?_
  refine PySem.W.callWith_K (first := [.ref a]) (h₀ := X.base) I.ok.mod.kin hm.kp (thn (ha.run pos pins s1 σ H1 _ I1 q) fun us s2 ⟨vs, H2, I2, r, q2⟩ => ⟨I2.kIn, ?_⟩) hst hpl
  exact run_fnSD (us := .ref a :: us) (vs := .ref a :: vs) F hr hb hd (hx σ) I2 (.cons rfl r) q2
theorem pe_methSD0 {pl : Sem Bool} (he : PE X o ta) (c : Cls X.K C) (hm : Meth X.K C m f) (F : FnOk X.prog X.w X.K X.mg X.base CX k f fd ps sp) (hr : Room k X.A) (hb : Binds X.K fd ps ds) (hd : Vals dvs ds) (hx : ∀ σ, PassesAt CX X σ (E σ))
    (ht : eval (.Call (.Attribute o m apos) [] [] pos) X.env = (do
      let ov ← eval o X.env
      standAt apos.atName
      let (f, first) ← holding [ov] (getMethod ov m pl)
      callWith pos f first (backTo pos (starEach [] X.env)) (backToKw pos (keywordEach [] X.env)))) :
    PE X (.Call (.Attribute o m apos) [] [] pos) (tMethSD C m sp dvs E ta tNil) := by
  refine ⟨fun pins s σ H Q I h => ?_⟩
  refine PySem.W.methodCall_KW (pl := pl) (thn (he.run pins s σ H _ I h) fun u s1 ⟨x, H1, I1, rx, a, dx, fs, ex, ea, l, q⟩ => ?_) ht
  subst ex
  obtain rfl : u = Value.ref a := rx
  refine getmeth_ok I1 ea c hm l ?_
  exact PySem.W.callWith_K0 (first := [.ref a]) I1.kIn hm.kp (run_fnSD (us := [.ref a]) (vs := [.ref a]) F hr hb hd (hx σ) I1 (.cons rfl .nil) q)
end
section
variable {st : Sta} {Wx : WX} {X : Cx} {σ : L2.St} {H : Hp} {np : Nat} {ct : CT}
/-- the same, given up where it stands -/
theorem s_keep {T Ta : List (Option Nat)} {fa : M Opd} {e : Expr} (hT : ∀ i, i ∉ T → i ∉ Ta) (hl : ∀ S l S', fa S = .ok (.loc l) S' → rootT l.root ∈ T) (he : PE X e (tE st Wx Ta fa)) : PE X e (tE st Wx T (xKeep fa)) := by
  refine PE.pt fun σ H Q h => ⟨_, he, ?_⟩
  obtain ⟨W, S, Fs, G, rfl, hc, sr, sp, h⟩ := of_tE h
  refine tE_of hc sr sp (h.bind.mono fun oa S1 e1 h v W1 Fs1 G1 F p pl => ?_)
  cases e : dat S1 oa with
  | none => rw [e] at h; exact h.elim
  | some d =>
    rw [e] at h
    have fin : Out Wx W σ Fs G ((giveUp oa S1).bind fun _ S2 => R.ok (Opd.own d.leak) S2) (fun o S' => ∀ v W' Fs' G' F, Posts (tch T) W σ S Fs G [o] S' [v] W' Fs' G' F → placed S' o → Q v W'.H) → Q v W1.H := fun h => by
      obtain ⟨S2, e5, h⟩ := giveUp_out h.bind
      obtain ⟨B, Fs2, G2, p2, r2⟩ := (p.mono (T' := tch T) fun i hi => tch_false.mpr (hT i (tch_false.mp hi))).give e e5 fun l hlo => by subst hlo; simpa [tch] using hl _ _ _ e1
      exact h v (W1.give B) Fs2 G2 [] (p2.const' r2) trivial
    cases d with
    | link r => exact h.elim
    | _ => exact fin h
theorem ValAt.mono {H H' : Hp} (hk : ∀ a o, H a = some o → H' a = some o) : ∀ (p : List Step) {v u : V}, ValAt H v p u → ValAt H' v p u
  | [], v, u, h => h
  | .fld f :: p, v, u, h => by
    simp only [ValAt] at h ⊢
    obtain ⟨a, C, dx, fs, w, e, h1, h2, h3⟩ := h
    exact ⟨a, C, dx, fs, w, e, hk _ _ h1, h2, ValAt.mono hk p h3⟩
  | .key k :: p, v, u, h => by
    simp only [ValAt] at h ⊢
    obtain ⟨a, kvs, w, e, h1, h2, h3⟩ := h
    exact ⟨a, kvs, w, e, h1.imp (hk _ _) fun ⟨o, z⟩ => ⟨o, hk _ _ z⟩, h2, ValAt.mono hk p h3⟩
  | .idx n :: p, v, u, h => by
    simp only [ValAt] at h ⊢
    obtain ⟨a, vs, w, e, h1, h2, h3⟩ := h
    exact ⟨a, vs, w, e, h1.imp (fun z => z.imp (hk _ _) fun ⟨o, z⟩ => ⟨o, hk _ _ z⟩) (fun z => z.imp (hk _ _) fun ⟨o, z⟩ => ⟨o, hk _ _ z⟩), h2, ValAt.mono hk p h3⟩
theorem OpsRep.grow {W W' : Wd} (hk : ∀ a o, W.H a = some o → W'.H a = some o) (hP : ∀ a, W.P a → W'.P a) (hR : W'.RV = W.RV) (hs : W'.st = W.st) : ∀ {os : List Opd} {vs : List V} {F : List Addr}, OpsRep W σ os vs F → OpsRep W' σ os vs F
  | [], vs, F, h => h
  | .own d :: os, vs, F, h => by
    simp only [OpsRep] at h ⊢
    obtain ⟨v, ws, F1, F2, e, h1, h2, pm⟩ := h
    exact ⟨v, ws, F1, F2, e, Rep.frame d h1 ⟨fun a o _ q => hk a o q, hP, ⟨[], by simp [hR]⟩, hs⟩, OpsRep.grow hk hP hR hs h2, pm⟩
  | .loc l :: os, vs, F, h => by
    simp only [OpsRep] at h ⊢
    obtain ⟨v, ws, e, ⟨u, h1, h2⟩, h3⟩ := h
    refine ⟨v, ws, e, ⟨u, ?_, ValAt.mono hk _ h2⟩, OpsRep.grow hk hP hR hs h3⟩
    cases hr : l.root with
    | slot i => rw [hr] at h1; exact h1
    | reg r => rw [hr] at h1; simp only [rootV] at h1 ⊢; rw [hR]; exact h1
/-- C(..) -/
theorem rd_mk {T : List (Option Nat)} {ms : List (M Opd × List (Option Nat))} {t : Tab} {c f n : Nat} {dvs : List V} {Q : VK} (hT : ∀ i, i ∉ T → i ∉ ms.flatMap (·.2)) (hn : none ∈ T) (hs : ∀ S os S', evL ms S = .ok os S' → (∀ i ∈ slotsOf os, some i ∈ T) ∧ os.length = ms.length)
    (har : ∀ ds rg, t.call f ds rg ≠ .fail → ds.length = n) (hd : Paired (fun d v => scalV d = some v) (t.dflt f (1 + ms.length)) dvs) (hi : t.ct.init c = some f) (h : tE st Wx T (xMk t c ms) σ H Q) : tMakeSD (st.ca c) (spD st t f n) dvs (WE Wx) (tA st Wx ms) σ H Q := by
  obtain ⟨W, S, Fs, G, rfl, hc, sr, sp, h⟩ := of_tE h
  unfold xMk at h
  rw [hi] at h
  refine tA_of hc sr sp (h.bind.mono fun os S1 e h vs W1 Fs1 G1 F p => ?_)
  intro x dx hx hdx ne
  obtain ⟨h1, h2⟩ := hs S os S1 e
  have hst : W1.st = st := p.evo.ca.trans hc
  obtain ⟨W2, eH, est, eRV, eP, rI, ev, se, sty⟩ := rep_inst (c := c) hx hdx ne ((Fs1.flatten ++ G1) ++ F) p.sep
  have hk : ∀ a o, W1.H a = some o → W2.H a = some o := fun a o q => by
    rw [eH]
    have z1 : a ≠ x := fun z => by subst z; rw [hx] at q; cases q
    have z2 : a ≠ dx := fun z => by subst z; rw [hdx] at q; cases q
    rw [upd_ne z1, upd_ne z2]; exact q
  have eh : upd (upd W1.H dx (.own x)) x (.ins (st.ca c) dx []) = W2.H := by rw [eH, hst]
  rw [eh]
  have p' := p.mono (T' := tch T) fun i hi => tch_false.mpr (hT i (tch_false.mp hi))
  have ef : ([[x]] : List (List Addr)).flatten = [x] := rfl
  refine call_okP (W := W) (S := S) (Fs := Fs) (G := G) (G1 := G1) (Fs1 := Fs1) (pre := [.ins true c []]) (pvs := [.ref x]) (FP := [[x]]) (F := F) (est.trans hst) ⟨p'.sr.sl.frame sty.left.left, ?_⟩ (p'.op.grow hk (fun a q => by rw [eP]; exact q) eRV est) ⟨_, _, [x], _, rfl, rfl, rI, ⟨rfl, rfl⟩⟩ ?_ ?_ ?_ hn h1 har (by rw [h2]; exact hd) ?_
  · rw [eRV]; exact RepL.frame _ p'.sr.rg sty.left.right
  · rw [ef, ← List.append_assoc]; exact se
  · rw [ef, ← List.append_assoc]
    refine p'.evo.trans ev
  · exact (p'.pres.trans (Pres.grow (T := fun _ => false) p'.sr (fun a o _ q => hk a o q) eRV)).mono fun i hi => by rw [hi]; rfl
  · refine h.bind.mono fun r S' _ h v W' Fs' G' F' FP' rp sr' rv se' ev' pr' => ?_
    obtain ⟨rd, rps⟩ := r
    match rd, rps, h, rv, rp with
    | .non, [some d], h, rv, rp =>
      simp only [Rep] at rv
      obtain ⟨rfl, rfl⟩ := rv
      refine ⟨rfl, ?_⟩
      simp only [List.map_cons, List.map_nil, RepS] at rp
      obtain ⟨v', σ', FD, Fs'', e1, rfl, rD, e2⟩ := rp
      cases e1
      obtain ⟨_, rfl⟩ := e2
      have ef2 : (([FD] : List (List Addr)).flatten) = FD := by simp
      rw [ef2, List.nil_append] at se' ev'
      have pp : Posts (tch T) W σ S Fs G [.own d] S' [.ref x] W' Fs' G' FD := ⟨sr', ⟨.ref x, [], FD, [], rfl, rD, ⟨rfl, rfl⟩, by simp⟩, se', ev', pr'⟩
      simp only at h
      by_cases hp : t.ct.perm c = true
      · rw [if_pos hp] at h
        obtain ⟨B, Fs2, G2, p2, r2⟩ := pp.give (d := d) rfl (S2 := S') rfl fun l hl => by cases hl
        exact h (.ref x) (W'.give B) Fs2 G2 [] (p2.const' r2) trivial
      · rw [if_neg hp] at h
        exact h (.ref x) W' Fs' G' FD pp trivial
    | .non, [], h, _, _ => exact h.elim
    | .non, [none], h, _, _ => exact h.elim
    | .non, some _ :: _ :: _, h, _, _ => exact h.elim
    | .non, none :: _ :: _, h, _, _ => exact h.elim
    | .bl _, _, h, _, _ => exact h.elim
    | .int _, _, h, _, _ => exact h.elim
    | .str _, _, h, _, _ => exact h.elim
    | .tup _, _, h, _, _ => exact h.elim
    | .lst _ _, _, h, _, _ => exact h.elim
    | .dct _ _, _, h, _, _ => exact h.elim
    | .ins _ _ _, _, h, _, _ => exact h.elim
    | .link _, _, h, _, _ => exact h.elim
    | .scr _, _, h, _, _ => exact h.elim
/-- what is needed of a class's maker, of its methods -/
def MkGood (X : Cx) (st : Sta) (t : Tab) (k c f : Nat) : Prop := ∃ a, Mk X.K (st.ca c) a ∧ FnGood X.prog X.w X.K X.mg X.base st t k f a
def MtGood (X : Cx) (st : Sta) (t : Tab) (k c : Nat) (m : Str) (f : Nat) : Prop := ∃ a, Meth X.K (st.ca c) m a ∧ FnGood X.prog X.w X.K X.mg X.base st t k f a
theorem s_mk {T : List (Option Nat)} {ms : List (M Opd × List (Option Nat))} {t : Tab} {k c f : Nat} {x : Str} {e : Expr} {es : List Expr} {p pos : Pos} (hi : t.ct.init c = some f) (MG : MkGood X st t k c f) (hr : Room (k + 1) X.A) (hg : Gl X x) (hm : X.mg x = some (.ref (st.ca c))) (tk : Takes X Wx)
    (ha : PA X (e :: es) (tA st Wx ms)) (hdb : (x == ("__debug__" : Str)) = false) (he : starEach (e :: es) X.env = (false, eval e X.env) :: starEach es X.env) (hpl : (backTo pos (starEach es X.env)).any (·.1) = false)
    (hT : ∀ i, i ∉ T → i ∉ ms.flatMap (·.2)) (hn : none ∈ T) (hs : ∀ S os S', evL ms S = .ok os S' → (∀ i ∈ slotsOf os, some i ∈ T) ∧ os.length = ms.length) :
    PE X (.Call (.Name x p) (e :: es) [] pos) (tE st Wx T (xMk t c ms)) := by
  obtain ⟨a, M, kp, fd, ps, n, F, har, hb⟩ := MG
  obtain ⟨dvs, dvals, hd, hv, hbd⟩ := hb (1 + ms.length)
  exact PE.pt fun σ H Q h => ⟨_, pe_makeSD M F hr hg hm hbd hv (fun σ => passAt tk σ) ha hdb he hpl, rd_mk hT hn hs har hd hi h⟩
theorem s_mk0 {T : List (Option Nat)} {t : Tab} {k c f : Nat} {x : Str} {p pos : Pos} (hi : t.ct.init c = some f) (MG : MkGood X st t k c f) (hr : Room (k + 1) X.A) (hg : Gl X x) (hm : X.mg x = some (.ref (st.ca c))) (tk : Takes X Wx) (hdb : (x == ("__debug__" : Str)) = false) (hn : none ∈ T) :
    PE X (.Call (.Name x p) [] [] pos) (tE st Wx T (xMk t c [])) := by
  obtain ⟨a, M, kp, fd, ps, n, F, har, hb⟩ := MG
  obtain ⟨dvs, dvals, hd, hv, hbd⟩ := hb 1
  refine PE.pt fun σ H Q h => ⟨_, pe_makeSD0 M F hr hg hm hbd hv (fun σ => passAt tk σ) hdb, ?_⟩
  exact tA_nil (rd_mk (dvs := dvs) (by simp) hn (fun S os S' e => by simp only [evL] at e; cases e; exact ⟨by simp [slotsOf], rfl⟩) har hd hi h)
/-- o.m(..) -/
theorem rd_meth {T Ta : List (Option Nat)} {fa : M Opd} {ms : List (M Opd × List (Option Nat))} {t : Tab} {m : Str} {k : Nat} {Q : VK} {P : TA → TE → Prop} (ok : ClsOk st.ca X.K t.ct) (hex : ∃ c f, t.ct.meth c m = some f) (MG : ∀ c f, t.ct.meth c m = some f → MtGood X st t k c m f) (hT : ∀ i, i ∉ T → i ∉ Ta ++ ms.flatMap (·.2)) (hn : none ∈ T) (hl : ∀ S l S', fa S = .ok (.loc l) S' → LocIn T l)
    (hs : ∀ S os S', evL ms S = .ok os S' → (∀ i ∈ slotsOf os, some i ∈ T) ∧ os.length = ms.length) (h : tE st Wx T (xMeth t fa m ms) σ H Q)
    (hP : ∀ c f a fd ps n dvs dvals, t.ct.meth c m = some f → Meth X.K (st.ca c) m a → FnOk X.prog X.w X.K X.mg X.base (L2.CX X.prog X.w) k a fd ps (spD st t f n) → Vals dvs dvals → Binds X.K fd ps dvals → P (tA st Wx ms) (tMethSD (st.ca c) m (spD st t f n) dvs (WE Wx) (tE st Wx Ta fa) (tA st Wx ms))) :
    ∃ te, P (tA st Wx ms) te ∧ te σ H Q := by
  obtain ⟨W, S, Fs, G, rfl, hc, sr, sp, h⟩ := of_tE h
  unfold xMeth at h
  have hcls : ∃ c f, t.ct.meth c m = some f ∧ ∀ oa S1, fa S = .ok oa S1 → ∃ o fs, dat S1 oa = some (.ins o c fs) ∧ lookP fs m = none ∧ okWait (ms.flatMap (·.2)) oa = true := by
    cases e1 : fa S with
    | fail => rw [e1] at h; exact h.elim
    | exc z S' => obtain ⟨c, f, e⟩ := hex; exact ⟨c, f, e, fun oa S1 q => by cases q⟩
    | ok oa S1 =>
      rw [e1] at h
      simp only [R.bind_ok] at h
      cases e2 : dat S1 oa with
      | none => rw [e2] at h; exact h.elim
      | some d =>
        rw [e2] at h
        cases d with
        | ins o c fs =>
          simp only at h
          cases e3 : lookP fs m with
          | some z => rw [e3] at h; exact h.elim
          | none =>
            cases e4 : t.ct.meth c m with
            | none => rw [e3, e4] at h; exact h.elim
            | some f =>
              rw [e3, e4] at h
              simp only at h
              by_cases hw : okWait (ms.flatMap (·.2)) oa = true
              · exact ⟨c, f, e4, fun oa' S1' q => by cases q; exact ⟨o, fs, e2, e3, hw⟩⟩
              · rw [if_neg hw] at h; exact h.elim
        | _ => exact h.elim
  obtain ⟨c, f, hcf, hcls⟩ := hcls
  obtain ⟨a, hM, kp, fd, ps, n, F0, har, hb⟩ := MG c f hcf
  obtain ⟨dvs, dvals, hd, hv, hbd⟩ := hb (1 + ms.length)
  refine ⟨_, hP c f a fd ps n dvs dvals hcf hM F0 hv hbd, tE_of hc sr sp (h.bind.mono fun oa S1 e1 h v W1 Fs1 G1 F1 p pl => ?_)⟩
  have hst : W1.st = st := p.evo.ca.trans hc
  obtain ⟨o, fs, e2, e3, hw⟩ := hcls oa S1 e1
  rw [e2] at h
  simp only at h
  rw [e3, hcf] at h
  simp only at h
  rw [if_pos hw] at h
  obtain ⟨a', dx, vs', F', rfl, ha, hF⟩ := rep_ins (p.dat e2)
  rw [hst] at ha
  refine ⟨a', dx, vs', rfl, ha, by rw [lookup_lookP]; exact RepF.no hF e3, ?_⟩
  refine tA_of hst p.sr p.sep.left ((h.bind.shift p.ev).mono fun os S2 eo h vs W2 Fs2 G2 F2 q => ?_)
  obtain ⟨s1, s2⟩ := hs _ _ _ eo
  have pq := (p.snoc (fun o1 ho1 => by
    have : o1 = oa := by simpa using ho1
    subst this
    exact okWait_of hw pl) q).mono (T' := tch T) fun i hi => by
      have := hT i (tch_false.mp hi)
      rw [← tch_false, tch_app] at this
      exact this
  refine call_ok (q.evo.ca.trans hst) pq hn (fun i hi => ?_) har ?_ (h.bind.mono fun r S' _ h v W' Fs' G' F' z => ?_)
  · rw [List.singleton_append, slotsOf_cons] at hi
    rcases List.mem_append.mp hi with hi | hi
    · cases oa with
      | own d => simp [slotsOf] at hi
      | loc l =>
        obtain ⟨rt, pt⟩ := l
        cases rt with
        | reg r => simp [slotsOf] at hi
        | slot j =>
          simp only [slotsOf, List.mem_singleton] at hi
          subst hi
          rcases hl _ _ _ e1 with z | z
          · cases z
          · exact z
    · exact s1 i hi
  · have : ([oa] ++ os).length = 1 + ms.length := by simp [s2]; omega
    rw [this]; exact hd
  · obtain ⟨q2, pl2⟩ := placed_mkO z
    exact h v W' Fs' G' F' q2 pl2
theorem s_meth {T Ta : List (Option Nat)} {fa : M Opd} {ms : List (M Opd × List (Option Nat))} {t : Tab} {k : Nat} {m : Str} {o e : Expr} {es : List Expr} {apos pos : Pos} {pl : Sem Bool} (ok : ClsOk st.ca X.K t.ct) (hex : ∃ c f, t.ct.meth c m = some f) (MG : ∀ c f, t.ct.meth c m = some f → MtGood X st t k c m f) (hr : Room k X.A) (tk : Takes X Wx)
    (ho : PE X o (tE st Wx Ta fa)) (ha : PA X (e :: es) (tA st Wx ms)) (he : starEach (e :: es) X.env = (false, eval e X.env) :: starEach es X.env) (hpl : (backTo pos (starEach es X.env)).any (·.1) = false)
    (ht : eval (.Call (.Attribute o m apos) (e :: es) [] pos) X.env = (do
      let ov ← eval o X.env
      standAt apos.atName
      let (f, first) ← holding [ov] (getMethod ov m pl)
      callWith pos f first (backTo pos (starEach (e :: es) X.env)) (backToKw pos (keywordEach [] X.env))))
    (hT : ∀ i, i ∉ T → i ∉ Ta ++ ms.flatMap (·.2)) (hn : none ∈ T) (hl : ∀ S l S', fa S = .ok (.loc l) S' → LocIn T l) (hs : ∀ S os S', evL ms S = .ok os S' → (∀ i ∈ slotsOf os, some i ∈ T) ∧ os.length = ms.length) :
    PE X (.Call (.Attribute o m apos) (e :: es) [] pos) (tE st Wx T (xMeth t fa m ms)) :=
  PE.pt fun σ H Q h => rd_meth (P := fun _ te => PE X (.Call (.Attribute o m apos) (e :: es) [] pos) te) ok hex MG hT hn hl hs h fun c f a fd ps n dvs dvals hcf hM F hv hbd => pe_methSD (pl := pl) ho (ok.cls c (CT.meth_has hcf)) hM F hr hbd hv (fun σ => passAt tk σ) ha he hpl ht
theorem s_meth0 {T Ta : List (Option Nat)} {fa : M Opd} {t : Tab} {k : Nat} {m : Str} {o : Expr} {apos pos : Pos} {pl : Sem Bool} (ok : ClsOk st.ca X.K t.ct) (hex : ∃ c f, t.ct.meth c m = some f) (MG : ∀ c f, t.ct.meth c m = some f → MtGood X st t k c m f) (hr : Room k X.A) (tk : Takes X Wx)
    (ho : PE X o (tE st Wx Ta fa))
    (ht : eval (.Call (.Attribute o m apos) [] [] pos) X.env = (do
      let ov ← eval o X.env
      standAt apos.atName
      let (f, first) ← holding [ov] (getMethod ov m pl)
      callWith pos f first (backTo pos (starEach [] X.env)) (backToKw pos (keywordEach [] X.env))))
    (hT : ∀ i, i ∉ T → i ∉ Ta) (hn : none ∈ T) (hl : ∀ S l S', fa S = .ok (.loc l) S' → LocIn T l) :
    PE X (.Call (.Attribute o m apos) [] [] pos) (tE st Wx T (xMeth t fa m [])) :=
  PE.pt fun σ H Q h => by
    obtain ⟨te, ⟨c, f, a, fd, ps, n, dvs, dvals, rfl, hcf, hM, F, hv, hbd⟩, hq⟩ := rd_meth (P := fun ta te => ∃ c f a fd ps n dvs dvals, te = tMethSD (st.ca c) m (spD st t f n) dvs (WE Wx) (tE st Wx Ta fa) ta ∧ t.ct.meth c m = some f ∧ Meth X.K (st.ca c) m a ∧ FnOk X.prog X.w X.K X.mg X.base (L2.CX X.prog X.w) k a fd ps (spD st t f n) ∧ Vals dvs dvals ∧ Binds X.K fd ps dvals) ok hex MG (by simpa using hT) hn hl
      (fun S os S' e => by simp only [evL] at e; cases e; exact ⟨by simp [slotsOf], rfl⟩) h fun c f a fd ps n dvs dvals hcf hM F hv hbd => ⟨c, f, a, fd, ps, n, dvs, dvals, rfl, hcf, hM, F, hv, hbd⟩
    refine ⟨_, pe_methSD0 (pl := pl) ho (ok.cls c (CT.meth_has hcf)) hM F hr hbd hv (fun σ => passAt tk σ) ht, ?_⟩
    exact tE_mono hq fun x H1 ⟨a, dx, fs, z1, z2, z3, z4⟩ => ⟨a, dx, fs, z1, z2, z3, tA_nil z4⟩
end
end RB
end

section
set_option Elab.async false
set_option maxRecDepth 100000
set_option linter.unusedVariables false
namespace RB
open PySem L2
/-- the tree of a method call -/
theorem meth_tree {o : Expr} {m : Str} {apos pos : Pos} {args : List Expr} {env : Env} (hbase : attributeBase o m env (eval o env) = eval o env)
    (hfew : ((backTo pos (starEach args env)).all (fun x => !x.1) && (backToKw pos (keywordEach [] env)).all (fun x => x.1.isSome)
      && decide (args.length + ([] : List Keyword).length + (if ([] : List Keyword).isEmpty then 0 else 1) < 30)) = true)
    (hline : (apos.endLine == pos.line) = true) :
    eval (.Call (.Attribute o m apos) args [] pos) env = (do
      let ov ← eval o env
      standAt apos.atName
      let (f, first) ← holding [ov] (getMethod ov m (do return (← importBound o env).getD true))
      callWith pos f first (backTo pos (starEach args env)) (backToKw pos (keywordEach [] env))) := by
  have hform : methodCallForm (args.length + ([] : List Keyword).length) (backTo pos (starEach args env)) (backToKw pos (keywordEach [] env)) = true := hfew
  have hpos : methodCallPos true o env apos pos = pure pos := by unfold methodCallPos; simp [hline]
  rw [arm_eval_Call, hbase]
  unfold methodCall
  rw [hform]
  unfold calleeOf
  rw [hpos]
  rfl
/-! ### dict displays -/
def pairV : List V → List (V × V)
  | x :: y :: r => (x, y) :: pairV r
  | _ => []
theorem noTwice_cons {k : Key} {d : D} {r : List (Key × D)} (h : noTwice ((k, d) :: r) = true) : lookP r k = none ∧ noTwice r = true := by
  simp only [noTwice, Bool.and_eq_true, Option.isNone_iff_eq_none] at h
  exact h
theorem pairs_rep {W : Wd} : ∀ {ds : List D} {vs : List V} {F : List Addr} {kvs : List (Key × D)}, pairUp ds = some kvs → noTwice kvs = true → RepL W ds vs F → ∃ us, pairV vs = us.map (fun kv => (kV kv.1, kv.2)) ∧ us.length = kvs.length ∧ RepK W kvs us F
  | [], vs, F, kvs, h, _, r => by
    simp only [pairUp] at h
    cases h
    simp only [RepL] at r
    rw [r.1, r.2]
    exact ⟨[], rfl, rfl, by simp [RepK]⟩
  | [_], vs, F, kvs, h, _, r => by simp [pairUp] at h
  | k :: v :: r, vs, F, kvs, h, hn, hr => by
    simp only [pairUp, Option.bind_eq_some_iff, Option.map_eq_some_iff] at h
    obtain ⟨k', hk, l, hl, rfl⟩ := h
    simp only [RepL] at hr
    obtain ⟨x, ws, F1, F2, rfl, r1, ⟨y, ws2, F3, F4, rfl, r2, r3, pm2⟩, pm⟩ := hr
    obtain ⟨n1, n2⟩ := noTwice_cons hn
    obtain ⟨us, e, el, hu⟩ := pairs_rep hl n2 r3
    have hx := keyOf_kV hk ⟨_, r1⟩
    have hF1 : F1 = [] := by
      cases k <;> simp only [keyOf] at hk <;> try cases hk
      · simp only [Rep] at r1; exact r1.2
      · simp only [Rep] at r1; exact r1.2.1
    subst hx hF1
    refine ⟨(k', y) :: us, by simp [pairV, e], by simp [el], ?_⟩
    simp only [RepK]
    exact ⟨y, us, F3, F4, rfl, r2, hu, by simpa using pm.trans (by simpa using pm2), keyOf_ok hk ⟨_, r1⟩, n1⟩
theorem merge_app : ∀ {more acc : List (Key × V)}, NoTw more → (∀ kv ∈ more, lookP acc kv.1 = none) → mergeK acc more = acc ++ more
  | [], acc, _, _ => by simp [mergeK]
  | (k, v) :: r, acc, h, ha => by
    obtain ⟨h1, h2⟩ := h
    have e : putK acc k v = acc ++ [(k, v)] := by
      unfold putK
      rw [(map_no (v := v) (ha (k, v) List.mem_cons_self)).2]
      rfl
    show mergeK (putK acc k v) r = _
    rw [e, merge_app h2 fun kv hkv => ?_]
    · simp
    · have n1 := ha kv (List.mem_cons_of_mem _ hkv)
      have n2 : kv.1 ≠ k := fun z => by
        have : ∀ {l : List (Key × V)}, kv ∈ l → lookP l kv.1 ≠ none := fun {l} => by
          induction l with
          | nil => intro z; cases z
          | cons p l ih =>
            intro z
            obtain ⟨a, b⟩ := p
            by_cases ha : a = kv.1
            · simp [lookP, ha]
            · rcases List.mem_cons.mp z with z | z
              · subst z; exact absurd rfl ha
              · simp only [lookP, if_neg ha]; exact ih z
        rw [← z] at h1
        exact this hkv h1
      have : ∀ {l : List (Key × V)}, lookP l kv.1 = none → lookP (l ++ [(k, v)]) kv.1 = none := fun {l} => by
        induction l with
        | nil => intro _; simp [lookP, Ne.symm n2]
        | cons p l ih =>
          obtain ⟨a, b⟩ := p
          intro z
          by_cases ha : a = kv.1
          · simp [lookP, ha] at z
          · simp only [lookP, if_neg ha, List.cons_append] at z ⊢; exact ih z
      exact this n1
section
variable {st : Sta} {Wx : WX} {X : Cx} {σ : St} {H : Hp}
/-- the keys and values by turns -/
def trP (st : Sta) (Wx : WX) : List (M Opd × List (Option Nat)) → List (TE × TE)
  | a :: b :: r => (tE st Wx a.2 a.1, tE st Wx b.2 b.1) :: trP st Wx r
  | _ => []
theorem pairs_of : ∀ {ms : List (M Opd × List (Option Nat))} {H : Hp} {Q : List (V × V) → Hp → Prop}, ms.length % 2 = 0 → tA st Wx ms σ H (fun vs H2 => Q (pairV vs) H2) → tPairs (trP st Wx ms) σ H Q
  | [], H, Q, _, h => tA_nil h
  | [_], H, Q, hl, _ => by simp at hl
  | (a, Ta) :: (b, Tb) :: r, H, Q, hl, h => by
    refine tE_mono (tA_cons h) fun x H1 q => tE_mono (tA_cons q) fun y H2 q2 => ?_
    exact pairs_of (ms := r) (Q := fun ps H3 => Q ((x, y) :: ps) H3) (by simp only [List.length_cons] at hl; omega) q2
theorem rd_dct {T : List (Option Nat)} {ms : List (M Opd × List (Option Nat))} {Q : VK} (hev : ms.length % 2 = 0) (hT : ∀ i, i ∉ T → i ∉ ms.flatMap (·.2)) (hs : ∀ S os S', evL ms S = .ok os S' → ∀ i ∈ slotsOf os, some i ∈ T) (h : tE st Wx T (xDct ms) σ H Q) : tDisp (trP st Wx ms) σ H Q := by
  obtain ⟨W, S, Fs, G, rfl, hc, sr, sp, h⟩ := of_tE h
  intro p hp
  refine pairs_of hev ?_
  have pA : p ∉ Fs.flatten ++ G := fun z => by obtain ⟨o, e⟩ := sp.tr p z; rw [hp] at e; cases e
  have pP : ¬ W.P p := fun z => by obtain ⟨o, e⟩ := sp.tk p z; rw [hp] at e; cases e
  have k1 : ∀ a o, W.H a = some o → (W.put p (.dK [])).H a = some o := fun a o z => by show upd W.H p _ a = _; rw [upd_ne (ne_of_none z hp)]; exact z
  have st1 : Stay W (W.put p (.dK [])) (Fs.flatten ++ G) := stay_new _ _ hp
  have ev1 : Evo W (Fs.flatten ++ G) (W.put p (.dK [])) (Fs.flatten ++ G) := ⟨fun a o z _ => k1 a o z, fun _ z => z, fun _ z => .inl z, fun _ z => .inl z, ⟨[], by simp⟩, rfl⟩
  have sp1 : Sep (W.put p (.dK [])) (Fs.flatten ++ G) := ⟨sp.nd, sp.np, fun a z => by obtain ⟨o, e⟩ := sp.tk a z; exact ⟨o, k1 a o e⟩, fun a z => by obtain ⟨o, e⟩ := sp.tr a z; exact ⟨o, k1 a o e⟩⟩
  show tA st Wx ms σ (W.put p (.dK [])).H _
  refine tA_of (W := W.put p (.dK [])) hc ⟨sr.sl.frame st1.left, RepL.frame _ sr.rg st1.right⟩ sp1 ((h.bind.shift ev1).mono fun os S1 e h vs W2 Fs1 G1 F p1 => ?_)
  obtain ⟨ds, S2, e2, h⟩ := valL_out h.bind
  have p' := p1.mono (T' := tch T) fun i hi => tch_false.mpr (hT i (tch_false.mp hi))
  obtain ⟨Fs2, F2, p2⟩ := p'.vals e2 fun i hi => by simpa [tch] using hs S os S1 e i hi
  have r2 := own_ops p2.op
  have hp1 : (W.put p (.dK [])).H p = some (.dK []) := upd_same
  have hp2 : W2.H p = some (.dK []) := p2.evo.keep p _ hp1 pA
  refine ⟨hp2, ?_⟩
  cases e3 : pairUp ds with
  | none => rw [e3] at h; exact h.elim
  | some kvs =>
    rw [e3] at h
    simp only at h
    by_cases hz : (noTwice kvs && decide (kvs.length ≤ 15)) = true
    · rw [if_pos hz] at h
      simp only [Bool.and_eq_true, decide_eq_true_eq] at hz
      obtain ⟨us, ep, el, hu⟩ := pairs_rep e3 hz.1 r2
      refine ⟨us, ep, by rw [el]; exact hz.2, ?_⟩
      rw [merge_app hu.noTw (fun _ _ => rfl), List.nil_append]
      have np2 : p ∉ (Fs2.flatten ++ G1) ++ F2 := fun z => by
        rcases p2.evo.newA p z with q | q
        · exact pA q
        · rw [hp1] at q; cases q
      have nP2 : ¬ W2.P p := fun z => by
        rcases p2.evo.newP p z with q | q | q
        · exact pP q
        · exact pA q
        · rw [hp1] at q; cases q
      have k2 : ∀ a o, a ≠ p → W2.H a = some o → (W2.put p (.dK us)).H a = some o := fun a o z q => by show upd W2.H p _ a = _; rw [upd_ne z]; exact q
      have sB : Stay W2 (W2.put p (.dK us)) (Fs2.flatten ++ G1) := stay_put (fun z => np2 (List.mem_append_left _ z)) nP2
      refine h (.ref p) (W2.put p (.dK us)) Fs2 G1 (p :: F2) ⟨⟨p2.sr.sl.frame sB.left, RepL.frame _ p2.sr.rg sB.right⟩, ⟨.ref p, [], p :: F2, [], rfl, ?_, ⟨rfl, rfl⟩, by simp⟩, ?_, ?_, ?_⟩ trivial
      · simp only [Rep]
        exact ⟨p, us, F2, rfl, upd_same, RepK.frame _ hu (stay_put (fun z => np2 (List.mem_append_right _ z)) nP2), .refl _⟩
      · have pm : (p :: ((Fs2.flatten ++ G1) ++ F2)).Perm ((Fs2.flatten ++ G1) ++ (p :: F2)) := List.perm_middle.symm
        refine Sep.pm ⟨List.nodup_cons.mpr ⟨np2, p2.sep.nd⟩, fun a z => ?_, fun a z => ?_, fun a z => ?_⟩ pm
        · rcases List.mem_cons.mp z with rfl | z
          · exact nP2
          · exact p2.sep.np a z
        · obtain ⟨o, q⟩ := p2.sep.tk a z
          exact ⟨o, k2 a o (fun y => by subst y; exact nP2 z) q⟩
        · rcases List.mem_cons.mp z with rfl | z2
          · exact ⟨_, upd_same⟩
          · obtain ⟨o, q⟩ := p2.sep.tr a z2
            exact ⟨o, k2 a o (fun y => np2 (y ▸ z2)) q⟩
      · refine ⟨fun a o z q => ?_, p2.evo.perm, fun a z => ?_, fun a z => ?_, p2.evo.rv, p2.evo.ca⟩
        · exact k2 a o (ne_of_none z hp) (p2.evo.keep a o (k1 a o z) q)
        · rcases List.mem_append.mp z with z | z
          · rcases p2.evo.newA a (List.mem_append_left _ z) with q | q
            · exact .inl q
            · right
              by_cases hap : a = p
              · subst hap; exact hp
              · have : (W.put p (.dK [])).H a = W.H a := by show upd W.H p _ a = _; rw [upd_ne hap]
                rw [this] at q; exact q
          · rcases List.mem_cons.mp z with rfl | z
            · exact .inr hp
            · rcases p2.evo.newA a (List.mem_append_right _ z) with q | q
              · exact .inl q
              · right
                by_cases hap : a = p
                · subst hap; exact hp
                · have : (W.put p (.dK [])).H a = W.H a := by show upd W.H p _ a = _; rw [upd_ne hap]
                  rw [this] at q; exact q
        · rcases p2.evo.newP a z with q | q | q
          · exact .inl q
          · exact .inr (.inl q)
          · right; right
            by_cases hap : a = p
            · subst hap; exact hp
            · have : (W.put p (.dK [])).H a = W.H a := by show upd W.H p _ a = _; rw [upd_ne hap]
              rw [this] at q; exact q
      · refine ⟨fun i hi => ?_, fun hr => ?_⟩
        · obtain ⟨a1, a2, a3⟩ := p2.pres.sl i hi
          refine ⟨a1, a2, fun A hA a ha => ?_⟩
          have hap : a ≠ p := fun z => by subst z; exact pA (List.mem_append_left _ (mem_flat hA ha))
          show upd W2.H p _ a = _
          rw [upd_ne hap, a3 A hA a ha]
          show upd W.H p _ a = _
          rw [upd_ne hap]
        · obtain ⟨a1, a2, a3, a4⟩ := p2.pres.rg hr
          refine ⟨a1, a2, a3, fun a ha => ?_⟩
          have hap : a ≠ p := fun z => by subst z; exact pA (List.mem_append_right _ ha)
          show upd W2.H p _ a = _
          rw [upd_ne hap, a4 a ha]
          show upd W.H p _ a = _
          rw [upd_ne hap]
    · rw [if_neg hz] at h; exact h.elim
end
end RB
end

section
set_option Elab.async false
set_option maxRecDepth 100000
set_option linter.unusedVariables false
namespace RB
open PySem L2

/-! ### the checker: does this source say this? -/
structure CC where
  N : List Str
  sc : Scope
  fn : Str → Bool
  fns : List (Str × Nat)
  gl : List (Str × D)
  no : List Str
  cls : List (Str × Nat)
  ct : CT
def CC.blk (C : CC) (scope : Scope) : CC := { C with sc := relS scope C.sc, fn := fun x => scope.names.lookup x == some .cell }
def visB (C : CC) (x : Str) : Bool := match C.sc.names.lookup x with | some .local => true | some .cell => true | some .free => true | _ => false
def locB (C : CC) (x : Str) : Bool := match C.sc.names.lookup x with | some .local => true | some .cell => C.fn x | _ => false
def glB (C : CC) (x : Str) : Bool := match C.sc.names.lookup x with | some .globalImplicit => true | _ => false
/-- a built-in's name, not shadowed -/
def bltB (C : CC) (x : Str) : Bool := glB C x && C.no.elem x
def nodbg (x : Str) : Bool := !(x == ("__debug__" : Str)) && !(x == ("__classdict__" : Str))
def slotB (C : CC) (i : Nat) (x : Str) : Bool := C.N[i]? == some x
def noStar : Expr → Bool
  | .Starred _ _ => false
  | _ => true
def noSlice : Expr → Bool
  | .Slice _ _ _ _ => false
  | _ => true
def noSet : Expr → Bool
  | .Set _ _ _ => false
  | _ => true
def noComp : Expr → Bool
  | .ListComp .. => false | .SetComp .. => false | .DictComp .. => false
  | _ => true
def noTuple : Expr → Bool
  | .Tuple .. => false
  | _ => true
def noSuper : Expr → Bool
  | .Call (.Name id _) [] [] _ => id != ("super" : Str)
  | _ => true
def scEq : D → D → Bool
  | .non, .non => true
  | .bl a, .bl b => a == b
  | .int a, .int b => a == b
  | .str a, .str b => a == b
  | _, _ => false
/-- as a test -/
def okT : E → Bool
  | .ife _ _ _ => false
  | .keep _ => false
  | .notE a => okT a
  | .andE a b => okT a && okT b
  | .orE a b => okT a && okT b
  | _ => true
def nodB : List Nat → Bool
  | [] => true
  | i :: is => !(is.elem i) && nodB is
def chkNames (C : CC) : List Nat → List Expr → Bool
  | [], [] => true
  | i :: is, .Name x _ :: xs => slotB C i x && locB C x && chkNames C is xs
  | _, _ => false
def chkTg (C : CC) : Tg → Expr → Bool
  | .name i, .Name x _ => slotB C i x && locB C x
  | .tup is, .Tuple xs _ _ => chkNames C is xs
  | _, _ => false
def ownOf (C : CC) (g : Tg) : List (Str × Nat) := g.slots.map fun i => ((C.N[i]?).getD "", i)
def bmB (b : Bm) (n : Str) : Bool := n == bmName b
/-- some class has such a method -/
def hasM (ct : CT) (m : Str) : Bool := (List.range ct.length).any fun c => (ct.meth c m).isSome
mutual
def chk (C : CC) : E → Expr → Bool
  | .non, x => match x with | .Constant .none _ _ => true | _ => false
  | .bl b, x => match x with | .Constant (.bool c) _ _ => b == c | _ => false
  | .int b, x => match x with | .Constant (.int c) _ _ => b == c | _ => false
  | .str b, x => match x with | .Constant (.str c) _ _ => b == c && okB b | _ => false
  | .var i, x => match x with | .Name n _ => slotB C i n && visB C n && nodbg n | _ => false
  | .glob n d, x => match x with | .Name m _ => n == m && glB C m && nodbg m && (match C.gl.lookup m with | some d' => scEq d d' | none => false) | _ => false
  | .bin op a b, x => match x with | .BinOp xa o xb _ => decide (o = opOf op) && chk C a xa && chk C b xb | _ => false
  | .notE a, x => match x with | .UnaryOp .Not xa _ => chk C a xa | _ => false
  | .neg a, x => match x with | .UnaryOp .USub xa _ => chk C a xa | _ => false
  | .andE a b, x => match x with
    | .BoolOp .And (xa :: xb :: xr) pos => chk C a xa && (match xr with | [] => chk C b xb | xc :: xr => chk C b (.BoolOp .And (xb :: xc :: xr) pos))
    | _ => false
  | .orE a b, x => match x with
    | .BoolOp .Or (xa :: xb :: xr) pos => chk C a xa && (match xr with | [] => chk C b xb | xc :: xr => chk C b (.BoolOp .Or (xb :: xc :: xr) pos))
    | _ => false
  | .cmp op a b, x => match x with | .Compare xa [o] [xb] _ => decide (o = copOf op) && chk C a xa && chk C b xb && !behindInMarks (copOf op) xb | _ => false
  | .isN a, x => match x with | .Compare xa [.Is] [.Constant .none _ _] _ => chk C a xa | _ => false
  | .notN a, x => match x with | .Compare xa [.IsNot] [.Constant .none _ _] _ => chk C a xa | _ => false
  | .chain o1 o2 a b c, x => match x with | .Compare xa [p1, p2] [xb, xc] _ => decide (p1 = copOf o1) && decide (p2 = copOf o2) && chk C a xa && chk C b xb && chk C c xc && !lastMarks [copOf o1, copOf o2] [xb, xc] | _ => false
  | .ife c a b, x => match x with | .IfExp xc xa xb _ => okT c && chk C c xc && chk C a xa && chk C b xb | _ => false
  | .lst es, x => match x with | .List xs _ => chkL C es xs | _ => false
  | .tup es, x => match x with | .Tuple xs _ _ => chkL C es xs | _ => false
  | .dct0, x => match x with | .Dict [] [] _ => true | _ => false
  | .dct es, x => match x with | .Dict (k :: ks) vs _ => decide ((k :: ks).length ≤ 15) && chkKV C es (k :: ks) vs | _ => false
  | .keep a, x => noComp x && chk C a x
  | .sortK _ _, _ => false
  | .sub a i, x => match x with | .Subscript xa xi _ => noSlice xi && chk C a xa && chk C i xi | _ => false
  | .slice a lo hi, x => match x with | .Subscript xa (.Slice l h none _) _ => chk C a xa && chkO C lo l && chkO C hi h | _ => false
  | .attr a f, x => match x with | .Attribute xo n _ => n == f && noSuper xo && chk C a xo | _ => false
  | .isi a ty, x => match x with | .Call (.Name n _) [xa, .Name tn _] [] _ => n == ("isinstance" : Str) && bltB C "isinstance" && (match ty with | .cls k => glB C tn && nodbg tn && (C.cls.lookup tn == some k) | ty => isB ty && tn == Str.ofString (tyN ty) && bltB C tn) && noStar xa && chk C a xa | _ => false
  | .bi b es, x => match x with | .Call (.Name n _) (xe :: xes) [] _ => n == biN b && bltB C n && chkL C es (xe :: xes) | _ => false
  | .bm b a es, x => match x with | .Call (.Attribute xo n apos) (xe :: xes) [] cpos => n == bmName b && noSuper xo && decide (xes.length < 20) && (apos.endLine == cpos.line) && chk C a xo && chkL C es (xe :: xes) | _ => false
  | .jrev a e, x => match x with | .Call (.Attribute xo n apos) [.Call (.Name m _) [xe] [] _] [] cpos => n == ("join" : Str) && m == ("reversed" : Str) && bltB C "reversed" && noSuper xo && (apos.endLine == cpos.line) && noStar xe && chk C a xo && chk C e xe | _ => false
  | .mm b a es, x => match x with
    | .Call (.Attribute xo n apos) xs [] cpos => n == mmName b && noSuper xo && (apos.endLine == cpos.line) && chk C a xo && (match xs with
      | [] => mm0 b && (match es with | [] => true | _ => false)
      | xe :: xes => mmA b && decide (xes.length < 20) && chkL C es (xe :: xes))
    | _ => false
  | .call f es, x => match x with | .Call (.Name n _) xs [] _ => glB C n && nodbg n && (C.fns.lookup n == some f) && chkL C es xs | _ => false
  | .mk c es, x => match x with | .Call (.Name n _) xs [] _ => glB C n && nodbg n && (C.cls.lookup n == some c) && (C.ct.init c).isSome && chkL C es xs | _ => false
  | .meth a m es, x => match x with
    | .Call (.Attribute xo n apos) xs [] cpos => n == m && noSuper xo && decide (xs.length < 20) && (apos.endLine == cpos.line) && hasM C.ct m && chk C a xo && chkL C es xs
    | _ => false
  | .comp g s c e, x => match x with
    | .ListComp xe [⟨tg, iter, ifs, 0⟩] scope _ => nodB g.slots && noSet iter && chkSrc C s tg iter && blkC C.N C.sc scope (ownOf C g) && chkTg (C.blk scope) g tg && chkC (C.blk scope) c ifs && chk (C.blk scope) e xe
    | _ => false
def chkL (C : CC) : List E → List Expr → Bool
  | [], xs => match xs with | [] => true | _ => false
  | e :: es, xs => match xs with | x :: xs => noStar x && chk C e x && chkL C es xs | _ => false
def chkKV (C : CC) : List E → List (Option Expr) → List Expr → Bool
  | [], ks, vs => match ks, vs with | [], [] => true | _, _ => false
  | [_], _, _ => false
  | ek :: ev :: es, ks, vs => match ks, vs with | some xk :: ks, xv :: vs => chk C ek xk && chk C ev xv && chkKV C es ks vs | _, _ => false
def chkO (C : CC) : Option E → Option Expr → Bool
  | none, x => match x with | none => true | _ => false
  | some e, x => match x with | some x => chk C e x | _ => false
def chkC (C : CC) : Option E → List Expr → Bool
  | none, x => match x with | [] => true | _ => false
  | some e, x => match x with | [x] => okT e && chk C e x | _ => false
def chkSrc (C : CC) : Src → Expr → Expr → Bool
  | .seq e, _, x => chk C e x
  | .rng1 e, _, x => match x with | .Call (.Name n _) [xe] [] _ => n == ("range" : Str) && bltB C "range" && noStar xe && chk C e xe | _ => false
  | .rng2 a b, _, x => match x with | .Call (.Name n _) [xa, xb] [] _ => n == ("range" : Str) && bltB C "range" && noStar xa && noStar xb && chk C a xa && chk C b xb | _ => false
  | .enum e, tg, x => match tg, x with | .Tuple _ _ _, .Call (.Name n _) [xe] [] _ => n == ("enumerate" : Str) && bltB C "enumerate" && noStar xe && chk C e xe | _, _ => false
  | .zip a b, tg, x => match tg, x with | .Tuple _ _ _, .Call (.Name n _) [xa, xb] [] _ => n == ("zip" : Str) && bltB C "zip" && noStar xa && noStar xb && chk C a xa && chk C b xb | _, _ => false
  | .rev e, _, x => match x with | .Call (.Name n _) [xe] [] _ => n == ("reversed" : Str) && bltB C "reversed" && noStar xe && chk C e xe | _ => false
end
/-- name = [..] on one line -/
def swB (C : CC) (y : Str) (py : Pos) : Expr → Bool
  | .ListComp _ _ scope pos => (match C.sc.kind with | .function => true | _ => false) && (C.sc.names.lookup y == some .local) && (py.line == pos.line) && !(scope.names.any fun (n, k) => n == y && (k == .local || k == .cell))
  | _ => false
def parB (C : CC) (x y : Str) (px py : Pos) (xa xb : Expr) : Bool := (match C.sc.kind with | .function => true | _ => false) && (C.sc.names.lookup x == some .local) && (C.sc.names.lookup y == some .local) && (py.line == px.line) && !(x == y) && noStar xa && noStar xb && !([xa, xb].all (foldedForSure 8)) && !([xa, xb].all (constantsAlone 8))
mutual
def chkS (C : CC) : S → Stmt → Bool
  | .expr e, x => match x with | .Expr xe _ => noComp xe && chk C e xe | _ => false
  | .asg g e, x => match x with
    | .Assign [xt] xe _ => (match g, xt with
      | .name i, .Name y py => slotB C i y && locB C y && chk C e xe && (noComp xe || swB C y py xe)
      | .tup is, .Tuple xs _ _ => chkNames C is xs && noTuple xe && chk C e xe
      | .sub o k, .Subscript xo xk _ => noSlice xk && noComp xe && chk C o xo && chk C k xk && chk C e xe
      | .attr o f, .Attribute xo n _ => n == f && noComp xe && chk C o xo && chk C e xe
      | _, _ => false)
    | _ => false
  | .par i j a b, x => match x with
    | .Assign [.Tuple [.Name x px, .Name y py] _ _] (.Tuple [xa, xb] _ _) _ => slotB C i x && slotB C j y && !(i == j) && parB C x y px py xa xb && chk C a xa && chk C b xb
    | _ => false
  | .aug i op e, x => match x with
    | .AugAssign (.Name n _) o xe _ => slotB C i n && locB C n && (match op with | .add => decide (o = .Add) | .sub => decide (o = .Sub) | _ => false) && chk C e xe
    | _ => false
  | .augS _ _ _ _, _ => false
  | .augA _ _ _ _, _ => false
  | .tryT b, x => match x with | .Try xb (_ :: _) [] [] _ => chkSs C b xb | _ => false
  | .ife c a b, x => match x with | .If xc xa xb _ => okT c && chk C c xc && chkSs C a xa && chkSs C b xb | _ => false
  | .whileS c b, x => match x with | .While xc xb [] _ => okT c && chk C c xc && chkSs C b xb | _ => false
  | .forS g s b, x => match x with | .For tg iter xb [] _ => noSet iter && chkSrc C s tg iter && chkTg C g tg && chkSs C b xb | _ => false
  | .ret e, x => match x with | .Return (some xe) _ => chk C e xe | _ => false
  | .retN, x => match x with | .Return none _ => true | _ => false
  | .pass, x => match x with | .Pass _ => true | _ => false
  | .brk, x => match x with | .Break _ => true | _ => false
  | .cont, x => match x with | .Continue _ => true | _ => false
  | .dead, _ => true
def chkSs (C : CC) : List S → List Stmt → Bool
  | [], xs => match xs with | [] => true | _ => false
  | s :: ss, xs => match xs with | x :: xs => chkS C s x && chkSs C ss xs | _ => false
end

/-! ### what the checker's context is -/
structure Okc (st : Sta) (t : Tab) (k : Nat) (Wx : WX) (C : CC) (X : Cx) : Prop where
  xc : XC st X
  N : X.N = C.N
  nd : X.N.Nodup
  sc : X.env.scope = C.sc
  fn : X.fn = C.fn
  tk : Takes X Wx
  room : Room (k + 1) X.A
  fns : ∀ x f, C.fns.lookup x = some f → ∃ a, X.mg x = some (.ref a) ∧ FnGood X.prog X.w X.K X.mg X.base st t k f a
  gl : ∀ x d, C.gl.lookup x = some d → ∃ v u, scalV d = some v ∧ X.mg x = some u ∧ RelV v u
  no : ∀ x ∈ C.no, X.mg x = none
  ct : t.ct = C.ct
  cls : ClsOk st.ca X.K t.ct
  cn : ∀ x c, C.cls.lookup x = some c → X.mg x = some (.ref (st.ca c))
  mks : ∀ c f, t.ct.init c = some f → MkGood X st t k c f
  mts : ∀ c m f, t.ct.meth c m = some f → MtGood X st t k c m f
section
variable {st : Sta} {t : Tab} {k : Nat} {Wx : WX} {C : CC} {X : Cx}
theorem Okc.blk (h : Okc st t k Wx C X) (scope : Scope) (s : Shared) (H : Hp) (cl : List (Str × Addr)) (c : Addr) (fp : List Addr) : Okc st t k WF (C.blk scope) (X.blk s H scope (compEnvC scope cl c X.env) fp) where
  xc := ⟨h.xc.K, h.xc.calm, h.xc.un⟩
  N := h.N
  nd := h.nd
  sc := by show relabel scope X.env = relS scope C.sc; rw [← h.sc]; rfl
  fn := rfl
  tk := fun u s' x => by obtain ⟨_, _, _, _, _, _, _, _, _, _, _, _, _, _, _, _, w⟩ := x; exact w.elim
  room := h.room
  fns := h.fns
  gl := h.gl
  no := h.no
  ct := h.ct
  cls := h.cls
  cn := h.cn
  mks := h.mks
  mts := h.mts
/-- where nothing is raised -/
theorem Okc.nox (h : Okc st t k Wx C X) : Okc st t k WF C X.nox where
  xc := ⟨h.xc.K, h.xc.calm, h.xc.un⟩
  N := h.N
  nd := h.nd
  sc := h.sc
  fn := h.fn
  tk := fun u s' x => by obtain ⟨_, _, _, _, _, _, _, _, _, _, _, _, _, _, _, _, w⟩ := x; exact w.elim
  room := h.room
  fns := h.fns
  gl := h.gl
  no := h.no
  ct := h.ct
  cls := h.cls
  cn := h.cn
  mks := h.mks
  mts := h.mts
theorem Okc.vis (h : Okc st t k Wx C X) {x : Str} (hv : visB C x = true) : Vis X.env.scope x := by
  unfold visB at hv
  rw [h.sc]
  unfold Vis
  split at hv <;> first | exact .inl (by assumption) | exact .inr (.inl (by assumption)) | exact .inr (.inr (by assumption)) | cases hv
theorem Okc.loc (h : Okc st t k Wx C X) {x : Str} (hv : locB C x = true) : L2.Loc X.env.scope x ∧ (X.fn x = true ∨ X.env.scope.names.lookup x = some .local) := by
  unfold locB at hv
  rw [h.sc, h.fn]
  unfold L2.Loc
  split at hv
  · rename_i e; exact ⟨.inl e, .inr e⟩
  · rename_i e; exact ⟨.inr e, .inl hv⟩
  · cases hv
theorem Okc.glo (h : Okc st t k Wx C X) {x : Str} (hv : glB C x = true) : Gl X x := by
  unfold glB at hv
  show X.env.scope.names.lookup x = some .globalImplicit
  rw [h.sc]
  split at hv
  · assumption
  · cases hv
theorem Okc.blt (h : Okc st t k Wx C X) {x : Str} (hv : bltB C x = true) : Gl X x ∧ X.mg x = none := by
  simp only [bltB, Bool.and_eq_true, List.elem_eq_mem, decide_eq_true_eq] at hv
  exact ⟨h.glo hv.1, h.no x hv.2⟩
theorem Okc.slot (h : Okc st t k Wx C X) {i : Nat} {x : Str} (hv : slotB C i x = true) : X.N[i]? = some x := by
  rw [h.N]; simpa [slotB] using hv
theorem dbg_of {x : Str} (h : nodbg x = true) : (x == ("__debug__" : Str)) = false ∧ (x == ("__classdict__" : Str)) = false := by
  simpa [nodbg] using h
theorem star_of {x : Expr} {env : Env} (h : noStar x = true) (r : List Expr) : starEach (x :: r) env = (false, eval x env) :: starEach r env := by
  cases x <;> first | rfl | cases h
theorem ix_of {x : Expr} (h : noSlice x = true) : PlainIx x := by
  intro o i
  cases x <;> first | rfl | cases h
theorem set_of {x : Expr} {env : Env} (h : noSet x = true) : ∀ v, foldedSetIterable x env v = pure v := by
  intro v
  cases x <;> first | rfl | cases h
theorem comp_of {x : Expr} {env : Env} {tg : Option Expr} {l : Nat} (h : noComp x = true) : swapsWith x tg l env = pure false := by
  cases x <;> first | rfl | cases h
theorem super_of {o : Expr} {n : Str} {env : Env} (h : noSuper o = true) : attributeBase o n env (eval o env) = eval o env := by
  unfold attributeBase
  split
  · rename_i id _ _
    have : (id != ("super" : Str)) = true := h
    simp [this]
  · rfl
theorem scEq_of {d e : D} (h : scEq d e = true) : d = e := by
  unfold scEq at h
  split at h <;> simp_all
theorem nodB_of : ∀ {l : List Nat}, nodB l = true → l.Nodup
  | [], _ => List.nodup_nil
  | i :: is, h => by
    simp only [nodB, Bool.and_eq_true, Bool.not_eq_true', List.elem_eq_mem, decide_eq_false_iff_not] at h
    exact List.nodup_cons.mpr ⟨h.1, nodB_of h.2⟩
end
end RB
end

section
set_option Elab.async false
set_option maxRecDepth 100000
set_option linter.unusedVariables false
set_option maxHeartbeats 20000000
namespace RB
open PySem L2

section
variable {st : Sta} {t : Tab} {k : Nat} {Wx : WX} {C : CC} {X : Cx}
theorem pa_of {f : M Opd} {T : List (Option Nat)} {ms : List (M Opd × List (Option Nat))} {x : Expr} {xs : List Expr} (h1 : PE X x (tE st Wx T f)) (h2 : PA X xs (tA st Wx ms)) (hs : noStar x = true) : PA X (x :: xs) (tA st Wx ((f, T) :: ms)) :=
  PA.pt fun σ H Q h => ⟨_, pa_cons h1 h2 (star_of hs _), tA_cons h⟩
theorem pa_none : PA X [] (tA st Wx []) := PA.pt fun σ H Q h => ⟨_, pa_nil, tA_nil h⟩
def Plain (X : Cx) (xs : List Expr) : Prop := ∀ pos, (backTo pos (starEach xs X.env)).any (·.1) = false ∧ (backTo pos (starEach xs X.env)).all (fun x => !x.1) = true
theorem Plain.nil : Plain X [] := fun pos => ⟨rfl, rfl⟩
theorem Plain.cons {x : Expr} {xs : List Expr} (hs : noStar x = true) (h : Plain X xs) : Plain X (x :: xs) := fun pos => by
  rw [star_of hs]
  exact ⟨by have := (h pos).1; simpa [backTo] using this, by have := (h pos).2; simpa [backTo] using this⟩
theorem Plain.few {x : Expr} {xs : List Expr} {pos : Pos} (h : Plain X (x :: xs)) (hl : decide (xs.length < 20) = true) : ((backTo pos (starEach (x :: xs) X.env)).all (fun x => !x.1) && (backToKw pos (keywordEach [] X.env)).all (fun x => x.1.isSome)
      && decide ((x :: xs).length + ([] : List Keyword).length + (if ([] : List Keyword).isEmpty then 0 else 1) < 30)) = true := by
  rw [(h pos).2]
  have : xs.length < 20 := by simpa using hl
  simp [keywordEach, backToKw]
  omega
theorem yes_of {W : WX} : PTs X [] (tT st W [] fun S => .ok true S) := by
  refine ⟨fun pins s σ H Q I h => pts_nil.run pins s σ H Q I ?_⟩
  obtain ⟨W, S, Fs, G, rfl, hc, sr, sp, h⟩ := of_tT h
  exact h W Fs G ⟨sr, ⟨rfl, rfl⟩, by simpa using sp, by simpa using Evo.refl W (Fs.flatten ++ G), .refl⟩
theorem names_of (h : Okc st t k Wx C X) : ∀ {is : List Nat} {xs : List Expr}, chkNames C is xs = true → PGs X xs (gNames is) ∧ (assignEach xs X.env).length = is.length ∧ (assignEach xs X.env).findIdx? (·.1) = none
  | [], [], _ => ⟨pgs_nil, rfl, rfl⟩
  | i :: is, [], e => by simp [chkNames] at e
  | [], x :: xs, e => by cases x <;> simp [chkNames] at e
  | i :: is, x :: xs, e => by
    cases x with
    | Name n p =>
      simp only [chkNames, Bool.and_eq_true] at e
      obtain ⟨i1, i2, i3⟩ := names_of h e.2
      obtain ⟨l1, l2⟩ := h.loc e.1.2
      refine ⟨pgs_cons (pg_name h.nd (h.slot e.1.1) l1 l2) i1 rfl, by simp only [assignEach, List.length_cons, i2], ?_⟩
      simp only [assignEach, List.findIdx?_cons, i3]
      rfl
    | _ => simp [chkNames] at e
theorem tg_of (h : Okc st t k Wx C X) {g : Tg} {x : Expr} (e : chkTg C g x = true) : PG X x (tgR X.K g) := by
  cases g with
  | name i =>
    cases x with
    | Name n p =>
      simp only [chkTg, Bool.and_eq_true] at e
      obtain ⟨l1, l2⟩ := h.loc e.2
      exact pg_name h.nd (h.slot e.1) l1 l2
    | _ => simp [chkTg] at e
  | tup is =>
    cases x with
    | Tuple xs kk p =>
      simp only [chkTg] at e
      obtain ⟨i1, i2, i3⟩ := names_of h e
      exact pg_tup h.xc.calm i1 i2 i3
    | _ => simp [chkTg] at e
end

theorem s_notN' {st : Sta} {Wx : WX} {X : Cx} {T Ta : List (Option Nat)} {fa : M Opd} {a : Expr} {j pos pos'} (hT : ∀ i, i ∉ T → i ∉ Ta) (ha : PE X a (tE st Wx Ta fa)) :
    PE X (.Compare a [.IsNot] [.Constant .none j pos'] pos) (tE st Wx T (xRead [(fa, Ta)] notNF)) :=
  PE.pt fun σ H Q h => ⟨_, pe_cmpR op_notN ha pe_non (nomark _), tE_mono (rd_notN hT h) fun _ _ q => ⟨rfl, q⟩⟩
theorem hasM_of {ct : CT} {m : Str} (h : hasM ct m = true) : ∃ c f, ct.meth c m = some f := by
  simp only [hasM, List.any_eq_true, Option.isSome_iff_exists] at h
  obtain ⟨c, _, f, e⟩ := h
  exact ⟨c, f, e⟩
theorem chkKV_len {C : CC} : ∀ (es : List E) {ks : List (Option Expr)} {vs : List Expr}, chkKV C es ks vs = true → es.length % 2 = 0 ∧ ks.all (·.isSome) = true ∧ ks.length = vs.length
  | [], ks, vs, e => by
    unfold chkKV at e
    split at e
    · exact ⟨rfl, rfl, rfl⟩
    · cases e
  | [_], ks, vs, e => by unfold chkKV at e; cases e
  | ek :: ev :: es, ks, vs, e => by
    unfold chkKV at e
    split at e
    · simp only [Bool.and_eq_true] at e
      obtain ⟨a1, a2, a3⟩ := chkKV_len es e.2
      refine ⟨by simp only [List.length_cons]; omega, by simpa using a2, by simp [a3]⟩
    · cases e
theorem Plain.few0 {xs : List Expr} {pos : Pos} (h : Plain X xs) (hl : decide (xs.length < 20) = true) : ((backTo pos (starEach xs X.env)).all (fun x => !x.1) && (backToKw pos (keywordEach [] X.env)).all (fun x => x.1.isSome)
      && decide (xs.length + ([] : List Keyword).length + (if ([] : List Keyword).isEmpty then 0 else 1) < 30)) = true := by
  have h2 := (h pos).2
  have hl : xs.length < 20 := by simpa using hl
  rw [h2]
  have : (backToKw pos (keywordEach [] X.env)).all (fun x => x.1.isSome) = true := rfl
  rw [this]
  simp
  omega
mutual
theorem snd {st : Sta} {t : Tab} : ∀ (e : E) {k : Nat} {Wx : WX} {C : CC} {X : Cx} {x : Expr}, Okc st t k Wx C X → chk C e x = true → PE X x (tE st Wx e.touch (ev t e))
  | .non, k, Wx, C, X, x, h, e => by
    unfold chk at e
    split at e
    · unfold ev; exact s_non
    · cases e
  | .bl b, k, Wx, C, X, x, h, e => by
    unfold chk at e
    split at e
    · rename_i c _ _
      have e : b = c := by simpa using e
      subst e
      unfold ev; exact s_bl
    · cases e
  | .int b, k, Wx, C, X, x, h, e => by
    unfold chk at e
    split at e
    · rename_i c _ _
      have e : b = c := by simpa using e
      subst e
      unfold ev; exact s_int
    · cases e
  | .str b, k, Wx, C, X, x, h, e => by
    unfold chk at e
    split at e
    · rename_i c _ _
      have e : b = c ∧ okB b = true := by simpa using e
      obtain ⟨e, o⟩ := e
      subst e
      unfold ev; exact s_str (okB_of o)
    · cases e
  | .var i, k, Wx, C, X, x, h, e => by
    unfold chk at e
    split at e
    · simp only [Bool.and_eq_true] at e
      obtain ⟨d1, d2⟩ := dbg_of e.2
      unfold ev; exact s_var (h.slot e.1.1) (h.vis e.1.2) d1 d2
    · cases e
  | .glob n d, k, Wx, C, X, x, h, e => by
    unfold chk at e
    split at e
    · rename_i m p
      simp only [Bool.and_eq_true] at e
      obtain ⟨⟨⟨e1, e2⟩, e3⟩, e4⟩ := e
      split at e4
      · rename_i d' hd
        cases scEq_of e4
        obtain ⟨v, u, h1, h2, h3⟩ := h.gl _ _ hd
        obtain ⟨d1, d2⟩ := dbg_of e3
        unfold ev; exact s_glob h1 (h.glo e2) h2 h3 d1
      · cases e4
    · cases e
  | .bin op a b, k, Wx, C, X, x, h, e => by
    unfold chk at e
    split at e
    · simp only [Bool.and_eq_true, decide_eq_true_eq] at e
      obtain ⟨⟨rfl, e1⟩, e2⟩ := e
      unfold ev; exact s_bin (fun i hi => by simpa only [E.touch] using hi) (snd a h e1) (snd b h e2)
    · cases e
  | .notE a, k, Wx, C, X, x, h, e => by
    unfold chk at e
    split at e
    · unfold ev; simp only [E.touch]; exact s_not h.xc (snd a h e)
    · cases e
  | .neg a, k, Wx, C, X, x, h, e => by
    unfold chk at e
    split at e
    · unfold ev; exact s_neg (fun i hi => by simpa only [E.touch] using hi) (snd a h e)
    · cases e
  | .andE a b, k, Wx, C, X, x, h, e => by
    unfold chk at e
    split at e
    · rename_i xa xb xr pos
      simp only [Bool.and_eq_true] at e
      obtain ⟨e1, e2⟩ := e
      unfold ev
      split at e2
      · exact s_and (fun i hi => by simpa only [E.touch] using hi) (snd a h e1) (pe_one (snd b h e2))
      · exact s_and (fun i hi => by simpa only [E.touch] using hi) (snd a h e1) (snd b h e2)
    · cases e
  | .orE a b, k, Wx, C, X, x, h, e => by
    unfold chk at e
    split at e
    · rename_i xa xb xr pos
      simp only [Bool.and_eq_true] at e
      obtain ⟨e1, e2⟩ := e
      unfold ev
      split at e2
      · exact s_or (fun i hi => by simpa only [E.touch] using hi) (snd a h e1) (pe_one (snd b h e2))
      · exact s_or (fun i hi => by simpa only [E.touch] using hi) (snd a h e1) (snd b h e2)
    · cases e
  | .cmp op a b, k, Wx, C, X, x, h, e => by
    unfold chk at e
    split at e
    · simp only [Bool.and_eq_true, decide_eq_true_eq, Bool.not_eq_true'] at e
      obtain ⟨⟨⟨rfl, e1⟩, e2⟩, e3⟩ := e
      unfold ev; exact s_cmp h.xc (fun i hi => by simpa only [E.touch] using hi) (snd a h e1) (snd b h e2) e3
    · cases e
  | .isN a, k, Wx, C, X, x, h, e => by
    unfold chk at e
    split at e
    · unfold ev; exact s_isN (fun i hi => by simpa only [E.touch] using hi) (snd a h e)
    · cases e
  | .notN a, k, Wx, C, X, x, h, e => by
    unfold chk at e
    split at e
    · unfold ev; exact s_notN' (fun i hi => by simpa only [E.touch] using hi) (snd a h e)
    · cases e
  | .chain o1 o2 a b c, k, Wx, C, X, x, h, e => by
    unfold chk at e
    split at e
    · simp only [Bool.and_eq_true, decide_eq_true_eq, Bool.not_eq_true'] at e
      obtain ⟨⟨⟨⟨⟨rfl, rfl⟩, e1⟩, e2⟩, e3⟩, e4⟩ := e
      unfold ev; exact s_chain h.xc (fun i hi => by simpa only [E.touch] using hi) (snd a h e1) (snd b h e2) (snd c h e3) e4
    · cases e
  | .ife c a b, k, Wx, C, X, x, h, e => by
    unfold chk at e
    split at e
    · simp only [Bool.and_eq_true] at e
      obtain ⟨⟨⟨e0, e1⟩, e2⟩, e3⟩ := e
      unfold ev
      refine s_ife (Tt := c.touch) (Ta := a.touch) (Tb := b.touch) (fun i hi z => hi (by simp only [E.touch]; exact List.mem_append_left _ z)) (fun S i S' z => ?_) (fun S i S' z => ?_) (sndT c h e0 e1).1 (snd a h e2) (snd b h e3)
      · simp only [E.touch]; exact List.mem_append_right _ (List.mem_append_left _ (ev_slot z))
      · simp only [E.touch]; exact List.mem_append_right _ (List.mem_append_right _ (ev_slot z))
    · cases e
  | .lst es, k, Wx, C, X, x, h, e => by
    unfold chk at e
    split at e
    · unfold ev
      exact s_lst (fun i hi z => hi (by rw [evP_touch] at z; simp only [E.touch]; exact List.mem_append_left _ z)) (fun S os S' z i hi => by simp only [E.touch]; exact List.mem_append_right _ ((evP_slots z).1 i hi)) (sndL es h e).1
    · cases e
  | .tup es, k, Wx, C, X, x, h, e => by
    unfold chk at e
    split at e
    · unfold ev
      exact s_tup (fun i hi z => hi (by rw [evP_touch] at z; simp only [E.touch]; exact List.mem_append_left _ z)) (fun S os S' z i hi => by simp only [E.touch]; exact List.mem_append_right _ ((evP_slots z).1 i hi)) (sndL es h e).1
    · cases e
  | .dct0, k, Wx, C, X, x, h, e => by
    unfold chk at e
    split at e
    · unfold ev; exact s_dct0
    · cases e
  | .dct es, k, Wx, C, X, x, h, e => by
    unfold chk at e
    split at e
    · rename_i kx ks vs p
      simp only [Bool.and_eq_true, decide_eq_true_eq] at e
      obtain ⟨e1, e2⟩ := e
      obtain ⟨a1, a2, a3⟩ := chkKV_len es e2
      unfold ev
      exact PE.pt fun σ H Q q => ⟨_, pe_disp (sndKV es h e2) a2 a3 (fun z => by cases z) e1, rd_dct (by rw [evP_len]; exact a1) (fun i hi z => hi (by rw [evP_touch] at z; simp only [E.touch]; exact List.mem_append_left _ z)) (fun S os S' z i hi => by simp only [E.touch]; exact List.mem_append_right _ ((evP_slots z).1 i hi)) q⟩
    · cases e
  | .keep a, k, Wx, C, X, x, h, e => by
    unfold chk at e
    simp only [Bool.and_eq_true] at e
    unfold ev
    refine s_keep (fun i hi z => hi ?_) (fun S l S' z => ?_) (snd a h e.2)
    · simp only [E.touch]; exact List.mem_append_right _ z
    · simp only [E.touch]
      rcases ev_loc t a S l S' z with z | z
      · rw [z]; simp
      · exact List.mem_append_left _ (List.mem_cons_of_mem _ z)
  | .sortK _ _, k, Wx, C, X, x, h, e => by unfold chk at e; cases e
  | .sub a i, k, Wx, C, X, x, h, e => by
    unfold chk at e
    split at e
    · simp only [Bool.and_eq_true] at e
      obtain ⟨⟨e0, e1⟩, e2⟩ := e
      unfold ev; exact s_sub h.xc (fun i hi => by simpa only [E.touch] using hi) (snd a h e1) (snd i h e2) (ix_of e0)
    · cases e
  | .slice a none none, k, Wx, C, X, x, h, e => by
    unfold chk at e
    split at e
    · rename_i xa l hh p2 pos
      simp only [Bool.and_eq_true] at e
      obtain ⟨⟨e1, e2⟩, e3⟩ := e
      cases l with
      | some l => simp [chkO] at e2
      | none =>
        cases hh with
        | some l => simp [chkO] at e3
        | none =>
          unfold ev
          simp only [evO]
          exact s_slice00 h.xc (fun i hi => by simpa [E.touch, E.touchO] using hi) (snd a h e1)
    · cases e
  | .slice a (some lo) none, k, Wx, C, X, x, h, e => by
    unfold chk at e
    split at e
    · rename_i xa l hh p2 pos
      simp only [Bool.and_eq_true] at e
      obtain ⟨⟨e1, e2⟩, e3⟩ := e
      cases l with
      | none => simp [chkO] at e2
      | some l =>
        cases hh with
        | some l => simp [chkO] at e3
        | none =>
          simp only [chkO] at e2
          unfold ev
          simp only [evO]
          exact s_slice10 h.xc (fun i hi => by simpa [E.touch, E.touchO] using hi) (snd a h e1) (snd lo h e2)
    · cases e
  | .slice a none (some hi), k, Wx, C, X, x, h, e => by
    unfold chk at e
    split at e
    · rename_i xa l hh p2 pos
      simp only [Bool.and_eq_true] at e
      obtain ⟨⟨e1, e2⟩, e3⟩ := e
      cases l with
      | some l => simp [chkO] at e2
      | none =>
        cases hh with
        | none => simp [chkO] at e3
        | some l =>
          simp only [chkO] at e3
          unfold ev
          simp only [evO]
          exact s_slice01 h.xc (fun i hi => by simpa [E.touch, E.touchO] using hi) (snd a h e1) (snd hi h e3)
    · cases e
  | .slice a (some lo) (some hi), k, Wx, C, X, x, h, e => by
    unfold chk at e
    split at e
    · rename_i xa l hh p2 pos
      simp only [Bool.and_eq_true] at e
      obtain ⟨⟨e1, e2⟩, e3⟩ := e
      cases l with
      | none => simp [chkO] at e2
      | some l =>
        cases hh with
        | none => simp [chkO] at e3
        | some l' =>
          simp only [chkO] at e2 e3
          unfold ev
          simp only [evO]
          exact s_slice11 h.xc (fun i hi => by simpa [E.touch, E.touchO] using hi) (snd a h e1) (snd lo h e2) (snd hi h e3)
    · cases e
  | .attr a f, k, Wx, C, X, x, h, e => by
    unfold chk at e
    split at e
    · simp only [Bool.and_eq_true, beq_iff_eq] at e
      obtain ⟨⟨rfl, e1⟩, e2⟩ := e
      unfold ev
      exact s_attr h.cls (fun i hi => by simpa only [E.touch] using hi) (snd a h e2) (super_of e1)
    · cases e
  | .isi a ty, k, Wx, C, X, x, h, e => by
    unfold chk at e
    split at e
    · rename_i n p xa tn q pos
      simp only [Bool.and_eq_true, beq_iff_eq] at e
      obtain ⟨⟨⟨⟨rfl, e1⟩, e2⟩, e4⟩, e5⟩ := e
      obtain ⟨g1, g2⟩ := h.blt e1
      have hcl : ∀ (T : String), T ∈ tysI → ∀ (W : Wd) (x : V) (c : Nat) o fs, W.st = st → RepB W (.ins o c fs) x → t.ct.has c = true → ∃ u, TyX X.K W.H x u ∧ PySem.W.kitOne X.K u (.type T) = some false := fun T hT W x c o fs hst hx hc => isb_of (X := X) (by rw [hst]; exact h.cls) hT hx hc
      unfold ev
      cases ty with
      | cls c =>
        simp only [Bool.and_eq_true, beq_iff_eq] at e2
        obtain ⟨⟨f1, f2⟩, f3⟩ := e2
        exact s_isiC h.cls (fun i hi => by simpa only [E.touch] using hi) (snd a h e5) g1 g2 (h.glo f1) (h.cn _ _ f3) (dbg_of f2).1 (star_of e4)
      | _ =>
        simp only [Bool.and_eq_true, beq_iff_eq] at e2
        obtain ⟨⟨f1, rfl⟩, f3⟩ := e2
        obtain ⟨g3, g4⟩ := h.blt f3
        exact s_isi (hcl _ (by decide)) f1 (fun i hi => by simpa only [E.touch] using hi) (snd a h e5) g1 g2 g3 g4 (by decide +kernel) (by decide +kernel) (by decide +kernel) (star_of e4)
    · cases e
  | .bi b es, k, Wx, C, X, x, h, e => by
    unfold chk at e
    split at e
    · simp only [Bool.and_eq_true, beq_iff_eq] at e
      obtain ⟨⟨rfl, e1⟩, e2⟩ := e
      obtain ⟨g1, g2⟩ := h.blt e1
      obtain ⟨p1, p2, p3⟩ := sndL es h e2
      unfold ev
      exact s_bi h.xc (fun i hi => by rw [evP_touch]; simpa only [E.touch] using hi) g1 g2 p1 (p2 _ _ rfl).1 ((p2 _ _ rfl).2 _).1
    · cases e
  | .bm b a es, k, Wx, C, X, x, h, e => by
    unfold chk at e
    split at e
    · simp only [Bool.and_eq_true, beq_iff_eq] at e
      obtain ⟨⟨⟨⟨⟨rfl, e1⟩, e2⟩, e3⟩, e4⟩, e5⟩ := e
      obtain ⟨p1, p2, p3⟩ := sndL es h e5
      unfold ev
      exact s_bm h.xc (fun i hi => by rw [evP_touch]; simpa only [E.touch] using hi) (snd a h e4) p1 (super_of e1) (p3.few e2) (by simpa using e3) (p2 _ _ rfl).1 ((p2 _ _ rfl).2 _).1
    · cases e
  | .jrev a e0, k, Wx, C, X, x, h, e => by
    unfold chk at e
    split at e
    · simp only [Bool.and_eq_true, beq_iff_eq] at e
      obtain ⟨⟨⟨⟨⟨⟨⟨rfl, rfl⟩, e1⟩, e2⟩, e3⟩, e4⟩, e5⟩, e6⟩ := e
      obtain ⟨g1, g2⟩ := h.blt e1
      unfold ev
      exact s_jrev h.xc (fun i hi => by simpa only [E.touch] using hi) (snd a h e5) (snd e0 h e6) g1 g2 (star_of e4) (super_of e2) (by simpa using e3)
    · cases e
  | .mm b a es, k, Wx, C, X, x, h, e => by
    unfold chk at e
    split at e
    · rename_i xo n apos xs cpos
      simp only [Bool.and_eq_true, beq_iff_eq] at e
      obtain ⟨⟨⟨⟨rfl, e1⟩, e3⟩, e4⟩, e5⟩ := e
      unfold ev
      have hloc : ∀ S l S', ev t a S = .ok (.loc l) S' → rootT l.root ∈ (E.mm b a es).touch := fun S l S' z => by
        simp only [E.touch, List.mem_append, List.mem_cons]
        rcases ev_loc t a S l S' z with z | z
        · exact .inl (.inl (.inl (.inl z)))
        · exact .inl (.inl (.inl (.inr z)))
      cases xs with
      | nil =>
        simp only [Bool.and_eq_true] at e5
        cases es with
        | cons y ys => simp at e5
        | nil =>
          simp only [evP]
          refine s_mm0 e5.1 (fun i hi z => hi ?_) hloc (snd a h e4) (super_of e1) (by simpa using e3)
          simp only [E.touch, List.mem_append, List.mem_cons]
          exact .inl (.inl (.inr z))
      | cons y ys =>
        simp only [Bool.and_eq_true] at e5
        obtain ⟨⟨e5, e6⟩, e7⟩ := e5
        obtain ⟨p1, p2, p3⟩ := sndL es h e7
        refine s_mm e5 (fun i hi z => hi ?_) hloc (fun S os S' z i hi => ?_) (snd a h e4) p1 (super_of e1) (p3.few e6) (by simpa using e3) (p2 _ _ rfl).1 ((p2 _ _ rfl).2 _).1
        · rw [evP_touch] at z
          simp only [E.touch, List.mem_append, List.mem_cons] at z ⊢
          rcases z with z | z
          · exact .inl (.inl (.inr z))
          · exact .inl (.inr z)
        · simp only [E.touch, List.mem_append, List.mem_cons]
          exact .inr ((evP_slots z).1 i hi)
    · cases e
  | .call f es, k, Wx, C, X, x, h, e => by
    unfold chk at e
    split at e
    · rename_i n p xs pos
      simp only [Bool.and_eq_true, beq_iff_eq] at e
      obtain ⟨⟨⟨e1, e2⟩, e3⟩, e4⟩ := e
      obtain ⟨a, m1, m2⟩ := h.fns _ _ e3
      obtain ⟨p1, p2, p3⟩ := sndL es h e4
      obtain ⟨d1, d2⟩ := dbg_of e2
      unfold ev
      have hn : none ∈ (E.call f es).touch := by simp [E.touch]
      cases xs with
      | nil =>
        cases es with
        | nil => simp only [evP]; exact s_call0 m2 (h.room.mono (Nat.le_succ _)) (h.glo e1) m1 h.tk d1 hn
        | cons e es => simp [chkL] at e4
      | cons y ys =>
        exact s_call m2 (h.room.mono (Nat.le_succ _)) (h.glo e1) m1 h.tk p1 d1 (p2 _ _ rfl).1 ((p2 _ _ rfl).2 _).1 (fun i hi z => hi (by rw [evP_touch] at z; simp only [E.touch]; exact List.mem_append_right _ z)) hn
          (fun S os S' z => ⟨fun i hi => by simp only [E.touch]; exact List.mem_append_left _ (List.mem_cons_of_mem _ ((evP_slots z).1 i hi)), by rw [evP_len]; exact (evP_slots z).2⟩)
    · cases e
  | .mk c es, k, Wx, C, X, x, h, e => by
    unfold chk at e
    split at e
    · rename_i n p xs pos
      simp only [Bool.and_eq_true, beq_iff_eq] at e
      obtain ⟨⟨⟨⟨e1, e2⟩, e3⟩, e0⟩, e4⟩ := e
      rw [← h.ct] at e0
      obtain ⟨f, hf⟩ := Option.isSome_iff_exists.mp e0
      have mk := h.mks c f hf
      obtain ⟨p1, p2, p3⟩ := sndL es h e4
      obtain ⟨d1, d2⟩ := dbg_of e2
      unfold ev
      have hn : none ∈ (E.mk c es).touch := by simp [E.touch]
      cases xs with
      | nil =>
        cases es with
        | nil => simp only [evP]; exact s_mk0 hf mk h.room (h.glo e1) (h.cn _ _ e3) h.tk d1 hn
        | cons e es => simp [chkL] at e4
      | cons y ys =>
        exact s_mk hf mk h.room (h.glo e1) (h.cn _ _ e3) h.tk p1 d1 (p2 _ _ rfl).1 ((p2 _ _ rfl).2 _).1 (fun i hi z => hi (by rw [evP_touch] at z; simp only [E.touch]; exact List.mem_append_right _ z)) hn
          (fun S os S' z => ⟨fun i hi => by simp only [E.touch]; exact List.mem_append_left _ (List.mem_cons_of_mem _ ((evP_slots z).1 i hi)), by rw [evP_len]; exact (evP_slots z).2⟩)
    · cases e
  | .meth a m es, k, Wx, C, X, x, h, e => by
    unfold chk at e
    split at e
    · rename_i xo n apos xs cpos
      simp only [Bool.and_eq_true, beq_iff_eq] at e
      obtain ⟨⟨⟨⟨⟨⟨rfl, e1⟩, e2⟩, e3⟩, e0⟩, e4⟩, e5⟩ := e
      rw [← h.ct] at e0
      obtain ⟨p1, p2, p3⟩ := sndL es h e5
      unfold ev
      have hn : none ∈ (E.meth a n es).touch := by simp [E.touch]
      have ht := meth_tree (pos := cpos) (m := n) (super_of e1) (p3.few0 (by simpa using e2)) (by simpa using e3)
      have hloc : ∀ S l S', ev t a S = .ok (.loc l) S' → LocIn (E.meth a n es).touch l := fun S l S' z => by
        rcases ev_loc t a S l S' z with z | z
        · exact .inl z
        · right
          simp only [E.touch, List.mem_append, List.mem_cons]
          exact .inl (.inl (.inl (.inr z)))
      cases xs with
      | nil =>
        cases es with
        | nil =>
          simp only [evP]
          refine s_meth0 h.cls (hasM_of e0) (fun c f => h.mts c n f) (h.room.mono (Nat.le_succ _)) h.tk (snd a h e4) ht (fun i hi z => hi ?_) hn hloc
          simp only [E.touch, List.mem_append, List.mem_cons]
          exact .inl (.inl (.inr z))
        | cons e es => simp [chkL] at e5
      | cons y ys =>
        refine s_meth h.cls (hasM_of e0) (fun c f => h.mts c n f) (h.room.mono (Nat.le_succ _)) h.tk (snd a h e4) p1 (p2 _ _ rfl).1 ((p2 _ _ rfl).2 _).1 ht (fun i hi z => hi ?_) hn hloc
          (fun S os S' z => ⟨fun i hi => by simp only [E.touch, List.mem_append, List.mem_cons]; exact .inl (.inr ((evP_slots z).1 i hi)), by rw [evP_len]; exact (evP_slots z).2⟩)
        rw [evP_touch] at z
        simp only [E.touch, List.mem_append, List.mem_cons] at z ⊢
        rcases z with z | z
        · exact .inl (.inl (.inr z))
        · exact .inr z
    · cases e
  | .comp g s none el, k, Wx, C, X, x, h, e => by
    unfold chk at e
    split at e
    · rename_i xe tg iter ifs scope pos
      simp only [Bool.and_eq_true] at e
      obtain ⟨⟨⟨⟨⟨⟨e1, e2⟩, e3⟩, e4⟩, e5⟩, e6⟩, e7⟩ := e
      cases ifs with
      | cons y ys => simp [chkC] at e6
      | nil =>
        unfold ev
        refine s_comp (Ts := s.touch) (Tc := []) (Te := el.touch) (nodB_of e1) (fun i hi z => hi ?_) (fun i hi => ?_) (fun S i S' z => ?_) h.xc.calm h.nd (sndS s h e3) (blkOk_by (own := ownOf C g) (by rw [h.N, h.sc]; exact e4)) (by simp [ownOf, Function.comp_def])
          (fun s' H c cl fp => tg_of (h.blk scope s' H cl c fp) e5) (fun s' H c cl fp => yes_of) (fun s' H c cl fp => snd el (h.blk scope s' H cl c fp) e7) (set_of e2)
        · simp only [List.nil_append, List.mem_append] at z
          simp only [E.touch, E.touchO, List.mem_append]
          rcases z with z | z
          · exact .inl (.inl (.inl (.inr z)))
          · exact .inl (.inr z)
        · simp only [E.touch, List.mem_append, List.mem_map]
          exact .inl (.inl (.inl (.inl ⟨i, hi, rfl⟩)))
        · simp only [E.touch, List.mem_append]
          exact .inr (ev_slot z)
    · cases e
  | .comp g s (some c) el, k, Wx, C, X, x, h, e => by
    unfold chk at e
    split at e
    · rename_i xe tg iter ifs scope pos
      simp only [Bool.and_eq_true] at e
      obtain ⟨⟨⟨⟨⟨⟨e1, e2⟩, e3⟩, e4⟩, e5⟩, e6⟩, e7⟩ := e
      match ifs, e6 with
      | [], e6 => simp [chkC] at e6
      | _ :: _ :: _, e6 => simp [chkC] at e6
      | [xc], e6 =>
        simp only [chkC, Bool.and_eq_true] at e6
        unfold ev
        refine s_comp (Ts := s.touch) (Tc := c.touch) (Te := el.touch) (nodB_of e1) (fun i hi z => hi ?_) (fun i hi => ?_) (fun S i S' z => ?_) h.xc.calm h.nd (sndS s h e3) (blkOk_by (own := ownOf C g) (by rw [h.N, h.sc]; exact e4)) (by simp [ownOf, Function.comp_def])
          (fun s' H cc cl fp => tg_of (h.blk scope s' H cl cc fp) e5) (fun s' H cc cl fp => pts_one (sndT c (h.blk scope s' H cl cc fp) e6.1 e6.2).1) (fun s' H cc cl fp => snd el (h.blk scope s' H cl cc fp) e7) (set_of e2)
        · simp only [List.mem_append] at z
          simp only [E.touch, E.touchO, List.mem_append]
          rcases z with z | z | z
          · exact .inl (.inl (.inl (.inr z)))
          · exact .inl (.inl (.inr z))
          · exact .inl (.inr z)
        · simp only [E.touch, List.mem_append, List.mem_map]
          exact .inl (.inl (.inl (.inl ⟨i, hi, rfl⟩)))
        · simp only [E.touch, List.mem_append]
          exact .inr (ev_slot z)
    · cases e
theorem sndKV {st : Sta} {t : Tab} : ∀ (es : List E) {k : Nat} {Wx : WX} {C : CC} {X : Cx} {ks : List (Option Expr)} {vs : List Expr} {pos : Pos}, Okc st t k Wx C X → chkKV C es ks vs = true → PPs X pos ks vs (trP st Wx (evP t es))
  | [], k, Wx, C, X, ks, vs, pos, h, e => by
    unfold chkKV at e
    split at e
    · unfold evP; exact pps_nil
    · cases e
  | [_], k, Wx, C, X, ks, vs, pos, h, e => by unfold chkKV at e; cases e
  | ek :: ev :: es, k, Wx, C, X, ks, vs, pos, h, e => by
    unfold chkKV at e
    split at e
    · simp only [Bool.and_eq_true] at e
      obtain ⟨⟨e1, e2⟩, e3⟩ := e
      simp only [evP, trP]
      exact pps_cons (snd ek h e1) (snd ev h e2) (sndKV es h e3)
    · cases e
theorem sndL {st : Sta} {t : Tab} : ∀ (es : List E) {k : Nat} {Wx : WX} {C : CC} {X : Cx} {xs : List Expr}, Okc st t k Wx C X → chkL C es xs = true → PA X xs (tA st Wx (evP t es)) ∧ (∀ y ys, xs = y :: ys → starEach (y :: ys) X.env = (false, eval y X.env) :: starEach ys X.env ∧ Plain X ys) ∧ Plain X xs
  | [], k, Wx, C, X, xs, h, e => by
    unfold chkL at e
    split at e
    · unfold evP; exact ⟨pa_none, (fun y ys z => nomatch z), Plain.nil⟩
    · cases e
  | e0 :: es, k, Wx, C, X, xs, h, e => by
    unfold chkL at e
    split at e
    · simp only [Bool.and_eq_true] at e
      obtain ⟨⟨e1, e2⟩, e3⟩ := e
      obtain ⟨p1, p2, p3⟩ := sndL es h e3
      unfold evP
      exact ⟨pa_of (snd e0 h e2) p1 e1, fun y ys z => by cases z; exact ⟨star_of e1 _, p3⟩, p3.cons e1⟩
    · cases e
theorem sndT {st : Sta} {t : Tab} : ∀ (e : E) {k : Nat} {Wx : WX} {C : CC} {X : Cx} {x : Expr}, Okc st t k Wx C X → okT e = true → chk C e x = true → PT X x (tT st Wx e.touch (xTest (ev t e))) ∧ ((∃ op vs p, x = .BoolOp op vs p) → PW X x (tT st Wx e.touch (xTest (ev t e))))
  | .ife _ _ _, k, Wx, C, X, x, h, o, e => by simp [okT] at o
  | .notE a, k, Wx, C, X, x, h, o, e => by
    unfold chk at e
    split at e
    · simp only [okT] at o
      unfold ev
      simp only [E.touch]
      exact ⟨t_not (sndT a h o e).1, fun ⟨_, _, _, z⟩ => by cases z⟩
    · cases e
  | .andE a b, k, Wx, C, X, x, h, o, e => by
    unfold chk at e
    split at e
    · rename_i xa xb xr pos
      simp only [okT, Bool.and_eq_true] at o
      simp only [Bool.and_eq_true] at e
      obtain ⟨e1, e2⟩ := e
      have hw : PW X (.BoolOp .And (xa :: xb :: xr) pos) (tT st Wx (E.andE a b).touch (xTest (ev t (.andE a b)))) := by
        unfold ev
        split at e2
        · exact t_and (fun i hi => by simpa only [E.touch] using hi) (sndT a h o.1 e1).1 (pw_and1 (sndT b h o.2 e2).1)
        · exact t_and (fun i hi => by simpa only [E.touch] using hi) (sndT a h o.1 e1).1 ((sndT b h o.2 e2).2 ⟨_, _, _, rfl⟩)
      exact ⟨hw.pt, fun _ => hw⟩
    · cases e
  | .orE a b, k, Wx, C, X, x, h, o, e => by
    unfold chk at e
    split at e
    · rename_i xa xb xr pos
      simp only [okT, Bool.and_eq_true] at o
      simp only [Bool.and_eq_true] at e
      obtain ⟨e1, e2⟩ := e
      have hw : PW X (.BoolOp .Or (xa :: xb :: xr) pos) (tT st Wx (E.orE a b).touch (xTest (ev t (.orE a b)))) := by
        unfold ev
        split at e2
        · exact t_or (fun i hi => by simpa only [E.touch] using hi) (sndT a h o.1 e1).1 (pw_or1 (sndT b h o.2 e2).1)
        · exact t_or (fun i hi => by simpa only [E.touch] using hi) (sndT a h o.1 e1).1 ((sndT b h o.2 e2).2 ⟨_, _, _, rfl⟩)
      exact ⟨hw.pt, fun _ => hw⟩
    · cases e
  | .cmp op a b, k, Wx, C, X, x, h, o, e => by
    unfold chk at e
    split at e
    · simp only [Bool.and_eq_true, decide_eq_true_eq, Bool.not_eq_true'] at e
      obtain ⟨⟨⟨rfl, e1⟩, e2⟩, e3⟩ := e
      unfold ev
      exact ⟨t_cmp h.xc (fun i hi => by simpa only [E.touch] using hi) (snd a h e1) (snd b h e2) e3, fun ⟨_, _, _, z⟩ => by cases z⟩
    · cases e
  | .isN a, k, Wx, C, X, x, h, o, e => by
    unfold chk at e
    split at e
    · unfold ev
      exact ⟨t_isN (fun i hi => by simpa only [E.touch] using hi) (snd a h e), fun ⟨_, _, _, z⟩ => by cases z⟩
    · cases e
  | .notN a, k, Wx, C, X, x, h, o, e => by
    unfold chk at e
    split at e
    · unfold ev
      exact ⟨t_notN (fun i hi => by simpa only [E.touch] using hi) (snd a h e), fun ⟨_, _, _, z⟩ => by cases z⟩
    · cases e
  | .chain o1 o2 a b c, k, Wx, C, X, x, h, o, e => by
    unfold chk at e
    split at e
    · simp only [Bool.and_eq_true, decide_eq_true_eq, Bool.not_eq_true'] at e
      obtain ⟨⟨⟨⟨⟨rfl, rfl⟩, e1⟩, e2⟩, e3⟩, e4⟩ := e
      unfold ev
      exact ⟨t_chain h.xc (fun i hi => by simpa only [E.touch] using hi) (snd a h e1) (snd b h e2) (snd c h e3) e4, fun ⟨_, _, _, z⟩ => by cases z⟩
    · cases e
  | .non, k, Wx, C, X, x, h, o, e => by
    have p := snd .non h e
    unfold chk at e
    split at e
    · exact ⟨s_truth h.xc p (fun _ => rfl), fun ⟨_, _, _, z⟩ => by cases z⟩
    · cases e
  | .bl b, k, Wx, C, X, x, h, o, e => by
    have p := snd (.bl b) h e
    unfold chk at e
    split at e
    · exact ⟨s_truth h.xc p (fun _ => rfl), fun ⟨_, _, _, z⟩ => by cases z⟩
    · cases e
  | .int b, k, Wx, C, X, x, h, o, e => by
    have p := snd (.int b) h e
    unfold chk at e
    split at e
    · exact ⟨s_truth h.xc p (fun _ => rfl), fun ⟨_, _, _, z⟩ => by cases z⟩
    · cases e
  | .str b, k, Wx, C, X, x, h, o, e => by
    have p := snd (.str b) h e
    unfold chk at e
    split at e
    · exact ⟨s_truth h.xc p (fun _ => rfl), fun ⟨_, _, _, z⟩ => by cases z⟩
    · cases e
  | .var b, k, Wx, C, X, x, h, o, e => by
    have p := snd (.var b) h e
    unfold chk at e
    split at e
    · exact ⟨s_truth h.xc p (fun _ => rfl), fun ⟨_, _, _, z⟩ => by cases z⟩
    · cases e
  | .glob n d, k, Wx, C, X, x, h, o, e => by
    have p := snd (.glob n d) h e
    unfold chk at e
    split at e
    · exact ⟨s_truth h.xc p (fun _ => rfl), fun ⟨_, _, _, z⟩ => by cases z⟩
    · cases e
  | .bin op a b, k, Wx, C, X, x, h, o, e => by
    have p := snd (.bin op a b) h e
    unfold chk at e
    split at e
    · exact ⟨s_truth h.xc p (fun _ => rfl), fun ⟨_, _, _, z⟩ => by cases z⟩
    · cases e
  | .neg a, k, Wx, C, X, x, h, o, e => by
    have p := snd (.neg a) h e
    unfold chk at e
    split at e
    · exact ⟨s_truth h.xc p (fun _ => rfl), fun ⟨_, _, _, z⟩ => by cases z⟩
    · cases e
  | .lst es, k, Wx, C, X, x, h, o, e => by
    have p := snd (.lst es) h e
    unfold chk at e
    split at e
    · exact ⟨s_truth h.xc p (fun _ => rfl), fun ⟨_, _, _, z⟩ => by cases z⟩
    · cases e
  | .tup es, k, Wx, C, X, x, h, o, e => by
    have p := snd (.tup es) h e
    unfold chk at e
    split at e
    · exact ⟨s_truth h.xc p (fun _ => rfl), fun ⟨_, _, _, z⟩ => by cases z⟩
    · cases e
  | .dct0, k, Wx, C, X, x, h, o, e => by
    have p := snd .dct0 h e
    unfold chk at e
    split at e
    · exact ⟨s_truth h.xc p (fun _ => rfl), fun ⟨_, _, _, z⟩ => by cases z⟩
    · cases e
  | .sub a i, k, Wx, C, X, x, h, o, e => by
    have p := snd (.sub a i) h e
    unfold chk at e
    split at e
    · exact ⟨s_truth h.xc p (fun _ => rfl), fun ⟨_, _, _, z⟩ => by cases z⟩
    · cases e
  | .slice a lo hi, k, Wx, C, X, x, h, o, e => by
    have p := snd (.slice a lo hi) h e
    unfold chk at e
    split at e
    · exact ⟨s_truth h.xc p (fun _ => rfl), fun ⟨_, _, _, z⟩ => by cases z⟩
    · cases e
  | .keep _, k, Wx, C, X, x, h, o, e => by simp [okT] at o
  | .sortK _ _, k, Wx, C, X, x, h, o, e => by unfold chk at e; cases e
  | .dct es, k, Wx, C, X, x, h, o, e => by
    have p := snd (.dct es) h e
    unfold chk at e
    split at e
    · exact ⟨s_truth h.xc p (fun _ => rfl), fun ⟨_, _, _, z⟩ => by cases z⟩
    · cases e
  | .attr a f, k, Wx, C, X, x, h, o, e => by
    have p := snd (.attr a f) h e
    unfold chk at e
    split at e
    · exact ⟨s_truth h.xc p (fun _ => rfl), fun ⟨_, _, _, z⟩ => by cases z⟩
    · cases e
  | .isi a ty, k, Wx, C, X, x, h, o, e => by
    have p := snd (.isi a ty) h e
    unfold chk at e
    split at e
    · exact ⟨s_truth h.xc p (fun _ => rfl), fun ⟨_, _, _, z⟩ => by cases z⟩
    · cases e
  | .bi b es, k, Wx, C, X, x, h, o, e => by
    have p := snd (.bi b es) h e
    unfold chk at e
    split at e
    · exact ⟨s_truth h.xc p (fun _ => rfl), fun ⟨_, _, _, z⟩ => by cases z⟩
    · cases e
  | .bm b a es, k, Wx, C, X, x, h, o, e => by
    have p := snd (.bm b a es) h e
    unfold chk at e
    split at e
    · exact ⟨s_truth h.xc p (fun _ => rfl), fun ⟨_, _, _, z⟩ => by cases z⟩
    · cases e
  | .jrev a e0, k, Wx, C, X, x, h, o, e => by
    have p := snd (.jrev a e0) h e
    unfold chk at e
    split at e
    · exact ⟨s_truth h.xc p (fun _ => rfl), fun ⟨_, _, _, z⟩ => by cases z⟩
    · cases e
  | .mm b a es, k, Wx, C, X, x, h, o, e => by
    have p := snd (.mm b a es) h e
    unfold chk at e
    split at e
    · exact ⟨s_truth h.xc p (fun _ => rfl), fun ⟨_, _, _, z⟩ => by cases z⟩
    · cases e
  | .call f es, k, Wx, C, X, x, h, o, e => by
    have p := snd (.call f es) h e
    unfold chk at e
    split at e
    · exact ⟨s_truth h.xc p (fun _ => rfl), fun ⟨_, _, _, z⟩ => by cases z⟩
    · cases e
  | .mk c es, k, Wx, C, X, x, h, o, e => by
    have p := snd (.mk c es) h e
    unfold chk at e
    split at e
    · exact ⟨s_truth h.xc p (fun _ => rfl), fun ⟨_, _, _, z⟩ => by cases z⟩
    · cases e
  | .meth a m es, k, Wx, C, X, x, h, o, e => by
    have p := snd (.meth a m es) h e
    unfold chk at e
    split at e
    · exact ⟨s_truth h.xc p (fun _ => rfl), fun ⟨_, _, _, z⟩ => by cases z⟩
    · cases e
  | .comp g s c el, k, Wx, C, X, x, h, o, e => by
    have p := snd (.comp g s c el) h e
    unfold chk at e
    split at e
    · exact ⟨s_truth h.xc p (fun _ => rfl), fun ⟨_, _, _, z⟩ => by cases z⟩
    · cases e
theorem sndS {st : Sta} {t : Tab} : ∀ (s : Src) {k : Nat} {Wx : WX} {C : CC} {X : Cx} {tg x : Expr}, Okc st t k Wx C X → chkSrc C s tg x = true → PI X tg x (tI st Wx s.touch (evSrc t s))
  | .seq e0, k, Wx, C, X, tg, x, h, e => by
    unfold chkSrc at e
    unfold evSrc
    refine s_seq h.xc (fun i hi z => hi ?_) (fun S l S' z => ?_) (snd e0 h e)
    · simp only [Src.touch]; exact List.mem_append_right _ z
    · simp only [Src.touch]
      rcases ev_loc t e0 S l S' z with z | z
      · rw [z]; simp
      · exact List.mem_append_left _ (List.mem_cons_of_mem _ z)
  | .rng1 e0, k, Wx, C, X, tg, x, h, e => by
    unfold chkSrc at e
    split at e
    · simp only [Bool.and_eq_true, beq_iff_eq] at e
      obtain ⟨⟨⟨rfl, e1⟩, e2⟩, e3⟩ := e
      obtain ⟨g1, g2⟩ := h.blt e1
      unfold evSrc; simp only [Src.touch]
      exact s_rng1 g1 g2 (snd e0 h e3) (star_of e2)
    · cases e
  | .rng2 a b, k, Wx, C, X, tg, x, h, e => by
    unfold chkSrc at e
    split at e
    · simp only [Bool.and_eq_true, beq_iff_eq] at e
      obtain ⟨⟨⟨⟨⟨rfl, e1⟩, e2⟩, e3⟩, e4⟩, e5⟩ := e
      obtain ⟨g1, g2⟩ := h.blt e1
      unfold evSrc
      exact s_rng2 (fun i hi => by simpa only [Src.touch] using hi) g1 g2 (snd a h e4) (snd b h e5) (star_of e2) (star_of e3)
    · cases e
  | .enum e0, k, Wx, C, X, tg, x, h, e => by
    unfold chkSrc at e
    split at e
    · simp only [Bool.and_eq_true, beq_iff_eq] at e
      obtain ⟨⟨⟨rfl, e1⟩, e2⟩, e3⟩ := e
      obtain ⟨g1, g2⟩ := h.blt e1
      unfold evSrc
      refine s_enum (fun i hi z => hi ?_) (fun S l S' z => ?_) g1 g2 (snd e0 h e3) (star_of e2)
      · simp only [Src.touch]; exact List.mem_append_right _ z
      · simp only [Src.touch]
        rcases ev_loc t e0 S l S' z with z | z
        · rw [z]; simp
        · exact List.mem_append_left _ (List.mem_cons_of_mem _ z)
    · cases e
  | .zip a b, k, Wx, C, X, tg, x, h, e => by
    unfold chkSrc at e
    split at e
    · simp only [Bool.and_eq_true, beq_iff_eq] at e
      obtain ⟨⟨⟨⟨⟨rfl, e1⟩, e2⟩, e3⟩, e4⟩, e5⟩ := e
      obtain ⟨g1, g2⟩ := h.blt e1
      unfold evSrc
      refine s_zip (fun i hi z => hi ?_) (fun S l S' z => ?_) (fun S l S' z => ?_) g1 g2 (snd a h e4) (snd b h e5) (star_of e2) (star_of e3)
      · simp only [Src.touch, List.mem_append, List.mem_cons] at z ⊢
        rcases z with z | z
        · exact .inl (.inl (.inr z))
        · exact .inr z
      · simp only [Src.touch, List.mem_append, List.mem_cons]
        rcases ev_loc t a S l S' z with z | z
        · exact .inl (.inl (.inl (.inl z)))
        · exact .inl (.inl (.inl (.inr z)))
      · simp only [Src.touch, List.mem_append, List.mem_cons]
        rcases ev_loc t b S l S' z with z | z
        · exact .inl (.inl (.inl (.inl z)))
        · exact .inl (.inr z)
    · cases e
  | .rev e0, k, Wx, C, X, tg, x, h, e => by
    unfold chkSrc at e
    split at e
    · simp only [Bool.and_eq_true, beq_iff_eq] at e
      obtain ⟨⟨⟨rfl, e1⟩, e2⟩, e3⟩ := e
      obtain ⟨g1, g2⟩ := h.blt e1
      unfold evSrc
      refine s_rev (fun i hi z => hi ?_) (fun S l S' z => ?_) g1 g2 (snd e0 h e3) (star_of e2)
      · simp only [Src.touch]; exact List.mem_append_right _ z
      · simp only [Src.touch]
        rcases ev_loc t e0 S l S' z with z | z
        · rw [z]; simp
        · exact List.mem_append_left _ (List.mem_cons_of_mem _ z)
    · cases e
end
end RB
end

section
set_option Elab.async false
set_option maxRecDepth 100000
set_option linter.unusedVariables false
set_option maxHeartbeats 20000000
namespace RB
open PySem L2

theorem sole_tup {es : List Expr} {kk : Nat} {p : Pos} {x : Expr} {l : Nat} {env : Env} : swapsWithSole [.Tuple es kk p] x l env = pure false := by cases x <;> rfl
theorem sole_sub {o i : Expr} {p : Pos} {x : Expr} {l : Nat} {env : Env} : swapsWithSole [.Subscript o i p] x l env = pure false := by cases x <;> rfl
theorem stores_sub {o i : Expr} {p : Pos} {x : Expr} {env : Env} : swappedStores [.Subscript o i p] x env = pure none := by cases x <;> rfl
theorem stores_tup {es : List Expr} {kk : Nat} {p : Pos} {x : Expr} {env : Env} (h : noTuple x = true) : swappedStores [.Tuple es kk p] x env = pure none := by
  cases x <;> first | rfl | cases h
theorem asg_sub {o i : Expr} {p : Pos} {env : Env} (h : noSlice i = true) (v : Value) : assign (.Subscript o i p) env v = (do
      let ov ← holding [v] (eval o env)
      let iv ← holding [v, ov] (eval i env)
      standAt p
      holding [v, ov, iv] (setItem ov iv v)
      release [v, ov, iv] []) := by
  cases i <;> first | rfl | cases h
theorem OutS.quiet {Wx Wx' : WX} {np : Nat} {W : Wd} {σ : St} {Fs : List (List Addr)} {G : List Addr} {α : Type} {r : R α} {K : α → DS → Prop} (h : OutS Wx np W σ Fs G (noX r) K) : OutS Wx' np W σ Fs G r K := by
  cases r with
  | ok a S => exact h
  | exc x S => exact h.elim
  | fail => exact h.elim
theorem st_try {st : Sta} {Wx : WX} {X : Cx} {np : Nat} {f : M Fl} {body : List Stmt} {h0 : ExceptHandler} {hs : List ExceptHandler} {pos : Pos} (hb : PSs X.nox body (tS st WF np f)) : PS X (.Try body (h0 :: hs) [] [] pos) (tS st Wx np fun S => noX (f S)) := by
  refine PS.pt fun D σ H h => ⟨_, ps_try_thru0 hb, ?_⟩
  obtain ⟨W, S, Fs, G, hH, hc, sr, sp, h⟩ := h
  exact ⟨W, S, Fs, G, hH, hc, sr, sp, h.quiet⟩
theorem par_of {st : Sta} {t : Tab} {k : Nat} {Wx : WX} {C : CC} {X : Cx} {x y : Str} {px py pt pt2 : Pos} {kt k2 : Nat} {xa xb : Expr} (h : Okc st t k Wx C X) (e : parB C x y px py xa xb = true) :
    swappedStores [.Tuple [.Name x px, .Name y py] kt pt] (.Tuple [xa, xb] k2 pt2) X.env = pure (some [x, y]) ∧ X.env.scope.names.lookup x = some .local ∧ X.env.scope.names.lookup y = some .local ∧ noStar xa = true ∧ noStar xb = true := by
  simp only [parB, Bool.and_eq_true, Bool.not_eq_true', beq_iff_eq] at e
  obtain ⟨⟨⟨⟨⟨⟨⟨⟨w1, w2⟩, w3⟩, w4⟩, w5⟩, w6⟩, w7⟩, w8⟩, w9⟩ := e
  have hx : X.env.scope.names.lookup x = some .local := by rw [h.sc]; exact w2
  have hy : X.env.scope.names.lookup y = some .local := by rw [h.sc]; exact w3
  have hk : X.env.scope.kind = .function := by
    rw [h.sc]
    split at w1
    · assumption
    · cases w1
  refine ⟨?_, hx, hy, w6, w7⟩
  have hbk : X.env.blockKind = .function := by unfold Env.blockKind; rw [hk]; rfl
  have hkx : X.env.kindOf x = some .local := hx
  have hky : X.env.kindOf y = some .local := hy
  have hne : ¬ y = x := fun z => by subst z; simp at w5
  have hed : [x, y].eraseDups.length = 2 := by
    have : (y == x) = false := by simpa using hne
    simp [List.eraseDups_cons, this]
  have hns : ∀ e ∈ [xa, xb], noStar e = true := fun e he => by
    rcases List.mem_cons.mp he with rfl | he
    · exact w6
    · cases List.mem_singleton.mp he; exact w7
  unfold swappedStores
  refine (if_neg ?_).trans ((if_neg ?_).trans ?_)
  · rw [hbk]; simp
  · intro z
    obtain ⟨e, he, hf⟩ := List.any_eq_true.mp z
    have := hns e he
    cases e <;> first | (cases this; done) | (cases hf; done)
  · simp only [List.head?_cons, Option.map_some, Option.getD_some, Expr.pos, List.filterMap_cons, List.filterMap_nil, hkx, hky, w4, beq_self_eq_true, Bool.and_self, if_true, List.length_cons, List.length_nil, hed, w8, w9]
    rfl
mutual
theorem sndX {st : Sta} {t : Tab} {k : Nat} {C : CC} {np : Nat} : ∀ (s : S) {Wx : WX} {X : Cx} {x : Stmt}, Okc st t k Wx C X → PassesOwn (model X.prog X.w) X.A X.env X.xe → chkS C s x = true → PS X x (tS st Wx np (exec t np s))
  | .expr e0, Wx, X, x, h, hp, e => by
    unfold chkS at e
    split at e
    · simp only [Bool.and_eq_true] at e
      unfold exec; exact st_expr (snd e0 h e.2) (comp_of e.1)
    · cases e
  | .asg (.name i) e0, Wx, X, x, h, hp, e => by
    unfold chkS at e
    split at e
    · rename_i xt xe p
      cases xt with
      | Name y py =>
        simp only [Bool.and_eq_true, Bool.or_eq_true] at e
        obtain ⟨⟨⟨e1, e2⟩, e3⟩, e4⟩ := e
        obtain ⟨l1, l2⟩ := h.loc e2
        unfold exec
        rcases e4 with e4 | e4
        · exact st_asg (V0 := e0.rootT) (fun S i S' z => ev_slot z) h.nd (h.slot e1) l1 (snd e0 h e3) (comp_of e4) l2
        · cases xe with
          | ListComp xe gs scope pos =>
            simp only [swB, Bool.and_eq_true, Bool.not_eq_true', beq_iff_eq] at e4
            obtain ⟨⟨⟨w1, w2⟩, w3⟩, w4⟩ := e4
            have hk : X.env.scope.kind = .function := by
              rw [h.sc]
              split at w1
              · assumption
              · cases w1
            have hyl : X.env.scope.names.lookup y = some .local := by rw [h.sc]; exact w2
            have hsw : ∀ gs l, swapsWith (.ListComp xe gs scope pos) (some (.Name y py)) l X.env = pure true := fun gs l => sw_true hk hyl (by simpa using w3) w4
            cases e0 with
            | comp g s c el =>
              unfold chk at e3
              split at e3
              · rename_i xe' tg iter ifs scope' pos' hx
                cases hx
                simp only [Bool.and_eq_true] at e3
                obtain ⟨⟨⟨⟨⟨⟨f1, f2⟩, f3⟩, f4⟩, f5⟩, f6⟩, f7⟩ := e3
                cases c with
                | none =>
                  cases ifs with
                  | cons y ys => simp [chkC] at f6
                  | nil =>
                    unfold ev
                    refine st_setLc (T := (E.comp g s none el).touch) (Ts := s.touch) (Tc := []) (Te := el.touch) (nodB_of f1) (fun i hi z => hi ?_) (fun i hi => ?_) (fun S i S' z => ?_) h.xc.calm h.nd (h.slot e1) hyl (hsw _ _) (sndS s h f3) (blkOk_by (own := ownOf C g) (by rw [h.N, h.sc]; exact f4)) (by simp [ownOf, Function.comp_def])
                      (fun s' H c cl fp => tg_of (h.blk scope s' H cl c fp) f5) (fun s' H c cl fp => yes_of) (fun s' H c cl fp => snd el (h.blk scope s' H cl c fp) f7) (set_of f2)
                    · simp only [List.nil_append, List.mem_append] at z
                      simp only [E.touch, E.touchO, List.mem_append]
                      rcases z with z | z
                      · exact .inl (.inl (.inl (.inr z)))
                      · exact .inl (.inr z)
                    · simp only [E.touch, List.mem_append, List.mem_map]
                      exact .inl (.inl (.inl (.inl ⟨i, hi, rfl⟩)))
                    · simp only [E.touch, List.mem_append]
                      exact .inr (ev_slot z)
                | some c =>
                  match ifs, f6 with
                  | [], f6 => simp [chkC] at f6
                  | _ :: _ :: _, f6 => simp [chkC] at f6
                  | [xc], f6 =>
                    simp only [chkC, Bool.and_eq_true] at f6
                    unfold ev
                    refine st_setLc (T := (E.comp g s (some c) el).touch) (Ts := s.touch) (Tc := c.touch) (Te := el.touch) (nodB_of f1) (fun i hi z => hi ?_) (fun i hi => ?_) (fun S i S' z => ?_) h.xc.calm h.nd (h.slot e1) hyl (hsw _ _) (sndS s h f3) (blkOk_by (own := ownOf C g) (by rw [h.N, h.sc]; exact f4)) (by simp [ownOf, Function.comp_def])
                      (fun s' H cc cl fp => tg_of (h.blk scope s' H cl cc fp) f5) (fun s' H cc cl fp => pts_one (sndT c (h.blk scope s' H cl cc fp) f6.1 f6.2).1) (fun s' H cc cl fp => snd el (h.blk scope s' H cl cc fp) f7) (set_of f2)
                    · simp only [List.mem_append] at z
                      simp only [E.touch, E.touchO, List.mem_append]
                      rcases z with z | z | z
                      · exact .inl (.inl (.inl (.inr z)))
                      · exact .inl (.inl (.inr z))
                      · exact .inl (.inr z)
                    · simp only [E.touch, List.mem_append, List.mem_map]
                      exact .inl (.inl (.inl (.inl ⟨i, hi, rfl⟩)))
                    · simp only [E.touch, List.mem_append]
                      exact .inr (ev_slot z)
              · cases e3
            | _ => simp [chk, noComp] at e3
          | _ => simp [swB] at e4
      | _ => simp at e
    · cases e
  | .asg (.tup is) e0, Wx, X, x, h, hp, e => by
    unfold chkS at e
    split at e
    · rename_i xt xe p
      cases xt with
      | Tuple xs kk pp =>
        simp only [Bool.and_eq_true] at e
        obtain ⟨⟨e1, e2⟩, e3⟩ := e
        unfold exec
        exact st_asgTup (V0 := e0.rootT) (fun S i S' z => ev_slot z) (snd e0 h e3) (tg_of (g := .tup is) h (by simpa only [chkTg] using e1)) sole_tup (stores_tup e2)
      | _ => simp at e
    · cases e
  | .asg (.sub o kx) e0, Wx, X, x, h, hp, e => by
    unfold chkS at e
    split at e
    · rename_i xt xe p
      cases xt with
      | Subscript xo xk pp =>
        simp only [Bool.and_eq_true] at e
        obtain ⟨⟨⟨e1, e2⟩, e3⟩, e4⟩ := e
        unfold exec
        exact st_setitem (V0 := e0.rootT) (fun S i S' z => ev_slot z) (snd e0 h e4) (snd o h e2) (snd kx h e3) sole_sub stores_sub (asg_sub e1.1) (comp_of e1.2) h.xc
      | _ => simp at e
    · cases e
  | .asg (.attr o f) e0, Wx, X, x, h, hp, e => by
    unfold chkS at e
    split at e
    · rename_i xt xe p
      cases xt with
      | Attribute xo n pp =>
        simp only [Bool.and_eq_true, beq_iff_eq] at e
        obtain ⟨⟨⟨rfl, e1⟩, e2⟩, e3⟩ := e
        unfold exec
        exact st_attr (V0 := e0.rootT) h.cls (fun S i S' z => ev_slot z) (snd e0 h e3) (snd o h e2) (comp_of e1)
      | _ => simp at e
    · cases e
  | .par i j a b, Wx, X, x, h, hp, e => by
    unfold chkS at e
    split at e
    · simp only [Bool.and_eq_true, Bool.not_eq_true', beq_eq_false_iff_ne] at e
      obtain ⟨⟨⟨⟨⟨e1, e2⟩, e3⟩, e4⟩, e5⟩, e6⟩ := e
      obtain ⟨p1, p2, p3, p4, p5⟩ := par_of h e4
      unfold exec
      exact st_par (V0 := a.rootT ++ b.rootT) (fun S os S' z i hi => by
        obtain ⟨oa, ob, S1, rfl, z1, z2⟩ := evL2 z
        rw [slotsOf_cons] at hi
        rcases List.mem_append.mp hi with hi | hi
        · cases oa with
          | own d => simp [slotsOf] at hi
          | loc l =>
            obtain ⟨rt, pt⟩ := l
            cases rt with
            | reg r => simp [slotsOf] at hi
            | slot j => simp only [slotsOf, List.mem_singleton] at hi; subst hi; exact List.mem_append_left _ (ev_slot z1)
        · cases ob with
          | own d => simp [slotsOf] at hi
          | loc l =>
            obtain ⟨rt, pt⟩ := l
            cases rt with
            | reg r => simp [slotsOf] at hi
            | slot j => simp only [slotsOf, List.mem_singleton] at hi; subst hi; exact List.mem_append_right _ (ev_slot z2)) h.xc.calm h.nd (h.slot e1) (h.slot e2) e3 p2 p3 (pa_of (snd a h e5) (pa_of (snd b h e6) pa_none p5) p4) p1 sole_tup
    · cases e
  | .augS _ _ _ _, Wx, X, x, h, hp, e => by unfold chkS at e; cases e
  | .augA _ _ _ _, Wx, X, x, h, hp, e => by unfold chkS at e; cases e
  | .tryT b, Wx, X, x, h, hp, e => by
    unfold chkS at e
    split at e
    · unfold exec; exact st_try (sndXs b h.nox PassesOwn.never e)
    · cases e
  | .aug i op e0, Wx, X, x, h, hp, e => by
    unfold chkS at e
    split at e
    · simp only [Bool.and_eq_true] at e
      obtain ⟨⟨⟨e1, e2⟩, e3⟩, e4⟩ := e
      obtain ⟨l1, l2⟩ := h.loc e2
      unfold exec
      refine st_aug ?_ h.nd (h.slot e1) l1 (snd e0 h e4) l2
      cases op <;> simp at e3
      · exact .inl ⟨rfl, e3⟩
      · exact .inr ⟨rfl, e3⟩
    · cases e
  | .ife c a b, Wx, X, x, h, hp, e => by
    unfold chkS at e
    split at e
    · simp only [Bool.and_eq_true] at e
      obtain ⟨⟨⟨e0, e1⟩, e2⟩, e3⟩ := e
      unfold exec
      exact st_if (sndT c h e0 e1).1 (sndXs a h hp e2) (sndXs b h hp e3)
    · cases e
  | .whileS c b, Wx, X, x, h, hp, e => by
    unfold chkS at e
    split at e
    · simp only [Bool.and_eq_true] at e
      obtain ⟨⟨e0, e1⟩, e2⟩ := e
      unfold exec
      exact st_while hp (sndT c h e0 e1).1 (sndXs b h hp e2)
    · cases e
  | .forS g s b, Wx, X, x, h, hp, e => by
    unfold chkS at e
    split at e
    · simp only [Bool.and_eq_true] at e
      obtain ⟨⟨⟨e0, e1⟩, e2⟩, e3⟩ := e
      unfold exec
      exact st_for hp h.xc.calm (sndS s h e1) (tg_of h e2) (sndXs b h hp e3) (set_of e0)
    · cases e
  | .ret e0, Wx, X, x, h, hp, e => by
    unfold chkS at e
    split at e
    · unfold exec; exact st_ret (V0 := e0.rootT) (fun S i S' z => ev_slot z) (snd e0 h e)
    · cases e
  | .retN, Wx, X, x, h, hp, e => by
    unfold chkS at e
    split at e
    · unfold exec; exact st_retN
    · cases e
  | .pass, Wx, X, x, h, hp, e => by
    unfold chkS at e
    split at e
    · unfold exec; exact st_pass
    · cases e
  | .brk, Wx, X, x, h, hp, e => by
    unfold chkS at e
    split at e
    · unfold exec; exact st_brk
    · cases e
  | .cont, Wx, X, x, h, hp, e => by
    unfold chkS at e
    split at e
    · unfold exec; exact st_cont
    · cases e
  | .dead, Wx, X, x, h, hp, e => by unfold exec; exact st_dead
theorem sndXs {st : Sta} {t : Tab} {k : Nat} {C : CC} {np : Nat} : ∀ (s : List S) {Wx : WX} {X : Cx} {x : List Stmt}, Okc st t k Wx C X → PassesOwn (model X.prog X.w) X.A X.env X.xe → chkSs C s x = true → PSs X x (tS st Wx np (execs t np s))
  | [], Wx, X, x, h, hp, e => by
    unfold chkSs at e
    split at e
    · unfold execs; exact ss_nil
    · cases e
  | s :: ss, Wx, X, x, h, hp, e => by
    unfold chkSs at e
    split at e
    · simp only [Bool.and_eq_true] at e
      unfold execs; exact ss_cons (sndX s h hp e.1) (sndXs ss h hp e.2)
    · cases e
end
end RB
end

section
set_option Elab.async false
set_option maxRecDepth 100000
set_option linter.unusedVariables false
set_option maxHeartbeats 20000000
namespace RB
open PySem L2

def scB (N ps : List Str) (sc : Scope) : Bool :=
  decide (sc.kind = .function) && !sc.isCoroutine && !sc.isGenerator && decide N.Nodup && decide (N.take ps.length = ps) && ps.all (fun x => decide (sc.names.lookup x = some .local) || decide (sc.names.lookup x = some .cell)) && sc.names.all (fun y => !decide (y.2 = .free))
theorem scB_of {N ps : List Str} {sc : Scope} (h : scB N ps sc = true) : FnScope N ps sc := by
  unfold scB at h
  simp only [Bool.and_eq_true, Bool.not_eq_true', decide_eq_true_eq, List.all_eq_true, Bool.or_eq_true, decide_eq_false_iff_not] at h
  obtain ⟨⟨⟨⟨⟨⟨h1, h2⟩, h3⟩, h4⟩, h5⟩, h6⟩, h7⟩ := h
  exact ⟨h1, h2, h3, h4, h5, h6, h7⟩
/-- a def of the text, and what it says -/
structure DefR where
  at_ : Str × Option Str
  name : Str
  qual : Str
  stm : Stmt
  N : List Str
  ps : List Str
  body : List S
/-- what all defs share -/
structure Pg where
  fns : List (Str × Nat)
  gl : List (Str × D)
  no : List Str
  cls : List (Str × Nat)
  ct : CT
def Pg.cc (G : Pg) (d : DefR) : CC := ⟨d.N, defScope d.stm, fun _ => true, G.fns, G.gl, G.no, G.cls, G.ct⟩
def DefR.fn (d : DefR) : Fn := ⟨d.ps.length, d.N.length, d.body⟩
def Pg.ok (G : Pg) (d : DefR) : Bool := scB d.N d.ps (defScope d.stm) && chkSs (G.cc d) d.body (defBody d.stm)
def callN (ct : CT) (fns : Nat → Option Fn) : Nat → Nat → List D → List D → CR
  | 0 => fun _ _ _ => .fail
  | k + 1 => fun f ds rg => match fns f with | some d => runFn ⟨callN ct fns k, fun _ _ => [], ct⟩ d ds rg | none => .fail
def tabOf (ct : CT) (fns : Nat → Option Fn) (k : Nat) : Tab := ⟨callN ct fns k, fun _ _ => [], ct⟩
theorem tab_ct {ct : CT} {fns : Nat → Option Fn} (k : Nat) : (tabOf ct fns k).ct = ct := rfl
section
theorem reps_none {W : Wd} : ∀ (n : Nat), RepS W (List.replicate n none) (List.replicate n none) (List.replicate n [])
  | 0 => ⟨rfl, rfl⟩
  | n + 1 => by
    simp only [List.replicate_succ, RepS]
    exact ⟨_, _, _, rfl, rfl, reps_none n⟩
theorem par_take {np : Nat} {σ' : St} {l : St} {r : St} (h : Par np (l ++ r) σ') (hl : l.length = np) (hle : np ≤ σ'.length) : ∃ r', σ' = l ++ r' := by
  refine ⟨σ'.drop np, ?_⟩
  have : σ'.take np = l := by
    apply List.ext_getElem?
    intro i
    by_cases hi : i < np
    · rw [List.getElem?_take_of_lt hi, h i hi, List.getElem?_append_left (by omega)]
    · rw [List.getElem?_eq_none (by simp; omega), List.getElem?_eq_none (by omega)]
  rw [← this, List.take_append_drop]
theorem flat_take {W : Wd} {Fs : List (List Addr)} {G F : List Addr} {n : Nat} (h : Sep W ((Fs.flatten ++ G) ++ F)) : Sep W (((Fs.take n).flatten ++ G) ++ F) := by
  have e : Fs.flatten = (Fs.take n).flatten ++ (Fs.drop n).flatten := by rw [← List.flatten_append, List.take_append_drop]
  have := h.pm (B := (((Fs.take n).flatten ++ G) ++ F) ++ (Fs.drop n).flatten) (List.perm_iff_count.mpr fun a => by
    rw [e]
    simp only [List.count_append]
    omega)
  exact this.left
theorem mem_take {Fs : List (List Addr)} {G F : List Addr} {n : Nat} {a : Addr} (h : a ∈ ((Fs.take n).flatten ++ G) ++ F) : a ∈ (Fs.flatten ++ G) ++ F := by
  have e : Fs.flatten = (Fs.take n).flatten ++ (Fs.drop n).flatten := by rw [← List.flatten_append, List.take_append_drop]
  simp only [List.mem_append] at h ⊢
  rw [e]
  simp only [List.mem_append]
  rcases h with (h | h) | h
  · exact .inl (.inl (.inl h))
  · exact .inl (.inr h)
  · exact .inr h
/-- a body, read -/
theorem body_of {st : Sta} {t : Tab} {d : Fn} {E : XK} {W : Wd} {ds rg : List D} {vs : List V} {Fs : List (List Addr)} {G : List Addr} {Q : VK} {nN : Nat} (hst : W.st = st) (hr : RepS W (ds.map some) (vs.map some) Fs) (hg : RepL W rg W.RV G) (hs : Sep W (Fs.flatten ++ G)) (hl : vs.length = d.np) (hn : d.nv = nN)
    (h : match runFn t d ds rg with
      | .ret d ps rg' => ∀ v W' Fs' G' F, RepS W' ps (vs.map some) Fs' → RepL W' rg' W'.RV G' → Rep W' d v F → Sep W' ((Fs'.flatten ++ G') ++ F) → Evo W (Fs.flatten ++ G) W' ((Fs'.flatten ++ G') ++ F) → Q v W'.H
      | .exc x ps rg' => ∀ c dd W' Fs' G' F, RepS W' ps (vs.map some) Fs' → RepL W' rg' W'.RV G' → XRep W' x c dd F → Sep W' ((Fs'.flatten ++ G') ++ F) → Evo W (Fs.flatten ++ G) W' ((Fs'.flatten ++ G') ++ F) → E c dd W'.H
      | .fail => False) :
    tS st (fun c dd _ H => E c dd H) d.np (execs t d.np d.body) { nx := fun _ H' => Q .non H', rt := Q } (vs.map some ++ List.replicate (nN - vs.length) none) W.H := by
  unfold runFn at h
  by_cases hds : (ds.length != d.np) = true
  · rw [if_pos hds] at h; exact h.elim
  rw [if_neg hds] at h
  have hds' : ds.length = d.np := by simpa using hds
  have sr : SR W (vs.map some ++ List.replicate (nN - vs.length) none) ⟨ds.map some ++ List.replicate (d.nv - d.np) none, rg⟩ (Fs ++ List.replicate (d.nv - d.np) []) G := ⟨by
    rw [hl, ← hn]; exact hr.app (reps_none _), hg⟩
  have ef : (Fs ++ List.replicate (d.nv - d.np) ([] : List Addr)).flatten = Fs.flatten := by rw [List.flatten_append, flat_rep, List.append_nil]
  have sp : Sep W ((Fs ++ List.replicate (d.nv - d.np) []).flatten ++ G) := by rw [ef]; exact hs
  refine tS_of hst sr sp ?_
  have fin : ∀ {W' : Wd} {σ' : St} {S' : DS} {Fs' : List (List Addr)} {G' F : List Addr}, SPost d.np W (vs.map some ++ List.replicate (nN - vs.length) none) (Fs ++ List.replicate (d.nv - d.np) []) G W' σ' S' Fs' G' F →
      RepS W' (S'.ds.take d.np) (vs.map some) (Fs'.take d.np) ∧ RepL W' S'.rg W'.RV G' ∧ Sep W' (((Fs'.take d.np).flatten ++ G') ++ F) ∧ Evo W (Fs.flatten ++ G) W' (((Fs'.take d.np).flatten ++ G') ++ F) := fun {W' σ' S' Fs' G' F} p => by
    have hlen : d.np ≤ σ'.length := by
      have h1 := p.par
      by_cases hz : d.np = 0
      · omega
      · have h2 := h1 (d.np - 1) (by omega)
        rw [List.getElem?_append_left (by simp; omega)] at h2
        have h3 : (vs.map some)[d.np - 1]? ≠ none := by simp; omega
        rw [← h2] at h3
        rcases Nat.lt_or_ge (d.np - 1) σ'.length with h4 | h4
        · omega
        · exact absurd (List.getElem?_eq_none h4) h3
    obtain ⟨r', e⟩ := par_take p.par (by simp; exact hl) hlen
    have q := p.sr.sl
    rw [e] at q
    have q2 := q.take
    rw [List.length_map, hl] at q2
    refine ⟨q2, p.sr.rg, flat_take p.sep, ?_⟩
    have := p.evo
    rw [ef] at this
    exact this.sub fun a ha => mem_take ha
  cases e : execs t d.np d.body ⟨ds.map some ++ List.replicate (d.nv - d.np) none, rg⟩ with
  | fail => rw [e] at h; exact h
  | exc x S' =>
    rw [e] at h
    intro c dd W' σ' Fs' G' F p xr
    obtain ⟨f1, f2, f3, f4⟩ := fin p
    exact h c dd W' _ G' F f1 f2 xr f3 f4
  | ok fl S' =>
    rw [e] at h
    cases fl with
    | next =>
      intro W' σ' Fs' G' p
      obtain ⟨f1, f2, f3, f4⟩ := fin p
      exact h .non W' _ G' [] f1 f2 .mkNon f3 f4
    | ret v =>
      intro v W' σ' Fs' G' F p r
      obtain ⟨f1, f2, f3, f4⟩ := fin p
      exact h v W' _ G' F f1 f2 r f3 f4
    | brk => exact h.elim
    | cont => exact h.elim
/-- what the top has made of the defs -/
structure Made (P : Program) (w : World) (K : PySem.W.Frag) (mg : Str → Option Value) (st : Sta) (G : Pg) (defs : Nat → Option DefR) (addr : Nat → Addr) (fdf : Nat → FuncData) : Prop where
  hK : K = st.K
  hF : ∀ f d, defs f = some d → FunD K d.name d.qual (defArgs d.stm) (defBody d.stm) (defScope d.stm) [] [] (addr f) (fdf f) ∧ Binds K (fdf f) d.ps []
  hC : ∀ f d, defs f = some d → G.ok d = true
  hmg : ∀ x f, G.fns.lookup x = some f → mg x = some (.ref (addr f)) ∧ ∃ d, defs f = some d
  hgl : ∀ x d, G.gl.lookup x = some d → ∃ v u, scalV d = some v ∧ mg x = some u ∧ RelV v u
  hno : ∀ x ∈ G.no, mg x = none
  hcls : ClsOk st.ca K G.ct
  hcn : ∀ x c, G.cls.lookup x = some c → mg x = some (.ref (st.ca c))
  hmk : ∀ c f, G.ct.init c = some f → Mk K (st.ca c) (addr f) ∧ ∃ d, defs f = some d
  hmt : ∀ c m f, G.ct.meth c m = some f → Meth K (st.ca c) m (addr f) ∧ ∃ d, defs f = some d
abbrev tabD (ct : CT) (defs : Nat → Option DefR) : Nat → Tab := tabOf ct fun f => (defs f).map DefR.fn
/-- every def keeps what the table tells, to every depth -/
theorem all_good {P : Program} {w : World} {K : PySem.W.Frag} {mg : Str → Option Value} {base : Heap} {st : Sta} {G : Pg} {defs : Nat → Option DefR} {addr : Nat → Addr} {fdf : Nat → FuncData} (M : Made P w K mg st G defs addr fdf) :
    ∀ k f d, defs f = some d → FnOk P w K mg base (L2.CX P w) (2 * k) (addr f) (fdf f) d.ps (spD st (tabD G.ct defs k) f d.ps.length) ∧ (∀ ds rg, (tabD G.ct defs k).call f ds rg ≠ .fail → ds.length = d.ps.length) ∧ (tabD G.ct defs k).dflt f = fun _ => [] := by
  intro k
  induction k with
  | zero =>
    intro f d hd
    refine ⟨⟨fun vs H Q E h => ?_, fun A outer s H args us vs Q E _ _ _ _ h => ?_⟩, fun ds rg h => absurd rfl h, rfl⟩
    · obtain ⟨_, _, _, _, _, _, _, _, _, _, _, z⟩ := h; exact z.elim
    · obtain ⟨_, _, _, _, _, _, _, _, _, _, _, z⟩ := h; exact z.elim
  | succ k ih =>
    intro f d hd
    obtain ⟨F, B⟩ := M.hF f d hd
    have hc := M.hC f d hd
    simp only [Pg.ok, Bool.and_eq_true] at hc
    have S := scB_of hc.1
    have ecall : ∀ ds rg, (tabD G.ct defs (k + 1)).call f ds rg = runFn (tabD G.ct defs k) d.fn ds rg := fun ds rg => by
      simp only [tabD, tabOf, callN, hd, Option.map_some]
    refine ⟨?_, fun ds rg h => ?_, rfl⟩
    · refine FunD.ok (CX := L2.CX P w) F (N := d.N) (k := 2 * k + 1) S (fun vs H Q E h => ?_) (fun cdv A outer s H vs Q E hr h => ?_)
      · obtain ⟨_, _, _, _, _, _, _, _, _, _, z, _⟩ := h; exact z
      · obtain ⟨W, ds, rg, Fs, Gg, rfl, hst, h1, h2, h3, h4, h5⟩ := h
        rw [ecall] at h5
        have good : ∀ f d', defs f = some d' → FnGood P w K mg base st (tabD G.ct defs k) (2 * k) f (addr f) := fun f d' m2 => by
          obtain ⟨i1, i2, i3⟩ := ih f d' m2
          obtain ⟨F', B'⟩ := M.hF f d' m2
          exact ⟨F'.kp, fdf f, d'.ps, d'.ps.length, i1, i2, fun m => ⟨[], [], by rw [i3]; exact .nil, .nil, B'⟩⟩
        have ok : Okc st (tabD G.ct defs k) (2 * k) (fun c dd _ H => E c dd H) (G.cc d) (cxOf (L2.CX P w) P w K mg base d.N d.qual (defScope d.stm) (addr f) cdv A outer s W.H E) := {
          xc := ⟨M.hK, rfl, hr.units⟩
          N := rfl
          nd := S.nd
          sc := rfl
          fn := rfl
          tk := takes_of rfl rfl rfl rfl
          room := hr
          fns := fun x f hx => by
            obtain ⟨m1, d', m2⟩ := M.hmg x f hx
            exact ⟨addr f, m1, good f d' m2⟩
          gl := M.hgl
          no := M.hno
          ct := tab_ct k
          cls := by rw [tab_ct]; exact M.hcls
          cn := M.hcn
          mks := fun c f hf => by
            rw [tab_ct] at hf
            obtain ⟨m1, d', m2⟩ := M.hmk c f hf
            exact ⟨addr f, m1, good f d' m2⟩
          mts := fun c m f hf => by
            rw [tab_ct] at hf
            obtain ⟨m1, d', m2⟩ := M.hmt c m f hf
            exact ⟨addr f, m1, good f d' m2⟩ }
        refine ⟨_, sndXs (np := d.ps.length) d.body ok (passes_of rfl) hc.2, ?_⟩
        exact body_of (d := d.fn) hst h1 h2 h3 h4 rfl h5
    · rw [ecall] at h
      unfold runFn at h
      by_cases hds : (ds.length != d.fn.np) = true
      · rw [if_pos hds] at h; exact absurd rfl h
      · have : ds.length = d.fn.np := by simpa using hds
        exact this
/-- the law's promise -/
theorem law_sp {st : Sta} {t : Tab} {f : Nat} {H : Hp} {a : Addr} {ns : List Int} (hS : SqL st.K H a (ns.map V.int)) (h : ∃ ps rg, t.call f [.scr ns] [] = .ret (.bl true) ps rg) : spD st t f 1 [.ref a] H (fun v _ => v = .bl true) fun _ _ _ => False := by
  obtain ⟨ps, rg, e⟩ := h
  have fin : ∀ W : Wd, W.H = H → W.st = st → W.RV = [] → Sep W [] → Rep W (.scr ns) (.ref a) [] → spD st t f 1 [.ref a] H (fun v _ => v = .bl true) fun _ _ _ => False := fun W h1 h2 h3 h4 h5 => by
    refine ⟨W, [.scr ns], [], [[]], [], h1, h2, ⟨_, _, _, _, rfl, rfl, h5, ⟨rfl, rfl⟩⟩, by rw [h3]; exact ⟨rfl, rfl⟩, by simpa using h4, rfl, ?_⟩
    rw [e]
    intro v W' Fs' G' F _ _ r _ _
    exact rep_bl ⟨F, r⟩
  rcases hS with hS | hS
  · refine fin ⟨st, H, fun b => b = a, []⟩ rfl rfl rfl ⟨List.nodup_nil, by simp, fun b hb => ?_, by simp⟩ ?_
    · subst hb
      rcases hS with z | ⟨o, z⟩ <;> exact ⟨_, z⟩
    · simp only [Rep]
      exact ⟨trivial, a, rfl, .inl ⟨rfl, hS⟩⟩
  · refine fin ⟨st, H, fun _ => False, []⟩ rfl rfl rfl ⟨List.nodup_nil, by simp, fun b hb => hb.elim, by simp⟩ ?_
    simp only [Rep]
    exact ⟨trivial, a, rfl, .inr hS⟩
/-- a def's parameters, all plain -/
def BindOk (d : DefR) : Prop := ∀ (kV doc pm : Value) (an : Option Addr) (cdv ct : Value) (us : List Value), us.length = d.ps.length → bindArgs (PySem.W.fnOf d.name d.qual (defArgs d.stm) (defBody d.stm) (defScope d.stm) .none kV doc pm an cdv ct) ⟨us, []⟩ = pure (d.ps.zip us)
def DefR.dd (d : DefR) : He.DefD := ⟨d.at_, d.name, d.qual, defArgs d.stm, defBody d.stm, defScope d.stm, [], []⟩
def glFa : Str × D → He.Fa
  | (x, .int i) => .int x i
  | (x, .str z) => .str x z
  | (x, _) => .glo x
def glOk : Str × D → Bool
  | (_, .int _) => true
  | (_, .str z) => okB z
  | _ => false
/-! ### what is read of the heap behind the top -/
inductive FaX where
  | he (f : He.Fa)
  | ty (x : Str)
  | kit (x y : Str) (b : Bool)
  | kitT (x : Str) (T : String)
  | tKit (T : String) (x : Str)
def FaX.ok (K : PySem.W.Frag) : FaX → Bool
  | .he f => f.ok K
  | .ty x => He.eqO (PySem.W.findIn K (.ref (He.ga K x)) "__class__") (some (some (.builtin "object.__class__"))) && (He.eqO (PySem.W.specialIn K (.builtin "object.__class__") "__get__") (some (some (.builtin "getset_descriptor.__get__"))) && (decide (PySem.W.takesIn K (.builtin "object.__class__") = some true) && decide (PySem.W.mroIn K (He.ga K x) (.type "object") = some true)))
  | .kit x y b => decide (PySem.W.kitOne K (.ref (He.ga K x)) (.ref (He.ga K y)) = some b)
  | .kitT x T => decide (PySem.W.kitOne K (.ref (He.ga K x)) (.type T) = some false)
  | .tKit T x => decide (PySem.W.kitOne K (.type T) (.ref (He.ga K x)) = some false)
def obsX (fa : List FaX) (fn : List He.DefD) (K : PySem.W.Frag) : He.AlD := ((fa.all fun f => f.ok K) && fn.all fun d => d.ok K, fn.map fun d => He.fnW K d.at_)
def SaysX (fa : List FaX) (fn : List He.DefD) (K : PySem.W.Frag) : Prop := obsX fa fn K = He.valD fn
def obsXG (n : Nat) (fa : List FaX) (fn : List He.DefD) (g : Addr → Option Obj) : He.AlD := obsX fa fn (He.frG g (He.asD g n))
def hookX (n : Nat) (fa : List FaX) (fn : List He.DefD) : PySem.W.Hook where
  α := He.AlD
  obs := fun s => obsXG n fa fn s.heap.get?
  val := fun _ => He.valD fn
  says := fun _ h => ∃ K : PySem.W.Frag, K.In h ∧ SaysX fa fn K
  of := fun _ _ e => ⟨_, He.frG_in, e⟩
  keeps := fun _ _ _ ⟨K, hK, c⟩ k => ⟨K, PySem.W.Frag.In.keeps hK k, c⟩
theorem obsXG_eq {n : Nat} {fa : List FaX} {fn : List He.DefD} {g : Addr → Option Obj} {s : Shared} (h : ∀ a, g a = s.heap.get? a) : obsXG n fa fn g = (hookX n fa fn).obs s := by
  have e : g = s.heap.get? := funext h
  rw [e] <;> rfl
theorem SaysX.memF {fa : List FaX} {fn : List He.DefD} {K : PySem.W.Frag} (c : SaysX fa fn K) {f : FaX} (h : f ∈ fa) : f.ok K = true := by
  have c1 := (He.ba (show ((fa.all fun f => f.ok K) && fn.all fun d => d.ok K) = true from congrArg (fun z : He.AlD => z.1) c)).1
  exact List.all_eq_true.mp c1 f h
theorem SaysX.def_ {fa : List FaX} {fn : List He.DefD} {K : PySem.W.Frag} (c : SaysX fa fn K) (i : Nat) {d : He.DefD} (h : fn[i]? = some d) : ∃ fd, FunD K d.name d.qual d.params d.body d.scope (d.dvs K) (d.kws K) (He.fAd K d.at_) fd := by
  have c2 := (He.ba (show ((fa.all fun f => f.ok K) && fn.all fun d => d.ok K) = true from congrArg (fun z : He.AlD => z.1) c)).2
  have e : fn.map (fun d => He.fnW K d.at_) = fn.map He.DefD.val := congrArg (fun z : He.AlD => z.2) c
  have e2 : (fn.map fun d => He.fnW K d.at_)[i]? = (fn.map He.DefD.val)[i]? := by rw [e]
  rw [List.getElem?_map, List.getElem?_map, h] at e2
  exact He.DefD.funD (Option.some.inj e2) (List.all_eq_true.mp c2 d (List.mem_of_getElem? h))
/-- the facts of one class -/
def ClsD.facts (ct : CT) (k : ClsD) : List FaX := [.he (.glo k.nm), .he (.cls k.nm), .ty k.nm] ++ k.flds.map (fun f => .he (.noat k.nm f)) ++ k.meths.map (fun m => .he (.meth k.nm m.1)) ++ (match k.init with | some _ => [.he (.mkr k.nm)] | none => []) ++
  (ct.zipIdx.map fun z => .kit k.nm z.1.nm (k.sups.elem z.2)) ++ tysI.map (fun T => .kitT k.nm T) ++ tysD.map (fun T => .tKit T k.nm)
def Pg.facts (G : Pg) : List FaX := (G.fns.map (fun p => He.Fa.glo p.1) ++ G.gl.map glFa ++ G.no.map He.Fa.free).map FaX.he ++ G.ct.flatMap (fun k => k.facts G.ct)
def ClsD.good (ds : List DefR) (k : ClsD) : Bool := k.meths.all (fun m => match ds[m.2]? with | some d => decide (d.at_ = (k.nm, some m.1)) | none => false) && (match k.init with | some f => (match ds[f]? with | some d => decide (d.at_ = (k.nm, some ("__init__" : Str))) | none => false) | none => true)
def Pg.good (G : Pg) (ds : List DefR) : Bool := G.fns.all (fun p => match ds[p.2]? with | some d => decide (d.at_ = (p.1, none)) | none => false) && G.gl.all glOk && G.ct.all (ClsD.good ds) && G.cls.all (fun p => match G.ct[p.2]? with | some k => decide (k.nm = p.1) | none => false)
def caOf (K : PySem.W.Frag) (ct : CT) (c : Nat) : Addr := match ct[c]? with | some k => He.ga K k.nm | none => 0
theorem caOf_eq {K : PySem.W.Frag} {ct : CT} {c : Nat} {k : ClsD} (h : ct[c]? = some k) : caOf K ct c = He.ga K k.nm := by unfold caOf; rw [h]
theorem CT.has_at {ct : CT} {c : Nat} (h : ct.has c = true) : ∃ k, ct[c]? = some k := by
  simp only [CT.has, decide_eq_true_eq] at h
  exact ⟨_, List.getElem?_eq_getElem h⟩
theorem clsok_of {K : PySem.W.Frag} {G : Pg} {fn : List He.DefD} (c : SaysX G.facts fn K) : ClsOk (caOf K G.ct) K G.ct := by
  have mem : ∀ {i : Nat} {k : ClsD} {f : FaX}, G.ct[i]? = some k → f ∈ k.facts G.ct → f.ok K = true := fun {i k f} hi hf => c.memF (List.mem_append_right _ (List.mem_flatMap.mpr ⟨k, List.mem_of_getElem? hi, hf⟩))
  refine ⟨fun i hi => ?_, fun i f hf => ?_, fun i hi => ?_, fun i j b hb => ?_, fun i hi T hT => ?_, fun i hi T hT => ?_⟩
  · obtain ⟨k, e⟩ := CT.has_at hi
    rw [caOf_eq e]
    exact He.cls_ok (mem e (f := .he (.cls k.nm)) (by simp [ClsD.facts]))
  · obtain ⟨k, e⟩ := CT.has_at (CT.fld_has hf)
    rw [caOf_eq e]
    simp only [CT.fld, e] at hf
    exact He.noat_ok (mem e (f := .he (.noat k.nm f)) (by
      simp only [ClsD.facts, List.mem_append, List.mem_map]
      exact .inl (.inl (.inl (.inl (.inl (.inr ⟨f, by simpa using hf, rfl⟩)))))))
  · obtain ⟨k, e⟩ := CT.has_at hi
    rw [caOf_eq e]
    have q := mem e (f := .ty k.nm) (by simp [ClsD.facts])
    obtain ⟨q1, q⟩ := He.ba q
    obtain ⟨q2, q⟩ := He.ba q
    obtain ⟨q3, q4⟩ := He.ba q
    exact ⟨He.eqO_ok q1, He.eqO_ok q2, of_decide_eq_true q3, of_decide_eq_true q4⟩
  · unfold CT.sub at hb
    cases e : G.ct[i]? with
    | none => rw [e] at hb; cases hb
    | some k =>
      cases e2 : G.ct[j]? with
      | none => rw [e, e2] at hb; cases hb
      | some k2 =>
        rw [e, e2] at hb
        cases hb
        rw [caOf_eq e, caOf_eq e2]
        have q := mem e (f := .kit k.nm k2.nm (k.sups.elem j)) (by
          simp only [ClsD.facts, List.mem_append, List.mem_map]
          exact .inl (.inl (.inr ⟨(k2, j), by rw [List.mem_zipIdx_iff_getElem?]; exact e2, rfl⟩)))
        exact of_decide_eq_true q
  · obtain ⟨k, e⟩ := CT.has_at hi
    rw [caOf_eq e]
    have q := mem e (f := .kitT k.nm T) (by
      simp only [ClsD.facts, List.mem_append, List.mem_map]
      exact .inl (.inr ⟨T, hT, rfl⟩))
    exact of_decide_eq_true q
  · obtain ⟨k, e⟩ := CT.has_at hi
    rw [caOf_eq e]
    have q := mem e (f := .tKit T k.nm) (by
      simp only [ClsD.facts, List.mem_append, List.mem_map]
      exact .inr ⟨T, hT, rfl⟩)
    exact of_decide_eq_true q
theorem mem_lookup {α β : Type} [BEq α] [LawfulBEq α] {l : List (α × β)} {x : α} {y : β} (h : l.lookup x = some y) : (x, y) ∈ l := by
  induction l with
  | nil => cases h
  | cons p r ih =>
    obtain ⟨a, b⟩ := p
    rw [List.lookup_cons] at h
    by_cases e : x = a
    · subst e
      simp at h
      subst h
      exact List.mem_cons_self
    · have : (x == a) = false := by simpa using e
      rw [this] at h
      exact List.mem_cons_of_mem _ (ih h)
def adOf (K : PySem.W.Frag) (ds : List DefR) (i : Nat) : Addr := match ds[i]? with | some d => He.fAd K d.at_ | none => 0
theorem adOf_eq {K : PySem.W.Frag} {ds : List DefR} {i : Nat} {d : DefR} (h : ds[i]? = some d) : adOf K ds i = He.fAd K d.at_ := by unfold adOf; rw [h]
theorem made_of {P : Program} {w : World} {K : PySem.W.Frag} {h : Heap} {mg : Str → Option Value} {G : Pg} {ds : List DefR} (KX : K.In h) (Gn : h.Ns mainGlobals mg) (c : SaysX G.facts (ds.map DefR.dd) K) (hg : G.good ds = true) (hok : ds.all G.ok = true) (hb : ∀ d ∈ ds, BindOk d) :
    ∃ fdf, Made P w K mg ⟨caOf K G.ct, K⟩ G (fun i => ds[i]?) (adOf K ds) fdf := by
  have hF : ∀ i : Nat, ∃ fd, ∀ d : DefR, ds[i]? = some d → FunD K d.name d.qual (defArgs d.stm) (defBody d.stm) (defScope d.stm) [] [] (He.fAd K d.at_) fd := fun i => by
    cases e : ds[i]? with
    | none => exact ⟨default, fun d z => by cases z⟩
    | some d =>
      obtain ⟨fd, F⟩ := c.def_ i (d := d.dd) (by rw [List.getElem?_map, e]; rfl)
      exact ⟨fd, fun d' z => by cases z; exact F⟩
  obtain ⟨fdf, hF2⟩ := Classical.axiomOfChoice hF
  simp only [Pg.good, Bool.and_eq_true, List.all_eq_true] at hg
  have cm : ∀ {i : Nat} {k : ClsD} {f : FaX}, G.ct[i]? = some k → f ∈ k.facts G.ct → f.ok K = true := fun {i k f} hi hf => c.memF (List.mem_append_right _ (List.mem_flatMap.mpr ⟨k, List.mem_of_getElem? hi, hf⟩))
  refine ⟨fdf, rfl, fun f d hd => ?_, fun f d hd => ?_, fun x f hx => ?_, fun x d hx => ?_, fun x hx => ?_, clsok_of c, fun x c' hx => ?_, fun c' f hf => ?_, fun c' m f hf => ?_⟩
  · have F := hF2 f d hd
    rw [adOf_eq hd]
    exact ⟨F, F.bindsN (hb d (List.mem_of_getElem? hd))⟩
  · exact List.all_eq_true.mp hok d (List.mem_of_getElem? hd)
  · have hm := mem_lookup hx
    have h1 := hg.1.1.1 _ hm
    cases e : ds[f]? with
    | none => simp only [e] at h1; cases h1
    | some d =>
      simp only [e, decide_eq_true_eq] at h1
      refine ⟨?_, d, rfl⟩
      have := He.glo_ok KX Gn (c.memF (f := .he (.glo x)) (by simp only [Pg.facts, List.mem_append, List.mem_map]; exact .inl ⟨_, .inl (.inl ⟨_, hm, rfl⟩), rfl⟩))
      rw [this, adOf_eq e, h1]
      rfl
  · have hm := mem_lookup hx
    have h1 := hg.1.1.2 _ hm
    have hf : (glFa (x, d)).ok K = true := c.memF (f := .he (glFa (x, d))) (by simp only [Pg.facts, List.mem_append, List.mem_map]; exact .inl ⟨_, .inl (.inr ⟨_, hm, rfl⟩), rfl⟩)
    cases d with
    | int i => obtain ⟨t, e⟩ := He.int_ok KX Gn hf; exact ⟨.int i, _, rfl, e, t, rfl⟩
    | str i => obtain ⟨t, e⟩ := He.str_ok KX Gn hf; exact ⟨.str i, _, by simp only [scalV]; rw [if_pos (show okB i = true from h1)], e, t, rfl⟩
    | _ => cases h1
  · exact He.free_ok KX Gn (c.memF (f := .he (.free x)) (by simp only [Pg.facts, List.mem_append, List.mem_map]; exact .inl ⟨_, .inr ⟨_, hx, rfl⟩, rfl⟩))
  · have h1 := hg.2 _ (mem_lookup hx)
    cases e : G.ct[c']? with
    | none => simp only [e] at h1; cases h1
    | some k =>
      simp only [e, decide_eq_true_eq] at h1
      show mg x = some (.ref (caOf K G.ct c'))
      rw [show caOf K G.ct c' = He.ga K x by rw [caOf_eq e, h1]]
      exact He.glo_ok KX Gn (cm e (f := .he (.glo x)) (by rw [← h1]; simp [ClsD.facts]))
  · unfold CT.init at hf
    cases e : G.ct[c']? with
    | none => rw [e] at hf; cases hf
    | some k =>
      rw [e] at hf
      simp only at hf
      have h1 := hg.1.2 k (List.mem_of_getElem? e)
      simp only [ClsD.good, Bool.and_eq_true] at h1
      have h2 := h1.2
      rw [hf] at h2
      cases e2 : ds[f]? with
      | none => simp only [e2] at h2; cases h2
      | some d =>
        simp only [e2, decide_eq_true_eq] at h2
        refine ⟨?_, d, rfl⟩
        have q := He.mkr_ok (cm e (f := .he (.mkr k.nm)) (by
          simp only [ClsD.facts, List.mem_append, hf]
          exact .inl (.inl (.inl (.inr (by simp))))))
        have ea : adOf K ds f = He.ma K (He.ga K k.nm) "__init__" := by rw [adOf_eq e2, h2]; rfl
        rw [show (⟨caOf K G.ct, K⟩ : Sta).ca c' = He.ga K k.nm from caOf_eq e, ea]
        exact q
  · unfold CT.meth at hf
    cases e : G.ct[c']? with
    | none => rw [e] at hf; cases hf
    | some k =>
      rw [e] at hf
      simp only at hf
      have hmm := mem_lookup hf
      have h1 := hg.1.2 k (List.mem_of_getElem? e)
      simp only [ClsD.good, Bool.and_eq_true, List.all_eq_true] at h1
      have h2 := h1.1 _ hmm
      cases e2 : ds[f]? with
      | none => simp only [e2] at h2; cases h2
      | some d =>
        simp only [e2, decide_eq_true_eq] at h2
        refine ⟨?_, d, rfl⟩
        have q := He.meth_ok (cm e (f := .he (.meth k.nm m)) (by
          simp only [ClsD.facts, List.mem_append, List.mem_map]
          exact .inl (.inl (.inl (.inl (.inr ⟨_, hmm, rfl⟩))))))
        have ea : adOf K ds f = He.ma K (He.ga K k.nm) m := by rw [adOf_eq e2, h2]; rfl
        rw [show (⟨caOf K G.ct, K⟩ : Sta).ca c' = He.ga K k.nm from caOf_eq e, ea]
        exact q
/-- a law, from the evaluator's answer -/
theorem law_walk {l : PySem.W.OpenLaw} {q : Program} {loose : List Str} {XP : (Str → Option Value) → Heap → Prop} {d : DefRec} {n : Nat} {G : Pg} {ds : List DefR} {k fl : Nat} {dl : DefR} {x : Str} (hdl : ds[fl]? = some dl) (hps : dl.ps = [x]) (hfl : G.fns.lookup dl.name = some fl)
    (hn : l.most = some 63) (hdf : d.params.defaults = []) (hr : Room (2 * k) callerA) (hnm : d.name = dl.name)
    (hg : G.good ds = true) (hok : ds.all G.ok = true) (hb : ∀ d ∈ ds, BindOk d)
    (hev : ∀ ns : List Int, ns.length ≤ 63 → ∃ ps rg, (tabD G.ct (fun i => ds[i]?) k).call fl [.scr ns] [] = .ret (.bl true) ps rg) :
    PySem.W.WalkO q loose XP (hookX n G.facts (ds.map DefR.dd)).says l.row.toRowW d [] (fun f vs => PySem.call f vs) := by
  refine Att.attach_call hn hdf fun w s₀ s₁ mg mb fa o pm cd doc a vs ns Gg Y ho hd hcd hmg hobj hints hlen hgg => ?_
  obtain ⟨K, KX, c⟩ := Y
  obtain ⟨fdf, M⟩ := made_of (P := l.prog) (w := w) KX Gg.T.g c hg hok hb
  have hfa : fa = He.fAd K dl.at_ := by
    have := (M.hmg _ _ hfl).1
    rw [hnm] at hmg
    rw [hmg] at this
    simp only [adOf_eq hdl, Option.some.injEq, Value.ref.injEq] at this
    exact this
  have hF := fun base => (all_good (base := base) M k fl dl hdl).1
  have hB := (M.hF fl dl hdl).1
  simp only [adOf_eq hdl] at hF hB
  subst hfa
  rw [hps] at hF
  have hbb := hb dl (List.mem_of_getElem? hdl)
  refine law_call KX Gg.T.g Gg.T.b Gg.T.builtins Gg.T.nolimit hgg hobj hints (Nat.le_trans hlen (by rw [sizeLine_eq]; decide)) hr (fun base _ _ => hF base) (fun s u => ?_) (fun H hO hS => law_sp hS (hev ns hlen)) fun H e s' z => by
      obtain ⟨_, _, _, _, _, _, _, _, _, _, _, _, z⟩ := z
      exact z
  have := hB.bindsA hbb s [u] (by rw [hps]; rfl)
  rw [hps] at this
  exact this
end
end RB
end

section
set_option Elab.async false
set_option maxRecDepth 100000
set_option linter.unusedVariables false
set_option maxHeartbeats 2000000
namespace RB
open PySem L2
/-! ### facts about the evaluator, for plain proofs -/
theorem tb {ct : CT} {l : List Fn} {k f : Nat} {d : Fn} (h : l[f]? = some d) (ds rg : List D) : (tabOf ct (fun i => l[i]?) (k+1)).call f ds rg = runFn (tabOf ct (fun i => l[i]?) k) d ds rg := by
  simp only [tabOf, callN, h]
theorem tb_dflt {ct : CT} {g : Nat → Option Fn} {k f n : Nat} : (tabOf ct g k).dflt f n = [] := rfl
theorem tabD_eq {ct : CT} {ds : List DefR} {l : List Fn} (h : ds.map DefR.fn = l) (k : Nat) : tabD ct (fun i => ds[i]?) k = tabOf ct (fun i => l[i]?) k := by
  subst h
  have : (fun f : Nat => (ds[f]?).map DefR.fn) = fun i => (ds.map DefR.fn)[i]? := by funext i; rw [List.getElem?_map]
  unfold tabD
  rw [this]
theorem hideD_get : ∀ (is : List Nat) (ds : List (Option D)) (j : Nat), j ∉ is → (hideD ds is)[j]? = ds[j]?
  | [], ds, j, _ => rfl
  | i :: is, ds, j, h => by
    simp only [List.mem_cons, not_or] at h
    simp only [hideD]
    rw [List.getElem?_set_ne (fun e => h.1 e.symm), hideD_get is ds j h.2]
theorem showD_get (ds0 : List (Option D)) : ∀ (is : List Nat) (ds : List (Option D)) (j : Nat), ds.length = ds0.length → (showD ds0 ds is)[j]? = if j ∈ is then ds0[j]? else ds[j]?
  | [], ds, j, _ => by simp [showD]
  | i :: is, ds, j, h => by
    simp only [showD]
    have hl : ∀ is : List Nat, (showD ds0 ds is).length = ds.length := fun is => by
      induction is with
      | nil => rfl
      | cons i is ih => simp only [showD, List.length_set, ih]
    by_cases e : i = j
    · subst e
      by_cases hlt : i < ds0.length
      · rw [List.getElem?_set_self (by rw [hl, h]; exact hlt)]
        simp [List.getElem?_eq_getElem hlt]
      · rw [List.getElem?_eq_none (by simp only [List.length_set, hl, h]; omega)]
        simp [List.getElem?_eq_none (by omega : ds0.length ≤ i)]
    · rw [List.getElem?_set_ne e, showD_get ds0 is ds j h]
      have : (j = i ∨ j ∈ is) ↔ j ∈ is := ⟨fun z => z.resolve_left fun q => e q.symm, .inr⟩
      simp only [List.mem_cons, this]
theorem showD_hideD (ds : List (Option D)) (is : List Nat) : showD ds (hideD ds is) is = ds := by
  apply List.ext_getElem?
  intro j
  rw [showD_get ds is _ j (hideD_len is)]
  split
  · rfl
  · rename_i h; exact hideD_get is ds j h
theorem show_hide (S : DS) (is : List Nat) : ({ hideS is S with ds := showD S.ds (hideS is S).ds is } : DS) = S := by
  simp only [hideS, showD_hideD]
theorem hideD_set : ∀ (is : List Nat) (ds : List (Option D)) (i : Nat) (x : Option D), (hideD ds is).set i x = hideD (ds.set i x) is ∨ i ∈ is
  | [], ds, i, x => .inl rfl
  | j :: is, ds, i, x => by
    by_cases e : i = j
    · exact .inr (e ▸ List.mem_cons_self)
    · rcases hideD_set is ds i x with h | h
      · left
        simp only [hideD]
        rw [List.set_comm _ _ (fun z => e z.symm), h]
      · exact .inr (List.mem_cons_of_mem _ h)
/-- a comprehension whose test and item change nothing -/
theorem compLoop_pure {g : Tg} {cond : M Bool} {elt : M D} {S0 : DS} (p : D → Bool) (f : D → D) : ∀ (ds : List D) (acc : List D) (S : DS), hideS g.slots S = S0 →
    (∀ d ∈ ds, ∃ S', setTg 0 g d S0 = some S' ∧ hideS g.slots S' = S0 ∧ cond S' = .ok (p d) S' ∧ (p d = true → elt S' = .ok (f d) S')) → acc.length + ds.length ≤ sz → compLoop g cond elt ds acc S = .ok (acc ++ (ds.filter p).map f) S0
  | [], acc, S, hS, _, _ => by simp only [compLoop, hS, List.filter_nil, List.map_nil, List.append_nil]
  | d :: ds, acc, S, hS, h, hl => by
    obtain ⟨S', h1, h2, h3, h4⟩ := h d List.mem_cons_self
    simp only [List.length_cons] at hl
    simp only [compLoop, hS, h1, h3, noX, R.bind_ok]
    cases hp : p d with
    | true =>
      simp only [if_true, h4 hp, R.bind_ok]
      rw [if_pos (by omega), compLoop_pure p f ds _ S' h2 (fun e he => h e (List.mem_cons_of_mem _ he)) (by simp; omega)]
      simp [hp]
    | false =>
      simp only [Bool.false_eq_true, if_false]
      rw [compLoop_pure p f ds _ S' h2 (fun e he => h e (List.mem_cons_of_mem _ he)) (by omega)]
      simp [hp]
theorem xComp_pure {g : Tg} {src : M (List D)} {cond : M Bool} {elt : M Opd} {S S1 : DS} {xs : List D} (p : D → Bool) (f : D → D) (hs : src S = .ok xs S1) (hl : xs.length ≤ sz) (hi : hideS g.slots (hideS g.slots S1) = hideS g.slots S1)
    (h : ∀ d ∈ xs, ∃ S', setTg 0 g d (hideS g.slots S1) = some S' ∧ hideS g.slots S' = hideS g.slots S1 ∧ cond S' = .ok (p d) S' ∧ (p d = true → xVal elt S' = .ok (f d) S')) :
    xComp g src cond elt S = .ok (.own (.lst true ((xs.filter p).map f))) S1 := by
  simp only [xComp, hs, R.bind_ok]
  rw [compLoop_pure (S0 := hideS g.slots S1) p f xs [] S1 rfl h (by simpa using hl)]
  simp only [R.bind_ok, List.nil_append, show_hide]
theorem filter_true {α : Type} (l : List α) : l.filter (fun _ => true) = l := List.filter_eq_self.mpr fun _ _ => rfl
theorem xComp_map {g : Tg} {src : M (List D)} {elt : M Opd} {S S1 : DS} {xs : List D} (f : D → D) (hs : src S = .ok xs S1) (hl : xs.length ≤ sz) (hi : hideS g.slots (hideS g.slots S1) = hideS g.slots S1)
    (h : ∀ d ∈ xs, ∃ S', setTg 0 g d (hideS g.slots S1) = some S' ∧ hideS g.slots S' = hideS g.slots S1 ∧ xVal elt S' = .ok (f d) S') :
    xComp g src (fun S => .ok true S) elt S = .ok (.own (.lst true (xs.map f))) S1 := by
  have := xComp_pure (cond := fun S => .ok true S) (elt := elt) (fun _ => true) f hs hl hi fun d hd => by
    obtain ⟨S', h1, h2, h3⟩ := h d hd
    exact ⟨S', h1, h2, rfl, fun _ => h3⟩
  rw [filter_true] at this
  exact this
/-- a loop by an invariant -/
theorem forLoop_inv {np : Nat} {g : Tg} {body : M Fl} (I : List D → DS → Prop) (hstep : ∀ d ds S, I (d :: ds) S → ∃ S1, setTg np g d S = some S1 ∧ ∃ fl S2, body S1 = .ok fl S2 ∧ (fl = .next ∨ fl = .cont) ∧ I ds S2) :
    ∀ (ds : List D) (S : DS), I ds S → ∃ S', forLoop np g body ds S = .ok .next S' ∧ I [] S'
  | [], S, h => ⟨S, rfl, h⟩
  | d :: ds, S, h => by
    obtain ⟨S1, e1, fl, S2, e2, hf, h2⟩ := hstep d ds S h
    obtain ⟨S', e3, h3⟩ := forLoop_inv I hstep ds S2 h2
    refine ⟨S', ?_, h3⟩
    simp only [forLoop, e1, e2, R.bind_ok]
    rcases hf with rfl | rfl <;> exact e3
/-- a loop that may be left by a return -/
theorem forLoop_ret {np : Nat} {g : Tg} {body : M Fl} (I : List D → DS → Prop) (P : D → DS → Prop) (hstep : ∀ d ds S, I (d :: ds) S → ∃ S1, setTg np g d S = some S1 ∧ ∃ fl S2, body S1 = .ok fl S2 ∧ (((fl = .next ∨ fl = .cont) ∧ I ds S2) ∨ ∃ v, fl = .ret v ∧ P v S2)) :
    ∀ (ds : List D) (S : DS), I ds S → (∃ S', forLoop np g body ds S = .ok .next S' ∧ I [] S') ∨ ∃ v S', forLoop np g body ds S = .ok (.ret v) S' ∧ P v S'
  | [], S, h => .inl ⟨S, rfl, h⟩
  | d :: ds, S, h => by
    obtain ⟨S1, e1, fl, S2, e2, hf⟩ := hstep d ds S h
    rcases hf with ⟨hf, h2⟩ | ⟨v, rfl, hp⟩
    · have e : forLoop np g body (d :: ds) S = forLoop np g body ds S2 := by
        simp only [forLoop, e1, e2, R.bind_ok]
        rcases hf with rfl | rfl <;> rfl
      rw [e]
      exact forLoop_ret I P hstep ds S2 h2
    · exact .inr ⟨v, S2, by simp only [forLoop, e1, e2, R.bind_ok], hp⟩
theorem whileLoop_inv {t : M Bool} {body : M Fl} (I : Nat → DS → Prop) (P : DS → Prop) (hstep : ∀ n S, I n S → ∃ b S1, t S = .ok b S1 ∧ (b = false → P S1) ∧ (b = true → ∃ fl S2, body S1 = .ok fl S2 ∧ (fl = .next ∨ fl = .cont) ∧ ∃ m, m < n ∧ I m S2)) :
    ∀ (fuel n : Nat) (S : DS), n < fuel → I n S → ∃ S', whileLoop t body fuel S = .ok .next S' ∧ P S'
  | 0, n, S, h, _ => absurd h (Nat.not_lt_zero n)
  | fuel + 1, n, S, hn, h => by
    obtain ⟨b, S1, e1, hb, hb'⟩ := hstep n S h
    cases b with
    | false => exact ⟨S1, by simp only [whileLoop, e1, R.bind_ok, Bool.false_eq_true, if_false], hb rfl⟩
    | true =>
      obtain ⟨fl, S2, e2, hf, m, hm, h2⟩ := hb' rfl
      obtain ⟨S', e3, h3⟩ := whileLoop_inv I P hstep fuel m S2 (by omega) h2
      refine ⟨S', ?_, h3⟩
      simp only [whileLoop, e1, R.bind_ok, if_true, e2]
      rcases hf with rfl | rfl <;> exact e3
end RB
end

section
set_option Elab.async false
set_option maxRecDepth 100000
set_option linter.unusedVariables false
set_option maxHeartbeats 2000000
namespace RB
open PySem L2
/-- no link -/
def D.nl : D → Bool
  | .link _ => false
  | _ => true
@[simp] theorem nl_non : D.nl .non = true := by simp only [D.nl]
@[simp] theorem nl_bl (b : Bool) : D.nl (.bl b) = true := by simp only [D.nl]
@[simp] theorem nl_int (b : Int) : D.nl (.int b) = true := by simp only [D.nl]
@[simp] theorem nl_str (b : Str) : D.nl (.str b) = true := by simp only [D.nl]
@[simp] theorem nl_tup (b : List D) : D.nl (.tup b) = true := by simp only [D.nl]
@[simp] theorem nl_lst (o : Bool) (b : List D) : D.nl (.lst o b) = true := by simp only [D.nl]
@[simp] theorem nl_dct (o : Bool) (b : List (Key × D)) : D.nl (.dct o b) = true := by simp only [D.nl]
@[simp] theorem nl_ins (o : Bool) (c : Nat) (b : List (Str × D)) : D.nl (.ins o c b) = true := by simp only [D.nl]
@[simp] theorem nl_scr (b : List Int) : D.nl (.scr b) = true := by simp only [D.nl]
@[simp] theorem varO_non (i : Nat) : varO i .non = .own .non := rfl
@[simp] theorem varO_bl (i : Nat) (b : Bool) : varO i (.bl b) = .own (.bl b) := rfl
@[simp] theorem varO_int (i : Nat) (b : Int) : varO i (.int b) = .own (.int b) := rfl
@[simp] theorem varO_str (i : Nat) (b : Str) : varO i (.str b) = .own (.str b) := rfl
@[simp] theorem varO_scr (i : Nat) (b : List Int) : varO i (.scr b) = .own (.scr b) := rfl
@[simp] theorem varO_link (i r : Nat) : varO i (.link r) = .loc ⟨.reg r, []⟩ := rfl
@[simp] theorem varO_lst (i : Nat) (b : List D) : varO i (.lst true b) = .loc ⟨.slot i, []⟩ := rfl
@[simp] theorem varO_dct (i : Nat) (b : List (Key × D)) : varO i (.dct true b) = .loc ⟨.slot i, []⟩ := rfl
@[simp] theorem varO_ins (i c : Nat) (b : List (Str × D)) : varO i (.ins true c b) = .loc ⟨.slot i, []⟩ := rfl
theorem varO_free {i : Nat} {d : D} (h : d.free = true) (hn : d.nl = true) : varO i d = .own d := by
  rcases varO_cases i d with ⟨r, rfl, _⟩ | ⟨_, e⟩ | ⟨e, _⟩
  · cases hn
  · exact e
  · rw [h] at e; cases e
theorem dat_varO {S : DS} {i : Nat} {d : D} (h : S.ds[i]? = some (some d)) (hn : d.nl = true) : dat S (varO i d) = some d := by
  rcases varO_cases i d with ⟨r, rfl, _⟩ | ⟨_, e⟩ | ⟨_, e⟩
  · cases hn
  · rw [e]; rfl
  · rw [e]; simp [dat, look, rootD, h, getP]
@[simp] theorem okWait_own (T : List (Option Nat)) (d : D) : okWait T (.own d) = true := rfl
@[simp] theorem okWait_varO (T : List (Option Nat)) (i : Nat) (d : D) : okWait T (varO i d) = true := by
  rcases varO_cases i d with ⟨r, rfl, e⟩ | ⟨_, e⟩ | ⟨_, e⟩ <;> rw [e] <;> rfl
@[simp] theorem okWait_root (T : List (Option Nat)) (r : Root) : okWait T (.loc ⟨r, []⟩) = true := rfl
@[simp] theorem dat_own (S : DS) (d : D) : dat S (.own d) = some d := rfl
@[simp] theorem dat_loc (S : DS) (l : Loc) : dat S (.loc l) = look S l := rfl
@[simp] theorem argD_own (S : DS) (d : D) : argD S (.own d) = some d := rfl
theorem argD_varO {S : DS} {i : Nat} {d : D} (h : S.ds[i]? = some (some d)) : argD S (varO i d) = some d := by
  rcases varO_cases i d with ⟨r, rfl, e⟩ | ⟨_, e⟩ | ⟨_, e⟩
  · rw [e]; rfl
  · rw [e]; rfl
  · rw [e]; simp [argD, look, rootD, h, getP]
theorem set_sameD {S : DS} {i : Nat} {d : D} (h : S.ds[i]? = some (some d)) : ({ S with ds := S.ds.set i (some d) } : DS) = S := by
  have : S.ds.set i (some d) = S.ds := by
    apply List.ext_getElem?
    intro j
    by_cases e : i = j
    · subst e
      rw [List.getElem?_set_self (List.getElem?_eq_some_iff.mp h).1, h]
    · rw [List.getElem?_set_ne e]
  rw [this]
theorem backs_varO {S : DS} {i : Nat} {d : D} {os : List Opd} {ps : List (Option D)} (h : S.ds[i]? = some (some d)) : backs S (varO i d :: os) (some d :: ps) = backs S os ps := by
  rcases varO_cases i d with ⟨r, rfl, e⟩ | ⟨_, e⟩ | ⟨_, e⟩
  · rw [e]; rfl
  · rw [e]; rfl
  · rw [e]
    simp only [backs, setLoc, rootD, h, Option.join_some, Option.bind_some, setP, Option.map_some]
    rw [set_sameD h]
@[simp] theorem backs_nil (S : DS) : backs S [] [] = some S := rfl
@[simp] theorem backs_own (S : DS) (d : D) (os : List Opd) (p : Option D) (ps : List (Option D)) : backs S (.own d :: os) (p :: ps) = backs S os ps := rfl
theorem valM_free {S : DS} {i : Nat} {d : D} (h : d.free = true) (hn : d.nl = true) : valM (varO i d) S = .ok d S := by
  rw [varO_free h hn]; rfl
@[simp] theorem valM_own (S : DS) (d : D) : valM (.own d) S = .ok d S := rfl
theorem xTest_ok {m : M Opd} {S S1 : DS} {o : Opd} {d : D} {b : Bool} (h : m S = .ok o S1) (hd : dat S1 o = some d) (hb : truD d = some b) : xTest m S = .ok b S1 := by
  simp [xTest, h, hd, hb]
@[simp] theorem freeL_mapS (l : List Str) : D.freeL (l.map .str) = true := by
  induction l with
  | nil => rfl
  | cons x xs ih => simpa [D.freeL, D.free] using ih
@[simp] theorem freeL_mapI (l : List Int) : D.freeL (l.map .int) = true := by
  induction l with
  | nil => rfl
  | cons x xs ih => simpa [D.freeL, D.free] using ih
theorem leakL_map {α : Type} {f : α → D} (h : ∀ x, (f x).leak = f x) (l : List α) : D.leakL (l.map f) = l.map f := by
  induction l with
  | nil => rfl
  | cons x xs ih => simp [D.leakL, ih, h]
@[simp] theorem leakL_strs (l : List Str) : D.leakL (l.map .str) = l.map .str := leakL_map (fun _ => rfl) l
@[simp] theorem leakL_ints (l : List Int) : D.leakL (l.map .int) = l.map .int := leakL_map (fun _ => rfl) l
@[simp] theorem strsD_map (l : List Str) : strsD (l.map .str) = some l := by
  induction l with
  | nil => rfl
  | cons x xs ih => simp [strsD, ih]
@[simp] theorem intsD_map (l : List Int) : intsD (l.map .int) = some l := by
  induction l with
  | nil => rfl
  | cons x xs ih => simp [intsD, ih]
theorem blsD_map {α : Type} (f : α → Bool) (l : List α) : blsD (l.map fun x => .bl (f x)) = some (l.map f) := by
  induction l with
  | nil => rfl
  | cons x xs ih => simp [blsD, ih]
theorem slots_varO (i : Nat) (d : D) (os : List Opd) : slotsOf (varO i d :: os) = slotsOf os ∨ slotsOf (varO i d :: os) = i :: slotsOf os := by
  rcases varO_cases i d with ⟨r, rfl, e⟩ | ⟨_, e⟩ | ⟨_, e⟩ <;> rw [e]
  · exact .inl rfl
  · exact .inl rfl
  · exact .inr rfl
@[simp] theorem slots_nil : slotsOf [] = [] := rfl
@[simp] theorem slots_own (d : D) (os : List Opd) : slotsOf (.own d :: os) = slotsOf os := rfl
@[simp] theorem slots_reg (r : Nat) (p : List Step) (os : List Opd) : slotsOf (.loc ⟨.reg r, p⟩ :: os) = slotsOf os := rfl
@[simp] theorem slots_slot (i : Nat) (p : List Step) (os : List Opd) : slotsOf (.loc ⟨.slot i, p⟩ :: os) = i :: slotsOf os := rfl
theorem mem_slots_varO {i j : Nat} {d : D} {os : List Opd} (h : i ≠ j) : (i ∈ slotsOf (varO j d :: os)) ↔ (i ∈ slotsOf os) := by
  rcases slots_varO j d os with e | e <;> rw [e]
  rw [List.mem_cons]
  exact ⟨fun z => z.resolve_left h, .inr⟩
theorem nodupB_eq (i : Nat) (l : List Nat) : nodupB (i :: l) = (!(decide (i ∈ l)) && nodupB l) := by simp [nodupB]
@[simp] theorem nodupB_nl : nodupB [] = true := rfl
theorem nodup_varO {i : Nat} {d : D} {os : List Opd} (h : i ∉ slotsOf os) : nodupB (slotsOf (varO i d :: os)) = nodupB (slotsOf os) := by
  rcases slots_varO i d os with e | e <;> rw [e]
  rw [nodupB_eq, decide_eq_false h]
  rfl
theorem R.bind_def {α β : Type} (r : R α) (k : α → DS → R β) : R.bind r k = match r with | .ok a S => k a S | .exc x S => .exc x S | .fail => .fail := by cases r <;> rfl
section
variable (t : Tab) (np : Nat)
theorem ev_non : ev t .non = fun S => .ok (.own .non) S := by simp only [ev] <;> rfl
theorem ev_bl (b : Bool) : ev t (.bl b) = fun S => .ok (.own (.bl b)) S := by simp only [ev] <;> rfl
theorem ev_int (b : Int) : ev t (.int b) = fun S => .ok (.own (.int b)) S := by simp only [ev] <;> rfl
theorem ev_str (b : Str) : ev t (.str b) = fun S => .ok (.own (.str b)) S := by simp only [ev] <;> rfl
theorem ev_var (i : Nat) : ev t (.var i) = xVar i := by simp only [ev] <;> rfl
theorem ev_glob (x : Str) (d : D) : ev t (.glob x d) = fun S => .ok (.own d) S := by simp only [ev] <;> rfl
theorem ev_bin (op : BOp) (a b : E) (S : DS) : ev t (.bin op a b) S = xRead [(ev t a, a.touch), (ev t b, b.touch)] (fun ds => match ds with | [x, y] => binD op x y | _ => none) S := by simp only [ev] <;> rfl
theorem ev_notE (a : E) (S : DS) : ev t (.notE a) S = xNot (ev t a) S := by simp only [ev] <;> rfl
theorem ev_neg (a : E) (S : DS) : ev t (.neg a) S = xRead [(ev t a, a.touch)] (fun ds => match ds with | [.int i] => some (.int (-i)) | _ => none) S := by simp only [ev] <;> rfl
theorem ev_andE (a b : E) (S : DS) : ev t (.andE a b) S = (ev t a S).bind fun o S1 => match dat S1 o with
  | some (.bl true) => ev t b S1
  | some (.bl false) => .ok (.own (.bl false)) S1
  | _ => .fail := by simp only [ev, xAnd] <;> rfl
theorem ev_orE (a b : E) (S : DS) : ev t (.orE a b) S = (ev t a S).bind fun o S1 => match dat S1 o with
  | some (.bl true) => .ok (.own (.bl true)) S1
  | some (.bl false) => ev t b S1
  | _ => .fail := by simp only [ev, xOr] <;> rfl
theorem ev_cmp (op : COp) (a b : E) (S : DS) : ev t (.cmp op a b) S = xRead [(ev t a, a.touch), (ev t b, b.touch)] (fun ds => match ds with | [x, y] => (cmpD op x y).map .bl | _ => none) S := by simp only [ev] <;> rfl
theorem ev_isN (a : E) (S : DS) : ev t (.isN a) S = xRead [(ev t a, a.touch)] (fun ds => match ds with | [x] => (isND x).map .bl | _ => none) S := by simp only [ev] <;> rfl
theorem ev_notN (a : E) (S : DS) : ev t (.notN a) S = xRead [(ev t a, a.touch)] (fun ds => match ds with | [x] => (isND x).map fun b => .bl (!b) | _ => none) S := by simp only [ev] <;> rfl
theorem ev_chain (o1 o2 : COp) (a b c : E) (S : DS) : ev t (.chain o1 o2 a b c) S = xChain o1 o2 (ev t a) a.touch (ev t b) (b.touch ++ c.touch) (ev t c) S := by simp only [ev] <;> rfl
theorem ev_ife (c a b : E) (S : DS) : ev t (.ife c a b) S = (xTest (ev t c) S).bind fun c S1 => if c then (xVal (ev t a) S1).bind fun d S2 => .ok (mkO d) S2 else (xVal (ev t b) S1).bind fun d S2 => .ok (mkO d) S2 := by simp only [ev, xIfe]
theorem ev_lst (es : List E) (S : DS) : ev t (.lst es) S = xLst (evP t es) S := by simp only [ev] <;> rfl
theorem ev_tup (es : List E) (S : DS) : ev t (.tup es) S = xTup (evP t es) S := by simp only [ev] <;> rfl
theorem ev_dct0 : ev t .dct0 = fun S => .ok (.own (.dct true [])) S := by simp only [ev] <;> rfl
theorem ev_sub (a i : E) (S : DS) : ev t (.sub a i) S = xSub (ev t a) a.touch (ev t i) i.touch S := by simp only [ev] <;> rfl
theorem ev_slice (a : E) (lo hi : Option E) (S : DS) : ev t (.slice a lo hi) S = xRead ((ev t a, a.touch) :: (evO t lo ++ evO t hi)) (sliceF lo.isSome hi.isSome) S := by simp only [ev] <;> rfl
theorem ev_attr (a : E) (f : Str) (S : DS) : ev t (.attr a f) S = xAttr t.ct (ev t a) f S := by simp only [ev] <;> rfl
theorem ev_isi (a : E) (ty : Ty) (S : DS) : ev t (.isi a ty) S = xRead [(ev t a, a.touch)] (fun ds => match ds with | [x] => (tyD t.ct ty x).map .bl | _ => none) S := by simp only [ev] <;> rfl
theorem ev_bi (b : Bi) (es : List E) (S : DS) : ev t (.bi b es) S = xRead (evP t es) (biD b) S := by simp only [ev] <;> rfl
theorem ev_bm (b : Bm) (a : E) (es : List E) (S : DS) : ev t (.bm b a es) S = xRead ((xKind (bmK b) (ev t a), a.touch) :: evP t es) (fun ds => match ds with | d :: r => bmD b d r | _ => none) S := by simp only [ev] <;> rfl
theorem ev_jrev (a e : E) (S : DS) : ev t (.jrev a e) S = xRead [(xKind isStr (ev t a), a.touch), (ev t e, e.touch)] jrevF S := by simp only [ev] <;> rfl
theorem ev_mm (b : Mm) (a : E) (es : List E) (S : DS) : ev t (.mm b a es) S = xMm b (xKind (mmK b) (ev t a)) a.touch (evP t es) S := by simp only [ev] <;> rfl
theorem ev_call (f : Nat) (es : List E) (S : DS) : ev t (.call f es) S = xCall t f (evP t es) S := by simp only [ev] <;> rfl
theorem ev_mk (f : Nat) (es : List E) (S : DS) : ev t (.mk f es) S = xMk t f (evP t es) S := by simp only [ev] <;> rfl
theorem ev_meth (a : E) (m : Str) (es : List E) (S : DS) : ev t (.meth a m es) S = xMeth t (ev t a) m (evP t es) S := by simp only [ev] <;> rfl
theorem ev_dct (es : List E) (S : DS) : ev t (.dct es) S = xDct (evP t es) S := by simp only [ev] <;> rfl
theorem ev_keep (a : E) (S : DS) : ev t (.keep a) S = xKeep (ev t a) S := by simp only [ev] <;> rfl
theorem evP_nil : evP t [] = [] := by simp only [evP] <;> rfl
theorem evP_cons (e : E) (es : List E) : evP t (e :: es) = (ev t e, e.touch) :: evP t es := by simp only [evP] <;> rfl
theorem evO_none : evO t none = [] := by simp only [evO] <;> rfl
theorem evO_some (e : E) : evO t (some e) = [(xInt (ev t e), e.touch)] := by simp only [evO] <;> rfl
theorem sr_seq (e : E) (S : DS) : evSrc t (.seq e) S = xSeq (ev t e) S := by simp only [evSrc] <;> rfl
theorem sr_rng1 (e : E) (S : DS) : evSrc t (.rng1 e) S = (ev t e S).bind fun o S1 => match dat S1 o with
    | some (.int j) => if rngOk j then .ok (rngD 0 j) S1 else .fail
    | _ => .fail := by simp only [evSrc] <;> rfl
theorem sr_rng2 (a b : E) (S : DS) : evSrc t (.rng2 a b) S = (evL [(ev t a, a.touch), (ev t b, b.touch)] S).bind fun os S1 => match datL S1 os with
    | some [.int i, .int j] => if rngOk i && rngOk j then .ok (rngD i j) S1 else .fail
    | _ => .fail := by simp only [evSrc] <;> rfl
theorem sr_enum (e : E) (S : DS) : evSrc t (.enum e) S = (xSeqL (ev t e) S).bind fun xs S1 => .ok (enumD 0 xs) S1 := by simp only [evSrc] <;> rfl
theorem sr_zip (a b : E) (S : DS) : evSrc t (.zip a b) S = xZip (ev t a) a.touch (ev t b) b.touch S := by simp only [evSrc] <;> rfl
theorem sr_rev (e : E) (S : DS) : evSrc t (.rev e) S = (xSeqL (ev t e) S).bind fun xs S1 => .ok xs.reverse S1 := by simp only [evSrc] <;> rfl
theorem ev_comp (g : Tg) (s : Src) (e : E) (S : DS) : ev t (.comp g s none e) S = xComp g (evSrc t s) (fun S => .ok true S) (ev t e) S := by simp only [ev] <;> rfl
theorem ev_compC (g : Tg) (s : Src) (c e : E) (S : DS) : ev t (.comp g s (some c) e) S = xComp g (evSrc t s) (xTest (ev t c)) (ev t e) S := by simp only [ev] <;> rfl
theorem ex_expr (e : E) (S : DS) : RB.exec t np (.expr e) S = (ev t e S).bind fun _ S1 => .ok .next S1 := by simp only [RB.exec] <;> rfl
theorem ex_name (i : Nat) (e : E) (S : DS) : RB.exec t np (.asg (.name i) e) S = (xVal (ev t e) S).bind fun d S1 => match setVar np i d S1 with | some S2 => .ok .next S2 | none => .fail := by simp only [RB.exec] <;> rfl
theorem ex_tup (is : List Nat) (e : E) (S : DS) : RB.exec t np (.asg (.tup is) e) S = (xVal (ev t e) S).bind fun d S1 => match setTg np (.tup is) d S1 with | some S2 => .ok .next S2 | none => .fail := by simp only [RB.exec] <;> rfl
theorem ex_sub (o k e : E) (S : DS) : RB.exec t np (.asg (.sub o k) e) S = (xVal (ev t e) S).bind fun d S1 => (evL [(ev t o, o.touch), (ev t k, k.touch)] S1).bind fun os S2 => asgSub d os S2 := by simp only [RB.exec] <;> rfl
theorem ex_attr (o : E) (f : Str) (e : E) (S : DS) : RB.exec t np (.asg (.attr o f) e) S = (xVal (ev t e) S).bind fun d S1 => (ev t o S1).bind fun oo S2 => asgAttr t.ct f d oo S2 := by simp only [RB.exec] <;> rfl
theorem ex_try (b : List S) (S : DS) : RB.exec t np (.tryT b) S = noX (RB.execs t np b S) := by simp only [RB.exec] <;> rfl
theorem ex_par (i j : Nat) (a b : E) (S : DS) : RB.exec t np (.par i j a b) S = xPar np i j (ev t a) a.touch (ev t b) b.touch S := by simp only [RB.exec] <;> rfl
theorem ex_aug (i : Nat) (op : BOp) (e : E) (S : DS) : RB.exec t np (.aug i op e) S = xAug np i op (ev t e) S := by simp only [RB.exec] <;> rfl
theorem ex_ife (c : E) (a b : List S) (S : DS) : RB.exec t np (.ife c a b) S = (xTest (ev t c) S).bind fun r S1 => if r then RB.execs t np a S1 else RB.execs t np b S1 := by simp only [RB.exec] <;> rfl
theorem ex_while (c : E) (b : List S) (S : DS) : RB.exec t np (.whileS c b) S = whileLoop (xTest (ev t c)) (RB.execs t np b) fuelW S := by simp only [RB.exec] <;> rfl
theorem ex_for (g : Tg) (s : Src) (b : List S) (S : DS) : RB.exec t np (.forS g s b) S = (evSrc t s S).bind fun xs S1 => forLoop np g (RB.execs t np b) xs S1 := by simp only [RB.exec] <;> rfl
theorem ex_ret (e : E) (S : DS) : RB.exec t np (.ret e) S = (xVal (ev t e) S).bind fun d S1 => .ok (.ret d) S1 := by simp only [RB.exec] <;> rfl
theorem ex_retN (S : DS) : RB.exec t np .retN S = .ok (.ret .non) S := by simp only [RB.exec] <;> rfl
theorem ex_pass (S : DS) : RB.exec t np .pass S = .ok .next S := by simp only [RB.exec] <;> rfl
theorem ex_brk (S : DS) : RB.exec t np .brk S = .ok .brk S := by simp only [RB.exec] <;> rfl
theorem ex_cont (S : DS) : RB.exec t np .cont S = .ok .cont S := by simp only [RB.exec] <;> rfl
theorem exs_nil (S : DS) : RB.execs t np [] S = .ok .next S := by simp only [RB.execs] <;> rfl
theorem exs_cons (s : S) (ss : List S) (S : DS) : RB.execs t np (s :: ss) S = (RB.exec t np s S).bind fun f S1 => match f with
    | .next => RB.execs t np ss S1
    | f => .ok f S1 := by simp only [RB.execs] <;> rfl
end
/-- a text by its signs -/
def ofL (l : List Nat) : Str := ⟨l.toArray⟩
@[simp] theorem ofL_toList (l : List Nat) : (ofL l).cps.toList = l := by simp [ofL]
@[simp] theorem ofL_length (l : List Nat) : (ofL l).length = l.length := by simp [ofL, Str.length]
theorem ofL_eq (z : Str) : ofL z.cps.toList = z := by cases z; simp [ofL]
@[simp] theorem ofL_inj {a b : List Nat} : ofL a = ofL b ↔ a = b := ⟨fun h => by have := congrArg (fun z : Str => z.cps.toList) h; simpa using this, fun h => by rw [h]⟩
theorem len_cps (z : Str) : z.length = z.cps.toList.length := by simp [Str.length]
end RB
end

section
set_option Elab.async false
set_option maxRecDepth 100000
set_option linter.unusedVariables false
set_option maxHeartbeats 2000000
namespace RB
open PySem L2
/-! ### == of data -/
/-- plain values as data: equal just where they are -/
structure Emb {α : Type} [DecidableEq α] (f : α → D) (g : α → PyData) (n : Nat) : Prop where
  py : ∀ a, toPy (f a) = some (g a)
  dp : ∀ a, (g a).depth ≤ n
  eq : ∀ a b, PyData.eqv (g a) (g b) = decide (a = b)
section
variable {α β : Type} [DecidableEq α] [DecidableEq β] {f : α → D} {g : α → PyData} {n : Nat}
theorem emb_int : Emb D.int PyData.int 0 := ⟨fun _ => by simp only [toPy], fun a => by simp [PyData.depth], fun a b => by simp only [PyData.eqv]; rw [Bool.eq_iff_iff]; simp⟩
theorem emb_str : Emb D.str PyData.str 0 := ⟨fun _ => by simp only [toPy], fun a => by simp [PyData.depth], fun a b => by simp only [PyData.eqv]; rw [Bool.eq_iff_iff]; simp⟩
theorem emb_bl : Emb D.bl PyData.bool 0 := ⟨fun _ => by simp only [toPy], fun a => by simp [PyData.depth], fun a b => by simp only [PyData.eqv]; rw [Bool.eq_iff_iff]; simp⟩
theorem Emb.pyL (e : Emb f g n) : ∀ l : List α, toPyL (l.map f) = some (l.map g)
  | [] => by simp only [List.map_nil, toPyL]
  | x :: l => by simp only [List.map_cons, toPyL, e.py, e.pyL l, Option.bind_some, Option.map_some]
theorem Emb.dpL (e : Emb f g n) : ∀ l : List α, PyData.depthAll (l.map g) ≤ n
  | [] => by simp [PyData.depthAll]
  | x :: l => by
    simp only [List.map_cons, PyData.depthAll]
    have h1 := e.dp x
    have h2 := e.dpL l
    omega
theorem Emb.eqL (e : Emb f g n) : ∀ l m : List α, PyData.eqvAll (l.map g) (m.map g) = decide (l = m)
  | [], [] => by simp [PyData.eqvAll]
  | [], _ :: _ => by simp [PyData.eqvAll]
  | _ :: _, [] => by simp [PyData.eqvAll]
  | x :: l, y :: m => by
    simp only [List.map_cons, PyData.eqvAll, e.eq, e.eqL l m]
    rw [Bool.eq_iff_iff]; simp
theorem Emb.lst (e : Emb f g n) (o : Bool) : Emb (fun l : List α => D.lst o (l.map f)) (fun l => PyData.list (l.map g)) (n + 1) :=
  ⟨fun l => by simp only [toPy, e.pyL, Option.map_some], fun l => by simp only [PyData.depth]; have := e.dpL l; omega, fun l m => by simp only [PyData.eqv]; exact e.eqL l m⟩
theorem Emb.tup (e : Emb f g n) : Emb (fun l : List α => D.tup (l.map f)) (fun l => PyData.tuple (l.map g)) (n + 1) :=
  ⟨fun l => by simp only [toPy, e.pyL, Option.map_some], fun l => by simp only [PyData.depth]; have := e.dpL l; omega, fun l m => by simp only [PyData.eqv]; exact e.eqL l m⟩
theorem Emb.eqD (e : Emb f g n) (hn : n ≤ 64) (a b : α) : RB.eqD (f a) (f b) = some (decide (a = b)) := by
  have h1 := e.dp a
  have h2 := e.dp b
  simp only [RB.eqD, e.py, Option.bind_some]
  rw [if_pos (by simp; omega), e.eq]
theorem Emb.eqLst (e : Emb f g n) (hn : n ≤ 63) (o o' : Bool) (a b : List α) : RB.eqD (.lst o (a.map f)) (.lst o' (b.map f)) = some (decide (a = b)) := by
  have h1 := e.dpL a
  have h2 := e.dpL b
  have d1 : (PyData.list (a.map g)).depth ≤ 64 := by simp only [PyData.depth]; omega
  have d2 : (PyData.list (b.map g)).depth ≤ 64 := by simp only [PyData.depth]; omega
  have e1 : toPy (.lst o (a.map f)) = some (.list (a.map g)) := by simp only [toPy, e.pyL, Option.map_some]
  have e2 : toPy (.lst o' (b.map f)) = some (.list (b.map g)) := by simp only [toPy, e.pyL, Option.map_some]
  unfold RB.eqD
  rw [e1, e2, Option.bind_some, Option.bind_some, if_pos (by rw [decide_eq_true d1, decide_eq_true d2]; rfl)]
  rw [PyData.eqv, e.eqL]
end
theorem eqD_int (a b : Int) : RB.eqD (.int a) (.int b) = some (decide (a = b)) := emb_int.eqD (by decide) a b
theorem eqD_str (a b : Str) : RB.eqD (.str a) (.str b) = some (decide (a = b)) := emb_str.eqD (by decide) a b
theorem eqD_bl (a b : Bool) : RB.eqD (.bl a) (.bl b) = some (decide (a = b)) := emb_bl.eqD (by decide) a b
theorem eqD_non : RB.eqD .non .non = some true := by simp [RB.eqD, toPy, PyData.depth, PyData.eqv]
theorem eqD_strs (o o' : Bool) (a b : List Str) : RB.eqD (.lst o (a.map .str)) (.lst o' (b.map .str)) = some (decide (a = b)) := emb_str.eqLst (by decide) o o' a b
theorem eqD_ints (o o' : Bool) (a b : List Int) : RB.eqD (.lst o (a.map .int)) (.lst o' (b.map .int)) = some (decide (a = b)) := emb_int.eqLst (by decide) o o' a b
theorem eqD_strs0 (o o' : Bool) (a : List Str) : RB.eqD (.lst o (a.map .str)) (.lst o' []) = some (decide (a = [])) := eqD_strs o o' a []
theorem eqD_ints0 (o o' : Bool) (a : List Int) : RB.eqD (.lst o (a.map .int)) (.lst o' []) = some (decide (a = [])) := eqD_ints o o' a []
/-! ### signs -/
def sgs (z : Str) : List Nat := z.cps.toList
def sg (c : Nat) : Str := ⟨#[c]⟩
def inL (y : Str) (c : Nat) : Bool := decide (c ∈ sgs y)
theorem sgs_len (z : Str) : (sgs z).length = z.length := by rw [len_cps]; rfl
theorem sgs_sg (c : Nat) : sgs (sg c) = [c] := rfl
theorem sgs_inj {a b : Str} (h : sgs a = sgs b) : a = b := TL.ext_tl h
theorem sgs_app (a b : Str) : sgs (a ++ b) = sgs a ++ sgs b := TL.tl_append a b
theorem sgs_ofL (l : List Nat) : sgs (ofL l) = l := ofL_toList l
theorem itemsD_str (z : Str) : itemsD (.str z) = some ((sgs z).map fun c => .str (sg c)) := rfl
theorem itemsD_lst (o : Bool) (xs : List D) : itemsD (.lst o xs) = some (D.leakL xs) := rfl
theorem itemsD_tup (xs : List D) : itemsD (.tup xs) = some xs := rfl
theorem itemsD_scr (ns : List Int) : itemsD (.scr ns) = some (ns.map .int) := rfl
theorem inD_sg (c : Nat) (y : Str) : inD (.str (sg c)) (.str y) = some (inL y c) := rfl
theorem any_eqF_str (x : Str) (l : List Str) : ((l.map D.str).any fun y => eqF y (.str x)) = decide (x ∈ l) := by
  induction l with
  | nil => rfl
  | cons y l ih =>
    have e : eqF (.str y) (.str x) = (y == x) := rfl
    rw [List.map_cons, List.any_cons, ih, e, Bool.eq_iff_iff]
    simp only [Bool.or_eq_true, beq_iff_eq, decide_eq_true_eq, List.mem_cons]
    exact ⟨fun h => h.imp Eq.symm id, fun h => h.imp Eq.symm id⟩
theorem all_flat_str (l : List Str) : (l.map D.str).all flatD = true := by
  induction l with
  | nil => rfl
  | cons y l ih => simp only [List.map_cons, List.all_cons, ih, flatD, Bool.and_self]
theorem inD_strs (x : Str) (o : Bool) (l : List Str) : inD (.str x) (.lst o (l.map .str)) = some (decide (x ∈ l)) := by
  simp only [inD, flatD, all_flat_str, Bool.and_self, if_true, any_eqF_str]
theorem inD_strsT (x : Str) (l : List Str) : inD (.str x) (.tup (l.map .str)) = some (decide (x ∈ l)) := by
  simp only [inD, flatD, all_flat_str, Bool.and_self, if_true, any_eqF_str]
end RB
end

section
set_option Elab.async false
set_option maxRecDepth 100000
set_option linter.unusedVariables false
set_option maxHeartbeats 2000000
namespace RB
open PySem L2
/-! ### rules for plain proofs: expressions that change nothing -/
/-- a value of its own -/
def PW (t : Tab) (S : DS) (e : E) (d : D) : Prop := ev t e S = .ok (.own d) S
/-- something to be read; it may wait while T is touched -/
def PD (T : List (Option Nat)) (t : Tab) (S : DS) (e : E) (d : D) : Prop := ∃ o, ev t e S = .ok o S ∧ dat S o = some d ∧ okWait T o = true
def PWL (t : Tab) (S : DS) : List E → List D → Prop
  | [], [] => True
  | e :: es, d :: ds => PW t S e d ∧ PWL t S es ds
  | _, _ => False
def PDL (t : Tab) (S : DS) : List E → List D → Prop
  | [], [] => True
  | e :: es, d :: ds => PD (E.touchL es) t S e d ∧ PDL t S es ds
  | _, _ => False
section
variable {t : Tab} {S : DS} {T : List (Option Nat)} {a b c e : E} {d x y z : D} {i : Nat}
theorem PW.pd (h : PW t S e d) : PD T t S e d := ⟨_, h, rfl, rfl⟩
theorem evP_t : ∀ (es : List E), (evP t es).flatMap (·.2) = E.touchL es
  | [] => by simp [evP_nil, E.touchL]
  | e :: es => by rw [evP_cons]; simp [E.touchL, evP_t es]
theorem PDL.ev : ∀ {es : List E} {ds : List D}, PDL t S es ds → ∃ os, evL (evP t es) S = .ok os S ∧ datL S os = some ds
  | [], [], _ => ⟨[], by simp [evP_nil, evL], rfl⟩
  | e :: es, d :: ds, h => by
    obtain ⟨⟨o, h1, h2, h3⟩, h⟩ := h
    obtain ⟨os, h4, h5⟩ := PDL.ev h
    refine ⟨o :: os, ?_, ?_⟩
    · rw [evP_cons]
      simp only [evL, h1, R.bind_ok]
      rw [evP_t, if_pos h3, h4]; rfl
    · simp only [datL, List.mapM_cons, h2] at h5 ⊢
      rw [h5]; rfl
  | [], _ :: _, h => h.elim
  | _ :: _, [], h => h.elim
theorem PWL.ev : ∀ {es : List E} {ds : List D}, PWL t S es ds → evL (evP t es) S = .ok (ds.map .own) S ∧ valL (ds.map .own) S = .ok ds S ∧ ds.length = es.length
  | [], [], _ => ⟨by simp [evP_nil, evL], rfl, rfl⟩
  | e :: es, d :: ds, h => by
    obtain ⟨h1, h⟩ := h
    obtain ⟨h2, h3, h4⟩ := PWL.ev h
    refine ⟨?_, ?_, by simp [h4]⟩
    · rw [evP_cons]
      have h1' : RB.ev t e S = .ok (.own d) S := h1
      simp only [evL, h1', R.bind_ok, okWait_own, if_true, h2, List.map_cons]
    · simp only [List.map_cons, valL, valM_own, R.bind_ok, h3]
  | [], _ :: _, h => h.elim
  | _ :: _, [], h => h.elim
theorem PD.l1 (h : PD [] t S e d) : PDL t S [e] [d] := ⟨h, trivial⟩
theorem PDL.two (h1 : PD b.touch t S a x) (h2 : PD [] t S b y) : PDL t S [a, b] [x, y] := ⟨by simpa [E.touchL] using h1, h2, trivial⟩
/-- an operation that reads -/
theorem PDL.read {es : List E} {ds : List D} {f : List D → Option D} (h : PDL t S es ds) (hf : f ds = some d) : xRead (evP t es) f S = .ok (.own d) S := by
  obtain ⟨os, h1, h2⟩ := h.ev
  simp only [xRead, h1, R.bind_ok, h2, Option.bind_some, hf]
theorem w_non : PW t S .non .non := by unfold PW; rw [ev_non]
theorem w_bl {v : Bool} : PW t S (.bl v) (.bl v) := by unfold PW; rw [ev_bl]
theorem w_int {v : Int} : PW t S (.int v) (.int v) := by unfold PW; rw [ev_int]
theorem w_str {v : Str} : PW t S (.str v) (.str v) := by unfold PW; rw [ev_str]
theorem w_glob {v : Str} : PW t S (.glob v d) d := by unfold PW; rw [ev_glob]
theorem d_var (h : S.ds[i]? = some (some d)) (hn : d.nl = true) : PD T t S (.var i) d := by
  refine ⟨varO i d, ?_, dat_varO h hn, okWait_varO _ _ _⟩
  rw [ev_var]; simp only [xVar, h]
theorem w_var (h : S.ds[i]? = some (some d)) (hn : d.nl = true) (hf : d.free = true) : PW t S (.var i) d := by
  unfold PW; rw [ev_var]; simp only [xVar, h, varO_free hf hn]
theorem ev2 {f : List D → Option D} (a b : E) : xRead [(ev t a, a.touch), (ev t b, b.touch)] f S = xRead (evP t [a, b]) f S := by rw [evP_cons, evP_cons, evP_nil]
theorem ev1 {f : List D → Option D} (a : E) : xRead [(ev t a, a.touch)] f S = xRead (evP t [a]) f S := by rw [evP_cons, evP_nil]
theorem w_bin {op : BOp} (h1 : PD b.touch t S a x) (h2 : PD [] t S b y) (h : binD op x y = some z) : PW t S (.bin op a b) z := by
  unfold PW; rw [ev_bin, ev2]; exact (PDL.two h1 h2).read h
theorem w_not {p : Bool} (h1 : PD [] t S a x) (h : truD x = some p) : PW t S (.notE a) (.bl (!p)) := by
  obtain ⟨o, e1, e2, _⟩ := h1
  unfold PW; rw [ev_notE]; simp only [xNot, xTest, e1, R.bind_ok, e2, Option.bind_some, h]
theorem w_neg {n : Int} (h1 : PD [] t S a (.int n)) : PW t S (.neg a) (.int (-n)) := by
  unfold PW; rw [ev_neg, ev1]; exact h1.l1.read rfl
theorem w_and {p q : Bool} (h1 : PD [] t S a (.bl p)) (h2 : p = true → PW t S b (.bl q)) : PW t S (.andE a b) (.bl (p && q)) := by
  obtain ⟨o, e1, e2, _⟩ := h1
  unfold PW; rw [ev_andE]; simp only [e1, R.bind_ok, e2]
  cases p with
  | true => have := h2 rfl; simpa [PW] using this
  | false => rfl
theorem w_or {p q : Bool} (h1 : PD [] t S a (.bl p)) (h2 : p = false → PW t S b (.bl q)) : PW t S (.orE a b) (.bl (p || q)) := by
  obtain ⟨o, e1, e2, _⟩ := h1
  unfold PW; rw [ev_orE]; simp only [e1, R.bind_ok, e2]
  cases p with
  | false => have := h2 rfl; simpa [PW] using this
  | true => rfl
theorem w_cmp {op : COp} {p : Bool} (h1 : PD b.touch t S a x) (h2 : PD [] t S b y) (h : cmpD op x y = some p) : PW t S (.cmp op a b) (.bl p) := by
  unfold PW; rw [ev_cmp, ev2]; exact (PDL.two h1 h2).read (by simp only [h, Option.map_some])
theorem w_isN {p : Bool} (h1 : PD [] t S a x) (h : isND x = some p) : PW t S (.isN a) (.bl p) := by
  unfold PW; rw [ev_isN, ev1]; exact h1.l1.read (by simp only [h, Option.map_some])
theorem w_notN {p : Bool} (h1 : PD [] t S a x) (h : isND x = some p) : PW t S (.notN a) (.bl (!p)) := by
  unfold PW; rw [ev_notN, ev1]; exact h1.l1.read (by simp only [h, Option.map_some])
theorem w_chain {o1 o2 : COp} {m n k : Int} {p q : Bool} (h1 : PD (b.touch ++ c.touch) t S a (.int m)) (h2 : PD [] t S b (.int n)) (h3 : cmpD o1 (.int m) (.int n) = some p) (h4 : p = true → PD [] t S c (.int k) ∧ cmpD o2 (.int n) (.int k) = some q) : PW t S (.chain o1 o2 a b c) (.bl (p && q)) := by
  obtain ⟨oa, a1, a2, a3⟩ := h1
  obtain ⟨ob, b1, b2, b3⟩ := h2
  unfold PW; rw [ev_chain]
  have a3' : okWait ([(ev t b, b.touch ++ c.touch)].flatMap (·.2)) oa = true := by simpa using a3
  simp only [xChain, evL, a1, R.bind_ok, a3', if_true, b1, List.flatMap_nil, b3, a2, b2, h3]
  cases p with
  | false => rfl
  | true =>
    obtain ⟨⟨oc, c1, c2, _⟩, h5⟩ := h4 rfl
    simp only [c1, R.bind_ok, c2, h5, Bool.true_and]
theorem w_ife {p : Bool} {d1 d2 : D} (h1 : PD [] t S c x) (h : truD x = some p) (ha : p = true → PW t S a d1 ∧ d1.nl = true) (hb : p = false → PW t S b d2 ∧ d2.nl = true) : PW t S (.ife c a b) (if p then d1 else d2) := by
  obtain ⟨o, e1, e2, _⟩ := h1
  have mk : ∀ d : D, d.nl = true → mkO d = .own d := fun d hd => by cases d <;> first | rfl | cases hd
  unfold PW; rw [ev_ife]; simp only [xTest, e1, R.bind_ok, e2, Option.bind_some, h]
  cases p with
  | true =>
    obtain ⟨z1, z2⟩ := ha rfl
    have z1' : ev t a S = .ok (.own d1) S := z1
    simp only [if_true, xVal, z1', R.bind_ok, valM_own, mk _ z2]
  | false =>
    obtain ⟨z1, z2⟩ := hb rfl
    have z1' : ev t b S = .ok (.own d2) S := z1
    simp only [Bool.false_eq_true, if_false, xVal, z1', R.bind_ok, valM_own, mk _ z2]
theorem w_lst {es : List E} {ds : List D} (h : PWL t S es ds) (hl : ds.length ≤ sz) : PW t S (.lst es) (.lst true ds) := by
  obtain ⟨h1, h2, h3⟩ := h.ev
  unfold PW; rw [ev_lst]; simp only [xLst, h1, R.bind_ok, List.length_map]
  rw [if_pos hl, h2]; rfl
theorem w_tup {es : List E} {ds : List D} (h : PWL t S es ds) (hl : ds.length ≤ sz) : PW t S (.tup es) (.tup (D.leakL ds)) := by
  obtain ⟨h1, h2, h3⟩ := h.ev
  unfold PW; rw [ev_tup]; simp only [xTup, h1, R.bind_ok, List.length_map]
  rw [if_pos hl, h2]; rfl
theorem w_dct0 : PW t S .dct0 (.dct true []) := by unfold PW; rw [ev_dct0]
theorem w_dct {es : List E} {ds : List D} {kvs : List (Key × D)} (h : PWL t S es ds) (hp : pairUp ds = some kvs) (hn : (noTwice kvs && decide (kvs.length ≤ 15)) = true) : PW t S (.dct es) (.dct true kvs) := by
  obtain ⟨h1, h2, h3⟩ := h.ev
  unfold PW; rw [ev_dct]; simp only [xDct, h1, R.bind_ok, h2, hp, hn, if_true]
theorem w_keep (h : PW t S a d) (hn : d.nl = true) : PW t S (.keep a) d.leak := by
  have h' : ev t a S = .ok (.own d) S := h
  unfold PW; rw [ev_keep]; simp only [xKeep, h', R.bind_ok, dat_own]
  cases d <;> first | rfl | cases hn
theorem w_keepE {d' : D} (h : PW t S a d) (hn : d.nl = true) (hd : d.leak = d') : PW t S (.keep a) d' := hd ▸ w_keep h hn
theorem mk_own (hn : d.nl = true) : mkO d = .own d := by cases d <;> first | rfl | cases hn
theorem ev_two (h1 : PD b.touch t S a x) (h2 : PD [] t S b y) : ∃ oa ob, evL [(ev t a, a.touch), (ev t b, b.touch)] S = .ok [oa, ob] S ∧ dat S oa = some x ∧ dat S ob = some y ∧ ev t a S = .ok oa S := by
  obtain ⟨oa, a1, a2, a3⟩ := h1
  obtain ⟨ob, b1, b2, b3⟩ := h2
  have a3' : okWait ([(ev t b, b.touch)].flatMap (·.2)) oa = true := by simpa using a3
  exact ⟨oa, ob, by simp only [evL, a1, R.bind_ok, a3', if_true, b1, List.flatMap_nil, b3], a2, b2, a1⟩
theorem w_subS {ns : List Int} {k v : Int} (h1 : PD b.touch t S a (.scr ns)) (h2 : PD [] t S b (.int k)) (h : atI ns k = some v) : PW t S (.sub a b) (.int v) := by
  obtain ⟨oa, ob, e1, e2, e3, _⟩ := ev_two h1 h2
  unfold PW; rw [ev_sub]; simp only [xSub, e1, R.bind_ok, e2, e3, h]
theorem w_subT {s : Str} {k : Int} {v : Nat} (h1 : PD b.touch t S a (.str s)) (h2 : PD [] t S b (.int k)) (hl : s.length ≤ sz) (h : atI s.cps.toList k = some v) : PW t S (.sub a b) (.str ⟨#[v]⟩) := by
  obtain ⟨oa, ob, e1, e2, e3, _⟩ := ev_two h1 h2
  unfold PW; rw [ev_sub]; simp only [xSub, e1, R.bind_ok, e2, e3, h, hl, if_true]
theorem getP_snoc1 {s : Step} : ∀ {p : List Step} {d : D}, getP d (p ++ [s]) = (getP d p).bind fun e => getP e [s] := getP_snoc
/-- a part that is free -/
theorem partO_free {o : Opd} {s : Step} (h : dat S o = some x) (hg : getP x [s] = some d) (hf : d.free = true) (hn : d.nl = true) : partO S o s = some (.own d) := by
  cases o with
  | own u => cases h; simp only [partO, hg, Option.map_some, mk_own hn]
  | loc l =>
    have h' : look S l = some x := h
    have e : look S ⟨l.root, l.path ++ [s]⟩ = some d := by
      unfold look at h' ⊢
      cases q : rootD S l.root with
      | none => rw [q] at h'; cases h'
      | some u =>
        rw [q] at h'
        simp only [Option.bind_some] at h' ⊢
        rw [getP_snoc, h']
        exact hg
    simp only [partO, e]
    cases d <;> first | (cases hn; done) | simp only [hf, if_true]
theorem w_sub {s : Step} (h1 : PD b.touch t S a x) (h2 : PD [] t S b y) (hs : stepOf x y = some s) (hg : getP x [s] = some d) (hf : d.free = true) (hn : d.nl = true) : PW t S (.sub a b) d := by
  obtain ⟨oa, ob, e1, e2, e3, _⟩ := ev_two h1 h2
  have hp := partO_free e2 hg hf hn
  unfold PW; rw [ev_sub]; simp only [xSub, e1, R.bind_ok, e2, e3]
  cases x <;> first | (simp only [stepOf] at hs; cases hs; done) | simp only [hs, Option.bind_some, hp]
/-- a part of a value of its own -/
theorem w_subO {s : Step} (h1 : PW t S a x) (h2 : PD [] t S b y) (hs : stepOf x y = some s) (hg : getP x [s] = some d) (hn : d.nl = true) : PW t S (.sub a b) d := by
  obtain ⟨oa, ob, e1, e2, e3, e4⟩ := ev_two h1.pd h2
  have e5 : oa = .own x := by
    have : ev t a S = .ok (.own x) S := h1
    rw [this] at e4; cases e4; rfl
  subst e5
  unfold PW; rw [ev_sub]; simp only [xSub, e1, R.bind_ok, e2, e3]
  cases x <;> first | (simp only [stepOf] at hs; cases hs; done) | simp only [hs, Option.bind_some, partO, hg, Option.map_some, mk_own hn]
theorem w_attr {f : Str} {o : Bool} {k : Nat} {fs : List (Str × D)} (h1 : PD [] t S a (.ins o k fs)) (hc : t.ct.fld k f = true) (hg : lookP fs f = some d) (hf : d.free = true) (hn : d.nl = true) : PW t S (.attr a f) d := by
  obtain ⟨oa, e1, e2, _⟩ := h1
  have hp := partO_free (s := .fld f) e2 (by simp only [getP, hg, Option.bind_some]) hf hn
  unfold PW; rw [ev_attr]; simp only [xAttr, e1, R.bind_ok, e2, hc, if_true, hp]
theorem d_attr {f : Str} {o : Bool} {k : Nat} {fs : List (Str × D)} (h1 : PD [] t S a (.ins o k fs)) (hc : t.ct.fld k f = true) (hg : lookP fs f = some d) (hn : d.nl = true) : PD [] t S (.attr a f) d := by
  obtain ⟨oa, e1, e2, _⟩ := h1
  by_cases hf : d.free = true
  · exact (w_attr ⟨oa, e1, e2, by cases oa <;> simp [okWait]⟩ hc hg hf hn).pd
  · cases oa with
    | own u =>
      cases e2
      refine ⟨.own d, ?_, rfl, rfl⟩
      rw [ev_attr]; simp only [xAttr, e1, R.bind_ok, dat_own, hc, if_true, partO, getP, hg, Option.bind_some, Option.map_some, mk_own hn]
    | loc l =>
      have h' : look S l = some (.ins o k fs) := e2
      have e : look S ⟨l.root, l.path ++ [.fld f]⟩ = some d := by
        unfold look at h' ⊢
        cases q : rootD S l.root with
        | none => rw [q] at h'; cases h'
        | some u =>
          rw [q] at h'
          simp only [Option.bind_some] at h' ⊢
          rw [getP_snoc, h']
          simp only [Option.bind_some, getP, hg]
      refine ⟨.loc ⟨l.root, l.path ++ [.fld f]⟩, ?_, by rw [dat_loc]; exact e, by simp [okWait]⟩
      rw [ev_attr]; simp only [xAttr, e1, R.bind_ok, e2, hc, if_true, partO, e]
      cases d <;> first | (cases hn; done) | (exfalso; exact hf rfl) | simp only [hf]; rfl
theorem w_isi {ty : Ty} {p : Bool} (h1 : PD [] t S a x) (h : tyD t.ct ty x = some p) : PW t S (.isi a ty) (.bl p) := by
  unfold PW; rw [ev_isi, ev1]; exact h1.l1.read (by simp only [h, Option.map_some])
theorem w_bi {k : Bi} {es : List E} {ds : List D} (h1 : PDL t S es ds) (h : biD k ds = some d) : PW t S (.bi k es) d := by
  unfold PW; rw [ev_bi]; exact h1.read h
theorem w_bm {k : Bm} {es : List E} {ds : List D} (h1 : PDL t S (a :: es) (x :: ds)) (hk : bmK k x = true) (h : bmD k x ds = some d) : PW t S (.bm k a es) d := by
  obtain ⟨⟨oa, e1, e2, e3⟩, h1⟩ := h1
  obtain ⟨os, h4, h5⟩ := h1.ev
  unfold PW; rw [ev_bm]
  have e3' : okWait ((evP t es).flatMap (·.2)) oa = true := by rw [evP_t]; exact e3
  have h6 : datL S (oa :: os) = some (x :: ds) := by simp only [datL, List.mapM_cons, e2] at h5 ⊢; rw [h5]; rfl
  simp only [xRead, evL, xKind, e1, R.bind_ok, e2, hk, if_true, e3', h4, h6, Option.bind_some, h]
/-- slices -/
theorem w_slice00 (h1 : PD [] t S a x) (h : sliceD x none none = some d) : PW t S (.slice a none none) d := by
  unfold PW; rw [ev_slice, evO_none]
  obtain ⟨oa, e1, e2, e3⟩ := h1
  simp only [List.append_nil, xRead, evL, e1, R.bind_ok, List.flatMap_nil, e3, if_true, datL, List.mapM_cons, List.mapM_nil, e2, Option.bind_some, sliceF, Option.isSome_none, h, Option.pure_def, Option.bind_eq_bind]
theorem w_slice10 {n : Int} (h1 : PD b.touch t S a x) (h2 : PW t S b (.int n)) (h : sliceD x (some n) none = some d) : PW t S (.slice a (some b) none) d := by
  unfold PW; rw [ev_slice, evO_none, evO_some]
  obtain ⟨oa, e1, e2, e3⟩ := h1
  have h2' : ev t b S = .ok (.own (.int n)) S := h2
  have e3' : okWait ([(xInt (ev t b), b.touch)].flatMap (·.2)) oa = true := by simpa using e3
  simp only [List.append_nil, xRead, evL, e1, R.bind_ok, e3', if_true, xInt, h2', List.flatMap_nil, okWait_own, datL, List.mapM_cons, List.mapM_nil, e2, dat_own, Option.bind_some, sliceF, Option.isSome_none, Option.isSome_some, h, Option.pure_def, Option.bind_eq_bind]
theorem w_slice01 {n : Int} (h1 : PD b.touch t S a x) (h2 : PW t S b (.int n)) (h : sliceD x none (some n) = some d) : PW t S (.slice a none (some b)) d := by
  unfold PW; rw [ev_slice, evO_none, evO_some]
  obtain ⟨oa, e1, e2, e3⟩ := h1
  have h2' : ev t b S = .ok (.own (.int n)) S := h2
  have e3' : okWait ([(xInt (ev t b), b.touch)].flatMap (·.2)) oa = true := by simpa using e3
  simp only [List.nil_append, xRead, evL, e1, R.bind_ok, e3', if_true, xInt, h2', List.flatMap_nil, okWait_own, datL, List.mapM_cons, List.mapM_nil, e2, dat_own, Option.bind_some, sliceF, Option.isSome_none, Option.isSome_some, h, Option.pure_def, Option.bind_eq_bind]
/-! ### calls that change nothing -/
def POs (t : Tab) (S : DS) : List E → List Opd → Prop
  | [], [] => True
  | e :: es, o :: os => ev t e S = .ok o S ∧ okWait (E.touchL es) o = true ∧ POs t S es os
  | _, _ => False
theorem POs.ev : ∀ {es : List E} {os : List Opd}, POs t S es os → evL (evP t es) S = .ok os S
  | [], [], _ => by simp [evP_nil, evL]
  | e :: es, o :: os, h => by
    obtain ⟨h1, h2, h3⟩ := h
    rw [evP_cons]; simp only [evL, h1, R.bind_ok]
    rw [evP_t, if_pos h2, POs.ev h3]; rfl
  | [], _ :: _, h => h.elim
  | _ :: _, [], h => h.elim
/-- arguments, and the slots that they may be -/
def PA (t : Tab) (S : DS) (es : List E) (ds : List D) (js : List Nat) : Prop := ∃ os, POs t S es os ∧ os.mapM (argD S) = some ds ∧ nodupB (slotsOf os) = true ∧ (∀ i ∈ slotsOf os, i ∈ js) ∧ os.length = ds.length ∧ ∀ rg, backs { S with rg := rg } os (ds.map some) = some { S with rg := rg }
theorem pa_nil : PA t S [] [] [] := ⟨[], trivial, rfl, rfl, by simp [slotsOf], rfl, fun _ => rfl⟩
theorem pa_own {es : List E} {ds : List D} {js : List Nat} (h : PW t S e d) (h2 : PA t S es ds js) : PA t S (e :: es) (d :: ds) js := by
  obtain ⟨os, a1, a2, a3, a4, a5, a6⟩ := h2
  refine ⟨.own d :: os, ⟨h, rfl, a1⟩, ?_, by simpa using a3, by simpa using a4, by simp [a5], fun rg => ?_⟩
  · simp only [List.mapM_cons, argD_own, a2]; rfl
  · simp only [List.map_cons, backs_own]; exact a6 rg
theorem pa_var {es : List E} {ds : List D} {js : List Nat} (h : S.ds[i]? = some (some d)) (hi : i ∉ js) (h2 : PA t S es ds js) : PA t S (.var i :: es) (d :: ds) (i :: js) := by
  obtain ⟨os, a1, a2, a3, a4, a5, a6⟩ := h2
  have hi' : i ∉ slotsOf os := fun z => hi (a4 i z)
  refine ⟨varO i d :: os, ⟨by rw [ev_var]; simp only [xVar, h], okWait_varO _ _ _, a1⟩, ?_, by rw [nodup_varO hi']; exact a3, fun j hj => ?_, by simp [a5], fun rg => ?_⟩
  · simp only [List.mapM_cons, argD_varO h, a2]; rfl
  · rcases slots_varO i d os with e | e <;> rw [e] at hj
    · exact List.mem_cons_of_mem _ (a4 j hj)
    · rcases List.mem_cons.mp hj with rfl | hj
      · exact List.mem_cons_self
      · exact List.mem_cons_of_mem _ (a4 j hj)
  · rw [List.map_cons, backs_varO (S := { S with rg := rg }) h]; exact a6 rg
theorem w_call {f : Nat} {es : List E} {ds : List D} {js : List Nat} (h : PA t S es ds js) (hd : ∀ n, t.dflt f n = []) (hc : t.call f ds S.rg = .ret d (ds.map some) S.rg) (hn : d.nl = true) : PW t S (.call f es) d := by
  obtain ⟨os, a1, a2, a3, a4, a5, a6⟩ := h
  unfold PW; rw [ev_call]
  have ht : ((ds.map some).take os.length) = ds.map some := by rw [a5]; exact List.take_of_length_le (by simp)
  simp only [xCall, a1.ev, R.bind_ok, xCallO, a3, if_true, a2, List.nil_append, List.length_nil, Nat.zero_add, hd, List.append_nil, hc, List.drop_zero, ht, a6, mk_own hn]
theorem argD_dat {o : Opd} (h : argD S o = some d) (hn : d.nl = true) : dat S o = some d := by
  cases o with
  | own u => exact h
  | loc l =>
    obtain ⟨rt, p⟩ := l
    cases rt with
    | slot i => exact h
    | reg r =>
      cases p with
      | nil => simp only [argD, Option.some.injEq] at h; subst h; cases hn
      | cons _ _ => cases h
theorem w_meth {m : Str} {f k : Nat} {o : Bool} {fs : List (Str × D)} {es : List E} {ds : List D} {js : List Nat} (h : PA t S (a :: es) (.ins o k fs :: ds) js) (hl : lookP fs m = none) (hm : t.ct.meth k m = some f) (hd : ∀ n, t.dflt f n = []) (hc : t.call f (.ins o k fs :: ds) S.rg = .ret d ((.ins o k fs :: ds).map some) S.rg) (hn : d.nl = true) : PW t S (.meth a m es) d := by
  obtain ⟨os, a1, a2, a3, a4, a5, a6⟩ := h
  match os, a1, a2, a3, a4, a5, a6 with
  | [], a1, _, _, _, _, _ => exact a1.elim
  | oa :: os, a1, a2, a3, a4, a5, a6 =>
    obtain ⟨b1, b2, b3⟩ := a1
    have hdat : dat S oa = some (.ins o k fs) := by
      simp only [List.mapM_cons] at a2
      cases q3 : argD S oa with
      | none => rw [q3] at a2; cases a2
      | some u =>
        rw [q3] at a2
        cases q4 : os.mapM (argD S) with
        | none => rw [q4] at a2; cases a2
        | some us => rw [q4] at a2; cases a2; exact argD_dat q3 rfl
    have ht : (((.ins o k fs :: ds).map some).take (oa :: os).length) = (.ins o k fs :: ds).map some := by rw [a5]; exact List.take_of_length_le (by simp)
    unfold PW; rw [ev_meth]
    have b2' : okWait ((evP t es).flatMap (·.2)) oa = true := by rw [evP_t]; exact b2
    simp only [xMeth, b1, R.bind_ok, hdat, hl, hm, b2', if_true, b3.ev, xCallO, a3, a2, List.nil_append, List.length_nil, Nat.zero_add, hd, List.append_nil, hc, List.drop_zero, ht, a6, mk_own hn]
theorem w_mk {f k : Nat} {es : List E} {ds : List D} {js : List Nat} (h : PA t S es ds js) (hi : t.ct.init k = some f) (hd : ∀ n, t.dflt f n = []) (hc : t.call f (.ins true k [] :: ds) S.rg = .ret .non (some d :: ds.map some) S.rg) : PW t S (.mk k es) (if t.ct.perm k then d.leak else d) := by
  obtain ⟨os, a1, a2, a3, a4, a5, a6⟩ := h
  unfold PW; rw [ev_mk]
  have ht : ((ds.map some).take os.length) = ds.map some := by rw [a5]; exact List.take_of_length_le (by simp)
  simp only [xMk, hi, a1.ev, R.bind_ok, xCallO, a3, if_true, a2, List.cons_append, List.nil_append, List.length_cons, List.length_nil, hd, List.append_nil, hc, List.drop_succ_cons, List.drop_zero, ht, a6, List.take_succ_cons, List.take_zero]
/-! ### comprehensions -/
def DS.put (S : DS) (i : Nat) (d : D) : DS := { S with ds := S.ds.set i (some d) }
theorem hide_put {i : Nat} {d : D} : hideS [i] (S.put i d) = hideS [i] S := by simp only [hideS, hideD, DS.put, List.set_set]
theorem hide_hide {i : Nat} : hideS [i] (hideS [i] S) = hideS [i] S := by simp only [hideS, hideD, List.set_set]
theorem hide_same {i : Nat} (h : S.ds[i]? = some none) : hideS [i] S = S := by
  obtain ⟨ds, rg⟩ := S
  simp only [hideS, hideD]
  rw [set_same h]
theorem lt_of_get {α : Type} {l : List α} {i : Nat} {x : α} (h : l[i]? = some x) : i < l.length := (List.getElem?_eq_some_iff.mp h).1
/-- [e for x in src] -/
theorem v_comp {α : Type} {src : Src} {emb f : α → D} {ys : List α} {S1 : DS} (hi : S1.ds[i]? = some none) (hs : evSrc t src S = .ok (ys.map emb) S1) (hl : ys.length ≤ sz) (h : ∀ y ∈ ys, PW t (S1.put i (emb y)) e (f y)) :
    ev t (.comp (.name i) src none e) S = .ok (.own (.lst true (ys.map f))) S1 := by
  have hh := hide_same hi
  have key : ∀ (ys : List α) (acc : List D), (∀ y ∈ ys, PW t (S1.put i (emb y)) e (f y)) → acc.length + ys.length ≤ sz → ∀ S', hideS [i] S' = S1 → compLoop (.name i) (fun S => .ok true S) (xVal (ev t e)) (ys.map emb) acc S' = .ok (acc ++ ys.map f) S1 := by
    intro ys
    induction ys with
    | nil => intro acc _ _ S' hS'; simp only [List.map_nil, compLoop, Tg.slots, hS', List.append_nil]
    | cons y ys ih =>
      intro acc h hl S' hS'
      simp only [List.map_cons, compLoop, Tg.slots, hS']
      have e1 : setTg 0 (.name i) (emb y) S1 = some (S1.put i (emb y)) := by simp only [setTg, setVar, Nat.zero_le, decide_true, lt_of_get hi, Bool.and_self, if_true]; rfl
      have e2 : ev t e (S1.put i (emb y)) = .ok (.own (f y)) (S1.put i (emb y)) := h y List.mem_cons_self
      simp only [List.length_cons] at hl
      simp only [e1, noX, R.bind_ok, if_true, xVal, e2, valM_own]
      rw [if_pos (by omega), ih (acc ++ [f y]) (fun z hz => h z (List.mem_cons_of_mem _ hz)) (by simp; omega) _ (by rw [hide_put, hh])]
      simp
  rw [ev_comp]; simp only [xComp, hs, R.bind_ok]
  rw [key ys [] h (by simpa using hl) S1 hh]
  simp only [R.bind_ok, List.nil_append]
  have : ({ ds := showD S1.ds S1.ds [i], rg := S1.rg } : DS) = S1 := by
    have := show_hide S1 [i]
    rw [hh] at this; exact this
  show R.ok _ ({ ds := showD S1.ds S1.ds [i], rg := S1.rg } : DS) = _
  rw [this]
theorem w_comp {α : Type} {src : Src} {emb f : α → D} {ys : List α} (hi : S.ds[i]? = some none) (hs : evSrc t src S = .ok (ys.map emb) S) (hl : ys.length ≤ sz) (h : ∀ y ∈ ys, PW t (S.put i (emb y)) e (f y)) :
    PW t S (.comp (.name i) src none e) (.lst true (ys.map f)) := v_comp hi hs hl h
theorem w_compF {α : Type} {src : Src} {emb f : α → D} {p : α → Bool} {ys : List α} (hi : S.ds[i]? = some none) (hs : evSrc t src S = .ok (ys.map emb) S) (hl : ys.length ≤ sz) (hc : ∀ y ∈ ys, ∃ x, PD [] t (S.put i (emb y)) c x ∧ truD x = some (p y)) (h : ∀ y ∈ ys, p y = true → PW t (S.put i (emb y)) e (f y)) :
    PW t S (.comp (.name i) src (some c) e) (.lst true ((ys.filter p).map f)) := by
  have hh := hide_same hi
  have key : ∀ (ys : List α) (acc : List D), (∀ y ∈ ys, ∃ x, PD [] t (S.put i (emb y)) c x ∧ truD x = some (p y)) → (∀ y ∈ ys, p y = true → PW t (S.put i (emb y)) e (f y)) → acc.length + ys.length ≤ sz → ∀ S', hideS [i] S' = S → compLoop (.name i) (xTest (ev t c)) (xVal (ev t e)) (ys.map emb) acc S' = .ok (acc ++ (ys.filter p).map f) S := by
    intro ys
    induction ys with
    | nil => intro acc _ _ _ S' hS'; simp only [List.map_nil, List.filter_nil, compLoop, Tg.slots, hS', List.append_nil]
    | cons y ys ih =>
      intro acc hc h hl S' hS'
      simp only [List.map_cons, compLoop, Tg.slots, hS']
      have e1 : setTg 0 (.name i) (emb y) S = some (S.put i (emb y)) := by simp only [setTg, setVar, Nat.zero_le, decide_true, lt_of_get hi, Bool.and_self, if_true]; rfl
      obtain ⟨x, ⟨o, c1, c2, _⟩, c3⟩ := hc y List.mem_cons_self
      simp only [List.length_cons] at hl
      simp only [e1, noX, xTest, c1, R.bind_ok, c2, Option.bind_some, c3]
      cases hp : p y with
      | true =>
        have e2 : ev t e (S.put i (emb y)) = .ok (.own (f y)) (S.put i (emb y)) := h y List.mem_cons_self hp
        simp only [if_true, xVal, e2, R.bind_ok, valM_own]
        rw [if_pos (by omega)]
        have := ih (acc ++ [f y]) (fun z hz => hc z (List.mem_cons_of_mem _ hz)) (fun z hz => h z (List.mem_cons_of_mem _ hz)) (by simp; omega) (S.put i (emb y)) (by rw [hide_put, hh])
        rw [this]
        simp [hp]
      | false =>
        simp only [Bool.false_eq_true, if_false]
        have := ih acc (fun z hz => hc z (List.mem_cons_of_mem _ hz)) (fun z hz => h z (List.mem_cons_of_mem _ hz)) (by omega) (S.put i (emb y)) (by rw [hide_put, hh])
        rw [this]
        simp [hp]
  unfold PW; rw [ev_compC]; simp only [xComp, hs, R.bind_ok]
  rw [key ys [] hc h (by simpa using hl) S hh]
  simp only [R.bind_ok, List.nil_append]
  have : ({ ds := showD S.ds S.ds [i], rg := S.rg } : DS) = S := by
    have := show_hide S [i]
    rw [hh] at this; exact this
  show R.ok _ ({ ds := showD S.ds S.ds [i], rg := S.rg } : DS) = _
  rw [this]
/-! ### what is walked -/
theorem s_list {o : Bool} {xs : List D} (h : PW t S e (.lst o xs)) : evSrc t (.seq e) S = .ok (D.leakL xs) S := by
  have h' : ev t e S = .ok (.own (.lst o xs)) S := h
  rw [sr_seq]; simp only [xSeq, h', R.bind_ok, dat_own, Option.bind_some, itemsD, giveUp]
theorem s_tuple {xs : List D} (h : PW t S e (.tup xs)) : evSrc t (.seq e) S = .ok xs S := by
  have h' : ev t e S = .ok (.own (.tup xs)) S := h
  rw [sr_seq]; simp only [xSeq, h', R.bind_ok, dat_own, Option.bind_some, itemsD, giveUp]
theorem s_text {s : Str} (h : PW t S e (.str s)) : evSrc t (.seq e) S = .ok (s.cps.toList.map fun c => .str ⟨#[c]⟩) S := by
  have h' : ev t e S = .ok (.own (.str s)) S := h
  rw [sr_seq]; simp only [xSeq, h', R.bind_ok, dat_own, Option.bind_some, itemsD, giveUp]
theorem s_script {ns : List Int} (h : PW t S e (.scr ns)) : evSrc t (.seq e) S = .ok (ns.map .int) S := by
  have h' : ev t e S = .ok (.own (.scr ns)) S := h
  rw [sr_seq]; simp only [xSeq, h', R.bind_ok, dat_own, Option.bind_some, itemsD, giveUp]
theorem s_range {n : Int} (h : PD [] t S e (.int n)) (hn : rngOk n = true) : evSrc t (.rng1 e) S = .ok (rngD 0 n) S := by
  obtain ⟨o, h1, h2, _⟩ := h
  rw [sr_rng1]; simp only [h1, R.bind_ok, h2, hn, if_true]
theorem s_range2 {m n : Int} (h1 : PD b.touch t S a (.int m)) (h2 : PD [] t S b (.int n)) (hm : rngOk m = true) (hn : rngOk n = true) : evSrc t (.rng2 a b) S = .ok (rngD m n) S := by
  obtain ⟨oa, ob, e1, e2, e3, _⟩ := ev_two h1 h2
  rw [sr_rng2]; simp only [e1, R.bind_ok, datL, List.mapM_cons, List.mapM_nil, e2, e3, Option.pure_def, Option.bind_eq_bind, Option.bind_some, hm, hn, Bool.and_self, if_true]
theorem s_enumL {o : Bool} {xs : List D} (h : PW t S e (.lst o xs)) : evSrc t (.enum e) S = .ok (enumD 0 (D.leakL xs)) S := by
  have h' : ev t e S = .ok (.own (.lst o xs)) S := h
  rw [sr_enum]; simp only [xSeqL, h', R.bind_ok, dat_own, giveUp]
theorem rng_map (n : Nat) : rngD 0 (n : Int) = (List.range n).map fun (i : Nat) => .int (i : Int) := by
  simp [rngD]
end
/-! ### statements -/
def Xs (t : Tab) (np : Nat) (ss : List S) (S : DS) (f : Fl) (S' : DS) : Prop := execs t np ss S = .ok f S'
section
variable {t : Tab} {np : Nat} {S0 S1 S2 : DS} {ss : List S} {f : Fl} {e c a b : E} {d x y : D} {i j : Nat}
theorem x_nil : Xs t np [] S0 .next S0 := by unfold Xs; rw [exs_nil]
theorem x_step {s : S} (h : RB.exec t np s S0 = .ok .next S1) (hr : Xs t np ss S1 f S2) : Xs t np (s :: ss) S0 f S2 := by
  unfold Xs at hr ⊢; rw [exs_cons, h]; exact hr
theorem x_stop {s : S} (h : RB.exec t np s S0 = .ok f S1) (hf : f ≠ .next) : Xs t np (s :: ss) S0 f S1 := by
  unfold Xs; rw [exs_cons, h]; cases f <;> first | exact absurd rfl hf | rfl
theorem setVar_put (h1 : np ≤ i) (h2 : i < S0.ds.length) : setVar np i d S0 = some (S0.put i d) := by
  simp only [setVar, h1, h2, decide_true, Bool.and_self, if_true]; rfl
theorem x_asg (h : PW t S0 e d) (h1 : np ≤ i) (h2 : i < S0.ds.length) (hr : Xs t np ss (S0.put i d) f S2) : Xs t np (.asg (.name i) e :: ss) S0 f S2 := by
  refine x_step ?_ hr
  have h' : ev t e S0 = .ok (.own d) S0 := h
  rw [ex_name]; simp only [xVal, h', R.bind_ok, valM_own, setVar_put h1 h2]
theorem x_ret (h : PW t S0 e d) : Xs t np (.ret e :: ss) S0 (.ret d) S0 := by
  refine x_stop ?_ (by simp)
  have h' : ev t e S0 = .ok (.own d) S0 := h
  rw [ex_ret]; simp only [xVal, h', R.bind_ok, valM_own]
/-- what was built is told -/
theorem x_retV (h : S0.ds[i]? = some (some d)) (hf : d.free = false) (hn : d.nl = true) : Xs t np (.ret (.var i) :: ss) S0 (.ret d) { S0 with ds := S0.ds.set i none } := by
  refine x_stop ?_ (by simp)
  rw [ex_ret, ev_var]; simp only [xVal, xVar, h, R.bind_ok]
  rcases varO_cases i d with ⟨r, rfl, _⟩ | ⟨z, _⟩ | ⟨_, z⟩
  · cases hn
  · rw [hf] at z; cases z
  · rw [z]; simp only [valM, h, R.bind_ok]
theorem x_retN : Xs t np (.retN :: ss) S0 (.ret .non) S0 := x_stop (by rw [ex_retN]) (by simp)
theorem x_cont : Xs t np (.cont :: ss) S0 .cont S0 := x_stop (by rw [ex_cont]) (by simp)
theorem x_brk : Xs t np (.brk :: ss) S0 .brk S0 := x_stop (by rw [ex_brk]) (by simp)
def thenX (r : R Fl) (k : DS → R Fl) : R Fl := r.bind fun f S1 => match f with | .next => k S1 | f => .ok f S1
theorem exs_then (s : S) (ss : List S) (S0 : DS) : execs t np (s :: ss) S0 = thenX (RB.exec t np s S0) (execs t np ss) := by
  rw [exs_cons]
  cases RB.exec t np s S0 with
  | fail => rfl
  | exc z S' => rfl
  | ok fl S' => cases fl <;> rfl
theorem exs_app (ss : List S) : ∀ (l : List S) (S0 : DS), execs t np (l ++ ss) S0 = thenX (execs t np l S0) (execs t np ss)
  | [], S0 => by rw [exs_nil]; rfl
  | s :: l, S0 => by
    rw [List.cons_append, exs_then, exs_then]
    cases RB.exec t np s S0 with
    | fail => rfl
    | exc z S' => rfl
    | ok fl S' => cases fl <;> first | exact exs_app ss l S' | rfl
theorem x_if {p : Bool} {sa sb : List S} (h : PD [] t S0 c x) (hx : truD x = some p) (hr : Xs t np ((if p then sa else sb) ++ ss) S0 f S2) : Xs t np (.ife c sa sb :: ss) S0 f S2 := by
  obtain ⟨o, e1, e2, _⟩ := h
  unfold Xs at hr ⊢
  rw [exs_app] at hr
  rw [exs_then, ex_ife]; simp only [xTest, e1, R.bind_ok, e2, Option.bind_some, hx]
  cases p <;> exact hr
/-- a def that is called -/
theorem run_of {fn : Fn} {ds rg : List D} (hl : ds.length = fn.np) (h : Xs t fn.np fn.body ⟨ds.map some ++ List.replicate (fn.nv - fn.np) none, rg⟩ (.ret d) S2) : runFn t fn ds rg = .ret d (S2.ds.take fn.np) S2.rg := by
  unfold runFn
  rw [if_neg (by simp [hl])]
  unfold Xs at h
  rw [h]
theorem run_ofN {fn : Fn} {ds rg : List D} (hl : ds.length = fn.np) (h : Xs t fn.np fn.body ⟨ds.map some ++ List.replicate (fn.nv - fn.np) none, rg⟩ .next S2) : runFn t fn ds rg = .ret .non (S2.ds.take fn.np) S2.rg := by
  unfold runFn
  rw [if_neg (by simp [hl])]
  unfold Xs at h
  rw [h]
end
end RB
end

section
set_option Elab.async false
set_option maxRecDepth 100000
set_option linter.unusedVariables false
set_option maxHeartbeats 2000000
namespace RB
open PySem L2
section
variable {t : Tab} {S : DS} {T : List (Option Nat)} {a b c e : E} {d x y z : D} {i : Nat} {es : List E} {ds : List D}
theorem pwl_nil : PWL t S [] [] := trivial
theorem pwl_cons (h : PW t S e d) (h2 : PWL t S es ds) : PWL t S (e :: es) (d :: ds) := ⟨h, h2⟩
theorem pdl_nil : PDL t S [] [] := trivial
theorem pdl_cons (h : PD (E.touchL es) t S e d) (h2 : PDL t S es ds) : PDL t S (e :: es) (d :: ds) := ⟨h, h2⟩
theorem fmodE (m n : Int) (h : 0 ≤ n) : m.fmod n = m % n := Int.fmod_eq_emod_of_nonneg m h
theorem fdivE (m n : Int) (h : 0 ≤ n) : m.fdiv n = m / n := Int.fdiv_eq_ediv_of_nonneg m h
theorem b_mod {m n : Int} (h : 0 < n) : binD .mod (.int m) (.int n) = some (.int (m % n)) := by
  have : (n != 0) = true := by simp; omega
  simp only [binD, this, if_true, fmodE m n (by omega)]
theorem b_fdiv {m n : Int} (h : 0 < n) (h2 : n < 1073741824) : binD .fdiv (.int m) (.int n) = some (.int (m / n)) := by
  have h3 : (n != 0 && decide (n.natAbs < 1073741824)) = true := by simp; omega
  simp only [binD, h3, if_true, fdivE m n (by omega)]
theorem b_mulL {m n : Int} (h : -(2 ^ 64) < m) (h2 : m < 2 ^ 64) : binD .mul (.int m) (.int n) = some (.int (m * n)) := by
  have : (RB.small64 m || RB.small64 n) = true := by simp only [RB.small64, h, h2, decide_true, Bool.and_self, Bool.true_or]
  simp only [binD, this, if_true]
theorem b_mulR {m n : Int} (h : -(2 ^ 64) < n) (h2 : n < 2 ^ 64) : binD .mul (.int m) (.int n) = some (.int (m * n)) := by
  have : (RB.small64 m || RB.small64 n) = true := by simp only [RB.small64, h, h2, decide_true, Bool.and_self, Bool.or_true]
  simp only [binD, this, if_true]
theorem b_cat {m n : Str} (h : m.length + n.length ≤ sz) : binD .add (.str m) (.str n) = some (.str (m ++ n)) := by simp only [binD, h, if_true]
theorem b_app {o o' : Bool} {xs ys : List D} (h1 : D.freeL xs = true) (h2 : D.freeL ys = true) (h : xs.length + ys.length ≤ sz) : binD .add (.lst o xs) (.lst o' ys) = some (.lst true (xs ++ ys)) := by
  simp only [binD, h1, h2, h, decide_true, Bool.and_self, if_true]
theorem c_eqI {m n : Int} : cmpD .eq (.int m) (.int n) = some (decide (m = n)) := eqD_int m n
theorem c_neI {m n : Int} : cmpD .ne (.int m) (.int n) = some (!decide (m = n)) := by simp only [cmpD, eqD_int, Option.map_some]
theorem c_eqS {m n : Str} : cmpD .eq (.str m) (.str n) = some (decide (m = n)) := eqD_str m n
theorem c_neS {m n : Str} : cmpD .ne (.str m) (.str n) = some (!decide (m = n)) := by simp only [cmpD, eqD_str, Option.map_some]
theorem c_eqB {m n : Bool} : cmpD .eq (.bl m) (.bl n) = some (decide (m = n)) := eqD_bl m n
theorem c_neB {m n : Bool} : cmpD .ne (.bl m) (.bl n) = some (!decide (m = n)) := by simp only [cmpD, eqD_bl, Option.map_some]
theorem c_eqSs {o o' : Bool} {m n : List Str} : cmpD .eq (.lst o (m.map .str)) (.lst o' (n.map .str)) = some (decide (m = n)) := eqD_strs o o' m n
theorem c_neSs {o o' : Bool} {m n : List Str} : cmpD .ne (.lst o (m.map .str)) (.lst o' (n.map .str)) = some (!decide (m = n)) := by simp only [cmpD, eqD_strs, Option.map_some]
theorem c_inSs {o : Bool} {m : Str} {n : List Str} : cmpD .isIn (.str m) (.lst o (n.map .str)) = some (decide (m ∈ n)) := inD_strs m o n
theorem c_notSs {o : Bool} {m : Str} {n : List Str} : cmpD .notIn (.str m) (.lst o (n.map .str)) = some (!decide (m ∈ n)) := by simp only [cmpD, inD_strs, Option.map_some]
theorem l_str {m : Str} (h : m.length ≤ sz) : biD .len [.str m] = some (.int m.length) := by simp only [biD, lenD, h, if_true, Option.map_some]
theorem j_strs {o : Bool} {m : Str} {l : List Str} (h : (l.map (·.length)).sum + l.length * m.length ≤ sz) : bmD .join (.str m) [.lst o (l.map .str)] = some (.str (Txt.join m l)) := by
  simp only [bmD, strsD_map, Option.bind_some, h, if_true]
theorem p_split {m n : Str} (h1 : n.length ≠ 0) (h2 : m.length + 2 ≤ sz) : bmD .split (.str m) [.str n] = some (.lst true ((Txt.split m n).map .str)) := by
  have : (n.length != 0 && decide (m.length + 2 ≤ sz)) = true := by simp [h1, h2]
  simp only [bmD, this, if_true]
theorem w_subL {o : Bool} {xs : List D} {n : Int} (h1 : PD b.touch t S a (.lst o xs)) (h2 : PD [] t S b (.int n)) (h0 : 0 ≤ n) (hm : xs[n.toNat]? = some d) (hf : d.free = true) (hn : d.nl = true) : PW t S (.sub a b) d := by
  have hl := (List.getElem?_eq_some_iff.mp hm).1
  refine w_sub (s := .idx n.toNat) h1 h2 ?_ (by simp only [getP, hm, Option.bind_some]) hf hn
  have : n < (xs.length : Int) := by omega
  simp only [stepOf, ixOf, h0, this, if_true, Option.map_some]
theorem w_subLO {o : Bool} {xs : List D} {n : Int} (h1 : PW t S a (.lst o xs)) (h2 : PD [] t S b (.int n)) (h0 : 0 ≤ n) (hm : xs[n.toNat]? = some d) (hn : d.nl = true) : PW t S (.sub a b) d := by
  have hl := (List.getElem?_eq_some_iff.mp hm).1
  refine w_subO (s := .idx n.toNat) h1 h2 ?_ (by simp only [getP, hm, Option.bind_some]) hn
  have : n < (xs.length : Int) := by omega
  simp only [stepOf, ixOf, h0, this, if_true, Option.map_some]
theorem cutD_map {α : Type} {f : α → D} (l : List α) (lo hi : Option Int) : cutD (l.map f) lo hi = ((l.drop (HT.sIx l.length 0 lo)).take (HT.sIx l.length l.length hi - HT.sIx l.length 0 lo)).map f := by
  simp only [cutD, List.length_map, List.map_take, List.map_drop]
theorem sl_list {o : Bool} {xs : List D} {lo hi : Option Int} (h : D.freeL xs = true) : sliceD (.lst o xs) lo hi = some (.lst true (cutD xs lo hi)) := by simp only [sliceD, h, if_true]
theorem sl_text {m : Str} {lo hi : Option Int} (h : m.length ≤ sz) : sliceD (.str m) lo hi = some (.str (cutS m lo hi)) := by simp only [sliceD, h, if_true]
theorem sIx_nat (n dflt k : Nat) : HT.sIx n dflt (some (k : Int)) = min k n := by
  unfold HT.sIx
  simp
  omega
end
section
variable {t : Tab} {np : Nat} {S0 S1 S2 : DS} {ss : List S} {f : Fl} {e c a b : E} {d x y : D} {i j : Nat}
theorem look_var {S0 : DS} (h : S0.ds[i]? = some (some d)) : look S0 ⟨.slot i, []⟩ = some d := by simp [look, rootD, h, getP]
theorem ev_owned {S0 : DS} (h : S0.ds[i]? = some (some d)) (hf : d.free = false) (hn : d.nl = true) : ev t (.var i) S0 = .ok (.loc ⟨.slot i, []⟩) S0 := by
  rw [ev_var]; simp only [xVar, h]
  rcases varO_cases i d with ⟨r, rfl, _⟩ | ⟨z, _⟩ | ⟨_, z⟩
  · cases hn
  · rw [hf] at z; cases z
  · rw [z]
theorem setLoc_var {S0 : DS} (h : S0.ds[i]? = some (some d)) (y : D) : setLoc S0 ⟨.slot i, []⟩ y = some (S0.put i y) := by
  simp [setLoc, rootD, h, setP, DS.put]
/-- o.f = e, o a name -/
theorem x_attr {k : Nat} {fs : List (Str × D)} {fl : Str} (h : PW t S0 e d) (hi : S0.ds[i]? = some (some (.ins true k fs))) (hc : t.ct.fld k fl = true) (hl : fs.length < 1000) (hr : Xs t np ss (S0.put i (.ins true k (putP fs fl d))) f S2) : Xs t np (.asg (.attr (.var i) fl) e :: ss) S0 f S2 := by
  refine x_step ?_ hr
  have h' : ev t e S0 = .ok (.own d) S0 := h
  rw [ex_attr]
  have hb : (t.ct.fld k fl && decide (fs.length < 1000)) = true := by simp [hc, hl]
  simp only [xVal, h', R.bind_ok, valM_own, ev_owned hi rfl rfl, asgAttr, look_var hi, hb, if_true, setLoc_var hi]
/-- x.append(e) and the like, x a name -/
theorem x_mm {m : Mm} {es : List E} {ds : List D} {d' r : D} (hi : S0.ds[i]? = some (some d)) (hf : d.free = false) (hn : d.nl = true) (h : PWL t S0 es ds) (hk : mmK m d = true) (hm : mmD m d ds = some (r, d')) (hr : Xs t np ss (S0.put i d') f S2) : Xs t np (.expr (.mm m (.var i) es) :: ss) S0 f S2 := by
  refine x_step ?_ hr
  obtain ⟨h1, h2, h3⟩ := h.ev
  rw [ex_expr, ev_mm]
  simp only [xMm, evL, xKind, ev_owned hi hf hn, R.bind_ok, dat_loc, look_var hi, hk, if_true, okWait_root, h1, h2, Option.bind_some, hm, setLoc_var hi]
theorem x_for {g : Tg} {src : Src} {sb : List S} {xs : List D} (hs : evSrc t src S0 = .ok xs S1) (hl : forLoop np g (execs t np sb) xs S1 = .ok .next S2) {S3 : DS} (hr : Xs t np ss S2 f S3) : Xs t np (.forS g src sb :: ss) S0 f S3 := by
  refine x_step ?_ hr
  rw [ex_for, hs, R.bind_ok]; exact hl
theorem x_aug {op : BOp} {m n v : Int} (hi : S0.ds[i]? = some (some (.int m))) (h : PD [] t S0 e (.int n)) (ho : augI op m n = some v) (h1 : np ≤ i) (hr : Xs t np ss (S0.put i (.int v)) f S2) : Xs t np (.aug i op e :: ss) S0 f S2 := by
  refine x_step ?_ hr
  obtain ⟨o, e1, e2, _⟩ := h
  rw [ex_aug]; simp only [xAug, hi, e1, R.bind_ok, e2, ho, Option.bind_some, setVar_put h1 (lt_of_get hi)]
end
end RB
namespace RB
open PySem L2
section
variable {t : Tab} {np : Nat} {g : Tg} {sb : List S} {S0 S1 S2 S3 : DS} {d : D} {ds : List D} {r : R Fl}
theorem fl_nil : forLoop np g (execs t np sb) [] S0 = .ok .next S0 := rfl
theorem fl_cons (h1 : setTg np g d S0 = some S1) (h2 : Xs t np sb S1 .next S2) (h3 : forLoop np g (execs t np sb) ds S2 = r) : forLoop np g (execs t np sb) (d :: ds) S0 = r := by
  unfold Xs at h2
  simp only [forLoop, h1, h2, R.bind_ok]; exact h3
theorem fl_stop {v : D} (h1 : setTg np g d S0 = some S1) (h2 : Xs t np sb S1 (.ret v) S2) : forLoop np g (execs t np sb) (d :: ds) S0 = .ok (.ret v) S2 := by
  unfold Xs at h2
  simp only [forLoop, h1, h2, R.bind_ok]
/-- a loop with something that holds throughout -/
theorem fl_inv {α : Type} {emb : α → D} (I : DS → Prop) (ys : List α) (hs : ∀ y ∈ ys, ∀ S, I S → ∃ S1, setTg np g (emb y) S = some S1 ∧ ∃ S2, Xs t np sb S1 .next S2 ∧ I S2) : ∀ S, I S → ∃ S', forLoop np g (execs t np sb) (ys.map emb) S = .ok .next S' ∧ I S' := by
  induction ys with
  | nil => intro S h; exact ⟨S, rfl, h⟩
  | cons y ys ih =>
    intro S h
    obtain ⟨S1, h1, S2, h2, h3⟩ := hs y List.mem_cons_self S h
    obtain ⟨S', h4, h5⟩ := ih (fun z hz => hs z (List.mem_cons_of_mem _ hz)) S2 h3
    exact ⟨S', fl_cons h1 h2 h4, h5⟩
end
end RB
namespace RB
theorem run_pure {t : Tab} {fn : Fn} {ds rg : List D} {d : D} {S2 : DS} (hl : ds.length = fn.np) (h : Xs t fn.np fn.body ⟨ds.map some ++ List.replicate (fn.nv - fn.np) none, rg⟩ (.ret d) S2) (hp : S2.ds.take fn.np = ds.map some) (hr : S2.rg = rg) : runFn t fn ds rg = .ret d (ds.map some) rg := by
  rw [run_of hl h, hp, hr]
end RB
namespace RB
open PySem L2
section
variable {t : Tab} {np : Nat} {S0 S1 S2 : DS} {ss : List S} {f : Fl} {e : E} {d : D} {i : Nat}
theorem x_retS (h : ev t e S0 = .ok (.own d) S1) : Xs t np (.ret e :: ss) S0 (.ret d) S1 := by
  refine x_stop ?_ (by simp)
  rw [ex_ret]; simp only [xVal, h, R.bind_ok, valM_own]
theorem x_asgS (h : ev t e S0 = .ok (.own d) S1) (h1 : np ≤ i) (h2 : i < S1.ds.length) (hr : Xs t np ss (S1.put i d) f S2) : Xs t np (.asg (.name i) e :: ss) S0 f S2 := by
  refine x_step ?_ hr
  rw [ex_name]; simp only [xVal, h, R.bind_ok, valM_own, setVar_put h1 h2]
theorem s_listV {xs : List D} (h : S0.ds[i]? = some (some (.lst true xs))) : evSrc t (.seq (.var i)) S0 = .ok (D.leakL xs) (S0.put i (.lst false (D.leakL xs))) := by
  rw [sr_seq]
  simp only [xSeq, ev_owned h rfl rfl, R.bind_ok, dat_loc, look_var h, Option.bind_some, itemsD, giveUp, D.leak, setLoc_var h]
theorem enum_map {α : Type} (f : α → D) : ∀ (l : List α) (j : Nat), enumD j (l.map f) = (l.zipIdx j).map fun p => .tup [.int p.2, f p.1]
  | [], j => rfl
  | x :: l, j => by simp only [List.map_cons, enumD, List.zipIdx_cons, enum_map f l (j + 1)]
end
end RB
end

section
set_option Elab.async false
set_option maxRecDepth 100000
set_option linter.unusedVariables false
set_option maxHeartbeats 2000000
namespace RB
open PySem L2
/-! ### texts by their signs -/
theorem ofL_sgs (z : Str) : ofL (sgs z) = z := ofL_eq z
theorem sg_ofL (c : Nat) : sg c = ofL [c] := rfl
theorem str_ext {a b : Str} (h : sgs a = sgs b) : a = b := sgs_inj h
theorem joinL_nil : ∀ (l : List Nat), TL.joinL [] (l.map fun c => [c]) = l
  | [] => rfl
  | [c] => rfl
  | c :: e :: r => by
    show [c] ++ ([] ++ TL.joinL [] ((e :: r).map fun c => [c])) = _
    rw [joinL_nil (e :: r)]; rfl
theorem sgs_join (y : Str) (l : List Str) : sgs (Txt.join y l) = TL.joinL (sgs y) (l.map sgs) := by
  rw [TL.join_eq]; exact TL.tl_join y l
theorem join_signs (l : List Nat) : Txt.join "" (l.map sg) = ofL l := by
  apply str_ext
  rw [sgs_join, sgs_ofL, List.map_map]
  have e : sgs ("" : Str) = [] := by decide +kernel
  rw [e]
  exact joinL_nil l
theorem cut_hi (z : Str) (n : Nat) : cutS z none (some (n : Int)) = ofL ((sgs z).take n) := by
  apply str_ext
  rw [sgs_ofL]
  show (z.cps.toList.drop (HT.sIx z.length 0 none)).take (HT.sIx z.length z.length (some (n : Int)) - HT.sIx z.length 0 none) = _
  have e : HT.sIx z.length 0 none = 0 := rfl
  rw [e, sIx_nat, List.drop_zero, Nat.sub_zero]
  show (sgs z).take _ = _
  rw [← sgs_len]
  exact List.take_eq_take_iff.mpr (by omega)
theorem cut_lo (z : Str) (n : Nat) : cutS z (some (n : Int)) none = ofL ((sgs z).drop n) := by
  apply str_ext
  rw [sgs_ofL]
  show (z.cps.toList.drop (HT.sIx z.length 0 (some (n : Int)))).take (HT.sIx z.length z.length none - HT.sIx z.length 0 (some (n : Int))) = _
  have e : HT.sIx z.length z.length none = z.length := rfl
  rw [e, sIx_nat]
  show ((sgs z).drop _).take _ = _
  rw [← sgs_len]
  by_cases h : n ≤ (sgs z).length
  · rw [Nat.min_eq_left h]; exact List.take_of_length_le (by rw [List.length_drop]; omega)
  · rw [Nat.min_eq_right (by omega), List.drop_eq_nil_of_le (Nat.le_refl _), List.drop_eq_nil_of_le (by omega)]; simp
theorem sum_le {l : List Str} {n : Nat} (h : ∀ z ∈ l, z.length ≤ n) : (l.map (·.length)).sum ≤ l.length * n := by
  induction l with
  | nil => simp
  | cons x l ih =>
    have := ih fun z hz => h z (List.mem_cons_of_mem _ hz)
    have hx := h x List.mem_cons_self
    simp only [List.map_cons, List.sum_cons, List.length_cons, Nat.succ_mul]
    omega
/-! ### drawn names -/
def ltr (i : Int) : Nat := 97 + (i % 26).toNat
def alphabet : Str := "abcdefghijklmnopqrstuvwxyz"
theorem alpha_at (i : Int) : atI (sgs alphabet) (i % 26) = some (ltr i) := by
  have key : ∀ k : Fin 26, atI (sgs alphabet) ((k.val : Nat) : Int) = some (97 + k.val) := by decide +kernel
  have h0 : 0 ≤ i % 26 := Int.emod_nonneg _ (by decide)
  have h1 : i % 26 < 26 := Int.emod_lt_of_pos _ (by decide)
  have := key ⟨(i % 26).toNat, by omega⟩
  have e : (((i % 26).toNat : Nat) : Int) = i % 26 := by omega
  simp only [e] at this
  exact this
theorem ltr_in (i : Int) : inL alphabet (ltr i) = true := by
  have key : ∀ k : Fin 26, inL alphabet (97 + k.val) = true := by decide +kernel
  have h1 : i % 26 < 26 := Int.emod_lt_of_pos _ (by decide)
  have h0 : 0 ≤ i % 26 := Int.emod_nonneg _ (by decide)
  exact key ⟨(i % 26).toNat, by omega⟩
def baseL (n : Int) : List Nat := (List.range 12).map fun (j : Nat) => ltr (n / 7 + (3 + n % 5) * (j : Int))
def brd (n : Int) : List Nat := (baseL n).take (n % 8).toNat
def brdAt (n : Int) : Nat := (n / 200 % (((brd n).length : Int) + 1)).toNat
def namesL (n : Int) (m : Nat) : List Str := if n / 9 % 3 = 1 then (List.range m).map fun k => ofL ((baseL n).take (k + 1))
  else (List.range m).map fun (k : Nat) => ofL ((brd n).take (brdAt n) ++ [ltr (n / 2000 + 5 * (k : Int))] ++ (brd n).drop (brdAt n))
/-- a name -/
def Nm (z : Str) : Prop := 1 ≤ z.length ∧ z.length ≤ 12 ∧ (sgs z).all (inL alphabet) = true
theorem baseL_len (n : Int) : (baseL n).length = 12 := by simp [baseL]
theorem brd_len (n : Int) : (brd n).length ≤ 7 := by
  have h1 : n % 8 < 8 := Int.emod_lt_of_pos _ (by decide)
  simp only [brd, List.length_take, baseL_len]; omega
theorem baseL_in (n : Int) : ∀ c ∈ baseL n, inL alphabet c = true := fun c hc => by
  obtain ⟨j, _, rfl⟩ := List.mem_map.mp hc
  exact ltr_in _
theorem namesL_len (n : Int) (m : Nat) : (namesL n m).length = m := by unfold namesL; split <;> simp
theorem namesL_nm (n : Int) (m : Nat) (hm : m ≤ 12) : ∀ z ∈ namesL n m, Nm z := fun z hz => by
  unfold namesL at hz
  split at hz
  · obtain ⟨k, hk, rfl⟩ := List.mem_map.mp hz
    rw [List.mem_range] at hk
    refine ⟨?_, ?_, ?_⟩
    · rw [ofL_length, List.length_take, baseL_len]; omega
    · rw [ofL_length, List.length_take, baseL_len]; omega
    · rw [sgs_ofL]; exact List.all_eq_true.mpr fun c hc => baseL_in n c (List.mem_of_mem_take hc)
  · obtain ⟨k, hk, rfl⟩ := List.mem_map.mp hz
    have hb := brd_len n
    refine ⟨?_, ?_, ?_⟩
    · rw [ofL_length]; simp only [List.length_append, List.length_cons, List.length_nil]; omega
    · rw [ofL_length]; simp only [List.length_append, List.length_take, List.length_drop, List.length_cons, List.length_nil]; omega
    · rw [sgs_ofL]
      refine List.all_eq_true.mpr fun c hc => ?_
      have hbm : ∀ c ∈ brd n, inL alphabet c = true := fun c hc => baseL_in n c (List.mem_of_mem_take hc)
      rcases List.mem_append.mp hc with hc | hc
      · rcases List.mem_append.mp hc with hc | hc
        · exact hbm c (List.mem_of_mem_take hc)
        · cases List.mem_singleton.mp hc; exact ltr_in _
      · exact hbm c (List.mem_of_mem_drop hc)
theorem namesL_nodup (n : Int) (m : Nat) (hm : m ≤ 12) : (namesL n m).Nodup := by
  unfold namesL
  split
  · refine List.Pairwise.map _ (fun a b (hab : a ≠ b ∧ a < 12 ∧ b < 12) e => ?_) ((List.Pairwise.and_mem.mp (List.nodup_range (n := m))).imp fun {a b} ⟨h1, h2, h3⟩ => ⟨h3, by rw [List.mem_range] at h1; omega, by rw [List.mem_range] at h2; omega⟩)
    have := congrArg (fun z : Str => z.length) e
    simp only [ofL_length, List.length_take, baseL_len] at this
    omega
  · refine List.Pairwise.map _ (fun a b (hab : a ≠ b ∧ a < 12 ∧ b < 12) e => ?_) ((List.Pairwise.and_mem.mp (List.nodup_range (n := m))).imp fun {a b} ⟨h1, h2, h3⟩ => ⟨h3, by rw [List.mem_range] at h1; omega, by rw [List.mem_range] at h2; omega⟩)
    have h1 := congrArg sgs e
    rw [sgs_ofL, sgs_ofL, List.append_assoc, List.append_assoc] at h1
    have h2 := List.append_cancel_left h1
    simp only [List.cons_append, List.nil_append, List.cons.injEq] at h2
    have h3 := h2.1
    simp only [ltr] at h3
    have h4 : (n / 2000 + 5 * (a : Int)) % 26 = (n / 2000 + 5 * (b : Int)) % 26 := by
      have p1 : 0 ≤ (n / 2000 + 5 * (a : Int)) % 26 := Int.emod_nonneg _ (by decide)
      have p2 : 0 ≤ (n / 2000 + 5 * (b : Int)) % 26 := Int.emod_nonneg _ (by decide)
      omega
    omega
end RB
end

section
set_option Elab.async false
set_option linter.all false
set_option maxRecDepth 100000
set_option maxHeartbeats 4000000
namespace K25
open PySem L2 RB
def top (i : Nat) : Stmt := PySem.Challenge.pw_reachbook_k25_questions_as_texts.main.body.getD i (.Pass ⟨0, 0, 0, 0⟩)
def mth (i j : Nat) : Stmt := match top i with | .ClassDef _ _ _ b _ _ _ _ _ _ _ => b.getD j (.Pass ⟨0, 0, 0, 0⟩) | _ => .Pass ⟨0, 0, 0, 0⟩
/-- are_signs(text, signs); 0 text 1 signs 2 sign -/
def b_are_signs : List S := [.ret (.bi .all [.comp (.name 2) (.seq (.var 0)) none (.cmp .isIn (.var 2) (.var 1))])]
def f_are_signs : Fn := ⟨2, 3, b_are_signs⟩
abbrev F_are_signs : Nat := 0
def d_are_signs : DefR := ⟨("are_signs", none), "are_signs", "are_signs", top 7, ["text", "signs", "sign"], ["text", "signs"], b_are_signs⟩
/-- is_name(thing); 0 thing -/
def b_is_name : List S := [.ret (.andE (.isi (.var 0) .str) (.andE (.chain .le .le (.int (1)) (.bi .len [.var 0]) (.glob "MOST_LETTERS" (.int (12)))) (.call 0 [.var 0, .glob "LETTERS" (.str "abcdefghijklmnopqrstuvwxyz")])))]
def f_is_name : Fn := ⟨1, 1, b_is_name⟩
abbrev F_is_name : Nat := 1
def d_is_name : DefR := ⟨("is_name", none), "is_name", "is_name", top 8, ["thing"], ["thing"], b_is_name⟩
/-- name_row(word, names); 0 word 1 names -/
def b_name_row : List S := [.ret (.bm .join (.str " ") [.bin .add (.lst [.var 0]) (.var 1)])]
def f_name_row : Fn := ⟨2, 2, b_name_row⟩
abbrev F_name_row : Nat := 2
def d_name_row : DefR := ⟨("name_row", none), "name_row", "name_row", top 10, ["word", "names"], ["word", "names"], b_name_row⟩
/-- question_by(word, names); 0 word 1 names -/
def b_question_by : List S := [.ife (.cmp .eq (.var 0) (.str "together")) [.ret (.mk 1 [.sub (.var 1) (.int (0)), .sub (.var 1) (.int (1))])] [],
    .ife (.cmp .eq (.var 0) (.str "comes")) [.ret (.mk 2 [.sub (.var 1) (.int (0)), .sub (.var 1) (.int (1))])] [],
    .ife (.cmp .eq (.var 0) (.str "must")) [.ret (.mk 3 [.sub (.var 1) (.int (0)), .sub (.var 1) (.int (1))])] [],
    .ife (.cmp .eq (.var 0) (.str "points")) [.ret (.mk 4 [.sub (.var 1) (.int (0)), .sub (.var 1) (.int (1))])] [],
    .ife (.cmp .eq (.var 0) (.str "ring")) [.ret (.mk 5 [.sub (.var 1) (.int (0)), .sub (.var 1) (.int (1))])] [],
    .ife (.cmp .eq (.var 0) (.str "least")) [.ret (.mk 6 [.sub (.var 1) (.int (0)), .sub (.var 1) (.int (1))])] [],
    .ife (.cmp .eq (.var 0) (.str "fewest")) [.ret (.mk 7 [.sub (.var 1) (.int (0)), .sub (.var 1) (.int (1))])] [],
    .ife (.cmp .eq (.var 0) (.str "apart")) [.ret (.mk 8 [.sub (.var 1) (.int (0)), .sub (.var 1) (.int (1))])] [],
    .ife (.cmp .eq (.var 0) (.str "past")) [.ret (.mk 9 [.sub (.var 1) (.int (0)), .sub (.var 1) (.int (1)), .sub (.var 1) (.int (2))])] [],
    .ret (.call 4 [.var 0])]
def f_question_by : Fn := ⟨2, 2, b_question_by⟩
abbrev F_question_by : Nat := 3
def d_question_by : DefR := ⟨("question_by", none), "question_by", "question_by", top 28, ["word", "names"], ["word", "names"], b_question_by⟩
/-- whole_by(word); 0 word -/
def b_whole_by : List S := [.ife (.cmp .eq (.var 0) (.str "pieces")) [.ret (.mk 10 [])] [],
    .ife (.cmp .eq (.var 0) (.str "knots")) [.ret (.mk 11 [])] [],
    .ife (.cmp .eq (.var 0) (.str "sides")) [.ret (.mk 12 [])] [],
    .ife (.cmp .eq (.var 0) (.str "lightest")) [.ret (.mk 13 [])] [],
    .ife (.cmp .eq (.var 0) (.str "starts")) [.ret (.mk 14 [])] [],
    .ret (.mk 15 [])]
def f_whole_by : Fn := ⟨1, 1, b_whole_by⟩
abbrev F_whole_by : Nat := 4
def d_whole_by : DefR := ⟨("whole_by", none), "whole_by", "whole_by", top 29, ["word"], ["word"], b_whole_by⟩
/-- many_names(word); 0 word -/
def b_many_names : List S := [.ife (.cmp .isIn (.var 0) (.tup [.str "together", .str "comes", .str "must", .str "points", .str "ring", .str "least", .str "fewest", .str "apart"])) [.ret (.int (2))] [],
    .ife (.cmp .eq (.var 0) (.str "past")) [.ret (.int (3))] [],
    .ife (.cmp .isIn (.var 0) (.tup [.str "pieces", .str "knots", .str "sides", .str "lightest", .str "starts", .str "leaves"])) [.ret (.int (0))] [],
    .ret (.non)]
def f_many_names : Fn := ⟨1, 1, b_many_names⟩
abbrev F_many_names : Nat := 5
def d_many_names : DefR := ⟨("many_names", none), "many_names", "many_names", top 30, ["word"], ["word"], b_many_names⟩
/-- question_of(text); 0 text 1 words 2 many 3 at 4 place 5 word -/
def b_question_of : List S := [.ife (.notE (.isi (.var 0) .str)) [.dead] [],
    .asg (.name 1) (.keep (.bm .split (.var 0) [.str " "])),
    .asg (.name 2) (.keep (.call 5 [.sub (.var 1) (.int (0))])),
    .ife (.isN (.var 2)) [.dead] [],
    .asg (.name 3) (.bin .add (.bi .len [.sub (.var 1) (.int (0))]) (.int (1))),
    .forS (.tup [4, 5]) (.enum (.slice (.var 1) (some (.int (1))) none)) [.ife (.orE (.cmp .ge (.var 4) (.var 2)) (.notE (.call 1 [.var 5]))) [.dead] [],
    .aug 3 .add (.bin .add (.bi .len [.var 5]) (.int (1)))],
    .ife (.cmp .le (.bi .len [.var 1]) (.var 2)) [.dead] [],
    .ret (.call 3 [.sub (.var 1) (.int (0)), .slice (.var 1) (some (.int (1))) none])]
def f_question_of : Fn := ⟨1, 6, b_question_of⟩
abbrev F_question_of : Nat := 6
def d_question_of : DefR := ⟨("question_of", none), "question_of", "question_of", top 31, ["text", "words", "many", "at", "place", "word"], ["text"], b_question_of⟩
/-- number(script, k); 0 script 1 k 2 cell 3 more -/
def b_number : List S := [.asg (.name 2) (.int (1)),
    .ife (.cmp .gt (.bi .len [.var 0]) (.int (0))) [.asg (.name 2) (.keep (.sub (.var 0) (.bin .mod (.var 1) (.bi .len [.var 0]))))] [],
    .asg (.name 3) (.bin .add (.var 1) (.int (3))),
    .ret (.bin .mod (.bin .mul (.bin .mod (.bin .add (.bin .mul (.bin .mod (.var 2) (.int (2147483629))) (.int (48271))) (.bin .mul (.bin .mul (.var 3) (.var 3)) (.int (69621)))) (.int (2147483647))) (.int (16807))) (.int (2147483629)))]
def f_number : Fn := ⟨2, 4, b_number⟩
abbrev F_number : Nat := 7
def d_number : DefR := ⟨("_law_number", none), "_law_number", "_law_number", top 33, ["_law_script", "_law_k", "_law_cell", "_law_more"], ["_law_script", "_law_k"], b_number⟩
/-- names(number_here, many); 0 number_here 1 many 2 letters 3 step 4 base 5 j 6 k 7 border 8 at 9 signs 10 sign -/
def b_names : List S := [.asg (.name 2) (.str "abcdefghijklmnopqrstuvwxyz"),
    .asg (.name 3) (.bin .add (.int (3)) (.bin .mod (.var 0) (.int (5)))),
    .asg (.name 4) (.bm .join (.str "") [.comp (.name 5) (.rng1 (.int (12))) none (.sub (.var 2) (.bin .mod (.bin .add (.bin .fdiv (.var 0) (.int (7))) (.bin .mul (.var 3) (.var 5))) (.int (26))))]),
    .ife (.cmp .eq (.bin .mod (.bin .fdiv (.var 0) (.int (9))) (.int (3))) (.int (1))) [.ret (.comp (.name 6) (.rng1 (.var 1)) none (.slice (.var 4) none (some (.bin .add (.var 6) (.int (1))))))] [],
    .asg (.name 7) (.keep (.slice (.var 4) none (some (.bin .mod (.var 0) (.int (8)))))),
    .asg (.name 8) (.bin .mod (.bin .fdiv (.var 0) (.int (200))) (.bin .add (.bi .len [.var 7]) (.int (1)))),
    .asg (.name 9) (.comp (.name 6) (.rng1 (.var 1)) none (.sub (.var 2) (.bin .mod (.bin .add (.bin .fdiv (.var 0) (.int (2000))) (.bin .mul (.int (5)) (.var 6))) (.int (26))))),
    .ret (.comp (.name 10) (.seq (.var 9)) none (.bin .add (.bin .add (.slice (.var 7) none (some (.var 8))) (.var 10)) (.slice (.var 7) (some (.var 8)) none)))]
def f_names : Fn := ⟨2, 11, b_names⟩
abbrev F_names : Nat := 8
def d_names : DefR := ⟨("_law_names", none), "_law_names", "_law_names", top 34, ["_law_number_here", "_law_many", "_law_letters", "_law_step", "_law_base", "_law_j", "_law_k", "_law_border", "_law_at", "_law_signs", "_law_sign"], ["_law_number_here", "_law_many"], b_names⟩
/-- kinds(found); 0 found 1 some 2 word 3 is_so -/
def b_kinds : List S := [.asg (.name 1) (.lst [.tup [.str "together", .isi (.var 0) (.cls 1)], .tup [.str "comes", .isi (.var 0) (.cls 2)]]),
    .asg (.name 1) (.bin .add (.var 1) (.lst [.tup [.str "must", .isi (.var 0) (.cls 3)], .tup [.str "points", .isi (.var 0) (.cls 4)]])),
    .asg (.name 1) (.bin .add (.var 1) (.lst [.tup [.str "ring", .isi (.var 0) (.cls 5)], .tup [.str "least", .isi (.var 0) (.cls 6)]])),
    .asg (.name 1) (.bin .add (.var 1) (.lst [.tup [.str "fewest", .isi (.var 0) (.cls 7)], .tup [.str "apart", .isi (.var 0) (.cls 8)]])),
    .asg (.name 1) (.bin .add (.var 1) (.lst [.tup [.str "past", .isi (.var 0) (.cls 9)], .tup [.str "pieces", .isi (.var 0) (.cls 10)]])),
    .asg (.name 1) (.bin .add (.var 1) (.lst [.tup [.str "knots", .isi (.var 0) (.cls 11)], .tup [.str "sides", .isi (.var 0) (.cls 12)]])),
    .asg (.name 1) (.bin .add (.var 1) (.lst [.tup [.str "lightest", .isi (.var 0) (.cls 13)], .tup [.str "starts", .isi (.var 0) (.cls 14)]])),
    .expr (.mm .append (.var 1) [.tup [.str "leaves", .isi (.var 0) (.cls 15)]]),
    .ret (.comp (.tup [2, 3]) (.seq (.var 1)) (some (.var 3)) (.var 2))]
def f_kinds : Fn := ⟨1, 4, b_kinds⟩
abbrev F_kinds : Nat := 9
def d_kinds : DefR := ⟨("_law_kinds", none), "_law_kinds", "_law_kinds", top 35, ["_law_found", "_law_some", "_law_word", "_law_is_so"], ["_law_found"], b_kinds⟩
/-- made(word, names_here); 0 word 1 names_here -/
def b_made : List S := [.ife (.cmp .eq (.var 0) (.str "together")) [.ret (.mk 1 [.sub (.var 1) (.int (0)), .sub (.var 1) (.int (1))])] [],
    .ife (.cmp .eq (.var 0) (.str "comes")) [.ret (.mk 2 [.sub (.var 1) (.int (0)), .sub (.var 1) (.int (1))])] [],
    .ife (.cmp .eq (.var 0) (.str "must")) [.ret (.mk 3 [.sub (.var 1) (.int (0)), .sub (.var 1) (.int (1))])] [],
    .ife (.cmp .eq (.var 0) (.str "points")) [.ret (.mk 4 [.sub (.var 1) (.int (0)), .sub (.var 1) (.int (1))])] [],
    .ife (.cmp .eq (.var 0) (.str "ring")) [.ret (.mk 5 [.sub (.var 1) (.int (0)), .sub (.var 1) (.int (1))])] [],
    .ife (.cmp .eq (.var 0) (.str "least")) [.ret (.mk 6 [.sub (.var 1) (.int (0)), .sub (.var 1) (.int (1))])] [],
    .ife (.cmp .eq (.var 0) (.str "fewest")) [.ret (.mk 7 [.sub (.var 1) (.int (0)), .sub (.var 1) (.int (1))])] [],
    .ife (.cmp .eq (.var 0) (.str "apart")) [.ret (.mk 8 [.sub (.var 1) (.int (0)), .sub (.var 1) (.int (1))])] [],
    .ife (.cmp .eq (.var 0) (.str "past")) [.ret (.mk 9 [.sub (.var 1) (.int (0)), .sub (.var 1) (.int (1)), .sub (.var 1) (.int (2))])] [],
    .ife (.cmp .eq (.var 0) (.str "pieces")) [.ret (.mk 10 [])] [],
    .ife (.cmp .eq (.var 0) (.str "knots")) [.ret (.mk 11 [])] [],
    .ife (.cmp .eq (.var 0) (.str "sides")) [.ret (.mk 12 [])] [],
    .ife (.cmp .eq (.var 0) (.str "lightest")) [.ret (.mk 13 [])] [],
    .ret (.ife (.cmp .eq (.var 0) (.str "starts")) (.mk 14 []) (.mk 15 []))]
def f_made : Fn := ⟨2, 2, b_made⟩
abbrev F_made : Nat := 10
def d_made : DefR := ⟨("_law_made", none), "_law_made", "_law_made", top 36, ["_law_word", "_law_names_here"], ["_law_word", "_law_names_here"], b_made⟩
/-- right(found, word, names_here); 0 found 1 word 2 names_here 3 turn 4 told -/
def b_right : List S := [.ife (.orE (.notE (.isi (.var 0) (.cls 0))) (.cmp .ne (.call 9 [.var 0]) (.lst [.var 1]))) [.ret (.bl false)] [],
    .ife (.orE (.cmp .ne (.meth (.var 0) "text" []) (.bm .join (.str " ") [.bin .add (.lst [.var 1]) (.var 2)])) (.notE (.isi (.meth (.var 0) "has_loads" []) .bool))) [.ret (.bl false)] [],
    .ife (.cmp .ne (.meth (.var 0) "has_loads" []) (.cmp .isIn (.var 1) (.tup [.str "least", .str "lightest"]))) [.ret (.bl false)] [],
    .forS (.name 3) (.rng1 (.int (2))) [.asg (.name 4) (.meth (.var 0) "matter" []),
    .ife (.orE (.notE (.isi (.var 4) .list)) (.cmp .ne (.var 4) (.var 2))) [.ret (.bl false)] [],
    .expr (.mm .append (.var 4) [.str "more"])],
    .ret (.bl true)]
def f_right : Fn := ⟨3, 5, b_right⟩
abbrev F_right : Nat := 11
def d_right : DefR := ⟨("_law_right", none), "_law_right", "_law_right", top 37, ["_law_found", "_law_word", "_law_names_here", "_law_turn", "_law_told"], ["_law_found", "_law_word", "_law_names_here"], b_right⟩
/-- law(script); 0 script 1 twos 2 wholes 3 k 4 number_here 5 names_here 6 some 7 j 8 word -/
def b_law : List S := [.asg (.name 1) (.keep (.lst [.str "together", .str "comes", .str "must", .str "points", .str "ring", .str "least", .str "fewest", .str "apart"])),
    .asg (.name 2) (.keep (.lst [.str "pieces", .str "knots", .str "sides", .str "lightest", .str "starts", .str "leaves"])),
    .forS (.name 3) (.rng1 (.bi .max2 [.int (1), .bi .min2 [.int (63), .bi .len [.var 0]]])) [.asg (.name 4) (.keep (.call 7 [.var 0, .var 3])),
    .asg (.name 5) (.keep (.sub (.lst [.call 8 [.var 4, .int (12)], .lst [.str "way", .str "past", .str "together", .str "pieces", .str "border", .str "at"]]) (.bin .mod (.bin .fdiv (.var 4) (.int (11))) (.int (2))))),
    .asg (.name 6) (.comp (.name 7) (.rng1 (.int (3))) none (.sub (.var 5) (.bin .mod (.bin .fdiv (.var 4) (.bin .add (.int (22)) (.var 7))) (.bi .len [.var 5])))),
    .forS (.name 8) (.seq (.var 1)) [.ife (.notE (.call 11 [.keep (.call 6 [.bm .join (.str " ") [.bin .add (.lst [.var 8]) (.slice (.var 6) none (some (.int (2))))]]), .var 8, .slice (.var 6) none (some (.int (2)))])) [.ret (.bl false)] [],
    .ife (.notE (.call 11 [.keep (.call 10 [.var 8, .slice (.var 6) none (some (.int (2)))]), .var 8, .slice (.var 6) none (some (.int (2)))])) [.ret (.bl false)] []],
    .ife (.notE (.call 11 [.keep (.call 6 [.bm .join (.str " ") [.bin .add (.lst [.str "past"]) (.var 6)]]), .str "past", .var 6])) [.ret (.bl false)] [],
    .ife (.notE (.call 11 [.keep (.call 10 [.str "past", .var 6]), .str "past", .var 6])) [.ret (.bl false)] [],
    .asg (.name 8) (.keep (.sub (.var 2) (.bin .mod (.var 3) (.int (6))))),
    .ife (.orE (.notE (.call 11 [.keep (.call 6 [.var 8]), .var 8, .keep (.lst [])])) (.notE (.call 11 [.keep (.call 10 [.var 8, .keep (.lst [])]), .var 8, .keep (.lst [])]))) [.ret (.bl false)] []],
    .ret (.bl true)]
def f_law : Fn := ⟨1, 9, b_law⟩
abbrev F_law : Nat := 12
def d_law : DefR := ⟨("law", none), "law", "law", top 38, ["_law_script", "_law_twos", "_law_wholes", "_law_k", "_law_number_here", "_law_names_here", "_law_some", "_law_j", "_law_word"], ["_law_script"], b_law⟩
/-- HangsTogether_init(self, one, other); 0 self 1 one 2 other -/
def b_HangsTogether_init : List S := [.asg (.attr (.var 0) "names") (.lst [.var 1, .var 2])]
def f_HangsTogether_init : Fn := ⟨3, 3, b_HangsTogether_init⟩
abbrev F_HangsTogether_init : Nat := 13
def d_HangsTogether_init : DefR := ⟨("HangsTogether", some ("__init__" : Str)), "__init__", "OfTwo.__init__", mth 12 0, ["self", "one", "other"], ["self", "one", "other"], b_HangsTogether_init⟩
/-- HangsTogether_called(self); 0 self -/
def b_HangsTogether_called : List S := [.ret (.str "together")]
def f_HangsTogether_called : Fn := ⟨1, 1, b_HangsTogether_called⟩
abbrev F_HangsTogether_called : Nat := 14
def d_HangsTogether_called : DefR := ⟨("HangsTogether", some ("called" : Str)), "called", "HangsTogether.called", mth 13 0, ["self"], ["self"], b_HangsTogether_called⟩
/-- HangsTogether_has_loads(self); 0 self -/
def b_HangsTogether_has_loads : List S := [.ret (.bl false)]
def f_HangsTogether_has_loads : Fn := ⟨1, 1, b_HangsTogether_has_loads⟩
abbrev F_HangsTogether_has_loads : Nat := 15
def d_HangsTogether_has_loads : DefR := ⟨("HangsTogether", some ("has_loads" : Str)), "has_loads", "Question.has_loads", mth 11 4, ["self"], ["self"], b_HangsTogether_has_loads⟩
/-- HangsTogether_matter(self); 0 self -/
def b_HangsTogether_matter : List S := [.ret (.bi .list [.attr (.var 0) "names"])]
def f_HangsTogether_matter : Fn := ⟨1, 1, b_HangsTogether_matter⟩
abbrev F_HangsTogether_matter : Nat := 16
def d_HangsTogether_matter : DefR := ⟨("HangsTogether", some ("matter" : Str)), "matter", "Question.matter", mth 11 3, ["self"], ["self"], b_HangsTogether_matter⟩
/-- HangsTogether_text(self); 0 self -/
def b_HangsTogether_text : List S := [.ret (.call 2 [.keep (.meth (.var 0) "called" []), .attr (.var 0) "names"])]
def f_HangsTogether_text : Fn := ⟨1, 1, b_HangsTogether_text⟩
abbrev F_HangsTogether_text : Nat := 17
def d_HangsTogether_text : DefR := ⟨("HangsTogether", some ("text" : Str)), "text", "Question.text", mth 11 2, ["self"], ["self"], b_HangsTogether_text⟩
/-- ComesThere_init(self, one, other); 0 self 1 one 2 other -/
def b_ComesThere_init : List S := [.asg (.attr (.var 0) "names") (.lst [.var 1, .var 2])]
def f_ComesThere_init : Fn := ⟨3, 3, b_ComesThere_init⟩
abbrev F_ComesThere_init : Nat := 18
def d_ComesThere_init : DefR := ⟨("ComesThere", some ("__init__" : Str)), "__init__", "OfTwo.__init__", mth 12 0, ["self", "one", "other"], ["self", "one", "other"], b_ComesThere_init⟩
/-- ComesThere_called(self); 0 self -/
def b_ComesThere_called : List S := [.ret (.str "comes")]
def f_ComesThere_called : Fn := ⟨1, 1, b_ComesThere_called⟩
abbrev F_ComesThere_called : Nat := 19
def d_ComesThere_called : DefR := ⟨("ComesThere", some ("called" : Str)), "called", "ComesThere.called", mth 14 0, ["self"], ["self"], b_ComesThere_called⟩
/-- ComesThere_has_loads(self); 0 self -/
def b_ComesThere_has_loads : List S := [.ret (.bl false)]
def f_ComesThere_has_loads : Fn := ⟨1, 1, b_ComesThere_has_loads⟩
abbrev F_ComesThere_has_loads : Nat := 20
def d_ComesThere_has_loads : DefR := ⟨("ComesThere", some ("has_loads" : Str)), "has_loads", "Question.has_loads", mth 11 4, ["self"], ["self"], b_ComesThere_has_loads⟩
/-- ComesThere_matter(self); 0 self -/
def b_ComesThere_matter : List S := [.ret (.bi .list [.attr (.var 0) "names"])]
def f_ComesThere_matter : Fn := ⟨1, 1, b_ComesThere_matter⟩
abbrev F_ComesThere_matter : Nat := 21
def d_ComesThere_matter : DefR := ⟨("ComesThere", some ("matter" : Str)), "matter", "Question.matter", mth 11 3, ["self"], ["self"], b_ComesThere_matter⟩
/-- ComesThere_text(self); 0 self -/
def b_ComesThere_text : List S := [.ret (.call 2 [.keep (.meth (.var 0) "called" []), .attr (.var 0) "names"])]
def f_ComesThere_text : Fn := ⟨1, 1, b_ComesThere_text⟩
abbrev F_ComesThere_text : Nat := 22
def d_ComesThere_text : DefR := ⟨("ComesThere", some ("text" : Str)), "text", "Question.text", mth 11 2, ["self"], ["self"], b_ComesThere_text⟩
/-- MustTies_init(self, one, other); 0 self 1 one 2 other -/
def b_MustTies_init : List S := [.asg (.attr (.var 0) "names") (.lst [.var 1, .var 2])]
def f_MustTies_init : Fn := ⟨3, 3, b_MustTies_init⟩
abbrev F_MustTies_init : Nat := 23
def d_MustTies_init : DefR := ⟨("MustTies", some ("__init__" : Str)), "__init__", "OfTwo.__init__", mth 12 0, ["self", "one", "other"], ["self", "one", "other"], b_MustTies_init⟩
/-- MustTies_called(self); 0 self -/
def b_MustTies_called : List S := [.ret (.str "must")]
def f_MustTies_called : Fn := ⟨1, 1, b_MustTies_called⟩
abbrev F_MustTies_called : Nat := 24
def d_MustTies_called : DefR := ⟨("MustTies", some ("called" : Str)), "called", "MustTies.called", mth 15 0, ["self"], ["self"], b_MustTies_called⟩
/-- MustTies_has_loads(self); 0 self -/
def b_MustTies_has_loads : List S := [.ret (.bl false)]
def f_MustTies_has_loads : Fn := ⟨1, 1, b_MustTies_has_loads⟩
abbrev F_MustTies_has_loads : Nat := 25
def d_MustTies_has_loads : DefR := ⟨("MustTies", some ("has_loads" : Str)), "has_loads", "Question.has_loads", mth 11 4, ["self"], ["self"], b_MustTies_has_loads⟩
/-- MustTies_matter(self); 0 self -/
def b_MustTies_matter : List S := [.ret (.bi .list [.attr (.var 0) "names"])]
def f_MustTies_matter : Fn := ⟨1, 1, b_MustTies_matter⟩
abbrev F_MustTies_matter : Nat := 26
def d_MustTies_matter : DefR := ⟨("MustTies", some ("matter" : Str)), "matter", "Question.matter", mth 11 3, ["self"], ["self"], b_MustTies_matter⟩
/-- MustTies_text(self); 0 self -/
def b_MustTies_text : List S := [.ret (.call 2 [.keep (.meth (.var 0) "called" []), .attr (.var 0) "names"])]
def f_MustTies_text : Fn := ⟨1, 1, b_MustTies_text⟩
abbrev F_MustTies_text : Nat := 27
def d_MustTies_text : DefR := ⟨("MustTies", some ("text" : Str)), "text", "Question.text", mth 11 2, ["self"], ["self"], b_MustTies_text⟩
/-- MustPoints_init(self, one, other); 0 self 1 one 2 other -/
def b_MustPoints_init : List S := [.asg (.attr (.var 0) "names") (.lst [.var 1, .var 2])]
def f_MustPoints_init : Fn := ⟨3, 3, b_MustPoints_init⟩
abbrev F_MustPoints_init : Nat := 28
def d_MustPoints_init : DefR := ⟨("MustPoints", some ("__init__" : Str)), "__init__", "OfTwo.__init__", mth 12 0, ["self", "one", "other"], ["self", "one", "other"], b_MustPoints_init⟩
/-- MustPoints_called(self); 0 self -/
def b_MustPoints_called : List S := [.ret (.str "points")]
def f_MustPoints_called : Fn := ⟨1, 1, b_MustPoints_called⟩
abbrev F_MustPoints_called : Nat := 29
def d_MustPoints_called : DefR := ⟨("MustPoints", some ("called" : Str)), "called", "MustPoints.called", mth 16 0, ["self"], ["self"], b_MustPoints_called⟩
/-- MustPoints_has_loads(self); 0 self -/
def b_MustPoints_has_loads : List S := [.ret (.bl false)]
def f_MustPoints_has_loads : Fn := ⟨1, 1, b_MustPoints_has_loads⟩
abbrev F_MustPoints_has_loads : Nat := 30
def d_MustPoints_has_loads : DefR := ⟨("MustPoints", some ("has_loads" : Str)), "has_loads", "Question.has_loads", mth 11 4, ["self"], ["self"], b_MustPoints_has_loads⟩
/-- MustPoints_matter(self); 0 self -/
def b_MustPoints_matter : List S := [.ret (.bi .list [.attr (.var 0) "names"])]
def f_MustPoints_matter : Fn := ⟨1, 1, b_MustPoints_matter⟩
abbrev F_MustPoints_matter : Nat := 31
def d_MustPoints_matter : DefR := ⟨("MustPoints", some ("matter" : Str)), "matter", "Question.matter", mth 11 3, ["self"], ["self"], b_MustPoints_matter⟩
/-- MustPoints_text(self); 0 self -/
def b_MustPoints_text : List S := [.ret (.call 2 [.keep (.meth (.var 0) "called" []), .attr (.var 0) "names"])]
def f_MustPoints_text : Fn := ⟨1, 1, b_MustPoints_text⟩
abbrev F_MustPoints_text : Nat := 32
def d_MustPoints_text : DefR := ⟨("MustPoints", some ("text" : Str)), "text", "Question.text", mth 11 2, ["self"], ["self"], b_MustPoints_text⟩
/-- RingThrough_init(self, one, other); 0 self 1 one 2 other -/
def b_RingThrough_init : List S := [.asg (.attr (.var 0) "names") (.lst [.var 1, .var 2])]
def f_RingThrough_init : Fn := ⟨3, 3, b_RingThrough_init⟩
abbrev F_RingThrough_init : Nat := 33
def d_RingThrough_init : DefR := ⟨("RingThrough", some ("__init__" : Str)), "__init__", "OfTwo.__init__", mth 12 0, ["self", "one", "other"], ["self", "one", "other"], b_RingThrough_init⟩
/-- RingThrough_called(self); 0 self -/
def b_RingThrough_called : List S := [.ret (.str "ring")]
def f_RingThrough_called : Fn := ⟨1, 1, b_RingThrough_called⟩
abbrev F_RingThrough_called : Nat := 34
def d_RingThrough_called : DefR := ⟨("RingThrough", some ("called" : Str)), "called", "RingThrough.called", mth 17 0, ["self"], ["self"], b_RingThrough_called⟩
/-- RingThrough_has_loads(self); 0 self -/
def b_RingThrough_has_loads : List S := [.ret (.bl false)]
def f_RingThrough_has_loads : Fn := ⟨1, 1, b_RingThrough_has_loads⟩
abbrev F_RingThrough_has_loads : Nat := 35
def d_RingThrough_has_loads : DefR := ⟨("RingThrough", some ("has_loads" : Str)), "has_loads", "Question.has_loads", mth 11 4, ["self"], ["self"], b_RingThrough_has_loads⟩
/-- RingThrough_matter(self); 0 self -/
def b_RingThrough_matter : List S := [.ret (.bi .list [.attr (.var 0) "names"])]
def f_RingThrough_matter : Fn := ⟨1, 1, b_RingThrough_matter⟩
abbrev F_RingThrough_matter : Nat := 36
def d_RingThrough_matter : DefR := ⟨("RingThrough", some ("matter" : Str)), "matter", "Question.matter", mth 11 3, ["self"], ["self"], b_RingThrough_matter⟩
/-- RingThrough_text(self); 0 self -/
def b_RingThrough_text : List S := [.ret (.call 2 [.keep (.meth (.var 0) "called" []), .attr (.var 0) "names"])]
def f_RingThrough_text : Fn := ⟨1, 1, b_RingThrough_text⟩
abbrev F_RingThrough_text : Nat := 37
def d_RingThrough_text : DefR := ⟨("RingThrough", some ("text" : Str)), "text", "Question.text", mth 11 2, ["self"], ["self"], b_RingThrough_text⟩
/-- LeastWay_init(self, one, other); 0 self 1 one 2 other -/
def b_LeastWay_init : List S := [.asg (.attr (.var 0) "names") (.lst [.var 1, .var 2])]
def f_LeastWay_init : Fn := ⟨3, 3, b_LeastWay_init⟩
abbrev F_LeastWay_init : Nat := 38
def d_LeastWay_init : DefR := ⟨("LeastWay", some ("__init__" : Str)), "__init__", "OfTwo.__init__", mth 12 0, ["self", "one", "other"], ["self", "one", "other"], b_LeastWay_init⟩
/-- LeastWay_called(self); 0 self -/
def b_LeastWay_called : List S := [.ret (.str "least")]
def f_LeastWay_called : Fn := ⟨1, 1, b_LeastWay_called⟩
abbrev F_LeastWay_called : Nat := 39
def d_LeastWay_called : DefR := ⟨("LeastWay", some ("called" : Str)), "called", "LeastWay.called", mth 18 0, ["self"], ["self"], b_LeastWay_called⟩
/-- LeastWay_has_loads(self); 0 self -/
def b_LeastWay_has_loads : List S := [.ret (.bl true)]
def f_LeastWay_has_loads : Fn := ⟨1, 1, b_LeastWay_has_loads⟩
abbrev F_LeastWay_has_loads : Nat := 40
def d_LeastWay_has_loads : DefR := ⟨("LeastWay", some ("has_loads" : Str)), "has_loads", "LeastWay.has_loads", mth 18 1, ["self"], ["self"], b_LeastWay_has_loads⟩
/-- LeastWay_matter(self); 0 self -/
def b_LeastWay_matter : List S := [.ret (.bi .list [.attr (.var 0) "names"])]
def f_LeastWay_matter : Fn := ⟨1, 1, b_LeastWay_matter⟩
abbrev F_LeastWay_matter : Nat := 41
def d_LeastWay_matter : DefR := ⟨("LeastWay", some ("matter" : Str)), "matter", "Question.matter", mth 11 3, ["self"], ["self"], b_LeastWay_matter⟩
/-- LeastWay_text(self); 0 self -/
def b_LeastWay_text : List S := [.ret (.call 2 [.keep (.meth (.var 0) "called" []), .attr (.var 0) "names"])]
def f_LeastWay_text : Fn := ⟨1, 1, b_LeastWay_text⟩
abbrev F_LeastWay_text : Nat := 42
def d_LeastWay_text : DefR := ⟨("LeastWay", some ("text" : Str)), "text", "Question.text", mth 11 2, ["self"], ["self"], b_LeastWay_text⟩
/-- FewestTies_init(self, one, other); 0 self 1 one 2 other -/
def b_FewestTies_init : List S := [.asg (.attr (.var 0) "names") (.lst [.var 1, .var 2])]
def f_FewestTies_init : Fn := ⟨3, 3, b_FewestTies_init⟩
abbrev F_FewestTies_init : Nat := 43
def d_FewestTies_init : DefR := ⟨("FewestTies", some ("__init__" : Str)), "__init__", "OfTwo.__init__", mth 12 0, ["self", "one", "other"], ["self", "one", "other"], b_FewestTies_init⟩
/-- FewestTies_called(self); 0 self -/
def b_FewestTies_called : List S := [.ret (.str "fewest")]
def f_FewestTies_called : Fn := ⟨1, 1, b_FewestTies_called⟩
abbrev F_FewestTies_called : Nat := 44
def d_FewestTies_called : DefR := ⟨("FewestTies", some ("called" : Str)), "called", "FewestTies.called", mth 19 0, ["self"], ["self"], b_FewestTies_called⟩
/-- FewestTies_has_loads(self); 0 self -/
def b_FewestTies_has_loads : List S := [.ret (.bl false)]
def f_FewestTies_has_loads : Fn := ⟨1, 1, b_FewestTies_has_loads⟩
abbrev F_FewestTies_has_loads : Nat := 45
def d_FewestTies_has_loads : DefR := ⟨("FewestTies", some ("has_loads" : Str)), "has_loads", "Question.has_loads", mth 11 4, ["self"], ["self"], b_FewestTies_has_loads⟩
/-- FewestTies_matter(self); 0 self -/
def b_FewestTies_matter : List S := [.ret (.bi .list [.attr (.var 0) "names"])]
def f_FewestTies_matter : Fn := ⟨1, 1, b_FewestTies_matter⟩
abbrev F_FewestTies_matter : Nat := 46
def d_FewestTies_matter : DefR := ⟨("FewestTies", some ("matter" : Str)), "matter", "Question.matter", mth 11 3, ["self"], ["self"], b_FewestTies_matter⟩
/-- FewestTies_text(self); 0 self -/
def b_FewestTies_text : List S := [.ret (.call 2 [.keep (.meth (.var 0) "called" []), .attr (.var 0) "names"])]
def f_FewestTies_text : Fn := ⟨1, 1, b_FewestTies_text⟩
abbrev F_FewestTies_text : Nat := 47
def d_FewestTies_text : DefR := ⟨("FewestTies", some ("text" : Str)), "text", "Question.text", mth 11 2, ["self"], ["self"], b_FewestTies_text⟩
/-- WaysApart_init(self, one, other); 0 self 1 one 2 other -/
def b_WaysApart_init : List S := [.asg (.attr (.var 0) "names") (.lst [.var 1, .var 2])]
def f_WaysApart_init : Fn := ⟨3, 3, b_WaysApart_init⟩
abbrev F_WaysApart_init : Nat := 48
def d_WaysApart_init : DefR := ⟨("WaysApart", some ("__init__" : Str)), "__init__", "OfTwo.__init__", mth 12 0, ["self", "one", "other"], ["self", "one", "other"], b_WaysApart_init⟩
/-- WaysApart_called(self); 0 self -/
def b_WaysApart_called : List S := [.ret (.str "apart")]
def f_WaysApart_called : Fn := ⟨1, 1, b_WaysApart_called⟩
abbrev F_WaysApart_called : Nat := 49
def d_WaysApart_called : DefR := ⟨("WaysApart", some ("called" : Str)), "called", "WaysApart.called", mth 20 0, ["self"], ["self"], b_WaysApart_called⟩
/-- WaysApart_has_loads(self); 0 self -/
def b_WaysApart_has_loads : List S := [.ret (.bl false)]
def f_WaysApart_has_loads : Fn := ⟨1, 1, b_WaysApart_has_loads⟩
abbrev F_WaysApart_has_loads : Nat := 50
def d_WaysApart_has_loads : DefR := ⟨("WaysApart", some ("has_loads" : Str)), "has_loads", "Question.has_loads", mth 11 4, ["self"], ["self"], b_WaysApart_has_loads⟩
/-- WaysApart_matter(self); 0 self -/
def b_WaysApart_matter : List S := [.ret (.bi .list [.attr (.var 0) "names"])]
def f_WaysApart_matter : Fn := ⟨1, 1, b_WaysApart_matter⟩
abbrev F_WaysApart_matter : Nat := 51
def d_WaysApart_matter : DefR := ⟨("WaysApart", some ("matter" : Str)), "matter", "Question.matter", mth 11 3, ["self"], ["self"], b_WaysApart_matter⟩
/-- WaysApart_text(self); 0 self -/
def b_WaysApart_text : List S := [.ret (.call 2 [.keep (.meth (.var 0) "called" []), .attr (.var 0) "names"])]
def f_WaysApart_text : Fn := ⟨1, 1, b_WaysApart_text⟩
abbrev F_WaysApart_text : Nat := 52
def d_WaysApart_text : DefR := ⟨("WaysApart", some ("text" : Str)), "text", "Question.text", mth 11 2, ["self"], ["self"], b_WaysApart_text⟩
/-- PastPoint_init(self, one, other, name); 0 self 1 one 2 other 3 name -/
def b_PastPoint_init : List S := [.asg (.attr (.var 0) "names") (.lst [.var 1, .var 2, .var 3])]
def f_PastPoint_init : Fn := ⟨4, 4, b_PastPoint_init⟩
abbrev F_PastPoint_init : Nat := 53
def d_PastPoint_init : DefR := ⟨("PastPoint", some ("__init__" : Str)), "__init__", "PastPoint.__init__", mth 21 0, ["self", "one", "other", "name"], ["self", "one", "other", "name"], b_PastPoint_init⟩
/-- PastPoint_called(self); 0 self -/
def b_PastPoint_called : List S := [.ret (.str "past")]
def f_PastPoint_called : Fn := ⟨1, 1, b_PastPoint_called⟩
abbrev F_PastPoint_called : Nat := 54
def d_PastPoint_called : DefR := ⟨("PastPoint", some ("called" : Str)), "called", "PastPoint.called", mth 21 1, ["self"], ["self"], b_PastPoint_called⟩
/-- PastPoint_has_loads(self); 0 self -/
def b_PastPoint_has_loads : List S := [.ret (.bl false)]
def f_PastPoint_has_loads : Fn := ⟨1, 1, b_PastPoint_has_loads⟩
abbrev F_PastPoint_has_loads : Nat := 55
def d_PastPoint_has_loads : DefR := ⟨("PastPoint", some ("has_loads" : Str)), "has_loads", "Question.has_loads", mth 11 4, ["self"], ["self"], b_PastPoint_has_loads⟩
/-- PastPoint_matter(self); 0 self -/
def b_PastPoint_matter : List S := [.ret (.bi .list [.attr (.var 0) "names"])]
def f_PastPoint_matter : Fn := ⟨1, 1, b_PastPoint_matter⟩
abbrev F_PastPoint_matter : Nat := 56
def d_PastPoint_matter : DefR := ⟨("PastPoint", some ("matter" : Str)), "matter", "Question.matter", mth 11 3, ["self"], ["self"], b_PastPoint_matter⟩
/-- PastPoint_text(self); 0 self -/
def b_PastPoint_text : List S := [.ret (.call 2 [.keep (.meth (.var 0) "called" []), .attr (.var 0) "names"])]
def f_PastPoint_text : Fn := ⟨1, 1, b_PastPoint_text⟩
abbrev F_PastPoint_text : Nat := 57
def d_PastPoint_text : DefR := ⟨("PastPoint", some ("text" : Str)), "text", "Question.text", mth 11 2, ["self"], ["self"], b_PastPoint_text⟩
/-- ThePieces_init(self); 0 self -/
def b_ThePieces_init : List S := [.asg (.attr (.var 0) "names") (.lst [])]
def f_ThePieces_init : Fn := ⟨1, 1, b_ThePieces_init⟩
abbrev F_ThePieces_init : Nat := 58
def d_ThePieces_init : DefR := ⟨("ThePieces", some ("__init__" : Str)), "__init__", "Question.__init__", mth 11 0, ["self"], ["self"], b_ThePieces_init⟩
/-- ThePieces_called(self); 0 self -/
def b_ThePieces_called : List S := [.ret (.str "pieces")]
def f_ThePieces_called : Fn := ⟨1, 1, b_ThePieces_called⟩
abbrev F_ThePieces_called : Nat := 59
def d_ThePieces_called : DefR := ⟨("ThePieces", some ("called" : Str)), "called", "ThePieces.called", mth 22 0, ["self"], ["self"], b_ThePieces_called⟩
/-- ThePieces_has_loads(self); 0 self -/
def b_ThePieces_has_loads : List S := [.ret (.bl false)]
def f_ThePieces_has_loads : Fn := ⟨1, 1, b_ThePieces_has_loads⟩
abbrev F_ThePieces_has_loads : Nat := 60
def d_ThePieces_has_loads : DefR := ⟨("ThePieces", some ("has_loads" : Str)), "has_loads", "Question.has_loads", mth 11 4, ["self"], ["self"], b_ThePieces_has_loads⟩
/-- ThePieces_matter(self); 0 self -/
def b_ThePieces_matter : List S := [.ret (.bi .list [.attr (.var 0) "names"])]
def f_ThePieces_matter : Fn := ⟨1, 1, b_ThePieces_matter⟩
abbrev F_ThePieces_matter : Nat := 61
def d_ThePieces_matter : DefR := ⟨("ThePieces", some ("matter" : Str)), "matter", "Question.matter", mth 11 3, ["self"], ["self"], b_ThePieces_matter⟩
/-- ThePieces_text(self); 0 self -/
def b_ThePieces_text : List S := [.ret (.call 2 [.keep (.meth (.var 0) "called" []), .attr (.var 0) "names"])]
def f_ThePieces_text : Fn := ⟨1, 1, b_ThePieces_text⟩
abbrev F_ThePieces_text : Nat := 62
def d_ThePieces_text : DefR := ⟨("ThePieces", some ("text" : Str)), "text", "Question.text", mth 11 2, ["self"], ["self"], b_ThePieces_text⟩
/-- TheKnots_init(self); 0 self -/
def b_TheKnots_init : List S := [.asg (.attr (.var 0) "names") (.lst [])]
def f_TheKnots_init : Fn := ⟨1, 1, b_TheKnots_init⟩
abbrev F_TheKnots_init : Nat := 63
def d_TheKnots_init : DefR := ⟨("TheKnots", some ("__init__" : Str)), "__init__", "Question.__init__", mth 11 0, ["self"], ["self"], b_TheKnots_init⟩
/-- TheKnots_called(self); 0 self -/
def b_TheKnots_called : List S := [.ret (.str "knots")]
def f_TheKnots_called : Fn := ⟨1, 1, b_TheKnots_called⟩
abbrev F_TheKnots_called : Nat := 64
def d_TheKnots_called : DefR := ⟨("TheKnots", some ("called" : Str)), "called", "TheKnots.called", mth 23 0, ["self"], ["self"], b_TheKnots_called⟩
/-- TheKnots_has_loads(self); 0 self -/
def b_TheKnots_has_loads : List S := [.ret (.bl false)]
def f_TheKnots_has_loads : Fn := ⟨1, 1, b_TheKnots_has_loads⟩
abbrev F_TheKnots_has_loads : Nat := 65
def d_TheKnots_has_loads : DefR := ⟨("TheKnots", some ("has_loads" : Str)), "has_loads", "Question.has_loads", mth 11 4, ["self"], ["self"], b_TheKnots_has_loads⟩
/-- TheKnots_matter(self); 0 self -/
def b_TheKnots_matter : List S := [.ret (.bi .list [.attr (.var 0) "names"])]
def f_TheKnots_matter : Fn := ⟨1, 1, b_TheKnots_matter⟩
abbrev F_TheKnots_matter : Nat := 66
def d_TheKnots_matter : DefR := ⟨("TheKnots", some ("matter" : Str)), "matter", "Question.matter", mth 11 3, ["self"], ["self"], b_TheKnots_matter⟩
/-- TheKnots_text(self); 0 self -/
def b_TheKnots_text : List S := [.ret (.call 2 [.keep (.meth (.var 0) "called" []), .attr (.var 0) "names"])]
def f_TheKnots_text : Fn := ⟨1, 1, b_TheKnots_text⟩
abbrev F_TheKnots_text : Nat := 67
def d_TheKnots_text : DefR := ⟨("TheKnots", some ("text" : Str)), "text", "Question.text", mth 11 2, ["self"], ["self"], b_TheKnots_text⟩
/-- TwoSides_init(self); 0 self -/
def b_TwoSides_init : List S := [.asg (.attr (.var 0) "names") (.lst [])]
def f_TwoSides_init : Fn := ⟨1, 1, b_TwoSides_init⟩
abbrev F_TwoSides_init : Nat := 68
def d_TwoSides_init : DefR := ⟨("TwoSides", some ("__init__" : Str)), "__init__", "Question.__init__", mth 11 0, ["self"], ["self"], b_TwoSides_init⟩
/-- TwoSides_called(self); 0 self -/
def b_TwoSides_called : List S := [.ret (.str "sides")]
def f_TwoSides_called : Fn := ⟨1, 1, b_TwoSides_called⟩
abbrev F_TwoSides_called : Nat := 69
def d_TwoSides_called : DefR := ⟨("TwoSides", some ("called" : Str)), "called", "TwoSides.called", mth 24 0, ["self"], ["self"], b_TwoSides_called⟩
/-- TwoSides_has_loads(self); 0 self -/
def b_TwoSides_has_loads : List S := [.ret (.bl false)]
def f_TwoSides_has_loads : Fn := ⟨1, 1, b_TwoSides_has_loads⟩
abbrev F_TwoSides_has_loads : Nat := 70
def d_TwoSides_has_loads : DefR := ⟨("TwoSides", some ("has_loads" : Str)), "has_loads", "Question.has_loads", mth 11 4, ["self"], ["self"], b_TwoSides_has_loads⟩
/-- TwoSides_matter(self); 0 self -/
def b_TwoSides_matter : List S := [.ret (.bi .list [.attr (.var 0) "names"])]
def f_TwoSides_matter : Fn := ⟨1, 1, b_TwoSides_matter⟩
abbrev F_TwoSides_matter : Nat := 71
def d_TwoSides_matter : DefR := ⟨("TwoSides", some ("matter" : Str)), "matter", "Question.matter", mth 11 3, ["self"], ["self"], b_TwoSides_matter⟩
/-- TwoSides_text(self); 0 self -/
def b_TwoSides_text : List S := [.ret (.call 2 [.keep (.meth (.var 0) "called" []), .attr (.var 0) "names"])]
def f_TwoSides_text : Fn := ⟨1, 1, b_TwoSides_text⟩
abbrev F_TwoSides_text : Nat := 72
def d_TwoSides_text : DefR := ⟨("TwoSides", some ("text" : Str)), "text", "Question.text", mth 11 2, ["self"], ["self"], b_TwoSides_text⟩
/-- LightestForest_init(self); 0 self -/
def b_LightestForest_init : List S := [.asg (.attr (.var 0) "names") (.lst [])]
def f_LightestForest_init : Fn := ⟨1, 1, b_LightestForest_init⟩
abbrev F_LightestForest_init : Nat := 73
def d_LightestForest_init : DefR := ⟨("LightestForest", some ("__init__" : Str)), "__init__", "Question.__init__", mth 11 0, ["self"], ["self"], b_LightestForest_init⟩
/-- LightestForest_called(self); 0 self -/
def b_LightestForest_called : List S := [.ret (.str "lightest")]
def f_LightestForest_called : Fn := ⟨1, 1, b_LightestForest_called⟩
abbrev F_LightestForest_called : Nat := 74
def d_LightestForest_called : DefR := ⟨("LightestForest", some ("called" : Str)), "called", "LightestForest.called", mth 25 0, ["self"], ["self"], b_LightestForest_called⟩
/-- LightestForest_has_loads(self); 0 self -/
def b_LightestForest_has_loads : List S := [.ret (.bl true)]
def f_LightestForest_has_loads : Fn := ⟨1, 1, b_LightestForest_has_loads⟩
abbrev F_LightestForest_has_loads : Nat := 75
def d_LightestForest_has_loads : DefR := ⟨("LightestForest", some ("has_loads" : Str)), "has_loads", "LightestForest.has_loads", mth 25 1, ["self"], ["self"], b_LightestForest_has_loads⟩
/-- LightestForest_matter(self); 0 self -/
def b_LightestForest_matter : List S := [.ret (.bi .list [.attr (.var 0) "names"])]
def f_LightestForest_matter : Fn := ⟨1, 1, b_LightestForest_matter⟩
abbrev F_LightestForest_matter : Nat := 76
def d_LightestForest_matter : DefR := ⟨("LightestForest", some ("matter" : Str)), "matter", "Question.matter", mth 11 3, ["self"], ["self"], b_LightestForest_matter⟩
/-- LightestForest_text(self); 0 self -/
def b_LightestForest_text : List S := [.ret (.call 2 [.keep (.meth (.var 0) "called" []), .attr (.var 0) "names"])]
def f_LightestForest_text : Fn := ⟨1, 1, b_LightestForest_text⟩
abbrev F_LightestForest_text : Nat := 77
def d_LightestForest_text : DefR := ⟨("LightestForest", some ("text" : Str)), "text", "Question.text", mth 11 2, ["self"], ["self"], b_LightestForest_text⟩
/-- TheStarts_init(self); 0 self -/
def b_TheStarts_init : List S := [.asg (.attr (.var 0) "names") (.lst [])]
def f_TheStarts_init : Fn := ⟨1, 1, b_TheStarts_init⟩
abbrev F_TheStarts_init : Nat := 78
def d_TheStarts_init : DefR := ⟨("TheStarts", some ("__init__" : Str)), "__init__", "Question.__init__", mth 11 0, ["self"], ["self"], b_TheStarts_init⟩
/-- TheStarts_called(self); 0 self -/
def b_TheStarts_called : List S := [.ret (.str "starts")]
def f_TheStarts_called : Fn := ⟨1, 1, b_TheStarts_called⟩
abbrev F_TheStarts_called : Nat := 79
def d_TheStarts_called : DefR := ⟨("TheStarts", some ("called" : Str)), "called", "TheStarts.called", mth 26 0, ["self"], ["self"], b_TheStarts_called⟩
/-- TheStarts_has_loads(self); 0 self -/
def b_TheStarts_has_loads : List S := [.ret (.bl false)]
def f_TheStarts_has_loads : Fn := ⟨1, 1, b_TheStarts_has_loads⟩
abbrev F_TheStarts_has_loads : Nat := 80
def d_TheStarts_has_loads : DefR := ⟨("TheStarts", some ("has_loads" : Str)), "has_loads", "Question.has_loads", mth 11 4, ["self"], ["self"], b_TheStarts_has_loads⟩
/-- TheStarts_matter(self); 0 self -/
def b_TheStarts_matter : List S := [.ret (.bi .list [.attr (.var 0) "names"])]
def f_TheStarts_matter : Fn := ⟨1, 1, b_TheStarts_matter⟩
abbrev F_TheStarts_matter : Nat := 81
def d_TheStarts_matter : DefR := ⟨("TheStarts", some ("matter" : Str)), "matter", "Question.matter", mth 11 3, ["self"], ["self"], b_TheStarts_matter⟩
/-- TheStarts_text(self); 0 self -/
def b_TheStarts_text : List S := [.ret (.call 2 [.keep (.meth (.var 0) "called" []), .attr (.var 0) "names"])]
def f_TheStarts_text : Fn := ⟨1, 1, b_TheStarts_text⟩
abbrev F_TheStarts_text : Nat := 82
def d_TheStarts_text : DefR := ⟨("TheStarts", some ("text" : Str)), "text", "Question.text", mth 11 2, ["self"], ["self"], b_TheStarts_text⟩
/-- TheLeaves_init(self); 0 self -/
def b_TheLeaves_init : List S := [.asg (.attr (.var 0) "names") (.lst [])]
def f_TheLeaves_init : Fn := ⟨1, 1, b_TheLeaves_init⟩
abbrev F_TheLeaves_init : Nat := 83
def d_TheLeaves_init : DefR := ⟨("TheLeaves", some ("__init__" : Str)), "__init__", "Question.__init__", mth 11 0, ["self"], ["self"], b_TheLeaves_init⟩
/-- TheLeaves_called(self); 0 self -/
def b_TheLeaves_called : List S := [.ret (.str "leaves")]
def f_TheLeaves_called : Fn := ⟨1, 1, b_TheLeaves_called⟩
abbrev F_TheLeaves_called : Nat := 84
def d_TheLeaves_called : DefR := ⟨("TheLeaves", some ("called" : Str)), "called", "TheLeaves.called", mth 27 0, ["self"], ["self"], b_TheLeaves_called⟩
/-- TheLeaves_has_loads(self); 0 self -/
def b_TheLeaves_has_loads : List S := [.ret (.bl false)]
def f_TheLeaves_has_loads : Fn := ⟨1, 1, b_TheLeaves_has_loads⟩
abbrev F_TheLeaves_has_loads : Nat := 85
def d_TheLeaves_has_loads : DefR := ⟨("TheLeaves", some ("has_loads" : Str)), "has_loads", "Question.has_loads", mth 11 4, ["self"], ["self"], b_TheLeaves_has_loads⟩
/-- TheLeaves_matter(self); 0 self -/
def b_TheLeaves_matter : List S := [.ret (.bi .list [.attr (.var 0) "names"])]
def f_TheLeaves_matter : Fn := ⟨1, 1, b_TheLeaves_matter⟩
abbrev F_TheLeaves_matter : Nat := 86
def d_TheLeaves_matter : DefR := ⟨("TheLeaves", some ("matter" : Str)), "matter", "Question.matter", mth 11 3, ["self"], ["self"], b_TheLeaves_matter⟩
/-- TheLeaves_text(self); 0 self -/
def b_TheLeaves_text : List S := [.ret (.call 2 [.keep (.meth (.var 0) "called" []), .attr (.var 0) "names"])]
def f_TheLeaves_text : Fn := ⟨1, 1, b_TheLeaves_text⟩
abbrev F_TheLeaves_text : Nat := 87
def d_TheLeaves_text : DefR := ⟨("TheLeaves", some ("text" : Str)), "text", "Question.text", mth 11 2, ["self"], ["self"], b_TheLeaves_text⟩
def defs : List DefR := [d_are_signs, d_is_name, d_name_row, d_question_by, d_whole_by, d_many_names, d_question_of, d_number, d_names, d_kinds, d_made, d_right, d_law, d_HangsTogether_init, d_HangsTogether_called, d_HangsTogether_has_loads, d_HangsTogether_matter, d_HangsTogether_text, d_ComesThere_init, d_ComesThere_called, d_ComesThere_has_loads, d_ComesThere_matter, d_ComesThere_text, d_MustTies_init, d_MustTies_called, d_MustTies_has_loads, d_MustTies_matter, d_MustTies_text, d_MustPoints_init, d_MustPoints_called, d_MustPoints_has_loads, d_MustPoints_matter, d_MustPoints_text, d_RingThrough_init, d_RingThrough_called, d_RingThrough_has_loads, d_RingThrough_matter, d_RingThrough_text, d_LeastWay_init, d_LeastWay_called, d_LeastWay_has_loads, d_LeastWay_matter, d_LeastWay_text, d_FewestTies_init, d_FewestTies_called, d_FewestTies_has_loads, d_FewestTies_matter, d_FewestTies_text, d_WaysApart_init, d_WaysApart_called, d_WaysApart_has_loads, d_WaysApart_matter, d_WaysApart_text, d_PastPoint_init, d_PastPoint_called, d_PastPoint_has_loads, d_PastPoint_matter, d_PastPoint_text, d_ThePieces_init, d_ThePieces_called, d_ThePieces_has_loads, d_ThePieces_matter, d_ThePieces_text, d_TheKnots_init, d_TheKnots_called, d_TheKnots_has_loads, d_TheKnots_matter, d_TheKnots_text, d_TwoSides_init, d_TwoSides_called, d_TwoSides_has_loads, d_TwoSides_matter, d_TwoSides_text, d_LightestForest_init, d_LightestForest_called, d_LightestForest_has_loads, d_LightestForest_matter, d_LightestForest_text, d_TheStarts_init, d_TheStarts_called, d_TheStarts_has_loads, d_TheStarts_matter, d_TheStarts_text, d_TheLeaves_init, d_TheLeaves_called, d_TheLeaves_has_loads, d_TheLeaves_matter, d_TheLeaves_text]
theorem bd_are_signs : BindOk d_are_signs := fun _ _ _ _ _ _ us hl => match us, hl with | [_, _], _ => rfl
theorem bd_is_name : BindOk d_is_name := fun _ _ _ _ _ _ us hl => match us, hl with | [_], _ => rfl
theorem bd_name_row : BindOk d_name_row := fun _ _ _ _ _ _ us hl => match us, hl with | [_, _], _ => rfl
theorem bd_question_by : BindOk d_question_by := fun _ _ _ _ _ _ us hl => match us, hl with | [_, _], _ => rfl
theorem bd_whole_by : BindOk d_whole_by := fun _ _ _ _ _ _ us hl => match us, hl with | [_], _ => rfl
theorem bd_many_names : BindOk d_many_names := fun _ _ _ _ _ _ us hl => match us, hl with | [_], _ => rfl
theorem bd_question_of : BindOk d_question_of := fun _ _ _ _ _ _ us hl => match us, hl with | [_], _ => rfl
theorem bd_number : BindOk d_number := fun _ _ _ _ _ _ us hl => match us, hl with | [_, _], _ => rfl
theorem bd_names : BindOk d_names := fun _ _ _ _ _ _ us hl => match us, hl with | [_, _], _ => rfl
theorem bd_kinds : BindOk d_kinds := fun _ _ _ _ _ _ us hl => match us, hl with | [_], _ => rfl
theorem bd_made : BindOk d_made := fun _ _ _ _ _ _ us hl => match us, hl with | [_, _], _ => rfl
theorem bd_right : BindOk d_right := fun _ _ _ _ _ _ us hl => match us, hl with | [_, _, _], _ => rfl
theorem bd_law : BindOk d_law := fun _ _ _ _ _ _ us hl => match us, hl with | [_], _ => rfl
theorem bd_HangsTogether_init : BindOk d_HangsTogether_init := fun _ _ _ _ _ _ us hl => match us, hl with | [_, _, _], _ => rfl
theorem bd_HangsTogether_called : BindOk d_HangsTogether_called := fun _ _ _ _ _ _ us hl => match us, hl with | [_], _ => rfl
theorem bd_HangsTogether_has_loads : BindOk d_HangsTogether_has_loads := fun _ _ _ _ _ _ us hl => match us, hl with | [_], _ => rfl
theorem bd_HangsTogether_matter : BindOk d_HangsTogether_matter := fun _ _ _ _ _ _ us hl => match us, hl with | [_], _ => rfl
theorem bd_HangsTogether_text : BindOk d_HangsTogether_text := fun _ _ _ _ _ _ us hl => match us, hl with | [_], _ => rfl
theorem bd_ComesThere_init : BindOk d_ComesThere_init := fun _ _ _ _ _ _ us hl => match us, hl with | [_, _, _], _ => rfl
theorem bd_ComesThere_called : BindOk d_ComesThere_called := fun _ _ _ _ _ _ us hl => match us, hl with | [_], _ => rfl
theorem bd_ComesThere_has_loads : BindOk d_ComesThere_has_loads := fun _ _ _ _ _ _ us hl => match us, hl with | [_], _ => rfl
theorem bd_ComesThere_matter : BindOk d_ComesThere_matter := fun _ _ _ _ _ _ us hl => match us, hl with | [_], _ => rfl
theorem bd_ComesThere_text : BindOk d_ComesThere_text := fun _ _ _ _ _ _ us hl => match us, hl with | [_], _ => rfl
theorem bd_MustTies_init : BindOk d_MustTies_init := fun _ _ _ _ _ _ us hl => match us, hl with | [_, _, _], _ => rfl
theorem bd_MustTies_called : BindOk d_MustTies_called := fun _ _ _ _ _ _ us hl => match us, hl with | [_], _ => rfl
theorem bd_MustTies_has_loads : BindOk d_MustTies_has_loads := fun _ _ _ _ _ _ us hl => match us, hl with | [_], _ => rfl
theorem bd_MustTies_matter : BindOk d_MustTies_matter := fun _ _ _ _ _ _ us hl => match us, hl with | [_], _ => rfl
theorem bd_MustTies_text : BindOk d_MustTies_text := fun _ _ _ _ _ _ us hl => match us, hl with | [_], _ => rfl
theorem bd_MustPoints_init : BindOk d_MustPoints_init := fun _ _ _ _ _ _ us hl => match us, hl with | [_, _, _], _ => rfl
theorem bd_MustPoints_called : BindOk d_MustPoints_called := fun _ _ _ _ _ _ us hl => match us, hl with | [_], _ => rfl
theorem bd_MustPoints_has_loads : BindOk d_MustPoints_has_loads := fun _ _ _ _ _ _ us hl => match us, hl with | [_], _ => rfl
theorem bd_MustPoints_matter : BindOk d_MustPoints_matter := fun _ _ _ _ _ _ us hl => match us, hl with | [_], _ => rfl
theorem bd_MustPoints_text : BindOk d_MustPoints_text := fun _ _ _ _ _ _ us hl => match us, hl with | [_], _ => rfl
theorem bd_RingThrough_init : BindOk d_RingThrough_init := fun _ _ _ _ _ _ us hl => match us, hl with | [_, _, _], _ => rfl
theorem bd_RingThrough_called : BindOk d_RingThrough_called := fun _ _ _ _ _ _ us hl => match us, hl with | [_], _ => rfl
theorem bd_RingThrough_has_loads : BindOk d_RingThrough_has_loads := fun _ _ _ _ _ _ us hl => match us, hl with | [_], _ => rfl
theorem bd_RingThrough_matter : BindOk d_RingThrough_matter := fun _ _ _ _ _ _ us hl => match us, hl with | [_], _ => rfl
theorem bd_RingThrough_text : BindOk d_RingThrough_text := fun _ _ _ _ _ _ us hl => match us, hl with | [_], _ => rfl
theorem bd_LeastWay_init : BindOk d_LeastWay_init := fun _ _ _ _ _ _ us hl => match us, hl with | [_, _, _], _ => rfl
theorem bd_LeastWay_called : BindOk d_LeastWay_called := fun _ _ _ _ _ _ us hl => match us, hl with | [_], _ => rfl
theorem bd_LeastWay_has_loads : BindOk d_LeastWay_has_loads := fun _ _ _ _ _ _ us hl => match us, hl with | [_], _ => rfl
theorem bd_LeastWay_matter : BindOk d_LeastWay_matter := fun _ _ _ _ _ _ us hl => match us, hl with | [_], _ => rfl
theorem bd_LeastWay_text : BindOk d_LeastWay_text := fun _ _ _ _ _ _ us hl => match us, hl with | [_], _ => rfl
theorem bd_FewestTies_init : BindOk d_FewestTies_init := fun _ _ _ _ _ _ us hl => match us, hl with | [_, _, _], _ => rfl
theorem bd_FewestTies_called : BindOk d_FewestTies_called := fun _ _ _ _ _ _ us hl => match us, hl with | [_], _ => rfl
theorem bd_FewestTies_has_loads : BindOk d_FewestTies_has_loads := fun _ _ _ _ _ _ us hl => match us, hl with | [_], _ => rfl
theorem bd_FewestTies_matter : BindOk d_FewestTies_matter := fun _ _ _ _ _ _ us hl => match us, hl with | [_], _ => rfl
theorem bd_FewestTies_text : BindOk d_FewestTies_text := fun _ _ _ _ _ _ us hl => match us, hl with | [_], _ => rfl
theorem bd_WaysApart_init : BindOk d_WaysApart_init := fun _ _ _ _ _ _ us hl => match us, hl with | [_, _, _], _ => rfl
theorem bd_WaysApart_called : BindOk d_WaysApart_called := fun _ _ _ _ _ _ us hl => match us, hl with | [_], _ => rfl
theorem bd_WaysApart_has_loads : BindOk d_WaysApart_has_loads := fun _ _ _ _ _ _ us hl => match us, hl with | [_], _ => rfl
theorem bd_WaysApart_matter : BindOk d_WaysApart_matter := fun _ _ _ _ _ _ us hl => match us, hl with | [_], _ => rfl
theorem bd_WaysApart_text : BindOk d_WaysApart_text := fun _ _ _ _ _ _ us hl => match us, hl with | [_], _ => rfl
theorem bd_PastPoint_init : BindOk d_PastPoint_init := fun _ _ _ _ _ _ us hl => match us, hl with | [_, _, _, _], _ => rfl
theorem bd_PastPoint_called : BindOk d_PastPoint_called := fun _ _ _ _ _ _ us hl => match us, hl with | [_], _ => rfl
theorem bd_PastPoint_has_loads : BindOk d_PastPoint_has_loads := fun _ _ _ _ _ _ us hl => match us, hl with | [_], _ => rfl
theorem bd_PastPoint_matter : BindOk d_PastPoint_matter := fun _ _ _ _ _ _ us hl => match us, hl with | [_], _ => rfl
theorem bd_PastPoint_text : BindOk d_PastPoint_text := fun _ _ _ _ _ _ us hl => match us, hl with | [_], _ => rfl
theorem bd_ThePieces_init : BindOk d_ThePieces_init := fun _ _ _ _ _ _ us hl => match us, hl with | [_], _ => rfl
theorem bd_ThePieces_called : BindOk d_ThePieces_called := fun _ _ _ _ _ _ us hl => match us, hl with | [_], _ => rfl
theorem bd_ThePieces_has_loads : BindOk d_ThePieces_has_loads := fun _ _ _ _ _ _ us hl => match us, hl with | [_], _ => rfl
theorem bd_ThePieces_matter : BindOk d_ThePieces_matter := fun _ _ _ _ _ _ us hl => match us, hl with | [_], _ => rfl
theorem bd_ThePieces_text : BindOk d_ThePieces_text := fun _ _ _ _ _ _ us hl => match us, hl with | [_], _ => rfl
theorem bd_TheKnots_init : BindOk d_TheKnots_init := fun _ _ _ _ _ _ us hl => match us, hl with | [_], _ => rfl
theorem bd_TheKnots_called : BindOk d_TheKnots_called := fun _ _ _ _ _ _ us hl => match us, hl with | [_], _ => rfl
theorem bd_TheKnots_has_loads : BindOk d_TheKnots_has_loads := fun _ _ _ _ _ _ us hl => match us, hl with | [_], _ => rfl
theorem bd_TheKnots_matter : BindOk d_TheKnots_matter := fun _ _ _ _ _ _ us hl => match us, hl with | [_], _ => rfl
theorem bd_TheKnots_text : BindOk d_TheKnots_text := fun _ _ _ _ _ _ us hl => match us, hl with | [_], _ => rfl
theorem bd_TwoSides_init : BindOk d_TwoSides_init := fun _ _ _ _ _ _ us hl => match us, hl with | [_], _ => rfl
theorem bd_TwoSides_called : BindOk d_TwoSides_called := fun _ _ _ _ _ _ us hl => match us, hl with | [_], _ => rfl
theorem bd_TwoSides_has_loads : BindOk d_TwoSides_has_loads := fun _ _ _ _ _ _ us hl => match us, hl with | [_], _ => rfl
theorem bd_TwoSides_matter : BindOk d_TwoSides_matter := fun _ _ _ _ _ _ us hl => match us, hl with | [_], _ => rfl
theorem bd_TwoSides_text : BindOk d_TwoSides_text := fun _ _ _ _ _ _ us hl => match us, hl with | [_], _ => rfl
theorem bd_LightestForest_init : BindOk d_LightestForest_init := fun _ _ _ _ _ _ us hl => match us, hl with | [_], _ => rfl
theorem bd_LightestForest_called : BindOk d_LightestForest_called := fun _ _ _ _ _ _ us hl => match us, hl with | [_], _ => rfl
theorem bd_LightestForest_has_loads : BindOk d_LightestForest_has_loads := fun _ _ _ _ _ _ us hl => match us, hl with | [_], _ => rfl
theorem bd_LightestForest_matter : BindOk d_LightestForest_matter := fun _ _ _ _ _ _ us hl => match us, hl with | [_], _ => rfl
theorem bd_LightestForest_text : BindOk d_LightestForest_text := fun _ _ _ _ _ _ us hl => match us, hl with | [_], _ => rfl
theorem bd_TheStarts_init : BindOk d_TheStarts_init := fun _ _ _ _ _ _ us hl => match us, hl with | [_], _ => rfl
theorem bd_TheStarts_called : BindOk d_TheStarts_called := fun _ _ _ _ _ _ us hl => match us, hl with | [_], _ => rfl
theorem bd_TheStarts_has_loads : BindOk d_TheStarts_has_loads := fun _ _ _ _ _ _ us hl => match us, hl with | [_], _ => rfl
theorem bd_TheStarts_matter : BindOk d_TheStarts_matter := fun _ _ _ _ _ _ us hl => match us, hl with | [_], _ => rfl
theorem bd_TheStarts_text : BindOk d_TheStarts_text := fun _ _ _ _ _ _ us hl => match us, hl with | [_], _ => rfl
theorem bd_TheLeaves_init : BindOk d_TheLeaves_init := fun _ _ _ _ _ _ us hl => match us, hl with | [_], _ => rfl
theorem bd_TheLeaves_called : BindOk d_TheLeaves_called := fun _ _ _ _ _ _ us hl => match us, hl with | [_], _ => rfl
theorem bd_TheLeaves_has_loads : BindOk d_TheLeaves_has_loads := fun _ _ _ _ _ _ us hl => match us, hl with | [_], _ => rfl
theorem bd_TheLeaves_matter : BindOk d_TheLeaves_matter := fun _ _ _ _ _ _ us hl => match us, hl with | [_], _ => rfl
theorem bd_TheLeaves_text : BindOk d_TheLeaves_text := fun _ _ _ _ _ _ us hl => match us, hl with | [_], _ => rfl
theorem bds : ∀ d ∈ defs, BindOk d := by
  intro d hd
  simp only [defs, List.mem_cons, List.not_mem_nil, or_false] at hd
  rcases hd with rfl | rfl | rfl | rfl | rfl | rfl | rfl | rfl | rfl | rfl | rfl | rfl | rfl | rfl | rfl | rfl | rfl | rfl | rfl | rfl | rfl | rfl | rfl | rfl | rfl | rfl | rfl | rfl | rfl | rfl | rfl | rfl | rfl | rfl | rfl | rfl | rfl | rfl | rfl | rfl | rfl | rfl | rfl | rfl | rfl | rfl | rfl | rfl | rfl | rfl | rfl | rfl | rfl | rfl | rfl | rfl | rfl | rfl | rfl | rfl | rfl | rfl | rfl | rfl | rfl | rfl | rfl | rfl | rfl | rfl | rfl | rfl | rfl | rfl | rfl | rfl | rfl | rfl | rfl | rfl | rfl | rfl | rfl | rfl | rfl | rfl | rfl | rfl
  · exact bd_are_signs
  · exact bd_is_name
  · exact bd_name_row
  · exact bd_question_by
  · exact bd_whole_by
  · exact bd_many_names
  · exact bd_question_of
  · exact bd_number
  · exact bd_names
  · exact bd_kinds
  · exact bd_made
  · exact bd_right
  · exact bd_law
  · exact bd_HangsTogether_init
  · exact bd_HangsTogether_called
  · exact bd_HangsTogether_has_loads
  · exact bd_HangsTogether_matter
  · exact bd_HangsTogether_text
  · exact bd_ComesThere_init
  · exact bd_ComesThere_called
  · exact bd_ComesThere_has_loads
  · exact bd_ComesThere_matter
  · exact bd_ComesThere_text
  · exact bd_MustTies_init
  · exact bd_MustTies_called
  · exact bd_MustTies_has_loads
  · exact bd_MustTies_matter
  · exact bd_MustTies_text
  · exact bd_MustPoints_init
  · exact bd_MustPoints_called
  · exact bd_MustPoints_has_loads
  · exact bd_MustPoints_matter
  · exact bd_MustPoints_text
  · exact bd_RingThrough_init
  · exact bd_RingThrough_called
  · exact bd_RingThrough_has_loads
  · exact bd_RingThrough_matter
  · exact bd_RingThrough_text
  · exact bd_LeastWay_init
  · exact bd_LeastWay_called
  · exact bd_LeastWay_has_loads
  · exact bd_LeastWay_matter
  · exact bd_LeastWay_text
  · exact bd_FewestTies_init
  · exact bd_FewestTies_called
  · exact bd_FewestTies_has_loads
  · exact bd_FewestTies_matter
  · exact bd_FewestTies_text
  · exact bd_WaysApart_init
  · exact bd_WaysApart_called
  · exact bd_WaysApart_has_loads
  · exact bd_WaysApart_matter
  · exact bd_WaysApart_text
  · exact bd_PastPoint_init
  · exact bd_PastPoint_called
  · exact bd_PastPoint_has_loads
  · exact bd_PastPoint_matter
  · exact bd_PastPoint_text
  · exact bd_ThePieces_init
  · exact bd_ThePieces_called
  · exact bd_ThePieces_has_loads
  · exact bd_ThePieces_matter
  · exact bd_ThePieces_text
  · exact bd_TheKnots_init
  · exact bd_TheKnots_called
  · exact bd_TheKnots_has_loads
  · exact bd_TheKnots_matter
  · exact bd_TheKnots_text
  · exact bd_TwoSides_init
  · exact bd_TwoSides_called
  · exact bd_TwoSides_has_loads
  · exact bd_TwoSides_matter
  · exact bd_TwoSides_text
  · exact bd_LightestForest_init
  · exact bd_LightestForest_called
  · exact bd_LightestForest_has_loads
  · exact bd_LightestForest_matter
  · exact bd_LightestForest_text
  · exact bd_TheStarts_init
  · exact bd_TheStarts_called
  · exact bd_TheStarts_has_loads
  · exact bd_TheStarts_matter
  · exact bd_TheStarts_text
  · exact bd_TheLeaves_init
  · exact bd_TheLeaves_called
  · exact bd_TheLeaves_has_loads
  · exact bd_TheLeaves_matter
  · exact bd_TheLeaves_text
def fnl : List Fn := [f_are_signs, f_is_name, f_name_row, f_question_by, f_whole_by, f_many_names, f_question_of, f_number, f_names, f_kinds, f_made, f_right, f_law, f_HangsTogether_init, f_HangsTogether_called, f_HangsTogether_has_loads, f_HangsTogether_matter, f_HangsTogether_text, f_ComesThere_init, f_ComesThere_called, f_ComesThere_has_loads, f_ComesThere_matter, f_ComesThere_text, f_MustTies_init, f_MustTies_called, f_MustTies_has_loads, f_MustTies_matter, f_MustTies_text, f_MustPoints_init, f_MustPoints_called, f_MustPoints_has_loads, f_MustPoints_matter, f_MustPoints_text, f_RingThrough_init, f_RingThrough_called, f_RingThrough_has_loads, f_RingThrough_matter, f_RingThrough_text, f_LeastWay_init, f_LeastWay_called, f_LeastWay_has_loads, f_LeastWay_matter, f_LeastWay_text, f_FewestTies_init, f_FewestTies_called, f_FewestTies_has_loads, f_FewestTies_matter, f_FewestTies_text, f_WaysApart_init, f_WaysApart_called, f_WaysApart_has_loads, f_WaysApart_matter, f_WaysApart_text, f_PastPoint_init, f_PastPoint_called, f_PastPoint_has_loads, f_PastPoint_matter, f_PastPoint_text, f_ThePieces_init, f_ThePieces_called, f_ThePieces_has_loads, f_ThePieces_matter, f_ThePieces_text, f_TheKnots_init, f_TheKnots_called, f_TheKnots_has_loads, f_TheKnots_matter, f_TheKnots_text, f_TwoSides_init, f_TwoSides_called, f_TwoSides_has_loads, f_TwoSides_matter, f_TwoSides_text, f_LightestForest_init, f_LightestForest_called, f_LightestForest_has_loads, f_LightestForest_matter, f_LightestForest_text, f_TheStarts_init, f_TheStarts_called, f_TheStarts_has_loads, f_TheStarts_matter, f_TheStarts_text, f_TheLeaves_init, f_TheLeaves_called, f_TheLeaves_has_loads, f_TheLeaves_matter, f_TheLeaves_text]
theorem fnl_eq : defs.map DefR.fn = fnl := rfl
abbrev C_Question : Nat := 0
abbrev C_HangsTogether : Nat := 1
abbrev C_ComesThere : Nat := 2
abbrev C_MustTies : Nat := 3
abbrev C_MustPoints : Nat := 4
abbrev C_RingThrough : Nat := 5
abbrev C_LeastWay : Nat := 6
abbrev C_FewestTies : Nat := 7
abbrev C_WaysApart : Nat := 8
abbrev C_PastPoint : Nat := 9
abbrev C_ThePieces : Nat := 10
abbrev C_TheKnots : Nat := 11
abbrev C_TwoSides : Nat := 12
abbrev C_LightestForest : Nat := 13
abbrev C_TheStarts : Nat := 14
abbrev C_TheLeaves : Nat := 15
def ct : CT := [⟨"Question", ["names"], [], none, false, [0]⟩,
  ⟨"HangsTogether", ["names"], [("called", 14), ("has_loads", 15), ("matter", 16), ("text", 17)], some 13, false, [1, 0]⟩,
  ⟨"ComesThere", ["names"], [("called", 19), ("has_loads", 20), ("matter", 21), ("text", 22)], some 18, false, [2, 0]⟩,
  ⟨"MustTies", ["names"], [("called", 24), ("has_loads", 25), ("matter", 26), ("text", 27)], some 23, false, [3, 0]⟩,
  ⟨"MustPoints", ["names"], [("called", 29), ("has_loads", 30), ("matter", 31), ("text", 32)], some 28, false, [4, 0]⟩,
  ⟨"RingThrough", ["names"], [("called", 34), ("has_loads", 35), ("matter", 36), ("text", 37)], some 33, false, [5, 0]⟩,
  ⟨"LeastWay", ["names"], [("called", 39), ("has_loads", 40), ("matter", 41), ("text", 42)], some 38, false, [6, 0]⟩,
  ⟨"FewestTies", ["names"], [("called", 44), ("has_loads", 45), ("matter", 46), ("text", 47)], some 43, false, [7, 0]⟩,
  ⟨"WaysApart", ["names"], [("called", 49), ("has_loads", 50), ("matter", 51), ("text", 52)], some 48, false, [8, 0]⟩,
  ⟨"PastPoint", ["names"], [("called", 54), ("has_loads", 55), ("matter", 56), ("text", 57)], some 53, false, [9, 0]⟩,
  ⟨"ThePieces", ["names"], [("called", 59), ("has_loads", 60), ("matter", 61), ("text", 62)], some 58, false, [10, 0]⟩,
  ⟨"TheKnots", ["names"], [("called", 64), ("has_loads", 65), ("matter", 66), ("text", 67)], some 63, false, [11, 0]⟩,
  ⟨"TwoSides", ["names"], [("called", 69), ("has_loads", 70), ("matter", 71), ("text", 72)], some 68, false, [12, 0]⟩,
  ⟨"LightestForest", ["names"], [("called", 74), ("has_loads", 75), ("matter", 76), ("text", 77)], some 73, false, [13, 0]⟩,
  ⟨"TheStarts", ["names"], [("called", 79), ("has_loads", 80), ("matter", 81), ("text", 82)], some 78, false, [14, 0]⟩,
  ⟨"TheLeaves", ["names"], [("called", 84), ("has_loads", 85), ("matter", 86), ("text", 87)], some 83, false, [15, 0]⟩]
abbrev T (k : Nat) : Tab := tabOf ct (fun i => fnl[i]?) k
theorem T_are_signs (k : Nat) (ds rg : List D) : (T (k+1)).call 0 ds rg = runFn (T k) f_are_signs ds rg := tb rfl ds rg
theorem T_is_name (k : Nat) (ds rg : List D) : (T (k+1)).call 1 ds rg = runFn (T k) f_is_name ds rg := tb rfl ds rg
theorem T_name_row (k : Nat) (ds rg : List D) : (T (k+1)).call 2 ds rg = runFn (T k) f_name_row ds rg := tb rfl ds rg
theorem T_question_by (k : Nat) (ds rg : List D) : (T (k+1)).call 3 ds rg = runFn (T k) f_question_by ds rg := tb rfl ds rg
theorem T_whole_by (k : Nat) (ds rg : List D) : (T (k+1)).call 4 ds rg = runFn (T k) f_whole_by ds rg := tb rfl ds rg
theorem T_many_names (k : Nat) (ds rg : List D) : (T (k+1)).call 5 ds rg = runFn (T k) f_many_names ds rg := tb rfl ds rg
theorem T_question_of (k : Nat) (ds rg : List D) : (T (k+1)).call 6 ds rg = runFn (T k) f_question_of ds rg := tb rfl ds rg
theorem T_number (k : Nat) (ds rg : List D) : (T (k+1)).call 7 ds rg = runFn (T k) f_number ds rg := tb rfl ds rg
theorem T_names (k : Nat) (ds rg : List D) : (T (k+1)).call 8 ds rg = runFn (T k) f_names ds rg := tb rfl ds rg
theorem T_kinds (k : Nat) (ds rg : List D) : (T (k+1)).call 9 ds rg = runFn (T k) f_kinds ds rg := tb rfl ds rg
theorem T_made (k : Nat) (ds rg : List D) : (T (k+1)).call 10 ds rg = runFn (T k) f_made ds rg := tb rfl ds rg
theorem T_right (k : Nat) (ds rg : List D) : (T (k+1)).call 11 ds rg = runFn (T k) f_right ds rg := tb rfl ds rg
theorem T_law (k : Nat) (ds rg : List D) : (T (k+1)).call 12 ds rg = runFn (T k) f_law ds rg := tb rfl ds rg
theorem T_HangsTogether_init (k : Nat) (ds rg : List D) : (T (k+1)).call 13 ds rg = runFn (T k) f_HangsTogether_init ds rg := tb rfl ds rg
theorem T_HangsTogether_called (k : Nat) (ds rg : List D) : (T (k+1)).call 14 ds rg = runFn (T k) f_HangsTogether_called ds rg := tb rfl ds rg
theorem T_HangsTogether_has_loads (k : Nat) (ds rg : List D) : (T (k+1)).call 15 ds rg = runFn (T k) f_HangsTogether_has_loads ds rg := tb rfl ds rg
theorem T_HangsTogether_matter (k : Nat) (ds rg : List D) : (T (k+1)).call 16 ds rg = runFn (T k) f_HangsTogether_matter ds rg := tb rfl ds rg
theorem T_HangsTogether_text (k : Nat) (ds rg : List D) : (T (k+1)).call 17 ds rg = runFn (T k) f_HangsTogether_text ds rg := tb rfl ds rg
theorem T_ComesThere_init (k : Nat) (ds rg : List D) : (T (k+1)).call 18 ds rg = runFn (T k) f_ComesThere_init ds rg := tb rfl ds rg
theorem T_ComesThere_called (k : Nat) (ds rg : List D) : (T (k+1)).call 19 ds rg = runFn (T k) f_ComesThere_called ds rg := tb rfl ds rg
theorem T_ComesThere_has_loads (k : Nat) (ds rg : List D) : (T (k+1)).call 20 ds rg = runFn (T k) f_ComesThere_has_loads ds rg := tb rfl ds rg
theorem T_ComesThere_matter (k : Nat) (ds rg : List D) : (T (k+1)).call 21 ds rg = runFn (T k) f_ComesThere_matter ds rg := tb rfl ds rg
theorem T_ComesThere_text (k : Nat) (ds rg : List D) : (T (k+1)).call 22 ds rg = runFn (T k) f_ComesThere_text ds rg := tb rfl ds rg
theorem T_MustTies_init (k : Nat) (ds rg : List D) : (T (k+1)).call 23 ds rg = runFn (T k) f_MustTies_init ds rg := tb rfl ds rg
theorem T_MustTies_called (k : Nat) (ds rg : List D) : (T (k+1)).call 24 ds rg = runFn (T k) f_MustTies_called ds rg := tb rfl ds rg
theorem T_MustTies_has_loads (k : Nat) (ds rg : List D) : (T (k+1)).call 25 ds rg = runFn (T k) f_MustTies_has_loads ds rg := tb rfl ds rg
theorem T_MustTies_matter (k : Nat) (ds rg : List D) : (T (k+1)).call 26 ds rg = runFn (T k) f_MustTies_matter ds rg := tb rfl ds rg
theorem T_MustTies_text (k : Nat) (ds rg : List D) : (T (k+1)).call 27 ds rg = runFn (T k) f_MustTies_text ds rg := tb rfl ds rg
theorem T_MustPoints_init (k : Nat) (ds rg : List D) : (T (k+1)).call 28 ds rg = runFn (T k) f_MustPoints_init ds rg := tb rfl ds rg
theorem T_MustPoints_called (k : Nat) (ds rg : List D) : (T (k+1)).call 29 ds rg = runFn (T k) f_MustPoints_called ds rg := tb rfl ds rg
theorem T_MustPoints_has_loads (k : Nat) (ds rg : List D) : (T (k+1)).call 30 ds rg = runFn (T k) f_MustPoints_has_loads ds rg := tb rfl ds rg
theorem T_MustPoints_matter (k : Nat) (ds rg : List D) : (T (k+1)).call 31 ds rg = runFn (T k) f_MustPoints_matter ds rg := tb rfl ds rg
theorem T_MustPoints_text (k : Nat) (ds rg : List D) : (T (k+1)).call 32 ds rg = runFn (T k) f_MustPoints_text ds rg := tb rfl ds rg
theorem T_RingThrough_init (k : Nat) (ds rg : List D) : (T (k+1)).call 33 ds rg = runFn (T k) f_RingThrough_init ds rg := tb rfl ds rg
theorem T_RingThrough_called (k : Nat) (ds rg : List D) : (T (k+1)).call 34 ds rg = runFn (T k) f_RingThrough_called ds rg := tb rfl ds rg
theorem T_RingThrough_has_loads (k : Nat) (ds rg : List D) : (T (k+1)).call 35 ds rg = runFn (T k) f_RingThrough_has_loads ds rg := tb rfl ds rg
theorem T_RingThrough_matter (k : Nat) (ds rg : List D) : (T (k+1)).call 36 ds rg = runFn (T k) f_RingThrough_matter ds rg := tb rfl ds rg
theorem T_RingThrough_text (k : Nat) (ds rg : List D) : (T (k+1)).call 37 ds rg = runFn (T k) f_RingThrough_text ds rg := tb rfl ds rg
theorem T_LeastWay_init (k : Nat) (ds rg : List D) : (T (k+1)).call 38 ds rg = runFn (T k) f_LeastWay_init ds rg := tb rfl ds rg
theorem T_LeastWay_called (k : Nat) (ds rg : List D) : (T (k+1)).call 39 ds rg = runFn (T k) f_LeastWay_called ds rg := tb rfl ds rg
theorem T_LeastWay_has_loads (k : Nat) (ds rg : List D) : (T (k+1)).call 40 ds rg = runFn (T k) f_LeastWay_has_loads ds rg := tb rfl ds rg
theorem T_LeastWay_matter (k : Nat) (ds rg : List D) : (T (k+1)).call 41 ds rg = runFn (T k) f_LeastWay_matter ds rg := tb rfl ds rg
theorem T_LeastWay_text (k : Nat) (ds rg : List D) : (T (k+1)).call 42 ds rg = runFn (T k) f_LeastWay_text ds rg := tb rfl ds rg
theorem T_FewestTies_init (k : Nat) (ds rg : List D) : (T (k+1)).call 43 ds rg = runFn (T k) f_FewestTies_init ds rg := tb rfl ds rg
theorem T_FewestTies_called (k : Nat) (ds rg : List D) : (T (k+1)).call 44 ds rg = runFn (T k) f_FewestTies_called ds rg := tb rfl ds rg
theorem T_FewestTies_has_loads (k : Nat) (ds rg : List D) : (T (k+1)).call 45 ds rg = runFn (T k) f_FewestTies_has_loads ds rg := tb rfl ds rg
theorem T_FewestTies_matter (k : Nat) (ds rg : List D) : (T (k+1)).call 46 ds rg = runFn (T k) f_FewestTies_matter ds rg := tb rfl ds rg
theorem T_FewestTies_text (k : Nat) (ds rg : List D) : (T (k+1)).call 47 ds rg = runFn (T k) f_FewestTies_text ds rg := tb rfl ds rg
theorem T_WaysApart_init (k : Nat) (ds rg : List D) : (T (k+1)).call 48 ds rg = runFn (T k) f_WaysApart_init ds rg := tb rfl ds rg
theorem T_WaysApart_called (k : Nat) (ds rg : List D) : (T (k+1)).call 49 ds rg = runFn (T k) f_WaysApart_called ds rg := tb rfl ds rg
theorem T_WaysApart_has_loads (k : Nat) (ds rg : List D) : (T (k+1)).call 50 ds rg = runFn (T k) f_WaysApart_has_loads ds rg := tb rfl ds rg
theorem T_WaysApart_matter (k : Nat) (ds rg : List D) : (T (k+1)).call 51 ds rg = runFn (T k) f_WaysApart_matter ds rg := tb rfl ds rg
theorem T_WaysApart_text (k : Nat) (ds rg : List D) : (T (k+1)).call 52 ds rg = runFn (T k) f_WaysApart_text ds rg := tb rfl ds rg
theorem T_PastPoint_init (k : Nat) (ds rg : List D) : (T (k+1)).call 53 ds rg = runFn (T k) f_PastPoint_init ds rg := tb rfl ds rg
theorem T_PastPoint_called (k : Nat) (ds rg : List D) : (T (k+1)).call 54 ds rg = runFn (T k) f_PastPoint_called ds rg := tb rfl ds rg
theorem T_PastPoint_has_loads (k : Nat) (ds rg : List D) : (T (k+1)).call 55 ds rg = runFn (T k) f_PastPoint_has_loads ds rg := tb rfl ds rg
theorem T_PastPoint_matter (k : Nat) (ds rg : List D) : (T (k+1)).call 56 ds rg = runFn (T k) f_PastPoint_matter ds rg := tb rfl ds rg
theorem T_PastPoint_text (k : Nat) (ds rg : List D) : (T (k+1)).call 57 ds rg = runFn (T k) f_PastPoint_text ds rg := tb rfl ds rg
theorem T_ThePieces_init (k : Nat) (ds rg : List D) : (T (k+1)).call 58 ds rg = runFn (T k) f_ThePieces_init ds rg := tb rfl ds rg
theorem T_ThePieces_called (k : Nat) (ds rg : List D) : (T (k+1)).call 59 ds rg = runFn (T k) f_ThePieces_called ds rg := tb rfl ds rg
theorem T_ThePieces_has_loads (k : Nat) (ds rg : List D) : (T (k+1)).call 60 ds rg = runFn (T k) f_ThePieces_has_loads ds rg := tb rfl ds rg
theorem T_ThePieces_matter (k : Nat) (ds rg : List D) : (T (k+1)).call 61 ds rg = runFn (T k) f_ThePieces_matter ds rg := tb rfl ds rg
theorem T_ThePieces_text (k : Nat) (ds rg : List D) : (T (k+1)).call 62 ds rg = runFn (T k) f_ThePieces_text ds rg := tb rfl ds rg
theorem T_TheKnots_init (k : Nat) (ds rg : List D) : (T (k+1)).call 63 ds rg = runFn (T k) f_TheKnots_init ds rg := tb rfl ds rg
theorem T_TheKnots_called (k : Nat) (ds rg : List D) : (T (k+1)).call 64 ds rg = runFn (T k) f_TheKnots_called ds rg := tb rfl ds rg
theorem T_TheKnots_has_loads (k : Nat) (ds rg : List D) : (T (k+1)).call 65 ds rg = runFn (T k) f_TheKnots_has_loads ds rg := tb rfl ds rg
theorem T_TheKnots_matter (k : Nat) (ds rg : List D) : (T (k+1)).call 66 ds rg = runFn (T k) f_TheKnots_matter ds rg := tb rfl ds rg
theorem T_TheKnots_text (k : Nat) (ds rg : List D) : (T (k+1)).call 67 ds rg = runFn (T k) f_TheKnots_text ds rg := tb rfl ds rg
theorem T_TwoSides_init (k : Nat) (ds rg : List D) : (T (k+1)).call 68 ds rg = runFn (T k) f_TwoSides_init ds rg := tb rfl ds rg
theorem T_TwoSides_called (k : Nat) (ds rg : List D) : (T (k+1)).call 69 ds rg = runFn (T k) f_TwoSides_called ds rg := tb rfl ds rg
theorem T_TwoSides_has_loads (k : Nat) (ds rg : List D) : (T (k+1)).call 70 ds rg = runFn (T k) f_TwoSides_has_loads ds rg := tb rfl ds rg
theorem T_TwoSides_matter (k : Nat) (ds rg : List D) : (T (k+1)).call 71 ds rg = runFn (T k) f_TwoSides_matter ds rg := tb rfl ds rg
theorem T_TwoSides_text (k : Nat) (ds rg : List D) : (T (k+1)).call 72 ds rg = runFn (T k) f_TwoSides_text ds rg := tb rfl ds rg
theorem T_LightestForest_init (k : Nat) (ds rg : List D) : (T (k+1)).call 73 ds rg = runFn (T k) f_LightestForest_init ds rg := tb rfl ds rg
theorem T_LightestForest_called (k : Nat) (ds rg : List D) : (T (k+1)).call 74 ds rg = runFn (T k) f_LightestForest_called ds rg := tb rfl ds rg
theorem T_LightestForest_has_loads (k : Nat) (ds rg : List D) : (T (k+1)).call 75 ds rg = runFn (T k) f_LightestForest_has_loads ds rg := tb rfl ds rg
theorem T_LightestForest_matter (k : Nat) (ds rg : List D) : (T (k+1)).call 76 ds rg = runFn (T k) f_LightestForest_matter ds rg := tb rfl ds rg
theorem T_LightestForest_text (k : Nat) (ds rg : List D) : (T (k+1)).call 77 ds rg = runFn (T k) f_LightestForest_text ds rg := tb rfl ds rg
theorem T_TheStarts_init (k : Nat) (ds rg : List D) : (T (k+1)).call 78 ds rg = runFn (T k) f_TheStarts_init ds rg := tb rfl ds rg
theorem T_TheStarts_called (k : Nat) (ds rg : List D) : (T (k+1)).call 79 ds rg = runFn (T k) f_TheStarts_called ds rg := tb rfl ds rg
theorem T_TheStarts_has_loads (k : Nat) (ds rg : List D) : (T (k+1)).call 80 ds rg = runFn (T k) f_TheStarts_has_loads ds rg := tb rfl ds rg
theorem T_TheStarts_matter (k : Nat) (ds rg : List D) : (T (k+1)).call 81 ds rg = runFn (T k) f_TheStarts_matter ds rg := tb rfl ds rg
theorem T_TheStarts_text (k : Nat) (ds rg : List D) : (T (k+1)).call 82 ds rg = runFn (T k) f_TheStarts_text ds rg := tb rfl ds rg
theorem T_TheLeaves_init (k : Nat) (ds rg : List D) : (T (k+1)).call 83 ds rg = runFn (T k) f_TheLeaves_init ds rg := tb rfl ds rg
theorem T_TheLeaves_called (k : Nat) (ds rg : List D) : (T (k+1)).call 84 ds rg = runFn (T k) f_TheLeaves_called ds rg := tb rfl ds rg
theorem T_TheLeaves_has_loads (k : Nat) (ds rg : List D) : (T (k+1)).call 85 ds rg = runFn (T k) f_TheLeaves_has_loads ds rg := tb rfl ds rg
theorem T_TheLeaves_matter (k : Nat) (ds rg : List D) : (T (k+1)).call 86 ds rg = runFn (T k) f_TheLeaves_matter ds rg := tb rfl ds rg
theorem T_TheLeaves_text (k : Nat) (ds rg : List D) : (T (k+1)).call 87 ds rg = runFn (T k) f_TheLeaves_text ds rg := tb rfl ds rg
theorem T_ct (k : Nat) : (T k).ct = ct := tab_ct k
theorem cf_Question_names : ct.fld 0 "names" = true := by decide +kernel
theorem cp_Question : ct.perm 0 = false := by decide +kernel
theorem cf_HangsTogether_names : ct.fld 1 "names" = true := by decide +kernel
theorem cm_HangsTogether_called : ct.meth 1 "called" = some 14 := by decide +kernel
theorem cm_HangsTogether_has_loads : ct.meth 1 "has_loads" = some 15 := by decide +kernel
theorem cm_HangsTogether_matter : ct.meth 1 "matter" = some 16 := by decide +kernel
theorem cm_HangsTogether_text : ct.meth 1 "text" = some 17 := by decide +kernel
theorem ci_HangsTogether : ct.init 1 = some 13 := by decide +kernel
theorem cp_HangsTogether : ct.perm 1 = false := by decide +kernel
theorem cf_ComesThere_names : ct.fld 2 "names" = true := by decide +kernel
theorem cm_ComesThere_called : ct.meth 2 "called" = some 19 := by decide +kernel
theorem cm_ComesThere_has_loads : ct.meth 2 "has_loads" = some 20 := by decide +kernel
theorem cm_ComesThere_matter : ct.meth 2 "matter" = some 21 := by decide +kernel
theorem cm_ComesThere_text : ct.meth 2 "text" = some 22 := by decide +kernel
theorem ci_ComesThere : ct.init 2 = some 18 := by decide +kernel
theorem cp_ComesThere : ct.perm 2 = false := by decide +kernel
theorem cf_MustTies_names : ct.fld 3 "names" = true := by decide +kernel
theorem cm_MustTies_called : ct.meth 3 "called" = some 24 := by decide +kernel
theorem cm_MustTies_has_loads : ct.meth 3 "has_loads" = some 25 := by decide +kernel
theorem cm_MustTies_matter : ct.meth 3 "matter" = some 26 := by decide +kernel
theorem cm_MustTies_text : ct.meth 3 "text" = some 27 := by decide +kernel
theorem ci_MustTies : ct.init 3 = some 23 := by decide +kernel
theorem cp_MustTies : ct.perm 3 = false := by decide +kernel
theorem cf_MustPoints_names : ct.fld 4 "names" = true := by decide +kernel
theorem cm_MustPoints_called : ct.meth 4 "called" = some 29 := by decide +kernel
theorem cm_MustPoints_has_loads : ct.meth 4 "has_loads" = some 30 := by decide +kernel
theorem cm_MustPoints_matter : ct.meth 4 "matter" = some 31 := by decide +kernel
theorem cm_MustPoints_text : ct.meth 4 "text" = some 32 := by decide +kernel
theorem ci_MustPoints : ct.init 4 = some 28 := by decide +kernel
theorem cp_MustPoints : ct.perm 4 = false := by decide +kernel
theorem cf_RingThrough_names : ct.fld 5 "names" = true := by decide +kernel
theorem cm_RingThrough_called : ct.meth 5 "called" = some 34 := by decide +kernel
theorem cm_RingThrough_has_loads : ct.meth 5 "has_loads" = some 35 := by decide +kernel
theorem cm_RingThrough_matter : ct.meth 5 "matter" = some 36 := by decide +kernel
theorem cm_RingThrough_text : ct.meth 5 "text" = some 37 := by decide +kernel
theorem ci_RingThrough : ct.init 5 = some 33 := by decide +kernel
theorem cp_RingThrough : ct.perm 5 = false := by decide +kernel
theorem cf_LeastWay_names : ct.fld 6 "names" = true := by decide +kernel
theorem cm_LeastWay_called : ct.meth 6 "called" = some 39 := by decide +kernel
theorem cm_LeastWay_has_loads : ct.meth 6 "has_loads" = some 40 := by decide +kernel
theorem cm_LeastWay_matter : ct.meth 6 "matter" = some 41 := by decide +kernel
theorem cm_LeastWay_text : ct.meth 6 "text" = some 42 := by decide +kernel
theorem ci_LeastWay : ct.init 6 = some 38 := by decide +kernel
theorem cp_LeastWay : ct.perm 6 = false := by decide +kernel
theorem cf_FewestTies_names : ct.fld 7 "names" = true := by decide +kernel
theorem cm_FewestTies_called : ct.meth 7 "called" = some 44 := by decide +kernel
theorem cm_FewestTies_has_loads : ct.meth 7 "has_loads" = some 45 := by decide +kernel
theorem cm_FewestTies_matter : ct.meth 7 "matter" = some 46 := by decide +kernel
theorem cm_FewestTies_text : ct.meth 7 "text" = some 47 := by decide +kernel
theorem ci_FewestTies : ct.init 7 = some 43 := by decide +kernel
theorem cp_FewestTies : ct.perm 7 = false := by decide +kernel
theorem cf_WaysApart_names : ct.fld 8 "names" = true := by decide +kernel
theorem cm_WaysApart_called : ct.meth 8 "called" = some 49 := by decide +kernel
theorem cm_WaysApart_has_loads : ct.meth 8 "has_loads" = some 50 := by decide +kernel
theorem cm_WaysApart_matter : ct.meth 8 "matter" = some 51 := by decide +kernel
theorem cm_WaysApart_text : ct.meth 8 "text" = some 52 := by decide +kernel
theorem ci_WaysApart : ct.init 8 = some 48 := by decide +kernel
theorem cp_WaysApart : ct.perm 8 = false := by decide +kernel
theorem cf_PastPoint_names : ct.fld 9 "names" = true := by decide +kernel
theorem cm_PastPoint_called : ct.meth 9 "called" = some 54 := by decide +kernel
theorem cm_PastPoint_has_loads : ct.meth 9 "has_loads" = some 55 := by decide +kernel
theorem cm_PastPoint_matter : ct.meth 9 "matter" = some 56 := by decide +kernel
theorem cm_PastPoint_text : ct.meth 9 "text" = some 57 := by decide +kernel
theorem ci_PastPoint : ct.init 9 = some 53 := by decide +kernel
theorem cp_PastPoint : ct.perm 9 = false := by decide +kernel
theorem cf_ThePieces_names : ct.fld 10 "names" = true := by decide +kernel
theorem cm_ThePieces_called : ct.meth 10 "called" = some 59 := by decide +kernel
theorem cm_ThePieces_has_loads : ct.meth 10 "has_loads" = some 60 := by decide +kernel
theorem cm_ThePieces_matter : ct.meth 10 "matter" = some 61 := by decide +kernel
theorem cm_ThePieces_text : ct.meth 10 "text" = some 62 := by decide +kernel
theorem ci_ThePieces : ct.init 10 = some 58 := by decide +kernel
theorem cp_ThePieces : ct.perm 10 = false := by decide +kernel
theorem cf_TheKnots_names : ct.fld 11 "names" = true := by decide +kernel
theorem cm_TheKnots_called : ct.meth 11 "called" = some 64 := by decide +kernel
theorem cm_TheKnots_has_loads : ct.meth 11 "has_loads" = some 65 := by decide +kernel
theorem cm_TheKnots_matter : ct.meth 11 "matter" = some 66 := by decide +kernel
theorem cm_TheKnots_text : ct.meth 11 "text" = some 67 := by decide +kernel
theorem ci_TheKnots : ct.init 11 = some 63 := by decide +kernel
theorem cp_TheKnots : ct.perm 11 = false := by decide +kernel
theorem cf_TwoSides_names : ct.fld 12 "names" = true := by decide +kernel
theorem cm_TwoSides_called : ct.meth 12 "called" = some 69 := by decide +kernel
theorem cm_TwoSides_has_loads : ct.meth 12 "has_loads" = some 70 := by decide +kernel
theorem cm_TwoSides_matter : ct.meth 12 "matter" = some 71 := by decide +kernel
theorem cm_TwoSides_text : ct.meth 12 "text" = some 72 := by decide +kernel
theorem ci_TwoSides : ct.init 12 = some 68 := by decide +kernel
theorem cp_TwoSides : ct.perm 12 = false := by decide +kernel
theorem cf_LightestForest_names : ct.fld 13 "names" = true := by decide +kernel
theorem cm_LightestForest_called : ct.meth 13 "called" = some 74 := by decide +kernel
theorem cm_LightestForest_has_loads : ct.meth 13 "has_loads" = some 75 := by decide +kernel
theorem cm_LightestForest_matter : ct.meth 13 "matter" = some 76 := by decide +kernel
theorem cm_LightestForest_text : ct.meth 13 "text" = some 77 := by decide +kernel
theorem ci_LightestForest : ct.init 13 = some 73 := by decide +kernel
theorem cp_LightestForest : ct.perm 13 = false := by decide +kernel
theorem cf_TheStarts_names : ct.fld 14 "names" = true := by decide +kernel
theorem cm_TheStarts_called : ct.meth 14 "called" = some 79 := by decide +kernel
theorem cm_TheStarts_has_loads : ct.meth 14 "has_loads" = some 80 := by decide +kernel
theorem cm_TheStarts_matter : ct.meth 14 "matter" = some 81 := by decide +kernel
theorem cm_TheStarts_text : ct.meth 14 "text" = some 82 := by decide +kernel
theorem ci_TheStarts : ct.init 14 = some 78 := by decide +kernel
theorem cp_TheStarts : ct.perm 14 = false := by decide +kernel
theorem cf_TheLeaves_names : ct.fld 15 "names" = true := by decide +kernel
theorem cm_TheLeaves_called : ct.meth 15 "called" = some 84 := by decide +kernel
theorem cm_TheLeaves_has_loads : ct.meth 15 "has_loads" = some 85 := by decide +kernel
theorem cm_TheLeaves_matter : ct.meth 15 "matter" = some 86 := by decide +kernel
theorem cm_TheLeaves_text : ct.meth 15 "text" = some 87 := by decide +kernel
theorem ci_TheLeaves : ct.init 15 = some 83 := by decide +kernel
theorem cp_TheLeaves : ct.perm 15 = false := by decide +kernel
def pg : Pg := ⟨[("are_signs", 0), ("is_name", 1), ("name_row", 2), ("question_by", 3), ("whole_by", 4), ("many_names", 5), ("question_of", 6), ("_law_number", 7), ("_law_names", 8), ("_law_kinds", 9), ("_law_made", 10), ("_law_right", 11), ("law", 12)],
  [("LETTERS", .str "abcdefghijklmnopqrstuvwxyz"), ("MOST_LETTERS", .int (12))],
  ["all", "bool", "enumerate", "isinstance", "len", "list", "max", "min", "range", "str"],
  [("Question", 0), ("HangsTogether", 1), ("ComesThere", 2), ("MustTies", 3), ("MustPoints", 4), ("RingThrough", 5), ("LeastWay", 6), ("FewestTies", 7), ("WaysApart", 8), ("PastPoint", 9), ("ThePieces", 10), ("TheKnots", 11), ("TwoSides", 12), ("LightestForest", 13), ("TheStarts", 14), ("TheLeaves", 15)], ct⟩
theorem good : pg.good defs = true := by decide +kernel
theorem ok : defs.all pg.ok = true := by decide +kernel
end K25
end

section
set_option Elab.async false
set_option linter.all false
set_option maxRecDepth 100000
set_option maxHeartbeats 8000000
namespace K25
open PySem L2 RB
def nm0 : List Str := ["_wall", "WebError", "BadText", "LETTERS", "MOST_LETTERS", "are_signs", "is_name", "name_row", "Question", "OfTwo", "HangsTogether", "ComesThere", "MustTies", "MustPoints", "RingThrough", "LeastWay", "FewestTies", "WaysApart", "PastPoint", "ThePieces", "TheKnots", "TwoSides", "LightestForest", "TheStarts", "TheLeaves", "question_by", "whole_by", "many_names", "question_of", "_law_number"]
def nm1 : List Str := ["_law_names", "_law_kinds", "_law_made", "_law_right"]
def names : List Str := nm0 ++ nm1
abbrev R : PySem.W.OpenRow := PySem.W.OpenLaw.row PySem.Challenge.rw_reachbook_k25_questions_as_texts
abbrev hk : PySem.W.Hook := hookX 6 pg.facts (defs.map DefR.dd)
def ob (s : PySem.W.SharedT) : He.AlD := obsXG 6 pg.facts (defs.map DefR.dd) (HandSHeadRun.getT s)
theorem ob_eq (s : PySem.W.SharedT) : ob s = hk.obs s.abs := obsXG_eq (HandSHeadRun.getT_eq s)
theorem run (w : World) : HandSHeadRun.RunEq R (PySem.W.view R.prog [38]) hk ob 40000 names w := by
  intro os
  kernel_rfl
end K25
open PySem PySem.W PySem.Calls PyProof.Rows RB
theorem K25.head (hev : ∀ ns : List Int, ns.length ≤ 63 → ∃ ps rg, (K25.T 8).call 12 [.scr ns] [] = .ret (.bl true) ps rg) : PySem.Challenge.rw_reachbook_k25_questions_as_texts.Holds := by
  w_on; o_law
  refine HandSHeadRun.head_any (r := OpenLaw.row PySem.Challenge.rw_reachbook_k25_questions_as_texts) (q := view (OpenLaw.row PySem.Challenge.rw_reachbook_k25_questions_as_texts).prog [38]) (H := K25.hk) (ob := K25.ob) (M := 40000) (loose := K25.names) (d := HandSHeadRun.topDef (OpenLaw.row PySem.Challenge.rw_reachbook_k25_questions_as_texts).prog 38) (kwd := []) K25.ob_eq
    (by kernel_rfl) (fun s => by kernel_rfl) K25.run (by kernel_rfl) (by kernel_rfl) (by kernel_rfl) (by rfl) (by first | assumption | decide +kernel) (by decide +kernel) ⟨rfl, rfl, rfl, rfl, rfl, by decide +kernel⟩ ?hw ?hc
  case hw => w_witness2
  case hc => exact RB.law_walk (l := PySem.Challenge.rw_reachbook_k25_questions_as_texts) (k := 8) (fl := 12) (dl := K25.d_law) (x := "_law_script") rfl rfl (by decide +kernel) rfl (by kernel_rfl) ⟨rfl, by decide, by decide⟩ (by kernel_rfl) K25.good K25.ok K25.bds (by rw [tabD_eq K25.fnl_eq]; exact hev)
end

section
set_option Elab.async false
set_option linter.all false
set_option maxRecDepth 100000
set_option maxHeartbeats 2000000
namespace K25
open PySem L2 RB
def qD (c : Nat) (ns : List Str) : D := .ins false c [("names", .lst false (ns.map .str))]
theorem qD_free (c : Nat) (ns : List Str) : (qD c ns).free = true := by simp [qD, D.free, D.freeF, freeL_mapS]
theorem e1 : (" " : Str).length = 1 := by decide +kernel
theorem fS (ns : List Str) : D.freeL (ns.map .str) = true := freeL_mapS ns
theorem join_row {t : Tab} {S : DS} {i j : Nat} {w : Str} {ns : List Str} {o : Bool} (h1 : S.ds[i]? = some (some (.str w))) (h2 : S.ds[j]? = some (some (.lst o (ns.map .str)))) (h : ((w :: ns).map (·.length)).sum + (ns.length + 10) ≤ 1000) :
    PW t S (.bm .join (.str " ") [.bin .add (.lst [.var i]) (.var j)]) (.str (Txt.join " " (w :: ns))) := by
  have hl : 1 + (ns.map D.str).length ≤ sz := by rw [List.length_map]; show _ ≤ 16777216; omega
  refine w_bm (x := .str " ") (ds := [.lst true ((w :: ns).map .str)]) (pdl_cons w_str.pd (pdl_cons (PW.pd (w_bin (x := .lst true [.str w]) (y := .lst o (ns.map .str)) (PW.pd (w_lst (pwl_cons (w_var h1 rfl rfl) pwl_nil) (Nat.le_of_ble_eq_true rfl))) (d_var h2 rfl) (b_app rfl (fS ns) hl))) pdl_nil)) rfl (j_strs ?_)
  rw [e1, List.length_cons]
  show _ ≤ 16777216
  omega
theorem name_row_c (k : Nat) (w : Str) (ns : List Str) (o : Bool) (rg : List D) (h : ((w :: ns).map (·.length)).sum + (ns.length + 10) ≤ 1000) : (T (k+1)).call F_name_row [.str w, .lst o (ns.map .str)] rg = .ret (.str (Txt.join " " (w :: ns))) [some (.str w), some (.lst o (ns.map .str))] rg := by
  rw [T_name_row]
  refine run_pure (fn := f_name_row) (ds := [.str w, .lst o (ns.map .str)]) rfl (x_ret (join_row (i := 0) (j := 1) rfl rfl h)) rfl rfl
theorem right_c (k : Nat) (c : Nat) (w : Str) (ns : List Str) (ld : Bool) (ft fl fm : Nat) (o : Bool) (rg : List D) (h0 : ct.sub c C_Question = some true) (h2 : ct.meth c "text" = some ft) (h4 : ct.meth c "has_loads" = some fl) (h6 : ct.meth c "matter" = some fm) (g2 : lookP [(("names" : Str), D.lst false (ns.map .str))] "text" = none) (g4 : lookP [(("names" : Str), D.lst false (ns.map .str))] "has_loads" = none) (g6 : lookP [(("names" : Str), D.lst false (ns.map .str))] "matter" = none)
    (h1 : (T (k+3)).call F_kinds [qD c ns] rg = .ret (.lst true ([w].map .str)) [some (qD c ns)] rg)
    (h3 : (T (k+3)).call ft [qD c ns] rg = .ret (.str (Txt.join " " (w :: ns))) [some (qD c ns)] rg)
    (h5 : (T (k+3)).call fl [qD c ns] rg = .ret (.bl ld) [some (qD c ns)] rg)
    (h7 : (T (k+3)).call fm [qD c ns] rg = .ret (.lst true (ns.map .str)) [some (qD c ns)] rg)
    (hl : ld = decide (w ∈ (["least", "lightest"] : List Str))) (h : ((w :: ns).map (·.length)).sum + (ns.length + 10) ≤ 1000) :
    (T (k+4)).call F_right [qD c ns, .str w, .lst o (ns.map .str)] rg = .ret (.bl true) [some (qD c ns), some (.str w), some (.lst o (ns.map .str))] rg := by
  rw [T_right]
  have hty : tyD ct (.cls 0) (qD c ns) = some true := by
    have : ct.has 0 = true := by kernel_rfl
    simp only [tyD, this, if_true, qD]; exact h0
  have hlen : ns.length ≤ 1000 := by omega
  have step : ∀ (S : DS), S.ds[0]? = some (some (qD c ns)) → S.ds[2]? = some (some (.lst o (ns.map .str))) → S.rg = rg → 4 < S.ds.length → Xs (T (k+3)) 3 [.asg (.name 4) (.meth (.var 0) "matter" []), .ife (.orE (.notE (.isi (.var 4) .list)) (.cmp .ne (.var 4) (.var 2))) [.ret (.bl false)] [], .expr (.mm .append (.var 4) [.str "more"])] S .next ((S.put 4 (.lst true (ns.map .str))).put 4 (.lst true (ns.map .str ++ [.str "more"]))) := by
    intro S a0 a2 ar al
    have b2 : (S.put 4 (.lst true (ns.map .str))).ds[2]? = some (some (.lst o (ns.map .str))) := by
      show (S.ds.set 4 _)[2]? = _
      rw [List.getElem?_set_ne (by decide)]; exact a2
    have b4 : (S.put 4 (.lst true (ns.map .str))).ds[4]? = some (some (.lst true (ns.map .str))) := by
      show (S.ds.set 4 _)[4]? = _
      rw [List.getElem?_set_self al]
    refine x_asg (w_meth (f := fm) (pa_var a0 (by decide) pa_nil) g6 h6 (fun _ => rfl) (by rw [ar]; exact h7) rfl) (by decide) al ?_
    refine x_if (p := false || !decide (ns = ns)) (PW.pd (w_or (PW.pd (w_not (p := true) (PW.pd (w_isi (d_var b4 rfl) rfl)) rfl)) fun _ => w_cmp (d_var b4 rfl) (d_var b2 rfl) c_neSs)) rfl ?_
    simp only [decide_true, Bool.not_true, Bool.or_self, Bool.false_eq_true, if_false, List.nil_append]
    refine x_mm (r := .non) b4 rfl rfl (pwl_cons w_str pwl_nil) rfl ?_ x_nil
    have : (ns.map D.str).length < sz := by rw [List.length_map]; show _ < 16777216; omega
    simp only [mmD, this, if_true]
  refine run_of (S2 := ⟨[some (qD c ns), some (.str w), some (.lst o (ns.map .str)), some (.int 1), some (.lst true (ns.map .str ++ [.str "more"]))], rg⟩) rfl ?_
  refine x_if (p := !true || !decide ([w] = [w])) (PW.pd (w_or (PW.pd (w_not (p := true) (PW.pd (w_isi (d_var rfl rfl) hty)) rfl)) fun _ => w_cmp (PW.pd (w_call (pa_var rfl (by decide) pa_nil) (fun _ => rfl) h1 rfl)) (PW.pd (w_lst (ds := [w].map .str) (pwl_cons (w_var rfl rfl rfl) pwl_nil) (Nat.le_of_ble_eq_true rfl))) c_neSs)) rfl ?_
  simp only [decide_true, Bool.not_true, Bool.or_self, Bool.false_eq_true, if_false, List.nil_append]
  refine x_if (p := !decide (Txt.join " " (w :: ns) = Txt.join " " (w :: ns)) || !true) (PW.pd (w_or (PW.pd (w_cmp (PW.pd (w_meth (f := ft) (pa_var rfl (by decide) pa_nil) g2 h2 (fun _ => rfl) h3 rfl)) (PW.pd (join_row rfl rfl h)) c_neS)) fun _ => w_not (p := true) (PW.pd (w_isi (PW.pd (w_meth (f := fl) (pa_var rfl (by decide) pa_nil) g4 h4 (fun _ => rfl) h5 rfl)) rfl)) rfl)) rfl ?_
  simp only [decide_true, Bool.not_true, Bool.or_self, Bool.false_eq_true, if_false, List.nil_append]
  refine x_if (p := !decide (ld = decide (w ∈ (["least", "lightest"] : List Str)))) (PW.pd (w_cmp (PW.pd (w_meth (f := fl) (pa_var rfl (by decide) pa_nil) g4 h4 (fun _ => rfl) h5 rfl)) (PW.pd (w_cmp (d_var rfl rfl) (PW.pd (w_tup (pwl_cons w_str (pwl_cons w_str pwl_nil)) (by decide))) (inD_strsT w ["least", "lightest"]))) c_neB)) rfl ?_
  simp only [hl, decide_true, Bool.not_true, Bool.false_eq_true, if_false, List.nil_append]
  refine x_for (s_range w_int.pd rfl) ?_ (x_ret w_bl)
  exact fl_cons (d := .int 0) rfl (step _ rfl rfl rfl (Nat.le_of_ble_eq_true rfl)) (fl_cons (d := .int 1) rfl (step _ rfl rfl rfl (Nat.le_of_ble_eq_true rfl)) fl_nil)
end K25
end

section
set_option Elab.async false
set_option linter.all false
set_option maxRecDepth 100000
set_option maxHeartbeats 2000000
namespace K25
open PySem L2 RB
theorem by_HangsTogether (k : Nat) (a b : Str) (rg : List D) : (T (k+3)).call F_question_by [.str "together", .lst true [.str a, .str b]] rg = .ret (.ins true C_HangsTogether [("names", .lst true [.str a, .str b])]) [some (.str "together"), some (.lst true [.str a, .str b])] rg := by kernel_rfl
theorem made_HangsTogether (k : Nat) (a b : Str) (rg : List D) : (T (k+3)).call F_made [.str "together", .lst true [.str a, .str b]] rg = .ret (.ins true C_HangsTogether [("names", .lst true [.str a, .str b])]) [some (.str "together"), some (.lst true [.str a, .str b])] rg := by kernel_rfl
theorem kinds_HangsTogether (k : Nat) (a b : Str) (rg : List D) : (T (k+1)).call F_kinds [(qD C_HangsTogether [a, b])] rg = .ret (.lst true ([("together" : Str)].map .str)) [some (qD C_HangsTogether [a, b])] rg := by kernel_rfl
theorem loads_HangsTogether (k : Nat) (a b : Str) (rg : List D) : (T (k+1)).call F_HangsTogether_has_loads [(qD C_HangsTogether [a, b])] rg = .ret (.bl false) [some (qD C_HangsTogether [a, b])] rg := by kernel_rfl
theorem matter_HangsTogether (k : Nat) (a b : Str) (rg : List D) : (T (k+1)).call F_HangsTogether_matter [(qD C_HangsTogether [a, b])] rg = .ret (.lst true (([a, b] : List Str).map .str)) [some (qD C_HangsTogether [a, b])] rg := by kernel_rfl
theorem called_HangsTogether (k : Nat) (a b : Str) (rg : List D) : (T (k+1)).call F_HangsTogether_called [(qD C_HangsTogether [a, b])] rg = .ret (.str "together") [some (qD C_HangsTogether [a, b])] rg := by kernel_rfl
theorem many_HangsTogether (k : Nat) (rg : List D) : (T (k+1)).call F_many_names [.str "together"] rg = .ret (.int 2) [some (.str "together")] rg := by kernel_rfl
theorem text_HangsTogether (k : Nat) (a b : Str) (rg : List D) (h : (("together" :: [a, b] : List Str).map (·.length)).sum + (([a, b] : List Str).length + 10) ≤ 1000) : (T (k+2)).call F_HangsTogether_text [(qD C_HangsTogether [a, b])] rg = .ret (.str (Txt.join " " ("together" :: [a, b]))) [some (qD C_HangsTogether [a, b])] rg := by
  rw [T_HangsTogether_text]
  exact run_pure rfl (x_ret (w_call (pa_own (w_keep (d := .str "together") (w_meth (f := F_HangsTogether_called) (pa_var rfl (by decide) pa_nil) (by kernel_rfl) (by kernel_rfl) (fun _ => rfl) (called_HangsTogether k a b rg) rfl) rfl) (pa_own (w_attr (d := .lst false (([a, b] : List Str).map .str)) (d_var rfl rfl) (by kernel_rfl) (by kernel_rfl) rfl rfl) pa_nil)) (fun _ => rfl) (name_row_c k _ _ _ _ h) rfl)) rfl rfl
theorem right_HangsTogether (k : Nat) (a b : Str) (o : Bool) (rg : List D) (h : (("together" :: [a, b] : List Str).map (·.length)).sum + (([a, b] : List Str).length + 10) ≤ 1000) : (T (k+4)).call F_right [(qD C_HangsTogether [a, b]), .str "together", .lst o (([a, b] : List Str).map .str)] rg = .ret (.bl true) [some (qD C_HangsTogether [a, b]), some (.str "together"), some (.lst o (([a, b] : List Str).map .str))] rg :=
  right_c k C_HangsTogether "together" [a, b] false F_HangsTogether_text F_HangsTogether_has_loads F_HangsTogether_matter o rg (by kernel_rfl) (by kernel_rfl) (by kernel_rfl) (by kernel_rfl) (by kernel_rfl) (by kernel_rfl) (by kernel_rfl) (kinds_HangsTogether _ a b _) (text_HangsTogether _ a b _ h) (loads_HangsTogether _ a b _) (matter_HangsTogether _ a b _) (by decide +kernel) h
theorem by_ComesThere (k : Nat) (a b : Str) (rg : List D) : (T (k+3)).call F_question_by [.str "comes", .lst true [.str a, .str b]] rg = .ret (.ins true C_ComesThere [("names", .lst true [.str a, .str b])]) [some (.str "comes"), some (.lst true [.str a, .str b])] rg := by kernel_rfl
theorem made_ComesThere (k : Nat) (a b : Str) (rg : List D) : (T (k+3)).call F_made [.str "comes", .lst true [.str a, .str b]] rg = .ret (.ins true C_ComesThere [("names", .lst true [.str a, .str b])]) [some (.str "comes"), some (.lst true [.str a, .str b])] rg := by kernel_rfl
theorem kinds_ComesThere (k : Nat) (a b : Str) (rg : List D) : (T (k+1)).call F_kinds [(qD C_ComesThere [a, b])] rg = .ret (.lst true ([("comes" : Str)].map .str)) [some (qD C_ComesThere [a, b])] rg := by kernel_rfl
theorem loads_ComesThere (k : Nat) (a b : Str) (rg : List D) : (T (k+1)).call F_ComesThere_has_loads [(qD C_ComesThere [a, b])] rg = .ret (.bl false) [some (qD C_ComesThere [a, b])] rg := by kernel_rfl
theorem matter_ComesThere (k : Nat) (a b : Str) (rg : List D) : (T (k+1)).call F_ComesThere_matter [(qD C_ComesThere [a, b])] rg = .ret (.lst true (([a, b] : List Str).map .str)) [some (qD C_ComesThere [a, b])] rg := by kernel_rfl
theorem called_ComesThere (k : Nat) (a b : Str) (rg : List D) : (T (k+1)).call F_ComesThere_called [(qD C_ComesThere [a, b])] rg = .ret (.str "comes") [some (qD C_ComesThere [a, b])] rg := by kernel_rfl
theorem many_ComesThere (k : Nat) (rg : List D) : (T (k+1)).call F_many_names [.str "comes"] rg = .ret (.int 2) [some (.str "comes")] rg := by kernel_rfl
theorem text_ComesThere (k : Nat) (a b : Str) (rg : List D) (h : (("comes" :: [a, b] : List Str).map (·.length)).sum + (([a, b] : List Str).length + 10) ≤ 1000) : (T (k+2)).call F_ComesThere_text [(qD C_ComesThere [a, b])] rg = .ret (.str (Txt.join " " ("comes" :: [a, b]))) [some (qD C_ComesThere [a, b])] rg := by
  rw [T_ComesThere_text]
  exact run_pure rfl (x_ret (w_call (pa_own (w_keep (d := .str "comes") (w_meth (f := F_ComesThere_called) (pa_var rfl (by decide) pa_nil) (by kernel_rfl) (by kernel_rfl) (fun _ => rfl) (called_ComesThere k a b rg) rfl) rfl) (pa_own (w_attr (d := .lst false (([a, b] : List Str).map .str)) (d_var rfl rfl) (by kernel_rfl) (by kernel_rfl) rfl rfl) pa_nil)) (fun _ => rfl) (name_row_c k _ _ _ _ h) rfl)) rfl rfl
theorem right_ComesThere (k : Nat) (a b : Str) (o : Bool) (rg : List D) (h : (("comes" :: [a, b] : List Str).map (·.length)).sum + (([a, b] : List Str).length + 10) ≤ 1000) : (T (k+4)).call F_right [(qD C_ComesThere [a, b]), .str "comes", .lst o (([a, b] : List Str).map .str)] rg = .ret (.bl true) [some (qD C_ComesThere [a, b]), some (.str "comes"), some (.lst o (([a, b] : List Str).map .str))] rg :=
  right_c k C_ComesThere "comes" [a, b] false F_ComesThere_text F_ComesThere_has_loads F_ComesThere_matter o rg (by kernel_rfl) (by kernel_rfl) (by kernel_rfl) (by kernel_rfl) (by kernel_rfl) (by kernel_rfl) (by kernel_rfl) (kinds_ComesThere _ a b _) (text_ComesThere _ a b _ h) (loads_ComesThere _ a b _) (matter_ComesThere _ a b _) (by decide +kernel) h
theorem by_MustTies (k : Nat) (a b : Str) (rg : List D) : (T (k+3)).call F_question_by [.str "must", .lst true [.str a, .str b]] rg = .ret (.ins true C_MustTies [("names", .lst true [.str a, .str b])]) [some (.str "must"), some (.lst true [.str a, .str b])] rg := by kernel_rfl
theorem made_MustTies (k : Nat) (a b : Str) (rg : List D) : (T (k+3)).call F_made [.str "must", .lst true [.str a, .str b]] rg = .ret (.ins true C_MustTies [("names", .lst true [.str a, .str b])]) [some (.str "must"), some (.lst true [.str a, .str b])] rg := by kernel_rfl
theorem kinds_MustTies (k : Nat) (a b : Str) (rg : List D) : (T (k+1)).call F_kinds [(qD C_MustTies [a, b])] rg = .ret (.lst true ([("must" : Str)].map .str)) [some (qD C_MustTies [a, b])] rg := by kernel_rfl
theorem loads_MustTies (k : Nat) (a b : Str) (rg : List D) : (T (k+1)).call F_MustTies_has_loads [(qD C_MustTies [a, b])] rg = .ret (.bl false) [some (qD C_MustTies [a, b])] rg := by kernel_rfl
theorem matter_MustTies (k : Nat) (a b : Str) (rg : List D) : (T (k+1)).call F_MustTies_matter [(qD C_MustTies [a, b])] rg = .ret (.lst true (([a, b] : List Str).map .str)) [some (qD C_MustTies [a, b])] rg := by kernel_rfl
theorem called_MustTies (k : Nat) (a b : Str) (rg : List D) : (T (k+1)).call F_MustTies_called [(qD C_MustTies [a, b])] rg = .ret (.str "must") [some (qD C_MustTies [a, b])] rg := by kernel_rfl
theorem many_MustTies (k : Nat) (rg : List D) : (T (k+1)).call F_many_names [.str "must"] rg = .ret (.int 2) [some (.str "must")] rg := by kernel_rfl
theorem text_MustTies (k : Nat) (a b : Str) (rg : List D) (h : (("must" :: [a, b] : List Str).map (·.length)).sum + (([a, b] : List Str).length + 10) ≤ 1000) : (T (k+2)).call F_MustTies_text [(qD C_MustTies [a, b])] rg = .ret (.str (Txt.join " " ("must" :: [a, b]))) [some (qD C_MustTies [a, b])] rg := by
  rw [T_MustTies_text]
  exact run_pure rfl (x_ret (w_call (pa_own (w_keep (d := .str "must") (w_meth (f := F_MustTies_called) (pa_var rfl (by decide) pa_nil) (by kernel_rfl) (by kernel_rfl) (fun _ => rfl) (called_MustTies k a b rg) rfl) rfl) (pa_own (w_attr (d := .lst false (([a, b] : List Str).map .str)) (d_var rfl rfl) (by kernel_rfl) (by kernel_rfl) rfl rfl) pa_nil)) (fun _ => rfl) (name_row_c k _ _ _ _ h) rfl)) rfl rfl
theorem right_MustTies (k : Nat) (a b : Str) (o : Bool) (rg : List D) (h : (("must" :: [a, b] : List Str).map (·.length)).sum + (([a, b] : List Str).length + 10) ≤ 1000) : (T (k+4)).call F_right [(qD C_MustTies [a, b]), .str "must", .lst o (([a, b] : List Str).map .str)] rg = .ret (.bl true) [some (qD C_MustTies [a, b]), some (.str "must"), some (.lst o (([a, b] : List Str).map .str))] rg :=
  right_c k C_MustTies "must" [a, b] false F_MustTies_text F_MustTies_has_loads F_MustTies_matter o rg (by kernel_rfl) (by kernel_rfl) (by kernel_rfl) (by kernel_rfl) (by kernel_rfl) (by kernel_rfl) (by kernel_rfl) (kinds_MustTies _ a b _) (text_MustTies _ a b _ h) (loads_MustTies _ a b _) (matter_MustTies _ a b _) (by decide +kernel) h
theorem by_MustPoints (k : Nat) (a b : Str) (rg : List D) : (T (k+3)).call F_question_by [.str "points", .lst true [.str a, .str b]] rg = .ret (.ins true C_MustPoints [("names", .lst true [.str a, .str b])]) [some (.str "points"), some (.lst true [.str a, .str b])] rg := by kernel_rfl
theorem made_MustPoints (k : Nat) (a b : Str) (rg : List D) : (T (k+3)).call F_made [.str "points", .lst true [.str a, .str b]] rg = .ret (.ins true C_MustPoints [("names", .lst true [.str a, .str b])]) [some (.str "points"), some (.lst true [.str a, .str b])] rg := by kernel_rfl
theorem kinds_MustPoints (k : Nat) (a b : Str) (rg : List D) : (T (k+1)).call F_kinds [(qD C_MustPoints [a, b])] rg = .ret (.lst true ([("points" : Str)].map .str)) [some (qD C_MustPoints [a, b])] rg := by kernel_rfl
theorem loads_MustPoints (k : Nat) (a b : Str) (rg : List D) : (T (k+1)).call F_MustPoints_has_loads [(qD C_MustPoints [a, b])] rg = .ret (.bl false) [some (qD C_MustPoints [a, b])] rg := by kernel_rfl
theorem matter_MustPoints (k : Nat) (a b : Str) (rg : List D) : (T (k+1)).call F_MustPoints_matter [(qD C_MustPoints [a, b])] rg = .ret (.lst true (([a, b] : List Str).map .str)) [some (qD C_MustPoints [a, b])] rg := by kernel_rfl
theorem called_MustPoints (k : Nat) (a b : Str) (rg : List D) : (T (k+1)).call F_MustPoints_called [(qD C_MustPoints [a, b])] rg = .ret (.str "points") [some (qD C_MustPoints [a, b])] rg := by kernel_rfl
theorem many_MustPoints (k : Nat) (rg : List D) : (T (k+1)).call F_many_names [.str "points"] rg = .ret (.int 2) [some (.str "points")] rg := by kernel_rfl
theorem text_MustPoints (k : Nat) (a b : Str) (rg : List D) (h : (("points" :: [a, b] : List Str).map (·.length)).sum + (([a, b] : List Str).length + 10) ≤ 1000) : (T (k+2)).call F_MustPoints_text [(qD C_MustPoints [a, b])] rg = .ret (.str (Txt.join " " ("points" :: [a, b]))) [some (qD C_MustPoints [a, b])] rg := by
  rw [T_MustPoints_text]
  exact run_pure rfl (x_ret (w_call (pa_own (w_keep (d := .str "points") (w_meth (f := F_MustPoints_called) (pa_var rfl (by decide) pa_nil) (by kernel_rfl) (by kernel_rfl) (fun _ => rfl) (called_MustPoints k a b rg) rfl) rfl) (pa_own (w_attr (d := .lst false (([a, b] : List Str).map .str)) (d_var rfl rfl) (by kernel_rfl) (by kernel_rfl) rfl rfl) pa_nil)) (fun _ => rfl) (name_row_c k _ _ _ _ h) rfl)) rfl rfl
theorem right_MustPoints (k : Nat) (a b : Str) (o : Bool) (rg : List D) (h : (("points" :: [a, b] : List Str).map (·.length)).sum + (([a, b] : List Str).length + 10) ≤ 1000) : (T (k+4)).call F_right [(qD C_MustPoints [a, b]), .str "points", .lst o (([a, b] : List Str).map .str)] rg = .ret (.bl true) [some (qD C_MustPoints [a, b]), some (.str "points"), some (.lst o (([a, b] : List Str).map .str))] rg :=
  right_c k C_MustPoints "points" [a, b] false F_MustPoints_text F_MustPoints_has_loads F_MustPoints_matter o rg (by kernel_rfl) (by kernel_rfl) (by kernel_rfl) (by kernel_rfl) (by kernel_rfl) (by kernel_rfl) (by kernel_rfl) (kinds_MustPoints _ a b _) (text_MustPoints _ a b _ h) (loads_MustPoints _ a b _) (matter_MustPoints _ a b _) (by decide +kernel) h
theorem by_RingThrough (k : Nat) (a b : Str) (rg : List D) : (T (k+3)).call F_question_by [.str "ring", .lst true [.str a, .str b]] rg = .ret (.ins true C_RingThrough [("names", .lst true [.str a, .str b])]) [some (.str "ring"), some (.lst true [.str a, .str b])] rg := by kernel_rfl
theorem made_RingThrough (k : Nat) (a b : Str) (rg : List D) : (T (k+3)).call F_made [.str "ring", .lst true [.str a, .str b]] rg = .ret (.ins true C_RingThrough [("names", .lst true [.str a, .str b])]) [some (.str "ring"), some (.lst true [.str a, .str b])] rg := by kernel_rfl
theorem kinds_RingThrough (k : Nat) (a b : Str) (rg : List D) : (T (k+1)).call F_kinds [(qD C_RingThrough [a, b])] rg = .ret (.lst true ([("ring" : Str)].map .str)) [some (qD C_RingThrough [a, b])] rg := by kernel_rfl
theorem loads_RingThrough (k : Nat) (a b : Str) (rg : List D) : (T (k+1)).call F_RingThrough_has_loads [(qD C_RingThrough [a, b])] rg = .ret (.bl false) [some (qD C_RingThrough [a, b])] rg := by kernel_rfl
theorem matter_RingThrough (k : Nat) (a b : Str) (rg : List D) : (T (k+1)).call F_RingThrough_matter [(qD C_RingThrough [a, b])] rg = .ret (.lst true (([a, b] : List Str).map .str)) [some (qD C_RingThrough [a, b])] rg := by kernel_rfl
theorem called_RingThrough (k : Nat) (a b : Str) (rg : List D) : (T (k+1)).call F_RingThrough_called [(qD C_RingThrough [a, b])] rg = .ret (.str "ring") [some (qD C_RingThrough [a, b])] rg := by kernel_rfl
theorem many_RingThrough (k : Nat) (rg : List D) : (T (k+1)).call F_many_names [.str "ring"] rg = .ret (.int 2) [some (.str "ring")] rg := by kernel_rfl
theorem text_RingThrough (k : Nat) (a b : Str) (rg : List D) (h : (("ring" :: [a, b] : List Str).map (·.length)).sum + (([a, b] : List Str).length + 10) ≤ 1000) : (T (k+2)).call F_RingThrough_text [(qD C_RingThrough [a, b])] rg = .ret (.str (Txt.join " " ("ring" :: [a, b]))) [some (qD C_RingThrough [a, b])] rg := by
  rw [T_RingThrough_text]
  exact run_pure rfl (x_ret (w_call (pa_own (w_keep (d := .str "ring") (w_meth (f := F_RingThrough_called) (pa_var rfl (by decide) pa_nil) (by kernel_rfl) (by kernel_rfl) (fun _ => rfl) (called_RingThrough k a b rg) rfl) rfl) (pa_own (w_attr (d := .lst false (([a, b] : List Str).map .str)) (d_var rfl rfl) (by kernel_rfl) (by kernel_rfl) rfl rfl) pa_nil)) (fun _ => rfl) (name_row_c k _ _ _ _ h) rfl)) rfl rfl
theorem right_RingThrough (k : Nat) (a b : Str) (o : Bool) (rg : List D) (h : (("ring" :: [a, b] : List Str).map (·.length)).sum + (([a, b] : List Str).length + 10) ≤ 1000) : (T (k+4)).call F_right [(qD C_RingThrough [a, b]), .str "ring", .lst o (([a, b] : List Str).map .str)] rg = .ret (.bl true) [some (qD C_RingThrough [a, b]), some (.str "ring"), some (.lst o (([a, b] : List Str).map .str))] rg :=
  right_c k C_RingThrough "ring" [a, b] false F_RingThrough_text F_RingThrough_has_loads F_RingThrough_matter o rg (by kernel_rfl) (by kernel_rfl) (by kernel_rfl) (by kernel_rfl) (by kernel_rfl) (by kernel_rfl) (by kernel_rfl) (kinds_RingThrough _ a b _) (text_RingThrough _ a b _ h) (loads_RingThrough _ a b _) (matter_RingThrough _ a b _) (by decide +kernel) h
theorem by_LeastWay (k : Nat) (a b : Str) (rg : List D) : (T (k+3)).call F_question_by [.str "least", .lst true [.str a, .str b]] rg = .ret (.ins true C_LeastWay [("names", .lst true [.str a, .str b])]) [some (.str "least"), some (.lst true [.str a, .str b])] rg := by kernel_rfl
theorem made_LeastWay (k : Nat) (a b : Str) (rg : List D) : (T (k+3)).call F_made [.str "least", .lst true [.str a, .str b]] rg = .ret (.ins true C_LeastWay [("names", .lst true [.str a, .str b])]) [some (.str "least"), some (.lst true [.str a, .str b])] rg := by kernel_rfl
theorem kinds_LeastWay (k : Nat) (a b : Str) (rg : List D) : (T (k+1)).call F_kinds [(qD C_LeastWay [a, b])] rg = .ret (.lst true ([("least" : Str)].map .str)) [some (qD C_LeastWay [a, b])] rg := by kernel_rfl
theorem loads_LeastWay (k : Nat) (a b : Str) (rg : List D) : (T (k+1)).call F_LeastWay_has_loads [(qD C_LeastWay [a, b])] rg = .ret (.bl true) [some (qD C_LeastWay [a, b])] rg := by kernel_rfl
theorem matter_LeastWay (k : Nat) (a b : Str) (rg : List D) : (T (k+1)).call F_LeastWay_matter [(qD C_LeastWay [a, b])] rg = .ret (.lst true (([a, b] : List Str).map .str)) [some (qD C_LeastWay [a, b])] rg := by kernel_rfl
theorem called_LeastWay (k : Nat) (a b : Str) (rg : List D) : (T (k+1)).call F_LeastWay_called [(qD C_LeastWay [a, b])] rg = .ret (.str "least") [some (qD C_LeastWay [a, b])] rg := by kernel_rfl
theorem many_LeastWay (k : Nat) (rg : List D) : (T (k+1)).call F_many_names [.str "least"] rg = .ret (.int 2) [some (.str "least")] rg := by kernel_rfl
theorem text_LeastWay (k : Nat) (a b : Str) (rg : List D) (h : (("least" :: [a, b] : List Str).map (·.length)).sum + (([a, b] : List Str).length + 10) ≤ 1000) : (T (k+2)).call F_LeastWay_text [(qD C_LeastWay [a, b])] rg = .ret (.str (Txt.join " " ("least" :: [a, b]))) [some (qD C_LeastWay [a, b])] rg := by
  rw [T_LeastWay_text]
  exact run_pure rfl (x_ret (w_call (pa_own (w_keep (d := .str "least") (w_meth (f := F_LeastWay_called) (pa_var rfl (by decide) pa_nil) (by kernel_rfl) (by kernel_rfl) (fun _ => rfl) (called_LeastWay k a b rg) rfl) rfl) (pa_own (w_attr (d := .lst false (([a, b] : List Str).map .str)) (d_var rfl rfl) (by kernel_rfl) (by kernel_rfl) rfl rfl) pa_nil)) (fun _ => rfl) (name_row_c k _ _ _ _ h) rfl)) rfl rfl
theorem right_LeastWay (k : Nat) (a b : Str) (o : Bool) (rg : List D) (h : (("least" :: [a, b] : List Str).map (·.length)).sum + (([a, b] : List Str).length + 10) ≤ 1000) : (T (k+4)).call F_right [(qD C_LeastWay [a, b]), .str "least", .lst o (([a, b] : List Str).map .str)] rg = .ret (.bl true) [some (qD C_LeastWay [a, b]), some (.str "least"), some (.lst o (([a, b] : List Str).map .str))] rg :=
  right_c k C_LeastWay "least" [a, b] true F_LeastWay_text F_LeastWay_has_loads F_LeastWay_matter o rg (by kernel_rfl) (by kernel_rfl) (by kernel_rfl) (by kernel_rfl) (by kernel_rfl) (by kernel_rfl) (by kernel_rfl) (kinds_LeastWay _ a b _) (text_LeastWay _ a b _ h) (loads_LeastWay _ a b _) (matter_LeastWay _ a b _) (by decide +kernel) h
theorem by_FewestTies (k : Nat) (a b : Str) (rg : List D) : (T (k+3)).call F_question_by [.str "fewest", .lst true [.str a, .str b]] rg = .ret (.ins true C_FewestTies [("names", .lst true [.str a, .str b])]) [some (.str "fewest"), some (.lst true [.str a, .str b])] rg := by kernel_rfl
theorem made_FewestTies (k : Nat) (a b : Str) (rg : List D) : (T (k+3)).call F_made [.str "fewest", .lst true [.str a, .str b]] rg = .ret (.ins true C_FewestTies [("names", .lst true [.str a, .str b])]) [some (.str "fewest"), some (.lst true [.str a, .str b])] rg := by kernel_rfl
theorem kinds_FewestTies (k : Nat) (a b : Str) (rg : List D) : (T (k+1)).call F_kinds [(qD C_FewestTies [a, b])] rg = .ret (.lst true ([("fewest" : Str)].map .str)) [some (qD C_FewestTies [a, b])] rg := by kernel_rfl
theorem loads_FewestTies (k : Nat) (a b : Str) (rg : List D) : (T (k+1)).call F_FewestTies_has_loads [(qD C_FewestTies [a, b])] rg = .ret (.bl false) [some (qD C_FewestTies [a, b])] rg := by kernel_rfl
theorem matter_FewestTies (k : Nat) (a b : Str) (rg : List D) : (T (k+1)).call F_FewestTies_matter [(qD C_FewestTies [a, b])] rg = .ret (.lst true (([a, b] : List Str).map .str)) [some (qD C_FewestTies [a, b])] rg := by kernel_rfl
theorem called_FewestTies (k : Nat) (a b : Str) (rg : List D) : (T (k+1)).call F_FewestTies_called [(qD C_FewestTies [a, b])] rg = .ret (.str "fewest") [some (qD C_FewestTies [a, b])] rg := by kernel_rfl
theorem many_FewestTies (k : Nat) (rg : List D) : (T (k+1)).call F_many_names [.str "fewest"] rg = .ret (.int 2) [some (.str "fewest")] rg := by kernel_rfl
theorem text_FewestTies (k : Nat) (a b : Str) (rg : List D) (h : (("fewest" :: [a, b] : List Str).map (·.length)).sum + (([a, b] : List Str).length + 10) ≤ 1000) : (T (k+2)).call F_FewestTies_text [(qD C_FewestTies [a, b])] rg = .ret (.str (Txt.join " " ("fewest" :: [a, b]))) [some (qD C_FewestTies [a, b])] rg := by
  rw [T_FewestTies_text]
  exact run_pure rfl (x_ret (w_call (pa_own (w_keep (d := .str "fewest") (w_meth (f := F_FewestTies_called) (pa_var rfl (by decide) pa_nil) (by kernel_rfl) (by kernel_rfl) (fun _ => rfl) (called_FewestTies k a b rg) rfl) rfl) (pa_own (w_attr (d := .lst false (([a, b] : List Str).map .str)) (d_var rfl rfl) (by kernel_rfl) (by kernel_rfl) rfl rfl) pa_nil)) (fun _ => rfl) (name_row_c k _ _ _ _ h) rfl)) rfl rfl
theorem right_FewestTies (k : Nat) (a b : Str) (o : Bool) (rg : List D) (h : (("fewest" :: [a, b] : List Str).map (·.length)).sum + (([a, b] : List Str).length + 10) ≤ 1000) : (T (k+4)).call F_right [(qD C_FewestTies [a, b]), .str "fewest", .lst o (([a, b] : List Str).map .str)] rg = .ret (.bl true) [some (qD C_FewestTies [a, b]), some (.str "fewest"), some (.lst o (([a, b] : List Str).map .str))] rg :=
  right_c k C_FewestTies "fewest" [a, b] false F_FewestTies_text F_FewestTies_has_loads F_FewestTies_matter o rg (by kernel_rfl) (by kernel_rfl) (by kernel_rfl) (by kernel_rfl) (by kernel_rfl) (by kernel_rfl) (by kernel_rfl) (kinds_FewestTies _ a b _) (text_FewestTies _ a b _ h) (loads_FewestTies _ a b _) (matter_FewestTies _ a b _) (by decide +kernel) h
theorem by_WaysApart (k : Nat) (a b : Str) (rg : List D) : (T (k+3)).call F_question_by [.str "apart", .lst true [.str a, .str b]] rg = .ret (.ins true C_WaysApart [("names", .lst true [.str a, .str b])]) [some (.str "apart"), some (.lst true [.str a, .str b])] rg := by kernel_rfl
theorem made_WaysApart (k : Nat) (a b : Str) (rg : List D) : (T (k+3)).call F_made [.str "apart", .lst true [.str a, .str b]] rg = .ret (.ins true C_WaysApart [("names", .lst true [.str a, .str b])]) [some (.str "apart"), some (.lst true [.str a, .str b])] rg := by kernel_rfl
theorem kinds_WaysApart (k : Nat) (a b : Str) (rg : List D) : (T (k+1)).call F_kinds [(qD C_WaysApart [a, b])] rg = .ret (.lst true ([("apart" : Str)].map .str)) [some (qD C_WaysApart [a, b])] rg := by kernel_rfl
theorem loads_WaysApart (k : Nat) (a b : Str) (rg : List D) : (T (k+1)).call F_WaysApart_has_loads [(qD C_WaysApart [a, b])] rg = .ret (.bl false) [some (qD C_WaysApart [a, b])] rg := by kernel_rfl
theorem matter_WaysApart (k : Nat) (a b : Str) (rg : List D) : (T (k+1)).call F_WaysApart_matter [(qD C_WaysApart [a, b])] rg = .ret (.lst true (([a, b] : List Str).map .str)) [some (qD C_WaysApart [a, b])] rg := by kernel_rfl
theorem called_WaysApart (k : Nat) (a b : Str) (rg : List D) : (T (k+1)).call F_WaysApart_called [(qD C_WaysApart [a, b])] rg = .ret (.str "apart") [some (qD C_WaysApart [a, b])] rg := by kernel_rfl
theorem many_WaysApart (k : Nat) (rg : List D) : (T (k+1)).call F_many_names [.str "apart"] rg = .ret (.int 2) [some (.str "apart")] rg := by kernel_rfl
theorem text_WaysApart (k : Nat) (a b : Str) (rg : List D) (h : (("apart" :: [a, b] : List Str).map (·.length)).sum + (([a, b] : List Str).length + 10) ≤ 1000) : (T (k+2)).call F_WaysApart_text [(qD C_WaysApart [a, b])] rg = .ret (.str (Txt.join " " ("apart" :: [a, b]))) [some (qD C_WaysApart [a, b])] rg := by
  rw [T_WaysApart_text]
  exact run_pure rfl (x_ret (w_call (pa_own (w_keep (d := .str "apart") (w_meth (f := F_WaysApart_called) (pa_var rfl (by decide) pa_nil) (by kernel_rfl) (by kernel_rfl) (fun _ => rfl) (called_WaysApart k a b rg) rfl) rfl) (pa_own (w_attr (d := .lst false (([a, b] : List Str).map .str)) (d_var rfl rfl) (by kernel_rfl) (by kernel_rfl) rfl rfl) pa_nil)) (fun _ => rfl) (name_row_c k _ _ _ _ h) rfl)) rfl rfl
theorem right_WaysApart (k : Nat) (a b : Str) (o : Bool) (rg : List D) (h : (("apart" :: [a, b] : List Str).map (·.length)).sum + (([a, b] : List Str).length + 10) ≤ 1000) : (T (k+4)).call F_right [(qD C_WaysApart [a, b]), .str "apart", .lst o (([a, b] : List Str).map .str)] rg = .ret (.bl true) [some (qD C_WaysApart [a, b]), some (.str "apart"), some (.lst o (([a, b] : List Str).map .str))] rg :=
  right_c k C_WaysApart "apart" [a, b] false F_WaysApart_text F_WaysApart_has_loads F_WaysApart_matter o rg (by kernel_rfl) (by kernel_rfl) (by kernel_rfl) (by kernel_rfl) (by kernel_rfl) (by kernel_rfl) (by kernel_rfl) (kinds_WaysApart _ a b _) (text_WaysApart _ a b _ h) (loads_WaysApart _ a b _) (matter_WaysApart _ a b _) (by decide +kernel) h
theorem by_PastPoint (k : Nat) (a b c : Str) (rg : List D) : (T (k+3)).call F_question_by [.str "past", .lst true [.str a, .str b, .str c]] rg = .ret (.ins true C_PastPoint [("names", .lst true [.str a, .str b, .str c])]) [some (.str "past"), some (.lst true [.str a, .str b, .str c])] rg := by kernel_rfl
theorem made_PastPoint (k : Nat) (a b c : Str) (rg : List D) : (T (k+3)).call F_made [.str "past", .lst true [.str a, .str b, .str c]] rg = .ret (.ins true C_PastPoint [("names", .lst true [.str a, .str b, .str c])]) [some (.str "past"), some (.lst true [.str a, .str b, .str c])] rg := by kernel_rfl
theorem kinds_PastPoint (k : Nat) (a b c : Str) (rg : List D) : (T (k+1)).call F_kinds [(qD C_PastPoint [a, b, c])] rg = .ret (.lst true ([("past" : Str)].map .str)) [some (qD C_PastPoint [a, b, c])] rg := by kernel_rfl
theorem loads_PastPoint (k : Nat) (a b c : Str) (rg : List D) : (T (k+1)).call F_PastPoint_has_loads [(qD C_PastPoint [a, b, c])] rg = .ret (.bl false) [some (qD C_PastPoint [a, b, c])] rg := by kernel_rfl
theorem matter_PastPoint (k : Nat) (a b c : Str) (rg : List D) : (T (k+1)).call F_PastPoint_matter [(qD C_PastPoint [a, b, c])] rg = .ret (.lst true (([a, b, c] : List Str).map .str)) [some (qD C_PastPoint [a, b, c])] rg := by kernel_rfl
theorem called_PastPoint (k : Nat) (a b c : Str) (rg : List D) : (T (k+1)).call F_PastPoint_called [(qD C_PastPoint [a, b, c])] rg = .ret (.str "past") [some (qD C_PastPoint [a, b, c])] rg := by kernel_rfl
theorem many_PastPoint (k : Nat) (rg : List D) : (T (k+1)).call F_many_names [.str "past"] rg = .ret (.int 3) [some (.str "past")] rg := by kernel_rfl
theorem text_PastPoint (k : Nat) (a b c : Str) (rg : List D) (h : (("past" :: [a, b, c] : List Str).map (·.length)).sum + (([a, b, c] : List Str).length + 10) ≤ 1000) : (T (k+2)).call F_PastPoint_text [(qD C_PastPoint [a, b, c])] rg = .ret (.str (Txt.join " " ("past" :: [a, b, c]))) [some (qD C_PastPoint [a, b, c])] rg := by
  rw [T_PastPoint_text]
  exact run_pure rfl (x_ret (w_call (pa_own (w_keep (d := .str "past") (w_meth (f := F_PastPoint_called) (pa_var rfl (by decide) pa_nil) (by kernel_rfl) (by kernel_rfl) (fun _ => rfl) (called_PastPoint k a b c rg) rfl) rfl) (pa_own (w_attr (d := .lst false (([a, b, c] : List Str).map .str)) (d_var rfl rfl) (by kernel_rfl) (by kernel_rfl) rfl rfl) pa_nil)) (fun _ => rfl) (name_row_c k _ _ _ _ h) rfl)) rfl rfl
theorem right_PastPoint (k : Nat) (a b c : Str) (o : Bool) (rg : List D) (h : (("past" :: [a, b, c] : List Str).map (·.length)).sum + (([a, b, c] : List Str).length + 10) ≤ 1000) : (T (k+4)).call F_right [(qD C_PastPoint [a, b, c]), .str "past", .lst o (([a, b, c] : List Str).map .str)] rg = .ret (.bl true) [some (qD C_PastPoint [a, b, c]), some (.str "past"), some (.lst o (([a, b, c] : List Str).map .str))] rg :=
  right_c k C_PastPoint "past" [a, b, c] false F_PastPoint_text F_PastPoint_has_loads F_PastPoint_matter o rg (by kernel_rfl) (by kernel_rfl) (by kernel_rfl) (by kernel_rfl) (by kernel_rfl) (by kernel_rfl) (by kernel_rfl) (kinds_PastPoint _ a b c _) (text_PastPoint _ a b c _ h) (loads_PastPoint _ a b c _) (matter_PastPoint _ a b c _) (by decide +kernel) h
theorem by_ThePieces (k : Nat) (rg : List D) : (T (k+3)).call F_question_by [.str "pieces", .lst true []] rg = .ret (.ins true C_ThePieces [("names", .lst true [])]) [some (.str "pieces"), some (.lst true [])] rg := by kernel_rfl
theorem made_ThePieces (k : Nat) (rg : List D) : (T (k+3)).call F_made [.str "pieces", .lst false []] rg = .ret (.ins true C_ThePieces [("names", .lst true [])]) [some (.str "pieces"), some (.lst false [])] rg := by kernel_rfl
theorem kinds_ThePieces (k : Nat) (rg : List D) : (T (k+1)).call F_kinds [(qD C_ThePieces [])] rg = .ret (.lst true ([("pieces" : Str)].map .str)) [some (qD C_ThePieces [])] rg := by kernel_rfl
theorem loads_ThePieces (k : Nat) (rg : List D) : (T (k+1)).call F_ThePieces_has_loads [(qD C_ThePieces [])] rg = .ret (.bl false) [some (qD C_ThePieces [])] rg := by kernel_rfl
theorem matter_ThePieces (k : Nat) (rg : List D) : (T (k+1)).call F_ThePieces_matter [(qD C_ThePieces [])] rg = .ret (.lst true (([] : List Str).map .str)) [some (qD C_ThePieces [])] rg := by kernel_rfl
theorem called_ThePieces (k : Nat) (rg : List D) : (T (k+1)).call F_ThePieces_called [(qD C_ThePieces [])] rg = .ret (.str "pieces") [some (qD C_ThePieces [])] rg := by kernel_rfl
theorem many_ThePieces (k : Nat) (rg : List D) : (T (k+1)).call F_many_names [.str "pieces"] rg = .ret (.int 0) [some (.str "pieces")] rg := by kernel_rfl
theorem text_ThePieces (k : Nat) (rg : List D) (h : (("pieces" :: [] : List Str).map (·.length)).sum + (([] : List Str).length + 10) ≤ 1000) : (T (k+2)).call F_ThePieces_text [(qD C_ThePieces [])] rg = .ret (.str (Txt.join " " ("pieces" :: []))) [some (qD C_ThePieces [])] rg := by
  rw [T_ThePieces_text]
  exact run_pure rfl (x_ret (w_call (pa_own (w_keep (d := .str "pieces") (w_meth (f := F_ThePieces_called) (pa_var rfl (by decide) pa_nil) (by kernel_rfl) (by kernel_rfl) (fun _ => rfl) (called_ThePieces k rg) rfl) rfl) (pa_own (w_attr (d := .lst false (([] : List Str).map .str)) (d_var rfl rfl) (by kernel_rfl) (by kernel_rfl) rfl rfl) pa_nil)) (fun _ => rfl) (name_row_c k _ _ _ _ h) rfl)) rfl rfl
theorem right_ThePieces (k : Nat) (o : Bool) (rg : List D) (h : (("pieces" :: [] : List Str).map (·.length)).sum + (([] : List Str).length + 10) ≤ 1000) : (T (k+4)).call F_right [(qD C_ThePieces []), .str "pieces", .lst o (([] : List Str).map .str)] rg = .ret (.bl true) [some (qD C_ThePieces []), some (.str "pieces"), some (.lst o (([] : List Str).map .str))] rg :=
  right_c k C_ThePieces "pieces" [] false F_ThePieces_text F_ThePieces_has_loads F_ThePieces_matter o rg (by kernel_rfl) (by kernel_rfl) (by kernel_rfl) (by kernel_rfl) (by kernel_rfl) (by kernel_rfl) (by kernel_rfl) (kinds_ThePieces _ _) (text_ThePieces _ _ h) (loads_ThePieces _ _) (matter_ThePieces _ _) (by decide +kernel) h
theorem by_TheKnots (k : Nat) (rg : List D) : (T (k+3)).call F_question_by [.str "knots", .lst true []] rg = .ret (.ins true C_TheKnots [("names", .lst true [])]) [some (.str "knots"), some (.lst true [])] rg := by kernel_rfl
theorem made_TheKnots (k : Nat) (rg : List D) : (T (k+3)).call F_made [.str "knots", .lst false []] rg = .ret (.ins true C_TheKnots [("names", .lst true [])]) [some (.str "knots"), some (.lst false [])] rg := by kernel_rfl
theorem kinds_TheKnots (k : Nat) (rg : List D) : (T (k+1)).call F_kinds [(qD C_TheKnots [])] rg = .ret (.lst true ([("knots" : Str)].map .str)) [some (qD C_TheKnots [])] rg := by kernel_rfl
theorem loads_TheKnots (k : Nat) (rg : List D) : (T (k+1)).call F_TheKnots_has_loads [(qD C_TheKnots [])] rg = .ret (.bl false) [some (qD C_TheKnots [])] rg := by kernel_rfl
theorem matter_TheKnots (k : Nat) (rg : List D) : (T (k+1)).call F_TheKnots_matter [(qD C_TheKnots [])] rg = .ret (.lst true (([] : List Str).map .str)) [some (qD C_TheKnots [])] rg := by kernel_rfl
theorem called_TheKnots (k : Nat) (rg : List D) : (T (k+1)).call F_TheKnots_called [(qD C_TheKnots [])] rg = .ret (.str "knots") [some (qD C_TheKnots [])] rg := by kernel_rfl
theorem many_TheKnots (k : Nat) (rg : List D) : (T (k+1)).call F_many_names [.str "knots"] rg = .ret (.int 0) [some (.str "knots")] rg := by kernel_rfl
theorem text_TheKnots (k : Nat) (rg : List D) (h : (("knots" :: [] : List Str).map (·.length)).sum + (([] : List Str).length + 10) ≤ 1000) : (T (k+2)).call F_TheKnots_text [(qD C_TheKnots [])] rg = .ret (.str (Txt.join " " ("knots" :: []))) [some (qD C_TheKnots [])] rg := by
  rw [T_TheKnots_text]
  exact run_pure rfl (x_ret (w_call (pa_own (w_keep (d := .str "knots") (w_meth (f := F_TheKnots_called) (pa_var rfl (by decide) pa_nil) (by kernel_rfl) (by kernel_rfl) (fun _ => rfl) (called_TheKnots k rg) rfl) rfl) (pa_own (w_attr (d := .lst false (([] : List Str).map .str)) (d_var rfl rfl) (by kernel_rfl) (by kernel_rfl) rfl rfl) pa_nil)) (fun _ => rfl) (name_row_c k _ _ _ _ h) rfl)) rfl rfl
theorem right_TheKnots (k : Nat) (o : Bool) (rg : List D) (h : (("knots" :: [] : List Str).map (·.length)).sum + (([] : List Str).length + 10) ≤ 1000) : (T (k+4)).call F_right [(qD C_TheKnots []), .str "knots", .lst o (([] : List Str).map .str)] rg = .ret (.bl true) [some (qD C_TheKnots []), some (.str "knots"), some (.lst o (([] : List Str).map .str))] rg :=
  right_c k C_TheKnots "knots" [] false F_TheKnots_text F_TheKnots_has_loads F_TheKnots_matter o rg (by kernel_rfl) (by kernel_rfl) (by kernel_rfl) (by kernel_rfl) (by kernel_rfl) (by kernel_rfl) (by kernel_rfl) (kinds_TheKnots _ _) (text_TheKnots _ _ h) (loads_TheKnots _ _) (matter_TheKnots _ _) (by decide +kernel) h
theorem by_TwoSides (k : Nat) (rg : List D) : (T (k+3)).call F_question_by [.str "sides", .lst true []] rg = .ret (.ins true C_TwoSides [("names", .lst true [])]) [some (.str "sides"), some (.lst true [])] rg := by kernel_rfl
theorem made_TwoSides (k : Nat) (rg : List D) : (T (k+3)).call F_made [.str "sides", .lst false []] rg = .ret (.ins true C_TwoSides [("names", .lst true [])]) [some (.str "sides"), some (.lst false [])] rg := by kernel_rfl
theorem kinds_TwoSides (k : Nat) (rg : List D) : (T (k+1)).call F_kinds [(qD C_TwoSides [])] rg = .ret (.lst true ([("sides" : Str)].map .str)) [some (qD C_TwoSides [])] rg := by kernel_rfl
theorem loads_TwoSides (k : Nat) (rg : List D) : (T (k+1)).call F_TwoSides_has_loads [(qD C_TwoSides [])] rg = .ret (.bl false) [some (qD C_TwoSides [])] rg := by kernel_rfl
theorem matter_TwoSides (k : Nat) (rg : List D) : (T (k+1)).call F_TwoSides_matter [(qD C_TwoSides [])] rg = .ret (.lst true (([] : List Str).map .str)) [some (qD C_TwoSides [])] rg := by kernel_rfl
theorem called_TwoSides (k : Nat) (rg : List D) : (T (k+1)).call F_TwoSides_called [(qD C_TwoSides [])] rg = .ret (.str "sides") [some (qD C_TwoSides [])] rg := by kernel_rfl
theorem many_TwoSides (k : Nat) (rg : List D) : (T (k+1)).call F_many_names [.str "sides"] rg = .ret (.int 0) [some (.str "sides")] rg := by kernel_rfl
theorem text_TwoSides (k : Nat) (rg : List D) (h : (("sides" :: [] : List Str).map (·.length)).sum + (([] : List Str).length + 10) ≤ 1000) : (T (k+2)).call F_TwoSides_text [(qD C_TwoSides [])] rg = .ret (.str (Txt.join " " ("sides" :: []))) [some (qD C_TwoSides [])] rg := by
  rw [T_TwoSides_text]
  exact run_pure rfl (x_ret (w_call (pa_own (w_keep (d := .str "sides") (w_meth (f := F_TwoSides_called) (pa_var rfl (by decide) pa_nil) (by kernel_rfl) (by kernel_rfl) (fun _ => rfl) (called_TwoSides k rg) rfl) rfl) (pa_own (w_attr (d := .lst false (([] : List Str).map .str)) (d_var rfl rfl) (by kernel_rfl) (by kernel_rfl) rfl rfl) pa_nil)) (fun _ => rfl) (name_row_c k _ _ _ _ h) rfl)) rfl rfl
theorem right_TwoSides (k : Nat) (o : Bool) (rg : List D) (h : (("sides" :: [] : List Str).map (·.length)).sum + (([] : List Str).length + 10) ≤ 1000) : (T (k+4)).call F_right [(qD C_TwoSides []), .str "sides", .lst o (([] : List Str).map .str)] rg = .ret (.bl true) [some (qD C_TwoSides []), some (.str "sides"), some (.lst o (([] : List Str).map .str))] rg :=
  right_c k C_TwoSides "sides" [] false F_TwoSides_text F_TwoSides_has_loads F_TwoSides_matter o rg (by kernel_rfl) (by kernel_rfl) (by kernel_rfl) (by kernel_rfl) (by kernel_rfl) (by kernel_rfl) (by kernel_rfl) (kinds_TwoSides _ _) (text_TwoSides _ _ h) (loads_TwoSides _ _) (matter_TwoSides _ _) (by decide +kernel) h
theorem by_LightestForest (k : Nat) (rg : List D) : (T (k+3)).call F_question_by [.str "lightest", .lst true []] rg = .ret (.ins true C_LightestForest [("names", .lst true [])]) [some (.str "lightest"), some (.lst true [])] rg := by kernel_rfl
theorem made_LightestForest (k : Nat) (rg : List D) : (T (k+3)).call F_made [.str "lightest", .lst false []] rg = .ret (.ins true C_LightestForest [("names", .lst true [])]) [some (.str "lightest"), some (.lst false [])] rg := by kernel_rfl
theorem kinds_LightestForest (k : Nat) (rg : List D) : (T (k+1)).call F_kinds [(qD C_LightestForest [])] rg = .ret (.lst true ([("lightest" : Str)].map .str)) [some (qD C_LightestForest [])] rg := by kernel_rfl
theorem loads_LightestForest (k : Nat) (rg : List D) : (T (k+1)).call F_LightestForest_has_loads [(qD C_LightestForest [])] rg = .ret (.bl true) [some (qD C_LightestForest [])] rg := by kernel_rfl
theorem matter_LightestForest (k : Nat) (rg : List D) : (T (k+1)).call F_LightestForest_matter [(qD C_LightestForest [])] rg = .ret (.lst true (([] : List Str).map .str)) [some (qD C_LightestForest [])] rg := by kernel_rfl
theorem called_LightestForest (k : Nat) (rg : List D) : (T (k+1)).call F_LightestForest_called [(qD C_LightestForest [])] rg = .ret (.str "lightest") [some (qD C_LightestForest [])] rg := by kernel_rfl
theorem many_LightestForest (k : Nat) (rg : List D) : (T (k+1)).call F_many_names [.str "lightest"] rg = .ret (.int 0) [some (.str "lightest")] rg := by kernel_rfl
theorem text_LightestForest (k : Nat) (rg : List D) (h : (("lightest" :: [] : List Str).map (·.length)).sum + (([] : List Str).length + 10) ≤ 1000) : (T (k+2)).call F_LightestForest_text [(qD C_LightestForest [])] rg = .ret (.str (Txt.join " " ("lightest" :: []))) [some (qD C_LightestForest [])] rg := by
  rw [T_LightestForest_text]
  exact run_pure rfl (x_ret (w_call (pa_own (w_keep (d := .str "lightest") (w_meth (f := F_LightestForest_called) (pa_var rfl (by decide) pa_nil) (by kernel_rfl) (by kernel_rfl) (fun _ => rfl) (called_LightestForest k rg) rfl) rfl) (pa_own (w_attr (d := .lst false (([] : List Str).map .str)) (d_var rfl rfl) (by kernel_rfl) (by kernel_rfl) rfl rfl) pa_nil)) (fun _ => rfl) (name_row_c k _ _ _ _ h) rfl)) rfl rfl
theorem right_LightestForest (k : Nat) (o : Bool) (rg : List D) (h : (("lightest" :: [] : List Str).map (·.length)).sum + (([] : List Str).length + 10) ≤ 1000) : (T (k+4)).call F_right [(qD C_LightestForest []), .str "lightest", .lst o (([] : List Str).map .str)] rg = .ret (.bl true) [some (qD C_LightestForest []), some (.str "lightest"), some (.lst o (([] : List Str).map .str))] rg :=
  right_c k C_LightestForest "lightest" [] true F_LightestForest_text F_LightestForest_has_loads F_LightestForest_matter o rg (by kernel_rfl) (by kernel_rfl) (by kernel_rfl) (by kernel_rfl) (by kernel_rfl) (by kernel_rfl) (by kernel_rfl) (kinds_LightestForest _ _) (text_LightestForest _ _ h) (loads_LightestForest _ _) (matter_LightestForest _ _) (by decide +kernel) h
theorem by_TheStarts (k : Nat) (rg : List D) : (T (k+3)).call F_question_by [.str "starts", .lst true []] rg = .ret (.ins true C_TheStarts [("names", .lst true [])]) [some (.str "starts"), some (.lst true [])] rg := by kernel_rfl
theorem made_TheStarts (k : Nat) (rg : List D) : (T (k+3)).call F_made [.str "starts", .lst false []] rg = .ret (.ins true C_TheStarts [("names", .lst true [])]) [some (.str "starts"), some (.lst false [])] rg := by kernel_rfl
theorem kinds_TheStarts (k : Nat) (rg : List D) : (T (k+1)).call F_kinds [(qD C_TheStarts [])] rg = .ret (.lst true ([("starts" : Str)].map .str)) [some (qD C_TheStarts [])] rg := by kernel_rfl
theorem loads_TheStarts (k : Nat) (rg : List D) : (T (k+1)).call F_TheStarts_has_loads [(qD C_TheStarts [])] rg = .ret (.bl false) [some (qD C_TheStarts [])] rg := by kernel_rfl
theorem matter_TheStarts (k : Nat) (rg : List D) : (T (k+1)).call F_TheStarts_matter [(qD C_TheStarts [])] rg = .ret (.lst true (([] : List Str).map .str)) [some (qD C_TheStarts [])] rg := by kernel_rfl
theorem called_TheStarts (k : Nat) (rg : List D) : (T (k+1)).call F_TheStarts_called [(qD C_TheStarts [])] rg = .ret (.str "starts") [some (qD C_TheStarts [])] rg := by kernel_rfl
theorem many_TheStarts (k : Nat) (rg : List D) : (T (k+1)).call F_many_names [.str "starts"] rg = .ret (.int 0) [some (.str "starts")] rg := by kernel_rfl
theorem text_TheStarts (k : Nat) (rg : List D) (h : (("starts" :: [] : List Str).map (·.length)).sum + (([] : List Str).length + 10) ≤ 1000) : (T (k+2)).call F_TheStarts_text [(qD C_TheStarts [])] rg = .ret (.str (Txt.join " " ("starts" :: []))) [some (qD C_TheStarts [])] rg := by
  rw [T_TheStarts_text]
  exact run_pure rfl (x_ret (w_call (pa_own (w_keep (d := .str "starts") (w_meth (f := F_TheStarts_called) (pa_var rfl (by decide) pa_nil) (by kernel_rfl) (by kernel_rfl) (fun _ => rfl) (called_TheStarts k rg) rfl) rfl) (pa_own (w_attr (d := .lst false (([] : List Str).map .str)) (d_var rfl rfl) (by kernel_rfl) (by kernel_rfl) rfl rfl) pa_nil)) (fun _ => rfl) (name_row_c k _ _ _ _ h) rfl)) rfl rfl
theorem right_TheStarts (k : Nat) (o : Bool) (rg : List D) (h : (("starts" :: [] : List Str).map (·.length)).sum + (([] : List Str).length + 10) ≤ 1000) : (T (k+4)).call F_right [(qD C_TheStarts []), .str "starts", .lst o (([] : List Str).map .str)] rg = .ret (.bl true) [some (qD C_TheStarts []), some (.str "starts"), some (.lst o (([] : List Str).map .str))] rg :=
  right_c k C_TheStarts "starts" [] false F_TheStarts_text F_TheStarts_has_loads F_TheStarts_matter o rg (by kernel_rfl) (by kernel_rfl) (by kernel_rfl) (by kernel_rfl) (by kernel_rfl) (by kernel_rfl) (by kernel_rfl) (kinds_TheStarts _ _) (text_TheStarts _ _ h) (loads_TheStarts _ _) (matter_TheStarts _ _) (by decide +kernel) h
theorem by_TheLeaves (k : Nat) (rg : List D) : (T (k+3)).call F_question_by [.str "leaves", .lst true []] rg = .ret (.ins true C_TheLeaves [("names", .lst true [])]) [some (.str "leaves"), some (.lst true [])] rg := by kernel_rfl
theorem made_TheLeaves (k : Nat) (rg : List D) : (T (k+3)).call F_made [.str "leaves", .lst false []] rg = .ret (.ins true C_TheLeaves [("names", .lst true [])]) [some (.str "leaves"), some (.lst false [])] rg := by kernel_rfl
theorem kinds_TheLeaves (k : Nat) (rg : List D) : (T (k+1)).call F_kinds [(qD C_TheLeaves [])] rg = .ret (.lst true ([("leaves" : Str)].map .str)) [some (qD C_TheLeaves [])] rg := by kernel_rfl
theorem loads_TheLeaves (k : Nat) (rg : List D) : (T (k+1)).call F_TheLeaves_has_loads [(qD C_TheLeaves [])] rg = .ret (.bl false) [some (qD C_TheLeaves [])] rg := by kernel_rfl
theorem matter_TheLeaves (k : Nat) (rg : List D) : (T (k+1)).call F_TheLeaves_matter [(qD C_TheLeaves [])] rg = .ret (.lst true (([] : List Str).map .str)) [some (qD C_TheLeaves [])] rg := by kernel_rfl
theorem called_TheLeaves (k : Nat) (rg : List D) : (T (k+1)).call F_TheLeaves_called [(qD C_TheLeaves [])] rg = .ret (.str "leaves") [some (qD C_TheLeaves [])] rg := by kernel_rfl
theorem many_TheLeaves (k : Nat) (rg : List D) : (T (k+1)).call F_many_names [.str "leaves"] rg = .ret (.int 0) [some (.str "leaves")] rg := by kernel_rfl
theorem text_TheLeaves (k : Nat) (rg : List D) (h : (("leaves" :: [] : List Str).map (·.length)).sum + (([] : List Str).length + 10) ≤ 1000) : (T (k+2)).call F_TheLeaves_text [(qD C_TheLeaves [])] rg = .ret (.str (Txt.join " " ("leaves" :: []))) [some (qD C_TheLeaves [])] rg := by
  rw [T_TheLeaves_text]
  exact run_pure rfl (x_ret (w_call (pa_own (w_keep (d := .str "leaves") (w_meth (f := F_TheLeaves_called) (pa_var rfl (by decide) pa_nil) (by kernel_rfl) (by kernel_rfl) (fun _ => rfl) (called_TheLeaves k rg) rfl) rfl) (pa_own (w_attr (d := .lst false (([] : List Str).map .str)) (d_var rfl rfl) (by kernel_rfl) (by kernel_rfl) rfl rfl) pa_nil)) (fun _ => rfl) (name_row_c k _ _ _ _ h) rfl)) rfl rfl
theorem right_TheLeaves (k : Nat) (o : Bool) (rg : List D) (h : (("leaves" :: [] : List Str).map (·.length)).sum + (([] : List Str).length + 10) ≤ 1000) : (T (k+4)).call F_right [(qD C_TheLeaves []), .str "leaves", .lst o (([] : List Str).map .str)] rg = .ret (.bl true) [some (qD C_TheLeaves []), some (.str "leaves"), some (.lst o (([] : List Str).map .str))] rg :=
  right_c k C_TheLeaves "leaves" [] false F_TheLeaves_text F_TheLeaves_has_loads F_TheLeaves_matter o rg (by kernel_rfl) (by kernel_rfl) (by kernel_rfl) (by kernel_rfl) (by kernel_rfl) (by kernel_rfl) (by kernel_rfl) (kinds_TheLeaves _ _) (text_TheLeaves _ _ h) (loads_TheLeaves _ _) (matter_TheLeaves _ _) (by decide +kernel) h
end K25
end

section
set_option Elab.async false
set_option linter.all false
set_option maxRecDepth 100000
set_option maxHeartbeats 2000000
namespace K25
open PySem L2 RB
theorem signs_c (k : Nat) (z y : Str) (rg : List D) (h : z.length ≤ sz) : (T (k+1)).call F_are_signs [.str z, .str y] rg = .ret (.bl ((sgs z).all (inL y))) [some (.str z), some (.str y)] rg := by
  rw [T_are_signs]
  refine run_pure rfl (x_ret (w_bi (ds := [.lst true ((sgs z).map fun c => .bl (inL y c))]) (pdl_cons (PW.pd (w_comp (emb := fun c => .str (sg c)) (ys := sgs z) rfl (s_text (w_var rfl rfl rfl)) (by rw [sgs_len]; exact h) fun c _ => w_cmp (d_var rfl rfl) (d_var rfl rfl) (inD_sg c y))) pdl_nil) ?_)) rfl rfl
  simp only [biD, blsD_map, Option.map_some]
  rw [List.all_map]; rfl
theorem name_c (k : Nat) (z : Str) (rg : List D) (h : Nm z) : (T (k+2)).call F_is_name [.str z] rg = .ret (.bl true) [some (.str z)] rg := by
  obtain ⟨h1, h2, h3⟩ := h
  have hs := signs_c k z alphabet rg (by show _ ≤ 16777216; omega)
  rw [h3] at hs
  rw [T_is_name]
  have e : (true && ((decide ((1 : Int) ≤ (z.length : Int)) && decide ((z.length : Int) ≤ 12)) && true)) = true := by
    have a1 : (1 : Int) ≤ (z.length : Int) := by omega
    have a2 : (z.length : Int) ≤ 12 := by omega
    simp [a1, a2]
  have key := run_pure (t := T (k+1)) (fn := f_is_name) (ds := [.str z]) (rg := rg) rfl (x_ret (w_and (p := true) (PW.pd (w_isi (d_var rfl rfl) rfl)) fun _ => w_and (PW.pd (w_chain w_int.pd (PW.pd (w_bi (pdl_cons (d_var rfl rfl) pdl_nil) (l_str (by show _ ≤ 16777216; omega)))) rfl fun _ => ⟨w_glob.pd, rfl⟩)) fun _ => w_call (pa_var rfl (by decide) (pa_own w_glob pa_nil)) (fun _ => rfl) hs rfl)) rfl rfl
  rw [e] at key
  exact key
theorem blank_no {z : Str} (h : Nm z) : 32 ∉ sgs z := fun hb => by
  have := List.all_eq_true.mp h.2.2 32 hb
  revert this
  decide +kernel
theorem qof (k : Nat) (w : Str) (ns : List Str) (q : D) (rg : List D) (hw : 32 ∉ sgs w) (hl : w.length ≤ 12) (hn : ∀ z ∈ ns, Nm z) (hlen : ns.length ≤ 3) (hs : ((w :: ns).map (·.length)).sum + (ns.length + 10) ≤ 1000)
    (hm : (T (k+4)).call F_many_names [.str w] rg = .ret (.int ns.length) [some (.str w)] rg)
    (hq : (T (k+4)).call F_question_by [.str w, .lst true (ns.map .str)] rg = .ret q [some (.str w), some (.lst true (ns.map .str))] rg) (hqn : q.nl = true) (z : Str) (hz : z = Txt.join " " (w :: ns)) (hzl : z.length ≤ 10000) :
    (T (k+5)).call F_question_of [.str z] rg = .ret q [some (.str z)] rg := by
  rw [T_question_of]
  have hsp : Txt.split z " " = w :: ns := by
    rw [hz]
    exact TL.split_join (s := 32) (S := []) (by decide +kernel) (by decide +kernel) (by simp) fun p hp => by
      rcases List.mem_cons.mp hp with rfl | hp
      · exact hw
      · exact blank_no (hn p hp)
  have wordsW : ∀ S : DS, S.ds[0]? = some (some (.str z)) → PW (T (k+4)) S (.keep (.bm .split (.var 0) [.str " "])) (.lst false ((w :: ns).map .str)) := fun S h0 => by
    refine w_keepE (w_bm (pdl_cons (d_var h0 rfl) (pdl_cons w_str.pd pdl_nil)) rfl (p_split (by decide +kernel) (by show _ ≤ 16777216; omega))) rfl ?_
    rw [hsp]; simp only [D.leak, leakL_strs]
  have cut1 : cutD ((w :: ns).map .str) (some 1) none = ns.map .str := by
    rw [cutD_map]
    have e1 : HT.sIx (w :: ns).length 0 (some 1) = 1 := by
      have := sIx_nat (w :: ns).length 0 1
      simpa using this
    have e2 : HT.sIx (w :: ns).length (w :: ns).length none = (w :: ns).length := rfl
    rw [e1, e2]; simp
  have sub0 : ∀ S : DS, S.ds[1]? = some (some (.lst false ((w :: ns).map .str))) → PW (T (k+4)) S (.sub (.var 1) (.int (0))) (.str w) := fun S h1 => w_subL (d_var h1 rfl) w_int.pd (by decide) rfl rfl rfl
  have slc : ∀ S : DS, S.ds[1]? = some (some (.lst false ((w :: ns).map .str))) → PW (T (k+4)) S (.slice (.var 1) (some (.int (1))) none) (.lst true (ns.map .str)) := fun S h1 => by
    have := w_slice10 (t := T (k+4)) (b := .int (1)) (d_var (T := (E.int 1).touch) h1 rfl) w_int (sl_list (fS (w :: ns)) (lo := some 1) (hi := none))
    rw [cut1] at this; exact this
  have hz16 : w.length ≤ 16777216 := by omega
  -- the loop
  obtain ⟨S', hS', a, x, y, rfl⟩ := fl_inv (t := T (k+4)) (np := 1) (g := .tup [4, 5]) (sb := [.ife (.orE (.cmp .ge (.var 4) (.var 2)) (.notE (.call 1 [.var 5]))) [.dead] [],
    .aug 3 .add (.bin .add (.bi .len [.var 5]) (.int (1)))]) (emb := fun p : Str × Nat => .tup [.int p.2, .str p.1]) (fun S => ∃ (a : Int) (x y : Option D), S = ⟨[some (.str z), some (.lst false ((w :: ns).map .str)), some (.int ns.length), some (.int a), x, y], rg⟩) ns.zipIdx (by
      rintro ⟨v, j⟩ hp S ⟨a, x, y, rfl⟩
      obtain ⟨_, hj, hv⟩ := List.mem_zipIdx hp
      simp only [Nat.zero_add, Nat.sub_zero] at hj hv
      have hvn : v ∈ ns := by rw [hv]; exact List.getElem_mem _
      have hN := hn v hvn
      have hnm := name_c (k+2) v rg hN
      refine ⟨⟨[some (.str z), some (.lst false ((w :: ns).map .str)), some (.int ns.length), some (.int a), some (.int j), some (.str v)], rg⟩, rfl, ⟨[some (.str z), some (.lst false ((w :: ns).map .str)), some (.int ns.length), some (.int (a + ((v.length : Int) + 1))), some (.int j), some (.str v)], rg⟩, ?_, _, _, _, rfl⟩
      have hge : decide ((ns.length : Int) ≤ (j : Int)) = false := by
        have : j < ns.length := by simpa using hj
        simp; omega
      refine x_if (p := decide ((ns.length : Int) ≤ (j : Int)) || !true) (PW.pd (w_or (PW.pd (w_cmp (d_var rfl rfl) (d_var rfl rfl) rfl)) fun _ => w_not (p := true) (PW.pd (w_call (pa_var rfl (by decide) pa_nil) (fun _ => rfl) hnm rfl)) rfl)) rfl ?_
      simp only [hge, Bool.not_true, Bool.or_self, Bool.false_eq_true, if_false, List.nil_append]
      exact x_aug rfl (PW.pd (w_bin (PW.pd (w_bi (pdl_cons (d_var rfl rfl) pdl_nil) (l_str (by have := hN.2.1; show _ ≤ 16777216; omega)))) w_int.pd rfl)) rfl (by decide) x_nil) ⟨[some (.str z), some (.lst false ((w :: ns).map .str)), some (.int ns.length), some (.int ((w.length : Int) + 1)), none, none], rg⟩ ⟨_, _, _, rfl⟩
  refine run_pure (S2 := ⟨[some (.str z), some (.lst false ((w :: ns).map .str)), some (.int ns.length), some (.int a), x, y], rg⟩) rfl ?_ rfl rfl
  refine x_if (p := !true) (PW.pd (w_not (p := true) (PW.pd (w_isi (d_var rfl rfl) rfl)) rfl)) rfl ?_
  refine x_asg (wordsW _ rfl) (by decide) (Nat.le_of_ble_eq_true rfl) ?_
  refine x_asg (w_keep (d := .int ns.length) (w_call (pa_own (sub0 _ rfl) pa_nil) (fun _ => rfl) hm rfl) rfl) (by decide) (Nat.le_of_ble_eq_true rfl) ?_
  refine x_if (p := false) (PW.pd (w_isN (d_var rfl rfl) rfl)) rfl ?_
  refine x_asg (d := .int ((w.length : Int) + 1)) (w_bin (PW.pd (w_bi (pdl_cons (PW.pd (sub0 _ rfl)) pdl_nil) (l_str hz16))) w_int.pd rfl) (by decide) (Nat.le_of_ble_eq_true rfl) ?_
  have hsrc : ∀ S : DS, S.ds[1]? = some (some (.lst false ((w :: ns).map .str))) → evSrc (T (k+4)) (.enum (.slice (.var 1) (some (.int (1))) none)) S = .ok (ns.zipIdx.map fun p => .tup [.int p.2, .str p.1]) S := fun S h1 => by
    rw [s_enumL (slc S h1), leakL_strs, enum_map]
  refine x_for (hsrc _ rfl) hS' ?_
  have hle : decide ((((w :: ns).map D.str).length : Int) ≤ (ns.length : Int)) = false := by simp; omega
  refine x_if (p := decide ((((w :: ns).map D.str).length : Int) ≤ (ns.length : Int))) (PW.pd (w_cmp (PW.pd (w_bi (pdl_cons (d_var rfl rfl) pdl_nil) rfl)) (d_var rfl rfl) rfl)) rfl ?_
  rw [hle]
  exact x_ret (w_call (pa_own (sub0 _ rfl) (pa_own (slc _ rfl) pa_nil)) (fun _ => rfl) hq hqn)
end K25
end

section
set_option Elab.async false
set_option linter.all false
set_option maxRecDepth 100000
set_option maxHeartbeats 2000000
-- _law_number, _law_names: K25
namespace K25
open PySem L2 RB
abbrev nrE : E := .bin .mod (.bin .mul (.bin .mod (.bin .add (.bin .mul (.bin .mod (.var 2) (.int (2147483629))) (.int (48271))) (.bin .mul (.bin .mul (.var 3) (.var 3)) (.int (69621)))) (.int (2147483647))) (.int (16807))) (.int (2147483629))
theorem nr_tail (t : Tab) (x : Option D) (ns : List Int) (j c : Int) (h0 : 0 ≤ j) (h1 : j < 1000) (rg : List D) : Xs t 2 [.asg (.name 3) (.bin .add (.var 1) (.int (3))), .ret nrE] ⟨[some (.scr ns), some (.int j), some (.int c), x], rg⟩
    (.ret (.int ((c % 2147483629 * 48271 + (j + 3) * (j + 3) * 69621) % 2147483647 * 16807 % 2147483629))) ⟨[some (.scr ns), some (.int j), some (.int c), some (.int (j + 3))], rg⟩ := by
  refine x_asg (d := .int (j + 3)) (w_bin (d_var rfl rfl) w_int.pd rfl) (by decide) (Nat.le_of_ble_eq_true rfl) ?_
  refine x_ret ?_
  refine w_bin (PW.pd (w_bin (PW.pd (w_bin (PW.pd (w_bin (PW.pd (w_bin (PW.pd (w_bin (d_var rfl rfl) w_int.pd (b_mod (by decide)))) w_int.pd (b_mulR (by decide) (by decide)))) (PW.pd (w_bin (PW.pd (w_bin (x := .int (j + 3)) (y := .int (j + 3)) (d_var rfl rfl) (d_var rfl rfl) (b_mulL ?_ ?_))) w_int.pd (b_mulR (by decide) (by decide)))) rfl)) w_int.pd (b_mod (by decide)))) w_int.pd (b_mulR (by decide) (by decide)))) w_int.pd (b_mod (by decide))
  · omega
  · omega
theorem number_c (k : Nat) (ns : List Int) (j : Int) (h0 : 0 ≤ j) (h1 : j < 1000) (rg : List D) : ∃ n : Int, 0 ≤ n ∧ n < 2147483629 ∧ ∀ rg, (T (k+1)).call F_number [.scr ns, .int j] rg = .ret (.int n) [some (.scr ns), some (.int j)] rg := by
  have fin : ∀ c : Int, 0 ≤ (c % 2147483629 * 48271 + (j + 3) * (j + 3) * 69621) % 2147483647 * 16807 % 2147483629 ∧ (c % 2147483629 * 48271 + (j + 3) * (j + 3) * 69621) % 2147483647 * 16807 % 2147483629 < 2147483629 := fun c => ⟨Int.emod_nonneg _ (by decide), Int.emod_lt_of_pos _ (by decide)⟩
  by_cases hz : 0 < ns.length
  · have hm : atI ns (j % (ns.length : Int)) = some ns[(j % (ns.length : Int)).toNat]! := by
      have p0 : 0 ≤ j % (ns.length : Int) := Int.emod_nonneg _ (by omega)
      have p1 : j % (ns.length : Int) < ns.length := Int.emod_lt_of_pos _ (by omega)
      have hl : (j % (ns.length : Int)).toNat < ns.length := by omega
      simp only [atI, ixN, p0, p1, if_true, Option.bind_some]
      rw [List.getElem?_eq_getElem hl, List.getElem!_eq_getElem?_getD, List.getElem?_eq_getElem hl]; rfl
    generalize ns[(j % (ns.length : Int)).toNat]! = c at hm
    refine ⟨_, (fin c).1, (fin c).2, fun rg => ?_⟩
    rw [T_number]
    refine run_pure (S2 := ⟨[some (.scr ns), some (.int j), some (.int c), some (.int (j + 3))], rg⟩) rfl ?_ rfl rfl
    refine x_asg w_int (by decide) (Nat.le_of_ble_eq_true rfl) ?_
    have hp : decide ((0 : Int) < (ns.length : Int)) = true := decide_eq_true (by omega)
    refine x_if (p := decide ((0 : Int) < (ns.length : Int))) (PW.pd (w_cmp (PW.pd (w_bi (pdl_cons (d_var rfl rfl) pdl_nil) rfl)) w_int.pd rfl)) rfl ?_
    rw [hp]
    refine x_asg (w_keep (d := .int c) (w_subS (d_var rfl rfl) (PW.pd (w_bin (d_var rfl rfl) (PW.pd (w_bi (pdl_cons (d_var rfl rfl) pdl_nil) rfl)) (b_mod (by omega)))) hm) rfl) (by decide) (Nat.le_of_ble_eq_true rfl) ?_
    exact nr_tail _ _ ns j c h0 h1 rg
  · refine ⟨_, (fin 1).1, (fin 1).2, fun rg => ?_⟩
    rw [T_number]
    refine run_pure (S2 := ⟨[some (.scr ns), some (.int j), some (.int 1), some (.int (j + 3))], rg⟩) rfl ?_ rfl rfl
    refine x_asg w_int (by decide) (Nat.le_of_ble_eq_true rfl) ?_
    have hp : decide ((0 : Int) < (ns.length : Int)) = false := decide_eq_false (by omega)
    refine x_if (p := decide ((0 : Int) < (ns.length : Int))) (PW.pd (w_cmp (PW.pd (w_bi (pdl_cons (d_var rfl rfl) pdl_nil) rfl)) w_int.pd rfl)) rfl ?_
    rw [hp]
    exact nr_tail _ _ ns j 1 h0 h1 rg
theorem ofL_small {l : List Nat} (h : l.length ≤ 100) : (ofL l).length ≤ sz := by rw [ofL_length]; show _ ≤ 16777216; omega
theorem names_c (k : Nat) (n : Int) (m : Nat) (hn : 0 ≤ n) (hm : m ≤ 12) (rg : List D) : (T (k+1)).call F_names [.int n, .int m] rg = .ret (.lst true ((namesL n m).map .str)) [some (.int n), some (.int m)] rg := by
  have hr : rngOk (m : Int) = true := by simp only [rngOk, Bool.and_eq_true, decide_eq_true_eq]; omega
  have n5 : 0 ≤ n % 5 := Int.emod_nonneg _ (by decide)
  have n5' : n % 5 < 5 := Int.emod_lt_of_pos _ (by decide)
  have base : ∀ (t : Tab) (S : DS), S.ds[0]? = some (some (.int n)) → S.ds[2]? = some (some (.str alphabet)) → S.ds[3]? = some (some (.int (3 + n % 5))) → S.ds[5]? = some none → PW t S (.bm .join (.str "") [.comp (.name 5) (.rng1 (.int (12))) none (.sub (.var 2) (.bin .mod (.bin .add (.bin .fdiv (.var 0) (.int (7))) (.bin .mul (.var 3) (.var 5))) (.int (26))))]) (.str (ofL (baseL n))) := by
    intro t S s0 s2 s3 s5
    have put : ∀ (d : D) (i : Nat), i ≠ 5 → (S.put 5 d).ds[i]? = S.ds[i]? := fun d i h => List.getElem?_set_ne (Ne.symm h)
    have put5 : ∀ (d : D), (S.put 5 d).ds[5]? = some (some d) := fun d => List.getElem?_set_self (lt_of_get s5)
    have hc : PW t S (.comp (.name 5) (.rng1 (.int (12))) none (.sub (.var 2) (.bin .mod (.bin .add (.bin .fdiv (.var 0) (.int (7))) (.bin .mul (.var 3) (.var 5))) (.int (26))))) (.lst true ((List.range 12).map fun (j : Nat) => .str (sg (ltr (n / 7 + (3 + n % 5) * (j : Int)))))) := by
      refine w_comp (emb := fun (j : Nat) => .int (j : Int)) s5 (s_range w_int.pd rfl) (by decide) fun j hj => ?_
      rw [List.mem_range] at hj
      exact w_subT (d_var (by rw [put _ _ (by decide)]; exact s2) rfl) (PW.pd (w_bin (PW.pd (w_bin (PW.pd (w_bin (d_var (by rw [put _ _ (by decide)]; exact s0) rfl) w_int.pd (b_fdiv (by decide) (by decide)))) (PW.pd (w_bin (d_var (by rw [put _ _ (by decide)]; exact s3) rfl) (d_var (put5 _) rfl) (b_mulL (by omega) (by omega)))) rfl)) w_int.pd (b_mod (by decide)))) (by decide +kernel) (alpha_at _)
    have e : ((List.range 12).map fun (j : Nat) => D.str (sg (ltr (n / 7 + (3 + n % 5) * (j : Int))))) = ((baseL n).map sg).map .str := by simp only [baseL, List.map_map]; rfl
    rw [e] at hc
    rw [← join_signs]
    refine w_bm (pdl_cons w_str.pd (pdl_cons (PW.pd hc) pdl_nil)) rfl (j_strs ?_)
    have h1 := sum_le (l := (baseL n).map sg) (n := 1) (fun z hz => by obtain ⟨c, _, rfl⟩ := List.mem_map.mp hz; exact Nat.le_refl _)
    have e0 : ("" : Str).length = 0 := by decide +kernel
    rw [List.length_map, baseL_len] at h1
    rw [e0, List.length_map, baseL_len]
    show _ ≤ 16777216
    omega
  have bl : (ofL (baseL n)).length ≤ sz := ofL_small (by rw [baseL_len]; decide)
  rw [T_names]
  have start : ∀ (f : Fl) (S2 : DS) (ss : List S), Xs (T k) 2 ss ⟨[some (.int n), some (.int m), some (.str alphabet), some (.int (3 + n % 5)), some (.str (ofL (baseL n))), none, none, none, none, none, none], rg⟩ f S2 →
      Xs (T k) 2 (.asg (.name 2) (.str "abcdefghijklmnopqrstuvwxyz") :: .asg (.name 3) (.bin .add (.int (3)) (.bin .mod (.var 0) (.int (5)))) :: .asg (.name 4) (.bm .join (.str "") [.comp (.name 5) (.rng1 (.int (12))) none (.sub (.var 2) (.bin .mod (.bin .add (.bin .fdiv (.var 0) (.int (7))) (.bin .mul (.var 3) (.var 5))) (.int (26))))]) :: ss) ⟨[some (.int n), some (.int m), none, none, none, none, none, none, none, none, none], rg⟩ f S2 := by
    intro f S2 ss h
    refine x_asg w_str (by decide) (Nat.le_of_ble_eq_true rfl) ?_
    refine x_asg (w_bin w_int.pd (PW.pd (w_bin (d_var rfl rfl) w_int.pd (b_mod (by decide)))) rfl) (by decide) (Nat.le_of_ble_eq_true rfl) ?_
    exact x_asg (base _ _ rfl rfl rfl rfl) (by decide) (Nat.le_of_ble_eq_true rfl) h
  by_cases hb : n / 9 % 3 = 1
  · have en : namesL n m = (List.range m).map fun k => ofL ((baseL n).take (k + 1)) := by unfold namesL; rw [if_pos hb]
    rw [en]
    refine run_pure (S2 := ⟨[some (.int n), some (.int m), some (.str alphabet), some (.int (3 + n % 5)), some (.str (ofL (baseL n))), none, none, none, none, none, none], rg⟩) rfl (start _ _ _ ?_) rfl rfl
    refine x_if (p := decide (n / 9 % 3 = 1)) (PW.pd (w_cmp (PW.pd (w_bin (PW.pd (w_bin (d_var rfl rfl) w_int.pd (b_fdiv (by decide) (by decide)))) w_int.pd (b_mod (by decide)))) w_int.pd c_eqI)) rfl ?_
    rw [decide_eq_true hb, List.map_map]
    refine x_ret (w_comp (emb := fun (j : Nat) => .int (j : Int)) (ys := List.range m) rfl ((s_range (d_var rfl rfl) hr).trans (by rw [rng_map])) (by rw [List.length_range]; show _ ≤ 16777216; omega) fun j hj => ?_)
    have := w_slice01 (t := T k) (S := (⟨[some (.int n), some (.int m), some (.str alphabet), some (.int (3 + n % 5)), some (.str (ofL (baseL n))), none, none, none, none, none, none], rg⟩ : DS).put 6 (.int (j : Int))) (a := .var 4) (b := .bin .add (.var 6) (.int (1))) (n := ((j + 1 : Nat) : Int)) (d_var rfl rfl) (w_bin (d_var rfl rfl) w_int.pd rfl) (sl_text bl)
    rw [cut_hi, sgs_ofL] at this
    exact this
  · have en : namesL n m = (List.range m).map fun (k : Nat) => ofL ((brd n).take (brdAt n) ++ [ltr (n / 2000 + 5 * (k : Int))] ++ (brd n).drop (brdAt n)) := by unfold namesL; rw [if_neg hb]
    rw [en]
    have h8 : 0 ≤ n % 8 := Int.emod_nonneg _ (by decide)
    have h8' : n % 8 < 8 := Int.emod_lt_of_pos _ (by decide)
    have hbl := brd_len n
    have bl7 : (ofL (brd n)).length ≤ sz := ofL_small (by omega)
    have hat0 : 0 ≤ n / 200 % (((brd n).length : Int) + 1) := Int.emod_nonneg _ (by omega)
    have hat : (brdAt n : Int) = n / 200 % (((brd n).length : Int) + 1) := by unfold brdAt; omega
    have sgn : ((List.range m).map fun (k : Nat) => D.str (sg (ltr (n / 2000 + 5 * (k : Int))))) = ((List.range m).map fun (k : Nat) => sg (ltr (n / 2000 + 5 * (k : Int)))).map .str := by rw [List.map_map]; rfl
    refine run_pure (S2 := ⟨[some (.int n), some (.int m), some (.str alphabet), some (.int (3 + n % 5)), some (.str (ofL (baseL n))), none, none, some (.str (ofL (brd n))), some (.int (brdAt n)), some (.lst false (((List.range m).map fun (k : Nat) => sg (ltr (n / 2000 + 5 * (k : Int)))).map .str)), none], rg⟩) rfl (start _ _ _ ?_) rfl rfl
    refine x_if (p := decide (n / 9 % 3 = 1)) (PW.pd (w_cmp (PW.pd (w_bin (PW.pd (w_bin (d_var rfl rfl) w_int.pd (b_fdiv (by decide) (by decide)))) w_int.pd (b_mod (by decide)))) w_int.pd c_eqI)) rfl ?_
    rw [decide_eq_false hb]
    have c1 : cutS (ofL (baseL n)) none (some (n % 8)) = ofL (brd n) := by
      have := cut_hi (ofL (baseL n)) (n % 8).toNat
      rw [show (((n % 8).toNat : Nat) : Int) = n % 8 by omega, sgs_ofL] at this
      exact this
    refine x_asg (d := .str (ofL (brd n))) (w_keepE (w_slice01 (d_var rfl rfl) (w_bin (d_var rfl rfl) w_int.pd (b_mod (by decide))) (sl_text bl)) rfl (by rw [c1]; rfl)) (by decide) (Nat.le_of_ble_eq_true rfl) ?_
    refine x_asg (d := .int (brdAt n)) ?_ (by decide) (Nat.le_of_ble_eq_true rfl) ?_
    · rw [hat, ← ofL_length]
      exact w_bin (PW.pd (w_bin (d_var rfl rfl) w_int.pd (b_fdiv (by decide) (by decide)))) (PW.pd (w_bin (PW.pd (w_bi (pdl_cons (d_var rfl rfl) pdl_nil) (l_str bl7))) w_int.pd rfl)) (b_mod (by omega))
    refine x_asg (d := .lst true (((List.range m).map fun (k : Nat) => sg (ltr (n / 2000 + 5 * (k : Int)))).map .str)) ?_ (by decide) (Nat.le_of_ble_eq_true rfl) ?_
    · rw [← sgn]
      refine w_comp (emb := fun (j : Nat) => .int (j : Int)) (ys := List.range m) rfl ((s_range (d_var rfl rfl) hr).trans (by rw [rng_map])) (by rw [List.length_range]; show _ ≤ 16777216; omega) fun j hj => ?_
      rw [List.mem_range] at hj
      exact w_subT (s := alphabet) (d_var rfl rfl) (PW.pd (w_bin (PW.pd (w_bin (PW.pd (w_bin (d_var rfl rfl) w_int.pd (b_fdiv (by decide) (by decide)))) (PW.pd (w_bin w_int.pd (d_var rfl rfl) (b_mulL (by decide) (by decide)))) rfl)) w_int.pd (b_mod (by decide)))) (by decide +kernel) (alpha_at _)
    have hfin := v_comp (t := T k) (S := ⟨[some (.int n), some (.int m), some (.str alphabet), some (.int (3 + n % 5)), some (.str (ofL (baseL n))), none, none, some (.str (ofL (brd n))), some (.int (brdAt n)), some (.lst true (((List.range m).map fun (k : Nat) => sg (ltr (n / 2000 + 5 * (k : Int)))).map .str)), none], rg⟩)
      (S1 := ⟨[some (.int n), some (.int m), some (.str alphabet), some (.int (3 + n % 5)), some (.str (ofL (baseL n))), none, none, some (.str (ofL (brd n))), some (.int (brdAt n)), some (.lst false (((List.range m).map fun (k : Nat) => sg (ltr (n / 2000 + 5 * (k : Int)))).map .str)), none], rg⟩) (i := 10)
      (e := .bin .add (.bin .add (.slice (.var 7) none (some (.var 8))) (.var 10)) (.slice (.var 7) (some (.var 8)) none)) (src := .seq (.var 9)) (emb := .str) (ys := (List.range m).map fun (k : Nat) => sg (ltr (n / 2000 + 5 * (k : Int)))) (f := fun z => .str (ofL ((brd n).take (brdAt n)) ++ z ++ ofL ((brd n).drop (brdAt n)))) rfl
      (by rw [s_listV rfl, leakL_strs]; rfl) (by rw [List.length_map, List.length_range]; show _ ≤ 16777216; omega) (by
        intro z hz
        obtain ⟨j, _, rfl⟩ := List.mem_map.mp hz
        have s1 := w_slice01 (t := T k) (S := (⟨[some (.int n), some (.int m), some (.str alphabet), some (.int (3 + n % 5)), some (.str (ofL (baseL n))), none, none, some (.str (ofL (brd n))), some (.int (brdAt n)), some (.lst false (((List.range m).map fun (k : Nat) => sg (ltr (n / 2000 + 5 * (k : Int)))).map .str)), none], rg⟩ : DS).put 10 (.str (sg (ltr (n / 2000 + 5 * (j : Int)))))) (a := .var 7) (b := .var 8) (n := (brdAt n : Int)) (d_var rfl rfl) (w_var rfl rfl rfl) (sl_text bl7)
        have s2 := w_slice10 (t := T k) (S := (⟨[some (.int n), some (.int m), some (.str alphabet), some (.int (3 + n % 5)), some (.str (ofL (baseL n))), none, none, some (.str (ofL (brd n))), some (.int (brdAt n)), some (.lst false (((List.range m).map fun (k : Nat) => sg (ltr (n / 2000 + 5 * (k : Int)))).map .str)), none], rg⟩ : DS).put 10 (.str (sg (ltr (n / 2000 + 5 * (j : Int)))))) (a := .var 7) (b := .var 8) (n := (brdAt n : Int)) (d_var rfl rfl) (w_var rfl rfl rfl) (sl_text bl7)
        rw [cut_hi, sgs_ofL] at s1
        rw [cut_lo, sgs_ofL] at s2
        have l1 : (ofL ((brd n).take (brdAt n))).length ≤ 7 := by rw [ofL_length, List.length_take]; omega
        have l2 : (ofL ((brd n).drop (brdAt n))).length ≤ 7 := by rw [ofL_length, List.length_drop]; omega
        have l3 : (sg (ltr (n / 2000 + 5 * (j : Int)))).length = 1 := rfl
        exact w_bin (PW.pd (w_bin s1.pd (d_var rfl rfl) (b_cat (by rw [l3]; show _ ≤ 16777216; omega)))) s2.pd (b_cat (by rw [Str.length_append, l3]; show _ ≤ 16777216; omega)))
    have e2 : (((List.range m).map fun (k : Nat) => sg (ltr (n / 2000 + 5 * (k : Int)))).map fun z => D.str (ofL ((brd n).take (brdAt n)) ++ z ++ ofL ((brd n).drop (brdAt n)))) = ((List.range m).map fun (k : Nat) => ofL ((brd n).take (brdAt n) ++ [ltr (n / 2000 + 5 * (k : Int))] ++ (brd n).drop (brdAt n))).map .str := by
      rw [List.map_map, List.map_map]
      refine List.map_congr_left fun j _ => ?_
      refine congrArg D.str (str_ext ?_)
      rw [sgs_app, sgs_app, sgs_ofL, sgs_ofL, sgs_ofL, sgs_sg]
    rw [e2] at hfin
    exact x_retS hfin
end K25
end

section
set_option Elab.async false
set_option linter.all false
set_option maxRecDepth 100000
set_option maxHeartbeats 2000000
namespace K25
open PySem L2 RB
abbrev slc2 : E := .slice (.var 6) none (some (.int (2)))
abbrev twoB : List S := [.ife (.notE (.call 11 [.keep (.call 6 [.bm .join (.str " ") [.bin .add (.lst [.var 8]) slc2]]), .var 8, slc2])) [.ret (.bl false)] [],
    .ife (.notE (.call 11 [.keep (.call 10 [.var 8, slc2]), .var 8, slc2])) [.ret (.bl false)] []]
theorem sums {w a b : Str} (hw : w.length ≤ 12) (ha : Nm a) (hb : Nm b) : (([w, a, b] : List Str).map (·.length)).sum + (([a, b] : List Str).length + 10) ≤ 1000 := by
  have := ha.2.1; have := hb.2.1
  simp only [List.map_cons, List.map_nil, List.sum_cons, List.sum_nil, List.length_cons, List.length_nil]; omega
theorem sums3 {w a b c : Str} (hw : w.length ≤ 12) (ha : Nm a) (hb : Nm b) (hc : Nm c) : (([w, a, b, c] : List Str).map (·.length)).sum + (([a, b, c] : List Str).length + 10) ≤ 1000 := by
  have := ha.2.1; have := hb.2.1; have := hc.2.1
  simp only [List.map_cons, List.map_nil, List.sum_cons, List.sum_nil, List.length_cons, List.length_nil]; omega
theorem joinL_len (S : List Nat) : ∀ l : List (List Nat), (TL.joinL S l).length ≤ (l.map (·.length)).sum + l.length * S.length
  | [] => by simp [TL.joinL]
  | [x] => by simp [TL.joinL]
  | x :: y :: r => by
    have := joinL_len S (y :: r)
    have e : TL.joinL S (x :: y :: r) = x ++ (S ++ TL.joinL S (y :: r)) := rfl
    rw [e]
    simp only [List.length_append, List.map_cons, List.sum_cons, List.length_cons, Nat.succ_mul] at this ⊢
    omega
theorem join_len (l : List Str) : (Txt.join " " l).length ≤ (l.map (·.length)).sum + l.length := by
  rw [← sgs_len, sgs_join]
  have := joinL_len (sgs " ") (l.map sgs)
  have e : (sgs (" " : Str)).length = 1 := by decide +kernel
  rw [e, List.length_map, List.map_map] at this
  have e2 : (l.map ((fun x => x.length) ∘ sgs)) = l.map (·.length) := List.map_congr_left fun z _ => sgs_len z
  rw [e2] at this
  omega
/-- the same join with a slice -/
theorem join_of {t : Tab} {S : DS} {e1 e2 : E} {w : Str} {ns : List Str} {o : Bool} (h1 : PW t S e1 (.str w)) (h2 : PD [] t S e2 (.lst o (ns.map .str))) (h : ((w :: ns).map (·.length)).sum + (ns.length + 10) ≤ 1000) :
    PW t S (.bm .join (.str " ") [.bin .add (.lst [e1]) e2]) (.str (Txt.join " " (w :: ns))) := by
  have hl : 1 + (ns.map D.str).length ≤ sz := by rw [List.length_map]; show _ ≤ 16777216; omega
  refine w_bm (x := .str " ") (ds := [.lst true ((w :: ns).map .str)]) (pdl_cons w_str.pd (pdl_cons (PW.pd (w_bin (x := .lst true [.str w]) (y := .lst o (ns.map .str)) (PW.pd (w_lst (pwl_cons h1 pwl_nil) (Nat.le_of_ble_eq_true rfl))) h2 (b_app rfl (fS ns) hl))) pdl_nil)) rfl (j_strs ?_)
  rw [K25.e1, List.length_cons]
  show _ ≤ 16777216
  omega
theorem two_step (k : Nat) (w a b c : Str) (cl : Nat) (S : DS) (s6 : S.ds[6]? = some (some (.lst true [.str a, .str b, .str c]))) (s8 : S.ds[8]? = some (some (.str w))) (ha : Nm a) (hb : Nm b) (hw : 32 ∉ sgs w) (hwl : w.length ≤ 12)
    (hm : (T (k+4)).call F_many_names [.str w] S.rg = .ret (.int 2) [some (.str w)] S.rg)
    (hby : (T (k+4)).call F_question_by [.str w, .lst true [.str a, .str b]] S.rg = .ret (.ins true cl [("names", .lst true [.str a, .str b])]) [some (.str w), some (.lst true [.str a, .str b])] S.rg)
    (hmade : (T (k+5)).call F_made [.str w, .lst true [.str a, .str b]] S.rg = .ret (.ins true cl [("names", .lst true [.str a, .str b])]) [some (.str w), some (.lst true [.str a, .str b])] S.rg)
    (hr : (T (k+5)).call F_right [qD cl [a, b], .str w, .lst true (([a, b] : List Str).map .str)] S.rg = .ret (.bl true) [some (qD cl [a, b]), some (.str w), some (.lst true (([a, b] : List Str).map .str))] S.rg) : Xs (T (k+5)) 1 twoB S .next S := by
  have hs := sums hwl ha hb
  have hj := join_len [w, a, b]
  have hsl : PW (T (k+5)) S slc2 (.lst true (([a, b] : List Str).map .str)) := by
    have := w_slice01 (t := T (k+5)) (S := S) (a := .var 6) (b := .int (2)) (n := 2) (d_var s6 rfl) w_int (sl_list (o := true) (xs := [.str a, .str b, .str c]) rfl)
    exact this
  have hq := qof k w [a, b] _ S.rg hw hwl (fun z hz => by rcases List.mem_cons.mp hz with rfl | hz; exact ha; cases List.mem_singleton.mp hz; exact hb) (Nat.le_of_ble_eq_true rfl) hs hm hby rfl _ rfl (by
    simp only [List.map_cons, List.map_nil, List.sum_cons, List.sum_nil, List.length_cons, List.length_nil] at hj hs; omega)
  have hw8 : PW (T (k+5)) S (.var 8) (.str w) := w_var s8 rfl rfl
  refine x_if (p := !true) (PW.pd (w_not (p := true) (PW.pd (w_call (ds := [qD cl [a, b], .str w, .lst true (([a, b] : List Str).map .str)]) (pa_own (w_keep (w_call (pa_own (join_of hw8 hsl.pd hs) pa_nil) (fun _ => rfl) hq rfl) rfl) (pa_var s8 (by decide) (pa_own hsl pa_nil))) (fun _ => rfl) hr rfl)) rfl)) rfl ?_
  refine x_if (p := !true) (PW.pd (w_not (p := true) (PW.pd (w_call (ds := [qD cl [a, b], .str w, .lst true (([a, b] : List Str).map .str)]) (pa_own (w_keep (w_call (pa_var s8 (by decide) (pa_own hsl pa_nil)) (fun _ => rfl) hmade rfl) rfl) (pa_var s8 (by decide) (pa_own hsl pa_nil))) (fun _ => rfl) hr rfl)) rfl)) rfl ?_
  exact x_nil
end K25
end

section
set_option Elab.async false
set_option linter.all false
set_option maxRecDepth 100000
set_option maxHeartbeats 2000000
namespace K25
open PySem L2 RB
theorem join1 (w : Str) : w = Txt.join " " [w] := str_ext (by rw [sgs_join]; rfl)
theorem past_step (k : Nat) (a b c : Str) (S : DS) (s6 : S.ds[6]? = some (some (.lst true [.str a, .str b, .str c]))) (ha : Nm a) (hb : Nm b) (hc : Nm c) {ss : List RB.S} {f : Fl} {S2 : DS} (hrest : Xs (T (k+5)) 1 ss S f S2) : Xs (T (k+5)) 1 (.ife (.notE (.call 11 [.keep (.call 6 [.bm .join (.str " ") [.bin .add (.lst [.str "past"]) (.var 6)]]), .str "past", .var 6])) [.ret (.bl false)] [] ::
    .ife (.notE (.call 11 [.keep (.call 10 [.str "past", .var 6]), .str "past", .var 6])) [.ret (.bl false)] [] :: ss) S f S2 := by
  have hs := sums3 (w := "past") (by decide +kernel) ha hb hc
  have hj := join_len ["past", a, b, c]
  have hq := qof k "past" [a, b, c] _ S.rg (by decide +kernel) (by decide +kernel) (fun z hz => by rcases List.mem_cons.mp hz with rfl | hz; exact ha; rcases List.mem_cons.mp hz with rfl | hz; exact hb; cases List.mem_singleton.mp hz; exact hc) (Nat.le_of_ble_eq_true rfl) hs (many_PastPoint _ _) (by_PastPoint (k+1) a b c _) rfl _ rfl (by
    simp only [List.map_cons, List.map_nil, List.sum_cons, List.sum_nil, List.length_cons, List.length_nil] at hj hs; omega)
  have hr := right_PastPoint (k+1) a b c true S.rg hs
  have hmade := made_PastPoint (k+2) a b c S.rg
  refine x_if (p := !true) (PW.pd (w_not (p := true) (PW.pd (w_call (ds := [qD C_PastPoint [a, b, c], .str "past", .lst true (([a, b, c] : List Str).map .str)]) (pa_own (w_keep (w_call (pa_own (join_of (o := true) (ns := [a, b, c]) w_str (d_var s6 rfl) hs) pa_nil) (fun _ => rfl) hq rfl) rfl) (pa_own w_str (pa_var s6 (by decide) pa_nil))) (fun _ => rfl) hr rfl)) rfl)) rfl ?_
  refine x_if (p := !true) (PW.pd (w_not (p := true) (PW.pd (w_call (ds := [qD C_PastPoint [a, b, c], .str "past", .lst true (([a, b, c] : List Str).map .str)]) (pa_own (w_keep (w_call (pa_own w_str (pa_var s6 (by decide) pa_nil)) (fun _ => rfl) hmade rfl) rfl) (pa_own w_str (pa_var s6 (by decide) pa_nil))) (fun _ => rfl) hr rfl)) rfl)) rfl ?_
  exact hrest
structure WOk (k : Nat) (w : Str) (cl : Nat) : Prop where
  blank : 32 ∉ sgs w
  len : w.length ≤ 12
  many : ∀ rg, (T (k+4)).call F_many_names [.str w] rg = .ret (.int 0) [some (.str w)] rg
  by_ : ∀ rg, (T (k+4)).call F_question_by [.str w, .lst true []] rg = .ret (.ins true cl [("names", .lst true [])]) [some (.str w), some (.lst true [])] rg
  made : ∀ rg, (T (k+5)).call F_made [.str w, .lst false []] rg = .ret (.ins true cl [("names", .lst true [])]) [some (.str w), some (.lst false [])] rg
  right : ∀ rg, (T (k+5)).call F_right [qD cl [], .str w, .lst false (([] : List Str).map .str)] rg = .ret (.bl true) [some (qD cl []), some (.str w), some (.lst false (([] : List Str).map .str))] rg
theorem whole_step (k : Nat) (w : Str) (cl : Nat) (S : DS) (s8 : S.ds[8]? = some (some (.str w))) (h : WOk k w cl) {ss : List RB.S} {f : Fl} {S2 : DS} (hrest : Xs (T (k+5)) 1 ss S f S2) : Xs (T (k+5)) 1 (.ife (.orE (.notE (.call 11 [.keep (.call 6 [.var 8]), .var 8, .keep (.lst [])])) (.notE (.call 11 [.keep (.call 10 [.var 8, .keep (.lst [])]), .var 8, .keep (.lst [])]))) [.ret (.bl false)] [] :: ss) S f S2 := by
  have hl := h.len
  have hq := qof k w [] _ S.rg h.blank h.len (fun z hz => by cases hz) (Nat.le_of_ble_eq_true rfl) (by simp only [List.map_cons, List.map_nil, List.sum_cons, List.sum_nil, List.length_nil]; omega) (h.many _) (h.by_ _) rfl w (join1 w) (by omega)
  have hnil : PW (T (k+5)) S (.keep (.lst [])) (.lst false []) := w_keepE (w_lst pwl_nil (Nat.le_of_ble_eq_true rfl)) rfl rfl
  refine x_if (p := !true || !true) (PW.pd (w_or (PW.pd (w_not (p := true) (PW.pd (w_call (ds := [qD cl [], .str w, .lst false []]) (pa_own (w_keep (w_call (pa_var s8 (by decide) pa_nil) (fun _ => rfl) hq rfl) rfl) (pa_var s8 (by decide) (pa_own hnil pa_nil))) (fun _ => rfl) (h.right _) rfl)) rfl)) fun _ => w_not (p := true) (PW.pd (w_call (ds := [qD cl [], .str w, .lst false []]) (pa_own (w_keep (w_call (pa_var s8 (by decide) (pa_own hnil pa_nil)) (fun _ => rfl) (h.made _) rfl) rfl) (pa_var s8 (by decide) (pa_own hnil pa_nil))) (fun _ => rfl) (h.right _) rfl)) rfl)) rfl ?_
  exact hrest
def wholes : List Str := ["pieces", "knots", "sides", "lightest", "starts", "leaves"]
theorem whole_ok (k : Nat) (j : Nat) (hj : j < 6) : ∃ w cl, (wholes.map D.str)[j]? = some (.str w) ∧ WOk k w cl := by
  match j, hj with
  | 0, _ => exact ⟨"pieces", C_ThePieces, rfl, ⟨by decide +kernel, by decide +kernel, fun rg => many_ThePieces _ _, fun rg => by_ThePieces (k+1) _, fun rg => made_ThePieces (k+2) _, fun rg => right_ThePieces (k+1) false rg (by decide +kernel)⟩⟩
  | 1, _ => exact ⟨"knots", C_TheKnots, rfl, ⟨by decide +kernel, by decide +kernel, fun rg => many_TheKnots _ _, fun rg => by_TheKnots (k+1) _, fun rg => made_TheKnots (k+2) _, fun rg => right_TheKnots (k+1) false rg (by decide +kernel)⟩⟩
  | 2, _ => exact ⟨"sides", C_TwoSides, rfl, ⟨by decide +kernel, by decide +kernel, fun rg => many_TwoSides _ _, fun rg => by_TwoSides (k+1) _, fun rg => made_TwoSides (k+2) _, fun rg => right_TwoSides (k+1) false rg (by decide +kernel)⟩⟩
  | 3, _ => exact ⟨"lightest", C_LightestForest, rfl, ⟨by decide +kernel, by decide +kernel, fun rg => many_LightestForest _ _, fun rg => by_LightestForest (k+1) _, fun rg => made_LightestForest (k+2) _, fun rg => right_LightestForest (k+1) false rg (by decide +kernel)⟩⟩
  | 4, _ => exact ⟨"starts", C_TheStarts, rfl, ⟨by decide +kernel, by decide +kernel, fun rg => many_TheStarts _ _, fun rg => by_TheStarts (k+1) _, fun rg => made_TheStarts (k+2) _, fun rg => right_TheStarts (k+1) false rg (by decide +kernel)⟩⟩
  | 5, _ => exact ⟨"leaves", C_TheLeaves, rfl, ⟨by decide +kernel, by decide +kernel, fun rg => many_TheLeaves _ _, fun rg => by_TheLeaves (k+1) _, fun rg => made_TheLeaves (k+2) _, fun rg => right_TheLeaves (k+1) false rg (by decide +kernel)⟩⟩
def twos : List Str := ["together", "comes", "must", "points", "ring", "least", "fewest", "apart"]
theorem inner (k : Nat) (a b c : Str) (d0 d1 d2 d3 d4 d5 x7 x8 : Option D) (rg : List D) (ha : Nm a) (hb : Nm b) : ∃ y8, forLoop 1 (.name 8) (execs (T (k+5)) 1 twoB) (twos.map .str) ⟨[d0, d1, d2, d3, d4, d5, some (.lst true [.str a, .str b, .str c]), x7, x8], rg⟩ = .ok .next ⟨[d0, d1, d2, d3, d4, d5, some (.lst true [.str a, .str b, .str c]), x7, y8], rg⟩ := by
  refine ⟨some (.str "apart"), ?_⟩
  refine fl_cons rfl (two_step k "together" a b c C_HangsTogether _ rfl rfl ha hb (by decide +kernel) (by decide +kernel) (many_HangsTogether _ _) (by_HangsTogether (k+1) a b _) (made_HangsTogether (k+2) a b _) (right_HangsTogether (k+1) a b true rg (sums (by decide +kernel) ha hb))) ?_
  refine fl_cons rfl (two_step k "comes" a b c C_ComesThere _ rfl rfl ha hb (by decide +kernel) (by decide +kernel) (many_ComesThere _ _) (by_ComesThere (k+1) a b _) (made_ComesThere (k+2) a b _) (right_ComesThere (k+1) a b true rg (sums (by decide +kernel) ha hb))) ?_
  refine fl_cons rfl (two_step k "must" a b c C_MustTies _ rfl rfl ha hb (by decide +kernel) (by decide +kernel) (many_MustTies _ _) (by_MustTies (k+1) a b _) (made_MustTies (k+2) a b _) (right_MustTies (k+1) a b true rg (sums (by decide +kernel) ha hb))) ?_
  refine fl_cons rfl (two_step k "points" a b c C_MustPoints _ rfl rfl ha hb (by decide +kernel) (by decide +kernel) (many_MustPoints _ _) (by_MustPoints (k+1) a b _) (made_MustPoints (k+2) a b _) (right_MustPoints (k+1) a b true rg (sums (by decide +kernel) ha hb))) ?_
  refine fl_cons rfl (two_step k "ring" a b c C_RingThrough _ rfl rfl ha hb (by decide +kernel) (by decide +kernel) (many_RingThrough _ _) (by_RingThrough (k+1) a b _) (made_RingThrough (k+2) a b _) (right_RingThrough (k+1) a b true rg (sums (by decide +kernel) ha hb))) ?_
  refine fl_cons rfl (two_step k "least" a b c C_LeastWay _ rfl rfl ha hb (by decide +kernel) (by decide +kernel) (many_LeastWay _ _) (by_LeastWay (k+1) a b _) (made_LeastWay (k+2) a b _) (right_LeastWay (k+1) a b true rg (sums (by decide +kernel) ha hb))) ?_
  refine fl_cons rfl (two_step k "fewest" a b c C_FewestTies _ rfl rfl ha hb (by decide +kernel) (by decide +kernel) (many_FewestTies _ _) (by_FewestTies (k+1) a b _) (made_FewestTies (k+2) a b _) (right_FewestTies (k+1) a b true rg (sums (by decide +kernel) ha hb))) ?_
  refine fl_cons rfl (two_step k "apart" a b c C_WaysApart _ rfl rfl ha hb (by decide +kernel) (by decide +kernel) (many_WaysApart _ _) (by_WaysApart (k+1) a b _) (made_WaysApart (k+2) a b _) (right_WaysApart (k+1) a b true rg (sums (by decide +kernel) ha hb))) ?_
  exact fl_nil
end K25
end

section
set_option Elab.async false
set_option linter.all false
set_option maxRecDepth 100000
set_option maxHeartbeats 2000000
namespace K25
open PySem L2 RB
def lawWords : List Str := ["way", "past", "together", "pieces", "border", "at"]
theorem lawWords_nm : ∀ z ∈ lawWords, Nm z := by
  intro z hz
  simp only [lawWords, List.mem_cons, List.not_mem_nil, or_false] at hz
  rcases hz with rfl | rfl | rfl | rfl | rfl | rfl <;> exact ⟨by decide +kernel, by decide +kernel, by decide +kernel⟩
def namesOf (n : Int) : List Str := if n / 11 % 2 = 0 then namesL n 12 else lawWords
theorem namesOf_nm (n : Int) : ∀ z ∈ namesOf n, Nm z := by
  unfold namesOf; split
  · exact namesL_nm n 12 (by decide)
  · exact lawWords_nm
theorem namesOf_pos (n : Int) : 0 < (namesOf n).length := by
  unfold namesOf; split
  · rw [namesL_len]; decide
  · decide
theorem slot5 (k : Nat) (S : DS) (n : Int) (hn : 0 ≤ n) (s4 : S.ds[4]? = some (some (.int n))) : PW (T (k+5)) S (.keep (.sub (.lst [.call 8 [.var 4, .int (12)], .lst [.str "way", .str "past", .str "together", .str "pieces", .str "border", .str "at"]]) (.bin .mod (.bin .fdiv (.var 4) (.int (11))) (.int (2))))) (.lst false ((namesOf n).map .str)) := by
  have hnm := names_c (k+4) n 12 hn (by decide) S.rg
  have hw1 : PW (T (k+5)) S (.call 8 [.var 4, .int (12)]) (.lst true ((namesL n 12).map .str)) := w_call (pa_var s4 (by decide) (pa_own w_int pa_nil)) (fun _ => rfl) hnm rfl
  have hw2 : PW (T (k+5)) S (.lst [.str "way", .str "past", .str "together", .str "pieces", .str "border", .str "at"]) (.lst true (lawWords.map .str)) := w_lst (ds := lawWords.map .str) (pwl_cons w_str (pwl_cons w_str (pwl_cons w_str (pwl_cons w_str (pwl_cons w_str (pwl_cons w_str pwl_nil)))))) (Nat.le_of_ble_eq_true rfl)
  have hl := w_lst (pwl_cons hw1 (pwl_cons hw2 pwl_nil)) (Nat.le_of_ble_eq_true rfl)
  have hi : PD [] (T (k+5)) S (.bin .mod (.bin .fdiv (.var 4) (.int (11))) (.int (2))) (.int (n / 11 % 2)) := PW.pd (w_bin (PW.pd (w_bin (d_var s4 rfl) w_int.pd (b_fdiv (by decide) (by decide)))) w_int.pd (b_mod (by decide)))
  rcases Int.emod_two_eq (n / 11) with e | e
  · have e2 : namesOf n = namesL n 12 := by unfold namesOf; rw [if_pos e]
    rw [e2]; rw [e] at hi
    refine w_keepE (w_subLO hl hi (by decide) rfl rfl) rfl ?_
    simp only [D.leak, leakL_strs]
  · have e2 : namesOf n = lawWords := by unfold namesOf; rw [if_neg (by omega)]
    rw [e2]; rw [e] at hi
    refine w_keepE (w_subLO hl hi (by decide) rfl rfl) rfl ?_
    simp only [D.leak, leakL_strs]
def pick (L : List Str) (n : Int) (i : Nat) : Str := L.getD ((n / (22 + (i : Int)) % (L.length : Int)).toNat) ""
theorem pick_nm {L : List Str} (h : ∀ z ∈ L, Nm z) (hp : 0 < L.length) (n : Int) (i : Nat) : Nm (pick L n i) := by
  have h1 : n / (22 + (i : Int)) % (L.length : Int) < L.length := Int.emod_lt_of_pos _ (by omega)
  have h0 : 0 ≤ n / (22 + (i : Int)) % (L.length : Int) := Int.emod_nonneg _ (by omega)
  have hlt : (n / (22 + (i : Int)) % (L.length : Int)).toNat < L.length := by omega
  unfold pick
  rw [List.getD_eq_getElem?_getD, List.getElem?_eq_getElem hlt]
  exact h _ (List.getElem_mem _)
theorem slot6 (k : Nat) (S : DS) (n : Int) (L : List Str) (hn : 0 ≤ n) (hp : 0 < L.length) (s4 : S.ds[4]? = some (some (.int n))) (s5 : S.ds[5]? = some (some (.lst false (L.map .str)))) (s7 : S.ds[7]? = some none) : PW (T (k+5)) S (.comp (.name 7) (.rng1 (.int (3))) none (.sub (.var 5) (.bin .mod (.bin .fdiv (.var 4) (.bin .add (.int (22)) (.var 7))) (.bi .len [.var 5])))) (.lst true [.str (pick L n 0), .str (pick L n 1), .str (pick L n 2)]) := by
  have hsrc : evSrc (T (k+5)) (.rng1 (.int (3))) S = .ok ((List.range 3).map fun (i : Nat) => .int (i : Int)) S := s_range (n := 3) w_int.pd rfl
  refine w_comp (emb := fun (i : Nat) => D.int (i : Int)) (f := fun (i : Nat) => D.str (pick L n i)) (ys := List.range 3) s7 hsrc (by decide) fun i hi => ?_
  rw [List.mem_range] at hi
  have h7 := lt_of_get s7
  have q4 : (S.put 7 (.int (i : Int))).ds[4]? = some (some (.int n)) := by simp only [DS.put]; rw [List.getElem?_set_ne (by decide)]; exact s4
  have q5 : (S.put 7 (.int (i : Int))).ds[5]? = some (some (.lst false (L.map .str))) := by simp only [DS.put]; rw [List.getElem?_set_ne (by decide)]; exact s5
  have q7 : (S.put 7 (.int (i : Int))).ds[7]? = some (some (.int (i : Int))) := by simp only [DS.put]; rw [List.getElem?_set_self h7]
  have hL : biD .len [.lst false (L.map .str)] = some (.int (L.length : Int)) := by simp [biD, lenD]
  have h1 : n / (22 + (i : Int)) % (L.length : Int) < L.length := Int.emod_lt_of_pos _ (by omega)
  have h0 : 0 ≤ n / (22 + (i : Int)) % (L.length : Int) := Int.emod_nonneg _ (by omega)
  have hlt : (n / (22 + (i : Int)) % (L.length : Int)).toNat < L.length := by omega
  refine w_subL (n := n / (22 + (i : Int)) % (L.length : Int)) (d_var q5 rfl) (PW.pd (w_bin (PW.pd (w_bin (d_var q4 rfl) (PW.pd (w_bin w_int.pd (d_var q7 rfl) rfl)) (b_fdiv (by omega) (by omega)))) (PW.pd (w_bi (pdl_cons (d_var q5 rfl) pdl_nil) hL)) (b_mod (by omega)))) h0 ?_ rfl rfl
  rw [List.getElem?_map, List.getElem?_eq_getElem hlt]
  simp only [Option.map_some, pick, List.getD_eq_getElem?_getD, List.getElem?_eq_getElem hlt, Option.getD_some]
theorem slot8 (k : Nat) (S : DS) (j : Nat) (s2 : S.ds[2]? = some (some (.lst false (wholes.map .str)))) (s3 : S.ds[3]? = some (some (.int (j : Int)))) : ∃ w cl, PW (T (k+5)) S (.keep (.sub (.var 2) (.bin .mod (.var 3) (.int (6))))) (.str w) ∧ WOk k w cl := by
  have h1 : (j : Int) % 6 < 6 := Int.emod_lt_of_pos _ (by decide)
  have h0 : 0 ≤ (j : Int) % 6 := Int.emod_nonneg _ (by decide)
  obtain ⟨w, cl, hm, hk⟩ := whole_ok k ((j : Int) % 6).toNat (by omega)
  exact ⟨w, cl, w_keepE (w_subL (d_var s2 rfl) (PW.pd (w_bin (d_var s3 rfl) w_int.pd (b_mod (by decide)))) h0 hm rfl rfl) rfl rfl, hk⟩
theorem law_c (k : Nat) (ns : List Int) (hl : ns.length ≤ 63) (rg : List D) : ∃ ps rg', (T (k+6)).call 12 [.scr ns] rg = .ret (.bl true) ps rg' := by
  rw [T_law]
  have hbig : ∃ m : Nat, m ≤ 63 ∧ ∀ S : DS, S.ds[0]? = some (some (.scr ns)) → PW (T (k+5)) S (.bi .max2 [.int (1), .bi .min2 [.int (63), .bi .len [.var 0]]]) (.int (m : Int)) := by
    by_cases hz : ns.length = 0
    · refine ⟨1, by decide, fun S h0 => w_bi (pdl_cons w_int.pd (pdl_cons (PW.pd (w_bi (pdl_cons w_int.pd (pdl_cons (PW.pd (w_bi (pdl_cons (d_var h0 rfl) pdl_nil) (d := .int (ns.length : Int)) rfl)) pdl_nil)) (d := .int 0) ?_)) pdl_nil)) ?_⟩
      · rw [hz]; rfl
      · rfl
    · refine ⟨ns.length, hl, fun S h0 => w_bi (pdl_cons w_int.pd (pdl_cons (PW.pd (w_bi (pdl_cons w_int.pd (pdl_cons (PW.pd (w_bi (pdl_cons (d_var h0 rfl) pdl_nil) (d := .int (ns.length : Int)) rfl)) pdl_nil)) (d := .int (ns.length : Int)) ?_)) pdl_nil)) ?_⟩
      · simp only [biD]; split
        · rfl
        · congr 2; omega
      · simp only [biD]; split
        · rfl
        · congr 2; omega
  obtain ⟨m, hm, hsrcW⟩ := hbig
  let I : DS → Prop := fun S => ∃ x3 x4 x5 x6 x8, S = ⟨[some (.scr ns), some (.lst false (twos.map .str)), some (.lst false (wholes.map .str)), x3, x4, x5, x6, none, x8], rg⟩
  obtain ⟨S', hS', x3, x4, x5, x6, x8, rfl⟩ := fl_inv (t := T (k+5)) (np := 1) (g := .name 3) (sb := [.asg (.name 4) (.keep (.call 7 [.var 0, .var 3])),
    .asg (.name 5) (.keep (.sub (.lst [.call 8 [.var 4, .int (12)], .lst [.str "way", .str "past", .str "together", .str "pieces", .str "border", .str "at"]]) (.bin .mod (.bin .fdiv (.var 4) (.int (11))) (.int (2))))),
    .asg (.name 6) (.comp (.name 7) (.rng1 (.int (3))) none (.sub (.var 5) (.bin .mod (.bin .fdiv (.var 4) (.bin .add (.int (22)) (.var 7))) (.bi .len [.var 5])))),
    .forS (.name 8) (.seq (.var 1)) twoB,
    .ife (.notE (.call 11 [.keep (.call 6 [.bm .join (.str " ") [.bin .add (.lst [.str "past"]) (.var 6)]]), .str "past", .var 6])) [.ret (.bl false)] [],
    .ife (.notE (.call 11 [.keep (.call 10 [.str "past", .var 6]), .str "past", .var 6])) [.ret (.bl false)] [],
    .asg (.name 8) (.keep (.sub (.var 2) (.bin .mod (.var 3) (.int (6))))),
    .ife (.orE (.notE (.call 11 [.keep (.call 6 [.var 8]), .var 8, .keep (.lst [])])) (.notE (.call 11 [.keep (.call 10 [.var 8, .keep (.lst [])]), .var 8, .keep (.lst [])]))) [.ret (.bl false)] []]) (emb := fun (i : Nat) => D.int (i : Int)) I (List.range m) (by
      rintro j hj S ⟨x3, x4, x5, x6, x8, rfl⟩
      rw [List.mem_range] at hj
      obtain ⟨n, hn, hn2, hnc⟩ := number_c (k+4) ns (j : Int) (by omega) (by omega) rg
      have hp := namesOf_pos n
      have hN := namesOf_nm n
      have ha := pick_nm hN hp n 0
      have hb := pick_nm hN hp n 1
      have hc := pick_nm hN hp n 2
      obtain ⟨y8, hin⟩ := inner k (pick (namesOf n) n 0) (pick (namesOf n) n 1) (pick (namesOf n) n 2) (some (.scr ns)) (some (.lst false (twos.map .str))) (some (.lst false (wholes.map .str))) (some (.int (j : Int))) (some (.int n)) (some (.lst false ((namesOf n).map .str))) none x8 rg ha hb
      obtain ⟨w, cl, h8, hW⟩ := slot8 k ⟨[some (.scr ns), some (.lst false (twos.map .str)), some (.lst false (wholes.map .str)), some (.int (j : Int)), some (.int n), some (.lst false ((namesOf n).map .str)), some (.lst true [.str (pick (namesOf n) n 0), .str (pick (namesOf n) n 1), .str (pick (namesOf n) n 2)]), none, y8], rg⟩ j rfl rfl
      refine ⟨⟨[some (.scr ns), some (.lst false (twos.map .str)), some (.lst false (wholes.map .str)), some (.int (j : Int)), x4, x5, x6, none, x8], rg⟩, rfl, ⟨[some (.scr ns), some (.lst false (twos.map .str)), some (.lst false (wholes.map .str)), some (.int (j : Int)), some (.int n), some (.lst false ((namesOf n).map .str)), some (.lst true [.str (pick (namesOf n) n 0), .str (pick (namesOf n) n 1), .str (pick (namesOf n) n 2)]), none, some (.str w)], rg⟩, ?_, _, _, _, _, _, rfl⟩
      refine x_asg (w_keep (d := .int n) (w_call (pa_var rfl (by decide) (pa_var rfl (by decide) pa_nil)) (fun _ => rfl) (hnc rg) rfl) rfl) (by decide) (Nat.le_of_ble_eq_true rfl) ?_
      refine x_asg (slot5 k _ n hn rfl) (by decide) (Nat.le_of_ble_eq_true rfl) ?_
      refine x_asg (slot6 k _ n (namesOf n) hn hp rfl rfl rfl) (by decide) (Nat.le_of_ble_eq_true rfl) ?_
      refine x_for (s_list (xs := twos.map .str) (o := false) (w_var rfl rfl (by decide +kernel))) (by rw [leakL_strs]; exact hin) ?_
      refine past_step k _ _ _ _ rfl ha hb hc ?_
      refine x_asg h8 (by decide) (Nat.le_of_ble_eq_true rfl) ?_
      exact whole_step k w cl _ rfl hW x_nil) ⟨[some (.scr ns), some (.lst false (twos.map .str)), some (.lst false (wholes.map .str)), none, none, none, none, none, none], rg⟩ ⟨_, _, _, _, _, rfl⟩
  refine ⟨_, _, run_of (S2 := ⟨[some (.scr ns), some (.lst false (twos.map .str)), some (.lst false (wholes.map .str)), x3, x4, x5, x6, none, x8], rg⟩) rfl ?_⟩
  refine x_asg (d := .lst false (twos.map .str)) (w_keepE (w_lst (ds := twos.map .str) (pwl_cons w_str (pwl_cons w_str (pwl_cons w_str (pwl_cons w_str (pwl_cons w_str (pwl_cons w_str (pwl_cons w_str (pwl_cons w_str pwl_nil)))))))) (Nat.le_of_ble_eq_true rfl)) rfl rfl) (by decide) (Nat.le_of_ble_eq_true rfl) ?_
  refine x_asg (d := .lst false (wholes.map .str)) (w_keepE (w_lst (ds := wholes.map .str) (pwl_cons w_str (pwl_cons w_str (pwl_cons w_str (pwl_cons w_str (pwl_cons w_str (pwl_cons w_str pwl_nil)))))) (Nat.le_of_ble_eq_true rfl)) rfl rfl) (by decide) (Nat.le_of_ble_eq_true rfl) ?_
  refine x_for (s_range (PW.pd (hsrcW _ rfl)) (by simp [rngOk]; omega)) (by rw [rng_map]; exact hS') ?_
  exact x_ret w_bl
end K25
end

section
set_option Elab.async false
set_option linter.all false
theorem PySem.Challenge.cw_reachbook_k25_questions_as_texts_holds : PySem.Challenge.rw_reachbook_k25_questions_as_texts.Holds :=
  K25.head fun ns h => K25.law_c 2 ns h []
end
