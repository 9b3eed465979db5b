import PyProof.Rows.All
import Wide.All
import OpenK.AllK
import Wide.FinOn
import HandS.ForMost
import HandS.Wide
import KE.KDictKeyed
import HandS.TupAny
import HandS.TupMul
import HandS.Style
import HandS.Deep
import HandS.IsInst
import KE.SortData
import HandS.Zip
import KE.GoesEnum
import HandS.TupSets
import HandS.SetFor
import KE.DataMinMax
import PySem.Challenge.RW_realpauses_k01_machines_and_rows_known
set_option Elab.async false
set_option linter.all false
set_option maxRecDepth 100000
section
set_option maxHeartbeats 4000000
/-! values by content: what stands at a slot, told without addresses; which objects a slot owns alone -/
namespace MV
open PySem PySem.Spec PyProof.Rows L2

/-- a value by content. m: this object is owned (may still be changed); t: a dict whose keys are tuples -/
inductive Val where
  | non
  | bl (b : Bool)
  | int (i : Int)
  | str (z : Str)
  | tup (xs : List Val)
  | lst (m : Bool) (xs : List Val)
  | dct (m t : Bool) (ks vs : List Val)
  /-- the script: a list of ints that is looked at alone -/
  | scr (ns : List Int)

abbrev Sl := List (Option Val)

mutual
def Val.pure : Val → Bool
  | .non => true
  | .bl _ => true
  | .int _ => true
  | .str _ => true
  | .tup xs => pureL xs
  | .lst m xs => !m && pureL xs
  | .dct m _ _ vs => !m && pureL vs
  | .scr _ => true
def pureL : List Val → Bool
  | [] => true
  | x :: r => x.pure && pureL r
end
mutual
def Val.frz : Val → Val
  | .non => .non
  | .bl b => .bl b
  | .int i => .int i
  | .str z => .str z
  | .tup xs => .tup (frzL xs)
  | .lst _ xs => .lst false (frzL xs)
  | .dct _ t ks vs => .dct false t ks (frzL vs)
  | .scr ns => .scr ns
def frzL : List Val → List Val
  | [] => []
  | x :: r => x.frz :: frzL r
end
mutual
def Val.own : Val → Bool
  | .non => true
  | .bl _ => true
  | .int _ => true
  | .str _ => true
  | .tup xs => ownL xs
  | .lst m xs => m && ownL xs
  | .dct m _ ks vs => m && ownL ks && ownL vs
  | .scr _ => false
def ownL : List Val → Bool
  | [] => true
  | x :: r => x.own && ownL r
end
mutual
def Val.toD : Val → PyData
  | .non => .none
  | .bl b => .bool b
  | .int i => .int i
  | .str z => .str z
  | .tup xs => .tuple (toDL xs)
  | .lst _ xs => .list (toDL xs)
  | .dct _ _ _ _ => .dict []
  | .scr _ => .dict []
def toDL : List Val → List PyData
  | [] => []
  | x :: r => x.toD :: toDL r
end
mutual
def Val.nkey : Val → Option NestedKey
  | .non => some .none
  | .bl b => some (.num (if b then 1 else 0))
  | .int i => some (.num i)
  | .str z => some (.text z)
  | .tup xs => (nkeyL xs).map .tup
  | .lst _ _ => none
  | .dct _ _ _ _ => none
  | .scr _ => none
def nkeyL : List Val → Option (List NestedKey)
  | [] => some []
  | x :: r => match x.nkey, nkeyL r with
    | some k, some ks => some (k :: ks)
    | _, _ => none
end
def keyVal : Key → Val
  | .inl i => .int i
  | .inr z => .str z

mutual
theorem frz_pure : ∀ x : Val, x.frz.pure = true
  | .non => rfl
  | .bl _ => rfl
  | .int _ => rfl
  | .str _ => rfl
  | .tup xs => by simp only [Val.frz, Val.pure]; exact frzL_pure xs
  | .lst _ xs => by simp only [Val.frz, Val.pure, frzL_pure xs]; rfl
  | .dct _ _ _ vs => by simp only [Val.frz, Val.pure, frzL_pure vs]; rfl
  | .scr _ => rfl
theorem frzL_pure : ∀ xs : List Val, pureL (frzL xs) = true
  | [] => rfl
  | x :: r => by simp only [frzL, pureL, frz_pure x, frzL_pure r]; rfl
end
mutual
theorem frz_of_pure : ∀ x : Val, x.pure = true → x.frz = x
  | .non, _ => rfl
  | .bl _, _ => rfl
  | .int _, _ => rfl
  | .str _, _ => rfl
  | .tup xs, h => by simp only [Val.pure] at h; simp only [Val.frz, frzL_of_pure xs h]
  | .lst m xs, h => by
    simp only [Val.pure, Bool.and_eq_true, Bool.not_eq_true'] at h
    simp only [Val.frz, frzL_of_pure xs h.2, h.1]
  | .dct m _ _ vs, h => by
    simp only [Val.pure, Bool.and_eq_true, Bool.not_eq_true'] at h
    simp only [Val.frz, frzL_of_pure vs h.2, h.1]
  | .scr _, _ => rfl
theorem frzL_of_pure : ∀ xs : List Val, pureL xs = true → frzL xs = xs
  | [], _ => rfl
  | x :: r, h => by
    simp only [pureL, Bool.and_eq_true] at h
    simp only [frzL, frz_of_pure x h.1, frzL_of_pure r h.2]
end
theorem frzL_map (xs : List Val) : frzL xs = xs.map Val.frz := by
  induction xs with
  | nil => rfl
  | cons x r ih => simp only [frzL, List.map_cons, ih]
theorem pureL_all (xs : List Val) : pureL xs = xs.all Val.pure := by
  induction xs with
  | nil => rfl
  | cons x r ih => simp only [pureL, List.all_cons, ih]
theorem toDL_map (xs : List Val) : toDL xs = xs.map Val.toD := by
  induction xs with
  | nil => rfl
  | cons x r ih => simp only [toDL, List.map_cons, ih]

/-! ### the relation -/
/-- a dict with tuple keys, by what its one object holds -/
def DctT (P : Program) (w : World) (a : Addr) (es : List (NestedKey × V × V)) : HO :=
  .ext fun h => (a == sysModules) = false ∧ es.length ≤ sizeLine ∧ ∃ o ds ep, h.get? a = some o ∧ o.ExactDict ∧ o.data = .dict ds ep ∧
    Paired (fun (e : NestedKey × V × V) (d : DictEntry) => d.hash = (nestedKind P w).hash e.1 ∧ RelV e.2.1 d.key ∧ RelV e.2.2 d.val) es ds.toList

def KTup (K : PySem.W.Frag) (a : Addr) (vs : List V) : Prop :=
  ∃ (o : Obj) (its : Array Value) (n : Nat), K.lookup a = some o ∧ o.cls = .type "tuple" ∧ o.data = .seq its n ∧ its.size ≤ sizeLine ∧ Vals vs its.toList
def TupAt (K : PySem.W.Frag) (F : Addr → Prop) (H : Hp) (a : Addr) (vs : List V) : Prop := (F a ∧ H a = some (.tup vs)) ∨ KTup K a vs
theorem TupAt.sq {K F H a vs} (h : TupAt K F H a vs) : SqT K H a vs := by
  rcases h with ⟨_, h⟩ | h
  · exact SqT.of h
  · exact .inr h
/-- u stands at a; owned: a is told in the list L, in front of what is owned below it -/
def At (F : Addr → Prop) (H : Hp) (m : Bool) (a : Addr) (u : HO) (L0 L : List Addr) : Prop :=
  if m = true then H a = some u ∧ L = a :: L0 else F a ∧ H a = some u ∧ L0 = [] ∧ L = []
/-- the same of a dict, which a walk may lock -/
def AtD (F : Addr → Prop) (H : Hp) (m : Bool) (a : Addr) (u : HO) (L0 L : List Addr) : Prop :=
  if m = true then H a = some u ∧ L = a :: L0 else F a ∧ Rd H a u ∧ L0 = [] ∧ L = []
def KLst (K : PySem.W.Frag) (a : Addr) (xs : List V) : Prop :=
  ∃ (o : Obj) (its : Array Value) (n : Nat), K.lookup a = some o ∧ o.cls = .type "list" ∧ o.dict = none ∧ o.data = .seq its n ∧ its.size ≤ sizeLine ∧ Vals xs its.toList
def ScrAt (K : PySem.W.Frag) (F : Addr → Prop) (H : Hp) (a : Addr) (xs : List V) : Prop := (F a ∧ Rd H a (.lst xs)) ∨ KLst K a xs
theorem ScrAt.sq {K F H a xs} (h : ScrAt K F H a xs) : SqL K H a xs := by
  rcases h with ⟨_, h⟩ | h
  · exact .inl h
  · exact .inr h

section
variable (P : Program) (w : World) (K : PySem.W.Frag) (F : Addr → Prop) (H : Hp)
mutual
inductive VR : V → Val → List Addr → Prop
  | non : VR .non .non []
  | bl (b : Bool) : VR (.bl b) (.bl b) []
  | int (i : Int) : VR (.int i) (.int i) []
  | str (z : Str) : VR (.str z) (.str z) []
  | tup {a : Addr} {vs : List V} {xs : List Val} {L : List Addr} : TupAt K F H a vs → VRs vs xs L → VR (.ref a) (.tup xs) L
  | lst {a : Addr} {m : Bool} {vs : List V} {xs : List Val} {L0 L : List Addr} : At F H m a (.lst vs) L0 L → VRs vs xs L0 → VR (.ref a) (.lst m xs) L
  | scr {a : Addr} {ns : List Int} : ScrAt K F H a (ns.map V.int) → VR (.ref a) (.scr ns) []
  | dK {a : Addr} {m : Bool} {kv : List (Key × V)} {ks ys : List Val} {L0 L : List Addr} : AtD F H m a (.dK kv) L0 L → ks = kv.map (fun p => keyVal p.1) → VRs (kv.map (·.2)) ys L0 → VR (.ref a) (.dct m false ks ys) L
  | dT {a : Addr} {m : Bool} {es : List (NestedKey × V × V)} {ks ys : List Val} {L0 L : List Addr} : AtD F H m a (DctT P w a es) L0 L → (es.map (·.1)).Nodup → ks.map Val.nkey = es.map (fun e => some e.1) → VRs (es.map (·.2.1)) ks [] → VRs (es.map (·.2.2)) ys L0 →
      VR (.ref a) (.dct m true ks ys) L
inductive VRs : List V → List Val → List Addr → Prop
  | nil : VRs [] [] []
  | cons {v : V} {x : Val} {L : List Addr} {vs : List V} {xs : List Val} {L' : List Addr} : VR v x L → VRs vs xs L' → VRs (v :: vs) (x :: xs) (L ++ L')
end
end

section
variable {P : Program} {w : World} {K : PySem.W.Frag} {F F' : Addr → Prop} {H H' : Hp}

theorem VRs.length : ∀ {vs : List V} {xs : List Val} {L : List Addr}, VRs P w K F H vs xs L → vs.length = xs.length
  | _, _, _, .nil => rfl
  | _, _, _, .cons _ t => congrArg (· + 1) (VRs.length t)

theorem TupAt.mono {a : Addr} {vs : List V} (fs : ∀ a, F a → F' a) (fh : ∀ a, F a → H' a = H a) (h : TupAt K F H a vs) : TupAt K F' H' a vs := by
  rcases h with ⟨h1, h2⟩ | h
  · exact .inl ⟨fs a h1, (fh a h1).trans h2⟩
  · exact .inr h
theorem Rd.eqH {a : Addr} {u : HO} (e : H' a = H a) (h : Rd H a u) : Rd H' a u := by
  rcases h with h | ⟨o, h⟩
  · exact .inl (e.trans h)
  · exact .inr ⟨o, e.trans h⟩
theorem At.mono {m : Bool} {a : Addr} {u : HO} {L0 L : List Addr} (fs : ∀ a, F a → F' a) (fh : ∀ a, F a → H' a = H a) (h : At F H m a u L0 L) (hl : ∀ a ∈ L, H' a = H a) : At F' H' m a u L0 L ∧ ∀ b ∈ L0, H' b = H b := by
  unfold At at h ⊢
  cases m with
  | true =>
    simp only [if_true] at h ⊢
    obtain ⟨h1, rfl⟩ := h
    exact ⟨⟨(hl a List.mem_cons_self).trans h1, rfl⟩, fun b hb => hl b (List.mem_cons_of_mem _ hb)⟩
  | false =>
    simp only [Bool.false_eq_true, if_false] at h ⊢
    obtain ⟨h1, h2, rfl, rfl⟩ := h
    exact ⟨⟨fs a h1, (fh a h1).trans h2, rfl, rfl⟩, fun b hb => nomatch hb⟩
theorem AtD.mono {m : Bool} {a : Addr} {u : HO} {L0 L : List Addr} (fs : ∀ a, F a → F' a) (fh : ∀ a, F a → H' a = H a) (h : AtD F H m a u L0 L) (hl : ∀ a ∈ L, H' a = H a) : AtD F' H' m a u L0 L ∧ ∀ b ∈ L0, H' b = H b := by
  unfold AtD at h ⊢
  cases m with
  | true =>
    simp only [if_true] at h ⊢
    obtain ⟨h1, rfl⟩ := h
    exact ⟨⟨(hl a List.mem_cons_self).trans h1, rfl⟩, fun b hb => hl b (List.mem_cons_of_mem _ hb)⟩
  | false =>
    simp only [Bool.false_eq_true, if_false] at h ⊢
    obtain ⟨h1, h2, rfl, rfl⟩ := h
    exact ⟨⟨fs a h1, Rd.eqH (fh a h1) h2, rfl, rfl⟩, fun b hb => nomatch hb⟩
theorem ScrAt.mono {a : Addr} {xs : List V} (fs : ∀ a, F a → F' a) (fh : ∀ a, F a → H' a = H a) (h : ScrAt K F H a xs) : ScrAt K F' H' a xs := by
  rcases h with ⟨h1, h2⟩ | h
  · exact .inl ⟨fs a h1, Rd.eqH (fh a h1) h2⟩
  · exact .inr h
mutual
theorem VR.mono (fs : ∀ a, F a → F' a) (fh : ∀ a, F a → H' a = H a) : ∀ {v : V} {x : Val} {L : List Addr}, VR P w K F H v x L → (∀ a ∈ L, H' a = H a) → VR P w K F' H' v x L
  | _, _, _, .non, _ => .non
  | _, _, _, .bl b, _ => .bl b
  | _, _, _, .int i, _ => .int i
  | _, _, _, .str z, _ => .str z
  | _, _, _, .tup h t, hl => .tup (h.mono fs fh) (VRs.mono fs fh t hl)
  | _, _, _, .lst h t, hl => .lst (h.mono fs fh hl).1 (VRs.mono fs fh t (h.mono fs fh hl).2)
  | _, _, _, .scr h, hl => .scr (h.mono fs fh)
  | _, _, _, .dK h e t, hl => .dK (h.mono fs fh hl).1 e (VRs.mono fs fh t (h.mono fs fh hl).2)
  | _, _, _, .dT h n e k t, hl => .dT (h.mono fs fh hl).1 n e (VRs.mono fs fh k (fun _ z => nomatch z)) (VRs.mono fs fh t (h.mono fs fh hl).2)
theorem VRs.mono (fs : ∀ a, F a → F' a) (fh : ∀ a, F a → H' a = H a) : ∀ {vs : List V} {xs : List Val} {L : List Addr}, VRs P w K F H vs xs L → (∀ a ∈ L, H' a = H a) → VRs P w K F' H' vs xs L
  | _, _, _, .nil, _ => .nil
  | _, _, _, .cons h t, hl => .cons (VR.mono fs fh h fun a ha => hl a (List.mem_append_left _ ha)) (VRs.mono fs fh t fun a ha => hl a (List.mem_append_right _ ha))
end

theorem At.frz {m : Bool} {a : Addr} {u : HO} {L0 L : List Addr} (fs : ∀ a, F a → F' a) (h : At F H m a u L0 L) (hl : ∀ a ∈ L, F' a) : At F' H false a u [] [] ∧ ∀ b ∈ L0, F' b := by
  unfold At at h ⊢
  simp only [Bool.false_eq_true, if_false]
  cases m with
  | true =>
    simp only [if_true] at h
    obtain ⟨h1, rfl⟩ := h
    exact ⟨⟨hl a List.mem_cons_self, h1, trivial, trivial⟩, fun b hb => hl b (List.mem_cons_of_mem _ hb)⟩
  | false =>
    simp only [Bool.false_eq_true, if_false] at h
    obtain ⟨h1, h2, rfl, rfl⟩ := h
    exact ⟨⟨fs a h1, h2, trivial, trivial⟩, fun b hb => nomatch hb⟩
theorem AtD.frz {m : Bool} {a : Addr} {u : HO} {L0 L : List Addr} (fs : ∀ a, F a → F' a) (h : AtD F H m a u L0 L) (hl : ∀ a ∈ L, F' a) : AtD F' H false a u [] [] ∧ ∀ b ∈ L0, F' b := by
  unfold AtD at h ⊢
  simp only [Bool.false_eq_true, if_false]
  cases m with
  | true =>
    simp only [if_true] at h
    obtain ⟨h1, rfl⟩ := h
    exact ⟨⟨hl a List.mem_cons_self, .inl h1, trivial, trivial⟩, fun b hb => hl b (List.mem_cons_of_mem _ hb)⟩
  | false =>
    simp only [Bool.false_eq_true, if_false] at h
    obtain ⟨h1, h2, rfl, rfl⟩ := h
    exact ⟨⟨fs a h1, h2, trivial, trivial⟩, fun b hb => nomatch hb⟩
mutual
theorem VR.frz (fs : ∀ a, F a → F' a) : ∀ {v : V} {x : Val} {L : List Addr}, VR P w K F H v x L → (∀ a ∈ L, F' a) → VR P w K F' H v x.frz []
  | _, _, _, .non, _ => .non
  | _, _, _, .bl b, _ => .bl b
  | _, _, _, .int i, _ => .int i
  | _, _, _, .str z, _ => .str z
  | _, _, _, .tup h t, hl => by simp only [Val.frz]; exact .tup (h.mono fs fun _ _ => rfl) (VRs.frz fs t hl)
  | _, _, _, .lst h t, hl => by simp only [Val.frz]; exact .lst (h.frz fs hl).1 (VRs.frz fs t (h.frz fs hl).2)
  | _, _, _, .scr h, hl => by simp only [Val.frz]; exact .scr (h.mono fs fun _ _ => rfl)
  | _, _, _, .dK h e t, hl => by simp only [Val.frz]; exact .dK (h.frz fs hl).1 e (VRs.frz fs t (h.frz fs hl).2)
  | _, _, _, .dT h n e k t, hl => by simp only [Val.frz]; exact .dT (h.frz fs hl).1 n e (VRs.mono fs (fun _ _ => rfl) k (fun _ z => nomatch z)) (VRs.frz fs t (h.frz fs hl).2)
theorem VRs.frz (fs : ∀ a, F a → F' a) : ∀ {vs : List V} {xs : List Val} {L : List Addr}, VRs P w K F H vs xs L → (∀ a ∈ L, F' a) → VRs P w K F' H vs (frzL xs) []
  | _, _, _, .nil, _ => .nil
  | _, _, _, .cons h t, hl => by
    simp only [frzL]
    exact .cons (VR.frz fs h fun a ha => hl a (List.mem_append_left _ ha)) (VRs.frz fs t fun a ha => hl a (List.mem_append_right _ ha))
end
mutual
theorem VR.pure_nil : ∀ {v : V} {x : Val} {L : List Addr}, VR P w K F H v x L → x.pure = true → L = []
  | _, _, _, .non, _ => rfl
  | _, _, _, .bl b, _ => rfl
  | _, _, _, .int i, _ => rfl
  | _, _, _, .str z, _ => rfl
  | _, _, _, .tup h t, p => VRs.pure_nil t (by simpa [Val.pure] using p)
  | _, _, _, .lst (m := m) h t, p => by
    cases m with
    | true => simp [Val.pure] at p
    | false =>
      simp only [At, Bool.false_eq_true, if_false] at h
      exact h.2.2.2
  | _, _, _, .scr h, p => rfl
  | _, _, _, .dK (m := m) h e t, p => by
    cases m with
    | true => simp [Val.pure] at p
    | false =>
      simp only [AtD, Bool.false_eq_true, if_false] at h
      exact h.2.2.2
  | _, _, _, .dT (m := m) h n e k t, p => by
    cases m with
    | true => simp [Val.pure] at p
    | false =>
      simp only [AtD, Bool.false_eq_true, if_false] at h
      exact h.2.2.2
theorem VRs.pure_nil : ∀ {vs : List V} {xs : List Val} {L : List Addr}, VRs P w K F H vs xs L → pureL xs = true → L = []
  | _, _, _, .nil, _ => rfl
  | _, _, _, .cons h t, p => by
    simp only [pureL, Bool.and_eq_true] at p
    rw [VR.pure_nil h p.1, VRs.pure_nil t p.2, List.append_nil]
end
theorem At.lt {m : Bool} {a : Addr} {u : HO} {L0 L : List Addr} (h : At F H m a u L0 L) (h0 : ∀ b ∈ L0, ∃ o, H b = some o ∧ ∀ vs, o ≠ .tup vs) (hu : ∀ vs, u ≠ .tup vs) : ∀ b ∈ L, ∃ o, H b = some o ∧ ∀ vs, o ≠ .tup vs := by
  unfold At at h
  cases m with
  | true =>
    simp only [if_true] at h
    obtain ⟨h1, rfl⟩ := h
    intro b hb
    rcases List.mem_cons.mp hb with rfl | hb
    · exact ⟨u, h1, hu⟩
    · exact h0 b hb
  | false =>
    simp only [Bool.false_eq_true, if_false] at h
    obtain ⟨_, _, _, rfl⟩ := h
    exact fun b hb => nomatch hb
theorem AtD.lt {m : Bool} {a : Addr} {u : HO} {L0 L : List Addr} (h : AtD F H m a u L0 L) (h0 : ∀ b ∈ L0, ∃ o, H b = some o ∧ ∀ vs, o ≠ .tup vs) (hu : ∀ vs, u ≠ .tup vs) : ∀ b ∈ L, ∃ o, H b = some o ∧ ∀ vs, o ≠ .tup vs := by
  unfold AtD at h
  cases m with
  | true =>
    simp only [if_true] at h
    obtain ⟨h1, rfl⟩ := h
    intro b hb
    rcases List.mem_cons.mp hb with rfl | hb
    · exact ⟨u, h1, hu⟩
    · exact h0 b hb
  | false =>
    simp only [Bool.false_eq_true, if_false] at h
    obtain ⟨_, _, _, rfl⟩ := h
    exact fun b hb => nomatch hb
mutual
theorem VR.lt : ∀ {v : V} {x : Val} {L : List Addr}, VR P w K F H v x L → ∀ b ∈ L, ∃ o, H b = some o ∧ ∀ vs, o ≠ .tup vs
  | _, _, _, .non => fun _ z => nomatch z
  | _, _, _, .bl b => fun _ z => nomatch z
  | _, _, _, .int i => fun _ z => nomatch z
  | _, _, _, .str z => fun _ z => nomatch z
  | _, _, _, .tup h t => VRs.lt t
  | _, _, _, .lst h t => h.lt (VRs.lt t) (fun _ e => nomatch e)
  | _, _, _, .scr h => fun _ z => nomatch z
  | _, _, _, .dK h e t => h.lt (VRs.lt t) (fun _ e => nomatch e)
  | _, _, _, .dT h n e k t => h.lt (VRs.lt t) (fun _ e => nomatch e)
theorem VRs.lt : ∀ {vs : List V} {xs : List Val} {L : List Addr}, VRs P w K F H vs xs L → ∀ b ∈ L, ∃ o, H b = some o ∧ ∀ vs, o ≠ .tup vs
  | _, _, _, .nil => fun _ z => nomatch z
  | _, _, _, .cons h t => fun b hb => (List.mem_append.mp hb).elim (VR.lt h b) (VRs.lt t b)
end
theorem At.strip {m : Bool} {a : Addr} {u : HO} {L0 L : List Addr} (h : At F H m a u L0 L) (hm : m = true) : At F' H m a u L0 L := by
  subst hm
  simpa only [At, if_true] using h
theorem AtD.strip {m : Bool} {a : Addr} {u : HO} {L0 L : List Addr} (h : AtD F H m a u L0 L) (hm : m = true) : AtD F' H m a u L0 L := by
  subst hm
  simpa only [AtD, if_true] using h
mutual
theorem VR.strip (ft : ∀ a vs, F a → H a = some (.tup vs) → F' a) : ∀ {v : V} {x : Val} {L : List Addr}, VR P w K F H v x L → x.own = true → VR P w K F' H v x L
  | _, _, _, .non, _ => .non
  | _, _, _, .bl b, _ => .bl b
  | _, _, _, .int i, _ => .int i
  | _, _, _, .str z, _ => .str z
  | _, _, _, .tup h t, o => by
    refine .tup ?_ (VRs.strip ft t (by simpa [Val.own] using o))
    rcases h with ⟨h1, h2⟩ | h
    · exact .inl ⟨ft _ _ h1 h2, h2⟩
    · exact .inr h
  | _, _, _, .lst h t, o => by
    simp only [Val.own, Bool.and_eq_true] at o
    exact .lst (h.strip o.1) (VRs.strip ft t o.2)
  | _, _, _, .scr h, o => by simp [Val.own] at o
  | _, _, _, .dK h e t, o => by
    simp only [Val.own, Bool.and_eq_true] at o
    exact .dK (h.strip o.1.1) e (VRs.strip ft t o.2)
  | _, _, _, .dT h n e k t, o => by
    simp only [Val.own, Bool.and_eq_true] at o
    exact .dT (h.strip o.1.1) n e (VRs.strip ft k o.1.2) (VRs.strip ft t o.2)
theorem VRs.strip (ft : ∀ a vs, F a → H a = some (.tup vs) → F' a) : ∀ {vs : List V} {xs : List Val} {L : List Addr}, VRs P w K F H vs xs L → ownL xs = true → VRs P w K F' H vs xs L
  | _, _, _, .nil, _ => .nil
  | _, _, _, .cons h t, o => by
    simp only [ownL, Bool.and_eq_true] at o
    exact .cons (VR.strip ft h o.1) (VRs.strip ft t o.2)
end

theorem VRs.get : ∀ {vs : List V} {xs : List Val} {L : List Addr} {i : Nat} {x : Val}, VRs P w K F H vs xs L → xs[i]? = some x → ∃ v L1, vs[i]? = some v ∧ VR P w K F H v x L1 ∧ L1.Sublist L
  | _, _, _, _, _, .nil, e => by simp at e
  | _, _, _, 0, _, .cons (L := L) (L' := L') h t, e => by
    simp at e; subst e
    exact ⟨_, _, rfl, h, List.sublist_append_left _ _⟩
  | _, _, _, i + 1, x, .cons (L := L) (L' := L') h t, e => by
    obtain ⟨v, L1, h1, h2, h3⟩ := VRs.get (i := i) (x := x) t (by simpa using e)
    exact ⟨v, L1, by simpa using h1, h2, h3.trans (List.sublist_append_right _ _)⟩
theorem VRs.append : ∀ {vs : List V} {xs : List Val} {L : List Addr} {ws : List V} {ys : List Val} {M : List Addr}, VRs P w K F H vs xs L → VRs P w K F H ws ys M → VRs P w K F H (vs ++ ws) (xs ++ ys) (L ++ M)
  | _, _, _, _, _, _, .nil, s => s
  | _, _, _, _, _, _, .cons h t, s => by rw [List.append_assoc]; exact .cons h (VRs.append t s)
/-- of pure values: no list L to carry -/
theorem VRs.pureL {vs : List V} {xs : List Val} {L : List Addr} (h : VRs P w K F H vs xs L) (p : pureL xs = true) : VRs P w K F H vs xs [] := by
  have e := h.pure_nil p
  subst e; exact h
theorem VR.pureV {v : V} {x : Val} {L : List Addr} (h : VR P w K F H v x L) (p : x.pure = true) : VR P w K F H v x [] := by
  have e := h.pure_nil p
  subst e; exact h
end
end MV
end

section
set_option maxHeartbeats 4000000
/-! slots by content, what a step of the program may change, the judgements over the layer's -/
namespace MV
open PySem PySem.Spec PyProof.Rows L2

abbrev S2 := L2.St
/-- L is a part of M -/
def Sub (L M : List Addr) : Prop := ∃ R, M.Perm (L ++ R)
theorem Sub.refl (L : List Addr) : Sub L L := ⟨[], by rw [List.append_nil]⟩
theorem Sub.of_perm {L M : List Addr} (h : L.Perm M) : Sub L M := ⟨[], by rw [List.append_nil]; exact h.symm⟩
theorem Sub.trans {L M N : List Addr} (a : Sub L M) (b : Sub M N) : Sub L N := by
  obtain ⟨R, h⟩ := a
  obtain ⟨R', h'⟩ := b
  exact ⟨R ++ R', h'.trans (by rw [← List.append_assoc]; exact h.append_right R')⟩
theorem Sub.left (L M : List Addr) : Sub L (L ++ M) := ⟨M, List.Perm.refl _⟩
theorem Sub.right (L M : List Addr) : Sub M (L ++ M) := ⟨L, List.perm_append_comm⟩
theorem Sub.mem {L M : List Addr} (h : Sub L M) {a : Addr} (ha : a ∈ L) : a ∈ M := by
  obtain ⟨R, h⟩ := h
  exact h.mem_iff.mpr (List.mem_append_left _ ha)
theorem Sub.nodup {L M : List Addr} (h : Sub L M) (n : M.Nodup) : L.Nodup := by
  obtain ⟨R, h⟩ := h
  exact (List.nodup_append.mp (h.nodup_iff.mp n)).1
theorem Sub.app {L M L' M' : List Addr} (a : Sub L M) (b : Sub L' M') : Sub (L ++ L') (M ++ M') := by
  obtain ⟨R, h⟩ := a
  obtain ⟨R', h'⟩ := b
  refine ⟨R ++ R', (h.append h').trans ?_⟩
  rw [List.append_assoc, List.append_assoc]
  refine List.Perm.append_left _ ?_
  rw [← List.append_assoc, ← List.append_assoc]
  exact List.perm_append_comm.append_right _
theorem Sub.of_sublist {L M : List Addr} (h : L.Sublist M) : Sub L M := by
  induction h with
  | slnil => exact Sub.refl _
  | cons a _ ih =>
    obtain ⟨R, h⟩ := ih
    exact ⟨a :: R, (h.cons a).trans (List.perm_middle.symm)⟩
  | cons_cons a _ ih =>
    obtain ⟨R, h⟩ := ih
    exact ⟨R, h.cons a⟩
theorem Sub.nil (M : List Addr) : Sub [] M := ⟨M, List.Perm.refl _⟩
theorem Sub.swap (L M : List Addr) : Sub (L ++ M) (M ++ L) := Sub.of_perm List.perm_append_comm

structure Good (F : Addr → Prop) (H : Hp) (L : List Addr) : Prop where
  nd : L.Nodup
  nf : ∀ a ∈ L, ¬ F a
  ft : ∀ a, F a → H a ≠ none
  lt : ∀ a ∈ L, H a ≠ none
structure Step (q : Bool) (F : Addr → Prop) (H : Hp) (L : List Addr) (F' : Addr → Prop) (H' : Hp) (M : List Addr) : Prop where
  good : Good F' H' M
  fs : ∀ a, F a → F' a
  kp : ∀ a, H a ≠ none → a ∉ L → H' a = H a
  tr : ∀ a, H a ≠ none → H' a ≠ none
  mem : ∀ a ∈ M, a ∈ L ∨ H a = none
  fm : ∀ a, F' a → F a ∨ a ∈ L ∨ H a = none
  qk : q = true → ∀ a ∈ L, H a ≠ none → H' a = H a
section
variable {F F' F1 F2 : Addr → Prop} {H H' H1 H2 : Hp} {L L' L1 L2 M M' R : List Addr} {q q1 q2 : Bool}
theorem Good.sub (g : Good F H M) (s : Sub L M) : Good F H L := ⟨s.nodup g.nd, fun a ha => g.nf a (s.mem ha), g.ft, fun a ha => g.lt a (s.mem ha)⟩
theorem Step.sub (g : Step q F H L F' H' M) (s : Sub M' M) : Step q F H L F' H' M' := ⟨g.good.sub s, g.fs, g.kp, g.tr, fun a ha => g.mem a (s.mem ha), g.fm, g.qk⟩
theorem Step.weak (g : Step q F H L F' H' M) : Step false F H L F' H' M := ⟨g.good, g.fs, g.kp, g.tr, g.mem, g.fm, fun z => nomatch z⟩
theorem Step.weak' (g : Step true F H L F' H' M) : Step q F H L F' H' M := ⟨g.good, g.fs, g.kp, g.tr, g.mem, g.fm, fun _ => g.qk rfl⟩
theorem Step.refl (g : Good F H L) : Step true F H L F H L := ⟨g, fun _ z => z, fun _ _ _ => rfl, fun _ z => z, fun _ z => .inl z, fun _ z => .inl z, fun _ _ _ _ => rfl⟩
/-- nothing tracked below L is changed at all -/
theorem Step.keep (s : Step true F H L F' H' M) : ∀ a, H a ≠ none → H' a = H a := fun a h => by
  by_cases c : a ∈ L
  · exact s.qk rfl a c h
  · exact s.kp a h c
theorem Step.trans (a : Step q1 F H L F1 H1 L1) (b : Step q2 F1 H1 L1 F2 H2 L2) : Step (q1 && q2) F H L F2 H2 L2 := by
  have un : ∀ x, H1 x = none → H x = none := fun x h => Classical.byContradiction fun c => a.tr x c h
  have kp2 : ∀ x, H x ≠ none → x ∉ L → H2 x = H x := fun x h1 h2 => by
    have hx : x ∉ L1 := fun z => (a.mem x z).elim h2 h1
    exact (b.kp x (a.tr x h1) hx).trans (a.kp x h1 h2)
  refine ⟨b.good, fun x h => b.fs x (a.fs x h), kp2, fun x h => b.tr x (a.tr x h), fun x h => ?_, fun x h => ?_, fun hq x h1 h2 => ?_⟩
  · rcases b.mem x h with z | z
    · exact a.mem x z
    · exact .inr (un x z)
  · rcases b.fm x h with z | z | z
    · exact a.fm x z
    · rcases a.mem x z with k | k
      · exact .inr (.inl k)
      · exact .inr (.inr k)
    · exact .inr (.inr (un x z))
  · simp only [Bool.and_eq_true] at hq
    obtain ⟨e1, e2⟩ := hq
    subst e1 e2
    exact (b.keep x (a.tr x h2)).trans (a.keep x h2)
theorem Step.frame (b : Step q F1 H1 L1 F2 H2 L2) (g : Good F1 H1 (L1 ++ R)) : Step q F1 H1 (L1 ++ R) F2 H2 (L2 ++ R) := by
  have hd := List.nodup_append.mp g.nd
  have out : ∀ a ∈ R, a ∉ L1 := fun a ha z => hd.2.2 a z a ha rfl
  have lt : ∀ a ∈ R, H1 a ≠ none := fun a ha => g.lt a (List.mem_append_right _ ha)
  have nf : ∀ a ∈ R, ¬ F2 a := fun a ha z => by
    rcases b.fm a z with k | k | k
    · exact g.nf a (List.mem_append_right _ ha) k
    · exact out a ha k
    · exact lt a ha k
  refine ⟨⟨List.nodup_append.mpr ⟨b.good.nd, hd.2.1, fun x hx y hy e => ?_⟩, fun a ha => ?_, b.good.ft, fun a ha => ?_⟩, b.fs, fun a h1 h2 => b.kp a h1 fun z => h2 (List.mem_append_left _ z), b.tr, fun a ha => ?_, fun a ha => ?_, fun hq a ha h => ?_⟩
  · subst e
    rcases b.mem x hx with k | k
    · exact out x hy k
    · exact lt x hy k
  · rcases List.mem_append.mp ha with k | k
    · exact b.good.nf a k
    · exact nf a k
  · rcases List.mem_append.mp ha with k | k
    · exact b.good.lt a k
    · exact b.tr a (lt a k)
  · rcases List.mem_append.mp ha with k | k
    · rcases b.mem a k with z | z
      · exact .inl (List.mem_append_left _ z)
      · exact .inr z
    · exact .inl (List.mem_append_right _ k)
  · rcases b.fm a ha with k | k | k
    · exact .inl k
    · exact .inr (.inl (List.mem_append_left _ k))
    · exact .inr (.inr k)
  · subst hq
    exact b.keep a h
theorem Step.seq (a : Step q1 F H L F1 H1 (L1 ++ R)) (b : Step q2 F1 H1 L1 F2 H2 L2) : Step (q1 && q2) F H L F2 H2 (L2 ++ R) := a.trans (b.frame a.good)
/-- an operation that changes nothing owned -/
theorem Step.op (a : Step q F H L F1 H1 L1) (b : Step true F1 H1 [] F2 H2 M) : Step q F H L F2 H2 (L1 ++ M) := by
  have h := b.frame (R := L1) (L1 := []) (by rw [List.nil_append]; exact a.good)
  rw [List.nil_append] at h
  have z := (a.trans h).sub (Sub.swap L1 M)
  rw [Bool.and_true] at z
  exact z
/-- a new object -/
theorem Step.new {p : Addr} {o : HO} (g : Good F H L) (np : H p = none) : Step true F H L F (upd H p o) (L ++ [p]) := by
  have ne : ∀ a, H a ≠ none → a ≠ p := fun a h e => h (e ▸ np)
  refine ⟨⟨List.nodup_append.mpr ⟨g.nd, (by simp), fun x hx y hy e => ?_⟩, fun a ha => ?_, fun a h => ?_, fun a ha => ?_⟩, fun _ z => z, fun a h _ => upd_ne (ne a h), fun a h => ?_, fun a ha => ?_, fun _ z => .inl z, fun _ a _ h => upd_ne (ne a h)⟩
  · have e2 : y = p := List.mem_singleton.mp hy
    exact ne x (g.lt x hx) (e.trans e2)
  · rcases List.mem_append.mp ha with k | k
    · exact g.nf a k
    · have e2 : a = p := List.mem_singleton.mp k
      exact fun z => ne a (g.ft a z) e2
  · rw [upd_ne (ne a (g.ft a h))]; exact g.ft a h
  · rcases List.mem_append.mp ha with k | k
    · rw [upd_ne (ne a (g.lt a k))]; exact g.lt a k
    · have e2 : a = p := List.mem_singleton.mp k
      rw [e2, upd_same]; exact fun z => nomatch z
  · rw [upd_ne (ne a h)]; exact h
  · rcases List.mem_append.mp ha with k | k
    · exact .inl k
    · exact .inr (by rw [List.mem_singleton.mp k]; exact np)
/-- a part of what is owned becomes what never changes again -/
theorem Step.freeze (g : Good F H (L ++ R)) : Step true F H (L ++ R) (fun a => F a ∨ a ∈ R) H L := by
  have hd := List.nodup_append.mp g.nd
  refine ⟨⟨hd.1, fun a ha z => ?_, fun a h => ?_, fun a ha => g.lt a (List.mem_append_left _ ha)⟩, fun _ z => .inl z, fun _ _ _ => rfl, fun _ z => z, fun a ha => .inl (List.mem_append_left _ ha), fun a h => ?_, fun _ _ _ _ => rfl⟩
  · rcases z with z | z
    · exact g.nf a (List.mem_append_left _ ha) z
    · exact hd.2.2 a ha a z rfl
  · rcases h with h | h
    · exact g.ft a h
    · exact g.lt a (List.mem_append_right _ h)
  · rcases h with h | h
    · exact .inl h
    · exact .inr (.inl (List.mem_append_right _ h))
/-- a new tuple: never owned -/
theorem Step.newF {p : Addr} {o : HO} (g : Good F H L) (np : H p = none) : Step true F H L (fun a => F a ∨ a = p) (upd H p o) L := by
  have s := (Step.new (o := o) g np)
  have f := Step.freeze (R := [p]) (L := L) s.good
  have z := s.trans f
  rw [Bool.and_true] at z
  exact ⟨⟨z.good.nd, fun a ha k => z.good.nf a ha (by simpa using k), fun a k => z.good.ft a (by simpa using k), z.good.lt⟩, fun a k => .inl k, z.kp, z.tr, z.mem, fun a k => z.fm a (by simpa using k), z.qk⟩
end

section
variable (P : Program) (w : World) (K : PySem.W.Frag) (F : Addr → Prop) (H : Hp)
inductive SR0 : S2 → Sl → List Addr → Prop
  | nil : SR0 [] [] []
  | skip {o : Option V} {σ : S2} {τ : Sl} {L : List Addr} : SR0 σ τ L → SR0 (o :: σ) (none :: τ) L
  | cons {v : V} {x : Val} {L : List Addr} {σ : S2} {τ : Sl} {L' : List Addr} : VR P w K F H v x L → SR0 σ τ L' → SR0 (some v :: σ) (some x :: τ) (L ++ L')
def SR (σ : S2) (τ : Sl) (L : List Addr) : Prop := ∃ L0, SR0 P w K F H σ τ L0 ∧ L0.Perm L
end
section
variable {P : Program} {w : World} {K : PySem.W.Frag} {F F' F1 F2 : Addr → Prop} {H H' H1 H2 : Hp} {σ : S2} {τ : Sl} {L L' M : List Addr}
theorem SR0.mono (fs : ∀ a, F a → F' a) (fh : ∀ a, F a → H' a = H a) : ∀ {σ : S2} {τ : Sl} {L : List Addr}, SR0 P w K F H σ τ L → (∀ a ∈ L, H' a = H a) → SR0 P w K F' H' σ τ L
  | _, _, _, .nil, _ => .nil
  | _, _, _, .skip t, hl => .skip (SR0.mono fs fh t hl)
  | _, _, _, .cons h t, hl => .cons (h.mono fs fh fun a ha => hl a (List.mem_append_left _ ha)) (SR0.mono fs fh t fun a ha => hl a (List.mem_append_right _ ha))
theorem SR.mono (fs : ∀ a, F a → F' a) (fh : ∀ a, F a → H' a = H a) (s : SR P w K F H σ τ L) (hl : ∀ a ∈ L, H' a = H a) : SR P w K F' H' σ τ L := by
  obtain ⟨L0, h, p⟩ := s
  exact ⟨L0, h.mono fs fh fun a ha => hl a (p.mem_iff.mp ha), p⟩
theorem SR0.length : ∀ {σ : S2} {τ : Sl} {L : List Addr}, SR0 P w K F H σ τ L → σ.length = τ.length
  | _, _, _, .nil => rfl
  | _, _, _, .skip t => congrArg (· + 1) (SR0.length t)
  | _, _, _, .cons _ t => congrArg (· + 1) (SR0.length t)
theorem SR0.lt : ∀ {σ : S2} {τ : Sl} {L : List Addr}, SR0 P w K F H σ τ L → ∀ a ∈ L, H a ≠ none
  | _, _, _, .nil => fun _ z => nomatch z
  | _, _, _, .skip t => SR0.lt t
  | _, _, _, .cons h t => fun a ha => (List.mem_append.mp ha).elim (fun z => let ⟨o, e, _⟩ := h.lt a z; by rw [e]; exact fun k => nomatch k) (SR0.lt t a)
theorem SR0.at : ∀ {σ : S2} {τ : Sl} {L : List Addr} {i : Nat} {x : Val}, SR0 P w K F H σ τ L → τ[i]? = some (some x) →
    ∃ v Li Lr, σ[i]? = some (some v) ∧ VR P w K F H v x Li ∧ L.Perm (Li ++ Lr) ∧ (∀ v' x' L', VR P w K F H v' x' L' → ∃ L2, SR0 P w K F H (σ.set i (some v')) (τ.set i (some x')) L2 ∧ L2.Perm (L' ++ Lr)) ∧
      (∃ L2, SR0 P w K F H σ (τ.set i none) L2 ∧ L2.Perm Lr) ∧ ∀ x' L', VR P w K F H v x' L' → ∃ L2, SR0 P w K F H σ (τ.set i (some x')) L2 ∧ L2.Perm (L' ++ Lr)
  | _, _, _, _, _, .nil, e => by simp at e
  | _, _, _, 0, _, .skip t, e => by simp at e
  | _, _, _, i + 1, x, .skip (σ := σ) (τ := τ) t, e => by
    obtain ⟨v, Li, Lr, a1, a2, a3, a4, ⟨L2, b1, b2⟩, a5⟩ := SR0.at (i := i) (x := x) t (by simpa using e)
    refine ⟨v, Li, Lr, by simpa using a1, a2, a3, fun v' x' L' h => ?_, ⟨L2, by rw [List.set_cons_succ]; exact .skip b1, b2⟩, fun x' L' h => ?_⟩
    · obtain ⟨L3, c1, c2⟩ := a4 v' x' L' h
      exact ⟨L3, by rw [List.set_cons_succ, List.set_cons_succ]; exact .skip c1, c2⟩
    · obtain ⟨L3, c1, c2⟩ := a5 x' L' h
      exact ⟨L3, by rw [List.set_cons_succ]; exact .skip c1, c2⟩
  | _, _, _, 0, x, .cons (L := L) (L' := L') h t, e => by
    simp only [List.getElem?_cons_zero, Option.some.injEq] at e
    subst e
    refine ⟨_, L, L', rfl, h, List.Perm.refl _, fun v' x' L2 h2 => ⟨L2 ++ L', ?_, List.Perm.refl _⟩, ⟨L', ?_, List.Perm.refl _⟩, fun x' L2 h2 => ⟨L2 ++ L', ?_, List.Perm.refl _⟩⟩
    · rw [List.set_cons_zero, List.set_cons_zero]; exact .cons h2 t
    · rw [List.set_cons_zero]; exact .skip t
    · rw [List.set_cons_zero]; exact .cons h2 t
  | _, _, _, i + 1, x, .cons (v := v0) (L := L) (L' := L') h t, e => by
    obtain ⟨v, Li, Lr, a1, a2, a3, a4, ⟨L2, b1, b2⟩, a5⟩ := SR0.at (i := i) (x := x) t (by simpa using e)
    have pp : ∀ X : List Addr, (L ++ (X ++ Lr)).Perm (X ++ (L ++ Lr)) := fun X => by
      rw [← List.append_assoc, ← List.append_assoc]
      exact List.perm_append_comm.append_right _
    refine ⟨v, Li, L ++ Lr, by simpa using a1, a2, (a3.append_left L).trans (pp Li), fun v' x' L3 h3 => ?_, ⟨L ++ L2, by rw [List.set_cons_succ]; exact .cons h b1, b2.append_left L⟩, fun x' L3 h3 => ?_⟩
    · obtain ⟨L4, c1, c2⟩ := a4 v' x' L3 h3
      exact ⟨L ++ L4, by rw [List.set_cons_succ, List.set_cons_succ]; exact .cons h c1, (c2.append_left L).trans (pp L3)⟩
    · obtain ⟨L4, c1, c2⟩ := a5 x' L3 h3
      exact ⟨L ++ L4, by rw [List.set_cons_succ]; exact .cons h c1, (c2.append_left L).trans (pp L3)⟩
/-- a store at a slot, whatever it held -/
theorem SR0.put : ∀ {σ : S2} {τ : Sl} {L : List Addr} (i : Nat) {v : V} {x : Val} {Lv : List Addr}, SR0 P w K F H σ τ L → VR P w K F H v x Lv →
    ∃ L2, SR0 P w K F H (σ.set i (some v)) (τ.set i (some x)) L2 ∧ Sub L2 (Lv ++ L)
  | _, _, _, i, v, x, Lv, .nil, h => ⟨[], .nil, Sub.nil _⟩
  | _, _, _, 0, v, x, Lv, .skip (L := L) t, h => ⟨Lv ++ L, by rw [List.set_cons_zero, List.set_cons_zero]; exact .cons h t, Sub.refl _⟩
  | _, _, _, i + 1, v, x, Lv, .skip (L := L) t, h => by
    obtain ⟨L2, a, b⟩ := SR0.put i t h
    exact ⟨L2, by rw [List.set_cons_succ, List.set_cons_succ]; exact .skip a, b⟩
  | _, _, _, 0, v, x, Lv, .cons (L := L) (L' := L') h0 t, h => ⟨Lv ++ L', by rw [List.set_cons_zero, List.set_cons_zero]; exact .cons h t, (Sub.refl Lv).app (Sub.right L L')⟩
  | _, _, _, i + 1, v, x, Lv, .cons (L := L) (L' := L') h0 t, h => by
    obtain ⟨L2, a, b⟩ := SR0.put i t h
    refine ⟨L ++ L2, by rw [List.set_cons_succ, List.set_cons_succ]; exact .cons h0 a, ((Sub.refl L).app b).trans (Sub.of_perm ?_)⟩
    rw [← List.append_assoc, ← List.append_assoc]
    exact List.perm_append_comm.append_right _
theorem SR0.clear : ∀ {σ : S2} {τ : Sl} {L : List Addr} (i : Nat) (o : Option V), SR0 P w K F H σ τ L → ∃ L2, SR0 P w K F H (σ.set i o) (τ.set i none) L2 ∧ Sub L2 L
  | _, _, _, i, o, .nil => ⟨[], .nil, Sub.nil _⟩
  | _, _, _, 0, o, .skip (L := L) t => ⟨L, by rw [List.set_cons_zero, List.set_cons_zero]; exact .skip t, Sub.refl _⟩
  | _, _, _, i + 1, o, .skip (L := L) t => by
    obtain ⟨L2, a, b⟩ := SR0.clear i o t
    exact ⟨L2, by rw [List.set_cons_succ, List.set_cons_succ]; exact .skip a, b⟩
  | _, _, _, 0, o, .cons (L := L) (L' := L') h0 t => ⟨L', by rw [List.set_cons_zero, List.set_cons_zero]; exact .skip t, Sub.right L L'⟩
  | _, _, _, i + 1, o, .cons (L := L) (L' := L') h0 t => by
    obtain ⟨L2, a, b⟩ := SR0.clear i o t
    exact ⟨L ++ L2, by rw [List.set_cons_succ, List.set_cons_succ]; exact .cons h0 a, (Sub.refl L).app b⟩
theorem SR.put {i : Nat} {v : V} {x : Val} {Lv : List Addr} (s : SR P w K F H σ τ L) (h : VR P w K F H v x Lv) : ∃ L2, SR P w K F H (σ.set i (some v)) (τ.set i (some x)) L2 ∧ Sub L2 (L ++ Lv) := by
  obtain ⟨L0, s0, p⟩ := s
  obtain ⟨L2, a, b⟩ := s0.put i h
  exact ⟨L2, ⟨L2, a, List.Perm.refl _⟩, b.trans (Sub.of_perm ((p.append_left Lv).trans List.perm_append_comm))⟩
theorem SR.clear {i : Nat} {o : Option V} (s : SR P w K F H σ τ L) : ∃ L2, SR P w K F H (σ.set i o) (τ.set i none) L2 ∧ Sub L2 L := by
  obtain ⟨L0, s0, p⟩ := s
  obtain ⟨L2, a, b⟩ := s0.clear i o
  exact ⟨L2, ⟨L2, a, List.Perm.refl _⟩, b.trans (Sub.of_perm p)⟩
theorem SR.at {i : Nat} {x : Val} (s : SR P w K F H σ τ L) (e : τ[i]? = some (some x)) :
    ∃ v Li Lr, σ[i]? = some (some v) ∧ VR P w K F H v x Li ∧ L.Perm (Lr ++ Li) ∧ (∀ v' x' L', VR P w K F H v' x' L' → SR P w K F H (σ.set i (some v')) (τ.set i (some x')) (Lr ++ L')) ∧
      SR P w K F H σ (τ.set i none) Lr ∧ ∀ x' L', VR P w K F H v x' L' → SR P w K F H σ (τ.set i (some x')) (Lr ++ L') := by
  obtain ⟨L0, s0, p⟩ := s
  obtain ⟨v, Li, Lr, a1, a2, a3, a4, ⟨L2, b1, b2⟩, a5⟩ := s0.at e
  refine ⟨v, Li, Lr, a1, a2, p.symm.trans (a3.trans List.perm_append_comm), fun v' x' L' h => ?_, ⟨L2, b1, b2⟩, fun x' L' h => ?_⟩
  · obtain ⟨L3, c1, c2⟩ := a4 v' x' L' h
    exact ⟨L3, c1, c2.trans List.perm_append_comm⟩
  · obtain ⟨L3, c1, c2⟩ := a5 x' L' h
    exact ⟨L3, c1, c2.trans List.perm_append_comm⟩
theorem SR.length (s : SR P w K F H σ τ L) : σ.length = τ.length := let ⟨_, h, _⟩ := s; h.length
theorem SR.perm (s : SR P w K F H σ τ L) (p : L.Perm M) : SR P w K F H σ τ M := let ⟨L0, h, q⟩ := s; ⟨L0, h, q.trans p⟩
theorem SR.set_none {i : Nat} (s : SR P w K F H σ τ L) : ∃ L2, SR P w K F H σ (τ.set i none) L2 ∧ Sub L2 L := by
  cases e : τ[i]? with
  | none =>
    have hl : τ.length ≤ i := List.getElem?_eq_none_iff.mp e
    rw [List.set_eq_of_length_le hl]
    exact ⟨L, s, Sub.refl _⟩
  | some o =>
    cases o with
    | none =>
      have : τ.set i none = τ := by
        refine List.ext_getElem? fun j => ?_
        by_cases hj : i = j
        · subst hj
          have hl : i < τ.length := by
            rcases Nat.lt_or_ge i τ.length with c | c
            · exact c
            · rw [List.getElem?_eq_none c] at e; cases e
          rw [List.getElem?_set_self hl, e]
        · rw [List.getElem?_set_ne hj]
      rw [this]
      exact ⟨L, s, Sub.refl _⟩
    | some x =>
      obtain ⟨v, Li, Lr, _, _, p, _, s2, _⟩ := s.at e
      exact ⟨Lr, s2, (Sub.left Lr Li).trans (Sub.of_perm p.symm)⟩
end
end MV
end

section
set_option maxHeartbeats 4000000
/-! expressions by content -/
namespace MV
open PySem PySem.Spec PyProof.Rows L2

abbrev Ev := Sl → Option (Val × Sl)
abbrev Evs := Sl → Option (List Val × Sl)
abbrev Tv := Sl → Option (Bool × Sl)

section
variable {P : Program} {w : World} {K : PySem.W.Frag} {F F' : Addr → Prop} {H H' : Hp} {L M Lv : List Addr} {q : Bool}
theorem VR.stepR {v : V} {x : Val} (h : VR P w K F H v x Lv) (st : Step q F H L F' H' M) (ft : ∀ a, F a → H a ≠ none) (nf : ∀ a ∈ L, ¬ F a) (hd : ∀ a ∈ Lv, a ∉ L) : VR P w K F' H' v x Lv :=
  h.mono st.fs (fun a ha => st.kp a (ft a ha) fun z => nf a z ha) fun a ha => st.kp a (by obtain ⟨o, e, _⟩ := h.lt a ha; rw [e]; exact fun z => nomatch z) (hd a ha)
theorem VR.stepQ {v : V} {x : Val} (h : VR P w K F H v x Lv) (st : Step true F H L F' H' M) (ft : ∀ a, F a → H a ≠ none) : VR P w K F' H' v x Lv :=
  h.mono st.fs (fun a ha => st.keep a (ft a ha)) fun a ha => st.keep a (by obtain ⟨o, e, _⟩ := h.lt a ha; rw [e]; exact fun z => nomatch z)
theorem VRs.stepR {vs : List V} {xs : List Val} (h : VRs P w K F H vs xs Lv) (st : Step q F H L F' H' M) (ft : ∀ a, F a → H a ≠ none) (nf : ∀ a ∈ L, ¬ F a) (hd : ∀ a ∈ Lv, a ∉ L) : VRs P w K F' H' vs xs Lv :=
  h.mono st.fs (fun a ha => st.kp a (ft a ha) fun z => nf a z ha) fun a ha => st.kp a (by obtain ⟨o, e, _⟩ := h.lt a ha; rw [e]; exact fun z => nomatch z) (hd a ha)
theorem VRs.stepQ {vs : List V} {xs : List Val} (h : VRs P w K F H vs xs Lv) (st : Step true F H L F' H' M) (ft : ∀ a, F a → H a ≠ none) : VRs P w K F' H' vs xs Lv :=
  h.mono st.fs (fun a ha => st.keep a (ft a ha)) fun a ha => st.keep a (by obtain ⟨o, e, _⟩ := h.lt a ha; rw [e]; exact fun z => nomatch z)
theorem SR.stepQ {σ : S2} {τ : Sl} (h : SR P w K F H σ τ Lv) (st : Step true F H L F' H' M) (ft : ∀ a, F a → H a ≠ none) : SR P w K F' H' σ τ Lv :=
  h.mono st.fs (fun a ha => st.keep a (ft a ha)) fun a ha => st.keep a (by obtain ⟨L0, s, p⟩ := h; exact s.lt a (p.mem_iff.mpr ha))
theorem SR.stepR {σ : S2} {τ : Sl} (h : SR P w K F H σ τ Lv) (st : Step q F H L F' H' M) (ft : ∀ a, F a → H a ≠ none) (nf : ∀ a ∈ L, ¬ F a) (hd : ∀ a ∈ Lv, a ∉ L) : SR P w K F' H' σ τ Lv :=
  h.mono st.fs (fun a ha => st.kp a (ft a ha) fun z => nf a z ha) fun a ha => st.kp a (by obtain ⟨L0, s, p⟩ := h; exact s.lt a (p.mem_iff.mpr ha)) (hd a ha)
theorem Step.andT {F1 : Addr → Prop} {H1 : Hp} {M : List Addr} (s : Step (q && true) F H L F1 H1 M) : Step q F H L F1 H1 M := by rw [Bool.and_true] at s; exact s
theorem Step.andS {F1 : Addr → Prop} {H1 : Hp} {M : List Addr} (s : Step (q && q) F H L F1 H1 M) : Step q F H L F1 H1 M := by rw [Bool.and_self] at s; exact s
end

section
variable (P : Program) (w : World) (K : PySem.W.Frag) (q : Bool)
def tE (D : Ev) : TE := fun σ H Q => ∃ F τ L x τ', SR P w K F H σ τ L ∧ Good F H L ∧ D τ = some (x, τ') ∧
  ∀ v F' H' L' Lr, VR P w K F' H' v x Lr → SR P w K F' H' σ τ' L' → Step q F H L F' H' (L' ++ Lr) → Q v H'
/-- an operand: it is looked at alone, and may be part of a slot's -/
def tO (D : Ev) : TE := fun σ H Q => ∃ F τ L x τ', SR P w K F H σ τ L ∧ Good F H L ∧ D τ = some (x, τ') ∧
  ∀ v F' H' L' Lr, VR P w K F' H' v x Lr → SR P w K F' H' σ τ' L' → Step q F H L F' H' L' → Q v H'
def tT (D : Tv) : TT := fun σ H Q => ∃ F τ L b τ', SR P w K F H σ τ L ∧ Good F H L ∧ D τ = some (b, τ') ∧
  ∀ F' H' L', SR P w K F' H' σ τ' L' → Step q F H L F' H' L' → Q b H'
def tEs (D : Evs) : TA := fun σ H Q => ∃ F τ L xs τ', SR P w K F H σ τ L ∧ Good F H L ∧ D τ = some (xs, τ') ∧
  ∀ vs F' H' L' Lr, VRs P w K F' H' vs xs Lr → SR P w K F' H' σ τ' L' → Step q F H L F' H' (L' ++ Lr) → Q vs H'
def tOs (D : Evs) : TA := fun σ H Q => ∃ F τ L xs τ', SR P w K F H σ τ L ∧ Good F H L ∧ D τ = some (xs, τ') ∧
  ∀ vs F' H' L' Lr, VRs P w K F' H' vs xs Lr → SR P w K F' H' σ τ' L' → Step q F H L F' H' L' → Q vs H'
end
abbrev SE (q : Bool) (X : Cx) (e : Expr) (D : Ev) : Prop := PE X e (tE X.prog X.w X.K q D)
abbrev SO (q : Bool) (X : Cx) (e : Expr) (D : Ev) : Prop := PE X e (tO X.prog X.w X.K q D)
abbrev ST (q : Bool) (X : Cx) (e : Expr) (D : Tv) : Prop := PT X e (tT X.prog X.w X.K q D)
abbrev SW (q : Bool) (X : Cx) (e : Expr) (D : Tv) : Prop := PW X e (tT X.prog X.w X.K q D)
abbrev SEs (q : Bool) (X : Cx) (es : List Expr) (D : Evs) : Prop := PA X es (tEs X.prog X.w X.K q D)
abbrev SOs (q : Bool) (X : Cx) (es : List Expr) (D : Evs) : Prop := PA X es (tOs X.prog X.w X.K q D)

theorem peI {X : Cx} {e : Expr} {t t' : TE} (h : PE X e t) (i : ∀ σ H Q, t' σ H Q → t σ H Q) : PE X e t' := ⟨fun pins s σ H Q I hw => h.run pins s σ H Q I (i σ H Q hw)⟩
theorem ptI {X : Cx} {e : Expr} {t t' : TT} (h : PT X e t) (i : ∀ σ H Q, t' σ H Q → t σ H Q) : PT X e t' := ⟨fun pins s σ H Q I hw => h.run pins s σ H Q I (i σ H Q hw)⟩
theorem pwI {X : Cx} {e : Expr} {t t' : TT} (h : PW X e t) (i : ∀ σ H Q, t' σ H Q → t σ H Q) : PW X e t' := ⟨fun wh pins s σ H Q I hw => h.run wh pins s σ H Q I (i σ H Q hw)⟩
theorem paI {X : Cx} {es : List Expr} {t t' : TA} (h : PA X es t) (i : ∀ σ H Q, t' σ H Q → t σ H Q) : PA X es t' := ⟨fun pos pins s σ H Q I hw => h.run pos pins s σ H Q I (i σ H Q hw)⟩
theorem psI {X : Cx} {st : Stmt} {t t' : TS} (h : PS X st t) (i : ∀ D σ H, t' D σ H → t D σ H) : PS X st t' := ⟨fun pins s σ H D I hw => h.run pins s σ H D I (i D σ H hw)⟩
theorem pssI {X : Cx} {st : List Stmt} {t t' : TS} (h : PSs X st t) (i : ∀ D σ H, t' D σ H → t D σ H) : PSs X st t' := ⟨fun pins s σ H D I hw => h.run pins s σ H D I (i D σ H hw)⟩

section
variable {X : Cx} {q : Bool} {e a b : Expr} {D Da Db : Ev} {pos : Pos}
theorem SE.weak (h : SE true X e D) : SE q X e D := peI h fun σ H Q ⟨F, τ, L, x, τ', s, g, ev, post⟩ => ⟨F, τ, L, x, τ', s, g, ev, fun v F' H' L' Lr h1 h2 h3 => post v F' H' L' Lr h1 h2 h3.weak'⟩
theorem SO.weak (h : SO true X e D) : SO q X e D := peI h fun σ H Q ⟨F, τ, L, x, τ', s, g, ev, post⟩ => ⟨F, τ, L, x, τ', s, g, ev, fun v F' H' L' Lr h1 h2 h3 => post v F' H' L' Lr h1 h2 h3.weak'⟩
theorem ST.weak {D : Tv} (h : ST true X e D) : ST q X e D := ptI h fun σ H Q ⟨F, τ, L, x, τ', s, g, ev, post⟩ => ⟨F, τ, L, x, τ', s, g, ev, fun F' H' L' h2 h3 => post F' H' L' h2 h3.weak'⟩
theorem SW.weak {D : Tv} (h : SW true X e D) : SW q X e D := pwI h fun σ H Q ⟨F, τ, L, x, τ', s, g, ev, post⟩ => ⟨F, τ, L, x, τ', s, g, ev, fun F' H' L' h2 h3 => post F' H' L' h2 h3.weak'⟩
theorem SEs.weak {es : List Expr} {D : Evs} (h : SEs true X es D) : SEs q X es D := paI h fun σ H Q ⟨F, τ, L, x, τ', s, g, ev, post⟩ => ⟨F, τ, L, x, τ', s, g, ev, fun v F' H' L' Lr h1 h2 h3 => post v F' H' L' Lr h1 h2 h3.weak'⟩
theorem SOs.weak {es : List Expr} {D : Evs} (h : SOs true X es D) : SOs q X es D := paI h fun σ H Q ⟨F, τ, L, x, τ', s, g, ev, post⟩ => ⟨F, τ, L, x, τ', s, g, ev, fun v F' H' L' Lr h1 h2 h3 => post v F' H' L' Lr h1 h2 h3.weak'⟩
theorem SE.o (h : SE q X e D) : SO q X e D := peI h fun σ H Q ⟨F, τ, L, x, τ', s, g, ev, post⟩ => ⟨F, τ, L, x, τ', s, g, ev, fun v F' H' L' Lr h1 h2 h3 => post v F' H' L' Lr h1 h2 (h3.sub (Sub.left L' Lr))⟩

/-! constants and names -/
def cC (x : Val) : Ev := fun τ => some (x, τ)
theorem tE_const {P : Program} {w : World} {K : PySem.W.Frag} {v : V} {x : Val} (hv : ∀ F H, VR P w K F H v x []) (σ : S2) (H : Hp) (Q : VK) (h : tE P w K true (cC x) σ H Q) : tC v σ H Q := by
  obtain ⟨F, τ, L, x', τ', s, g, ev, post⟩ := h
  simp only [cC, Option.some.injEq, Prod.mk.injEq] at ev
  obtain ⟨rfl, rfl⟩ := ev
  exact post v F H L [] (hv F H) s (by rw [List.append_nil]; exact Step.refl g)
theorem se_int {i : Int} {j} : SE true X (.Constant (.int i) j pos) (cC (.int i)) := peI pe_int (tE_const fun _ _ => .int i)
theorem se_bl {c : Bool} {j} : SE true X (.Constant (.bool c) j pos) (cC (.bl c)) := peI pe_bl (tE_const fun _ _ => .bl c)
theorem se_non {j} : SE true X (.Constant .none j pos) (cC .non) := peI pe_non (tE_const fun _ _ => .non)
theorem se_str {z : Str} {j} : SE true X (.Constant (.str z) j pos) (cC (.str z)) := peI pe_str (tE_const fun _ _ => .str z)
theorem se_glob {x : Str} {v : V} {y : Val} {u : Value} (hm : X.mg x = some u) (r : RelV v u) (hv : ∀ F H, VR X.prog X.w X.K F H v y []) (hg : Gl X x := by rfl) (hd : (x == ("__debug__" : Str)) = false := by decide) : SE true X (.Name x pos) (cC y) :=
  peI (pe_glob hg hm r hd) (tE_const hv)

def rdO (i : Nat) : Ev := fun τ => (τ[i]?).bind fun o => o.bind fun x => some (x, τ)
def rdE (i : Nat) : Ev := fun τ => (τ[i]?).bind fun o => o.bind fun x => if x.pure = true then some (x, τ) else some (x.frz, τ.set i (some x.frz))
def mvE (i : Nat) : Ev := fun τ => (τ[i]?).bind fun o => o.bind fun x => some (x, τ.set i none)
theorem slot_some {τ : Sl} {i : Nat} {α : Type} {f : Val → Option α} {z : α} (h : ((τ[i]?).bind fun o => o.bind f) = some z) : ∃ x, τ[i]? = some (some x) ∧ f x = some z := by
  cases e : τ[i]? with
  | none => rw [e] at h; exact nomatch h
  | some o =>
    rw [e] at h
    cases o with
    | none => exact nomatch h
    | some x => exact ⟨x, rfl, h⟩
section
variable {P : Program} {w : World} {K : PySem.W.Frag} {i : Nat}
theorem tO_rd (σ : S2) (H : Hp) (Q : VK) (h : tO P w K true (rdO i) σ H Q) : tVar i σ H Q := by
  obtain ⟨F, τ, L, x, τ', s, g, ev, post⟩ := h
  obtain ⟨y, e, ev⟩ := slot_some ev
  cases ev
  obtain ⟨v, Li, Lr, a1, a2, p, _, _, _⟩ := s.at e
  exact ⟨v, a1, post v F H L Li a2 s (Step.refl g)⟩
theorem tE_rd (σ : S2) (H : Hp) (Q : VK) (h : tE P w K true (rdE i) σ H Q) : tVar i σ H Q := by
  obtain ⟨F, τ, L, x, τ', s, g, ev, post⟩ := h
  obtain ⟨y, e, ev⟩ := slot_some ev
  obtain ⟨v, Li, Lr, a1, a2, p, a4, a5, a6⟩ := s.at e
  by_cases hp : y.pure = true
  · rw [if_pos hp] at ev
    cases ev
    exact ⟨v, a1, post v F H L [] (a2.pureV hp) s (by rw [List.append_nil]; exact Step.refl g)⟩
  · rw [if_neg hp] at ev
    cases ev
    have g2 : Good F H (Lr ++ Li) := g.sub (Sub.of_perm p.symm)
    have fz : VR P w K (fun a => F a ∨ a ∈ Li) H v y.frz [] := a2.frz (fun _ z => .inl z) fun a ha => .inr ha
    have s2 := a6 y Li a2
    have st := Step.freeze g2
    refine ⟨v, a1, post v (fun a => F a ∨ a ∈ Li) H Lr [] fz ?_ ?_⟩
    · -- the slots, frozen there
      obtain ⟨L0, s0, p0⟩ := s
      have s0' : SR P w K (fun a => F a ∨ a ∈ Li) H σ (τ.set i none) Lr := a5.mono (fun _ z => .inl z) (fun _ _ => rfl) fun _ _ => rfl
      have key : ∀ {σ : S2} {τ : Sl} {L : List Addr} {i : Nat}, SR0 P w K (fun a => F a ∨ a ∈ Li) H σ (τ.set i none) L → σ[i]? = some (some v) → i < τ.length → SR0 P w K (fun a => F a ∨ a ∈ Li) H σ (τ.set i (some y.frz)) L := by
        intro σ τ
        induction τ generalizing σ with
        | nil => intro L i h1 h2 h3; exact absurd h3 (Nat.not_lt_zero _)
        | cons o τ ih =>
          intro L i h1 h2 h3
          cases i with
          | zero =>
            rw [List.set_cons_zero] at h1 ⊢
            cases h1 with
            | skip t =>
              simp only [List.getElem?_cons_zero, Option.some.injEq] at h2
              subst h2
              have z := SR0.cons fz t
              rwa [List.nil_append] at z
          | succ i =>
            rw [List.set_cons_succ] at h1 ⊢
            cases h1 with
            | skip t => exact .skip (ih t (by simpa using h2) (by simpa using h3))
            | cons h t => exact .cons h (ih t (by simpa using h2) (by simpa using h3))
      obtain ⟨L3, s3, p3⟩ := s0'
      have hi : i < τ.length := by
        rcases Nat.lt_or_ge i τ.length with c | c
        · exact c
        · rw [List.getElem?_eq_none c] at e; cases e
      exact ⟨L3, key s3 a1 hi, p3⟩
    · rw [List.append_nil]
      exact ⟨st.good, st.fs, fun a h1 h2 => rfl, st.tr, fun a ha => .inl (p.mem_iff.mpr (List.mem_append_left _ ha)), fun a ha => by
        rcases ha with z | z
        · exact .inl z
        · exact .inr (.inl (p.mem_iff.mpr (List.mem_append_right _ z))), fun _ _ _ _ => rfl⟩
theorem tE_mv (σ : S2) (H : Hp) (Q : VK) (h : tE P w K true (mvE i) σ H Q) : tVar i σ H Q := by
  obtain ⟨F, τ, L, x, τ', s, g, ev, post⟩ := h
  obtain ⟨y, e, ev⟩ := slot_some ev
  cases ev
  obtain ⟨v, Li, Lr, a1, a2, p, a4, a5, a6⟩ := s.at e
  exact ⟨v, a1, post v F H Lr Li a2 a5 ((Step.refl g).sub (Sub.of_perm p.symm))⟩
end
theorem so_rd (i : Nat) {x : Str} (hN : X.N[i]? = some x := by rfl) (hv : Vis X.env.scope x := by first | exact Or.inl rfl | exact Or.inr (Or.inl rfl) | exact Or.inr (Or.inr rfl)) (hd : (x == ("__debug__" : Str)) = false := by decide)
    (hcd : (x == ("__classdict__" : Str)) = false := by decide) : SO true X (.Name x pos) (rdO i) := peI (pe_var hN hv hd hcd) tO_rd
theorem se_rd (i : Nat) {x : Str} (hN : X.N[i]? = some x := by rfl) (hv : Vis X.env.scope x := by first | exact Or.inl rfl | exact Or.inr (Or.inl rfl) | exact Or.inr (Or.inr rfl)) (hd : (x == ("__debug__" : Str)) = false := by decide)
    (hcd : (x == ("__classdict__" : Str)) = false := by decide) : SE true X (.Name x pos) (rdE i) := peI (pe_var hN hv hd hcd) tE_rd
theorem se_mv (i : Nat) {x : Str} (hN : X.N[i]? = some x := by rfl) (hv : Vis X.env.scope x := by first | exact Or.inl rfl | exact Or.inr (Or.inl rfl) | exact Or.inr (Or.inr rfl)) (hd : (x == ("__debug__" : Str)) = false := by decide)
    (hcd : (x == ("__classdict__" : Str)) = false := by decide) : SE true X (.Name x pos) (mvE i) := peI (pe_var hN hv hd hcd) tE_mv

/-! operations on values -/
/-- g says what the reading r asks of two values, and gives something new or unowned -/
def M2 (P : Program) (w : World) (K : PySem.W.Frag) (r : R2) (g : Val → Val → Option Val) : Prop :=
  ∀ (F : Addr → Prop) (H : Hp) (vx vy : V) (x y : Val) (Lx Ly : List Addr) (z : Val) (Q : VK), (∀ a, F a → H a ≠ none) → VR P w K F H vx x Lx → VR P w K F H vy y Ly → g x y = some z →
    (∀ v F' H' Lr, VR P w K F' H' v z Lr → Step true F H [] F' H' Lr → Q v H') → r vx vy H Q
def M1 (P : Program) (w : World) (K : PySem.W.Frag) (r : V → Hp → VK → Prop) (g : Val → Option Val) : Prop :=
  ∀ (F : Addr → Prop) (H : Hp) (vx : V) (x : Val) (Lx : List Addr) (z : Val) (Q : VK), (∀ a, F a → H a ≠ none) → VR P w K F H vx x Lx → g x = some z →
    (∀ v F' H' Lr, VR P w K F' H' v z Lr → Step true F H [] F' H' Lr → Q v H') → r vx H Q
def MN (P : Program) (w : World) (K : PySem.W.Frag) (r : List V → Hp → VK → Prop) (g : List Val → Option Val) : Prop :=
  ∀ (F : Addr → Prop) (H : Hp) (vs : List V) (xs : List Val) (Lx : List Addr) (z : Val) (Q : VK), (∀ a, F a → H a ≠ none) → VRs P w K F H vs xs Lx → g xs = some z →
    (∀ v F' H' Lr, VR P w K F' H' v z Lr → Step true F H [] F' H' Lr → Q v H') → r vs H Q
theorem good_nil {F : Addr → Prop} {H : Hp} (ft : ∀ a, F a → H a ≠ none) : Good F H [] := ⟨List.nodup_nil, (fun _ z => nomatch z), ft, (fun _ z => nomatch z)⟩
theorem Step.id {F : Addr → Prop} {H : Hp} (ft : ∀ a, F a → H a ≠ none) : Step true F H [] F H [] := Step.refl (good_nil ft)

def c1 (g : Val → Option Val) (D : Ev) : Ev := fun τ => (D τ).bind fun p => (g p.1).bind fun z => some (z, p.2)
def c2 (g : Val → Val → Option Val) (Da Db : Ev) : Ev := fun τ => (Da τ).bind fun p => (Db p.2).bind fun r => (g p.1 r.1).bind fun z => some (z, r.2)
def cN (g : List Val → Option Val) (Ds : Evs) : Ev := fun τ => (Ds τ).bind fun p => (g p.1).bind fun z => some (z, p.2)
def nilM : Evs := fun τ => some ([], τ)
def consM (D : Ev) (Ds : Evs) : Evs := fun τ => (D τ).bind fun p => (Ds p.2).bind fun r => some (p.1 :: r.1, r.2)
theorem bind_eq {α β : Type} {o : Option α} {f : α → Option β} {z : β} (h : o.bind f = some z) : ∃ x, o = some x ∧ f x = some z := by
  cases o with
  | none => exact nomatch h
  | some x => exact ⟨x, rfl, h⟩
section
variable {P : Program} {w : World} {K : PySem.W.Frag}
theorem tUn_ok {r : V → Hp → VK → Prop} {g : Val → Option Val} (hm : M1 P w K r g) (σ : S2) (H : Hp) (Q : VK) (h : tE P w K q (c1 g D) σ H Q) : tUn r (tO P w K q D) σ H Q := by
  obtain ⟨F, τ, L, z, τ', s, gd, ev, post⟩ := h
  obtain ⟨⟨x, τ1⟩, e1, ev⟩ := bind_eq ev
  obtain ⟨z', e2, ev⟩ := bind_eq ev
  cases ev
  refine ⟨F, τ, L, x, τ1, s, gd, e1, fun v F1 H1 L1 Lr h1 s1 st1 => ?_⟩
  refine hm F1 H1 v x Lr z Q st1.good.ft h1 e2 fun u F2 H2 M h2 st2 => post u F2 H2 L1 M h2 (s1.stepQ st2 st1.good.ft) (st1.op st2)
theorem tOp_ok {r : R2} {g : Val → Val → Option Val} (hm : M2 P w K r g) (σ : S2) (H : Hp) (Q : VK) (h : tE P w K q (c2 g Da Db) σ H Q) : tOp r (tO P w K q Da) (tO P w K true Db) σ H Q := by
  obtain ⟨F, τ, L, z, τ', s, gd, ev, post⟩ := h
  obtain ⟨⟨x, τ1⟩, e1, ev⟩ := bind_eq ev
  obtain ⟨⟨y, τ2⟩, e2, ev⟩ := bind_eq ev
  obtain ⟨z', e3, ev⟩ := bind_eq ev
  cases ev
  refine ⟨F, τ, L, x, τ1, s, gd, e1, fun v1 F1 H1 L1 Lr1 h1 s1 st1 => ?_⟩
  refine ⟨F1, τ1, L1, y, _, s1, st1.good, e2, fun v2 F2 H2 L2 Lr2 h2 s2 st2 => ?_⟩
  refine hm F2 H2 v1 v2 x y Lr1 Lr2 z Q st2.good.ft (h1.stepQ st2 st1.good.ft) h2 e3 fun u F3 H3 M h3 st3 => post u F3 H3 L2 M h3 (s2.stepQ st3 st2.good.ft) ((st1.trans st2).andT.op st3)
theorem tOp_ok' {r : R2} {g : Val → Val → Option Val} (hm : M2 P w K r g) (σ : S2) (H : Hp) (Q : VK) (h : tE P w K q (c2 g Da Db) σ H Q) : tOp r (tE P w K q Da) (tO P w K q Db) σ H Q := by
  obtain ⟨F, τ, L, z, τ', s, gd, ev, post⟩ := h
  obtain ⟨⟨x, τ1⟩, e1, ev⟩ := bind_eq ev
  obtain ⟨⟨y, τ2⟩, e2, ev⟩ := bind_eq ev
  obtain ⟨z', e3, ev⟩ := bind_eq ev
  cases ev
  refine ⟨F, τ, L, x, τ1, s, gd, e1, fun v1 F1 H1 L1 Lr1 h1 s1 st1 => ?_⟩
  have g1 := st1.good.sub (Sub.left L1 Lr1)
  refine ⟨F1, τ1, L1, y, _, s1, g1, e2, fun v2 F2 H2 L2 Lr2 h2 s2 st2 => ?_⟩
  have dj := (List.nodup_append.mp st1.good.nd).2.2
  refine hm F2 H2 v1 v2 x y Lr1 Lr2 z Q st2.good.ft (h1.stepR st2 g1.ft g1.nf fun a ha k => dj a k a ha rfl) h2 e3 fun u F3 H3 M h3 st3 => post u F3 H3 L2 M h3 (s2.stepQ st3 st2.good.ft) ?_
  exact ((((st1.sub (Sub.left L1 Lr1)).trans st2).andS).op st3)
end
theorem se_un {op : UnaryOp} {r : V → Hp → VK → Prop} {g : Val → Option Val} (ho : UnR X (unaryOp op) r) (hm : M1 X.prog X.w X.K r g) (ha : SO q X a D) : SE q X (.UnaryOp op a pos) (c1 g D) := peI (pe_un ho ha) (tUn_ok hm)
theorem se_op {op : Operator} {r : R2} {g : Val → Val → Option Val} (ho : OpR X (binaryOp op) r) (hm : M2 X.prog X.w X.K r g) (ha : SO q X a Da) (hb : SO true X b Db) : SE q X (.BinOp a op b pos) (c2 g Da Db) := peI (pe_op ho ha hb) (tOp_ok hm)
theorem se_op' {op : Operator} {r : R2} {g : Val → Val → Option Val} (ho : OpR X (binaryOp op) r) (hm : M2 X.prog X.w X.K r g) (ha : SE q X a Da) (hb : SO q X b Db) : SE q X (.BinOp a op b pos) (c2 g Da Db) := peI (pe_op ho ha hb) (tOp_ok' hm)
theorem se_cmp {op : CmpOp} {r : R2} {g : Val → Val → Option Val} (ho : OpR X (compareOp op) r) (hm : M2 X.prog X.w X.K r g) (ha : SO q X a Da) (hb : SO true X b Db) (hmk : behindInMarks op b = false) : SE q X (.Compare a [op] [b] pos) (c2 g Da Db) := peI (pe_cmpR ho ha hb hmk) (tOp_ok hm)
theorem se_cmp' {op : CmpOp} {r : R2} {g : Val → Val → Option Val} (ho : OpR X (compareOp op) r) (hm : M2 X.prog X.w X.K r g) (ha : SE q X a Da) (hb : SO q X b Db) (hmk : behindInMarks op b = false) : SE q X (.Compare a [op] [b] pos) (c2 g Da Db) := peI (pe_cmpR ho ha hb hmk) (tOp_ok' hm)
theorem se_ix {r : R2} {g : Val → Val → Option Val} (hr : IxR X r) (hm : M2 X.prog X.w X.K r g) (ha : SO q X a Da) (hb : SO true X b Db) (hs : PlainIx b) : SE q X (.Subscript a b pos) (c2 g Da Db) := peI (pe_ix hr ha hb hs) (tOp_ok hm)
theorem se_ix' {r : R2} {g : Val → Val → Option Val} (hr : IxR X r) (hm : M2 X.prog X.w X.K r g) (ha : SE q X a Da) (hb : SO q X b Db) (hs : PlainIx b) : SE q X (.Subscript a b pos) (c2 g Da Db) := peI (pe_ix hr ha hb hs) (tOp_ok' hm)

/-! argument lists -/
section
variable {es : List Expr} {Ds : Evs}
theorem ses_nil : SEs true X [] nilM := paI pa_nil fun σ H Q ⟨F, τ, L, x, τ', s, g, ev, post⟩ => by
  cases ev
  exact post [] F H L [] .nil s (by rw [List.append_nil]; exact Step.refl g)
theorem sos_nil : SOs true X [] nilM := paI pa_nil fun σ H Q ⟨F, τ, L, x, τ', s, g, ev, post⟩ => by
  cases ev
  exact post [] F H L [] .nil s (Step.refl g)
theorem ses_cons (ha : SE q X e D) (hr : SEs q X es Ds) (hs : starEach (e :: es) X.env = (false, eval e X.env) :: starEach es X.env := by rfl) : SEs q X (e :: es) (consM D Ds) :=
  paI (pa_cons ha hr hs) fun σ H Q ⟨F, τ, L, z, τ', s, g, ev, post⟩ => by
    obtain ⟨⟨x, τ1⟩, e1, ev⟩ := bind_eq ev
    obtain ⟨⟨ys, τ2⟩, e2, ev⟩ := bind_eq ev
    cases ev
    refine ⟨F, τ, L, x, τ1, s, g, e1, fun v1 F1 H1 L1 Lr1 h1 s1 st1 => ?_⟩
    have g1 := st1.good.sub (Sub.left L1 Lr1)
    refine ⟨F1, τ1, L1, ys, _, s1, g1, e2, fun v2 F2 H2 L2 Lr2 h2 s2 st2 => ?_⟩
    have dj := (List.nodup_append.mp st1.good.nd).2.2
    refine post _ F2 H2 L2 (Lr1 ++ Lr2) (.cons (h1.stepR st2 g1.ft g1.nf fun a ha k => dj a k a ha rfl) h2) s2 ?_
    have z := (st1.seq st2).andS
    refine z.sub (Sub.of_perm ?_)
    rw [List.append_assoc]
    exact List.perm_append_comm.append_left L2
theorem sos_cons (ha : SO q X e D) (hr : SOs true X es Ds) (hs : starEach (e :: es) X.env = (false, eval e X.env) :: starEach es X.env := by rfl) : SOs q X (e :: es) (consM D Ds) :=
  paI (pa_cons ha hr hs) fun σ H Q ⟨F, τ, L, z, τ', s, g, ev, post⟩ => by
    obtain ⟨⟨x, τ1⟩, e1, ev⟩ := bind_eq ev
    obtain ⟨⟨ys, τ2⟩, e2, ev⟩ := bind_eq ev
    cases ev
    refine ⟨F, τ, L, x, τ1, s, g, e1, fun v1 F1 H1 L1 Lr1 h1 s1 st1 => ?_⟩
    refine ⟨F1, τ1, L1, ys, _, s1, st1.good, e2, fun v2 F2 H2 L2 Lr2 h2 s2 st2 => ?_⟩
    exact post _ F2 H2 L2 (Lr1 ++ Lr2) (.cons (h1.stepQ st2 st1.good.ft) h2) s2 (st1.trans st2).andT
theorem sos_cons' (ha : SE q X e D) (hr : SOs q X es Ds) (hs : starEach (e :: es) X.env = (false, eval e X.env) :: starEach es X.env := by rfl) : SOs q X (e :: es) (consM D Ds) :=
  paI (pa_cons ha hr hs) fun σ H Q ⟨F, τ, L, z, τ', s, g, ev, post⟩ => by
    obtain ⟨⟨x, τ1⟩, e1, ev⟩ := bind_eq ev
    obtain ⟨⟨ys, τ2⟩, e2, ev⟩ := bind_eq ev
    cases ev
    refine ⟨F, τ, L, x, τ1, s, g, e1, fun v1 F1 H1 L1 Lr1 h1 s1 st1 => ?_⟩
    have g1 := st1.good.sub (Sub.left L1 Lr1)
    refine ⟨F1, τ1, L1, ys, _, s1, g1, e2, fun v2 F2 H2 L2 Lr2 h2 s2 st2 => ?_⟩
    have dj := (List.nodup_append.mp st1.good.nd).2.2
    exact post _ F2 H2 L2 (Lr1 ++ Lr2) (.cons (h1.stepR st2 g1.ft g1.nf fun a ha k => dj a k a ha rfl) h2) s2 ((st1.sub (Sub.left L1 Lr1)).trans st2).andS

/-! displays -/
def mkTup (xs : List Val) : Option Val := if xs.length ≤ sizeLine then some (.tup xs) else none
def mkLst (xs : List Val) : Option Val := if xs.length ≤ sizeLine then some (.lst true xs) else none
theorem se_tup {k : Nat} (h : SEs q X es Ds) : SE q X (.Tuple es k pos) (cN mkTup Ds) := peI (pe_tup h) fun σ H Q ⟨F, τ, L, z, τ', s, g, ev, post⟩ => by
  obtain ⟨⟨xs, τ1⟩, e1, ev⟩ := bind_eq ev
  obtain ⟨z', e2, ev⟩ := bind_eq ev
  cases ev
  unfold mkTup at e2
  split at e2
  · rename_i hl
    cases e2
    refine ⟨F, τ, L, xs, _, s, g, e1, fun vs F1 H1 L1 Lr h1 s1 st1 => ⟨by rw [h1.length]; exact hl, fun p np => ?_⟩⟩
    have st2 := Step.newF (o := .tup vs) st1.good np
    refine post _ _ _ L1 Lr (.tup (.inl ⟨.inr rfl, upd_same⟩) (h1.stepQ st2 st1.good.ft)) (s1.stepQ st2 st1.good.ft) (st1.trans st2).andT
  · exact nomatch e2
theorem se_lst (h : SEs q X es Ds) : SE q X (.List es pos) (cN mkLst Ds) := peI (pe_lst h) fun σ H Q ⟨F, τ, L, z, τ', s, g, ev, post⟩ => by
  obtain ⟨⟨xs, τ1⟩, e1, ev⟩ := bind_eq ev
  obtain ⟨z', e2, ev⟩ := bind_eq ev
  cases ev
  unfold mkLst at e2
  split at e2
  · rename_i hl
    cases e2
    refine ⟨F, τ, L, xs, _, s, g, e1, fun vs F1 H1 L1 Lr h1 s1 st1 => ⟨by rw [h1.length]; exact hl, fun p np => ?_⟩⟩
    have st2 := Step.new (o := .lst vs) st1.good np
    have hA : At F1 (upd H1 p (.lst vs)) true p (.lst vs) Lr (p :: Lr) := by
      show (if true = true then _ else _)
      rw [if_pos rfl]
      exact ⟨upd_same, rfl⟩
    refine post _ _ _ L1 (p :: Lr) (.lst hA (h1.stepQ st2 st1.good.ft)) (s1.stepQ st2 st1.good.ft) ((st1.trans st2).andT.sub (Sub.of_perm ?_))
    rw [List.append_assoc]
    exact (List.perm_append_comm (l₁ := [p]) (l₂ := Lr)).append_left L1
  · exact nomatch e2
/-! calls of what is built in -/
theorem se_callB {x : Str} {id : String} {r : List V → Hp → VK → Prop} {g : List Val → Option Val} {p : Pos} (hc : CallR X (.builtin id) r) (hm : MN X.prog X.w X.K r g) (hmg : X.mg x = none) (hv : bootBuiltins x = some (.builtin id)) (ha : SOs q X (e :: es) Ds) (hg : Gl X x := by rfl)
    (hn : x ≠ "__name__" := by decide) (hdb : (x == ("__debug__" : Str)) = false := by decide)
    (he : starEach (e :: es) X.env = (false, eval e X.env) :: starEach es X.env := by rfl) (hpl : (backTo pos (starEach es X.env)).any (·.1) = false := by rfl) : SE q X (.Call (.Name x p) (e :: es) [] pos) (cN g Ds) :=
  peI (pe_callB hc hg hmg hv ha hn hdb he hpl) fun σ H Q ⟨F, τ, L, z, τ', s, gd, ev, post⟩ => by
    obtain ⟨⟨xs, τ1⟩, e1, ev⟩ := bind_eq ev
    obtain ⟨z', e2, ev⟩ := bind_eq ev
    cases ev
    refine ⟨F, τ, L, xs, _, s, gd, e1, fun vs F1 H1 L1 Lr h1 s1 st1 => ?_⟩
    exact hm F1 H1 vs xs Lr z Q st1.good.ft h1 e2 fun u F2 H2 M h2 st2 => post u F2 H2 L1 M h2 (s1.stepQ st2 st1.good.ft) (st1.op st2)
theorem se_callTy {x : Str} {T : String} {r : List V → Hp → VK → Prop} {g : List Val → Option Val} {p : Pos} (hc : CallR X (.type T) r) (hm : MN X.prog X.w X.K r g) (hmg : X.mg x = none) (hv : bootBuiltins x = some (.type T)) (ha : SOs q X (e :: es) Ds) (hg : Gl X x := by rfl)
    (hn : x ≠ "__name__" := by decide) (hdb : (x == ("__debug__" : Str)) = false := by decide)
    (he : starEach (e :: es) X.env = (false, eval e X.env) :: starEach es X.env := by rfl) (hpl : (backTo pos (starEach es X.env)).any (·.1) = false := by rfl) : SE q X (.Call (.Name x p) (e :: es) [] pos) (cN g Ds) :=
  peI (pe_callTy hc hg hmg hv ha hn hdb he hpl) fun σ H Q ⟨F, τ, L, z, τ', s, gd, ev, post⟩ => by
    obtain ⟨⟨xs, τ1⟩, e1, ev⟩ := bind_eq ev
    obtain ⟨z', e2, ev⟩ := bind_eq ev
    cases ev
    refine ⟨F, τ, L, xs, _, s, gd, e1, fun vs F1 H1 L1 Lr h1 s1 st1 => ?_⟩
    exact hm F1 H1 vs xs Lr z Q st1.good.ft h1 e2 fun u F2 H2 M h2 st2 => post u F2 H2 L1 M h2 (s1.stepQ st2 st1.good.ft) (st1.op st2)
end

/-! tests -/
def Val.bool? : Val → Option Bool
  | .bl b => some b
  | _ => none
theorem bool?_some {x : Val} {c : Bool} (h : x.bool? = some c) : x = .bl c := by
  cases x <;> first | (cases h; rfl) | exact nomatch h
def tst (D : Ev) : Tv := fun τ => (D τ).bind fun p => (p.1.bool?).bind fun c => some (c, p.2)
def andM (A B : Tv) : Tv := fun τ => (A τ).bind fun p => if p.1 = true then B p.2 else some (false, p.2)
def orM (A B : Tv) : Tv := fun τ => (A τ).bind fun p => if p.1 = true then some (true, p.2) else B p.2
def notM (A : Tv) : Tv := fun τ => (A τ).bind fun p => some (!p.1, p.2)
def andV (A B : Ev) : Ev := fun τ => (A τ).bind fun p => (p.1.bool?).bind fun c => if c = true then B p.2 else some (.bl false, p.2)
def orV (A B : Ev) : Ev := fun τ => (A τ).bind fun p => (p.1.bool?).bind fun c => if c = true then some (.bl true, p.2) else B p.2
def notV (A : Ev) : Ev := fun τ => (A τ).bind fun p => (p.1.bool?).bind fun c => some (.bl (!c), p.2)
def ifV (T : Tv) (A B : Ev) : Ev := fun τ => (T τ).bind fun p => if p.1 = true then A p.2 else B p.2
section
variable {P : Program} {w : World} {K : PySem.W.Frag}
theorem VR.bl_inv {F : Addr → Prop} {H : Hp} {v : V} {c : Bool} {L : List Addr} (h : VR P w K F H v (.bl c) L) : v = .bl c := by cases h; rfl
theorem VR.int_inv {F : Addr → Prop} {H : Hp} {v : V} {i : Int} {L : List Addr} (h : VR P w K F H v (.int i) L) : v = .int i := by cases h; rfl
theorem VR.str_inv {F : Addr → Prop} {H : Hp} {v : V} {z : Str} {L : List Addr} (h : VR P w K F H v (.str z) L) : v = .str z := by cases h; rfl
theorem VR.non_inv {F : Addr → Prop} {H : Hp} {v : V} {L : List Addr} (h : VR P w K F H v .non L) : v = .non := by cases h; rfl
theorem tB_ok (σ : S2) (H : Hp) (Q : Bool → Hp → Prop) (h : tT P w K q (tst D) σ H Q) : tB (tO P w K q D) σ H Q := by
  obtain ⟨F, τ, L, c, τ', s, g, ev, post⟩ := h
  obtain ⟨⟨x, τ1⟩, e1, ev⟩ := bind_eq ev
  obtain ⟨c', e2, ev⟩ := bind_eq ev
  cases ev
  obtain rfl := bool?_some e2
  exact ⟨F, τ, L, _, _, s, g, e1, fun v F' H' L' Lr h1 s1 st1 => ⟨c, h1.bl_inv, post F' H' L' s1 st1⟩⟩
end
theorem st_val (h : SO q X e D) (he : ∀ whole, isTrue e X.env whole = (do let v ← whole; standAt e.pos; holding [v] (truthy v)) := by intro _; rfl) : ST q X e (tst D) := ptI (pt_val h he) tB_ok
theorem st_cmp {op : CmpOp} {r : R2} {g : Val → Val → Option Val} (ho : OpR X (compareOp op) r) (hm : M2 X.prog X.w X.K r g) (ha : SO q X a Da) (hb : SO true X b Db) (hmk : behindInMarks op b = false) : ST q X (.Compare a [op] [b] pos) (tst (c2 g Da Db)) :=
  ptI (pt_cmpR ho ha hb hmk) fun σ H Q h => by
    obtain ⟨F, τ, L, c, τ', s, gd, ev, post⟩ := h
    obtain ⟨⟨x, τ1⟩, e1, ev⟩ := bind_eq ev
    obtain ⟨c', e2, ev⟩ := bind_eq ev
    cases ev
    obtain rfl := bool?_some e2
    refine tOp_ok hm σ H _ ⟨F, τ, L, _, _, s, gd, e1, fun v F' H' L' Lr h1 s1 st1 => ⟨c, h1.bl_inv, post F' H' L' s1 (st1.sub (Sub.left L' Lr))⟩⟩
theorem st_cmp' {op : CmpOp} {r : R2} {g : Val → Val → Option Val} (ho : OpR X (compareOp op) r) (hm : M2 X.prog X.w X.K r g) (ha : SE q X a Da) (hb : SO q X b Db) (hmk : behindInMarks op b = false) : ST q X (.Compare a [op] [b] pos) (tst (c2 g Da Db)) :=
  ptI (pt_cmpR ho ha hb hmk) fun σ H Q h => by
    obtain ⟨F, τ, L, c, τ', s, gd, ev, post⟩ := h
    obtain ⟨⟨x, τ1⟩, e1, ev⟩ := bind_eq ev
    obtain ⟨c', e2, ev⟩ := bind_eq ev
    cases ev
    obtain rfl := bool?_some e2
    refine tOp_ok' hm σ H _ ⟨F, τ, L, _, _, s, gd, e1, fun v F' H' L' Lr h1 s1 st1 => ⟨c, h1.bl_inv, post F' H' L' s1 (st1.sub (Sub.left L' Lr))⟩⟩
section
variable {rest : List Expr} {A B : Tv}
theorem sw_and1 (ha : ST q X a A) : SW q X (.BoolOp .And [a] pos) A := pw_and1 ha
theorem sw_or1 (ha : ST q X a A) : SW q X (.BoolOp .Or [a] pos) A := pw_or1 ha
theorem sw_and (ha : ST q X a A) (hb : SW q X (.BoolOp .And (b :: rest) pos) B) : SW q X (.BoolOp .And (a :: b :: rest) pos) (andM A B) :=
  pwI (pw_and ha hb) fun σ H Q ⟨F, τ, L, c, τ', s, g, ev, post⟩ => by
    obtain ⟨⟨d, τ1⟩, e1, ev⟩ := bind_eq ev
    refine ⟨F, τ, L, d, τ1, s, g, e1, fun F1 H1 L1 s1 st1 => ?_⟩
    cases d with
    | true =>
      simp only [if_true] at ev ⊢
      exact ⟨F1, τ1, L1, c, τ', s1, st1.good, ev, fun F2 H2 L2 s2 st2 => post F2 H2 L2 s2 (st1.trans st2).andS⟩
    | false =>
      simp only [Bool.false_eq_true, if_false] at ev ⊢
      cases ev
      exact post F1 H1 L1 s1 st1
theorem sw_or (ha : ST q X a A) (hb : SW q X (.BoolOp .Or (b :: rest) pos) B) : SW q X (.BoolOp .Or (a :: b :: rest) pos) (orM A B) :=
  pwI (pw_or ha hb) fun σ H Q ⟨F, τ, L, c, τ', s, g, ev, post⟩ => by
    obtain ⟨⟨d, τ1⟩, e1, ev⟩ := bind_eq ev
    refine ⟨F, τ, L, d, τ1, s, g, e1, fun F1 H1 L1 s1 st1 => ?_⟩
    cases d with
    | false =>
      simp only [Bool.false_eq_true, if_false] at ev ⊢
      exact ⟨F1, τ1, L1, c, τ', s1, st1.good, ev, fun F2 H2 L2 s2 st2 => post F2 H2 L2 s2 (st1.trans st2).andS⟩
    | true =>
      simp only [if_true] at ev ⊢
      cases ev
      exact post F1 H1 L1 s1 st1
theorem st_not (ha : ST q X a A) : ST q X (.UnaryOp .Not a pos) (notM A) :=
  ptI (pt_not ha) fun σ H Q ⟨F, τ, L, c, τ', s, g, ev, post⟩ => by
    obtain ⟨⟨d, τ1⟩, e1, ev⟩ := bind_eq ev
    cases ev
    exact ⟨F, τ, L, d, _, s, g, e1, post⟩
theorem se_ifx {c : Expr} (hc : ST q X c A) (ha : SE q X a Da) (hb : SE q X b Db) : SE q X (.IfExp c a b pos) (ifV A Da Db) :=
  peI (pe_ifExp hc ha hb) fun σ H Q ⟨F, τ, L, x, τ', s, g, ev, post⟩ => by
    obtain ⟨⟨d, τ1⟩, e1, ev⟩ := bind_eq ev
    refine ⟨F, τ, L, d, τ1, s, g, e1, fun F1 H1 L1 s1 st1 => ?_⟩
    cases d with
    | true =>
      simp only [if_true] at ev ⊢
      exact ⟨F1, τ1, L1, x, τ', s1, st1.good, ev, fun v F2 H2 L2 Lr h2 s2 st2 => post v F2 H2 L2 Lr h2 s2 (st1.trans st2).andS⟩
    | false =>
      simp only [Bool.false_eq_true, if_false] at ev ⊢
      exact ⟨F1, τ1, L1, x, τ', s1, st1.good, ev, fun v F2 H2 L2 Lr h2 s2 st2 => post v F2 H2 L2 Lr h2 s2 (st1.trans st2).andS⟩
theorem se_one {op : BoolOp} (h : SE q X a Da) : SE q X (.BoolOp op [a] pos) Da := pe_one h
theorem se_and (ha : SO q X a Da) (hb : SE q X (.BoolOp .And (b :: rest) pos) Db) : SE q X (.BoolOp .And (a :: b :: rest) pos) (andV Da Db) :=
  peI (pe_and ha hb) fun σ H Q ⟨F, τ, L, x, τ', s, g, ev, post⟩ => by
    obtain ⟨⟨y, τ1⟩, e1, ev⟩ := bind_eq ev
    obtain ⟨d, e2, ev⟩ := bind_eq ev
    obtain rfl := bool?_some e2
    refine ⟨F, τ, L, _, τ1, s, g, e1, fun v F1 H1 L1 Lr1 h1 s1 st1 => ⟨d, h1.bl_inv, ?_⟩⟩
    cases d with
    | true =>
      simp only [if_true] at ev ⊢
      exact ⟨F1, τ1, L1, x, τ', s1, st1.good, ev, fun v F2 H2 L2 Lr h2 s2 st2 => post v F2 H2 L2 Lr h2 s2 (st1.trans st2).andS⟩
    | false =>
      simp only [Bool.false_eq_true, if_false] at ev ⊢
      cases ev
      exact post _ F1 H1 L1 [] (.bl false) s1 (by rw [List.append_nil]; exact st1)
theorem se_or (ha : SO q X a Da) (hb : SE q X (.BoolOp .Or (b :: rest) pos) Db) : SE q X (.BoolOp .Or (a :: b :: rest) pos) (orV Da Db) :=
  peI (pe_or ha hb) fun σ H Q ⟨F, τ, L, x, τ', s, g, ev, post⟩ => by
    obtain ⟨⟨y, τ1⟩, e1, ev⟩ := bind_eq ev
    obtain ⟨d, e2, ev⟩ := bind_eq ev
    obtain rfl := bool?_some e2
    refine ⟨F, τ, L, _, τ1, s, g, e1, fun v F1 H1 L1 Lr1 h1 s1 st1 => ⟨d, h1.bl_inv, ?_⟩⟩
    cases d with
    | false =>
      simp only [Bool.false_eq_true, if_false] at ev ⊢
      exact ⟨F1, τ1, L1, x, τ', s1, st1.good, ev, fun v F2 H2 L2 Lr h2 s2 st2 => post v F2 H2 L2 Lr h2 s2 (st1.trans st2).andS⟩
    | true =>
      simp only [if_true] at ev ⊢
      cases ev
      exact post _ F1 H1 L1 [] (.bl true) s1 (by rw [List.append_nil]; exact st1)
theorem se_not (ha : SO q X a Da) : SE q X (.UnaryOp .Not a pos) (notV Da) :=
  peI (pe_not ha) fun σ H Q ⟨F, τ, L, x, τ', s, g, ev, post⟩ => by
    obtain ⟨⟨y, τ1⟩, e1, ev⟩ := bind_eq ev
    obtain ⟨d, e2, ev⟩ := bind_eq ev
    obtain rfl := bool?_some e2
    cases ev
    exact ⟨F, τ, L, _, _, s, g, e1, fun v F1 H1 L1 Lr1 h1 s1 st1 => ⟨d, h1.bl_inv, post _ F1 H1 L1 [] (.bl _) s1 (by rw [List.append_nil]; exact st1)⟩⟩
end
end
end MV
end

section
set_option maxHeartbeats 4000000
/-! statements, targets, defs by content -/
namespace MV
open PySem PySem.Spec PyProof.Rows L2

inductive Fl where
  | next | brk | cont
  | ret (v : Val)
abbrev Sv := Sl → Option (Fl × Sl)
/-- the first n slots stand -/
def Keep (n : Nat) (σ σ' : S2) : Prop := ∀ j, j < n → σ'[j]? = σ[j]?
theorem Keep.refl {n : Nat} {σ : S2} : Keep n σ σ := fun _ _ => rfl
theorem Keep.trans {n : Nat} {a b c : S2} (h : Keep n a b) (g : Keep n b c) : Keep n a c := fun j hj => (g j hj).trans (h j hj)

section
variable (P : Program) (w : World) (K : PySem.W.Frag) (n : Nat)
/-- what is wanted at a block's end -/
def EndP (D : Ends) (σ : S2) (F : Addr → Prop) (H : Hp) (L : List Addr) (fl : Fl) (τ' : Sl) : Prop :=
  match fl with
  | .next => ∀ σ' F' H' L', SR P w K F' H' σ' τ' L' → Step false F H L F' H' L' → Keep n σ σ' → D.nx σ' H'
  | .brk => ∀ σ' F' H' L', SR P w K F' H' σ' τ' L' → Step false F H L F' H' L' → Keep n σ σ' → D.bk σ' H'
  | .cont => ∀ σ' F' H' L', SR P w K F' H' σ' τ' L' → Step false F H L F' H' L' → Keep n σ σ' → D.ct σ' H'
  | .ret x => ∀ v σ' F' H' L' Lr, VR P w K F' H' v x Lr → SR P w K F' H' σ' τ' L' → Step false F H L F' H' (L' ++ Lr) → Keep n σ σ' → D.rt v H'
def tSt (B : Sv) : TS := fun D σ H => ∃ F τ L fl τ', SR P w K F H σ τ L ∧ Good F H L ∧ B τ = some (fl, τ') ∧ EndP P w K n D σ F H L fl τ'
end
section
variable {P : Program} {w : World} {K : PySem.W.Frag} {n : Nat}
theorem EndP.trans {D : Ends} {σ σ1 : S2} {F F1 : Addr → Prop} {H H1 : Hp} {L L1 : List Addr} {fl : Fl} {τ' : Sl} {q : Bool} (h : EndP P w K n D σ F H L fl τ') (st : Step q F H L F1 H1 L1) (k : Keep n σ σ1) : EndP P w K n D σ1 F1 H1 L1 fl τ' := by
  cases fl with
  | next => exact fun σ' F' H' L' s t k' => h σ' F' H' L' s (st.weak.trans t) (k.trans k')
  | brk => exact fun σ' F' H' L' s t k' => h σ' F' H' L' s (st.weak.trans t) (k.trans k')
  | cont => exact fun σ' F' H' L' s t k' => h σ' F' H' L' s (st.weak.trans t) (k.trans k')
  | ret x => exact fun v σ' F' H' L' Lr hv s t k' => h v σ' F' H' L' Lr hv s (st.weak.trans t) (k.trans k')
end
abbrev SS (n : Nat) (X : Cx) (s : Stmt) (B : Sv) : Prop := PS X s (tSt X.prog X.w X.K n B)
abbrev SSs (n : Nat) (X : Cx) (s : List Stmt) (B : Sv) : Prop := PSs X s (tSt X.prog X.w X.K n B)

def nextM : Sv := fun τ => some (.next, τ)
def failM : Sv := fun _ => none
def seqM (A B : Sv) : Sv := fun τ => (A τ).bind fun p => match p.1 with
  | .next => B p.2
  | f => some (f, p.2)
def ifM (T : Tv) (A B : Sv) : Sv := fun τ => (T τ).bind fun p => if p.1 = true then A p.2 else B p.2
def retM (D : Ev) : Sv := fun τ => (D τ).bind fun p => some (.ret p.1, p.2)
def dropM (D : Ev) : Sv := fun τ => (D τ).bind fun p => some (.next, p.2)
def brkM : Sv := fun τ => some (.brk, τ)
def contM : Sv := fun τ => some (.cont, τ)
def setM (i : Nat) (D : Ev) : Sv := fun τ => (D τ).bind fun p => some (.next, p.2.set i (some p.1))

section
variable {X : Cx} {n : Nat} {q : Bool} {st : Stmt} {rest : List Stmt} {A B : Sv} {e : Expr} {D : Ev} {pos : Pos}
theorem sss_nil : SSs n X [] nextM := pssI pss_nil fun D σ H ⟨F, τ, L, fl, τ', s, g, ev, post⟩ => by
  cases ev
  exact post σ F H L s (Step.refl g).weak .refl
theorem sss_one (h : SS n X st A) : SSs n X [st] A := pss_one h
theorem sss_cons (h : SS n X st A) (r : SSs n X rest B) : SSs n X (st :: rest) (seqM A B) :=
  pssI (pss_cons h r) fun D σ H ⟨F, τ, L, fl, τ', s, g, ev, post⟩ => by
    obtain ⟨⟨f1, τ1⟩, e1, ev⟩ := bind_eq ev
    refine ⟨F, τ, L, f1, τ1, s, g, e1, ?_⟩
    cases f1 with
    | next => exact fun σ1 F1 H1 L1 s1 st1 k1 => ⟨F1, τ1, L1, fl, τ', s1, st1.good, ev, post.trans st1 k1⟩
    | brk => cases ev; exact post
    | cont => cases ev; exact post
    | ret x => cases ev; exact post
theorem ss_never : SS n X st failM := psI ps_never fun D σ H ⟨F, τ, L, fl, τ', s, g, ev, post⟩ => nomatch ev
theorem sss_never {sts : List Stmt} : SSs n X sts failM := pssI pss_never fun D σ H ⟨F, τ, L, fl, τ', s, g, ev, post⟩ => nomatch ev
theorem ss_pass : SS n X (.Pass pos) nextM := psI ps_pass fun D σ H ⟨F, τ, L, fl, τ', s, g, ev, post⟩ => by
  cases ev
  exact post σ F H L s (Step.refl g).weak .refl
theorem ss_break : SS n X (.Break pos) brkM := psI ps_break fun D σ H ⟨F, τ, L, fl, τ', s, g, ev, post⟩ => by
  cases ev
  exact post σ F H L s (Step.refl g).weak .refl
theorem ss_continue : SS n X (.Continue pos) contM := psI ps_continue fun D σ H ⟨F, τ, L, fl, τ', s, g, ev, post⟩ => by
  cases ev
  exact post σ F H L s (Step.refl g).weak .refl
theorem ss_if {c : Expr} {a b : List Stmt} {T : Tv} (hc : ST q X c T) (ha : SSs n X a A) (hb : SSs n X b B) : SS n X (.If c a b pos) (ifM T A B) :=
  psI (ps_if hc ha hb) fun D σ H ⟨F, τ, L, fl, τ', s, g, ev, post⟩ => by
    obtain ⟨⟨d, τ1⟩, e1, ev⟩ := bind_eq ev
    refine ⟨F, τ, L, d, τ1, s, g, e1, fun F1 H1 L1 s1 st1 => ?_⟩
    cases d with
    | true =>
      simp only [if_true] at ev ⊢
      exact ⟨F1, τ1, L1, fl, τ', s1, st1.good, ev, post.trans st1 .refl⟩
    | false =>
      simp only [Bool.false_eq_true, if_false] at ev ⊢
      exact ⟨F1, τ1, L1, fl, τ', s1, st1.good, ev, post.trans st1 .refl⟩
theorem ss_ret (he : SE q X e D) : SS n X (.Return (some e) pos) (retM D) :=
  psI (ps_ret he) fun D σ H ⟨F, τ, L, fl, τ', s, g, ev, post⟩ => by
    obtain ⟨⟨x, τ1⟩, e1, ev⟩ := bind_eq ev
    cases ev
    exact ⟨F, τ, L, x, _, s, g, e1, fun v F1 H1 L1 Lr h1 s1 st1 => post v σ F1 H1 L1 Lr h1 s1 st1.weak .refl⟩
theorem ss_expr (he : SO q X e D) (hs : swapsWith e none pos.line X.env = Pure.pure false := by rfl) : SS n X (.Expr e pos) (dropM D) :=
  psI (ps_expr he hs) fun D σ H ⟨F, τ, L, fl, τ', s, g, ev, post⟩ => by
    obtain ⟨⟨x, τ1⟩, e1, ev⟩ := bind_eq ev
    cases ev
    exact ⟨F, τ, L, x, _, s, g, e1, fun v F1 H1 L1 Lr h1 s1 st1 => post σ F1 H1 L1 s1 st1.weak .refl⟩
theorem Keep.set {i : Nat} {σ : S2} {o : Option V} (h : n ≤ i) : Keep n σ (σ.set i o) := fun j hj => by
  rw [List.getElem?_set_ne (by omega)]
theorem ss_set {i : Nat} {x : Str} {pos' : Pos} (hN : X.N.Nodup) (hni : n ≤ i) (he : SE q X e D) (hi : X.N[i]? = some x := by rfl) (hx : Loc X.env.scope x := by first | exact Or.inl rfl | exact Or.inr rfl) (hs : swapsWith e (some (.Name x pos')) pos.line X.env = Pure.pure false := by rfl)
    (hf : X.fn x = true ∨ X.env.scope.names.lookup x = some .local := by first | exact .inl rfl | exact .inr rfl) : SS n X (.Assign [.Name x pos'] e pos) (setM i D) :=
  psI (ps_set hN hi hx he hs hf) fun D σ H ⟨F, τ, L, fl, τ', s, g, ev, post⟩ => by
    obtain ⟨⟨y, τ1⟩, e1, ev⟩ := bind_eq ev
    cases ev
    refine ⟨F, τ, L, y, _, s, g, e1, fun v F1 H1 L1 Lr h1 s1 st1 => ?_⟩
    obtain ⟨L2, s2, sb⟩ := s1.put (i := i) h1
    exact post _ F1 H1 L2 s2 (st1.sub sb).weak (Keep.set hni)

/-! targets -/
abbrev Tg := Val → Sl → Option Sl
abbrev Tgs := List Val → Sl → Option Sl
/-- own: the slots that are stored to -/
def KeepO (own : List Nat) (σ σ' : S2) : Prop := σ'.length = σ.length ∧ ∀ j, j ∉ own → σ'[j]? = σ[j]?
section
variable (P : Program) (w : World) (K : PySem.W.Frag) (own : List Nat)
def tG (T : Tg) : TG := fun v σ H Q => ∃ F τ L x Lx τ', SR P w K F H σ τ L ∧ Good F H (L ++ Lx) ∧ VR P w K F H v x Lx ∧ T x τ = some τ' ∧
  ∀ σ' L', SR P w K F H σ' τ' L' → Sub L' (L ++ Lx) → KeepO own σ σ' → Q σ' H
def tGs (T : Tgs) : TGs := fun vs σ H Q => ∃ F τ L xs Lx τ', SR P w K F H σ τ L ∧ Good F H (L ++ Lx) ∧ VRs P w K F H vs xs Lx ∧ T xs τ = some τ' ∧
  ∀ σ' L', SR P w K F H σ' τ' L' → Sub L' (L ++ Lx) → KeepO own σ σ' → Q σ' H
end
abbrev SG (own : List Nat) (X : Cx) (tg : Expr) (T : Tg) : Prop := PG X tg (tG X.prog X.w X.K own T)
abbrev SGs (own : List Nat) (X : Cx) (tg : List Expr) (T : Tgs) : Prop := PGs X tg (tGs X.prog X.w X.K own T)
theorem pgI {tg : Expr} {t t' : TG} (h : PG X tg t) (i : ∀ v σ H Q, t' v σ H Q → t v σ H Q) : PG X tg t' := ⟨fun pins s σ H v u Q I r hw => h.run pins s σ H v u Q I r (i v σ H Q hw)⟩
theorem pgsI {tg : List Expr} {t t' : TGs} (h : PGs X tg t) (i : ∀ v σ H Q, t' v σ H Q → t v σ H Q) : PGs X tg t' := ⟨fun pins s σ H v u Q I r hw => h.run pins s σ H v u Q I r (i v σ H Q hw)⟩
def nameT (i : Nat) : Tg := fun x τ => some (τ.set i (some x))
def nilT : Tgs := fun xs τ => if xs.isEmpty = true then some τ else none
def consT (T : Tg) (U : Tgs) : Tgs := fun xs τ => match xs with
  | x :: r => (T x τ).bind fun τ1 => U r τ1
  | [] => none
def tupT (n : Nat) (U : Tgs) : Tg := fun x τ => match x with
  | .tup xs => if xs.length = n then U xs τ else none
  | _ => none
theorem KeepO.refl {own : List Nat} {σ : S2} : KeepO own σ σ := ⟨rfl, fun _ _ => rfl⟩
theorem KeepO.trans {own own' : List Nat} {a b c : S2} (h : KeepO own a b) (g : KeepO own' b c) : KeepO (own ++ own') a c :=
  ⟨g.1.trans h.1, fun j hj => by
    rw [List.mem_append, not_or] at hj
    exact (g.2 j hj.2).trans (h.2 j hj.1)⟩
theorem KeepO.keep {own : List Nat} {a b : S2} (h : KeepO own a b) (hn : ∀ j ∈ own, n ≤ j) : Keep n a b := fun j hj => h.2 j fun z => absurd (hn j z) (by omega)
theorem sg_name {i : Nat} {x : Str} (hN : X.N.Nodup) (hi : X.N[i]? = some x := by rfl) (hx : Loc X.env.scope x := by first | exact Or.inl rfl | exact Or.inr rfl) (hf : X.fn x = true ∨ X.env.scope.names.lookup x = some .local := by first | exact .inl rfl | exact .inr rfl) : SG [i] X (.Name x pos) (nameT i) :=
  pgI (pg_name hN hi hx hf) fun v σ H Q ⟨F, τ, L, x, Lx, τ', s, g, hv, ev, post⟩ => by
    cases ev
    obtain ⟨L2, s2, sb⟩ := s.put (i := i) hv
    exact post _ L2 s2 sb ⟨List.length_set, fun j hj => List.getElem?_set_ne fun z => hj (List.mem_singleton.mpr z.symm)⟩
theorem sgs_nil : SGs [] X [] nilT := pgsI pgs_nil fun vs σ H Q ⟨F, τ, L, xs, Lx, τ', s, g, hv, ev, post⟩ => by
  cases xs with
  | nil =>
    cases ev
    cases hv
    exact ⟨rfl, post σ L s (Sub.left L []) .refl⟩
  | cons x r => exact nomatch ev
theorem sgs_cons {es : List Expr} {T : Tg} {U : Tgs} {own own' : List Nat} (h1 : SG own X e T) (h2 : SGs own' X es U) (hs : (assignEach (e :: es) X.env).map (·.2) = assign e X.env :: (assignEach es X.env).map (·.2) := by rfl) : SGs (own ++ own') X (e :: es) (consT T U) :=
  pgsI (pgs_cons h1 h2 hs) fun vs σ H Q ⟨F, τ, L, xs, Lx, τ', s, g, hv, ev, post⟩ => by
    cases xs with
    | nil => exact nomatch ev
    | cons x r =>
      cases hv with
      | @cons v _ L1 vr _ L2 h t =>
        obtain ⟨τ1, e1, ev⟩ := bind_eq ev
        have p3 : (L ++ (L1 ++ L2)).Perm ((L ++ L1) ++ L2) := by rw [List.append_assoc]
        have g2 : Good F H ((L ++ L1) ++ L2) := g.sub (Sub.of_perm p3.symm)
        refine ⟨v, vr, rfl, F, τ, L, x, L1, τ1, s, g2.sub (Sub.left _ _), h, e1, fun σ1 La s1 sb1 k1 => ?_⟩
        refine ⟨F, τ1, La, r, L2, τ', s1, g2.sub (sb1.app (Sub.refl L2)), t, ev, fun σ2 Lb s2 sb2 k2 => post σ2 Lb s2 (sb2.trans ((sb1.app (Sub.refl L2)).trans (Sub.of_perm p3.symm))) (k1.trans k2)⟩
theorem sg_tup {es : List Expr} {k m : Nat} {U : Tgs} {own : List Nat} (hc : X.calm = true) (h : SGs own X es U) (hn : (assignEach es X.env).length = m := by rfl) (hst : (assignEach es X.env).findIdx? (·.1) = none := by rfl) : SG own X (.Tuple es k pos) (tupT m U) :=
  pgI (pg_tup hc h hn hst) fun v σ H Q ⟨F, τ, L, x, Lx, τ', s, g, hv, ev, post⟩ => by
    cases hv with
    | @tup a vs xs _ ha hvs =>
      have ev' : (if xs.length = m then U xs τ else none) = some τ' := ev
      split at ev'
      · rename_i hl
        exact ⟨a, vs, rfl, ha.sq, by rw [hvs.length]; exact hl, F, τ, L, xs, Lx, τ', s, g, hvs, ev', post⟩
      · exact nomatch ev'
    | _ => exact nomatch ev
def asgM (T : Tg) (D : Ev) : Sv := fun τ => (D τ).bind fun p => (T p.1 p.2).bind fun τ' => some (.next, τ')
theorem ss_asg {tg : Expr} {T : Tg} {own : List Nat} (hn : ∀ j ∈ own, n ≤ j) (he : SE q X e D) (hg : SG own X tg T) (hs : swapsWithSole [tg] e pos.line X.env = Pure.pure false := by rfl) (hw : swappedStores [tg] e X.env = Pure.pure none := by rfl)
    (h1 : (assignEach [tg] X.env).map (·.2) = [assign tg X.env] := by rfl) : SS n X (.Assign [tg] e pos) (asgM T D) :=
  psI (ps_asg he hg hs hw h1) fun D σ H ⟨F, τ, L, fl, τ', s, g, ev, post⟩ => by
    obtain ⟨⟨y, τ1⟩, e1, ev⟩ := bind_eq ev
    obtain ⟨τ2, e2, ev⟩ := bind_eq ev
    cases ev
    refine ⟨F, τ, L, y, τ1, s, g, e1, fun v F1 H1 L1 Lr h1 s1 st1 => ?_⟩
    exact ⟨F1, τ1, L1, y, Lr, _, s1, st1.good, h1, e2, fun σ2 L2 s2 sb k => post σ2 F1 H1 L2 s2 (st1.sub sb).weak (k.keep hn)⟩
/-- a, b = e1, e2 -/
def parM (i j : Nat) (Ds : Evs) : Sv := fun τ => (Ds τ).bind fun p => match p.1 with
  | [x, y] => some (.next, (p.2.set i (some x)).set j (some y))
  | _ => none
theorem ss_par {i j : Nat} {x y : Str} {a b : Expr} {Ds : Evs} {px py pt : Pos} {kt k2 : Nat} {pt2 : Pos} (hc : X.calm = true) (hN : X.N.Nodup) (hij : i ≠ j) (hni : n ≤ i) (hnj : n ≤ j) (ha : SEs q X [a, b] Ds) (hi : X.N[i]? = some x := by rfl) (hj : X.N[j]? = some y := by rfl)
    (hx : X.env.scope.names.lookup x = some .local := by rfl) (hy : X.env.scope.names.lookup y = some .local := by rfl)
    (hw : swappedStores [.Tuple [.Name x px, .Name y py] kt pt] (.Tuple [a, b] k2 pt2) X.env = Pure.pure (some [x, y]) := by rfl)
    (hs : swapsWithSole [.Tuple [.Name x px, .Name y py] kt pt] (.Tuple [a, b] k2 pt2) pos.line X.env = Pure.pure false := by rfl) :
    SS n X (.Assign [.Tuple [.Name x px, .Name y py] kt pt] (.Tuple [a, b] k2 pt2) pos) (parM i j Ds) :=
  psI (ps_par hc hN hi hj hij hx hy ha hw hs) fun D σ H ⟨F, τ, L, fl, τ', s, g, ev, post⟩ => by
    obtain ⟨⟨xs, τ1⟩, e1, ev⟩ := bind_eq ev
    match xs, ev, e1 with
    | [x1, x2], ev, e1 =>
      cases ev
      refine ⟨F, τ, L, [x1, x2], τ1, s, g, e1, fun vs F1 H1 L1 Lr h1 s1 st1 => ?_⟩
      cases h1 with
      | @cons v1 _ La vr _ Lb h1 t =>
        cases t with
        | @cons v2 _ Lb vr2 _ Lc h2 t2 =>
          cases t2
          refine ⟨v1, v2, rfl, ?_⟩
          obtain ⟨L2, s2, sb⟩ := s1.put (i := i) h1
          obtain ⟨L3, s3, sb3⟩ := s2.put (i := j) h2
          refine post _ F1 H1 L3 s3 (st1.sub ?_).weak ((Keep.set hni).trans (Keep.set hnj))
          refine sb3.trans ((sb.app (Sub.refl Lb)).trans ?_)
          rw [List.append_nil, List.append_assoc]
          exact Sub.refl _
    | [], ev, _ => exact nomatch ev
    | [_], ev, _ => exact nomatch ev
    | _ :: _ :: _ :: _, ev, _ => exact nomatch ev

/-! while -/
def whileN : Nat → Tv → Sv → Sv
  | 0, _, _ => fun _ => none
  | n + 1, T, B => fun τ => (T τ).bind fun p => if p.1 = true then (B p.2).bind fun r => match r.1 with
    | .next => whileN n T B r.2
    | .cont => whileN n T B r.2
    | .brk => some (.next, r.2)
    | .ret v => some (.ret v, r.2)
    else some (.next, p.2)
open Classical in
noncomputable def whileM (T : Tv) (B : Sv) : Sv := fun τ => if h : ∃ r, ∃ n, whileN n T B τ = some r then some (choose h) else none
theorem whileN_succ {T : Tv} {B : Sv} : ∀ {m : Nat} {τ : Sl} {r : Fl × Sl}, whileN m T B τ = some r → whileN (m + 1) T B τ = some r
  | 0, _, _, h => nomatch h
  | m + 1, τ, r, h => by
    unfold whileN at h ⊢
    obtain ⟨⟨c, τ1⟩, e1, h⟩ := bind_eq h
    rw [e1, Option.bind_some]
    cases c with
    | false => exact h
    | true =>
      simp only [if_true] at h ⊢
      obtain ⟨⟨f, τ2⟩, e2, h⟩ := bind_eq h
      rw [e2, Option.bind_some]
      cases f with
      | next => exact whileN_succ (m := m) h
      | cont => exact whileN_succ (m := m) h
      | brk => exact h
      | ret v => exact h
theorem whileN_le {T : Tv} {B : Sv} {m k : Nat} {τ : Sl} {r : Fl × Sl} (h : whileN m T B τ = some r) (hk : m ≤ k) : whileN k T B τ = some r := by
  induction hk with
  | refl => exact h
  | step _ ih => exact whileN_succ ih
theorem whileM_of {T : Tv} {B : Sv} {m : Nat} {τ : Sl} {r : Fl × Sl} (h : whileN m T B τ = some r) : whileM T B τ = some r := by
  have hx : ∃ r, ∃ n, whileN n T B τ = some r := ⟨r, m, h⟩
  unfold whileM
  rw [dif_pos hx]
  obtain ⟨k, hk⟩ := Classical.choose_spec hx
  have e1 := whileN_le h (Nat.le_max_left m k)
  have e2 := whileN_le hk (Nat.le_max_right m k)
  rw [e1] at e2
  exact e2.symm
theorem whileM_some {T : Tv} {B : Sv} {τ : Sl} {r : Fl × Sl} (h : whileM T B τ = some r) : ∃ m, whileN m T B τ = some r := by
  unfold whileM at h
  split at h
  · rename_i hx
    obtain ⟨k, hk⟩ := Classical.choose_spec hx
    exact ⟨k, hk.trans h⟩
  · exact nomatch h
/-- one turn -/
theorem whileM_eq (T : Tv) (B : Sv) (τ : Sl) : whileM T B τ = (T τ).bind fun p => if p.1 = true then (B p.2).bind fun r => match r.1 with
    | .next => whileM T B r.2
    | .cont => whileM T B r.2
    | .brk => some (.next, r.2)
    | .ret v => some (.ret v, r.2)
    else some (.next, p.2) := by
  refine Option.ext fun r => ⟨fun h => ?_, fun h => ?_⟩
  · obtain ⟨m, h⟩ := whileM_some h
    cases m with
    | zero => exact nomatch h
    | succ m =>
      unfold whileN at h
      obtain ⟨⟨c, τ1⟩, e1, h⟩ := bind_eq h
      rw [e1, Option.bind_some]
      cases c with
      | false => exact h
      | true =>
        simp only [if_true] at h ⊢
        obtain ⟨⟨f, τ2⟩, e2, h⟩ := bind_eq h
        rw [e2, Option.bind_some]
        cases f with
        | next => exact whileM_of h
        | cont => exact whileM_of h
        | brk => exact h
        | ret v => exact h
  · obtain ⟨⟨c, τ1⟩, e1, h⟩ := bind_eq h
    cases c with
    | false => exact whileM_of (m := 1) (by unfold whileN; rw [e1, Option.bind_some]; exact h)
    | true =>
      simp only [if_true] at h
      obtain ⟨⟨f, τ2⟩, e2, h⟩ := bind_eq h
      cases f with
      | next =>
        obtain ⟨m, hm⟩ := whileM_some h
        exact whileM_of (m := m + 1) (by unfold whileN; rw [e1, Option.bind_some]; simp only [if_true]; rw [e2, Option.bind_some]; exact hm)
      | cont =>
        obtain ⟨m, hm⟩ := whileM_some h
        exact whileM_of (m := m + 1) (by unfold whileN; rw [e1, Option.bind_some]; simp only [if_true]; rw [e2, Option.bind_some]; exact hm)
      | brk => exact whileM_of (m := 1) (by unfold whileN; rw [e1, Option.bind_some]; simp only [if_true]; rw [e2, Option.bind_some]; exact h)
      | ret v => exact whileM_of (m := 1) (by unfold whileN; rw [e1, Option.bind_some]; simp only [if_true]; rw [e2, Option.bind_some]; exact h)
theorem ss_while {c : Expr} {body : List Stmt} {T : Tv} (hp : PassesOwn (model X.prog X.w) X.A X.env X.xe) (hc : ST q X c T) (hb : SSs n X body B) : SS n X (.While c body [] pos) (whileM T B) :=
  psI (ps_while hp hc hb) fun D σ H ⟨F, τ, L, fl, τe, s, g, ev, post⟩ => by
    obtain ⟨m0, h0⟩ := whileM_some ev
    refine ⟨fun m σ' H' => ∃ F' τ' L', SR X.prog X.w X.K F' H' σ' τ' L' ∧ Good F' H' L' ∧ whileN m T B τ' = some (fl, τe) ∧ EndP X.prog X.w X.K n D σ' F' H' L' fl τe, ⟨m0, F, τ, L, s, g, h0, post⟩, ?_⟩
    rintro m σ1 H1 ⟨F1, τ1, L1, s1, g1, h1, post1⟩
    cases m with
    | zero => exact nomatch h1
    | succ m =>
      unfold whileN at h1
      obtain ⟨⟨d, τ2⟩, e2, h1⟩ := bind_eq h1
      refine ⟨F1, τ1, L1, d, τ2, s1, g1, e2, fun F2 H2 L2 s2 st2 => ?_⟩
      have post2 := post1.trans st2 .refl
      cases d with
      | false =>
        simp only [Bool.false_eq_true, if_false] at h1 ⊢
        cases h1
        exact post2 σ1 F2 H2 L2 s2 (Step.refl st2.good).weak .refl
      | true =>
        simp only [if_true] at h1 ⊢
        obtain ⟨⟨f, τ3⟩, e3, h1⟩ := bind_eq h1
        refine ⟨fun σ' H' => ∃ F' τ' L', SR X.prog X.w X.K F' H' σ' τ' L' ∧ Good F' H' L' ∧ whileN m T B τ' = some (fl, τe) ∧ EndP X.prog X.w X.K n D σ' F' H' L' fl τe, fun σ' H' h => ⟨m, Nat.lt_succ_self m, h⟩, F2, τ2, L2, f, τ3, s2, st2.good, e3, ?_⟩
        cases f with
        | next => exact fun σ3 F3 H3 L3 s3 st3 k3 => ⟨F3, τ3, L3, s3, st3.good, h1, post2.trans st3 k3⟩
        | cont => exact fun σ3 F3 H3 L3 s3 st3 k3 => ⟨F3, τ3, L3, s3, st3.good, h1, post2.trans st3 k3⟩
        | brk => cases h1; exact post2
        | ret v => cases h1; exact post2
end

/-! defs -/
section
variable (P : Program) (w : World) (K : PySem.W.Frag)
/-- the promise of a def that answers f of its arguments, all of them left as they are -/
def spM (n : Nat) (f : List Val → Option Val) : Sp := fun vs H Q _ => ∃ F xs r, (∀ a, F a → H a ≠ none) ∧ VRs P w K F H vs xs [] ∧ xs.length = n ∧ f xs = some r ∧
  ∀ v F' H' Lr, VR P w K F' H' v r Lr → Step true F H [] F' H' Lr → Q v H'
/-- .. of a def that changes what its first argument owns -/
def spIO (n : Nat) (f : List Val → Option (Val × Val)) : Sp := fun vs H Q _ => ∃ F v0 vs' y xs L0 r y', vs = v0 :: vs' ∧ Good F H L0 ∧ VR P w K F H v0 y L0 ∧ VRs P w K F H vs' xs [] ∧ xs.length + 1 = n ∧ f (y :: xs) = some (r, y') ∧
  ∀ v F' H' Lr L0', VR P w K F' H' v r Lr → VR P w K F' H' v0 y' L0' → Step false F H L0 F' H' (L0' ++ Lr) → Q v H'
end
def fnM (m : Nat) (B : Sv) (xs : List Val) : Option Val := (B (xs.map some ++ List.replicate m none)).bind fun p => match p.1 with
  | .ret r => some r
  | .next => some .non
  | _ => none
def fnIO (m : Nat) (B : Sv) (xs : List Val) : Option (Val × Val) := (B (xs.map some ++ List.replicate m none)).bind fun p => (p.2[0]?).bind fun o => o.bind fun y => match p.1 with
  | .ret r => some (r, y)
  | .next => some (.non, y)
  | _ => none
section
variable {P : Program} {w : World} {K : PySem.W.Frag} {mg : Str → Option Value} {base : Heap}
theorem SR0.start {F : Addr → Prop} {H : Hp} : ∀ {vs : List V} {xs : List Val} {L : List Addr} (m : Nat), VRs P w K F H vs xs L → SR0 P w K F H (vs.map some ++ List.replicate m none) (xs.map some ++ List.replicate m none) L
  | _, _, _, m, .nil => by
    induction m with
    | zero => exact .nil
    | succ m ih => exact .skip ih
  | _, _, _, m, .cons h t => .cons h (SR0.start m t)
theorem SR0.fill {F : Addr → Prop} {H : Hp} {v : V} {y : Val} {Ly : List Addr} (fz : VR P w K F H v y Ly) : ∀ {σ : S2} {τ : Sl} {L : List Addr} {i : Nat}, SR0 P w K F H σ (τ.set i none) L → σ[i]? = some (some v) → i < τ.length → ∃ L2, SR0 P w K F H σ (τ.set i (some y)) L2 ∧ L2.Perm (L ++ Ly)
  | σ, [], L, i, h1, h2, h3 => absurd h3 (Nat.not_lt_zero _)
  | σ, o :: τ, L, 0, h1, h2, h3 => by
    rw [List.set_cons_zero] at h1 ⊢
    cases h1 with
    | skip t =>
      simp only [List.getElem?_cons_zero, Option.some.injEq] at h2
      subst h2
      exact ⟨_, SR0.cons fz t, List.perm_append_comm⟩
  | σ, o :: τ, L, i + 1, h1, h2, h3 => by
    rw [List.set_cons_succ] at h1 ⊢
    cases h1 with
    | skip t =>
      obtain ⟨L2, a, b⟩ := SR0.fill fz t (by simpa using h2) (by simpa using h3)
      exact ⟨L2, .skip a, b⟩
    | @cons _ _ La _ _ Lb h t =>
      obtain ⟨L2, a, b⟩ := SR0.fill fz t (by simpa using h2) (by simpa using h3)
      exact ⟨La ++ L2, .cons h a, by rw [List.append_assoc]; exact b.append_left La⟩
theorem SR.fill {F : Addr → Prop} {H : Hp} {v : V} {y : Val} {Ly L : List Addr} {σ : S2} {τ : Sl} {i : Nat} (h : SR P w K F H σ (τ.set i none) L) (e : σ[i]? = some (some v)) (hi : i < τ.length) (fz : VR P w K F H v y Ly) : SR P w K F H σ (τ.set i (some y)) (L ++ Ly) := by
  obtain ⟨L0, s, p⟩ := h
  obtain ⟨L2, a, b⟩ := s.fill fz e hi
  exact ⟨L2, a, b.trans (p.append_right Ly)⟩
/-- a def that leaves its arguments as they are keeps the promise -/
theorem fn_ok {x qual : Str} {st : Stmt} {f : Addr} {fd : FuncData} {N ps : List Str} {k n m : Nat} {B : Sv} (Fn : Fun K x qual st f fd) (S : FnScope N ps (defScope st)) (hn : n = ps.length) (hm : N.length - n = m)
    (hbody : ∀ (cdv : Value) (A : Around) (outer : List Env) (s : Shared) (H : Hp) (E : XK), Room k (A.deeper (envOfC qual (defScope st) s.heap.objs.size f cdv)) → SSs 0 (cxOf CX0 P w K mg base N qual (defScope st) f cdv A outer s H E).nox (defBody st) B) :
    FnOk P w K mg base CX0 (k + 1) f fd ps (spM P w K n (fnM m B)) := by
  refine Fn.ok S (fun vs H Q E h => ?_) fun cdv A outer s H vs Q E hr h => ?_
  · obtain ⟨F, xs, r, _, h1, h2, _⟩ := h
    rw [h1.length, h2, hn]
  · obtain ⟨F, xs, r, ft, h1, h2, ev, post⟩ := h
    refine ⟨_, hbody cdv A outer s H E hr, ?_⟩
    obtain ⟨⟨fl, τ'⟩, e1, ev⟩ := bind_eq ev
    have hl : N.length - vs.length = m := by rw [h1.length, h2, hm]
    have s0 : SR P w K F H (L2.start N vs) (xs.map some ++ List.replicate m none) [] := by
      unfold L2.start
      rw [hl]
      exact ⟨[], SR0.start m h1, List.Perm.refl _⟩
    refine ⟨F, _, [], fl, τ', s0, good_nil ft, e1, ?_⟩
    cases fl with
    | ret v => cases ev; exact fun v σ' F' H' L' Lr hv s' st' k' => post v F' H' Lr hv (by
        have z := st'.sub (Sub.right L' Lr)
        exact ⟨z.good, z.fs, z.kp, z.tr, z.mem, z.fm, fun _ a ha => nomatch ha⟩)
    | next => cases ev; exact fun σ' F' H' L' s' st' k' => post .non F' H' [] .non (by
        have z := st'.sub (Sub.nil L')
        exact ⟨z.good, z.fs, z.kp, z.tr, z.mem, z.fm, fun _ a ha => nomatch ha⟩)
    | brk => exact nomatch ev
    | cont => exact nomatch ev
theorem fn_okIO {x qual : Str} {st : Stmt} {f : Addr} {fd : FuncData} {N ps : List Str} {k n m : Nat} {B : Sv} (Fn : Fun K x qual st f fd) (S : FnScope N ps (defScope st)) (hn : n = ps.length) (hm : N.length - n = m)
    (hbody : ∀ (cdv : Value) (A : Around) (outer : List Env) (s : Shared) (H : Hp) (E : XK), Room k (A.deeper (envOfC qual (defScope st) s.heap.objs.size f cdv)) → SSs 1 (cxOf CX0 P w K mg base N qual (defScope st) f cdv A outer s H E).nox (defBody st) B) :
    FnOk P w K mg base CX0 (k + 1) f fd ps (spIO P w K n (fnIO m B)) := by
  refine Fn.ok S (fun vs H Q E h => ?_) fun cdv A outer s H vs Q E hr h => ?_
  · obtain ⟨F, v0, vs', y, xs, L0, r, y', rfl, _, _, h1, h2, _⟩ := h
    rw [List.length_cons, h1.length, h2, hn]
  · obtain ⟨F, v0, vs', y, xs, L0, r, y', rfl, g, h0, h1, h2, ev, post⟩ := h
    refine ⟨_, hbody cdv A outer s H E hr, ?_⟩
    obtain ⟨⟨fl, τ'⟩, e1, ev⟩ := bind_eq ev
    obtain ⟨z, e2, ev⟩ := slot_some ev
    have hl : N.length - (v0 :: vs').length = m := by rw [List.length_cons, h1.length, h2, hm]
    have s0 : SR P w K F H (L2.start N (v0 :: vs')) ((y :: xs).map some ++ List.replicate m none) L0 := by
      unfold L2.start
      rw [hl]
      have hh : VRs P w K F H (v0 :: vs') (y :: xs) (L0 ++ []) := .cons h0 h1
      rw [List.append_nil] at hh
      exact ⟨L0, SR0.start m hh, List.Perm.refl _⟩
    have first : (L2.start N (v0 :: vs'))[0]? = some (some v0) := rfl
    have fin : ∀ {σ' : S2} {F' : Addr → Prop} {H' : Hp} {L' Lr : List Addr} {v : V}, SR P w K F' H' σ' τ' L' → Step false F H L0 F' H' (L' ++ Lr) → Keep 1 (L2.start N (v0 :: vs')) σ' → ∃ L0', VR P w K F' H' v0 z L0' ∧ Step false F H L0 F' H' (L0' ++ Lr) := by
      intro σ' F' H' L' Lr v s' st' k'
      obtain ⟨v1, Li, Lq, a1, a2, p, _⟩ := s'.at e2
      have e3 := (k' 0 (by decide)).symm.trans a1
      rw [first] at e3
      have e4 : v0 = v1 := Option.some.inj (Option.some.inj e3)
      subst e4
      exact ⟨Li, a2, st'.sub (((Sub.right Lq Li).trans (Sub.of_perm p.symm)).app (Sub.refl Lr))⟩
    refine ⟨F, _, L0, fl, τ', s0, g, e1, ?_⟩
    cases fl with
    | ret v =>
      cases ev
      intro v σ' F' H' L' Lr hv s' st' k'
      obtain ⟨L0', a, b⟩ := fin (v := v) s' st' k'
      exact post v F' H' Lr L0' hv a b
    | next =>
      cases ev
      intro σ' F' H' L' s' st' k'
      obtain ⟨L0', a, b⟩ := fin (Lr := []) (v := v0) s' (by rw [List.append_nil]; exact st') k'
      exact post .non F' H' [] L0' .non a b
    | brk => exact nomatch ev
    | cont => exact nomatch ev
end
/-! calls of the text's own defs -/
def callM (f : List Val → Option Val) (Ds : Evs) : Ev := fun τ => (Ds τ).bind fun p => (f (frzL p.1)).bind fun r => if (pureL p.1 || r.own) = true then some (r, p.2) else none
def callIO (f : List Val → Option (Val × Val)) (i : Nat) (Ds : Evs) : Ev := fun τ => (τ[i]?).bind fun o => o.bind fun _ => (Ds τ).bind fun p => (p.2[i]?).bind fun o => o.bind fun y => if pureL p.1 = true then (f (y :: p.1)).bind fun r => some (r.1, p.2.set i (some r.2)) else none
section
variable {P : Program} {w : World} {K : PySem.W.Frag} {q : Bool}
theorem frzL_length : ∀ xs : List Val, (frzL xs).length = xs.length
  | [] => rfl
  | x :: r => congrArg (· + 1) (frzL_length r)
theorem tCall_ok {n : Nat} {f : List Val → Option Val} {Ds : Evs} (hl : ∀ τ p, Ds τ = some p → p.1.length = n) (E : XK) (σ : S2) (H : Hp) (Q : VK) (h : tE P w K q (callM f Ds) σ H Q) : tCall (spM P w K n f) [] E (tOs P w K q Ds) σ H Q := by
  obtain ⟨F, τ, L, r, τ', s, gd, ev, post⟩ := h
  obtain ⟨⟨xs, τ1⟩, e1, ev⟩ := bind_eq ev
  obtain ⟨r', e2, ev⟩ := bind_eq ev
  split at ev
  · rename_i hc
    cases ev
    refine ⟨F, τ, L, xs, _, s, gd, e1, fun vs F1 H1 L1 Lr h1 s1 st1 => ?_⟩
    show spM P w K n f (vs ++ []) H1 Q E
    rw [List.append_nil]
    refine ⟨fun a => F1 a ∨ a ∈ Lr, frzL xs, r, fun a ha => ?_, h1.frz (fun _ z => .inl z) (fun a ha => .inr ha), by rw [frzL_length]; exact hl _ _ e1, e2, fun v F2 H2 Lq hv st2 => ?_⟩
    · rcases ha with z | z
      · exact st1.good.ft a z
      · obtain ⟨o, e, _⟩ := h1.lt a z
        rw [e]; exact fun k => nomatch k
    · have keep := st2.keep
      have hv2 : VR P w K (fun a => F2 a ∧ (a ∈ Lr → F1 a)) H2 v r Lq := by
        simp only [Bool.or_eq_true] at hc
        rcases hc with hc | hc
        · have hc' : pureL xs = true := hc
          have el := h1.pure_nil hc'
          subst el
          exact hv.mono (fun a ha => ⟨ha, fun z => nomatch z⟩) (fun _ _ => rfl) fun _ _ => rfl
        · refine hv.strip (fun a us h2 h3 => ⟨h2, fun z => ?_⟩) hc
          obtain ⟨o, e, nt⟩ := h1.lt a z
          have k := keep a (by rw [e]; exact fun k => nomatch k)
          rw [h3, e] at k
          exact absurd (Option.some.inj k).symm (nt us)
      have st3 : Step true F1 H1 [] (fun a => F2 a ∧ (a ∈ Lr → F1 a)) H2 Lq :=
        ⟨⟨st2.good.nd, fun a ha z => st2.good.nf a ha z.1, fun a ha => st2.good.ft a ha.1, st2.good.lt⟩, fun a ha => ⟨st2.fs a (.inl ha), fun _ => ha⟩, st2.kp, st2.tr, st2.mem, fun a ha => by
          rcases st2.fm a ha.1 with (z | z) | z | z
          · exact .inl z
          · exact .inl (ha.2 z)
          · exact .inr (.inl z)
          · exact .inr (.inr z), fun _ a ha => nomatch ha⟩
      exact post v _ H2 L1 Lq hv2 (s1.stepQ st3 st1.good.ft) (st1.op st3)
  · exact nomatch ev
theorem tCallIO_ok {n i : Nat} {f : List Val → Option (Val × Val)} {Ds : Evs} (hl : ∀ τ p, Ds τ = some p → p.1.length + 1 = n) (E : XK) (σ : S2) (H : Hp) (Q : VK) (h : tE P w K false (callIO f i Ds) σ H Q) : tCall (spIO P w K n f) [] E (tCons (tVar i) (tEs P w K q Ds)) σ H Q := by
  obtain ⟨F, τ, L, r, τ', s, gd, ev, post⟩ := h
  obtain ⟨y0, e0, ev⟩ := slot_some ev
  obtain ⟨⟨xs, τ1⟩, e1, ev⟩ := bind_eq ev
  obtain ⟨y, e2, ev⟩ := slot_some ev
  obtain ⟨v0, _, _, a0, _⟩ := s.at e0
  split at ev
  · rename_i hc
    have hc' : pureL xs = true := hc
    obtain ⟨⟨r', y'⟩, e3, ev⟩ := bind_eq ev
    cases ev
    refine ⟨v0, a0, F, τ, L, xs, τ1, s, gd, e1, fun vs F1 H1 L1 Lr h1 s1 st1 => ?_⟩
    obtain ⟨v1, Li, Lq, a1, a2, p, _, s2, _⟩ := s1.at e2
    rw [a0] at a1
    have ev1 : v0 = v1 := Option.some.inj (Option.some.inj a1)
    subst ev1
    have hnil := h1.pure_nil hc'
    subst hnil
    rw [List.append_nil] at st1
    have g1 : Good F1 H1 (Li ++ Lq) := st1.good.sub (Sub.of_perm (List.perm_append_comm.trans p.symm))
    show spIO P w K n f ((v0 :: vs) ++ []) H1 Q E
    rw [List.append_nil]
    refine ⟨F1, v0, vs, y, xs, Li, r', y', rfl, g1.sub (Sub.left _ _), a2, h1, hl _ _ e1, e3, fun v F2 H2 Lr L0' hv h0 st2 => ?_⟩
    have st3 := st2.frame (R := Lq) g1
    have dj := (List.nodup_append.mp g1.nd).2.2
    have hi : i < τ1.length := by
      rcases Nat.lt_or_ge i τ1.length with c | c
      · exact c
      · have e2' : τ1[i]? = some (some y) := e2
        rw [List.getElem?_eq_none c] at e2'; cases e2'
    have s3 : SR P w K F2 H2 σ (τ1.set i none) Lq := s2.stepR st2 st1.good.ft (fun a ha => g1.nf a (List.mem_append_left _ ha)) fun a ha z => dj a z a ha rfl
    have s4 := s3.fill a0 hi h0
    refine post v F2 H2 _ Lr hv s4 ?_
    have st1' : Step false F H L F1 H1 (Li ++ Lq) := (st1.sub (Sub.of_perm (List.perm_append_comm.trans p.symm))).weak
    refine (st1'.trans st3).sub (Sub.of_perm ?_)
    rw [List.append_assoc, List.append_assoc]
    refine List.perm_append_comm.trans ?_
    rw [List.append_assoc]
  · exact nomatch ev
end
section
variable {X : Cx} {q : Bool} {k n : Nat} {f : Addr} {fd : FuncData} {ps : List Str} {x : Str} {e : Expr} {es : List Expr} {Ds : Evs} {p pos : Pos}
theorem consM_len {D : Ev} {Ds : Evs} {m : Nat} (h : ∀ τ p, Ds τ = some p → p.1.length = m) : ∀ τ p, consM D Ds τ = some p → p.1.length = m + 1 := fun τ p e => by
  obtain ⟨⟨y, τ1⟩, _, e⟩ := bind_eq e
  obtain ⟨⟨ys, τ2⟩, e2, e⟩ := bind_eq e
  cases e
  exact congrArg (· + 1) (h _ _ e2)
theorem nilM_len : ∀ τ p, nilM τ = some p → p.1.length = 0 := fun τ p e => by cases e; rfl
theorem se_call {g : List Val → Option Val} (Fk : FnOk X.prog X.w X.K X.mg X.base CX0 k f fd ps (spM X.prog X.w X.K n g)) (hr : Room k X.A) (hm : X.mg x = some (.ref f)) (hk : PySem.W.keepIn X.K (.ref f) = true) (hb : Binds X.K fd ps []) (ha : SOs q X (e :: es) Ds)
    (hl : ∀ τ p, Ds τ = some p → p.1.length = n) (hg : Gl X x := by rfl) (hdb : (x == ("__debug__" : Str)) = false := by decide) (he : starEach (e :: es) X.env = (false, eval e X.env) :: starEach es X.env := by rfl) (hpl : (backTo pos (starEach es X.env)).any (·.1) = false := by rfl) :
    SE q X (.Call (.Name x p) (e :: es) [] pos) (callM g Ds) := peI (pe_call Fk hr hg hm hk hb .nil (E := E0) pass0 ha hdb he hpl) (tCall_ok hl E0)
theorem se_callIO {i : Nat} {y : Str} {yp : Pos} {g : List Val → Option (Val × Val)} (Fk : FnOk X.prog X.w X.K X.mg X.base CX0 k f fd ps (spIO X.prog X.w X.K n g)) (hr : Room k X.A) (hm : X.mg x = some (.ref f)) (hk : PySem.W.keepIn X.K (.ref f) = true) (hb : Binds X.K fd ps [])
    (ha : SEs q X es Ds) (hl : ∀ τ p, Ds τ = some p → p.1.length + 1 = n) (hN : X.N[i]? = some y := by rfl) (hv : Vis X.env.scope y := by first | exact Or.inl rfl | exact Or.inr (Or.inl rfl) | exact Or.inr (Or.inr rfl))
    (hd : (y == ("__debug__" : Str)) = false := by decide) (hcd : (y == ("__classdict__" : Str)) = false := by decide) (hs : starEach (.Name y yp :: es) X.env = (false, eval (.Name y yp) X.env) :: starEach es X.env := by rfl)
    (hg : Gl X x := by rfl) (hdb : (x == ("__debug__" : Str)) = false := by decide) (hpl : (backTo pos (starEach es X.env)).any (·.1) = false := by rfl) :
    SE false X (.Call (.Name x p) (.Name y yp :: es) [] pos) (callIO g i Ds) := peI (pe_call Fk hr hg hm hk hb .nil (E := E0) pass0 (pa_cons (pe_var hN hv hd hcd) ha hs) hdb hs hpl) (tCallIO_ok hl E0)
end
end MV
end

section
set_option maxHeartbeats 4000000
/-! what is walked; for; comprehensions -/
namespace MV
open PySem PySem.Spec PyProof.Rows L2

theorem Step.ext0 {F F' : Addr → Prop} {H H' : Hp} {L : List Addr} (b : Step true F H [] F' H' []) (g : Good F H L) : Step true F H L F' H' L := by
  have h := b.frame (R := L) (L1 := []) (by rw [List.nil_append]; exact g)
  rwa [List.nil_append] at h
/-- J yields the pure values xs, one after another, while what never changes stands -/
def JOk (P : Program) (w : World) (K : PySem.W.Frag) (F : Addr → Prop) (H : Hp) (J : It) (xs : List Val) : Prop :=
  pureL xs = true ∧ ∀ F' H', (∀ a, F a → F' a) → (∀ a, F a → H' a = H a) → (∀ a, F' a → H' a ≠ none) → ∀ i,
    (∀ x, xs[i]? = some x → J.go i H' ∧ ∀ v H2, J.yld i H' v H2 → ∃ F2, VR P w K F2 H2 v x [] ∧ Step true F' H' [] F2 H2 []) ∧ (xs.length ≤ i → J.stop i H')
section
variable (P : Program) (w : World) (K : PySem.W.Frag) (q : Bool)
def tI (D : Evs) : TI := fun σ H R => ∃ F τ L xs τ', SR P w K F H σ τ L ∧ Good F H L ∧ D τ = some (xs, τ') ∧
  ∀ J F' H' L', SR P w K F' H' σ τ' L' → Step q F H L F' H' L' → JOk P w K F' H' J xs → R J H'
end
abbrev SI (q : Bool) (X : Cx) (tg iter : Expr) (D : Evs) : Prop := PI X tg iter (tI X.prog X.w X.K q D)
theorem piI {X : Cx} {tg iter : Expr} {t t' : TI} (h : PI X tg iter t) (i : ∀ σ H R, t' σ H R → t σ H R) : PI X tg iter t' := ⟨fun pins s σ H R I hw => h.run pins s σ H R I (i σ H R hw)⟩
theorem SI.weak {q : Bool} {X : Cx} {tg iter : Expr} {D : Evs} (h : SI true X tg iter D) : SI q X tg iter D := piI h fun σ H R ⟨F, τ, L, xs, τ', s, g, ev, post⟩ => ⟨F, τ, L, xs, τ', s, g, ev, fun J F' H' L' s' st j => post J F' H' L' s' st.weak' j⟩

/-! the sources -/
def lstI (D : Ev) : Evs := fun τ => (D τ).bind fun p => match p.1 with
  | .lst _ xs => some (frzL xs, p.2)
  | _ => none
def tupI (D : Ev) : Evs := fun τ => (D τ).bind fun p => match p.1 with
  | .tup xs => some (frzL xs, p.2)
  | _ => none
def rngL (lo hi : Int) : List Val := (List.range (hi - lo).toNat).map fun i => .int (lo + (i : Nat))
def inR (i : Int) : Bool := decide (-(2 ^ 62) ≤ i) && decide (i < 2 ^ 62)
def rng1I (Ds : Evs) : Evs := fun τ => (Ds τ).bind fun p => match p.1 with
  | [.int j] => if inR j = true then some (rngL 0 j, p.2) else none
  | _ => none
def rng2I (Ds : Evs) : Evs := fun τ => (Ds τ).bind fun p => match p.1 with
  | [.int i, .int j] => if (inR i && inR j) = true then some (rngL i j, p.2) else none
  | _ => none
section
variable {P : Program} {w : World} {K : PySem.W.Frag}
theorem frzL_get {xs : List Val} {i : Nat} {x : Val} (h : (frzL xs)[i]? = some x) : ∃ y, xs[i]? = some y := by
  rw [frzL_map, List.getElem?_map] at h
  cases e : xs[i]? with
  | none => rw [e] at h; exact nomatch h
  | some y => exact ⟨y, rfl⟩
theorem jok_list {F : Addr → Prop} {H : Hp} {a : Addr} {vs : List V} {xs : List Val} (hF : F a) (hr : Rd H a (.lst vs)) (h : VRs P w K F H vs xs []) (hp : pureL xs = true) : JOk P w K F H (Itl K a) xs := by
  refine ⟨hp, fun F' H' fs fh ft i => ?_⟩
  have hq : SqL K H' a vs := .inl (Rd.eqH (fh a hF) hr)
  have h' : VRs P w K F' H' vs xs [] := h.mono fs fh fun _ z => nomatch z
  refine ⟨fun x hx => ?_, fun hl => ⟨vs, hq, by rw [h.length]; exact hl⟩⟩
  obtain ⟨v, L1, e1, e2, sb⟩ := h'.get hx
  have en : L1 = [] := List.sublist_nil.mp sb
  subst en
  refine ⟨⟨vs, v, hq, e1⟩, fun u H2 y => ?_⟩
  obtain ⟨rfl, y⟩ := y
  have eu : u = v := Option.some.inj ((y vs hq).symm.trans e1)
  subst eu
  exact ⟨F', e2, Step.id ft⟩
theorem jok_tup {F : Addr → Prop} {H : Hp} {a : Addr} {vs : List V} {xs : List Val} (ha : TupAt K F H a vs) (h : VRs P w K F H vs xs []) (hp : pureL xs = true) : JOk P w K F H (Itt K a) xs := by
  refine ⟨hp, fun F' H' fs fh ft i => ?_⟩
  have hq : SqT K H' a vs := (ha.mono fs fh).sq
  have h' : VRs P w K F' H' vs xs [] := h.mono fs fh fun _ z => nomatch z
  refine ⟨fun x hx => ?_, fun hl => ⟨vs, hq, by rw [h.length]; exact hl⟩⟩
  obtain ⟨v, L1, e1, e2, sb⟩ := h'.get hx
  have en : L1 = [] := List.sublist_nil.mp sb
  subst en
  refine ⟨⟨vs, v, hq, e1⟩, fun u H2 y => ?_⟩
  obtain ⟨rfl, y⟩ := y
  have eu : u = v := Option.some.inj ((y vs hq).symm.trans e1)
  subst eu
  exact ⟨F', e2, Step.id ft⟩
theorem pureL_map_int {α : Type} (f : α → Int) : ∀ l : List α, pureL (l.map fun i => .int (f i)) = true
  | [] => rfl
  | x :: r => by
    show (Val.pure (.int (f x)) && pureL (r.map fun i => .int (f i))) = true
    rw [pureL_map_int f r]; rfl
theorem rngL_pure (lo hi : Int) : pureL (rngL lo hi) = true := pureL_map_int (fun i : Nat => lo + (i : Int)) _
theorem rngL_length (lo hi : Int) : (rngL lo hi).length = (hi - lo).toNat := by simp [rngL]
theorem jok_rng {F : Addr → Prop} {H : Hp} (lo hi : Int) : JOk P w K F H (Itr lo (hi - lo).toNat) (rngL lo hi) := by
  refine ⟨rngL_pure lo hi, fun F' H' fs fh ft i => ⟨fun x hx => ?_, fun hl => by rw [rngL_length] at hl; exact hl⟩⟩
  have hi' : i < (hi - lo).toNat := by
    rcases Nat.lt_or_ge i (hi - lo).toNat with c | c
    · exact c
    · rw [List.getElem?_eq_none (by rw [rngL_length]; exact c)] at hx; cases hx
  have ex : x = .int (lo + (i : Nat)) := by
    unfold rngL at hx
    rw [List.getElem?_map, List.getElem?_range hi'] at hx
    exact (Option.some.inj hx).symm
  subst ex
  refine ⟨hi', fun u H2 y => ?_⟩
  obtain ⟨rfl, rfl⟩ := y
  exact ⟨F', .int _, Step.id ft⟩
end
section
variable {X : Cx} {tg : Expr} {q : Bool} {e a b : Expr} {D : Ev} {pos p : Pos} {Ds : Evs}
theorem si_list (he : SE q X e D) : SI q X tg e (lstI D) := piI (pi_list he) fun σ H R ⟨F, τ, L, xs, τ', s, g, ev, post⟩ => by
  obtain ⟨⟨x, τ1⟩, e1, ev⟩ := bind_eq ev
  cases x with
  | lst m ys =>
    cases ev
    refine ⟨F, τ, L, _, _, s, g, e1, fun v F1 H1 L1 Lr h1 s1 st1 => ?_⟩
    cases h1 with
    | @lst a _ vs _ L0 _ hA hvs =>
      have st2 := Step.freeze st1.good
      obtain ⟨hA2, hl0⟩ := hA.frz (F' := fun a => F1 a ∨ a ∈ Lr) (fun _ z => .inl z) fun a ha => .inr ha
      have hv2 := hvs.frz (F' := fun a => F1 a ∨ a ∈ Lr) (fun _ z => .inl z) hl0
      simp only [At, Bool.false_eq_true, if_false] at hA2
      have s2 : SR X.prog X.w X.K (fun a => F1 a ∨ a ∈ Lr) H1 σ τ1 L1 := s1.mono (fun _ z => .inl z) (fun _ _ => rfl) fun _ _ => rfl
      refine ⟨a, rfl, ⟨vs, .inl (.inl hA2.2.1)⟩, post _ _ H1 L1 s2 (st1.trans st2).andT (jok_list hA2.1 (.inl hA2.2.1) hv2 (frzL_pure _))⟩
  | _ => exact nomatch ev
theorem si_tup (he : SE q X e D) : SI q X tg e (tupI D) := piI (pi_tup he) fun σ H R ⟨F, τ, L, xs, τ', s, g, ev, post⟩ => by
  obtain ⟨⟨x, τ1⟩, e1, ev⟩ := bind_eq ev
  cases x with
  | tup ys =>
    cases ev
    refine ⟨F, τ, L, _, _, s, g, e1, fun v F1 H1 L1 Lr h1 s1 st1 => ?_⟩
    cases h1 with
    | @tup a vs _ _ hA hvs =>
      have st2 := Step.freeze st1.good
      have hA2 := hA.mono (F' := fun a => F1 a ∨ a ∈ Lr) (H' := H1) (fun _ z => .inl z) fun _ _ => rfl
      have hv2 := hvs.frz (F' := fun a => F1 a ∨ a ∈ Lr) (fun _ z => .inl z) fun a ha => .inr ha
      have s2 : SR X.prog X.w X.K (fun a => F1 a ∨ a ∈ Lr) H1 σ τ1 L1 := s1.mono (fun _ z => .inl z) (fun _ _ => rfl) fun _ _ => rfl
      refine ⟨a, rfl, ⟨vs, hA2.sq⟩, post _ _ H1 L1 s2 (st1.trans st2).andT (jok_tup hA2 hv2 (frzL_pure _))⟩
  | _ => exact nomatch ev
theorem inR_le {i : Int} (h : inR i = true) : -(2 ^ 62) ≤ i ∧ i < 2 ^ 62 := by
  simp only [inR, Bool.and_eq_true, decide_eq_true_eq] at h
  exact h
theorem si_rng1 (hm : X.mg "range" = none) (ha : SOs q X [a] Ds) (hg : Gl X "range" := by rfl) (hs : starEach [a] X.env = [(false, eval a X.env)] := by rfl) : SI q X tg (.Call (.Name "range" p) [a] [] pos) (rng1I Ds) :=
  piI (pi_range1 hg hm ha hs) fun σ H R ⟨F, τ, L, xs, τ', s, g, ev, post⟩ => by
    obtain ⟨⟨ys, τ1⟩, e1, ev⟩ := bind_eq ev
    match ys, ev, e1 with
    | [.int j], ev, e1 =>
      have ev' : (if inR j = true then some (rngL 0 j, τ1) else none) = some (xs, τ') := ev
      split at ev'
      · rename_i hj
        cases ev'
        refine ⟨F, τ, L, _, _, s, g, e1, fun vs F1 H1 L1 Lr h1 s1 st1 => ?_⟩
        cases h1 with
        | cons h t =>
          cases t
          cases h
          refine ⟨j, rfl, (inR_le hj).1, (inR_le hj).2, ?_⟩
          have z := post (Itr 0 (j - 0).toNat) F1 H1 L1 s1 st1 (jok_rng 0 j)
          rwa [Int.sub_zero] at z
      · exact nomatch ev'
theorem si_rng2 (hm : X.mg "range" = none) (ha : SOs q X [a, b] Ds) (hg : Gl X "range" := by rfl) (hs : starEach [a, b] X.env = [(false, eval a X.env), (false, eval b X.env)] := by rfl) (hs2 : starEach [b] X.env = [(false, eval b X.env)] := by rfl) : SI q X tg (.Call (.Name "range" p) [a, b] [] pos) (rng2I Ds) :=
  piI (pi_range2 hg hm ha hs hs2) fun σ H R ⟨F, τ, L, xs, τ', s, g, ev, post⟩ => by
    obtain ⟨⟨ys, τ1⟩, e1, ev⟩ := bind_eq ev
    match ys, ev, e1 with
    | [.int i, .int j], ev, e1 =>
      have ev' : (if (inR i && inR j) = true then some (rngL i j, τ1) else none) = some (xs, τ') := ev
      split at ev'
      · rename_i hj
        cases ev'
        rw [Bool.and_eq_true] at hj
        refine ⟨F, τ, L, _, _, s, g, e1, fun vs F1 H1 L1 Lr h1 s1 st1 => ?_⟩
        cases h1 with
        | cons h t =>
          cases t with
          | cons h2 t =>
            cases t
            cases h
            cases h2
            exact ⟨i, j, rfl, ⟨(inR_le hj.1).1, (inR_le hj.1).2, (inR_le hj.2).1, (inR_le hj.2).2⟩, post _ F1 H1 L1 s1 st1 (jok_rng i j)⟩
      · exact nomatch ev'
end

/-! for -/
def forL (T : Tg) (B : Sv) : List Val → Sv
  | [], τ => some (.next, τ)
  | x :: r, τ => (T x τ).bind fun τ1 => (B τ1).bind fun p => match p.1 with
    | .next => forL T B r p.2
    | .cont => forL T B r p.2
    | .brk => some (.next, p.2)
    | .ret v => some (.ret v, p.2)
def forM (I : Evs) (T : Tg) (B : Sv) : Sv := fun τ => (I τ).bind fun p => forL T B p.1 p.2
section
variable {X : Cx} {tg iter : Expr} {q : Bool} {pos : Pos} {n : Nat}
theorem ss_for {body : List Stmt} {I : Evs} {T : Tg} {B : Sv} {own : List Nat} (hp : PassesOwn (model X.prog X.w) X.A X.env X.xe) (hc : X.calm = true) (hn : ∀ j ∈ own, n ≤ j) (hi : SI q X tg iter I) (hg : SG own X tg T) (hb : SSs n X body B)
    (hs : ∀ x, foldedSetIterable iter X.env x = Pure.pure x := by intro _; rfl) : SS n X (.For tg iter body [] pos) (forM I T B) :=
  psI (ps_for hp hc hi hg hb hs) fun D σ H ⟨F, τ, L, fl, τe, s, g, ev, post⟩ => by
    obtain ⟨⟨xs, τ0⟩, e0, ev⟩ := bind_eq ev
    refine ⟨F, τ, L, xs, τ0, s, g, e0, fun J F0 H0 L0 s0 st0 j0 => ?_⟩
    have post0 := post.trans st0 .refl
    -- what stands ahead of the turn i
    refine ⟨fun i m σ' H' => m = xs.length - i ∧ ∃ F' τ' L', (∀ a, F0 a → F' a) ∧ (∀ a, F0 a → H' a = H0 a) ∧ SR X.prog X.w X.K F' H' σ' τ' L' ∧ Good F' H' L' ∧ forL T B (xs.drop i) τ' = some (fl, τe) ∧ EndP X.prog X.w X.K n D σ' F' H' L' fl τe,
      ⟨xs.length, rfl, F0, τ0, L0, fun _ z => z, fun _ _ => rfl, s0, st0.good, ev, post0⟩, ?_⟩
    rintro i m σ1 H1 ⟨rfl, F1, τ1, L1, fs, fh, s1, g1, h1, post1⟩
    cases hx : xs[i]? with
    | none =>
      have hl : xs.length ≤ i := List.getElem?_eq_none_iff.mp hx
      rw [List.drop_eq_nil_of_le hl] at h1
      cases h1
      exact .inl ⟨(j0.2 F1 H1 fs fh g1.ft i).2 hl, post1 σ1 F1 H1 L1 s1 (Step.refl g1).weak .refl⟩
    | some x =>
      have hi' : i < xs.length := by
        rcases Nat.lt_or_ge i xs.length with c | c
        · exact c
        · rw [List.getElem?_eq_none c] at hx; cases hx
      have hd : xs.drop i = x :: xs.drop (i + 1) := by
        rw [List.drop_eq_getElem_cons hi']
        rw [List.getElem?_eq_getElem hi'] at hx
        rw [Option.some.inj hx]
      rw [hd] at h1
      obtain ⟨τ2, e2, h1⟩ := bind_eq h1
      obtain ⟨⟨f, τ3⟩, e3, h1⟩ := bind_eq h1
      obtain ⟨go, yl⟩ := (j0.2 F1 H1 fs fh g1.ft i).1 x hx
      refine .inr ⟨go, fun σ' H' => ∃ F' τ' L', (∀ a, F0 a → F' a) ∧ (∀ a, F0 a → H' a = H0 a) ∧ SR X.prog X.w X.K F' H' σ' τ' L' ∧ Good F' H' L' ∧ forL T B (xs.drop (i + 1)) τ' = some (fl, τe) ∧ EndP X.prog X.w X.K n D σ' F' H' L' fl τe,
        fun σ' H' h => ⟨xs.length - (i + 1), by omega, rfl, h⟩, fun v H2 y => ?_⟩
      obtain ⟨F2, hv, st2⟩ := yl v H2 y
      have st2' := st2.ext0 g1
      have s2 : SR X.prog X.w X.K F2 H2 σ1 τ1 L1 := s1.stepQ st2 g1.ft
      refine ⟨F2, τ1, L1, x, [], τ2, s2, by rw [List.append_nil]; exact st2'.good, hv, e2, fun σ3 L3 s3 sb k3 => ?_⟩
      rw [List.append_nil] at sb
      have g3 := st2'.good.sub sb
      have st3 : Step true F1 H1 L1 F2 H2 L3 := st2'.sub sb
      have k3' := k3.keep hn
      refine ⟨F2, τ2, L3, f, τ3, s3, g3, e3, ?_⟩
      have post3 := post1.trans st3 k3'
      have go2 : ∀ {σ' : S2} {F' : Addr → Prop} {H' : Hp} {L' : List Addr}, SR X.prog X.w X.K F' H' σ' τ3 L' → Step false F2 H2 L3 F' H' L' → Keep n σ3 σ' → forL T B (xs.drop (i + 1)) τ3 = some (fl, τe) →
          ∃ F' τ' L', (∀ a, F0 a → F' a) ∧ (∀ a, F0 a → H' a = H0 a) ∧ SR X.prog X.w X.K F' H' σ' τ' L' ∧ Good F' H' L' ∧ forL T B (xs.drop (i + 1)) τ' = some (fl, τe) ∧ EndP X.prog X.w X.K n D σ' F' H' L' fl τe := fun {σ' F' H' L'} s' st' k' h' =>
        ⟨F', τ3, L', fun a ha => st'.fs a (st2.fs a (fs a ha)), fun a ha => (st'.kp a (st2.good.ft a (st2.fs a (fs a ha))) fun z => g3.nf a z (st2.fs a (fs a ha))).trans ((st2.keep a (g1.ft a (fs a ha))).trans (fh a ha)), s', st'.good, h', post3.trans st' k'⟩
      cases f with
      | next => exact fun σ4 F4 H4 L4 s4 st4 k4 => go2 s4 st4 k4 h1
      | cont => exact fun σ4 F4 H4 L4 s4 st4 k4 => go2 s4 st4 k4 h1
      | brk => cases h1; exact post3
      | ret v => cases h1; exact post3
end

/-! list comprehensions -/
def wipeM (τ : Sl) : List Nat → Sl
  | [] => τ
  | v :: vs => (wipeM τ vs).set v none
def lcL (T : Tg) (C : Tv) (E : Ev) (own : List Nat) : List Val → Sl → Option (List Val × Sl)
  | [], τ => some ([], τ)
  | x :: r, τ => (T x τ).bind fun τ1 => (C τ1).bind fun p => if p.1 = true then (E p.2).bind fun y => (lcL T C E own r (wipeM y.2 own)).bind fun z => some (y.1 :: z.1, z.2) else lcL T C E own r (wipeM p.2 own)
def lcM (I : Evs) (T : Tg) (C : Tv) (E : Ev) (own : List Nat) : Ev := fun τ => (I τ).bind fun p => (lcL T C E own p.1 (wipeM p.2 own)).bind fun r => if r.1.length ≤ sizeLine then some (.lst true r.1, r.2) else none
def yesM : Tv := fun τ => some (true, τ)
abbrev STs (q : Bool) (X : Cx) (ifs : List Expr) (D : Tv) : Prop := PTs X ifs (tT X.prog X.w X.K q D)
theorem ptsI {X : Cx} {ifs : List Expr} {t t' : TT} (h : PTs X ifs t) (i : ∀ σ H Q, t' σ H Q → t σ H Q) : PTs X ifs t' := ⟨fun pins s σ H Q I hw => h.run pins s σ H Q I (i σ H Q hw)⟩
theorem sts_nil {X : Cx} : STs true X [] yesM := ptsI pts_nil fun σ H Q ⟨F, τ, L, b, τ', s, g, ev, post⟩ => by
  cases ev
  exact post F H L s (Step.refl g)
theorem sts_one {X : Cx} {q : Bool} {c : Expr} {T : Tv} (h : ST q X c T) : STs q X [c] T := pts_one h
theorem STs.weak {X : Cx} {q : Bool} {ifs : List Expr} {D : Tv} (h : STs true X ifs D) : STs q X ifs D := ptsI h fun σ H Q ⟨F, τ, L, x, τ', s, g, ev, post⟩ => ⟨F, τ, L, x, τ', s, g, ev, fun F' H' L' h2 h3 => post F' H' L' h2 h3.weak'⟩
theorem wipe_get {σ : S2} : ∀ (vs : List Nat) (j : Nat), (wipe σ vs)[j]? = if j ∈ vs then (σ[j]?).map fun _ => none else σ[j]?
  | [], j => by simp [wipe]
  | v :: vs, j => by
    unfold wipe
    by_cases hj : v = j
    · subst hj
      have hm : v ∈ v :: vs := List.mem_cons_self
      rw [if_pos hm]
      rcases Nat.lt_or_ge v (wipe σ vs).length with c | c
      · rw [List.getElem?_set_self c]
        rw [wipe_length] at c
        rw [List.getElem?_eq_getElem c] <;> rfl
      · rw [List.getElem?_eq_none (by simpa using c)]
        rw [wipe_length] at c
        rw [List.getElem?_eq_none c] <;> rfl
    · rw [List.getElem?_set_ne hj, wipe_get vs j]
      have e : (j ∈ v :: vs) ↔ j ∈ vs := by
        rw [List.mem_cons]
        exact ⟨fun h => h.elim (fun z => absurd z.symm hj) id, .inr⟩
      by_cases hm : j ∈ vs
      · rw [if_pos hm, if_pos (e.mpr hm)]
      · rw [if_neg hm, if_neg fun z => hm (e.mp z)]
theorem wipe_keep {own : List Nat} {σ σ' : S2} (k : KeepO own σ σ') : wipe σ' own = wipe σ own := by
  refine List.ext_getElem? fun j => ?_
  rw [wipe_get, wipe_get]
  by_cases hj : j ∈ own
  · rw [if_pos hj, if_pos hj]
    rcases Nat.lt_or_ge j σ.length with c | c
    · rw [List.getElem?_eq_getElem c, List.getElem?_eq_getElem (by rw [k.1]; exact c)] <;> rfl
    · rw [List.getElem?_eq_none c, List.getElem?_eq_none (by rw [k.1]; exact c)]
  · rw [if_neg hj, if_neg hj]
    exact k.2 j hj
section
variable {P : Program} {w : World} {K : PySem.W.Frag} {F : Addr → Prop} {H : Hp}
theorem SR.wip {σ : S2} {τ : Sl} {L : List Addr} (s : SR P w K F H σ τ L) : ∀ vs : List Nat, ∃ L2, SR P w K F H (wipe σ vs) (wipeM τ vs) L2 ∧ Sub L2 L
  | [] => ⟨L, s, Sub.refl _⟩
  | v :: vs => by
    obtain ⟨L2, s2, b2⟩ := SR.wip s vs
    obtain ⟨L3, s3, b3⟩ := s2.clear (i := v) (o := none)
    exact ⟨L3, s3, b3.trans b2⟩
theorem SR.unwip {σ : S2} : ∀ (vs : List Nat) {τ : Sl} {L : List Addr}, SR P w K F H (wipe σ vs) τ L → ∃ L2, SR P w K F H σ (wipeM τ vs) L2 ∧ Sub L2 L
  | [], τ, L, s => ⟨L, s, Sub.refl _⟩
  | v :: vs, τ, L, s => by
    -- the last slot first
    have hs : ∀ {σ1 : S2} {o : Option V}, SR P w K F H σ1 τ L → ∃ L2, SR P w K F H (σ1.set v o) (τ.set v none) L2 ∧ Sub L2 L := fun s => s.clear
    rcases Nat.lt_or_ge v (wipe σ vs).length with c | c
    · obtain ⟨L2, s2, b2⟩ := s.clear (i := v) (o := (wipe σ vs)[v])
      have e : ((wipe σ (v :: vs)).set v (wipe σ vs)[v]) = wipe σ vs := by
        show (((wipe σ vs).set v none).set v (wipe σ vs)[v]) = wipe σ vs
        rw [List.set_set, List.set_getElem_self]
      rw [e] at s2
      obtain ⟨L3, s3, b3⟩ := SR.unwip vs s2
      refine ⟨L3, ?_, b3.trans b2⟩
      have ec : ∀ (vs : List Nat) (τ : Sl), wipeM (τ.set v none) vs = (wipeM τ vs).set v none := by
        intro vs
        induction vs with
        | nil => intro τ; rfl
        | cons u us ih =>
          intro τ
          show (wipeM (τ.set v none) us).set u none = ((wipeM τ us).set u none).set v none
          rw [ih]
          by_cases h : u = v
          · subst h; rfl
          · rw [List.set_comm _ _ h]
      rw [ec] at s3
      exact s3
    · have e : wipe σ (v :: vs) = wipe σ vs := List.set_eq_of_length_le c
      rw [e] at s
      obtain ⟨L3, s3, b3⟩ := SR.unwip vs s
      refine ⟨L3, ?_, b3⟩
      show SR P w K F H σ ((wipeM τ vs).set v none) L3
      rw [List.set_eq_of_length_le (by
        have h1 := s3.length
        rw [wipe_length] at c
        omega)]
      exact s3
theorem wipeM_length (τ : Sl) : ∀ vs : List Nat, (wipeM τ vs).length = τ.length
  | [] => rfl
  | v :: vs => by unfold wipeM; rw [List.length_set, wipeM_length τ vs]
end
section
variable {P : Program} {w : World} {K : PySem.W.Frag} {q : Bool}
theorem tLc_ok {I : Evs} {T : Tg} {C : Tv} {E : Ev} {own own' : List Nat} (ho : ∀ j ∈ own', j ∈ own) (σ : S2) (H : Hp) (Q : VK) (h : tE P w K q (lcM I T C E own) σ H Q) :
    tLc (tI P w K q I) (tG P w K own' T) (tT P w K q C) (tE P w K q E) own σ H Q := by
  obtain ⟨F, τ, L, r, τe, s, g, ev, post⟩ := h
  obtain ⟨⟨xs, τ0⟩, e0, ev⟩ := bind_eq ev
  obtain ⟨⟨ys, τ9⟩, e9, ev⟩ := bind_eq ev
  split at ev
  · rename_i hz
    have hz' : ys.length ≤ sizeLine := hz
    cases ev
    refine ⟨F, τ, L, xs, τ0, s, g, e0, fun J F0 H0 L0 s0 st0 j0 Dd np => ?_⟩
    obtain ⟨Lw, sw, bw⟩ := s0.wip own
    have gw := st0.good.sub bw
    have stw : Step q F H L F0 H0 Lw := st0.sub bw
    have stn := Step.new (o := .lst []) gw np
    have stq := (stw.trans stn).andT
    -- what stands ahead of the turn i: acc made so far, at Dd
    refine ⟨fun i m H' => m = xs.length - i ∧ ∃ F' τ' L' vs acc La rest, (∀ a, F0 a → F' a) ∧ (∀ a, F0 a → H' a = H0 a) ∧ SR P w K F' H' (wipe σ own) τ' L' ∧ H' Dd = some (.lst vs) ∧ VRs P w K F' H' vs acc La ∧ Step q F H L F' H' (L' ++ (La ++ [Dd])) ∧
        lcL T C E own (xs.drop i) τ' = some (rest, τ9) ∧ acc ++ rest = ys, ⟨xs.length, rfl, F0, wipeM τ0 own, Lw, [], [], [], ys, fun _ z => z, fun a ha => ?_, sw.stepQ stn gw.ft, upd_same, .nil, stq, e9, rfl⟩, ?_⟩
    · exact upd_ne fun z => gw.ft a ha (z ▸ np)
    rintro i m H1 ⟨rfl, F1, τ1, L1, vs, acc, La, rest, fs, fh, s1, hD, hacc, st1, h1, hys⟩
    have g1a := st1.good
    have g1 : Good F1 H1 L1 := g1a.sub (Sub.left _ _)
    cases hx : xs[i]? with
    | none =>
      have hl : xs.length ≤ i := List.getElem?_eq_none_iff.mp hx
      rw [List.drop_eq_nil_of_le hl] at h1
      cases h1
      rw [List.append_nil] at hys
      subst hys
      refine .inl ⟨(j0.2 F1 H1 fs fh g1.ft i).2 hl, ?_⟩
      obtain ⟨L2, s2, b2⟩ := SR.unwip own s1
      have ew : wipeM τ9 own = τ9 := by
        -- the end's slots are wiped already
        have key : ∀ (l : List Val) (τ : Sl) (z : List Val × Sl), wipeM τ own = τ → lcL T C E own l τ = some z → wipeM z.2 own = z.2 := by
          have idem : ∀ τ : Sl, wipeM (wipeM τ own) own = wipeM τ own := by
            intro τ
            have gen : ∀ vs : List Nat, ∀ τ : Sl, (∀ v ∈ vs, v < τ.length → τ[v]? = some none) → wipeM τ vs = τ := by
              intro vs
              induction vs with
              | nil => intro τ _; rfl
              | cons v vs ih =>
                intro τ hv
                show (wipeM τ vs).set v none = τ
                rw [ih τ fun u hu => hv u (List.mem_cons_of_mem _ hu)]
                refine List.ext_getElem? fun j => ?_
                by_cases hj : v = j
                · subst hj
                  rcases Nat.lt_or_ge v τ.length with c | c
                  · rw [List.getElem?_set_self c, hv v List.mem_cons_self c]
                  · rw [List.set_eq_of_length_le c]
                · rw [List.getElem?_set_ne hj]
            refine gen own _ fun v hv hl => ?_
            have gg : ∀ vs : List Nat, v ∈ vs → v < τ.length → (wipeM τ vs)[v]? = some none := by
              intro vs
              induction vs with
              | nil => intro z; exact nomatch z
              | cons u us ih =>
                intro hm hl
                show ((wipeM τ us).set u none)[v]? = some none
                by_cases hu : u = v
                · subst hu
                  rw [List.getElem?_set_self (by rw [wipeM_length]; exact hl)]
                · rw [List.getElem?_set_ne hu]
                  exact ih ((List.mem_cons.mp hm).elim (fun z => absurd z.symm hu) id) hl
            exact gg own hv (by rw [wipeM_length] at hl; exact hl)
          intro l
          induction l with
          | nil => intro τ z hw e; cases e; exact hw
          | cons x l ih =>
            intro τ z hw e
            obtain ⟨τa, _, e⟩ := bind_eq e
            obtain ⟨⟨c, τb⟩, _, e⟩ := bind_eq e
            cases c with
            | true =>
              simp only [if_true] at e
              obtain ⟨⟨y, τc⟩, _, e⟩ := bind_eq e
              obtain ⟨z2, e2, e⟩ := bind_eq e
              cases e
              exact ih _ z2 (idem _) e2
            | false =>
              simp only [Bool.false_eq_true, if_false] at e
              exact ih _ z (idem _) e
        have h0 : wipeM (wipeM τ0 own) own = wipeM τ0 own := by
          have z := key [] (wipeM τ0 own) ([], wipeM τ0 own)
          -- wiped twice is wiped once
          have gen : ∀ vs : List Nat, ∀ τ : Sl, (∀ v ∈ vs, v < τ.length → τ[v]? = some none) → wipeM τ vs = τ := by
            intro vs
            induction vs with
            | nil => intro τ _; rfl
            | cons v vs ih =>
              intro τ hv
              show (wipeM τ vs).set v none = τ
              rw [ih τ fun u hu => hv u (List.mem_cons_of_mem _ hu)]
              refine List.ext_getElem? fun j => ?_
              by_cases hj : v = j
              · subst hj
                rcases Nat.lt_or_ge v τ.length with c | c
                · rw [List.getElem?_set_self c, hv v List.mem_cons_self c]
                · rw [List.set_eq_of_length_le c]
              · rw [List.getElem?_set_ne hj]
          refine gen own _ fun v hv hl => ?_
          have gg : ∀ vs : List Nat, v ∈ vs → v < τ0.length → (wipeM τ0 vs)[v]? = some none := by
            intro vs
            induction vs with
            | nil => intro z; exact nomatch z
            | cons u us ih =>
              intro hm hl
              show ((wipeM τ0 us).set u none)[v]? = some none
              by_cases hu : u = v
              · subst hu
                rw [List.getElem?_set_self (by rw [wipeM_length]; exact hl)]
              · rw [List.getElem?_set_ne hu]
                exact ih ((List.mem_cons.mp hm).elim (fun z => absurd z.symm hu) id) hl
          exact gg own hv (by rw [wipeM_length] at hl; exact hl)
        exact key xs _ _ h0 e9
      rw [ew] at s2
      have hA : At F1 H1 true Dd (.lst vs) La (Dd :: La) := by
        show (if true = true then _ else _)
        rw [if_pos rfl]
        exact ⟨hD, rfl⟩
      refine post _ F1 H1 L2 (Dd :: La) (.lst hA hacc) s2 (st1.sub (b2.app (Sub.of_perm ?_)))
      exact (List.perm_append_comm (l₁ := [Dd]) (l₂ := La))
    | some x =>
      have hi' : i < xs.length := by
        rcases Nat.lt_or_ge i xs.length with c | c
        · exact c
        · rw [List.getElem?_eq_none c] at hx; cases hx
      have hd : xs.drop i = x :: xs.drop (i + 1) := by
        rw [List.drop_eq_getElem_cons hi']
        rw [List.getElem?_eq_getElem hi'] at hx
        rw [Option.some.inj hx]
      rw [hd] at h1
      obtain ⟨τ2, e2, h1⟩ := bind_eq h1
      obtain ⟨⟨c, τ3⟩, e3, h1⟩ := bind_eq h1
      obtain ⟨go, yl⟩ := (j0.2 F1 H1 fs fh g1.ft i).1 x hx
      refine .inr ⟨go, fun H' => ∃ F' τ' L' vs acc La rest, (∀ a, F0 a → F' a) ∧ (∀ a, F0 a → H' a = H0 a) ∧ SR P w K F' H' (wipe σ own) τ' L' ∧ H' Dd = some (.lst vs) ∧ VRs P w K F' H' vs acc La ∧ Step q F H L F' H' (L' ++ (La ++ [Dd])) ∧
          lcL T C E own (xs.drop (i + 1)) τ' = some (rest, τ9) ∧ acc ++ rest = ys, fun H' h => ⟨xs.length - (i + 1), by omega, rfl, h⟩, fun v H2 y => ?_⟩
      obtain ⟨F2, hv, st2⟩ := yl v H2 y
      -- the item: what was made so far stands
      have st2L := st2.ext0 g1a
      have s2 : SR P w K F2 H2 (wipe σ own) τ1 L1 := s1.stepQ st2 g1.ft
      have hacc2 := hacc.stepQ st2 g1.ft
      have hD2 : H2 Dd = some (.lst vs) := (st2.keep Dd (by rw [hD]; exact fun z => nomatch z)).trans hD
      have g2a : Good F2 H2 (L1 ++ (La ++ [Dd])) := st2L.good
      have g2 : Good F2 H2 L1 := g2a.sub (Sub.left _ _)
      have stA := (st1.trans st2L).andT
      refine ⟨F2, τ1, L1, x, [], τ2, s2, by rw [List.append_nil]; exact g2, hv, e2, fun σ3 L3 s3 sb k3 => ?_⟩
      rw [List.append_nil] at sb
      have k3' : KeepO own (wipe σ own) σ3 := ⟨k3.1, fun j hj => k3.2 j fun z => hj (ho j z)⟩
      have wk : wipe σ3 own = wipe σ own := by
        rw [wipe_keep k3']
        refine List.ext_getElem? fun j => ?_
        have e1 := wipe_get (σ := wipe σ own) own j
        have e2 := wipe_get (σ := σ) own j
        rw [e1, e2]
        by_cases hj : j ∈ own
        · simp only [if_pos hj, Option.map_map]
          rfl
        · simp only [if_neg hj]
      refine ⟨by rw [wk, ← wk, wk], ?_⟩
      have g3a : Good F2 H2 (L3 ++ (La ++ [Dd])) := g2a.sub (sb.app (Sub.refl _))
      have stB : Step q F H L F2 H2 (L3 ++ (La ++ [Dd])) := stA.sub (sb.app (Sub.refl _))
      have f2s : ∀ a, F0 a → F2 a := fun a ha => st2.fs a (fs a ha)
      have f2h : ∀ a, F0 a → H2 a = H0 a := fun a ha => (st2.keep a (g1.ft a (fs a ha))).trans (fh a ha)
      -- a step from there on
      refine ⟨F2, τ2, L3, c, τ3, s3, g3a.sub (Sub.left _ _), e3, fun F4 H4 L4 s4 st4 => ?_⟩
      have g3 := g3a.sub (Sub.left L3 (La ++ [Dd]))
      have dj := (List.nodup_append.mp g3a.nd).2.2
      have nD : Dd ∉ L3 := fun z => dj Dd z Dd (List.mem_append_right _ (List.mem_singleton.mpr rfl)) rfl
      have hD4 : H4 Dd = some (.lst vs) := (st4.kp Dd (by rw [hD2]; exact fun z => nomatch z) nD).trans hD2
      have hacc4 : VRs P w K F4 H4 vs acc La := hacc2.stepR st4 g3.ft g3.nf fun a ha z => dj a z a (List.mem_append_left _ ha) rfl
      have stC : Step q F H L F4 H4 (L4 ++ (La ++ [Dd])) := (stB.trans (st4.frame g3a)).andS
      have f4s : ∀ a, F0 a → F4 a := fun a ha => st4.fs a (f2s a ha)
      have f4h : ∀ a, F0 a → H4 a = H0 a := fun a ha => (st4.kp a (g3.ft a (f2s a ha)) fun z => g3.nf a z (f2s a ha)).trans (f2h a ha)
      -- back to the wiped slots
      have back : ∀ {F' : Addr → Prop} {H' : Hp} {τ' : Sl} {L' : List Addr}, SR P w K F' H' σ3 τ' L' → ∃ L2, SR P w K F' H' (wipe σ own) (wipeM τ' own) L2 ∧ Sub L2 L' := fun s' => by
        obtain ⟨L2, a, b⟩ := s'.wip own
        rw [wk] at a
        exact ⟨L2, a, b⟩
      cases c with
      | false =>
        simp only [Bool.false_eq_true, if_false] at h1 ⊢
        obtain ⟨L5, s5, b5⟩ := back s4
        exact ⟨F4, _, L5, vs, acc, La, rest, f4s, f4h, s5, hD4, hacc4, stC.sub (b5.app (Sub.refl _)), h1, hys⟩
      | true =>
        simp only [if_true] at h1 ⊢
        obtain ⟨⟨yv, τ5⟩, e5, h1⟩ := bind_eq h1
        obtain ⟨⟨rest', τ6⟩, e6, h1⟩ := bind_eq h1
        cases h1
        have g4 : Good F4 H4 (L4 ++ (La ++ [Dd])) := stC.good
        refine ⟨F4, τ3, L4, yv, τ5, s4, st4.good, e5, fun u F5 H5 L5 Lu hu s5 st5 => ?_⟩
        have dj4 := (List.nodup_append.mp g4.nd).2.2
        have nD4 : Dd ∉ L4 := fun z => dj4 Dd z Dd (List.mem_append_right _ (List.mem_singleton.mpr rfl)) rfl
        have hD5 : H5 Dd = some (.lst vs) := (st5.kp Dd (by rw [hD4]; exact fun z => nomatch z) nD4).trans hD4
        have hacc5 : VRs P w K F5 H5 vs acc La := hacc4.stepR st5 st4.good.ft st4.good.nf fun a ha z => dj4 a z a (List.mem_append_left _ ha) rfl
        have stD : Step q F H L F5 H5 ((L5 ++ Lu) ++ (La ++ [Dd])) := (stC.trans (st5.frame g4)).andS
        have gD := stD.good
        have lt : vs.length < sizeLine := by
          rw [hacc.length]
          have e : (acc ++ (yv :: rest')).length = ys.length := congrArg List.length hys
          rw [List.length_append, List.length_cons] at e
          omega
        refine ⟨vs, hD5, lt, ?_⟩
        -- the item is put at the end
        have ndd := (List.nodup_append.mp gD.nd)
        have nF : ∀ a, F5 a → a ≠ Dd := fun a ha e => gD.nf Dd (List.mem_append_right _ (List.mem_append_right _ (List.mem_singleton.mpr rfl))) (e ▸ ha)
        have nX : ∀ a ∈ L5 ++ Lu, a ≠ Dd := fun a ha e => ndd.2.2 a ha Dd (List.mem_append_right _ (List.mem_singleton.mpr rfl)) e
        have nA : ∀ a ∈ La, a ≠ Dd := fun a ha e => (List.nodup_append.mp ndd.2.1).2.2 a ha Dd (List.mem_singleton.mpr rfl) e
        have ne : ∀ a, a ≠ Dd → upd H5 Dd (.lst (vs ++ [u])) a = H5 a := fun a h => upd_ne h
        have s6 : SR P w K F5 (upd H5 Dd (.lst (vs ++ [u]))) σ3 τ5 L5 := s5.mono (fun _ z => z) (fun a ha => ne a (nF a ha)) fun a ha => ne a (nX a (List.mem_append_left _ ha))
        have hacc6 : VRs P w K F5 (upd H5 Dd (.lst (vs ++ [u]))) (vs ++ [u]) (acc ++ [yv]) (La ++ (Lu ++ [])) :=
          VRs.append (hacc5.mono (fun _ z => z) (fun a ha => ne a (nF a ha)) fun a ha => ne a (nA a ha)) (.cons (hu.mono (fun _ z => z) (fun a ha => ne a (nF a ha)) fun a ha => ne a (nX a (List.mem_append_right _ ha))) .nil)
        rw [List.append_nil] at hacc6
        obtain ⟨L7, s7, b7⟩ := back s6
        have pm : ((L5 ++ Lu) ++ (La ++ [Dd])).Perm (L5 ++ ((La ++ Lu) ++ [Dd])) := by
          rw [List.append_assoc]
          refine List.Perm.append_left L5 ?_
          rw [← List.append_assoc]
          exact List.perm_append_comm.append_right _
        have stE : Step q F H L F5 (upd H5 Dd (.lst (vs ++ [u]))) ((L5 ++ Lu) ++ (La ++ [Dd])) := by
          have tD : H5 Dd ≠ none := by rw [hD5]; exact fun z => nomatch z
          have fresh : H Dd = none := by
            -- Dd was new when the comprehension began
            exact Classical.byContradiction fun z => st0.tr Dd z np
          refine ⟨⟨gD.nd, gD.nf, fun a ha => by rw [ne a (nF a ha)]; exact gD.ft a ha, fun a ha => ?_⟩, stD.fs, fun a h1 h2 => ?_, fun a h => ?_, stD.mem, stD.fm, fun hq a ha h => ?_⟩
          · by_cases hd : a = Dd
            · subst hd; rw [upd_same]; exact fun z => nomatch z
            · rw [ne a hd]; exact gD.lt a ha
          · by_cases hd : a = Dd
            · subst hd; exact absurd fresh h1
            · rw [ne a hd]; exact stD.kp a h1 h2
          · by_cases hd : a = Dd
            · subst hd; rw [upd_same]; exact fun z => nomatch z
            · rw [ne a hd]; exact stD.tr a h
          · by_cases hd : a = Dd
            · subst hd; exact absurd fresh h
            · rw [ne a hd]; exact stD.qk hq a ha h
        refine ⟨F5, _, L7, vs ++ [u], acc ++ [yv], La ++ Lu, rest', fun a ha => st5.fs a (f4s a ha), fun a ha => ?_, s7, upd_same, hacc6, stE.sub ((b7.app (Sub.refl _)).trans (Sub.of_perm pm.symm)), e6, by rw [List.append_assoc]; exact hys⟩
        rw [ne a (nF a (st5.fs a (f4s a ha)))]
        exact (st5.kp a (st4.good.ft a (f4s a ha)) fun z => st4.good.nf a z (f4s a ha)).trans (f4h a ha)
  · exact nomatch ev
end
section
variable {X : Cx} {q : Bool} {n : Nat}
theorem se_lc {elt tg iter : Expr} {ifs : List Expr} {scope : Scope} {own : List (Str × Nat)} {own' : List Nat} {pos : Pos} {I : Evs} {T : Tg} {C : Tv} {E : Ev} (hc : X.calm = true) (hN : X.N.Nodup) (hi : SI q X tg iter I) (ok : BlkOk X.N X.env.scope scope own) (ho : ∀ j ∈ own', j ∈ own.map (·.2))
    (hg : ∀ (s : Shared) (H : Hp) (C : Addr) (cl : List (Str × Addr)) (fp : List Addr), SG own' (X.blk s H scope (compEnvC scope cl C X.env) fp) tg T) (ht : ∀ (s : Shared) (H : Hp) (C' : Addr) (cl : List (Str × Addr)) (fp : List Addr), STs q (X.blk s H scope (compEnvC scope cl C' X.env) fp) ifs C)
    (he : ∀ (s : Shared) (H : Hp) (C : Addr) (cl : List (Str × Addr)) (fp : List Addr), SE q (X.blk s H scope (compEnvC scope cl C X.env) fp) elt E) (hs : ∀ x, foldedSetIterable iter X.env x = Pure.pure x := by intro _; rfl) :
    SE q X (.ListComp elt [⟨tg, iter, ifs, 0⟩] scope pos) (lcM I T C E (own.map (·.2))) := peI (pe_lc hc hN hi ok hg ht he hs) (tLc_ok ho)
theorem ss_setLc {i : Nat} {y : Str} {py : Pos} {elt tg iter : Expr} {ifs : List Expr} {scope : Scope} {own : List (Str × Nat)} {own' : List Nat} {pos spos : Pos} {I : Evs} {T : Tg} {C : Tv} {E : Ev} (hc : X.calm = true) (hN : X.N.Nodup) (hni : n ≤ i) (hi : SI q X tg iter I) (ok : BlkOk X.N X.env.scope scope own) (ho : ∀ j ∈ own', j ∈ own.map (·.2))
    (hg : ∀ (s : Shared) (H : Hp) (C : Addr) (cl : List (Str × Addr)) (fp : List Addr), SG own' (X.blk s H scope (compEnvC scope cl C X.env) fp) tg T) (ht : ∀ (s : Shared) (H : Hp) (C' : Addr) (cl : List (Str × Addr)) (fp : List Addr), STs q (X.blk s H scope (compEnvC scope cl C' X.env) fp) ifs C)
    (he : ∀ (s : Shared) (H : Hp) (C : Addr) (cl : List (Str × Addr)) (fp : List Addr), SE q (X.blk s H scope (compEnvC scope cl C X.env) fp) elt E)
    (hy : X.N[i]? = some y := by rfl) (hyl : X.env.scope.names.lookup y = some .local := by rfl)
    (hsw : swapsWith (.ListComp elt [⟨tg, iter, ifs, 0⟩] scope pos) (some (.Name y py)) spos.line X.env = Pure.pure true := by exact sw_true rfl rfl rfl (by decide +kernel)) (hs : ∀ x, foldedSetIterable iter X.env x = Pure.pure x := by intro _; rfl) :
    SS n X (.Assign [.Name y py] (.ListComp elt [⟨tg, iter, ifs, 0⟩] scope pos) spos) (setM i (lcM I T C E (own.map (·.2)))) :=
  psI (ps_setLc hc hN hy hyl hsw hi ok hg ht he hs) fun D σ H ⟨F, τ, L, fl, τe, s, g, ev, post⟩ => by
    obtain ⟨⟨y1, τ1⟩, e1, ev⟩ := bind_eq ev
    cases ev
    refine tLc_ok ho σ H _ ⟨F, τ, L, y1, τ1, s, g, e1, fun v F1 H1 L1 Lr h1 s1 st1 => ?_⟩
    obtain ⟨L2, s2, sb⟩ := s1.put (i := i) h1
    exact post _ F1 H1 L2 s2 (st1.sub sb).weak (Keep.set hni)
end
end MV
end

section
set_option maxHeartbeats 4000000
/-! operations of Python on values by content -/
namespace MV
open PySem PySem.Spec PyProof.Rows L2

/-- what an operation on two values by content asks, and gives: r of the layer -/
def rG (P : Program) (w : World) (K : PySem.W.Frag) (g : Val → Val → Option Val) : R2 := fun vx vy H Q => ∃ F x y Lx Ly z, (∀ a, F a → H a ≠ none) ∧ VR P w K F H vx x Lx ∧ VR P w K F H vy y Ly ∧ g x y = some z ∧
  ∀ v F' H' Lr, VR P w K F' H' v z Lr → Step true F H [] F' H' Lr → Q v H'
def rG1 (P : Program) (w : World) (K : PySem.W.Frag) (g : Val → Option Val) : V → Hp → VK → Prop := fun vx H Q => ∃ F x Lx z, (∀ a, F a → H a ≠ none) ∧ VR P w K F H vx x Lx ∧ g x = some z ∧
  ∀ v F' H' Lr, VR P w K F' H' v z Lr → Step true F H [] F' H' Lr → Q v H'
def rGN (P : Program) (w : World) (K : PySem.W.Frag) (g : List Val → Option Val) : List V → Hp → VK → Prop := fun vs H Q => ∃ F xs Lx z, (∀ a, F a → H a ≠ none) ∧ VRs P w K F H vs xs Lx ∧ g xs = some z ∧
  ∀ v F' H' Lr, VR P w K F' H' v z Lr → Step true F H [] F' H' Lr → Q v H'
theorem mG {P w K} (g) : M2 P w K (rG P w K g) g := fun F H vx vy x y Lx Ly z Q ft hx hy e post => ⟨F, x, y, Lx, Ly, z, ft, hx, hy, e, post⟩
theorem mG1 {P w K} (g) : M1 P w K (rG1 P w K g) g := fun F H vx x Lx z Q ft hx e post => ⟨F, x, Lx, z, ft, hx, e, post⟩
theorem mGN {P w K} (g) : MN P w K (rGN P w K g) g := fun F H vs xs Lx z Q ft hx e post => ⟨F, xs, Lx, z, ft, hx, e, post⟩

section
variable {P : Program} {w : World} {K : PySem.W.Frag} {F : Addr → Prop} {H : Hp}
/-- a scalar comes, nothing else happens -/
theorem post_id {z : Val} {v : V} {Q : VK} (ft : ∀ a, F a → H a ≠ none) (post : ∀ v F' H' Lr, VR P w K F' H' v z Lr → Step true F H [] F' H' Lr → Q v H') (h : VR P w K F H v z []) : Q v H := post v F H [] h (Step.id ft)
/-- a new tuple of what stands -/
theorem post_tup {xs : List Val} {vs : List V} {p : Addr} {Q : VK} (ft : ∀ a, F a → H a ≠ none) (post : ∀ v F' H' Lr, VR P w K F' H' v (.tup xs) Lr → Step true F H [] F' H' Lr → Q v H') (h : VRs P w K F H vs xs []) (np : H p = none) : Q (.ref p) (upd H p (.tup vs)) := by
  have st := Step.newF (o := .tup vs) (good_nil ft) np
  exact post _ _ _ [] (.tup (.inl ⟨.inr rfl, upd_same⟩) (h.stepQ st ft)) st
/-- a new list of what stands -/
theorem post_lst {xs : List Val} {vs : List V} {p : Addr} {Q : VK} (ft : ∀ a, F a → H a ≠ none) (post : ∀ v F' H' Lr, VR P w K F' H' v (.lst true xs) Lr → Step true F H [] F' H' Lr → Q v H') (h : VRs P w K F H vs xs []) (np : H p = none) : Q (.ref p) (upd H p (.lst vs)) := by
  have st := Step.new (o := .lst vs) (good_nil ft) np
  have hA : At F (upd H p (.lst vs)) true p (.lst vs) [] [p] := by
    show (if true = true then _ else _)
    rw [if_pos rfl]
    exact ⟨upd_same, rfl⟩
  exact post _ _ _ [p] (.lst hA (h.stepQ st ft)) st
theorem VR.lst_inv {v : V} {m : Bool} {xs : List Val} {L : List Addr} (h : VR P w K F H v (.lst m xs) L) : ∃ a vs L0, v = .ref a ∧ H a = some (.lst vs) ∧ VRs P w K F H vs xs L0 := by
  cases h with
  | @lst a _ vs _ L0 _ hA hvs =>
    refine ⟨a, vs, L0, rfl, ?_, hvs⟩
    unfold At at hA
    cases m with
    | true => simp only [if_true] at hA; exact hA.1
    | false => simp only [Bool.false_eq_true, if_false] at hA; exact hA.2.1
theorem VR.tup_inv {v : V} {xs : List Val} {L : List Addr} (h : VR P w K F H v (.tup xs) L) : ∃ a vs, v = .ref a ∧ TupAt K F H a vs ∧ VRs P w K F H vs xs L := by
  cases h with
  | @tup a vs _ _ hA hvs => exact ⟨a, vs, rfl, hA, hvs⟩
theorem VRs.get' {vs : List V} {xs : List Val} {i : Nat} {v : V} {x : Val} (h : VRs P w K F H vs xs []) (hv : vs[i]? = some v) (hx : xs[i]? = some x) : VR P w K F H v x [] := by
  obtain ⟨u, L1, e1, e2, sb⟩ := h.get hx
  have en : L1 = [] := List.sublist_nil.mp sb
  subst en
  rw [hv] at e1
  rw [Option.some.inj e1]
  exact e2
theorem VRs.of_get : ∀ {vs : List V} {xs : List Val}, vs.length = xs.length → (∀ (i : Nat) (v : V) (x : Val), vs[i]? = some v → xs[i]? = some x → VR P w K F H v x []) → VRs P w K F H vs xs []
  | [], [], _, _ => .nil
  | v :: vs, x :: xs, hl, h => by
    have h0 := h 0 v x rfl rfl
    have ht := VRs.of_get (vs := vs) (xs := xs) (by simpa using hl) fun i u y e1 e2 => h (i + 1) u y (by simpa using e1) (by simpa using e2)
    exact .cons h0 ht
  | [], _ :: _, hl, _ => nomatch hl
  | _ :: _, [], hl, _ => nomatch hl
theorem VRs.take {vs : List V} {xs : List Val} (n : Nat) (h : VRs P w K F H vs xs []) : VRs P w K F H (vs.take n) (xs.take n) [] := by
  refine .of_get (by rw [List.length_take, List.length_take, h.length]) fun i v x e1 e2 => ?_
  rw [List.getElem?_take] at e1 e2
  split at e1
  · rename_i hi
    rw [if_pos hi] at e2
    exact h.get' e1 e2
  · exact nomatch e1
theorem VRs.drop {vs : List V} {xs : List Val} (n : Nat) (h : VRs P w K F H vs xs []) : VRs P w K F H (vs.drop n) (xs.drop n) [] := by
  refine .of_get (by rw [List.length_drop, List.length_drop, h.length]) fun i v x e1 e2 => ?_
  rw [List.getElem?_drop] at e1 e2
  exact h.get' e1 e2
theorem VRs.reverse {vs : List V} {xs : List Val} (h : VRs P w K F H vs xs []) : VRs P w K F H vs.reverse xs.reverse [] := by
  refine .of_get (by rw [List.length_reverse, List.length_reverse, h.length]) fun i v x e1 e2 => ?_
  have hi : i < vs.length := by
    rcases Nat.lt_or_ge i vs.length with c | c
    · exact c
    · rw [List.getElem?_eq_none (by simpa using c)] at e1; cases e1
  rw [List.getElem?_reverse hi] at e1
  rw [List.getElem?_reverse (by rw [← h.length]; exact hi), ← h.length] at e2
  exact h.get' e1 e2
theorem VRs.rep {vs : List V} {xs : List Val} (h : VRs P w K F H vs xs []) : ∀ n : Nat, VRs P w K F H (List.replicate n vs).flatten (List.replicate n xs).flatten []
  | 0 => .nil
  | n + 1 => by
    rw [List.replicate_succ, List.replicate_succ, List.flatten_cons, List.flatten_cons]
    exact h.append (VRs.rep h n)
theorem VR.dp : ∀ {v : V} {x : Val} {L : List Addr}, VR P w K F H v x L → x.toD.canLay0 = true → Dp K H v x.toD := by
  have key : ∀ n : Nat, (∀ (x : Val), sizeOf x < n → ∀ (v : V) (L : List Addr), VR P w K F H v x L → x.toD.canLay0 = true → Dp K H v x.toD) := by
    intro n
    induction n with
    | zero => intro x hx; exact absurd hx (Nat.not_lt_zero _)
    | succ n ih =>
      intro x hx v L h c
      have list : ∀ (xs : List Val), (∀ y ∈ xs, sizeOf y < n) → ∀ (vs : List V) (L : List Addr), VRs P w K F H vs xs L → PyData.canLayAll0 (toDL xs) = true → DpAll K H vs (toDL xs) := by
        intro xs
        induction xs with
        | nil => intro _ vs L h _; cases h; exact .nil
        | cons y ys ihl =>
          intro hs vs L h c
          simp only [toDL, PyData.canLayAll0, Bool.and_eq_true] at c
          cases h with
          | cons h1 h2 => exact .cons (ih y (hs y List.mem_cons_self) _ _ h1 c.1) (ihl (fun z hz => hs z (List.mem_cons_of_mem _ hz)) _ _ h2 c.2)
      cases h with
      | non => exact .non
      | bl b => exact .bl b
      | int i => exact .int i
      | str z => exact .str z
      | @tup a vs xs _ hA hvs =>
        simp only [Val.toD, PyData.canLay0] at c ⊢
        refine .tup hA.sq (list xs (fun y hy => ?_) vs _ hvs c)
        have := List.sizeOf_lt_of_mem hy
        simp only [Val.tup.sizeOf_spec] at hx
        omega
      | @lst a m vs xs L0 _ hA hvs =>
        simp only [Val.toD, PyData.canLay0] at c ⊢
        have hq : H a = some (.lst vs) := by
          unfold At at hA
          cases m with
          | true => simp only [if_true] at hA; exact hA.1
          | false => simp only [Bool.false_eq_true, if_false] at hA; exact hA.2.1
        refine .lst (SqL.of hq) (list xs (fun y hy => ?_) vs _ hvs c)
        have := List.sizeOf_lt_of_mem hy
        simp only [Val.lst.sizeOf_spec] at hx
        omega
      | dK _ _ _ => simp only [Val.toD, PyData.canLay0] at c; exact nomatch c
      | dT _ _ _ _ _ => simp only [Val.toD, PyData.canLay0] at c; exact nomatch c
      | scr _ => simp only [Val.toD, PyData.canLay0] at c; exact nomatch c
  exact fun {v x L} h c => key (sizeOf x + 1) x (Nat.lt_succ_self _) v L h c
end

/-! arithmetic -/
def mulOk (i j : Int) : Bool := decide (i.natAbs < 2 ^ 64) || decide (j.natAbs < 2 ^ 64) || decide (i.natAbs.log2 + j.natAbs.log2 < 1000000)
def addV : Val → Val → Option Val
  | .int i, .int j => some (.int (i + j))
  | .lst _ xs, .lst _ ys => if (pureL xs && pureL ys && decide (xs.length + ys.length ≤ sizeLine)) = true then some (.lst true (xs ++ ys)) else none
  | .tup xs, .tup ys => if (pureL xs && pureL ys && decide (xs.length + ys.length ≤ sizeLine)) = true then some (.tup (xs ++ ys)) else none
  | .str a, .str b => if a.length + b.length ≤ sizeLine then some (.str (a.append b)) else none
  | _, _ => none
def subV : Val → Val → Option Val
  | .int i, .int j => some (.int (i - j))
  | _, _ => none
def mulV : Val → Val → Option Val
  | .int i, .int j => if mulOk i j = true then some (.int (i * j)) else none
  | .lst _ xs, .int k => if (pureL xs && decide (-(2 ^ 63) ≤ k) && decide (k < 2 ^ 63) && decide (xs.length * k.toNat ≤ sizeLine)) = true then some (.lst true (List.replicate k.toNat xs).flatten) else none
  | .tup xs, .int k => if (pureL xs && decide (1 ≤ k) && decide (k ≤ 1000) && decide (xs.length ≤ 1000)) = true then some (.tup (List.replicate k.toNat xs).flatten) else none
  | _, _ => none
def fdivV : Val → Val → Option Val
  | .int i, .int j => if (decide (0 < j) && decide (j.natAbs.log2 < 9000)) = true then some (.int (i / j)) else none
  | _, _ => none
def modV : Val → Val → Option Val
  | .int i, .int j => if decide (0 < j) = true then some (.int (i % j)) else none
  | _, _ => none
def powV : Val → Val → Option Val
  | .int i, .int j => if (decide (0 ≤ j) && decide (j ≤ 1000000) && decide (i.natAbs < 2 ^ 64)) = true then some (.int (i ^ j.toNat)) else none
  | _, _ => none
def negV : Val → Option Val
  | .int i => some (.int (-i))
  | _ => none

section
variable {X : Cx}
theorem op_subV : OpR X (binaryOp .Sub) (rG X.prog X.w X.K subV) := by
  intro pins s σ H vx vy v u Q I rx ry ⟨F, x, y, Lx, Ly, z, ft, hx, hy, e, post⟩
  unfold subV at e
  split at e
  · cases e
    cases hx; cases hy
    exact op_sub pins s σ H _ _ v u Q I rx ry ⟨_, _, rfl, rfl, post_id ft post (.int _)⟩
  · cases e
theorem op_modV : OpR X (binaryOp .Mod) (rG X.prog X.w X.K modV) := by
  intro pins s σ H vx vy v u Q I rx ry ⟨F, x, y, Lx, Ly, z, ft, hx, hy, e, post⟩
  unfold modV at e
  split at e
  · split at e
    · rename_i h0
      cases e
      cases hx; cases hy
      exact op_mod pins s σ H _ _ v u Q I rx ry ⟨_, _, rfl, rfl, of_decide_eq_true h0, post_id ft post (.int _)⟩
    · cases e
  · cases e
theorem op_fdivV : OpR X (binaryOp .FloorDiv) (rG X.prog X.w X.K fdivV) := by
  intro pins s σ H vx vy v u Q I rx ry ⟨F, x, y, Lx, Ly, z, ft, hx, hy, e, post⟩
  unfold fdivV at e
  split at e
  · split at e
    · rename_i h0
      rw [Bool.and_eq_true, decide_eq_true_eq, decide_eq_true_eq] at h0
      cases e
      cases hx; cases hy
      exact op_fdivW pins s σ H _ _ v u Q I rx ry ⟨_, _, rfl, rfl, h0, post_id ft post (.int _)⟩
    · cases e
  · cases e
theorem op_powV : OpR X (binaryOp .Pow) (rG X.prog X.w X.K powV) := by
  intro pins s σ H vx vy v u Q I rx ry ⟨F, x, y, Lx, Ly, z, ft, hx, hy, e, post⟩
  unfold powV at e
  split at e
  · split at e
    · rename_i h0
      rw [Bool.and_eq_true, Bool.and_eq_true, decide_eq_true_eq, decide_eq_true_eq, decide_eq_true_eq] at h0
      cases e
      cases hx; cases hy
      exact op_pow pins s σ H _ _ v u Q I rx ry ⟨_, _, rfl, rfl, ⟨h0.1.1, h0.1.2, h0.2⟩, post_id ft post (.int _)⟩
    · cases e
  · cases e
theorem un_negV : UnR X (unaryOp .USub) (rG1 X.prog X.w X.K negV) := by
  intro pins s σ H vx v Q I rx ⟨F, x, Lx, z, ft, hx, e, post⟩
  unfold negV at e
  split at e
  · cases e
    cases hx
    exact un_neg pins s σ H _ v Q I rx ⟨_, rfl, post_id ft post (.int _)⟩
  · cases e
theorem op_addV : OpR X (binaryOp .Add) (rG X.prog X.w X.K addV) := by
  intro pins s σ H vx vy v u Q I rx ry ⟨F, x, y, Lx, Ly, z, ft, hx, hy, e, post⟩
  unfold addV at e
  split at e
  · cases e
    cases hx; cases hy
    exact op_add pins s σ H _ _ v u Q I rx ry ⟨_, _, rfl, rfl, post_id ft post (.int _)⟩
  · split at e
    · rename_i h0
      simp only [Bool.and_eq_true, decide_eq_true_eq] at h0
      cases e
      obtain ⟨a, vs, L0, rfl, ha, hvs⟩ := hx.lst_inv
      obtain ⟨b, ws, L1, rfl, hb, hws⟩ := hy.lst_inv
      have h1 := hvs.pureL h0.1.1
      have h2 := hws.pureL h0.1.2
      exact op_cat pins s σ H _ _ v u Q I rx ry ⟨a, b, vs, ws, rfl, rfl, ha, hb, by rw [h1.length, h2.length]; exact h0.2, fun p np => post_lst ft post (h1.append h2) np⟩
    · cases e
  · split at e
    · rename_i h0
      simp only [Bool.and_eq_true, decide_eq_true_eq] at h0
      cases e
      obtain ⟨a, vs, rfl, ha, hvs⟩ := hx.tup_inv
      obtain ⟨b, ws, rfl, hb, hws⟩ := hy.tup_inv
      have h1 := hvs.pureL h0.1.1
      have h2 := hws.pureL h0.1.2
      refine op_catA pins s σ H _ _ v u Q I rx ry ⟨a, b, vs, ws, rfl, rfl, ha.sq, hb.sq, by rw [h1.length, h2.length]; exact h0.2, fun en => ?_, fun _ en => ?_, fun _ _ p np => post_tup ft post (h1.append h2) np⟩
      · subst en
        cases h1
        exact post_id ft post (.tup hb h2)
      · subst en
        cases h2
        rw [List.append_nil] at post
        exact post_id ft post (.tup ha h1)
    · cases e
  · split at e
    · rename_i h0
      cases e
      cases hx; cases hy
      exact op_add_str pins s σ H _ _ v u Q I rx ry ⟨_, _, rfl, rfl, h0, post_id ft post (.str _)⟩
    · cases e
  · cases e
/-- t * 1, and the empty tuple times an int: the tuple itself -/
theorem tuple_mul1 (l : Addr) (items : Array Value) (n : Nat) (dd : Option Addr) (sl : Array (Option Value)) (x : Int) (u : Tok) (c0 : (decide (x < -(2 ^ 63)) || decide (x ≥ 2 ^ 63)) = false) (c1 : (items.isEmpty || x == 1) = true) :
    Meets (Builtin.«tuple.__mul__» ⟨[.ref l, .int x u], []⟩) (fun _ R s => s.heap.get? l = some { cls := .type "tuple", dict := dd, data := .seq items n, slots := sl } ∧ R (.ok (.ret (Value.ref l))) s) :=
  .of_wp fun prog w A R s h => by
    obtain ⟨hp, g, d, tk, os⟩ := s
    obtain ⟨hl, h⟩ := h
    have f1 := AutoSeq1.idx_int
    wp_walk using wpAny_loadPart' hl
    repeat (first
      | (refine wpAny_ite_false (decide_eq_false (by rw [c0]; exact Bool.false_ne_true)) ?_; wp_walk using wpAny_loadPart' hl)
      | (refine wpAny_ite_true (decide_eq_true (by rw [c1])) ?_; wp_walk using wpAny_loadPart' hl))
    exact ⟨_, rfl, h⟩
end
end MV
end

section
set_option maxHeartbeats 4000000
/-! operations of Python on values by content: products, comparisons, items, slices, what is built in -/
namespace MV
open PySem PySem.Spec PyProof.Rows L2

theorem hu64 {A : Around} {k : Nat} (hr : Room k A) : A.units + 65 < cLine := by have := hr.un; omega

def okD (x : Val) : Bool := SeqAt.shaped x.toD
def eqV : Val → Val → Option Val
  | .int i, .int j => some (.bl (i == j))
  | .str a, .str b => some (.bl (a == b))
  | .bl a, .bl b => some (.bl (a == b))
  | x, y => if (okD x && okD y) = true then some (.bl (PyData.eqv x.toD y.toD)) else none
def neV (x y : Val) : Option Val := (eqV x y).bind fun z => match z with
  | .bl b => some (.bl (!b))
  | _ => none
def ltV : Val → Val → Option Val
  | .int i, .int j => some (.bl (decide (i < j)))
  | .tup xs, .tup ys => if (okD (.tup xs) && okD (.tup ys) && PySem.W.alike (Val.tup xs).toD (Val.tup ys).toD) = true then some (.bl (PySem.W.dataLt (Val.tup xs).toD (Val.tup ys).toD)) else none
  | _, _ => none
def leV : Val → Val → Option Val
  | .int i, .int j => some (.bl (decide (i ≤ j)))
  | _, _ => none
def gtV : Val → Val → Option Val
  | .int i, .int j => some (.bl (decide (j < i)))
  | _, _ => none
def geV : Val → Val → Option Val
  | .int i, .int j => some (.bl (decide (j ≤ i)))
  | _, _ => none
def isV : Val → Val → Option Val
  | .bl a, .bl b => some (.bl (a == b))
  | .non, .non => some (.bl true)
  | _, .non => some (.bl false)
  | _, _ => none
def isntV (x y : Val) : Option Val := (isV x y).bind fun z => match z with
  | .bl b => some (.bl (!b))
  | _ => none
def inV2 : Val → Val → Option Val
  | x, .lst m ys => if (okD x && okD (.lst m ys)) = true then some (.bl (ys.any fun y => PyData.eqv y.toD x.toD)) else none
  | x, .tup ys => if (okD x && okD (.tup ys)) = true then some (.bl (ys.any fun y => PyData.eqv y.toD x.toD)) else none
  | _, _ => none
def notinV2 (x y : Val) : Option Val := (inV2 x y).bind fun z => match z with
  | .bl b => some (.bl (!b))
  | _ => none
def pureO (o : Option Val) : Option Val := o.bind fun x => if x.pure = true then some x else none
def idxV : Val → Val → Option Val
  | .lst _ xs, .int i => pureO (atI xs i)
  | .tup xs, .int i => pureO (atI xs i)
  | .scr ns, .int i => (atI ns i).map .int
  | _, _ => none

section
variable {P : Program} {w : World} {K : PySem.W.Frag} {F : Addr → Prop} {H : Hp}
theorem VR.not_non {v : V} {x : Val} {L : List Addr} (h : VR P w K F H v x L) (hx : x ≠ .non) : v ≠ .non := by
  intro e
  subst e
  cases h
  exact hx rfl
theorem atI_map {α β : Type} (f : α → β) (xs : List α) (i : Int) : atI (xs.map f) i = (atI xs i).map f := by
  unfold atI
  rw [List.length_map]
  cases ixN xs.length i with
  | none => rfl
  | some j => simp
theorem atI_some {α : Type} {xs : List α} {i : Int} {x : α} (h : atI xs i = some x) : ∃ j, ixN xs.length i = some j ∧ xs[j]? = some x := by
  unfold atI at h
  cases e : ixN xs.length i with
  | none => rw [e] at h; cases h
  | some j => rw [e] at h; exact ⟨j, rfl, h⟩
theorem VRs.atI {vs : List V} {xs : List Val} {L : List Addr} {i : Int} {x : Val} (h : VRs P w K F H vs xs L) (e : atI xs i = some x) (p : x.pure = true) : ∃ v, L2.atI vs i = some v ∧ VR P w K F H v x [] := by
  obtain ⟨j, e1, e2⟩ := atI_some e
  obtain ⟨v, L1, h1, h2, _⟩ := h.get e2
  refine ⟨v, ?_, h2.pureV p⟩
  unfold L2.atI
  rw [h.length, e1]
  exact h1
theorem pureO_some {o : Option Val} {x : Val} (h : pureO o = some x) : o = some x ∧ x.pure = true := by
  cases o with
  | none => cases h
  | some y =>
    have h' : (if y.pure = true then some y else none) = some x := h
    split at h'
    · rename_i hp
      cases h'
      exact ⟨rfl, hp⟩
    · cases h'
theorem okD_lay {x : Val} (h : okD x = true) : x.toD.canLay0 = true := SeqAt.canLay_of_shaped h
end
section
variable {X : Cx}
theorem op_mulV : OpR X (binaryOp .Mult) (rG X.prog X.w X.K mulV) := by
  intro pins s σ H vx vy v u Q I rx ry ⟨F, x, y, Lx, Ly, z, ft, hx, hy, e, post⟩
  unfold mulV at e
  split at e
  · split at e
    · rename_i i j h0
      cases e
      cases hx; cases hy
      have q : Q (.int (i * j)) H := post_id ft post (.int _)
      simp only [mulOk, Bool.or_eq_true, decide_eq_true_eq] at h0
      rcases h0 with (h0 | h0) | h0
      · exact op_mul pins s σ H _ _ v u Q I rx ry ⟨_, _, rfl, rfl, .inl ⟨by omega, by omega⟩, q⟩
      · exact op_mul pins s σ H _ _ v u Q I rx ry ⟨_, _, rfl, rfl, .inr ⟨by omega, by omega⟩, q⟩
      · exact op_mulW pins s σ H _ _ v u Q I rx ry ⟨_, _, rfl, rfl, h0, q⟩
    · cases e
  · split at e
    · rename_i k h0
      simp only [Bool.and_eq_true, decide_eq_true_eq] at h0
      cases e
      obtain ⟨a, vs, L0, rfl, ha, hvs⟩ := hx.lst_inv
      cases hy
      have h1 := hvs.pureL h0.1.1.1
      exact op_rep pins s σ H _ _ v u Q I rx ry ⟨a, k, vs, rfl, rfl, ha, h0.1.1.2, h0.1.2, by rw [h1.length]; exact h0.2, fun p np => post_lst ft post (h1.rep _) np⟩
    · cases e
  · split at e
    · rename_i xs k h0
      simp only [Bool.and_eq_true, decide_eq_true_eq] at h0
      cases e
      obtain ⟨a, vs, rfl, ha, hvs⟩ := hx.tup_inv
      cases hy
      have h1 := hvs.pureL h0.1.1.1
      by_cases hk : 2 ≤ k ∧ vs ≠ []
      · exact op_repT pins s σ H _ _ v u Q I rx ry ⟨a, k, vs, rfl, rfl, ha.sq, hk.2, hk.1, h0.1.2, by rw [h1.length]; exact h0.2, fun p np => post_tup ft post (h1.rep _) np⟩
      · -- the tuple itself
        have same : (List.replicate k.toNat xs).flatten = xs := by
          rcases Classical.not_and_iff_not_or_not.mp hk with c | c
          · have e1 : k.toNat = 1 := by omega
            rw [e1]
            simp
          · have e1 : vs = [] := Classical.not_not.mp c
            subst e1
            cases h1
            simp
        rw [same] at post
        cases rx
        obtain ⟨t, rfl⟩ := ry
        obtain ⟨its, r, ⟨⟨cls, dd, data, sl⟩, ho, hc, n, hd⟩, hs⟩ := I.tuple ha.sq
        simp only at hc hd
        subst hc hd
        have c0 : (decide (k < -(2 ^ 63)) || decide (k ≥ 2 ^ 63)) = false := by
          rw [decide_eq_false (by omega), decide_eq_false (by omega)] <;> rfl
        have c1 : (its.toArray.isEmpty || k == 1) = true := by
          rcases Classical.not_and_iff_not_or_not.mp hk with c | c
          · have e1 : k = 1 := by omega
            subst e1
            simp
          · have e1 : vs = [] := Classical.not_not.mp c
            subst e1
            have e2 := r.length
            have e3 : its = [] := List.eq_nil_of_length_eq_zero e2.symm
            subst e3
            rfl
        exact wpAny_binaryOp_repeat_ref (T := "tuple") (U := "int") (by decide) ⟨_, ho, rfl⟩ (fun s' => typeIs_int s' k t) noFill_tuple_mul PySem.F.fills_int_mul PySem.F.slot_int_rmul repeat_tuple PySem.F.slot_int_index.lookup
          (call_meets PySem.F.slot_int_rmul (typeIs_int s k t) PySem.F.entry_int_rmul (PySem.F.args_int_rmul_2 _ _) (int_rmul_tuple k t a its.toArray n dd sl)
            ⟨ho, rfl, ⟨_, ho, rfl⟩, call_meets PySem.F.slot_tuple_mul ⟨_, ho, rfl⟩ PySem.F.entry_tuple_mul (PySem.F.args_tuple_mul_2 _ _) (tuple_mul1 a its.toArray n dd sl k t c0 c1) ⟨ho, ⟨.ref a, H, I, rfl, post_id ft post (.tup ha h1)⟩⟩⟩)
    · cases e
  · cases e
theorem op_eqV2 (hu : X.A.units + 65 < cLine) : OpR X (compareOp .Eq) (rG X.prog X.w X.K eqV) := by
  intro pins s σ H vx vy v u Q I rx ry ⟨F, x, y, Lx, Ly, z, ft, hx, hy, e, post⟩
  unfold eqV at e
  split at e
  · rename_i i j
    cases e
    cases hx; cases hy
    refine op_eq pins s σ H _ _ v u Q I rx ry ⟨rfl, ?_⟩
    rw [dec_int]
    exact post_id ft post (.bl _)
  · rename_i i j
    cases e
    cases hx; cases hy
    refine op_eq pins s σ H _ _ v u Q I rx ry ⟨rfl, ?_⟩
    have e2 : decide (V.str i = V.str j) = (i == j) := by rw [Bool.eq_iff_iff]; simp
    rw [e2]
    exact post_id ft post (.bl _)
  · rename_i i j
    cases e
    cases hx; cases hy
    refine op_eq pins s σ H _ _ v u Q I rx ry ⟨rfl, ?_⟩
    rw [dec_bl]
    exact post_id ft post (.bl _)
  · split at e
    · rename_i h0
      rw [Bool.and_eq_true] at h0
      cases e
      exact op_eqD (by omega) pins s σ H _ _ v u Q I rx ry ⟨_, _, hx.dp (okD_lay h0.1), hy.dp (okD_lay h0.2), h0.1, h0.2, post_id ft post (.bl _)⟩
    · cases e
theorem op_neV2 (hu : X.A.units + 65 < cLine) : OpR X (compareOp .NotEq) (rG X.prog X.w X.K neV) := by
  intro pins s σ H vx vy v u Q I rx ry ⟨F, x, y, Lx, Ly, z, ft, hx, hy, e, post⟩
  unfold neV at e
  obtain ⟨z', e1, e⟩ := bind_eq e
  unfold eqV at e1
  split at e1
  · rename_i i j
    cases e1
    cases e
    cases hx; cases hy
    refine op_ne pins s σ H _ _ v u Q I rx ry ⟨rfl, ?_⟩
    rw [dec_int]
    exact post_id ft post (.bl _)
  · rename_i i j
    cases e1
    cases e
    cases hx; cases hy
    refine op_ne pins s σ H _ _ v u Q I rx ry ⟨rfl, ?_⟩
    have e2 : decide (V.str i = V.str j) = (i == j) := by rw [Bool.eq_iff_iff]; simp
    rw [e2]
    exact post_id ft post (.bl _)
  · rename_i i j
    cases e1
    cases e
    cases hx; cases hy
    refine op_ne pins s σ H _ _ v u Q I rx ry ⟨rfl, ?_⟩
    rw [dec_bl]
    exact post_id ft post (.bl _)
  · split at e1
    · rename_i h0
      rw [Bool.and_eq_true] at h0
      cases e1
      cases e
      exact op_neD (by omega) pins s σ H _ _ v u Q I rx ry ⟨_, _, hx.dp (okD_lay h0.1), hy.dp (okD_lay h0.2), h0.1, h0.2, post_id ft post (.bl _)⟩
    · cases e1
theorem op_ltV (hu : X.A.units + 65 < cLine) : OpR X (compareOp .Lt) (rG X.prog X.w X.K ltV) := by
  intro pins s σ H vx vy v u Q I rx ry ⟨F, x, y, Lx, Ly, z, ft, hx, hy, e, post⟩
  unfold ltV at e
  split at e
  · cases e
    cases hx; cases hy
    exact op_lt pins s σ H _ _ v u Q I rx ry ⟨_, _, rfl, rfl, post_id ft post (.bl _)⟩
  · split at e
    · rename_i h0
      rw [Bool.and_eq_true, Bool.and_eq_true] at h0
      cases e
      obtain ⟨as, r1⟩ := Dp.reads I _ _ _ (hx.dp (okD_lay h0.1.1)) rx
      obtain ⟨bs, r2⟩ := Dp.reads I _ _ _ (hy.dp (okD_lay h0.1.2)) ry
      exact PySem.W.rcLt_alike _ _ X.A s v u as bs r1 r2 h0.2 (fun z => by simp [Val.toD] at z) (SeqAt.room_of_shaped h0.1.1 (by omega)) X.prog X.w X.xe _ ⟨.bl _, H, I, rfl, post_id ft post (.bl _)⟩
    · cases e
  · cases e
theorem op_leV : OpR X (compareOp .LtE) (rG X.prog X.w X.K leV) := by
  intro pins s σ H vx vy v u Q I rx ry ⟨F, x, y, Lx, Ly, z, ft, hx, hy, e, post⟩
  unfold leV at e
  split at e
  · cases e
    cases hx; cases hy
    exact op_le pins s σ H _ _ v u Q I rx ry ⟨_, _, rfl, rfl, post_id ft post (.bl _)⟩
  · cases e
theorem op_gtV : OpR X (compareOp .Gt) (rG X.prog X.w X.K gtV) := by
  intro pins s σ H vx vy v u Q I rx ry ⟨F, x, y, Lx, Ly, z, ft, hx, hy, e, post⟩
  unfold gtV at e
  split at e
  · cases e
    cases hx; cases hy
    exact op_gt pins s σ H _ _ v u Q I rx ry ⟨_, _, rfl, rfl, post_id ft post (.bl _)⟩
  · cases e
theorem op_geV : OpR X (compareOp .GtE) (rG X.prog X.w X.K geV) := by
  intro pins s σ H vx vy v u Q I rx ry ⟨F, x, y, Lx, Ly, z, ft, hx, hy, e, post⟩
  unfold geV at e
  split at e
  · cases e
    cases hx; cases hy
    exact op_ge pins s σ H _ _ v u Q I rx ry ⟨_, _, rfl, rfl, post_id ft post (.bl _)⟩
  · cases e
theorem op_isV : OpR X (compareOp .Is) (rG X.prog X.w X.K isV) := by
  intro pins s σ H vx vy v u Q I rx ry ⟨F, x, y, Lx, Ly, z, ft, hx, hy, e, post⟩
  unfold isV at e
  split at e
  · cases e
    cases hx; cases hy
    refine op_isBl pins s σ H _ _ v u Q I rx ry ⟨_, _, rfl, rfl, ?_⟩
    rw [← Bool.beq_eq_decide_eq]
    exact post_id ft post (.bl _)
  · cases e
    cases hx; cases hy
    exact op_isN pins s σ H _ _ v u Q I rx ry ⟨rfl, post_id ft post (.bl _)⟩
  · rename_i hn
    cases e
    cases hy
    refine op_isN pins s σ H _ _ v u Q I rx ry ⟨rfl, ?_⟩
    rw [decide_eq_false (hx.not_non hn)]
    exact post_id ft post (.bl _)
  · cases e
theorem op_isntV : OpR X (compareOp .IsNot) (rG X.prog X.w X.K isntV) := by
  intro pins s σ H vx vy v u Q I rx ry ⟨F, x, y, Lx, Ly, z, ft, hx, hy, e, post⟩
  unfold isntV at e
  obtain ⟨z', e1, e⟩ := bind_eq e
  unfold isV at e1
  split at e1
  · cases e1
    cases e
    cases hx; cases hy
    refine op_notBl pins s σ H _ _ v u Q I rx ry ⟨_, _, rfl, rfl, ?_⟩
    rw [← Bool.beq_eq_decide_eq]
    exact post_id ft post (.bl _)
  · cases e1
    cases e
    cases hx; cases hy
    exact op_notN pins s σ H _ _ v u Q I rx ry ⟨rfl, post_id ft post (.bl _)⟩
  · rename_i hn
    cases e1
    cases e
    cases hy
    refine op_notN pins s σ H _ _ v u Q I rx ry ⟨rfl, ?_⟩
    rw [decide_eq_false (hx.not_non hn)]
    exact post_id ft post (.bl _)
  · cases e1
theorem any_toD (ys : List Val) (d : PyData) : ((toDL ys).any fun z => PyData.eqv z d) = ys.any fun y => PyData.eqv y.toD d := by
  rw [toDL_map, List.any_map]
  rfl
theorem op_inV2 (hu : X.A.units + 65 < cLine) : OpR X (compareOp .In) (rG X.prog X.w X.K inV2) := by
  intro pins s σ H vx vy v u Q I rx ry ⟨F, x, y, Lx, Ly, z, ft, hx, hy, e, post⟩
  unfold inV2 at e
  split at e
  · split at e
    · rename_i h0
      rw [Bool.and_eq_true] at h0
      cases e
      have dy := hy.dp (okD_lay h0.2)
      refine op_inD hu pins s σ H _ _ v u Q I rx ry ⟨_, _, hx.dp (okD_lay h0.1), dy, h0.1, h0.2, ?_⟩
      rw [any_toD]
      exact post_id ft post (.bl _)
    · cases e
  · split at e
    · rename_i h0
      rw [Bool.and_eq_true] at h0
      cases e
      obtain ⟨as, r1⟩ := Dp.reads I _ _ _ (hx.dp (okD_lay h0.1)) rx
      obtain ⟨bs, r2⟩ := Dp.reads I _ _ _ (hy.dp (okD_lay h0.2)) ry
      refine SeqAt.in_tuple_reads r2 r1 (SeqAt.canLay_of_shaped h0.2) (SeqAt.canLay_of_shaped h0.1) (room_in_shaped h0.1 hu) ⟨.bl _, H, I, rfl, ?_⟩
      rw [any_toD]
      exact post_id ft post (.bl _)
    · cases e
  · cases e
theorem op_notinV2 (hu : X.A.units + 65 < cLine) : OpR X (compareOp .NotIn) (rG X.prog X.w X.K notinV2) := by
  intro pins s σ H vx vy v u Q I rx ry ⟨F, x, y, Lx, Ly, z, ft, hx, hy, e, post⟩
  unfold notinV2 at e
  obtain ⟨z', e1, e⟩ := bind_eq e
  unfold inV2 at e1
  split at e1
  · split at e1
    · rename_i h0
      rw [Bool.and_eq_true] at h0
      cases e1
      cases e
      have dy := hy.dp (okD_lay h0.2)
      refine op_notInD hu pins s σ H _ _ v u Q I rx ry ⟨_, _, hx.dp (okD_lay h0.1), dy, h0.1, h0.2, ?_⟩
      rw [any_toD]
      exact post_id ft post (.bl _)
    · cases e1
  · split at e1
    · rename_i h0
      rw [Bool.and_eq_true] at h0
      cases e1
      cases e
      obtain ⟨as, r1⟩ := Dp.reads I _ _ _ (hx.dp (okD_lay h0.1)) rx
      obtain ⟨bs, r2⟩ := Dp.reads I _ _ _ (hy.dp (okD_lay h0.2)) ry
      refine SeqAt.notIn_tuple_reads r2 r1 (SeqAt.canLay_of_shaped h0.2) (SeqAt.canLay_of_shaped h0.1) (room_in_shaped h0.1 hu) ⟨.bl _, H, I, rfl, ?_⟩
      rw [any_toD]
      exact post_id ft post (.bl _)
    · cases e1
  · cases e1
theorem ix_idxV : IxR X (rG X.prog X.w X.K idxV) := by
  intro value slice pins s σ H vx vy v u Q I rx ry ⟨F, x, y, Lx, Ly, z, ft, hx, hy, e, post⟩ hs
  unfold idxV at e
  split at e
  · obtain ⟨e1, p⟩ := pureO_some e
    obtain ⟨a, vs, L0, rfl, ha, hvs⟩ := hx.lst_inv
    cases hy
    obtain ⟨vi, h1, h2⟩ := hvs.atI e1 p
    exact ix_list value slice pins s σ H _ _ v u Q I rx ry ⟨a, vs, _, vi, rfl, rfl, SqL.of ha, h1, post_id ft post h2⟩ hs
  · obtain ⟨e1, p⟩ := pureO_some e
    obtain ⟨a, vs, rfl, ha, hvs⟩ := hx.tup_inv
    cases hy
    obtain ⟨vi, h1, h2⟩ := hvs.atI e1 p
    exact ix_tup value slice pins s σ H _ _ v u Q I rx ry ⟨a, vs, _, vi, rfl, rfl, ha.sq, h1, post_id ft post h2⟩ hs
  · rename_i ns i
    cases e1 : atI ns i with
    | none => rw [e1] at e; cases e
    | some n =>
      rw [e1] at e
      cases e
      cases hx with
      | scr ha =>
        cases hy
        exact ix_list value slice pins s σ H _ _ v u Q I rx ry ⟨_, _, _, .int n, rfl, rfl, ha.sq, by rw [atI_map, e1]; rfl, post_id ft post (.int _)⟩ hs
  · cases e
end

/-! what is built in -/
def lenV : List Val → Option Val
  | [.lst _ xs] => some (.int xs.length)
  | [.tup xs] => some (.int xs.length)
  | [.scr ns] => some (.int ns.length)
  | [.str z] => if z.length ≤ sizeLine then some (.int z.length) else none
  | _ => none
def intV : List Val → Option Val
  | [.int i] => some (.int i)
  | [.bl b] => some (.int (if b then 1 else 0))
  | _ => none
def absV2 : List Val → Option Val
  | [.int i] => some (.int (if i < 0 then -i else i))
  | _ => none
def max2V : List Val → Option Val
  | [.int i, .int j] => some (.int (if j > i then j else i))
  | _ => none
def min2V : List Val → Option Val
  | [.int i, .int j] => some (.int (if j < i then j else i))
  | _ => none
def blsOf : List Val → Option (List Bool)
  | [] => some []
  | .bl b :: r => (blsOf r).map (b :: ·)
  | _ => none
def allV : List Val → Option Val
  | [.lst _ xs] => (blsOf xs).map fun bs => .bl (bs.all id)
  | _ => none
def anyV : List Val → Option Val
  | [.lst _ xs] => (blsOf xs).map fun bs => .bl (bs.any id)
  | _ => none
def listV : List Val → Option Val
  | [.lst _ xs] => if pureL xs = true then some (.lst true xs) else none
  | [.tup xs] => if pureL xs = true then some (.lst true xs) else none
  | _ => none
def tupleV : List Val → Option Val
  | [.lst _ xs] => if pureL xs = true then some (.tup xs) else none
  | [.tup xs] => if pureL xs = true then some (.tup xs) else none
  | _ => none
section
variable {P : Program} {w : World} {K : PySem.W.Frag} {F : Addr → Prop} {H : Hp}
theorem VRs.inv1 {vs : List V} {x : Val} {L : List Addr} (h : VRs P w K F H vs [x] L) : ∃ v, vs = [v] ∧ VR P w K F H v x L := by
  cases h with
  | cons h t =>
    cases t
    exact ⟨_, rfl, by rw [List.append_nil]; exact h⟩
theorem VRs.inv2 {vs : List V} {x y : Val} {L : List Addr} (h : VRs P w K F H vs [x, y] L) : ∃ v u L1 L2, vs = [v, u] ∧ VR P w K F H v x L1 ∧ VR P w K F H u y L2 := by
  cases h with
  | cons h t =>
    cases t with
    | cons h2 t =>
      cases t
      exact ⟨_, _, _, _, rfl, h, h2⟩
theorem bls_rel : ∀ {vs : List V} {xs : List Val} {L : List Addr} {bs : List Bool}, VRs P w K F H vs xs L → blsOf xs = some bs → vs = bs.map V.bl
  | _, _, _, _, .nil, e => by cases e; rfl
  | _, _, _, bs, .cons (x := x) (xs := xs) h t, e => by
    cases x with
    | bl b =>
      cases h
      have e' : (blsOf xs).map (b :: ·) = some bs := e
      cases e2 : blsOf xs with
      | none => rw [e2] at e'; cases e'
      | some cs =>
        rw [e2] at e'
        cases e'
        rw [bls_rel t e2]
        rfl
    | _ => exact absurd e (by simp [blsOf])
end
section
variable {X : Cx}
theorem call_lenV : CallR X (.builtin "len") (rGN X.prog X.w X.K lenV) := by
  intro pins s σ H vs us Q I r ⟨F, xs, Lx, z, ft, hx, e, post⟩
  unfold lenV at e
  split at e
  · cases e
    obtain ⟨v, rfl, h⟩ := hx.inv1
    obtain ⟨a, ws, L0, rfl, ha, hws⟩ := h.lst_inv
    refine call_len_seq pins s σ H _ us Q I r ⟨a, ws, rfl, .inl (SqL.of ha), ?_⟩
    rw [hws.length]
    exact post_id ft post (.int _)
  · cases e
    obtain ⟨v, rfl, h⟩ := hx.inv1
    obtain ⟨a, ws, rfl, ha, hws⟩ := h.tup_inv
    refine call_len_seq pins s σ H _ us Q I r ⟨a, ws, rfl, .inr ha.sq, ?_⟩
    rw [hws.length]
    exact post_id ft post (.int _)
  · rename_i ns
    cases e
    obtain ⟨v, rfl, h⟩ := hx.inv1
    cases h with
    | scr ha =>
      refine call_len_seq pins s σ H _ us Q I r ⟨_, _, rfl, .inl ha.sq, ?_⟩
      rw [List.length_map]
      exact post_id ft post (.int _)
  · split at e
    · rename_i h0
      cases e
      obtain ⟨v, rfl, h⟩ := hx.inv1
      cases h
      exact call_len_str pins s σ H _ us Q I r ⟨_, rfl, h0, post_id ft post (.int _)⟩
    · cases e
  · cases e
theorem call_intV : CallR X (.type "int") (rGN X.prog X.w X.K intV) := by
  intro pins s σ H vs us Q I r ⟨F, xs, Lx, z, ft, hx, e, post⟩
  unfold intV at e
  split at e
  · cases e
    obtain ⟨v, rfl, h⟩ := hx.inv1
    cases h
    exact call_int1 pins s σ H _ us Q I r (.inl ⟨_, rfl, post_id ft post (.int _)⟩)
  · cases e
    obtain ⟨v, rfl, h⟩ := hx.inv1
    cases h
    exact call_int1 pins s σ H _ us Q I r (.inr ⟨_, rfl, post_id ft post (.int _)⟩)
  · cases e
theorem call_absV : CallR X (.builtin "abs") (rGN X.prog X.w X.K absV2) := by
  intro pins s σ H vs us Q I r ⟨F, xs, Lx, z, ft, hx, e, post⟩
  unfold absV2 at e
  split at e
  · cases e
    obtain ⟨v, rfl, h⟩ := hx.inv1
    cases h
    exact call_abs pins s σ H _ us Q I r ⟨_, rfl, post_id ft post (.int _)⟩
  · cases e
theorem call_max2V (hc : X.calm = true) : CallR X (.builtin "max") (rGN X.prog X.w X.K max2V) := by
  intro pins s σ H vs us Q I r ⟨F, xs, Lx, z, ft, hx, e, post⟩
  unfold max2V at e
  split at e
  · cases e
    obtain ⟨v, u, _, _, rfl, h, h2⟩ := hx.inv2
    cases h; cases h2
    exact call_max2 hc pins s σ H _ us Q I r ⟨_, _, rfl, post_id ft post (.int _)⟩
  · cases e
theorem call_min2V (hc : X.calm = true) : CallR X (.builtin "min") (rGN X.prog X.w X.K min2V) := by
  intro pins s σ H vs us Q I r ⟨F, xs, Lx, z, ft, hx, e, post⟩
  unfold min2V at e
  split at e
  · cases e
    obtain ⟨v, u, _, _, rfl, h, h2⟩ := hx.inv2
    cases h; cases h2
    exact call_min2 hc pins s σ H _ us Q I r ⟨_, _, rfl, post_id ft post (.int _)⟩
  · cases e
theorem call_allV (hc : X.calm = true) : CallR X (.builtin "all") (rGN X.prog X.w X.K allV) := by
  intro pins s σ H vs us Q I r ⟨F, xs, Lx, z, ft, hx, e, post⟩
  unfold allV at e
  split at e
  · rename_i m ys
    cases e2 : blsOf ys with
    | none => rw [e2] at e; cases e
    | some bs =>
      rw [e2] at e
      cases e
      obtain ⟨v, rfl, h⟩ := hx.inv1
      obtain ⟨a, ws, L0, rfl, ha, hws⟩ := h.lst_inv
      refine cr_all hc pins s σ H _ us Q I r ⟨a, bs, rfl, ?_, post_id ft post (.bl _)⟩
      rw [← bls_rel hws e2]
      exact SqL.of ha
  · cases e
theorem call_anyV (hc : X.calm = true) : CallR X (.builtin "any") (rGN X.prog X.w X.K anyV) := by
  intro pins s σ H vs us Q I r ⟨F, xs, Lx, z, ft, hx, e, post⟩
  unfold anyV at e
  split at e
  · rename_i m ys
    cases e2 : blsOf ys with
    | none => rw [e2] at e; cases e
    | some bs =>
      rw [e2] at e
      cases e
      obtain ⟨v, rfl, h⟩ := hx.inv1
      obtain ⟨a, ws, L0, rfl, ha, hws⟩ := h.lst_inv
      refine cr_any hc pins s σ H _ us Q I r ⟨a, bs, rfl, ?_, post_id ft post (.bl _)⟩
      rw [← bls_rel hws e2]
      exact SqL.of ha
  · cases e
theorem call_listV : CallR X (.type "list") (rGN X.prog X.w X.K listV) := by
  intro pins s σ H vs us Q I r ⟨F, xs, Lx, z, ft, hx, e, post⟩
  unfold listV at e
  split at e
  · split at e
    · rename_i h0
      cases e
      obtain ⟨v, rfl, h⟩ := hx.inv1
      obtain ⟨a, ws, L0, rfl, ha, hws⟩ := h.lst_inv
      exact call_list_of pins s σ H _ us Q I r ⟨a, ws, rfl, .inl (SqL.of ha), fun p np => post_lst ft post (hws.pureL h0) np⟩
    · cases e
  · split at e
    · rename_i h0
      cases e
      obtain ⟨v, rfl, h⟩ := hx.inv1
      obtain ⟨a, ws, rfl, ha, hws⟩ := h.tup_inv
      exact call_list_of pins s σ H _ us Q I r ⟨a, ws, rfl, .inr ha.sq, fun p np => post_lst ft post (hws.pureL h0) np⟩
    · cases e
  · cases e
theorem call_tupleV : CallR X (.type "tuple") (rGN X.prog X.w X.K tupleV) := by
  intro pins s σ H vs us Q I r ⟨F, xs, Lx, z, ft, hx, e, post⟩
  unfold tupleV at e
  split at e
  · split at e
    · rename_i h0
      cases e
      obtain ⟨v, rfl, h⟩ := hx.inv1
      obtain ⟨a, ws, L0, rfl, ha, hws⟩ := h.lst_inv
      exact call_tuple_of pins s σ H _ us Q I r ⟨a, ws, rfl, .inl ⟨SqL.of ha, fun p np => post_tup ft post (hws.pureL h0) np⟩⟩
    · cases e
  · split at e
    · rename_i h0
      cases e
      obtain ⟨v, rfl, h⟩ := hx.inv1
      obtain ⟨a, ws, rfl, ha, hws⟩ := h.tup_inv
      exact call_tuple_of pins s σ H _ us Q I r ⟨a, ws, rfl, .inr ⟨ha.sq, post_id ft post (.tup ha (hws.pureL h0))⟩⟩
    · cases e
  · cases e
end

/-! isinstance -/
inductive Ty where
  | tInt | tBool | tStr | tTuple | tList
def Ty.name : Ty → String
  | .tInt => "int"
  | .tBool => "bool"
  | .tStr => "str"
  | .tTuple => "tuple"
  | .tList => "list"
def Val.isT : Val → Ty → Option Bool
  | .dct _ _ _ _, _ => none
  | .scr _, _ => none
  | .int _, .tInt => some true
  | .bl _, .tInt => some true
  | .bl _, .tBool => some true
  | .str _, .tStr => some true
  | .tup _, .tTuple => some true
  | .lst _ _, .tList => some true
  | _, _ => some false
def isiV (T : Ty) (x : Val) : Option Val := (x.isT T).map .bl
def anyTy : List Ty → Val → Option Bool
  | [], _ => some false
  | T :: r, x => match x.isT T with
    | some true => some true
    | some false => anyTy r x
    | none => none
def isiVs (Ts : List Ty) (x : Val) : Option Val := (anyTy Ts x).map .bl
theorem kitT {K : PySem.W.Frag} {P : Program} {w : World} {F : Addr → Prop} {H : Hp} {v : V} {x : Val} {L : List Addr} {T : Ty} {b : Bool} (h : VR P w K F H v x L) (e : x.isT T = some b) : ∃ t, TyX K H v (.type t) ∧ PySem.W.kitOne K (.type t) (.type T.name) = some b := by
  cases h with
  | non => exact ⟨_, .base .non, by cases T <;> cases e <;> exact kit_ty (by decide +kernel)⟩
  | bl c => exact ⟨_, .base (.bl c), by cases T <;> cases e <;> exact kit_ty (by decide +kernel)⟩
  | int i => exact ⟨_, .base (.int i), by cases T <;> cases e <;> exact kit_ty (by decide +kernel)⟩
  | str z => exact ⟨_, .base (.str z), by cases T <;> cases e <;> exact kit_ty (by decide +kernel)⟩
  | tup ha hvs =>
    refine ⟨"tuple", ?_, by cases T <;> cases e <;> exact kit_ty (by decide +kernel)⟩
    rcases ha with ⟨_, ha⟩ | ⟨o, its, n, ha, hc, _⟩
    · exact .base (.tup ha)
    · exact .kTuple ha hc
  | lst ha hvs =>
    refine ⟨"list", ?_, by cases T <;> cases e <;> exact kit_ty (by decide +kernel)⟩
    have hh := VR.lst_inv (VR.lst ha hvs : VR P w K F H _ _ _)
    obtain ⟨a, vs, L0, ea, h1, _⟩ := hh
    cases ea
    exact .base (.lst h1)
  | dK _ _ _ => exact absurd e (by simp [Val.isT])
  | dT _ _ _ _ _ => exact absurd e (by simp [Val.isT])
  | scr _ => exact absurd e (by simp [Val.isT])
theorem VR.tyX {K : PySem.W.Frag} {P : Program} {w : World} {F : Addr → Prop} {H : Hp} {v : V} {x : Val} {L : List Addr} (h : VR P w K F H v x L) (e : (x.isT .tInt).isSome = true) : ∃ t, TyX K H v (.type t) ∧ ∀ T b, x.isT T = some b → PySem.W.kitOne K (.type t) (.type T.name) = some b := by
  cases h with
  | non => exact ⟨_, .base .non, fun T b e => by cases T <;> cases e <;> exact kit_ty (by decide +kernel)⟩
  | bl c => exact ⟨_, .base (.bl c), fun T b e => by cases T <;> cases e <;> exact kit_ty (by decide +kernel)⟩
  | int i => exact ⟨_, .base (.int i), fun T b e => by cases T <;> cases e <;> exact kit_ty (by decide +kernel)⟩
  | str z => exact ⟨_, .base (.str z), fun T b e => by cases T <;> cases e <;> exact kit_ty (by decide +kernel)⟩
  | tup ha hvs =>
    refine ⟨"tuple", ?_, fun T b e => by cases T <;> cases e <;> exact kit_ty (by decide +kernel)⟩
    rcases ha with ⟨_, ha⟩ | ⟨o, its, n, ha, hc, _⟩
    · exact .base (.tup ha)
    · exact .kTuple ha hc
  | lst ha hvs =>
    refine ⟨"list", ?_, fun T b e => by cases T <;> cases e <;> exact kit_ty (by decide +kernel)⟩
    have hh := VR.lst_inv (VR.lst ha hvs : VR P w K F H _ _ _)
    obtain ⟨a, vs, L0, ea, h1, _⟩ := hh
    cases ea
    exact .base (.lst h1)
  | dK _ _ _ => exact absurd e (by simp [Val.isT])
  | dT _ _ _ _ _ => exact absurd e (by simp [Val.isT])
  | scr _ => exact absurd e (by simp [Val.isT])
section
variable {X : Cx} {q : Bool} {e : Expr} {D : Ev} {p p2 pos : Pos}
theorem se_isi {T : Ty} {tn : Str} (hm : X.mg "isinstance" = none) (hmt : X.mg tn = none) (hv : bootBuiltins tn = some (.type T.name)) (he : SO q X e D) (hg : Gl X "isinstance" := by rfl) (hgt : Gl X tn := by rfl) (hnt : tn ≠ "__name__" := by decide) (hdt : (tn == ("__debug__" : Str)) = false := by decide)
    (h1 : starEach (e :: [.Name tn p2]) X.env = (false, eval e X.env) :: starEach [.Name tn p2] X.env := by rfl) (h2 : starEach (.Name tn p2 :: []) X.env = (false, eval (.Name tn p2) X.env) :: starEach [] X.env := by rfl) (hpl : (backTo pos (starEach [.Name tn p2] X.env)).any (·.1) = false := by rfl) :
    SE q X (.Call (.Name "isinstance" p) [e, .Name tn p2] [] pos) (c1 (isiV T) D) :=
  peI (pe_callB call_isi hg hm (by decide +kernel) (pa_cons he (pa_cons (pe_bltn (v := .ty T.name) hgt hmt hv rfl hnt hdt) pa_nil h2) h1) (by decide) (by decide) h1 hpl) fun σ H Q ⟨F, τ, L, z, τ', s, gd, ev, post⟩ => by
    obtain ⟨⟨x, τ1⟩, e1, ev⟩ := bind_eq ev
    obtain ⟨z', e2, ev⟩ := bind_eq ev
    cases ev
    refine ⟨F, τ, L, x, _, s, gd, e1, fun v F1 H1 L1 Lr h1 s1 st1 => ?_⟩
    cases e3 : x.isT T with
    | none => exact absurd e2 (by simp [isiV, e3])
    | some b =>
      have e4 : z = .bl b := by
        have : (some b).map Val.bl = some z := by rw [← e3]; exact e2
        exact (Option.some.inj this).symm
      subst e4
      obtain ⟨t, ty, k⟩ := kitT h1 e3
      exact ⟨v, .ty T.name, .type t, .type T.name, b, rfl, .ty _, ty, k, post _ F1 H1 L1 [] (.bl b) s1 (by rw [List.append_nil]; exact st1)⟩
theorem anyTy_kit {K : PySem.W.Frag} {t : String} {x : Val} (h : ∀ T b, x.isT T = some b → PySem.W.kitOne K (.type t) (.type T.name) = some b) : ∀ {Ts : List Ty} {b : Bool}, anyTy Ts x = some b → PySem.W.kitAny K (.type t) (Ts.map fun T => .type T.name) = some b
  | [], b, e => by cases e; rfl
  | T :: r, b, e => by
    unfold anyTy at e
    show (match PySem.W.kitOne K (.type t) (.type T.name) with
      | some true => some true
      | some false => PySem.W.kitAny K (.type t) (r.map fun T => .type T.name)
      | none => none) = some b
    cases e1 : x.isT T with
    | none => rw [e1] at e; cases e
    | some c =>
      rw [e1] at e
      rw [h T c e1]
      cases c with
      | true => exact e
      | false => exact anyTy_kit h e
/-- isinstance(e, (T1, T2)) -/
theorem se_isi2 {T1 T2 : Ty} {t1 t2 : Str} {q1 q2 q3 : Pos} {k : Nat} (hm : X.mg "isinstance" = none) (hmt : X.mg t1 = none) (hmt2 : X.mg t2 = none) (hv : bootBuiltins t1 = some (.type T1.name)) (hv2 : bootBuiltins t2 = some (.type T2.name)) (he : SO q X e D) (hg : Gl X "isinstance" := by rfl) (hgt : Gl X t1 := by rfl) (hgt2 : Gl X t2 := by rfl)
    (hnt : t1 ≠ "__name__" := by decide) (hdt : (t1 == ("__debug__" : Str)) = false := by decide) (hnt2 : t2 ≠ "__name__" := by decide) (hdt2 : (t2 == ("__debug__" : Str)) = false := by decide)
    (h0 : starEach (.Name t1 q1 :: [.Name t2 q2]) X.env = (false, eval (.Name t1 q1) X.env) :: starEach [.Name t2 q2] X.env := by rfl) (h00 : starEach (.Name t2 q2 :: []) X.env = (false, eval (.Name t2 q2) X.env) :: starEach [] X.env := by rfl)
    (h1 : starEach (e :: [.Tuple [.Name t1 q1, .Name t2 q2] k q3]) X.env = (false, eval e X.env) :: starEach [.Tuple [.Name t1 q1, .Name t2 q2] k q3] X.env := by rfl)
    (h2 : starEach (.Tuple [.Name t1 q1, .Name t2 q2] k q3 :: []) X.env = (false, eval (.Tuple [.Name t1 q1, .Name t2 q2] k q3) X.env) :: starEach [] X.env := by rfl) (hpl : (backTo pos (starEach [.Tuple [.Name t1 q1, .Name t2 q2] k q3] X.env)).any (·.1) = false := by rfl) :
    SE q X (.Call (.Name "isinstance" p) [e, .Tuple [.Name t1 q1, .Name t2 q2] k q3] [] pos) (c1 (isiVs [T1, T2]) D) :=
  peI (pe_callB call_isiT hg hm (by decide +kernel) (pa_cons he (pa_cons (pe_tup (pa_cons (pe_bltn (v := .ty T1.name) hgt hmt hv rfl hnt hdt) (pa_cons (pe_bltn (v := .ty T2.name) hgt2 hmt2 hv2 rfl hnt2 hdt2) pa_nil h00) h0)) pa_nil h2) h1) (by decide) (by decide) h1 hpl) fun σ H Q ⟨F, τ, L, z, τ', s, gd, ev, post⟩ => by
    obtain ⟨⟨x, τ1⟩, e1, ev⟩ := bind_eq ev
    obtain ⟨z', e2, ev⟩ := bind_eq ev
    cases ev
    refine ⟨F, τ, L, x, _, s, gd, e1, fun v F1 H1 L1 Lr h1 s1 st1 => ⟨by show 2 ≤ sizeLine; decide, fun tp np => ?_⟩⟩
    cases e3 : anyTy [T1, T2] x with
    | none => exact absurd e2 (by simp [isiVs, e3])
    | some b =>
      have e4 : z = .bl b := by
        have : (some b).map Val.bl = some z := by rw [← e3]; exact e2
        exact (Option.some.inj this).symm
      subst e4
      have hs : (x.isT .tInt).isSome = true := by
        cases x <;> first | rfl | (exact absurd e3 (by simp [anyTy, Val.isT]))
      have st2 := Step.newF (o := .tup [V.ty T1.name, V.ty T2.name]) st1.good np
      have h2 := h1.stepQ st2 st1.good.ft
      obtain ⟨t, ty, kk⟩ := h2.tyX hs
      exact ⟨v, tp, [.ty T1.name, .ty T2.name], .type t, [.type T1.name, .type T2.name], b, rfl, upd_same, .cons (.ty _) (.cons (.ty _) .nil), ty, anyTy_kit kk e3, post _ _ _ L1 [] (.bl b) (s1.stepQ st2 st1.good.ft) (by rw [List.append_nil]; exact (st1.trans st2).andT)⟩
end
end MV
end

section
set_option maxHeartbeats 4000000
/-! slices; enumerate and zip walked; items stored -/
namespace MV
open PySem PySem.Spec PyProof.Rows L2

/-! slices -/
def cutL (xs : List Val) (lo hi : Option Int) : List Val := (xs.drop (HT.sIx xs.length 0 lo)).take (HT.sIx xs.length xs.length hi - HT.sIx xs.length 0 lo)
def sliceV (x : Val) (lo hi : Option Int) : Option Val := match x with
  | .lst _ xs => if pureL xs = true then some (.lst true (cutL xs lo hi)) else none
  | .tup xs => if pureL xs = true then some (.tup (cutL xs lo hi)) else none
  | _ => none
abbrev Pv := Sl → Option (Option Int × Sl)
def partN : Pv := fun τ => some (none, τ)
def Val.int? : Val → Option Int
  | .int i => some i
  | _ => none
theorem int?_some {x : Val} {i : Int} (h : x.int? = some i) : x = .int i := by
  cases x <;> first | (cases h; rfl) | exact nomatch h
def partS (D : Ev) : Pv := fun τ => (D τ).bind fun p => (p.1.int?).bind fun i => some (some i, p.2)
def cSl (D : Ev) (A B : Pv) : Ev := fun τ => (D τ).bind fun p => (A p.2).bind fun a => (B a.2).bind fun b => (sliceV p.1 a.1 b.1).bind fun z => some (z, b.2)
def revV : Val → Option Val
  | .lst _ xs => if pureL xs = true then some (.lst true xs.reverse) else none
  | .tup xs => if pureL xs = true then some (.tup xs.reverse) else none
  | _ => none
section
variable (P : Program) (w : World) (K : PySem.W.Frag) (q : Bool)
def tP (D : Pv) : L2.TO := fun σ H Q => ∃ F τ L o τ', SR P w K F H σ τ L ∧ Good F H L ∧ D τ = some (o, τ') ∧
  ∀ F' H' L', SR P w K F' H' σ τ' L' → Step q F H L F' H' L' → Q o H'
end
abbrev SP (q : Bool) (X : Cx) (e : Option Expr) (D : Pv) : Prop := PO X e (tP X.prog X.w X.K q D)
theorem poI {X : Cx} {e : Option Expr} {t t' : L2.TO} (h : PO X e t) (i : ∀ σ H Q, t' σ H Q → t σ H Q) : PO X e t' := ⟨fun pins s σ H Q I hw => h.run pins s σ H Q I (i σ H Q hw)⟩
section
variable {X : Cx} {q : Bool} {e : Expr} {D : Ev} {A B : Pv} {lo hi : Option Expr} {p2 pos : Pos}
theorem sp_none : SP true X none partN := poI po_none fun σ H Q ⟨F, τ, L, o, τ', s, g, ev, post⟩ => by
  cases ev
  exact post F H L s (Step.refl g)
theorem sp_some (h : SO q X e D) : SP q X (some e) (partS D) := poI (po_some h) fun σ H Q ⟨F, τ, L, o, τ', s, g, ev, post⟩ => by
  obtain ⟨⟨x, τ1⟩, e1, ev⟩ := bind_eq ev
  obtain ⟨i, e2, ev⟩ := bind_eq ev
  obtain rfl := int?_some e2
  cases ev
  exact ⟨F, τ, L, _, _, s, g, e1, fun v F1 H1 L1 Lr h1 s1 st1 => ⟨i, by cases h1; rfl, post F1 H1 L1 s1 st1⟩⟩
theorem sl_sliceV : SlR X (fun vx lo hi H Q => ∃ F x Lx z, (∀ a, F a → H a ≠ none) ∧ VR X.prog X.w X.K F H vx x Lx ∧ sliceV x lo hi = some z ∧ ∀ v F' H' Lr, VR X.prog X.w X.K F' H' v z Lr → Step true F H [] F' H' Lr → Q v H') := by
  intro pins s σ H vx v vl vu lo hi sl Q I rx hs pl pu ⟨F, x, Lx, z, ft, hx, e, post⟩
  unfold sliceV at e
  split at e
  · split at e
    · rename_i hp
      cases e
      obtain ⟨a, vs, L0, rfl, ha, hvs⟩ := hx.lst_inv
      have h1 := hvs.pureL hp
      refine sl_list pins s σ H _ v vl vu lo hi sl Q I rx hs pl pu ⟨a, vs, rfl, SqL.of ha, fun p np => ?_⟩
      have h2 := (h1.drop (HT.sIx vs.length 0 lo)).take (HT.sIx vs.length vs.length hi - HT.sIx vs.length 0 lo)
      rw [h1.length] at h2
      unfold cutL at post
      unfold cutV
      rw [h1.length]
      exact post_lst ft post h2 np
    · cases e
  · split at e
    · rename_i hp
      cases e
      obtain ⟨a, vs, rfl, ha, hvs⟩ := hx.tup_inv
      have h1 := hvs.pureL hp
      have h2 := (h1.drop (HT.sIx vs.length 0 lo)).take (HT.sIx vs.length vs.length hi - HT.sIx vs.length 0 lo)
      rw [h1.length] at h2
      refine sl_tupA pins s σ H _ v vl vu lo hi sl Q I rx hs pl pu ⟨a, vs, rfl, ha.sq, fun hw => ?_, fun _ p np => ?_⟩
      · rw [h1.length] at hw
        unfold cutL at post
        rw [hw.1, hw.2] at post
        rw [List.drop_zero, Nat.sub_zero, List.take_length] at post
        exact post_id ft post (.tup ha h1)
      · unfold cutL at post
        unfold cutV
        rw [h1.length]
        exact post_tup ft post h2 np
    · cases e
  · cases e
theorem se_slice (he : SO q X e D) (hl : SP true X lo A) (hu : SP true X hi B) : SE q X (.Subscript e (.Slice lo hi none p2) pos) (cSl D A B) :=
  peI (pe_slice sl_sliceV he hl hu) fun σ H Q ⟨F, τ, L, z, τ', s, g, ev, post⟩ => by
    obtain ⟨⟨x, τ1⟩, e1, ev⟩ := bind_eq ev
    obtain ⟨⟨oa, τ2⟩, e2, ev⟩ := bind_eq ev
    obtain ⟨⟨ob, τ3⟩, e3, ev⟩ := bind_eq ev
    obtain ⟨z', e4, ev⟩ := bind_eq ev
    cases ev
    refine ⟨F, τ, L, x, τ1, s, g, e1, fun v F1 H1 L1 Lr h1 s1 st1 => ?_⟩
    refine ⟨F1, τ1, L1, oa, τ2, s1, st1.good, e2, fun F2 H2 L2 s2 st2 => ?_⟩
    refine ⟨F2, τ2, L2, ob, _, s2, st2.good, e3, fun F3 H3 L3 s3 st3 => ?_⟩
    refine ⟨F3, x, Lr, z, st3.good.ft, (h1.stepQ st2 st1.good.ft).stepQ st3 st2.good.ft, e4, fun u F4 H4 M h4 st4 => ?_⟩
    exact post u F4 H4 L3 M h4 (s3.stepQ st4 st3.good.ft) (((st1.trans st2).andT.trans st3).andT.op st4)
/-- a text or a tuple read from the end -/
theorem getItem_tuple_back {P : Program} {w : World} {A : Around} {E : Value → Shared → Prop} {s : Shared} {t sl : Addr} {items : Array Value} {tk : Tok} {Q : Value → Shared → Prop} (ht : IsTup s.heap t items) (hs : s.heap.IsSliceOf sl .none .none (.int (-1) tk))
    (h : Q (.ref s.heap.objs.size) { s with heap := s.heap.push { cls := .type "tuple", data := .seq items.toList.reverse.toArray } }) (hz : items.size ≤ sizeLine) : wpAny (model P w) A (getItem (.ref t) (.ref sl)) Q E s := by
  obtain ⟨os, hos, hcs, hds⟩ := id hs
  have hT : s.TypeIs (.ref sl) "slice" := ⟨os, hos, hcs⟩
  have back : ((List.range items.size).filterMap fun (k : Nat) => items[(((items.size : Nat) : Int) - 1 + (k : Int) * (-1)).toNat]?).toArray = items.toList.reverse.toArray := by
    have e1 : (fun (k : Nat) => items[(((items.size : Nat) : Int) - 1 + (k : Int) * (-1)).toNat]?) = (fun j => items[j]?) ∘ fun (k : Nat) => (((items.size : Nat) : Int) - 1 + (k : Int) * (-1)).toNat := rfl
    rw [e1, ← List.filterMap_map]
    have e2 : (List.range items.size).map (fun (k : Nat) => (((items.size : Nat) : Int) - 1 + (k : Int) * (-1)).toNat) = (List.range items.size).reverse := by
      rw [← PySem.W.krv_range]
      refine List.map_congr_left fun k hk => ?_
      have := List.mem_range.mp hk
      omega
    rw [e2, List.filterMap_reverse, PySem.W.krv_all]
  have hzz : sizeOk (.seq items.toList.reverse.toArray) := by
    show items.toList.reverse.toArray.size ≤ sizeLine
    rw [List.size_toArray, List.length_reverse, Array.length_toList]
    exact hz
  have places : Builtin.Slice.slicePlaces (((items.size : Nat) : Int) - 1) (-1) (-1) = items.size := by
    unfold Builtin.Slice.slicePlaces
    rw [if_neg (by decide)]
    by_cases h0 : (((items.size : Nat) : Int) - 1 > -1)
    · rw [if_pos h0]
      have e3 : (((items.size : Nat) : Int) - 1 - -1 - 1) / -(-1) + 1 = ((items.size : Nat) : Int) := by
        rw [show (-(-1) : Int) = 1 from rfl, Int.ediv_one]
        omega
      rw [e3]
      rfl
    · rw [if_neg h0]
      have : items.size = 0 := by omega
      rw [this]
      rfl
  unfold getItem
  try with_reducible refine wpAny_holding ?_
  first | refine wpAny_bind (wpAny_pure ?_) | skip
  refine wpAny_bind (wpAny_sequenceKey ht.typeIs (by decide) ?_)
  refine wpAny_bind (wpAny_callSpecial?_slot (name := Str.ofString "__getitem__") ht.typeIs PyProof.Rows.slot_tuple_getitem
    (wpAny_call_entry PyProof.Rows.slot_tuple_getitem ht.typeIs entry_tuple_getitem ?_ (args_tuple_getitem _ _)))
  show wpAny _ _ (Builtin.Tuple.tupleItemsOf (.ref t) >>= _) _ _ s
  refine wpAny_bind (tupleItemsOf_ ht ?_)
  refine wpAny_bind (wpAny_typeOf hT ?_)
  rw [if_pos (by decide)]
  have applied : ∀ {Q' : Int × Int × Nat → Shared → Prop}, Q' (((items.size : Nat) : Int) - 1, -1, items.size) s → wpAny (model P w) A.in1 (Builtin.Slice.sliceApplied (.ref sl) (Pure.pure ((items.size : Nat) : Int))) Q' (fun e s' => E e s') s := by
    intro Q' hq
    unfold Builtin.Slice.sliceApplied Builtin.Slice.sliceFields
    refine wpAny_bind (wpAny_bind (wpAny_field hos hds (x := .none) rfl (wpAny_bind (wpAny_field hos hds (x := .none) rfl (wpAny_bind (wpAny_field hos hds (x := .int (-1) tk) rfl (wpAny_pure ?_)))))))
    refine wpAny_bind (slicePart_int ?_)
    show wpAny _ _ (if ((-1 : Int) == 0) = true then _ else _) _ _ s
    rw [if_neg (by decide)]
    refine wpAny_bind (slicePart_none (wpAny_bind (slicePart_none (wpAny_bind (wpAny_pure ?_)))))
    show wpAny _ _ (Pure.pure (((items.size : Nat) : Int) - 1, (-1 : Int), Builtin.Slice.slicePlaces (((items.size : Nat) : Int) - 1) (-1) (-1))) _ _ s
    rw [places]
    exact wpAny_pure hq
  refine wpAny_bind (applied ?_)
  have hno : ¬ ((((items.size : Nat) : Int) - 1 == 0 && (-1 : Int) == 1 && items.size == items.size) = true) := by
    rw [show ((-1 : Int) == 1) = false from rfl, Bool.and_false, Bool.false_and]
    exact Bool.false_ne_true
  show wpAny _ _ (if ((((items.size : Nat) : Int) - 1 == 0 && (-1 : Int) == 1 && items.size == items.size) = true) then _ else _) _ _ s
  rw [if_neg hno, back]
  first
    | exact wpAny_bind (m := Builtin.Tuple.tupleExact _) (wpAny_newObj_type (wpAny_pure ⟨_, rfl, wpAny_pure h⟩) hzz)
    | exact wpAny_bind (m := Builtin.Tuple.tupleExact _) (wpAny_newObj_type (wpAny_bind (wpAny_pure (wpAny_pure ⟨_, rfl, wpAny_pure h⟩))) hzz)
    | exact wpAny_bind (wpAny_bind (m := Builtin.Tuple.tupleExact _) (wpAny_newObj_type (wpAny_pure (wpAny_pure ⟨_, rfl, wpAny_pure h⟩)) hzz))
theorem se_rev {k : Nat} {p1 p3 p4 : Pos} (he : SO q X e D) : SE q X (.Subscript e (.Slice none none (some (.UnaryOp .USub (.Constant (.int 1) k p1) p3)) p4) pos) (c1 revV D) := by
  refine ⟨fun pins s σ H Q I ⟨F, τ, L, z, τ', s0, g, ev, post⟩ => ?_⟩
  obtain ⟨⟨x, τ1⟩, e1, ev⟩ := bind_eq ev
  obtain ⟨z', e2, ev⟩ := bind_eq ev
  cases ev
  refine Subscript_ (thn (he.run pins s σ H _ I ⟨F, τ, L, x, _, s0, g, e1, fun v F1 H1 L1 Lr h1 s1 st1 => (⟨F1, L1, Lr, h1, s1, st1⟩ : ∃ F1 L1 Lr, VR X.prog X.w X.K F1 H1 v x Lr ∧ SR X.prog X.w X.K F1 H1 σ τ1 L1 ∧ Step q F H L F1 H1 L1)⟩) fun v s1 ⟨vx, H1, I1, r1, F1, L1, Lr, h1, sr1, st1⟩ => ?_)
  have hst : PO X (some (.UnaryOp .USub (.Constant (.int 1) k p1) p3)) (tPart (tUn (rU fun i => .int (-i)) (tC (.int 1)))) := po_some (pe_un un_neg pe_int)
  refine wpAny_Slice (thn (po_none.run pins s1 σ H1 (fun o H2 => o = none ∧ H2 = H1) I1 ⟨rfl, rfl⟩) fun vl s2 ⟨l, H2, I2, pl, el, e2'⟩ => ?_)
  subst el e2'
  refine thn (po_none.run pins s2 σ H2 (fun o H3 => o = none ∧ H3 = H2) I2 ⟨rfl, rfl⟩) fun vu s3 ⟨u, H3, I3, pu, eu, e3⟩ => ?_
  subst eu e3
  refine thn (hst.run pins s3 σ H3 (fun o H4 => o = some (-1) ∧ H4 = H3) I3 ⟨1, rfl, -1, rfl, rfl, rfl⟩) fun vs s4 ⟨o, H4, I4, ps, eo, e4⟩ => ?_
  subst eo e4
  cases pl
  cases pu
  cases ps with
  | int _ tk =>
  have I5 : Inv X pins σ H4 { s4 with heap := s4.heap.push { cls := .type "slice", data := .fields #[.none, .none, .int (-1) tk] } } := I4.kept (t' := s4.toks) fun b ob qq => Heap.get?_push_of_some _ qq
  have e2 : revV x = some z := e2
  unfold revV at e2
  split at e2
  · split at e2
    · rename_i hp
      cases e2
      obtain ⟨a, ws, L0, rfl, ha, hws⟩ := h1.lst_inv
      cases r1
      have hw := hws.pureL hp
      obtain ⟨its, r, ht, hz⟩ := I5.list (SqL.of ha)
      have hlen := r.length
      show wpAny (model X.prog X.w) X.A (subscriptTail e (.Slice none none (some (.UnaryOp .USub (.Constant (.int 1) k p1) p3)) p4) (.ref a) (.ref s4.heap.objs.size)) (EP X pins σ Q) X.xe { s4 with heap := s4.heap.push { cls := .type "slice", data := .fields #[.none, .none, .int (-1) tk] } }
      refine tail_any (ops := [.ref a, .ref s4.heap.objs.size]) ht.isList.typeIs (PySem.slot_list_getitem.lookup) ?_ (by with_unfolding_all rfl)
      refine wpAny_getItem_list_slice ht.isList (Heap.IsSliceOf.new _ .none .none (.int (-1) tk)) .none .none (.int _ _) (by decide) ?_ (by rw [List.size_toArray]; omega)
      rw [PySem.W.krv_pick]
      have np := I5.hok.fresh (Nat.le_refl _)
      refine ⟨.ref _, _, I5.laid (t' := s4.toks) (o := .lst ws.reverse) (fun b ob qq => Heap.get?_push_of_some _ qq) (Nat.le_refl _) ?_, rfl, ?_⟩
      · exact ⟨by rw [List.length_reverse]; exact hz, _, 0, r.reverse, Heap.get?_push_size _ rfl⟩
      · refine post_lst (P := X.prog) (w := X.w) (K := X.K) (F := F1) st1.good.ft (fun v F2 H2 M h2 st2 => ?_) hw.reverse np
        exact post v F2 H2 L1 M h2 (sr1.stepQ st2 st1.good.ft) (st1.op st2)
    · cases e2
  · split at e2
    · rename_i hp
      cases e2
      obtain ⟨a, ws, rfl, ha, hws⟩ := h1.tup_inv
      cases r1
      have hw := hws.pureL hp
      obtain ⟨its, r, ht, hz⟩ := I5.tuple ha.sq
      have hlen := r.length
      show wpAny (model X.prog X.w) X.A (subscriptTail e (.Slice none none (some (.UnaryOp .USub (.Constant (.int 1) k p1) p3)) p4) (.ref a) (.ref s4.heap.objs.size)) (EP X pins σ Q) X.xe { s4 with heap := s4.heap.push { cls := .type "slice", data := .fields #[.none, .none, .int (-1) tk] } }
      refine tail_any (ops := [.ref a, .ref s4.heap.objs.size]) ht.typeIs (PyProof.Rows.slot_tuple_getitem.lookup) ?_ (by with_unfolding_all rfl)
      have np := I5.hok.fresh (Nat.le_refl _)
      refine getItem_tuple_back ht (Heap.IsSliceOf.new _ .none .none (.int (-1) tk)) ?_ (by rw [List.size_toArray]; omega)
      refine ⟨.ref _, _, I5.laid (t' := s4.toks) (o := .tup ws.reverse) (fun b ob qq => Heap.get?_push_of_some _ qq) (Nat.le_refl _) ?_, rfl, ?_⟩
      · exact ⟨by rw [List.length_reverse]; exact hz, _, r.reverse, IsTup.new _ _⟩
      · refine post_tup (P := X.prog) (w := X.w) (K := X.K) (F := F1) st1.good.ft (fun v F2 H2 M h2 st2 => ?_) hw.reverse np
        exact post v F2 H2 L1 M h2 (sr1.stepQ st2 st1.good.ft) (st1.op st2)
    · cases e2
  · cases e2
end

/-! a, b, c = e1, e2, e3 -/
def parM3 (i j k : Nat) (Ds : Evs) : Sv := fun τ => (Ds τ).bind fun p => match p.1 with
  | [x, y, z] => some (.next, ((p.2.set i (some x)).set j (some y)).set k (some z))
  | _ => none

/-! xs[k] = e, xs a list that a slot owns -/
def setItemM (i : Nat) (Dk De : Ev) : Sv := fun τ => (De τ).bind fun p => (p.2[i]?).bind fun o => o.bind fun _ => (Dk p.2).bind fun r => (r.2[i]?).bind fun o => o.bind fun x => match x, r.1 with
  | .lst true xs, .int k => if (p.1.pure && pureL xs) = true then (ixN xs.length k).bind fun j => some (.next, r.2.set i (some (.lst true (xs.set j p.1)))) else none
  | _, _ => none
section
variable {P : Program} {w : World} {K : PySem.W.Frag} {F : Addr → Prop} {H : Hp}
theorem VRs.set {vs : List V} {xs : List Val} {v : V} {x : Val} (j : Nat) (h : VRs P w K F H vs xs []) (hv : VR P w K F H v x []) : VRs P w K F H (vs.set j v) (xs.set j x) [] := by
  refine .of_get (by rw [List.length_set, List.length_set, h.length]) fun i u y e1 e2 => ?_
  by_cases hij : j = i
  · subst hij
    have hl : j < vs.length := by
      rcases Nat.lt_or_ge j vs.length with c | c
      · exact c
      · rw [List.getElem?_eq_none (by simpa using c)] at e1; cases e1
    rw [List.getElem?_set_self hl] at e1
    rw [List.getElem?_set_self (by rw [← h.length]; exact hl)] at e2
    cases e1
    cases e2
    exact hv
  · rw [List.getElem?_set_ne hij] at e1 e2
    exact h.get' e1 e2
theorem VR.lstT_inv {v : V} {xs : List Val} {L : List Addr} (h : VR P w K F H v (.lst true xs) L) : ∃ a vs L0, v = .ref a ∧ H a = some (.lst vs) ∧ VRs P w K F H vs xs L0 ∧ L = a :: L0 := by
  cases h with
  | @lst a _ vs _ L0 _ hA hvs =>
    unfold At at hA
    simp only [if_true] at hA
    exact ⟨a, vs, L0, rfl, hA.1, hvs, hA.2⟩
/-- what is owned at a is written: all else stands -/
theorem Step.write {L : List Addr} {a : Addr} {o : HO} (g : Good F H L) (ha : a ∈ L) : Step false F H L F (upd H a o) L := by
  have nf : ∀ b, F b → b ≠ a := fun b hb e => g.nf a ha (e ▸ hb)
  refine ⟨⟨g.nd, g.nf, fun b hb => by rw [upd_ne (nf b hb)]; exact g.ft b hb, fun b hb => ?_⟩, fun _ z => z, fun b h1 h2 => upd_ne fun e => h2 (e ▸ ha), fun b h => ?_, fun _ z => .inl z, fun _ z => .inl z, fun z => nomatch z⟩
  · by_cases c : b = a
    · subst c; rw [upd_same]; exact fun z => nomatch z
    · rw [upd_ne c]; exact g.lt b hb
  · by_cases c : b = a
    · subst c; rw [upd_same]; exact fun z => nomatch z
    · rw [upd_ne c]; exact h
end
section
variable {X : Cx} {q : Bool} {n : Nat}
theorem ss_par3 {i j l : Nat} {x y z : Str} {a b c : Expr} {Ds : Evs} {px py pz pt pos : Pos} {kt k2 : Nat} {pt2 : Pos} (hc : X.calm = true) (hN : X.N.Nodup) (hij : i ≠ j) (hil : i ≠ l) (hjl : j ≠ l) (hni : n ≤ i) (hnj : n ≤ j) (hnl : n ≤ l) (ha : SEs q X [a, b, c] Ds)
    (hi : X.N[i]? = some x := by rfl) (hj : X.N[j]? = some y := by rfl) (hl : X.N[l]? = some z := by rfl)
    (hx : X.env.scope.names.lookup x = some .local := by rfl) (hy : X.env.scope.names.lookup y = some .local := by rfl) (hz : X.env.scope.names.lookup z = some .local := by rfl)
    (hw : swappedStores [.Tuple [.Name x px, .Name y py, .Name z pz] kt pt] (.Tuple [a, b, c] k2 pt2) X.env = Pure.pure (some [x, y, z]) := by rfl)
    (hs : swapsWithSole [.Tuple [.Name x px, .Name y py, .Name z pz] kt pt] (.Tuple [a, b, c] k2 pt2) pos.line X.env = Pure.pure false := by rfl) :
    SS n X (.Assign [.Tuple [.Name x px, .Name y py, .Name z pz] kt pt] (.Tuple [a, b, c] k2 pt2) pos) (parM3 i j l Ds) :=
  psI (ps_par3 hc hN hi hj hl hij hil hjl hx hy hz ha hw hs) fun D σ H ⟨F, τ, L, fl, τ', s, g, ev, post⟩ => by
    obtain ⟨⟨xs, τ1⟩, e1, ev⟩ := bind_eq ev
    match xs, ev, e1 with
    | [x1, x2, x3], ev, e1 =>
      cases ev
      refine ⟨F, τ, L, [x1, x2, x3], τ1, s, g, e1, fun vs F1 H1 L1 Lr h1 s1 st1 => ?_⟩
      cases h1 with
      | @cons v1 _ La vr _ Lb h1 t =>
        cases t with
        | @cons v2 _ Lb vr2 _ Lc h2 t2 =>
          cases t2 with
          | @cons v3 _ Lc vr3 _ Ld h3 t3 =>
            cases t3
            refine ⟨v1, v2, v3, rfl, ?_⟩
            obtain ⟨L2, s2, sb⟩ := s1.put (i := i) h1
            obtain ⟨L3, s3, sb3⟩ := s2.put (i := j) h2
            obtain ⟨L4, s4, sb4⟩ := s3.put (i := l) h3
            refine post _ F1 H1 L4 s4 (st1.sub ?_).weak (((Keep.set hni).trans (Keep.set hnj)).trans (Keep.set hnl))
            refine sb4.trans (((sb3.trans (sb.app (Sub.refl Lb))).app (Sub.refl Lc)).trans ?_)
            rw [List.append_nil, List.append_assoc, List.append_assoc]
            exact Sub.refl _
    | [], ev, _ => exact nomatch ev
    | [_], ev, _ => exact nomatch ev
    | [_, _], ev, _ => exact nomatch ev
    | _ :: _ :: _ :: _ :: _, ev, _ => exact nomatch ev
theorem ss_setItem {i : Nat} {y : Str} {k e : Expr} {Dk De : Ev} {yp tp pos : Pos} (he : SE q X e De) (hk : SO true X k Dk) (hN : X.N[i]? = some y := by rfl) (hv : Vis X.env.scope y := by first | exact Or.inl rfl | exact Or.inr (Or.inl rfl) | exact Or.inr (Or.inr rfl))
    (hd : (y == ("__debug__" : Str)) = false := by decide) (hcd : (y == ("__classdict__" : Str)) = false := by decide)
    (ha : ∀ v, assign (.Subscript (.Name y yp) k tp) X.env v = (do
      let ov ← holding [v] (eval (.Name y yp) X.env)
      let iv ← holding [v, ov] (eval k X.env)
      standAt tp
      holding [v, ov, iv] (setItem ov iv v)
      release [v, ov, iv] []) := by intro _; rfl)
    (hs : swapsWithSole [.Subscript (.Name y yp) k tp] e pos.line X.env = Pure.pure false := by rfl) (hw : swappedStores [.Subscript (.Name y yp) k tp] e X.env = Pure.pure none := by rfl)
    (h1 : (assignEach [.Subscript (.Name y yp) k tp] X.env).map (·.2) = [assign (.Subscript (.Name y yp) k tp) X.env] := by rfl) : SS n X (.Assign [.Subscript (.Name y yp) k tp] e pos) (setItemM i Dk De) :=
  psI (ps_asg he (pg_sub (pe_var hN hv hd hcd) hk set_list ha) hs hw h1) fun D σ H ⟨F, τ, L, fl, τ', s, g, ev, post⟩ => by
    obtain ⟨⟨x, τ1⟩, e1, ev⟩ := bind_eq ev
    obtain ⟨y0, e0, ev⟩ := slot_some ev
    obtain ⟨⟨kx, τ2⟩, e2, ev⟩ := bind_eq ev
    obtain ⟨yv, e3, ev⟩ := slot_some ev
    dsimp only at ev e3 e0
    split at ev
    · rename_i xs ki _
      split at ev
      · rename_i hp
        rw [Bool.and_eq_true] at hp
        obtain ⟨j, e4, ev⟩ := bind_eq ev
        cases ev
        refine ⟨F, τ, L, x, τ1, s, g, e1, fun v F1 H1 L1 Lr hv1 s1 st1 => ?_⟩
        have hLr := hv1.pure_nil hp.1
        subst hLr
        rw [List.append_nil] at st1
        obtain ⟨v0, _, _, a0, _⟩ := s1.at e0
        refine ⟨v0, a0, F1, τ1, L1, _, τ2, s1, st1.good, e2, fun vk F2 H2 L2 Lk hk2 s2 st2 => ?_⟩
        obtain ⟨v1, Li, Lq, a1, a2, p, _, _, fill⟩ := s2.at e3
        rw [a0] at a1
        have ev1 : v0 = v1 := Option.some.inj (Option.some.inj a1)
        subst ev1
        obtain ⟨a, vs, L0, rfl, hHa, hvs, rfl⟩ := a2.lstT_inv
        have hpv := hvs.pureL hp.2
        have hL0 := hvs.pure_nil hp.2
        subst hL0
        cases hk2
        have haL : a ∈ L2 := p.mem_iff.mpr (List.mem_append_right _ (List.mem_singleton.mpr rfl))
        refine ⟨a, vs, ki, j, rfl, rfl, hHa, by rw [hpv.length]; exact e4, ?_⟩
        have stw := Step.write (o := .lst (vs.set j v)) st2.good haL
        have ne : ∀ b, b ≠ a → upd H2 a (.lst (vs.set j v)) b = H2 b := fun b h => upd_ne h
        have nF : ∀ b, F2 b → b ≠ a := fun b hb e => st2.good.nf a haL (e ▸ hb)
        have hv2 := hv1.stepQ st2 st1.good.ft
        have hnew : VRs X.prog X.w X.K F2 (upd H2 a (.lst (vs.set j v))) (vs.set j v) (xs.set j x) [] :=
          (hpv.set j hv2).mono (fun _ z => z) (fun b hb => ne b (nF b hb)) (fun b hb => nomatch hb)
        have hA : At F2 (upd H2 a (.lst (vs.set j v))) true a (.lst (vs.set j v)) [] [a] := by
          show (if true = true then _ else _)
          rw [if_pos rfl]
          exact ⟨upd_same, rfl⟩
        have hi : i < τ2.length := by
          rcases Nat.lt_or_ge i τ2.length with c | c
          · exact c
          · rw [List.getElem?_eq_none c] at e3; cases e3
        obtain ⟨_, _, _, _, _, p', _, sn, _⟩ := s2.at e3
        have nd := (List.nodup_append.mp ((st2.good.sub (Sub.of_perm p.symm)).nd)).2.2
        rename_i _ _ Lq'
        have sn2 : ∃ Lz, SR X.prog X.w X.K F2 H2 σ (τ2.set i none) Lz ∧ Sub Lz L2 ∧ a ∉ Lz := by
          obtain ⟨w1, Lw, Lx, b1, b2, b3, _, b5, _⟩ := s2.at e3
          rw [a0] at b1
          have ew : V.ref a = w1 := Option.some.inj (Option.some.inj b1)
          subst ew
          obtain ⟨a', vs', L0', ea, _, _, rfl⟩ := b2.lstT_inv
          cases ea
          refine ⟨Lx, b5, (Sub.left _ _).trans (Sub.of_perm b3.symm), fun z => ?_⟩
          exact (List.nodup_append.mp ((st2.good.sub (Sub.of_perm b3.symm)).nd)).2.2 a z a List.mem_cons_self rfl
        obtain ⟨Lz, sz, sub, na⟩ := sn2
        have sz2 : SR X.prog X.w X.K F2 (upd H2 a (.lst (vs.set j v))) σ (τ2.set i none) Lz := sz.mono (fun _ z => z) (fun b hb => ne b (nF b hb)) fun b hb => ne b fun e => na (e ▸ hb)
        have sf := sz2.fill a0 hi (.lst hA hnew)
        refine post σ F2 _ _ sf ?_ .refl
        have st12 := (st1.trans st2).andT
        refine (st12.weak.trans stw).sub ?_
        -- the owned addresses are as they were
        have nz : (Lz ++ [a]).Nodup := List.nodup_append.mpr ⟨sub.nodup st2.good.nd, by simp, fun b hb c hc e => by
          rw [List.mem_singleton.mp hc] at e
          exact na (e ▸ hb)⟩
        have key : ∀ (M N : List Addr), M.Nodup → (∀ b ∈ M, b ∈ N) → Sub M N := by
          intro M
          induction M with
          | nil => intro N _ _; exact Sub.nil N
          | cons b M ih =>
            intro N hn hs
            obtain ⟨hb, hn⟩ := List.nodup_cons.mp hn
            have hbN := hs b List.mem_cons_self
            have e := (List.perm_cons_erase hbN)
            obtain ⟨R, hR⟩ := ih (N.erase b) hn fun c hc => (List.mem_erase_of_ne (fun (e : c = b) => hb (by rw [← e]; exact hc))).mpr (hs c (List.mem_cons_of_mem _ hc))
            exact ⟨R, e.trans (hR.cons b)⟩
        exact key _ _ nz fun b hb => (List.mem_append.mp hb).elim (fun z => sub.mem z) fun z => by rw [List.mem_singleton.mp z]; exact haL
      · cases ev
    · cases ev
end
end MV
end

section
set_option maxHeartbeats 4000000
/-! enumerate and zip walked -/
namespace MV
open PySem PySem.Spec PyProof.Rows L2 RZ

/-! enumerate of a tuple -/
/-- the tuple at a, each item in a new pair with its number -/
def IteT (K : PySem.W.Frag) (a : Addr) : It :=
  ⟨fun i H => ∃ (xs : List V) (x : V), SqT K H a xs ∧ xs[i]? = some x, fun i H v H' => ∃ T x, v = .ref T ∧ H T = none ∧ H' = upd H T (.tup [.int (i : Nat), x]) ∧ ∀ xs, SqT K H a xs → xs[i]? = some x,
    fun i H => ∃ xs : List V, SqT K H a xs ∧ xs.length ≤ i⟩
theorem turn_enumT {P : Program} {w : World} {K : PySem.W.Frag} {elts : List Expr} {kk : Nat} {tpos : Pos} (a e it : Addr) (hea : e ≠ a) (hia : it ≠ a) :
    Turn P w K (.Tuple elts kk tpos) (IteT K a) [e, it] e (fun i h => (∃ old, IsEnum h e it ((i : Nat) : Int) old) ∧ h.IsTupleIter it a i ∧ e ≠ it) where
  mem := by simp
  obj := fun i h st b hb => by
    obtain ⟨⟨old, he⟩, ⟨o, ho, hc, hd⟩, _⟩ := st
    rcases List.mem_cons.mp hb with z | z
    · subst z; exact ⟨_, he, fun v k => nomatch k⟩
    · rw [List.mem_singleton.mp z]; exact ⟨o, ho, fun v k => by rw [hd] at k; cases k⟩
  keep := fun i h h' st k => let ⟨⟨old, he⟩, hi, hne⟩ := st; ⟨⟨old, k e (by simp) _ he⟩, hi.at fun o z => k it (by simp) o z, hne⟩
  item := by
    intro X hP hw hK hc i pins s σ H E I hf st hg
    subst hP hw hK
    obtain ⟨⟨old, he⟩, hit, hne⟩ := st
    obtain ⟨xs, x, hq, hx⟩ := hg
    obtain ⟨its, rv, p, hz⟩ := I.tuple hq
    obtain ⟨u, hu, ru⟩ := rv.get hx
    have hel : e < s.heap.objs.size := Heap.lt_size he
    have hil : it < s.heap.objs.size := by obtain ⟨_, z, _⟩ := hit; exact Heap.lt_size z
    have hh : X.A.in1.handled = none := I.ok.hd hc
    have hlen : i < its.toArray.size := by
      rw [List.size_toArray, ← rv.length]
      rcases Nat.lt_or_ge i xs.length with c | c
      · exact c
      · rw [List.getElem?_eq_none c] at hx; cases hx
    refine wpAny_pyNext_enum_itemD (PySem.Draws.tuple (prog := X.prog) (w := X.w) (A := X.A.in1) hh it a (Ne.symm hia) its.toArray) he ⟨hit, p⟩ hlen hne (by simp [hne, hea]) fun u' h' tk hu' ho hst hT hsz hk => ?_
    obtain ⟨hit', _⟩ := hst
    have eu : u' = u := by
      have h1 : its.toArray[i]? = some u := by simpa using hu
      rw [h1] at hu'
      exact (Option.some.inj hu').symm
    subst eu
    refine ⟨_, rfl, wpAny_letOwnedTupleGo_enum (s := { s with heap := h', toks := tk + 1 }) ho fun h'' he' sb => ?_⟩
    have hT2 : h''.get? s.heap.objs.size = some { cls := .type "tuple", data := .seq #[.int i tk, u'] } := (sb.2 _ (Nat.ne_of_gt hel)).trans hT
    have new : ObjOk X.prog X.w (upd H s.heap.objs.size (.tup [.int (i : Nat), x])) h'' s.heap.objs.size (.tup [.int (i : Nat), x]) :=
      ⟨by show 2 ≤ sizeLine; decide, [.int i tk, u'], .cons ⟨_, rfl⟩ (.cons ru .nil), ⟨_, hT2, rfl, _, rfl⟩⟩
    have I1 : Inv X pins σ (upd H s.heap.objs.size (.tup [.int (i : Nat), x])) { s with heap := h'', toks := tk + 1 } :=
      I.turnedNew (ch := [e, it]) (fun b ob hb z => (sb.2 b (fun c => hb (by simp [c]))).trans (hk b ob (fun c => hb (by simp [c])) (fun c => hb (by simp [c])) z)) hf (Nat.le_refl _) new
    refine ⟨.ref s.heap.objs.size, _, I1, rfl, ⟨_, x, rfl, I.hok.fresh (Nat.le_refl _), rfl, fun ys hy => by rw [I.tuple_inj hy hq]; exact hx⟩, ⟨⟨u', ?_⟩, hit'.at fun o z => (sb.2 it (Ne.symm hne)).trans z, hne⟩, fun b hb => ?_⟩
    · rw [show ((i + 1 : Nat) : Int) = (i : Int) + 1 by omega]
      exact he'
    · have hb' : b < s.heap.objs.size := by
        rcases List.mem_cons.mp hb with z | z
        · rw [z]; exact hel
        · rw [List.mem_singleton.mp z]; exact hil
      rw [upd_ne (Nat.ne_of_lt hb')]
      exact (hf b hb).1
  done := by
    intro X hP hw hK hc i pins s σ H E I hf st hg
    subst hP hw hK
    obtain ⟨⟨old, he⟩, hit, hne⟩ := st
    obtain ⟨xs, hq, hx⟩ := hg
    obtain ⟨its, rv, p, hz⟩ := I.tuple hq
    obtain ⟨f0, f1, f2, f3, f4, f5⟩ := hf it (by simp)
    have hh : X.A.in1.handled = none := I.ok.hd hc
    have hT : s.TypeIs (.ref e) "enumerate" := ⟨_, he, rfl⟩
    unfold pyNext
    refine wpAny_bind (wpAny_attempt (wpAny_callSpecial?_slot (name := Str.ofString "__next__") hT PySem.F.slot_enumerate_next
      (wpAny_call_entry PySem.F.slot_enumerate_next hT PySem.F.entry_enumerate_next ?_ (PySem.F.args_enumerate_next_1 _))))
    show wpAny _ _ (field (.ref e) 2 >>= _) _ _ _
    refine wpAny_bind (wpAny_field he rfl (x := .ref it) rfl ?_)
    refine wpAny_bind (wpAny_nextOf_tuple_end hh hit p (by rw [List.getElem?_toArray]; exact List.getElem?_eq_none (by rw [← rv.length]; exact hx)) fun h' y hy hs => ?_)
    obtain ⟨o, ho, hcl⟩ := hs
    refine wpAny_bind (wpAny_isInstance (T := "StopIteration") (b := true) ⟨o, ho, hcl⟩ isSubtype_stop ?_)
    exact wpAny_pure ⟨rfl, I.turned (t' := s.toks) (fun b ob hb z => hy b ob hb z) f0 f1 f3 f4 f5⟩
  self := fun A i s Q E st h => let ⟨⟨_, he⟩, _⟩ := st; wpAny_pyIter_enum he h

/-- enumerate(t) -/
theorem meets_enumerate_newT (l : Addr) (items : Array Value) (n : Nat) (dct : Option Addr) (sl : Array (Option Value)) :
    Meets (Builtin.«enumerate.__new__» ⟨[.type "enumerate", .ref l], []⟩) (fun _ R s => s.heap.get? l = some { cls := .type "tuple", dict := dct, data := .seq items n, slots := sl } ∧
      R (.ok (.ret (.ref (s.heap.push { cls := .type "tuple_iterator", data := .fields #[.ref l, .int 0 0] }).objs.size)))
        { s with heap := (s.heap.push { cls := .type "tuple_iterator", data := .fields #[.ref l, .int 0 0] }).push { cls := .type "enumerate", data := .fields #[.none, .bool false, .ref s.heap.objs.size, rawInt 0, .none, .none] } }) :=
  .of_wp fun prog w A R s h => by
    obtain ⟨hp, g, d, tk, os⟩ := s
    obtain ⟨hl, h⟩ := h
    have hsub := sub_enumerate
    have hL : Heap.IsTuple (Shared.heap ⟨hp, g, d, tk, os⟩) l items := ⟨_, hl, rfl, n, rfl⟩
    wp_walk using wpAny_loadPart' hl
    refine wpAny_stack_any fun st => wpAny_pure ?_
    split
    · rename_i c _ _ _ _ _
      cases (c == Value.type "enumerate")
      · wp_walk using wpAny_loadPart' hl, wpAny_pyIter_tuple hL
        exact ⟨_, rfl, h⟩
      · wp_walk using wpAny_loadPart' hl, wpAny_pyIter_tuple hL
        exact ⟨_, rfl, h⟩
    · wp_walk using wpAny_loadPart' hl, wpAny_pyIter_tuple hL
      exact ⟨_, rfl, h⟩
theorem call_enumerate_tuple {prog : Program} {w : World} {A : Around} {E : Value → Shared → Prop} {s : Shared} {l : Addr} {items : Array Value} {Q : Value → Shared → Prop} (hL : s.heap.IsTuple l items)
    (h : ∀ h', IsEnum h' (s.heap.objs.size + 1) s.heap.objs.size 0 .none → h'.IsTupleIter s.heap.objs.size l 0 → h'.objs.size = s.heap.objs.size + 2 →
      (∀ b o, s.heap.get? b = some o → h'.get? b = some o) → Q (.ref (s.heap.objs.size + 1)) { s with heap := h' }) :
    wpAny (model prog w) A (call (.type "enumerate") [.ref l]) Q E s := by
  obtain ⟨⟨c, dct, dt, sl⟩, hl, hc, n, hd⟩ := hL
  obtain rfl : c = .type "tuple" := hc
  obtain rfl : dt = .seq items n := hd
  refine callType_new PySem.F.called_enumerate (by decide) (PySem.F.typeCall_enumerate_1 _) (PySem.F.newCall_enumerate_1 _) (fun obj => PySem.F.args_object_init_2 obj _) PySem.F.entry_enumerate_new
    (meets_enumerate_newT l items n dct sl) ⟨hl, ?_⟩
  have hz : (s.heap.push { cls := .type "tuple_iterator", data := .fields #[.ref l, .int 0 0] }).objs.size = s.heap.objs.size + 1 := Heap.size_push ..
  show _ ∧ _
  rw [hz]
  have he : IsEnum ((s.heap.push { cls := .type "tuple_iterator", data := .fields #[.ref l, .int 0 0] }).push { cls := .type "enumerate", data := .fields #[.none, .bool false, .ref s.heap.objs.size, rawInt 0, .none, .none] }) (s.heap.objs.size + 1) s.heap.objs.size 0 .none := by
    have k := Heap.get?_push_size (s.heap.push { cls := .type "tuple_iterator", data := .fields #[.ref l, .int 0 0] }) (o := { cls := .type "enumerate", data := .fields #[.none, .bool false, .ref s.heap.objs.size, rawInt 0, .none, .none] }) rfl
    rw [hz] at k
    exact k
  exact ⟨⟨_, he, rfl⟩, h _ he ⟨_, Heap.get?_push_of_some _ (Heap.get?_push_size _ rfl), rfl, rfl⟩ (by rw [Heap.size_push, hz]) fun b o x => Heap.get?_push_of_some _ (Heap.get?_push_of_some _ x)⟩

/-! the sources -/
def enumF (k : Nat) : List Val → List Val
  | [] => []
  | x :: r => .tup [.int k, x] :: enumF (k + 1) r
def zipF : List Val → List Val → List Val
  | x :: xs, y :: ys => .tup [x, y] :: zipF xs ys
  | _, _ => []
def Val.seq? : Val → Option (List Val)
  | .lst _ xs => some xs
  | .tup xs => some xs
  | _ => none
def seqI (D : Ev) : Evs := fun τ => (D τ).bind fun p => (p.1.seq?).bind fun xs => some (frzL xs, p.2)
def enumI (D : Ev) : Evs := fun τ => (D τ).bind fun p => (p.1.seq?).bind fun xs => some (enumF 0 (frzL xs), p.2)
def zipI (Ds : Evs) : Evs := fun τ => (Ds τ).bind fun p => match p.1 with
  | [.lst _ xs, .lst _ ys] => some (zipF (frzL xs) (frzL ys), p.2)
  | [.tup xs, .tup ys] => some (zipF (frzL xs) (frzL ys), p.2)
  | _ => none
theorem enumF_get : ∀ (xs : List Val) (k i : Nat), (enumF k xs)[i]? = xs[i]?.map fun x => .tup [.int ((k + i : Nat) : Int), x]
  | [], _, _ => by simp [enumF]
  | x :: r, k, 0 => by simp [enumF]
  | x :: r, k, i + 1 => by
    show (enumF (k + 1) r)[i]? = _
    rw [enumF_get r (k + 1) i, List.getElem?_cons_succ, show k + 1 + i = k + (i + 1) by omega]
theorem enumF_length : ∀ (xs : List Val) (k : Nat), (enumF k xs).length = xs.length
  | [], _ => rfl
  | x :: r, k => congrArg (· + 1) (enumF_length r (k + 1))
theorem enumF_pure : ∀ (xs : List Val) (k : Nat), pureL xs = true → pureL (enumF k xs) = true
  | [], _, _ => rfl
  | x :: r, k, h => by
    simp only [pureL, Bool.and_eq_true] at h
    simp only [enumF, pureL, Val.pure, h.1, enumF_pure r (k + 1) h.2, Bool.and_self, Bool.and_true]
theorem zipF_get : ∀ (xs ys : List Val) (i : Nat) (z : Val), (zipF xs ys)[i]? = some z → ∃ x y, xs[i]? = some x ∧ ys[i]? = some y ∧ z = .tup [x, y]
  | [], _, _, _, h => by simp [zipF] at h
  | _ :: _, [], _, _, h => by simp [zipF] at h
  | x :: xs, y :: ys, 0, z, h => by
    simp only [zipF, List.getElem?_cons_zero, Option.some.injEq] at h
    exact ⟨x, y, rfl, rfl, h.symm⟩
  | x :: xs, y :: ys, i + 1, z, h => zipF_get xs ys i z (by simpa [zipF] using h)
theorem zipF_length : ∀ (xs ys : List Val), (zipF xs ys).length = min xs.length ys.length
  | [], _ => by simp [zipF]
  | _ :: _, [] => by simp [zipF]
  | x :: xs, y :: ys => by
    simp only [zipF, List.length_cons, zipF_length xs ys]
    omega
theorem zipF_pure : ∀ (xs ys : List Val), pureL xs = true → pureL ys = true → pureL (zipF xs ys) = true
  | [], _, _, _ => by simp [zipF, pureL]
  | _ :: _, [], _, _ => by simp [zipF, pureL]
  | x :: xs, y :: ys, h, g => by
    simp only [pureL, Bool.and_eq_true] at h g
    simp only [zipF, pureL, Val.pure, h.1, g.1, zipF_pure xs ys h.2 g.2, Bool.and_self, Bool.and_true]
section
variable {P : Program} {w : World} {K : PySem.W.Frag}
/-- a new pair that a walk gives out -/
theorem pair_new {F : Addr → Prop} {H : Hp} {T : Addr} {u v : V} {x y : Val} (ft : ∀ a, F a → H a ≠ none) (np : H T = none) (hu : VR P w K F H u x []) (hv : VR P w K F H v y []) :
    ∃ F2, VR P w K F2 (upd H T (.tup [u, v])) (.ref T) (.tup [x, y]) [] ∧ Step true F H [] F2 (upd H T (.tup [u, v])) [] := by
  have st := Step.newF (o := .tup [u, v]) (good_nil ft) np
  have hs : VRs P w K F H [u, v] [x, y] ([] ++ ([] ++ [])) := .cons hu (.cons hv .nil)
  exact ⟨_, .tup (.inl ⟨.inr rfl, upd_same⟩) (VRs.stepQ hs st ft), st⟩
theorem jok_enumL {F : Addr → Prop} {H : Hp} {a : Addr} {vs : List V} {xs : List Val} (hF : F a) (hr : Rd H a (.lst vs)) (h : VRs P w K F H vs xs []) (hp : pureL xs = true) : JOk P w K F H (Ite K a) (enumF 0 xs) := by
  refine ⟨enumF_pure xs 0 hp, fun F' H' fs fh ft i => ?_⟩
  have hq : SqL K H' a vs := .inl (Rd.eqH (fh a hF) hr)
  have h' : VRs P w K F' H' vs xs [] := h.mono fs fh fun _ z => nomatch z
  refine ⟨fun z hz => ?_, fun hl => ⟨vs, hq, by rw [h.length]; rw [enumF_length] at hl; exact hl⟩⟩
  rw [enumF_get, Nat.zero_add] at hz
  cases hx : xs[i]? with
  | none => rw [hx] at hz; cases hz
  | some x =>
    rw [hx] at hz
    cases hz
    obtain ⟨v, L1, e1, e2, sb⟩ := h'.get hx
    have en : L1 = [] := List.sublist_nil.mp sb
    subst en
    refine ⟨⟨vs, v, hq, e1⟩, fun u H2 y => ?_⟩
    obtain ⟨T, x', rfl, np, rfl, y⟩ := y
    have eu : x' = v := Option.some.inj ((y vs hq).symm.trans e1)
    subst eu
    exact pair_new ft np (.int _) e2
theorem jok_enumT {F : Addr → Prop} {H : Hp} {a : Addr} {vs : List V} {xs : List Val} (ha : TupAt K F H a vs) (h : VRs P w K F H vs xs []) (hp : pureL xs = true) : JOk P w K F H (IteT K a) (enumF 0 xs) := by
  refine ⟨enumF_pure xs 0 hp, fun F' H' fs fh ft i => ?_⟩
  have hq : SqT K H' a vs := (ha.mono fs fh).sq
  have h' : VRs P w K F' H' vs xs [] := h.mono fs fh fun _ z => nomatch z
  refine ⟨fun z hz => ?_, fun hl => ⟨vs, hq, by rw [h.length]; rw [enumF_length] at hl; exact hl⟩⟩
  rw [enumF_get, Nat.zero_add] at hz
  cases hx : xs[i]? with
  | none => rw [hx] at hz; cases hz
  | some x =>
    rw [hx] at hz
    cases hz
    obtain ⟨v, L1, e1, e2, sb⟩ := h'.get hx
    have en : L1 = [] := List.sublist_nil.mp sb
    subst en
    refine ⟨⟨vs, v, hq, e1⟩, fun u H2 y => ?_⟩
    obtain ⟨T, x', rfl, np, rfl, y⟩ := y
    have eu : x' = v := Option.some.inj ((y vs hq).symm.trans e1)
    subst eu
    exact pair_new ft np (.int _) e2
theorem jok_zipL {F : Addr → Prop} {H : Hp} {a b : Addr} {vs us : List V} {xs ys : List Val} (hF : F a) (hr : Rd H a (.lst vs)) (h : VRs P w K F H vs xs []) (hp : pureL xs = true) (hF2 : F b) (hr2 : Rd H b (.lst us)) (h2 : VRs P w K F H us ys []) (hp2 : pureL ys = true) :
    JOk P w K F H (Itz K a b) (zipF xs ys) := by
  refine ⟨zipF_pure xs ys hp hp2, fun F' H' fs fh ft i => ?_⟩
  have hq : SqL K H' a vs := .inl (Rd.eqH (fh a hF) hr)
  have hq2 : SqL K H' b us := .inl (Rd.eqH (fh b hF2) hr2)
  have h' : VRs P w K F' H' vs xs [] := h.mono fs fh fun _ z => nomatch z
  have h2' : VRs P w K F' H' us ys [] := h2.mono fs fh fun _ z => nomatch z
  refine ⟨fun z hz => ?_, fun hl => ⟨vs, us, hq, hq2, by rw [h.length, h2.length]; rw [zipF_length] at hl; omega⟩⟩
  obtain ⟨x, y, hx, hy, rfl⟩ := zipF_get xs ys i z hz
  obtain ⟨v, L1, e1, e2, sb⟩ := h'.get hx
  have en : L1 = [] := List.sublist_nil.mp sb
  subst en
  obtain ⟨u, L2, e3, e4, sb2⟩ := h2'.get hy
  have en2 : L2 = [] := List.sublist_nil.mp sb2
  subst en2
  refine ⟨⟨vs, us, v, u, hq, hq2, e1, e3⟩, fun t H2 yl => ?_⟩
  obtain ⟨T, x', y', rfl, np, rfl, y1, y2⟩ := yl
  have eu : x' = v := Option.some.inj ((y1 vs hq).symm.trans e1)
  have eu2 : y' = u := Option.some.inj ((y2 us hq2).symm.trans e3)
  subst eu eu2
  exact pair_new ft np e2 e4
theorem jok_zipT {F : Addr → Prop} {H : Hp} {a b : Addr} {vs us : List V} {xs ys : List Val} (ha : TupAt K F H a vs) (h : VRs P w K F H vs xs []) (hp : pureL xs = true) (hb : TupAt K F H b us) (h2 : VRs P w K F H us ys []) (hp2 : pureL ys = true) :
    JOk P w K F H (ItzT K a b) (zipF xs ys) := by
  refine ⟨zipF_pure xs ys hp hp2, fun F' H' fs fh ft i => ?_⟩
  have hq : SqT K H' a vs := (ha.mono fs fh).sq
  have hq2 : SqT K H' b us := (hb.mono fs fh).sq
  have h' : VRs P w K F' H' vs xs [] := h.mono fs fh fun _ z => nomatch z
  have h2' : VRs P w K F' H' us ys [] := h2.mono fs fh fun _ z => nomatch z
  refine ⟨fun z hz => ?_, fun hl => ⟨vs, us, hq, hq2, by rw [h.length, h2.length]; rw [zipF_length] at hl; omega⟩⟩
  obtain ⟨x, y, hx, hy, rfl⟩ := zipF_get xs ys i z hz
  obtain ⟨v, L1, e1, e2, sb⟩ := h'.get hx
  have en : L1 = [] := List.sublist_nil.mp sb
  subst en
  obtain ⟨u, L2, e3, e4, sb2⟩ := h2'.get hy
  have en2 : L2 = [] := List.sublist_nil.mp sb2
  subst en2
  refine ⟨⟨vs, us, v, u, hq, hq2, e1, e3⟩, fun t H2 yl => ?_⟩
  obtain ⟨T, x', y', rfl, np, rfl, y1, y2⟩ := yl
  have eu : x' = v := Option.some.inj ((y1 vs hq).symm.trans e1)
  have eu2 : y' = u := Option.some.inj ((y2 us hq2).symm.trans e3)
  subst eu eu2
  exact pair_new ft np e2 e4
end
section
variable {X : Cx} {tg e e2 : Expr} {q : Bool} {D : Ev} {Ds : Evs} {p pos tpos : Pos} {elts : List Expr} {kk : Nat}
/-- what a walk asks of a frozen list, a frozen tuple -/
theorem frz_lst {P : Program} {w : World} {K : PySem.W.Frag} {F : Addr → Prop} {H : Hp} {v : V} {m : Bool} {xs : List Val} {L : List Addr} (h : VR P w K F H v (.lst m xs) L) :
    ∃ a vs, v = .ref a ∧ (F a ∨ a ∈ L) ∧ H a = some (.lst vs) ∧ VRs P w K (fun a => F a ∨ a ∈ L) H vs (frzL xs) [] := by
  have hf := h.frz (F' := fun a => F a ∨ a ∈ L) (fun _ z => .inl z) (fun a ha => .inr ha)
  simp only [Val.frz] at hf
  cases hf with
  | @lst a _ vs _ L0 _ hA hvs =>
    simp only [At, Bool.false_eq_true, if_false] at hA
    obtain ⟨h1, h2, rfl, _⟩ := hA
    exact ⟨a, vs, rfl, h1, h2, hvs⟩
theorem frz_tup {P : Program} {w : World} {K : PySem.W.Frag} {F : Addr → Prop} {H : Hp} {v : V} {xs : List Val} {L : List Addr} (h : VR P w K F H v (.tup xs) L) :
    ∃ a vs, v = .ref a ∧ TupAt K (fun a => F a ∨ a ∈ L) H a vs ∧ VRs P w K (fun a => F a ∨ a ∈ L) H vs (frzL xs) [] := by
  have hf := h.frz (F' := fun a => F a ∨ a ∈ L) (fun _ z => .inl z) (fun a ha => .inr ha)
  simp only [Val.frz] at hf
  cases hf with
  | @tup a vs _ _ hA hvs => exact ⟨a, vs, rfl, hA, hvs⟩
theorem SR.grow {P : Program} {w : World} {K : PySem.W.Frag} {F : Addr → Prop} {H : Hp} {σ : S2} {τ : Sl} {L Lr : List Addr} (s : SR P w K F H σ τ L) : SR P w K (fun a => F a ∨ a ∈ Lr) H σ τ L := s.mono (fun _ z => .inl z) (fun _ _ => rfl) fun _ _ => rfl
theorem si_seq (he : SE q X e D) : SI q X tg e (seqI D) := ⟨fun pins s σ H R I ⟨F, τ, L, xs, τ', s0, g, ev, post⟩ => by
  obtain ⟨⟨x, τ1⟩, e1, ev⟩ := bind_eq ev
  obtain ⟨ys, e2, ev⟩ := bind_eq ev
  cases ev
  refine thn (he.run pins s σ H _ I ⟨F, τ, L, x, _, s0, g, e1, fun v F1 H1 L1 Lr h1 s1 st1 => (⟨F1, L1, Lr, h1, s1, st1⟩ : ∃ F1 L1 Lr, VR X.prog X.w X.K F1 H1 v x Lr ∧ SR X.prog X.w X.K F1 H1 σ τ1 L1 ∧ Step q F H L F1 H1 (L1 ++ Lr))⟩) fun v s1 ⟨vx, H1, I1, r1, F1, L1, Lr, h1, sr1, st1⟩ => ?_
  have st2 := Step.freeze st1.good
  have e2' : x.seq? = some ys := e2
  cases x with
  | lst m zs =>
    cases e2'
    obtain ⟨a, vs, rfl, hF, hH, hvs⟩ := frz_lst h1
    cases r1
    obtain ⟨its, rv, pl, hz⟩ := I1.list (SqL.of hH)
    refine wpAny_pyIter_list pl.isList ?_
    refine ⟨s1.heap.objs.size, [s1.heap.objs.size], _, _, H1, rfl, I1.kept (t' := s1.toks) fun b o k => Heap.get?_push_of_some _ k, turn_list a _, ⟨_, Heap.get?_push_size _ rfl, rfl, rfl⟩, fun b hb => ?_, post _ _ H1 L1 sr1.grow (st1.trans st2).andT (jok_list hF (.inl hH) hvs (frzL_pure _))⟩
    rw [List.mem_singleton.mp hb]
    exact I1.fpOk (Nat.le_refl _) (I1.hok.fresh (Nat.le_refl _))
  | tup zs =>
    cases e2'
    obtain ⟨a, vs, rfl, hA, hvs⟩ := frz_tup h1
    cases r1
    obtain ⟨its, rv, pl, hz⟩ := I1.tuple hA.sq
    refine wpAny_pyIter_tuple (show s1.heap.IsTuple a its.toArray from pl) ?_
    refine ⟨s1.heap.objs.size, [s1.heap.objs.size], _, _, H1, rfl, I1.kept (t' := s1.toks) fun b o k => Heap.get?_push_of_some _ k, turn_tuple a _, ⟨_, Heap.get?_push_size _ rfl, rfl, rfl⟩, fun b hb => ?_, post _ _ H1 L1 sr1.grow (st1.trans st2).andT (jok_tup hA hvs (frzL_pure _))⟩
    rw [List.mem_singleton.mp hb]
    exact I1.fpOk (Nat.le_refl _) (I1.hok.fresh (Nat.le_refl _))
  | _ => exact nomatch e2'⟩
def iEnumA (K : PySem.W.Frag) (ta : TA) : TI := fun σ H R => ta σ H fun vs H1 => ∃ a xs, vs = [.ref a] ∧ ((SqL K H1 a xs ∧ R (Ite K a) H1) ∨ (SqT K H1 a xs ∧ R (IteT K a) H1))
theorem pi_enumA {ta : TA} (hg : Gl X "enumerate") (hm : X.mg "enumerate" = none) (ha : PA X [e] ta) (hs : starEach [e] X.env = [(false, eval e X.env)]) :
    PI X (.Tuple elts kk tpos) (.Call (.Name "enumerate" p) [e] [] pos) (iEnumA X.K ta) := by
  refine ⟨fun pins s σ H R I h => ?_⟩
  refine Call_ (ld_blt I hg hm boot_enumerate (PyProof.Rows.callWith_type1 (thn (ha.run pos pins s σ H _ I h) fun us s1 ⟨vs, H1, I1, r1, a, xs, ex, hq⟩ => ?_) hs rfl))
  subst ex
  rw [Vals.ref1 r1]
  have mem2 : ∀ {b : Addr}, b ∈ [s1.heap.objs.size + 1, s1.heap.objs.size] → s1.heap.objs.size ≤ b := fun {b} hb => by
    rcases List.mem_cons.mp hb with z | z
    · rw [z]; exact Nat.le_succ _
    · rw [List.mem_singleton.mp z]; exact Nat.le_refl _
  rcases hq with ⟨hq, qq⟩ | ⟨hq, qq⟩
  · obtain ⟨its, rv, p', hz⟩ := I1.list hq
    refine call_enumerate_list p'.isList fun h' he hit hsz hk => wpAny_pyIter_enum he ?_
    exact ⟨s1.heap.objs.size + 1, [s1.heap.objs.size + 1, s1.heap.objs.size], _, _, H1, rfl, I1.kept (t' := s1.toks) hk, turn_enum a (s1.heap.objs.size + 1) s1.heap.objs.size, ⟨⟨.none, he⟩, hit, Nat.succ_ne_self _⟩, fun b hb => I1.fpOk (mem2 hb) (I1.hok.fresh (mem2 hb)), qq⟩
  · obtain ⟨its, rv, p', hz⟩ := I1.tuple hq
    have hl : a < s1.heap.objs.size := p'.lt
    refine call_enumerate_tuple (show s1.heap.IsTuple a its.toArray from p') fun h' he hit hsz hk => wpAny_pyIter_enum he ?_
    exact ⟨s1.heap.objs.size + 1, [s1.heap.objs.size + 1, s1.heap.objs.size], _, _, H1, rfl, I1.kept (t' := s1.toks) hk, turn_enumT a (s1.heap.objs.size + 1) s1.heap.objs.size (Nat.ne_of_gt (Nat.lt_succ_of_lt hl)) (Nat.ne_of_gt hl), ⟨⟨.none, he⟩, hit, Nat.succ_ne_self _⟩, fun b hb => I1.fpOk (mem2 hb) (I1.hok.fresh (mem2 hb)), qq⟩
theorem si_enum (hm : X.mg "enumerate" = none) (ha : SE q X e D) (hg : Gl X "enumerate" := by rfl) (h0 : starEach (e :: []) X.env = (false, eval e X.env) :: starEach [] X.env := by rfl) (hs : starEach [e] X.env = [(false, eval e X.env)] := by rfl) :
    SI q X (.Tuple elts kk tpos) (.Call (.Name "enumerate" p) [e] [] pos) (enumI D) :=
  piI (pi_enumA hg hm (pa_cons ha pa_nil h0) hs) fun σ H R ⟨F, τ, L, xs, τ', s, g, ev, post⟩ => by
    obtain ⟨⟨x, τ1⟩, e1, ev⟩ := bind_eq ev
    obtain ⟨ys, e2, ev⟩ := bind_eq ev
    cases ev
    refine ⟨F, τ, L, x, _, s, g, e1, fun v F1 H1 L1 Lr h1 s1 st1 => ?_⟩
    have st2 := Step.freeze st1.good
    have e2' : x.seq? = some ys := e2
    cases x with
    | lst m zs =>
      cases e2'
      obtain ⟨a, vs, rfl, hF, hH, hvs⟩ := frz_lst h1
      exact ⟨a, vs, rfl, .inl ⟨SqL.of hH, post _ _ H1 L1 s1.grow (st1.trans st2).andT (jok_enumL hF (.inl hH) hvs (frzL_pure _))⟩⟩
    | tup zs =>
      cases e2'
      obtain ⟨a, vs, rfl, hA, hvs⟩ := frz_tup h1
      exact ⟨a, vs, rfl, .inr ⟨hA.sq, post _ _ H1 L1 s1.grow (st1.trans st2).andT (jok_enumT hA hvs (frzL_pure _))⟩⟩
    | _ => exact nomatch e2'
theorem si_zip (hm : X.mg "zip" = none) (ha : SEs q X [e, e2] Ds) (hg : Gl X "zip" := by rfl) (hs : starEach [e, e2] X.env = (false, eval e X.env) :: starEach [e2] X.env := by rfl) (hpl : (backTo pos (starEach [e2] X.env)).any (·.1) = false := by rfl) :
    SI q X (.Tuple elts kk tpos) (.Call (.Name "zip" p) [e, e2] [] pos) (zipI Ds) :=
  piI (pi_zipA hg hm ha hs hpl) fun σ H R ⟨F, τ, L, xs, τ', s, g, ev, post⟩ => by
    obtain ⟨⟨ys, τ1⟩, e1, ev⟩ := bind_eq ev
    dsimp only at ev
    split at ev
    · cases ev
      refine ⟨F, τ, L, _, _, s, g, e1, fun vs F1 H1 L1 Lr h1 s1 st1 => ?_⟩
      have st2 := Step.freeze st1.good
      have hf := h1.frz (F' := fun a => F1 a ∨ a ∈ Lr) (fun _ z => .inl z) (fun a ha => .inr ha)
      simp only [frzL, Val.frz] at hf
      obtain ⟨v, u, _, _, rfl, ha1, ha2⟩ := hf.inv2
      cases ha1 with
      | @lst a _ ws _ L0 _ hA hvs =>
        cases ha2 with
        | @lst b _ us _ L0' _ hB hus =>
          simp only [At, Bool.false_eq_true, if_false] at hA hB
          obtain ⟨hF, hH, rfl, _⟩ := hA
          obtain ⟨hF2, hH2, rfl, _⟩ := hB
          exact ⟨a, b, ws, us, rfl, .inl ⟨SqL.of hH, SqL.of hH2, post _ _ H1 L1 s1.grow (st1.trans st2).andT (jok_zipL hF (.inl hH) hvs (frzL_pure _) hF2 (.inl hH2) hus (frzL_pure _))⟩⟩
    · cases ev
      refine ⟨F, τ, L, _, _, s, g, e1, fun vs F1 H1 L1 Lr h1 s1 st1 => ?_⟩
      have st2 := Step.freeze st1.good
      have hf := h1.frz (F' := fun a => F1 a ∨ a ∈ Lr) (fun _ z => .inl z) (fun a ha => .inr ha)
      simp only [frzL, Val.frz] at hf
      obtain ⟨v, u, L3, L4, rfl, ha1, ha2⟩ := hf.inv2
      have n3 := ha1.pure_nil (by simp only [Val.pure]; exact frzL_pure _)
      have n4 := ha2.pure_nil (by simp only [Val.pure]; exact frzL_pure _)
      subst n3 n4
      obtain ⟨a, ws, rfl, hA, hvs⟩ := ha1.tup_inv
      obtain ⟨b, us, rfl, hB, hus⟩ := ha2.tup_inv
      exact ⟨a, b, ws, us, rfl, .inr ⟨hA.sq, hB.sq, post _ _ H1 L1 s1.grow (st1.trans st2).andT (jok_zipT hA hvs (frzL_pure _) hB hus (frzL_pure _))⟩⟩
    · cases ev
end
end MV
end

section
set_option maxHeartbeats 4000000
/-! hash tables of any size that comes here: from each hash each place is met; what is laid is found again -/
namespace MV
open PySem PySem.Spec PyProof.Rows L2

/-- a mask that has all ones, at most thirteen -/
def Ones (m : Nat) : Prop := ∃ k, 3 ≤ k ∧ (k ≤ 13 ∧ k % 2 = 1) ∧ m + 1 = 2 ^ k
theorem Ones.odd {m : Nat} (h : Ones m) : m % 2 = 1 := by
  obtain ⟨k, h1, _, e⟩ := h
  obtain ⟨j, rfl⟩ : ∃ j, k = j + 1 := ⟨k - 1, by omega⟩
  rw [Nat.pow_succ] at e
  omega
theorem Ones.le {m : Nat} (h : Ones m) : m ≤ 8191 := by
  obtain ⟨k, _, h2, e⟩ := h
  have := Nat.pow_le_pow_right (show 0 < 2 by decide) h2.1
  omega

/-! the walk i -> 5 i + 1 meets all -/
/-- the sum of the powers of 5 -/
def geo : Nat → Nat
  | 0 => 0
  | n + 1 => geo n * 5 + 1
theorem geo_pow (n : Nat) : 4 * geo n + 1 = 5 ^ n := by
  induction n with
  | zero => rfl
  | succ n ih => rw [geo, Nat.pow_succ, ← ih]; omega
theorem geo_add (a b : Nat) : geo (a + b) = geo a * 5 ^ b + geo b := by
  induction b with
  | zero => simp [geo]
  | succ b ih =>
    rw [show a + (b + 1) = a + b + 1 by omega, geo, ih, geo, Nat.pow_succ, Nat.add_mul, Nat.mul_assoc]
    omega
/-- the sum of 2 ^ k powers is 2 ^ k times an odd number -/
theorem geo_two (k : Nat) : ∃ c, geo (2 ^ k) = 2 ^ k * (2 * c + 1) := by
  induction k with
  | zero => exact ⟨0, rfl⟩
  | succ k ih =>
    obtain ⟨c, e⟩ := ih
    have h5 : 5 ^ (2 ^ k) = 4 * geo (2 ^ k) + 1 := (geo_pow _).symm
    have h : geo (2 ^ (k + 1)) = geo (2 ^ k) * (2 * (2 * geo (2 ^ k) + 1)) := by
      rw [Nat.pow_succ, Nat.mul_two, geo_add, h5, Nat.mul_add]
      generalize geo (2 ^ k) = g
      generalize hg : g * (4 * g) = u
      have : g * (2 * (2 * g + 1)) = g * (4 * g) + 2 * g := by
        rw [Nat.mul_add 2, Nat.mul_add g, Nat.mul_one, Nat.mul_comm g 2, ← Nat.mul_assoc 2 2 g]
      rw [this, hg]
      omega
    refine ⟨c + (2 * c + 1) * geo (2 ^ k), ?_⟩
    rw [h, Nat.pow_succ]
    generalize geo (2 ^ k) = g at e ⊢
    rw [e]
    generalize 2 ^ k = p
    rw [show 2 * (2 * (p * (2 * c + 1)) + 1) = 2 * (2 * (p * (2 * c + 1)) + 1) from rfl]
    have : p * (2 * c + 1) * (2 * (2 * (p * (2 * c + 1)) + 1)) = p * 2 * ((2 * c + 1) * (2 * (p * (2 * c + 1)) + 1)) := by
      rw [Nat.mul_assoc, Nat.mul_assoc, Nat.mul_left_comm (2 * c + 1) 2]
    rw [this]
    congr 1
    generalize p * (2 * c + 1) = q
    rw [Nat.mul_add, Nat.mul_one, Nat.mul_left_comm]
    omega
theorem geo_mod (m : Nat) (n : Nat) : L2.lcgN m n = geo n % (m + 1) := by
  induction n with
  | zero => simp [L2.lcgN, geo]
  | succ n ih =>
    rw [L2.lcgN, ih, geo, Nat.add_mod, Nat.mul_mod, Nat.mod_mod, ← Nat.mul_mod, ← Nat.add_mod]
/-- each rest comes -/
theorem geo_all (k : Nat) : ∀ j, ∃ n, geo n % 2 ^ k = j % 2 ^ k := by
  induction k with
  | zero => intro j; exact ⟨0, by rw [Nat.pow_zero, Nat.mod_one, Nat.mod_one]⟩
  | succ k ih =>
    intro j
    obtain ⟨n, e⟩ := ih j
    obtain ⟨c, eg⟩ := geo_two k
    have hp : 0 < 2 ^ k := Nat.pow_pos (by decide)
    have h5 : 5 ^ (2 ^ k) = 4 * geo (2 ^ k) + 1 := (geo_pow _).symm
    -- either n or n + 2^k
    have cases2 : geo n % 2 ^ (k + 1) = j % 2 ^ (k + 1) ∨ (geo n + 2 ^ k) % 2 ^ (k + 1) = j % 2 ^ (k + 1) := by
      rw [Nat.pow_succ]
      generalize 2 ^ k = p at hp e
      generalize geo n = g at e
      have d1 := Nat.div_add_mod g p
      have d2 := Nat.div_add_mod j p
      rw [e] at d1
      have hrr : j % p < p := Nat.mod_lt _ hp
      generalize j % p = r at d1 d2 hrr
      generalize hx : g / p = x at d1
      generalize hy : j / p = y at d2
      have f : ∀ z : Nat, (p * z + r) % (p * 2) = p * (z % 2) + r := by
        intro z
        have e4 : p * z + r = p * 2 * (z / 2) + (p * (z % 2) + r) := by
          have := Nat.div_add_mod z 2
          have e5 : p * z = p * (2 * (z / 2) + z % 2) := by rw [this]
          rw [e5, Nat.mul_add, Nat.mul_assoc, Nat.add_assoc]
        rw [e4, Nat.mul_add_mod]
        refine Nat.mod_eq_of_lt ?_
        rcases Nat.mod_two_eq_zero_or_one z with z0 | z0 <;> rw [z0] <;> omega
      rw [← d1, ← d2, f, show p * x + r + p = p * (x + 1) + r by rw [Nat.mul_add, Nat.mul_one]; omega, f, f]
      rcases Nat.mod_two_eq_zero_or_one x with a | a <;> rcases Nat.mod_two_eq_zero_or_one y with b | b
      · left; rw [a, b]
      · right; rw [Nat.add_mod, a, b]
      · right; rw [Nat.add_mod, a, b]
      · left; rw [a, b]
    rcases cases2 with c1 | c1
    · exact ⟨n, c1⟩
    · refine ⟨n + 2 ^ k, ?_⟩
      rw [← c1, geo_add, h5, eg, Nat.pow_succ]
      generalize geo n = g
      generalize 2 ^ k = p
      have : g * (4 * (p * (2 * c + 1)) + 1) + p * (2 * c + 1) = (g + p) + p * 2 * (g * (2 * (2 * c + 1)) + c) := by
        have e1 : g * (4 * (p * (2 * c + 1))) = p * 2 * (g * (2 * (2 * c + 1))) := by
          generalize 2 * c + 1 = d
          rw [show (4 : Nat) = 2 * 2 from rfl, Nat.mul_assoc 2 2, Nat.mul_left_comm 2 p d, Nat.mul_left_comm 2 p (2 * d), Nat.mul_left_comm g p, Nat.mul_assoc p 2, Nat.mul_left_comm 2 g]
        rw [Nat.mul_add g, e1, Nat.mul_add (p * 2), Nat.mul_add p, Nat.mul_one, Nat.mul_one, ← Nat.mul_assoc p 2 c]
        omega
      rw [this, Nat.add_mul_mod_self_left]
theorem ones_all {m : Nat} (hm : Ones m) {j : Nat} (hj : j ≤ m) : ∃ n, L2.lcgN m n = j := by
  obtain ⟨k, _, _, e⟩ := hm
  obtain ⟨n, h⟩ := geo_all k j
  refine ⟨n, ?_⟩
  rw [geo_mod, e, h, ← e]
  exact Nat.mod_eq_of_lt (by omega)
theorem ones_round {m : Nat} (hm : Ones m) (n : Nat) : L2.lcgN m (n + (m + 1)) = L2.lcgN m n := by
  obtain ⟨k, _, _, e⟩ := hm
  obtain ⟨c, eg⟩ := geo_two k
  rw [geo_mod, geo_mod, e, geo_add, ← geo_pow (2 ^ k), eg]
  generalize geo n = g
  generalize 2 ^ k = p
  have : g * (4 * (p * (2 * c + 1)) + 1) + p * (2 * c + 1) = g + p * (g * (4 * (2 * c + 1)) + (2 * c + 1)) := by
    generalize 2 * c + 1 = d
    rw [Nat.mul_add g, Nat.mul_left_comm 4 p d, Nat.mul_left_comm g p, Nat.mul_add p, Nat.mul_one]
    omega
  rw [this, Nat.add_mul_mod_self_left]
theorem ones_rounds {m : Nat} (hm : Ones m) (n : Nat) : ∀ q, L2.lcgN m (n + (m + 1) * q) = L2.lcgN m n
  | 0 => rfl
  | q + 1 => by
    rw [Nat.mul_succ, ← Nat.add_assoc, ones_round hm, ones_rounds hm n q]
/-- from anywhere each place is met within a round -/
theorem ones_meet {m : Nat} (hm : Ones m) {i j : Nat} (hi : i ≤ m) (hj : j ≤ m) : ∃ n, n ≤ m ∧ L2.lcgI m i n = j := by
  obtain ⟨a, ea⟩ := ones_all hm hi
  obtain ⟨b, eb⟩ := ones_all hm hj
  obtain ⟨d, hd, hq⟩ : ∃ d, d ≤ m ∧ ∃ q, a + d = b + (m + 1) * q ∨ a + d + (m + 1) * q = b := by
    have hm1 : 0 < m + 1 := Nat.succ_pos m
    have h1 := Nat.div_add_mod a (m + 1)
    have h2 := Nat.div_add_mod b (m + 1)
    have l1 := Nat.mod_lt a hm1
    have l2 := Nat.mod_lt b hm1
    generalize a % (m + 1) = x at h1 l1
    generalize b % (m + 1) = y at h2 l2
    generalize a / (m + 1) = p at h1
    generalize b / (m + 1) = q at h2
    have fin : ∀ d : Nat, d ≤ m → (∃ t : Nat, x + d = y + (m + 1) * t) → ∃ d, d ≤ m ∧ ∃ q, a + d = b + (m + 1) * q ∨ a + d + (m + 1) * q = b := by
      intro d hd ⟨t, ht⟩
      refine ⟨d, hd, ?_⟩
      rcases Nat.le_total q (p + t) with c | c
      · refine ⟨p + t - q, .inl ?_⟩
        have e1 : (m + 1) * (p + t) = (m + 1) * q + (m + 1) * (p + t - q) := by rw [← Nat.mul_add]; congr 1; omega
        rw [Nat.mul_add] at e1
        omega
      · refine ⟨q - (p + t), .inr ?_⟩
        have e1 : (m + 1) * q = (m + 1) * (p + t) + (m + 1) * (q - (p + t)) := by rw [← Nat.mul_add]; congr 1; omega
        rw [Nat.mul_add (m + 1) p t] at e1
        omega
    rcases Nat.le_total x y with c | c
    · exact fin (y - x) (by omega) ⟨0, by omega⟩
    · rcases Nat.eq_or_lt_of_le c with c | c
      · exact fin 0 (by omega) ⟨0, by omega⟩
      · exact fin (y + (m + 1) - x) (by omega) ⟨1, by omega⟩
  refine ⟨d, hd, ?_⟩
  rw [← ea, L2.lcgN_add]
  obtain ⟨q, h | h⟩ := hq
  · rw [h, ones_rounds hm, eb]
  · rw [← eb, ← h, ones_rounds hm]
/-- each place begins a run early -/
theorem runs_meet {m : Nat} (hm : Ones m) (h : Int) {j : Nat} (hj : j ≤ m) : ∃ n, n < SetTable.turns m ∧ L2.runI m (SetTable.bits h) n = j := by
  obtain ⟨n, hn, e⟩ := ones_meet hm (L2.runI_le m (SetTable.bits h) 12) hj
  exact ⟨12 + n, by unfold SetTable.turns; omega, by rw [L2.runI_tail (L2.bits_lt h)]; exact e⟩
theorem way_in {m : Nat} {h : Int} {k : Nat} : L2.way m h k ≤ m := by
  have hi : SetTable.bits h % (m + 1) ≤ m := Nat.le_of_lt_succ (Nat.mod_lt _ (Nat.succ_pos _))
  have r := L2.runEnd_bd hi
  have q := L2.nth_in (m := m) k (L2.runAt m (SetTable.bits h % (m + 1)) (SetTable.bits h)) (by
    show SetTable.bits h % (m + 1) + (SetTable.runEnd m _ - SetTable.bits h % (m + 1)) ≤ m
    omega)
  exact Nat.le_trans (Nat.le_add_right _ _) q
theorem way_meets {m : Nat} (hm : Ones m) (h : Int) {j : Nat} (hj : j ≤ m) : ∃ k, k < 10 * SetTable.turns m ∧ L2.way m h k = j := by
  obtain ⟨n, hn, e⟩ := runs_meet hm h hj
  obtain ⟨k, hk, e2⟩ := L2.run_nth m (SetTable.bits h) n
  exact ⟨k, by omega, (congrArg SetTable.Probe.j e2).trans e⟩

/-- a table in which each of these hashes is found again -/
structure Tab (t : SetTable) (hs : List Int) : Prop where
  ris : L2.Ris t.place.toList
  dm : t.dummies = #[]
  sz : t.place.size = hs.length
  one : Ones t.mask
  le : ∀ j ∈ t.place.toList, j ≤ t.mask
  way : ∀ (i : Nat) (h : Int) (j : Nat), hs[i]? = some h → t.place.toList[i]? = some j → ∃ k, L2.way t.mask h k = j ∧ ∀ k', k' < k → L2.way t.mask h k' ∈ t.place.toList
theorem Tab.len {t : SetTable} {hs : List Int} (T : Tab t hs) : t.place.toList.length = hs.length := by rw [Array.length_toList]; exact T.sz
/-- the first free place on the way -/
theorem Tab.free {t : SetTable} {hs : List Int} (T : Tab t hs) (hl : hs.length ≤ t.mask) (h : Int) :
    ∃ n, n < 10 * SetTable.turns t.mask ∧ L2.way t.mask h n ∉ t.place.toList ∧ ∀ k, k < n → L2.way t.mask h k ∈ t.place.toList := by
  obtain ⟨j, hj, hn⟩ := L2.st_missing t.place.toList (t.mask + 1) (by rw [T.len]; omega)
  obtain ⟨k, hk, e⟩ := way_meets T.one h (Nat.le_of_lt_succ hj)
  obtain ⟨n, n1, n2, n3⟩ := L2.st_least (p := fun k => L2.way t.mask h k ∉ t.place.toList) k (by rw [show L2.way t.mask h k = j from e]; exact hn)
  exact ⟨n, by omega, n2, fun k' hk' => Classical.byContradiction fun c => n3 k' hk' c⟩
/-- what has the hash stands before it -/
theorem Tab.pre {t : SetTable} {hs : List Int} (T : Tab t hs) {h : Int} {n i j : Nat} (hn : L2.way t.mask h n ∉ t.place.toList) (hi : hs[i]? = some h) (hj : t.place.toList[i]? = some j) : ∃ k, k < n ∧ L2.way t.mask h k = j := by
  obtain ⟨k, e, hb⟩ := T.way i h j hi hj
  have h1 : k ≠ n := fun z => hn (by rw [← z, e]; exact List.mem_of_getElem? hj)
  have h2 : ¬ n < k := fun z => hn (hb n z)
  exact ⟨k, by omega, e⟩
/-- one more, at the first free place -/
theorem Tab.put {t : SetTable} {hs : List Int} (T : Tab t hs) {h : Int} {n : Nat} (hn : L2.way t.mask h n ∉ t.place.toList) (hb : ∀ k, k < n → L2.way t.mask h k ∈ t.place.toList) {p : Nat} (hp : SetTable.below t.place (L2.way t.mask h n) = p) :
    (t.put (L2.way t.mask h n)).2 = p ∧ p ≤ hs.length ∧ Tab (t.put (L2.way t.mask h n)).1 (hs.take p ++ h :: hs.drop p) ∧ (t.put (L2.way t.mask h n)).1.mask = t.mask ∧ (t.put (L2.way t.mask h n)).1.led = t.led ∧
    (t.put (L2.way t.mask h n)).1.plain = t.plain ∧ (t.put (L2.way t.mask h n)).1.place.size = hs.length + 1 := by
  have hin : L2.way t.mask h n ≤ t.mask := way_in
  generalize hj : L2.way t.mask h n = j at hn hp hin
  obtain ⟨c1, _, _⟩ := L2.below_cut T.ris j
  have hph : p ≤ hs.length := by rw [← hp, ← T.sz]; exact c1
  have hpl : p ≤ t.place.toList.length := by rw [T.len]; exact hph
  have free : t.place[SetTable.below t.place j]? ≠ some j := fun z => hn (List.mem_of_getElem? (by rw [Array.getElem?_toList]; exact z))
  have new : (t.put j).1.place.toList = t.place.toList.take p ++ j :: t.place.toList.drop p := by rw [← hp]; exact L2.put_place t j
  have up : ∀ {x : Nat}, x ∈ t.place.toList → x ∈ (t.put j).1.place.toList := fun {x} hx => by rw [new]; exact L2.mem_ins.2 (.inr hx)
  have len : (t.put j).1.place.size = hs.length + 1 := by rw [← Array.length_toList, new, L2.len_ins _ hpl, T.len]
  refine ⟨hp, hph, ⟨L2.ris_insert T.ris free, L2.put_dm T.dm j, by rw [len, L2.len_ins _ hph], T.one, fun x hx => ?_, fun i h' j' h1 h2 => ?_⟩, rfl, rfl, rfl, len⟩
  · rw [new] at hx
    rcases L2.mem_ins.1 hx with z | z
    · rw [z]; exact hin
    · exact T.le x z
  · rw [L2.tins_get hs hph] at h1
    rw [new, L2.tins_get _ hpl] at h2
    have old : ∀ i, hs[i]? = some h' → t.place.toList[i]? = some j' → ∃ k, L2.way t.mask h' k = j' ∧ ∀ k', k' < k → L2.way t.mask h' k' ∈ (t.put j).1.place.toList := fun i a b =>
      let ⟨k, e, z⟩ := T.way i h' j' a b
      ⟨k, e, fun k' hk' => up (z k' hk')⟩
    show ∃ k, L2.way t.mask h' k = j' ∧ ∀ k', k' < k → L2.way t.mask h' k' ∈ (t.put j).1.place.toList
    split at h1
    · rename_i c
      rw [if_pos c] at h2
      exact old i h1 h2
    · rename_i c
      rw [if_neg c] at h2
      split at h1
      · rename_i d
        rw [if_pos d] at h2
        cases h1
        cases h2
        exact ⟨n, hj, fun k' hk' => up (hb k' hk')⟩
      · rename_i d
        rw [if_neg d] at h2
        exact old (i - 1) h1 h2

/-! all laid anew -/
theorem lay_free {m : Nat} (hm : Ones m) (owner : Array (Option Nat)) (h : Int) {j : Nat} (hj : j ≤ m) (hf : L2.oAt owner j = none) :
    ∃ n, SetTable.layClean.free m owner (SetTable.turns m) (SetTable.bits h % (m + 1)) (SetTable.bits h) = some (L2.way m h n) ∧ L2.oAt owner (L2.way m h n) = none ∧ ∀ k, k < n → L2.oAt owner (L2.way m h k) ≠ none := by
  obtain ⟨r, hr, e⟩ := runs_meet hm h hj
  have hw : L2.way m h (L2.off m (SetTable.bits h % (m + 1)) (SetTable.bits h) r) = j := by
    show (L2.nth m (L2.runAt m _ _) _).j = j
    rw [L2.nth_off, L2.itL_run]
    exact e
  obtain ⟨n, n1, n2, n3⟩ := L2.st_least (p := fun k => L2.oAt owner (L2.way m h k) = none) _ (by rw [hw]; exact hf)
  refine ⟨n, L2.free_spec m owner (SetTable.turns m) r _ _ n hr n1 (fun k hk => ?_) ?_, n2, n3⟩
  · have q := n3 k hk
    show (L2.oAt owner (L2.way m h k)).isNone = false
    cases z : L2.oAt owner (L2.way m h k) with
    | none => exact absurd z q
    | some _ => rfl
  · show (L2.oAt owner (L2.way m h n)).isNone = true
    rw [n2]
    rfl
theorem lay_step {m : Nat} (hm : Ones m) {done : List Int} {owner : Array (Option Nat)} (W : L2.Own m done owner) (hl : done.length ≤ m) (h : Int) :
    ∃ j, SetTable.layClean.free m owner (SetTable.turns m) (SetTable.bits h % (m + 1)) (SetTable.bits h) = some j ∧ L2.Own m (done ++ [h]) (owner.setIfInBounds j (some done.length)) := by
  obtain ⟨ps, hps, hin⟩ := W.ps
  obtain ⟨j0, h0, hn0⟩ := L2.st_missing ps (m + 1) (by omega)
  have hj0 : L2.oAt owner j0 = none := Classical.byContradiction fun z => hn0 (hin j0 (by omega) z)
  obtain ⟨n, e1, e2, e3⟩ := lay_free hm owner h (Nat.le_of_lt_succ h0) hj0
  have hjm : L2.way m h n ≤ m := way_in
  have hjs : L2.way m h n < owner.size := by rw [W.sz]; omega
  generalize hw : L2.way m h n = j at e1 e2 hjm hjs
  have self := L2.oAt_set_self (some done.length) hjs
  have up : ∀ {i : Nat}, L2.oAt owner i ≠ none → L2.oAt (owner.setIfInBounds j (some done.length)) i ≠ none := fun {i} hi => by
    by_cases c : i = j
    · rw [c, self]; exact Option.some_ne_none _
    · rw [L2.oAt_set_ne _ c]; exact hi
  refine ⟨j, e1, ⟨by rw [Array.size_setIfInBounds]; exact W.sz, fun i k hi e => ?_, fun k hk => ?_, j :: ps, by rw [List.length_cons, List.length_append, hps]; rfl, fun i hi e => ?_⟩⟩
  · by_cases c : i = j
    · subst c
      rw [self] at e
      cases e
      exact ⟨h, n, by simp, hw, fun k' hk' => up (e3 k' hk')⟩
    · rw [L2.oAt_set_ne _ c] at e
      obtain ⟨h', n', a1, a2, a3⟩ := W.at_ i k hi e
      exact ⟨h', n', by rw [List.getElem?_append_left (List.getElem?_eq_some_iff.mp a1).1]; exact a1, a2, fun k' hk' => up (a3 k' hk')⟩
  · rcases Nat.lt_or_ge k done.length with c | c
    · obtain ⟨i, hi, e⟩ := W.all k c
      exact ⟨i, hi, by rw [L2.oAt_set_ne _ (fun z => by rw [z, e2] at e; cases e)]; exact e⟩
    · rw [List.length_append, List.length_singleton] at hk
      have ek : k = done.length := by omega
      exact ⟨j, hjm, by rw [ek]; exact self⟩
  · by_cases c : i = j
    · rw [c]; exact List.mem_cons_self
    · rw [L2.oAt_set_ne _ c] at e
      exact List.mem_cons_of_mem _ (hin i hi e)
theorem lay_all {m : Nat} (hm : Ones m) : ∀ (rest done : List Int) (owner : Array (Option Nat)), L2.Own m done owner → done.length + rest.length ≤ m →
    ∃ owner', rest.foldl (L2.stepF m) (some (owner, done.length)) = some (owner', (done ++ rest).length) ∧ L2.Own m (done ++ rest) owner'
  | [], done, owner, W, _ => ⟨owner, by simp, by simpa using W⟩
  | h :: rest, done, owner, W, hl => by
    rw [List.length_cons] at hl
    obtain ⟨j, e, W'⟩ := lay_step hm W (by omega) h
    have hz : (done ++ [h]).length = done.length + 1 := by simp
    obtain ⟨owner', f, W2⟩ := lay_all hm rest (done ++ [h]) _ W' (by omega)
    have ea : done ++ [h] ++ rest = done ++ h :: rest := by simp
    rw [ea] at f W2
    rw [hz] at f
    exact ⟨owner', by rw [List.foldl_cons, L2.stepF_some e]; exact f, W2⟩
theorem lay_clean {m : Nat} (hm : Ones m) {hs : Array Int} (hn : hs.size ≤ m) : ∃ owner, SetTable.layClean m hs = some owner ∧ L2.Own m hs.toList owner := by
  obtain ⟨owner, f, W⟩ := lay_all hm hs.toList [] _ (L2.Own.init m) (by simpa using hn)
  rw [List.nil_append] at f W
  have f' : hs.toList.foldl (L2.stepF m) (some (Array.replicate (m + 1) none, 0)) = some (owner, hs.toList.length) := f
  exact ⟨owner, by rw [L2.layClean_eq, f']; rfl, W⟩
theorem relay_tab (t : SetTable) {hs : Array Int} {wanted m : Nat} (hw : SetTable.sizeAbove wanted - 1 = m) (hm : Ones m) (hn : hs.size ≤ m) :
    ∃ t' order, t.relaid hs wanted = some (t', order) ∧ order.toList.Perm (List.range hs.size) ∧ Tab t' (order.toList.map fun i => hs.getD i 0) ∧ t'.mask = m ∧ t'.led = t.led ∧ t'.plain = t.plain := by
  obtain ⟨owner, e, W⟩ := lay_clean hm hn
  have ris := L2.ris_live (fun j => owner.getD j none) (List.range (m + 1)) List.pairwise_lt_range
  have r1 : L2.Ris ((L2.liveOf m owner).map (·.1)) := ris.1
  have r2 : ∀ x ∈ (L2.liveOf m owner).map (·.1), x ∈ List.range (m + 1) := ris.2
  have nd : ((L2.liveOf m owner).map (·.1)).Nodup := r1.imp Nat.ne_of_lt
  have hz : hs.toList.length = hs.size := rfl
  have hlen : (L2.liveOf m owner).length = hs.size := by
    obtain ⟨ps, p1, p2⟩ := W.ps
    have a := L2.nat_nodup_len ((L2.liveOf m owner).map (·.1)) ps nd fun x hx => by
      obtain ⟨⟨y, k⟩, hq, rfl⟩ := List.mem_map.mp hx
      obtain ⟨b1, b2⟩ := (L2.mem_live W.sz).1 hq
      exact p2 y b1 (by rw [b2]; exact Option.some_ne_none _)
    have b := L2.nat_nodup_len (List.range hs.size) ((L2.liveOf m owner).map (·.2)) List.nodup_range fun k hk => by
      obtain ⟨j, b1, b2⟩ := W.all k (by rw [hz]; exact List.mem_range.mp hk)
      exact List.mem_map.mpr ⟨(j, k), (L2.mem_live W.sz).2 ⟨b1, b2⟩, rfl⟩
    rw [List.length_map, p1] at a
    rw [List.length_map, List.length_range] at b
    omega
  refine ⟨L2.tabOf t m owner, ((L2.liveOf m owner).map (·.2)).toArray, by rw [L2.relaid_eq, hw, e]; rfl, ?_, ⟨r1, rfl, ?_, hm, fun x hx => ?_, fun i h j h1 h2 => ?_⟩, rfl, rfl, rfl⟩
  · refine L2.perm_range hs.size _ (by simpa using hlen) fun k hk => ?_
    obtain ⟨j, b1, b2⟩ := W.all k (by rw [hz]; exact hk)
    exact List.mem_map.mpr ⟨(j, k), (L2.mem_live W.sz).2 ⟨b1, b2⟩, rfl⟩
  · simp [L2.tabOf]
  · exact Nat.le_of_lt_succ (List.mem_range.mp (r2 x hx))
  · have h1' : (((L2.liveOf m owner).map (·.2)).map fun i => hs.getD i 0)[i]? = some h := h1
    have h2' : ((L2.liveOf m owner).map (·.1))[i]? = some j := h2
    rw [List.getElem?_map, List.getElem?_map] at h1'
    rw [List.getElem?_map] at h2'
    cases hq : (L2.liveOf m owner)[i]? with
    | none => rw [hq] at h2'; cases h2'
    | some q =>
      obtain ⟨y, k⟩ := q
      rw [hq] at h1' h2'
      cases h2'
      obtain ⟨b1, b2⟩ := (L2.mem_live W.sz).1 (List.mem_of_getElem? hq)
      obtain ⟨h0, n, a1, a2, a3⟩ := W.at_ _ _ b1 b2
      have e0 : hs.getD k 0 = h0 := by rw [Array.getD_eq_getD_getElem?, ← Array.getElem?_toList, a1]; rfl
      have eh : hs.getD k 0 = h := Option.some.inj h1'
      obtain rfl : h0 = h := e0.symm.trans eh
      refine ⟨n, a2, fun k' hk' => ?_⟩
      show L2.way m h0 k' ∈ (L2.liveOf m owner).map (·.1)
      cases z : L2.oAt owner (L2.way m h0 k') with
      | none => exact absurd z (a3 k' hk')
      | some k2 => exact List.mem_map.mpr ⟨(L2.way m h0 k', k2), (L2.mem_live W.sz).2 ⟨way_in, z⟩, rfl⟩
end MV
end

section
set_option maxHeartbeats 4000000
/-! sets of nested tuples: searching, adding -/
namespace MV
open PySem PySem.Spec PyProof.Rows L2

/-- the tuple at a is the key k -/
def IsN (h : Heap) (k : NestedKey) (a : Addr) : Prop := NestedIs h k (.ref a) ∧ k.depth ≤ 8
section
variable {P : Program} {w : World} {A : Around} {E : Value → Shared → Prop} {s : Shared}
mutual
theorem noClass : ∀ (k : NestedKey) (v : Value) (n : Nat), NestedIs s.heap k v → k.depth ≤ n → ∀ (E : Value → Shared → Prop) (Q : Bool → Shared → Prop), Q false s → wpAny (model P w) A (ofAClassStatement n v) Q E s
  | .none, v, n, x, _, E, Q, q => by cases x; cases n <;> exact wpAny_pure q
  | .num i, v, n, x, _, E, Q, q => by cases x <;> cases n <;> exact wpAny_pure q
  | .text z, v, n, x, _, E, Q, q => by cases x; cases n <;> exact wpAny_pure q
  | .tup ks, v, n, x, hn, E, Q, q => by
    cases x with
    | @tup a o vs m _ ho hc hd hk =>
      simp only [NestedKey.depth] at hn
      obtain ⟨n, rfl⟩ : ∃ j, n = j + 1 := ⟨n - 1, by omega⟩
      have items := noClasses ks vs.toList n hk (by omega)
      have hT : s.TypeIs (.ref a) "tuple" := ⟨o, ho, hc⟩
      unfold ofAClassStatement
      refine wpAny_bind (wpAny_typeOf hT ?_)
      dsimp only
      simp only [show (("tuple" : String) == "tuple") = true by decide, if_true, Bool.not_true, Bool.false_eq_true, if_false]
      try refine wpAny_bind (wpAny_pure ?_)
      try simp only [Bool.not_true, Bool.false_eq_true, if_false]
      show wpAny _ _ (seqItems? (.ref a) >>= _) _ _ s
      refine wpAny_bind (wpAny_seqItems ho hd ?_)
      dsimp only
      refine wpAny_bind ?_
      show wpAny _ _ (forIn vs _ _) _ _ s
      rw [← Array.forIn_toList]
      refine wpAny_forIn_list _ (fun rest r s' => r.1 = none ∧ s' = s ∧ ∀ v ∈ rest, v ∈ vs.toList) _ ?_ ?_ _ _ ⟨rfl, rfl, fun _ z => z⟩
      · rintro v rest r s' ⟨hr, rfl, hall⟩
        refine wpAny_bind (items v (hall v List.mem_cons_self) _ _ ?_)
        simp only [Bool.false_eq_true, if_false]
        exact wpAny_pure ⟨rfl, rfl, fun u hu => hall u (List.mem_cons_of_mem _ hu)⟩
      · rintro ⟨r1, r2⟩ s' ⟨hr, rfl, _⟩
        simp only at hr
        subst hr
        exact wpAny_pure q
theorem noClasses : ∀ (ks : List NestedKey) (vs : List Value) (n : Nat), NestedAll s.heap ks vs → NestedKey.depthAll ks ≤ n → ∀ v ∈ vs, ∀ (E : Value → Shared → Prop) (Q : Bool → Shared → Prop), Q false s → wpAny (model P w) A (ofAClassStatement n v) Q E s
  | [], _, n, x, _, v, hv, E, Q, q => by cases x; cases hv
  | k :: ks, _, n, x, hn, v, hv, E, Q, q => by
    cases x with
    | cons x1 x2 =>
      simp only [NestedKey.depthAll] at hn
      rcases List.mem_cons.mp hv with e | hv
      · rw [e]; exact noClass k _ n x1 (by omega) E Q q
      · exact noClasses ks _ n x2 (by omega) v hv E Q q
end
mutual
theorem byValue_key : ∀ (k : NestedKey) (v : Value) (n : Nat), NestedIs s.heap k v → ∀ (E : Value → Shared → Prop) (Q : Bool → Shared → Prop), (∀ b, Q b s) → wpAny (model P w) A (hashByValue n v) Q E s
  | .none, v, n, x, E, Q, q => by cases x; cases n <;> exact wpAny_pure (q _)
  | .num i, v, n, x, E, Q, q => by cases x <;> cases n <;> exact wpAny_pure (q _)
  | .text z, v, n, x, E, Q, q => by cases x; cases n <;> exact wpAny_pure (q _)
  | .tup ks, v, n, x, E, Q, q => by
    cases x with
    | @tup a o vs m _ ho hc hd hk =>
      cases n with
      | zero => exact wpAny_pure (q _)
      | succ n =>
        have items := byValue_keys ks vs.toList n hk
        have hT : s.TypeIs (.ref a) "tuple" := ⟨o, ho, hc⟩
        unfold hashByValue
        refine wpAny_bind (wpAny_specialOf hT F.slot_tuple_hash.lookup ?_)
        show wpAny _ _ (seqItems? (.ref a) >>= _) _ _ s
        refine wpAny_bind (wpAny_seqItems ho hd ?_)
        refine wpAny_bind ?_
        show wpAny _ _ (forIn vs _ _) _ _ s
        rw [← Array.forIn_toList]
        refine wpAny_forIn_list _ (fun rest r s' => s' = s ∧ ∀ v ∈ rest, v ∈ vs.toList) _ ?_ ?_ _ _ ⟨rfl, fun _ z => z⟩
        · rintro v rest r s' ⟨rfl, hall⟩
          refine wpAny_bind (items v (hall v List.mem_cons_self) _ _ fun b => ?_)
          cases b
          · simp only [Bool.not_false, if_true]
            exact wpAny_pure (wpAny_pure (q _))
          · simp only [Bool.not_true, Bool.false_eq_true, if_false]
            exact wpAny_pure ⟨rfl, fun u hu => hall u (List.mem_cons_of_mem _ hu)⟩
        · rintro ⟨r1, r2⟩ s' ⟨rfl, _⟩
          cases r1 with
          | none => exact wpAny_pure (q _)
          | some b => exact wpAny_pure (q _)
theorem byValue_keys : ∀ (ks : List NestedKey) (vs : List Value) (n : Nat), NestedAll s.heap ks vs → ∀ v ∈ vs, ∀ (E : Value → Shared → Prop) (Q : Bool → Shared → Prop), (∀ b, Q b s) → wpAny (model P w) A (hashByValue n v) Q E s
  | [], _, n, x, v, hv, E, Q, q => by cases x; cases hv
  | k :: ks, _, n, x, v, hv, E, Q, q => by
    cases x with
    | cons x1 x2 =>
      rcases List.mem_cons.mp hv with e | hv
      · rw [e]; exact byValue_key k _ n x1 E Q q
      · exact byValue_keys ks _ n x2 v hv E Q q
end
/-- a search among tuples shows nothing -/
theorem noneSeen {k : NestedKey} {b : Addr} {Q : Bool → Shared → Prop} (hk : IsN s.heap k b) {ys : List Value} (hy : ∀ y ∈ ys, ∃ k' c, y = Value.ref c ∧ IsN s.heap k' c) (q : Q false s) : wpAny (model P w) A (searchCouldBeSeen (.ref b) ys) Q E s := by
  unfold searchCouldBeSeen
  refine wpAny_bind ?_
  refine wpAny_forIn_list _ (fun rest r s' => r.1 = none ∧ s' = s ∧ ∀ y ∈ rest, ∃ k' c, y = Value.ref c ∧ IsN s.heap k' c) _ ?_ ?_ _ _ ⟨rfl, rfl, hy⟩
  · rintro v rest r s' ⟨hr, rfl, hall⟩
    obtain ⟨k', c, rfl, hc⟩ := hall v List.mem_cons_self
    have later := fun u (hu : u ∈ rest) => hall u (List.mem_cons_of_mem _ hu)
    dsimp only
    by_cases hv : (b == c || (carriedByValue (.ref b) && carriedByValue (.ref c))) = true
    · exact wp_if_pos hv (wpAny_pure ⟨rfl, rfl, later⟩)
    · refine wp_if_neg hv ?_
      refine wpAny_bind (quiet_key k _ 8 _ hk.1 hk.2 _ _ _ ?_)
      simp only [Bool.not_true, Bool.false_eq_true, if_false]
      refine wpAny_bind (quiet_key k' _ 8 _ hc.1 hc.2 _ _ _ ?_)
      simp only [Bool.not_true, Bool.false_eq_true, if_false]
      refine wpAny_bind (noClass k _ 8 hk.1 hk.2 _ _ ?_)
      simp only [Bool.false_eq_true, if_false]
      refine wpAny_bind (noClass k' _ 8 hc.1 hc.2 _ _ ?_)
      simp only [Bool.false_eq_true, if_false]
      exact wpAny_pure ⟨rfl, rfl, later⟩
  · rintro ⟨r1, r2⟩ s' ⟨hr, rfl, _⟩
    simp only at hr
    subst hr
    exact wpAny_pure q

/-! the set -/
def rowsN (w : World) (L : List (Addr × NestedKey)) : List (Int × Value) := L.map fun p => (p.2.hash w, Value.ref p.1)
def hashesN (w : World) (L : List (Addr × NestedKey)) : List Int := L.map fun p => p.2.hash w
theorem rowsN_length {w : World} {L : List (Addr × NestedKey)} {es : Array (Int × Value)} (e : es.toList = rowsN w L) : es.size = L.length := by
  have h := congrArg List.length e
  rwa [Array.length_toList, rowsN, List.length_map] at h
structure SetN (w : World) (h : Heap) (a : Addr) (L : List (Addr × NestedKey)) (es : Array (Int × Value)) (ep : Nat) (t : SetTable) : Prop where
  ob : ∃ o, h.get? a = some o ∧ o.ExactSet ∧ o.data = .set es ep t
  rows : es.toList = rowsN w L
  tab : Tab t (hashesN w L)
  nd : (L.map (·.2)).Nodup
  tup : ∀ p ∈ L, IsN h p.2 p.1
  led : w.params.followText "set-order" = true ∨ t.led = true
  room : L.length * 5 < t.mask * 3
theorem fits_of {t : SetTable} {n m : Nat} {hs : List Int} (T : Tab t hs) (hn : hs.length = n) (hm : n ≤ t.mask) : t.fits n = true := by
  unfold SetTable.fits SetTable.fill
  rw [T.dm, Bool.and_eq_true, beq_iff_eq, decide_eq_true_eq, T.sz, hn]
  exact ⟨rfl, hm⟩
variable {a : Addr} {L : List (Addr × NestedKey)} {es : Array (Int × Value)} {ep : Nat} {t : SetTable}
theorem SetN.size (R : SetN w s.heap a L es ep t) : es.size = L.length := rowsN_length R.rows
theorem SetN.len (R : SetN w s.heap a L es ep t) : L.length ≤ t.mask := by have := R.room; omega
theorem SetN.fits (R : SetN w s.heap a L es ep t) : t.fits es.size = true := fits_of (m := 0) R.tab (by rw [hashesN, List.length_map, R.size]) (by rw [R.size]; exact R.len)
theorem SetN.entry (R : SetN w s.heap a L es ep t) {i : Nat} {p : Addr × NestedKey} (h : L[i]? = some p) : es[i]? = some (p.2.hash w, Value.ref p.1) := by
  rw [← Array.getElem?_toList, R.rows, rowsN, List.getElem?_map, h]
  rfl

/-- the probe at the c-th step -/
abbrev prN (m : Nat) (h : Int) (c : Nat) : SetTable.Probe := L2.nth m (L2.runAt m (SetTable.bits h % (m + 1)) (SetTable.bits h)) c
theorem prN_dummy (m : Nat) : ∀ (n : Nat) (p : SetTable.Probe), p.dummy = none → (L2.nth m p n).dummy = none
  | 0, _, h => h
  | n + 1, p, h => prN_dummy m n _ (by unfold L2.adv; split <;> exact h)
theorem prN_add (m : Nat) (h : Int) (c q : Nat) : L2.nth m (prN m h c) q = prN m h (c + q) := (L2.nth_add m c _ q).symm
/-- the search from the c-th step on -/
theorem find_from (R : SetN w s.heap a L es ep t) {x : Addr} {k : NestedKey} (hx : IsN s.heap k x) (hu : A.units + 8 < cLine) {n : Nat} (hnf : n < 10 * SetTable.turns t.mask)
    (hn : L2.way t.mask (k.hash w) n ∉ t.place.toList) (hb : ∀ c, c < n → L2.way t.mask (k.hash w) c ∈ t.place.toList) {Q : SetFound → Shared → Prop}
    (hin : k ∈ L.map (·.2) → Q (.there none) s) (hout : k ∉ L.map (·.2) → Q (.free (L2.way t.mask (k.hash w) n) false) s) :
    ∀ (f c : Nat) (stand : Option SetTable.Probe), stand.getD (t.probeStart (k.hash w)) = prN t.mask (k.hash w) c → c ≤ n → n - c < f →
      (∀ (i : Nat) p, L[i]? = some p → p.2 = k → ∃ c', c ≤ c' ∧ c' < n ∧ t.place.toList[i]? = some (L2.way t.mask (k.hash w) c')) →
      wpAny (model P w) A (setSearchFrom a (.ref x) (k.hash w) true f stand) Q E s
  | 0, c, stand, _, _, hf, _ => absurd hf (Nat.not_lt_zero _)
  | f + 1, c, stand, hst, hc, hf, hre => by
    obtain ⟨o, ho, hex, hd⟩ := R.ob
    rw [L2.setSearchFrom_succ]
    refine wpAny_bind (wpAny_setState_of ho hd R.fits ?_)
    dsimp only
    refine wp_if_neg (by unfold SetTable.gaveWay; rw [R.tab.one.odd]; decide) ?_
    try refine wpAny_bind (wpAny_pure ?_)
    have wy : ∀ q, (L2.nth t.mask (prN t.mask (k.hash w) c) q).j = L2.way t.mask (k.hash w) (c + q) := fun q => congrArg SetTable.Probe.j (prN_add t.mask (k.hash w) c q)
    have hashAt : ∀ (i : Nat) p, L[i]? = some p → (es[i]?.map (·.1)).getD 0 = p.2.hash w := fun i p hp => by rw [R.entry hp]; rfl
    have spec := L2.go_spec t R.tab.ris R.tab.dm (fun i => (es[i]?.map (·.1)).getD 0) (k.hash w) (10 * SetTable.turns t.mask) (n - c) (prN t.mask (k.hash w) c) (prN_dummy _ _ _ rfl) (by omega)
      (fun q hq => by rw [wy]; exact hb (c + q) (by omega)) (by rw [wy, show c + (n - c) = n by omega]; exact hn)
    have probe : ∀ {m : SetTable.Met}, SetTable.probe.go t (fun i => (es[i]?.map (·.1)).getD 0) (k.hash w) (10 * SetTable.turns t.mask) (prN t.mask (k.hash w) c) = some m →
        t.probe (fun i => (es[i]?.map (·.1)).getD 0) (k.hash w) (stand.getD (t.probeStart (k.hash w))) = some m := fun {m} e => by rw [hst]; exact e
    rcases spec with ⟨q, i, hq, hi, hh, hno, hpr⟩ | ⟨hno, hpr⟩
    · rw [probe hpr]
      dsimp only
      rw [wy] at hi
      have hil : i < L.length := by
        have h1 := (List.getElem?_eq_some_iff.mp hi).1
        rwa [R.tab.len, hashesN, List.length_map] at h1
      obtain ⟨p, hp⟩ : ∃ p, L[i]? = some p := ⟨_, List.getElem?_eq_getElem hil⟩
      have hmem : p ∈ L := List.mem_of_getElem? hp
      have go : wpAny (model P w) A (L2.searchRest a (.ref x) (k.hash w) true f es t (L2.nth t.mask (prN t.mask (k.hash w) c) q).j i (L2.nth t.mask (prN t.mask (k.hash w) c) (q + 1))) Q E s := by
        rw [wy, prN_add]
        unfold L2.searchRest
        rw [R.entry hp]
        dsimp only
        refine wpAny_bind (wpAny_holding ((nestedKind P w).eqBool hu (R.tup p hmem) hx ?_))
        refine wpAny_bind (wpAny_setState_of ho hd R.fits ?_)
        dsimp only
        by_cases hkk : p.2 = k
        · exact wp_if_pos (by simp [hkk]) (wpAny_pure (hin (List.mem_map.mpr ⟨p, hmem, hkk⟩)))
        · refine wp_if_neg (by simp [hkk]) ?_
          try refine wpAny_bind (wpAny_pure ?_)
          rw [L2.sameMem]
          dsimp only
          have hsl : t.slot (L2.way t.mask (k.hash w) (c + q)) = .live i := L2.slot_live R.tab.ris hi
          simp only [if_true, hsl, R.entry hp]
          refine wpAny_bind (wpAny_isSame_ref_self (wpAny_bind (wpAny_pure ?_)))
          simp only [if_true]
          refine wp_if_neg (by simp [hkk]) ?_
          refine find_from R hx hu hnf hn hb hin hout f (c + (q + 1)) _ rfl (by omega) (by omega) fun i0 p0 h0 hk0 => ?_
          obtain ⟨c', a1, a2, a3⟩ := hre i0 p0 h0 hk0
          refine ⟨c', Classical.byContradiction fun z => ?_, a2, a3⟩
          rcases Nat.lt_or_ge c' (c + q) with y | y
          · exact hno (c' - c) i0 (by omega) (by rw [wy, show c + (c' - c) = c' by omega]; exact a3) ((hashAt i0 p0 h0).trans (by rw [hk0]))
          · obtain rfl : c' = c + q := by omega
            have s0 := L2.slot_live R.tab.ris a3
            rw [hsl] at s0
            injection s0 with s0
            rw [← s0, hp] at h0
            cases h0
            exact hkk hk0
      by_cases hl : t.led = true
      · refine wp_if_neg (by simp [hl]) ?_
        try refine wpAny_bind (wpAny_pure ?_)
        exact go
      · refine wp_if_pos (by simp [hl]) ?_
        refine wpAny_bind (noneSeen hx (fun y hy => ?_) ?_)
        · obtain ⟨e, he, ee⟩ := List.mem_map.mp hy
          have he1 : e ∈ es ∧ e.1 = k.hash w := by simpa using he
          have he2 : e ∈ es.toList := by simpa using he1.1
          rw [R.rows] at he2
          obtain ⟨p2, hp2, e2⟩ := List.mem_map.mp he2
          exact ⟨p2.2, p2.1, by rw [← ee, ← e2], R.tup p2 hp2⟩
        · refine wp_if_neg (by decide) ?_
          try refine wpAny_bind (wpAny_pure ?_)
          exact go
    · rw [probe hpr]
      dsimp only
      rw [wy, show c + (n - c) = n by omega]
      refine wpAny_pure (hout fun hm => ?_)
      obtain ⟨p0, h0, hk0⟩ := List.mem_map.mp hm
      obtain ⟨i0, hi0, e0⟩ := List.getElem_of_mem h0
      have h00 : L[i0]? = some p0 := by rw [List.getElem?_eq_getElem hi0, e0]
      obtain ⟨c', a1, a2, a3⟩ := hre i0 p0 h00 hk0
      exact hno (c' - c) i0 (by omega) (by rw [wy, show c + (c' - c) = c' by omega]; exact a3) ((hashAt i0 p0 h00).trans (by rw [hk0]))
theorem find_at (R : SetN w s.heap a L es ep t) {x : Addr} {k : NestedKey} (hx : IsN s.heap k x) (hu : A.units + 8 < cLine) {Q : SetFound → Shared → Prop} (hin : k ∈ L.map (·.2) → Q (.there none) s)
    (hout : ∀ n, k ∉ L.map (·.2) → L2.way t.mask (k.hash w) n ∉ t.place.toList → (∀ c, c < n → L2.way t.mask (k.hash w) c ∈ t.place.toList) → Q (.free (L2.way t.mask (k.hash w) n) false) s) :
    wpAny (model P w) A (setSearch a (.ref x) (k.hash w) true) Q E s := by
  obtain ⟨n, hnf, hn, hb⟩ := R.tab.free (by rw [hashesN, List.length_map]; exact R.len) (k.hash w)
  have big : n < 100000 := by
    have := R.tab.one.le
    unfold SetTable.turns at hnf
    omega
  unfold setSearch
  refine find_from R hx hu hnf hn hb hin (fun z => hout n z hn hb) 100000 0 none rfl (Nat.zero_le _) (by omega) fun i p hp hk => ?_
  have hi : (hashesN w L)[i]? = some (k.hash w) := by rw [hashesN, List.getElem?_map, hp, ← hk]; rfl
  have hil : i < t.place.toList.length := by
    rw [R.tab.len, hashesN, List.length_map]
    exact (List.getElem?_eq_some_iff.mp hp).1
  have hj := List.getElem?_eq_getElem hil
  obtain ⟨c, hc, e⟩ := R.tab.pre hn hi hj
  exact ⟨c, Nat.zero_le _, hc, by rw [hj, e]⟩

theorem isN_same {h h' : Heap} {k : NestedKey} {a b : Addr} {o : Obj} {es : Array (Int × Value)} {ep : Nat} {t : SetTable} (hb : IsN h k b) (ho : h.get? a = some o) (hd : o.data = .set es ep t) (hs : Heap.SameBut a h h') : IsN h' k b :=
  ⟨NestedIs.at (fun c o' vs n hc hq => (hs.2 c (by
    rintro rfl
    obtain rfl : o' = o := Option.some.inj (hc.symm.trans ho)
    rw [hd] at hq
    cases hq)).trans hc) k _ hb.1, hb.2⟩
theorem isN_keep {h h' : Heap} {k : NestedKey} {b : Addr} (x : IsN h k b) (hk : ∀ c o, h.get? c = some o → h'.get? c = some o) : IsN h' k b := ⟨NestedIs.at (fun c o vs n hc _ => hk c o hc) k _ x.1, x.2⟩
theorem pick_all {α : Type} (l : List α) : (List.range l.length).filterMap (fun i => l[i]?) = l := PySem.List.filterMap_getElem?_range_length l
theorem pick_congr {α β : Type} {f g : α → Option β} : ∀ {l : List α}, (∀ x ∈ l, f x = g x) → l.filterMap f = l.filterMap g
  | [], _ => rfl
  | x :: l, h => by
    rw [List.filterMap_cons, List.filterMap_cons, h x List.mem_cons_self, pick_congr fun y hy => h y (List.mem_cons_of_mem _ hy)]
/-- entries in a new order -/
theorem rows_order (L : List (Addr × NestedKey)) (es : Array (Int × Value)) (order : Array Nat) (hr : es.toList = rowsN w L) (hp : order.toList.Perm (List.range L.length)) :
    ∃ Lz, (order.filterMap (es[·]?)).toList = rowsN w Lz ∧ Lz.Perm L ∧ hashesN w Lz = order.toList.map fun i => (es.map (·.1)).getD i 0 := by
  have ent : ∀ (i : Nat) (p : Addr × NestedKey), L[i]? = some p → es[i]? = some (p.2.hash w, Value.ref p.1) := fun i p h => by rw [← Array.getElem?_toList, hr, rowsN, List.getElem?_map, h]; rfl
  refine ⟨order.toList.filterMap fun i => L[i]?, ?_, ?_, ?_⟩
  · rw [Array.toList_filterMap, rowsN, List.map_filterMap]
    refine pick_congr fun i hi => ?_
    have hil : i < L.length := List.mem_range.mp (hp.mem_iff.mp hi)
    rw [ent i _ (List.getElem?_eq_getElem hil), List.getElem?_eq_getElem hil]
    rfl
  · have h := hp.filterMap fun i => L[i]?
    rwa [pick_all] at h
  · rw [hashesN, List.map_filterMap, ← List.filterMap_eq_map]
    refine pick_congr fun i hi => ?_
    have hil : i < L.length := List.mem_range.mp (hp.mem_iff.mp hi)
    have e5 : (es.map (·.1))[i]? = some ((L[i]).2.hash w) := by rw [Array.getElem?_map, ent i _ (List.getElem?_eq_getElem hil)]; rfl
    rw [List.getElem?_eq_getElem hil, Function.comp, Array.getD_eq_getD_getElem?, e5]
    rfl
theorem relay_set {o : Obj} (ho : s.heap.get? a = some o) (hex : o.ExactSet) (hd : o.data = .set es ep t) (hrows : es.toList = rowsN w L) (T : Tab t (hashesN w L)) (hl : L.length ≤ t.mask) (nd : (L.map (·.2)).Nodup) (tup : ∀ p ∈ L, IsN s.heap p.2 p.1)
    (ld : w.params.followText "set-order" = true ∨ t.led = true) {wanted m : Nat} (hw : SetTable.sizeAbove wanted - 1 = m) (hm : Ones m) (hn : L.length * 5 < m * 3) {Q : Unit → Shared → Prop}
    (hQ : ∀ h' L' es' ep' t', Heap.SameBut a s.heap h' → SetN w h' a L' es' ep' t' → L'.Perm L → Q () { s with heap := h' }) : wpAny (model P w) A (setRelay a wanted) Q E s := by
  have hsl := rowsN_length hrows
  have hml := hm.le
  obtain ⟨t', order, e, hp, T', em, el, _⟩ := relay_tab t (hs := es.map (·.1)) (wanted := wanted) hw hm (by rw [Array.size_map, hsl]; omega)
  rw [Array.size_map, hsl] at hp
  obtain ⟨Lz, r1, r2, r3⟩ := rows_order (w := w) L es order hrows hp
  rw [← r3] at T'
  have hs2 : (order.filterMap (es[·]?)).size = es.size := by rw [rowsN_length r1, hsl, r2.length_eq]
  rw [L2.setRelay_eq]
  refine wpAny_bind (wpAny_setState_of ho hd (fits_of (m := 0) T (by rw [hashesN, List.length_map, hsl]) (by rw [hsl]; exact hl)) ?_)
  dsimp only
  refine wp_if_neg (by rw [sizeLine_eq]; omega) ?_
  try refine wpAny_bind (wpAny_pure ?_)
  rw [e]
  dsimp only
  refine wpAny_bind ?_
  refine wp_if_neg (by rw [hs2]; simp) ?_
  try refine wpAny_bind (wpAny_pure ?_)
  refine wpAny_pure ?_
  dsimp only
  refine wpAny_storeSet_of ho hd ?_ (by rw [hs2, hsl, sizeLine_eq]; omega)
  have sb : Heap.SameBut a s.heap (s.heap.update a (Obj.putSet (order.filterMap (es[·]?)) t')) := Heap.SameBut.update ..
  refine hQ _ Lz (order.filterMap (es[·]?)) (ep + 1) t' sb ⟨⟨_, store_at ho hd, ⟨hex.1, hex.2.1, hex.2.2⟩, rfl⟩, r1, T', (r2.map (·.2)).nodup_iff.mpr nd, fun p hpm => isN_same (tup p (r2.mem_iff.mp hpm)) ho hd sb, by rw [el]; exact ld, ?_⟩ r2
  rw [r2.length_eq, em]
  exact hn
/-- the sizes that come when it grows -/
theorem grows {m n : Nat} (hm : Ones m) (h1 : n * 5 < m * 3) (h2 : (n + 1) * 5 ≥ m * 3) (h3 : n + 1 ≤ 4914) : ∃ m', SetTable.sizeAbove (SetTable.grown (n + 1)) - 1 = m' ∧ Ones m' ∧ (n + 1) * 5 < m' * 3 := by
  obtain ⟨k, k1, k2, e⟩ := hm
  have cases4 : n = 4 ∨ n = 18 ∨ n = 76 ∨ n = 306 ∨ n = 1228 := by
    have : k = 3 ∨ k = 5 ∨ k = 7 ∨ k = 9 ∨ k = 11 ∨ k = 13 := by omega
    rcases this with h | h | h | h | h | h <;> subst h <;> simp at e <;> omega
  rcases cases4 with rfl | rfl | rfl | rfl | rfl
  · exact ⟨31, by decide +kernel, ⟨5, by decide, by decide, rfl⟩, by decide⟩
  · exact ⟨127, by decide +kernel, ⟨7, by decide, by decide, rfl⟩, by decide⟩
  · exact ⟨511, by decide +kernel, ⟨9, by decide, by decide, rfl⟩, by decide⟩
  · exact ⟨2047, by decide +kernel, ⟨11, by decide, by decide, rfl⟩, by decide⟩
  · exact ⟨8191, by decide +kernel, ⟨13, by decide, by decide, rfl⟩, by decide⟩
end
end MV
end

section
set_option maxHeartbeats 4000000
/-! sets filled from a list or a tuple -/
namespace MV
open PySem PySem.Spec PyProof.Rows L2

section
variable {P : Program} {w : World} {A : Around} {E : Value → Shared → Prop} {s : Shared} {a : Addr} {L : List (Addr × NestedKey)} {es : Array (Int × Value)} {ep : Nat} {t : SetTable}
/-- one more tuple -/
theorem add_set (R : SetN w s.heap a L es ep t) {x : Addr} {k : NestedKey} (hx : IsN s.heap k x) (hu : A.units + 8 < cLine) (few : L.length + 1 ≤ 4914) {Q : Bool → Shared → Prop}
    (hQ : ∀ b h' L' es' ep' t', Heap.SameBut a s.heap h' → SetN w h' a L' es' ep' t' → (k ∈ L.map (·.2) → L' = L) → (k ∉ L.map (·.2) → L'.Perm ((x, k) :: L)) → Q b { s with heap := h' }) :
    wpAny (model P w) A (setAddHashed a (.ref x) (k.hash w)) Q E s := by
  obtain ⟨o, ho, hex, hd⟩ := R.ob
  have hsl := R.size
  have hroom := R.room
  unfold setAddHashed
  refine wpAny_holding ?_
  rw [show (100000 : Nat) = 99999 + 1 from rfl, L2.setAddHashedIn_succ]
  refine wpAny_bind (wpAny_setState_of ho hd R.fits ?_)
  dsimp only
  refine wp_if_neg (by simp [byScan, Value.scannable]) ?_
  try refine wpAny_bind (wpAny_pure ?_)
  refine wpAny_bind (find_at R hx hu (fun hm => ?_) fun n hm hn hb => ?_)
  · exact wpAny_pure (hQ false s.heap L es ep t (Heap.SameBut.refl a s.heap) R (fun _ => rfl) fun z => absurd hm z)
  · dsimp only
    refine wpAny_bind (wpAny_setState_of ho hd R.fits ?_)
    dsimp only
    generalize hp : SetTable.below t.place (L2.way t.mask (k.hash w) n) = p
    obtain ⟨q1, q2, q3, q4, q5, q6, q7⟩ := R.tab.put hn hb hp
    generalize hpt : t.put (L2.way t.mask (k.hash w) n) = pt at q1 q3 q4 q5 q6 q7 ⊢
    obtain ⟨t1, p1⟩ := pt
    dsimp only at q1 q3 q4 q5 q6 q7 ⊢
    subst q1
    have hin : (SetTable.insertAt es p1 (k.hash w, Value.ref x)).toList = rowsN w (L.take p1 ++ (x, k) :: L.drop p1) := by
      rw [SetTable.toList_insertAt, R.rows, rowsN, rowsN, List.map_append, List.map_cons, List.map_take, List.map_drop]
    have hhs : hashesN w (L.take p1 ++ (x, k) :: L.drop p1) = (hashesN w L).take p1 ++ k.hash w :: (hashesN w L).drop p1 := by
      rw [hashesN, hashesN, List.map_append, List.map_cons, List.map_take, List.map_drop]
    rw [← hhs] at q3
    have pm : (L.take p1 ++ (x, k) :: L.drop p1).Perm ((x, k) :: L) := by
      have := List.perm_middle (a := (x, k)) (l₁ := L.take p1) (l₂ := L.drop p1)
      rwa [List.take_append_drop] at this
    generalize L.take p1 ++ (x, k) :: L.drop p1 = L1 at pm hin q3
    have hlen : L1.length = L.length + 1 := pm.length_eq
    have nd1 : (L1.map (·.2)).Nodup := (pm.map (·.2)).nodup_iff.mpr (by rw [List.map_cons]; exact List.nodup_cons.mpr ⟨hm, R.nd⟩)
    have hes := rowsN_length hin
    generalize SetTable.insertAt es p1 (k.hash w, Value.ref x) = es1 at hin hes ⊢
    have last : ∀ t2 : SetTable, t2.place = t1.place → t2.dummies = t1.dummies → t2.mask = t1.mask → t2.led = t1.led →
        wpAny (model P w) A (do
          storeSet a es1 t2
          if !false && t2.tooFull then setRelay a (SetTable.grown (es.size + 1))
          return true) Q E s := by
      intro t2 f1 f2 f3 f4
      have T2 : Tab t2 (hashesN w L1) := ⟨by rw [f1]; exact q3.ris, by rw [f2]; exact q3.dm, by rw [f1]; exact q3.sz, by rw [f3]; exact q3.one, by rw [f1, f3]; exact q3.le, by rw [f1, f3]; exact q3.way⟩
      refine wpAny_bind (wpAny_storeSet_of ho hd ?_ (by rw [hes, hlen, sizeLine_eq]; omega))
      have sb : Heap.SameBut a s.heap (s.heap.update a (Obj.putSet es1 t2)) := Heap.SameBut.update ..
      have ho1 := store_at (es' := es1) (t' := t2) ho hd
      generalize s.heap.update a (Obj.putSet es1 t2) = h1 at sb ho1 ⊢
      have tup1 : ∀ p ∈ L1, IsN h1 p.2 p.1 := fun p hp => by
        rcases List.mem_cons.mp (pm.mem_iff.mp hp) with e | hp
        · rw [e]; exact isN_same hx ho hd sb
        · exact isN_same (R.tup p hp) ho hd sb
      have ld2 : w.params.followText "set-order" = true ∨ t2.led = true := by rw [f4, q5]; exact R.led
      have fill2 : t2.tooFull = decide ((L.length + 1) * 5 ≥ t.mask * 3) := by
        unfold SetTable.tooFull SetTable.fill
        rw [f3, q4, T2.dm, T2.sz, hashesN, List.length_map, hlen]
        rfl
      by_cases hf : t2.tooFull = true
      · first
          | (refine wpAny_bind ?_; refine wp_if_pos (by simp [hf]) ?_)
          | (refine wp_if_pos (by simp [hf]) ?_; refine wpAny_bind ?_)
        rw [fill2, decide_eq_true_eq] at hf
        obtain ⟨m', g1, g2, g3⟩ := grows R.tab.one hroom hf (by omega)
        rw [hsl]
        refine relay_set (s := { s with heap := h1 }) ho1 ⟨hex.1, hex.2.1, hex.2.2⟩ rfl hin T2 (by rw [hlen, f3, q4]; have := R.tab.one; obtain ⟨k', k1, k2, e⟩ := this; have := Nat.pow_le_pow_right (show 0 < 2 by decide) k1; omega) nd1 tup1 ld2 g1 g2 (by rw [hlen]; exact g3) ?_
        intro h2 L3 es2 ep2 t3 sb2 R2 pm2
        exact wpAny_pure (hQ true h2 L3 es2 ep2 t3 (sb.trans sb2) R2 (fun z => absurd z hm) fun _ => pm2.trans pm)
      · first
          | refine wp_if_neg (by simp [hf]) ?_
          | (refine wpAny_bind ?_; refine wp_if_neg (by simp [hf]) ?_; refine wpAny_pure ?_)
        rw [fill2, decide_eq_true_eq] at hf
        refine wpAny_pure (hQ true h1 L1 es1 (ep + 1) t2 sb ⟨⟨_, ho1, ⟨hex.1, hex.2.1, hex.2.2⟩, rfl⟩, hin, T2, nd1, tup1, ld2, ?_⟩ (fun z => absurd z hm) fun _ => pm)
        rw [hlen, f3, q4]
        omega
    have pick : ∀ b : Bool, wpAny (model P w) A (do
          storeSet a es1 (if b = true then t1 else { t1 with plain := false })
          if !false && (if b = true then t1 else { t1 with plain := false }).tooFull then setRelay a (SetTable.grown (es.size + 1))
          return true) Q E s := fun b => by
      cases b
      · exact last _ rfl rfl rfl rfl
      · exact last _ rfl rfl rfl rfl
    by_cases hpl : t1.plain = true
    · first
        | (refine wpAny_bind ?_; refine wp_if_pos hpl ?_; exact byValue_key k _ 8 hx.1 _ _ pick)
        | exact wp_if_pos hpl (wpAny_bind (byValue_key k _ 8 hx.1 _ _ pick))
    · first
        | (refine wpAny_bind ?_; refine wp_if_neg hpl ?_; exact wpAny_pure (pick true))
        | exact wp_if_neg hpl (wpAny_bind (wpAny_pure (pick true)))
        | exact wp_if_neg hpl (pick true)

/-- what filling asks of each item: Rel i h says what the set at S holds behind i items -/
structure Fills (P : Program) (w : World) (A : Around) (S : Addr) (items : Array Value) (wr : List Addr) (Rel : Nat → Heap → Prop) : Prop where
  keep : ∀ i h h', Rel i h → (∀ b o, b ∉ wr → h.get? b = some o → h'.get? b = some o) → Rel i h'
  add : ∀ (i : Nat) (v : Value) (E : Value → Shared → Prop) (s : Shared) (Q : Bool → Shared → Prop), items[i]? = some v → Rel i s.heap → (∀ b h' tk, Heap.SameBut S s.heap h' → s.toks ≤ tk → Rel (i + 1) h' → Q b { s with heap := h', toks := tk }) →
    wpAny (model P w) A (setAdd S v) Q E s
theorem fill_loop {I : Addr} {fp wr : List Addr} {G : Array GenState → Array GenState → Prop} {n : Nat} {Pv : Nat → Value → Prop} {St : Nat → Shared → Prop} {R : Result → Shared → Prop} {items : Array Value} {Rel : Nat → Heap → Prop}
    (W : WalksS P w A.in1 I fp wr G n Pv St) (S : Addr) (hSf : S ∉ fp) (hval : ∀ i v, Pv i v → items[i]? = some v) (Fl : Fills P w A.in1 S items wr Rel) :
    ∀ (k i : Nat) (s : Shared), n - i = k → i ≤ n → St i s → Rel i s.heap → (∀ s', Moved (S :: wr) G s s' → Rel n s'.heap → R (.ok (.ret .none)) s') → codeAny (model P w) A (.builtin "set.update.loop" ⟨[.ref S, .ref I], []⟩) R s := by
  have hsub : ∀ b ∈ wr, b ∈ S :: wr := fun b hb => List.mem_cons_of_mem _ hb
  intro k
  induction k with
  | zero =>
    intro i s hk hi st rel hR
    obtain rfl : i = n := by omega
    refine codeAny_builtin F.entry_set_update_loop ?_
    rw [Around.under_plainId F.plain_set_update_loop _]
    show wpAny _ A.in1 (pyNext (.ref I) >>= _) _ _ s
    exact wpAny_bind (W.done s _ _ st fun s' mv => wpAny_pure (hR s' (mv.mono hsub) (Fl.keep _ _ _ rel fun b o hb e => mv.heap b o hb e)))
  | succ k ih =>
    intro i s hk hi st rel hR
    have hlt : i < n := by omega
    refine codeAny_builtin F.entry_set_update_loop ?_
    rw [Around.under_plainId F.plain_set_update_loop _]
    show wpAny _ A.in1 (pyNext (.ref I) >>= _) _ _ s
    refine wpAny_bind (W.item i s _ _ hlt st fun v s1 hP st1 mv => ?_)
    show wpAny _ A.in1 (holding [v] (setAdd S v) >>= _) _ _ s1
    refine wpAny_bind (wpAny_holding (Fl.add i v _ s1 _ (hval i v hP) (Fl.keep _ _ _ rel fun b o hb e => mv.heap b o hb e) fun b h' tk sb htk rel1 => ?_))
    have old : ∀ b o, b ∉ S :: wr → s1.heap.get? b = some o → h'.get? b = some o := fun b o hb e => (sb.2 b fun z => hb (by rw [z]; exact List.mem_cons_self)).trans e
    refine wpAny_pure ⟨plainId_quiet F.plain_set_update_loop _, ih (i + 1) _ (by omega) hlt (W.frame _ s1 _ _ st1 htk fun b hb o e => ?_) rel1 fun s2 mv2 rel2 => hR s2 (Moved.trans W.gtrans ((mv.mono hsub).then_heap htk old) mv2) rel2⟩
    exact (sb.2 b fun z => hSf (by rw [← z]; exact hb)).trans e
abbrev freshSet (w : World) : Obj := { cls := .type "set", dict := none, data := .set #[] 0 (.fresh 0 0 (!w.params.followText "set-order")) }
end
end MV
end

section
set_option maxHeartbeats 4000000
/-! sets filled from a list or a tuple -/
namespace MV
open PySem PySem.Spec PyProof.Rows L2

section
variable {P : Program} {w : World} {A : Around} {E : Value → Shared → Prop} {s : Shared}
set_option maxHeartbeats 8000000 in
theorem fill_list {l : Addr} {items : Array Value} {Rel : Nat → Heap → Prop} {Q : Value → Shared → Prop} (hh : A.handled = none) (hl : s.heap.IsList l items)
    (Fl : Fills P w A.in1.in1.in1 s.heap.objs.size items [s.heap.objs.size + 1] Rel) (h0 : ∀ h', (∀ b o, s.heap.get? b = some o → h'.get? b = some o) → h'.get? s.heap.objs.size = some (freshSet w) → Rel 0 h')
    (h : ∀ (h' : Heap) (tk : Nat), Rel items.size h' → (∀ b o, s.heap.get? b = some o → h'.get? b = some o) → Q (.ref s.heap.objs.size) { s with heap := h', toks := tk }) :
    wpAny (model P w) A (call (.type "set") [.ref l]) Q E s := by
  obtain ⟨c, tl, hmro⟩ := F.called_set.mro
  have hmade := F.called_set.made
  have hsub := F.called_set.sub
  refine wpAny_call (codeAny_of_tree ?_)
  show wpAny _ _ (callAny (.type "set") _) _ _ _
  refine wpAny_pure ⟨Code.quiet_builtin _ (by decide +kernel), codeAny_builtin F.entry_type_call ?_⟩
  rw [Around.under_plain (weight_type_call_type "set" [.ref l] []) rfl]
  have t1 := F.called_set.notType
  have t2 := F.called_set.canCreate
  have t3 := F.typeCall_set_1 (.ref l)
  repeat (any_goals (first | assumption | wp_step))
  refine codeAny_mono (code_set_led1 (.ref l) (E := E) (Q₁ := fun obj s1 => obj = .ref s.heap.objs.size ∧ s1 = { s with heap := s.heap.push (freshSet w) }) ⟨rfl, rfl⟩) fun r s1 hr => ?_
  cases r with
  | error e => exact hr
  | ok fl =>
    cases fl with
    | ret obj =>
      obtain ⟨rfl, rfl⟩ := hr
      have hS : (s.heap.push (freshSet w)).get? s.heap.objs.size = some (freshSet w) := Heap.get?_push_size _ rfl
      have hT : Shared.TypeIs { s with heap := s.heap.push (freshSet w) } (.ref s.heap.objs.size) "set" := ⟨_, hS, rfl⟩
      have t4 := F.called_set.init.lookup
      have t5 := F.called_set.init.bind (.ref s.heap.objs.size)
      repeat (any_goals (first | assumption | wp_step))
      refine codeAny_mono (codeAny_call_builtin (R := wants (fun r s2 => r = .none ∧ ∃ h' tk, s2 = { s with heap := h', toks := tk } ∧ Rel items.size h' ∧ ∀ b o, s.heap.get? b = some o → h'.get? b = some o) E) F.called_set.init.plain F.entry_set_init (check_set_init_1 hT ?_)) fun r2 s2 hr2 => ?_
      · obtain ⟨⟨ocls, odict, odata, oslots⟩, hol, hcl, nl, hdl⟩ := hl
        simp only at hcl hdl
        subst hcl hdl
        have hol1 : (s.heap.push (freshSet w)).get? l = some { cls := .type "list", dict := odict, data := .seq items nl, slots := oslots } := Heap.get?_push_of_some _ hol
        have t6 := F.sub_list_set
        have t7 := F.sub_list_frozenset
        have t8 : (Value.type "list" == Value.type "dict") = false := by decide
        have hl1 : (s.heap.push (freshSet w)).IsList l items := ⟨_, hol1, rfl, nl, rfl⟩
        unfold Builtin.«set.__init__» noKeywords Builtin.Frozenset.updateFrom
        generalize hPI : pyIter = PI
        wp_walk
        subst hPI
        refine wpAny_pyIter_list hl1 (wpAny_bind (wpAny_runValue ?_))
        have hlS : l < s.heap.objs.size := Heap.lt_size hol
        have hz1 : (s.heap.push (freshSet w)).objs.size = s.heap.objs.size + 1 := Heap.size_push ..
        have keep2 : ∀ b o, s.heap.get? b = some o → ((s.heap.push (freshSet w)).push { cls := .type "list_iterator", data := .fields #[.ref l, .int 0 0] }).get? b = some o := fun b o e => Heap.get?_push_of_some _ (Heap.get?_push_of_some _ e)
        refine fill_loop (items := items) (Rel := Rel) ((Walks.list (show A.in1.in1.in1.handled = none by simp [hh]) _ l (by rw [hz1]; exact Nat.ne_of_lt (Nat.lt_succ_of_lt hlS)) items).toS) s.heap.objs.size (by rw [hz1]; simp only [List.mem_cons, List.not_mem_nil, or_false, not_or]; exact ⟨Nat.ne_of_lt (Nat.lt_succ_self _), Nat.ne_of_gt hlS⟩) (fun i v e => e) (by rw [hz1]; exact Fl)
          (items.size - 0) 0 _ rfl (Nat.zero_le _) ⟨⟨_, Heap.get?_push_size _ rfl, rfl, rfl⟩, (hl1.push _)⟩ (h0 _ keep2 (Heap.get?_push_of_some _ hS)) ?_
        intro s' mv rel
        obtain ⟨h', g2, d', tk', os'⟩ := s'
        obtain rfl : g2 = s.gens := mv.gens
        obtain rfl : d' = s.drawn := mv.drawn
        obtain rfl : os' = s.os := mv.os
        show wpAny _ _ _ _ _ _
        refine wpAny_pure ?_
        show wpAny _ _ (ret Value.none) _ _ _
        refine wpAny_pure ⟨rfl, h', tk', rfl, rel, fun b o e => mv.heap b o (fun hb => ?_) (keep2 b o e)⟩
        have hb0 : b < s.heap.objs.size := Heap.lt_size e
        rw [hz1] at hb
        simp only [List.mem_cons, List.not_mem_nil, or_false] at hb
        rcases hb with z | z
        · exact absurd z (Nat.ne_of_lt hb0)
        · exact absurd z (Nat.ne_of_lt (Nat.lt_succ_of_lt hb0))
      · cases r2 with
        | error e => exact hr2
        | ok fl2 =>
          cases fl2 with
          | ret r =>
            obtain ⟨rfl, h', tk, rfl, rel, k'⟩ := hr2
            repeat (any_goals (first | assumption | wp_step))
            exact h _ _ rel k'
          | _ => exact hr2.elim
    | _ => exact hr.elim
set_option maxHeartbeats 8000000 in
theorem fill_tuple {l : Addr} {items : Array Value} {Rel : Nat → Heap → Prop} {Q : Value → Shared → Prop} (hh : A.handled = none) (hl : s.heap.IsTuple l items)
    (Fl : Fills P w A.in1.in1.in1 s.heap.objs.size items [s.heap.objs.size + 1] Rel) (h0 : ∀ h', (∀ b o, s.heap.get? b = some o → h'.get? b = some o) → h'.get? s.heap.objs.size = some (freshSet w) → Rel 0 h')
    (h : ∀ (h' : Heap) (tk : Nat), Rel items.size h' → (∀ b o, s.heap.get? b = some o → h'.get? b = some o) → Q (.ref s.heap.objs.size) { s with heap := h', toks := tk }) :
    wpAny (model P w) A (call (.type "set") [.ref l]) Q E s := by
  obtain ⟨c, tl, hmro⟩ := F.called_set.mro
  have hmade := F.called_set.made
  have hsub := F.called_set.sub
  refine wpAny_call (codeAny_of_tree ?_)
  show wpAny _ _ (callAny (.type "set") _) _ _ _
  refine wpAny_pure ⟨Code.quiet_builtin _ (by decide +kernel), codeAny_builtin F.entry_type_call ?_⟩
  rw [Around.under_plain (weight_type_call_type "set" [.ref l] []) rfl]
  have t1 := F.called_set.notType
  have t2 := F.called_set.canCreate
  have t3 := F.typeCall_set_1 (.ref l)
  repeat (any_goals (first | assumption | wp_step))
  refine codeAny_mono (code_set_led1 (.ref l) (E := E) (Q₁ := fun obj s1 => obj = .ref s.heap.objs.size ∧ s1 = { s with heap := s.heap.push (freshSet w) }) ⟨rfl, rfl⟩) fun r s1 hr => ?_
  cases r with
  | error e => exact hr
  | ok fl =>
    cases fl with
    | ret obj =>
      obtain ⟨rfl, rfl⟩ := hr
      have hS : (s.heap.push (freshSet w)).get? s.heap.objs.size = some (freshSet w) := Heap.get?_push_size _ rfl
      have hT : Shared.TypeIs { s with heap := s.heap.push (freshSet w) } (.ref s.heap.objs.size) "set" := ⟨_, hS, rfl⟩
      have t4 := F.called_set.init.lookup
      have t5 := F.called_set.init.bind (.ref s.heap.objs.size)
      repeat (any_goals (first | assumption | wp_step))
      refine codeAny_mono (codeAny_call_builtin (R := wants (fun r s2 => r = .none ∧ ∃ h' tk, s2 = { s with heap := h', toks := tk } ∧ Rel items.size h' ∧ ∀ b o, s.heap.get? b = some o → h'.get? b = some o) E) F.called_set.init.plain F.entry_set_init (check_set_init_1 hT ?_)) fun r2 s2 hr2 => ?_
      · obtain ⟨⟨ocls, odict, odata, oslots⟩, hol, hcl, nl, hdl⟩ := hl
        simp only at hcl hdl
        subst hcl hdl
        have hol1 : (s.heap.push (freshSet w)).get? l = some { cls := .type "tuple", dict := odict, data := .seq items nl, slots := oslots } := Heap.get?_push_of_some _ hol
        have t6 := F.sub_tuple_set
        have t7 := F.sub_tuple_frozenset
        have t8 : (Value.type "tuple" == Value.type "dict") = false := by decide
        have hl1 : (s.heap.push (freshSet w)).IsTuple l items := ⟨_, hol1, rfl, nl, rfl⟩
        unfold Builtin.«set.__init__» noKeywords Builtin.Frozenset.updateFrom
        generalize hPI : pyIter = PI
        wp_walk
        subst hPI
        refine wpAny_pyIter_tuple hl1 (wpAny_bind (wpAny_runValue ?_))
        have hlS : l < s.heap.objs.size := Heap.lt_size hol
        have hz1 : (s.heap.push (freshSet w)).objs.size = s.heap.objs.size + 1 := Heap.size_push ..
        have keep2 : ∀ b o, s.heap.get? b = some o → ((s.heap.push (freshSet w)).push { cls := .type "tuple_iterator", data := .fields #[.ref l, .int 0 0] }).get? b = some o := fun b o e => Heap.get?_push_of_some _ (Heap.get?_push_of_some _ e)
        refine fill_loop (items := items) (Rel := Rel) ((Walks.tuple (show A.in1.in1.in1.handled = none by simp [hh]) _ l (by rw [hz1]; exact Nat.ne_of_lt (Nat.lt_succ_of_lt hlS)) items).toS) s.heap.objs.size (by rw [hz1]; simp only [List.mem_cons, List.not_mem_nil, or_false, not_or]; exact ⟨Nat.ne_of_lt (Nat.lt_succ_self _), Nat.ne_of_gt hlS⟩) (fun i v e => e) (by rw [hz1]; exact Fl)
          (items.size - 0) 0 _ rfl (Nat.zero_le _) ⟨⟨_, Heap.get?_push_size _ rfl, rfl, rfl⟩, (hl1.push _)⟩ (h0 _ keep2 (Heap.get?_push_of_some _ hS)) ?_
        intro s' mv rel
        obtain ⟨h', g2, d', tk', os'⟩ := s'
        obtain rfl : g2 = s.gens := mv.gens
        obtain rfl : d' = s.drawn := mv.drawn
        obtain rfl : os' = s.os := mv.os
        show wpAny _ _ _ _ _ _
        refine wpAny_pure ?_
        show wpAny _ _ (ret Value.none) _ _ _
        refine wpAny_pure ⟨rfl, h', tk', rfl, rel, fun b o e => mv.heap b o (fun hb => ?_) (keep2 b o e)⟩
        have hb0 : b < s.heap.objs.size := Heap.lt_size e
        rw [hz1] at hb
        simp only [List.mem_cons, List.not_mem_nil, or_false] at hb
        rcases hb with z | z
        · exact absurd z (Nat.ne_of_lt hb0)
        · exact absurd z (Nat.ne_of_lt (Nat.lt_succ_of_lt hb0))
      · cases r2 with
        | error e => exact hr2
        | ok fl2 =>
          cases fl2 with
          | ret r =>
            obtain ⟨rfl, h', tk, rfl, rel, k'⟩ := hr2
            repeat (any_goals (first | assumption | wp_step))
            exact h _ _ rel k'
          | _ => exact hr2.elim
    | _ => exact hr.elim
end
end MV
end

section
set_option maxHeartbeats 4000000
/-! sorted(set(xs)), sorted(xs) -/
namespace MV
open PySem PySem.Spec PyProof.Rows L2

/-! keys -/
section
variable {X : Cx} {pins : List (Addr × Obj)} {σ : S2} {H : Hp} {s : Shared} {F : Addr → Prop}
mutual
theorem VR.key (I : L2.Inv X pins σ H s) : ∀ {v : V} {x : Val} {L : List Addr} {k : NestedKey} {u : Value}, VR X.prog X.w X.K F H v x L → x.nkey = some k → RelV v u → NestedIs s.heap k u
  | _, _, _, k, u, .non, e, r => by
    simp only [Val.nkey, Option.some.injEq] at e
    subst e; cases r; exact .none
  | _, _, _, k, u, .bl b, e, r => by
    simp only [Val.nkey, Option.some.injEq] at e
    subst e; cases r; exact .bool (by cases b <;> rfl)
  | _, _, _, k, u, .int i, e, r => by
    simp only [Val.nkey, Option.some.injEq] at e
    subst e
    obtain ⟨t, rfl⟩ := r
    exact .int _ _
  | _, _, _, k, u, .str z, e, r => by
    simp only [Val.nkey, Option.some.injEq] at e
    subst e
    obtain ⟨t, rfl⟩ := r
    exact .text _ _
  | _, _, _, k, u, .tup (xs := xs) hA hs, e, r => by
    simp only [Val.nkey, Option.map_eq_some_iff] at e
    obtain ⟨ks, ek, rfl⟩ := e
    cases r
    obtain ⟨its, rv, ⟨o, ho, hc, n, hd⟩, hz⟩ := I.tuple hA.sq
    exact .tup ho hc hd (VRs.keys I hs ek rv)
  | _, _, _, k, u, .lst _ _, e, r => by simp [Val.nkey] at e
  | _, _, _, k, u, .scr _, e, r => by simp [Val.nkey] at e
  | _, _, _, k, u, .dK _ _ _, e, r => by simp [Val.nkey] at e
  | _, _, _, k, u, .dT _ _ _ _ _, e, r => by simp [Val.nkey] at e
theorem VRs.keys (I : L2.Inv X pins σ H s) : ∀ {vs : List V} {xs : List Val} {L : List Addr} {ks : List NestedKey} {us : List Value}, VRs X.prog X.w X.K F H vs xs L → nkeyL xs = some ks → Vals vs us → NestedAll s.heap ks us
  | _, _, _, ks, us, .nil, e, r => by
    simp only [nkeyL, Option.some.injEq] at e
    subst e
    cases r
    exact .nil
  | _, _, _, ks, us, .cons (x := x) (xs := xs) h t, e, r => by
    simp only [nkeyL] at e
    split at e
    · rename_i k ks' e1 e2
      cases e
      cases r with
      | cons r1 r2 => exact .cons (VR.key I h e1 r1) (VRs.keys I t e2 r2)
    · cases e
end
end
mutual
/-- alike values of one key are one -/
theorem key_one : ∀ (x y : Val) (k : NestedKey), x.nkey = some k → y.nkey = some k → PySem.W.alike x.toD y.toD = true → x = y
  | .non, y, k, h1, h2, h3 => by cases y <;> simp_all [Val.nkey, Val.toD, PySem.W.alike]
  | .bl b, y, k, h1, h2, h3 => by
    cases y with
    | bl c =>
      simp only [Val.nkey, Option.some.injEq] at h1 h2
      rw [← h2] at h1
      injection h1 with h1
      cases b <;> cases c <;> simp_all
    | _ => simp_all [Val.nkey, Val.toD, PySem.W.alike]
  | .int i, y, k, h1, h2, h3 => by
    cases y with
    | int j =>
      simp only [Val.nkey, Option.some.injEq] at h1 h2
      rw [← h2] at h1
      injection h1 with h1
      rw [h1]
    | _ => simp_all [Val.nkey, Val.toD, PySem.W.alike]
  | .str z, y, k, h1, h2, h3 => by
    cases y with
    | str j =>
      simp only [Val.nkey, Option.some.injEq] at h1 h2
      rw [← h2] at h1
      injection h1 with h1
      rw [h1]
    | _ => simp_all [Val.nkey, Val.toD, PySem.W.alike]
  | .tup xs, y, k, h1, h2, h3 => by
    cases y with
    | tup ys =>
      simp only [Val.nkey, Option.map_eq_some_iff] at h1 h2
      obtain ⟨k1, e1, rfl⟩ := h1
      obtain ⟨k2, e2, e3⟩ := h2
      injection e3 with e3
      subst e3
      simp only [Val.toD, PySem.W.alike] at h3
      rw [keys_one xs ys k2 e1 e2 h3]
    | non => simp_all [Val.toD, PySem.W.alike]
    | bl _ => simp_all [Val.toD, PySem.W.alike]
    | int _ => simp_all [Val.toD, PySem.W.alike]
    | str _ => simp_all [Val.toD, PySem.W.alike]
    | lst _ _ => simp [Val.nkey] at h2
    | dct _ _ _ _ => simp [Val.nkey] at h2
    | scr _ => simp [Val.nkey] at h2
  | .lst _ _, _, _, h1, _, _ => by simp [Val.nkey] at h1
  | .dct _ _ _ _, _, _, h1, _, _ => by simp [Val.nkey] at h1
  | .scr _, _, _, h1, _, _ => by simp [Val.nkey] at h1
theorem keys_one : ∀ (xs ys : List Val) (ks : List NestedKey), nkeyL xs = some ks → nkeyL ys = some ks → PySem.W.alikeAll (toDL xs) (toDL ys) = true → xs = ys
  | [], ys, ks, h1, h2, _ => by
    cases ys with
    | nil => rfl
    | cons y ys =>
      simp only [nkeyL, Option.some.injEq] at h1
      subst h1
      simp only [nkeyL] at h2
      split at h2 <;> simp at h2
  | x :: xs, [], ks, h1, h2, _ => by
    simp only [nkeyL, Option.some.injEq] at h2
    subst h2
    simp only [nkeyL] at h1
    split at h1 <;> simp at h1
  | x :: xs, y :: ys, ks, h1, h2, h3 => by
    simp only [nkeyL] at h1 h2
    split at h1
    · rename_i k1 l1 a1 a2
      split at h2
      · rename_i k2 l2 b1 b2
        cases h1
        cases h2
        simp only [toDL, PySem.W.alikeAll, Bool.and_eq_true] at h3
        rw [key_one x y _ a1 b1 h3.1, keys_one xs ys _ a2 b2 h3.2]
      · cases h2
    · cases h1
end

/-! the order -/
def leB : Val → Val → Bool := PySem.W.dataLe false Val.toD
theorem leB_total : PySem.W.TotalLe leB := PySem.W.sortLe_total (PyProof.Rows.listOrd PyProof.Rows.itemOrd) false fun b => PySem.W.keyToks (Val.toD b)
def alikeL (xs : List Val) : Bool := xs.all fun x => xs.all fun y => PySem.W.alike x.toD y.toD
theorem alikeL_of {xs : List Val} (h : alikeL xs = true) {x y : Val} (hx : x ∈ xs) (hy : y ∈ xs) : PySem.W.alike x.toD y.toD = true := List.all_eq_true.mp (List.all_eq_true.mp h x hx) y hy
theorem alikeL_all {xs : List Val} (h : alikeL xs = true) : PySem.W.AllAlike (xs.map Val.toD) := by
  intro d hd d' hd'
  obtain ⟨x, hx, rfl⟩ := List.mem_map.mp hd
  obtain ⟨y, hy, rfl⟩ := List.mem_map.mp hd'
  exact alikeL_of h hx hy
/-- below neither way: the same tokens, so equal by == -/
theorem same_toks {x y : Val} (h1 : leB x y = true) (h2 : leB y x = true) : PySem.W.keyToks x.toD = PySem.W.keyToks y.toD := by
  simp only [leB, PySem.W.dataLe, PySem.W.sortLe, cond_false, Bool.not_eq_true'] at h1 h2
  exact (PyProof.Rows.listOrd PyProof.Rows.itemOrd).total _ _ h2 h1
theorem eqv_of_toks {d e : PyData} (ha : PySem.W.alike d e = true) (h : PySem.W.keyToks d = PySem.W.keyToks e) : PyData.eqv d e = true := by
  cases c : PyData.eqv d e with
  | true => rfl
  | false =>
    exfalso
    have h1 := (PySem.W.toks_eqv d e ha).2 c [] [.inl 0]
    rw [h, PySem.W.lex_pre] at h1
    have h2 : PyProof.Rows.lexLt PyProof.Rows.itemOrd (PySem.W.keyToks e) (PySem.W.keyToks e) = false := PyProof.Rows.lex_irrefl _
    rw [h2] at h1
    revert h1
    decide
mutual
theorem key_eqv : ∀ (x y : Val) (k : NestedKey), PySem.W.alike x.toD y.toD = true → PyData.eqv x.toD y.toD = true → x.nkey = some k → y.nkey = some k
  | .non, y, k, h1, h2, h3 => by cases y <;> simp_all [Val.nkey, Val.toD, PySem.W.alike]
  | .bl b, y, k, h1, h2, h3 => by cases y <;> simp_all [Val.nkey, Val.toD, PySem.W.alike, PyData.eqv]
  | .int i, y, k, h1, h2, h3 => by cases y <;> simp_all [Val.nkey, Val.toD, PySem.W.alike, PyData.eqv]
  | .str z, y, k, h1, h2, h3 => by cases y <;> simp_all [Val.nkey, Val.toD, PySem.W.alike, PyData.eqv]
  | .tup xs, y, k, h1, h2, h3 => by
    cases y with
    | tup ys =>
      simp only [Val.toD, PySem.W.alike, PyData.eqv] at h1 h2
      simp only [Val.nkey, Option.map_eq_some_iff] at h3 ⊢
      obtain ⟨ks, e, rfl⟩ := h3
      exact ⟨ks, keys_eqv xs ys ks h1 h2 e, rfl⟩
    | non => simp_all [Val.toD, PySem.W.alike]
    | bl _ => simp_all [Val.toD, PySem.W.alike]
    | int _ => simp_all [Val.toD, PySem.W.alike]
    | str _ => simp_all [Val.toD, PySem.W.alike]
    | lst _ _ => simp_all [Val.toD, PySem.W.alike]
    | dct _ _ _ _ => simp_all [Val.toD, PySem.W.alike]
    | scr _ => simp_all [Val.toD, PySem.W.alike]
  | .lst _ _, _, _, _, _, h1 => by simp [Val.nkey] at h1
  | .dct _ _ _ _, _, _, _, _, h1 => by simp [Val.nkey] at h1
  | .scr _, _, _, _, _, h1 => by simp [Val.nkey] at h1
theorem keys_eqv : ∀ (xs ys : List Val) (ks : List NestedKey), PySem.W.alikeAll (toDL xs) (toDL ys) = true → PyData.eqvAll (toDL xs) (toDL ys) = true → nkeyL xs = some ks → nkeyL ys = some ks
  | [], [], ks, _, _, h => h
  | [], y :: ys, ks, _, h2, _ => by simp [toDL, PyData.eqvAll] at h2
  | x :: xs, [], ks, _, h2, _ => by simp [toDL, PyData.eqvAll] at h2
  | x :: xs, y :: ys, ks, h1, h2, h3 => by
    simp only [toDL, PySem.W.alikeAll, PyData.eqvAll, Bool.and_eq_true] at h1 h2
    simp only [nkeyL] at h3 ⊢
    split at h3
    · rename_i k l e1 e2
      cases h3
      rw [key_eqv x y k h1.1 h2.1 e1, keys_eqv xs ys l h1.2 h2.2 e2]
    · cases h3
end
/-- the order tells alike keys apart -/
theorem leB_anti {x y : Val} {k : NestedKey} (hk : x.nkey = some k) (ha : PySem.W.alike x.toD y.toD = true) (h1 : leB x y = true) (h2 : leB y x = true) : x = y :=
  key_one x y k hk (key_eqv x y k ha (eqv_of_toks ha (same_toks h1 h2)) hk) ha
/-- one order alone of alike keys -/
theorem sort_perm {xs ys : List Val} (h : xs.Perm ys) (hk : ∀ x ∈ xs, (x.nkey).isSome = true) (ha : alikeL xs = true) : xs.mergeSort leB = ys.mergeSort leB := by
  have p : (xs.mergeSort leB).Perm (ys.mergeSort leB) := (List.mergeSort_perm xs leB).trans (h.trans (List.mergeSort_perm ys leB).symm)
  refine p.eq_of_pairwise (le := fun a b => leB a b = true) (fun a b hx hy h1 h2 => ?_) (PySem.W.sort_pairwise leB_total xs) (PySem.W.sort_pairwise leB_total ys)
  have mx : a ∈ xs := (List.mergeSort_perm xs leB).mem_iff.mp hx
  have my : b ∈ xs := h.mem_iff.mpr ((List.mergeSort_perm ys leB).mem_iff.mp hy)
  obtain ⟨k, e⟩ := Option.isSome_iff_exists.mp (hk a mx)
  exact leB_anti e (alikeL_of ha mx my) h1 h2

/-! each once -/
def dedV : List Val → List Val
  | [] => []
  | x :: r => x :: (dedV r).filter fun y => decide (y.nkey ≠ x.nkey)
theorem dedV_sub : ∀ (xs : List Val) (x : Val), x ∈ dedV xs → x ∈ xs
  | y :: r, x, h => by
    rcases List.mem_cons.mp h with e | h
    · rw [e]; exact List.mem_cons_self
    · exact List.mem_cons_of_mem _ (dedV_sub r x (List.mem_filter.mp h).1)
theorem dedV_all : ∀ (xs : List Val) (x : Val), x ∈ xs → ∃ y ∈ dedV xs, y.nkey = x.nkey
  | z :: r, x, h => by
    rcases List.mem_cons.mp h with e | h
    · exact ⟨z, List.mem_cons_self, by rw [e]⟩
    · obtain ⟨y, hy, e⟩ := dedV_all r x h
      by_cases c : y.nkey = z.nkey
      · exact ⟨z, List.mem_cons_self, c.symm.trans e⟩
      · exact ⟨y, List.mem_cons_of_mem _ (List.mem_filter.mpr ⟨hy, by simpa using c⟩), e⟩
theorem dedV_nodup : ∀ xs : List Val, ((dedV xs).map Val.nkey).Nodup
  | [] => List.nodup_nil
  | x :: r => by
    rw [dedV, List.map_cons]
    refine List.nodup_cons.mpr ⟨fun h => ?_, ?_⟩
    · obtain ⟨y, hy, e⟩ := List.mem_map.mp h
      have := (List.mem_filter.mp hy).2
      simp [e] at this
    · exact ((List.filter_sublist (l := dedV r)).map Val.nkey).nodup (dedV_nodup r)
theorem dedV_of_nodup : ∀ {xs : List Val}, (xs.map Val.nkey).Nodup → dedV xs = xs
  | [], _ => rfl
  | x :: r, h => by
    rw [List.map_cons, List.nodup_cons] at h
    rw [dedV, dedV_of_nodup h.2, List.filter_eq_self.mpr fun y hy => ?_]
    simp only [ne_eq, decide_not, Bool.not_eq_true', decide_eq_false_iff_not]
    exact fun e => h.1 (List.mem_map.mpr ⟨y, hy, e⟩)
/-- what has the same keys, each once, is the same but for the order -/
theorem same_keys {xs ys : List Val} (ha : alikeL xs = true) (hk : ∀ x ∈ xs, (x.nkey).isSome = true) (h1 : (ys.map Val.nkey).Nodup) (h2 : ∀ y ∈ ys, y ∈ xs) (h3 : ∀ x ∈ xs, x.nkey ∈ ys.map Val.nkey) : ys.Perm (dedV xs) := by
  have nd : ∀ {l : List Val}, (l.map Val.nkey).Nodup → l.Nodup := fun {l} h => List.Pairwise.of_map Val.nkey (fun _ _ hne e => hne (congrArg _ e)) h
  refine (List.perm_ext_iff_of_nodup (nd h1) (nd (dedV_nodup xs))).mpr fun x => ⟨fun h => ?_, fun h => ?_⟩
  · obtain ⟨y, hy, e⟩ := dedV_all xs x (h2 x h)
    have hy' := dedV_sub xs y hy
    obtain ⟨k, ek⟩ := Option.isSome_iff_exists.mp (hk x (h2 x h))
    rw [key_one x y k ek (e.trans ek) (alikeL_of ha (h2 x h) hy')]
    exact hy
  · have hx := dedV_sub xs x h
    obtain ⟨y, hy, e⟩ := List.mem_map.mp (h3 x hx)
    obtain ⟨k, ek⟩ := Option.isSome_iff_exists.mp (hk x hx)
    rw [key_one x y k ek (e.trans ek) (alikeL_of ha hx (h2 y hy))]
    exact hy
theorem alikeL_perm {xs ys : List Val} (ha : alikeL xs = true) (h : ∀ y ∈ ys, y ∈ xs) : alikeL ys = true :=
  List.all_eq_true.mpr fun x hx => List.all_eq_true.mpr fun y hy => alikeL_of ha (h x hx) (h y hy)
end MV
end

section
set_option maxHeartbeats 4000000
/-! sorted(set(xs)), sorted(xs): the rules -/
namespace MV
open PySem PySem.Spec PyProof.Rows L2

def SetIs (w : World) (h : Heap) (a : Addr) (us : List V) : Prop := ∃ o es ep t, h.get? a = some o ∧ o.cls = .type "set" ∧ o.data = .set es ep t ∧ t.fits es.size = true ∧ es.size < scanBound ∧ L2.Ris t.place.toList ∧
  (w.params.followText "set-order" = true ∨ t.led = true) ∧ Vals us (es.toList.map (·.2))
/-- a set that is only walked -/
def SetHO (w : World) (a : Addr) (us : List V) : HO := .ext fun h => SetIs w h a us
theorem setHO_new {P : Program} {w : World} {H : Hp} {h : Heap} {a : Addr} {us : List V} (R : SetIs w h a us) : ObjOk P w H h a (SetHO w a us) := by
  have ⟨o, es, ep, t, ho, r⟩ := R
  refine ⟨R, ⟨o, ho⟩, fun h1 h2 p k => ?_⟩
  obtain ⟨o', es', ep', t', ho', r'⟩ : SetIs w h1 a us := p
  exact (show SetIs w h2 a us from ⟨o', es', ep', t', k o' ho', r'⟩)

def intsOfV : List Val → Option (List Int)
  | [] => some []
  | .int i :: r => (intsOfV r).map (i :: ·)
  | _ :: _ => none
theorem intsOfV_eq : ∀ {xs : List Val} {ns : List Int}, intsOfV xs = some ns → xs = ns.map Val.int
  | [], ns, h => by simp only [intsOfV, Option.some.injEq] at h; subst h; rfl
  | x :: r, ns, h => by
    cases x <;> simp only [intsOfV, Option.map_eq_some_iff, reduceCtorEq] at h
    obtain ⟨ms, e, rfl⟩ := h
    rw [intsOfV_eq e]
    rfl
/-- a nonempty tuple that can be a key, told of by its data -/
def Val.row : Val → Bool
  | .tup (x :: r) => match (Val.tup (x :: r)).nkey with
    | some k => decide (k.depth ≤ 8) && (decide ((Val.tup (x :: r)).toD.depth ≤ 8) && (Val.tup (x :: r)).toD.canLay0)
    | none => false
  | _ => false
theorem Val.row_inv {x : Val} (h : x.row = true) : ∃ y r k, x = .tup (y :: r) ∧ x.nkey = some k ∧ k.depth ≤ 8 ∧ x.toD.depth ≤ 8 ∧ x.toD.canLay0 = true := by
  unfold Val.row at h
  split at h
  · split at h
    · rename_i k e
      rw [Bool.and_eq_true, Bool.and_eq_true, decide_eq_true_eq, decide_eq_true_eq] at h
      exact ⟨_, _, k, rfl, e, h.1, h.2⟩
    · cases h
  · cases h
/-- what can be made a set of and sorted here -/
def setOk (xs : List Val) : Bool := ((intsOfV xs).isSome && decide (xs.length ≤ 4000)) || (xs.all Val.row && alikeL xs && decide ((dedV xs).length ≤ 4000))
theorem setOk_keys {xs : List Val} (h : setOk xs = true) : alikeL xs = true ∧ (∀ x ∈ xs, (x.nkey).isSome = true) ∧ (dedV xs).length ≤ 4000 := by
  unfold setOk at h
  rw [Bool.or_eq_true] at h
  rcases h with h | h
  · rw [Bool.and_eq_true, decide_eq_true_eq] at h
    obtain ⟨ns, e⟩ := Option.isSome_iff_exists.mp h.1
    have hx := intsOfV_eq e
    refine ⟨?_, fun x hx' => ?_, ?_⟩
    · refine List.all_eq_true.mpr fun x hx' => List.all_eq_true.mpr fun y hy => ?_
      rw [hx] at hx' hy
      obtain ⟨i, _, rfl⟩ := List.mem_map.mp hx'
      obtain ⟨j, _, rfl⟩ := List.mem_map.mp hy
      rfl
    · rw [hx] at hx'
      obtain ⟨i, _, rfl⟩ := List.mem_map.mp hx'
      rfl
    · have key : ∀ l : List Val, (dedV l).length ≤ l.length := by
        intro l
        induction l with
        | nil => exact Nat.le_refl _
        | cons x r ih =>
          rw [dedV, List.length_cons, List.length_cons]
          exact Nat.succ_le_succ (Nat.le_trans (List.length_filter_le _ _) ih)
      exact Nat.le_trans (key xs) h.2
  · rw [Bool.and_eq_true, Bool.and_eq_true, decide_eq_true_eq] at h
    refine ⟨h.1.2, fun x hx => ?_, h.2⟩
    obtain ⟨y, r, k, _, e, _⟩ := Val.row_inv (List.all_eq_true.mp h.1.1 x hx)
    rw [e]
    rfl

section
variable {P : Program} {w : World} {A : Around} {E : Value → Shared → Prop} {s : Shared}
theorem fill_any {l : Addr} {items : Array Value} {Rel : Nat → Heap → Prop} {Q : Value → Shared → Prop} (hh : A.handled = none) (hl : s.heap.IsList l items ∨ s.heap.IsTuple l items)
    (Fl : Fills P w A.in1.in1.in1 s.heap.objs.size items [s.heap.objs.size + 1] Rel) (h0 : ∀ h', (∀ b o, s.heap.get? b = some o → h'.get? b = some o) → h'.get? s.heap.objs.size = some (freshSet w) → Rel 0 h')
    (h : ∀ (h' : Heap) (tk : Nat), Rel items.size h' → (∀ b o, s.heap.get? b = some o → h'.get? b = some o) → Q (.ref s.heap.objs.size) { s with heap := h', toks := tk }) :
    wpAny (model P w) A (call (.type "set") [.ref l]) Q E s := by
  rcases hl with hl | hl
  · exact fill_list hh hl Fl h0 h
  · exact fill_tuple hh hl Fl h0 h
/-- ints -/
theorem set_ints {l : Addr} {items : Array Value} (ns : List Int) {Q : Value → Shared → Prop} (hh : A.handled = none) (hl : s.heap.IsList l items ∨ s.heap.IsTuple l items) (hi : IntsAre items.toList ns) (hb : ns.length ≤ 4000)
    (h : ∀ (h' : Heap) (tk c : Nat), SetR w h' s.heap.objs.size (fun j => decide (j ∈ ns)) c → (∀ b o, s.heap.get? b = some o → h'.get? b = some o) → Q (.ref s.heap.objs.size) { s with heap := h', toks := tk }) :
    wpAny (model P w) A (call (.type "set") [.ref l]) Q E s := by
  have hz : items.size = ns.length := by
    have := IntsAre.length hi
    rwa [Array.length_toList] at this
  refine fill_any (Rel := fun i h => ∃ c, c ≤ i ∧ SetR w h s.heap.objs.size (fun j => decide (j ∈ ns.take i)) c) hh hl ⟨fun i h1 h2 ⟨c, hc, R⟩ k => ⟨c, hc, R.at fun o e => k _ o (fun z => ?_) e⟩, fun i v E s1 Q1 hv ⟨c, hc, R⟩ post => ?_⟩ (fun h1 k e => ⟨0, Nat.le_refl _, setR_new_at e⟩) fun h1 tk ⟨c, hc, R⟩ k => h h1 tk c ?_ k
  · rw [List.mem_singleton] at z
    exact absurd z (Nat.ne_of_lt (Nat.lt_succ_self _))
  · have hil : i < ns.length := by rw [← hz]; exact (Array.getElem?_eq_some_iff.mp hv).1
    obtain ⟨t, e⟩ := IntsAre.int_at hi i v (by rw [Array.getElem?_toList]; exact hv)
    obtain ⟨z, hzz⟩ : ∃ z, ns[i]? = some z := ⟨_, List.getElem?_eq_getElem hil⟩
    rw [List.getD_eq_getElem?_getD, hzz] at e
    obtain rfl : v = .int z t := e
    unfold setAdd
    refine wpAny_holding ?_
    refine wpAny_bind ((intKind P w).pyHash (intKind_is P w z t) ?_)
    refine setR_add_hashed (s := { s1 with toks := s1.toks + 1 }) R (by unfold scanBound; omega) fun h2 sb R2 => post _ h2 _ sb (Nat.le_succ _) ⟨_, ?_, R2.congr fun j => ?_⟩
    · split <;> omega
    · rw [List.take_add_one, hzz]
      simp [List.mem_append]
  · rw [hz, List.take_length] at R
    exact R

theorem nodup_le {α : Type} [DecidableEq α] : ∀ (l D : List α), l.Nodup → (∀ x ∈ l, x ∈ D) → l.length ≤ D.length
  | [], _, _, _ => Nat.zero_le _
  | x :: l, D, hn, hs => by
    obtain ⟨h1, h2⟩ := List.nodup_cons.mp hn
    have hx : x ∈ D := hs x List.mem_cons_self
    have ih := nodup_le l (D.erase x) h2 fun y hy => (List.mem_erase_of_ne fun e => h1 (by rw [← e]; exact hy)).mpr (hs y (List.mem_cons_of_mem _ hy))
    have := List.length_erase_of_mem hx
    have := List.length_pos_of_mem hx
    rw [List.length_cons]
    omega
/-- what a set of tuples has got from the first i -/
structure GotN (ks : List (Addr × NestedKey)) (i : Nat) (L : List (Addr × NestedKey)) : Prop where
  sub : ∀ p ∈ L, p ∈ ks.take i
  all : ∀ p ∈ ks.take i, p.2 ∈ L.map (·.2)
theorem set_tups {l : Addr} {items : Array Value} (ks : List (Addr × NestedKey)) (D : List NestedKey) {Q : Value → Shared → Prop} (hh : A.handled = none) (hu : A.units + 11 < cLine) (hl : s.heap.IsList l items ∨ s.heap.IsTuple l items)
    (hi : items.toList = ks.map fun p => Value.ref p.1) (hk : ∀ p ∈ ks, IsN s.heap p.2 p.1) (hD : ∀ p ∈ ks, p.2 ∈ D) (hb : D.length ≤ 4000)
    (h : ∀ (h' : Heap) (tk : Nat) L es ep t, SetN w h' s.heap.objs.size L es ep t → GotN ks ks.length L → (∀ b o, s.heap.get? b = some o → h'.get? b = some o) → Q (.ref s.heap.objs.size) { s with heap := h', toks := tk }) :
    wpAny (model P w) A (call (.type "set") [.ref l]) Q E s := by
  have hz : items.size = ks.length := by
    have := congrArg List.length hi
    rwa [Array.length_toList, List.length_map] at this
  have none_of : ∀ b, s.heap.objs.size ≤ b → s.heap.get? b = none := fun b hb => by
    cases q : s.heap.get? b with
    | none => rfl
    | some o => exact absurd (Nat.lt_of_lt_of_le (Heap.lt_size q) hb) (Nat.lt_irrefl _)
  have later : ∀ {h1 h2 : Heap} {L es ep t}, SetN w h1 s.heap.objs.size L es ep t → (∀ o, h1.get? s.heap.objs.size = some o → h2.get? s.heap.objs.size = some o) → (∀ b o, s.heap.get? b = some o → h2.get? b = some o) → (∀ p ∈ L, p ∈ ks) → SetN w h2 s.heap.objs.size L es ep t := fun {h1 h2 L es ep t} R e k sub => by
    obtain ⟨o, ho, r⟩ := R.ob
    exact ⟨⟨o, e o ho, r⟩, R.rows, R.tab, R.nd, fun p hp => isN_keep (hk p (sub p hp)) k, R.led, R.room⟩
  refine fill_any (Rel := fun i h1 => (∀ b o, s.heap.get? b = some o → h1.get? b = some o) ∧ ∃ L es ep t, SetN w h1 s.heap.objs.size L es ep t ∧ GotN ks i L) hh hl
    ⟨fun i h1 h2 ⟨k1, L, es, ep, t, R, g⟩ k => ?_, fun i v E s1 Q1 hv ⟨k1, L, es, ep, t, R, g⟩ post => ?_⟩ (fun h1 k e => ⟨k, [], #[], 0, _, ⟨⟨_, e, ⟨rfl, rfl, rfl⟩, rfl⟩, rfl, ⟨List.Pairwise.nil, rfl, rfl, ⟨3, by decide, by decide, rfl⟩, fun x hx => (by cases hx), fun i h j hi => (by simp [hashesN] at hi)⟩, List.nodup_nil, fun p hp => (by cases hp), ?_, (show 0 * 5 < 7 * 3 by decide)⟩, fun p hp => (by cases hp), fun p hp => (by simp at hp)⟩)
    fun h1 tk ⟨k1, L, es, ep, t, R, g⟩ k => h h1 tk L es ep t R (by rw [hz] at g; exact g) k
  · have nw : ∀ b o, s.heap.get? b = some o → b ∉ [s.heap.objs.size + 1] := fun b o e z => by
      rw [List.mem_singleton] at z
      rw [z, none_of _ (Nat.le_succ _)] at e
      cases e
    have k2 : ∀ b o, s.heap.get? b = some o → h2.get? b = some o := fun b o e => k b o (nw b o e) (k1 b o e)
    refine ⟨k2, L, es, ep, t, later R (fun o e => k _ o (fun z => ?_) e) k2 fun p hp => List.mem_of_mem_take (g.sub p hp), g⟩
    rw [List.mem_singleton] at z
    exact absurd z (Nat.ne_of_lt (Nat.lt_succ_self _))
  · have hil : i < ks.length := by rw [← hz]; exact (Array.getElem?_eq_some_iff.mp hv).1
    have e1 : items.toList[i]? = some v := by rw [Array.getElem?_toList]; exact hv
    rw [hi, List.getElem?_map, List.getElem?_eq_getElem hil] at e1
    obtain ⟨p, hp⟩ : ∃ p, ks[i] = p := ⟨_, rfl⟩
    rw [hp] at e1
    cases e1
    have hpm : p ∈ ks := by rw [← hp]; exact List.getElem_mem hil
    have tk1 : ks.take (i + 1) = ks.take i ++ [p] := by rw [List.take_add_one, List.getElem?_eq_getElem hil, hp]; rfl
    have hx : IsN s1.heap p.2 p.1 := isN_keep (hk p hpm) k1
    have few : L.length ≤ D.length := by
      have := nodup_le (L.map (·.2)) D R.nd fun x hx => by
        obtain ⟨q, hq, rfl⟩ := List.mem_map.mp hx
        exact hD q (List.mem_of_mem_take (g.sub q hq))
      rwa [List.length_map] at this
    have hu3 : A.in1.in1.in1.units + 8 < cLine := by
      have e : A.in1.in1.in1.units = A.units + 3 := rfl
      omega
    unfold setAdd
    refine wpAny_holding ?_
    refine wpAny_bind ((nestedKind P w).pyHash (k := p.2) (a := p.1) hu3 hx ?_)
    refine add_set (s := { s1 with toks := s1.toks + p.2.draws }) R hx hu3 (by omega) fun b h2 L2 es2 ep2 t2 sb R2 c1 c2 => post b h2 _ sb (Nat.le_add_right _ _) ⟨fun c o e => (sb.2 c fun z => ?_).trans (k1 c o e), L2, es2, ep2, t2, R2, ?_, ?_⟩
    · rw [z, none_of _ (Nat.le_refl _)] at e
      cases e
    · intro q hq
      rw [tk1]
      rcases Classical.em (p.2 ∈ L.map (·.2)) with c | c
      · rw [c1 c] at hq
        exact List.mem_append_left _ (g.sub q hq)
      · rcases List.mem_cons.mp ((c2 c).mem_iff.mp hq) with z | z
        · rw [z]; exact List.mem_append_right _ List.mem_cons_self
        · exact List.mem_append_left _ (g.sub q z)
    · intro q hq
      rw [tk1, List.mem_append, List.mem_singleton] at hq
      rcases Classical.em (p.2 ∈ L.map (·.2)) with c | c
      · rw [c1 c]
        rcases hq with z | rfl
        · exact g.all q z
        · exact c
      · rw [((c2 c).map (·.2)).mem_iff, List.map_cons]
        rcases hq with z | rfl
        · exact List.mem_cons_of_mem _ (g.all q z)
        · exact List.mem_cons_self
  · show _ ∨ (!w.params.followText "set-order") = true
    cases w.params.followText "set-order"
    · exact .inr rfl
    · exact .inl rfl
end
end MV
end

section
set_option maxHeartbeats 4000000
/-! sorted(set(xs)), sorted(xs): the rules by content -/
namespace MV
open PySem PySem.Spec PyProof.Rows L2

mutual
theorem pure_of_key : ∀ (x : Val) (k : NestedKey), x.nkey = some k → x.pure = true
  | .non, _, _ => rfl
  | .bl _, _, _ => rfl
  | .int _, _, _ => rfl
  | .str _, _, _ => rfl
  | .tup xs, k, h => by
    simp only [Val.nkey, Option.map_eq_some_iff] at h
    obtain ⟨ks, e, _⟩ := h
    simp only [Val.pure]
    exact pureL_of_keys xs ks e
  | .lst _ _, _, h => by simp [Val.nkey] at h
  | .dct _ _ _ _, _, h => by simp [Val.nkey] at h
  | .scr _, _, h => by simp [Val.nkey] at h
theorem pureL_of_keys : ∀ (xs : List Val) (ks : List NestedKey), nkeyL xs = some ks → pureL xs = true
  | [], _, _ => rfl
  | x :: xs, ks, h => by
    simp only [nkeyL] at h
    split at h
    · rename_i k l e1 e2
      rw [pureL, pure_of_key x k e1, pureL_of_keys xs l e2]
      rfl
    · cases h
end
/-- set(xs) -/
def rSetV (P : Program) (w : World) (K : PySem.W.Frag) : List V → Hp → VK → Prop := fun vs H Q => ∃ F a ws xs, vs = [V.ref a] ∧ (SqL K H a ws ∨ SqT K H a ws) ∧ VRs P w K F H ws xs [] ∧ setOk xs = true ∧
  ∀ p us ys, H p = none → VRs P w K F H us ys [] → ys.Perm (dedV xs) → Q (.ref p) (upd H p (SetHO w p us))
section
variable {X : Cx} {F : Addr → Prop} {H : Hp}
theorem VRs.ints : ∀ (ns : List Int), VRs X.prog X.w X.K F H (ns.map V.int) (ns.map Val.int) []
  | [] => .nil
  | i :: r => .cons (.int i) (VRs.ints r)
theorem VRs.ints_inv {ws : List V} : ∀ {ns : List Int} {ws : List V} {L : List Addr}, VRs X.prog X.w X.K F H ws (ns.map Val.int) L → ws = ns.map V.int
  | [], _, _, h => by cases h; rfl
  | i :: r, _, _, h => by
    cases h with
    | cons h t =>
      cases h
      rw [VRs.ints_inv (ws := []) t]
      rfl
/-- the keys of a list of rows -/
theorem VRs.rows : ∀ {ws : List V} {xs : List Val} {L : List Addr}, VRs X.prog X.w X.K F H ws xs L → (∀ x ∈ xs, x.row = true) → ∃ ks : List (Addr × NestedKey), ws = ks.map (fun p => V.ref p.1) ∧ xs.map Val.nkey = ks.map (fun p => some p.2)
  | _, _, _, .nil, _ => ⟨[], rfl, rfl⟩
  | _, _, _, .cons (xs := xs) h t, hr => by
    obtain ⟨y, r, k, rfl, ek, _⟩ := Val.row_inv (hr _ List.mem_cons_self)
    obtain ⟨ks, e1, e2⟩ := VRs.rows t fun x hx => hr x (List.mem_cons_of_mem _ hx)
    cases h with
    | @tup a vs _ _ hA hs => exact ⟨(a, k) :: ks, by rw [e1]; rfl, by rw [List.map_cons, ek, e2]; rfl⟩
theorem vrs_pick {ws : List V} {xs : List Val} {ks : List (Addr × NestedKey)} (h : VRs X.prog X.w X.K F H ws xs []) (e1 : ws = ks.map fun p => V.ref p.1) (e2 : xs.map Val.nkey = ks.map fun p => some p.2) :
    ∀ (L : List (Addr × NestedKey)), (∀ p ∈ L, p ∈ ks) → ∃ ys, VRs X.prog X.w X.K F H (L.map fun p => V.ref p.1) ys [] ∧ ys.map Val.nkey = L.map (fun p => some p.2) ∧ ∀ y ∈ ys, y ∈ xs
  | [], _ => ⟨[], .nil, rfl, fun y hy => (by cases hy)⟩
  | p :: L, hs => by
    obtain ⟨ys, h1, h2, h3⟩ := vrs_pick h e1 e2 L fun q hq => hs q (List.mem_cons_of_mem _ hq)
    obtain ⟨i, hi, ei⟩ := List.getElem_of_mem (hs p List.mem_cons_self)
    have ei' : ks[i]? = some p := by rw [List.getElem?_eq_getElem hi, ei]
    have w1 : ws[i]? = some (V.ref p.1) := by rw [e1, List.getElem?_map, ei']; rfl
    have x1 : (xs[i]?).map Val.nkey = some (some p.2) := by rw [← List.getElem?_map, e2, List.getElem?_map, ei']; rfl
    obtain ⟨x, hx, ex⟩ := Option.map_eq_some_iff.mp x1
    refine ⟨x :: ys, .cons (h.get' w1 hx) h1, by rw [List.map_cons, ex, h2]; rfl, fun y hy => ?_⟩
    rcases List.mem_cons.mp hy with rfl | hy
    · exact List.mem_of_getElem? hx
    · exact h3 y hy
end
section
variable {X : Cx}
theorem refs_raw : ∀ {ks : List (Addr × NestedKey)} {us : List Value}, Vals (ks.map fun p => V.ref p.1) us → us = ks.map fun p => Value.ref p.1
  | [], _, .nil => rfl
  | p :: ks, _, .cons r t => by
    cases r
    rw [refs_raw t]
    rfl
theorem refs_vals : ∀ (ks : List (Addr × NestedKey)), Vals (ks.map fun p => V.ref p.1) (ks.map fun p => Value.ref p.1)
  | [] => .nil
  | p :: ks => .cons rfl (refs_vals ks)
theorem good_vals : ∀ (es : List (Int × Value)), (∀ e ∈ es, GoodE e) → Vals ((es.map keyOf).map V.int) (es.map (·.2))
  | [], _ => .nil
  | e :: es, h => by
    refine .cons ?_ (good_vals es fun x hx => h x (List.mem_cons_of_mem _ hx))
    obtain ⟨k, tk, e1, _⟩ := h e List.mem_cons_self
    have ek : keyOf e = k := by rw [keyOf, e1]
    rw [ek]
    exact ⟨tk, e1⟩
theorem cr_set (hc : X.calm = true) (hu : X.A.units + 65 < cLine) : CallR X (.type "set") (rSetV X.prog X.w X.K) := by
  intro pins s σ H vs us Q I r ⟨F, l, ws, xs, e, hl, hws, ok, post⟩
  subst e
  rw [Vals.ref1 r]
  have keys := setOk_keys ok
  have hn : H s.heap.objs.size = none := I.hok.fresh (Nat.le_refl _)
  obtain ⟨its, rv, src⟩ : ∃ its : List Value, Vals ws its ∧ (s.heap.IsList l its.toArray ∨ s.heap.IsTuple l its.toArray) := by
    rcases hl with hl | hl
    · obtain ⟨its, rv, pl, _⟩ := I.list hl
      exact ⟨its, rv, .inl pl.isList⟩
    · obtain ⟨its, rv, pl, _⟩ := I.tuple hl
      exact ⟨its, rv, .inr pl⟩
  have ok' := ok
  unfold setOk at ok'
  rw [Bool.or_eq_true] at ok'
  have done : ∀ (h' : Heap) (tk : Nat) (us : List V) (ys : List Val), SetIs X.w h' s.heap.objs.size us → (∀ b o, s.heap.get? b = some o → h'.get? b = some o) → VRs X.prog X.w X.K F H us ys [] → (ys.map Val.nkey).Nodup → (∀ y ∈ ys, y ∈ xs) →
      (∀ x ∈ xs, x.nkey ∈ ys.map Val.nkey) → EP X pins σ Q (.ref s.heap.objs.size) { s with heap := h', toks := tk } := fun h' tk us ys R k hv n1 n2 n3 =>
    ⟨.ref s.heap.objs.size, _, I.laid (t' := tk) k (Nat.le_refl _) (setHO_new R), rfl, post _ us ys hn hv (same_keys keys.1 keys.2.1 n1 n2 n3)⟩
  rcases ok' with c | c
  · rw [Bool.and_eq_true, decide_eq_true_eq] at c
    obtain ⟨ns, en⟩ := Option.isSome_iff_exists.mp c.1
    have hx := intsOfV_eq en
    subst hx
    have hwi := VRs.ints_inv (ws := []) hws
    subst hwi
    rw [List.length_map] at c
    refine set_ints ns (I.ok.hd hc) src (by simpa using rv.ints) c.2 fun h' tk n R k => ?_
    obtain ⟨o, es, ep, t, ho, hex, hd, hg, nd, hm, hb, hf, _, ris, led⟩ := R
    refine done h' tk _ ((es.toList.map keyOf).map Val.int) ⟨o, es, ep, t, ho, hex.1, hd, hf, hb, ris, led, good_vals es.toList hg⟩ k (VRs.ints _) ?_ (fun y hy => ?_) fun x hx => ?_
    · rw [List.map_map]
      refine List.pairwise_map.mpr (nd.imp fun {a b} hne z => hne ?_)
      simp only [Function.comp, Val.nkey, Option.some.injEq, NestedKey.num.injEq] at z
      exact z
    · obtain ⟨j, hj, rfl⟩ := List.mem_map.mp hy
      exact List.mem_map.mpr ⟨j, of_decide_eq_true ((hm j).mpr hj), rfl⟩
    · obtain ⟨j, hj, rfl⟩ := List.mem_map.mp hx
      exact List.mem_map.mpr ⟨.int j, List.mem_map.mpr ⟨j, (hm j).mp (decide_eq_true hj), rfl⟩, rfl⟩
  · rw [Bool.and_eq_true, Bool.and_eq_true, decide_eq_true_eq] at c
    have rows : ∀ x ∈ xs, x.row = true := fun x hx => List.all_eq_true.mp c.1.1 x hx
    obtain ⟨ks, e1, e2⟩ := hws.rows rows
    have inKs : ∀ p ∈ ks, ∃ x ∈ xs, VR X.prog X.w X.K F H (.ref p.1) x [] ∧ x.nkey = some p.2 := fun p hp => by
      obtain ⟨ys, h1, h2, h3⟩ := vrs_pick hws e1 e2 [p] fun q hq => by rw [List.mem_singleton.mp hq]; exact hp
      obtain ⟨v, ev, h4⟩ : ∃ y, ys = [y] ∧ y.nkey = some p.2 := by
        cases ys with
        | nil => simp at h2
        | cons y r =>
          cases r with
          | nil => simp at h2; exact ⟨y, rfl, h2⟩
          | cons _ _ => simp at h2
      subst ev
      obtain ⟨u, eu, h⟩ := h1.inv1
      cases eu
      exact ⟨v, h3 v List.mem_cons_self, h, h4⟩
    have e1' := e1
    subst e1'
    refine set_tups ks ((dedV xs).filterMap Val.nkey) (I.ok.hd hc) (by omega) src (refs_raw rv) (fun p hp => ?_) (fun p hp => ?_) (Nat.le_trans (List.length_filterMap_le _ _) c.2) fun h' tk L es ep t R g k => ?_
    · obtain ⟨x, hx, h1, h2⟩ := inKs p hp
      obtain ⟨_, _, k, _, ek, dk, _⟩ := Val.row_inv (rows x hx)
      obtain rfl : k = p.2 := Option.some.inj (ek.symm.trans h2)
      exact ⟨h1.key I h2 rfl, dk⟩
    · obtain ⟨x, hx, h1, h2⟩ := inKs p hp
      obtain ⟨y, hy, ey⟩ := dedV_all xs x hx
      exact List.mem_filterMap.mpr ⟨y, hy, ey.trans h2⟩
    · have sub : ∀ p ∈ L, p ∈ ks := fun p hp => List.mem_of_mem_take (g.sub p hp)
      obtain ⟨ys, v1, v2, v3⟩ := vrs_pick hws e1 e2 L sub
      obtain ⟨o, ho, hex, hd⟩ := R.ob
      have hlen : L.length ≤ 4000 := by
        have := nodup_le (L.map (·.2)) ((dedV xs).filterMap Val.nkey) R.nd fun z hz => by
          obtain ⟨q, hq, rfl⟩ := List.mem_map.mp hz
          obtain ⟨x, hx, h1, h2⟩ := inKs q (sub q hq)
          obtain ⟨y, hy, ey⟩ := dedV_all xs x hx
          exact List.mem_filterMap.mpr ⟨y, hy, ey.trans h2⟩
        rw [List.length_map] at this
        exact Nat.le_trans this (Nat.le_trans (List.length_filterMap_le _ _) c.2)
      refine done h' tk _ ys ⟨o, es, ep, t, ho, hex.1, hd, R.fits (s := { s with heap := h' }), ?_, R.tab.ris, R.led, ?_⟩ k v1 ?_ v3 fun x hx => ?_
      · rw [R.size (s := { s with heap := h' })]
        unfold scanBound
        omega
      · rw [R.rows, rowsN, List.map_map]
        exact refs_vals L
      · rw [v2]
        refine List.pairwise_map.mpr ((List.pairwise_map.mp R.nd).imp fun {a b} hne z => hne (Option.some.inj z))
      · have hx' : x.nkey ∈ xs.map Val.nkey := List.mem_map.mpr ⟨x, hx, rfl⟩
        rw [e2] at hx'
        obtain ⟨p, hp, ep2⟩ := List.mem_map.mp hx'
        have := g.all p (by rw [List.take_length]; exact hp)
        obtain ⟨q, hq, eq2⟩ := List.mem_map.mp this
        rw [v2, ← ep2]
        exact List.mem_map.mpr ⟨q, hq, by rw [eq2]⟩
end

/-! sorted -/
section
open PySem.W (EachIs)
theorem each_perm {α β : Type} {R : α → β → Prop} {as as' : List α} (p : as'.Perm as) : ∀ {bs : List β}, EachIs R as bs → ∃ bs', bs'.Perm bs ∧ EachIs R as' bs' := by
  induction p with
  | nil => intro bs h; cases h; exact ⟨[], List.Perm.refl _, .nil⟩
  | cons x _ ih =>
    intro bs h
    cases h with
    | cons h t =>
      obtain ⟨bs', p', h'⟩ := ih t
      exact ⟨_ :: bs', p'.cons _, .cons h h'⟩
  | swap x y l =>
    intro bs h
    cases h with
    | cons h t =>
      cases t with
      | cons h2 t => exact ⟨_, List.Perm.swap _ _ _, .cons h2 (.cons h t)⟩
  | trans _ _ i1 i2 =>
    intro bs h
    obtain ⟨b1, p1, h1⟩ := i2 h
    obtain ⟨b2, p2, h2⟩ := i1 h1
    exact ⟨b2, p2.trans p1, h2⟩
/-- what can be sorted here -/
def sortOk (xs : List Val) : Bool := alikeL xs && xs.all (fun x => decide (x.toD.depth ≤ 8) && x.toD.canLay0) && ((xs.all fun x => match x with | .tup (_ :: _) => true | _ => false) || xs.all fun x => match x with | .int _ => true | .str _ => true | .bl _ => true | _ => false)
theorem sortOk_inv {xs : List Val} (h : sortOk xs = true) : alikeL xs = true ∧ (∀ x ∈ xs, x.toD.depth ≤ 8 ∧ x.toD.canLay0 = true) ∧ PySem.W.Sortable (xs.map Val.toD) := by
  unfold sortOk at h
  rw [Bool.and_eq_true, Bool.and_eq_true, Bool.or_eq_true] at h
  refine ⟨h.1.1, fun x hx => ?_, ?_⟩
  · have := List.all_eq_true.mp h.1.2 x hx
    rwa [Bool.and_eq_true, decide_eq_true_eq] at this
  · rcases h.2 with c | c
    · refine .inl fun d hd => ?_
      obtain ⟨x, hx, rfl⟩ := List.mem_map.mp hd
      have := List.all_eq_true.mp c x hx
      split at this
      · exact ⟨_, _, (by simp only [Val.toD, toDL]; rfl)⟩
      · cases this
    · refine .inr fun d hd => ?_
      obtain ⟨x, hx, rfl⟩ := List.mem_map.mp hd
      have := List.all_eq_true.mp c x hx
      split at this
      · exact ⟨fun z => (by simp [Val.toD] at z), fun _ z => (by simp [Val.toD] at z)⟩
      · exact ⟨fun z => (by simp [Val.toD] at z), fun _ z => (by simp [Val.toD] at z)⟩
      · exact ⟨fun z => (by simp [Val.toD] at z), fun _ z => (by simp [Val.toD] at z)⟩
      · cases this
theorem alikeL_sub {xs ys : List Val} (ha : alikeL xs = true) (h : ∀ y ∈ ys, y ∈ xs) : alikeL ys = true := alikeL_perm ha h
/-- a Value that stands for a pair -/
def PairIs (P : Program) (w : World) (K : PySem.W.Frag) (F : Addr → Prop) (H : Hp) (u : Value) (b : V × Val) : Prop := RelV b.1 u ∧ VR P w K F H b.1 b.2 []
theorem VRs.cons_inv {P : Program} {w : World} {K : PySem.W.Frag} {F : Addr → Prop} {H : Hp} {vs : List V} {x : Val} {xs : List Val} {L : List Addr} (h : VRs P w K F H vs (x :: xs) L) : ∃ v vs' L1 L2, vs = v :: vs' ∧ VR P w K F H v x L1 ∧ VRs P w K F H vs' xs L2 ∧ L = L1 ++ L2 := by
  cases h with
  | cons h t => exact ⟨_, _, _, _, rfl, h, t, rfl⟩
theorem pairs_of {P : Program} {w : World} {K : PySem.W.Frag} {F : Addr → Prop} {H : Hp} : ∀ {xs : List Val} {vs : List V} {us : List Value}, VRs P w K F H vs xs [] → Vals vs us → EachIs (PairIs P w K F H) us (vs.zip xs)
  | [], vs, us, h, r => by cases h; cases r; exact .nil
  | x :: xs, vs, us, h, r => by
    obtain ⟨v, vs', L1, L2, rfl, h1, h2, e⟩ := h.cons_inv
    obtain ⟨rfl, rfl⟩ := List.append_eq_nil_iff.mp e.symm
    cases r with
    | cons r1 r2 => exact .cons ⟨r1, h1⟩ (pairs_of h2 r2)
theorem of_pairs {P : Program} {w : World} {K : PySem.W.Frag} {F : Addr → Prop} {H : Hp} : ∀ {us : List Value} {bs : List (V × Val)}, EachIs (PairIs P w K F H) us bs → VRs P w K F H (bs.map (·.1)) (bs.map (·.2)) [] ∧ Vals (bs.map (·.1)) us
  | _, _, .nil => ⟨.nil, .nil⟩
  | _, _, .cons h t => by
    obtain ⟨h1, h2⟩ := of_pairs t
    exact ⟨.cons h.2 h1, .cons h.1 h2⟩
theorem zip_snd : ∀ {vs : List V} {xs : List Val}, vs.length = xs.length → (vs.zip xs).map (·.2) = xs := fun {vs xs} h => List.map_snd_zip (by omega)
theorem sort_snd (bs : List (V × Val)) : (bs.mergeSort (PySem.W.dataLe false fun b : V × Val => b.2.toD)).map (·.2) = (bs.map (·.2)).mergeSort leB :=
  PySem.W.sort_maps (fun b : V × Val => b.2) fun a _ b _ => rfl
end
end MV
end

section
set_option maxHeartbeats 4000000
/-! sorted(set(xs)), sorted(xs) in expressions -/
namespace MV
open PySem PySem.Spec PyProof.Rows L2
open PySem.W (EachIs)

theorem depthAll_le {n : Nat} : ∀ {xs : List Val}, (∀ x ∈ xs, x.toD.depth ≤ n) → PyData.depthAll (toDL xs) ≤ n
  | [], _ => by simp [toDL, PyData.depthAll]
  | x :: xs, h => by
    simp only [toDL, PyData.depthAll]
    exact Nat.max_le.mpr ⟨h x List.mem_cons_self, depthAll_le fun y hy => h y (List.mem_cons_of_mem _ hy)⟩
theorem setOk_sort {xs : List Val} (h : setOk xs = true) : sortOk (dedV xs) = true := by
  have keys := setOk_keys h
  unfold sortOk
  rw [Bool.and_eq_true, Bool.and_eq_true, Bool.or_eq_true]
  refine ⟨⟨alikeL_sub keys.1 (dedV_sub xs), ?_⟩, ?_⟩
  · refine List.all_eq_true.mpr fun x hx => ?_
    have hx := dedV_sub xs x hx
    unfold setOk at h
    rw [Bool.or_eq_true] at h
    rw [Bool.and_eq_true, decide_eq_true_eq]
    rcases h with h | h
    · rw [Bool.and_eq_true, decide_eq_true_eq] at h
      obtain ⟨ns, e⟩ := Option.isSome_iff_exists.mp h.1
      rw [intsOfV_eq e] at hx
      obtain ⟨i, _, rfl⟩ := List.mem_map.mp hx
      exact ⟨by simp [Val.toD, PyData.depth], by simp [Val.toD, PyData.canLay0]⟩
    · rw [Bool.and_eq_true, Bool.and_eq_true] at h
      obtain ⟨_, _, _, _, _, _, h1, h2⟩ := Val.row_inv (List.all_eq_true.mp h.1.1 x hx)
      exact ⟨h1, h2⟩
  · unfold setOk at h
    rw [Bool.or_eq_true] at h
    rcases h with h | h
    · right
      rw [Bool.and_eq_true, decide_eq_true_eq] at h
      obtain ⟨ns, e⟩ := Option.isSome_iff_exists.mp h.1
      refine List.all_eq_true.mpr fun x hx => ?_
      have hx := dedV_sub xs x hx
      rw [intsOfV_eq e] at hx
      obtain ⟨i, _, rfl⟩ := List.mem_map.mp hx
      rfl
    · left
      rw [Bool.and_eq_true, Bool.and_eq_true] at h
      refine List.all_eq_true.mpr fun x hx => ?_
      obtain ⟨y, r, _, rfl, _⟩ := Val.row_inv (List.all_eq_true.mp h.1.1 x (dedV_sub xs x hx))
      rfl
section
variable {X : Cx}
theorem reads_each {pins : List (Addr × Obj)} {σ : S2} {H : Hp} {s : Shared} {F : Addr → Prop} (I : L2.Inv X pins σ H s) : ∀ {us : List Value} {bs : List (V × Val)}, EachIs (PairIs X.prog X.w X.K F H) us bs → (∀ b ∈ bs, b.2.toD.canLay0 = true) →
    EachIs (fun v b => ∃ as, Reads s.heap v b.2.toD as) us bs
  | _, _, .nil, _ => .nil
  | _, _, .cons h t, c => .cons (Dp.reads I _ _ _ (h.2.dp (c _ List.mem_cons_self)) h.1) (reads_each I t fun b hb => c b (List.mem_cons_of_mem _ hb))
theorem each_map_mem {α β : Type} {R : α → β → Prop} : ∀ {as : List α} {bs : List β}, EachIs R as bs → as.length = bs.length := fun h => h.length
/-- sorted(s), s a set that is only walked -/
def rSortS (P : Program) (w : World) (K : PySem.W.Frag) : List V → Hp → VK → Prop := fun vs H Q => ∃ F p us ys, vs = [V.ref p] ∧ H p = some (SetHO w p us) ∧ VRs P w K F H us ys [] ∧ sortOk ys = true ∧ (∀ y ∈ ys, (y.nkey).isSome = true) ∧
  ∀ p' ws, H p' = none → VRs P w K F H ws (ys.mergeSort leB) [] → Q (.ref p') (upd H p' (.lst ws))
theorem cr_sortS (hc : X.calm = true) (hu : X.A.units + 65 < cLine) : CallR X (.builtin "sorted") (rSortS X.prog X.w X.K) := by
  intro pins s σ H vs us Q I r ⟨F, p, vs', ys, e, hp, hv, ok, hk, post⟩
  subst e
  rw [Vals.ref1 r]
  obtain ⟨al, dep, able⟩ := sortOk_inv ok
  obtain ⟨o, es, ep, t, ho, hcl, hd, hf, hb, ris, led, rv⟩ : SetIs X.w s.heap p vs' := (I.hok p _ hp).1
  have each := pairs_of hv rv
  refine Calls.call_function_entry kind_sorted plain_sorted entry_sorted (args_sorted1 _) ?_
  unfold Builtin.«sorted»
  refine wpAny_bind (m := checkCount "sorted" 1 1 _) (wpAny_pure ?_)
  refine wpAny_bind (collect_set (A := X.A.in1) (I.ok.hd hc) ⟨o, ho, hcl, hd⟩ hf hb ris led fun s1 out k1 hz g1 o1 pm => ?_)
  obtain ⟨bs, pb, each1⟩ := each_perm pm each
  have hlen : vs'.length = ys.length := hv.length
  have snd : (vs'.zip ys).map (·.2) = ys := zip_snd hlen
  have bsnd : (bs.map (·.2)).Perm ys := by rw [← snd]; exact pb.map _
  have inYs : ∀ b ∈ bs, b.2 ∈ ys := fun b hb => bsnd.mem_iff.mp (List.mem_map.mpr ⟨b, hb, rfl⟩)
  have olen : out.length ≤ 4096 := by
    rw [pm.length_eq, List.length_map, Array.length_toList]
    exact Nat.le_of_lt hb
  have blen : bs.length ≤ 4096 := by rw [← each1.length]; exact olen
  refine wpAny_bind (wpAny_newList ?_ (by rw [sizeLine_eq]; omega))
  have hoL : (s1.heap.push (seqObj "list" out.toArray 0)).get? s1.heap.objs.size = some (seqObj "list" out.toArray 0) := Heap.get?_push_size _ rfl
  have map2 : bs.map (fun b => b.2.toD) = (bs.map (·.2)).map Val.toD := by rw [List.map_map]; rfl
  have al2 : PySem.W.AllAlike (bs.map fun b => b.2.toD) := by rw [map2]; exact alikeL_all (alikeL_sub al fun y hy => bsnd.mem_iff.mp hy)
  have able2 : PySem.W.Sortable (bs.map fun b => b.2.toD) := by
    have hm : ∀ d ∈ bs.map (fun b => b.2.toD), d ∈ ys.map Val.toD := fun d hd => by
      obtain ⟨b, hb, rfl⟩ := List.mem_map.mp hd
      exact List.mem_map.mpr ⟨b.2, inYs b hb, rfl⟩
    exact able.imp (fun h d hd => h d (hm d hd)) fun h d hd => h d (hm d hd)
  have reads0 := reads_each I each1 fun b hb => (dep _ (inYs b hb)).2
  have reads1 : EachIs (fun v b => ∃ as, Reads (PySem.W.sortingHeap (s1.heap.push (seqObj "list" out.toArray 0)) s1.heap.objs.size out) v b.2.toD as) out bs :=
    reads0.mono fun v b ⟨as, r⟩ => ⟨as, PyProof.Rows.Reads.keeps (fun c u e => by
      have e1 := k1 c u e
      exact PySem.W.sortingHeap_old (Nat.ne_of_lt (Heap.lt_size e1)) (Heap.get?_push_of_some _ e1)) r⟩
  refine wpAny_bind (wpAny_holding (wpAny_call_entry slot_list_sort ⟨_, hoL, rfl⟩ entry_list_sort (PySem.W.list_sort_vals (κ := PySem.W.dataKind (PySem.W.sortingHeap (s1.heap.push (seqObj "list" out.toArray 0)) s1.heap.objs.size out) (bs.map fun b => b.2.toD)) hoL
    (PySem.W.SortsAt.data (s := { s1 with heap := PySem.W.sortingHeap (s1.heap.push (seqObj "list" out.toArray 0)) s1.heap.objs.size out }) (PySem.W.each_map (R := fun v d => ∃ as, Reads (PySem.W.sortingHeap (s1.heap.push (seqObj "list" out.toArray 0)) s1.heap.objs.size out) v d as) (fun b : V × Val => b.2.toD) reads1) al2 able2 (PySem.W.bound_map fun b hb => ?_)) (by rw [sizeLine_eq]; omega) ⟨.none, rfl, ?_⟩) (args_list_sort _)))
  · have := (dep _ (inYs b hb)).1
    have e1 : X.A.in1.in1.units = X.A.units + 2 := rfl
    first | omega | (show X.A.in1.in1.units + _ < _; omega) | (show X.A.units + 2 + _ < _; omega) | (show X.A.units + 3 + _ < _; omega)
  · have each2 := PySem.W.sortVals_data false each1 reads1 al2
    generalize PySem.W.sortVals _ false out out = fin at each2 ⊢
    obtain ⟨c, hcc⟩ := PyProof.Rows.sortedHeap_at (vs := out) (out := fin.toArray) hoL
    obtain ⟨v1, v2⟩ := of_pairs each2
    have e3 := sort_snd bs
    have e4 : (bs.map (·.2)).mergeSort leB = ys.mergeSort leB := by
      refine sort_perm bsnd (fun x hx => hk x (bsnd.mem_iff.mp hx)) (alikeL_sub al fun y hy => bsnd.mem_iff.mp hy)
    rw [e3, e4] at v1
    generalize (bs.mergeSort (PySem.W.dataLe false fun b => b.2.toD)).map (·.1) = ws at v1 v2
    have hn : H s1.heap.objs.size = none := I.hok.fresh hz
    have kp : ∀ b u, s.heap.get? b = some u → (PyProof.Rows.sortedHeap (s1.heap.push (seqObj "list" out.toArray 0)) s1.heap.objs.size out fin.toArray).get? b = some u := fun b u e => by
      have q := k1 b u e
      have hlt := Heap.lt_size q
      rw [sortedHeap_old (Nat.ne_of_lt hlt) (by rw [size_push']; exact Nat.lt_succ_of_lt hlt)]
      exact Heap.get?_push_of_some _ q
    have wl : ws.length ≤ sizeLine := by
      rw [v1.length, (List.mergeSort_perm _ _).length_eq, ← hlen, rv.length, List.length_map, Array.length_toList, sizeLine_eq]
      unfold scanBound at hb
      omega
    have J : L2.Inv X pins σ (upd H s1.heap.objs.size (.lst ws)) { s with heap := PyProof.Rows.sortedHeap (s1.heap.push (seqObj "list" out.toArray 0)) s1.heap.objs.size out fin.toArray, gens := s1.gens, drawn := s1.drawn, toks := s1.toks } :=
      I.call (ch := []) (Un.laid kp hz hn) (I.hok.laid kp hz ⟨wl, _, c, by simpa using v2, hcc⟩) (by rw [g1]; exact I.bare) fun _ z => nomatch z
    obtain ⟨sh, sg, sd, stk, sos⟩ := s1
    obtain rfl : sos = s.os := o1
    exact wpAny_pure ⟨_, rfl, ⟨.ref _, _, J, rfl, post _ ws hn v1⟩⟩
end
end MV
end

section
set_option maxHeartbeats 4000000
/-! sorted(set(xs)), sorted(xs) by content; max and min of two -/
namespace MV
open PySem PySem.Spec PyProof.Rows L2
open PySem.W (EachIs)

def sortSetV (x : Val) : Option Val := (x.seq?).bind fun xs => if setOk xs = true then some (.lst true ((dedV xs).mergeSort leB)) else none
theorem setOk_pure {xs : List Val} (h : setOk xs = true) : pureL xs = true := by
  rw [pureL_all]
  refine List.all_eq_true.mpr fun x hx => ?_
  obtain ⟨k, e⟩ := Option.isSome_iff_exists.mp ((setOk_keys h).2.1 x hx)
  exact pure_of_key x k e
section
variable {P : Program} {w : World} {K : PySem.W.Frag} {F : Addr → Prop} {H : Hp}
/-- the items of a list or tuple whose items are pure -/
theorem VR.seq_inv {v : V} {x : Val} {xs : List Val} {L : List Addr} (h : VR P w K F H v x L) (e : x.seq? = some xs) (p : pureL xs = true) : ∃ a ws, v = .ref a ∧ (SqL K H a ws ∨ SqT K H a ws) ∧ VRs P w K F H ws xs [] := by
  cases x with
  | lst m ys =>
    cases e
    obtain ⟨a, vs, L0, rfl, hH, hs⟩ := h.lst_inv
    have en := hs.pure_nil p
    subst en
    exact ⟨a, vs, rfl, .inl (SqL.of hH), hs⟩
  | tup ys =>
    cases e
    obtain ⟨a, vs, rfl, hA, hs⟩ := h.tup_inv
    have en := hs.pure_nil p
    subst en
    exact ⟨a, vs, rfl, .inr hA.sq, hs⟩
  | _ => exact nomatch e
theorem SR.garb {F : Addr → Prop} {H : Hp} {σ : S2} {τ : Sl} {L : List Addr} {p : Addr} {o : HO} (s : SR P w K F H σ τ L) (g : Good F H L) (np : H p = none) : SR P w K (fun a => F a ∨ a = p) (upd H p o) σ τ L :=
  s.stepQ (Step.newF (o := o) (good_nil g.ft) np) g.ft
end
section
variable {X : Cx} {e : Expr} {q : Bool} {D : Ev} {p p2 pos pos2 : Pos}
/-- sorted(set(e)) -/
theorem se_sortset (hc : X.calm = true) (hu : X.A.units + 65 < cLine) (h1 : X.mg "sorted" = none) (h2 : X.mg "set" = none) (he : SO q X e D) (hg1 : Gl X "sorted" := by rfl) (hg2 : Gl X "set" := by rfl)
    (ha : starEach (e :: []) X.env = (false, eval e X.env) :: starEach [] X.env := by rfl)
    (hb : starEach ((.Call (.Name "set" p2) [e] [] pos2 : Expr) :: []) X.env = (false, eval (.Call (.Name "set" p2) [e] [] pos2) X.env) :: starEach [] X.env := by rfl) :
    SE q X (.Call (.Name "sorted" p) [.Call (.Name "set" p2) [e] [] pos2] [] pos) (c1 sortSetV D) := by
  have inner := pe_callTy (p := p2) (pos := pos2) (cr_set hc hu) hg2 h2 boot_set (pa_cons he pa_nil ha) (he := ha)
  refine peI (pe_callB (p := p) (pos := pos) (cr_sortS hc hu) hg1 h1 (by decide +kernel) (pa_cons inner pa_nil hb) (he := hb)) fun σ H Q ⟨F, τ, L, z, τ', s, g, ev, post⟩ => ?_
  obtain ⟨⟨x, τ1⟩, e1, ev⟩ := bind_eq ev
  obtain ⟨z', e2, ev⟩ := bind_eq ev
  cases ev
  obtain ⟨xs, e3, e2⟩ := bind_eq e2
  split at e2
  · rename_i ok
    cases e2
    refine ⟨F, τ, L, x, _, s, g, e1, fun v F1 H1 L1 Lr hv s1 st1 => ?_⟩
    obtain ⟨a, ws, rfl, src, hs⟩ := hv.seq_inv e3 (setOk_pure ok)
    refine ⟨F1, a, ws, xs, rfl, src, hs, ok, fun p us ys np hy pm => ?_⟩
    have st2 := Step.newF (o := SetHO X.w p us) (good_nil st1.good.ft) np
    have inYs : ∀ y ∈ ys, y ∈ dedV xs := fun y hy => pm.mem_iff.mp hy
    have so := setOk_sort ok
    have kk : ∀ y ∈ ys, (y.nkey).isSome = true := fun y hy => (setOk_keys ok).2.1 y (dedV_sub xs y (inYs y hy))
    have so2 : sortOk ys = true := by
      unfold sortOk at so ⊢
      simp only [Bool.and_eq_true, Bool.or_eq_true] at so ⊢
      refine ⟨⟨alikeL_sub so.1.1 inYs, List.all_eq_true.mpr fun y hy => List.all_eq_true.mp so.1.2 y (inYs y hy)⟩, so.2.imp (fun h => ?_) fun h => ?_⟩
      · exact List.all_eq_true.mpr fun y hy => List.all_eq_true.mp h y (inYs y hy)
      · exact List.all_eq_true.mpr fun y hy => List.all_eq_true.mp h y (inYs y hy)
    refine ⟨_, p, us, ys, rfl, upd_same, VRs.stepQ hy st2 st1.good.ft, so2, kk, fun p' ws' np' hw => ?_⟩
    have e5 : ys.mergeSort leB = (dedV xs).mergeSort leB := sort_perm pm kk (by simp only [sortOk, Bool.and_eq_true] at so2; exact so2.1.1)
    rw [e5] at hw
    have st12 := (st1.trans (st2.ext0 st1.good)).andT
    exact post_lst st12.good.ft (fun u F2 H2 M h2 st3 => post u F2 H2 L1 M h2 ((s1.garb st1.good np).stepQ st3 st12.good.ft) (st12.op st3)) hw np'
  · cases e2
end
end MV
end

section
set_option maxHeartbeats 4000000
/-! freezing, chained comparisons, max and min of two, tuples written at the top -/
namespace MV
open PySem PySem.Spec PyProof.Rows L2

/-! freezing -/
def frE (D : Ev) : Ev := fun τ => (D τ).bind fun p => some (p.1.frz, p.2)
section
variable {X : Cx} {q : Bool} {e a b c : Expr} {D Da Db Dc : Ev} {pos : Pos}
theorem se_frz (h : SE q X e D) : SE q X e (frE D) := peI h fun σ H Q ⟨F, τ, L, x, τ', s, g, ev, post⟩ => by
  obtain ⟨⟨y, τ1⟩, e1, ev⟩ := bind_eq ev
  cases ev
  refine ⟨F, τ, L, y, _, s, g, e1, fun v F1 H1 L1 Lr h1 s1 st1 => ?_⟩
  have st2 := Step.freeze st1.good
  have h2 := h1.frz (F' := fun a => F1 a ∨ a ∈ Lr) (fun _ z => .inl z) fun a ha => .inr ha
  exact post v _ H1 L1 [] h2 s1.grow (by rw [List.append_nil]; exact (st1.trans st2).andT)

/-! a op b op' c -/
def chM (g g' : Val → Val → Option Val) (Da Db Dc : Ev) : Ev := fun τ => (Da τ).bind fun p => (Db p.2).bind fun r => (g p.1 r.1).bind fun z => (z.bool?).bind fun k =>
  if k = true then (Dc r.2).bind fun t => (g' r.1 t.1).bind fun y => some (y, t.2) else some (.bl false, r.2)
theorem tCh_ok {P : Program} {w : World} {K : PySem.W.Frag} {r r' : R2} {g g' : Val → Val → Option Val} (hm : M2 P w K r g) (hm' : M2 P w K r' g') (σ : S2) (H : Hp) (Q : VK) (h : tE P w K q (chM g g' Da Db Dc) σ H Q) : tChain r r' (tO P w K q Da) (tO P w K true Db) (tO P w K true Dc) σ H Q := by
  obtain ⟨F, τ, L, x, τ', s, gd, ev, post⟩ := h
  obtain ⟨⟨xa, τ1⟩, e1, ev⟩ := bind_eq ev
  obtain ⟨⟨xb, τ2⟩, e2, ev⟩ := bind_eq ev
  obtain ⟨z, e3, ev⟩ := bind_eq ev
  obtain ⟨k, e4, evk⟩ := bind_eq ev
  obtain rfl := bool?_some e4
  refine ⟨F, τ, L, xa, τ1, s, gd, e1, fun va F1 H1 L1 La ha s1 st1 => ?_⟩
  refine ⟨F1, τ1, L1, xb, τ2, s1, st1.good, e2, fun vb F2 H2 L2 Lb hb s2 st2 => ?_⟩
  have ha2 := ha.stepQ st2 st1.good.ft
  refine hm F2 H2 va vb xa xb La Lb (.bl k) _ st2.good.ft ha2 hb e3 fun u F3 H3 M hu st3 => ⟨k, hu.bl_inv, ?_⟩
  have en : M = [] := hu.pure_nil rfl
  subst en
  have st3' := st3.ext0 st2.good
  have s3 := s2.stepQ st3 st2.good.ft
  have st13 := (st1.trans st2).andT.trans st3' |>.andT
  by_cases hk : k = true
  · rw [if_pos hk] at evk ⊢
    obtain ⟨⟨xc, τ3⟩, e5, evk⟩ := bind_eq evk
    obtain ⟨y, e6, evk⟩ := bind_eq evk
    cases evk
    refine ⟨F3, τ2, L2, xc, τ3, s3, st3'.good, e5, fun vc F4 H4 L4 Lc hc s4 st4 => ?_⟩
    have hb4 := (hb.stepQ st3 st2.good.ft).stepQ st4 st3'.good.ft
    refine hm' F4 H4 vb vc xb xc Lb Lc _ _ st4.good.ft hb4 hc e6 fun u F5 H5 M5 hu5 st5 => ?_
    exact post u F5 H5 L4 M5 hu5 (s4.stepQ st5 st4.good.ft) ((st13.trans st4).andT.op st5)
  · rw [if_neg hk] at evk ⊢
    cases evk
    exact post _ F3 H3 L2 [] (.bl false) s3 (by rw [List.append_nil]; exact st13)
theorem se_chain {op op' : CmpOp} {r r' : R2} {g g' : Val → Val → Option Val} (ho : OpR X (compareOp op) r) (hm : M2 X.prog X.w X.K r g) (ho' : OpR X (compareOp op') r') (hm' : M2 X.prog X.w X.K r' g') (ha : SO q X a Da) (hb : SO true X b Db) (hc : SO true X c Dc)
    (hk : lastMarks [op, op'] [b, c] = false := by with_unfolding_all rfl) : SE q X (.Compare a [op, op'] [b, c] pos) (chM g g' Da Db Dc) := peI (pe_chain ho ho' ha hb hc hk) (tCh_ok hm hm')
theorem st_chain {op op' : CmpOp} {r r' : R2} {g g' : Val → Val → Option Val} (ho : OpR X (compareOp op) r) (hm : M2 X.prog X.w X.K r g) (ho' : OpR X (compareOp op') r') (hm' : M2 X.prog X.w X.K r' g') (ha : SO q X a Da) (hb : SO true X b Db) (hc : SO true X c Dc)
    (hk : lastMarks [op, op'] [b, c] = false := by with_unfolding_all rfl) : ST q X (.Compare a [op, op'] [b, c] pos) (tst (chM g g' Da Db Dc)) :=
  ptI (pt_chain ho ho' ha hb hc hk) fun σ H Q h => by
    obtain ⟨F, τ, L, c, τ', s, gd, ev, post⟩ := h
    obtain ⟨⟨x, τ1⟩, e1, ev⟩ := bind_eq ev
    obtain ⟨c', e2, ev⟩ := bind_eq ev
    cases ev
    obtain rfl := bool?_some e2
    exact tCh_ok hm hm' σ H _ ⟨F, τ, L, _, _, s, gd, e1, fun v F' H' L' Lr h1 s1 st1 => ⟨c, h1.bl_inv, post F' H' L' s1 (st1.sub (Sub.left L' Lr))⟩⟩
end

/-! max, min of two that are alike -/
section
variable {P : Program} {w : World} {A : Around} {E : Value → Shared → Prop} {s : Shared}
theorem reads_kept {h h' : Heap} (hk : ∀ b o, h.get? b = some o → h'.get? b = some o) {v : Value} {d : PyData} (r : ∃ as, Reads h v d as) : ∃ as, Reads h' v d as := let ⟨as, r⟩ := r; ⟨as, PyProof.Rows.Reads.keeps hk r⟩
theorem pair_get {a b : Value} {da db : PyData} {i : Nat} {v : Value} (h : #[a, b][i]? = some v) : (i = 0 ∧ v = a) ∨ (i = 1 ∧ v = b) := by
  rcases i with _ | _ | i
  · left; exact ⟨rfl, by simpa using h.symm⟩
  · right; exact ⟨rfl, by simpa using h.symm⟩
  · simp at h
theorem max_two_data {a b : Value} {da db : PyData} {Q : Value → Shared → Prop} (hh : A.handled = none) (ra : ∃ as, Reads s.heap a da as) (rb : ∃ as, Reads s.heap b db as) (al : ∀ d ∈ [da, db], ∀ e ∈ [da, db], PySem.W.alike d e = true) (nn : ∀ d ∈ [da, db], d ≠ .none)
    (hu : ∀ d ∈ [da, db], A.units + 1 + d.depth < cLine) (h : ∀ h' tk, (∀ c o, s.heap.get? c = some o → h'.get? c = some o) → Q (if PySem.W.dataLt da db = true then b else a) { s with heap := h', toks := tk }) :
    wpAny (model P w) A (call (.builtin "max") [a, b]) Q E s := by
  have hname : (toString "max" ++ toString ".loop" : String) = "max.loop" := by decide
  refine call_function_tree F.kind_max F.plain_max F.entry_max (F.args_max2 _ _) ?_
  show wpAny _ A.in1 (Builtin.Builtins.bindParams "max" ["key", "default"] 0 ⟨[], []⟩ >>= _) _ _ s
  refine wpAny_bind (wpAny_of_eq (show Builtin.Builtins.bindParams "max" ["key", "default"] 0 ⟨[], []⟩ = pure [none, none] from rfl) ?_)
  show wpAny _ A.in1 (newTuple [a, b] >>= _) _ _ s
  refine wpAny_bind (wpAny_newObj_type ?_)
  generalize hh1 : s.heap.push { cls := .type "tuple", data := .seq #[a, b] } = h1
  have hT : h1.IsTuple s.heap.objs.size #[a, b] := by rw [← hh1]; exact ⟨_, Heap.get?_push_size _ rfl, rfl, 0, rfl⟩
  have hz : h1.objs.size = s.heap.objs.size + 1 := by rw [← hh1]; exact Heap.size_push ..
  have k1 : ∀ c o, s.heap.get? c = some o → h1.get? c = some o := fun c o e => by rw [← hh1]; exact Heap.get?_push_of_some _ e
  refine wpAny_bind (wpAny_pyIter_tuple hT ?_)
  refine wpAny_bind (wpAny_newObj_type ?_)
  rw [hname]
  have W := (Walks.tuple (prog := P) (w := w) (A := A.in1) (show A.in1.handled = none by simp [hh]) h1.objs.size s.heap.objs.size (by rw [hz]; exact Nat.ne_of_lt (Nat.lt_succ_self _)) #[a, b]).toS
  have hz2 : (h1.push { cls := .type "tuple_iterator", data := .fields #[.ref s.heap.objs.size, .int 0 0] }).objs.size = h1.objs.size + 1 := Heap.size_push ..
  have live : ∀ {b : Addr} {o : Obj}, s.heap.get? b = some o → b ≠ h1.objs.size := fun e => by
    have := Heap.lt_size e
    rw [hz]
    exact Nat.ne_of_lt (Nat.lt_succ_of_lt this)
  have cmp : CmpIn P w A.in1 .Gt s.heap (fun i v => #[a, b][i]? = some v) fun i j => PySem.W.dataLt (if j = 0 then da else db) (if i = 0 then da else db) := by
    intro i j vi vj s2 Q2 E2 hk hi hj q
    have rd : ∀ {i : Nat} {v : Value}, #[a, b][i]? = some v → (∃ as, Reads s2.heap v (if i = 0 then da else db) as) ∧ (if i = 0 then da else db) ∈ [da, db] := fun {i v} hi => by
      rcases pair_get (da := da) (db := db) hi with ⟨rfl, rfl⟩ | ⟨rfl, rfl⟩
      · exact ⟨reads_kept hk ra, by simp⟩
      · exact ⟨reads_kept hk rb, by simp⟩
    obtain ⟨⟨as, r1⟩, m1⟩ := rd hi
    obtain ⟨⟨bs, r2⟩, m2⟩ := rd hj
    exact PySem.W.rcGt_alike _ _ _ s2 vi vj as bs r1 r2 (al _ m1 _ m2) (nn _ m1) (by
      have := hu _ m1
      have e1 : A.in1.units = A.units + 1 := rfl
      omega) P w E2 Q2 q
  refine wpAny_pure ⟨plainId_quiet F.plain_max_loop _, codeAny_max_loop_firstH W s.heap (fun b o e z => live e (List.mem_singleton.mp z)) _ cmp (h1.push { cls := .type "tuple_iterator", data := .fields #[.ref s.heap.objs.size, .int 0 0] }).objs.size ?_ ?_ _ (by simp) (fun b o e => Heap.get?_push_of_some _ (Heap.get?_push_of_some _ (k1 b o e))) (W.frame 0 { s with heap := h1.push { cls := .type "tuple_iterator", data := .fields #[.ref s.heap.objs.size, .int 0 0] } } _ _ ⟨⟨_, Heap.get?_push_size _ rfl, rfl, rfl⟩, hT.push _⟩ (Nat.le_refl _) fun b _ o e => Heap.get?_push_of_some _ e) (Heap.get?_push_size _ rfl) fun v s' hP hm => ?_⟩
  · rw [hz2]
    simp only [List.mem_cons, List.not_mem_nil, or_false, not_or]
    refine ⟨Nat.ne_of_gt (Nat.lt_succ_self _), ?_⟩
    rw [hz]
    exact Nat.ne_of_gt (Nat.lt_succ_of_lt (Nat.lt_succ_self _))
  · cases e : s.heap.get? (h1.push { cls := .type "tuple_iterator", data := .fields #[.ref s.heap.objs.size, .int 0 0] }).objs.size with
    | none => rfl
    | some o =>
      have := Heap.lt_size e
      rw [hz2, hz] at this
      exact absurd this (Nat.not_lt.mpr (Nat.le_succ_of_le (Nat.le_succ _)))
  · obtain ⟨hp, hg, hd, htk, hos⟩ := s'
    obtain rfl : hg = s.gens := hm.gens
    obtain rfl : hd = s.drawn := hm.drawn
    obtain rfl : hos = s.os := hm.os
    have ans : v = if PySem.W.dataLt da db = true then b else a := by
      have : argBest (fun i j => PySem.W.dataLt (if j = 0 then da else db) (if i = 0 then da else db)) (#[a, b].size - 1) = if PySem.W.dataLt da db = true then 1 else 0 := rfl
      rw [this] at hP
      split at hP
      · rename_i c
        rw [if_pos c]
        simpa using hP.symm
      · rename_i c
        rw [if_neg c]
        simpa using hP.symm
    rw [ans]
    refine h hp htk fun c o e => hm.heap c o (fun z => ?_) (Heap.get?_push_of_some _ (Heap.get?_push_of_some _ (k1 c o e)))
    have lt := Heap.lt_size e
    rw [hz2] at z
    simp only [List.mem_cons, List.not_mem_nil, or_false] at z
    rcases z with z | z
    · rw [z, hz] at lt
      exact absurd lt (Nat.not_lt.mpr (Nat.le_succ_of_le (Nat.le_succ _)))
    · exact live e z
theorem min_two_data {a b : Value} {da db : PyData} {Q : Value → Shared → Prop} (hh : A.handled = none) (ra : ∃ as, Reads s.heap a da as) (rb : ∃ as, Reads s.heap b db as) (al : ∀ d ∈ [da, db], ∀ e ∈ [da, db], PySem.W.alike d e = true) (nn : ∀ d ∈ [da, db], d ≠ .none)
    (hu : ∀ d ∈ [da, db], A.units + 1 + d.depth < cLine) (h : ∀ h' tk, (∀ c o, s.heap.get? c = some o → h'.get? c = some o) → Q (if PySem.W.dataLt db da = true then b else a) { s with heap := h', toks := tk }) :
    wpAny (model P w) A (call (.builtin "min") [a, b]) Q E s := by
  have hname : (toString "min" ++ toString ".loop" : String) = "min.loop" := by decide
  refine call_function_tree F.kind_min F.plain_min F.entry_min (F.args_min2 _ _) ?_
  show wpAny _ A.in1 (Builtin.Builtins.bindParams "min" ["key", "default"] 0 ⟨[], []⟩ >>= _) _ _ s
  refine wpAny_bind (wpAny_of_eq (show Builtin.Builtins.bindParams "min" ["key", "default"] 0 ⟨[], []⟩ = pure [none, none] from rfl) ?_)
  show wpAny _ A.in1 (newTuple [a, b] >>= _) _ _ s
  refine wpAny_bind (wpAny_newObj_type ?_)
  generalize hh1 : s.heap.push { cls := .type "tuple", data := .seq #[a, b] } = h1
  have hT : h1.IsTuple s.heap.objs.size #[a, b] := by rw [← hh1]; exact ⟨_, Heap.get?_push_size _ rfl, rfl, 0, rfl⟩
  have hz : h1.objs.size = s.heap.objs.size + 1 := by rw [← hh1]; exact Heap.size_push ..
  have k1 : ∀ c o, s.heap.get? c = some o → h1.get? c = some o := fun c o e => by rw [← hh1]; exact Heap.get?_push_of_some _ e
  refine wpAny_bind (wpAny_pyIter_tuple hT ?_)
  refine wpAny_bind (wpAny_newObj_type ?_)
  rw [hname]
  have W := (Walks.tuple (prog := P) (w := w) (A := A.in1) (show A.in1.handled = none by simp [hh]) h1.objs.size s.heap.objs.size (by rw [hz]; exact Nat.ne_of_lt (Nat.lt_succ_self _)) #[a, b]).toS
  have hz2 : (h1.push { cls := .type "tuple_iterator", data := .fields #[.ref s.heap.objs.size, .int 0 0] }).objs.size = h1.objs.size + 1 := Heap.size_push ..
  have live : ∀ {b : Addr} {o : Obj}, s.heap.get? b = some o → b ≠ h1.objs.size := fun e => by
    have := Heap.lt_size e
    rw [hz]
    exact Nat.ne_of_lt (Nat.lt_succ_of_lt this)
  have cmp : CmpIn P w A.in1 .Lt s.heap (fun i v => #[a, b][i]? = some v) fun i j => PySem.W.dataLt (if i = 0 then da else db) (if j = 0 then da else db) := by
    intro i j vi vj s2 Q2 E2 hk hi hj q
    have rd : ∀ {i : Nat} {v : Value}, #[a, b][i]? = some v → (∃ as, Reads s2.heap v (if i = 0 then da else db) as) ∧ (if i = 0 then da else db) ∈ [da, db] := fun {i v} hi => by
      rcases pair_get (da := da) (db := db) hi with ⟨rfl, rfl⟩ | ⟨rfl, rfl⟩
      · exact ⟨reads_kept hk ra, by simp⟩
      · exact ⟨reads_kept hk rb, by simp⟩
    obtain ⟨⟨as, r1⟩, m1⟩ := rd hi
    obtain ⟨⟨bs, r2⟩, m2⟩ := rd hj
    exact PySem.W.rcLt_alike _ _ _ s2 vi vj as bs r1 r2 (al _ m1 _ m2) (nn _ m1) (by
      have := hu _ m1
      have e1 : A.in1.units = A.units + 1 := rfl
      omega) P w E2 Q2 q
  refine wpAny_pure ⟨plainId_quiet F.plain_min_loop _, codeAny_min_loop_firstH W s.heap (fun b o e z => live e (List.mem_singleton.mp z)) _ cmp (h1.push { cls := .type "tuple_iterator", data := .fields #[.ref s.heap.objs.size, .int 0 0] }).objs.size ?_ ?_ _ (by simp) (fun b o e => Heap.get?_push_of_some _ (Heap.get?_push_of_some _ (k1 b o e))) (W.frame 0 { s with heap := h1.push { cls := .type "tuple_iterator", data := .fields #[.ref s.heap.objs.size, .int 0 0] } } _ _ ⟨⟨_, Heap.get?_push_size _ rfl, rfl, rfl⟩, hT.push _⟩ (Nat.le_refl _) fun b _ o e => Heap.get?_push_of_some _ e) (Heap.get?_push_size _ rfl) fun v s' hP hm => ?_⟩
  · rw [hz2]
    simp only [List.mem_cons, List.not_mem_nil, or_false, not_or]
    refine ⟨Nat.ne_of_gt (Nat.lt_succ_self _), ?_⟩
    rw [hz]
    exact Nat.ne_of_gt (Nat.lt_succ_of_lt (Nat.lt_succ_self _))
  · cases e : s.heap.get? (h1.push { cls := .type "tuple_iterator", data := .fields #[.ref s.heap.objs.size, .int 0 0] }).objs.size with
    | none => rfl
    | some o =>
      have := Heap.lt_size e
      rw [hz2, hz] at this
      exact absurd this (Nat.not_lt.mpr (Nat.le_succ_of_le (Nat.le_succ _)))
  · obtain ⟨hp, hg, hd, htk, hos⟩ := s'
    obtain rfl : hg = s.gens := hm.gens
    obtain rfl : hd = s.drawn := hm.drawn
    obtain rfl : hos = s.os := hm.os
    have ans : v = if PySem.W.dataLt db da = true then b else a := by
      have : argBest (fun i j => PySem.W.dataLt (if i = 0 then da else db) (if j = 0 then da else db)) (#[a, b].size - 1) = if PySem.W.dataLt db da = true then 1 else 0 := rfl
      rw [this] at hP
      split at hP
      · rename_i c
        rw [if_pos c]
        simpa using hP.symm
      · rename_i c
        rw [if_neg c]
        simpa using hP.symm
    rw [ans]
    refine h hp htk fun c o e => hm.heap c o (fun z => ?_) (Heap.get?_push_of_some _ (Heap.get?_push_of_some _ (k1 c o e)))
    have lt := Heap.lt_size e
    rw [hz2] at z
    simp only [List.mem_cons, List.not_mem_nil, or_false] at z
    rcases z with z | z
    · rw [z, hz] at lt
      exact absurd lt (Nat.not_lt.mpr (Nat.le_succ_of_le (Nat.le_succ _)))
    · exact live e z
end

def noneD : PyData → Bool
  | .none => true
  | _ => false
def pickOk (x y : Val) : Bool := [x, y].all fun a => a.pure && a.toD.canLay0 && decide (a.toD.depth ≤ 8) && !noneD a.toD && [x, y].all fun b => PySem.W.alike a.toD b.toD
def maxV : List Val → Option Val
  | [x, y] => if pickOk x y = true then some (if PySem.W.dataLt x.toD y.toD = true then y else x) else none
  | _ => none
def minV : List Val → Option Val
  | [x, y] => if pickOk x y = true then some (if PySem.W.dataLt y.toD x.toD = true then y else x) else none
  | _ => none
section
variable {X : Cx}
theorem pickOk_inv {x y a : Val} (h : pickOk x y = true) (ha : a ∈ [x, y]) : a.pure = true ∧ a.toD.canLay0 = true ∧ a.toD.depth ≤ 8 ∧ a.toD ≠ .none ∧ ∀ b ∈ [x, y], PySem.W.alike a.toD b.toD = true := by
  have := List.all_eq_true.mp h a ha
  simp only [Bool.and_eq_true, decide_eq_true_eq, Bool.not_eq_true'] at this
  exact ⟨this.1.1.1.1, this.1.1.1.2, this.1.1.2, fun e => by rw [e] at this; exact absurd this.1.2 (by decide), fun b hb => List.all_eq_true.mp this.2 b hb⟩
theorem call_maxV (hc : X.calm = true) (hu : X.A.units + 65 < cLine) : CallR X (.builtin "max") (rGN X.prog X.w X.K maxV) := by
  intro pins s σ H vs us Q I r ⟨F, xs, L, z, ft, hx, e, post⟩
  unfold maxV at e
  split at e
  · rename_i x y
    split at e
    · rename_i ok
      cases e
      obtain ⟨v, u, L1, L2, rfl, h1, h2⟩ := hx.inv2
      obtain ⟨pv, pu, rfl, r1, r2⟩ := vals2 r
      have ix := pickOk_inv ok (a := x) (by simp)
      have iy := pickOk_inv ok (a := y) (by simp)
      have n1 := h1.pure_nil ix.1
      have n2 := h2.pure_nil iy.1
      subst n1 n2
      refine max_two_data (da := x.toD) (db := y.toD) (I.ok.hd hc) (Dp.reads I _ _ _ (h1.dp ix.2.1) r1) (Dp.reads I _ _ _ (h2.dp iy.2.1) r2) ?_ ?_ ?_ fun h' tk k => ?_
      · intro d hd d' hd'
        simp only [List.mem_cons, List.not_mem_nil, or_false] at hd hd'
        rcases hd with rfl | rfl <;> rcases hd' with rfl | rfl
        · exact ix.2.2.2.2 x (by simp)
        · exact ix.2.2.2.2 y (by simp)
        · exact iy.2.2.2.2 x (by simp)
        · exact iy.2.2.2.2 y (by simp)
      · intro d hd
        simp only [List.mem_cons, List.not_mem_nil, or_false] at hd
        rcases hd with rfl | rfl
        · exact ix.2.2.2.1
        · exact iy.2.2.2.1
      · intro d hd
        simp only [List.mem_cons, List.not_mem_nil, or_false] at hd
        have := ix.2.2.1
        have := iy.2.2.1
        rcases hd with rfl | rfl <;> omega
      · refine ⟨if PySem.W.dataLt x.toD y.toD = true then u else v, H, I.kept k, ?_, post_id ft post ?_⟩
        · split <;> assumption
        · split <;> assumption
    · cases e
  · cases e
theorem call_minV (hc : X.calm = true) (hu : X.A.units + 65 < cLine) : CallR X (.builtin "min") (rGN X.prog X.w X.K minV) := by
  intro pins s σ H vs us Q I r ⟨F, xs, L, z, ft, hx, e, post⟩
  unfold minV at e
  split at e
  · rename_i x y
    split at e
    · rename_i ok
      cases e
      obtain ⟨v, u, L1, L2, rfl, h1, h2⟩ := hx.inv2
      obtain ⟨pv, pu, rfl, r1, r2⟩ := vals2 r
      have ix := pickOk_inv ok (a := x) (by simp)
      have iy := pickOk_inv ok (a := y) (by simp)
      have n1 := h1.pure_nil ix.1
      have n2 := h2.pure_nil iy.1
      subst n1 n2
      refine min_two_data (da := x.toD) (db := y.toD) (I.ok.hd hc) (Dp.reads I _ _ _ (h1.dp ix.2.1) r1) (Dp.reads I _ _ _ (h2.dp iy.2.1) r2) ?_ ?_ ?_ fun h' tk k => ?_
      · intro d hd d' hd'
        simp only [List.mem_cons, List.not_mem_nil, or_false] at hd hd'
        rcases hd with rfl | rfl <;> rcases hd' with rfl | rfl
        · exact ix.2.2.2.2 x (by simp)
        · exact ix.2.2.2.2 y (by simp)
        · exact iy.2.2.2.2 x (by simp)
        · exact iy.2.2.2.2 y (by simp)
      · intro d hd
        simp only [List.mem_cons, List.not_mem_nil, or_false] at hd
        rcases hd with rfl | rfl
        · exact ix.2.2.2.1
        · exact iy.2.2.2.1
      · intro d hd
        simp only [List.mem_cons, List.not_mem_nil, or_false] at hd
        have := ix.2.2.1
        have := iy.2.2.1
        rcases hd with rfl | rfl <;> omega
      · refine ⟨if PySem.W.dataLt y.toD x.toD = true then u else v, H, I.kept k, ?_, post_id ft post ?_⟩
        · split <;> assumption
        · split <;> assumption
    · cases e
  · cases e
end
/-! a tuple that the top wrote -/
theorem vr_ktup {P : Program} {w : World} {K : PySem.W.Frag} {a : Addr} {o : Obj} {its : Array Value} {n : Nat} {vs : List V} {xs : List Val} (h1 : K.lookup a = some o) (h2 : o.cls = .type "tuple") (h3 : o.data = .seq its n) (h4 : its.size ≤ sizeLine) (h5 : Vals vs its.toList)
    (h6 : ∀ F H, VRs P w K F H vs xs []) (F : Addr → Prop) (H : Hp) : VR P w K F H (.ref a) (.tup xs) [] := .tup (.inr ⟨o, its, n, h1, h2, h3, h4, h5⟩) (h6 F H)
end MV
end

section
set_option maxHeartbeats 4000000
/-! names that the top wrote; promises of defs -/
namespace MV
open PySem PySem.Spec PyProof.Rows L2
/-- the name x at the top stands for the content y -/
def Glb (K : PySem.W.Frag) (mg : Str → Option Value) (x : Str) (y : Val) : Prop := ∃ v u, mg x = some u ∧ RelV v u ∧ ∀ P w F H, VR P w K F H v y []
theorem se_glb {X : Cx} {pos : Pos} {x : Str} {y : Val} (h : Glb X.K X.mg x y) (hg : Gl X x := by rfl) (hd : (x == ("__debug__" : Str)) = false := by decide) : SE true X (.Name x pos) (cC y) := by
  obtain ⟨v, u, h1, h2, h3⟩ := h
  exact se_glob h1 h2 (fun F H => h3 _ _ F H) hg hd
theorem Glb.int {K : PySem.W.Frag} {mg : Str → Option Value} {x : Str} {i : Int} {t : Tok} (h : mg x = some (.int i t)) : Glb K mg x (.int i) := ⟨.int i, _, h, ⟨t, rfl⟩, fun _ _ _ _ => .int i⟩
end MV
end

section
set_option maxHeartbeats 4000000
/-! tools for mirrors: comprehensions and loops run, nice values, rising lists -/
namespace MV
open PySem

/-! comprehensions whose items don't depend on one another -/
theorem lcL_det {T : Tg} {C : Tv} {E : Ev} {own : List Nat} {τ0 : Sl} (g : Val → Option Val) : ∀ (xs : List Val),
    (∀ x ∈ xs, ∃ τ2, T x τ0 = some τ2 ∧ ((g x = none ∧ ∃ τ3, C τ2 = some (false, τ3) ∧ wipeM τ3 own = τ0) ∨ ∃ y τ3 τ4, g x = some y ∧ C τ2 = some (true, τ3) ∧ E τ3 = some (y, τ4) ∧ wipeM τ4 own = τ0)) →
    lcL T C E own xs τ0 = some (xs.filterMap g, τ0)
  | [], _ => rfl
  | x :: r, h => by
    have ih := lcL_det g r fun y hy => h y (List.mem_cons_of_mem _ hy)
    obtain ⟨τ2, h1, h2⟩ := h x List.mem_cons_self
    rcases h2 with ⟨hg, τ3, h3, h4⟩ | ⟨y, τ3, τ4, hg, h3, h4, h5⟩
    · simp [lcL, h1, h3, h4, ih, List.filterMap_cons, hg]
    · simp [lcL, h1, h3, h4, h5, ih, List.filterMap_cons, hg]
theorem lcM_det {I : Evs} {T : Tg} {C : Tv} {E : Ev} {own : List Nat} {τ τ1 : Sl} {xs : List Val} (g : Val → Option Val) (hI : I τ = some (xs, τ1)) (hl : xs.length ≤ sizeLine)
    (h : ∀ x ∈ xs, ∃ τ2, T x (wipeM τ1 own) = some τ2 ∧ ((g x = none ∧ ∃ τ3, C τ2 = some (false, τ3) ∧ wipeM τ3 own = wipeM τ1 own) ∨ ∃ y τ3 τ4, g x = some y ∧ C τ2 = some (true, τ3) ∧ E τ3 = some (y, τ4) ∧ wipeM τ4 own = wipeM τ1 own)) :
    lcM I T C E own τ = some (.lst true (xs.filterMap g), wipeM τ1 own) := by
  have e := lcL_det g xs h
  have hl2 : (xs.filterMap g).length ≤ sizeLine := Nat.le_trans (List.length_filterMap_le _ _) hl
  simp [lcM, hI, e, hl2]
/-- .. that change what they own, all alike -/
theorem lcL_inv {T : Tg} {C : Tv} {E : Ev} {own : List Nat} (Inv : Sl → Prop) (R : Val → Val → Prop) : ∀ (xs : List Val) (τ : Sl), Inv τ →
    (∀ x ∈ xs, ∀ τ, Inv τ → ∃ τ2, T x τ = some τ2 ∧ ∃ b τ3, C τ2 = some (b, τ3) ∧ (b = false → Inv (wipeM τ3 own)) ∧ (b = true → ∃ y τ4, E τ3 = some (y, τ4) ∧ R x y ∧ Inv (wipeM τ4 own))) →
    ∃ (zs ys : List Val) (τ' : Sl), lcL T C E own xs τ = some (ys, τ') ∧ Inv τ' ∧ zs.Sublist xs ∧ zs.length = ys.length ∧ ∀ (i : Nat) (z y : Val), zs[i]? = some z → ys[i]? = some y → R z y
  | [], τ, hi, _ => ⟨[], [], τ, rfl, hi, List.Sublist.refl _, rfl, fun i z y h => by simp at h⟩
  | x :: r, τ, hi, h => by
    obtain ⟨τ2, h1, b, τ3, h2, h3, h4⟩ := h x List.mem_cons_self τ hi
    cases b with
    | false =>
      obtain ⟨zs, ys, τ', e, i', sb, el, rel⟩ := lcL_inv Inv R r _ (h3 rfl) fun y hy => h y (List.mem_cons_of_mem _ hy)
      exact ⟨zs, ys, τ', by simp [lcL, h1, h2, e], i', sb.cons _, el, rel⟩
    | true =>
      obtain ⟨y, τ4, h5, h6, h7⟩ := h4 rfl
      obtain ⟨zs, ys, τ', e, i', sb, el, rel⟩ := lcL_inv Inv R r _ h7 fun y hy => h y (List.mem_cons_of_mem _ hy)
      refine ⟨x :: zs, y :: ys, τ', by simp [lcL, h1, h2, h5, e], i', sb.cons₂ _, by simp [el], fun i z w hz hw => ?_⟩
      cases i with
      | zero =>
        simp at hz hw
        subst hz hw
        exact h6
      | succ i => exact rel i z w (by simpa using hz) (by simpa using hw)
/-- .. without a test -/
theorem lcL_all {T : Tg} {E : Ev} {own : List Nat} (Inv : Sl → Prop) (R : Val → Val → Prop) : ∀ (xs : List Val) (τ : Sl), Inv τ →
    (∀ x ∈ xs, ∀ τ, Inv τ → ∃ τ2, T x τ = some τ2 ∧ ∃ y τ4, E τ2 = some (y, τ4) ∧ R x y ∧ Inv (wipeM τ4 own)) →
    ∃ ys τ', lcL T yesM E own xs τ = some (ys, τ') ∧ Inv τ' ∧ xs.length = ys.length ∧ (∀ y ∈ ys, ∃ x ∈ xs, R x y)
  | [], τ, hi, _ => ⟨[], τ, rfl, hi, rfl, fun y h => by simp at h⟩
  | x :: r, τ, hi, h => by
    obtain ⟨τ2, h1, y, τ4, h5, h6, h7⟩ := h x List.mem_cons_self τ hi
    obtain ⟨ys, τ', e, i', el, rel⟩ := lcL_all Inv R r _ h7 fun y hy => h y (List.mem_cons_of_mem _ hy)
    refine ⟨y :: ys, τ', by simp [lcL, h1, yesM, h5, e], i', by simp [el], fun z hz => ?_⟩
    rcases List.mem_cons.mp hz with rfl | hz
    · exact ⟨x, List.mem_cons_self, h6⟩
    · obtain ⟨w, hw, k⟩ := rel z hz
      exact ⟨w, List.mem_cons_of_mem _ hw, k⟩

/-! loops -/
/-- a loop that goes on -/
theorem forL_inv {T : Tg} {B : Sv} (Inv : Sl → Prop) : ∀ (xs : List Val) (τ : Sl), Inv τ → (∀ x ∈ xs, ∀ τ, Inv τ → ∃ τ1, T x τ = some τ1 ∧ ∃ τ2, B τ1 = some (.next, τ2) ∧ Inv τ2) → ∃ τ', forL T B xs τ = some (.next, τ') ∧ Inv τ'
  | [], τ, hi, _ => ⟨τ, rfl, hi⟩
  | x :: r, τ, hi, h => by
    obtain ⟨τ1, h1, τ2, h2, h3⟩ := h x List.mem_cons_self τ hi
    obtain ⟨τ', e, i'⟩ := forL_inv Inv r τ2 h3 fun y hy => h y (List.mem_cons_of_mem _ hy)
    exact ⟨τ', by simp [forL, h1, h2, e], i'⟩
/-- a loop that ends at the first item of a kind -/
theorem forL_find {T : Tg} {B : Sv} (Inv : Sl → Prop) (p : Val → Bool) (v : Val) : ∀ (xs : List Val) (τ : Sl), Inv τ →
    (∀ x ∈ xs, ∀ τ, Inv τ → ∃ τ1, T x τ = some τ1 ∧ ∃ τ2, (p x = false → B τ1 = some (.next, τ2) ∧ Inv τ2) ∧ (p x = true → B τ1 = some (.ret v, τ2))) →
    ∃ τ', (xs.any p = false → forL T B xs τ = some (.next, τ') ∧ Inv τ') ∧ (xs.any p = true → forL T B xs τ = some (.ret v, τ'))
  | [], τ, hi, _ => ⟨τ, fun _ => ⟨rfl, hi⟩, fun h => by simp at h⟩
  | x :: r, τ, hi, h => by
    obtain ⟨τ1, h1, τ2, h2, h3⟩ := h x List.mem_cons_self τ hi
    cases hp : p x with
    | true => exact ⟨τ2, fun z => by simp [hp] at z, fun _ => by simp [forL, h1, h3 hp]⟩
    | false =>
      obtain ⟨h4, h5⟩ := h2 hp
      obtain ⟨τ', e1, e2⟩ := forL_find Inv p v r τ2 h5 fun y hy => h y (List.mem_cons_of_mem _ hy)
      refine ⟨τ', fun z => ?_, fun z => ?_⟩
      · simp [hp] at z
        obtain ⟨e3, e4⟩ := e1 (by simpa using z)
        exact ⟨by simp [forL, h1, h4, e3], e4⟩
      · simp [hp] at z
        have e3 := e2 (by simpa using z)
        simp [forL, h1, h4, e3]

/-! nice values: what the laws hand to the program -/
mutual
/-- numbers below 10 ^ 40, plain texts, tuples and frozen lists, not too deep or long -/
def Val.nice : Nat → Val → Bool
  | _, .non => true
  | _, .bl _ => true
  | _, .int i => decide (-10 ^ 40 ≤ i) && decide (i ≤ 10 ^ 40)
  | _, .str z => PyData.canLay0 (.str z)
  | 0, .tup _ => false
  | n + 1, .tup xs => decide (xs.length ≤ 1000) && niceL n xs
  | 0, .lst _ _ => false
  | n + 1, .lst m xs => !m && decide (xs.length ≤ 1000) && niceL n xs
  | _, .dct _ _ _ _ => false
  | _, .scr _ => false
def niceL : Nat → List Val → Bool
  | _, [] => true
  | n, x :: r => x.nice n && niceL n r
end
theorem niceL_all (n : Nat) : ∀ xs : List Val, niceL n xs = xs.all (Val.nice n)
  | [] => by simp [niceL]
  | x :: r => by simp [niceL, niceL_all n r]
mutual
theorem nice_pure : ∀ (n : Nat) (x : Val), x.nice n = true → x.pure = true
  | _, .non, _ => rfl
  | _, .bl _, _ => rfl
  | _, .int _, _ => rfl
  | _, .str _, _ => rfl
  | 0, .tup _, h => by simp [Val.nice] at h
  | n + 1, .tup xs, h => by
    simp only [Val.nice, Bool.and_eq_true] at h
    simp only [Val.pure]
    exact niceL_pure n xs h.2
  | 0, .lst _ _, h => by simp [Val.nice] at h
  | n + 1, .lst m xs, h => by
    simp only [Val.nice, Bool.and_eq_true] at h
    simp only [Val.pure, h.1.1, Bool.true_and]
    exact niceL_pure n xs h.2
  | _, .dct _ _ _ _, h => by simp [Val.nice] at h
  | _, .scr _, h => by simp [Val.nice] at h
theorem niceL_pure : ∀ (n : Nat) (xs : List Val), niceL n xs = true → pureL xs = true
  | _, [], _ => rfl
  | n, x :: r, h => by
    simp only [niceL, Bool.and_eq_true] at h
    simp only [pureL, nice_pure n x h.1, niceL_pure n r h.2, Bool.and_self]
end
mutual
theorem nice_depth : ∀ (n : Nat) (x : Val), x.nice n = true → x.toD.depth ≤ n ∧ x.toD.canLay0 = true
  | _, .non, _ => ⟨by simp [Val.toD, PyData.depth], by simp [Val.toD, PyData.canLay0]⟩
  | _, .bl _, _ => ⟨by simp [Val.toD, PyData.depth], by simp [Val.toD, PyData.canLay0]⟩
  | _, .int _, _ => ⟨by simp [Val.toD, PyData.depth], by simp [Val.toD, PyData.canLay0]⟩
  | _, .str _, h => ⟨by simp [Val.toD, PyData.depth], by simpa [Val.nice, Val.toD] using h⟩
  | 0, .tup _, h => by simp [Val.nice] at h
  | n + 1, .tup xs, h => by
    simp only [Val.nice, Bool.and_eq_true] at h
    have := niceL_depth n xs h.2
    simp only [Val.toD, PyData.depth, PyData.canLay0]
    exact ⟨by omega, this.2⟩
  | 0, .lst _ _, h => by simp [Val.nice] at h
  | n + 1, .lst m xs, h => by
    simp only [Val.nice, Bool.and_eq_true] at h
    have := niceL_depth n xs h.2
    simp only [Val.toD, PyData.depth, PyData.canLay0]
    exact ⟨by omega, this.2⟩
  | _, .dct _ _ _ _, h => by simp [Val.nice] at h
  | _, .scr _, h => by simp [Val.nice] at h
theorem niceL_depth : ∀ (n : Nat) (xs : List Val), niceL n xs = true → PyData.depthAll (toDL xs) ≤ n ∧ PyData.canLayAll0 (toDL xs) = true
  | _, [], _ => ⟨by simp [toDL, PyData.depthAll], by simp [toDL, PyData.canLayAll0]⟩
  | n, x :: r, h => by
    simp only [niceL, Bool.and_eq_true] at h
    have h1 := nice_depth n x h.1
    have h2 := niceL_depth n r h.2
    simp only [toDL, PyData.depthAll, PyData.canLayAll0, h1.2, h2.2, Bool.and_self, and_true]
    exact Nat.max_le.mpr ⟨h1.1, h2.1⟩
end
theorem nice_okD {n : Nat} {x : Val} (h : x.nice n = true) (hn : n ≤ 64) : okD x = true := by
  have := nice_depth n x h
  unfold okD SeqAt.shaped
  rw [Bool.and_eq_true, decide_eq_true_eq]
  exact ⟨this.2, Nat.le_trans this.1 hn⟩
mutual
theorem nice_up : ∀ (n : Nat) (x : Val), x.nice n = true → x.nice (n + 1) = true
  | n, .non, _ => by cases n <;> rfl
  | n, .bl _, _ => by cases n <;> rfl
  | n, .int _, h => by cases n <;> exact h
  | n, .str _, h => by cases n <;> exact h
  | 0, .tup _, h => by simp [Val.nice] at h
  | n + 1, .tup xs, h => by
    simp only [Val.nice, Bool.and_eq_true] at h ⊢
    exact ⟨h.1, niceL_up n xs h.2⟩
  | 0, .lst _ _, h => by simp [Val.nice] at h
  | n + 1, .lst m xs, h => by
    simp only [Val.nice, Bool.and_eq_true] at h ⊢
    exact ⟨h.1, niceL_up n xs h.2⟩
  | n, .dct _ _ _ _, h => by cases n <;> simp [Val.nice] at h
  | n, .scr _, h => by cases n <;> simp [Val.nice] at h
theorem niceL_up : ∀ (n : Nat) (xs : List Val), niceL n xs = true → niceL (n + 1) xs = true
  | n, [], _ => by cases n <;> rfl
  | n, x :: r, h => by
    simp only [niceL, Bool.and_eq_true] at h ⊢
    exact ⟨nice_up n x h.1, niceL_up n r h.2⟩
end
theorem nice_mono {n m : Nat} {x : Val} (h : x.nice n = true) (hm : n ≤ m) : x.nice m = true := by
  induction hm with
  | refl => exact h
  | step _ ih => exact nice_up _ _ ih
end MV
end

section
set_option maxHeartbeats 4000000
/-! rising lists, and lists that sorted(set(..)) leaves as they are -/
namespace MV
open PySem
def ltB (x y : Val) : Bool := PySem.W.dataLt x.toD y.toD
theorem leB_eq (x y : Val) : leB x y = !ltB y x := rfl
theorem ltB_irr (x : Val) : ltB x x = false := PyProof.Rows.lex_irrefl _
theorem ltB_trans {x y z : Val} (h1 : ltB x y = true) (h2 : ltB y z = true) : ltB x z = true :=
  (PyProof.Rows.listOrd PyProof.Rows.itemOrd).trans _ _ _ h1 h2
theorem ltB_le {x y : Val} (h : ltB x y = true) : leB x y = true := by
  rw [leB_eq]
  cases c : ltB y x with
  | false => rfl
  | true =>
    have := ltB_trans h c
    rw [ltB_irr] at this
    cases this
theorem ltB_int (i j : Int) : ltB (.int i) (.int j) = decide (i < j) := by
  simp only [ltB, Val.toD]
  exact PySem.W.dataLt_int i j
def riseL : List Val → Bool
  | x :: y :: r => ltB x y && riseL (y :: r)
  | _ => true
theorem rise_pair : ∀ {xs : List Val}, riseL xs = true → xs.Pairwise (fun x y => ltB x y = true)
  | [], _ => List.Pairwise.nil
  | [x], _ => List.pairwise_singleton _ _
  | x :: y :: r, h => by
    simp only [riseL, Bool.and_eq_true] at h
    have ih := rise_pair h.2
    refine List.pairwise_cons.mpr ⟨fun z hz => ?_, ih⟩
    rcases List.mem_cons.mp hz with rfl | hz
    · exact h.1
    · exact ltB_trans h.1 ((List.pairwise_cons.mp ih).1 z hz)
theorem rise_get : ∀ {xs : List Val}, riseL xs = true ↔ ∀ (i : Nat) (x y : Val), xs[i]? = some x → xs[i + 1]? = some y → ltB x y = true
  | [] => by simp [riseL]
  | [x] => by simp [riseL]
  | x :: y :: r => by
    simp only [riseL, Bool.and_eq_true]
    constructor
    · intro ⟨h1, h2⟩ i a b ha hb
      cases i with
      | zero =>
        simp at ha hb
        rw [← ha, ← hb]; exact h1
      | succ i => exact (rise_get.mp h2) i a b (by simpa using ha) (by simpa using hb)
    · intro h
      exact ⟨h 0 x y rfl rfl, rise_get.mpr fun i a b ha hb => h (i + 1) a b (by simpa using ha) (by simpa using hb)⟩
theorem rise_nodup {xs : List Val} (h : riseL xs = true) (ha : alikeL xs = true) (hk : ∀ x ∈ xs, (x.nkey).isSome = true) : (xs.map Val.nkey).Nodup := by
  refine List.pairwise_map.mpr (List.Pairwise.imp_of_mem (fun {x y} hx hy hlt e => ?_) (rise_pair h))
  obtain ⟨k, ek⟩ := Option.isSome_iff_exists.mp (hk x hx)
  have := key_one x y k ek (e ▸ ek) (alikeL_of ha hx hy)
  rw [this, ltB_irr] at hlt
  cases hlt
theorem rise_sorted {xs : List Val} (h : riseL xs = true) (ha : alikeL xs = true) (hk : ∀ x ∈ xs, (x.nkey).isSome = true) : (dedV xs).mergeSort leB = xs := by
  rw [dedV_of_nodup (rise_nodup h ha hk)]
  exact List.mergeSort_of_pairwise ((rise_pair h).imp fun h => ltB_le h)
theorem sorted_rise {xs : List Val} (ha : alikeL xs = true) (hk : ∀ x ∈ xs, (x.nkey).isSome = true) : riseL ((dedV xs).mergeSort leB) = true := by
  have pm := List.mergeSort_perm (dedV xs) leB
  have inXs : ∀ y ∈ (dedV xs).mergeSort leB, y ∈ xs := fun y hy => dedV_sub xs y (pm.mem_iff.mp hy)
  have nd : (((dedV xs).mergeSort leB).map Val.nkey).Nodup := (pm.map Val.nkey).nodup_iff.mpr (dedV_nodup xs)
  have pw := PySem.W.sort_pairwise leB_total (dedV xs)
  refine rise_get.mpr fun i x y hx hy => ?_
  have mx := inXs x (List.mem_of_getElem? hx)
  have my := inXs y (List.mem_of_getElem? hy)
  cases c : ltB x y with
  | true => rfl
  | false =>
    exfalso
    obtain ⟨k, ek⟩ := Option.isSome_iff_exists.mp (hk x mx)
    have hi : i + 1 < ((dedV xs).mergeSort leB).length := (List.getElem?_eq_some_iff.mp hy).1
    have le1 : leB x y = true := by
      have := List.pairwise_iff_getElem.mp pw i (i + 1) (by omega) hi (by omega)
      rwa [(List.getElem?_eq_some_iff.mp hx).2, (List.getElem?_eq_some_iff.mp hy).2] at this
    have e := leB_anti ek (alikeL_of ha mx my) le1 (by rw [leB_eq, c]; rfl)
    have n2 := List.pairwise_iff_getElem.mp nd i (i + 1) (by simpa using Nat.lt_of_succ_lt hi) (by simpa using hi) (by omega)
    simp only [List.getElem_map, (List.getElem?_eq_some_iff.mp hx).2, (List.getElem?_eq_some_iff.mp hy).2] at n2
    exact n2 (by rw [e])
theorem sort_same {xs : List Val} (ha : alikeL xs = true) (hk : ∀ x ∈ xs, (x.nkey).isSome = true) : ((dedV xs).mergeSort leB = xs) ↔ riseL xs = true :=
  ⟨fun e => by rw [← e]; exact sorted_rise ha hk, fun h => rise_sorted h ha hk⟩

/-! == of lists of keys -/
theorem alikeAll_of {xs ys : List Val} : ∀ (zs us : List Val), (∀ x ∈ zs, ∀ y ∈ us, PySem.W.alike x.toD y.toD = true) → PySem.W.alikeAll (toDL zs) (toDL us) = true
  | [], _, _ => by simp [toDL, PySem.W.alikeAll]
  | _ :: _, [], _ => by simp [toDL, PySem.W.alikeAll]
  | z :: zs, u :: us, h => by
    simp only [toDL, PySem.W.alikeAll, Bool.and_eq_true]
    exact ⟨h z List.mem_cons_self u List.mem_cons_self, alikeAll_of (xs := xs) (ys := ys) zs us fun x hx y hy => h x (List.mem_cons_of_mem _ hx) y (List.mem_cons_of_mem _ hy)⟩
theorem nkeyL_some : ∀ {xs : List Val}, (∀ x ∈ xs, (x.nkey).isSome = true) → ∃ ks, nkeyL xs = some ks
  | [], _ => ⟨[], rfl⟩
  | x :: r, h => by
    obtain ⟨k, ek⟩ := Option.isSome_iff_exists.mp (h x List.mem_cons_self)
    obtain ⟨ks, e⟩ := nkeyL_some fun y hy => h y (List.mem_cons_of_mem _ hy)
    exact ⟨k :: ks, by simp only [nkeyL, ek, e]⟩
/-- equal by == just if equal -/
theorem eqvL_iff {xs ys : List Val} (hk : ∀ x ∈ xs, (x.nkey).isSome = true) (ha : ∀ x ∈ xs, ∀ y ∈ ys, PySem.W.alike x.toD y.toD = true) (hl : PyData.canLayAll0 (toDL xs) = true) : PyData.eqvAll (toDL xs) (toDL ys) = true ↔ xs = ys := by
  obtain ⟨ks, ek⟩ := nkeyL_some hk
  have al := alikeAll_of (xs := xs) (ys := ys) xs ys ha
  constructor
  · intro c
    exact keys_one xs ys ks ek (keys_eqv xs ys ks al c ek) al
  · rintro rfl
    have : PyData.eqv (.tuple (toDL xs)) (.tuple (toDL xs)) = true := SeqAt.eqv_refl _ (by simpa [PyData.canLay0] using hl)
    simpa only [PyData.eqv] using this
/-- list(xs) == sorted(set(xs)) -/
theorem eq_sorted {m : Bool} {xs : List Val} (ok : setOk xs = true) (dp : ∀ x ∈ xs, x.toD.depth ≤ 8) (hl : PyData.canLayAll0 (toDL xs) = true) : eqV (.lst m xs) (.lst true ((dedV xs).mergeSort leB)) = some (.bl (riseL xs)) := by
  have keys := setOk_keys ok
  have pm := List.mergeSort_perm (dedV xs) leB
  have inXs : ∀ y ∈ (dedV xs).mergeSort leB, y ∈ xs := fun y hy => dedV_sub xs y (pm.mem_iff.mp hy)
  have lay : ∀ ys : List Val, (∀ y ∈ ys, y ∈ xs) → PyData.canLayAll0 (toDL ys) = true ∧ PyData.depthAll (toDL ys) ≤ 8 := by
    intro ys
    induction ys with
    | nil => intro _; exact ⟨by simp [toDL, PyData.canLayAll0], by simp [toDL, PyData.depthAll]⟩
    | cons y r ih =>
      intro h
      have h1 := ih fun z hz => h z (List.mem_cons_of_mem _ hz)
      have hy := h y List.mem_cons_self
      have all0 : ∀ (zs : List Val), PyData.canLayAll0 (toDL zs) = true → ∀ z ∈ zs, z.toD.canLay0 = true := by
        intro zs
        induction zs with
        | nil => intro _ z hz; cases hz
        | cons w ws ihw =>
          intro hc z hz
          simp only [toDL, PyData.canLayAll0, Bool.and_eq_true] at hc
          rcases List.mem_cons.mp hz with rfl | hz
          · exact hc.1
          · exact ihw hc.2 z hz
      simp only [toDL, PyData.canLayAll0, PyData.depthAll, h1.1, all0 xs hl y hy, Bool.and_self, true_and]
      exact Nat.max_le.mpr ⟨dp y hy, h1.2⟩
  have l1 := lay xs fun _ z => z
  have l2 := lay _ inXs
  have k1 : okD (.lst m xs) = true := by
    unfold okD SeqAt.shaped
    simp only [Val.toD, PyData.canLay0, PyData.depth, Bool.and_eq_true, decide_eq_true_eq]
    exact ⟨l1.1, by omega⟩
  have k2 : okD (.lst true ((dedV xs).mergeSort leB)) = true := by
    unfold okD SeqAt.shaped
    simp only [Val.toD, PyData.canLay0, PyData.depth, Bool.and_eq_true, decide_eq_true_eq]
    exact ⟨l2.1, by omega⟩
  have e : eqV (.lst m xs) (.lst true ((dedV xs).mergeSort leB)) = some (.bl (PyData.eqvAll (toDL xs) (toDL ((dedV xs).mergeSort leB)))) := by
    simp only [eqV, k1, k2, Bool.and_self, if_true, Val.toD, PyData.eqv]
  have iff := eqvL_iff (ys := (dedV xs).mergeSort leB) keys.2.1 (fun x hx y hy => alikeL_of keys.1 hx (inXs y hy)) hl
  rw [e]
  congr 2
  cases c : riseL xs with
  | true => exact iff.mpr ((sort_same keys.1 keys.2.1).mpr c).symm
  | false =>
    cases d : PyData.eqvAll (toDL xs) (toDL ((dedV xs).mergeSort leB)) with
    | false => rfl
    | true =>
      rw [(sort_same keys.1 keys.2.1).mp (iff.mp d).symm] at c
      cases c
end MV
end

section
set_option maxHeartbeats 4000000
/-! mirrors applied to slots (printed by gen22.py) -/
namespace MV
open PySem
theorem ap_fnM (m : Nat) (B : Sv) (xs : List Val)  : MV.fnM m B xs  = (B (xs.map some ++ List.replicate m none)).bind fun p => match p.1 with
  | .ret r => some r
  | .next => some .non
  | _ => none := by first | rfl | (unfold MV.fnM; rfl)
theorem ap_fnIO (m : Nat) (B : Sv) (xs : List Val)  : MV.fnIO m B xs  = (B (xs.map some ++ List.replicate m none)).bind fun p => (p.2[0]?).bind fun o => o.bind fun y => match p.1 with
  | .ret r => some (r, y)
  | .next => some (.non, y)
  | _ => none := by first | rfl | (unfold MV.fnIO; rfl)
theorem ap_seqM (A B : Sv) (τ : Sl) : MV.seqM A B τ = (A τ).bind fun p => match p.1 with
  | .next => B p.2
  | f => some (f, p.2) := by first | rfl | (unfold MV.seqM; rfl)
theorem ap_ifM (T : Tv) (A B : Sv) (τ : Sl) : MV.ifM T A B τ = (T τ).bind fun p => if p.1 = true then A p.2 else B p.2 := by first | rfl | (unfold MV.ifM; rfl)
theorem ap_setM (i : Nat) (D : Ev) (τ : Sl) : MV.setM i D τ = (D τ).bind fun p => some (.next, p.2.set i (some p.1)) := by first | rfl | (unfold MV.setM; rfl)
theorem ap_retM (D : Ev) (τ : Sl) : MV.retM D τ = (D τ).bind fun p => some (.ret p.1, p.2) := by first | rfl | (unfold MV.retM; rfl)
theorem ap_dropM (D : Ev) (τ : Sl) : MV.dropM D τ = (D τ).bind fun p => some (.next, p.2) := by first | rfl | (unfold MV.dropM; rfl)
theorem ap_brkM  (τ : Sl) : MV.brkM  τ = some (.brk, τ) := by first | rfl | (unfold MV.brkM; rfl)
theorem ap_contM  (τ : Sl) : MV.contM  τ = some (.cont, τ) := by first | rfl | (unfold MV.contM; rfl)
theorem ap_failM  (τ : Sl) : MV.failM  τ = none := by first | rfl | (unfold MV.failM; rfl)
theorem ap_nextM  (τ : Sl) : MV.nextM  τ = some (.next, τ) := by first | rfl | (unfold MV.nextM; rfl)
theorem ap_tst (D : Ev) (τ : Sl) : MV.tst D τ = (D τ).bind fun p => (p.1.bool?).bind fun c => some (c, p.2) := by first | rfl | (unfold MV.tst; rfl)
theorem ap_c1 (g : Val → Option Val) (D : Ev) (τ : Sl) : MV.c1 g D τ = (D τ).bind fun p => (g p.1).bind fun z => some (z, p.2) := by first | rfl | (unfold MV.c1; rfl)
theorem ap_c2 (g : Val → Val → Option Val) (Da Db : Ev) (τ : Sl) : MV.c2 g Da Db τ = (Da τ).bind fun p => (Db p.2).bind fun r => (g p.1 r.1).bind fun z => some (z, r.2) := by first | rfl | (unfold MV.c2; rfl)
theorem ap_cN (g : List Val → Option Val) (Ds : Evs) (τ : Sl) : MV.cN g Ds τ = (Ds τ).bind fun p => (g p.1).bind fun z => some (z, p.2) := by first | rfl | (unfold MV.cN; rfl)
theorem ap_consM (D : Ev) (Ds : Evs) (τ : Sl) : MV.consM D Ds τ = (D τ).bind fun p => (Ds p.2).bind fun r => some (p.1 :: r.1, r.2) := by first | rfl | (unfold MV.consM; rfl)
theorem ap_nilM  (τ : Sl) : MV.nilM  τ = some ([], τ) := by first | rfl | (unfold MV.nilM; rfl)
theorem ap_rdO (i : Nat) (τ : Sl) : MV.rdO i τ = (τ[i]?).bind fun o => o.bind fun x => some (x, τ) := by first | rfl | (unfold MV.rdO; rfl)
theorem ap_rdE (i : Nat) (τ : Sl) : MV.rdE i τ = (τ[i]?).bind fun o => o.bind fun x => if x.pure = true then some (x, τ) else some (x.frz, τ.set i (some x.frz)) := by first | rfl | (unfold MV.rdE; rfl)
theorem ap_mvE (i : Nat) (τ : Sl) : MV.mvE i τ = (τ[i]?).bind fun o => o.bind fun x => some (x, τ.set i none) := by first | rfl | (unfold MV.mvE; rfl)
theorem ap_cC (x : Val) (τ : Sl) : MV.cC x τ = some (x, τ) := by first | rfl | (unfold MV.cC; rfl)
theorem ap_setItemM (i : Nat) (Dk De : Ev) (τ : Sl) : MV.setItemM i Dk De τ = (De τ).bind fun p => (p.2[i]?).bind fun o => o.bind fun _ => (Dk p.2).bind fun r => (r.2[i]?).bind fun o => o.bind fun x => match x, r.1 with
  | .lst true xs, .int k => if (p.1.pure && pureL xs) = true then (L2.ixN xs.length k).bind fun j => some (.next, r.2.set i (some (.lst true (xs.set j p.1)))) else none
  | _, _ => none := by first | rfl | (unfold MV.setItemM; rfl)
theorem ap_parM (i j : Nat) (Ds : Evs) (τ : Sl) : MV.parM i j Ds τ = (Ds τ).bind fun p => match p.1 with
  | [x, y] => some (.next, (p.2.set i (some x)).set j (some y))
  | _ => none := by first | rfl | (unfold MV.parM; rfl)
theorem ap_parM3 (i j k : Nat) (Ds : Evs) (τ : Sl) : MV.parM3 i j k Ds τ = (Ds τ).bind fun p => match p.1 with
  | [x, y, z] => some (.next, ((p.2.set i (some x)).set j (some y)).set k (some z))
  | _ => none := by first | rfl | (unfold MV.parM3; rfl)
theorem ap_ifV (T : Tv) (A B : Ev) (τ : Sl) : MV.ifV T A B τ = (T τ).bind fun p => if p.1 = true then A p.2 else B p.2 := by first | rfl | (unfold MV.ifV; rfl)
theorem ap_callM (f : List Val → Option Val) (Ds : Evs) (τ : Sl) : MV.callM f Ds τ = (Ds τ).bind fun p => (f (frzL p.1)).bind fun r => if (pureL p.1 || r.own) = true then some (r, p.2) else none := by first | rfl | (unfold MV.callM; rfl)
theorem ap_callIO (f : List Val → Option (Val × Val)) (i : Nat) (Ds : Evs) (τ : Sl) : MV.callIO f i Ds τ = (τ[i]?).bind fun o => o.bind fun _ => (Ds τ).bind fun p => (p.2[i]?).bind fun o => o.bind fun y => if pureL p.1 = true then (f (y :: p.1)).bind fun r => some (r.1, p.2.set i (some r.2)) else none := by first | rfl | (unfold MV.callIO; rfl)
theorem ap_andM (A B : Tv) (τ : Sl) : MV.andM A B τ = (A τ).bind fun p => if p.1 = true then B p.2 else some (false, p.2) := by first | rfl | (unfold MV.andM; rfl)
theorem ap_orM (A B : Tv) (τ : Sl) : MV.orM A B τ = (A τ).bind fun p => if p.1 = true then some (true, p.2) else B p.2 := by first | rfl | (unfold MV.orM; rfl)
theorem ap_notM (A : Tv) (τ : Sl) : MV.notM A τ = (A τ).bind fun p => some (!p.1, p.2) := by first | rfl | (unfold MV.notM; rfl)
theorem ap_andV (A B : Ev) (τ : Sl) : MV.andV A B τ = (A τ).bind fun p => (p.1.bool?).bind fun c => if c = true then B p.2 else some (.bl false, p.2) := by first | rfl | (unfold MV.andV; rfl)
theorem ap_orV (A B : Ev) (τ : Sl) : MV.orV A B τ = (A τ).bind fun p => (p.1.bool?).bind fun c => if c = true then some (.bl true, p.2) else B p.2 := by first | rfl | (unfold MV.orV; rfl)
theorem ap_notV (A : Ev) (τ : Sl) : MV.notV A τ = (A τ).bind fun p => (p.1.bool?).bind fun c => some (.bl (!c), p.2) := by first | rfl | (unfold MV.notV; rfl)
theorem ap_chM (g g' : Val → Val → Option Val) (Da Db Dc : Ev) (τ : Sl) : MV.chM g g' Da Db Dc τ = (Da τ).bind fun p => (Db p.2).bind fun r => (g p.1 r.1).bind fun z => (z.bool?).bind fun k =>
  if k = true then (Dc r.2).bind fun t => (g' r.1 t.1).bind fun y => some (y, t.2) else some (.bl false, r.2) := by first | rfl | (unfold MV.chM; rfl)
theorem ap_asgM (T : Tg) (D : Ev) (τ : Sl) : MV.asgM T D τ = (D τ).bind fun p => (T p.1 p.2).bind fun τ' => some (.next, τ') := by first | rfl | (unfold MV.asgM; rfl)
theorem ap_consT (T : Tg) (U : Tgs) (xs : List Val) (τ : Sl) : MV.consT T U xs τ = match xs with
  | x :: r => (T x τ).bind fun τ1 => U r τ1
  | [] => none := by first | rfl | (unfold MV.consT; rfl)
theorem ap_nilT  (xs : List Val) (τ : Sl) : MV.nilT  xs τ = if xs.isEmpty = true then some τ else none := by first | rfl | (unfold MV.nilT; rfl)
theorem ap_nameT (i : Nat) (x : Val) (τ : Sl) : MV.nameT i x τ = some (τ.set i (some x)) := by first | rfl | (unfold MV.nameT; rfl)
theorem ap_tupT (n : Nat) (U : Tgs) (x : Val) (τ : Sl) : MV.tupT n U x τ = match x with
  | .tup xs => if xs.length = n then U xs τ else none
  | _ => none := by first | rfl | (unfold MV.tupT; rfl)
theorem ap_frE (D : Ev) (τ : Sl) : MV.frE D τ = (D τ).bind fun p => some (p.1.frz, p.2) := by first | rfl | (unfold MV.frE; rfl)
theorem ap_forM (I : Evs) (T : Tg) (B : Sv) (τ : Sl) : MV.forM I T B τ = (I τ).bind fun p => forL T B p.1 p.2 := by first | rfl | (unfold MV.forM; rfl)
theorem ap_lcM (I : Evs) (T : Tg) (C : Tv) (E : Ev) (own : List Nat) (τ : Sl) : MV.lcM I T C E own τ = (I τ).bind fun p => (lcL T C E own p.1 (wipeM p.2 own)).bind fun r => if r.1.length ≤ sizeLine then some (.lst true r.1, r.2) else none := by first | rfl | (unfold MV.lcM; rfl)
theorem ap_cSl (D : Ev) (A B : Pv) (τ : Sl) : MV.cSl D A B τ = (D τ).bind fun p => (A p.2).bind fun a => (B a.2).bind fun b => (sliceV p.1 a.1 b.1).bind fun z => some (z, b.2) := by first | rfl | (unfold MV.cSl; rfl)
theorem ap_partS (D : Ev) (τ : Sl) : MV.partS D τ = (D τ).bind fun p => (p.1.int?).bind fun i => some (some i, p.2) := by first | rfl | (unfold MV.partS; rfl)
theorem ap_partN  (τ : Sl) : MV.partN  τ = some (none, τ) := by first | rfl | (unfold MV.partN; rfl)
theorem ap_rng1I (Ds : Evs) (τ : Sl) : MV.rng1I Ds τ = (Ds τ).bind fun p => match p.1 with
  | [.int j] => if inR j = true then some (rngL 0 j, p.2) else none
  | _ => none := by first | rfl | (unfold MV.rng1I; rfl)
theorem ap_rng2I (Ds : Evs) (τ : Sl) : MV.rng2I Ds τ = (Ds τ).bind fun p => match p.1 with
  | [.int i, .int j] => if (inR i && inR j) = true then some (rngL i j, p.2) else none
  | _ => none := by first | rfl | (unfold MV.rng2I; rfl)
theorem ap_seqI (D : Ev) (τ : Sl) : MV.seqI D τ = (D τ).bind fun p => (p.1.seq?).bind fun xs => some (frzL xs, p.2) := by first | rfl | (unfold MV.seqI; rfl)
theorem ap_enumI (D : Ev) (τ : Sl) : MV.enumI D τ = (D τ).bind fun p => (p.1.seq?).bind fun xs => some (enumF 0 (frzL xs), p.2) := by first | rfl | (unfold MV.enumI; rfl)
theorem ap_zipI (Ds : Evs) (τ : Sl) : MV.zipI Ds τ = (Ds τ).bind fun p => match p.1 with
  | [.lst _ xs, .lst _ ys] => some (zipF (frzL xs) (frzL ys), p.2)
  | [.tup xs, .tup ys] => some (zipF (frzL xs) (frzL ys), p.2)
  | _ => none := by first | rfl | (unfold MV.zipI; rfl)
theorem ap_lstI (D : Ev) (τ : Sl) : MV.lstI D τ = (D τ).bind fun p => match p.1 with
  | .lst _ xs => some (frzL xs, p.2)
  | _ => none := by first | rfl | (unfold MV.lstI; rfl)
theorem ap_tupI (D : Ev) (τ : Sl) : MV.tupI D τ = (D τ).bind fun p => match p.1 with
  | .tup xs => some (frzL xs, p.2)
  | _ => none := by first | rfl | (unfold MV.tupI; rfl)
theorem ap_yesM  (τ : Sl) : MV.yesM  τ = some (true, τ) := by first | rfl | (unfold MV.yesM; rfl)
end MV
end

section
set_option maxHeartbeats 4000000
/-! mirrors run, rule by rule -/
namespace MV
open PySem
section
variable {τ τ1 τ2 τ3 : Sl} {x y z : Val} {xs ys : List Val} {D Da Db Dc : Ev} {Ds : Evs} {i j : Nat} {A B T U : Tv} {b c : Bool}
theorem s_cC : cC x τ = some (x, τ) := rfl
theorem s_rdO (h : τ[i]? = some (some x)) : rdO i τ = some (x, τ) := by rw [ap_rdO, h]; rfl
theorem s_rdE (h : τ[i]? = some (some x)) (p : x.pure = true) : rdE i τ = some (x, τ) := by rw [ap_rdE, h]; simp only [Option.bind_some, p, if_true]
theorem s_rdEf (h : τ[i]? = some (some x)) (p : x.pure = false) : rdE i τ = some (x.frz, τ.set i (some x.frz)) := by rw [ap_rdE, h]; simp only [Option.bind_some, p, Bool.false_eq_true, if_false]
theorem s_mvE (h : τ[i]? = some (some x)) : mvE i τ = some (x, τ.set i none) := by rw [ap_mvE, h]; rfl
theorem s_nil : nilM τ = some ([], τ) := rfl
theorem s_cons (h1 : D τ = some (x, τ1)) (h2 : Ds τ1 = some (xs, τ2)) : consM D Ds τ = some (x :: xs, τ2) := by rw [ap_consM, h1]; simp only [Option.bind_some, h2]
theorem s_c1 {g : Val → Option Val} (h1 : D τ = some (x, τ1)) (h : g x = some z) : c1 g D τ = some (z, τ1) := by rw [ap_c1, h1]; simp only [Option.bind_some, h]
theorem s_c2 {g : Val → Val → Option Val} (h1 : Da τ = some (x, τ1)) (h2 : Db τ1 = some (y, τ2)) (h : g x y = some z) : c2 g Da Db τ = some (z, τ2) := by rw [ap_c2, h1]; simp only [Option.bind_some, h2, h]
theorem s_cN {g : List Val → Option Val} (h1 : Ds τ = some (xs, τ1)) (h : g xs = some z) : cN g Ds τ = some (z, τ1) := by rw [ap_cN, h1]; simp only [Option.bind_some, h]
theorem s_fr (h1 : D τ = some (x, τ1)) : frE D τ = some (x.frz, τ1) := by rw [ap_frE, h1]; rfl
theorem s_callM {f : List Val → Option Val} (h1 : Ds τ = some (xs, τ1)) (p : pureL xs = true) (h : f xs = some z) : callM f Ds τ = some (z, τ1) := by
  rw [ap_callM, h1]
  simp only [Option.bind_some, frzL_of_pure xs p, h, p, Bool.true_or, if_true]
theorem s_callMo {f : List Val → Option Val} (h1 : Ds τ = some (xs, τ1)) (h : f (frzL xs) = some z) (p : z.own = true) : callM f Ds τ = some (z, τ1) := by
  rw [ap_callM, h1]
  simp only [Option.bind_some, h, p, Bool.or_true, if_true]
theorem s_callIO {f : List Val → Option (Val × Val)} {y' y0 : Val} (h0 : τ[i]? = some (some y0)) (h1 : Ds τ = some (xs, τ1)) (h2 : τ1[i]? = some (some y)) (p : pureL xs = true) (h : f (y :: xs) = some (z, y')) : callIO f i Ds τ = some (z, τ1.set i (some y')) := by
  rw [ap_callIO, h0]
  simp only [Option.bind_some, h1, h2, p, if_true, h]
theorem s_tst (h : D τ = some (.bl b, τ1)) : tst D τ = some (b, τ1) := by rw [ap_tst, h]; rfl
theorem s_not (h : A τ = some (b, τ1)) : MV.notM A τ = some (!b, τ1) := by rw [ap_notM, h]; rfl
theorem s_and1 (h : A τ = some (false, τ1)) : MV.andM A B τ = some (false, τ1) := by rw [ap_andM, h]; rfl
theorem s_and2 (h : A τ = some (true, τ1)) (h2 : B τ1 = some (b, τ2)) : MV.andM A B τ = some (b, τ2) := by rw [ap_andM, h]; simpa using h2
theorem s_or1 (h : A τ = some (true, τ1)) : MV.orM A B τ = some (true, τ1) := by rw [ap_orM, h]; rfl
theorem s_or2 (h : A τ = some (false, τ1)) (h2 : B τ1 = some (b, τ2)) : MV.orM A B τ = some (b, τ2) := by rw [ap_orM, h]; simpa using h2
theorem s_vand1 (h : Da τ = some (.bl false, τ1)) : andV Da Db τ = some (.bl false, τ1) := by rw [ap_andV, h]; rfl
theorem s_vand2 (h : Da τ = some (.bl true, τ1)) (h2 : Db τ1 = some (x, τ2)) : andV Da Db τ = some (x, τ2) := by rw [ap_andV, h]; simpa [Val.bool?] using h2
theorem s_vor1 (h : Da τ = some (.bl true, τ1)) : orV Da Db τ = some (.bl true, τ1) := by rw [ap_orV, h]; rfl
theorem s_vor2 (h : Da τ = some (.bl false, τ1)) (h2 : Db τ1 = some (x, τ2)) : orV Da Db τ = some (x, τ2) := by rw [ap_orV, h]; simpa [Val.bool?] using h2
theorem s_vnot (h : Da τ = some (.bl b, τ1)) : notV Da τ = some (.bl (!b), τ1) := by rw [ap_notV, h]; rfl
theorem s_if1 (h : A τ = some (true, τ1)) (h2 : Da τ1 = some (x, τ2)) : ifV A Da Db τ = some (x, τ2) := by rw [ap_ifV, h]; simpa using h2
theorem s_if2 (h : A τ = some (false, τ1)) (h2 : Db τ1 = some (x, τ2)) : ifV A Da Db τ = some (x, τ2) := by rw [ap_ifV, h]; simpa using h2
theorem s_ch1 {g g' : Val → Val → Option Val} (h1 : Da τ = some (x, τ1)) (h2 : Db τ1 = some (y, τ2)) (h : g x y = some (.bl false)) : chM g g' Da Db Dc τ = some (.bl false, τ2) := by
  rw [ap_chM, h1]; simp only [Option.bind_some, h2, h, Val.bool?, Bool.false_eq_true, if_false]
theorem s_ch2 {g g' : Val → Val → Option Val} {w : Val} (h1 : Da τ = some (x, τ1)) (h2 : Db τ1 = some (y, τ2)) (h : g x y = some (.bl true)) (h3 : Dc τ2 = some (z, τ3)) (h' : g' y z = some w) : chM g g' Da Db Dc τ = some (w, τ3) := by
  rw [ap_chM, h1]; simp only [Option.bind_some, h2, h, Val.bool?, if_true, h3, h']
theorem s_sl {L R : Pv} {lo hi : Option Int} (h1 : D τ = some (x, τ1)) (h2 : L τ1 = some (lo, τ2)) (h3 : R τ2 = some (hi, τ3)) (h : sliceV x lo hi = some z) : cSl D L R τ = some (z, τ3) := by
  rw [ap_cSl, h1]; simp only [Option.bind_some, h2, h3, h]
theorem s_pN : partN τ = some (none, τ) := rfl
theorem s_pS {k : Int} (h : D τ = some (.int k, τ1)) : partS D τ = some (some k, τ1) := by rw [ap_partS, h]; rfl
/-! statements -/
variable {S S1 S2 : Sv} {p : Fl × Sl} {v : Val}
theorem s_seq (h : S τ = some (.next, τ1)) (h2 : S1 τ1 = some p) : seqM S S1 τ = some p := by rw [ap_seqM, h]; simpa using h2
theorem s_seqR (h : S τ = some (.ret v, τ1)) : seqM S S1 τ = some (.ret v, τ1) := by rw [ap_seqM, h]; rfl
theorem s_ret (h : D τ = some (v, τ1)) : retM D τ = some (.ret v, τ1) := by rw [ap_retM, h]; rfl
theorem s_set (h : D τ = some (v, τ1)) : setM i D τ = some (.next, τ1.set i (some v)) := by rw [ap_setM, h]; rfl
theorem s_drop (h : D τ = some (v, τ1)) : dropM D τ = some (.next, τ1) := by rw [ap_dropM, h]; rfl
theorem s_par (h : Ds τ = some ([x, y], τ1)) : parM i j Ds τ = some (.next, (τ1.set i (some x)).set j (some y)) := by rw [ap_parM, h]; rfl
theorem s_next : nextM τ = some (.next, τ) := rfl
theorem s_ifT (h : A τ = some (true, τ1)) (h2 : S τ1 = some p) : ifM A S S1 τ = some p := by rw [ap_ifM, h]; simpa using h2
theorem s_ifF (h : A τ = some (false, τ1)) (h2 : S1 τ1 = some p) : ifM A S S1 τ = some p := by rw [ap_ifM, h]; simpa using h2
theorem s_asg {G : Tg} (h : D τ = some (v, τ1)) (h2 : G v τ1 = some τ2) : asgM G D τ = some (.next, τ2) := by rw [ap_asgM, h]; simp only [Option.bind_some, h2]
theorem s_fn {m : Nat} (h : S (xs.map some ++ List.replicate m none) = some (.ret v, τ)) : fnM m S xs = some v := by rw [ap_fnM, h]; rfl
theorem s_fnN {m : Nat} (h : S (xs.map some ++ List.replicate m none) = some (.next, τ)) : fnM m S xs = some .non := by rw [ap_fnM, h]; rfl
theorem s_fnIO {m : Nat} (h : S (xs.map some ++ List.replicate m none) = some (.ret v, τ)) (h0 : τ[0]? = some (some y)) : fnIO m S xs = some (v, y) := by rw [ap_fnIO, h]; simp only [Option.bind_some, h0]
theorem s_for {I : Evs} {G : Tg} (h : I τ = some (xs, τ1)) (h2 : forL G S xs τ1 = some p) : forM I G S τ = some p := by rw [ap_forM, h]; exact h2
theorem s_lc {I : Evs} {G : Tg} {own : List Nat} (h : I τ = some (xs, τ1)) (h2 : lcL G A D own xs (wipeM τ1 own) = some (ys, τ2)) (hl : ys.length ≤ sizeLine) : lcM I G A D own τ = some (.lst true ys, τ2) := by
  rw [ap_lcM, h]; simp only [Option.bind_some, h2, hl, if_true]
theorem s_rng1 {k : Int} (h : Ds τ = some ([.int k], τ1)) (hk : inR k = true) : rng1I Ds τ = some (rngL 0 k, τ1) := by rw [ap_rng1I, h]; simp only [Option.bind_some, hk, if_true]
theorem s_rng2 {k l : Int} (h : Ds τ = some ([.int k, .int l], τ1)) (hk : inR k = true) (hl : inR l = true) : rng2I Ds τ = some (rngL k l, τ1) := by rw [ap_rng2I, h]; simp only [Option.bind_some, hk, hl, Bool.and_self, if_true]
theorem s_seqI (h : D τ = some (x, τ1)) (h2 : x.seq? = some xs) : seqI D τ = some (frzL xs, τ1) := by rw [ap_seqI, h]; simp only [Option.bind_some, h2]
theorem s_enumI (h : D τ = some (x, τ1)) (h2 : x.seq? = some xs) : enumI D τ = some (enumF 0 (frzL xs), τ1) := by rw [ap_enumI, h]; simp only [Option.bind_some, h2]
theorem s_zipT (h : Ds τ = some ([.tup xs, .tup ys], τ1)) : zipI Ds τ = some (zipF (frzL xs) (frzL ys), τ1) := by rw [ap_zipI, h]; rfl
theorem s_zipL {m m' : Bool} (h : Ds τ = some ([.lst m xs, .lst m' ys], τ1)) : zipI Ds τ = some (zipF (frzL xs) (frzL ys), τ1) := by rw [ap_zipI, h]; rfl
theorem mkTup_ok (h : xs.length ≤ 1000) : mkTup xs = some (.tup xs) := by unfold mkTup; rw [if_pos (by rw [sizeLine_eq]; omega)]
theorem mkLst_ok (h : xs.length ≤ 1000) : mkLst xs = some (.lst true xs) := by unfold mkLst; rw [if_pos (by rw [sizeLine_eq]; omega)]
theorem pureO_ok {o : Option Val} (h : o = some x) (p : x.pure = true) : pureO o = some x := by rw [h]; unfold pureO; simp only [Option.bind_some, p, if_true]
theorem inR_of {k : Int} (h : -1000000 ≤ k) (h2 : k ≤ 1000000) : inR k = true := by
  unfold inR
  rw [Bool.and_eq_true, decide_eq_true_eq, decide_eq_true_eq]
  constructor <;> omega
end
end MV
end

section
set_option maxHeartbeats 4000000
/-! values that can be keys, to a depth -/
namespace MV
open PySem
mutual
def Val.kd : Nat → Val → Bool
  | _, .non => true
  | _, .bl _ => true
  | _, .int _ => true
  | _, .str z => PyData.canLay0 (.str z)
  | 0, .tup _ => false
  | n + 1, .tup xs => kdL n xs
  | _, .lst _ _ => false
  | _, .dct _ _ _ _ => false
  | _, .scr _ => false
def kdL : Nat → List Val → Bool
  | _, [] => true
  | n, x :: r => x.kd n && kdL n r
end
theorem kdL_all (n : Nat) : ∀ xs : List Val, kdL n xs = xs.all (Val.kd n)
  | [] => by simp [kdL]
  | x :: r => by simp [kdL, kdL_all n r]
mutual
theorem kd_key : ∀ (n : Nat) (x : Val), x.kd n = true → ∃ k, x.nkey = some k ∧ k.depth ≤ n ∧ x.toD.depth ≤ n ∧ x.toD.canLay0 = true
  | _, .non, _ => ⟨_, rfl, by simp [NestedKey.depth], by simp [Val.toD, PyData.depth], by simp [Val.toD, PyData.canLay0]⟩
  | _, .bl _, _ => ⟨_, rfl, by simp [NestedKey.depth], by simp [Val.toD, PyData.depth], by simp [Val.toD, PyData.canLay0]⟩
  | _, .int _, _ => ⟨_, rfl, by simp [NestedKey.depth], by simp [Val.toD, PyData.depth], by simp [Val.toD, PyData.canLay0]⟩
  | _, .str _, h => ⟨_, rfl, by simp [NestedKey.depth], by simp [Val.toD, PyData.depth], by simpa [Val.kd, Val.toD] using h⟩
  | 0, .tup _, h => by simp [Val.kd] at h
  | n + 1, .tup xs, h => by
    simp only [Val.kd] at h
    obtain ⟨ks, h1, h2, h3, h4⟩ := kdL_keys n xs h
    refine ⟨.tup ks, by simp only [Val.nkey, h1, Option.map_some], ?_, ?_, ?_⟩
    · simp only [NestedKey.depth]; omega
    · simp only [Val.toD, PyData.depth]; omega
    · simp only [Val.toD, PyData.canLay0]; exact h4
  | _, .lst _ _, h => by simp [Val.kd] at h
  | _, .dct _ _ _ _, h => by simp [Val.kd] at h
  | _, .scr _, h => by simp [Val.kd] at h
theorem kdL_keys : ∀ (n : Nat) (xs : List Val), kdL n xs = true → ∃ ks, nkeyL xs = some ks ∧ NestedKey.depthAll ks ≤ n ∧ PyData.depthAll (toDL xs) ≤ n ∧ PyData.canLayAll0 (toDL xs) = true
  | _, [], _ => ⟨[], rfl, by simp [NestedKey.depthAll], by simp [toDL, PyData.depthAll], by simp [toDL, PyData.canLayAll0]⟩
  | n, x :: r, h => by
    simp only [kdL, Bool.and_eq_true] at h
    obtain ⟨k, a1, a2, a3, a4⟩ := kd_key n x h.1
    obtain ⟨ks, b1, b2, b3, b4⟩ := kdL_keys n r h.2
    refine ⟨k :: ks, by simp only [nkeyL, a1, b1], ?_, ?_, ?_⟩
    · simp only [NestedKey.depthAll]; exact Nat.max_le.mpr ⟨a2, b2⟩
    · simp only [toDL, PyData.depthAll]; exact Nat.max_le.mpr ⟨a3, b3⟩
    · simp only [toDL, PyData.canLayAll0, a4, b4, Bool.and_self]
end
theorem kd_pure {n : Nat} {x : Val} (h : x.kd n = true) : x.pure = true := let ⟨k, e, _⟩ := kd_key n x h; pure_of_key x k e
theorem kdL_pure {n : Nat} {xs : List Val} (h : kdL n xs = true) : pureL xs = true := let ⟨k, e, _⟩ := kdL_keys n xs h; pureL_of_keys xs k e
theorem kd_okD {n : Nat} {x : Val} (h : x.kd n = true) (hn : n ≤ 64) : okD x = true := by
  obtain ⟨k, _, _, h1, h2⟩ := kd_key n x h
  unfold okD SeqAt.shaped
  rw [Bool.and_eq_true, decide_eq_true_eq]
  exact ⟨h2, by omega⟩
theorem kd_row {y : Val} {r : List Val} (h : (Val.tup (y :: r)).kd 8 = true) : (Val.tup (y :: r)).row = true := by
  obtain ⟨k, h1, h2, h3, h4⟩ := kd_key 8 _ h
  unfold Val.row
  simp only [h1, h2, h3, h4, decide_true, Bool.and_self]
theorem dedV_length : ∀ xs : List Val, (dedV xs).length ≤ xs.length
  | [] => Nat.le_refl _
  | x :: r => by
    rw [dedV, List.length_cons, List.length_cons]
    exact Nat.succ_le_succ (Nat.le_trans (List.length_filter_le _ _) (dedV_length r))
/-- rows that can be made a set of -/
theorem setOk_rows {xs : List Val} (hr : ∀ x ∈ xs, x.row = true) (ha : alikeL xs = true) (hl : xs.length ≤ 4000) : setOk xs = true := by
  unfold setOk
  rw [Bool.or_eq_true]
  right
  rw [Bool.and_eq_true, Bool.and_eq_true, decide_eq_true_eq]
  exact ⟨⟨List.all_eq_true.mpr hr, ha⟩, Nat.le_trans (dedV_length xs) hl⟩
theorem intsOfV_map : ∀ ns : List Int, intsOfV (ns.map Val.int) = some ns
  | [] => rfl
  | i :: r => by simp only [List.map_cons, intsOfV, intsOfV_map r, Option.map_some]
theorem setOk_ints {ns : List Int} (hl : ns.length ≤ 4000) : setOk (ns.map Val.int) = true := by
  unfold setOk
  rw [Bool.or_eq_true]
  left
  rw [intsOfV_map]
  simp only [Option.isSome_some, List.length_map, Bool.true_and, decide_eq_true_eq]
  exact hl
theorem sortSet_seq {x : Val} {xs : List Val} (h : x.seq? = some xs) (ok : setOk xs = true) : sortSetV x = some (.lst true ((dedV xs).mergeSort leB)) := by
  unfold sortSetV
  rw [h]
  simp only [Option.bind_some, ok, if_true]
theorem alike_tup {xs ys : List Val} (h : PySem.W.alikeAll (toDL xs) (toDL ys) = true) : PySem.W.alike (Val.tup xs).toD (Val.tup ys).toD = true := by simpa only [Val.toD, PySem.W.alike] using h
theorem alike_int (i j : Int) : PySem.W.alike (Val.int i).toD (Val.int j).toD = true := by simp only [Val.toD, PySem.W.alike]
theorem alike_bl (i j : Bool) : PySem.W.alike (Val.bl i).toD (Val.bl j).toD = true := by simp only [Val.toD, PySem.W.alike]
theorem alike_str (i j : Str) : PySem.W.alike (Val.str i).toD (Val.str j).toD = true := by simp only [Val.toD, PySem.W.alike]
theorem alike_nil (ys : List Val) : PySem.W.alikeAll (toDL []) (toDL ys) = true := by simp [toDL, PySem.W.alikeAll]
theorem alike_cons {x y : Val} {xs ys : List Val} (h : PySem.W.alike x.toD y.toD = true) (t : PySem.W.alikeAll (toDL xs) (toDL ys) = true) : PySem.W.alikeAll (toDL (x :: xs)) (toDL (y :: ys)) = true := by
  simp only [toDL, PySem.W.alikeAll, h, t, Bool.and_self]
theorem tupleV_l {m : Bool} {xs : List Val} (h : pureL xs = true) : tupleV [.lst m xs] = some (.tup xs) := if_pos h
theorem listV_l {m : Bool} {xs : List Val} (h : pureL xs = true) : listV [.lst m xs] = some (.lst true xs) := if_pos h
theorem listV_t {xs : List Val} (h : pureL xs = true) : listV [.tup xs] = some (.lst true xs) := if_pos h

section
variable {τ τ1 τ2 : Sl} {i j : Nat} {D : Ev} {Ds : Evs} {v x y z : Val} {xs : List Val}
theorem s_set' (h : D τ = some (v, τ1)) (e : τ1.set i (some v) = τ2 := by rfl) : setM i D τ = some (.next, τ2) := by rw [s_set h, e]
theorem s_par' (h : Ds τ = some ([x, y], τ1)) (e : (τ1.set i (some x)).set j (some y) = τ2 := by rfl) : parM i j Ds τ = some (.next, τ2) := by rw [s_par h, e]
theorem s_callIO' {f : List Val → Option (Val × Val)} {y' y0 : Val} (h : f (y :: xs) = some (z, y')) (h1 : Ds τ = some (xs, τ1)) (p : pureL xs = true := by rfl) (h0 : τ[i]? = some (some y0) := by rfl) (h2 : τ1[i]? = some (some y) := by rfl) (e : τ1.set i (some y') = τ2 := by rfl) : callIO f i Ds τ = some (z, τ2) := by rw [s_callIO h0 h1 h2 p h, e]
end
end MV
end

section
set_option maxHeartbeats 4000000
/-! tests that leave all as it is -/
namespace MV
open PySem
section
variable {τ τ' : Sl} {a b : Bool} {A B : Tv} {Da Db Dc D : Ev} {Ds : Evs} {S S1 : Sv} {v x y z : Val} {xs ys : List Val} {i j : Nat}
theorem q_or (h1 : A τ = some (a, τ)) (h2 : a = false → B τ = some (b, τ)) : MV.orM A B τ = some (a || b, τ) := by
  cases a with
  | true => exact s_or1 h1
  | false => exact s_or2 h1 (h2 rfl)
theorem q_and (h1 : A τ = some (a, τ)) (h2 : a = true → B τ = some (b, τ)) : MV.andM A B τ = some (a && b, τ) := by
  cases a with
  | true => exact s_and2 h1 (h2 rfl)
  | false => exact s_and1 h1
theorem q_vand (h1 : Da τ = some (.bl a, τ)) (h2 : a = true → Db τ = some (.bl b, τ)) : andV Da Db τ = some (.bl (a && b), τ) := by
  cases a with
  | true => exact s_vand2 h1 (h2 rfl)
  | false => exact s_vand1 h1
theorem q_vor (h1 : Da τ = some (.bl a, τ)) (h2 : a = false → Db τ = some (.bl b, τ)) : orV Da Db τ = some (.bl (a || b), τ) := by
  cases a with
  | true => exact s_vor1 h1
  | false => exact s_vor2 h1 (h2 rfl)
theorem q_ch {g g' : Val → Val → Option Val} (h1 : Da τ = some (x, τ)) (h2 : Db τ = some (y, τ)) (h : g x y = some (.bl a)) (h3 : Dc τ = some (z, τ)) (h' : g' y z = some (.bl b)) : chM g g' Da Db Dc τ = some (.bl (a && b), τ) := by
  cases a with
  | true => exact s_ch2 h1 h2 h h3 h'
  | false => exact s_ch1 h1 h2 h
/-- the block ends with the answer v -/
def Ret (S : Sv) (τ : Sl) (v : Val) : Prop := ∃ τ', S τ = some (.ret v, τ')
theorem q_ret (h : D τ = some (v, τ')) : Ret (retM D) τ v := ⟨_, s_ret h⟩
theorem q_seq {τ1 : Sl} (h : S τ = some (.next, τ1)) (h2 : Ret S1 τ1 v) : Ret (seqM S S1) τ v := let ⟨τ', e⟩ := h2; ⟨τ', s_seq h e⟩
theorem q_ifT (h : A τ = some (true, τ)) (h2 : Ret S τ v) : Ret (seqM (ifM A S nextM) S1) τ v := let ⟨τ', e⟩ := h2; ⟨τ', s_seqR (s_ifT h e)⟩
theorem q_ifF (h : A τ = some (false, τ)) (h2 : Ret S1 τ v) : Ret (seqM (ifM A S nextM) S1) τ v := let ⟨τ', e⟩ := h2; ⟨τ', s_seq (s_ifF h s_next) e⟩
theorem q_no (h1 : A τ = some (a, τ)) (h2 : a = false → Ret S τ (.bl b)) : Ret (seqM (ifM A (retM (cC (.bl false))) nextM) S) τ (.bl (!a && b)) := by
  cases a with
  | true => exact q_ifT h1 (q_ret s_cC)
  | false => exact q_ifF h1 (h2 rfl)
theorem q_fn {m : Nat} (h : Ret S (xs.map some ++ List.replicate m none) v) : fnM m S xs = some v := let ⟨_, e⟩ := h; s_fn e
/-- an item -/
theorem q_ix {k : Int} (h : Da τ = some (.tup xs, τ)) (h2 : Db τ = some (.int k, τ)) (hx : L2.atI xs k = some x) (p : x.pure = true) : c2 idxV Da Db τ = some (x, τ) := s_c2 h h2 (pureO_ok hx p)
theorem q_ixL {m : Bool} {k : Int} (h : Da τ = some (.lst m xs, τ)) (h2 : Db τ = some (.int k, τ)) (hx : L2.atI xs k = some x) (p : x.pure = true) : c2 idxV Da Db τ = some (x, τ) := s_c2 h h2 (pureO_ok hx p)
end
/-! kinds -/
def isTp : Val → Bool
  | .tup _ => true
  | _ => false
def isB : Val → Bool
  | .bl _ => true
  | _ => false
def isI : Val → Bool
  | .int _ => true
  | _ => false
def isSt : Val → Bool
  | .str _ => true
  | _ => false
theorem isi_tup {n : Nat} {x : Val} (h : x.nice n = true) : isiV .tTuple x = some (.bl (isTp x)) := by cases x <;> first | rfl | simp [Val.nice] at h
theorem isi_bool {n : Nat} {x : Val} (h : x.nice n = true) : isiV .tBool x = some (.bl (isB x)) := by cases x <;> first | rfl | simp [Val.nice] at h
theorem isi_int {n : Nat} {x : Val} (h : x.nice n = true) : isiV .tInt x = some (.bl (isI x || isB x)) := by cases x <;> first | rfl | simp [Val.nice] at h
theorem isi_str {n : Nat} {x : Val} (h : x.nice n = true) : isiV .tStr x = some (.bl (isSt x)) := by cases x <;> first | rfl | simp [Val.nice] at h
def gTup (n : Nat) : Val → Bool
  | .tup xs => decide (xs.length = n)
  | _ => false
def gInt (lo hi : Int) : Val → Bool
  | .int i => decide (lo ≤ i) && decide (i ≤ hi)
  | _ => false
def gSign : Val → Bool
  | .str z => [Val.str "a", .str "b", .str "c"].any fun y => PyData.eqv y.toD (.str z)
  | _ => false
theorem nice_items {n : Nat} {xs : List Val} (h : (Val.tup xs).nice (n + 1) = true) : ∀ x ∈ xs, x.nice n = true := by
  simp only [Val.nice, Bool.and_eq_true] at h
  rw [niceL_all] at h
  exact List.all_eq_true.mp h.2
theorem nice_itemsL {n : Nat} {m : Bool} {xs : List Val} (h : (Val.lst m xs).nice (n + 1) = true) : ∀ x ∈ xs, x.nice n = true := by
  simp only [Val.nice, Bool.and_eq_true] at h
  rw [niceL_all] at h
  exact List.all_eq_true.mp h.2
theorem nice_tup_succ {n : Nat} {xs : List Val} (h : (Val.tup xs).nice n = true) : ∃ m, n = m + 1 := by
  cases n with
  | zero => simp [Val.nice] at h
  | succ m => exact ⟨m, rfl⟩
theorem nice_len {n : Nat} {xs : List Val} (h : (Val.tup xs).nice n = true) : xs.length ≤ 1000 := by
  obtain ⟨m, rfl⟩ := nice_tup_succ h
  simp only [Val.nice, Bool.and_eq_true, decide_eq_true_eq] at h
  exact h.1
theorem nice_mem {n : Nat} {xs : List Val} (h : (Val.tup xs).nice n = true) {x : Val} (hx : x ∈ xs) : x.nice n = true := by
  obtain ⟨m, rfl⟩ := nice_tup_succ h
  exact nice_up _ _ (nice_items h x hx)
theorem tup4 {x : Val} (h : gTup 4 x = true) : ∃ a b c d, x = .tup [a, b, c, d] := by
  cases x with
  | tup xs =>
    simp only [gTup, decide_eq_true_eq] at h
    match xs, h with
    | [a, b, c, d], _ => exact ⟨a, b, c, d, rfl⟩
  | _ => cases h
theorem tup5 {x : Val} (h : gTup 5 x = true) : ∃ a b c d e, x = .tup [a, b, c, d, e] := by
  cases x with
  | tup xs =>
    simp only [gTup, decide_eq_true_eq] at h
    match xs, h with
    | [a, b, c, d, e], _ => exact ⟨a, b, c, d, e, rfl⟩
  | _ => cases h
theorem tup2 {x : Val} (h : gTup 2 x = true) : ∃ a b, x = .tup [a, b] := by
  cases x with
  | tup xs =>
    simp only [gTup, decide_eq_true_eq] at h
    match xs, h with
    | [a, b], _ => exact ⟨a, b, rfl⟩
  | _ => cases h
theorem gInt_inv {lo hi : Int} {x : Val} (h : gInt lo hi x = true) : ∃ i, x = .int i ∧ lo ≤ i ∧ i ≤ hi := by
  cases x with
  | int i =>
    simp only [gInt, Bool.and_eq_true, decide_eq_true_eq] at h
    exact ⟨i, rfl, h⟩
  | _ => cases h
theorem eqB_int {i j : Int} : eqV (.int i) (.int j) = some (.bl (decide (i = j))) := by
  simp only [eqV]
  congr 2
end MV
end

section
set_option maxHeartbeats 4000000
/-! comprehensions that test or map -/
namespace MV
open PySem
theorem set_none {τ : Sl} {i : Nat} (h : τ[i]? = some none) : τ.set i none = τ := by
  refine List.ext_getElem? fun j => ?_
  by_cases hj : i = j
  · subst hj
    obtain ⟨h1, h2⟩ := List.getElem?_eq_some_iff.mp h
    rw [List.getElem?_set_self h1, h]
  · rw [List.getElem?_set_ne hj]
theorem set_back {τ : Sl} {i : Nat} {o : Option Val} (h : τ[i]? = some none) : (τ.set i o).set i none = τ := by rw [List.set_set, set_none h]
theorem set_at {τ : Sl} {i : Nat} {o o' : Option Val} (h : τ[i]? = some o') : (τ.set i o)[i]? = some o := List.getElem?_set_self (List.getElem?_eq_some_iff.mp h).1
theorem filterMap_if (p : Val → Bool) : ∀ xs : List Val, (xs.filterMap fun x => if p x = true then some x else none) = xs.filter p
  | [] => rfl
  | x :: r => by
    rw [List.filter_cons]
    cases h : p x with
    | true => simp [h, filterMap_if p r]
    | false => simp [h, filterMap_if p r]
section
variable {τ : Sl} {i : Nat} {I : Evs} {C : Tv} {E : Ev} {xs : List Val}
theorem q_filter' (p : Val → Bool) (hI : I τ = some (xs, τ)) (hp : pureL xs = true) (hi : τ[i]? = some none) (hC : ∀ x ∈ xs, C (τ.set i (some x)) = some (p x, τ.set i (some x))) (hl : xs.length ≤ 1000) :
    lcM I (nameT i) C (rdE i) [i] τ = some (.lst true (xs.filter p), τ) := by
  have pure : ∀ x ∈ xs, x.pure = true := by rw [pureL_all] at hp; exact List.all_eq_true.mp hp
  have w : wipeM τ [i] = τ := set_none hi
  have := lcM_det (T := nameT i) (C := C) (E := rdE i) (own := [i]) (fun x => if p x = true then some x else none) hI (by rw [sizeLine_eq]; omega) fun x hx => by
    refine ⟨τ.set i (some x), by rw [w]; rfl, ?_⟩
    rw [w]
    cases hpx : p x with
    | false => exact .inl ⟨by simp, _, by rw [hC x hx, hpx], set_back hi⟩
    | true => exact .inr ⟨x, _, _, by simp, by rw [hC x hx, hpx], s_rdE (set_at hi) (pure x hx), set_back hi⟩
  rw [this, w]
  rw [filterMap_if]
theorem q_map' (f : Val → Val) (hI : I τ = some (xs, τ)) (hi : τ[i]? = some none) (hE : ∀ x ∈ xs, E (τ.set i (some x)) = some (f x, τ.set i (some x))) (hl : xs.length ≤ 1000) :
    lcM I (nameT i) yesM E [i] τ = some (.lst true (xs.map f), τ) := by
  have w : wipeM τ [i] = τ := set_none hi
  have := lcM_det (T := nameT i) (C := yesM) (E := E) (own := [i]) (fun x => some (f x)) hI (by rw [sizeLine_eq]; omega) fun x hx => by
    refine ⟨τ.set i (some x), by rw [w]; rfl, ?_⟩
    rw [w]
    exact .inr ⟨f x, _, _, rfl, rfl, hE x hx, set_back hi⟩
  rw [this, w]
  simp
theorem q_seqI {D : Ev} {v : Val} (h : D τ = some (v, τ)) (hs : v.seq? = some xs) (hp : pureL xs = true) : seqI D τ = some (xs, τ) := by
  rw [s_seqI h hs, frzL_of_pure xs hp]
end
theorem blsOf_map (p : Val → Bool) : ∀ xs : List Val, blsOf (xs.map fun x => .bl (p x)) = some (xs.map p)
  | [] => rfl
  | x :: r => by simp only [List.map_cons, blsOf, blsOf_map p r, Option.map_some]
theorem allV_map {m : Bool} (p : Val → Bool) (xs : List Val) : allV [.lst m (xs.map fun x => .bl (p x))] = some (.bl (xs.all p)) := by
  simp only [allV, blsOf_map, Option.map_some, List.all_map]
  rfl
theorem anyV_map {m : Bool} (p : Val → Bool) (xs : List Val) : anyV [.lst m (xs.map fun x => .bl (p x))] = some (.bl (xs.any p)) := by
  simp only [anyV, blsOf_map, Option.map_some, List.any_map]
  rfl
theorem okD_nil (m : Bool) : okD (.lst m []) = true := by cases m <;> decide +kernel
theorem eq_nil {m m' : Bool} {zs : List Val} (h : okD (.lst m zs) = true) : eqV (.lst m zs) (.lst m' []) = some (.bl zs.isEmpty) := by
  simp only [eqV, h, okD_nil, Bool.and_self, if_true, Val.toD, toDL, PyData.eqv]
  cases zs with
  | nil => simp [toDL, PyData.eqvAll]
  | cons z r => simp [toDL, PyData.eqvAll]
theorem ne_nil {m m' : Bool} {zs : List Val} (h : okD (.lst m zs) = true) : neV (.lst m zs) (.lst m' []) = some (.bl (!zs.isEmpty)) := by
  simp only [neV, eq_nil h, Option.bind_some]
theorem nice_lst_okD {n : Nat} {m : Bool} {zs : List Val} (h : ∀ z ∈ zs, z.nice n = true) (hn : n ≤ 63) : okD (.lst m zs) = true := by
  have hl : niceL n zs = true := by rw [niceL_all]; exact List.all_eq_true.mpr h
  have := niceL_depth n zs hl
  unfold okD SeqAt.shaped
  simp only [Val.toD, PyData.canLay0, PyData.depth, Bool.and_eq_true, decide_eq_true_eq]
  exact ⟨this.2, by omega⟩
theorem filter_empty {p : Val → Bool} {xs : List Val} : (xs.filter fun x => !p x).isEmpty = xs.all p := by
  induction xs with
  | nil => rfl
  | cons x r ih =>
    rw [List.filter_cons]
    cases h : p x with
    | true => simpa [h] using ih
    | false => simp [h]
end MV
end

section
set_option maxHeartbeats 8000000
/-! the defs of law k01: mirrors and derivations (printed by gen.py) -/
namespace K01
open PySem PySem.Spec PyProof.Rows L2 MV
def topS (i : Nat) : Stmt := PySem.Challenge.pw_realpauses_k01_machines_and_rows_known.main.body.getD i (.Pass ⟨0, 0, 0, 0⟩)
noncomputable section
def v_SIGNS : Val := (.tup [(.str "a"), (.str "b"), (.str "c")])
def v_FAR : Val := (.int 5)
def v_MOST_BEATS : Val := (.int 30)
abbrev s__law_spring : Stmt := topS 22
abbrev N__law_spring : List Str := ["script", "at", "cell", "mixed"]
theorem sc__law_spring : FnScope N__law_spring ["script", "at"] (defScope s__law_spring) := ⟨rfl, rfl, rfl, by decide +kernel, rfl, by decide +kernel, by decide +kernel⟩
def b__law_spring : Sv :=
  (seqM (setM 2 (cC (.int 7)))
  (seqM (ifM (tst (c2 ltV (rdO 1) (cN lenV (consM (rdO 0) nilM)))) (setM 2 (cN absV2 (consM (c2 idxV (rdO 0) (rdO 1)) nilM))) nextM)
  (seqM (setM 3 (c2 modV (cN intV (consM (c2 addV (c2 addV (c2 mulV (rdO 2) (cC (.int 863))) (c2 mulV (cC (.int 524287)) (rdO 1))) (cC (.int 1))) nilM)) (cC (.int 999999999989))))
  (retM (cN mkLst (consM (ifV (tst (c2 geV (rdO 2) (c2 powV (cC (.int 10)) (cC (.int 18))))) (rdE 2) (cC (.int 0))) (consM (rdE 3) nilM)))))))
def m__law_spring : List Val → Option Val := fnM 2 b__law_spring
abbrev s__law_pick : Stmt := topS 23
abbrev N__law_pick : List Str := ["spring", "many", "digit"]
theorem sc__law_pick : FnScope N__law_pick ["spring", "many"] (defScope s__law_pick) := ⟨rfl, rfl, rfl, by decide +kernel, rfl, by decide +kernel, by decide +kernel⟩
def b__law_pick : Sv :=
  (seqM (ifM (tst (c2 gtV (c2 idxV (rdO 0) (cC (.int 0))) (cC (.int 0)))) (seqM (setM 2 (c2 modV (cN intV (consM (c2 idxV (rdO 0) (cC (.int 0))) nilM)) (rdO 1)))
  (seqM (setItemM 0 (cC (.int 0)) (c2 fdivV (c2 idxV (rdO 0) (cC (.int 0))) (rdO 1)))
  (retM (mvE 2)))) nextM)
  (seqM (setItemM 0 (cC (.int 1)) (c2 modV (cN intV (consM (c2 addV (c2 mulV (c2 idxV (rdO 0) (cC (.int 1))) (cC (.int 393555900739))) (cC (.int 8191))) nilM)) (cC (.int 999999999989))))
  (retM (c2 modV (cN intV (consM (c2 fdivV (c2 idxV (rdO 0) (cC (.int 1))) (cC (.int 4093))) nilM)) (rdO 1)))))
def m__law_pick : List Val → Option (Val × Val) := fnIO 1 b__law_pick
abbrev s__law_bound : Stmt := topS 26
abbrev N__law_bound : List Str := ["spring", "kind", "low", "with_low"]
theorem sc__law_bound : FnScope N__law_bound ["spring"] (defScope s__law_bound) := ⟨rfl, rfl, rfl, by decide +kernel, rfl, by decide +kernel, by decide +kernel⟩
def b__law_bound : Sv :=
  (seqM (setM 1 (callIO m__law_pick 0 (consM (cC (.int 8)) nilM)))
  (seqM (parM 2 3 (consM (callIO m__law_pick 0 (consM (cC (.int 4)) nilM)) (consM (c2 eqV (callIO m__law_pick 0 (consM (cC (.int 2)) nilM)) (cC (.int 0))) nilM)))
  (seqM (ifM (tst (c2 ltV (rdO 1) (cC (.int 3)))) (retM (cN mkTup (consM (cC (.int 0)) (consM (cC (.bl true)) (consM (cC (.int 5)) (consM (cC (.bl false)) nilM)))))) nextM)
  (seqM (ifM (tst (c2 eqV (rdO 1) (cC (.int 3)))) (retM (cN mkTup (consM (rdE 2) (consM (cC (.bl true)) (consM (rdE 2) (consM (cC (.bl true)) nilM)))))) nextM)
  (seqM (ifM (tst (c2 eqV (rdO 1) (cC (.int 4)))) (retM (cN mkTup (consM (rdE 2) (consM (rdE 3) (consM (cC (.int 5)) (consM (cC (.bl false)) nilM)))))) nextM)
  (retM (cN mkTup (consM (rdE 2) (consM (rdE 3) (consM (c2 addV (c2 addV (rdO 2) (cC (.int 1))) (callIO m__law_pick 0 (consM (c2 subV (cC (.int 4)) (rdO 2)) nilM))) (consM (c2 eqV (callIO m__law_pick 0 (consM (cC (.int 2)) nilM)) (cC (.int 0))) nilM)))))))))))
def m__law_bound : List Val → Option (Val × Val) := fnIO 3 b__law_bound
abbrev s__law_edge : Stmt := topS 27
abbrev N__law_edge : List Str := ["spring", "clocks", "place", "goal", "sign", "bounds", "clock"]
theorem sc__law_edge : FnScope N__law_edge ["spring", "clocks"] (defScope s__law_edge) := ⟨rfl, rfl, rfl, by decide +kernel, rfl, by decide +kernel, by decide +kernel⟩
def b__law_edge : Sv :=
  (seqM (parM 2 3 (consM (c2 idxV (cN mkLst (consM (cC (.int 0)) (consM (cC (.int 0)) (consM (cC (.int 1)) (consM (cC (.int 2)) nilM))))) (callIO m__law_pick 0 (consM (cC (.int 4)) nilM))) (consM (c2 idxV (cN mkLst (consM (cC (.int 0)) (consM (cC (.int 1)) (consM (cC (.int 1)) (consM (cC (.int 2)) nilM))))) (callIO m__law_pick 0 (consM (cC (.int 4)) nilM))) nilM)))
  (seqM (setM 4 (c2 idxV (cN mkLst (consM (cC (.str "a")) (consM (cC (.str "a")) (consM (cC (.str "b")) (consM (cC (.str "c")) nilM))))) (callIO m__law_pick 0 (consM (cC (.int 4)) nilM))))
  (seqM (setM 5 (cN tupleV (consM (lcM (rng1I (consM (rdO 1) nilM)) (nameT 6) yesM (callIO m__law_bound 0 nilM) [6]) nilM)))
  (retM (cN mkTup (consM (rdE 2) (consM (rdE 4) (consM (rdE 5) (consM (cN tupleV (consM (lcM (rng1I (consM (rdO 1) nilM)) (nameT 6) (tst (c2 eqV (callIO m__law_pick 0 (consM (cC (.int 2)) nilM)) (cC (.int 0)))) (rdE 6) [6]) nilM)) (consM (rdE 3) nilM))))))))))
def m__law_edge : List Val → Option (Val × Val) := fnIO 5 b__law_edge
abbrev s__law_machine : Stmt := topS 28
abbrev N__law_machine : List Str := ["spring", "most", "clocks", "edges", "turn"]
theorem sc__law_machine : FnScope N__law_machine ["spring", "most"] (defScope s__law_machine) := ⟨rfl, rfl, rfl, by decide +kernel, rfl, by decide +kernel, by decide +kernel⟩
def b__law_machine : Sv :=
  (seqM (setM 2 (c2 addV (cC (.int 1)) (callIO m__law_pick 0 (consM (cC (.int 2)) nilM))))
  (seqM (setM 3 (lcM (rng1I (consM (c2 addV (cC (.int 1)) (callIO m__law_pick 0 (consM (rdE 1) nilM))) nilM)) (nameT 4) yesM (callIO m__law_edge 0 (consM (rdE 2) nilM)) [4]))
  (retM (cN mkTup (consM (rdE 2) (consM (cN tupleV (consM (c1 sortSetV (rdO 3)) nilM)) nilM))))))
def m__law_machine : List Val → Option (Val × Val) := fnIO 3 b__law_machine
abbrev s__law_low : Stmt := topS 29
abbrev N__law_low : List Str := ["top", "below", "one", "other"]
theorem sc__law_low : FnScope N__law_low ["top", "below"] (defScope s__law_low) := ⟨rfl, rfl, rfl, by decide +kernel, rfl, by decide +kernel, by decide +kernel⟩
def b__law_low : Sv :=
  (seqM (parM 2 3 (consM (rdE 0) (consM (rdE 1) nilM)))
  (seqM (whileM (tst (c2 neV (rdO 3) (cC (.int 0)))) (parM 2 3 (consM (rdE 3) (consM (c2 modV (rdO 2) (rdO 3)) nilM))))
  (retM (cN mkTup (consM (c2 fdivV (rdO 0) (rdO 2)) (consM (c2 fdivV (rdO 1) (rdO 2)) nilM))))))
def m__law_low : List Val → Option Val := fnM 2 b__law_low
abbrev s__law_bent : Stmt := topS 43
abbrev N__law_bent : List Str := ["spring", "value", "some", "at", "way"]
theorem sc__law_bent : FnScope N__law_bent ["spring", "value"] (defScope s__law_bent) := ⟨rfl, rfl, rfl, by decide +kernel, rfl, by decide +kernel, by decide +kernel⟩
def b__law_bent (r__law_bent : List Val → Option (Val × Val)) : Sv :=
  (seqM (ifM (MV.andM (tst (c1 (isiV .tTuple) (rdO 1))) (MV.andM (tst (c2 neV (rdO 1) (cN mkTup nilM))) (tst (c2 gtV (callIO m__law_pick 0 (consM (cC (.int 7)) nilM)) (cC (.int 0)))))) (seqM (parM 3 4 (consM (callIO m__law_pick 0 (consM (cN lenV (consM (rdO 1) nilM)) nilM)) (consM (callIO m__law_pick 0 (consM (cC (.int 9)) nilM)) nilM)))
  (seqM (ifM (tst (c2 eqV (rdO 4) (cC (.int 0)))) (retM (c2 addV (cSl (rdO 1) partN (partS (rdO 3))) (cSl (rdO 1) (partS (c2 addV (rdO 3) (cC (.int 1)))) partN))) nextM)
  (seqM (ifM (tst (c2 eqV (rdO 4) (cC (.int 1)))) (retM (c2 addV (c2 addV (cSl (rdO 1) partN (partS (rdO 3))) (cSl (rdO 1) (partS (rdO 3)) (partS (c2 addV (rdO 3) (cC (.int 1)))))) (cSl (rdO 1) (partS (rdO 3)) partN))) nextM)
  (seqM (ifM (tst (c2 eqV (rdO 4) (cC (.int 2)))) (retM (c1 revV (rdO 1))) nextM)
  (retM (c2 addV (c2 addV (cSl (rdO 1) partN (partS (rdO 3))) (cN mkTup (consM (callIO r__law_bent 0 (consM (c2 idxV (rdO 1) (rdO 3)) nilM)) nilM))) (cSl (rdO 1) (partS (c2 addV (rdO 3) (cC (.int 1)))) partN))))))) nextM)
  (seqM (setM 2 (cN mkLst (consM (cC .non) (consM (cC (.bl true)) (consM (cC (.bl false)) (consM (cC (.int 0)) (consM (cC (.int 1)) (consM (cC (.int 2)) (consM (cC (.int 3)) (consM (cC (.int 4)) (consM (cC (.int 5)) (consM (cC (.int 6)) (consM (c1 negV (cC (.int 1))) (consM (c2 powV (cC (.int 10)) (cC (.int 30))) (consM (cC (.str "")) (consM (cC (.str "a")) (consM (cC (.str "c")) (consM (cC (.str "d")) (consM (cN mkTup nilM) (consM (frE (cN mkLst nilM)) (consM (cN mkTup (consM (cC (.int 0)) nilM)) (consM (cN mkTup (consM (cC (.int 1)) (consM (cC (.int 0)) nilM))) (consM (cN mkTup (consM (cC (.int 2)) (consM (cC (.int 4)) nilM))) nilM)))))))))))))))))))))))
  (seqM (setM 2 (c2 addV (rdO 2) (cN mkLst (consM (cN mkTup (consM (cC (.int 0)) (consM (cC (.bl true)) (consM (cC (.int 5)) (consM (cC (.bl false)) nilM))))) (consM (cN mkTup (consM (cC (.int 2)) (consM (cC (.bl true)) (consM (cC (.int 2)) (consM (cC (.bl true)) nilM))))) (consM (cN mkTup (consM (cC (.int 1)) (consM (cC (.bl false)) (consM (cC (.int 1)) (consM (cC (.bl true)) nilM))))) (consM (cN mkTup (consM (cN mkTup (consM (cC (.int 1)) (consM (cC (.int 2)) nilM))) (consM (cC (.str "b")) nilM))) (consM (cN mkTup (consM (cN mkTup (consM (cC (.int 0)) (consM (cC (.int 1)) nilM))) (consM (cC (.str "a")) nilM))) nilM))))))))
  (retM (c2 idxV (rdE 2) (callIO m__law_pick 0 (consM (cN lenV (consM (rdO 2) nilM)) nilM)))))))
def m__law_bent : Nat → List Val → Option (Val × Val)
  | 0 => fun _ => none
  | n + 1 => fnIO 3 (b__law_bent (m__law_bent n))
abbrev s__law_made : Stmt := topS 36
abbrev N__law_made : List Str := ["value", "many"]
theorem sc__law_made : FnScope N__law_made ["value", "many"] (defScope s__law_made) := ⟨rfl, rfl, rfl, by decide +kernel, rfl, by decide +kernel, by decide +kernel⟩
def b__law_made : Sv :=
  (retM (andV (c1 (isiV .tTuple) (rdO 0)) (c2 eqV (cN lenV (consM (rdO 0) nilM)) (rdO 1))))
def m__law_made : List Val → Option Val := fnM 0 b__law_made
abbrev s__law_int : Stmt := topS 35
abbrev N__law_int : List Str := ["value", "low", "high"]
theorem sc__law_int : FnScope N__law_int ["value", "low", "high"] (defScope s__law_int) := ⟨rfl, rfl, rfl, by decide +kernel, rfl, by decide +kernel, by decide +kernel⟩
def b__law_int : Sv :=
  (retM (andV (c1 (isiV .tInt) (rdO 0)) (andV (notV (c1 (isiV .tBool) (rdO 0))) (chM leV leV (rdO 1) (rdO 0) (rdO 2)))))
def m__law_int : List Val → Option Val := fnM 0 b__law_int
abbrev s__law_good_bound : Stmt := topS 37
abbrev N__law_good_bound : List Str := ["value", "low", "with_low", "high", "with_high"]
theorem sc__law_good_bound : FnScope N__law_good_bound ["value"] (defScope s__law_good_bound) := ⟨rfl, rfl, rfl, by decide +kernel, rfl, by decide +kernel, by decide +kernel⟩
def b__law_good_bound : Sv :=
  (seqM (ifM (MV.orM (MV.notM (tst (callM m__law_made (consM (rdO 0) (consM (cC (.int 4)) nilM))))) (MV.orM (MV.notM (tst (c1 (isiV .tBool) (c2 idxV (rdO 0) (cC (.int 1)))))) (MV.notM (tst (c1 (isiV .tBool) (c2 idxV (rdO 0) (cC (.int 3)))))))) (retM (cC (.bl false))) nextM)
  (seqM (ifM (MV.orM (MV.notM (tst (callM m__law_int (consM (c2 idxV (rdO 0) (cC (.int 0))) (consM (cC (.int 0)) (consM (cC (.int 4)) nilM)))))) (MV.notM (tst (callM m__law_int (consM (c2 idxV (rdO 0) (cC (.int 2))) (consM (cC (.int 0)) (consM (cC (.int 5)) nilM))))))) (retM (cC (.bl false))) nextM)
  (seqM (asgM (tupT 4 (consT (nameT 1) (consT (nameT 2) (consT (nameT 3) (consT (nameT 4) nilT))))) (rdE 0))
  (seqM (ifM (tst (c2 eqV (rdO 3) (cC (.int 5)))) (retM (c2 isV (rdO 4) (cC (.bl false)))) nextM)
  (retM (orV (c2 ltV (rdO 1) (rdO 3)) (andV (c2 eqV (rdO 1) (rdO 3)) (andV (rdO 2) (rdE 4)))))))))
def m__law_good_bound : List Val → Option Val := fnM 4 b__law_good_bound
abbrev s__law_rising : Stmt := topS 39
abbrev N__law_rising : List Str := ["row", "at"]
theorem sc__law_rising : FnScope N__law_rising ["row"] (defScope s__law_rising) := ⟨rfl, rfl, rfl, by decide +kernel, rfl, by decide +kernel, by decide +kernel⟩
def b__law_rising : Sv :=
  (retM (c2 eqV (lcM (rng2I (consM (cC (.int 1)) (consM (cN lenV (consM (rdO 0) nilM)) nilM))) (nameT 1) (MV.notM (tst (c2 ltV (c2 idxV (rdO 0) (c2 subV (rdO 1) (cC (.int 1)))) (c2 idxV (rdO 0) (rdO 1))))) (rdE 1) [1]) (cN mkLst nilM)))
def m__law_rising : List Val → Option Val := fnM 1 b__law_rising
abbrev s__law_good_sign : Stmt := topS 38
abbrev N__law_good_sign : List Str := ["value"]
theorem sc__law_good_sign : FnScope N__law_good_sign ["value"] (defScope s__law_good_sign) := ⟨rfl, rfl, rfl, by decide +kernel, rfl, by decide +kernel, by decide +kernel⟩
def b__law_good_sign : Sv :=
  (retM (andV (c1 (isiV .tStr) (rdO 0)) (c2 inV2 (rdO 0) (cN mkLst (consM (cC (.str "a")) (consM (cC (.str "b")) (consM (cC (.str "c")) nilM)))))))
def m__law_good_sign : List Val → Option Val := fnM 0 b__law_good_sign
abbrev s__law_good_edge : Stmt := topS 40
abbrev N__law_good_edge : List Str := ["clocks", "value", "bound", "one"]
theorem sc__law_good_edge : FnScope N__law_good_edge ["clocks", "value"] (defScope s__law_good_edge) := ⟨rfl, rfl, rfl, by decide +kernel, rfl, by decide +kernel, by decide +kernel⟩
def b__law_good_edge : Sv :=
  (seqM (ifM (MV.orM (MV.notM (tst (callM m__law_made (consM (rdO 1) (consM (cC (.int 5)) nilM))))) (MV.orM (MV.notM (tst (callM m__law_int (consM (c2 idxV (rdO 1) (cC (.int 0))) (consM (cC (.int 0)) (consM (cC (.int 3)) nilM)))))) (MV.notM (tst (callM m__law_int (consM (c2 idxV (rdO 1) (cC (.int 4))) (consM (cC (.int 0)) (consM (cC (.int 3)) nilM)))))))) (retM (cC (.bl false))) nextM)
  (seqM (ifM (MV.orM (MV.notM (tst (callM m__law_good_sign (consM (c2 idxV (rdO 1) (cC (.int 1))) nilM)))) (MV.notM (tst (callM m__law_made (consM (c2 idxV (rdO 1) (cC (.int 2))) (consM (rdO 0) nilM)))))) (retM (cC (.bl false))) nextM)
  (seqM (ifM (tst (c2 neV (lcM (seqI (c2 idxV (rdO 1) (cC (.int 2)))) (nameT 2) (MV.notM (tst (callM m__law_good_bound (consM (rdO 2) nilM)))) (rdE 2) [2]) (cN mkLst nilM))) (retM (cC (.bl false))) nextM)
  (seqM (ifM (MV.notM (tst (c1 (isiV .tTuple) (c2 idxV (rdO 1) (cC (.int 3)))))) (retM (cC (.bl false))) nextM)
  (seqM (ifM (tst (c2 neV (lcM (seqI (c2 idxV (rdO 1) (cC (.int 3)))) (nameT 3) (MV.notM (tst (callM m__law_int (consM (rdO 3) (consM (cC (.int 0)) (consM (c2 subV (rdO 0) (cC (.int 1))) nilM)))))) (rdE 3) [3]) (cN mkLst nilM))) (retM (cC (.bl false))) nextM)
  (retM (callM m__law_rising (consM (c2 idxV (rdO 1) (cC (.int 3))) nilM))))))))
def m__law_good_edge : List Val → Option Val := fnM 2 b__law_good_edge
abbrev s__law_good_machine : Stmt := topS 41
abbrev N__law_good_machine : List Str := ["value", "edge"]
theorem sc__law_good_machine : FnScope N__law_good_machine ["value"] (defScope s__law_good_machine) := ⟨rfl, rfl, rfl, by decide +kernel, rfl, by decide +kernel, by decide +kernel⟩
def b__law_good_machine : Sv :=
  (seqM (ifM (MV.orM (MV.notM (tst (callM m__law_made (consM (rdO 0) (consM (cC (.int 2)) nilM))))) (MV.orM (MV.notM (tst (callM m__law_int (consM (c2 idxV (rdO 0) (cC (.int 0))) (consM (cC (.int 1)) (consM (cC (.int 2)) nilM)))))) (MV.notM (tst (c1 (isiV .tTuple) (c2 idxV (rdO 0) (cC (.int 1)))))))) (retM (cC (.bl false))) nextM)
  (seqM (ifM (MV.notM (tst (chM leV leV (cC (.int 1)) (cN lenV (consM (c2 idxV (rdO 0) (cC (.int 1))) nilM)) (cC (.int 6))))) (retM (cC (.bl false))) nextM)
  (seqM (ifM (tst (c2 neV (lcM (seqI (c2 idxV (rdO 0) (cC (.int 1)))) (nameT 1) (MV.notM (tst (callM m__law_good_edge (consM (c2 idxV (rdO 0) (cC (.int 0))) (consM (rdO 1) nilM))))) (rdE 1) [1]) (cN mkLst nilM))) (retM (cC (.bl false))) nextM)
  (retM (callM m__law_rising (consM (c2 idxV (rdO 0) (cC (.int 1))) nilM))))))
def m__law_good_machine : List Val → Option Val := fnM 1 b__law_good_machine
abbrev s__law_good_row : Stmt := topS 42
abbrev N__law_good_row : List Str := ["value", "beat"]
theorem sc__law_good_row : FnScope N__law_good_row ["value"] (defScope s__law_good_row) := ⟨rfl, rfl, rfl, by decide +kernel, rfl, by decide +kernel, by decide +kernel⟩
def b__law_good_row : Sv :=
  (seqM (ifM (MV.orM (MV.notM (tst (c1 (isiV .tTuple) (rdO 0)))) (tst (c2 gtV (cN lenV (consM (rdO 0) nilM)) (cC (.int 30))))) (retM (cC (.bl false))) nextM)
  (seqM (forM (seqI (rdE 0)) (nameT 1) (seqM (ifM (MV.orM (MV.notM (tst (callM m__law_made (consM (rdO 1) (consM (cC (.int 2)) nilM))))) (MV.orM (MV.notM (tst (callM m__law_good_sign (consM (c2 idxV (rdO 1) (cC (.int 1))) nilM)))) (MV.notM (tst (callM m__law_made (consM (c2 idxV (rdO 1) (cC (.int 0))) (consM (cC (.int 2)) nilM))))))) (retM (cC (.bl false))) nextM)
  (seqM (ifM (MV.orM (MV.notM (tst (callM m__law_int (consM (c2 idxV (c2 idxV (rdO 1) (cC (.int 0))) (cC (.int 0))) (consM (cC (.int 0)) (consM (c2 powV (cC (.int 10)) (cC (.int 40))) nilM)))))) (MV.notM (tst (callM m__law_int (consM (c2 idxV (c2 idxV (rdO 1) (cC (.int 0))) (cC (.int 1))) (consM (cC (.int 1)) (consM (c2 powV (cC (.int 10)) (cC (.int 40))) nilM))))))) (retM (cC (.bl false))) nextM)
  (ifM (tst (c2 neV (callM m__law_low (consM (c2 idxV (c2 idxV (rdO 1) (cC (.int 0))) (cC (.int 0))) (consM (c2 idxV (c2 idxV (rdO 1) (cC (.int 0))) (cC (.int 1))) nilM))) (c2 idxV (rdO 1) (cC (.int 0))))) (retM (cC (.bl false))) nextM))))
  (retM (cC (.bl true)))))
def m__law_good_row : List Val → Option Val := fnM 1 b__law_good_row
abbrev s__law_kind : Stmt := topS 24
abbrev N__law_kind : List Str := ["value"]
theorem sc__law_kind : FnScope N__law_kind ["value"] (defScope s__law_kind) := ⟨rfl, rfl, rfl, by decide +kernel, rfl, by decide +kernel, by decide +kernel⟩
def b__law_kind : Sv :=
  (seqM (ifM (MV.orM (tst (c2 isV (rdO 0) (cC .non))) (tst (c1 (isiV .tBool) (rdO 0)))) (retM (ifV (tst (c2 isV (rdO 0) (cC .non))) (cC (.int 0)) (cC (.int 1)))) nextM)
  (seqM (ifM (tst (c1 (isiVs [.tList, .tTuple]) (rdO 0))) (retM (ifV (tst (c1 (isiV .tList) (rdO 0))) (cC (.int 2)) (cC (.int 3)))) nextM)
  (retM (ifV (tst (c1 (isiV .tInt) (rdO 0))) (cC (.int 4)) (ifV (tst (c1 (isiV .tStr) (rdO 0))) (cC (.int 5)) (cC (.int 6)))))))
def m__law_kind : List Val → Option Val := fnM 0 b__law_kind
abbrev s__law_twins : Stmt := topS 25
abbrev N__law_twins : List Str := ["one", "other", "a", "b"]
theorem sc__law_twins : FnScope N__law_twins ["one", "other"] (defScope s__law_twins) := ⟨rfl, rfl, rfl, by decide +kernel, rfl, by decide +kernel, by decide +kernel⟩
def b__law_twins (r__law_twins : List Val → Option Val) : Sv :=
  (seqM (ifM (tst (c2 neV (callM m__law_kind (consM (rdO 0) nilM)) (callM m__law_kind (consM (rdO 1) nilM)))) (retM (cC (.bl false))) nextM)
  (seqM (ifM (tst (c2 inV2 (callM m__law_kind (consM (rdO 0) nilM)) (cN mkLst (consM (cC (.int 2)) (consM (cC (.int 3)) nilM))))) (retM (andV (c2 eqV (cN lenV (consM (rdO 0) nilM)) (cN lenV (consM (rdO 1) nilM))) (c2 eqV (lcM (zipI (consM (rdE 0) (consM (rdE 1) nilM))) (tupT 2 (consT (nameT 2) (consT (nameT 3) nilT))) (MV.notM (tst (callM r__law_twins (consM (rdO 2) (consM (rdO 3) nilM))))) (cC (.int 1)) [2, 3]) (cN mkLst nilM)))) nextM)
  (retM (c2 eqV (rdO 0) (rdO 1)))))
def m__law_twins : Nat → List Val → Option Val
  | 0 => fun _ => none
  | n + 1 => fnM 2 (b__law_twins (m__law_twins n))
abbrev s_is_row_of : Stmt := topS 8
abbrev N_is_row_of : List Str := ["value", "many"]
theorem sc_is_row_of : FnScope N_is_row_of ["value", "many"] (defScope s_is_row_of) := ⟨rfl, rfl, rfl, by decide +kernel, rfl, by decide +kernel, by decide +kernel⟩
def b_is_row_of : Sv :=
  (retM (andV (c1 (isiV .tTuple) (rdO 0)) (c2 eqV (cN lenV (consM (rdO 0) nilM)) (rdO 1))))
def m_is_row_of : List Val → Option Val := fnM 0 b_is_row_of
abbrev s_is_within : Stmt := topS 7
abbrev N_is_within : List Str := ["value", "low", "high"]
theorem sc_is_within : FnScope N_is_within ["value", "low", "high"] (defScope s_is_within) := ⟨rfl, rfl, rfl, by decide +kernel, rfl, by decide +kernel, by decide +kernel⟩
def b_is_within : Sv :=
  (retM (andV (c1 (isiV .tInt) (rdO 0)) (andV (notV (c1 (isiV .tBool) (rdO 0))) (chM leV leV (rdO 1) (rdO 0) (rdO 2)))))
def m_is_within : List Val → Option Val := fnM 0 b_is_within
abbrev s_is_sign : Stmt := topS 9
abbrev N_is_sign : List Str := ["value"]
theorem sc_is_sign : FnScope N_is_sign ["value"] (defScope s_is_sign) := ⟨rfl, rfl, rfl, by decide +kernel, rfl, by decide +kernel, by decide +kernel⟩
def b_is_sign : Sv :=
  (retM (andV (c1 (isiV .tStr) (rdO 0)) (c2 inV2 (rdO 0) (cC v_SIGNS))))
def m_is_sign : List Val → Option Val := fnM 0 b_is_sign
abbrev s_is_bound : Stmt := topS 12
abbrev N_is_bound : List Str := ["value"]
theorem sc_is_bound : FnScope N_is_bound ["value"] (defScope s_is_bound) := ⟨rfl, rfl, rfl, by decide +kernel, rfl, by decide +kernel, by decide +kernel⟩
def b_is_bound : Sv :=
  (seqM (ifM (MV.orM (MV.notM (tst (callM m_is_row_of (consM (rdO 0) (consM (cC (.int 4)) nilM))))) (MV.orM (MV.notM (tst (callM m_is_within (consM (c2 idxV (rdO 0) (cC (.int 0))) (consM (cC (.int 0)) (consM (cC (.int 4)) nilM)))))) (MV.notM (tst (callM m_is_within (consM (c2 idxV (rdO 0) (cC (.int 2))) (consM (c2 idxV (rdO 0) (cC (.int 0))) (consM (cC v_FAR) nilM)))))))) (retM (cC (.bl false))) nextM)
  (seqM (ifM (MV.orM (MV.notM (tst (c1 (isiV .tBool) (c2 idxV (rdO 0) (cC (.int 1)))))) (MV.notM (tst (c1 (isiV .tBool) (c2 idxV (rdO 0) (cC (.int 3))))))) (retM (cC (.bl false))) nextM)
  (seqM (ifM (tst (c2 eqV (c2 idxV (rdO 0) (cC (.int 2))) (cC v_FAR))) (retM (notV (c2 idxV (rdO 0) (cC (.int 3))))) nextM)
  (retM (orV (c2 ltV (c2 idxV (rdO 0) (cC (.int 0))) (c2 idxV (rdO 0) (cC (.int 2)))) (andV (c2 idxV (rdO 0) (cC (.int 1))) (c2 idxV (rdO 0) (cC (.int 3)))))))))
def m_is_bound : List Val → Option Val := fnM 0 b_is_bound
abbrev s_is_edge : Stmt := topS 13
abbrev N_is_edge : List Str := ["clocks", "value", "bound", "clock"]
theorem sc_is_edge : FnScope N_is_edge ["clocks", "value"] (defScope s_is_edge) := ⟨rfl, rfl, rfl, by decide +kernel, rfl, by decide +kernel, by decide +kernel⟩
def b_is_edge : Sv :=
  (seqM (ifM (MV.orM (MV.notM (tst (callM m_is_row_of (consM (rdO 1) (consM (cC (.int 5)) nilM))))) (MV.orM (MV.notM (tst (callM m_is_within (consM (c2 idxV (rdO 1) (cC (.int 0))) (consM (cC (.int 0)) (consM (cC (.int 3)) nilM)))))) (MV.notM (tst (callM m_is_sign (consM (c2 idxV (rdO 1) (cC (.int 1))) nilM)))))) (retM (cC (.bl false))) nextM)
  (seqM (ifM (MV.orM (MV.notM (tst (callM m_is_row_of (consM (c2 idxV (rdO 1) (cC (.int 2))) (consM (rdO 0) nilM))))) (MV.notM (tst (cN allV (consM (lcM (seqI (c2 idxV (rdO 1) (cC (.int 2)))) (nameT 2) yesM (callM m_is_bound (consM (rdO 2) nilM)) [2]) nilM))))) (retM (cC (.bl false))) nextM)
  (seqM (ifM (MV.orM (MV.notM (tst (c1 (isiV .tTuple) (c2 idxV (rdO 1) (cC (.int 3)))))) (MV.notM (tst (cN allV (consM (lcM (seqI (c2 idxV (rdO 1) (cC (.int 3)))) (nameT 3) yesM (callM m_is_within (consM (rdO 3) (consM (cC (.int 0)) (consM (c2 subV (rdO 0) (cC (.int 1))) nilM)))) [3]) nilM))))) (retM (cC (.bl false))) nextM)
  (retM (andV (c2 eqV (cN listV (consM (c2 idxV (rdO 1) (cC (.int 3))) nilM)) (c1 sortSetV (c2 idxV (rdO 1) (cC (.int 3))))) (callM m_is_within (consM (c2 idxV (rdO 1) (cC (.int 4))) (consM (cC (.int 0)) (consM (cC (.int 3)) nilM)))))))))
def m_is_edge : List Val → Option Val := fnM 2 b_is_edge
abbrev s_is_machine : Stmt := topS 14
abbrev N_is_machine : List Str := ["value", "edge"]
theorem sc_is_machine : FnScope N_is_machine ["value"] (defScope s_is_machine) := ⟨rfl, rfl, rfl, by decide +kernel, rfl, by decide +kernel, by decide +kernel⟩
def b_is_machine : Sv :=
  (seqM (ifM (MV.orM (MV.notM (tst (callM m_is_row_of (consM (rdO 0) (consM (cC (.int 2)) nilM))))) (MV.orM (MV.notM (tst (callM m_is_within (consM (c2 idxV (rdO 0) (cC (.int 0))) (consM (cC (.int 1)) (consM (cC (.int 2)) nilM)))))) (MV.notM (tst (c1 (isiV .tTuple) (c2 idxV (rdO 0) (cC (.int 1)))))))) (retM (cC (.bl false))) nextM)
  (seqM (ifM (MV.orM (MV.notM (tst (chM leV leV (cC (.int 1)) (cN lenV (consM (c2 idxV (rdO 0) (cC (.int 1))) nilM)) (cC (.int 6))))) (MV.notM (tst (cN allV (consM (lcM (seqI (c2 idxV (rdO 0) (cC (.int 1)))) (nameT 1) yesM (callM m_is_edge (consM (c2 idxV (rdO 0) (cC (.int 0))) (consM (rdO 1) nilM))) [1]) nilM))))) (retM (cC (.bl false))) nextM)
  (retM (c2 eqV (cN listV (consM (c2 idxV (rdO 0) (cC (.int 1))) nilM)) (c1 sortSetV (c2 idxV (rdO 0) (cC (.int 1))))))))
def m_is_machine : List Val → Option Val := fnM 1 b_is_machine
abbrev s_look_at_machine : Stmt := topS 17
abbrev N_look_at_machine : List Str := ["machine"]
theorem sc_look_at_machine : FnScope N_look_at_machine ["machine"] (defScope s_look_at_machine) := ⟨rfl, rfl, rfl, by decide +kernel, rfl, by decide +kernel, by decide +kernel⟩
def b_look_at_machine : Sv :=
  (ifM (MV.notM (tst (callM m_is_machine (consM (rdO 0) nilM)))) failM nextM)
def m_look_at_machine : List Val → Option Val := fnM 0 b_look_at_machine
abbrev s_meet : Stmt := topS 18
abbrev N_meet : List Str := ["one", "other", "low", "with_low", "high", "with_high"]
theorem sc_meet : FnScope N_meet ["one", "other"] (defScope s_meet) := ⟨rfl, rfl, rfl, by decide +kernel, rfl, by decide +kernel, by decide +kernel⟩
def b_meet : Sv :=
  (seqM (asgM (tupT 2 (consT (nameT 2) (consT (nameT 3) nilT))) (cN maxV (consM (cN mkTup (consM (c2 idxV (rdO 0) (cC (.int 0))) (consM (notV (c2 idxV (rdO 0) (cC (.int 1)))) nilM))) (consM (cN mkTup (consM (c2 idxV (rdO 1) (cC (.int 0))) (consM (notV (c2 idxV (rdO 1) (cC (.int 1)))) nilM))) nilM))))
  (seqM (asgM (tupT 2 (consT (nameT 4) (consT (nameT 5) nilT))) (cN minV (consM (cN mkTup (consM (c2 idxV (rdO 0) (cC (.int 2))) (consM (c2 idxV (rdO 0) (cC (.int 3))) nilM))) (consM (cN mkTup (consM (c2 idxV (rdO 1) (cC (.int 2))) (consM (c2 idxV (rdO 1) (cC (.int 3))) nilM))) nilM))))
  (retM (orV (c2 ltV (rdO 2) (rdO 4)) (andV (c2 eqV (rdO 2) (rdO 4)) (andV (notV (rdO 3)) (rdE 5)))))))
def m_meet : List Val → Option Val := fnM 4 b_meet
abbrev s_clear_by : Stmt := topS 19
abbrev N_clear_by : List Str := ["machine", "edges", "at", "one", "other", "mine", "theirs"]
theorem sc_clear_by : FnScope N_clear_by ["machine"] (defScope s_clear_by) := ⟨rfl, rfl, rfl, by decide +kernel, rfl, by decide +kernel, by decide +kernel⟩
def b_clear_by : Sv :=
  (seqM (setM 1 (c2 idxV (rdO 0) (cC (.int 1))))
  (seqM (forM (enumI (rdE 1)) (tupT 2 (consT (nameT 2) (consT (nameT 3) nilT))) (forM (seqI (cSl (rdO 1) partN (partS (rdO 2)))) (nameT 4) (ifM (MV.andM (tst (c2 eqV (cSl (rdO 3) partN (partS (cC (.int 2)))) (cSl (rdO 4) partN (partS (cC (.int 2)))))) (tst (cN allV (consM (lcM (zipI (consM (c2 idxV (rdO 3) (cC (.int 2))) (consM (c2 idxV (rdO 4) (cC (.int 2))) nilM))) (tupT 2 (consT (nameT 5) (consT (nameT 6) nilT))) yesM (callM m_meet (consM (rdO 5) (consM (rdO 6) nilM))) [5, 6]) nilM)))) (retM (cC (.bl false))) nextM)))
  (retM (cC (.bl true)))))
def m_clear_by : List Val → Option Val := fnM 6 b_clear_by
abbrev s_is_clear : Stmt := topS 20
abbrev N_is_clear : List Str := ["machine"]
theorem sc_is_clear : FnScope N_is_clear ["machine"] (defScope s_is_clear) := ⟨rfl, rfl, rfl, by decide +kernel, rfl, by decide +kernel, by decide +kernel⟩
def b_is_clear : Sv :=
  (seqM (dropM (callM m_look_at_machine (consM (rdO 0) nilM)))
  (retM (callM m_clear_by (consM (rdO 0) nilM))))
def m_is_clear : List Val → Option Val := fnM 0 b_is_clear
abbrev s__law_kept : Stmt := topS 31
abbrev N__law_kept : List Str := ["value", "bound", "top", "below", "low", "with_low", "high", "with_high"]
theorem sc__law_kept : FnScope N__law_kept ["value", "bound"] (defScope s__law_kept) := ⟨rfl, rfl, rfl, by decide +kernel, rfl, by decide +kernel, by decide +kernel⟩
def b__law_kept : Sv :=
  (seqM (asgM (tupT 2 (consT (nameT 2) (consT (nameT 3) nilT))) (rdE 0))
  (seqM (asgM (tupT 4 (consT (nameT 4) (consT (nameT 5) (consT (nameT 6) (consT (nameT 7) nilT))))) (rdE 1))
  (seqM (ifM (MV.orM (tst (c2 ltV (rdO 2) (c2 mulV (rdO 4) (rdO 3)))) (MV.andM (tst (c2 eqV (rdO 2) (c2 mulV (rdO 4) (rdO 3)))) (MV.notM (tst (rdO 5))))) (retM (cC (.bl false))) nextM)
  (retM (orV (c2 eqV (rdO 6) (cC (.int 5))) (orV (c2 ltV (rdO 2) (c2 mulV (rdO 6) (rdO 3))) (andV (c2 eqV (rdO 2) (c2 mulV (rdO 6) (rdO 3))) (rdE 7))))))))
def m__law_kept : List Val → Option Val := fnM 6 b__law_kept
abbrev s__law_clear : Stmt := topS 44
abbrev N__law_clear : List Str := ["machine", "at", "one", "other", "both", "mine", "theirs", "halves", "some", "half"]
theorem sc__law_clear : FnScope N__law_clear ["machine"] (defScope s__law_clear) := ⟨rfl, rfl, rfl, by decide +kernel, rfl, by decide +kernel, by decide +kernel⟩
def b__law_clear : Sv :=
  (seqM (forM (enumI (c2 idxV (rdO 0) (cC (.int 1)))) (tupT 2 (consT (nameT 1) (consT (nameT 2) nilT))) (forM (seqI (cSl (c2 idxV (rdO 0) (cC (.int 1))) partN (partS (rdO 1)))) (nameT 3) (seqM (setM 4 (cC (.int 0)))
  (seqM (forM (zipI (consM (c2 idxV (rdO 2) (cC (.int 2))) (consM (c2 idxV (rdO 3) (cC (.int 2))) nilM))) (tupT 2 (consT (nameT 5) (consT (nameT 6) nilT))) (seqM (setM 7 (lcM (rng1I (consM (cC (.int 12)) nilM)) (nameT 9) yesM (callM m__law_low (consM (rdO 9) (consM (cC (.int 2)) nilM))) [9]))
  (seqM (setM 8 (lcM (seqI (rdE 7)) (nameT 9) (tst (callM m__law_kept (consM (rdO 9) (consM (rdO 5) nilM)))) (rdE 9) [9]))
  (setM 4 (c2 addV (rdO 4) (cN intV (consM (c2 neV (lcM (seqI (rdE 8)) (nameT 9) (tst (callM m__law_kept (consM (rdO 9) (consM (rdO 6) nilM)))) (rdE 9) [9]) (cN mkLst nilM)) nilM)))))))
  (ifM (MV.andM (tst (c2 eqV (cSl (rdO 2) partN (partS (cC (.int 2)))) (cSl (rdO 3) partN (partS (cC (.int 2)))))) (tst (c2 eqV (rdO 4) (c2 idxV (rdO 0) (cC (.int 0)))))) (retM (cC (.bl false))) nextM)))))
  (retM (cC (.bl true))))
def m__law_clear : List Val → Option Val := fnM 9 b__law_clear
abbrev s_common : Stmt := topS 10
abbrev N_common : List Str := ["one", "other"]
theorem sc_common : FnScope N_common ["one", "other"] (defScope s_common) := ⟨rfl, rfl, rfl, by decide +kernel, rfl, by decide +kernel, by decide +kernel⟩
def b_common : Sv :=
  (seqM (whileM (tst (c2 neV (rdO 1) (cC (.int 0)))) (parM 0 1 (consM (rdE 1) (consM (c2 modV (rdO 0) (rdO 1)) nilM))))
  (retM (mvE 0)))
def m_common : List Val → Option Val := fnM 0 b_common
abbrev s_is_fraction : Stmt := topS 11
abbrev N_is_fraction : List Str := ["value", "one"]
theorem sc_is_fraction : FnScope N_is_fraction ["value"] (defScope s_is_fraction) := ⟨rfl, rfl, rfl, by decide +kernel, rfl, by decide +kernel, by decide +kernel⟩
def b_is_fraction : Sv :=
  (seqM (ifM (MV.orM (MV.notM (tst (callM m_is_row_of (consM (rdO 0) (consM (cC (.int 2)) nilM))))) (MV.notM (tst (cN allV (consM (lcM (seqI (rdE 0)) (nameT 1) yesM (andV (c1 (isiV .tInt) (rdO 1)) (notV (c1 (isiV .tBool) (rdO 1)))) [1]) nilM))))) (retM (cC (.bl false))) nextM)
  (retM (andV (c2 geV (c2 idxV (rdO 0) (cC (.int 0))) (cC (.int 0))) (andV (c2 geV (c2 idxV (rdO 0) (cC (.int 1))) (cC (.int 1))) (c2 eqV (callM m_common (consM (c2 idxV (rdO 0) (cC (.int 0))) (consM (c2 idxV (rdO 0) (cC (.int 1))) nilM))) (cC (.int 1)))))))
def m_is_fraction : List Val → Option Val := fnM 1 b_is_fraction
abbrev s_is_beat : Stmt := topS 15
abbrev N_is_beat : List Str := ["value"]
theorem sc_is_beat : FnScope N_is_beat ["value"] (defScope s_is_beat) := ⟨rfl, rfl, rfl, by decide +kernel, rfl, by decide +kernel, by decide +kernel⟩
def b_is_beat : Sv :=
  (retM (andV (callM m_is_row_of (consM (rdO 0) (consM (cC (.int 2)) nilM))) (andV (callM m_is_fraction (consM (c2 idxV (rdO 0) (cC (.int 0))) nilM)) (callM m_is_sign (consM (c2 idxV (rdO 0) (cC (.int 1))) nilM)))))
def m_is_beat : List Val → Option Val := fnM 0 b_is_beat
abbrev s_is_row : Stmt := topS 16
abbrev N_is_row : List Str := ["value", "beat"]
theorem sc_is_row : FnScope N_is_row ["value"] (defScope s_is_row) := ⟨rfl, rfl, rfl, by decide +kernel, rfl, by decide +kernel, by decide +kernel⟩
def b_is_row : Sv :=
  (retM (andV (c1 (isiV .tTuple) (rdO 0)) (andV (c2 leV (cN lenV (consM (rdO 0) nilM)) (cC v_MOST_BEATS)) (cN allV (consM (lcM (seqI (rdE 0)) (nameT 1) yesM (callM m_is_beat (consM (rdO 1) nilM)) [1]) nilM)))))
def m_is_row : List Val → Option Val := fnM 1 b_is_row
abbrev s_law : Stmt := topS 45
abbrev N_law : List Str := ["script", "at", "spring", "machine", "bound", "pauses", "row", "some", "one", "turn", "due", "other", "pair", "pause"]
theorem sc_law : FnScope N_law ["script"] (defScope s_law) := ⟨rfl, rfl, rfl, by decide +kernel, rfl, by decide +kernel, by decide +kernel⟩
def b_law : Sv :=
  (seqM (forM (rng1I (consM (c2 addV (cN min2V (consM (cN lenV (consM (rdO 0) nilM)) (consM (cC (.int 8)) nilM))) (cC (.int 1))) nilM)) (nameT 1) (seqM (setM 2 (callM m__law_spring (consM (rdO 0) (consM (rdO 1) nilM))))
  (seqM (asgM (tupT 2 (consT (nameT 3) (consT (nameT 4) nilT))) (cN mkTup (consM (callIO m__law_machine 2 (consM (cC (.int 6)) nilM)) (consM (callIO m__law_bound 2 nilM) nilM))))
  (seqM (setM 5 (lcM (rng1I (consM (callIO m__law_pick 2 (consM (cC (.int 7)) nilM)) nilM)) (nameT 9) yesM (callM m__law_low (consM (callIO m__law_pick 2 (consM (cC (.int 9)) nilM)) (consM (c2 addV (cC (.int 1)) (callIO m__law_pick 2 (consM (cC (.int 6)) nilM))) nilM))) [9]))
  (seqM (setM 6 (cN tupleV (consM (lcM (seqI (rdE 5)) (nameT 13) yesM (cN mkTup (consM (rdE 13) (consM (c2 idxV (cN mkLst (consM (cC (.str "a")) (consM (cC (.str "b")) (consM (cC (.str "c")) nilM)))) (callIO m__law_pick 2 (consM (cC (.int 3)) nilM))) nilM))) [13]) nilM)))
  (seqM (setM 7 (cN mkLst (consM (rdE 3) (consM (frE (cN listV (consM (rdO 3) nilM))) (consM (rdE 4) (consM (rdE 6) (consM (c2 mulV (rdO 6) (cC (.int 6))) (consM (cSl (c2 mulV (rdO 6) (cC (.int 31))) partN (partS (cC (.int 100)))) (consM (cN mkTup (consM (c2 idxV (rdO 3) (cC (.int 0))) (consM (c1 revV (c2 idxV (rdO 3) (cC (.int 1)))) nilM))) nilM)))))))))
  (seqM (setM 7 (c2 addV (rdE 7) (lcM (rng1I (consM (cC (.int 30)) nilM)) (nameT 9) yesM (callIO (m__law_bent 8) 2 (consM (rdE 3) nilM)) [9])))
  (seqM (setM 7 (c2 addV (rdE 7) (lcM (rng1I (consM (cC (.int 15)) nilM)) (nameT 9) yesM (callIO (m__law_bent 8) 2 (consM (rdE 4) nilM)) [9])))
  (seqM (setM 7 (c2 addV (rdE 7) (lcM (rng1I (consM (cC (.int 15)) nilM)) (nameT 9) yesM (callIO (m__law_bent 8) 2 (consM (rdE 6) nilM)) [9])))
  (seqM (forM (seqI (rdE 7)) (nameT 8) (seqM (setM 10 (cN mkLst (consM (callM m__law_good_bound (consM (rdO 8) nilM)) (consM (callM m__law_good_machine (consM (rdO 8) nilM)) (consM (callM m__law_good_row (consM (rdO 8) nilM)) nilM)))))
  (ifM (MV.notM (tst (callM (m__law_twins 12) (consM (cN mkLst (consM (callM m_is_bound (consM (rdO 8) nilM)) (consM (callM m_is_machine (consM (rdO 8) nilM)) (consM (callM m_is_row (consM (rdO 8) nilM)) nilM)))) (consM (rdO 10) nilM))))) (retM (cC (.bl false))) nextM)))
  (seqM (ifM (MV.orM (MV.notM (tst (callM m__law_good_machine (consM (rdO 3) nilM)))) (MV.notM (tst (callM (m__law_twins 12) (consM (callM m_is_clear (consM (rdO 3) nilM)) (consM (callM m__law_clear (consM (rdO 3) nilM)) nilM)))))) (retM (cC (.bl false))) nextM)
  (forM (rng1I (consM (cC (.int 6)) nilM)) (nameT 9) (seqM (parM 8 11 (consM (callIO m__law_edge 2 (consM (cC (.int 1)) nilM)) (consM (callIO m__law_edge 2 (consM (cC (.int 1)) nilM)) nilM)))
  (seqM (setM 12 (cN tupleV (consM (c1 sortSetV (cN mkLst (consM (c2 addV (cSl (rdO 8) partN (partS (cC (.int 2)))) (cSl (rdO 8) (partS (cC (.int 2))) partN)) (consM (c2 addV (cSl (rdO 8) partN (partS (cC (.int 2)))) (cSl (rdO 11) (partS (cC (.int 2))) partN)) nilM)))) nilM)))
  (ifM (MV.notM (tst (callM (m__law_twins 12) (consM (callM m_is_clear (consM (cN mkTup (consM (cC (.int 1)) (consM (rdE 12) nilM))) nilM)) (consM (callM m__law_clear (consM (cN mkTup (consM (cC (.int 1)) (consM (rdE 12) nilM))) nilM)) nilM))))) (retM (cC (.bl false))) nextM)))))))))))))))
  (retM (cC (.bl true))))
def m_law : List Val → Option Val := fnM 13 b_law
end
structure Facts (K : PySem.W.Frag) (mg : Str → Option Value) where
  f__law_spring : Addr
  fd__law_spring : FuncData
  F__law_spring : Fun K "_law_spring" "_law_spring" s__law_spring f__law_spring fd__law_spring
  b__law_spring : Binds K fd__law_spring ["script", "at"] []
  g__law_spring : mg "_law_spring" = some (.ref f__law_spring)
  f__law_pick : Addr
  fd__law_pick : FuncData
  F__law_pick : Fun K "_law_pick" "_law_pick" s__law_pick f__law_pick fd__law_pick
  b__law_pick : Binds K fd__law_pick ["spring", "many"] []
  g__law_pick : mg "_law_pick" = some (.ref f__law_pick)
  f__law_bound : Addr
  fd__law_bound : FuncData
  F__law_bound : Fun K "_law_bound" "_law_bound" s__law_bound f__law_bound fd__law_bound
  b__law_bound : Binds K fd__law_bound ["spring"] []
  g__law_bound : mg "_law_bound" = some (.ref f__law_bound)
  f__law_edge : Addr
  fd__law_edge : FuncData
  F__law_edge : Fun K "_law_edge" "_law_edge" s__law_edge f__law_edge fd__law_edge
  b__law_edge : Binds K fd__law_edge ["spring", "clocks"] []
  g__law_edge : mg "_law_edge" = some (.ref f__law_edge)
  f__law_machine : Addr
  fd__law_machine : FuncData
  F__law_machine : Fun K "_law_machine" "_law_machine" s__law_machine f__law_machine fd__law_machine
  b__law_machine : Binds K fd__law_machine ["spring", "most"] []
  g__law_machine : mg "_law_machine" = some (.ref f__law_machine)
  f__law_low : Addr
  fd__law_low : FuncData
  F__law_low : Fun K "_law_low" "_law_low" s__law_low f__law_low fd__law_low
  b__law_low : Binds K fd__law_low ["top", "below"] []
  g__law_low : mg "_law_low" = some (.ref f__law_low)
  f__law_bent : Addr
  fd__law_bent : FuncData
  F__law_bent : Fun K "_law_bent" "_law_bent" s__law_bent f__law_bent fd__law_bent
  b__law_bent : Binds K fd__law_bent ["spring", "value"] []
  g__law_bent : mg "_law_bent" = some (.ref f__law_bent)
  f__law_made : Addr
  fd__law_made : FuncData
  F__law_made : Fun K "_law_made" "_law_made" s__law_made f__law_made fd__law_made
  b__law_made : Binds K fd__law_made ["value", "many"] []
  g__law_made : mg "_law_made" = some (.ref f__law_made)
  f__law_int : Addr
  fd__law_int : FuncData
  F__law_int : Fun K "_law_int" "_law_int" s__law_int f__law_int fd__law_int
  b__law_int : Binds K fd__law_int ["value", "low", "high"] []
  g__law_int : mg "_law_int" = some (.ref f__law_int)
  f__law_good_bound : Addr
  fd__law_good_bound : FuncData
  F__law_good_bound : Fun K "_law_good_bound" "_law_good_bound" s__law_good_bound f__law_good_bound fd__law_good_bound
  b__law_good_bound : Binds K fd__law_good_bound ["value"] []
  g__law_good_bound : mg "_law_good_bound" = some (.ref f__law_good_bound)
  f__law_rising : Addr
  fd__law_rising : FuncData
  F__law_rising : Fun K "_law_rising" "_law_rising" s__law_rising f__law_rising fd__law_rising
  b__law_rising : Binds K fd__law_rising ["row"] []
  g__law_rising : mg "_law_rising" = some (.ref f__law_rising)
  f__law_good_sign : Addr
  fd__law_good_sign : FuncData
  F__law_good_sign : Fun K "_law_good_sign" "_law_good_sign" s__law_good_sign f__law_good_sign fd__law_good_sign
  b__law_good_sign : Binds K fd__law_good_sign ["value"] []
  g__law_good_sign : mg "_law_good_sign" = some (.ref f__law_good_sign)
  f__law_good_edge : Addr
  fd__law_good_edge : FuncData
  F__law_good_edge : Fun K "_law_good_edge" "_law_good_edge" s__law_good_edge f__law_good_edge fd__law_good_edge
  b__law_good_edge : Binds K fd__law_good_edge ["clocks", "value"] []
  g__law_good_edge : mg "_law_good_edge" = some (.ref f__law_good_edge)
  f__law_good_machine : Addr
  fd__law_good_machine : FuncData
  F__law_good_machine : Fun K "_law_good_machine" "_law_good_machine" s__law_good_machine f__law_good_machine fd__law_good_machine
  b__law_good_machine : Binds K fd__law_good_machine ["value"] []
  g__law_good_machine : mg "_law_good_machine" = some (.ref f__law_good_machine)
  f__law_good_row : Addr
  fd__law_good_row : FuncData
  F__law_good_row : Fun K "_law_good_row" "_law_good_row" s__law_good_row f__law_good_row fd__law_good_row
  b__law_good_row : Binds K fd__law_good_row ["value"] []
  g__law_good_row : mg "_law_good_row" = some (.ref f__law_good_row)
  f__law_kind : Addr
  fd__law_kind : FuncData
  F__law_kind : Fun K "_law_kind" "_law_kind" s__law_kind f__law_kind fd__law_kind
  b__law_kind : Binds K fd__law_kind ["value"] []
  g__law_kind : mg "_law_kind" = some (.ref f__law_kind)
  f__law_twins : Addr
  fd__law_twins : FuncData
  F__law_twins : Fun K "_law_twins" "_law_twins" s__law_twins f__law_twins fd__law_twins
  b__law_twins : Binds K fd__law_twins ["one", "other"] []
  g__law_twins : mg "_law_twins" = some (.ref f__law_twins)
  f_is_row_of : Addr
  fd_is_row_of : FuncData
  F_is_row_of : Fun K "is_row_of" "is_row_of" s_is_row_of f_is_row_of fd_is_row_of
  b_is_row_of : Binds K fd_is_row_of ["value", "many"] []
  g_is_row_of : mg "is_row_of" = some (.ref f_is_row_of)
  f_is_within : Addr
  fd_is_within : FuncData
  F_is_within : Fun K "is_within" "is_within" s_is_within f_is_within fd_is_within
  b_is_within : Binds K fd_is_within ["value", "low", "high"] []
  g_is_within : mg "is_within" = some (.ref f_is_within)
  f_is_sign : Addr
  fd_is_sign : FuncData
  F_is_sign : Fun K "is_sign" "is_sign" s_is_sign f_is_sign fd_is_sign
  b_is_sign : Binds K fd_is_sign ["value"] []
  g_is_sign : mg "is_sign" = some (.ref f_is_sign)
  f_is_bound : Addr
  fd_is_bound : FuncData
  F_is_bound : Fun K "is_bound" "is_bound" s_is_bound f_is_bound fd_is_bound
  b_is_bound : Binds K fd_is_bound ["value"] []
  g_is_bound : mg "is_bound" = some (.ref f_is_bound)
  f_is_edge : Addr
  fd_is_edge : FuncData
  F_is_edge : Fun K "is_edge" "is_edge" s_is_edge f_is_edge fd_is_edge
  b_is_edge : Binds K fd_is_edge ["clocks", "value"] []
  g_is_edge : mg "is_edge" = some (.ref f_is_edge)
  f_is_machine : Addr
  fd_is_machine : FuncData
  F_is_machine : Fun K "is_machine" "is_machine" s_is_machine f_is_machine fd_is_machine
  b_is_machine : Binds K fd_is_machine ["value"] []
  g_is_machine : mg "is_machine" = some (.ref f_is_machine)
  f_look_at_machine : Addr
  fd_look_at_machine : FuncData
  F_look_at_machine : Fun K "look_at_machine" "look_at_machine" s_look_at_machine f_look_at_machine fd_look_at_machine
  b_look_at_machine : Binds K fd_look_at_machine ["machine"] []
  g_look_at_machine : mg "look_at_machine" = some (.ref f_look_at_machine)
  f_meet : Addr
  fd_meet : FuncData
  F_meet : Fun K "meet" "meet" s_meet f_meet fd_meet
  b_meet : Binds K fd_meet ["one", "other"] []
  g_meet : mg "meet" = some (.ref f_meet)
  f_clear_by : Addr
  fd_clear_by : FuncData
  F_clear_by : Fun K "clear_by" "clear_by" s_clear_by f_clear_by fd_clear_by
  b_clear_by : Binds K fd_clear_by ["machine"] []
  g_clear_by : mg "clear_by" = some (.ref f_clear_by)
  f_is_clear : Addr
  fd_is_clear : FuncData
  F_is_clear : Fun K "is_clear" "is_clear" s_is_clear f_is_clear fd_is_clear
  b_is_clear : Binds K fd_is_clear ["machine"] []
  g_is_clear : mg "is_clear" = some (.ref f_is_clear)
  f__law_kept : Addr
  fd__law_kept : FuncData
  F__law_kept : Fun K "_law_kept" "_law_kept" s__law_kept f__law_kept fd__law_kept
  b__law_kept : Binds K fd__law_kept ["value", "bound"] []
  g__law_kept : mg "_law_kept" = some (.ref f__law_kept)
  f__law_clear : Addr
  fd__law_clear : FuncData
  F__law_clear : Fun K "_law_clear" "_law_clear" s__law_clear f__law_clear fd__law_clear
  b__law_clear : Binds K fd__law_clear ["machine"] []
  g__law_clear : mg "_law_clear" = some (.ref f__law_clear)
  f_common : Addr
  fd_common : FuncData
  F_common : Fun K "common" "common" s_common f_common fd_common
  b_common : Binds K fd_common ["one", "other"] []
  g_common : mg "common" = some (.ref f_common)
  f_is_fraction : Addr
  fd_is_fraction : FuncData
  F_is_fraction : Fun K "is_fraction" "is_fraction" s_is_fraction f_is_fraction fd_is_fraction
  b_is_fraction : Binds K fd_is_fraction ["value"] []
  g_is_fraction : mg "is_fraction" = some (.ref f_is_fraction)
  f_is_beat : Addr
  fd_is_beat : FuncData
  F_is_beat : Fun K "is_beat" "is_beat" s_is_beat f_is_beat fd_is_beat
  b_is_beat : Binds K fd_is_beat ["value"] []
  g_is_beat : mg "is_beat" = some (.ref f_is_beat)
  f_is_row : Addr
  fd_is_row : FuncData
  F_is_row : Fun K "is_row" "is_row" s_is_row f_is_row fd_is_row
  b_is_row : Binds K fd_is_row ["value"] []
  g_is_row : mg "is_row" = some (.ref f_is_row)
  f_law : Addr
  fd_law : FuncData
  F_law : Fun K "law" "law" s_law f_law fd_law
  b_law : Binds K fd_law ["script"] []
  g_law : mg "law" = some (.ref f_law)
  z_len : mg "len" = none
  z_abs : mg "abs" = none
  z_int : mg "int" = none
  z_tuple : mg "tuple" = none
  z_range : mg "range" = none
  z_sorted : mg "sorted" = none
  z_set : mg "set" = none
  z_isinstance : mg "isinstance" = none
  z_bool : mg "bool" = none
  z_str : mg "str" = none
  z_list : mg "list" = none
  z_zip : mg "zip" = none
  z_all : mg "all" = none
  z_max : mg "max" = none
  z_min : mg "min" = none
  z_enumerate : mg "enumerate" = none
  q_SIGNS : Glb K mg "SIGNS" v_SIGNS
  q_FAR : Glb K mg "FAR" v_FAR
  q_MOST_BEATS : Glb K mg "MOST_BEATS" v_MOST_BEATS
section
variable {P : Program} {w : World} {K : PySem.W.Frag} {mg : Str → Option Value} {base : Heap}
theorem ok__law_spring (W : Facts K mg) (k : Nat) : FnOk P w K mg base CX0 (k + 1) W.f__law_spring W.fd__law_spring ["script", "at"] (spM P w K 2 m__law_spring) :=
  fn_ok (k := k + 0) (B := b__law_spring) W.F__law_spring sc__law_spring rfl rfl fun cdv A outer s H E hr => by
    have hu := hu64 hr
    exact (sss_cons (ss_set (i := 2) sc__law_spring.nd (Nat.zero_le _) se_int)
  (sss_cons (ss_if (st_cmp (op_ltV hu) (mG _) (so_rd 1) (SE.o (se_callB call_lenV (mGN _) W.z_len (by decide +kernel) (sos_cons (so_rd 0) sos_nil))) (by rfl)) (sss_one (ss_set (i := 2) sc__law_spring.nd (Nat.zero_le _) (se_callB call_absV (mGN _) W.z_abs (by decide +kernel) (sos_cons (SE.o (se_ix ix_idxV (mG _) (so_rd 0) (so_rd 1) (fun _ _ => rfl))) sos_nil)))) sss_nil)
  (sss_cons (ss_set (i := 3) sc__law_spring.nd (Nat.zero_le _) (se_op op_modV (mG _) (SE.o (se_callTy call_intV (mGN _) W.z_int (by decide +kernel) (sos_cons (SE.o (se_op op_addV (mG _) (SE.o (se_op op_addV (mG _) (SE.o (se_op op_mulV (mG _) (so_rd 2) (SE.o se_int))) (SE.o (se_op op_mulV (mG _) (SE.o se_int) (so_rd 1))))) (SE.o se_int))) sos_nil))) (SE.o se_int)))
  (sss_one (ss_ret (se_lst (ses_cons (se_ifx (st_cmp op_geV (mG _) (so_rd 2) (SE.o (se_op op_powV (mG _) (SE.o se_int) (SE.o se_int))) (by rfl)) (se_rd 2) se_int) (ses_cons (se_rd 3) ses_nil))))))))
theorem ok__law_pick (W : Facts K mg) (k : Nat) : FnOk P w K mg base CX0 (k + 1) W.f__law_pick W.fd__law_pick ["spring", "many"] (spIO P w K 2 m__law_pick) :=
  fn_okIO (k := k + 0) (B := b__law_pick) W.F__law_pick sc__law_pick rfl rfl fun cdv A outer s H E hr => by
    have hu := hu64 hr
    exact (sss_cons (ss_if (st_cmp op_gtV (mG _) (SE.o (se_ix ix_idxV (mG _) (so_rd 0) (SE.o se_int) (fun _ _ => rfl))) (SE.o se_int) (by rfl)) (sss_cons (ss_set (i := 2) sc__law_pick.nd (by decide) (se_op op_modV (mG _) (SE.o (se_callTy call_intV (mGN _) W.z_int (by decide +kernel) (sos_cons (SE.o (se_ix ix_idxV (mG _) (so_rd 0) (SE.o se_int) (fun _ _ => rfl))) sos_nil))) (so_rd 1)))
  (sss_cons (ss_setItem (i := 0) (se_op op_fdivV (mG _) (SE.o (se_ix ix_idxV (mG _) (so_rd 0) (SE.o se_int) (fun _ _ => rfl))) (so_rd 1)) (SE.o se_int))
  (sss_one (ss_ret (se_mv 2))))) sss_nil)
  (sss_cons (ss_setItem (i := 0) (se_op op_modV (mG _) (SE.o (se_callTy call_intV (mGN _) W.z_int (by decide +kernel) (sos_cons (SE.o (se_op op_addV (mG _) (SE.o (se_op op_mulV (mG _) (SE.o (se_ix ix_idxV (mG _) (so_rd 0) (SE.o se_int) (fun _ _ => rfl))) (SE.o se_int))) (SE.o se_int))) sos_nil))) (SE.o se_int)) (SE.o se_int))
  (sss_one (ss_ret (se_op op_modV (mG _) (SE.o (se_callTy call_intV (mGN _) W.z_int (by decide +kernel) (sos_cons (SE.o (se_op op_fdivV (mG _) (SE.o (se_ix ix_idxV (mG _) (so_rd 0) (SE.o se_int) (fun _ _ => rfl))) (SE.o se_int))) sos_nil))) (so_rd 1))))))
theorem ok__law_bound (W : Facts K mg) (k : Nat) : FnOk P w K mg base CX0 (k + 2) W.f__law_bound W.fd__law_bound ["spring"] (spIO P w K 1 m__law_bound) :=
  fn_okIO (k := k + 1) (B := b__law_bound) W.F__law_bound sc__law_bound rfl rfl fun cdv A outer s H E hr => by
    have hu := hu64 hr
    exact (sss_cons (ss_set (i := 1) sc__law_bound.nd (by decide) (se_callIO (i := 0) (ok__law_pick W (k + 0)) hr W.g__law_pick W.F__law_pick.kp W.b__law_pick (ses_cons se_int ses_nil) (fun _ _ h => congrArg (· + 1) ((consM_len nilM_len) _ _ h))))
  (sss_cons (ss_par (i := 2) (j := 3) rfl sc__law_bound.nd (by decide) (by decide) (by decide) (ses_cons (se_callIO (i := 0) (ok__law_pick W (k + 0)) hr W.g__law_pick W.F__law_pick.kp W.b__law_pick (ses_cons se_int ses_nil) (fun _ _ h => congrArg (· + 1) ((consM_len nilM_len) _ _ h))) (ses_cons (se_cmp (op_eqV2 hu) (mG _) (SE.o (se_callIO (i := 0) (ok__law_pick W (k + 0)) hr W.g__law_pick W.F__law_pick.kp W.b__law_pick (ses_cons se_int ses_nil) (fun _ _ h => congrArg (· + 1) ((consM_len nilM_len) _ _ h)))) (SE.o se_int) (by rfl)) (SEs.weak ses_nil))))
  (sss_cons (ss_if (st_cmp (op_ltV hu) (mG _) (so_rd 1) (SE.o se_int) (by rfl)) (sss_one (ss_ret (se_tup (ses_cons se_int (ses_cons se_bl (ses_cons se_int (ses_cons se_bl ses_nil))))))) sss_nil)
  (sss_cons (ss_if (st_cmp (op_eqV2 hu) (mG _) (so_rd 1) (SE.o se_int) (by rfl)) (sss_one (ss_ret (se_tup (ses_cons (se_rd 2) (ses_cons se_bl (ses_cons (se_rd 2) (ses_cons se_bl ses_nil))))))) sss_nil)
  (sss_cons (ss_if (st_cmp (op_eqV2 hu) (mG _) (so_rd 1) (SE.o se_int) (by rfl)) (sss_one (ss_ret (se_tup (ses_cons (se_rd 2) (ses_cons (se_rd 3) (ses_cons se_int (ses_cons se_bl ses_nil))))))) sss_nil)
  (sss_one (ss_ret (se_tup (ses_cons ((SE.weak (se_rd 2))) (ses_cons ((SE.weak (se_rd 3))) (ses_cons (se_op' op_addV (mG _) ((SE.weak (se_op op_addV (mG _) (so_rd 2) (SE.o se_int)))) (SE.o (se_callIO (i := 0) (ok__law_pick W (k + 0)) hr W.g__law_pick W.F__law_pick.kp W.b__law_pick (ses_cons (se_op op_subV (mG _) (SE.o se_int) (so_rd 2)) ses_nil) (fun _ _ h => congrArg (· + 1) ((consM_len nilM_len) _ _ h))))) (ses_cons (se_cmp (op_eqV2 hu) (mG _) (SE.o (se_callIO (i := 0) (ok__law_pick W (k + 0)) hr W.g__law_pick W.F__law_pick.kp W.b__law_pick (ses_cons se_int ses_nil) (fun _ _ h => congrArg (· + 1) ((consM_len nilM_len) _ _ h)))) (SE.o se_int) (by rfl)) (SEs.weak ses_nil)))))))))))))
theorem ok__law_edge (W : Facts K mg) (k : Nat) : FnOk P w K mg base CX0 (k + 3) W.f__law_edge W.fd__law_edge ["spring", "clocks"] (spIO P w K 2 m__law_edge) :=
  fn_okIO (k := k + 2) (B := b__law_edge) W.F__law_edge sc__law_edge rfl rfl fun cdv A outer s H E hr => by
    have hu := hu64 hr
    exact (sss_cons (ss_par (i := 2) (j := 3) rfl sc__law_edge.nd (by decide) (by decide) (by decide) (ses_cons (se_ix' ix_idxV (mG _) ((SE.weak (se_lst (ses_cons se_int (ses_cons se_int (ses_cons se_int (ses_cons se_int ses_nil))))))) (SE.o (se_callIO (i := 0) (ok__law_pick W (k + 1)) hr W.g__law_pick W.F__law_pick.kp W.b__law_pick (ses_cons se_int ses_nil) (fun _ _ h => congrArg (· + 1) ((consM_len nilM_len) _ _ h)))) (fun _ _ => rfl)) (ses_cons (se_ix' ix_idxV (mG _) ((SE.weak (se_lst (ses_cons se_int (ses_cons se_int (ses_cons se_int (ses_cons se_int ses_nil))))))) (SE.o (se_callIO (i := 0) (ok__law_pick W (k + 1)) hr W.g__law_pick W.F__law_pick.kp W.b__law_pick (ses_cons se_int ses_nil) (fun _ _ h => congrArg (· + 1) ((consM_len nilM_len) _ _ h)))) (fun _ _ => rfl)) (SEs.weak ses_nil))))
  (sss_cons (ss_set (i := 4) sc__law_edge.nd (by decide) (se_ix' ix_idxV (mG _) ((SE.weak (se_lst (ses_cons se_str (ses_cons se_str (ses_cons se_str (ses_cons se_str ses_nil))))))) (SE.o (se_callIO (i := 0) (ok__law_pick W (k + 1)) hr W.g__law_pick W.F__law_pick.kp W.b__law_pick (ses_cons se_int ses_nil) (fun _ _ h => congrArg (· + 1) ((consM_len nilM_len) _ _ h)))) (fun _ _ => rfl)))
  (sss_cons (ss_set (i := 5) sc__law_edge.nd (by decide) (se_callTy call_tupleV (mGN _) W.z_tuple (by decide +kernel) (sos_cons (SE.o (se_lc (own := [("clock", 6)]) rfl sc__law_edge.nd ((SI.weak (si_rng1 W.z_range (sos_cons (so_rd 1) sos_nil)))) (blkOk_by (own := [("clock", 6)]) (N := N__law_edge) (sc := defScope s__law_edge) (by decide +kernel)) (by decide) (fun _ _ _ _ _ => (sg_name (i := 6) sc__law_edge.nd)) (fun _ _ _ _ _ => ((STs.weak sts_nil))) (fun _ _ _ _ _ => (se_callIO (i := 0) (ok__law_bound W (k + 0)) hr W.g__law_bound W.F__law_bound.kp W.b__law_bound ses_nil (fun _ _ h => congrArg (· + 1) (nilM_len _ _ h)))))) sos_nil)))
  (sss_one (ss_ret (se_tup (ses_cons ((SE.weak (se_rd 2))) (ses_cons ((SE.weak (se_rd 4))) (ses_cons ((SE.weak (se_rd 5))) (ses_cons (se_callTy call_tupleV (mGN _) W.z_tuple (by decide +kernel) (sos_cons (SE.o (se_lc (own := [("clock", 6)]) rfl sc__law_edge.nd ((SI.weak (si_rng1 W.z_range (sos_cons (so_rd 1) sos_nil)))) (blkOk_by (own := [("clock", 6)]) (N := N__law_edge) (sc := defScope s__law_edge) (by decide +kernel)) (by decide) (fun _ _ _ _ _ => (sg_name (i := 6) sc__law_edge.nd)) (fun _ _ _ _ _ => (sts_one (st_cmp (op_eqV2 hu) (mG _) (SE.o (se_callIO (i := 0) (ok__law_pick W (k + 1)) hr W.g__law_pick W.F__law_pick.kp W.b__law_pick (ses_cons se_int ses_nil) (fun _ _ h => congrArg (· + 1) ((consM_len nilM_len) _ _ h)))) (SE.o se_int) (by rfl)))) (fun _ _ _ _ _ => ((SE.weak (se_rd 6)))))) sos_nil)) (ses_cons ((SE.weak (se_rd 3))) (SEs.weak ses_nil))))))))))))
theorem ok__law_machine (W : Facts K mg) (k : Nat) : FnOk P w K mg base CX0 (k + 4) W.f__law_machine W.fd__law_machine ["spring", "most"] (spIO P w K 2 m__law_machine) :=
  fn_okIO (k := k + 3) (B := b__law_machine) W.F__law_machine sc__law_machine rfl rfl fun cdv A outer s H E hr => by
    have hu := hu64 hr
    exact (sss_cons (ss_set (i := 2) sc__law_machine.nd (by decide) (se_op' op_addV (mG _) ((SE.weak se_int)) (SE.o (se_callIO (i := 0) (ok__law_pick W (k + 2)) hr W.g__law_pick W.F__law_pick.kp W.b__law_pick (ses_cons se_int ses_nil) (fun _ _ h => congrArg (· + 1) ((consM_len nilM_len) _ _ h))))))
  (sss_cons (ss_setLc (i := 3) (own := [("turn", 4)]) rfl sc__law_machine.nd (by decide) (si_rng1 W.z_range (sos_cons (SE.o (se_op' op_addV (mG _) ((SE.weak se_int)) (SE.o (se_callIO (i := 0) (ok__law_pick W (k + 2)) hr W.g__law_pick W.F__law_pick.kp W.b__law_pick (ses_cons (se_rd 1) ses_nil) (fun _ _ h => congrArg (· + 1) ((consM_len nilM_len) _ _ h)))))) sos_nil)) (blkOk_by (own := [("turn", 4)]) (N := N__law_machine) (sc := defScope s__law_machine) (by decide +kernel)) (by decide) (fun _ _ _ _ _ => (sg_name (i := 4) sc__law_machine.nd)) (fun _ _ _ _ _ => ((STs.weak sts_nil))) (fun _ _ _ _ _ => (se_callIO (i := 0) (ok__law_edge W (k + 0)) hr W.g__law_edge W.F__law_edge.kp W.b__law_edge (ses_cons (se_rd 2) ses_nil) (fun _ _ h => congrArg (· + 1) ((consM_len nilM_len) _ _ h)))))
  (sss_one (ss_ret (se_tup (ses_cons (se_rd 2) (ses_cons (se_callTy call_tupleV (mGN _) W.z_tuple (by decide +kernel) (sos_cons (SE.o (se_sortset rfl hu W.z_sorted W.z_set (so_rd 3))) sos_nil)) ses_nil)))))))
theorem ok__law_low (W : Facts K mg) (k : Nat) : FnOk P w K mg base CX0 (k + 1) W.f__law_low W.fd__law_low ["top", "below"] (spM P w K 2 m__law_low) :=
  fn_ok (k := k + 0) (B := b__law_low) W.F__law_low sc__law_low rfl rfl fun cdv A outer s H E hr => by
    have hu := hu64 hr
    exact (sss_cons (ss_par (i := 2) (j := 3) rfl sc__law_low.nd (by decide) (Nat.zero_le _) (Nat.zero_le _) (ses_cons (se_rd 0) (ses_cons (se_rd 1) ses_nil)))
  (sss_cons (ss_while PassesOwn.never (st_cmp (op_neV2 hu) (mG _) (so_rd 3) (SE.o se_int) (by rfl)) (sss_one (ss_par (i := 2) (j := 3) rfl sc__law_low.nd (by decide) (Nat.zero_le _) (Nat.zero_le _) (ses_cons (se_rd 3) (ses_cons (se_op op_modV (mG _) (so_rd 2) (so_rd 3)) ses_nil)))))
  (sss_one (ss_ret (se_tup (ses_cons (se_op op_fdivV (mG _) (so_rd 0) (so_rd 2)) (ses_cons (se_op op_fdivV (mG _) (so_rd 1) (so_rd 2)) ses_nil)))))))
theorem ok__law_bent (W : Facts K mg) : ∀ n k : Nat, FnOk P w K mg base CX0 (k + n + 2) W.f__law_bent W.fd__law_bent ["spring", "value"] (spIO P w K 2 (m__law_bent n))
  | 0, k => fn_okIO (k := k + 1) (B := failM) W.F__law_bent sc__law_bent rfl rfl fun cdv A outer s H E hr => sss_never
  | n + 1, k => fn_okIO (k := k + (n + 1) + 1) (B := b__law_bent (m__law_bent n)) W.F__law_bent sc__law_bent rfl rfl fun cdv A outer s H E hr => by
    have hu := hu64 hr
    have ih : FnOk P w K mg base CX0 (k + n + 2) W.f__law_bent W.fd__law_bent ["spring", "value"] (spIO P w K 2 (m__law_bent n)) := ok__law_bent W n k
    exact (sss_cons (ss_if ((sw_and ((ST.weak (st_val (SE.o (se_isi (T := .tTuple) W.z_isinstance W.z_tuple (by decide +kernel) (so_rd 1)))))) (sw_and ((ST.weak (st_cmp (op_neV2 hu) (mG _) (so_rd 1) (SE.o (se_tup ses_nil)) (by rfl)))) (sw_and1 (st_cmp op_gtV (mG _) (SE.o (se_callIO (i := 0) (ok__law_pick W (k + n + 1)) hr W.g__law_pick W.F__law_pick.kp W.b__law_pick (ses_cons se_int ses_nil) (fun _ _ h => congrArg (· + 1) ((consM_len nilM_len) _ _ h)))) (SE.o se_int) (by rfl))))).pt) (sss_cons (ss_par (i := 3) (j := 4) rfl sc__law_bent.nd (by decide) (by decide) (by decide) (ses_cons (se_callIO (i := 0) (ok__law_pick W (k + n + 1)) hr W.g__law_pick W.F__law_pick.kp W.b__law_pick (ses_cons (se_callB call_lenV (mGN _) W.z_len (by decide +kernel) (sos_cons (so_rd 1) sos_nil)) ses_nil) (fun _ _ h => congrArg (· + 1) ((consM_len nilM_len) _ _ h))) (ses_cons (se_callIO (i := 0) (ok__law_pick W (k + n + 1)) hr W.g__law_pick W.F__law_pick.kp W.b__law_pick (ses_cons se_int ses_nil) (fun _ _ h => congrArg (· + 1) ((consM_len nilM_len) _ _ h))) (SEs.weak ses_nil))))
  (sss_cons (ss_if (st_cmp (op_eqV2 hu) (mG _) (so_rd 4) (SE.o se_int) (by rfl)) (sss_one (ss_ret (se_op op_addV (mG _) (SE.o (se_slice (so_rd 1) sp_none (sp_some (so_rd 3)))) (SE.o (se_slice (so_rd 1) (sp_some (SE.o (se_op op_addV (mG _) (so_rd 3) (SE.o se_int)))) sp_none))))) sss_nil)
  (sss_cons (ss_if (st_cmp (op_eqV2 hu) (mG _) (so_rd 4) (SE.o se_int) (by rfl)) (sss_one (ss_ret (se_op op_addV (mG _) (SE.o (se_op op_addV (mG _) (SE.o (se_slice (so_rd 1) sp_none (sp_some (so_rd 3)))) (SE.o (se_slice (so_rd 1) (sp_some (so_rd 3)) (sp_some (SE.o (se_op op_addV (mG _) (so_rd 3) (SE.o se_int)))))))) (SE.o (se_slice (so_rd 1) (sp_some (so_rd 3)) sp_none))))) sss_nil)
  (sss_cons (ss_if (st_cmp (op_eqV2 hu) (mG _) (so_rd 4) (SE.o se_int) (by rfl)) (sss_one (ss_ret (se_rev (so_rd 1)))) sss_nil)
  (sss_one (ss_ret (se_op op_addV (mG _) (SE.o (se_op' op_addV (mG _) ((SE.weak (se_slice (so_rd 1) sp_none (sp_some (so_rd 3))))) (SE.o (se_tup (ses_cons (se_callIO (i := 0) ih hr W.g__law_bent W.F__law_bent.kp W.b__law_bent (ses_cons (se_ix ix_idxV (mG _) (so_rd 1) (so_rd 3) (fun _ _ => rfl)) ses_nil) (fun _ _ h => congrArg (· + 1) ((consM_len nilM_len) _ _ h))) (SEs.weak ses_nil)))))) (SE.o (se_slice (so_rd 1) (sp_some (SE.o (se_op op_addV (mG _) (so_rd 3) (SE.o se_int)))) sp_none))))))))) sss_nil)
  (sss_cons (ss_set (i := 2) sc__law_bent.nd (by decide) (se_lst (ses_cons se_non (ses_cons se_bl (ses_cons se_bl (ses_cons se_int (ses_cons se_int (ses_cons se_int (ses_cons se_int (ses_cons se_int (ses_cons se_int (ses_cons se_int (ses_cons (se_un un_negV (mG1 _) (SE.o se_int)) (ses_cons (se_op op_powV (mG _) (SE.o se_int) (SE.o se_int)) (ses_cons se_str (ses_cons se_str (ses_cons se_str (ses_cons se_str (ses_cons (se_tup ses_nil) (ses_cons (se_frz (se_lst ses_nil)) (ses_cons (se_tup (ses_cons se_int ses_nil)) (ses_cons (se_tup (ses_cons se_int (ses_cons se_int ses_nil))) (ses_cons (se_tup (ses_cons se_int (ses_cons se_int ses_nil))) ses_nil)))))))))))))))))))))))
  (sss_cons (ss_set (i := 2) sc__law_bent.nd (by decide) (se_op op_addV (mG _) (so_rd 2) (SE.o (se_lst (ses_cons (se_tup (ses_cons se_int (ses_cons se_bl (ses_cons se_int (ses_cons se_bl ses_nil))))) (ses_cons (se_tup (ses_cons se_int (ses_cons se_bl (ses_cons se_int (ses_cons se_bl ses_nil))))) (ses_cons (se_tup (ses_cons se_int (ses_cons se_bl (ses_cons se_int (ses_cons se_bl ses_nil))))) (ses_cons (se_tup (ses_cons (se_tup (ses_cons se_int (ses_cons se_int ses_nil))) (ses_cons se_str ses_nil))) (ses_cons (se_tup (ses_cons (se_tup (ses_cons se_int (ses_cons se_int ses_nil))) (ses_cons se_str ses_nil))) ses_nil)))))))))
  (sss_one (ss_ret (se_ix' ix_idxV (mG _) ((SE.weak (se_rd 2))) (SE.o (se_callIO (i := 0) (ok__law_pick W (k + n + 1)) hr W.g__law_pick W.F__law_pick.kp W.b__law_pick (ses_cons (se_callB call_lenV (mGN _) W.z_len (by decide +kernel) (sos_cons (so_rd 2) sos_nil)) ses_nil) (fun _ _ h => congrArg (· + 1) ((consM_len nilM_len) _ _ h)))) (fun _ _ => rfl)))))))
theorem ok__law_made (W : Facts K mg) (k : Nat) : FnOk P w K mg base CX0 (k + 1) W.f__law_made W.fd__law_made ["value", "many"] (spM P w K 2 m__law_made) :=
  fn_ok (k := k + 0) (B := b__law_made) W.F__law_made sc__law_made rfl rfl fun cdv A outer s H E hr => by
    have hu := hu64 hr
    exact (sss_one (ss_ret (se_and (SE.o (se_isi (T := .tTuple) W.z_isinstance W.z_tuple (by decide +kernel) (so_rd 0))) (se_one (se_cmp (op_eqV2 hu) (mG _) (SE.o (se_callB call_lenV (mGN _) W.z_len (by decide +kernel) (sos_cons (so_rd 0) sos_nil))) (so_rd 1) (by rfl))))))
theorem ok__law_int (W : Facts K mg) (k : Nat) : FnOk P w K mg base CX0 (k + 1) W.f__law_int W.fd__law_int ["value", "low", "high"] (spM P w K 3 m__law_int) :=
  fn_ok (k := k + 0) (B := b__law_int) W.F__law_int sc__law_int rfl rfl fun cdv A outer s H E hr => by
    have hu := hu64 hr
    exact (sss_one (ss_ret (se_and (SE.o (se_isi (T := .tInt) W.z_isinstance W.z_int (by decide +kernel) (so_rd 0))) (se_and (SE.o (se_not (SE.o (se_isi (T := .tBool) W.z_isinstance W.z_bool (by decide +kernel) (so_rd 0))))) (se_one (se_chain op_leV (mG _) op_leV (mG _) (so_rd 1) (so_rd 0) (so_rd 2)))))))
theorem ok__law_good_bound (W : Facts K mg) (k : Nat) : FnOk P w K mg base CX0 (k + 2) W.f__law_good_bound W.fd__law_good_bound ["value"] (spM P w K 1 m__law_good_bound) :=
  fn_ok (k := k + 1) (B := b__law_good_bound) W.F__law_good_bound sc__law_good_bound rfl rfl fun cdv A outer s H E hr => by
    have hu := hu64 hr
    exact (sss_cons (ss_if ((sw_or (st_not (st_val (SE.o (se_call (ok__law_made W (k + 0)) hr W.g__law_made W.F__law_made.kp W.b__law_made (sos_cons (so_rd 0) (sos_cons (SE.o se_int) sos_nil)) (consM_len (consM_len nilM_len)))))) (sw_or (st_not (st_val (SE.o (se_isi (T := .tBool) W.z_isinstance W.z_bool (by decide +kernel) (SE.o (se_ix ix_idxV (mG _) (so_rd 0) (SE.o se_int) (fun _ _ => rfl))))))) (sw_or1 (st_not (st_val (SE.o (se_isi (T := .tBool) W.z_isinstance W.z_bool (by decide +kernel) (SE.o (se_ix ix_idxV (mG _) (so_rd 0) (SE.o se_int) (fun _ _ => rfl)))))))))).pt) (sss_one (ss_ret se_bl)) sss_nil)
  (sss_cons (ss_if ((sw_or (st_not (st_val (SE.o (se_call (ok__law_int W (k + 0)) hr W.g__law_int W.F__law_int.kp W.b__law_int (sos_cons (SE.o (se_ix ix_idxV (mG _) (so_rd 0) (SE.o se_int) (fun _ _ => rfl))) (sos_cons (SE.o se_int) (sos_cons (SE.o se_int) sos_nil))) (consM_len (consM_len (consM_len nilM_len))))))) (sw_or1 (st_not (st_val (SE.o (se_call (ok__law_int W (k + 0)) hr W.g__law_int W.F__law_int.kp W.b__law_int (sos_cons (SE.o (se_ix ix_idxV (mG _) (so_rd 0) (SE.o se_int) (fun _ _ => rfl))) (sos_cons (SE.o se_int) (sos_cons (SE.o se_int) sos_nil))) (consM_len (consM_len (consM_len nilM_len))))))))).pt) (sss_one (ss_ret se_bl)) sss_nil)
  (sss_cons (ss_asg (fun _ _ => Nat.zero_le _) (se_rd 0) (sg_tup rfl (sgs_cons (sg_name (i := 1) sc__law_good_bound.nd) (sgs_cons (sg_name (i := 2) sc__law_good_bound.nd) (sgs_cons (sg_name (i := 3) sc__law_good_bound.nd) (sgs_cons (sg_name (i := 4) sc__law_good_bound.nd) sgs_nil))))))
  (sss_cons (ss_if (st_cmp (op_eqV2 hu) (mG _) (so_rd 3) (SE.o se_int) (by rfl)) (sss_one (ss_ret (se_cmp op_isV (mG _) (so_rd 4) (SE.o se_bl) (by rfl)))) sss_nil)
  (sss_one (ss_ret (se_or (SE.o (se_cmp (op_ltV hu) (mG _) (so_rd 1) (so_rd 3) (by rfl))) (se_one (se_and (SE.o (se_cmp (op_eqV2 hu) (mG _) (so_rd 1) (so_rd 3) (by rfl))) (se_and (so_rd 2) (se_one (se_rd 4))))))))))))
theorem ok__law_rising (W : Facts K mg) (k : Nat) : FnOk P w K mg base CX0 (k + 1) W.f__law_rising W.fd__law_rising ["row"] (spM P w K 1 m__law_rising) :=
  fn_ok (k := k + 0) (B := b__law_rising) W.F__law_rising sc__law_rising rfl rfl fun cdv A outer s H E hr => by
    have hu := hu64 hr
    exact (sss_one (ss_ret (se_cmp (op_eqV2 hu) (mG _) (SE.o (se_lc (own := [("at", 1)]) rfl sc__law_rising.nd (si_rng2 W.z_range (sos_cons (SE.o se_int) (sos_cons (SE.o (se_callB call_lenV (mGN _) W.z_len (by decide +kernel) (sos_cons (so_rd 0) sos_nil))) sos_nil))) (blkOk_by (own := [("at", 1)]) (N := N__law_rising) (sc := defScope s__law_rising) (by decide +kernel)) (by decide) (fun _ _ _ _ _ => (sg_name (i := 1) sc__law_rising.nd)) (fun _ _ _ _ _ => (sts_one (st_not (st_cmp (op_ltV hu) (mG _) (SE.o (se_ix ix_idxV (mG _) (so_rd 0) (SE.o (se_op op_subV (mG _) (so_rd 1) (SE.o se_int))) (fun _ _ => rfl))) (SE.o (se_ix ix_idxV (mG _) (so_rd 0) (so_rd 1) (fun _ _ => rfl))) (by rfl))))) (fun _ _ _ _ _ => (se_rd 1)))) (SE.o (se_lst ses_nil)) (by rfl))))
theorem ok__law_good_sign (W : Facts K mg) (k : Nat) : FnOk P w K mg base CX0 (k + 1) W.f__law_good_sign W.fd__law_good_sign ["value"] (spM P w K 1 m__law_good_sign) :=
  fn_ok (k := k + 0) (B := b__law_good_sign) W.F__law_good_sign sc__law_good_sign rfl rfl fun cdv A outer s H E hr => by
    have hu := hu64 hr
    exact (sss_one (ss_ret (se_and (SE.o (se_isi (T := .tStr) W.z_isinstance W.z_str (by decide +kernel) (so_rd 0))) (se_one (se_cmp (op_inV2 hu) (mG _) (so_rd 0) (SE.o (se_lst (ses_cons se_str (ses_cons se_str (ses_cons se_str ses_nil))))) (by rfl))))))
theorem ok__law_good_edge (W : Facts K mg) (k : Nat) : FnOk P w K mg base CX0 (k + 3) W.f__law_good_edge W.fd__law_good_edge ["clocks", "value"] (spM P w K 2 m__law_good_edge) :=
  fn_ok (k := k + 2) (B := b__law_good_edge) W.F__law_good_edge sc__law_good_edge rfl rfl fun cdv A outer s H E hr => by
    have hu := hu64 hr
    exact (sss_cons (ss_if ((sw_or (st_not (st_val (SE.o (se_call (ok__law_made W (k + 1)) hr W.g__law_made W.F__law_made.kp W.b__law_made (sos_cons (so_rd 1) (sos_cons (SE.o se_int) sos_nil)) (consM_len (consM_len nilM_len)))))) (sw_or (st_not (st_val (SE.o (se_call (ok__law_int W (k + 1)) hr W.g__law_int W.F__law_int.kp W.b__law_int (sos_cons (SE.o (se_ix ix_idxV (mG _) (so_rd 1) (SE.o se_int) (fun _ _ => rfl))) (sos_cons (SE.o se_int) (sos_cons (SE.o se_int) sos_nil))) (consM_len (consM_len (consM_len nilM_len))))))) (sw_or1 (st_not (st_val (SE.o (se_call (ok__law_int W (k + 1)) hr W.g__law_int W.F__law_int.kp W.b__law_int (sos_cons (SE.o (se_ix ix_idxV (mG _) (so_rd 1) (SE.o se_int) (fun _ _ => rfl))) (sos_cons (SE.o se_int) (sos_cons (SE.o se_int) sos_nil))) (consM_len (consM_len (consM_len nilM_len)))))))))).pt) (sss_one (ss_ret se_bl)) sss_nil)
  (sss_cons (ss_if ((sw_or (st_not (st_val (SE.o (se_call (ok__law_good_sign W (k + 1)) hr W.g__law_good_sign W.F__law_good_sign.kp W.b__law_good_sign (sos_cons (SE.o (se_ix ix_idxV (mG _) (so_rd 1) (SE.o se_int) (fun _ _ => rfl))) sos_nil) (consM_len nilM_len))))) (sw_or1 (st_not (st_val (SE.o (se_call (ok__law_made W (k + 1)) hr W.g__law_made W.F__law_made.kp W.b__law_made (sos_cons (SE.o (se_ix ix_idxV (mG _) (so_rd 1) (SE.o se_int) (fun _ _ => rfl))) (sos_cons (so_rd 0) sos_nil)) (consM_len (consM_len nilM_len)))))))).pt) (sss_one (ss_ret se_bl)) sss_nil)
  (sss_cons (ss_if (st_cmp (op_neV2 hu) (mG _) (SE.o (se_lc (own := [("bound", 2)]) rfl sc__law_good_edge.nd (si_seq (se_ix ix_idxV (mG _) (so_rd 1) (SE.o se_int) (fun _ _ => rfl))) (blkOk_by (own := [("bound", 2)]) (N := N__law_good_edge) (sc := defScope s__law_good_edge) (by decide +kernel)) (by decide) (fun _ _ _ _ _ => (sg_name (i := 2) sc__law_good_edge.nd)) (fun _ _ _ _ _ => (sts_one (st_not (st_val (SE.o (se_call (ok__law_good_bound W (k + 0)) hr W.g__law_good_bound W.F__law_good_bound.kp W.b__law_good_bound (sos_cons (so_rd 2) sos_nil) (consM_len nilM_len))))))) (fun _ _ _ _ _ => (se_rd 2)))) (SE.o (se_lst ses_nil)) (by rfl)) (sss_one (ss_ret se_bl)) sss_nil)
  (sss_cons (ss_if (st_not (st_val (SE.o (se_isi (T := .tTuple) W.z_isinstance W.z_tuple (by decide +kernel) (SE.o (se_ix ix_idxV (mG _) (so_rd 1) (SE.o se_int) (fun _ _ => rfl))))))) (sss_one (ss_ret se_bl)) sss_nil)
  (sss_cons (ss_if (st_cmp (op_neV2 hu) (mG _) (SE.o (se_lc (own := [("one", 3)]) rfl sc__law_good_edge.nd (si_seq (se_ix ix_idxV (mG _) (so_rd 1) (SE.o se_int) (fun _ _ => rfl))) (blkOk_by (own := [("one", 3)]) (N := N__law_good_edge) (sc := defScope s__law_good_edge) (by decide +kernel)) (by decide) (fun _ _ _ _ _ => (sg_name (i := 3) sc__law_good_edge.nd)) (fun _ _ _ _ _ => (sts_one (st_not (st_val (SE.o (se_call (ok__law_int W (k + 1)) hr W.g__law_int W.F__law_int.kp W.b__law_int (sos_cons (so_rd 3) (sos_cons (SE.o se_int) (sos_cons (SE.o (se_op op_subV (mG _) (so_rd 0) (SE.o se_int))) sos_nil))) (consM_len (consM_len (consM_len nilM_len))))))))) (fun _ _ _ _ _ => (se_rd 3)))) (SE.o (se_lst ses_nil)) (by rfl)) (sss_one (ss_ret se_bl)) sss_nil)
  (sss_one (ss_ret (se_call (ok__law_rising W (k + 1)) hr W.g__law_rising W.F__law_rising.kp W.b__law_rising (sos_cons (SE.o (se_ix ix_idxV (mG _) (so_rd 1) (SE.o se_int) (fun _ _ => rfl))) sos_nil) (consM_len nilM_len)))))))))
theorem ok__law_good_machine (W : Facts K mg) (k : Nat) : FnOk P w K mg base CX0 (k + 4) W.f__law_good_machine W.fd__law_good_machine ["value"] (spM P w K 1 m__law_good_machine) :=
  fn_ok (k := k + 3) (B := b__law_good_machine) W.F__law_good_machine sc__law_good_machine rfl rfl fun cdv A outer s H E hr => by
    have hu := hu64 hr
    exact (sss_cons (ss_if ((sw_or (st_not (st_val (SE.o (se_call (ok__law_made W (k + 2)) hr W.g__law_made W.F__law_made.kp W.b__law_made (sos_cons (so_rd 0) (sos_cons (SE.o se_int) sos_nil)) (consM_len (consM_len nilM_len)))))) (sw_or (st_not (st_val (SE.o (se_call (ok__law_int W (k + 2)) hr W.g__law_int W.F__law_int.kp W.b__law_int (sos_cons (SE.o (se_ix ix_idxV (mG _) (so_rd 0) (SE.o se_int) (fun _ _ => rfl))) (sos_cons (SE.o se_int) (sos_cons (SE.o se_int) sos_nil))) (consM_len (consM_len (consM_len nilM_len))))))) (sw_or1 (st_not (st_val (SE.o (se_isi (T := .tTuple) W.z_isinstance W.z_tuple (by decide +kernel) (SE.o (se_ix ix_idxV (mG _) (so_rd 0) (SE.o se_int) (fun _ _ => rfl)))))))))).pt) (sss_one (ss_ret se_bl)) sss_nil)
  (sss_cons (ss_if (st_not (st_chain op_leV (mG _) op_leV (mG _) (SE.o se_int) (SE.o (se_callB call_lenV (mGN _) W.z_len (by decide +kernel) (sos_cons (SE.o (se_ix ix_idxV (mG _) (so_rd 0) (SE.o se_int) (fun _ _ => rfl))) sos_nil))) (SE.o se_int))) (sss_one (ss_ret se_bl)) sss_nil)
  (sss_cons (ss_if (st_cmp (op_neV2 hu) (mG _) (SE.o (se_lc (own := [("edge", 1)]) rfl sc__law_good_machine.nd (si_seq (se_ix ix_idxV (mG _) (so_rd 0) (SE.o se_int) (fun _ _ => rfl))) (blkOk_by (own := [("edge", 1)]) (N := N__law_good_machine) (sc := defScope s__law_good_machine) (by decide +kernel)) (by decide) (fun _ _ _ _ _ => (sg_name (i := 1) sc__law_good_machine.nd)) (fun _ _ _ _ _ => (sts_one (st_not (st_val (SE.o (se_call (ok__law_good_edge W (k + 0)) hr W.g__law_good_edge W.F__law_good_edge.kp W.b__law_good_edge (sos_cons (SE.o (se_ix ix_idxV (mG _) (so_rd 0) (SE.o se_int) (fun _ _ => rfl))) (sos_cons (so_rd 1) sos_nil)) (consM_len (consM_len nilM_len)))))))) (fun _ _ _ _ _ => (se_rd 1)))) (SE.o (se_lst ses_nil)) (by rfl)) (sss_one (ss_ret se_bl)) sss_nil)
  (sss_one (ss_ret (se_call (ok__law_rising W (k + 2)) hr W.g__law_rising W.F__law_rising.kp W.b__law_rising (sos_cons (SE.o (se_ix ix_idxV (mG _) (so_rd 0) (SE.o se_int) (fun _ _ => rfl))) sos_nil) (consM_len nilM_len)))))))
theorem ok__law_good_row (W : Facts K mg) (k : Nat) : FnOk P w K mg base CX0 (k + 2) W.f__law_good_row W.fd__law_good_row ["value"] (spM P w K 1 m__law_good_row) :=
  fn_ok (k := k + 1) (B := b__law_good_row) W.F__law_good_row sc__law_good_row rfl rfl fun cdv A outer s H E hr => by
    have hu := hu64 hr
    exact (sss_cons (ss_if ((sw_or (st_not (st_val (SE.o (se_isi (T := .tTuple) W.z_isinstance W.z_tuple (by decide +kernel) (so_rd 0))))) (sw_or1 (st_cmp op_gtV (mG _) (SE.o (se_callB call_lenV (mGN _) W.z_len (by decide +kernel) (sos_cons (so_rd 0) sos_nil))) (SE.o se_int) (by rfl)))).pt) (sss_one (ss_ret se_bl)) sss_nil)
  (sss_cons (ss_for PassesOwn.never rfl (fun _ _ => Nat.zero_le _) (si_seq (se_rd 0)) (sg_name (i := 1) sc__law_good_row.nd) (sss_cons (ss_if ((sw_or (st_not (st_val (SE.o (se_call (ok__law_made W (k + 0)) hr W.g__law_made W.F__law_made.kp W.b__law_made (sos_cons (so_rd 1) (sos_cons (SE.o se_int) sos_nil)) (consM_len (consM_len nilM_len)))))) (sw_or (st_not (st_val (SE.o (se_call (ok__law_good_sign W (k + 0)) hr W.g__law_good_sign W.F__law_good_sign.kp W.b__law_good_sign (sos_cons (SE.o (se_ix ix_idxV (mG _) (so_rd 1) (SE.o se_int) (fun _ _ => rfl))) sos_nil) (consM_len nilM_len))))) (sw_or1 (st_not (st_val (SE.o (se_call (ok__law_made W (k + 0)) hr W.g__law_made W.F__law_made.kp W.b__law_made (sos_cons (SE.o (se_ix ix_idxV (mG _) (so_rd 1) (SE.o se_int) (fun _ _ => rfl))) (sos_cons (SE.o se_int) sos_nil)) (consM_len (consM_len nilM_len))))))))).pt) (sss_one (ss_ret se_bl)) sss_nil)
  (sss_cons (ss_if ((sw_or (st_not (st_val (SE.o (se_call (ok__law_int W (k + 0)) hr W.g__law_int W.F__law_int.kp W.b__law_int (sos_cons (SE.o (se_ix ix_idxV (mG _) (SE.o (se_ix ix_idxV (mG _) (so_rd 1) (SE.o se_int) (fun _ _ => rfl))) (SE.o se_int) (fun _ _ => rfl))) (sos_cons (SE.o se_int) (sos_cons (SE.o (se_op op_powV (mG _) (SE.o se_int) (SE.o se_int))) sos_nil))) (consM_len (consM_len (consM_len nilM_len))))))) (sw_or1 (st_not (st_val (SE.o (se_call (ok__law_int W (k + 0)) hr W.g__law_int W.F__law_int.kp W.b__law_int (sos_cons (SE.o (se_ix ix_idxV (mG _) (SE.o (se_ix ix_idxV (mG _) (so_rd 1) (SE.o se_int) (fun _ _ => rfl))) (SE.o se_int) (fun _ _ => rfl))) (sos_cons (SE.o se_int) (sos_cons (SE.o (se_op op_powV (mG _) (SE.o se_int) (SE.o se_int))) sos_nil))) (consM_len (consM_len (consM_len nilM_len))))))))).pt) (sss_one (ss_ret se_bl)) sss_nil)
  (sss_one (ss_if (st_cmp (op_neV2 hu) (mG _) (SE.o (se_call (ok__law_low W (k + 0)) hr W.g__law_low W.F__law_low.kp W.b__law_low (sos_cons (SE.o (se_ix ix_idxV (mG _) (SE.o (se_ix ix_idxV (mG _) (so_rd 1) (SE.o se_int) (fun _ _ => rfl))) (SE.o se_int) (fun _ _ => rfl))) (sos_cons (SE.o (se_ix ix_idxV (mG _) (SE.o (se_ix ix_idxV (mG _) (so_rd 1) (SE.o se_int) (fun _ _ => rfl))) (SE.o se_int) (fun _ _ => rfl))) sos_nil)) (consM_len (consM_len nilM_len)))) (SE.o (se_ix ix_idxV (mG _) (so_rd 1) (SE.o se_int) (fun _ _ => rfl))) (by rfl)) (sss_one (ss_ret se_bl)) sss_nil)))))
  (sss_one (ss_ret se_bl))))
theorem ok__law_kind (W : Facts K mg) (k : Nat) : FnOk P w K mg base CX0 (k + 1) W.f__law_kind W.fd__law_kind ["value"] (spM P w K 1 m__law_kind) :=
  fn_ok (k := k + 0) (B := b__law_kind) W.F__law_kind sc__law_kind rfl rfl fun cdv A outer s H E hr => by
    have hu := hu64 hr
    exact (sss_cons (ss_if ((sw_or (st_cmp op_isV (mG _) (so_rd 0) (SE.o se_non) (by rfl)) (sw_or1 (st_val (SE.o (se_isi (T := .tBool) W.z_isinstance W.z_bool (by decide +kernel) (so_rd 0)))))).pt) (sss_one (ss_ret (se_ifx (st_cmp op_isV (mG _) (so_rd 0) (SE.o se_non) (by rfl)) se_int se_int))) sss_nil)
  (sss_cons (ss_if (st_val (SE.o (se_isi2 (T1 := .tList) (T2 := .tTuple) W.z_isinstance W.z_list W.z_tuple (by decide +kernel) (by decide +kernel) (so_rd 0)))) (sss_one (ss_ret (se_ifx (st_val (SE.o (se_isi (T := .tList) W.z_isinstance W.z_list (by decide +kernel) (so_rd 0)))) se_int se_int))) sss_nil)
  (sss_one (ss_ret (se_ifx (st_val (SE.o (se_isi (T := .tInt) W.z_isinstance W.z_int (by decide +kernel) (so_rd 0)))) se_int (se_ifx (st_val (SE.o (se_isi (T := .tStr) W.z_isinstance W.z_str (by decide +kernel) (so_rd 0)))) se_int se_int))))))
theorem ok__law_twins (W : Facts K mg) : ∀ n k : Nat, FnOk P w K mg base CX0 (k + n + 2) W.f__law_twins W.fd__law_twins ["one", "other"] (spM P w K 2 (m__law_twins n))
  | 0, k => fn_ok (k := k + 1) (B := failM) W.F__law_twins sc__law_twins rfl rfl fun cdv A outer s H E hr => sss_never
  | n + 1, k => fn_ok (k := k + (n + 1) + 1) (B := b__law_twins (m__law_twins n)) W.F__law_twins sc__law_twins rfl rfl fun cdv A outer s H E hr => by
    have hu := hu64 hr
    have ih : FnOk P w K mg base CX0 (k + n + 2) W.f__law_twins W.fd__law_twins ["one", "other"] (spM P w K 2 (m__law_twins n)) := ok__law_twins W n k
    exact (sss_cons (ss_if (st_cmp (op_neV2 hu) (mG _) (SE.o (se_call (ok__law_kind W (k + n + 1)) hr W.g__law_kind W.F__law_kind.kp W.b__law_kind (sos_cons (so_rd 0) sos_nil) (consM_len nilM_len))) (SE.o (se_call (ok__law_kind W (k + n + 1)) hr W.g__law_kind W.F__law_kind.kp W.b__law_kind (sos_cons (so_rd 1) sos_nil) (consM_len nilM_len))) (by rfl)) (sss_one (ss_ret se_bl)) sss_nil)
  (sss_cons (ss_if (st_cmp (op_inV2 hu) (mG _) (SE.o (se_call (ok__law_kind W (k + n + 1)) hr W.g__law_kind W.F__law_kind.kp W.b__law_kind (sos_cons (so_rd 0) sos_nil) (consM_len nilM_len))) (SE.o (se_lst (ses_cons se_int (ses_cons se_int ses_nil)))) (by rfl)) (sss_one (ss_ret (se_and (SE.o (se_cmp (op_eqV2 hu) (mG _) (SE.o (se_callB call_lenV (mGN _) W.z_len (by decide +kernel) (sos_cons (so_rd 0) sos_nil))) (SE.o (se_callB call_lenV (mGN _) W.z_len (by decide +kernel) (sos_cons (so_rd 1) sos_nil))) (by rfl))) (se_one (se_cmp (op_eqV2 hu) (mG _) (SE.o (se_lc (own := [("a", 2), ("b", 3)]) rfl sc__law_twins.nd (si_zip W.z_zip (ses_cons (se_rd 0) (ses_cons (se_rd 1) ses_nil))) (blkOk_by (own := [("a", 2), ("b", 3)]) (N := N__law_twins) (sc := defScope s__law_twins) (by decide +kernel)) (by decide) (fun _ _ _ _ _ => (sg_tup rfl (sgs_cons (sg_name (i := 2) sc__law_twins.nd) (sgs_cons (sg_name (i := 3) sc__law_twins.nd) sgs_nil)))) (fun _ _ _ _ _ => (sts_one (st_not (st_val (SE.o (se_call ih hr W.g__law_twins W.F__law_twins.kp W.b__law_twins (sos_cons (so_rd 2) (sos_cons (so_rd 3) sos_nil)) (consM_len (consM_len nilM_len)))))))) (fun _ _ _ _ _ => se_int))) (SE.o (se_lst ses_nil)) (by rfl)))))) sss_nil)
  (sss_one (ss_ret (se_cmp (op_eqV2 hu) (mG _) (so_rd 0) (so_rd 1) (by rfl))))))
theorem ok_is_row_of (W : Facts K mg) (k : Nat) : FnOk P w K mg base CX0 (k + 1) W.f_is_row_of W.fd_is_row_of ["value", "many"] (spM P w K 2 m_is_row_of) :=
  fn_ok (k := k + 0) (B := b_is_row_of) W.F_is_row_of sc_is_row_of rfl rfl fun cdv A outer s H E hr => by
    have hu := hu64 hr
    exact (sss_one (ss_ret (se_and (SE.o (se_isi (T := .tTuple) W.z_isinstance W.z_tuple (by decide +kernel) (so_rd 0))) (se_one (se_cmp (op_eqV2 hu) (mG _) (SE.o (se_callB call_lenV (mGN _) W.z_len (by decide +kernel) (sos_cons (so_rd 0) sos_nil))) (so_rd 1) (by rfl))))))
theorem ok_is_within (W : Facts K mg) (k : Nat) : FnOk P w K mg base CX0 (k + 1) W.f_is_within W.fd_is_within ["value", "low", "high"] (spM P w K 3 m_is_within) :=
  fn_ok (k := k + 0) (B := b_is_within) W.F_is_within sc_is_within rfl rfl fun cdv A outer s H E hr => by
    have hu := hu64 hr
    exact (sss_one (ss_ret (se_and (SE.o (se_isi (T := .tInt) W.z_isinstance W.z_int (by decide +kernel) (so_rd 0))) (se_and (SE.o (se_not (SE.o (se_isi (T := .tBool) W.z_isinstance W.z_bool (by decide +kernel) (so_rd 0))))) (se_one (se_chain op_leV (mG _) op_leV (mG _) (so_rd 1) (so_rd 0) (so_rd 2)))))))
theorem ok_is_sign (W : Facts K mg) (k : Nat) : FnOk P w K mg base CX0 (k + 1) W.f_is_sign W.fd_is_sign ["value"] (spM P w K 1 m_is_sign) :=
  fn_ok (k := k + 0) (B := b_is_sign) W.F_is_sign sc_is_sign rfl rfl fun cdv A outer s H E hr => by
    have hu := hu64 hr
    exact (sss_one (ss_ret (se_and (SE.o (se_isi (T := .tStr) W.z_isinstance W.z_str (by decide +kernel) (so_rd 0))) (se_one (se_cmp (op_inV2 hu) (mG _) (so_rd 0) (SE.o (se_glb W.q_SIGNS)) (by rfl))))))
theorem ok_is_bound (W : Facts K mg) (k : Nat) : FnOk P w K mg base CX0 (k + 2) W.f_is_bound W.fd_is_bound ["value"] (spM P w K 1 m_is_bound) :=
  fn_ok (k := k + 1) (B := b_is_bound) W.F_is_bound sc_is_bound rfl rfl fun cdv A outer s H E hr => by
    have hu := hu64 hr
    exact (sss_cons (ss_if ((sw_or (st_not (st_val (SE.o (se_call (ok_is_row_of W (k + 0)) hr W.g_is_row_of W.F_is_row_of.kp W.b_is_row_of (sos_cons (so_rd 0) (sos_cons (SE.o se_int) sos_nil)) (consM_len (consM_len nilM_len)))))) (sw_or (st_not (st_val (SE.o (se_call (ok_is_within W (k + 0)) hr W.g_is_within W.F_is_within.kp W.b_is_within (sos_cons (SE.o (se_ix ix_idxV (mG _) (so_rd 0) (SE.o se_int) (fun _ _ => rfl))) (sos_cons (SE.o se_int) (sos_cons (SE.o se_int) sos_nil))) (consM_len (consM_len (consM_len nilM_len))))))) (sw_or1 (st_not (st_val (SE.o (se_call (ok_is_within W (k + 0)) hr W.g_is_within W.F_is_within.kp W.b_is_within (sos_cons (SE.o (se_ix ix_idxV (mG _) (so_rd 0) (SE.o se_int) (fun _ _ => rfl))) (sos_cons (SE.o (se_ix ix_idxV (mG _) (so_rd 0) (SE.o se_int) (fun _ _ => rfl))) (sos_cons (SE.o (se_glb W.q_FAR)) sos_nil))) (consM_len (consM_len (consM_len nilM_len)))))))))).pt) (sss_one (ss_ret se_bl)) sss_nil)
  (sss_cons (ss_if ((sw_or (st_not (st_val (SE.o (se_isi (T := .tBool) W.z_isinstance W.z_bool (by decide +kernel) (SE.o (se_ix ix_idxV (mG _) (so_rd 0) (SE.o se_int) (fun _ _ => rfl))))))) (sw_or1 (st_not (st_val (SE.o (se_isi (T := .tBool) W.z_isinstance W.z_bool (by decide +kernel) (SE.o (se_ix ix_idxV (mG _) (so_rd 0) (SE.o se_int) (fun _ _ => rfl))))))))).pt) (sss_one (ss_ret se_bl)) sss_nil)
  (sss_cons (ss_if (st_cmp (op_eqV2 hu) (mG _) (SE.o (se_ix ix_idxV (mG _) (so_rd 0) (SE.o se_int) (fun _ _ => rfl))) (SE.o (se_glb W.q_FAR)) (by rfl)) (sss_one (ss_ret (se_not (SE.o (se_ix ix_idxV (mG _) (so_rd 0) (SE.o se_int) (fun _ _ => rfl)))))) sss_nil)
  (sss_one (ss_ret (se_or (SE.o (se_cmp (op_ltV hu) (mG _) (SE.o (se_ix ix_idxV (mG _) (so_rd 0) (SE.o se_int) (fun _ _ => rfl))) (SE.o (se_ix ix_idxV (mG _) (so_rd 0) (SE.o se_int) (fun _ _ => rfl))) (by rfl))) (se_one (se_and (SE.o (se_ix ix_idxV (mG _) (so_rd 0) (SE.o se_int) (fun _ _ => rfl))) (se_one (se_ix ix_idxV (mG _) (so_rd 0) (SE.o se_int) (fun _ _ => rfl)))))))))))
theorem ok_is_edge (W : Facts K mg) (k : Nat) : FnOk P w K mg base CX0 (k + 3) W.f_is_edge W.fd_is_edge ["clocks", "value"] (spM P w K 2 m_is_edge) :=
  fn_ok (k := k + 2) (B := b_is_edge) W.F_is_edge sc_is_edge rfl rfl fun cdv A outer s H E hr => by
    have hu := hu64 hr
    exact (sss_cons (ss_if ((sw_or (st_not (st_val (SE.o (se_call (ok_is_row_of W (k + 1)) hr W.g_is_row_of W.F_is_row_of.kp W.b_is_row_of (sos_cons (so_rd 1) (sos_cons (SE.o se_int) sos_nil)) (consM_len (consM_len nilM_len)))))) (sw_or (st_not (st_val (SE.o (se_call (ok_is_within W (k + 1)) hr W.g_is_within W.F_is_within.kp W.b_is_within (sos_cons (SE.o (se_ix ix_idxV (mG _) (so_rd 1) (SE.o se_int) (fun _ _ => rfl))) (sos_cons (SE.o se_int) (sos_cons (SE.o se_int) sos_nil))) (consM_len (consM_len (consM_len nilM_len))))))) (sw_or1 (st_not (st_val (SE.o (se_call (ok_is_sign W (k + 1)) hr W.g_is_sign W.F_is_sign.kp W.b_is_sign (sos_cons (SE.o (se_ix ix_idxV (mG _) (so_rd 1) (SE.o se_int) (fun _ _ => rfl))) sos_nil) (consM_len nilM_len)))))))).pt) (sss_one (ss_ret se_bl)) sss_nil)
  (sss_cons (ss_if ((sw_or (st_not (st_val (SE.o (se_call (ok_is_row_of W (k + 1)) hr W.g_is_row_of W.F_is_row_of.kp W.b_is_row_of (sos_cons (SE.o (se_ix ix_idxV (mG _) (so_rd 1) (SE.o se_int) (fun _ _ => rfl))) (sos_cons (so_rd 0) sos_nil)) (consM_len (consM_len nilM_len)))))) (sw_or1 (st_not (st_val (SE.o (se_callB (call_allV rfl) (mGN _) W.z_all (by decide +kernel) (sos_cons (SE.o (se_lc (own := [("bound", 2)]) rfl sc_is_edge.nd (si_seq (se_ix ix_idxV (mG _) (so_rd 1) (SE.o se_int) (fun _ _ => rfl))) (blkOk_by (own := [("bound", 2)]) (N := N_is_edge) (sc := defScope s_is_edge) (by decide +kernel)) (by decide) (fun _ _ _ _ _ => (sg_name (i := 2) sc_is_edge.nd)) (fun _ _ _ _ _ => sts_nil) (fun _ _ _ _ _ => (se_call (ok_is_bound W (k + 0)) hr W.g_is_bound W.F_is_bound.kp W.b_is_bound (sos_cons (so_rd 2) sos_nil) (consM_len nilM_len))))) sos_nil))))))).pt) (sss_one (ss_ret se_bl)) sss_nil)
  (sss_cons (ss_if ((sw_or (st_not (st_val (SE.o (se_isi (T := .tTuple) W.z_isinstance W.z_tuple (by decide +kernel) (SE.o (se_ix ix_idxV (mG _) (so_rd 1) (SE.o se_int) (fun _ _ => rfl))))))) (sw_or1 (st_not (st_val (SE.o (se_callB (call_allV rfl) (mGN _) W.z_all (by decide +kernel) (sos_cons (SE.o (se_lc (own := [("clock", 3)]) rfl sc_is_edge.nd (si_seq (se_ix ix_idxV (mG _) (so_rd 1) (SE.o se_int) (fun _ _ => rfl))) (blkOk_by (own := [("clock", 3)]) (N := N_is_edge) (sc := defScope s_is_edge) (by decide +kernel)) (by decide) (fun _ _ _ _ _ => (sg_name (i := 3) sc_is_edge.nd)) (fun _ _ _ _ _ => sts_nil) (fun _ _ _ _ _ => (se_call (ok_is_within W (k + 1)) hr W.g_is_within W.F_is_within.kp W.b_is_within (sos_cons (so_rd 3) (sos_cons (SE.o se_int) (sos_cons (SE.o (se_op op_subV (mG _) (so_rd 0) (SE.o se_int))) sos_nil))) (consM_len (consM_len (consM_len nilM_len))))))) sos_nil))))))).pt) (sss_one (ss_ret se_bl)) sss_nil)
  (sss_one (ss_ret (se_and (SE.o (se_cmp (op_eqV2 hu) (mG _) (SE.o (se_callTy call_listV (mGN _) W.z_list (by decide +kernel) (sos_cons (SE.o (se_ix ix_idxV (mG _) (so_rd 1) (SE.o se_int) (fun _ _ => rfl))) sos_nil))) (SE.o (se_sortset rfl hu W.z_sorted W.z_set (SE.o (se_ix ix_idxV (mG _) (so_rd 1) (SE.o se_int) (fun _ _ => rfl))))) (by rfl))) (se_one (se_call (ok_is_within W (k + 1)) hr W.g_is_within W.F_is_within.kp W.b_is_within (sos_cons (SE.o (se_ix ix_idxV (mG _) (so_rd 1) (SE.o se_int) (fun _ _ => rfl))) (sos_cons (SE.o se_int) (sos_cons (SE.o se_int) sos_nil))) (consM_len (consM_len (consM_len nilM_len)))))))))))
theorem ok_is_machine (W : Facts K mg) (k : Nat) : FnOk P w K mg base CX0 (k + 4) W.f_is_machine W.fd_is_machine ["value"] (spM P w K 1 m_is_machine) :=
  fn_ok (k := k + 3) (B := b_is_machine) W.F_is_machine sc_is_machine rfl rfl fun cdv A outer s H E hr => by
    have hu := hu64 hr
    exact (sss_cons (ss_if ((sw_or (st_not (st_val (SE.o (se_call (ok_is_row_of W (k + 2)) hr W.g_is_row_of W.F_is_row_of.kp W.b_is_row_of (sos_cons (so_rd 0) (sos_cons (SE.o se_int) sos_nil)) (consM_len (consM_len nilM_len)))))) (sw_or (st_not (st_val (SE.o (se_call (ok_is_within W (k + 2)) hr W.g_is_within W.F_is_within.kp W.b_is_within (sos_cons (SE.o (se_ix ix_idxV (mG _) (so_rd 0) (SE.o se_int) (fun _ _ => rfl))) (sos_cons (SE.o se_int) (sos_cons (SE.o se_int) sos_nil))) (consM_len (consM_len (consM_len nilM_len))))))) (sw_or1 (st_not (st_val (SE.o (se_isi (T := .tTuple) W.z_isinstance W.z_tuple (by decide +kernel) (SE.o (se_ix ix_idxV (mG _) (so_rd 0) (SE.o se_int) (fun _ _ => rfl)))))))))).pt) (sss_one (ss_ret se_bl)) sss_nil)
  (sss_cons (ss_if ((sw_or (st_not (st_chain op_leV (mG _) op_leV (mG _) (SE.o se_int) (SE.o (se_callB call_lenV (mGN _) W.z_len (by decide +kernel) (sos_cons (SE.o (se_ix ix_idxV (mG _) (so_rd 0) (SE.o se_int) (fun _ _ => rfl))) sos_nil))) (SE.o se_int))) (sw_or1 (st_not (st_val (SE.o (se_callB (call_allV rfl) (mGN _) W.z_all (by decide +kernel) (sos_cons (SE.o (se_lc (own := [("edge", 1)]) rfl sc_is_machine.nd (si_seq (se_ix ix_idxV (mG _) (so_rd 0) (SE.o se_int) (fun _ _ => rfl))) (blkOk_by (own := [("edge", 1)]) (N := N_is_machine) (sc := defScope s_is_machine) (by decide +kernel)) (by decide) (fun _ _ _ _ _ => (sg_name (i := 1) sc_is_machine.nd)) (fun _ _ _ _ _ => sts_nil) (fun _ _ _ _ _ => (se_call (ok_is_edge W (k + 0)) hr W.g_is_edge W.F_is_edge.kp W.b_is_edge (sos_cons (SE.o (se_ix ix_idxV (mG _) (so_rd 0) (SE.o se_int) (fun _ _ => rfl))) (sos_cons (so_rd 1) sos_nil)) (consM_len (consM_len nilM_len)))))) sos_nil))))))).pt) (sss_one (ss_ret se_bl)) sss_nil)
  (sss_one (ss_ret (se_cmp (op_eqV2 hu) (mG _) (SE.o (se_callTy call_listV (mGN _) W.z_list (by decide +kernel) (sos_cons (SE.o (se_ix ix_idxV (mG _) (so_rd 0) (SE.o se_int) (fun _ _ => rfl))) sos_nil))) (SE.o (se_sortset rfl hu W.z_sorted W.z_set (SE.o (se_ix ix_idxV (mG _) (so_rd 0) (SE.o se_int) (fun _ _ => rfl))))) (by rfl))))))
theorem ok_look_at_machine (W : Facts K mg) (k : Nat) : FnOk P w K mg base CX0 (k + 5) W.f_look_at_machine W.fd_look_at_machine ["machine"] (spM P w K 1 m_look_at_machine) :=
  fn_ok (k := k + 4) (B := b_look_at_machine) W.F_look_at_machine sc_look_at_machine rfl rfl fun cdv A outer s H E hr => by
    have hu := hu64 hr
    exact (sss_one (ss_if (st_not (st_val (SE.o (se_call (ok_is_machine W (k + 0)) hr W.g_is_machine W.F_is_machine.kp W.b_is_machine (sos_cons (so_rd 0) sos_nil) (consM_len nilM_len))))) (sss_one ss_never) sss_nil))
theorem ok_meet (W : Facts K mg) (k : Nat) : FnOk P w K mg base CX0 (k + 1) W.f_meet W.fd_meet ["one", "other"] (spM P w K 2 m_meet) :=
  fn_ok (k := k + 0) (B := b_meet) W.F_meet sc_meet rfl rfl fun cdv A outer s H E hr => by
    have hu := hu64 hr
    exact (sss_cons (ss_asg (fun _ _ => Nat.zero_le _) (se_callB (call_maxV rfl hu) (mGN _) W.z_max (by decide +kernel) (sos_cons (SE.o (se_tup (ses_cons (se_ix ix_idxV (mG _) (so_rd 0) (SE.o se_int) (fun _ _ => rfl)) (ses_cons (se_not (SE.o (se_ix ix_idxV (mG _) (so_rd 0) (SE.o se_int) (fun _ _ => rfl)))) ses_nil)))) (sos_cons (SE.o (se_tup (ses_cons (se_ix ix_idxV (mG _) (so_rd 1) (SE.o se_int) (fun _ _ => rfl)) (ses_cons (se_not (SE.o (se_ix ix_idxV (mG _) (so_rd 1) (SE.o se_int) (fun _ _ => rfl)))) ses_nil)))) sos_nil))) (sg_tup rfl (sgs_cons (sg_name (i := 2) sc_meet.nd) (sgs_cons (sg_name (i := 3) sc_meet.nd) sgs_nil))))
  (sss_cons (ss_asg (fun _ _ => Nat.zero_le _) (se_callB (call_minV rfl hu) (mGN _) W.z_min (by decide +kernel) (sos_cons (SE.o (se_tup (ses_cons (se_ix ix_idxV (mG _) (so_rd 0) (SE.o se_int) (fun _ _ => rfl)) (ses_cons (se_ix ix_idxV (mG _) (so_rd 0) (SE.o se_int) (fun _ _ => rfl)) ses_nil)))) (sos_cons (SE.o (se_tup (ses_cons (se_ix ix_idxV (mG _) (so_rd 1) (SE.o se_int) (fun _ _ => rfl)) (ses_cons (se_ix ix_idxV (mG _) (so_rd 1) (SE.o se_int) (fun _ _ => rfl)) ses_nil)))) sos_nil))) (sg_tup rfl (sgs_cons (sg_name (i := 4) sc_meet.nd) (sgs_cons (sg_name (i := 5) sc_meet.nd) sgs_nil))))
  (sss_one (ss_ret (se_or (SE.o (se_cmp (op_ltV hu) (mG _) (so_rd 2) (so_rd 4) (by rfl))) (se_one (se_and (SE.o (se_cmp (op_eqV2 hu) (mG _) (so_rd 2) (so_rd 4) (by rfl))) (se_and (SE.o (se_not (so_rd 3))) (se_one (se_rd 5))))))))))
theorem ok_clear_by (W : Facts K mg) (k : Nat) : FnOk P w K mg base CX0 (k + 2) W.f_clear_by W.fd_clear_by ["machine"] (spM P w K 1 m_clear_by) :=
  fn_ok (k := k + 1) (B := b_clear_by) W.F_clear_by sc_clear_by rfl rfl fun cdv A outer s H E hr => by
    have hu := hu64 hr
    exact (sss_cons (ss_set (i := 1) sc_clear_by.nd (Nat.zero_le _) (se_ix ix_idxV (mG _) (so_rd 0) (SE.o se_int) (fun _ _ => rfl)))
  (sss_cons (ss_for PassesOwn.never rfl (fun _ _ => Nat.zero_le _) (si_enum W.z_enumerate (se_rd 1)) (sg_tup rfl (sgs_cons (sg_name (i := 2) sc_clear_by.nd) (sgs_cons (sg_name (i := 3) sc_clear_by.nd) sgs_nil))) (sss_one (ss_for PassesOwn.never rfl (fun _ _ => Nat.zero_le _) (si_seq (se_slice (so_rd 1) sp_none (sp_some (so_rd 2)))) (sg_name (i := 4) sc_clear_by.nd) (sss_one (ss_if ((sw_and (st_cmp (op_eqV2 hu) (mG _) (SE.o (se_slice (so_rd 3) sp_none (sp_some (SE.o se_int)))) (SE.o (se_slice (so_rd 4) sp_none (sp_some (SE.o se_int)))) (by rfl)) (sw_and1 (st_val (SE.o (se_callB (call_allV rfl) (mGN _) W.z_all (by decide +kernel) (sos_cons (SE.o (se_lc (own := [("mine", 5), ("theirs", 6)]) rfl sc_clear_by.nd (si_zip W.z_zip (ses_cons (se_ix ix_idxV (mG _) (so_rd 3) (SE.o se_int) (fun _ _ => rfl)) (ses_cons (se_ix ix_idxV (mG _) (so_rd 4) (SE.o se_int) (fun _ _ => rfl)) ses_nil))) (blkOk_by (own := [("mine", 5), ("theirs", 6)]) (N := N_clear_by) (sc := defScope s_clear_by) (by decide +kernel)) (by decide) (fun _ _ _ _ _ => (sg_tup rfl (sgs_cons (sg_name (i := 5) sc_clear_by.nd) (sgs_cons (sg_name (i := 6) sc_clear_by.nd) sgs_nil)))) (fun _ _ _ _ _ => sts_nil) (fun _ _ _ _ _ => (se_call (ok_meet W (k + 0)) hr W.g_meet W.F_meet.kp W.b_meet (sos_cons (so_rd 5) (sos_cons (so_rd 6) sos_nil)) (consM_len (consM_len nilM_len)))))) sos_nil)))))).pt) (sss_one (ss_ret se_bl)) sss_nil)))))
  (sss_one (ss_ret se_bl))))
theorem ok_is_clear (W : Facts K mg) (k : Nat) : FnOk P w K mg base CX0 (k + 6) W.f_is_clear W.fd_is_clear ["machine"] (spM P w K 1 m_is_clear) :=
  fn_ok (k := k + 5) (B := b_is_clear) W.F_is_clear sc_is_clear rfl rfl fun cdv A outer s H E hr => by
    have hu := hu64 hr
    exact (sss_cons (ss_expr (SE.o (se_call (ok_look_at_machine W (k + 0)) hr W.g_look_at_machine W.F_look_at_machine.kp W.b_look_at_machine (sos_cons (so_rd 0) sos_nil) (consM_len nilM_len))))
  (sss_one (ss_ret (se_call (ok_clear_by W (k + 3)) hr W.g_clear_by W.F_clear_by.kp W.b_clear_by (sos_cons (so_rd 0) sos_nil) (consM_len nilM_len)))))
theorem ok__law_kept (W : Facts K mg) (k : Nat) : FnOk P w K mg base CX0 (k + 1) W.f__law_kept W.fd__law_kept ["value", "bound"] (spM P w K 2 m__law_kept) :=
  fn_ok (k := k + 0) (B := b__law_kept) W.F__law_kept sc__law_kept rfl rfl fun cdv A outer s H E hr => by
    have hu := hu64 hr
    exact (sss_cons (ss_asg (fun _ _ => Nat.zero_le _) (se_rd 0) (sg_tup rfl (sgs_cons (sg_name (i := 2) sc__law_kept.nd) (sgs_cons (sg_name (i := 3) sc__law_kept.nd) sgs_nil))))
  (sss_cons (ss_asg (fun _ _ => Nat.zero_le _) (se_rd 1) (sg_tup rfl (sgs_cons (sg_name (i := 4) sc__law_kept.nd) (sgs_cons (sg_name (i := 5) sc__law_kept.nd) (sgs_cons (sg_name (i := 6) sc__law_kept.nd) (sgs_cons (sg_name (i := 7) sc__law_kept.nd) sgs_nil))))))
  (sss_cons (ss_if ((sw_or (st_cmp (op_ltV hu) (mG _) (so_rd 2) (SE.o (se_op op_mulV (mG _) (so_rd 4) (so_rd 3))) (by rfl)) (sw_or1 ((sw_and (st_cmp (op_eqV2 hu) (mG _) (so_rd 2) (SE.o (se_op op_mulV (mG _) (so_rd 4) (so_rd 3))) (by rfl)) (sw_and1 (st_not (st_val (so_rd 5))))).pt))).pt) (sss_one (ss_ret se_bl)) sss_nil)
  (sss_one (ss_ret (se_or (SE.o (se_cmp (op_eqV2 hu) (mG _) (so_rd 6) (SE.o se_int) (by rfl))) (se_or (SE.o (se_cmp (op_ltV hu) (mG _) (so_rd 2) (SE.o (se_op op_mulV (mG _) (so_rd 6) (so_rd 3))) (by rfl))) (se_one (se_and (SE.o (se_cmp (op_eqV2 hu) (mG _) (so_rd 2) (SE.o (se_op op_mulV (mG _) (so_rd 6) (so_rd 3))) (by rfl))) (se_one (se_rd 7)))))))))))
theorem ok__law_clear (W : Facts K mg) (k : Nat) : FnOk P w K mg base CX0 (k + 2) W.f__law_clear W.fd__law_clear ["machine"] (spM P w K 1 m__law_clear) :=
  fn_ok (k := k + 1) (B := b__law_clear) W.F__law_clear sc__law_clear rfl rfl fun cdv A outer s H E hr => by
    have hu := hu64 hr
    exact (sss_cons (ss_for PassesOwn.never rfl (fun _ _ => Nat.zero_le _) (si_enum W.z_enumerate (se_ix ix_idxV (mG _) (so_rd 0) (SE.o se_int) (fun _ _ => rfl))) (sg_tup rfl (sgs_cons (sg_name (i := 1) sc__law_clear.nd) (sgs_cons (sg_name (i := 2) sc__law_clear.nd) sgs_nil))) (sss_one (ss_for PassesOwn.never rfl (fun _ _ => Nat.zero_le _) (si_seq (se_slice (SE.o (se_ix ix_idxV (mG _) (so_rd 0) (SE.o se_int) (fun _ _ => rfl))) sp_none (sp_some (so_rd 1)))) (sg_name (i := 3) sc__law_clear.nd) (sss_cons (ss_set (i := 4) sc__law_clear.nd (Nat.zero_le _) se_int)
  (sss_cons (ss_for PassesOwn.never rfl (fun _ _ => Nat.zero_le _) (si_zip W.z_zip (ses_cons (se_ix ix_idxV (mG _) (so_rd 2) (SE.o se_int) (fun _ _ => rfl)) (ses_cons (se_ix ix_idxV (mG _) (so_rd 3) (SE.o se_int) (fun _ _ => rfl)) ses_nil))) (sg_tup rfl (sgs_cons (sg_name (i := 5) sc__law_clear.nd) (sgs_cons (sg_name (i := 6) sc__law_clear.nd) sgs_nil))) (sss_cons (ss_setLc (i := 7) (own := [("half", 9)]) rfl sc__law_clear.nd (Nat.zero_le _) (si_rng1 W.z_range (sos_cons (SE.o se_int) sos_nil)) (blkOk_by (own := [("half", 9)]) (N := N__law_clear) (sc := defScope s__law_clear) (by decide +kernel)) (by decide) (fun _ _ _ _ _ => (sg_name (i := 9) sc__law_clear.nd)) (fun _ _ _ _ _ => sts_nil) (fun _ _ _ _ _ => (se_call (ok__law_low W (k + 0)) hr W.g__law_low W.F__law_low.kp W.b__law_low (sos_cons (so_rd 9) (sos_cons (SE.o se_int) sos_nil)) (consM_len (consM_len nilM_len)))))
  (sss_cons (ss_setLc (i := 8) (own := [("half", 9)]) rfl sc__law_clear.nd (Nat.zero_le _) (si_seq (se_rd 7)) (blkOk_by (own := [("half", 9)]) (N := N__law_clear) (sc := defScope s__law_clear) (by decide +kernel)) (by decide) (fun _ _ _ _ _ => (sg_name (i := 9) sc__law_clear.nd)) (fun _ _ _ _ _ => (sts_one (st_val (SE.o (se_call (ok__law_kept W (k + 0)) hr W.g__law_kept W.F__law_kept.kp W.b__law_kept (sos_cons (so_rd 9) (sos_cons (so_rd 5) sos_nil)) (consM_len (consM_len nilM_len))))))) (fun _ _ _ _ _ => (se_rd 9)))
  (sss_one (ss_set (i := 4) sc__law_clear.nd (Nat.zero_le _) (se_op op_addV (mG _) (so_rd 4) (SE.o (se_callTy call_intV (mGN _) W.z_int (by decide +kernel) (sos_cons (SE.o (se_cmp (op_neV2 hu) (mG _) (SE.o (se_lc (own := [("half", 9)]) rfl sc__law_clear.nd (si_seq (se_rd 8)) (blkOk_by (own := [("half", 9)]) (N := N__law_clear) (sc := defScope s__law_clear) (by decide +kernel)) (by decide) (fun _ _ _ _ _ => (sg_name (i := 9) sc__law_clear.nd)) (fun _ _ _ _ _ => (sts_one (st_val (SE.o (se_call (ok__law_kept W (k + 0)) hr W.g__law_kept W.F__law_kept.kp W.b__law_kept (sos_cons (so_rd 9) (sos_cons (so_rd 6) sos_nil)) (consM_len (consM_len nilM_len))))))) (fun _ _ _ _ _ => (se_rd 9)))) (SE.o (se_lst ses_nil)) (by rfl))) sos_nil)))))))))
  (sss_one (ss_if ((sw_and (st_cmp (op_eqV2 hu) (mG _) (SE.o (se_slice (so_rd 2) sp_none (sp_some (SE.o se_int)))) (SE.o (se_slice (so_rd 3) sp_none (sp_some (SE.o se_int)))) (by rfl)) (sw_and1 (st_cmp (op_eqV2 hu) (mG _) (so_rd 4) (SE.o (se_ix ix_idxV (mG _) (so_rd 0) (SE.o se_int) (fun _ _ => rfl))) (by rfl)))).pt) (sss_one (ss_ret se_bl)) sss_nil)))))))
  (sss_one (ss_ret se_bl)))
theorem ok_common (W : Facts K mg) (k : Nat) : FnOk P w K mg base CX0 (k + 1) W.f_common W.fd_common ["one", "other"] (spM P w K 2 m_common) :=
  fn_ok (k := k + 0) (B := b_common) W.F_common sc_common rfl rfl fun cdv A outer s H E hr => by
    have hu := hu64 hr
    exact (sss_cons (ss_while PassesOwn.never (st_cmp (op_neV2 hu) (mG _) (so_rd 1) (SE.o se_int) (by rfl)) (sss_one (ss_par (i := 0) (j := 1) rfl sc_common.nd (by decide) (Nat.zero_le _) (Nat.zero_le _) (ses_cons (se_rd 1) (ses_cons (se_op op_modV (mG _) (so_rd 0) (so_rd 1)) ses_nil)))))
  (sss_one (ss_ret (se_mv 0))))
theorem ok_is_fraction (W : Facts K mg) (k : Nat) : FnOk P w K mg base CX0 (k + 2) W.f_is_fraction W.fd_is_fraction ["value"] (spM P w K 1 m_is_fraction) :=
  fn_ok (k := k + 1) (B := b_is_fraction) W.F_is_fraction sc_is_fraction rfl rfl fun cdv A outer s H E hr => by
    have hu := hu64 hr
    exact (sss_cons (ss_if ((sw_or (st_not (st_val (SE.o (se_call (ok_is_row_of W (k + 0)) hr W.g_is_row_of W.F_is_row_of.kp W.b_is_row_of (sos_cons (so_rd 0) (sos_cons (SE.o se_int) sos_nil)) (consM_len (consM_len nilM_len)))))) (sw_or1 (st_not (st_val (SE.o (se_callB (call_allV rfl) (mGN _) W.z_all (by decide +kernel) (sos_cons (SE.o (se_lc (own := [("one", 1)]) rfl sc_is_fraction.nd (si_seq (se_rd 0)) (blkOk_by (own := [("one", 1)]) (N := N_is_fraction) (sc := defScope s_is_fraction) (by decide +kernel)) (by decide) (fun _ _ _ _ _ => (sg_name (i := 1) sc_is_fraction.nd)) (fun _ _ _ _ _ => sts_nil) (fun _ _ _ _ _ => (se_and (SE.o (se_isi (T := .tInt) W.z_isinstance W.z_int (by decide +kernel) (so_rd 1))) (se_one (se_not (SE.o (se_isi (T := .tBool) W.z_isinstance W.z_bool (by decide +kernel) (so_rd 1))))))))) sos_nil))))))).pt) (sss_one (ss_ret se_bl)) sss_nil)
  (sss_one (ss_ret (se_and (SE.o (se_cmp op_geV (mG _) (SE.o (se_ix ix_idxV (mG _) (so_rd 0) (SE.o se_int) (fun _ _ => rfl))) (SE.o se_int) (by rfl))) (se_and (SE.o (se_cmp op_geV (mG _) (SE.o (se_ix ix_idxV (mG _) (so_rd 0) (SE.o se_int) (fun _ _ => rfl))) (SE.o se_int) (by rfl))) (se_one (se_cmp (op_eqV2 hu) (mG _) (SE.o (se_call (ok_common W (k + 0)) hr W.g_common W.F_common.kp W.b_common (sos_cons (SE.o (se_ix ix_idxV (mG _) (so_rd 0) (SE.o se_int) (fun _ _ => rfl))) (sos_cons (SE.o (se_ix ix_idxV (mG _) (so_rd 0) (SE.o se_int) (fun _ _ => rfl))) sos_nil)) (consM_len (consM_len nilM_len)))) (SE.o se_int) (by rfl))))))))
theorem ok_is_beat (W : Facts K mg) (k : Nat) : FnOk P w K mg base CX0 (k + 3) W.f_is_beat W.fd_is_beat ["value"] (spM P w K 1 m_is_beat) :=
  fn_ok (k := k + 2) (B := b_is_beat) W.F_is_beat sc_is_beat rfl rfl fun cdv A outer s H E hr => by
    have hu := hu64 hr
    exact (sss_one (ss_ret (se_and (SE.o (se_call (ok_is_row_of W (k + 1)) hr W.g_is_row_of W.F_is_row_of.kp W.b_is_row_of (sos_cons (so_rd 0) (sos_cons (SE.o se_int) sos_nil)) (consM_len (consM_len nilM_len)))) (se_and (SE.o (se_call (ok_is_fraction W (k + 0)) hr W.g_is_fraction W.F_is_fraction.kp W.b_is_fraction (sos_cons (SE.o (se_ix ix_idxV (mG _) (so_rd 0) (SE.o se_int) (fun _ _ => rfl))) sos_nil) (consM_len nilM_len))) (se_one (se_call (ok_is_sign W (k + 1)) hr W.g_is_sign W.F_is_sign.kp W.b_is_sign (sos_cons (SE.o (se_ix ix_idxV (mG _) (so_rd 0) (SE.o se_int) (fun _ _ => rfl))) sos_nil) (consM_len nilM_len)))))))
theorem ok_is_row (W : Facts K mg) (k : Nat) : FnOk P w K mg base CX0 (k + 4) W.f_is_row W.fd_is_row ["value"] (spM P w K 1 m_is_row) :=
  fn_ok (k := k + 3) (B := b_is_row) W.F_is_row sc_is_row rfl rfl fun cdv A outer s H E hr => by
    have hu := hu64 hr
    exact (sss_one (ss_ret (se_and (SE.o (se_isi (T := .tTuple) W.z_isinstance W.z_tuple (by decide +kernel) (so_rd 0))) (se_and (SE.o (se_cmp op_leV (mG _) (SE.o (se_callB call_lenV (mGN _) W.z_len (by decide +kernel) (sos_cons (so_rd 0) sos_nil))) (SE.o (se_glb W.q_MOST_BEATS)) (by rfl))) (se_one (se_callB (call_allV rfl) (mGN _) W.z_all (by decide +kernel) (sos_cons (SE.o (se_lc (own := [("beat", 1)]) rfl sc_is_row.nd (si_seq (se_rd 0)) (blkOk_by (own := [("beat", 1)]) (N := N_is_row) (sc := defScope s_is_row) (by decide +kernel)) (by decide) (fun _ _ _ _ _ => (sg_name (i := 1) sc_is_row.nd)) (fun _ _ _ _ _ => sts_nil) (fun _ _ _ _ _ => (se_call (ok_is_beat W (k + 0)) hr W.g_is_beat W.F_is_beat.kp W.b_is_beat (sos_cons (so_rd 1) sos_nil) (consM_len nilM_len))))) sos_nil)))))))
theorem ok_law (W : Facts K mg) (k : Nat) : FnOk P w K mg base CX0 (k + 15) W.f_law W.fd_law ["script"] (spM P w K 1 m_law) :=
  fn_ok (k := k + 14) (B := b_law) W.F_law sc_law rfl rfl fun cdv A outer s H E hr => by
    have hu := hu64 hr
    exact (sss_cons (ss_for PassesOwn.never rfl (fun _ _ => Nat.zero_le _) (si_rng1 W.z_range (sos_cons (SE.o (se_op op_addV (mG _) (SE.o (se_callB (call_min2V rfl) (mGN _) W.z_min (by decide +kernel) (sos_cons (SE.o (se_callB call_lenV (mGN _) W.z_len (by decide +kernel) (sos_cons (so_rd 0) sos_nil))) (sos_cons (SE.o se_int) sos_nil)))) (SE.o se_int))) sos_nil)) (sg_name (i := 1) sc_law.nd) (sss_cons (ss_set (i := 2) sc_law.nd (Nat.zero_le _) (se_call (ok__law_spring W (k + 13)) hr W.g__law_spring W.F__law_spring.kp W.b__law_spring (sos_cons (so_rd 0) (sos_cons (so_rd 1) sos_nil)) (consM_len (consM_len nilM_len))))
  (sss_cons (ss_asg (fun _ _ => Nat.zero_le _) (se_tup (ses_cons (se_callIO (i := 2) (ok__law_machine W (k + 10)) hr W.g__law_machine W.F__law_machine.kp W.b__law_machine (ses_cons se_int ses_nil) (fun _ _ h => congrArg (· + 1) ((consM_len nilM_len) _ _ h))) (ses_cons (se_callIO (i := 2) (ok__law_bound W (k + 12)) hr W.g__law_bound W.F__law_bound.kp W.b__law_bound ses_nil (fun _ _ h => congrArg (· + 1) (nilM_len _ _ h))) (SEs.weak ses_nil)))) (sg_tup rfl (sgs_cons (sg_name (i := 3) sc_law.nd) (sgs_cons (sg_name (i := 4) sc_law.nd) sgs_nil))))
  (sss_cons (ss_setLc (i := 5) (own := [("turn", 9)]) rfl sc_law.nd (Nat.zero_le _) (si_rng1 W.z_range (sos_cons (SE.o (se_callIO (i := 2) (ok__law_pick W (k + 13)) hr W.g__law_pick W.F__law_pick.kp W.b__law_pick (ses_cons se_int ses_nil) (fun _ _ h => congrArg (· + 1) ((consM_len nilM_len) _ _ h)))) sos_nil)) (blkOk_by (own := [("turn", 9)]) (N := N_law) (sc := defScope s_law) (by decide +kernel)) (by decide) (fun _ _ _ _ _ => (sg_name (i := 9) sc_law.nd)) (fun _ _ _ _ _ => ((STs.weak sts_nil))) (fun _ _ _ _ _ => (se_call (ok__law_low W (k + 13)) hr W.g__law_low W.F__law_low.kp W.b__law_low (sos_cons' (se_callIO (i := 2) (ok__law_pick W (k + 13)) hr W.g__law_pick W.F__law_pick.kp W.b__law_pick (ses_cons se_int ses_nil) (fun _ _ h => congrArg (· + 1) ((consM_len nilM_len) _ _ h))) (sos_cons (SE.o (se_op' op_addV (mG _) ((SE.weak se_int)) (SE.o (se_callIO (i := 2) (ok__law_pick W (k + 13)) hr W.g__law_pick W.F__law_pick.kp W.b__law_pick (ses_cons se_int ses_nil) (fun _ _ h => congrArg (· + 1) ((consM_len nilM_len) _ _ h)))))) sos_nil)) (consM_len (consM_len nilM_len)))))
  (sss_cons (ss_set (i := 6) sc_law.nd (Nat.zero_le _) (se_callTy call_tupleV (mGN _) W.z_tuple (by decide +kernel) (sos_cons (SE.o (se_lc (own := [("pause", 13)]) rfl sc_law.nd ((SI.weak (si_seq (se_rd 5)))) (blkOk_by (own := [("pause", 13)]) (N := N_law) (sc := defScope s_law) (by decide +kernel)) (by decide) (fun _ _ _ _ _ => (sg_name (i := 13) sc_law.nd)) (fun _ _ _ _ _ => ((STs.weak sts_nil))) (fun _ _ _ _ _ => (se_tup (ses_cons ((SE.weak (se_rd 13))) (ses_cons (se_ix' ix_idxV (mG _) ((SE.weak (se_lst (ses_cons se_str (ses_cons se_str (ses_cons se_str ses_nil)))))) (SE.o (se_callIO (i := 2) (ok__law_pick W (k + 13)) hr W.g__law_pick W.F__law_pick.kp W.b__law_pick (ses_cons se_int ses_nil) (fun _ _ h => congrArg (· + 1) ((consM_len nilM_len) _ _ h)))) (fun _ _ => rfl)) (SEs.weak ses_nil))))))) sos_nil)))
  (sss_cons (ss_set (i := 7) sc_law.nd (Nat.zero_le _) (se_lst (ses_cons (se_rd 3) (ses_cons (se_frz (se_callTy call_listV (mGN _) W.z_list (by decide +kernel) (sos_cons (so_rd 3) sos_nil))) (ses_cons (se_rd 4) (ses_cons (se_rd 6) (ses_cons (se_op op_mulV (mG _) (so_rd 6) (SE.o se_int)) (ses_cons (se_slice (SE.o (se_op op_mulV (mG _) (so_rd 6) (SE.o se_int))) sp_none (sp_some (SE.o se_int))) (ses_cons (se_tup (ses_cons (se_ix ix_idxV (mG _) (so_rd 3) (SE.o se_int) (fun _ _ => rfl)) (ses_cons (se_rev (SE.o (se_ix ix_idxV (mG _) (so_rd 3) (SE.o se_int) (fun _ _ => rfl)))) ses_nil))) ses_nil)))))))))
  (sss_cons (ss_set (i := 7) sc_law.nd (Nat.zero_le _) (se_op' op_addV (mG _) ((SE.weak (se_rd 7))) (SE.o (se_lc (own := [("turn", 9)]) rfl sc_law.nd ((SI.weak (si_rng1 W.z_range (sos_cons (SE.o se_int) sos_nil)))) (blkOk_by (own := [("turn", 9)]) (N := N_law) (sc := defScope s_law) (by decide +kernel)) (by decide) (fun _ _ _ _ _ => (sg_name (i := 9) sc_law.nd)) (fun _ _ _ _ _ => ((STs.weak sts_nil))) (fun _ _ _ _ _ => (se_callIO (i := 2) (ok__law_bent W 8 (k + 4)) hr W.g__law_bent W.F__law_bent.kp W.b__law_bent (ses_cons (se_rd 3) ses_nil) (fun _ _ h => congrArg (· + 1) ((consM_len nilM_len) _ _ h))))))))
  (sss_cons (ss_set (i := 7) sc_law.nd (Nat.zero_le _) (se_op' op_addV (mG _) ((SE.weak (se_rd 7))) (SE.o (se_lc (own := [("turn", 9)]) rfl sc_law.nd ((SI.weak (si_rng1 W.z_range (sos_cons (SE.o se_int) sos_nil)))) (blkOk_by (own := [("turn", 9)]) (N := N_law) (sc := defScope s_law) (by decide +kernel)) (by decide) (fun _ _ _ _ _ => (sg_name (i := 9) sc_law.nd)) (fun _ _ _ _ _ => ((STs.weak sts_nil))) (fun _ _ _ _ _ => (se_callIO (i := 2) (ok__law_bent W 8 (k + 4)) hr W.g__law_bent W.F__law_bent.kp W.b__law_bent (ses_cons (se_rd 4) ses_nil) (fun _ _ h => congrArg (· + 1) ((consM_len nilM_len) _ _ h))))))))
  (sss_cons (ss_set (i := 7) sc_law.nd (Nat.zero_le _) (se_op' op_addV (mG _) ((SE.weak (se_rd 7))) (SE.o (se_lc (own := [("turn", 9)]) rfl sc_law.nd ((SI.weak (si_rng1 W.z_range (sos_cons (SE.o se_int) sos_nil)))) (blkOk_by (own := [("turn", 9)]) (N := N_law) (sc := defScope s_law) (by decide +kernel)) (by decide) (fun _ _ _ _ _ => (sg_name (i := 9) sc_law.nd)) (fun _ _ _ _ _ => ((STs.weak sts_nil))) (fun _ _ _ _ _ => (se_callIO (i := 2) (ok__law_bent W 8 (k + 4)) hr W.g__law_bent W.F__law_bent.kp W.b__law_bent (ses_cons (se_rd 6) ses_nil) (fun _ _ h => congrArg (· + 1) ((consM_len nilM_len) _ _ h))))))))
  (sss_cons (ss_for PassesOwn.never rfl (fun _ _ => Nat.zero_le _) (si_seq (se_rd 7)) (sg_name (i := 8) sc_law.nd) (sss_cons (ss_set (i := 10) sc_law.nd (Nat.zero_le _) (se_lst (ses_cons (se_call (ok__law_good_bound W (k + 12)) hr W.g__law_good_bound W.F__law_good_bound.kp W.b__law_good_bound (sos_cons (so_rd 8) sos_nil) (consM_len nilM_len)) (ses_cons (se_call (ok__law_good_machine W (k + 10)) hr W.g__law_good_machine W.F__law_good_machine.kp W.b__law_good_machine (sos_cons (so_rd 8) sos_nil) (consM_len nilM_len)) (ses_cons (se_call (ok__law_good_row W (k + 12)) hr W.g__law_good_row W.F__law_good_row.kp W.b__law_good_row (sos_cons (so_rd 8) sos_nil) (consM_len nilM_len)) ses_nil)))))
  (sss_one (ss_if (st_not (st_val (SE.o (se_call (ok__law_twins W 12 (k + 0)) hr W.g__law_twins W.F__law_twins.kp W.b__law_twins (sos_cons (SE.o (se_lst (ses_cons (se_call (ok_is_bound W (k + 12)) hr W.g_is_bound W.F_is_bound.kp W.b_is_bound (sos_cons (so_rd 8) sos_nil) (consM_len nilM_len)) (ses_cons (se_call (ok_is_machine W (k + 10)) hr W.g_is_machine W.F_is_machine.kp W.b_is_machine (sos_cons (so_rd 8) sos_nil) (consM_len nilM_len)) (ses_cons (se_call (ok_is_row W (k + 10)) hr W.g_is_row W.F_is_row.kp W.b_is_row (sos_cons (so_rd 8) sos_nil) (consM_len nilM_len)) ses_nil))))) (sos_cons (so_rd 10) sos_nil)) (consM_len (consM_len nilM_len)))))) (sss_one (ss_ret se_bl)) sss_nil))))
  (sss_cons (ss_if ((sw_or (st_not (st_val (SE.o (se_call (ok__law_good_machine W (k + 10)) hr W.g__law_good_machine W.F__law_good_machine.kp W.b__law_good_machine (sos_cons (so_rd 3) sos_nil) (consM_len nilM_len))))) (sw_or1 (st_not (st_val (SE.o (se_call (ok__law_twins W 12 (k + 0)) hr W.g__law_twins W.F__law_twins.kp W.b__law_twins (sos_cons (SE.o (se_call (ok_is_clear W (k + 8)) hr W.g_is_clear W.F_is_clear.kp W.b_is_clear (sos_cons (so_rd 3) sos_nil) (consM_len nilM_len))) (sos_cons (SE.o (se_call (ok__law_clear W (k + 12)) hr W.g__law_clear W.F__law_clear.kp W.b__law_clear (sos_cons (so_rd 3) sos_nil) (consM_len nilM_len))) sos_nil)) (consM_len (consM_len nilM_len)))))))).pt) (sss_one (ss_ret se_bl)) sss_nil)
  (sss_one (ss_for PassesOwn.never rfl (fun _ _ => Nat.zero_le _) (si_rng1 W.z_range (sos_cons (SE.o se_int) sos_nil)) (sg_name (i := 9) sc_law.nd) (sss_cons (ss_par (i := 8) (j := 11) rfl sc_law.nd (by decide) (Nat.zero_le _) (Nat.zero_le _) (ses_cons (se_callIO (i := 2) (ok__law_edge W (k + 11)) hr W.g__law_edge W.F__law_edge.kp W.b__law_edge (ses_cons se_int ses_nil) (fun _ _ h => congrArg (· + 1) ((consM_len nilM_len) _ _ h))) (ses_cons (se_callIO (i := 2) (ok__law_edge W (k + 11)) hr W.g__law_edge W.F__law_edge.kp W.b__law_edge (ses_cons se_int ses_nil) (fun _ _ h => congrArg (· + 1) ((consM_len nilM_len) _ _ h))) (SEs.weak ses_nil))))
  (sss_cons (ss_set (i := 12) sc_law.nd (Nat.zero_le _) (se_callTy call_tupleV (mGN _) W.z_tuple (by decide +kernel) (sos_cons (SE.o (se_sortset rfl hu W.z_sorted W.z_set (SE.o (se_lst (ses_cons (se_op op_addV (mG _) (SE.o (se_slice (so_rd 8) sp_none (sp_some (SE.o se_int)))) (SE.o (se_slice (so_rd 8) (sp_some (SE.o se_int)) sp_none))) (ses_cons (se_op op_addV (mG _) (SE.o (se_slice (so_rd 8) sp_none (sp_some (SE.o se_int)))) (SE.o (se_slice (so_rd 11) (sp_some (SE.o se_int)) sp_none))) ses_nil)))))) sos_nil)))
  (sss_one (ss_if (st_not (st_val (SE.o (se_call (ok__law_twins W 12 (k + 0)) hr W.g__law_twins W.F__law_twins.kp W.b__law_twins (sos_cons (SE.o (se_call (ok_is_clear W (k + 8)) hr W.g_is_clear W.F_is_clear.kp W.b_is_clear (sos_cons (SE.o (se_tup (ses_cons se_int (ses_cons (se_rd 12) ses_nil)))) sos_nil) (consM_len nilM_len))) (sos_cons (SE.o (se_call (ok__law_clear W (k + 12)) hr W.g__law_clear W.F__law_clear.kp W.b__law_clear (sos_cons (SE.o (se_tup (ses_cons se_int (ses_cons (se_rd 12) ses_nil)))) sos_nil) (consM_len nilM_len))) sos_nil)) (consM_len (consM_len nilM_len)))))) (sss_one (ss_ret se_bl)) sss_nil)))))))))))))))))
  (sss_one (ss_ret se_bl)))
end
end K01
end

section
set_option maxHeartbeats 4000000
/-! what the law draws -/
namespace K01
open MV PySem
/-- where numbers are drawn from -/
def Spr (s : Val) : Prop := ∃ a b : Int, s = .lst true [.int a, .int b] ∧ 0 ≤ a ∧ 0 ≤ b
theorem log_small {m : Int} (h : 0 < m) (h2 : m ≤ 1000) : m.natAbs.log2 < 9000 := by
  have h3 : m.natAbs ≠ 0 := by omega
  have h4 : m.natAbs < 2 ^ 10 := by omega
  have := (Nat.log2_lt h3).mpr h4
  omega
theorem pick_spec {s : Val} (hs : Spr s) {m : Int} (hm : 0 < m) (hm2 : m ≤ 1000) : ∃ d s', m__law_pick [s, .int m] = some (.int d, s') ∧ 0 ≤ d ∧ d < m ∧ Spr s' := by
  obtain ⟨a, b, rfl, ha, hb⟩ := hs
  have hl := log_small hm hm2
  by_cases h : 0 < a
  · refine ⟨a % m, .lst true [.int (a / m), .int b], ?_, Int.emod_nonneg _ (by omega), Int.emod_lt_of_pos _ hm, _, _, rfl, Int.ediv_nonneg ha (by omega), hb⟩
    simp [m__law_pick, b__law_pick, h, hm, hl, ap_fnM, ap_fnIO, ap_seqM, ap_ifM, ap_setM, ap_retM, ap_dropM, ap_brkM, ap_contM, ap_failM, ap_nextM, ap_tst, ap_c1, ap_c2, ap_cN, ap_consM, ap_nilM, ap_rdO, ap_rdE, ap_mvE, ap_cC, ap_setItemM, ap_parM, ap_parM3, ap_ifV, ap_callM, ap_callIO, ap_andM, ap_orM, ap_notM, ap_andV, ap_orV, ap_notV, ap_chM, ap_asgM, ap_consT, ap_nilT, ap_nameT, ap_tupT, ap_frE, ap_cSl, ap_partS, ap_partN, ap_rng1I, ap_rng2I, ap_seqI, ap_enumI, ap_zipI, ap_lstI, ap_tupI, ap_yesM, idxV, pureO, addV, subV, mulV, fdivV, modV, gtV, ltV, leV, geV, MV.eqV, neV, intV, lenV, isV, Val.bool?, Val.int?, Val.pure, pureL, mkTup, mkLst, isiV, isiVs, anyTy, Val.isT, Val.frz, frzL, Val.own, ownL, powV, negV, mulOk, sizeLine_eq, L2.ixN, L2.atI]
  · have hb1 : 0 ≤ (b * 393555900739 + 8191) % 999999999989 := Int.emod_nonneg _ (by omega)
    refine ⟨((b * 393555900739 + 8191) % 999999999989 / 4093) % m, .lst true [.int a, .int ((b * 393555900739 + 8191) % 999999999989)], ?_, Int.emod_nonneg _ (by omega), Int.emod_lt_of_pos _ hm, _, _, rfl, ha, hb1⟩
    have l2 : Nat.log2 4093 < 9000 := by decide
    simp [m__law_pick, b__law_pick, h, hm, hl, l2, ap_fnM, ap_fnIO, ap_seqM, ap_ifM, ap_setM, ap_retM, ap_dropM, ap_brkM, ap_contM, ap_failM, ap_nextM, ap_tst, ap_c1, ap_c2, ap_cN, ap_consM, ap_nilM, ap_rdO, ap_rdE, ap_mvE, ap_cC, ap_setItemM, ap_parM, ap_parM3, ap_ifV, ap_callM, ap_callIO, ap_andM, ap_orM, ap_notM, ap_andV, ap_orV, ap_notV, ap_chM, ap_asgM, ap_consT, ap_nilT, ap_nameT, ap_tupT, ap_frE, ap_cSl, ap_partS, ap_partN, ap_rng1I, ap_rng2I, ap_seqI, ap_enumI, ap_zipI, ap_lstI, ap_tupI, ap_yesM, idxV, pureO, addV, subV, mulV, fdivV, modV, gtV, ltV, leV, geV, MV.eqV, neV, intV, lenV, isV, Val.bool?, Val.int?, Val.pure, pureL, mkTup, mkLst, isiV, isiVs, anyTy, Val.isT, Val.frz, frzL, Val.own, ownL, powV, negV, mulOk, sizeLine_eq, L2.ixN, L2.atI]
theorem spring_spec (ns : List Int) {at_ : Int} (h : 0 ≤ at_) : ∃ s, m__law_spring [.scr ns, .int at_] = some s ∧ Spr s := by
  have key : ∀ c : Int, 0 ≤ c → Spr (.lst true [.int (if 10 ^ 18 ≤ c then c else 0), .int ((c * 863 + 524287 * at_ + 1) % 999999999989)]) := fun c hc =>
    ⟨_, _, rfl, by split <;> omega, Int.emod_nonneg _ (by omega)⟩
  by_cases g : at_ < ns.length
  · have hi : at_.toNat < ns.length := by omega
    obtain ⟨z, hz⟩ : ∃ z, z = (if ns[at_.toNat] < 0 then - ns[at_.toNat] else ns[at_.toNat]) := ⟨_, rfl⟩
    have hz0 : 0 ≤ z := by rw [hz]; split <;> omega
    refine ⟨_, ?_, key z hz0⟩
    by_cases g2 : (1000000000000000000 : Int) ≤ z
    · have g3 : (10 : Int) ^ 18 ≤ z := g2
      simp [m__law_spring, b__law_spring, h, g, hi, absV2, ← hz, g2, ap_fnM, ap_fnIO, ap_seqM, ap_ifM, ap_setM, ap_retM, ap_dropM, ap_brkM, ap_contM, ap_failM, ap_nextM, ap_tst, ap_c1, ap_c2, ap_cN, ap_consM, ap_nilM, ap_rdO, ap_rdE, ap_mvE, ap_cC, ap_setItemM, ap_parM, ap_parM3, ap_ifV, ap_callM, ap_callIO, ap_andM, ap_orM, ap_notM, ap_andV, ap_orV, ap_notV, ap_chM, ap_asgM, ap_consT, ap_nilT, ap_nameT, ap_tupT, ap_frE, ap_cSl, ap_partS, ap_partN, ap_rng1I, ap_rng2I, ap_seqI, ap_enumI, ap_zipI, ap_lstI, ap_tupI, ap_yesM, idxV, pureO, addV, subV, mulV, fdivV, modV, gtV, ltV, leV, geV, MV.eqV, neV, intV, lenV, isV, Val.bool?, Val.int?, Val.pure, pureL, mkTup, mkLst, isiV, isiVs, anyTy, Val.isT, Val.frz, frzL, Val.own, ownL, powV, negV, mulOk, sizeLine_eq, L2.ixN, L2.atI]
    · have g3 : ¬ (10 : Int) ^ 18 ≤ z := g2
      simp [m__law_spring, b__law_spring, h, g, hi, absV2, ← hz, g2, ap_fnM, ap_fnIO, ap_seqM, ap_ifM, ap_setM, ap_retM, ap_dropM, ap_brkM, ap_contM, ap_failM, ap_nextM, ap_tst, ap_c1, ap_c2, ap_cN, ap_consM, ap_nilM, ap_rdO, ap_rdE, ap_mvE, ap_cC, ap_setItemM, ap_parM, ap_parM3, ap_ifV, ap_callM, ap_callIO, ap_andM, ap_orM, ap_notM, ap_andV, ap_orV, ap_notV, ap_chM, ap_asgM, ap_consT, ap_nilT, ap_nameT, ap_tupT, ap_frE, ap_cSl, ap_partS, ap_partN, ap_rng1I, ap_rng2I, ap_seqI, ap_enumI, ap_zipI, ap_lstI, ap_tupI, ap_yesM, idxV, pureO, addV, subV, mulV, fdivV, modV, gtV, ltV, leV, geV, MV.eqV, neV, intV, lenV, isV, Val.bool?, Val.int?, Val.pure, pureL, mkTup, mkLst, isiV, isiVs, anyTy, Val.isT, Val.frz, frzL, Val.own, ownL, powV, negV, mulOk, sizeLine_eq, L2.ixN, L2.atI]
  · refine ⟨_, ?_, key 7 (by decide)⟩
    simp [m__law_spring, b__law_spring, h, g, ap_fnM, ap_fnIO, ap_seqM, ap_ifM, ap_setM, ap_retM, ap_dropM, ap_brkM, ap_contM, ap_failM, ap_nextM, ap_tst, ap_c1, ap_c2, ap_cN, ap_consM, ap_nilM, ap_rdO, ap_rdE, ap_mvE, ap_cC, ap_setItemM, ap_parM, ap_parM3, ap_ifV, ap_callM, ap_callIO, ap_andM, ap_orM, ap_notM, ap_andV, ap_orV, ap_notV, ap_chM, ap_asgM, ap_consT, ap_nilT, ap_nameT, ap_tupT, ap_frE, ap_cSl, ap_partS, ap_partN, ap_rng1I, ap_rng2I, ap_seqI, ap_enumI, ap_zipI, ap_lstI, ap_tupI, ap_yesM, idxV, pureO, addV, subV, mulV, fdivV, modV, gtV, ltV, leV, geV, MV.eqV, neV, intV, lenV, isV, Val.bool?, Val.int?, Val.pure, pureL, mkTup, mkLst, isiV, isiVs, anyTy, Val.isT, Val.frz, frzL, Val.own, ownL, powV, negV, mulOk, sizeLine_eq, L2.ixN, L2.atI]
/-- a bound -/
def GoodB (l : Int) (wl : Bool) (h : Int) (wh : Bool) : Prop := 0 ≤ l ∧ l ≤ 4 ∧ l ≤ h ∧ h ≤ 5 ∧ (h = 5 → wh = false) ∧ (h = 5 ∨ l < h ∨ (l = h ∧ wl = true ∧ wh = true))
def BoundP (v : Val) : Prop := ∃ l wl h wh, v = .tup [.int l, .bl wl, .int h, .bl wh] ∧ GoodB l wl h wh
theorem bound_spec {s : Val} (hs : Spr s) : ∃ v s', m__law_bound [s] = some (v, s') ∧ Spr s' ∧ BoundP v := by
  obtain ⟨kd, s1, h1, a1, a2, q1⟩ := pick_spec hs (m := 8) (by decide) (by decide)
  obtain ⟨lo, s2, h2, b1, b2, q2⟩ := pick_spec q1 (m := 4) (by decide) (by decide)
  obtain ⟨w, s3, h3, d1, d2, q3⟩ := pick_spec q2 (m := 2) (by decide) (by decide)
  by_cases e1 : kd < 3
  · refine ⟨.tup [.int 0, .bl true, .int 5, .bl false], s3, ?_, q3, _, _, _, _, rfl, by decide, by decide, by decide, by decide, by decide, by decide⟩
    simp [m__law_bound, b__law_bound, h1, h2, h3, e1, ap_fnM, ap_fnIO, ap_seqM, ap_ifM, ap_setM, ap_retM, ap_dropM, ap_brkM, ap_contM, ap_failM, ap_nextM, ap_tst, ap_c1, ap_c2, ap_cN, ap_consM, ap_nilM, ap_rdO, ap_rdE, ap_mvE, ap_cC, ap_setItemM, ap_parM, ap_parM3, ap_ifV, ap_callM, ap_callIO, ap_andM, ap_orM, ap_notM, ap_andV, ap_orV, ap_notV, ap_chM, ap_asgM, ap_consT, ap_nilT, ap_nameT, ap_tupT, ap_frE, ap_cSl, ap_partS, ap_partN, ap_rng1I, ap_rng2I, ap_seqI, ap_enumI, ap_zipI, ap_lstI, ap_tupI, ap_yesM, idxV, pureO, addV, subV, mulV, fdivV, modV, gtV, ltV, leV, geV, MV.eqV, neV, intV, lenV, isV, Val.bool?, Val.int?, Val.pure, pureL, mkTup, mkLst, isiV, isiVs, anyTy, Val.isT, Val.frz, frzL, Val.own, ownL, powV, negV, mulOk, sizeLine_eq, L2.ixN, L2.atI]
  · by_cases e2 : kd = 3
    · refine ⟨.tup [.int lo, .bl true, .int lo, .bl true], s3, ?_, q3, _, _, _, _, rfl, ?_⟩
      · simp [m__law_bound, b__law_bound, h1, h2, h3, e2, ap_fnM, ap_fnIO, ap_seqM, ap_ifM, ap_setM, ap_retM, ap_dropM, ap_brkM, ap_contM, ap_failM, ap_nextM, ap_tst, ap_c1, ap_c2, ap_cN, ap_consM, ap_nilM, ap_rdO, ap_rdE, ap_mvE, ap_cC, ap_setItemM, ap_parM, ap_parM3, ap_ifV, ap_callM, ap_callIO, ap_andM, ap_orM, ap_notM, ap_andV, ap_orV, ap_notV, ap_chM, ap_asgM, ap_consT, ap_nilT, ap_nameT, ap_tupT, ap_frE, ap_cSl, ap_partS, ap_partN, ap_rng1I, ap_rng2I, ap_seqI, ap_enumI, ap_zipI, ap_lstI, ap_tupI, ap_yesM, idxV, pureO, addV, subV, mulV, fdivV, modV, gtV, ltV, leV, geV, MV.eqV, neV, intV, lenV, isV, Val.bool?, Val.int?, Val.pure, pureL, mkTup, mkLst, isiV, isiVs, anyTy, Val.isT, Val.frz, frzL, Val.own, ownL, powV, negV, mulOk, sizeLine_eq, L2.ixN, L2.atI]
      · exact ⟨b1, by omega, Int.le_refl _, by omega, fun h => by omega, .inr (.inr ⟨rfl, rfl, rfl⟩)⟩
    · by_cases e3 : kd = 4
      · refine ⟨.tup [.int lo, .bl (w == 0), .int 5, .bl false], s3, ?_, q3, _, _, _, _, rfl, ?_⟩
        · simp [m__law_bound, b__law_bound, h1, h2, h3, e3, ap_fnM, ap_fnIO, ap_seqM, ap_ifM, ap_setM, ap_retM, ap_dropM, ap_brkM, ap_contM, ap_failM, ap_nextM, ap_tst, ap_c1, ap_c2, ap_cN, ap_consM, ap_nilM, ap_rdO, ap_rdE, ap_mvE, ap_cC, ap_setItemM, ap_parM, ap_parM3, ap_ifV, ap_callM, ap_callIO, ap_andM, ap_orM, ap_notM, ap_andV, ap_orV, ap_notV, ap_chM, ap_asgM, ap_consT, ap_nilT, ap_nameT, ap_tupT, ap_frE, ap_cSl, ap_partS, ap_partN, ap_rng1I, ap_rng2I, ap_seqI, ap_enumI, ap_zipI, ap_lstI, ap_tupI, ap_yesM, idxV, pureO, addV, subV, mulV, fdivV, modV, gtV, ltV, leV, geV, MV.eqV, neV, intV, lenV, isV, Val.bool?, Val.int?, Val.pure, pureL, mkTup, mkLst, isiV, isiVs, anyTy, Val.isT, Val.frz, frzL, Val.own, ownL, powV, negV, mulOk, sizeLine_eq, L2.ixN, L2.atI]
        · exact ⟨b1, by omega, by omega, by omega, fun h => rfl, .inl rfl⟩
      · obtain ⟨x, s4, h4, f1, f2, q4⟩ := pick_spec q3 (m := 4 - lo) (by omega) (by omega)
        obtain ⟨y, s5, h5, g1, g2, q5⟩ := pick_spec q4 (m := 2) (by decide) (by decide)
        by_cases e5 : lo + 1 + x = 5
        · omega
        · refine ⟨.tup [.int lo, .bl (w == 0), .int (lo + 1 + x), .bl (y == 0)], s5, ?_, q5, _, _, _, _, rfl, ?_⟩
          · simp [m__law_bound, b__law_bound, h1, h2, h3, e1, e2, e3, h4, h5, ap_fnM, ap_fnIO, ap_seqM, ap_ifM, ap_setM, ap_retM, ap_dropM, ap_brkM, ap_contM, ap_failM, ap_nextM, ap_tst, ap_c1, ap_c2, ap_cN, ap_consM, ap_nilM, ap_rdO, ap_rdE, ap_mvE, ap_cC, ap_setItemM, ap_parM, ap_parM3, ap_ifV, ap_callM, ap_callIO, ap_andM, ap_orM, ap_notM, ap_andV, ap_orV, ap_notV, ap_chM, ap_asgM, ap_consT, ap_nilT, ap_nameT, ap_tupT, ap_frE, ap_cSl, ap_partS, ap_partN, ap_rng1I, ap_rng2I, ap_seqI, ap_enumI, ap_zipI, ap_lstI, ap_tupI, ap_yesM, idxV, pureO, addV, subV, mulV, fdivV, modV, gtV, ltV, leV, geV, MV.eqV, neV, intV, lenV, isV, Val.bool?, Val.int?, Val.pure, pureL, mkTup, mkLst, isiV, isiVs, anyTy, Val.isT, Val.frz, frzL, Val.own, ownL, powV, negV, mulOk, sizeLine_eq, L2.ixN, L2.atI]
          · exact ⟨b1, by omega, by omega, by omega, fun h => absurd h e5, .inr (.inl (by omega))⟩

/-- an item of a short list -/
theorem ix_mem {l : List Val} {d : Int} (h0 : 0 ≤ d) (h1 : d < l.length) : ∃ v, v ∈ l ∧ L2.atI l d = some v := by
  have hi : d.toNat < l.length := by omega
  exact ⟨l[d.toNat], List.getElem_mem hi, by simp [L2.atI, L2.ixN, h0, h1, hi]⟩
/-- an edge for c clocks -/
def EdgeP (c : Nat) (v : Val) : Prop := ∃ (p : Int) (sg : Str) (bs : List Val) (st : List Int) (g : Int), v = .tup [.int p, .str sg, .tup bs, .tup (st.map Val.int), .int g] ∧ (0 ≤ p ∧ p ≤ 3) ∧ (sg = "a" ∨ sg = "b" ∨ sg = "c") ∧
  bs.length = c ∧ (∀ b ∈ bs, BoundP b) ∧ st.Pairwise (· < ·) ∧ (∀ i ∈ st, 0 ≤ i ∧ i < c) ∧ (0 ≤ g ∧ g ≤ 3)
theorem rngL_mem {n : Nat} {x : Val} (h : x ∈ rngL 0 n) : ∃ i : Int, x = .int i ∧ 0 ≤ i ∧ i < n := by
  unfold rngL at h
  obtain ⟨i, hi, rfl⟩ := List.mem_map.mp h
  have := List.mem_range.mp hi
  exact ⟨_, rfl, by omega, by omega⟩
theorem rngL_eq (n : Nat) : rngL 0 n = ((List.range n).map fun i : Nat => ((i : Nat) : Int)).map Val.int := by
  unfold rngL
  simp
theorem bound_pure {b : Val} (h : BoundP b) : b.pure = true := by
  obtain ⟨l, wl, h, wh, rfl, _⟩ := h
  rfl
theorem pure_of {xs : List Val} (h : ∀ x ∈ xs, x.pure = true) : pureL xs = true := by
  rw [pureL_all]
  exact List.all_eq_true.mpr h
end K01
end

section
set_option maxHeartbeats 4000000
/-! edges and machines that are drawn -/
namespace K01
open MV PySem
/-- the slots of _law_edge -/
abbrev eSl (s : Val) (c : Nat) (p g : Int) (sg : Str) (b x : Option Val) : Sl := [some s, some (.int c), some (.int p), some (.int g), some (.str sg), b, x]

theorem seq_next {A B : Sv} {τ τ1 : Sl} (h : A τ = some (.next, τ1)) : seqM A B τ = B τ1 := by
  rw [ap_seqM, h]
  rfl
theorem seq_ret {A B : Sv} {τ τ1 : Sl} {v : Val} (h : A τ = some (.ret v, τ1)) : seqM A B τ = some (.ret v, τ1) := by
  rw [ap_seqM, h]
  rfl
theorem fn_ret {m : Nat} {B : Sv} {xs : List Val} {v : Val} {τ : Sl} (h : B (xs.map some ++ List.replicate m none) = some (.ret v, τ)) : fnM m B xs = some v := by
  rw [ap_fnM, h]
  rfl
theorem fnIO_ret {m : Nat} {B : Sv} {xs : List Val} {v y : Val} {τ : Sl} (h : B (xs.map some ++ List.replicate m none) = some (.ret v, τ)) (h0 : τ[0]? = some (some y)) : fnIO m B xs = some (v, y) := by
  rw [ap_fnIO, h]
  simp only [Option.bind_some, h0]
theorem rng1_at {i : Nat} {j : Int} {τ : Sl} (i1 : inR j = true) (h : τ[i]? = some (some (.int j))) : rng1I (consM (rdO i) nilM) τ = some (rngL 0 j, τ) := by
  rw [ap_rng1I, ap_consM, ap_rdO, h]
  simp only [Option.bind_some, ap_nilM]
  rw [if_pos i1]
theorem inR_of' {i : Int} (h : -1000000 ≤ i) (h2 : i ≤ 1000000) : inR i = true := by
  unfold inR
  rw [Bool.and_eq_true, decide_eq_true_eq, decide_eq_true_eq]
  constructor <;> omega
theorem inR_c {c : Nat} (hc : c = 1 ∨ c = 2) : inR (c : Int) = true := inR_of (by omega) (by omega)
theorem edge_bounds {s3 : Val} (q3 : Spr s3) {c : Nat} (hc : c = 1 ∨ c = 2) (p g : Int) (sg : Str) : ∃ ys s4, lcM (rng1I (consM (rdO 1) nilM)) (nameT 6) yesM (callIO m__law_bound 0 nilM) [6] (eSl s3 c p g sg none none) = some (.lst true ys, eSl s4 c p g sg none none) ∧ Spr s4 ∧ ys.length = c ∧ ∀ y ∈ ys, BoundP y := by
  obtain ⟨ys, τ', e, ⟨s4, q4, rfl⟩, el, rel⟩ := lcL_all (T := nameT 6) (E := callIO m__law_bound 0 nilM) (own := [6]) (fun τ => ∃ s, Spr s ∧ τ = eSl s c p g sg none none) (fun _ y => BoundP y)
    (rngL 0 c) (eSl s3 c p g sg none none) ⟨s3, q3, rfl⟩ fun x hx τ ⟨s, q, eτ⟩ => by
      subst eτ
      obtain ⟨b, s', k, q', hb⟩ := bound_spec q
      refine ⟨_, rfl, b, eSl s' c p g sg none (some x), ?_, hb, s', q', rfl⟩
      simp [k, ap_callIO, ap_nilM, pureL]
  have ln : (rngL 0 c).length = c := by rw [rngL_length]; omega
  have yl : ys.length = c := by omega
  refine ⟨ys, s4, ?_, q4, yl, fun y hy => let ⟨_, _, h⟩ := rel y hy; h⟩
  have yl2 : ys.length ≤ sizeLine := by rw [sizeLine_eq]; rcases hc with rfl | rfl <;> omega
  have i1 := inR_c hc
  have hI : rng1I (consM (rdO 1) nilM) (eSl s3 c p g sg none none) = some (rngL 0 c, eSl s3 c p g sg none none) := rng1_at i1 rfl
  rw [ap_lcM, hI]
  simp only [Option.bind_some, wipeM, List.set_cons_succ, List.set_cons_zero]
  rw [e]
  simp [yl2]
theorem edge_clocks {s4 : Val} (q4 : Spr s4) {c : Nat} (hc : c = 1 ∨ c = 2) (p g : Int) (sg : Str) (b : Val) : ∃ (st : List Int) (s5 : Val), lcM (rng1I (consM (rdO 1) nilM)) (nameT 6) (tst (MV.c2 MV.eqV (callIO m__law_pick 0 (consM (cC (.int 2)) nilM)) (cC (.int 0)))) (rdE 6) [6] (eSl s4 c p g sg (some b) none) = some (.lst true (st.map Val.int), eSl s5 c p g sg (some b) none) ∧ Spr s5 ∧
    st.Pairwise (· < ·) ∧ ∀ i ∈ st, 0 ≤ i ∧ i < c := by
  obtain ⟨zs, ys, τ', e, ⟨s5, q5, rfl⟩, sb, el, rel⟩ := lcL_inv (T := nameT 6) (C := tst (MV.c2 MV.eqV (callIO m__law_pick 0 (consM (cC (.int 2)) nilM)) (cC (.int 0)))) (E := rdE 6) (own := [6]) (fun τ => ∃ s, Spr s ∧ τ = eSl s c p g sg (some b) none) (fun x y => y = x)
    (rngL 0 c) (eSl s4 c p g sg (some b) none) ⟨s4, q4, rfl⟩ fun x hx τ ⟨s, q, eτ⟩ => by
      subst eτ
      obtain ⟨i, rfl, _⟩ := rngL_mem hx
      obtain ⟨d, s', k, _, _, q'⟩ := pick_spec q (m := 2) (by decide) (by decide)
      refine ⟨_, rfl, d == 0, eSl s' c p g sg (some b) (some (.int i)), ?_, fun _ => ⟨s', q', rfl⟩, fun _ => ⟨.int i, eSl s' c p g sg (some b) (some (.int i)), rfl, rfl, s', q', rfl⟩⟩
      simp [k, ap_tst, ap_c2, ap_callIO, ap_consM, ap_cC, ap_nilM, pureL, Val.pure, MV.eqV, Val.bool?]
  have ez : zs = ys := List.ext_getElem? fun i => by
    by_cases h : i < zs.length
    · rw [List.getElem?_eq_getElem h, List.getElem?_eq_getElem (by omega), rel i _ _ (List.getElem?_eq_getElem h) (List.getElem?_eq_getElem (by omega))]
    · rw [List.getElem?_eq_none (by omega), List.getElem?_eq_none (by omega)]
  subst ez
  rw [rngL_eq] at sb
  obtain ⟨st, sb2, rfl⟩ := List.sublist_map_iff.mp sb
  refine ⟨st, s5, ?_, q5, ?_, fun i hi => ?_⟩
  · have yl2 : (st.map Val.int).length ≤ sizeLine := by
      have := sb2.length_le
      rw [List.length_map, List.length_range] at this
      rw [sizeLine_eq, List.length_map]
      rcases hc with rfl | rfl <;> omega
    have i1 := inR_c hc
    have hI : rng1I (consM (rdO 1) nilM) (eSl s4 c p g sg (some b) none) = some (rngL 0 c, eSl s4 c p g sg (some b) none) := rng1_at i1 rfl
    rw [ap_lcM, hI]
    simp only [Option.bind_some, wipeM, List.set_cons_succ, List.set_cons_zero]
    rw [e]
    simp only [Option.bind_some, yl2, if_true]
  · refine List.Pairwise.sublist sb2 (List.pairwise_map.mpr (List.pairwise_lt_range.imp fun {a b} h => ?_))
    omega
  · obtain ⟨j, hj, rfl⟩ := List.mem_map.mp (sb2.subset hi)
    have := List.mem_range.mp hj
    exact ⟨by omega, by omega⟩
theorem edge_spec {s : Val} (hs : Spr s) {c : Nat} (hc : c = 1 ∨ c = 2) : ∃ v s', m__law_edge [s, .int c] = some (v, s') ∧ Spr s' ∧ EdgeP c v := by
  obtain ⟨d1, s1, h1, a1, a2, q1⟩ := pick_spec hs (m := 4) (by decide) (by decide)
  obtain ⟨d2, s2, h2, b1, b2, q2⟩ := pick_spec q1 (m := 4) (by decide) (by decide)
  obtain ⟨d3, s3, h3, e1, e2, q3⟩ := pick_spec q2 (m := 4) (by decide) (by decide)
  obtain ⟨v1, m1, i1⟩ := ix_mem (l := [.int 0, .int 0, .int 1, .int 2]) a1 a2
  obtain ⟨v2, m2, i2⟩ := ix_mem (l := [.int 0, .int 1, .int 1, .int 2]) b1 b2
  obtain ⟨v3, m3, i3⟩ := ix_mem (l := [.str "a", .str "a", .str "b", .str "c"]) e1 e2
  obtain ⟨p, rfl, p1, p2⟩ : ∃ p : Int, v1 = .int p ∧ 0 ≤ p ∧ p ≤ 3 := by simp at m1; rcases m1 with rfl | rfl | rfl <;> exact ⟨_, rfl, by decide, by decide⟩
  obtain ⟨g, rfl, g1, g2⟩ : ∃ p : Int, v2 = .int p ∧ 0 ≤ p ∧ p ≤ 3 := by simp at m2; rcases m2 with rfl | rfl | rfl <;> exact ⟨_, rfl, by decide, by decide⟩
  obtain ⟨sg, rfl, hsg⟩ : ∃ z : Str, v3 = .str z ∧ (z = "a" ∨ z = "b" ∨ z = "c") := by simp at m3; rcases m3 with rfl | rfl | rfl <;> exact ⟨_, rfl, by simp⟩
  obtain ⟨bs, s4, k4, q4, bl, hbs⟩ := edge_bounds q3 hc p g sg
  obtain ⟨st, s5, k5, q5, srt, hst⟩ := edge_clocks q4 hc p g sg (.tup bs)
  have pb : pureL bs = true := pure_of fun b hb => bound_pure (hbs b hb)
  have ps : pureL (st.map Val.int) = true := pure_of fun b hb => by
    obtain ⟨i, _, rfl⟩ := List.mem_map.mp hb
    rfl
  have sl : 5 ≤ sizeLine := by rw [sizeLine_eq]; decide
  refine ⟨.tup [.int p, .str sg, .tup bs, .tup (st.map Val.int), .int g], s5, ?_, q5, p, sg, bs, st, g, rfl, ⟨p1, p2⟩, hsg, bl, hbs, srt, hst, g1, g2⟩
  have sl4 : 4 ≤ sizeLine := by rw [sizeLine_eq]; decide
  have t1 : (parM 2 3 (consM (c2 idxV (cN mkLst (consM (cC (.int 0)) (consM (cC (.int 0)) (consM (cC (.int 1)) (consM (cC (.int 2)) nilM))))) (callIO m__law_pick 0 (consM (cC (.int 4)) nilM))) (consM (c2 idxV (cN mkLst (consM (cC (.int 0)) (consM (cC (.int 1)) (consM (cC (.int 1)) (consM (cC (.int 2)) nilM))))) (callIO m__law_pick 0 (consM (cC (.int 4)) nilM))) nilM))) [some s, some (.int c), none, none, none, none, none] = some (.next, [some s2, some (.int c), some (.int p), some (.int g), none, none, none]) := by
    simp only [ap_parM, ap_consM, ap_c2, ap_cN, ap_cC, ap_nilM, ap_callIO, mkLst, List.length_cons, List.length_nil, sl4, if_true, Option.bind_some, List.getElem?_cons_zero, pureL, Val.pure, Bool.and_self, Bool.and_true, h1, h2, idxV, i1, i2, pureO, List.set_cons_zero, List.set_cons_succ]
  have t2 : (setM 4 (c2 idxV (cN mkLst (consM (cC (.str "a")) (consM (cC (.str "a")) (consM (cC (.str "b")) (consM (cC (.str "c")) nilM))))) (callIO m__law_pick 0 (consM (cC (.int 4)) nilM)))) [some s2, some (.int c), some (.int p), some (.int g), none, none, none] = some (.next, eSl s3 c p g sg none none) := by
    simp only [ap_setM, ap_consM, ap_c2, ap_cN, ap_cC, ap_nilM, ap_callIO, mkLst, List.length_cons, List.length_nil, sl4, if_true, Option.bind_some, List.getElem?_cons_zero, pureL, Val.pure, Bool.and_self, Bool.and_true, h3, idxV, i3, pureO, List.set_cons_zero, List.set_cons_succ]
  have t3 : (setM 5 (cN tupleV (consM (lcM (rng1I (consM (rdO 1) nilM)) (nameT 6) yesM (callIO m__law_bound 0 nilM) [6]) nilM))) (eSl s3 c p g sg none none) = some (.next, eSl s4 c p g sg (some (.tup bs)) none) := by
    simp only [ap_setM, ap_consM, ap_cN, ap_nilM, k4, Option.bind_some, tupleV, pb, if_true, List.set_cons_zero, List.set_cons_succ]
  have t4 : (retM (cN mkTup (consM (rdE 2) (consM (rdE 4) (consM (rdE 5) (consM (cN tupleV (consM (lcM (rng1I (consM (rdO 1) nilM)) (nameT 6) (tst (MV.c2 MV.eqV (callIO m__law_pick 0 (consM (cC (.int 2)) nilM)) (cC (.int 0)))) (rdE 6) [6]) nilM)) (consM (rdE 3) nilM))))))) (eSl s4 c p g sg (some (.tup bs)) none) = some (.ret (.tup [.int p, .str sg, .tup bs, .tup (st.map Val.int), .int g]), eSl s5 c p g sg (some (.tup bs)) none) :=
    s_ret (s_cN (s_cons (s_rdE rfl rfl) (s_cons (s_rdE rfl rfl) (s_cons (s_rdE rfl pb) (s_cons (s_cN (s_cons k5 s_nil) (tupleV_l ps)) (s_cons (s_rdE rfl rfl) s_nil))))) (mkTup_ok (show 5 ≤ 1000 by decide)))
  unfold m__law_edge
  refine fnIO_ret (τ := eSl s5 c p g sg (some (.tup bs)) none) ?_ rfl
  show b__law_edge [some s, some (.int c), none, none, none, none, none] = _
  unfold b__law_edge
  rw [seq_next t1, seq_next t2, seq_next t3, t4]
end K01
end

section
set_option maxHeartbeats 4000000
/-! machines that are drawn -/
namespace K01
open MV PySem
theorem lay_sign {z : Str} (h : z = "a" ∨ z = "b" ∨ z = "c") : PyData.canLay0 (.str z) = true := by rcases h with rfl | rfl | rfl <;> decide +kernel
theorem bound_kd {b : Val} (h : BoundP b) : b.kd 1 = true := by
  obtain ⟨l, wl, h, wh, rfl, _⟩ := h
  rfl
theorem kdL_of {n : Nat} {xs : List Val} (h : ∀ x ∈ xs, x.kd n = true) : kdL n xs = true := by
  rw [kdL_all]
  exact List.all_eq_true.mpr h
theorem edge_kd {c : Nat} {e : Val} (h : EdgeP c e) : e.kd 8 = true := by
  obtain ⟨p, sg, bs, st, g, rfl, _, hs, _, hb, _⟩ := h
  have h1 : kdL 6 bs = true := kdL_of fun b hb' => by
    obtain ⟨l, wl, h, wh, rfl, _⟩ := hb b hb'
    rfl
  have h2 : kdL 6 (st.map Val.int) = true := kdL_of fun b hb' => by
    obtain ⟨i, _, rfl⟩ := List.mem_map.mp hb'
    rfl
  have h3 := lay_sign hs
  simp only [Val.kd, kdL, h1, h2, h3, Bool.and_self]
theorem edge_row {c : Nat} {e : Val} (h : EdgeP c e) : e.row = true := by
  have k := edge_kd h
  obtain ⟨p, sg, bs, st, g, rfl, _⟩ := h
  exact kd_row k
theorem bound_alike {b b' : Val} (h : BoundP b) (h' : BoundP b') : PySem.W.alike b.toD b'.toD = true := by
  obtain ⟨l, wl, hi, wh, rfl, _⟩ := h
  obtain ⟨l', wl', hi', wh', rfl, _⟩ := h'
  exact alike_tup (alike_cons (alike_int _ _) (alike_cons (alike_bl _ _) (alike_cons (alike_int _ _) (alike_cons (alike_bl _ _) (alike_nil _)))))
theorem edge_alike {c : Nat} {e e' : Val} (h : EdgeP c e) (h' : EdgeP c e') : PySem.W.alike e.toD e'.toD = true := by
  obtain ⟨p, sg, bs, st, g, rfl, _, _, _, hb, _⟩ := h
  obtain ⟨p', sg', bs', st', g', rfl, _, _, _, hb', _⟩ := h'
  refine alike_tup (alike_cons (alike_int _ _) (alike_cons (alike_str _ _) (alike_cons (alike_tup (alikeAll_of (xs := []) (ys := []) _ _ fun x hx y hy => bound_alike (hb x hx) (hb' y hy))) (alike_cons (alike_tup (alikeAll_of (xs := []) (ys := []) _ _ fun x hx y hy => ?_)) (alike_cons (alike_int _ _) (alike_nil _))))))
  obtain ⟨i, _, rfl⟩ := List.mem_map.mp hx
  obtain ⟨j, _, rfl⟩ := List.mem_map.mp hy
  exact alike_int _ _
theorem edges_alike {c : Nat} {es : List Val} (h : ∀ e ∈ es, EdgeP c e) : alikeL es = true := List.all_eq_true.mpr fun x hx => List.all_eq_true.mpr fun y hy => edge_alike (h x hx) (h y hy)
theorem edges_setOk {c : Nat} {es : List Val} (h : ∀ e ∈ es, EdgeP c e) (hl : es.length ≤ 4000) : setOk es = true := setOk_rows (fun x hx => edge_row (h x hx)) (edges_alike h) hl
theorem edges_pure {c : Nat} {es : List Val} (h : ∀ e ∈ es, EdgeP c e) : pureL es = true := pure_of fun x hx => kd_pure (edge_kd (h x hx))
/-- a machine -/
def MachP (c : Nat) (v : Val) : Prop := ∃ es, v = .tup [.int c, .tup es] ∧ 1 ≤ es.length ∧ es.length ≤ 6 ∧ (∀ e ∈ es, EdgeP c e) ∧ riseL es = true
/-- edges, each once, ascending -/
theorem sort_edges {c : Nat} {es : List Val} (h : ∀ e ∈ es, EdgeP c e) (hl : es.length ≤ 4000) : (∀ e ∈ (dedV es).mergeSort leB, EdgeP c e) ∧ riseL ((dedV es).mergeSort leB) = true ∧ ((dedV es).mergeSort leB).length ≤ es.length ∧ (es ≠ [] → 1 ≤ ((dedV es).mergeSort leB).length) := by
  have pm := List.mergeSort_perm (dedV es) leB
  have keys := setOk_keys (edges_setOk h hl)
  refine ⟨fun e he => h e (dedV_sub es e (pm.mem_iff.mp he)), sorted_rise keys.1 keys.2.1, by rw [pm.length_eq]; exact dedV_length es, fun hne => ?_⟩
  rw [pm.length_eq]
  cases es with
  | nil => exact absurd rfl hne
  | cons x r => rw [dedV, List.length_cons]; omega
theorem machine_spec {s : Val} (hs : Spr s) {m : Int} (hm : 1 ≤ m) (hm6 : m ≤ 6) : ∃ c v s', m__law_machine [s, .int m] = some (v, s') ∧ Spr s' ∧ (c = 1 ∨ c = 2) ∧ MachP c v := by
  obtain ⟨d, s1, h1, a1, a2, q1⟩ := pick_spec hs (m := 2) (by decide) (by decide)
  obtain ⟨k, s2, h2, b1, b2, q2⟩ := pick_spec q1 (m := m) (by omega) (by omega)
  obtain ⟨c, hc⟩ : ∃ c : Nat, 1 + d = (c : Int) := ⟨(1 + d).toNat, by omega⟩
  have hc2 : c = 1 ∨ c = 2 := by omega
  have t1 : setM 2 (c2 addV (cC (.int 1)) (callIO m__law_pick 0 (consM (cC (.int 2)) nilM))) [some s, some (.int m), none, none, none] = some (.next, [some s1, some (.int m), some (.int c), none, none]) :=
    s_set (s_c2 s_cC (s_callIO rfl (s_cons s_cC s_nil) rfl rfl h1) (show addV (.int 1) (.int d) = some (.int c) by rw [← hc]; rfl))
  obtain ⟨ys, τ', e, ⟨s3, q3, rfl⟩, el, rel⟩ := lcL_all (T := nameT 4) (E := callIO m__law_edge 0 (consM (rdE 2) nilM)) (own := [4]) (fun τ => ∃ s, Spr s ∧ τ = [some s, some (.int m), some (.int c), none, none]) (fun _ y => EdgeP c y)
    (rngL 0 (1 + k)) [some s2, some (.int m), some (.int c), none, none] ⟨s2, q2, rfl⟩ fun x hx τ ⟨s, q, eτ⟩ => by
      subst eτ
      obtain ⟨v, s', kk, q', hv⟩ := edge_spec q hc2
      exact ⟨_, rfl, v, [some s', some (.int m), some (.int c), none, some x], s_callIO rfl (s_cons (s_rdE rfl rfl) s_nil) rfl rfl kk, hv, s', q', rfl⟩
  rw [rngL_length] at el
  have yl : 1 ≤ ys.length ∧ ys.length ≤ 6 := by omega
  have hE : ∀ e ∈ ys, EdgeP c e := fun y hy => let ⟨_, _, h⟩ := rel y hy; h
  have t2 : setM 3 (lcM (rng1I (consM (c2 addV (cC (.int 1)) (callIO m__law_pick 0 (consM (rdE 1) nilM))) nilM)) (nameT 4) yesM (callIO m__law_edge 0 (consM (rdE 2) nilM)) [4]) [some s1, some (.int m), some (.int c), none, none] = some (.next, [some s3, some (.int m), some (.int c), some (.lst true ys), none]) :=
    s_set' (s_lc (ys := ys) (s_rng1 (k := 1 + k) (s_cons (s_c2 s_cC (s_callIO rfl (s_cons (s_rdE rfl rfl) s_nil) rfl rfl h2) rfl) s_nil) (inR_of (by omega) (by omega))) e (by rw [sizeLine_eq]; omega))
  obtain ⟨g1, g2, g3, g4⟩ := sort_edges hE (by omega)
  refine ⟨c, .tup [.int c, .tup ((dedV ys).mergeSort leB)], s3, ?_, q3, hc2, _, rfl, g4 (fun z => by rw [z] at yl; simp at yl), by omega, g1, g2⟩
  unfold m__law_machine
  refine s_fnIO (τ := [some s3, some (.int m), some (.int c), some (.lst true ys), none]) ?_ rfl
  unfold b__law_machine
  refine s_seq t1 (s_seq t2 (s_ret (s_cN (s_cons (s_rdE rfl rfl) (s_cons (s_cN (s_cons (s_c1 (s_rdO rfl) (sortSet_seq rfl (edges_setOk hE (by omega)))) s_nil) (tupleV_l (edges_pure g1))) s_nil)) (mkTup_ok (show 2 ≤ 1000 by decide)))))
end K01
end

section
set_option maxHeartbeats 4000000
/-! parts of machines and rows, as they are read by both -/
namespace K01
open MV PySem
def tlen : Val → Nat
  | .tup xs => xs.length
  | _ => 0
theorem made_spec {n : Nat} {x : Val} (h : x.nice n = true) (k : Nat) : m__law_made [x, .int k] = some (.bl (gTup k x)) := by
  unfold m__law_made b__law_made
  have e : isTp x = true → cN lenV (consM (rdO 0) nilM) [some x, some (.int k)] = some (.int (tlen x : Int), [some x, some (.int k)]) := fun hx => by
    cases x <;> first | exact s_cN (s_cons (s_rdO rfl) s_nil) rfl | cases hx
  have eq : (isTp x && decide ((tlen x : Int) = k)) = gTup k x := by
    cases x <;> first | rfl | (simp only [isTp, gTup, Bool.true_and, tlen]; congr 1; simp only [Int.ofNat_inj, eq_iff_iff])
  rw [← eq]
  exact q_fn (q_ret (q_vand (s_c1 (s_rdO rfl) (isi_tup h)) fun hx => s_c2 (e hx) (s_rdO rfl) eqB_int))
theorem row_of_spec {n : Nat} {x : Val} (h : x.nice n = true) (k : Nat) : m_is_row_of [x, .int k] = some (.bl (gTup k x)) := made_spec h k
theorem int_spec {n : Nat} {x : Val} (h : x.nice n = true) (lo hi : Int) : m__law_int [x, .int lo, .int hi] = some (.bl (gInt lo hi x)) := by
  unfold m__law_int b__law_int
  have e : (isI x || isB x) = true → andV (notV (c1 (isiV .tBool) (rdO 0))) (chM leV leV (rdO 1) (rdO 0) (rdO 2)) [some x, some (.int lo), some (.int hi)] = some (.bl (gInt lo hi x), [some x, some (.int lo), some (.int hi)]) := fun hx => by
    cases x with
    | int i => exact s_vand2 (s_vnot (b := false) (s_c1 (s_rdO rfl) rfl)) (q_ch (s_rdO rfl) (s_rdO rfl) rfl (s_rdO rfl) rfl)
    | bl b => exact s_vand1 (s_vnot (b := true) (s_c1 (s_rdO rfl) rfl))
    | _ => cases hx
  have eq : ((isI x || isB x) && gInt lo hi x) = gInt lo hi x := by cases x <;> rfl
  rw [← eq]
  exact q_fn (q_ret (q_vand (s_c1 (s_rdO rfl) (isi_int h)) fun hx => e hx))
theorem within_spec {n : Nat} {x : Val} (h : x.nice n = true) (lo hi : Int) : m_is_within [x, .int lo, .int hi] = some (.bl (gInt lo hi x)) := int_spec h lo hi
theorem okD_signs (m : Bool) : okD (.lst m [.str "a", .str "b", .str "c"]) = true ∧ okD (.tup [.str "a", .str "b", .str "c"]) = true := by cases m <;> decide +kernel
theorem good_sign_spec {n : Nat} {x : Val} (h : x.nice n = true) : m__law_good_sign [x] = some (.bl (gSign x)) := by
  unfold m__law_good_sign b__law_good_sign
  have e : isSt x = true → c2 inV2 (rdO 0) (cN mkLst (consM (cC (.str "a")) (consM (cC (.str "b")) (consM (cC (.str "c")) nilM)))) [some x] = some (.bl (gSign x), [some x]) := fun hx => by
    cases x with
    | str z =>
      refine s_c2 (s_rdO rfl) (s_cN (s_cons s_cC (s_cons s_cC (s_cons s_cC s_nil))) (mkLst_ok (show 3 ≤ 1000 by decide))) ?_
      have ok : okD (.str z) = true := by
        unfold okD SeqAt.shaped
        simp only [Val.toD, PyData.depth, Bool.and_eq_true, decide_eq_true_eq]
        exact ⟨by simpa [Val.nice] using h, by omega⟩
      simp only [inV2, ok, (okD_signs true).1, Bool.and_self, if_true, gSign, Val.toD]
    | _ => cases hx
  have eq : (isSt x && gSign x) = gSign x := by cases x <;> rfl
  rw [← eq]
  exact q_fn (q_ret (q_vand (s_c1 (s_rdO rfl) (isi_str h)) fun hx => e hx))
theorem is_sign_spec {n : Nat} {x : Val} (h : x.nice n = true) : m_is_sign [x] = some (.bl (gSign x)) := by
  unfold m_is_sign b_is_sign
  have e : isSt x = true → c2 inV2 (rdO 0) (cC v_SIGNS) [some x] = some (.bl (gSign x), [some x]) := fun hx => by
    cases x with
    | str z =>
      refine s_c2 (s_rdO rfl) s_cC ?_
      have ok : okD (.str z) = true := by
        unfold okD SeqAt.shaped
        simp only [Val.toD, PyData.depth, Bool.and_eq_true, decide_eq_true_eq]
        exact ⟨by simpa [Val.nice] using h, by omega⟩
      unfold v_SIGNS
      simp only [inV2, ok, (okD_signs true).2, Bool.and_self, if_true, gSign, Val.toD]
    | _ => cases hx
  have eq : (isSt x && gSign x) = gSign x := by cases x <;> rfl
  rw [← eq]
  exact q_fn (q_ret (q_vand (s_c1 (s_rdO rfl) (isi_str h)) fun hx => e hx))
/-- a bound -/
def gB (l : Int) (wl : Bool) (h : Int) (wh : Bool) : Bool := decide (0 ≤ l) && decide (l ≤ 4) && decide (l ≤ h) && decide (h ≤ 5) && (if h = 5 then !wh else decide (l < h) || (wl && wh))
def gBound : Val → Bool
  | .tup [.int l, .bl wl, .int h, .bl wh] => gB l wl h wh
  | _ => false
theorem gBound_tup {x : Val} (h : gTup 4 x = false) : gBound x = false := by
  unfold gBound
  split
  · simp [gTup] at h
  · rfl
theorem is_bound_spec {n : Nat} {x : Val} (hx : x.nice n = true) : m_is_bound [x] = some (.bl (gBound x)) := by
  have px := nice_pure n x hx
  unfold m_is_bound b_is_bound
  refine q_fn ?_
  show Ret _ [some x] _
  have t0 : tst (callM m_is_row_of (consM (rdO 0) (consM (cC (.int 4)) nilM))) [some x] = some (gTup 4 x, [some x]) := s_tst (s_callM (s_cons (s_rdO rfl) (s_cons s_cC s_nil)) (by simp [pureL, px, Val.pure]) (row_of_spec hx 4))
  cases h4 : gTup 4 x with
  | false =>
    rw [gBound_tup h4]
    rw [h4] at t0
    exact q_ifT (q_or (s_not t0) (b := false) fun z => by cases z) (q_ret s_cC)
  | true =>
    rw [h4] at t0
    obtain ⟨a, b, c, d, rfl⟩ := tup4 h4
    have ha := nice_mem hx (x := a) (by simp)
    have hb := nice_mem hx (x := b) (by simp)
    have hc := nice_mem hx (x := c) (by simp)
    have hd := nice_mem hx (x := d) (by simp)
    have pa := nice_pure n a ha
    have pb := nice_pure n b hb
    have pc := nice_pure n c hc
    have pd := nice_pure n d hd
    have i0 : c2 idxV (rdO 0) (cC (.int 0)) [some (.tup [a, b, c, d])] = some (a, [some (.tup [a, b, c, d])]) := q_ix (s_rdO rfl) s_cC rfl pa
    have i1 : c2 idxV (rdO 0) (cC (.int 1)) [some (.tup [a, b, c, d])] = some (b, [some (.tup [a, b, c, d])]) := q_ix (s_rdO rfl) s_cC rfl pb
    have i2 : c2 idxV (rdO 0) (cC (.int 2)) [some (.tup [a, b, c, d])] = some (c, [some (.tup [a, b, c, d])]) := q_ix (s_rdO rfl) s_cC rfl pc
    have i3 : c2 idxV (rdO 0) (cC (.int 3)) [some (.tup [a, b, c, d])] = some (d, [some (.tup [a, b, c, d])]) := q_ix (s_rdO rfl) s_cC rfl pd
    have w0 : tst (callM m_is_within (consM (c2 idxV (rdO 0) (cC (.int 0))) (consM (cC (.int 0)) (consM (cC (.int 4)) nilM)))) [some (.tup [a, b, c, d])] = some (gInt 0 4 a, [some (.tup [a, b, c, d])]) :=
      s_tst (s_callM (s_cons i0 (s_cons s_cC (s_cons s_cC s_nil))) (by simp [pureL, pa, Val.pure]) (within_spec ha 0 4))
    cases g0 : gInt 0 4 a with
    | false =>
      rw [g0] at w0
      have e : gBound (.tup [a, b, c, d]) = false := by
        unfold gBound
        split
        · rename_i l wl h wh e
          cases e
          simp only [gInt, gB] at g0 ⊢
          simp [g0]
        · rfl
      rw [e]
      exact q_ifT (q_or (s_not t0) (b := true) fun _ => q_or (s_not w0) (b := true) fun z => by cases z) (q_ret s_cC)
    | true =>
      rw [g0] at w0
      obtain ⟨l, rfl, l0, l4⟩ := gInt_inv g0
      have w2 : tst (callM m_is_within (consM (c2 idxV (rdO 0) (cC (.int 2))) (consM (c2 idxV (rdO 0) (cC (.int 0))) (consM (cC v_FAR) nilM)))) [some (.tup [.int l, b, c, d])] = some (gInt l 5 c, [some (.tup [.int l, b, c, d])]) :=
        s_tst (s_callM (s_cons i2 (s_cons i0 (s_cons s_cC s_nil))) (by simp [pureL, pc, Val.pure, v_FAR]) (within_spec hc l 5))
      have t1 := q_or (s_not t0) (b := !gInt l 5 c) fun _ => q_or (s_not w0) (b := !gInt l 5 c) fun _ => s_not w2
      have b1 : tst (c1 (isiV .tBool) (c2 idxV (rdO 0) (cC (.int 1)))) [some (.tup [.int l, b, c, d])] = some (isB b, [some (.tup [.int l, b, c, d])]) := s_tst (s_c1 i1 (isi_bool hb))
      have b3 : tst (c1 (isiV .tBool) (c2 idxV (rdO 0) (cC (.int 3)))) [some (.tup [.int l, b, c, d])] = some (isB d, [some (.tup [.int l, b, c, d])]) := s_tst (s_c1 i3 (isi_bool hd))
      have t2 := q_or (s_not b1) (b := !isB d) fun _ => s_not b3
      have fin : gInt l 5 c = true → isB b = true → isB d = true → Ret (seqM (ifM (tst (c2 MV.eqV (c2 idxV (rdO 0) (cC (.int 2))) (cC v_FAR))) (retM (notV (c2 idxV (rdO 0) (cC (.int 3))))) nextM) (retM (orV (c2 ltV (c2 idxV (rdO 0) (cC (.int 0))) (c2 idxV (rdO 0) (cC (.int 2)))) (andV (c2 idxV (rdO 0) (cC (.int 1))) (c2 idxV (rdO 0) (cC (.int 3)))))))
          [some (.tup [.int l, b, c, d])] (.bl (gBound (.tup [.int l, b, c, d]))) := by
        intro gc gb gd
        obtain ⟨h, rfl, h1, h2⟩ := gInt_inv gc
        cases b <;> try cases gb
        cases d <;> try cases gd
        rename_i wl wh
        by_cases h5 : h = 5
        · subst h5
          have e : gBound (.tup [.int l, .bl wl, .int 5, .bl wh]) = !wh := by simp [gBound, gB, l0, l4, h1]
          rw [e]
          exact q_ifT (s_tst (s_c2 i2 s_cC rfl)) (q_ret (s_vnot i3))
        · have e : gBound (.tup [.int l, .bl wl, .int h, .bl wh]) = (decide (l < h) || (wl && wh)) := by simp [gBound, gB, l0, l4, h1, h2, h5]
          rw [e]
          exact q_ifF (s_tst (s_c2 i2 s_cC (show MV.eqV (.int h) (.int 5) = some (.bl false) by rw [eqB_int]; simp [h5]))) (q_ret (q_vor (s_c2 i0 i2 rfl) fun _ => q_vand i1 fun _ => i3))
      have main := q_no t1 (b := !(!isB b || !isB d) && gBound (.tup [.int l, b, c, d])) fun z1 => q_no t2 (b := gBound (.tup [.int l, b, c, d])) fun z2 => by
        simp at z1 z2
        exact fin z1 z2.1 z2.2
      have e : (!(!true || (!true || !gInt l 5 c)) && (!(!isB b || !isB d) && gBound (.tup [.int l, b, c, d]))) = gBound (.tup [.int l, b, c, d]) := by
        cases hg : gBound (.tup [.int l, b, c, d]) with
        | false => simp
        | true =>
          unfold gBound at hg
          split at hg
          · rename_i l' wl h wh e
            cases e
            simp only [gB, Bool.and_eq_true, decide_eq_true_eq] at hg
            simp [gInt, isB, hg.1.1.2, hg.1.2]
          · cases hg
      refine Eq.mp (congrArg (fun v : Bool => Ret _ _ (Val.bl v)) e) ?_
      exact main

theorem good_bound_spec {n : Nat} {x : Val} (hx : x.nice n = true) : m__law_good_bound [x] = some (.bl (gBound x)) := by
  have px := nice_pure n x hx
  unfold m__law_good_bound b__law_good_bound
  refine q_fn ?_
  show Ret _ [some x, none, none, none, none] _
  have t0 : tst (callM m__law_made (consM (rdO 0) (consM (cC (.int 4)) nilM))) [some x, none, none, none, none] = some (gTup 4 x, [some x, none, none, none, none]) := s_tst (s_callM (s_cons (s_rdO rfl) (s_cons s_cC s_nil)) (by simp [pureL, px, Val.pure]) (made_spec hx 4))
  cases h4 : gTup 4 x with
  | false =>
    rw [gBound_tup h4]
    rw [h4] at t0
    exact q_ifT (q_or (s_not t0) (b := false) fun z => by cases z) (q_ret s_cC)
  | true =>
    rw [h4] at t0
    obtain ⟨a, b, c, d, rfl⟩ := tup4 h4
    have ha := nice_mem hx (x := a) (by simp)
    have hb := nice_mem hx (x := b) (by simp)
    have hc := nice_mem hx (x := c) (by simp)
    have hd := nice_mem hx (x := d) (by simp)
    have pa := nice_pure n a ha
    have pb := nice_pure n b hb
    have pc := nice_pure n c hc
    have pd := nice_pure n d hd
    have i0 : c2 idxV (rdO 0) (cC (.int 0)) [some (.tup [a, b, c, d]), none, none, none, none] = some (a, [some (.tup [a, b, c, d]), none, none, none, none]) := q_ix (s_rdO rfl) s_cC rfl pa
    have i1 : c2 idxV (rdO 0) (cC (.int 1)) [some (.tup [a, b, c, d]), none, none, none, none] = some (b, [some (.tup [a, b, c, d]), none, none, none, none]) := q_ix (s_rdO rfl) s_cC rfl pb
    have i2 : c2 idxV (rdO 0) (cC (.int 2)) [some (.tup [a, b, c, d]), none, none, none, none] = some (c, [some (.tup [a, b, c, d]), none, none, none, none]) := q_ix (s_rdO rfl) s_cC rfl pc
    have i3 : c2 idxV (rdO 0) (cC (.int 3)) [some (.tup [a, b, c, d]), none, none, none, none] = some (d, [some (.tup [a, b, c, d]), none, none, none, none]) := q_ix (s_rdO rfl) s_cC rfl pd
    have b1 : tst (c1 (isiV .tBool) (c2 idxV (rdO 0) (cC (.int 1)))) [some (.tup [a, b, c, d]), none, none, none, none] = some (isB b, [some (.tup [a, b, c, d]), none, none, none, none]) := s_tst (s_c1 i1 (isi_bool hb))
    have b3 : tst (c1 (isiV .tBool) (c2 idxV (rdO 0) (cC (.int 3)))) [some (.tup [a, b, c, d]), none, none, none, none] = some (isB d, [some (.tup [a, b, c, d]), none, none, none, none]) := s_tst (s_c1 i3 (isi_bool hd))
    have t1 := q_or (s_not t0) (b := !isB b || !isB d) fun _ => q_or (s_not b1) (b := !isB d) fun _ => s_not b3
    have w0 : tst (callM m__law_int (consM (c2 idxV (rdO 0) (cC (.int 0))) (consM (cC (.int 0)) (consM (cC (.int 4)) nilM)))) [some (.tup [a, b, c, d]), none, none, none, none] = some (gInt 0 4 a, [some (.tup [a, b, c, d]), none, none, none, none]) :=
      s_tst (s_callM (s_cons i0 (s_cons s_cC (s_cons s_cC s_nil))) (by simp [pureL, pa, Val.pure]) (int_spec ha 0 4))
    have w2 : tst (callM m__law_int (consM (c2 idxV (rdO 0) (cC (.int 2))) (consM (cC (.int 0)) (consM (cC (.int 5)) nilM)))) [some (.tup [a, b, c, d]), none, none, none, none] = some (gInt 0 5 c, [some (.tup [a, b, c, d]), none, none, none, none]) :=
      s_tst (s_callM (s_cons i2 (s_cons s_cC (s_cons s_cC s_nil))) (by simp [pureL, pc, Val.pure]) (int_spec hc 0 5))
    have t2 := q_or (s_not w0) (b := !gInt 0 5 c) fun _ => s_not w2
    have e0 : (!(!true || (!isB b || !isB d)) && (!(!gInt 0 4 a || !gInt 0 5 c) && gBound (.tup [a, b, c, d]))) = gBound (.tup [a, b, c, d]) := by
      cases hg : gBound (.tup [a, b, c, d]) with
      | false => simp
      | true =>
        unfold gBound at hg
        split at hg
        · rename_i l wl h wh e
          cases e
          simp only [gB, Bool.and_eq_true, decide_eq_true_eq] at hg
          have : 0 ≤ h := by omega
          simp [gInt, isB, hg.1.1.1.1, hg.1.1.1.2, hg.1.1.2, hg.1.2, this]
        · cases hg
    refine Eq.mp (congrArg (fun v : Bool => Ret _ _ (Val.bl v)) e0) ?_
    refine q_no t1 fun z1 => q_no t2 fun z2 => ?_
    simp at z1 z2
    obtain ⟨l, rfl, l0, l4⟩ := gInt_inv z2.1
    obtain ⟨h, rfl, h0, h5⟩ := gInt_inv z2.2
    cases b <;> try cases z1.1
    cases d <;> try cases z1.2
    rename_i wl wh
    refine q_seq (τ1 := [some (.tup [.int l, .bl wl, .int h, .bl wh]), some (.int l), some (.bl wl), some (.int h), some (.bl wh)]) (s_asg (s_rdE rfl rfl) rfl) ?_
    by_cases e5 : h = 5
    · subst e5
      have e : gBound (.tup [.int l, .bl wl, .int 5, .bl wh]) = !wh := by
        have : l ≤ 5 := by omega
        simp [gBound, gB, l0, l4, this]
      rw [e]
      refine q_ifT (s_tst (s_c2 (s_rdO rfl) s_cC rfl)) (q_ret (s_c2 (s_rdO rfl) s_cC ?_))
      cases wh <;> rfl
    · have e : gBound (.tup [.int l, .bl wl, .int h, .bl wh]) = (decide (l < h) || (decide (l = h) && (wl && wh))) := by
        by_cases lh : l ≤ h
        · simp only [gBound, gB, l0, l4, lh, h5, e5, decide_true, Bool.true_and, if_false]
          by_cases lt : l < h
          · simp [lt]
          · have : l = h := by omega
            simp [this]
        · have n1 : ¬ l < h := by omega
          have n2 : ¬ l = h := by omega
          simp [gBound, gB, lh, n1, n2]
      rw [e]
      exact q_ifF (s_tst (s_c2 (s_rdO rfl) s_cC (show MV.eqV (.int h) (.int 5) = some (.bl false) by rw [eqB_int]; simp [e5]))) (q_ret (q_vor (s_c2 (s_rdO rfl) (s_rdO rfl) rfl) fun _ => q_vand (s_c2 (s_rdO rfl) (s_rdO rfl) eqB_int) fun _ => q_vand (s_rdO rfl) fun _ => s_rdE rfl rfl))
end K01
end

section
set_option maxHeartbeats 4000000
/-! rising; edges and machines as they are read by both -/
namespace K01
open MV PySem
def notUp (xs : List Val) : Val → Bool
  | .int k => match xs[(k - 1).toNat]?, xs[k.toNat]? with
    | some a, some b => !ltB a b
    | _, _ => false
  | _ => false
theorem up_iff {xs : List Val} : ((rngL 1 xs.length).filter (notUp xs)).isEmpty = riseL xs := by
  rw [Bool.eq_iff_iff, List.isEmpty_iff, List.filter_eq_nil_iff, rise_get]
  constructor
  · intro h i x y hx hy
    have hi := (List.getElem?_eq_some_iff.mp hy).1
    have := h (.int (1 + (i : Int))) (List.mem_map.mpr ⟨i, List.mem_range.mpr (by omega), rfl⟩)
    have e1 : ((1 + (i : Int)) - 1).toNat = i := by omega
    have e2 : (1 + (i : Int)).toNat = i + 1 := by omega
    simp only [notUp, e1, e2, hx, hy] at this
    simpa using this
  · intro h z hz
    obtain ⟨i, hi, rfl⟩ := List.mem_map.mp hz
    have hi2 := List.mem_range.mp hi
    have e1 : ((1 + (i : Int)) - 1).toNat = i := by omega
    have e2 : (1 + (i : Int)).toNat = i + 1 := by omega
    obtain ⟨x, hx⟩ : ∃ x, xs[i]? = some x := ⟨_, List.getElem?_eq_getElem (by omega)⟩
    obtain ⟨y, hy⟩ : ∃ y, xs[i + 1]? = some y := ⟨_, List.getElem?_eq_getElem (by omega)⟩
    simp only [notUp, e1, e2, hx, hy, h i x y hx hy]
    decide
theorem rising_spec {xs : List Val} (hl : xs.length ≤ 1000) (hp : pureL xs = true) (hlt : ∀ x ∈ xs, ∀ y ∈ xs, ltV x y = some (.bl (ltB x y))) : m__law_rising [.tup xs] = some (.bl (riseL xs)) := by
  unfold m__law_rising b__law_rising
  have pure : ∀ x ∈ xs, x.pure = true := by rw [pureL_all] at hp; exact List.all_eq_true.mp hp
  refine q_fn ?_
  show Ret _ [some (.tup xs), none] _
  have hI : rng2I (consM (cC (.int 1)) (consM (cN lenV (consM (rdO 0) nilM)) nilM)) [some (.tup xs), none] = some (rngL 1 xs.length, [some (.tup xs), none]) :=
    s_rng2 (s_cons s_cC (s_cons (s_cN (s_cons (s_rdO rfl) s_nil) rfl) s_nil)) (inR_of (by decide) (by decide)) (inR_of (by omega) (by omega))
  have hf := q_filter' (i := 1) (C := MV.notM (tst (c2 ltV (c2 idxV (rdO 0) (c2 subV (rdO 1) (cC (.int 1)))) (c2 idxV (rdO 0) (rdO 1))))) (notUp xs) hI (rngL_pure _ _) rfl (fun z hz => by
    obtain ⟨i, hi, rfl⟩ := List.mem_map.mp hz
    have hi2 := List.mem_range.mp hi
    have e1 : ((1 + (i : Int)) - 1).toNat = i := by omega
    have e2 : (1 + (i : Int)).toNat = i + 1 := by omega
    obtain ⟨x, hx⟩ : ∃ x, xs[i]? = some x := ⟨_, List.getElem?_eq_getElem (by omega)⟩
    obtain ⟨y, hy⟩ : ∃ y, xs[i + 1]? = some y := ⟨_, List.getElem?_eq_getElem (by omega)⟩
    have a1 : L2.atI xs ((1 + (i : Int)) - 1) = some x := by
      have : (1 + (i : Int)) - 1 < xs.length := by omega
      simp only [L2.atI, L2.ixN, show 0 ≤ (1 + (i : Int)) - 1 by omega, this, if_true, Option.bind_some, e1, hx]
    have a2 : L2.atI xs (1 + (i : Int)) = some y := by
      have : (1 + (i : Int)) < xs.length := by omega
      simp only [L2.atI, L2.ixN, show 0 ≤ 1 + (i : Int) by omega, this, if_true, Option.bind_some, e2, hy]
    have mx := List.mem_of_getElem? hx
    have my := List.mem_of_getElem? hy
    have e : notUp xs (.int (1 + (i : Int))) = !ltB x y := by simp only [notUp, e1, e2, hx, hy]
    rw [e]
    exact s_not (s_tst (s_c2 (q_ix (s_rdO rfl) (s_c2 (s_rdO rfl) s_cC rfl) a1 (pure x mx)) (q_ix (s_rdO rfl) (s_rdO rfl) a2 (pure y my)) (hlt x mx y my)))) (by rw [rngL_length]; omega)
  refine q_ret (s_c2 hf (s_cN s_nil (mkLst_ok (show 0 ≤ 1000 by decide))) ?_)
  rw [eq_nil (nice_lst_okD (n := 0) (fun z hz => ?_) (by decide)), up_iff]
  obtain ⟨i, hi, rfl⟩ := List.mem_map.mp (List.mem_filter.mp hz).1
  have hi2 := List.mem_range.mp hi
  simp only [Val.nice, Bool.and_eq_true, decide_eq_true_eq]
  omega
theorem ltV_int (i j : Int) : ltV (.int i) (.int j) = some (.bl (ltB (.int i) (.int j))) := by
  rw [ltB_int]
  rfl
/-- an edge for c clocks -/
def gEdge (c : Int) : Val → Bool
  | .tup [p, sg, .tup bs, .tup st, g] => gInt 0 3 p && gSign sg && decide ((bs.length : Int) = c) && bs.all gBound && st.all (gInt 0 (c - 1)) && riseL st && gInt 0 3 g
  | _ => false
theorem gEdge_tup {c : Int} {x : Val} (h : gTup 5 x = false) : gEdge c x = false := by
  unfold gEdge
  split
  · simp [gTup] at h
  · rfl
theorem ints_of_all {lo hi : Int} : ∀ {st : List Val}, st.all (gInt lo hi) = true → ∃ ns : List Int, st = ns.map Val.int ∧ ∀ i ∈ ns, lo ≤ i ∧ i ≤ hi
  | [], _ => ⟨[], rfl, fun i h => by cases h⟩
  | x :: r, h => by
    rw [List.all_cons, Bool.and_eq_true] at h
    obtain ⟨i, rfl, h1, h2⟩ := gInt_inv h.1
    obtain ⟨ns, rfl, h3⟩ := ints_of_all h.2
    refine ⟨i :: ns, rfl, fun j hj => ?_⟩
    rcases List.mem_cons.mp hj with rfl | hj
    · exact ⟨h1, h2⟩
    · exact h3 j hj
theorem kdL_ints (n : Nat) (ns : List Int) : kdL n (ns.map Val.int) = true := kdL_of fun x hx => by
  obtain ⟨i, _, rfl⟩ := List.mem_map.mp hx
  cases n <;> rfl
/-- list(st) == sorted(set(st)), ints -/
theorem sorted_ints {m : Bool} {ns : List Int} (hl : ns.length ≤ 1000) : MV.eqV (.lst m (ns.map Val.int)) (.lst true ((dedV (ns.map Val.int)).mergeSort leB)) = some (.bl (riseL (ns.map Val.int))) :=
  eq_sorted (setOk_ints (by omega)) (fun x hx => by
    obtain ⟨i, _, rfl⟩ := List.mem_map.mp hx
    simp [Val.toD, PyData.depth]) (kdL_keys 0 _ (kdL_ints 0 ns)).choose_spec.2.2.2
end K01
end

section
set_option maxHeartbeats 4000000
/-! edges as they are read by both -/
namespace K01
open MV PySem
def aB : Val → Bool
  | .tup bs => bs.all gBound
  | _ => true
def aI (c : Int) : Val → Bool
  | .tup st => st.all (gInt 0 (c - 1))
  | _ => true
def rS : Val → Bool
  | .tup st => riseL st
  | _ => true
theorem gEdge_eq {c : Nat} {p sg b s g : Val} : gEdge c (.tup [p, sg, b, s, g]) = (gInt 0 3 p && gSign sg && gTup c b && aB b && isTp s && aI c s && rS s && gInt 0 3 g) := by
  cases b with
  | tup bs =>
    cases s with
    | tup st =>
      have e : decide ((bs.length : Int) = (c : Int)) = decide (bs.length = c) := by congr 1; simp only [Int.ofNat_inj, eq_iff_iff]
      simp only [gEdge, gTup, aB, isTp, aI, rS, Bool.and_true, e]
    | _ => simp [gEdge, isTp]
  | _ => simp [gEdge, gTup]
abbrev gSl (c : Nat) (x : Val) : Sl := [some (.int c), some x, none, none]
section
variable {n : Nat} {c : Nat} {p sg b s g : Val}
theorem e_ix {x : Val} {xs : List Val} {k : Int} {v : Val} (h : L2.atI xs k = some v) (pv : v.pure = true) : c2 idxV (rdO 1) (cC (.int k)) (gSl c (.tup xs)) = some (v, gSl c (.tup xs)) := q_ix (s_rdO rfl) s_cC h pv
theorem is_edge_spec {x : Val} (hx : x.nice n = true) (hc : c = 1 ∨ c = 2) : m_is_edge [.int c, x] = some (.bl (gEdge c x)) := by
  have px := nice_pure n x hx
  unfold m_is_edge b_is_edge
  refine q_fn ?_
  show Ret _ (gSl c x) _
  have t0 : tst (callM m_is_row_of (consM (rdO 1) (consM (cC (.int 5)) nilM))) (gSl c x) = some (gTup 5 x, gSl c x) := s_tst (s_callM (s_cons (s_rdO rfl) (s_cons s_cC s_nil)) (by simp [pureL, px, Val.pure]) (row_of_spec hx 5))
  cases h5 : gTup 5 x with
  | false =>
    rw [gEdge_tup h5]
    rw [h5] at t0
    exact q_ifT (q_or (s_not t0) (b := false) fun z => by cases z) (q_ret s_cC)
  | true =>
    rw [h5] at t0
    obtain ⟨p, sg, b, s, g, rfl⟩ := tup5 h5
    have hp := nice_mem hx (x := p) (by simp)
    have hs := nice_mem hx (x := sg) (by simp)
    have hb := nice_mem hx (x := b) (by simp)
    have hS := nice_mem hx (x := s) (by simp)
    have hg := nice_mem hx (x := g) (by simp)
    have pp := nice_pure n p hp
    have ps := nice_pure n sg hs
    have pb := nice_pure n b hb
    have pS := nice_pure n s hS
    have pg := nice_pure n g hg
    have i0 := e_ix (c := c) (x := p) (xs := [p, sg, b, s, g]) (k := 0) rfl pp
    have i1 := e_ix (c := c) (x := p) (xs := [p, sg, b, s, g]) (k := 1) rfl ps
    have i2 := e_ix (c := c) (x := p) (xs := [p, sg, b, s, g]) (k := 2) rfl pb
    have i3 := e_ix (c := c) (x := p) (xs := [p, sg, b, s, g]) (k := 3) rfl pS
    have i4 := e_ix (c := c) (x := p) (xs := [p, sg, b, s, g]) (k := 4) rfl pg
    have w0 : tst (callM m_is_within (consM (c2 idxV (rdO 1) (cC (.int 0))) (consM (cC (.int 0)) (consM (cC (.int 3)) nilM)))) (gSl c (.tup [p, sg, b, s, g])) = some (gInt 0 3 p, gSl c (.tup [p, sg, b, s, g])) :=
      s_tst (s_callM (s_cons i0 (s_cons s_cC (s_cons s_cC s_nil))) (by simp [pureL, pp, Val.pure]) (within_spec hp 0 3))
    have w1 : tst (callM m_is_sign (consM (c2 idxV (rdO 1) (cC (.int 1))) nilM)) (gSl c (.tup [p, sg, b, s, g])) = some (gSign sg, gSl c (.tup [p, sg, b, s, g])) :=
      s_tst (s_callM (s_cons i1 s_nil) (by simp [pureL, ps]) (is_sign_spec hs))
    have w2 : tst (callM m_is_row_of (consM (c2 idxV (rdO 1) (cC (.int 2))) (consM (rdO 0) nilM))) (gSl c (.tup [p, sg, b, s, g])) = some (gTup c b, gSl c (.tup [p, sg, b, s, g])) :=
      s_tst (s_callM (s_cons i2 (s_cons (s_rdO rfl) s_nil)) (by simp [pureL, pb, Val.pure]) (row_of_spec hb c))
    have w2b : gTup c b = true → tst (cN allV (consM (lcM (seqI (c2 idxV (rdO 1) (cC (.int 2)))) (nameT 2) yesM (callM m_is_bound (consM (rdO 2) nilM)) [2]) nilM)) (gSl c (.tup [p, sg, b, s, g])) = some (aB b, gSl c (.tup [p, sg, b, s, g])) := fun z => by
      cases b with
      | tup bs =>
        have pbs : pureL bs = true := pb
        have lc := q_map' (i := 2) (E := callM m_is_bound (consM (rdO 2) nilM)) (fun x => .bl (gBound x)) (q_seqI i2 rfl pbs) rfl (fun y hy => s_callM (s_cons (s_rdO rfl) s_nil) (by simp [pureL, nice_pure n y (nice_mem hb hy)]) (is_bound_spec (nice_mem hb hy))) (nice_len hb)
        exact s_tst (s_cN (s_cons lc s_nil) (allV_map gBound bs))
      | _ => cases z
    have w3 : tst (c1 (isiV .tTuple) (c2 idxV (rdO 1) (cC (.int 3)))) (gSl c (.tup [p, sg, b, s, g])) = some (isTp s, gSl c (.tup [p, sg, b, s, g])) := s_tst (s_c1 i3 (isi_tup hS))
    have w3b : isTp s = true → tst (cN allV (consM (lcM (seqI (c2 idxV (rdO 1) (cC (.int 3)))) (nameT 3) yesM (callM m_is_within (consM (rdO 3) (consM (cC (.int 0)) (consM (c2 subV (rdO 0) (cC (.int 1))) nilM)))) [3]) nilM)) (gSl c (.tup [p, sg, b, s, g])) = some (aI c s, gSl c (.tup [p, sg, b, s, g])) := fun z => by
      cases s with
      | tup st =>
        have pst : pureL st = true := pS
        have lc := q_map' (i := 3) (E := callM m_is_within (consM (rdO 3) (consM (cC (.int 0)) (consM (c2 subV (rdO 0) (cC (.int 1))) nilM)))) (fun x => .bl (gInt 0 ((c : Int) - 1) x)) (q_seqI i3 rfl pst) rfl
          (fun y hy => s_callM (s_cons (s_rdO rfl) (s_cons s_cC (s_cons (s_c2 (s_rdO rfl) s_cC rfl) s_nil))) (by simp [pureL, nice_pure n y (nice_mem hS hy), Val.pure]) (within_spec (nice_mem hS hy) 0 ((c : Int) - 1))) (nice_len hS)
        exact s_tst (s_cN (s_cons lc s_nil) (allV_map _ st))
      | _ => cases z
    have w4 : callM m_is_within (consM (c2 idxV (rdO 1) (cC (.int 4))) (consM (cC (.int 0)) (consM (cC (.int 3)) nilM))) (gSl c (.tup [p, sg, b, s, g])) = some (.bl (gInt 0 3 g), gSl c (.tup [p, sg, b, s, g])) :=
      s_callM (s_cons i4 (s_cons s_cC (s_cons s_cC s_nil))) (by simp [pureL, pg, Val.pure]) (within_spec hg 0 3)
    have wr : isTp s = true → aI c s = true → c2 MV.eqV (cN listV (consM (c2 idxV (rdO 1) (cC (.int 3))) nilM)) (c1 sortSetV (c2 idxV (rdO 1) (cC (.int 3)))) (gSl c (.tup [p, sg, b, s, g])) = some (.bl (rS s), gSl c (.tup [p, sg, b, s, g])) := fun z1 z2 => by
      cases s with
      | tup st =>
        obtain ⟨ns, rfl, _⟩ := ints_of_all (show st.all (gInt 0 ((c : Int) - 1)) = true from z2)
        have hl : ns.length ≤ 1000 := by simpa using nice_len hS
        exact s_c2 (s_cN (s_cons i3 s_nil) (listV_t (kdL_pure (kdL_ints 0 ns)))) (s_c1 i3 (sortSet_seq rfl (setOk_ints (by omega)))) (sorted_ints hl)
      | _ => cases z1
    have t1 := q_or (s_not t0) (b := !gInt 0 3 p || !gSign sg) fun _ => q_or (s_not w0) (b := !gSign sg) fun _ => s_not w1
    have t2 := q_or (s_not w2) (b := !aB b) fun z => s_not (w2b (by simpa using z))
    have t3 := q_or (s_not w3) (b := !aI c s) fun z => s_not (w3b (by simpa using z))
    have e : (!(!true || (!gInt 0 3 p || !gSign sg)) && (!(!gTup c b || !aB b) && (!(!isTp s || !aI c s) && (rS s && gInt 0 3 g)))) = gEdge c (.tup [p, sg, b, s, g]) := by
      rw [gEdge_eq]
      cases gInt 0 3 p <;> cases gSign sg <;> cases gTup c b <;> cases aB b <;> cases isTp s <;> cases aI c s <;> cases rS s <;> cases gInt 0 3 g <;> rfl
    refine Eq.mp (congrArg (fun v : Bool => Ret _ _ (Val.bl v)) e) ?_
    refine q_no t1 fun _ => q_no t2 fun _ => q_no t3 fun z => q_ret (q_vand (wr ?_ ?_) fun _ => w4)
    · simp at z; exact z.1
    · simp at z; exact z.2
theorem good_edge_spec {x : Val} (hx : x.nice n = true) (hc : c = 1 ∨ c = 2) (hn : n ≤ 60) : m__law_good_edge [.int c, x] = some (.bl (gEdge c x)) := by
  have px := nice_pure n x hx
  unfold m__law_good_edge b__law_good_edge
  refine q_fn ?_
  show Ret _ (gSl c x) _
  have t0 : tst (callM m__law_made (consM (rdO 1) (consM (cC (.int 5)) nilM))) (gSl c x) = some (gTup 5 x, gSl c x) := s_tst (s_callM (s_cons (s_rdO rfl) (s_cons s_cC s_nil)) (by simp [pureL, px, Val.pure]) (made_spec hx 5))
  cases h5 : gTup 5 x with
  | false =>
    rw [gEdge_tup h5]
    rw [h5] at t0
    exact q_ifT (q_or (s_not t0) (b := false) fun z => by cases z) (q_ret s_cC)
  | true =>
    rw [h5] at t0
    obtain ⟨p, sg, b, s, g, rfl⟩ := tup5 h5
    have hp := nice_mem hx (x := p) (by simp)
    have hs := nice_mem hx (x := sg) (by simp)
    have hb := nice_mem hx (x := b) (by simp)
    have hS := nice_mem hx (x := s) (by simp)
    have hg := nice_mem hx (x := g) (by simp)
    have pp := nice_pure n p hp
    have ps := nice_pure n sg hs
    have pb := nice_pure n b hb
    have pS := nice_pure n s hS
    have pg := nice_pure n g hg
    have i0 := e_ix (c := c) (x := p) (xs := [p, sg, b, s, g]) (k := 0) rfl pp
    have i1 := e_ix (c := c) (x := p) (xs := [p, sg, b, s, g]) (k := 1) rfl ps
    have i2 := e_ix (c := c) (x := p) (xs := [p, sg, b, s, g]) (k := 2) rfl pb
    have i3 := e_ix (c := c) (x := p) (xs := [p, sg, b, s, g]) (k := 3) rfl pS
    have i4 := e_ix (c := c) (x := p) (xs := [p, sg, b, s, g]) (k := 4) rfl pg
    have w0 : tst (callM m__law_int (consM (c2 idxV (rdO 1) (cC (.int 0))) (consM (cC (.int 0)) (consM (cC (.int 3)) nilM)))) (gSl c (.tup [p, sg, b, s, g])) = some (gInt 0 3 p, gSl c (.tup [p, sg, b, s, g])) :=
      s_tst (s_callM (s_cons i0 (s_cons s_cC (s_cons s_cC s_nil))) (by simp [pureL, pp, Val.pure]) (int_spec hp 0 3))
    have w4 : tst (callM m__law_int (consM (c2 idxV (rdO 1) (cC (.int 4))) (consM (cC (.int 0)) (consM (cC (.int 3)) nilM)))) (gSl c (.tup [p, sg, b, s, g])) = some (gInt 0 3 g, gSl c (.tup [p, sg, b, s, g])) :=
      s_tst (s_callM (s_cons i4 (s_cons s_cC (s_cons s_cC s_nil))) (by simp [pureL, pg, Val.pure]) (int_spec hg 0 3))
    have w1 : tst (callM m__law_good_sign (consM (c2 idxV (rdO 1) (cC (.int 1))) nilM)) (gSl c (.tup [p, sg, b, s, g])) = some (gSign sg, gSl c (.tup [p, sg, b, s, g])) :=
      s_tst (s_callM (s_cons i1 s_nil) (by simp [pureL, ps]) (good_sign_spec hs))
    have w2 : tst (callM m__law_made (consM (c2 idxV (rdO 1) (cC (.int 2))) (consM (rdO 0) nilM))) (gSl c (.tup [p, sg, b, s, g])) = some (gTup c b, gSl c (.tup [p, sg, b, s, g])) :=
      s_tst (s_callM (s_cons i2 (s_cons (s_rdO rfl) s_nil)) (by simp [pureL, pb, Val.pure]) (made_spec hb c))
    have w2b : gTup c b = true → tst (c2 neV (lcM (seqI (c2 idxV (rdO 1) (cC (.int 2)))) (nameT 2) (MV.notM (tst (callM m__law_good_bound (consM (rdO 2) nilM)))) (rdE 2) [2]) (cN mkLst nilM)) (gSl c (.tup [p, sg, b, s, g])) = some (!aB b, gSl c (.tup [p, sg, b, s, g])) := fun z => by
      cases b with
      | tup bs =>
        have pbs : pureL bs = true := pb
        have lc := q_filter' (i := 2) (C := MV.notM (tst (callM m__law_good_bound (consM (rdO 2) nilM)))) (fun x => !gBound x) (q_seqI i2 rfl pbs) pbs rfl (fun y hy => s_not (s_tst (s_callM (s_cons (s_rdO rfl) s_nil) (by simp [pureL, nice_pure n y (nice_mem hb hy)]) (good_bound_spec (nice_mem hb hy))))) (nice_len hb)
        have e := ne_nil (m := true) (m' := true) (zs := bs.filter fun x => !gBound x) (nice_lst_okD (n := n) (fun z hz => nice_mem hb (List.mem_filter.mp hz).1) (by omega))
        rw [filter_empty] at e
        exact s_tst (s_c2 lc (s_cN s_nil (mkLst_ok (show 0 ≤ 1000 by decide))) e)
      | _ => cases z
    have w3 : tst (c1 (isiV .tTuple) (c2 idxV (rdO 1) (cC (.int 3)))) (gSl c (.tup [p, sg, b, s, g])) = some (isTp s, gSl c (.tup [p, sg, b, s, g])) := s_tst (s_c1 i3 (isi_tup hS))
    have w3b : isTp s = true → tst (c2 neV (lcM (seqI (c2 idxV (rdO 1) (cC (.int 3)))) (nameT 3) (MV.notM (tst (callM m__law_int (consM (rdO 3) (consM (cC (.int 0)) (consM (c2 subV (rdO 0) (cC (.int 1))) nilM)))))) (rdE 3) [3]) (cN mkLst nilM)) (gSl c (.tup [p, sg, b, s, g])) = some (!aI c s, gSl c (.tup [p, sg, b, s, g])) := fun z => by
      cases s with
      | tup st =>
        have pst : pureL st = true := pS
        have lc := q_filter' (i := 3) (C := MV.notM (tst (callM m__law_int (consM (rdO 3) (consM (cC (.int 0)) (consM (c2 subV (rdO 0) (cC (.int 1))) nilM)))))) (fun x => !gInt 0 ((c : Int) - 1) x) (q_seqI i3 rfl pst) pst rfl
          (fun y hy => s_not (s_tst (s_callM (s_cons (s_rdO rfl) (s_cons s_cC (s_cons (s_c2 (s_rdO rfl) s_cC rfl) s_nil))) (by simp [pureL, nice_pure n y (nice_mem hS hy), Val.pure]) (int_spec (nice_mem hS hy) 0 ((c : Int) - 1))))) (nice_len hS)
        have e := ne_nil (m := true) (m' := true) (zs := st.filter fun x => !gInt 0 ((c : Int) - 1) x) (nice_lst_okD (n := n) (fun z hz => nice_mem hS (List.mem_filter.mp hz).1) (by omega))
        rw [filter_empty] at e
        exact s_tst (s_c2 lc (s_cN s_nil (mkLst_ok (show 0 ≤ 1000 by decide))) e)
      | _ => cases z
    have wr : isTp s = true → aI c s = true → callM m__law_rising (consM (c2 idxV (rdO 1) (cC (.int 3))) nilM) (gSl c (.tup [p, sg, b, s, g])) = some (.bl (rS s), gSl c (.tup [p, sg, b, s, g])) := fun z1 z2 => by
      cases s with
      | tup st =>
        obtain ⟨ns, rfl, _⟩ := ints_of_all (show st.all (gInt 0 ((c : Int) - 1)) = true from z2)
        refine s_callM (s_cons i3 s_nil) (by simp [pureL, pS]) (rising_spec (nice_len hS) pS fun x hx y hy => ?_)
        obtain ⟨i, _, rfl⟩ := List.mem_map.mp hx
        obtain ⟨j, _, rfl⟩ := List.mem_map.mp hy
        exact ltV_int i j
      | _ => cases z1
    have t1 := q_or (s_not t0) (b := !gInt 0 3 p || !gInt 0 3 g) fun _ => q_or (s_not w0) (b := !gInt 0 3 g) fun _ => s_not w4
    have t2 := q_or (s_not w1) (b := !gTup c b) fun z => s_not w2
    have e : (!(!true || (!gInt 0 3 p || !gInt 0 3 g)) && (!(!gSign sg || !gTup c b) && (!(!aB b) && (!(!isTp s) && (!(!aI c s) && rS s))))) = gEdge c (.tup [p, sg, b, s, g]) := by
      rw [gEdge_eq]
      cases gInt 0 3 p <;> cases gSign sg <;> cases gTup c b <;> cases aB b <;> cases isTp s <;> cases aI c s <;> cases rS s <;> cases gInt 0 3 g <;> rfl
    refine Eq.mp (congrArg (fun v : Bool => Ret _ _ (Val.bl v)) e) ?_
    refine q_no t1 fun _ => q_no t2 fun z2 => q_no (w2b ?_) fun _ => q_no (s_not w3) fun z3 => q_no (w3b ?_) fun z4 => q_ret (wr ?_ ?_)
    · simp at z2; exact z2.2
    · simpa using z3
    · simpa using z3
    · simpa using z4
end
end K01
end

section
set_option maxHeartbeats 4000000
/-! machines as they are read by both -/
namespace K01
open MV PySem
theorem gSign_inv {z : Str} (h : gSign (.str z) = true) : z = "a" ∨ z = "b" ∨ z = "c" := by
  simp only [gSign, List.any_cons, List.any_nil, Bool.or_false, Bool.or_eq_true, Val.toD, PyData.eqv] at h
  rcases h with h | h | h
  · exact .inl (Eq.symm (by simpa using h))
  · exact .inr (.inl (Eq.symm (by simpa using h)))
  · exact .inr (.inr (Eq.symm (by simpa using h)))
theorem gSign_of {z : Str} (h : z = "a" ∨ z = "b" ∨ z = "c") : gSign (.str z) = true := by rcases h with rfl | rfl | rfl <;> decide +kernel
theorem gB_iff {l wl h wh} : gB l wl h wh = true ↔ GoodB l wl h wh := by
  unfold gB GoodB
  simp only [Bool.and_eq_true, decide_eq_true_eq]
  by_cases h5 : h = 5
  · subst h5
    simp only [if_true]
    constructor
    · rintro ⟨⟨⟨⟨a, b⟩, c⟩, d⟩, e⟩
      exact ⟨a, b, c, d, fun _ => by simpa using e, .inl trivial⟩
    · rintro ⟨a, b, c, d, e, _⟩
      exact ⟨⟨⟨⟨a, b⟩, c⟩, d⟩, by rw [e trivial]; rfl⟩
  · simp only [h5, if_false, Bool.or_eq_true, decide_eq_true_eq, Bool.and_eq_true, false_or]
    constructor
    · rintro ⟨⟨⟨⟨a, b⟩, c⟩, d⟩, e⟩
      refine ⟨a, b, c, d, fun z => z.elim, ?_⟩
      rcases e with e | e
      · exact .inl e
      · by_cases lt : l < h
        · exact .inl lt
        · exact .inr ⟨by omega, e⟩
    · rintro ⟨a, b, c, d, _, e⟩
      exact ⟨⟨⟨⟨a, b⟩, c⟩, d⟩, e.imp id fun z => z.2⟩
theorem gBound_iff {b : Val} : gBound b = true ↔ BoundP b := by
  constructor
  · intro h
    unfold gBound at h
    split at h
    · exact ⟨_, _, _, _, rfl, gB_iff.mp h⟩
    · cases h
  · rintro ⟨l, wl, h, wh, rfl, g⟩
    exact gB_iff.mpr g
theorem rise_ints {ns : List Int} : riseL (ns.map Val.int) = true ↔ ns.Pairwise (· < ·) := by
  constructor
  · intro h
    have := List.pairwise_map.mp (rise_pair h)
    exact this.imp fun {a b} z => by rw [ltB_int] at z; simpa using z
  · intro h
    refine rise_get.mpr fun i x y hx hy => ?_
    rw [List.getElem?_map] at hx hy
    obtain ⟨a, ha, rfl⟩ := Option.map_eq_some_iff.mp hx
    obtain ⟨b, hb, rfl⟩ := Option.map_eq_some_iff.mp hy
    obtain ⟨h1, rfl⟩ := List.getElem?_eq_some_iff.mp ha
    obtain ⟨h2, rfl⟩ := List.getElem?_eq_some_iff.mp hb
    rw [ltB_int]
    exact decide_eq_true (List.pairwise_iff_getElem.mp h i (i + 1) h1 h2 (by omega))
theorem gEdge_iff {c : Nat} {e : Val} : gEdge c e = true ↔ EdgeP c e := by
  constructor
  · intro h
    unfold gEdge at h
    split at h
    · rename_i p sg bs st g
      simp only [Bool.and_eq_true, decide_eq_true_eq] at h
      obtain ⟨⟨⟨⟨⟨⟨h1, h2⟩, h3⟩, h4⟩, h5⟩, h6⟩, h7⟩ := h
      obtain ⟨p, rfl, p1⟩ := gInt_inv h1
      obtain ⟨g, rfl, g1⟩ := gInt_inv h7
      obtain ⟨ns, rfl, hn⟩ := ints_of_all h5
      cases sg with
      | str z =>
        refine ⟨p, z, bs, ns, g, rfl, p1, gSign_inv h2, by omega, fun b hb => gBound_iff.mp (List.all_eq_true.mp h4 b hb), rise_ints.mp h6, fun i hi => ?_, g1⟩
        have := hn i hi
        omega
      | _ => cases h2
    · cases h
  · rintro ⟨p, sg, bs, st, g, rfl, hp, hs, hl, hb, hst, hr, hg⟩
    simp only [gEdge, Bool.and_eq_true, decide_eq_true_eq]
    refine ⟨⟨⟨⟨⟨⟨?_, gSign_of hs⟩, by omega⟩, List.all_eq_true.mpr fun b h => gBound_iff.mpr (hb b h)⟩, List.all_eq_true.mpr fun x hx => ?_⟩, rise_ints.mpr hst⟩, ?_⟩
    · simp [gInt, hp.1, hp.2]
    · obtain ⟨i, hi, rfl⟩ := List.mem_map.mp hx
      have := hr i hi
      simp only [gInt, Bool.and_eq_true, decide_eq_true_eq]
      omega
    · simp [gInt, hg.1, hg.2]
/-- a machine -/
def gMach : Val → Bool
  | .tup [.int c, .tup es] => decide (1 ≤ c) && decide (c ≤ 2) && decide (1 ≤ es.length) && decide (es.length ≤ 6) && es.all (gEdge c) && riseL es
  | _ => false
def mL : Val → Bool
  | .tup es => decide (1 ≤ es.length) && decide (es.length ≤ 6)
  | _ => false
def mE (c : Val) : Val → Bool
  | .tup es => match c with
    | .int c => es.all (gEdge c)
    | _ => false
  | _ => false
theorem gMach_eq {c es : Val} : gMach (.tup [c, es]) = (gInt 1 2 c && isTp es && mL es && mE c es && rS es) := by
  cases c with
  | int c =>
    cases es with
    | tup es => simp only [gMach, gInt, isTp, mL, mE, rS, Bool.and_assoc, Bool.true_and]
    | _ => simp [gMach, isTp]
  | _ => simp [gMach, gInt]
theorem gMach_tup {x : Val} (h : gTup 2 x = false) : gMach x = false := by
  unfold gMach
  split
  · simp [gTup] at h
  · rfl
theorem ltV_edges {c : Nat} {es : List Val} (h : ∀ e ∈ es, EdgeP c e) : ∀ x ∈ es, ∀ y ∈ es, ltV x y = some (.bl (ltB x y)) := fun x hx y hy => by
  have k1 := kd_okD (edge_kd (h x hx)) (by decide)
  have k2 := kd_okD (edge_kd (h y hy)) (by decide)
  have k3 := edge_alike (h x hx) (h y hy)
  obtain ⟨p, sg, bs, st, g, rfl, _⟩ := h x hx
  obtain ⟨p', sg', bs', st', g', rfl, _⟩ := h y hy
  simp only [ltV, k1, k2, k3, Bool.and_self, if_true, ltB]
theorem sorted_edges {c : Nat} {m : Bool} {es : List Val} (h : ∀ e ∈ es, EdgeP c e) (hl : es.length ≤ 4000) : MV.eqV (.lst m es) (.lst true ((dedV es).mergeSort leB)) = some (.bl (riseL es)) := by
  refine eq_sorted (edges_setOk h hl) (fun x hx => ?_) ?_
  · obtain ⟨k, _, _, h1, _⟩ := kd_key 8 x (edge_kd (h x hx))
    exact h1
  · obtain ⟨ks, _, _, _, h1⟩ := kdL_keys 8 es (kdL_of fun x hx => edge_kd (h x hx))
    exact h1
abbrev hSl (x : Val) : Sl := [some x, none]
section
variable {n : Nat}
theorem m_ix {xs : List Val} {k : Int} {v : Val} (h : L2.atI xs k = some v) (pv : v.pure = true) : c2 idxV (rdO 0) (cC (.int k)) (hSl (.tup xs)) = some (v, hSl (.tup xs)) := q_ix (s_rdO rfl) s_cC h pv
theorem len_ch {es D' : Val} {D : Ev} (i1 : c2 idxV (rdO 0) (cC (.int 1)) (hSl D') = some (es, hSl D')) (h : isTp es = true) : tst (chM leV leV (cC (.int 1)) (cN lenV (consM (c2 idxV (rdO 0) (cC (.int 1))) nilM)) (cC (.int 6))) (hSl D') = some (mL es, hSl D') := by
  cases es with
  | tup es =>
    refine s_tst (q_ch s_cC (s_cN (s_cons i1 s_nil) rfl) (show leV (.int 1) (.int es.length) = some (.bl (decide (1 ≤ es.length))) by simp only [leV]; congr 2; simp only [decide_eq_decide]; omega) s_cC (show leV (.int es.length) (.int 6) = some (.bl (decide (es.length ≤ 6))) by simp only [leV]; congr 2; simp only [decide_eq_decide]; omega))
  | _ => cases h
theorem is_machine_spec {x : Val} (hx : x.nice n = true) : m_is_machine [x] = some (.bl (gMach x)) := by
  have px := nice_pure n x hx
  unfold m_is_machine b_is_machine
  refine q_fn ?_
  show Ret _ (hSl x) _
  have t0 : tst (callM m_is_row_of (consM (rdO 0) (consM (cC (.int 2)) nilM))) (hSl x) = some (gTup 2 x, hSl x) := s_tst (s_callM (s_cons (s_rdO rfl) (s_cons s_cC s_nil)) (by simp [pureL, px, Val.pure]) (row_of_spec hx 2))
  cases h2 : gTup 2 x with
  | false =>
    rw [gMach_tup h2]
    rw [h2] at t0
    exact q_ifT (q_or (s_not t0) (b := false) fun z => by cases z) (q_ret s_cC)
  | true =>
    rw [h2] at t0
    obtain ⟨c, es, rfl⟩ := tup2 h2
    have hc := nice_mem hx (x := c) (by simp)
    have he := nice_mem hx (x := es) (by simp)
    have pc := nice_pure n c hc
    have pe := nice_pure n es he
    have i0 := m_ix (xs := [c, es]) (k := 0) rfl pc
    have i1 := m_ix (xs := [c, es]) (k := 1) rfl pe
    have w0 : tst (callM m_is_within (consM (c2 idxV (rdO 0) (cC (.int 0))) (consM (cC (.int 1)) (consM (cC (.int 2)) nilM)))) (hSl (.tup [c, es])) = some (gInt 1 2 c, hSl (.tup [c, es])) :=
      s_tst (s_callM (s_cons i0 (s_cons s_cC (s_cons s_cC s_nil))) (by simp [pureL, pc, Val.pure]) (within_spec hc 1 2))
    have w1 : tst (c1 (isiV .tTuple) (c2 idxV (rdO 0) (cC (.int 1)))) (hSl (.tup [c, es])) = some (isTp es, hSl (.tup [c, es])) := s_tst (s_c1 i1 (isi_tup he))
    have w2 : gInt 1 2 c = true → isTp es = true → tst (cN allV (consM (lcM (seqI (c2 idxV (rdO 0) (cC (.int 1)))) (nameT 1) yesM (callM m_is_edge (consM (c2 idxV (rdO 0) (cC (.int 0))) (consM (rdO 1) nilM))) [1]) nilM)) (hSl (.tup [c, es])) = some (mE c es, hSl (.tup [c, es])) := fun z1 z2 => by
      obtain ⟨ci, rfl, ci1, ci2⟩ := gInt_inv z1
      obtain ⟨cn, rfl⟩ : ∃ k : Nat, ci = k := ⟨ci.toNat, by omega⟩
      cases es with
      | tup es =>
        have lc := q_map' (i := 1) (E := callM m_is_edge (consM (c2 idxV (rdO 0) (cC (.int 0))) (consM (rdO 1) nilM))) (fun x => .bl (gEdge cn x)) (q_seqI i1 rfl pe) rfl
          (fun y hy => s_callM (s_cons (q_ix (s_rdO rfl) s_cC rfl rfl) (s_cons (s_rdO rfl) s_nil)) (by simp [pureL, nice_pure n y (nice_mem he hy), Val.pure]) (is_edge_spec (nice_mem he hy) (by omega))) (nice_len he)
        exact s_tst (s_cN (s_cons lc s_nil) (allV_map _ es))
      | _ => cases z2
    have wr : gInt 1 2 c = true → isTp es = true → mL es = true → mE c es = true → c2 MV.eqV (cN listV (consM (c2 idxV (rdO 0) (cC (.int 1))) nilM)) (c1 sortSetV (c2 idxV (rdO 0) (cC (.int 1)))) (hSl (.tup [c, es])) = some (.bl (rS es), hSl (.tup [c, es])) := fun z1 z2 z3 z4 => by
      obtain ⟨ci, rfl, ci1, ci2⟩ := gInt_inv z1
      obtain ⟨cn, rfl⟩ : ∃ k : Nat, ci = k := ⟨ci.toNat, by omega⟩
      cases es with
      | tup es =>
        have hE : ∀ e ∈ es, EdgeP cn e := fun e h => gEdge_iff.mp (List.all_eq_true.mp z4 e h)
        have hl : es.length ≤ 1000 := nice_len he
        exact s_c2 (s_cN (s_cons i1 s_nil) (listV_t pe)) (s_c1 i1 (sortSet_seq rfl (edges_setOk hE (by omega)))) (sorted_edges hE (by omega))
      | _ => cases z2
    have t1 := q_or (s_not t0) (b := !gInt 1 2 c || !isTp es) fun _ => q_or (s_not w0) (b := !isTp es) fun _ => s_not w1
    have e : (!(!true || (!gInt 1 2 c || !isTp es)) && (!(!mL es || !mE c es) && rS es)) = gMach (.tup [c, es]) := by
      rw [gMach_eq]
      cases gInt 1 2 c <;> cases isTp es <;> cases mL es <;> cases mE c es <;> cases rS es <;> rfl
    refine Eq.mp (congrArg (fun v : Bool => Ret _ _ (Val.bl v)) e) ?_
    refine q_no t1 fun z1 => ?_
    simp at z1
    refine q_no (q_or (s_not (len_ch (D := rdO 0) i1 z1.2)) (b := !mE c es) fun _ => s_not (w2 z1.1 z1.2)) fun z2 => ?_
    simp at z2
    exact q_ret (wr z1.1 z1.2 z2.1 z2.2)
theorem good_machine_spec {x : Val} (hx : x.nice n = true) (hn : n ≤ 60) : m__law_good_machine [x] = some (.bl (gMach x)) := by
  have px := nice_pure n x hx
  unfold m__law_good_machine b__law_good_machine
  refine q_fn ?_
  show Ret _ (hSl x) _
  have t0 : tst (callM m__law_made (consM (rdO 0) (consM (cC (.int 2)) nilM))) (hSl x) = some (gTup 2 x, hSl x) := s_tst (s_callM (s_cons (s_rdO rfl) (s_cons s_cC s_nil)) (by simp [pureL, px, Val.pure]) (made_spec hx 2))
  cases h2 : gTup 2 x with
  | false =>
    rw [gMach_tup h2]
    rw [h2] at t0
    exact q_ifT (q_or (s_not t0) (b := false) fun z => by cases z) (q_ret s_cC)
  | true =>
    rw [h2] at t0
    obtain ⟨c, es, rfl⟩ := tup2 h2
    have hc := nice_mem hx (x := c) (by simp)
    have he := nice_mem hx (x := es) (by simp)
    have pc := nice_pure n c hc
    have pe := nice_pure n es he
    have i0 := m_ix (xs := [c, es]) (k := 0) rfl pc
    have i1 := m_ix (xs := [c, es]) (k := 1) rfl pe
    have w0 : tst (callM m__law_int (consM (c2 idxV (rdO 0) (cC (.int 0))) (consM (cC (.int 1)) (consM (cC (.int 2)) nilM)))) (hSl (.tup [c, es])) = some (gInt 1 2 c, hSl (.tup [c, es])) :=
      s_tst (s_callM (s_cons i0 (s_cons s_cC (s_cons s_cC s_nil))) (by simp [pureL, pc, Val.pure]) (int_spec hc 1 2))
    have w1 : tst (c1 (isiV .tTuple) (c2 idxV (rdO 0) (cC (.int 1)))) (hSl (.tup [c, es])) = some (isTp es, hSl (.tup [c, es])) := s_tst (s_c1 i1 (isi_tup he))
    have w2 : gInt 1 2 c = true → isTp es = true → tst (c2 neV (lcM (seqI (c2 idxV (rdO 0) (cC (.int 1)))) (nameT 1) (MV.notM (tst (callM m__law_good_edge (consM (c2 idxV (rdO 0) (cC (.int 0))) (consM (rdO 1) nilM))))) (rdE 1) [1]) (cN mkLst nilM)) (hSl (.tup [c, es])) = some (!mE c es, hSl (.tup [c, es])) := fun z1 z2 => by
      obtain ⟨ci, rfl, ci1, ci2⟩ := gInt_inv z1
      obtain ⟨cn, rfl⟩ : ∃ k : Nat, ci = k := ⟨ci.toNat, by omega⟩
      cases es with
      | tup es =>
        have lc := q_filter' (i := 1) (C := MV.notM (tst (callM m__law_good_edge (consM (c2 idxV (rdO 0) (cC (.int 0))) (consM (rdO 1) nilM))))) (fun x => !gEdge cn x) (q_seqI i1 rfl pe) pe rfl
          (fun y hy => s_not (s_tst (s_callM (s_cons (q_ix (s_rdO rfl) s_cC rfl rfl) (s_cons (s_rdO rfl) s_nil)) (by simp [pureL, nice_pure n y (nice_mem he hy), Val.pure]) (good_edge_spec (nice_mem he hy) (by omega) hn)))) (nice_len he)
        have e := ne_nil (m := true) (m' := true) (zs := es.filter fun x => !gEdge cn x) (nice_lst_okD (n := n) (fun z hz => nice_mem he (List.mem_filter.mp hz).1) (by omega))
        rw [filter_empty] at e
        exact s_tst (s_c2 lc (s_cN s_nil (mkLst_ok (show 0 ≤ 1000 by decide))) e)
      | _ => cases z2
    have wr : gInt 1 2 c = true → isTp es = true → mL es = true → mE c es = true → callM m__law_rising (consM (c2 idxV (rdO 0) (cC (.int 1))) nilM) (hSl (.tup [c, es])) = some (.bl (rS es), hSl (.tup [c, es])) := fun z1 z2 z3 z4 => by
      obtain ⟨ci, rfl, ci1, ci2⟩ := gInt_inv z1
      obtain ⟨cn, rfl⟩ : ∃ k : Nat, ci = k := ⟨ci.toNat, by omega⟩
      cases es with
      | tup es =>
        have hE : ∀ e ∈ es, EdgeP cn e := fun e h => gEdge_iff.mp (List.all_eq_true.mp z4 e h)
        exact s_callM (s_cons i1 s_nil) (by simp [pureL, pe]) (rising_spec (nice_len he) pe (ltV_edges hE))
      | _ => cases z2
    have t1 := q_or (s_not t0) (b := !gInt 1 2 c || !isTp es) fun _ => q_or (s_not w0) (b := !isTp es) fun _ => s_not w1
    have e : (!(!true || (!gInt 1 2 c || !isTp es)) && (!(!mL es) && (!(!mE c es) && rS es))) = gMach (.tup [c, es]) := by
      rw [gMach_eq]
      cases gInt 1 2 c <;> cases isTp es <;> cases mL es <;> cases mE c es <;> cases rS es <;> rfl
    refine Eq.mp (congrArg (fun v : Bool => Ret _ _ (Val.bl v)) e) ?_
    refine q_no t1 fun z1 => ?_
    simp at z1
    refine q_no (s_not (len_ch (D := rdO 0) i1 z1.2)) fun z2 => q_no (w2 z1.1 z1.2) fun z3 => ?_
    exact q_ret (wr z1.1 z1.2 (by simpa using z2) (by simpa using z3))
end
end K01
end

section
set_option maxHeartbeats 4000000
/-! the greatest common divisor; fractions -/
namespace K01
open MV PySem
section
variable {τ τ1 τ2 : Sl} {T : Tv} {B : Sv} {p : Fl × Sl}
theorem s_whileF (h : T τ = some (false, τ1)) : whileM T B τ = some (.next, τ1) := by
  rw [whileM_eq, h]
  rfl
theorem s_whileT (h : T τ = some (true, τ1)) (h2 : B τ1 = some (.next, τ2)) (h3 : whileM T B τ2 = some p) : whileM T B τ = some p := by
  rw [whileM_eq, h]
  simp only [Option.bind_some, if_true, h2, h3]
end
theorem mod_nat {a b : Nat} (h : 0 < b) : modV (.int a) (.int b) = some (.int ((a % b : Nat) : Int)) :=
  (if_pos (c := decide ((0 : Int) < (b : Int)) = true) (by simpa using h)).trans rfl
theorem div_nat {a b : Nat} (h : 0 < b) (hl : b.log2 < 9000) : fdivV (.int a) (.int b) = some (.int ((a / b : Nat) : Int)) :=
  (if_pos (c := (decide ((0 : Int) < (b : Int)) && decide (((b : Int)).natAbs.log2 < 9000)) = true) (by simp; exact ⟨h, by simpa using hl⟩)).trans rfl
theorem ne_nat (a : Nat) : neV (.int a) (.int 0) = some (.bl (decide (a ≠ 0))) := by
  simp only [neV, eqB_int, Option.bind_some]
  congr 2
  cases a <;> simp
  omega
theorem common_loop : ∀ (b a : Nat), whileM (tst (c2 neV (rdO 1) (cC (.int 0)))) (parM 0 1 (consM (rdE 1) (consM (c2 modV (rdO 0) (rdO 1)) nilM))) [some (.int a), some (.int b)] = some (.next, [some (.int (Nat.gcd a b)), some (.int 0)]) := by
  intro b
  induction b using Nat.strongRecOn with
  | ind b ih =>
    intro a
    rcases Nat.eq_zero_or_pos b with rfl | hb
    · rw [Nat.gcd_zero_right]
      exact s_whileF (s_tst (s_c2 (s_rdO rfl) s_cC (ne_nat 0)))
    · have hne : decide (b ≠ 0) = true := by simp; omega
      refine s_whileT (s_tst (s_c2 (s_rdO rfl) s_cC (by rw [ne_nat, hne]))) (s_par' (τ2 := [some (.int b), some (.int ((a % b : Nat) : Int))]) (s_cons (s_rdE rfl rfl) (s_cons (s_c2 (s_rdO rfl) (s_rdO rfl) (mod_nat hb)) s_nil))) ?_
      rw [ih (a % b) (Nat.mod_lt _ hb) b]
      rw [Nat.gcd_comm a b, Nat.gcd_rec b a, Nat.gcd_comm]
theorem common_spec (a b : Nat) : m_common [.int a, .int b] = some (.int (Nat.gcd a b)) := by
  unfold m_common b_common
  refine q_fn ?_
  exact q_seq (common_loop b a) (q_ret (s_mvE rfl))
theorem low_loop (t u : Val) : ∀ (b a : Nat), whileM (tst (c2 neV (rdO 3) (cC (.int 0)))) (parM 2 3 (consM (rdE 3) (consM (c2 modV (rdO 2) (rdO 3)) nilM))) [some t, some u, some (.int a), some (.int b)] = some (.next, [some t, some u, some (.int (Nat.gcd a b)), some (.int 0)]) := by
  intro b
  induction b using Nat.strongRecOn with
  | ind b ih =>
    intro a
    rcases Nat.eq_zero_or_pos b with rfl | hb
    · rw [Nat.gcd_zero_right]
      exact s_whileF (s_tst (s_c2 (s_rdO rfl) s_cC (ne_nat 0)))
    · have hne : decide (b ≠ 0) = true := by simp; omega
      refine s_whileT (s_tst (s_c2 (s_rdO rfl) s_cC (by rw [ne_nat, hne]))) (s_par' (τ2 := [some t, some u, some (.int b), some (.int ((a % b : Nat) : Int))]) (s_cons (s_rdE rfl rfl) (s_cons (s_c2 (s_rdO rfl) (s_rdO rfl) (mod_nat hb)) s_nil))) ?_
      rw [ih (a % b) (Nat.mod_lt _ hb) b]
      rw [Nat.gcd_comm a b, Nat.gcd_rec b a, Nat.gcd_comm]
theorem log_le {g : Nat} (h : g ≤ 10 ^ 100) : g.log2 < 9000 := by
  rcases Nat.eq_zero_or_pos g with rfl | hg
  · decide
  · exact (Nat.log2_lt (by omega)).mpr (Nat.lt_of_le_of_lt h (by decide +kernel))
theorem low_spec {a b : Nat} (hb : 0 < b) (h : b ≤ 10 ^ 100) : m__law_low [.int a, .int b] = some (.tup [.int ((a / Nat.gcd a b : Nat) : Int), .int ((b / Nat.gcd a b : Nat) : Int)]) := by
  have g0 : 0 < Nat.gcd a b := Nat.gcd_pos_of_pos_right a hb
  have gl : Nat.gcd a b ≤ b := Nat.gcd_le_right a hb
  have lg := log_le (Nat.le_trans gl h)
  unfold m__law_low b__law_low
  refine q_fn ?_
  refine q_seq (τ1 := [some (.int a), some (.int b), some (.int a), some (.int b)]) (s_par' (s_cons (s_rdE rfl rfl) (s_cons (s_rdE rfl rfl) s_nil))) ?_
  refine q_seq (low_loop _ _ b a) ?_
  exact q_ret (s_cN (s_cons (s_c2 (s_rdO rfl) (s_rdO rfl) (div_nat g0 lg)) (s_cons (s_c2 (s_rdO rfl) (s_rdO rfl) (div_nat g0 lg)) s_nil)) (mkTup_ok (show 2 ≤ 1000 by decide)))
end K01
end

section
set_option maxHeartbeats 4000000
/-! rows as they are read by both -/
namespace K01
open MV PySem
def geI (lo : Int) : Val → Bool
  | .int i => decide (lo ≤ i)
  | _ => false
def gFrac : Val → Bool
  | .tup [.int a, .int b] => decide (0 ≤ a) && decide (1 ≤ b) && decide (Nat.gcd a.toNat b.toNat = 1)
  | _ => false
def gBeat : Val → Bool
  | .tup [f, sg] => gFrac f && gSign sg
  | _ => false
def gRow : Val → Bool
  | .tup bs => decide (bs.length ≤ 30) && bs.all gBeat
  | _ => false
theorem ge_ok {i j : Int} : geV (.int i) (.int j) = some (.bl (decide (j ≤ i))) := rfl
theorem nat_of {a : Int} (h : 0 ≤ a) : (.int a : Val) = .int ((a.toNat : Nat) : Int) := by rw [Int.toNat_of_nonneg h]
theorem gFrac_tup {x : Val} (h : gTup 2 x = false) : gFrac x = false := by
  unfold gFrac
  split
  · simp [gTup] at h
  · rfl
section
variable {n : Nat}
theorem fraction_spec {x : Val} (hx : x.nice n = true) : m_is_fraction [x] = some (.bl (gFrac x)) := by
  have px := nice_pure n x hx
  unfold m_is_fraction b_is_fraction
  refine q_fn ?_
  show Ret _ (hSl x) _
  have t0 : tst (callM m_is_row_of (consM (rdO 0) (consM (cC (.int 2)) nilM))) (hSl x) = some (gTup 2 x, hSl x) := s_tst (s_callM (s_cons (s_rdO rfl) (s_cons s_cC s_nil)) (by simp [pureL, px, Val.pure]) (row_of_spec hx 2))
  cases h2 : gTup 2 x with
  | false =>
    rw [gFrac_tup h2]
    rw [h2] at t0
    exact q_ifT (q_or (s_not t0) (b := false) fun z => by cases z) (q_ret s_cC)
  | true =>
    rw [h2] at t0
    obtain ⟨a, b, rfl⟩ := tup2 h2
    have ha := nice_mem hx (x := a) (by simp)
    have hb := nice_mem hx (x := b) (by simp)
    have pa := nice_pure n a ha
    have pb := nice_pure n b hb
    have i0 := m_ix (xs := [a, b]) (k := 0) rfl pa
    have i1 := m_ix (xs := [a, b]) (k := 1) rfl pb
    have t1 : tst (cN allV (consM (lcM (seqI (rdE 0)) (nameT 1) yesM (andV (c1 (isiV .tInt) (rdO 1)) (notV (c1 (isiV .tBool) (rdO 1)))) [1]) nilM)) (hSl (.tup [a, b])) = some (isI a && isI b, hSl (.tup [a, b])) := by
      have lc := q_map' (i := 1) (E := andV (c1 (isiV .tInt) (rdO 1)) (notV (c1 (isiV .tBool) (rdO 1)))) (fun y => .bl ((isI y || isB y) && !isB y)) (q_seqI (s_rdE (i := 0) (τ := hSl (.tup [a, b])) rfl px) rfl px) rfl (fun y hy => q_vand (s_c1 (s_rdO rfl) (isi_int (nice_mem hx hy))) fun _ => s_vnot (s_c1 (s_rdO rfl) (isi_bool (nice_mem hx hy)))) (show 2 ≤ 1000 by decide)
      have e : ([a, b].all fun y => (isI y || isB y) && !isB y) = (isI a && isI b) := by
        have k : ∀ y : Val, ((isI y || isB y) && !isB y) = isI y := fun y => by cases y <;> rfl
        simp only [k, List.all_cons, List.all_nil, Bool.and_true]
      have r := s_tst (s_cN (s_cons lc s_nil) (allV_map (fun y => (isI y || isB y) && !isB y) [a, b]))
      rw [e] at r
      exact r
    have t := q_or (s_not t0) (b := !(isI a && isI b)) fun _ => s_not t1
    have e : (!(!true || !(isI a && isI b)) && gFrac (.tup [a, b])) = gFrac (.tup [a, b]) := by
      cases hg : gFrac (.tup [a, b]) with
      | false => simp
      | true =>
        unfold gFrac at hg
        split at hg
        · rename_i a' b' e
          cases e
          rfl
        · cases hg
    refine Eq.mp (congrArg (fun v : Bool => Ret _ _ (Val.bl v)) e) ?_
    refine q_no t fun z => ?_
    simp at z
    cases a <;> try cases z.1
    cases b <;> try cases z.2
    rename_i a b
    simp only [gFrac, Bool.and_assoc]
    refine q_ret (q_vand (s_c2 i0 s_cC ge_ok) fun z1 => q_vand (s_c2 i1 s_cC ge_ok) fun z2 => ?_)
    have h1 : 0 ≤ a := by simpa using z1
    have h2 : 1 ≤ b := by simpa using z2
    refine s_c2 (s_callM (s_cons i0 (s_cons i1 s_nil)) rfl (by rw [nat_of h1, nat_of (show 0 ≤ b by omega)]; exact common_spec _ _)) s_cC ?_
    rw [show (.int 1 : Val) = .int ((1 : Nat) : Int) from rfl, eqB_int]
    congr 2
    simp only [Int.ofNat_inj]
theorem beat_spec {x : Val} (hx : x.nice n = true) : m_is_beat [x] = some (.bl (gBeat x)) := by
  have px := nice_pure n x hx
  unfold m_is_beat b_is_beat
  have t0 : callM m_is_row_of (consM (rdO 0) (consM (cC (.int 2)) nilM)) [some x] = some (.bl (gTup 2 x), [some x]) := s_callM (s_cons (s_rdO rfl) (s_cons s_cC s_nil)) (by simp [pureL, px, Val.pure]) (row_of_spec hx 2)
  refine q_fn ?_
  show Ret _ [some x] _
  cases h2 : gTup 2 x with
  | false =>
    rw [h2] at t0
    have e : gBeat x = false := by
      unfold gBeat
      split
      · simp [gTup] at h2
      · rfl
    rw [e]
    exact q_ret (s_vand1 t0)
  | true =>
    rw [h2] at t0
    obtain ⟨f, sg, rfl⟩ := tup2 h2
    have hf := nice_mem hx (x := f) (by simp)
    have hs := nice_mem hx (x := sg) (by simp)
    have pf := nice_pure n f hf
    have ps := nice_pure n sg hs
    have i0 : c2 idxV (rdO 0) (cC (.int 0)) [some (.tup [f, sg])] = some (f, [some (.tup [f, sg])]) := q_ix (s_rdO rfl) s_cC rfl pf
    have i1 : c2 idxV (rdO 0) (cC (.int 1)) [some (.tup [f, sg])] = some (sg, [some (.tup [f, sg])]) := q_ix (s_rdO rfl) s_cC rfl ps
    exact q_ret (s_vand2 t0 (q_vand (s_callM (s_cons i0 s_nil) (by simp [pureL, pf]) (fraction_spec hf)) fun _ => s_callM (s_cons i1 s_nil) (by simp [pureL, ps]) (is_sign_spec hs)))
theorem is_row_spec {x : Val} (hx : x.nice n = true) : m_is_row [x] = some (.bl (gRow x)) := by
  have px := nice_pure n x hx
  unfold m_is_row b_is_row
  refine q_fn ?_
  show Ret _ (hSl x) _
  cases x with
  | tup bs =>
    have lc := q_map' (i := 1) (E := callM m_is_beat (consM (rdO 1) nilM)) (fun y => .bl (gBeat y)) (q_seqI (s_rdE (i := 0) (τ := hSl (.tup bs)) rfl px) rfl px) rfl (fun y hy => s_callM (s_cons (s_rdO rfl) s_nil) (by simp [pureL, nice_pure n y (nice_mem hx hy)]) (beat_spec (nice_mem hx hy))) (nice_len hx)
    refine q_ret (s_vand2 (s_c1 (s_rdO rfl) rfl) (q_vand (a := decide (bs.length ≤ 30)) (s_c2 (s_cN (s_cons (s_rdO rfl) s_nil) rfl) s_cC ?_) fun _ => s_cN (s_cons lc s_nil) (allV_map _ bs)))
    show some (Val.bl (decide ((bs.length : Int) ≤ 30))) = _
    congr 2
    simp only [decide_eq_decide]
    omega
  | lst m xs => exact q_ret (s_vand1 (s_c1 (s_rdO rfl) rfl))
  | dct _ _ _ _ => simp [Val.nice] at hx
  | scr _ => simp [Val.nice] at hx
  | non => exact q_ret (s_vand1 (s_c1 (s_rdO rfl) rfl))
  | bl _ => exact q_ret (s_vand1 (s_c1 (s_rdO rfl) rfl))
  | int _ => exact q_ret (s_vand1 (s_c1 (s_rdO rfl) rfl))
  | str _ => exact q_ret (s_vand1 (s_c1 (s_rdO rfl) rfl))
theorem pow40 : powV (.int 10) (.int 40) = some (.int (10 ^ 40)) := rfl
theorem gInt_nice {lo : Int} {x : Val} (hx : x.nice n = true) : gInt lo (10 ^ 40) x = geI lo x := by
  cases x with
  | int i =>
    have h : i ≤ 10 ^ 40 := by
      cases n <;> (simp only [Val.nice, Bool.and_eq_true, decide_eq_true_eq] at hx; exact hx.2)
    simp only [gInt, geI, decide_eq_true h, Bool.and_true]
  | _ => rfl
theorem ne_pairs {a b c d : Nat} : neV (.tup [.int a, .int b]) (.tup [.int c, .int d]) = some (.bl (!(decide (a = c) && decide (b = d)))) := by
  have e : MV.eqV (.tup [.int a, .int b]) (.tup [.int c, .int d]) = some (.bl (decide (a = c) && decide (b = d))) := by
    have k1 : okD (.tup [.int a, .int b]) = true := rfl
    have k2 : okD (.tup [.int c, .int d]) = true := rfl
    simp only [MV.eqV, k1, k2, Bool.and_self, if_true, Val.toD, toDL, PyData.eqv, PyData.eqvAll, Bool.and_true]
    have k : ∀ x y : Nat, ((x : Int) == (y : Int)) = decide (x = y) := fun x y => by
      rw [Bool.eq_iff_iff]
      simp only [beq_iff_eq, decide_eq_true_eq, Int.ofNat_inj]
    rw [k, k]
  simp only [neV, e, Option.bind_some]
/-- one beat, in the law's way of reading -/
theorem good_beat {x y : Val} (hy : y.nice n = true) :
    ∃ τ2, (gBeat y = true → (seqM (ifM (MV.orM (MV.notM (tst (callM m__law_made (consM (rdO 1) (consM (cC (.int 2)) nilM))))) (MV.orM (MV.notM (tst (callM m__law_good_sign (consM (c2 idxV (rdO 1) (cC (.int 1))) nilM)))) (MV.notM (tst (callM m__law_made (consM (c2 idxV (rdO 1) (cC (.int 0))) (consM (cC (.int 2)) nilM))))))) (retM (cC (.bl false))) nextM)
  (seqM (ifM (MV.orM (MV.notM (tst (callM m__law_int (consM (c2 idxV (c2 idxV (rdO 1) (cC (.int 0))) (cC (.int 0))) (consM (cC (.int 0)) (consM (c2 powV (cC (.int 10)) (cC (.int 40))) nilM)))))) (MV.notM (tst (callM m__law_int (consM (c2 idxV (c2 idxV (rdO 1) (cC (.int 0))) (cC (.int 1))) (consM (cC (.int 1)) (consM (c2 powV (cC (.int 10)) (cC (.int 40))) nilM))))))) (retM (cC (.bl false))) nextM)
  (ifM (tst (c2 neV (callM m__law_low (consM (c2 idxV (c2 idxV (rdO 1) (cC (.int 0))) (cC (.int 0))) (consM (c2 idxV (c2 idxV (rdO 1) (cC (.int 0))) (cC (.int 1))) nilM))) (c2 idxV (rdO 1) (cC (.int 0))))) (retM (cC (.bl false))) nextM))) [some x, some y] = some (.next, τ2) ∧ τ2 = [some x, some y]) ∧
    (gBeat y = false → (seqM (ifM (MV.orM (MV.notM (tst (callM m__law_made (consM (rdO 1) (consM (cC (.int 2)) nilM))))) (MV.orM (MV.notM (tst (callM m__law_good_sign (consM (c2 idxV (rdO 1) (cC (.int 1))) nilM)))) (MV.notM (tst (callM m__law_made (consM (c2 idxV (rdO 1) (cC (.int 0))) (consM (cC (.int 2)) nilM))))))) (retM (cC (.bl false))) nextM)
  (seqM (ifM (MV.orM (MV.notM (tst (callM m__law_int (consM (c2 idxV (c2 idxV (rdO 1) (cC (.int 0))) (cC (.int 0))) (consM (cC (.int 0)) (consM (c2 powV (cC (.int 10)) (cC (.int 40))) nilM)))))) (MV.notM (tst (callM m__law_int (consM (c2 idxV (c2 idxV (rdO 1) (cC (.int 0))) (cC (.int 1))) (consM (cC (.int 1)) (consM (c2 powV (cC (.int 10)) (cC (.int 40))) nilM))))))) (retM (cC (.bl false))) nextM)
  (ifM (tst (c2 neV (callM m__law_low (consM (c2 idxV (c2 idxV (rdO 1) (cC (.int 0))) (cC (.int 0))) (consM (c2 idxV (c2 idxV (rdO 1) (cC (.int 0))) (cC (.int 1))) nilM))) (c2 idxV (rdO 1) (cC (.int 0))))) (retM (cC (.bl false))) nextM))) [some x, some y] = some (.ret (.bl false), τ2)) := by
  have py := nice_pure n y hy
  refine ⟨[some x, some y], ?_⟩
  have t0 : tst (callM m__law_made (consM (rdO 1) (consM (cC (.int 2)) nilM))) [some x, some y] = some (gTup 2 y, [some x, some y]) := s_tst (s_callM (s_cons (s_rdO rfl) (s_cons s_cC s_nil)) (by simp [pureL, py, Val.pure]) (made_spec hy 2))
  cases h2 : gTup 2 y with
  | false =>
    rw [h2] at t0
    have e : gBeat y = false := by
      unfold gBeat
      split
      · simp [gTup] at h2
      · rfl
    rw [e]
    exact ⟨fun z => absurd z Bool.false_ne_true, fun _ => s_seqR (s_ifT (q_or (s_not t0) (b := false) fun z => by cases z) (s_ret s_cC))⟩
  | true =>
    rw [h2] at t0
    obtain ⟨f, sg, rfl⟩ := tup2 h2
    have hf := nice_mem hy (x := f) (by simp)
    have hs := nice_mem hy (x := sg) (by simp)
    have pf := nice_pure n f hf
    have ps := nice_pure n sg hs
    have i0 : c2 idxV (rdO 1) (cC (.int 0)) [some x, some (.tup [f, sg])] = some (f, [some x, some (.tup [f, sg])]) := q_ix (s_rdO rfl) s_cC rfl pf
    have i1 : c2 idxV (rdO 1) (cC (.int 1)) [some x, some (.tup [f, sg])] = some (sg, [some x, some (.tup [f, sg])]) := q_ix (s_rdO rfl) s_cC rfl ps
    have w1 : tst (callM m__law_good_sign (consM (c2 idxV (rdO 1) (cC (.int 1))) nilM)) [some x, some (.tup [f, sg])] = some (gSign sg, [some x, some (.tup [f, sg])]) := s_tst (s_callM (s_cons i1 s_nil) (by simp [pureL, ps]) (good_sign_spec hs))
    have w2 : tst (callM m__law_made (consM (c2 idxV (rdO 1) (cC (.int 0))) (consM (cC (.int 2)) nilM))) [some x, some (.tup [f, sg])] = some (gTup 2 f, [some x, some (.tup [f, sg])]) := s_tst (s_callM (s_cons i0 (s_cons s_cC s_nil)) (by simp [pureL, pf, Val.pure]) (made_spec hf 2))
    have t1 := q_or (s_not t0) (b := !gSign sg || !gTup 2 f) fun _ => q_or (s_not w1) (b := !gTup 2 f) fun _ => s_not w2
    have gb : gBeat (.tup [f, sg]) = (gFrac f && gSign sg) := rfl
    rw [gb]
    cases hg : (!true || (!gSign sg || !gTup 2 f)) with
    | true =>
      have e : (gFrac f && gSign sg) = false := by
        simp at hg
        rcases hg with hg | hg
        · simp [hg]
        · simp [gFrac_tup hg]
      rw [e]
      exact ⟨fun z => absurd z Bool.false_ne_true, fun _ => s_seqR (s_ifT (t1.trans (by rw [hg])) (s_ret s_cC))⟩
    | false =>
      have t1' := t1.trans (show some (!true || (!gSign sg || !gTup 2 f), [some x, some (.tup [f, sg])]) = some (false, [some x, some (.tup [f, sg])]) by rw [hg])
      simp at hg
      obtain ⟨a, b, rfl⟩ := tup2 hg.2
      have ha := nice_mem hf (x := a) (by simp)
      have hb := nice_mem hf (x := b) (by simp)
      have pa := nice_pure n a ha
      have pb := nice_pure n b hb
      have j0 : c2 idxV (c2 idxV (rdO 1) (cC (.int 0))) (cC (.int 0)) [some x, some (.tup [.tup [a, b], sg])] = some (a, [some x, some (.tup [.tup [a, b], sg])]) := q_ix i0 s_cC rfl pa
      have j1 : c2 idxV (c2 idxV (rdO 1) (cC (.int 0))) (cC (.int 1)) [some x, some (.tup [.tup [a, b], sg])] = some (b, [some x, some (.tup [.tup [a, b], sg])]) := q_ix i0 s_cC rfl pb
      have v0 := s_tst (s_callM (f := m__law_int) (s_cons j0 (s_cons (s_cC (x := .int 0)) (s_cons (s_c2 (g := powV) (s_cC (x := .int 10)) (s_cC (x := .int 40)) pow40) s_nil))) (by simp [pureL, pa, Val.pure]) (int_spec ha 0 (10 ^ 40)))
      have v1 := s_tst (s_callM (f := m__law_int) (s_cons j1 (s_cons (s_cC (x := .int 1)) (s_cons (s_c2 (g := powV) (s_cC (x := .int 10)) (s_cC (x := .int 40)) pow40) s_nil))) (by simp [pureL, pb, Val.pure]) (int_spec hb 1 (10 ^ 40)))
      rw [gInt_nice ha] at v0
      rw [gInt_nice hb] at v1
      have t2 := q_or (s_not v0) fun _ => s_not v1
      cases hg2 : (!geI 0 a || !geI 1 b) with
      | true =>
        have e : (gFrac (.tup [a, b]) && gSign sg) = false := by
          cases a <;> cases b <;> first | rfl | (rename_i i j; by_cases h0 : 0 ≤ i <;> by_cases h1 : (1 : Int) ≤ j <;> simp [gFrac, geI, h0, h1] at hg2 ⊢)
        rw [e]
        exact ⟨fun z => absurd z Bool.false_ne_true, fun _ => s_seq (s_ifF t1' s_next) (s_seqR (s_ifT (t2.trans (by rw [hg2])) (s_ret s_cC)))⟩
      | false =>
        have t2' := t2.trans (by rw [hg2])
        cases a <;> simp [geI] at hg2
        cases b <;> simp [geI] at hg2
        rename_i a b
        obtain ⟨ga, gb2⟩ := hg2
        obtain ⟨na, rfl⟩ : ∃ k : Nat, a = k := ⟨a.toNat, by omega⟩
        obtain ⟨nb, rfl⟩ : ∃ k : Nat, b = k := ⟨b.toNat, by omega⟩
        have nb0 : 0 < nb := by omega
        have nbl : nb ≤ 10 ^ 100 := by
          have : (nb : Int) ≤ 10 ^ 40 := by
            cases n <;> (simp only [Val.nice, Bool.and_eq_true, decide_eq_true_eq] at hb; exact hb.2)
          omega
        have t3 := s_tst (s_c2 (s_callM (f := m__law_low) (s_cons j0 (s_cons j1 s_nil)) rfl (low_spec (a := na) nb0 nbl)) i0 ne_pairs)
        have ge : (decide (na / Nat.gcd na nb = na) && decide (nb / Nat.gcd na nb = nb)) = decide (Nat.gcd na nb = 1) := by
          rw [Bool.eq_iff_iff]
          simp only [Bool.and_eq_true, decide_eq_true_eq]
          constructor
          · rintro ⟨_, h⟩
            rcases Nat.div_eq_self.mp h with h | h
            · omega
            · exact h
          · intro h
            simp [h]
        rw [ge] at t3
        have e : (gFrac (.tup [.int na, .int nb]) && gSign sg) = decide (Nat.gcd na nb = 1) := by
          have h1 : (1 : Int) ≤ nb := by omega
          simp [gFrac, hg.1, h1]
        rw [e]
        refine ⟨fun z => ⟨s_seq (s_ifF t1' s_next) (s_seq (s_ifF t2' s_next) (s_ifF (t3.trans (by rw [z]; rfl)) s_next)), rfl⟩, fun z => s_seq (s_ifF t1' s_next) (s_seq (s_ifF t2' s_next) (s_ifT (t3.trans (by rw [z]; rfl)) (s_ret s_cC)))⟩
end
end K01
end

section
set_option maxHeartbeats 4000000
/-! rows as the law reads them; twins -/
namespace K01
open MV PySem
theorem any_not (p : Val → Bool) : ∀ xs : List Val, xs.any (fun y => !p y) = !xs.all p
  | [] => rfl
  | x :: r => by simp only [List.any_cons, List.all_cons, any_not p r, Bool.not_and]
theorem good_row_spec {n : Nat} {x : Val} (hx : x.nice n = true) : m__law_good_row [x] = some (.bl (gRow x)) := by
  have px := nice_pure n x hx
  unfold m__law_good_row b__law_good_row
  refine q_fn ?_
  show Ret _ (hSl x) _
  cases x with
  | tup bs =>
    have t1 : MV.orM (MV.notM (tst (c1 (isiV .tTuple) (rdO 0)))) (tst (c2 gtV (cN lenV (consM (rdO 0) nilM)) (cC (.int 30)))) (hSl (.tup bs)) = some (decide (30 < bs.length), hSl (.tup bs)) := by
      refine s_or2 (s_not (b := true) (s_tst (s_c1 (s_rdO rfl) rfl))) (s_tst (s_c2 (s_cN (s_cons (s_rdO rfl) s_nil) rfl) s_cC ?_))
      show some (Val.bl (decide ((30 : Int) < (bs.length : Int)))) = _
      congr 2
      simp only [decide_eq_decide]
      omega
    by_cases hl : 30 < bs.length
    · have e : gRow (.tup bs) = false := by simp [gRow]; omega
      rw [e]
      exact q_ifT (t1.trans (by rw [decide_eq_true hl])) (q_ret s_cC)
    · refine q_ifF (t1.trans (by rw [decide_eq_false hl])) ?_
      have e : gRow (.tup bs) = bs.all gBeat := by simp only [gRow, decide_eq_true (show bs.length ≤ 30 by omega), Bool.true_and]
      rw [e]
      obtain ⟨τ', f1, f2⟩ := forL_find (T := nameT 1) (B := seqM (ifM (MV.orM (MV.notM (tst (callM m__law_made (consM (rdO 1) (consM (cC (.int 2)) nilM))))) (MV.orM (MV.notM (tst (callM m__law_good_sign (consM (c2 idxV (rdO 1) (cC (.int 1))) nilM)))) (MV.notM (tst (callM m__law_made (consM (c2 idxV (rdO 1) (cC (.int 0))) (consM (cC (.int 2)) nilM))))))) (retM (cC (.bl false))) nextM)
  (seqM (ifM (MV.orM (MV.notM (tst (callM m__law_int (consM (c2 idxV (c2 idxV (rdO 1) (cC (.int 0))) (cC (.int 0))) (consM (cC (.int 0)) (consM (c2 powV (cC (.int 10)) (cC (.int 40))) nilM)))))) (MV.notM (tst (callM m__law_int (consM (c2 idxV (c2 idxV (rdO 1) (cC (.int 0))) (cC (.int 1))) (consM (cC (.int 1)) (consM (c2 powV (cC (.int 10)) (cC (.int 40))) nilM))))))) (retM (cC (.bl false))) nextM)
  (ifM (tst (c2 neV (callM m__law_low (consM (c2 idxV (c2 idxV (rdO 1) (cC (.int 0))) (cC (.int 0))) (consM (c2 idxV (c2 idxV (rdO 1) (cC (.int 0))) (cC (.int 1))) nilM))) (c2 idxV (rdO 1) (cC (.int 0))))) (retM (cC (.bl false))) nextM)))
        (fun τ => ∃ o, τ = [some (.tup bs), o]) (fun y => !gBeat y) (.bl false) bs (hSl (.tup bs)) ⟨none, rfl⟩ fun y hy τ ⟨o, eτ⟩ => by
          subst eτ
          obtain ⟨τ2, g1, g2⟩ := good_beat (x := .tup bs) (nice_mem hx hy)
          exact ⟨[some (.tup bs), some y], rfl, τ2, fun z => ⟨(g1 (by simpa using z)).1, some y, (g1 (by simpa using z)).2⟩, fun z => g2 (by simpa using z)⟩
      have hI := q_seqI (s_rdE (i := 0) (τ := hSl (.tup bs)) rfl px) (xs := bs) rfl px
      rw [any_not] at f1 f2
      cases ha : bs.all gBeat with
      | true =>
        obtain ⟨f3, _⟩ := f1 (by rw [ha]; rfl)
        exact q_seq (s_for hI f3) (q_ret s_cC)
      | false => exact ⟨τ', s_seqR (s_for hI (f2 (by rw [ha]; rfl)))⟩
  | lst m xs => exact q_ifT (s_or1 (s_not (b := false) (s_tst (s_c1 (s_rdO rfl) rfl)))) (q_ret s_cC)
  | dct _ _ _ _ => simp [Val.nice] at hx
  | scr _ => simp [Val.nice] at hx
  | non => exact q_ifT (s_or1 (s_not (b := false) (s_tst (s_c1 (s_rdO rfl) rfl)))) (q_ret s_cC)
  | bl _ => exact q_ifT (s_or1 (s_not (b := false) (s_tst (s_c1 (s_rdO rfl) rfl)))) (q_ret s_cC)
  | int _ => exact q_ifT (s_or1 (s_not (b := false) (s_tst (s_c1 (s_rdO rfl) rfl)))) (q_ret s_cC)
  | str _ => exact q_ifT (s_or1 (s_not (b := false) (s_tst (s_c1 (s_rdO rfl) rfl)))) (q_ret s_cC)
/-! twins -/
theorem kind_bl (b : Bool) : m__law_kind [.bl b] = some (.int 1) := by cases b <;> rfl
theorem twins_bl (n : Nat) (b : Bool) : m__law_twins (n + 1) [.bl b, .bl b] = some (.bl true) := by
  show fnM 2 (b__law_twins (m__law_twins n)) [.bl b, .bl b] = _
  unfold b__law_twins
  refine q_fn ?_
  show Ret _ [some (.bl b), some (.bl b), none, none] _
  refine q_ifF (s_tst (s_c2 (s_callM (s_cons (s_rdO rfl) s_nil) rfl (kind_bl b)) (s_callM (s_cons (s_rdO rfl) s_nil) rfl (kind_bl b)) rfl)) ?_
  refine q_ifF (s_tst (s_c2 (s_callM (s_cons (s_rdO rfl) s_nil) rfl (kind_bl b)) (s_cN (s_cons s_cC (s_cons s_cC s_nil)) (mkLst_ok (show 2 ≤ 1000 by decide))) rfl)) ?_
  exact q_ret (s_c2 (s_rdO rfl) (s_rdO rfl) (by cases b <;> rfl))
theorem kind_lst (m : Bool) (xs : List Val) : m__law_kind [.lst m xs] = some (.int 2) := by
  unfold m__law_kind b__law_kind
  refine q_fn ?_
  show Ret _ [some (.lst m xs)] _
  refine q_ifF (s_or2 (s_tst (s_c2 (s_rdO rfl) s_cC rfl)) (s_tst (s_c1 (s_rdO rfl) rfl))) ?_
  exact q_ifT (s_tst (s_c1 (s_rdO rfl) rfl)) (q_ret (s_if1 (s_tst (s_c1 (s_rdO rfl) rfl)) s_cC))
theorem twins_three (a b c : Bool) : m__law_twins 12 [.lst false [.bl a, .bl b, .bl c], .lst false [.bl a, .bl b, .bl c]] = some (.bl true) := by
  show fnM 2 (b__law_twins (m__law_twins 11)) _ = _
  unfold b__law_twins
  refine q_fn ?_
  show Ret _ [some (.lst false [.bl a, .bl b, .bl c]), some (.lst false [.bl a, .bl b, .bl c]), none, none] _
  have k := kind_lst false [.bl a, .bl b, .bl c]
  refine q_ifF (s_tst (s_c2 (s_callM (s_cons (s_rdO rfl) s_nil) rfl k) (s_callM (s_cons (s_rdO rfl) s_nil) rfl k) rfl)) ?_
  refine q_ifT (s_tst (s_c2 (s_callM (s_cons (s_rdO rfl) s_nil) rfl k) (s_cN (s_cons s_cC (s_cons s_cC s_nil)) (mkLst_ok (show 2 ≤ 1000 by decide))) rfl)) ?_
  have hz : zipI (consM (rdE 0) (consM (rdE 1) nilM)) [some (.lst false [.bl a, .bl b, .bl c]), some (.lst false [.bl a, .bl b, .bl c]), none, none] = some ([.tup [.bl a, .bl a], .tup [.bl b, .bl b], .tup [.bl c, .bl c]], [some (.lst false [.bl a, .bl b, .bl c]), some (.lst false [.bl a, .bl b, .bl c]), none, none]) :=
    (s_zipL (m := false) (m' := false) (xs := [.bl a, .bl b, .bl c]) (ys := [.bl a, .bl b, .bl c]) (s_cons (s_rdE rfl rfl) (s_cons (s_rdE rfl rfl) s_nil))).trans rfl
  have lc := lcM_det (T := tupT 2 (consT (nameT 2) (consT (nameT 3) nilT))) (C := MV.notM (tst (callM (m__law_twins 11) (consM (rdO 2) (consM (rdO 3) nilM))))) (E := cC (.int 1)) (own := [2, 3]) (fun _ => none) hz (show 3 ≤ sizeLine by rw [sizeLine_eq]; decide) fun x hx => by
    obtain ⟨d, rfl⟩ : ∃ d : Bool, x = .tup [.bl d, .bl d] := by
      simp only [List.mem_cons, List.not_mem_nil, or_false] at hx
      rcases hx with rfl | rfl | rfl <;> exact ⟨_, rfl⟩
    exact ⟨[some (.lst false [.bl a, .bl b, .bl c]), some (.lst false [.bl a, .bl b, .bl c]), some (.bl d), some (.bl d)], rfl, .inl ⟨rfl, _, s_not (s_tst (s_callM (s_cons (s_rdO rfl) (s_cons (s_rdO rfl) s_nil)) rfl (twins_bl 10 d))), rfl⟩⟩
  refine q_ret (s_vand2 (s_c2 (s_cN (s_cons (s_rdO rfl) s_nil) rfl) (s_cN (s_cons (s_rdO rfl) s_nil) rfl) rfl) (s_c2 lc (s_cN s_nil (mkLst_ok (show 0 ≤ 1000 by decide))) ?_))
  exact eq_nil (okD_nil true)
end K01
end

section
set_option maxHeartbeats 4000000
/-! values with one place otherwise -/
namespace K01
open MV PySem
mutual
/-- no long tuples in it -/
def Val.short : Val → Bool
  | .tup xs => decide (xs.length ≤ 300) && shortL xs
  | _ => true
def shortL : List Val → Bool
  | [] => true
  | x :: r => Val.short x && shortL r
end
theorem shortL_all : ∀ xs : List Val, shortL xs = xs.all Val.short
  | [] => by simp [shortL]
  | x :: r => by simp [shortL, shortL_all r]
theorem cut_mem {xs : List Val} {lo hi : Option Int} {y : Val} (h : y ∈ cutL xs lo hi) : y ∈ xs := List.mem_of_mem_drop (List.mem_of_mem_take h)
theorem cut_len (xs : List Val) (lo hi : Option Int) : (cutL xs lo hi).length ≤ xs.length := by
  unfold cutL
  rw [List.length_take, List.length_drop]
  omega
theorem slice_tup {xs : List Val} {lo hi : Option Int} (p : pureL xs = true) : sliceV (.tup xs) lo hi = some (.tup (cutL xs lo hi)) := if_pos p
theorem rev_tup {xs : List Val} (p : pureL xs = true) : revV (.tup xs) = some (.tup xs.reverse) := if_pos p
theorem add_tup {xs ys : List Val} (p : pureL xs = true) (q : pureL ys = true) (h : xs.length + ys.length ≤ 1000) : addV (.tup xs) (.tup ys) = some (.tup (xs ++ ys)) :=
  if_pos (by
    rw [p, q, decide_eq_true (show xs.length + ys.length ≤ sizeLine by rw [sizeLine_eq]; omega)]
    rfl)
theorem nice_tup {n : Nat} {ys : List Val} (h : ∀ y ∈ ys, y.nice n = true) (hl : ys.length ≤ 1000) : (Val.tup ys).nice (n + 1) = true := by
  simp only [Val.nice, Bool.and_eq_true, decide_eq_true_eq]
  exact ⟨hl, by rw [niceL_all]; exact List.all_eq_true.mpr h⟩
theorem pure_nices {n : Nat} {ys : List Val} (h : ∀ y ∈ ys, y.nice n = true) : pureL ys = true := pure_of fun y hy => nice_pure n y (h y hy)
/-- the values that are put in -/
def puts : List Val := [.non, .bl true, .bl false, .int 0, .int 1, .int 2, .int 3, .int 4, .int 5, .int 6, .int (-1), .int (10 ^ 30), .str "", .str "a", .str "c", .str "d", .tup [], .lst false [], .tup [.int 0], .tup [.int 1, .int 0], .tup [.int 2, .int 4],
  .tup [.int 0, .bl true, .int 5, .bl false], .tup [.int 2, .bl true, .int 2, .bl true], .tup [.int 1, .bl false, .int 1, .bl true], .tup [.tup [.int 1, .int 2], .str "b"], .tup [.tup [.int 0, .int 1], .str "a"]]
theorem puts_nice : ∀ y ∈ puts, y.nice 2 = true := by
  have : (puts.all fun y => y.nice 2) = true := by decide +kernel
  exact List.all_eq_true.mp this
theorem nice_mono' {n m : Nat} {x : Val} (h : x.nice n = true) (hm : n ≤ m) : x.nice m = true := nice_mono h hm
abbrev bSl (s v : Val) (a b c : Option Val) : Sl := [some s, some v, a, b, c]

def RetS (S : Sv) (τ : Sl) (v y : Val) : Prop := ∃ τ', S τ = some (.ret v, τ') ∧ τ'[0]? = some (some y)
section
variable {τ τ1 : Sl} {S S1 : Sv} {A : Tv} {D : Ev} {v y : Val} {xs : List Val}
theorem r_ret (h : D τ = some (v, τ1)) (h0 : τ1[0]? = some (some y)) : RetS (retM D) τ v y := ⟨_, s_ret h, h0⟩
theorem r_seq (h : S τ = some (.next, τ1)) (h2 : RetS S1 τ1 v y) : RetS (seqM S S1) τ v y := let ⟨τ', e, h0⟩ := h2; ⟨τ', s_seq h e, h0⟩
theorem r_ifT (h : A τ = some (true, τ1)) (h2 : RetS S τ1 v y) : RetS (seqM (ifM A S nextM) S1) τ v y := let ⟨τ', e, h0⟩ := h2; ⟨τ', s_seqR (s_ifT h e), h0⟩
theorem r_ifF (h : A τ = some (false, τ1)) (h2 : RetS S1 τ1 v y) : RetS (seqM (ifM A S nextM) S1) τ v y := let ⟨τ', e, h0⟩ := h2; ⟨τ', s_seq (s_ifF h s_next) e, h0⟩
theorem r_fn {m : Nat} (h : RetS S (xs.map some ++ List.replicate m none) v y) : fnIO m S xs = some (v, y) := let ⟨_, e, h0⟩ := h; s_fnIO e h0
end
theorem add_lst {m m' : Bool} {xs ys : List Val} (p : pureL xs = true) (q : pureL ys = true) (h : xs.length + ys.length ≤ 1000) : addV (.lst m xs) (.lst m' ys) = some (.lst true (xs ++ ys)) :=
  if_pos (by
    rw [p, q, decide_eq_true (show xs.length + ys.length ≤ sizeLine by rw [sizeLine_eq]; omega)]
    rfl)
/-- one of the values that are put in -/
theorem bent_put {s x : Val} (hs : Spr s) : ∃ y s', RetS (seqM (setM 2 (cN mkLst (consM (cC .non) (consM (cC (.bl true)) (consM (cC (.bl false)) (consM (cC (.int 0)) (consM (cC (.int 1)) (consM (cC (.int 2)) (consM (cC (.int 3)) (consM (cC (.int 4)) (consM (cC (.int 5)) (consM (cC (.int 6)) (consM (c1 negV (cC (.int 1))) (consM (c2 powV (cC (.int 10)) (cC (.int 30))) (consM (cC (.str "")) (consM (cC (.str "a")) (consM (cC (.str "c")) (consM (cC (.str "d")) (consM (cN mkTup nilM) (consM (frE (cN mkLst nilM)) (consM (cN mkTup (consM (cC (.int 0)) nilM)) (consM (cN mkTup (consM (cC (.int 1)) (consM (cC (.int 0)) nilM))) (consM (cN mkTup (consM (cC (.int 2)) (consM (cC (.int 4)) nilM))) nilM)))))))))))))))))))))))
  (seqM (setM 2 (c2 addV (rdO 2) (cN mkLst (consM (cN mkTup (consM (cC (.int 0)) (consM (cC (.bl true)) (consM (cC (.int 5)) (consM (cC (.bl false)) nilM))))) (consM (cN mkTup (consM (cC (.int 2)) (consM (cC (.bl true)) (consM (cC (.int 2)) (consM (cC (.bl true)) nilM))))) (consM (cN mkTup (consM (cC (.int 1)) (consM (cC (.bl false)) (consM (cC (.int 1)) (consM (cC (.bl true)) nilM))))) (consM (cN mkTup (consM (cN mkTup (consM (cC (.int 1)) (consM (cC (.int 2)) nilM))) (consM (cC (.str "b")) nilM))) (consM (cN mkTup (consM (cN mkTup (consM (cC (.int 0)) (consM (cC (.int 1)) nilM))) (consM (cC (.str "a")) nilM))) nilM))))))))
  (retM (c2 idxV (rdE 2) (callIO m__law_pick 0 (consM (cN lenV (consM (rdO 2) nilM)) nilM)))))) (bSl s x none none none) y s' ∧ Spr s' ∧ y.nice 2 = true := by
  obtain ⟨d, s', h1, d0, d1, q⟩ := pick_spec hs (m := 26) (by decide) (by decide)
  obtain ⟨y, hy, iy⟩ := ix_mem (l := puts) (d := d) d0 (by simpa [puts] using d1)
  refine ⟨y, s', ?_, q, puts_nice y hy⟩
  refine r_seq (τ1 := bSl s x (some (.lst true (puts.take 21))) none none) (s_set' (τ1 := bSl s x none none none) (s_cN (xs := puts.take 21) ?_ (mkLst_ok (show 21 ≤ 1000 by decide)))) ?_
  · repeat' (first | exact s_nil | exact s_cC | exact s_c1 s_cC rfl | exact s_c2 s_cC s_cC rfl | exact s_fr (s_cN s_nil (mkLst_ok (show 0 ≤ 1000 by decide))) | exact s_cN s_nil (mkTup_ok (show 0 ≤ 1000 by decide)) | exact s_cN (s_cons s_cC s_nil) (mkTup_ok (show 1 ≤ 1000 by decide)) | exact s_cN (s_cons s_cC (s_cons s_cC s_nil)) (mkTup_ok (show 2 ≤ 1000 by decide)) | apply s_cons)
  refine r_seq (τ1 := bSl s x (some (.lst true puts)) none none) (s_set' (τ1 := bSl s x (some (.lst true (puts.take 21))) none none) (s_c2 (s_rdO rfl) (s_cN (xs := puts.drop 21) ?_ (mkLst_ok (show 5 ≤ 1000 by decide))) ((add_lst (xs := puts.take 21) (ys := puts.drop 21) (by decide +kernel) (by decide +kernel) (show 21 + 5 ≤ 1000 by decide)).trans rfl))) ?_
  · repeat' (first | exact s_nil | exact s_cC | exact s_cN (s_cons s_cC (s_cons s_cC (s_cons s_cC (s_cons s_cC s_nil)))) (mkTup_ok (show 4 ≤ 1000 by decide)) | exact s_cN (s_cons (s_cN (s_cons s_cC (s_cons s_cC s_nil)) (mkTup_ok (show 2 ≤ 1000 by decide))) (s_cons s_cC s_nil)) (mkTup_ok (show 2 ≤ 1000 by decide)) | apply s_cons)
  have pp : pureL puts = true := by decide +kernel
  have fz : frzL puts = puts := frzL_of_pure _ pp
  have e1 : rdE 2 (bSl s x (some (.lst true puts)) none none) = some (.lst false puts, bSl s x (some (.lst false puts)) none none) := by
    rw [s_rdEf (i := 2) (x := .lst true puts) rfl rfl]
    simp only [Val.frz, fz]
    rfl
  refine r_ret (τ1 := bSl s' x (some (.lst false puts)) none none) (s_c2 e1 (s_callIO' h1 (s_cons (s_cN (s_cons (s_rdO rfl) s_nil) rfl) s_nil)) (pureO_ok iy (nice_pure 2 y (puts_nice y hy)))) rfl
end K01
end

section
set_option maxHeartbeats 4000000
/-! values with one place otherwise: the recursion -/
namespace K01
open MV PySem
theorem ne_tnil {xs : List Val} (h : okD (.tup xs) = true) : neV (.tup xs) (.tup []) = some (.bl (!xs.isEmpty)) := by
  have k : okD (.tup []) = true := by decide +kernel
  have e : MV.eqV (.tup xs) (.tup []) = some (.bl xs.isEmpty) := by
    simp only [MV.eqV, h, k, Bool.and_self, if_true, Val.toD, toDL, PyData.eqv]
    cases xs with
    | nil => simp [toDL, PyData.eqvAll]
    | cons z r => simp [toDL, PyData.eqvAll]
  simp only [neV, e, Option.bind_some]
theorem bent_spec : ∀ (f d : Nat) (x s : Val), x.nice d = true → Val.short x = true → d < f → d ≤ 50 → Spr s → ∃ y s', m__law_bent f [s, x] = some (y, s') ∧ Spr s' ∧ y.nice (d + 2) = true
  | 0, d, x, s, _, _, hd, _, _ => absurd hd (Nat.not_lt_zero _)
  | f + 1, d, x, s, hx, hsh, hd, h50, hs => by
    have px := nice_pure d x hx
    have fin : ∀ {τ y s'}, τ = bSl s x none none none → RetS (b__law_bent (m__law_bent f)) τ y s' → m__law_bent (f + 1) [s, x] = some (y, s') := fun {τ y s'} e h => by
      subst e
      exact r_fn (m := 3) h
    -- a value put in
    have put : ∀ s1, Spr s1 → (MV.andM (tst (c1 (isiV .tTuple) (rdO 1))) (MV.andM (tst (c2 neV (rdO 1) (cN mkTup nilM))) (tst (c2 gtV (callIO m__law_pick 0 (consM (cC (.int 7)) nilM)) (cC (.int 0)))))) (bSl s x none none none) = some (false, bSl s1 x none none none) →
        ∃ y s', m__law_bent (f + 1) [s, x] = some (y, s') ∧ Spr s' ∧ y.nice (d + 2) = true := fun s1 q1 h => by
      obtain ⟨y, s', r, q, ny⟩ := bent_put (x := x) q1
      exact ⟨y, s', fin rfl (r_ifF h r), q, nice_mono ny (by omega)⟩
    cases ht : isTp x with
    | false => exact put s hs (s_and1 (s_tst (s_c1 (s_rdO rfl) ((isi_tup hx).trans (by rw [ht])))))
    | true =>
      cases x with
      | tup xs =>
        obtain ⟨d, rfl⟩ := nice_tup_succ hx
        have items := nice_items hx
        have okx := nice_okD hx (by omega)
        have t1 : tst (c1 (isiV .tTuple) (rdO 1)) (bSl s (.tup xs) none none none) = some (true, bSl s (.tup xs) none none none) := s_tst (s_c1 (s_rdO rfl) rfl)
        have t2 : tst (c2 neV (rdO 1) (cN mkTup nilM)) (bSl s (.tup xs) none none none) = some (!xs.isEmpty, bSl s (.tup xs) none none none) := s_tst (s_c2 (s_rdO rfl) (s_cN s_nil (mkTup_ok (show 0 ≤ 1000 by decide))) (ne_tnil okx))
        have sh : xs.length ≤ 300 ∧ ∀ y ∈ xs, Val.short y = true := by
          simp only [Val.short, Bool.and_eq_true, decide_eq_true_eq] at hsh
          rw [shortL_all] at hsh
          exact ⟨hsh.1, List.all_eq_true.mp hsh.2⟩
        cases hxs : xs.isEmpty with
        | true => exact put s hs (s_and2 t1 (s_and1 (t2.trans (by rw [hxs]; rfl))))
        | false =>
          have hne : 0 < xs.length := by
            cases xs with
            | nil => cases hxs
            | cons _ _ => simp
          obtain ⟨k, s1, h1, k0, _, q1⟩ := pick_spec hs (m := 7) (by decide) (by decide)
          have t3 : tst (c2 gtV (callIO m__law_pick 0 (consM (cC (.int 7)) nilM)) (cC (.int 0))) (bSl s (.tup xs) none none none) = some (decide (0 < k), bSl s1 (.tup xs) none none none) := s_tst (s_c2 (s_callIO' h1 (s_cons s_cC s_nil)) s_cC rfl)
          have t2' := t2.trans (show some (!xs.isEmpty, bSl s (.tup xs) none none none) = some (true, bSl s (.tup xs) none none none) by rw [hxs]; rfl)
          by_cases hk : 0 < k
          · have test := s_and2 t1 (s_and2 t2' (t3.trans (by rw [decide_eq_true hk])))
            obtain ⟨at_, s2, h2, a0, a1, q2⟩ := pick_spec q1 (m := xs.length) (by omega) (by omega)
            obtain ⟨way, s3, h3, w0, w1, q3⟩ := pick_spec q2 (m := 9) (by decide) (by decide)
            have par : parM 3 4 (consM (callIO m__law_pick 0 (consM (cN lenV (consM (rdO 1) nilM)) nilM)) (consM (callIO m__law_pick 0 (consM (cC (.int 9)) nilM)) nilM)) (bSl s1 (.tup xs) none none none) = some (.next, bSl s3 (.tup xs) none (some (.int at_)) (some (.int way))) :=
              s_par' (s_cons (s_callIO' (τ2 := bSl s2 (.tup xs) none none none) h2 (s_cons (s_cN (s_cons (s_rdO rfl) s_nil) rfl) s_nil)) (s_cons (s_callIO' (τ2 := bSl s3 (.tup xs) none none none) h3 (s_cons s_cC s_nil)) s_nil))
            have w : ∀ m : Int, tst (c2 MV.eqV (rdO 4) (cC (.int m))) (bSl s3 (.tup xs) none (some (.int at_)) (some (.int way))) = some (decide (way = m), bSl s3 (.tup xs) none (some (.int at_)) (some (.int way))) := fun m => s_tst (s_c2 (s_rdO rfl) s_cC eqB_int)
            have cn : ∀ lo hi, ∀ y ∈ cutL xs lo hi, y.nice d = true := fun lo hi y hy => items y (cut_mem hy)
            have pc : ∀ lo hi, pureL (cutL xs lo hi) = true := fun lo hi => pure_nices (cn lo hi)
            have lc : ∀ lo hi, (cutL xs lo hi).length ≤ 300 := fun lo hi => Nat.le_trans (cut_len xs lo hi) sh.1
            by_cases e0 : way = 0
            · refine ⟨.tup (cutL xs none (some at_) ++ cutL xs (some (at_ + 1)) none), s3, fin rfl (r_ifT test (r_seq par (r_ifT ((w 0).trans (by rw [decide_eq_true e0])) (r_ret (s_c2 (s_sl (s_rdO rfl) s_pN (s_pS (s_rdO rfl)) (slice_tup px)) (s_sl (s_rdO rfl) (s_pS (s_c2 (s_rdO rfl) s_cC rfl)) s_pN (slice_tup px)) (add_tup (pc _ _) (pc _ _) ?_)) rfl)))), q3, ?_⟩
              · have := lc none (some at_)
                have := lc (some (at_ + 1)) none
                omega
              · refine nice_mono (nice_tup (n := d) (fun y hy => ?_) ?_) (by omega)
                · rcases List.mem_append.mp hy with hy | hy
                  · exact cn _ _ y hy
                  · exact cn _ _ y hy
                · rw [List.length_append]
                  have := lc none (some at_)
                  have := lc (some (at_ + 1)) none
                  omega
            · by_cases e1 : way = 1
              · refine ⟨.tup ((cutL xs none (some at_) ++ cutL xs (some at_) (some (at_ + 1))) ++ cutL xs (some at_) none), s3, fin rfl (r_ifT test (r_seq par (r_ifF ((w 0).trans (by rw [decide_eq_false e0])) (r_ifT ((w 1).trans (by rw [decide_eq_true e1])) (r_ret (s_c2 (s_c2 (s_sl (s_rdO rfl) s_pN (s_pS (s_rdO rfl)) (slice_tup px)) (s_sl (s_rdO rfl) (s_pS (s_rdO rfl)) (s_pS (s_c2 (s_rdO rfl) s_cC rfl)) (slice_tup px)) (add_tup (pc _ _) (pc _ _) ?_)) (s_sl (s_rdO rfl) (s_pS (s_rdO rfl)) s_pN (slice_tup px)) (add_tup ?_ (pc _ _) ?_)) rfl))))), q3, ?_⟩
                · have := lc none (some at_)
                  have := lc (some at_) (some (at_ + 1))
                  omega
                · refine pure_of fun y hy => ?_
                  rcases List.mem_append.mp hy with hy | hy
                  · exact nice_pure d y (cn _ _ y hy)
                  · exact nice_pure d y (cn _ _ y hy)
                · rw [List.length_append]
                  have := lc none (some at_)
                  have := lc (some at_) (some (at_ + 1))
                  have := lc (some at_) none
                  omega
                · refine nice_mono (nice_tup (n := d) (fun y hy => ?_) ?_) (by omega)
                  · rcases List.mem_append.mp hy with hy | hy
                    · rcases List.mem_append.mp hy with hy | hy
                      · exact cn _ _ y hy
                      · exact cn _ _ y hy
                    · exact cn _ _ y hy
                  · rw [List.length_append, List.length_append]
                    have := lc none (some at_)
                    have := lc (some at_) (some (at_ + 1))
                    have := lc (some at_) none
                    omega
              · by_cases e2 : way = 2
                · refine ⟨.tup xs.reverse, s3, fin rfl (r_ifT test (r_seq par (r_ifF ((w 0).trans (by rw [decide_eq_false e0])) (r_ifF ((w 1).trans (by rw [decide_eq_false e1])) (r_ifT ((w 2).trans (by rw [decide_eq_true e2])) (r_ret (s_c1 (s_rdO rfl) (rev_tup px)) rfl)))))), q3, ?_⟩
                  refine nice_mono (nice_tup (n := d) (fun y hy => items y (List.mem_reverse.mp hy)) ?_) (by omega)
                  rw [List.length_reverse]
                  omega
                · obtain ⟨v, hv, iv⟩ := ix_mem (l := xs) a0 a1
                  have nv := items v hv
                  obtain ⟨z, s4, hz, q4, nz⟩ := bent_spec f d v s3 nv (sh.2 v hv) (by omega) (by omega) q3
                  have one : ∀ y ∈ [z], y.nice (d + 2) = true := fun y hy => by rw [List.mem_singleton.mp hy]; exact nz
                  refine ⟨.tup ((cutL xs none (some at_) ++ [z]) ++ cutL xs (some (at_ + 1)) none), s4, fin rfl (r_ifT test (r_seq par (r_ifF ((w 0).trans (by rw [decide_eq_false e0])) (r_ifF ((w 1).trans (by rw [decide_eq_false e1])) (r_ifF ((w 2).trans (by rw [decide_eq_false e2])) (r_ret (τ1 := bSl s4 (.tup xs) none (some (.int at_)) (some (.int way)))
                    (s_c2 (τ1 := bSl s4 (.tup xs) none (some (.int at_)) (some (.int way))) (s_c2 (s_sl (s_rdO rfl) s_pN (s_pS (s_rdO rfl)) (slice_tup px)) (s_cN (s_cons (s_callIO' (τ2 := bSl s4 (.tup xs) none (some (.int at_)) (some (.int way))) hz (s_cons (q_ix (s_rdO rfl) (s_rdO rfl) iv (nice_pure d v nv)) s_nil) ?_) s_nil) (mkTup_ok (show 1 ≤ 1000 by decide))) (add_tup (pc _ _) (pure_nices one) ?_)) (s_sl (s_rdO rfl) (s_pS (s_c2 (s_rdO rfl) s_cC rfl)) s_pN (slice_tup px)) (add_tup ?_ (pc _ _) ?_)) rfl)))))), q4, ?_⟩
                  · simp [pureL, nice_pure d v nv]
                  · have := lc none (some at_)
                    simp only [List.length_singleton]
                    omega
                  · refine pure_of fun y hy => ?_
                    rcases List.mem_append.mp hy with hy | hy
                    · exact nice_pure d y (cn _ _ y hy)
                    · exact nice_pure _ y (one y hy)
                  · have := lc none (some at_)
                    have := lc (some (at_ + 1)) none
                    simp only [List.length_append, List.length_singleton]
                    omega
                  · refine nice_tup (n := d + 2) (fun y hy => ?_) ?_
                    · rcases List.mem_append.mp hy with hy | hy
                      · rcases List.mem_append.mp hy with hy | hy
                        · exact nice_mono (cn _ _ y hy) (by omega)
                        · exact one y hy
                      · exact nice_mono (cn _ _ y hy) (by omega)
                    · have := lc none (some at_)
                      have := lc (some (at_ + 1)) none
                      simp only [List.length_append, List.length_singleton]
                      omega
          · exact put s1 q1 (s_and2 t1 (s_and2 t2' (t3.trans (by rw [decide_eq_false hk]))))
      | _ => cases ht
end K01
end

section
set_option maxHeartbeats 4000000
/-! two bounds: a number that keeps both, or half of a whole number that does -/
namespace K01
open MV PySem
def goodN (l : Nat) (wl : Bool) (h : Nat) (wh : Bool) : Bool := decide (l ≤ 4) && decide (l ≤ h) && decide (h ≤ 5) && (if h = 5 then !wh else decide (l < h) || (wl && wh))
def keptN (t l : Nat) (wl : Bool) (h : Nat) (wh : Bool) : Bool := !(decide (t < 2 * l) || (decide (t = 2 * l) && !wl)) && (decide (h = 5) || (decide (t < 2 * h) || (decide (t = 2 * h) && wh)))
def ltP (a : Nat) (x : Bool) (b : Nat) (y : Bool) : Bool := decide (a < b) || (decide (a = b) && (!x && y))
def meetN (l : Nat) (wl : Bool) (h : Nat) (wh : Bool) (l' : Nat) (wl' : Bool) (h' : Nat) (wh' : Bool) : Bool :=
  let lo := if ltP l (!wl) l' (!wl') = true then (l', !wl') else (l, !wl)
  let hi := if ltP h' wh' h wh = true then (h', wh') else (h, wh)
  decide (lo.1 < hi.1) || (decide (lo.1 = hi.1) && (!lo.2 && hi.2))
def bools : List Bool := [true, false]
def allGood : List (Nat × Bool × Nat × Bool) := (List.range 5).flatMap fun l => bools.flatMap fun wl => (List.range 6).flatMap fun h => (bools.map fun wh => (l, wl, h, wh)).filter fun p => goodN p.1 p.2.1 p.2.2.1 p.2.2.2
theorem meet_check : (allGood.all fun p => allGood.all fun q => meetN p.1 p.2.1 p.2.2.1 p.2.2.2 q.1 q.2.1 q.2.2.1 q.2.2.2 == (List.range 12).any fun t => keptN t p.1 p.2.1 p.2.2.1 p.2.2.2 && keptN t q.1 q.2.1 q.2.2.1 q.2.2.2) = true := by decide +kernel
theorem mem_allGood {l : Nat} {wl : Bool} {h : Nat} {wh : Bool} (g : goodN l wl h wh = true) : (l, wl, h, wh) ∈ allGood := by
  have g' := g
  simp only [goodN, Bool.and_eq_true, decide_eq_true_eq] at g'
  refine List.mem_flatMap.mpr ⟨l, List.mem_range.mpr (by omega), List.mem_flatMap.mpr ⟨wl, by cases wl <;> simp [bools], List.mem_flatMap.mpr ⟨h, List.mem_range.mpr (by omega), List.mem_filter.mpr ⟨List.mem_map.mpr ⟨wh, by cases wh <;> simp [bools], rfl⟩, g⟩⟩⟩⟩
theorem meet_halves {l : Nat} {wl : Bool} {h : Nat} {wh : Bool} {l' : Nat} {wl' : Bool} {h' : Nat} {wh' : Bool} (g : goodN l wl h wh = true) (g' : goodN l' wl' h' wh' = true) : meetN l wl h wh l' wl' h' wh' = (List.range 12).any fun t => keptN t l wl h wh && keptN t l' wl' h' wh' := by
  have := List.all_eq_true.mp (List.all_eq_true.mp meet_check _ (mem_allGood g)) _ (mem_allGood g')
  simpa using this
/-- a bound of whole numbers -/
def bndV (l : Nat) (wl : Bool) (h : Nat) (wh : Bool) : Val := .tup [.int l, .bl wl, .int h, .bl wh]
theorem bound_nat {b : Val} (hb : BoundP b) : ∃ l wl h wh, b = bndV l wl h wh ∧ goodN l wl h wh = true := by
  obtain ⟨l, wl, h, wh, rfl, g⟩ := hb
  obtain ⟨l0, l4, lh, h5, w, e⟩ := g
  obtain ⟨a, rfl⟩ : ∃ k : Nat, l = k := ⟨l.toNat, by omega⟩
  obtain ⟨b, rfl⟩ : ∃ k : Nat, h = k := ⟨h.toNat, by omega⟩
  refine ⟨a, wl, b, wh, rfl, ?_⟩
  simp only [goodN, Bool.and_eq_true, decide_eq_true_eq]
  refine ⟨⟨⟨by omega, by omega⟩, by omega⟩, ?_⟩
  by_cases hb : b = 5
  · rw [if_pos hb, w (by omega)]
    rfl
  · rw [if_neg hb]
    rcases e with e | e | e
    · omega
    · have : a < b := by omega
      simp [this]
    · simp [e.2.1, e.2.2]
theorem lt_pair (a : Nat) (x : Bool) (b : Nat) (y : Bool) : PySem.W.dataLt (Val.tup [.int a, .bl x]).toD (Val.tup [.int b, .bl y]).toD = ltP a x b y := by
  have e : PySem.W.dataLt (Val.tup [.int a, .bl x]).toD (Val.tup [.int b, .bl y]).toD = PySem.W.dataLt (.tuple [.int a, .bool x]) (.tuple [.int b, .bool y]) := by simp only [Val.toD, toDL]
  rw [e, PySem.W.dataLt_pair (by simp only [PySem.W.alike]) (by simp only [PySem.W.alike]), PySem.W.dataLt_int, PySem.W.dataLt_bool]
  by_cases h : a = b
  · subst h
    cases x <;> cases y <;> simp [PyData.eqv, ltP, PyProof.Rows.b2i]
  · have h2 : ¬ ((a : Int) = (b : Int)) := by omega
    have h3 : ((a : Int) < (b : Int)) = (a < b) := by simp
    simp [PyData.eqv, ltP, h]
    intro z
    exact absurd z h2
theorem pick_ok (a : Nat) (x : Bool) (b : Nat) (y : Bool) : pickOk (.tup [.int a, .bl x]) (.tup [.int b, .bl y]) = true := by
  simp only [pickOk, List.all_cons, List.all_nil, Val.pure, pureL, Val.toD, toDL, PyData.canLay0, PyData.canLayAll0, PyData.depth, PyData.depthAll, noneD, PySem.W.alike, PySem.W.alikeAll]
  decide
theorem max_pair (a : Nat) (x : Bool) (b : Nat) (y : Bool) : maxV [.tup [.int a, .bl x], .tup [.int b, .bl y]] = some (if ltP a x b y = true then .tup [.int b, .bl y] else .tup [.int a, .bl x]) := by
  unfold maxV
  simp only [pick_ok, if_true, lt_pair]
theorem min_pair (a : Nat) (x : Bool) (b : Nat) (y : Bool) : minV [.tup [.int a, .bl x], .tup [.int b, .bl y]] = some (if ltP b y a x = true then .tup [.int b, .bl y] else .tup [.int a, .bl x]) := by
  unfold minV
  simp only [pick_ok, if_true, lt_pair]
theorem lt_nat (a b : Nat) : ltV (.int a) (.int b) = some (.bl (decide (a < b))) := by
  show some (Val.bl (decide ((a : Int) < (b : Int)))) = _
  congr 2
  simp only [decide_eq_decide]
  omega
theorem eq_nat (a b : Nat) : MV.eqV (.int a) (.int b) = some (.bl (decide (a = b))) := by
  rw [eqB_int]
  congr 2
  simp only [decide_eq_decide]
  omega
theorem meet_spec (l : Nat) (wl : Bool) (h : Nat) (wh : Bool) (l' : Nat) (wl' : Bool) (h' : Nat) (wh' : Bool) : m_meet [bndV l wl h wh, bndV l' wl' h' wh'] = some (.bl (meetN l wl h wh l' wl' h' wh')) := by
  unfold m_meet b_meet
  refine q_fn ?_
  show Ret _ [some (bndV l wl h wh), some (bndV l' wl' h' wh'), none, none, none, none] _
  unfold meetN
  generalize hlo : (if ltP l (!wl) l' (!wl') = true then (l', !wl') else (l, !wl)) = lo
  generalize hhi : (if ltP h' wh' h wh = true then (h', wh') else (h, wh)) = hi
  obtain ⟨lo, wlo⟩ := lo
  obtain ⟨hi, whi⟩ := hi
  have e1 : maxV [.tup [.int l, .bl (!wl)], .tup [.int l', .bl (!wl')]] = some (.tup [.int lo, .bl wlo]) := by
    rw [max_pair]
    split at hlo <;> (cases hlo; rename_i c; simp [c])
  have e2 : minV [.tup [.int h, .bl wh], .tup [.int h', .bl wh']] = some (.tup [.int hi, .bl whi]) := by
    rw [min_pair]
    split at hhi <;> (cases hhi; rename_i c; simp [c])
  have p2 : mkTup = mkTup := rfl
  refine q_seq (τ1 := [some (bndV l wl h wh), some (bndV l' wl' h' wh'), some (.int lo), some (.bl wlo), none, none]) (s_asg (s_cN (s_cons (s_cN (s_cons (s_c2 (s_rdO (i := 0) (x := bndV l wl h wh) rfl) s_cC rfl) (s_cons (s_vnot (s_c2 (s_rdO (i := 0) (x := bndV l wl h wh) rfl) s_cC rfl)) s_nil)) (mkTup_ok (show 2 ≤ 1000 by decide)))
    (s_cons (s_cN (s_cons (s_c2 (s_rdO (i := 1) (x := bndV l' wl' h' wh') rfl) s_cC rfl) (s_cons (s_vnot (s_c2 (s_rdO (i := 1) (x := bndV l' wl' h' wh') rfl) s_cC rfl)) s_nil)) (mkTup_ok (show 2 ≤ 1000 by decide))) s_nil)) e1) rfl) ?_
  refine q_seq (τ1 := [some (bndV l wl h wh), some (bndV l' wl' h' wh'), some (.int lo), some (.bl wlo), some (.int hi), some (.bl whi)]) (s_asg (s_cN (s_cons (s_cN (s_cons (s_c2 (s_rdO (i := 0) (x := bndV l wl h wh) rfl) s_cC rfl) (s_cons (s_c2 (s_rdO (i := 0) (x := bndV l wl h wh) rfl) s_cC rfl) s_nil)) (mkTup_ok (show 2 ≤ 1000 by decide)))
    (s_cons (s_cN (s_cons (s_c2 (s_rdO (i := 1) (x := bndV l' wl' h' wh') rfl) s_cC rfl) (s_cons (s_c2 (s_rdO (i := 1) (x := bndV l' wl' h' wh') rfl) s_cC rfl) s_nil)) (mkTup_ok (show 2 ≤ 1000 by decide))) s_nil)) e2) rfl) ?_
  exact q_ret (q_vor (s_c2 (s_rdO rfl) (s_rdO rfl) (lt_nat lo hi)) fun _ => q_vand (s_c2 (s_rdO rfl) (s_rdO rfl) (eq_nat lo hi)) fun _ => q_vand (s_vnot (s_rdO rfl)) fun _ => s_rdE rfl rfl)

/-- half of t -/
def halfV (t : Nat) : Val := .tup [.int ((t / Nat.gcd t 2 : Nat) : Int), .int ((2 / Nat.gcd t 2 : Nat) : Int)]
theorem mul_nat {a b : Nat} (hb : b ≤ 1000) : mulV (.int a) (.int b) = some (.int ((a * b : Nat) : Int)) := by
  have : mulOk (a : Int) (b : Int) = true := by
    unfold mulOk
    rw [Bool.or_eq_true, Bool.or_eq_true]
    left; right
    simp only [Int.natAbs_natCast, decide_eq_true_eq]
    omega
  refine (if_pos this).trans ?_
  rw [Int.natCast_mul]
theorem kept_spec (t l : Nat) (wl : Bool) (h : Nat) (wh : Bool) : m__law_kept [halfV t, bndV l wl h wh] = some (.bl (keptN t l wl h wh)) := by
  have g0 : 0 < Nat.gcd t 2 := Nat.gcd_pos_of_pos_right t (by decide)
  obtain ⟨a, ha⟩ := Nat.gcd_dvd_left t 2
  obtain ⟨b, hb⟩ := Nat.gcd_dvd_right t 2
  have ea : t / Nat.gcd t 2 = a := by
    have := congrArg (· / Nat.gcd t 2) ha
    simp only [Nat.mul_div_cancel_left a g0] at this
    exact this
  have eb : 2 / Nat.gcd t 2 = b := by
    have := congrArg (· / Nat.gcd t 2) hb
    simp only [Nat.mul_div_cancel_left b g0] at this
    exact this
  have bl : b ≤ 1000 := by
    rw [← eb]
    exact Nat.le_trans (Nat.div_le_self _ _) (by decide)
  have hv : halfV t = .tup [.int a, .int b] := by
    unfold halfV
    rw [ea, eb]
  generalize Nat.gcd t 2 = g at g0 ha hb ea eb
  have lt_iff : ∀ m : Nat, decide (a < m * b) = decide (t < 2 * m) := fun m => by
    simp only [decide_eq_decide]
    have e : 2 * m = g * (m * b) := by rw [Nat.mul_left_comm, ← hb, Nat.mul_comm]
    rw [e, ha]
    exact (Nat.mul_lt_mul_left g0).symm
  have eq_iff : ∀ m : Nat, decide (a = m * b) = decide (t = 2 * m) := fun m => by
    simp only [decide_eq_decide]
    have e : 2 * m = g * (m * b) := by rw [Nat.mul_left_comm, ← hb, Nat.mul_comm]
    rw [e, ha]
    exact (Nat.mul_right_inj (by omega)).symm
  rw [hv]
  unfold m__law_kept b__law_kept
  refine q_fn ?_
  show Ret _ [some (.tup [.int a, .int b]), some (bndV l wl h wh), none, none, none, none, none, none] _
  refine q_seq (τ1 := [some (.tup [.int a, .int b]), some (bndV l wl h wh), some (.int a), some (.int b), none, none, none, none]) (s_asg (s_rdE rfl rfl) rfl) ?_
  refine q_seq (τ1 := [some (.tup [.int a, .int b]), some (bndV l wl h wh), some (.int a), some (.int b), some (.int l), some (.bl wl), some (.int h), some (.bl wh)]) (s_asg (s_rdE rfl rfl) rfl) ?_
  refine q_no (q_or (s_tst (s_c2 (s_rdO rfl) (s_c2 (s_rdO rfl) (s_rdO rfl) (mul_nat bl)) ((lt_nat _ _).trans (by rw [lt_iff])))) fun _ => q_and (s_tst (s_c2 (s_rdO rfl) (s_c2 (s_rdO rfl) (s_rdO rfl) (mul_nat bl)) ((eq_nat _ _).trans (by rw [eq_iff])))) fun _ => s_not (s_tst (s_rdO rfl))) fun _ => ?_
  refine q_ret (q_vor (s_c2 (s_rdO rfl) s_cC (show MV.eqV (.int (h : Nat)) (.int ((5 : Nat) : Int)) = _ from eq_nat h 5)) fun _ => q_vor (s_c2 (s_rdO rfl) (s_c2 (s_rdO rfl) (s_rdO rfl) (mul_nat bl)) ((lt_nat _ _).trans (by rw [lt_iff]))) fun _ => q_vand (s_c2 (s_rdO rfl) (s_c2 (s_rdO rfl) (s_rdO rfl) (mul_nat bl)) ((eq_nat _ _).trans (by rw [eq_iff]))) fun _ => s_rdE rfl rfl)
end K01
end

section
set_option maxHeartbeats 4000000
/-! is_clear by both -/
namespace K01
open MV PySem
section
variable {τ τ1 : Sl} {i : Nat} {I : Evs} {C : Tv} {E : Ev} {xs : List Val}
theorem q_filter2 (p : Val → Bool) (hI : I τ = some (xs, τ1)) (hp : pureL xs = true) (hi : τ1[i]? = some none) (hC : ∀ x ∈ xs, C (τ1.set i (some x)) = some (p x, τ1.set i (some x))) (hl : xs.length ≤ 1000) :
    lcM I (nameT i) C (rdE i) [i] τ = some (.lst true (xs.filter p), τ1) := by
  have pure : ∀ x ∈ xs, x.pure = true := by rw [pureL_all] at hp; exact List.all_eq_true.mp hp
  have w : wipeM τ1 [i] = τ1 := set_none hi
  have := lcM_det (T := nameT i) (C := C) (E := rdE i) (own := [i]) (fun x => if p x = true then some x else none) hI (by rw [sizeLine_eq]; omega) fun x hx => by
    refine ⟨τ1.set i (some x), by rw [w]; rfl, ?_⟩
    rw [w]
    cases hpx : p x with
    | false => exact .inl ⟨by simp, _, by rw [hC x hx, hpx], set_back hi⟩
    | true => exact .inr ⟨x, _, _, by simp, by rw [hC x hx, hpx], s_rdE (set_at hi) (pure x hx), set_back hi⟩
  rw [this, w, filterMap_if]
end
def ansB : Option Val → Bool
  | some (.bl b) => b
  | _ => false
def meetB (b b' : Val) : Bool := ansB (m_meet [b, b'])
def keptB (x b : Val) : Bool := ansB (m__law_kept [x, b])
theorem meet_some {b b' : Val} (h : BoundP b) (h' : BoundP b') : m_meet [b, b'] = some (.bl (meetB b b')) := by
  obtain ⟨l, wl, hh, wh, rfl, _⟩ := bound_nat h
  obtain ⟨l', wl', hh', wh', rfl, _⟩ := bound_nat h'
  unfold meetB
  rw [meet_spec]
  rfl
theorem kept_some {b : Val} (h : BoundP b) (t : Nat) : m__law_kept [halfV t, b] = some (.bl (keptB (halfV t) b)) := by
  obtain ⟨l, wl, hh, wh, rfl, _⟩ := bound_nat h
  unfold keptB
  rw [kept_spec]
  rfl
def halves : List Val := (List.range 12).map halfV
/-- two bounds are kept by one number just if by half of a whole number -/
theorem meet_iff {b b' : Val} (h : BoundP b) (h' : BoundP b') : meetB b b' = !((halves.filter fun x => keptB x b).filter fun x => keptB x b').isEmpty := by
  obtain ⟨l, wl, hh, wh, rfl, g⟩ := bound_nat h
  obtain ⟨l', wl', hh', wh', rfl, g'⟩ := bound_nat h'
  have e1 : meetB (bndV l wl hh wh) (bndV l' wl' hh' wh') = meetN l wl hh wh l' wl' hh' wh' := by
    unfold meetB
    rw [meet_spec]
    rfl
  have e2 : ∀ t, keptB (halfV t) (bndV l wl hh wh) = keptN t l wl hh wh := fun t => by
    unfold keptB
    rw [kept_spec]
    rfl
  have e3 : ∀ t, keptB (halfV t) (bndV l' wl' hh' wh') = keptN t l' wl' hh' wh' := fun t => by
    unfold keptB
    rw [kept_spec]
    rfl
  rw [e1, meet_halves g g', List.filter_filter, Bool.eq_iff_iff]
  simp only [List.any_eq_true, Bool.not_eq_true', List.isEmpty_eq_false_iff_exists_mem, List.mem_filter, halves, List.mem_map, Bool.and_eq_true]
  constructor
  · rintro ⟨t, ht, h1, h2⟩
    exact ⟨halfV t, ⟨t, ht, rfl⟩, by rw [e3]; exact h2, by rw [e2]; exact h1⟩
  · rintro ⟨x, ⟨t, ht, rfl⟩, h1, h2⟩
    exact ⟨t, ht, by rw [← e2]; exact h2, by rw [← e3]; exact h1⟩
/-- do two edges begin alike -/
def kbE : Val → Val → Bool
  | .tup [p, sg, _, _, _], .tup [p', sg', _, _, _] => PyData.eqv (Val.tup [p, sg]).toD (Val.tup [p', sg']).toD
  | _, _ => false
def bnds : Val → List Val
  | .tup [_, _, .tup bs, _, _] => bs
  | _ => []
def pairB : Val → Bool
  | .tup [b, b'] => meetB b b'
  | _ => false
def bad (one other : Val) : Bool := kbE one other && (zipF (bnds one) (bnds other)).all pairB
theorem eq_keys {p sg p' sg' : Val} (h : (Val.tup [p, sg]).kd 8 = true) (h' : (Val.tup [p', sg']).kd 8 = true) : MV.eqV (.tup [p, sg]) (.tup [p', sg']) = some (.bl (PyData.eqv (Val.tup [p, sg]).toD (Val.tup [p', sg']).toD)) := by
  have k1 := kd_okD h (by decide)
  have k2 := kd_okD h' (by decide)
  simp only [MV.eqV, k1, k2, Bool.and_self, if_true]
/-- the parts of an edge -/
theorem edge_parts {c : Nat} {e : Val} (h : EdgeP c e) : ∃ p sg bs s g, e = .tup [p, sg, .tup bs, s, g] ∧ bs.length = c ∧ (∀ b ∈ bs, BoundP b) ∧ (Val.tup [p, sg]).kd 8 = true := by
  obtain ⟨p, sg, bs, st, g, rfl, _, hs, hl, hb, _⟩ := h
  refine ⟨_, _, bs, _, _, rfl, hl, hb, ?_⟩
  have := lay_sign hs
  simp only [Val.kd, kdL, this, Bool.and_self]
theorem zip_bounds {xs ys : List Val} (h : ∀ b ∈ xs, BoundP b) (h' : ∀ b ∈ ys, BoundP b) : ∀ z ∈ zipF xs ys, ∃ b b', z = .tup [b, b'] ∧ BoundP b ∧ BoundP b' := fun z hz => by
  obtain ⟨i, hi, e⟩ := List.getElem_of_mem hz
  obtain ⟨x, y, hx, hy, rfl⟩ := zipF_get xs ys i z (by rw [List.getElem?_eq_getElem hi, e])
  exact ⟨x, y, rfl, h x (List.mem_of_getElem? hx), h' y (List.mem_of_getElem? hy)⟩
theorem zip_any {α : Type} {p : α → Bool} {xs : List α} : xs.any p = false ↔ ∀ x ∈ xs, p x = false := by simp
/-- a place in the ascending edges -/
def badAt (es : List Val) : Val → Bool
  | .tup [.int i, one] => (cutL es none (some i)).any (bad one)
  | _ => false
theorem enum_mem {es : List Val} {z : Val} (h : z ∈ enumF 0 es) : ∃ (i : Nat) (e : Val), z = .tup [.int i, e] ∧ e ∈ es ∧ i < es.length := by
  obtain ⟨i, hi, e⟩ := List.getElem_of_mem h
  have e1 : (enumF 0 es)[i]? = some z := by rw [List.getElem?_eq_getElem hi, e]
  rw [enumF_get] at e1
  obtain ⟨x, hx, rfl⟩ := Option.map_eq_some_iff.mp e1
  refine ⟨i, x, by simp, List.mem_of_getElem? hx, (List.getElem?_eq_some_iff.mp hx).1⟩
def clearB (es : List Val) : Bool := !(enumF 0 es).any (badAt es)
theorem clear_by_spec {c : Nat} {es : List Val} (h : ∀ e ∈ es, EdgeP c e) (hl : es.length ≤ 900) (hc : c ≤ 2) : m_clear_by [.tup [.int c, .tup es]] = some (.bl (clearB es)) := by
  have pe := edges_pure h
  unfold m_clear_by b_clear_by
  refine q_fn ?_
  show Ret _ [some (.tup [.int c, .tup es]), none, none, none, none, none, none] _
  refine q_seq (τ1 := [some (.tup [.int c, .tup es]), some (.tup es), none, none, none, none, none]) (s_set' (q_ix (s_rdO rfl) s_cC rfl pe)) ?_
  obtain ⟨τ', f1, f2⟩ := forL_find (T := tupT 2 (consT (nameT 2) (consT (nameT 3) nilT))) (B := forM (seqI (cSl (rdO 1) partN (partS (rdO 2)))) (nameT 4) (ifM (MV.andM (tst (c2 MV.eqV (cSl (rdO 3) partN (partS (cC (.int 2)))) (cSl (rdO 4) partN (partS (cC (.int 2)))))) (tst (cN allV (consM (lcM (zipI (consM (c2 idxV (rdO 3) (cC (.int 2))) (consM (c2 idxV (rdO 4) (cC (.int 2))) nilM))) (tupT 2 (consT (nameT 5) (consT (nameT 6) nilT))) yesM (callM m_meet (consM (rdO 5) (consM (rdO 6) nilM))) [5, 6]) nilM)))) (retM (cC (.bl false))) nextM))
    (fun τ => ∃ o2 o3 o4, τ = [some (.tup [.int c, .tup es]), some (.tup es), o2, o3, o4, none, none]) (badAt es) (.bl false) (enumF 0 es) [some (.tup [.int c, .tup es]), some (.tup es), none, none, none, none, none] ⟨none, none, none, rfl⟩ fun z hz τ ⟨o2, o3, o4, eτ⟩ => by
      subst eτ
      obtain ⟨i, one, rfl, h1, hi⟩ := enum_mem hz
      obtain ⟨p, sg, bs, s, g, rfl, bl, hb, kk⟩ := edge_parts (h one h1)
      refine ⟨[some (.tup [.int c, .tup es]), some (.tup es), some (.int i), some (.tup [p, sg, .tup bs, s, g]), o4, none, none], rfl, ?_⟩
      have p1 := kd_pure (edge_kd (h _ h1))
      obtain ⟨τ2, g1, g2⟩ := forL_find (T := nameT 4) (B := ifM (MV.andM (tst (c2 MV.eqV (cSl (rdO 3) partN (partS (cC (.int 2)))) (cSl (rdO 4) partN (partS (cC (.int 2)))))) (tst (cN allV (consM (lcM (zipI (consM (c2 idxV (rdO 3) (cC (.int 2))) (consM (c2 idxV (rdO 4) (cC (.int 2))) nilM))) (tupT 2 (consT (nameT 5) (consT (nameT 6) nilT))) yesM (callM m_meet (consM (rdO 5) (consM (rdO 6) nilM))) [5, 6]) nilM)))) (retM (cC (.bl false))) nextM)
        (fun τ => ∃ o4, τ = [some (.tup [.int c, .tup es]), some (.tup es), some (.int i), some (.tup [p, sg, .tup bs, s, g]), o4, none, none]) (bad (.tup [p, sg, .tup bs, s, g])) (.bl false) (cutL es none (some i)) [some (.tup [.int c, .tup es]), some (.tup es), some (.int i), some (.tup [p, sg, .tup bs, s, g]), o4, none, none] ⟨o4, rfl⟩ fun y hy τ ⟨o4, eτ⟩ => by
          subst eτ
          have hy' := cut_mem hy
          obtain ⟨p', sg', bs', s', g', rfl, bl', hb', kk'⟩ := edge_parts (h y hy')
          have p2 := kd_pure (edge_kd (h _ hy'))
          refine ⟨[some (.tup [.int c, .tup es]), some (.tup es), some (.int i), some (.tup [p, sg, .tup bs, s, g]), some (.tup [p', sg', .tup bs', s', g']), none, none], rfl, [some (.tup [.int c, .tup es]), some (.tup es), some (.int i), some (.tup [p, sg, .tup bs, s, g]), some (.tup [p', sg', .tup bs', s', g']), none, none], ?_⟩
          generalize hτ : ([some (.tup [.int c, .tup es]), some (.tup es), some (.int i), some (.tup [p, sg, .tup bs, s, g]), some (.tup [p', sg', .tup bs', s', g']), none, none] : Sl) = τ0
          have r3 : τ0[3]? = some (some (.tup [p, sg, .tup bs, s, g])) := by rw [← hτ]; rfl
          have r4 : τ0[4]? = some (some (.tup [p', sg', .tup bs', s', g'])) := by rw [← hτ]; rfl
          have k : tst (c2 MV.eqV (cSl (rdO 3) partN (partS (cC (.int 2)))) (cSl (rdO 4) partN (partS (cC (.int 2))))) τ0 = some (kbE (.tup [p, sg, .tup bs, s, g]) (.tup [p', sg', .tup bs', s', g']), τ0) :=
            s_tst (s_c2 (s_sl (s_rdO r3) s_pN (s_pS s_cC) (slice_tup p1)) (s_sl (s_rdO r4) s_pN (s_pS s_cC) (slice_tup p2)) (eq_keys kk kk'))
          have a : tst (cN allV (consM (lcM (zipI (consM (c2 idxV (rdO 3) (cC (.int 2))) (consM (c2 idxV (rdO 4) (cC (.int 2))) nilM))) (tupT 2 (consT (nameT 5) (consT (nameT 6) nilT))) yesM (callM m_meet (consM (rdO 5) (consM (rdO 6) nilM))) [5, 6]) nilM)) τ0 = some ((zipF bs bs').all pairB, τ0) := by
            have pb : pureL bs = true := pure_of fun b hb0 => bound_pure (hb b hb0)
            have pb' : pureL bs' = true := pure_of fun b hb0 => bound_pure (hb' b hb0)
            have hz := s_zipT (s_cons (q_ix (k := 2) (s_rdO r3) s_cC rfl pb) (s_cons (q_ix (k := 2) (s_rdO r4) s_cC rfl pb') s_nil))
            rw [frzL_of_pure bs pb, frzL_of_pure bs' pb'] at hz
            have w0 : wipeM τ0 [5, 6] = τ0 := by rw [← hτ]; rfl
            have lc := lcM_det (T := tupT 2 (consT (nameT 5) (consT (nameT 6) nilT))) (C := yesM) (E := callM m_meet (consM (rdO 5) (consM (rdO 6) nilM))) (own := [5, 6]) (fun z => some (.bl (pairB z))) hz (by rw [sizeLine_eq, zipF_length]; omega) fun z hz0 => by
              obtain ⟨b, b', rfl, B1, B2⟩ := zip_bounds hb hb' z hz0
              rw [w0, ← hτ]
              refine ⟨_, rfl, .inr ⟨_, _, _, rfl, rfl, s_callM (s_cons (s_rdO rfl) (s_cons (s_rdO rfl) s_nil)) (by simp [pureL, bound_pure B1, bound_pure B2]) (meet_some B1 B2), rfl⟩⟩
            rw [w0] at lc
            have e : (zipF bs bs').filterMap (fun z => some (Val.bl (pairB z))) = (zipF bs bs').map fun z => .bl (pairB z) := by simp
            rw [e] at lc
            exact s_tst (s_cN (s_cons lc s_nil) (allV_map pairB _))
          have t := q_and k fun _ => a
          refine ⟨fun z => ⟨s_ifF (t.trans (by rw [show (kbE (.tup [p, sg, .tup bs, s, g]) (.tup [p', sg', .tup bs', s', g']) && (zipF bs bs').all pairB) = false from z])) s_next, _, hτ.symm⟩, fun z => s_ifT (t.trans (by rw [show (kbE (.tup [p, sg, .tup bs, s, g]) (.tup [p', sg', .tup bs', s', g']) && (zipF bs bs').all pairB) = true from z])) (s_ret s_cC)⟩
      have hI : seqI (cSl (rdO 1) partN (partS (rdO 2))) [some (.tup [.int c, .tup es]), some (.tup es), some (.int i), some (.tup [p, sg, .tup bs, s, g]), o4, none, none] = some (cutL es none (some i), [some (.tup [.int c, .tup es]), some (.tup es), some (.int i), some (.tup [p, sg, .tup bs, s, g]), o4, none, none]) :=
        q_seqI (s_sl (s_rdO rfl) s_pN (s_pS (s_rdO rfl)) (slice_tup pe)) rfl (pure_of fun y hy => kd_pure (edge_kd (h y (cut_mem hy))))
      refine ⟨τ2, fun z => ?_, fun z => s_for hI (g2 z)⟩
      obtain ⟨g3, o4', e4⟩ := g1 z
      exact ⟨s_for hI g3, _, _, _, e4⟩
  have hE : enumI (rdE 1) [some (.tup [.int c, .tup es]), some (.tup es), none, none, none, none, none] = some (enumF 0 es, [some (.tup [.int c, .tup es]), some (.tup es), none, none, none, none, none]) := by
    have := s_enumI (s_rdE (i := 1) (τ := [some (.tup [.int c, .tup es]), some (.tup es), none, none, none, none, none]) (x := .tup es) rfl pe) (xs := es) rfl
    rwa [frzL_of_pure es pe] at this
  unfold clearB
  cases ha : (enumF 0 es).any (badAt es) with
  | false =>
    obtain ⟨f3, _⟩ := f1 ha
    exact q_seq (s_for hE f3) (q_ret s_cC)
  | true => exact ⟨τ', s_seqR (s_for hE (f2 ha))⟩
end K01
end

section
set_option maxHeartbeats 4000000
/-! is_clear as the law reads it -/
namespace K01
open MV PySem
abbrev lSl (m : Val) (o1 o2 o3 o4 o5 o6 o7 o8 : Option Val) : Sl := [some m, o1, o2, o3, o4, o5, o6, o7, o8, none]
theorem half_nice (t : Nat) (h : t < 12) : (halfV t).nice 1 = true := by
  have : ((List.range 12).all fun t => (halfV t).nice 1) = true := by decide +kernel
  exact List.all_eq_true.mp this t (List.mem_range.mpr h)
theorem halves_mem {x : Val} (h : x ∈ halves) : ∃ t, x = halfV t ∧ t < 12 := by
  obtain ⟨t, ht, rfl⟩ := List.mem_map.mp h
  exact ⟨t, rfl, List.mem_range.mp ht⟩
theorem halves_pure : pureL halves = true := pure_of fun x hx => by
  obtain ⟨t, rfl, _⟩ := halves_mem hx
  rfl
def halfOf : Val → Val
  | .int i => halfV i.toNat
  | _ => .non
theorem halves_eq : (rngL 0 12).map halfOf = halves := by
  unfold rngL halves
  rw [List.map_map]
  refine List.map_congr_left fun i _ => ?_
  simp only [Function.comp, halfOf]
  congr 1
  omega
theorem frz_lstT {xs : List Val} (h : pureL xs = true) : (Val.lst true xs).frz = .lst false xs := by simp only [Val.frz, frzL_of_pure xs h]
/-- the loop over the pairs of bounds counts those that meet -/
theorem pair_loop (m : Val) (o1 o2 o3 : Option Val) : ∀ (zs : List Val), (∀ z ∈ zs, ∃ b b', z = .tup [b, b'] ∧ BoundP b ∧ BoundP b') → ∀ (k : Nat) (o5 o6 o7 o8 : Option Val), ∃ o5' o6' o7' o8',
    forL (tupT 2 (consT (nameT 5) (consT (nameT 6) nilT))) (seqM (setM 7 (lcM (rng1I (consM (cC (.int 12)) nilM)) (nameT 9) yesM (callM m__law_low (consM (rdO 9) (consM (cC (.int 2)) nilM))) [9]))
  (seqM (setM 8 (lcM (seqI (rdE 7)) (nameT 9) (tst (callM m__law_kept (consM (rdO 9) (consM (rdO 5) nilM)))) (rdE 9) [9]))
  (setM 4 (c2 addV (rdO 4) (cN intV (consM (c2 neV (lcM (seqI (rdE 8)) (nameT 9) (tst (callM m__law_kept (consM (rdO 9) (consM (rdO 6) nilM)))) (rdE 9) [9]) (cN mkLst nilM)) nilM)))))) zs (lSl m o1 o2 o3 (some (.int k)) o5 o6 o7 o8) = some (.next, lSl m o1 o2 o3 (some (.int ((k + zs.countP pairB : Nat) : Int))) o5' o6' o7' o8')
  | [], _, k, o5, o6, o7, o8 => ⟨o5, o6, o7, o8, rfl⟩
  | z :: zs, h, k, o5, o6, o7, o8 => by
    obtain ⟨b, b', rfl, B1, B2⟩ := h z List.mem_cons_self
    have pb := bound_pure B1
    have pb' := bound_pure B2
    -- the halves
    have c7 : setM 7 (lcM (rng1I (consM (cC (.int 12)) nilM)) (nameT 9) yesM (callM m__law_low (consM (rdO 9) (consM (cC (.int 2)) nilM))) [9]) (lSl m o1 o2 o3 (some (.int k)) (some b) (some b') o7 o8) = some (.next, lSl m o1 o2 o3 (some (.int k)) (some b) (some b') (some (.lst true halves)) o8) := by
      have lc := q_map' (i := 9) (τ := lSl m o1 o2 o3 (some (.int k)) (some b) (some b') o7 o8) (E := callM m__law_low (consM (rdO 9) (consM (cC (.int 2)) nilM))) halfOf (s_rng1 (k := 12) (s_cons s_cC s_nil) (inR_of (by decide) (by decide))) rfl (fun y hy => by
        obtain ⟨i, rfl, hi⟩ : ∃ i : Nat, y = .int i ∧ i < 12 := by
          unfold rngL at hy
          obtain ⟨i, hi, rfl⟩ := List.mem_map.mp hy
          exact ⟨i, by simp, by simpa using List.mem_range.mp hi⟩
        have e : halfOf (.int (i : Int)) = halfV i := rfl
        rw [e]
        exact s_callM (s_cons (s_rdO rfl) (s_cons s_cC s_nil)) rfl (low_spec (a := i) (b := 2) (by decide) (by decide))) (by rw [rngL_length]; decide)
      rw [halves_eq] at lc
      exact s_set' lc
    -- those that keep the first
    have fz := frz_lstT halves_pure
    have c8 : setM 8 (lcM (seqI (rdE 7)) (nameT 9) (tst (callM m__law_kept (consM (rdO 9) (consM (rdO 5) nilM)))) (rdE 9) [9]) (lSl m o1 o2 o3 (some (.int k)) (some b) (some b') (some (.lst true halves)) o8) = some (.next, lSl m o1 o2 o3 (some (.int k)) (some b) (some b') (some (.lst false halves)) (some (.lst true (halves.filter fun x => keptB x b)))) := by
      have r7 : rdE 7 (lSl m o1 o2 o3 (some (.int k)) (some b) (some b') (some (.lst true halves)) o8) = some (.lst false halves, lSl m o1 o2 o3 (some (.int k)) (some b) (some b') (some (.lst false halves)) o8) := by
        rw [s_rdEf (i := 7) (x := .lst true halves) rfl rfl, fz]
        rfl
      have hI := s_seqI r7 (xs := halves) rfl
      rw [frzL_of_pure halves halves_pure] at hI
      exact s_set' (q_filter2 (i := 9) (C := tst (callM m__law_kept (consM (rdO 9) (consM (rdO 5) nilM)))) (fun x => keptB x b) hI halves_pure rfl (fun y hy => by
        obtain ⟨t, rfl, ht⟩ := halves_mem hy
        exact s_tst (s_callM (s_cons (s_rdO rfl) (s_cons (s_rdO rfl) s_nil)) (by simp [pureL, pb, halfV, Val.pure]) (kept_some B1 t))) (show 12 ≤ 1000 by decide))
    -- .. and the other one
    have p8 : pureL (halves.filter fun x => keptB x b) = true := pure_of fun x hx => by
      obtain ⟨t, rfl, _⟩ := halves_mem (List.mem_filter.mp hx).1
      rfl
    have c4 : setM 4 (c2 addV (rdO 4) (cN intV (consM (c2 neV (lcM (seqI (rdE 8)) (nameT 9) (tst (callM m__law_kept (consM (rdO 9) (consM (rdO 6) nilM)))) (rdE 9) [9]) (cN mkLst nilM)) nilM))) (lSl m o1 o2 o3 (some (.int k)) (some b) (some b') (some (.lst false halves)) (some (.lst true (halves.filter fun x => keptB x b)))) =
        some (.next, lSl m o1 o2 o3 (some (.int ((k + (if meetB b b' = true then 1 else 0) : Nat) : Int))) (some b) (some b') (some (.lst false halves)) (some (.lst false (halves.filter fun x => keptB x b)))) := by
      have r8 : rdE 8 (lSl m o1 o2 o3 (some (.int k)) (some b) (some b') (some (.lst false halves)) (some (.lst true (halves.filter fun x => keptB x b)))) = some (.lst false (halves.filter fun x => keptB x b), lSl m o1 o2 o3 (some (.int k)) (some b) (some b') (some (.lst false halves)) (some (.lst false (halves.filter fun x => keptB x b)))) := by
        rw [s_rdEf (i := 8) (x := .lst true (halves.filter fun x => keptB x b)) rfl rfl, frz_lstT p8]
        rfl
      have hI := s_seqI r8 (xs := halves.filter fun x => keptB x b) rfl
      rw [frzL_of_pure _ p8] at hI
      have lc := q_filter2 (i := 9) (C := tst (callM m__law_kept (consM (rdO 9) (consM (rdO 6) nilM)))) (fun x => keptB x b') hI p8 rfl (fun y hy => by
        obtain ⟨t, rfl, ht⟩ := halves_mem (List.mem_filter.mp hy).1
        exact s_tst (s_callM (s_cons (s_rdO rfl) (s_cons (s_rdO rfl) s_nil)) (by simp [pureL, pb', halfV, Val.pure]) (kept_some B2 t))) (Nat.le_trans (List.length_filter_le _ _) (show 12 ≤ 1000 by decide))
      have ne := ne_nil (m := true) (m' := true) (zs := (halves.filter fun x => keptB x b).filter fun x => keptB x b') (nice_lst_okD (n := 1) (fun z hz => by
        obtain ⟨t, rfl, ht⟩ := halves_mem (List.mem_filter.mp (List.mem_filter.mp hz).1).1
        exact half_nice t ht) (by decide))
      rw [← meet_iff B1 B2] at ne
      refine s_set' (s_c2 (s_rdO rfl) (s_cN (s_cons (s_c2 lc (s_cN s_nil (mkLst_ok (show 0 ≤ 1000 by decide))) ne) s_nil) rfl) ?_)
      show some (Val.int ((k : Int) + (if meetB b b' = true then 1 else 0))) = _
      congr 2
      split <;> simp
    obtain ⟨o5', o6', o7', o8', e⟩ := pair_loop m o1 o2 o3 zs (fun z hz => h z (List.mem_cons_of_mem _ hz)) (k + (if meetB b b' = true then 1 else 0)) (some b) (some b') (some (.lst false halves)) (some (.lst false (halves.filter fun x => keptB x b)))
    refine ⟨o5', o6', o7', o8', ?_⟩
    have step := s_seq c7 (s_seq c8 c4)
    have cnt : k + (Val.tup [b, b'] :: zs).countP pairB = k + (if meetB b b' = true then 1 else 0) + zs.countP pairB := by
      rw [List.countP_cons]
      show k + (zs.countP pairB + if meetB b b' = true then 1 else 0) = _
      omega
    rw [cnt, ← e]
    show ((tupT 2 (consT (nameT 5) (consT (nameT 6) nilT))) (.tup [b, b']) (lSl m o1 o2 o3 (some (.int k)) o5 o6 o7 o8)).bind _ = _
    have tg : (tupT 2 (consT (nameT 5) (consT (nameT 6) nilT))) (.tup [b, b']) (lSl m o1 o2 o3 (some (.int k)) o5 o6 o7 o8) = some (lSl m o1 o2 o3 (some (.int k)) (some b) (some b') o7 o8) := rfl
    rw [tg]
    simp only [Option.bind_some]
    rw [step]
    rfl
end K01
end

section
set_option maxHeartbeats 4000000
/-! is_clear as the law reads it: the whole -/
namespace K01
open MV PySem
theorem count_all {c : Nat} {xs : List Val} (h : xs.length = c) : decide (xs.countP pairB = c) = xs.all pairB := by
  rw [Bool.eq_iff_iff, decide_eq_true_eq, ← h, List.countP_eq_length, List.all_eq_true]
theorem law_clear_spec {c : Nat} {es : List Val} (h : ∀ e ∈ es, EdgeP c e) (hl : es.length ≤ 900) (hc : c ≤ 2) : m__law_clear [.tup [.int c, .tup es]] = some (.bl (clearB es)) := by
  have pe := edges_pure h
  unfold m__law_clear b__law_clear
  refine q_fn ?_
  show Ret _ (lSl (.tup [.int c, .tup es]) none none none none none none none none) _
  obtain ⟨τ', f1, f2⟩ := forL_find (T := tupT 2 (consT (nameT 1) (consT (nameT 2) nilT))) (B := forM (seqI (cSl (c2 idxV (rdO 0) (cC (.int 1))) partN (partS (rdO 1)))) (nameT 3) (seqM (setM 4 (cC (.int 0)))
  (seqM (forM (zipI (consM (c2 idxV (rdO 2) (cC (.int 2))) (consM (c2 idxV (rdO 3) (cC (.int 2))) nilM))) (tupT 2 (consT (nameT 5) (consT (nameT 6) nilT))) (seqM (setM 7 (lcM (rng1I (consM (cC (.int 12)) nilM)) (nameT 9) yesM (callM m__law_low (consM (rdO 9) (consM (cC (.int 2)) nilM))) [9]))
  (seqM (setM 8 (lcM (seqI (rdE 7)) (nameT 9) (tst (callM m__law_kept (consM (rdO 9) (consM (rdO 5) nilM)))) (rdE 9) [9]))
  (setM 4 (c2 addV (rdO 4) (cN intV (consM (c2 neV (lcM (seqI (rdE 8)) (nameT 9) (tst (callM m__law_kept (consM (rdO 9) (consM (rdO 6) nilM)))) (rdE 9) [9]) (cN mkLst nilM)) nilM)))))))
  (ifM (MV.andM (tst (c2 MV.eqV (cSl (rdO 2) partN (partS (cC (.int 2)))) (cSl (rdO 3) partN (partS (cC (.int 2)))))) (tst (c2 MV.eqV (rdO 4) (c2 idxV (rdO 0) (cC (.int 0)))))) (retM (cC (.bl false))) nextM))))
    (fun τ => ∃ o1 o2 o3 o4 o5 o6 o7 o8, τ = lSl (.tup [.int c, .tup es]) o1 o2 o3 o4 o5 o6 o7 o8) (badAt es) (.bl false) (enumF 0 es) (lSl (.tup [.int c, .tup es]) none none none none none none none none) ⟨_, _, _, _, _, _, _, _, rfl⟩ fun z hz τ ⟨o1, o2, o3, o4, o5, o6, o7, o8, eτ⟩ => by
      subst eτ
      obtain ⟨i, one, rfl, h1, hi⟩ := enum_mem hz
      obtain ⟨p, sg, bs, s, g, rfl, bl, hb, kk⟩ := edge_parts (h one h1)
      refine ⟨lSl (.tup [.int c, .tup es]) (some (.int i)) (some (.tup [p, sg, .tup bs, s, g])) o3 o4 o5 o6 o7 o8, rfl, ?_⟩
      have p1 := kd_pure (edge_kd (h _ h1))
      obtain ⟨τ2, g1, g2⟩ := forL_find (T := nameT 3) (B := seqM (setM 4 (cC (.int 0)))
  (seqM (forM (zipI (consM (c2 idxV (rdO 2) (cC (.int 2))) (consM (c2 idxV (rdO 3) (cC (.int 2))) nilM))) (tupT 2 (consT (nameT 5) (consT (nameT 6) nilT))) (seqM (setM 7 (lcM (rng1I (consM (cC (.int 12)) nilM)) (nameT 9) yesM (callM m__law_low (consM (rdO 9) (consM (cC (.int 2)) nilM))) [9]))
  (seqM (setM 8 (lcM (seqI (rdE 7)) (nameT 9) (tst (callM m__law_kept (consM (rdO 9) (consM (rdO 5) nilM)))) (rdE 9) [9]))
  (setM 4 (c2 addV (rdO 4) (cN intV (consM (c2 neV (lcM (seqI (rdE 8)) (nameT 9) (tst (callM m__law_kept (consM (rdO 9) (consM (rdO 6) nilM)))) (rdE 9) [9]) (cN mkLst nilM)) nilM)))))))
  (ifM (MV.andM (tst (c2 MV.eqV (cSl (rdO 2) partN (partS (cC (.int 2)))) (cSl (rdO 3) partN (partS (cC (.int 2)))))) (tst (c2 MV.eqV (rdO 4) (c2 idxV (rdO 0) (cC (.int 0)))))) (retM (cC (.bl false))) nextM)))
        (fun τ => ∃ o3 o4 o5 o6 o7 o8, τ = lSl (.tup [.int c, .tup es]) (some (.int i)) (some (.tup [p, sg, .tup bs, s, g])) o3 o4 o5 o6 o7 o8) (bad (.tup [p, sg, .tup bs, s, g])) (.bl false) (cutL es none (some i)) (lSl (.tup [.int c, .tup es]) (some (.int i)) (some (.tup [p, sg, .tup bs, s, g])) o3 o4 o5 o6 o7 o8) ⟨_, _, _, _, _, _, rfl⟩ fun y hy τ ⟨o3, o4, o5, o6, o7, o8, eτ⟩ => by
          subst eτ
          have hy' := cut_mem hy
          obtain ⟨p', sg', bs', s', g', rfl, bl', hb', kk'⟩ := edge_parts (h y hy')
          have p2 := kd_pure (edge_kd (h _ hy'))
          have pb : pureL bs = true := pure_of fun b hb0 => bound_pure (hb b hb0)
          have pb' : pureL bs' = true := pure_of fun b hb0 => bound_pure (hb' b hb0)
          refine ⟨lSl (.tup [.int c, .tup es]) (some (.int i)) (some (.tup [p, sg, .tup bs, s, g])) (some (.tup [p', sg', .tup bs', s', g'])) o4 o5 o6 o7 o8, rfl, ?_⟩
          have c4 : setM 4 (cC (.int 0)) (lSl (.tup [.int c, .tup es]) (some (.int i)) (some (.tup [p, sg, .tup bs, s, g])) (some (.tup [p', sg', .tup bs', s', g'])) o4 o5 o6 o7 o8) = some (.next, lSl (.tup [.int c, .tup es]) (some (.int i)) (some (.tup [p, sg, .tup bs, s, g])) (some (.tup [p', sg', .tup bs', s', g'])) (some (.int ((0 : Nat) : Int))) o5 o6 o7 o8) := s_set' s_cC
          have hz := s_zipT (τ := lSl (.tup [.int c, .tup es]) (some (.int i)) (some (.tup [p, sg, .tup bs, s, g])) (some (.tup [p', sg', .tup bs', s', g'])) (some (.int ((0 : Nat) : Int))) o5 o6 o7 o8) (s_cons (q_ix (k := 2) (Da := rdO 2) (s_rdO rfl) s_cC rfl pb) (s_cons (q_ix (k := 2) (Da := rdO 3) (s_rdO rfl) s_cC rfl pb') s_nil))
          rw [frzL_of_pure bs pb, frzL_of_pure bs' pb'] at hz
          obtain ⟨o5', o6', o7', o8', e⟩ := pair_loop (.tup [.int c, .tup es]) (some (.int i)) (some (.tup [p, sg, .tup bs, s, g])) (some (.tup [p', sg', .tup bs', s', g'])) (zipF bs bs') (zip_bounds hb hb') 0 o5 o6 o7 o8
          rw [Nat.zero_add] at e
          refine ⟨lSl (.tup [.int c, .tup es]) (some (.int i)) (some (.tup [p, sg, .tup bs, s, g])) (some (.tup [p', sg', .tup bs', s', g'])) (some (.int ((zipF bs bs').countP pairB))) o5' o6' o7' o8', ?_⟩
          have k : tst (c2 MV.eqV (cSl (rdO 2) partN (partS (cC (.int 2)))) (cSl (rdO 3) partN (partS (cC (.int 2))))) (lSl (.tup [.int c, .tup es]) (some (.int i)) (some (.tup [p, sg, .tup bs, s, g])) (some (.tup [p', sg', .tup bs', s', g'])) (some (.int ((zipF bs bs').countP pairB))) o5' o6' o7' o8') = some (kbE (.tup [p, sg, .tup bs, s, g]) (.tup [p', sg', .tup bs', s', g']), lSl (.tup [.int c, .tup es]) (some (.int i)) (some (.tup [p, sg, .tup bs, s, g])) (some (.tup [p', sg', .tup bs', s', g'])) (some (.int ((zipF bs bs').countP pairB))) o5' o6' o7' o8') :=
            s_tst (s_c2 (s_sl (s_rdO rfl) s_pN (s_pS s_cC) (slice_tup p1)) (s_sl (s_rdO rfl) s_pN (s_pS s_cC) (slice_tup p2)) (eq_keys kk kk'))
          have zl : (zipF bs bs').length = c := by rw [zipF_length]; omega
          have a : tst (c2 MV.eqV (rdO 4) (c2 idxV (rdO 0) (cC (.int 0)))) (lSl (.tup [.int c, .tup es]) (some (.int i)) (some (.tup [p, sg, .tup bs, s, g])) (some (.tup [p', sg', .tup bs', s', g'])) (some (.int ((zipF bs bs').countP pairB))) o5' o6' o7' o8') = some ((zipF bs bs').all pairB, lSl (.tup [.int c, .tup es]) (some (.int i)) (some (.tup [p, sg, .tup bs, s, g])) (some (.tup [p', sg', .tup bs', s', g'])) (some (.int ((zipF bs bs').countP pairB))) o5' o6' o7' o8') :=
            s_tst (s_c2 (s_rdO rfl) (q_ix (k := 0) (s_rdO rfl) s_cC rfl rfl) ((eq_nat _ c).trans (by rw [count_all zl])))
          have t := q_and k fun _ => a
          refine ⟨fun z => ⟨s_seq c4 (s_seq (s_for hz e) (s_ifF (t.trans (by rw [show (kbE (.tup [p, sg, .tup bs, s, g]) (.tup [p', sg', .tup bs', s', g']) && (zipF bs bs').all pairB) = false from z])) s_next)), _, _, _, _, _, _, rfl⟩,
            fun z => s_seq c4 (s_seq (s_for hz e) (s_ifT (t.trans (by rw [show (kbE (.tup [p, sg, .tup bs, s, g]) (.tup [p', sg', .tup bs', s', g']) && (zipF bs bs').all pairB) = true from z])) (s_ret s_cC)))⟩
      have hI : seqI (cSl (c2 idxV (rdO 0) (cC (.int 1))) partN (partS (rdO 1))) (lSl (.tup [.int c, .tup es]) (some (.int i)) (some (.tup [p, sg, .tup bs, s, g])) o3 o4 o5 o6 o7 o8) = some (cutL es none (some i), lSl (.tup [.int c, .tup es]) (some (.int i)) (some (.tup [p, sg, .tup bs, s, g])) o3 o4 o5 o6 o7 o8) :=
        q_seqI (s_sl (q_ix (k := 1) (s_rdO rfl) s_cC rfl pe) s_pN (s_pS (s_rdO rfl)) (slice_tup pe)) rfl (pure_of fun y hy => kd_pure (edge_kd (h y (cut_mem hy))))
      refine ⟨τ2, fun z => ?_, fun z => s_for hI (g2 z)⟩
      obtain ⟨g3, a3, a4, a5, a6, a7, a8, e4⟩ := g1 z
      exact ⟨s_for hI g3, _, _, _, _, _, _, _, _, e4⟩
  have hE : enumI (c2 idxV (rdO 0) (cC (.int 1))) (lSl (.tup [.int c, .tup es]) none none none none none none none none) = some (enumF 0 es, lSl (.tup [.int c, .tup es]) none none none none none none none none) := by
    have := s_enumI (q_ix (τ := lSl (.tup [.int c, .tup es]) none none none none none none none none) (k := 1) (Da := rdO 0) (s_rdO rfl) s_cC rfl pe) (xs := es) rfl
    rwa [frzL_of_pure es pe] at this
  unfold clearB
  cases ha : (enumF 0 es).any (badAt es) with
  | false =>
    obtain ⟨f3, _⟩ := f1 ha
    exact q_seq (s_for hE f3) (q_ret s_cC)
  | true => exact ⟨τ', s_seqR (s_for hE (f2 ha))⟩
/-- is_clear of a good machine -/
theorem clear_spec {n c : Nat} {es : List Val} (h : ∀ e ∈ es, EdgeP c e) (hn : (Val.tup [.int c, .tup es]).nice n = true) (hl : es.length ≤ 900) (hc : c ≤ 2) (g : gMach (.tup [.int c, .tup es]) = true) : m_is_clear [.tup [.int c, .tup es]] = some (.bl (clearB es)) := by
  have pm := nice_pure n _ hn
  have look : m_look_at_machine [.tup [.int c, .tup es]] = some .non := by
    unfold m_look_at_machine b_look_at_machine
    exact s_fnN (s_ifF (s_not (b := true) (s_tst (s_callM (s_cons (s_rdO rfl) s_nil) (by simp [pureL, pm]) ((is_machine_spec hn).trans (by rw [g]))))) s_next)
  unfold m_is_clear b_is_clear
  refine q_fn ?_
  show Ret _ [some (.tup [.int c, .tup es])] _
  exact q_seq (s_drop (s_callM (s_cons (s_rdO rfl) s_nil) (by simp [pureL, pm]) look)) (q_ret (s_callM (s_cons (s_rdO rfl) s_nil) (by simp [pureL, pm]) (clear_by_spec h hl hc)))
end K01
end

section
set_option maxHeartbeats 4000000
/-! the law: what is drawn for a cell -/
namespace K01
open MV PySem
abbrev wSl (ns : List Int) (o1 o2 o3 o4 o5 o6 o7 o8 o9 o10 o11 o12 o13 : Option Val) : Sl := [some (.scr ns), o1, o2, o3, o4, o5, o6, o7, o8, o9, o10, o11, o12, o13]
/-- a pause -/
def PauseP (p : Val) : Prop := ∃ a b : Nat, p = .tup [.int a, .int b] ∧ a ≤ 9 ∧ b ≤ 9
theorem int_nice {n a : Nat} (h : a ≤ 1000) : (Val.int a).nice n = true := by
  cases n <;> (simp only [Val.nice, Bool.and_eq_true, decide_eq_true_eq]; omega)
theorem pause_nice {p : Val} (h : PauseP p) : p.nice 1 = true := by
  obtain ⟨a, b, rfl, ha, hb⟩ := h
  exact nice_tup (fun y hy => by
    simp only [List.mem_cons, List.not_mem_nil, or_false] at hy
    rcases hy with rfl | rfl <;> exact int_nice (by omega)) (show 2 ≤ 1000 by decide)
theorem pauses_spec (ns : List Int) {s : Val} (hs : Spr s) (a m b o5 o6 o7 o8 o9 o10 o11 o12 o13 : Option Val) : ∃ ps s', setM 5 (lcM (rng1I (consM (callIO m__law_pick 2 (consM (cC (.int 7)) nilM)) nilM)) (nameT 9) yesM (callM m__law_low (consM (callIO m__law_pick 2 (consM (cC (.int 9)) nilM)) (consM (c2 addV (cC (.int 1)) (callIO m__law_pick 2 (consM (cC (.int 6)) nilM))) nilM))) [9]) (wSl ns a (some s) m b o5 o6 o7 o8 o9 o10 o11 o12 o13) =
    some (.next, wSl ns a (some s') m b (some (.lst true ps)) o6 o7 o8 none o10 o11 o12 o13) ∧ Spr s' ∧ ps.length ≤ 6 ∧ ∀ p ∈ ps, PauseP p := by
  obtain ⟨d, s1, h1, d0, d1, q1⟩ := pick_spec hs (m := 7) (by decide) (by decide)
  obtain ⟨ys, τ', e, ⟨s2, q2, rfl⟩, el, rel⟩ := lcL_all (T := nameT 9) (E := callM m__law_low (consM (callIO m__law_pick 2 (consM (cC (.int 9)) nilM)) (consM (c2 addV (cC (.int 1)) (callIO m__law_pick 2 (consM (cC (.int 6)) nilM))) nilM))) (own := [9]) (fun τ => ∃ s, Spr s ∧ τ = wSl ns a (some s) m b o5 o6 o7 o8 none o10 o11 o12 o13) (fun _ y => PauseP y)
    (rngL 0 d) (wSl ns a (some s1) m b o5 o6 o7 o8 none o10 o11 o12 o13) ⟨s1, q1, rfl⟩ fun x hx τ ⟨s, q, eτ⟩ => by
      subst eτ
      obtain ⟨t, s3, h3, t0, t1, q3⟩ := pick_spec q (m := 9) (by decide) (by decide)
      obtain ⟨u, s4, h4, u0, u1, q4⟩ := pick_spec q3 (m := 6) (by decide) (by decide)
      obtain ⟨tn, rfl⟩ : ∃ k : Nat, t = k := ⟨t.toNat, by omega⟩
      obtain ⟨un, hu⟩ : ∃ k : Nat, 1 + u = k := ⟨(1 + u).toNat, by omega⟩
      refine ⟨wSl ns a (some s) m b o5 o6 o7 o8 (some x) o10 o11 o12 o13, rfl, _, wSl ns a (some s4) m b o5 o6 o7 o8 (some x) o10 o11 o12 o13,
        s_callM (s_cons (s_callIO' (τ2 := wSl ns a (some s3) m b o5 o6 o7 o8 (some x) o10 o11 o12 o13) h3 (s_cons s_cC s_nil)) (s_cons (s_c2 s_cC (s_callIO' (τ2 := wSl ns a (some s4) m b o5 o6 o7 o8 (some x) o10 o11 o12 o13) h4 (s_cons s_cC s_nil)) (show addV (.int 1) (.int u) = some (.int (un : Int)) by rw [← hu]; rfl)) s_nil)) rfl (low_spec (a := tn) (b := un) (by omega) (by omega)), ⟨_, _, rfl, ?_, ?_⟩, s4, q4, rfl⟩
      · exact Nat.le_trans (Nat.div_le_self _ _) (by omega)
      · exact Nat.le_trans (Nat.div_le_self _ _) (by omega)
  rw [rngL_length] at el
  refine ⟨ys, s2, ?_, q2, by omega, fun y hy => let ⟨_, _, h⟩ := rel y hy; h⟩
  exact s_set' (s_lc (ys := ys) (s_rng1 (k := d) (s_cons (s_callIO' (τ2 := wSl ns a (some s1) m b o5 o6 o7 o8 o9 o10 o11 o12 o13) h1 (s_cons s_cC s_nil)) s_nil) (inR_of (by omega) (by omega))) e (by rw [sizeLine_eq]; omega))
/-- a beat of the row that is drawn -/
def BeatP (r : Val) : Prop := ∃ p sg, r = .tup [p, .str sg] ∧ PauseP p ∧ (sg = "a" ∨ sg = "b" ∨ sg = "c")
theorem beat_nice {r : Val} (h : BeatP r) : r.nice 2 = true := by
  obtain ⟨p, sg, rfl, hp, hs⟩ := h
  refine nice_tup (fun y hy => ?_) (show 2 ≤ 1000 by decide)
  simp only [List.mem_cons, List.not_mem_nil, or_false] at hy
  rcases hy with rfl | rfl
  · exact pause_nice hp
  · simpa [Val.nice] using lay_sign hs
theorem row_spec (ns : List Int) {s : Val} (hs : Spr s) {ps : List Val} (hp : ∀ p ∈ ps, PauseP p) (hl : ps.length ≤ 6) (a m b o6 o7 o8 o9 o10 o11 o12 o13 : Option Val) : ∃ rs s', setM 6 (cN tupleV (consM (lcM (seqI (rdE 5)) (nameT 13) yesM (cN mkTup (consM (rdE 13) (consM (c2 idxV (cN mkLst (consM (cC (.str "a")) (consM (cC (.str "b")) (consM (cC (.str "c")) nilM)))) (callIO m__law_pick 2 (consM (cC (.int 3)) nilM))) nilM))) [13]) nilM)) (wSl ns a (some s) m b (some (.lst true ps)) o6 o7 o8 o9 o10 o11 o12 o13) =
    some (.next, wSl ns a (some s') m b (some (.lst false ps)) (some (.tup rs)) o7 o8 o9 o10 o11 o12 none) ∧ Spr s' ∧ rs.length ≤ 6 ∧ ∀ r ∈ rs, BeatP r := by
  have pp : pureL ps = true := pure_nices fun y hy => pause_nice (hp y hy)
  have r5 : rdE 5 (wSl ns a (some s) m b (some (.lst true ps)) o6 o7 o8 o9 o10 o11 o12 o13) = some (.lst false ps, wSl ns a (some s) m b (some (.lst false ps)) o6 o7 o8 o9 o10 o11 o12 o13) := by
    rw [s_rdEf (i := 5) (x := .lst true ps) rfl rfl, frz_lstT pp]
    rfl
  have hI := s_seqI r5 (xs := ps) rfl
  rw [frzL_of_pure ps pp] at hI
  obtain ⟨ys, τ', e, ⟨s2, q2, rfl⟩, el, rel⟩ := lcL_all (T := nameT 13) (E := cN mkTup (consM (rdE 13) (consM (c2 idxV (cN mkLst (consM (cC (.str "a")) (consM (cC (.str "b")) (consM (cC (.str "c")) nilM)))) (callIO m__law_pick 2 (consM (cC (.int 3)) nilM))) nilM))) (own := [13]) (fun τ => ∃ s, Spr s ∧ τ = wSl ns a (some s) m b (some (.lst false ps)) o6 o7 o8 o9 o10 o11 o12 none) (fun _ y => BeatP y)
    ps (wSl ns a (some s) m b (some (.lst false ps)) o6 o7 o8 o9 o10 o11 o12 none) ⟨s, hs, rfl⟩ fun x hx τ ⟨s, q, eτ⟩ => by
      subst eτ
      obtain ⟨t, s3, h3, t0, t1, q3⟩ := pick_spec q (m := 3) (by decide) (by decide)
      obtain ⟨v, mv, iv⟩ := ix_mem (l := [.str "a", .str "b", .str "c"]) t0 t1
      obtain ⟨sg, rfl, hsg⟩ : ∃ z : Str, v = .str z ∧ (z = "a" ∨ z = "b" ∨ z = "c") := by
        simp only [List.mem_cons, List.not_mem_nil, or_false] at mv
        rcases mv with rfl | rfl | rfl <;> exact ⟨_, rfl, by simp⟩
      refine ⟨wSl ns a (some s) m b (some (.lst false ps)) o6 o7 o8 o9 o10 o11 o12 (some x), rfl, .tup [x, .str sg], wSl ns a (some s3) m b (some (.lst false ps)) o6 o7 o8 o9 o10 o11 o12 (some x),
        s_cN (s_cons (s_rdE rfl (nice_pure 1 x (pause_nice (hp x hx)))) (s_cons (s_c2 (s_cN (s_cons s_cC (s_cons s_cC (s_cons s_cC s_nil))) (mkLst_ok (show 3 ≤ 1000 by decide))) (s_callIO' (τ2 := wSl ns a (some s3) m b (some (.lst false ps)) o6 o7 o8 o9 o10 o11 o12 (some x)) h3 (s_cons s_cC s_nil)) (pureO_ok iv rfl)) s_nil)) (mkTup_ok (show 2 ≤ 1000 by decide)), ⟨x, sg, rfl, hp x hx, hsg⟩, s3, q3, rfl⟩
  have hB : ∀ r ∈ ys, BeatP r := fun y hy => let ⟨_, _, h⟩ := rel y hy; h
  have py : pureL ys = true := pure_nices fun y hy => beat_nice (hB y hy)
  refine ⟨ys, s2, ?_, q2, by omega, hB⟩
  exact s_set' (s_cN (s_cons (s_lc (ys := ys) hI e (by rw [sizeLine_eq]; omega)) s_nil) (tupleV_l py))
end K01
end

section
set_option maxHeartbeats 4000000
/-! the law: the values that are asked about -/
namespace K01
open MV PySem
theorem bound_nice {b : Val} (h : BoundP b) : b.nice 1 = true := by
  obtain ⟨l, wl, hh, wh, rfl, g⟩ := bound_nat h
  simp only [goodN, Bool.and_eq_true, decide_eq_true_eq] at g
  refine nice_tup (fun y hy => ?_) (show 4 ≤ 1000 by decide)
  simp only [List.mem_cons, List.not_mem_nil, or_false] at hy
  rcases hy with rfl | rfl | rfl | rfl
  · exact int_nice (by omega)
  · rfl
  · exact int_nice (by omega)
  · rfl
theorem clocks_len {c : Nat} {st : List Int} (hs : st.Pairwise (· < ·)) (h : ∀ i ∈ st, 0 ≤ i ∧ i < c) : st.length ≤ c := by
  have := nodup_le st ((List.range c).map fun i : Nat => (i : Int)) (hs.imp fun h => by omega) fun i hi => by
    have := h i hi
    exact List.mem_map.mpr ⟨i.toNat, List.mem_range.mpr (by omega), by omega⟩
  simpa using this
theorem edge_nice {c : Nat} (hc : c ≤ 2) {e : Val} (h : EdgeP c e) : e.nice 4 = true := by
  obtain ⟨p, sg, bs, st, g, rfl, hp, hs, hl, hb, hst, hr, hg⟩ := h
  have := clocks_len hst hr
  refine nice_tup (fun y hy => ?_) (show 5 ≤ 1000 by decide)
  simp only [List.mem_cons, List.not_mem_nil, or_false] at hy
  rcases hy with rfl | rfl | rfl | rfl | rfl
  · simp only [Val.nice, Bool.and_eq_true, decide_eq_true_eq]; omega
  · simpa [Val.nice] using lay_sign hs
  · exact nice_mono (nice_tup (n := 1) (fun y hy => bound_nice (hb y hy)) (by omega)) (by decide)
  · refine nice_tup (fun y hy => ?_) (by rw [List.length_map]; omega)
    obtain ⟨i, hi, rfl⟩ := List.mem_map.mp hy
    have := hr i hi
    simp only [Val.nice, Bool.and_eq_true, decide_eq_true_eq]
    omega
  · simp only [Val.nice, Bool.and_eq_true, decide_eq_true_eq]; omega
theorem short_of {xs : List Val} (hl : xs.length ≤ 300) (h : ∀ x ∈ xs, Val.short x = true) : Val.short (.tup xs) = true := by
  simp only [Val.short, Bool.and_eq_true, decide_eq_true_eq]
  exact ⟨hl, by rw [shortL_all]; exact List.all_eq_true.mpr h⟩
theorem bound_short {b : Val} (h : BoundP b) : Val.short b = true := by
  obtain ⟨l, wl, hh, wh, rfl, _⟩ := h
  rfl
theorem edge_short {c : Nat} (hc : c ≤ 2) {e : Val} (h : EdgeP c e) : Val.short e = true := by
  obtain ⟨p, sg, bs, st, g, rfl, hp, hs, hl, hb, hst, hr, hg⟩ := h
  have := clocks_len hst hr
  refine short_of (show 5 ≤ 300 by decide) fun y hy => ?_
  simp only [List.mem_cons, List.not_mem_nil, or_false] at hy
  rcases hy with rfl | rfl | rfl | rfl | rfl
  · rfl
  · rfl
  · exact short_of (by omega) fun y hy => bound_short (hb y hy)
  · refine short_of (by rw [List.length_map]; omega) fun y hy => ?_
    obtain ⟨i, hi, rfl⟩ := List.mem_map.mp hy
    rfl
  · rfl
theorem mach_nice {c : Nat} (hc : c ≤ 2) {es : List Val} (h : ∀ e ∈ es, EdgeP c e) (hl : es.length ≤ 6) : (Val.tup [.int c, .tup es]).nice 6 = true := by
  refine nice_tup (fun y hy => ?_) (show 2 ≤ 1000 by decide)
  simp only [List.mem_cons, List.not_mem_nil, or_false] at hy
  rcases hy with rfl | rfl
  · exact int_nice (by omega)
  · exact nice_tup (fun y hy => edge_nice hc (h y hy)) (by omega)
theorem mach_short {c : Nat} (hc : c ≤ 2) {es : List Val} (h : ∀ e ∈ es, EdgeP c e) (hl : es.length ≤ 6) : Val.short (Val.tup [.int c, .tup es]) = true := by
  refine short_of (show 2 ≤ 300 by decide) fun y hy => ?_
  simp only [List.mem_cons, List.not_mem_nil, or_false] at hy
  rcases hy with rfl | rfl
  · rfl
  · exact short_of (by omega) fun y hy => edge_short hc (h y hy)
theorem mach_good {c : Nat} (hc : c = 1 ∨ c = 2) {es : List Val} (h : ∀ e ∈ es, EdgeP c e) (h1 : 1 ≤ es.length) (hl : es.length ≤ 6) (r : riseL es = true) : gMach (.tup [.int c, .tup es]) = true := by
  simp only [gMach, Bool.and_eq_true, decide_eq_true_eq]
  exact ⟨⟨⟨⟨⟨by omega, by omega⟩, h1⟩, hl⟩, List.all_eq_true.mpr fun e he => gEdge_iff.mpr (h e he)⟩, r⟩
theorem beat_short {r : Val} (h : BeatP r) : Val.short r = true := by
  obtain ⟨p, sg, rfl, ⟨a, b, rfl, _⟩, _⟩ := h
  rfl
/-- more of them: k values with one place otherwise -/
theorem more_spec (ns : List Int) {s v : Val} (hs : Spr s) {d i : Nat} {k : Nat} (hv : v.nice d = true) (sh : Val.short v = true) (hd : d ≤ 6) (hk : k ≤ 100) (a m b p r o8 o9 o10 o11 o12 o13 : Option Val) (hi : ∀ s o7 o9, (wSl ns a (some s) m b p r o7 o8 o9 o10 o11 o12 o13)[i]? = some (some v))
    {L : List Val} (hL : ∀ y ∈ L, y.nice 8 = true) (hl : L.length ≤ 500) :
    ∃ L2 s', setM 7 (c2 addV (rdE 7) (lcM (rng1I (consM (cC (.int k)) nilM)) (nameT 9) yesM (callIO (m__law_bent 8) 2 (consM (rdE i) nilM)) [9])) (wSl ns a (some s) m b p r (some (.lst true L)) o8 o9 o10 o11 o12 o13) = some (.next, wSl ns a (some s') m b p r (some (.lst true L2)) o8 none o10 o11 o12 o13) ∧ Spr s' ∧ L2.length ≤ L.length + k ∧ ∀ y ∈ L2, y.nice 8 = true := by
  have pL := pure_nices hL
  have r7 : rdE 7 (wSl ns a (some s) m b p r (some (.lst true L)) o8 o9 o10 o11 o12 o13) = some (.lst false L, wSl ns a (some s) m b p r (some (.lst false L)) o8 o9 o10 o11 o12 o13) := by
    rw [s_rdEf (i := 7) (x := .lst true L) rfl rfl, frz_lstT pL]
    rfl
  obtain ⟨ys, τ', e, ⟨s2, q2, rfl⟩, el, rel⟩ := lcL_all (T := nameT 9) (E := callIO (m__law_bent 8) 2 (consM (rdE i) nilM)) (own := [9]) (fun τ => ∃ s, Spr s ∧ τ = wSl ns a (some s) m b p r (some (.lst false L)) o8 none o10 o11 o12 o13) (fun _ y => y.nice 8 = true)
    (rngL 0 k) (wSl ns a (some s) m b p r (some (.lst false L)) o8 none o10 o11 o12 o13) ⟨s, hs, rfl⟩ fun x hx τ ⟨s, q, eτ⟩ => by
      subst eτ
      obtain ⟨y, s', h, q', ny⟩ := bent_spec 8 d v s hv sh (by omega) (by omega) q
      exact ⟨wSl ns a (some s) m b p r (some (.lst false L)) o8 (some x) o10 o11 o12 o13, rfl, y, wSl ns a (some s') m b p r (some (.lst false L)) o8 (some x) o10 o11 o12 o13, s_callIO' h (s_cons (s_rdE (hi _ _ _) (nice_pure d v hv)) s_nil) (by simp [pureL, nice_pure d v hv]), nice_mono ny (by omega), s', q', rfl⟩
  rw [rngL_length] at el
  have hy : ∀ y ∈ ys, y.nice 8 = true := fun y hy => let ⟨_, _, h⟩ := rel y hy; h
  have py := pure_nices hy
  have yl : ys.length = k := by omega
  refine ⟨L ++ ys, s2, ?_, q2, by rw [List.length_append]; omega, fun y h => ?_⟩
  · exact s_set' (s_c2 r7 (s_lc (ys := ys) (s_rng1 (k := k) (s_cons s_cC s_nil) (inR_of (by omega) (by omega))) e (by rw [sizeLine_eq]; omega)) (add_lst pL py (by omega)))
  · rcases List.mem_append.mp h with h | h
    · exact hL y h
    · exact hy y h
end K01
end

section
set_option maxHeartbeats 4000000
/-! the law: the first values, what is asked of each, pairs of edges -/
namespace K01
open MV PySem
theorem mul_tup {xs : List Val} {k : Nat} (p : pureL xs = true) (hk : 1 ≤ k) (hk2 : k ≤ 1000) (hl : xs.length ≤ 1000) : mulV (.tup xs) (.int k) = some (.tup (List.replicate k xs).flatten) := by
  refine (if_pos ?_).trans rfl
  simp only [p, Bool.and_eq_true, decide_eq_true_eq, Bool.true_and]
  omega
theorem rep_mem {xs : List Val} {k : Nat} {y : Val} (h : y ∈ (List.replicate k xs).flatten) : y ∈ xs := by
  obtain ⟨l, hl, hy⟩ := List.mem_flatten.mp h
  rw [List.eq_of_mem_replicate hl] at hy
  exact hy
theorem rep_len (xs : List Val) (k : Nat) : (List.replicate k xs).flatten.length = k * xs.length := by simp
theorem nice_lst {n : Nat} {ys : List Val} (h : ∀ y ∈ ys, y.nice n = true) (hl : ys.length ≤ 1000) : (Val.lst false ys).nice (n + 1) = true := by
  simp only [Val.nice, Bool.and_eq_true, decide_eq_true_eq]
  exact ⟨⟨rfl, hl⟩, by rw [niceL_all]; exact List.all_eq_true.mpr h⟩
theorem first_spec (ns : List Int) {c : Nat} (hc : c ≤ 2) {es : List Val} (hE : ∀ e ∈ es, EdgeP c e) (hel : es.length ≤ 6) {b : Val} (hb : BoundP b) {rs : List Val} (hr : ∀ r ∈ rs, BeatP r) (hrl : rs.length ≤ 6) (a s p o7 o8 o9 o10 o11 o12 o13 : Option Val) :
    ∃ L, setM 7 (cN mkLst (consM (rdE 3) (consM (frE (cN listV (consM (rdO 3) nilM))) (consM (rdE 4) (consM (rdE 6) (consM (c2 mulV (rdO 6) (cC (.int 6))) (consM (cSl (c2 mulV (rdO 6) (cC (.int 31))) partN (partS (cC (.int 100)))) (consM (cN mkTup (consM (c2 idxV (rdO 3) (cC (.int 0))) (consM (c1 revV (c2 idxV (rdO 3) (cC (.int 1)))) nilM))) nilM)))))))) (wSl ns a s (some (.tup [.int c, .tup es])) (some b) p (some (.tup rs)) o7 o8 o9 o10 o11 o12 o13) =
      some (.next, wSl ns a s (some (.tup [.int c, .tup es])) (some b) p (some (.tup rs)) (some (.lst true L)) o8 o9 o10 o11 o12 o13) ∧ L.length ≤ 10 ∧ ∀ y ∈ L, y.nice 8 = true := by
  have nm := mach_nice hc hE hel
  have pm := nice_pure _ _ nm
  have pe := edges_pure hE
  have rn : ∀ y ∈ rs, y.nice 2 = true := fun y hy => beat_nice (hr y hy)
  have pr := pure_nices rn
  have prow : (Val.tup rs).pure = true := pr
  have n6 : ∀ y ∈ (List.replicate 6 rs).flatten, y.nice 2 = true := fun y hy => rn y (rep_mem hy)
  have n31 : ∀ y ∈ (List.replicate 31 rs).flatten, y.nice 2 = true := fun y hy => rn y (rep_mem hy)
  have l6 := rep_len rs 6
  have l31 := rep_len rs 31
  refine ⟨[.tup [.int c, .tup es], .lst false [.int c, .tup es], b, .tup rs, .tup (List.replicate 6 rs).flatten, .tup (cutL (List.replicate 31 rs).flatten none (some 100)), .tup [.int c, .tup es.reverse]], ?_, show 7 ≤ 10 by decide, ?_⟩
  · have i0 : c2 idxV (rdO 3) (cC (.int 0)) (wSl ns a s (some (.tup [.int c, .tup es])) (some b) p (some (.tup rs)) o7 o8 o9 o10 o11 o12 o13) = some (.int c, wSl ns a s (some (.tup [.int c, .tup es])) (some b) p (some (.tup rs)) o7 o8 o9 o10 o11 o12 o13) := q_ix (k := 0) (s_rdO rfl) s_cC rfl rfl
    have i1 : c2 idxV (rdO 3) (cC (.int 1)) (wSl ns a s (some (.tup [.int c, .tup es])) (some b) p (some (.tup rs)) o7 o8 o9 o10 o11 o12 o13) = some (.tup es, wSl ns a s (some (.tup [.int c, .tup es])) (some b) p (some (.tup rs)) o7 o8 o9 o10 o11 o12 o13) := q_ix (k := 1) (s_rdO rfl) s_cC rfl pe
    refine s_set' (τ1 := wSl ns a s (some (.tup [.int c, .tup es])) (some b) p (some (.tup rs)) o7 o8 o9 o10 o11 o12 o13) (s_cN (s_cons (s_rdE rfl pm) (s_cons (x := .lst false [.int c, .tup es]) ?_ (s_cons (s_rdE rfl (bound_pure hb)) (s_cons (s_rdE rfl prow) (s_cons (s_c2 (s_rdO rfl) s_cC (mul_tup (k := 6) pr (by decide) (by decide) (by omega))) (s_cons (s_sl (s_c2 (s_rdO rfl) s_cC (mul_tup (k := 31) pr (by decide) (by decide) (by omega))) s_pN (s_pS s_cC) (slice_tup (pure_nices n31)))
      (s_cons (s_cN (s_cons i0 (s_cons (s_c1 i1 (rev_tup pe)) s_nil)) (mkTup_ok (show 2 ≤ 1000 by decide))) s_nil))))))) (mkLst_ok (show 7 ≤ 1000 by decide)))
    have := s_fr (s_cN (s_cons (s_rdO (i := 3) (τ := wSl ns a s (some (.tup [.int c, .tup es])) (some b) p (some (.tup rs)) o7 o8 o9 o10 o11 o12 o13) (x := .tup [.int c, .tup es]) rfl) s_nil) (listV_t (xs := [.int c, .tup es]) pm))
    rwa [frz_lstT (xs := [.int c, .tup es]) pm] at this
  · intro y hy
    simp only [List.mem_cons, List.not_mem_nil, or_false] at hy
    have nes : (Val.tup es).nice 5 = true := nice_tup (fun y hy => edge_nice hc (hE y hy)) (by omega)
    have nc : (Val.int c).nice 5 = true := int_nice (by omega)
    rcases hy with rfl | rfl | rfl | rfl | rfl | rfl | rfl
    · exact nice_mono nm (by decide)
    · refine nice_mono (nice_lst (n := 5) (fun y hy => ?_) (show 2 ≤ 1000 by decide)) (by decide)
      simp only [List.mem_cons, List.not_mem_nil, or_false] at hy
      rcases hy with rfl | rfl
      · exact nc
      · exact nes
    · exact nice_mono (bound_nice hb) (by decide)
    · exact nice_mono (nice_tup rn (by omega)) (by decide)
    · exact nice_mono (nice_tup n6 (by omega)) (by decide)
    · refine nice_mono (nice_tup (n := 2) (fun y hy => n31 y (cut_mem hy)) ?_) (by decide)
      have := cut_len (List.replicate 31 rs).flatten none (some 100)
      omega
    · refine nice_mono (n := 6) (nice_tup (fun y hy => ?_) (show 2 ≤ 1000 by decide)) (by decide)
      simp only [List.mem_cons, List.not_mem_nil, or_false] at hy
      rcases hy with rfl | rfl
      · exact nc
      · exact nice_tup (fun y hy => edge_nice hc (hE y (List.mem_reverse.mp hy))) (by rw [List.length_reverse]; omega)
/-- what is asked of one value -/
theorem ask_spec (ns : List Int) {x : Val} (hx : x.nice 8 = true) (a s m b p r o7 o9 o10 o11 o12 o13 : Option Val) :
    ∃ o10', (seqM (setM 10 (cN mkLst (consM (callM m__law_good_bound (consM (rdO 8) nilM)) (consM (callM m__law_good_machine (consM (rdO 8) nilM)) (consM (callM m__law_good_row (consM (rdO 8) nilM)) nilM)))))
  (ifM (MV.notM (tst (callM (m__law_twins 12) (consM (cN mkLst (consM (callM m_is_bound (consM (rdO 8) nilM)) (consM (callM m_is_machine (consM (rdO 8) nilM)) (consM (callM m_is_row (consM (rdO 8) nilM)) nilM)))) (consM (rdO 10) nilM))))) (retM (cC (.bl false))) nextM)) (wSl ns a s m b p r o7 (some x) o9 o10 o11 o12 o13) = some (.next, wSl ns a s m b p r o7 (some x) o9 o10' o11 o12 o13) := by
  have px := nice_pure 8 x hx
  have arg : ∀ τ : Sl, τ[8]? = some (some x) → consM (rdO 8) nilM τ = some ([x], τ) := fun τ h => s_cons (s_rdO h) s_nil
  have p1 : pureL [x] = true := by simp [pureL, px]
  refine ⟨some (.lst true [.bl (gBound x), .bl (gMach x), .bl (gRow x)]), s_seq (τ1 := wSl ns a s m b p r o7 (some x) o9 (some (.lst true [.bl (gBound x), .bl (gMach x), .bl (gRow x)])) o11 o12 o13) (s_set' (s_cN (s_cons (s_callM (arg _ rfl) p1 (good_bound_spec hx)) (s_cons (s_callM (arg _ rfl) p1 (good_machine_spec hx (by decide))) (s_cons (s_callM (arg _ rfl) p1 (good_row_spec hx)) s_nil))) (mkLst_ok (show 3 ≤ 1000 by decide)))) ?_⟩
  refine s_ifF (s_not (b := true) (s_tst (s_callMo (s_cons (s_cN (s_cons (s_callM (arg _ rfl) p1 (is_bound_spec hx)) (s_cons (s_callM (arg _ rfl) p1 (is_machine_spec hx)) (s_cons (s_callM (arg _ rfl) p1 (is_row_spec hx)) s_nil))) (mkLst_ok (show 3 ≤ 1000 by decide))) (s_cons (s_rdO rfl) s_nil)) (twins_three _ _ _) rfl))) s_next
/-- a pair of edges -/
theorem pair_spec (ns : List Int) {s : Val} (hs : Spr s) (a m b p r o7 o8 o9 o10 o11 o12 o13 : Option Val) :
    ∃ s' o8' o11' o12', (seqM (parM 8 11 (consM (callIO m__law_edge 2 (consM (cC (.int 1)) nilM)) (consM (callIO m__law_edge 2 (consM (cC (.int 1)) nilM)) nilM)))
  (seqM (setM 12 (cN tupleV (consM (c1 sortSetV (cN mkLst (consM (c2 addV (cSl (rdO 8) partN (partS (cC (.int 2)))) (cSl (rdO 8) (partS (cC (.int 2))) partN)) (consM (c2 addV (cSl (rdO 8) partN (partS (cC (.int 2)))) (cSl (rdO 11) (partS (cC (.int 2))) partN)) nilM)))) nilM)))
  (ifM (MV.notM (tst (callM (m__law_twins 12) (consM (callM m_is_clear (consM (cN mkTup (consM (cC (.int 1)) (consM (rdE 12) nilM))) nilM)) (consM (callM m__law_clear (consM (cN mkTup (consM (cC (.int 1)) (consM (rdE 12) nilM))) nilM)) nilM))))) (retM (cC (.bl false))) nextM))) (wSl ns a (some s) m b p r o7 o8 o9 o10 o11 o12 o13) = some (.next, wSl ns a (some s') m b p r o7 o8' o9 o10 o11' o12' o13) ∧ Spr s' := by
  obtain ⟨e1, s1, h1, q1, E1⟩ := edge_spec hs (c := 1) (.inl rfl)
  obtain ⟨e2, s2, h2, q2, E2⟩ := edge_spec q1 (c := 1) (.inl rfl)
  have k1 := kd_pure (edge_kd E1)
  have k2 := kd_pure (edge_kd E2)
  obtain ⟨pp, sg, bs, st, g, rfl, hp, hsg, hl, hb, hst, hr, hg⟩ := id E1
  obtain ⟨pp', sg', bs', st', g', rfl, hp', hsg', hl', hb', hst', hr', hg'⟩ := id E2
  have E3 : EdgeP 1 (.tup [.int pp, .str sg, .tup bs', .tup (st'.map Val.int), .int g']) := ⟨pp, sg, bs', st', g', rfl, hp, hsg, hl', hb', hst', hr', hg'⟩
  generalize hx1 : (Val.tup [.int pp, .str sg, .tup bs, .tup (st.map Val.int), .int g]) = x1 at *
  have hE : ∀ e ∈ [x1, .tup [.int pp, .str sg, .tup bs', .tup (st'.map Val.int), .int g']], EdgeP 1 e := fun e he => by
    simp only [List.mem_cons, List.not_mem_nil, or_false] at he
    rcases he with rfl | rfl
    · exact E1
    · exact E3
  obtain ⟨g1, g2, g3, g4⟩ := sort_edges hE (show 2 ≤ 4000 by decide)
  generalize hes : (dedV [x1, .tup [.int pp, .str sg, .tup bs', .tup (st'.map Val.int), .int g']]).mergeSort leB = es at g1 g2 g3 g4
  have gl : 1 ≤ es.length := g4 (by simp)
  have gl2 : es.length ≤ 2 := g3
  have good := mach_good (c := 1) (.inl rfl) g1 gl (by omega) g2
  have nm := mach_nice (c := 1) (by decide) g1 (by omega)
  have cl := clear_spec g1 nm (by omega) (by decide) good
  have lcl := law_clear_spec g1 (by omega) (by decide : (1 : Nat) ≤ 2)
  have pes := edges_pure g1
  have pm := nice_pure _ _ nm
  refine ⟨s2, some x1, some (.tup [.int pp', .str sg', .tup bs', .tup (st'.map Val.int), .int g']), some (.tup es), ?_, q2⟩
  refine s_seq (τ1 := wSl ns a (some s2) m b p r o7 (some x1) o9 o10 (some (.tup [.int pp', .str sg', .tup bs', .tup (st'.map Val.int), .int g'])) o12 o13) (s_par' (s_cons (s_callIO' (τ2 := wSl ns a (some s1) m b p r o7 o8 o9 o10 o11 o12 o13) h1 (s_cons s_cC s_nil)) (s_cons (s_callIO' (τ2 := wSl ns a (some s2) m b p r o7 o8 o9 o10 o11 o12 o13) h2 (s_cons s_cC s_nil)) s_nil))) ?_
  have c12 : setM 12 (cN tupleV (consM (c1 sortSetV (cN mkLst (consM (c2 addV (cSl (rdO 8) partN (partS (cC (.int 2)))) (cSl (rdO 8) (partS (cC (.int 2))) partN)) (consM (c2 addV (cSl (rdO 8) partN (partS (cC (.int 2)))) (cSl (rdO 11) (partS (cC (.int 2))) partN)) nilM)))) nilM)) (wSl ns a (some s2) m b p r o7 (some x1) o9 o10 (some (.tup [.int pp', .str sg', .tup bs', .tup (st'.map Val.int), .int g'])) o12 o13) =
      some (.next, wSl ns a (some s2) m b p r o7 (some x1) o9 o10 (some (.tup [.int pp', .str sg', .tup bs', .tup (st'.map Val.int), .int g'])) (some (.tup es)) o13) := by
    have pbs : pureL bs = true := pure_of fun y hy => bound_pure (hb y hy)
    have pbs' : pureL bs' = true := pure_of fun y hy => bound_pure (hb' y hy)
    have pst : pureL (st.map Val.int) = true := kdL_pure (kdL_ints 0 st)
    have pst' : pureL (st'.map Val.int) = true := kdL_pure (kdL_ints 0 st')
    have a1 : addV (.tup [.int pp, .str sg]) (.tup [.tup bs, .tup (st.map Val.int), .int g]) = some x1 := by
      rw [← hx1]
      exact add_tup rfl (by simp [pureL, Val.pure, pbs, pst]) (show 5 ≤ 1000 by decide)
    have a2 : addV (.tup [.int pp, .str sg]) (.tup [.tup bs', .tup (st'.map Val.int), .int g']) = some (.tup [.int pp, .str sg, .tup bs', .tup (st'.map Val.int), .int g']) := add_tup rfl (by simp [pureL, Val.pure, pbs', pst']) (show 5 ≤ 1000 by decide)
    have r8 : rdO 8 (wSl ns a (some s2) m b p r o7 (some x1) o9 o10 (some (.tup [.int pp', .str sg', .tup bs', .tup (st'.map Val.int), .int g'])) o12 o13) = some (.tup [.int pp, .str sg, .tup bs, .tup (st.map Val.int), .int g], wSl ns a (some s2) m b p r o7 (some x1) o9 o10 (some (.tup [.int pp', .str sg', .tup bs', .tup (st'.map Val.int), .int g'])) o12 o13) := by
      rw [hx1]
      exact s_rdO rfl
    have kx : pureL [.int pp, .str sg, .tup bs, .tup (st.map Val.int), .int g] = true := by
      have := k1
      rw [← hx1] at this
      exact this
    refine s_set' (s_cN (s_cons (s_c1 (s_cN (s_cons (s_c2 (s_sl r8 s_pN (s_pS s_cC) (slice_tup kx)) (s_sl r8 (s_pS s_cC) s_pN (slice_tup kx)) a1) (s_cons (s_c2 (s_sl r8 s_pN (s_pS s_cC) (slice_tup kx)) (s_sl (s_rdO rfl) (s_pS s_cC) s_pN (slice_tup k2)) a2) s_nil)) (mkLst_ok (show 2 ≤ 1000 by decide))) ((sortSet_seq rfl (edges_setOk hE (show 2 ≤ 4000 by decide))).trans (by rw [hes]))) s_nil) (tupleV_l pes))
  refine s_seq c12 ?_
  have tup : ∀ τ : Sl, τ[12]? = some (some (.tup es)) → cN mkTup (consM (cC (.int 1)) (consM (rdE 12) nilM)) τ = some (.tup [.int ((1 : Nat) : Int), .tup es], τ) := fun τ h => s_cN (s_cons s_cC (s_cons (s_rdE h pes) s_nil)) (mkTup_ok (show 2 ≤ 1000 by decide))
  have p1 : pureL [.tup [.int ((1 : Nat) : Int), .tup es]] = true := by rw [pureL, pm]; rfl
  exact s_ifF (s_not (b := true) (s_tst (s_callM (s_cons (s_callM (s_cons (tup _ rfl) s_nil) p1 cl) (s_cons (s_callM (s_cons (tup _ rfl) s_nil) p1 lcl) s_nil)) rfl (twins_bl 11 _)))) s_next
end K01
end

section
set_option maxHeartbeats 4000000
/-! the law is true -/
namespace K01
open MV PySem
theorem q_forI {I : Evs} {T : Tg} {B S1 : Sv} {xs : List Val} {τ : Sl} {v : Val} (Inv : Sl → Prop) (hI : I τ = some (xs, τ)) (h0 : Inv τ)
    (h : ∀ x ∈ xs, ∀ τ, Inv τ → ∃ τ1, T x τ = some τ1 ∧ ∃ τ2, B τ1 = some (.next, τ2) ∧ Inv τ2) (h2 : ∀ τ', Inv τ' → Ret S1 τ' v) : Ret (seqM (forM I T B) S1) τ v :=
  let ⟨τ', e, i'⟩ := forL_inv Inv xs τ h0 h
  q_seq (s_for hI e) (h2 τ' i')
theorem law_true (ns : List Int) (hns : ns.length ≤ 63) : m_law [.scr ns] = some (.bl true) := by
  unfold m_law b_law
  refine q_fn ?_
  show Ret _ (wSl ns none none none none none none none none none none none none none) _
  have hI : rng1I (consM (c2 addV (cN min2V (consM (cN lenV (consM (rdO 0) nilM)) (consM (cC (.int 8)) nilM))) (cC (.int 1))) nilM) (wSl ns none none none none none none none none none none none none none) = some (rngL 0 ((if (8 : Int) < (ns.length : Int) then (8 : Int) else (ns.length : Int)) + 1), wSl ns none none none none none none none none none none none none none) :=
    s_rng1 (s_cons (s_c2 (s_cN (s_cons (s_cN (s_cons (s_rdO rfl) s_nil) rfl) (s_cons s_cC s_nil)) rfl) s_cC rfl) s_nil) (inR_of (by split <;> omega) (by split <;> omega))
  refine q_forI (fun τ => ∃ o1 o2 o3 o4 o5 o6 o7 o8 o9 o10 o11 o12 o13, τ = wSl ns o1 o2 o3 o4 o5 o6 o7 o8 o9 o10 o11 o12 o13) hI ⟨_, _, _, _, _, _, _, _, _, _, _, _, _, rfl⟩ (fun x hx τ ⟨o1, o2, o3, o4, o5, o6, o7, o8, o9, o10, o11, o12, o13, eτ⟩ => ?_) (fun τ' _ => q_ret s_cC)
  · subst eτ
    obtain ⟨i, hi, rfl⟩ := List.mem_map.mp hx
    refine ⟨wSl ns (some (.int (0 + (i : Int)))) o2 o3 o4 o5 o6 o7 o8 o9 o10 o11 o12 o13, rfl, ?_⟩
    obtain ⟨s, h2, q⟩ := spring_spec ns (at_ := 0 + (i : Int)) (by omega)
    obtain ⟨c, mv, s1, h3, q1, hc, es, rfl, l1, l6, hE, hr⟩ := machine_spec q (m := 6) (by decide) (by decide)
    obtain ⟨b, s2, h4, q2, hb⟩ := bound_spec q1
    have hc2 : c ≤ 2 := by omega
    have nm := mach_nice hc2 hE l6
    have pm := nice_pure _ _ nm
    have good := mach_good hc hE l1 l6 hr
    obtain ⟨ps, s3, e5, q3, pl, hp⟩ := pauses_spec ns q2 (some (.int (0 + (i : Int)))) (some (.tup [.int c, .tup es])) (some b) o5 o6 o7 o8 o9 o10 o11 o12 o13
    obtain ⟨rs, s4, e6, q4, rl, hR⟩ := row_spec ns q3 hp pl (some (.int (0 + (i : Int)))) (some (.tup [.int c, .tup es])) (some b) o6 o7 o8 none o10 o11 o12 o13
    have rn : (Val.tup rs).nice 3 = true := nice_tup (fun y hy => beat_nice (hR y hy)) (by omega)
    have rsh : Val.short (.tup rs) = true := short_of (by omega) fun y hy => beat_short (hR y hy)
    obtain ⟨L, e7, ll, hL⟩ := first_spec ns hc2 hE l6 hb hR rl (some (.int (0 + (i : Int)))) (some s4) (some (.lst false ps)) o7 o8 none o10 o11 o12 none
    obtain ⟨L1, s5, e8, q5, ll1, hL1⟩ := more_spec ns q4 (i := 3) (k := 30) nm (mach_short hc2 hE l6) (by decide) (by decide) (some (.int (0 + (i : Int)))) (some (.tup [.int c, .tup es])) (some b) (some (.lst false ps)) (some (.tup rs)) o8 none o10 o11 o12 none (fun _ _ _ => rfl) hL (by omega)
    obtain ⟨L2, s6, e9, q6, ll2, hL2⟩ := more_spec ns q5 (i := 4) (k := 15) (bound_nice hb) (bound_short hb) (by decide) (by decide) (some (.int (0 + (i : Int)))) (some (.tup [.int c, .tup es])) (some b) (some (.lst false ps)) (some (.tup rs)) o8 none o10 o11 o12 none (fun _ _ _ => rfl) hL1 (by omega)
    obtain ⟨L3, s7, e10, q7, ll3, hL3⟩ := more_spec ns q6 (i := 6) (k := 15) rn rsh (by decide) (by decide) (some (.int (0 + (i : Int)))) (some (.tup [.int c, .tup es])) (some b) (some (.lst false ps)) (some (.tup rs)) o8 none o10 o11 o12 none (fun _ _ _ => rfl) hL2 (by omega)
    have a2 : setM 2 (callM m__law_spring (consM (rdO 0) (consM (rdO 1) nilM))) (wSl ns (some (.int (0 + (i : Int)))) o2 o3 o4 o5 o6 o7 o8 o9 o10 o11 o12 o13) = some (.next, wSl ns (some (.int (0 + (i : Int)))) (some s) o3 o4 o5 o6 o7 o8 o9 o10 o11 o12 o13) :=
      s_set' (s_callM (s_cons (s_rdO rfl) (s_cons (s_rdO rfl) s_nil)) rfl h2)
    have a3 : asgM (tupT 2 (consT (nameT 3) (consT (nameT 4) nilT))) (cN mkTup (consM (callIO m__law_machine 2 (consM (cC (.int 6)) nilM)) (consM (callIO m__law_bound 2 nilM) nilM))) (wSl ns (some (.int (0 + (i : Int)))) (some s) o3 o4 o5 o6 o7 o8 o9 o10 o11 o12 o13) = some (.next, wSl ns (some (.int (0 + (i : Int)))) (some s2) (some (.tup [.int c, .tup es])) (some b) o5 o6 o7 o8 o9 o10 o11 o12 o13) :=
      s_asg (s_cN (s_cons (s_callIO' (τ2 := wSl ns (some (.int (0 + (i : Int)))) (some s1) o3 o4 o5 o6 o7 o8 o9 o10 o11 o12 o13) h3 (s_cons s_cC s_nil)) (s_cons (s_callIO' (τ2 := wSl ns (some (.int (0 + (i : Int)))) (some s2) o3 o4 o5 o6 o7 o8 o9 o10 o11 o12 o13) h4 s_nil) s_nil)) (mkTup_ok (show 2 ≤ 1000 by decide))) rfl
    -- each value
    have p3 := pure_nices hL3
    have r7 : rdE 7 (wSl ns (some (.int (0 + (i : Int)))) (some s7) (some (.tup [.int c, .tup es])) (some b) (some (.lst false ps)) (some (.tup rs)) (some (.lst true L3)) o8 none o10 o11 o12 none) = some (.lst false L3, wSl ns (some (.int (0 + (i : Int)))) (some s7) (some (.tup [.int c, .tup es])) (some b) (some (.lst false ps)) (some (.tup rs)) (some (.lst false L3)) o8 none o10 o11 o12 none) := by
      rw [s_rdEf (i := 7) (x := .lst true L3) rfl rfl, frz_lstT p3]
      rfl
    have hI7 := s_seqI r7 (xs := L3) rfl
    rw [frzL_of_pure L3 p3] at hI7
    obtain ⟨τ8, f8, o8', o10', e8'⟩ := forL_inv (T := nameT 8) (B := (seqM (setM 10 (cN mkLst (consM (callM m__law_good_bound (consM (rdO 8) nilM)) (consM (callM m__law_good_machine (consM (rdO 8) nilM)) (consM (callM m__law_good_row (consM (rdO 8) nilM)) nilM)))))
  (ifM (MV.notM (tst (callM (m__law_twins 12) (consM (cN mkLst (consM (callM m_is_bound (consM (rdO 8) nilM)) (consM (callM m_is_machine (consM (rdO 8) nilM)) (consM (callM m_is_row (consM (rdO 8) nilM)) nilM)))) (consM (rdO 10) nilM))))) (retM (cC (.bl false))) nextM)))
      (fun τ => ∃ o8 o10, τ = wSl ns (some (.int (0 + (i : Int)))) (some s7) (some (.tup [.int c, .tup es])) (some b) (some (.lst false ps)) (some (.tup rs)) (some (.lst false L3)) o8 none o10 o11 o12 none) L3 _ ⟨o8, o10, rfl⟩ fun y hy τ ⟨o8, o10, eτ⟩ => by
        subst eτ
        obtain ⟨o10', ea⟩ := ask_spec ns (hL3 y hy) (some (.int (0 + (i : Int)))) (some s7) (some (.tup [.int c, .tup es])) (some b) (some (.lst false ps)) (some (.tup rs)) (some (.lst false L3)) none o10 o11 o12 none
        exact ⟨_, rfl, _, ea, _, _, rfl⟩
    subst e8'
    -- clear
    have pL : pureL [.tup [.int c, .tup es]] = true := by rw [pureL, pm]; rfl
    have t9 : MV.orM (MV.notM (tst (callM m__law_good_machine (consM (rdO 3) nilM)))) (MV.notM (tst (callM (m__law_twins 12) (consM (callM m_is_clear (consM (rdO 3) nilM)) (consM (callM m__law_clear (consM (rdO 3) nilM)) nilM))))) (wSl ns (some (.int (0 + (i : Int)))) (some s7) (some (.tup [.int c, .tup es])) (some b) (some (.lst false ps)) (some (.tup rs)) (some (.lst false L3)) o8' none o10' o11 o12 none) = some (false, wSl ns (some (.int (0 + (i : Int)))) (some s7) (some (.tup [.int c, .tup es])) (some b) (some (.lst false ps)) (some (.tup rs)) (some (.lst false L3)) o8' none o10' o11 o12 none) :=
      s_or2 (s_not (b := true) (s_tst (s_callM (s_cons (s_rdO rfl) s_nil) pL ((good_machine_spec nm (by decide)).trans (by rw [good]))))) (s_not (b := true) (s_tst (s_callM (s_cons (s_callM (s_cons (s_rdO rfl) s_nil) pL (clear_spec hE nm (by omega) hc2 good)) (s_cons (s_callM (s_cons (s_rdO rfl) s_nil) pL (law_clear_spec hE (by omega) hc2)) s_nil)) rfl (twins_bl 11 _))))
    -- pairs
    obtain ⟨τ9, f9, o1a, o2a, o8a, o9a, o11a, o12a, e9'⟩ := forL_inv (T := nameT 9) (B := (seqM (parM 8 11 (consM (callIO m__law_edge 2 (consM (cC (.int 1)) nilM)) (consM (callIO m__law_edge 2 (consM (cC (.int 1)) nilM)) nilM)))
  (seqM (setM 12 (cN tupleV (consM (c1 sortSetV (cN mkLst (consM (c2 addV (cSl (rdO 8) partN (partS (cC (.int 2)))) (cSl (rdO 8) (partS (cC (.int 2))) partN)) (consM (c2 addV (cSl (rdO 8) partN (partS (cC (.int 2)))) (cSl (rdO 11) (partS (cC (.int 2))) partN)) nilM)))) nilM)))
  (ifM (MV.notM (tst (callM (m__law_twins 12) (consM (callM m_is_clear (consM (cN mkTup (consM (cC (.int 1)) (consM (rdE 12) nilM))) nilM)) (consM (callM m__law_clear (consM (cN mkTup (consM (cC (.int 1)) (consM (rdE 12) nilM))) nilM)) nilM))))) (retM (cC (.bl false))) nextM))))
      (fun τ => ∃ s o8 o9 o11 o12, Spr s ∧ τ = wSl ns (some (.int (0 + (i : Int)))) (some s) (some (.tup [.int c, .tup es])) (some b) (some (.lst false ps)) (some (.tup rs)) (some (.lst false L3)) o8 o9 o10' o11 o12 none) (rngL 0 6) _ ⟨s7, o8', none, o11, o12, q7, rfl⟩ fun y hy τ ⟨s, o8, o9, o11, o12, q, eτ⟩ => by
        subst eτ
        obtain ⟨s', a8, a11, a12, ea, q'⟩ := pair_spec ns q (some (.int (0 + (i : Int)))) (some (.tup [.int c, .tup es])) (some b) (some (.lst false ps)) (some (.tup rs)) (some (.lst false L3)) o8 (some y) o10' o11 o12 none
        exact ⟨_, rfl, _, ea, _, _, _, _, _, q', rfl⟩
    have hI9 : rng1I (consM (cC (.int 6)) nilM) (wSl ns (some (.int (0 + (i : Int)))) (some s7) (some (.tup [.int c, .tup es])) (some b) (some (.lst false ps)) (some (.tup rs)) (some (.lst false L3)) o8' none o10' o11 o12 none) = some (rngL 0 6, wSl ns (some (.int (0 + (i : Int)))) (some s7) (some (.tup [.int c, .tup es])) (some b) (some (.lst false ps)) (some (.tup rs)) (some (.lst false L3)) o8' none o10' o11 o12 none) := s_rng1 (s_cons s_cC s_nil) (inR_of (by decide) (by decide))
    refine ⟨τ9, s_seq a2 (s_seq a3 (s_seq e5 (s_seq e6 (s_seq e7 (s_seq e8 (s_seq e9 (s_seq e10 (s_seq (s_for hI7 f8) (s_seq (s_ifF t9 s_next) (s_for hI9 f9)))))))))), ?_⟩
    rw [e9']
    exact ⟨_, _, _, _, _, _, _, _, _, _, _, _, _, rfl⟩
end K01
end

section
set_option maxHeartbeats 8000000
namespace K01
open PySem PySem.Spec PyProof.Rows L2 MV
theorem all_mk {P : Program} {w : World} {fa : Addr} {K : PySem.W.Frag} {h : Heap} {mg : Str → Option Value} {f0 f1 f2 f3 f4 f5 f6 f7 f8 f9 f10 f11 f12 f13 f14 f15 f16 f17 f18 f19 f20 f21 f22 f23 f24 f25 f26 f27 f28 f29 f30 f31 f32 f33 : Addr} (X : K.In h) (G : h.Ns mainGlobals mg) {od0 an0 od1 an1 od2 an2 od3 an3 od4 an4 od5 an5 od6 an6 od7 an7 od8 an8 od9 an9 od10 an10 od11 an11 od12 an12 od13 an13 od14 an14 od15 an15 od16 an16 od17 an17 od18 an18 od19 an19 od20 an20 od21 an21 od22 an22 od23 an23 od24 an24 od25 an25 od26 an26 od27 an27 od28 an28 od29 an29 od30 an30 od31 an31 od32 an32 od33 an33 : Option Addr} {sl0 sl1 sl2 sl3 sl4 sl5 sl6 sl7 sl8 sl9 sl10 sl11 sl12 sl13 sl14 sl15 sl16 sl17 sl18 sl19 sl20 sl21 sl22 sl23 sl24 sl25 sl26 sl27 sl28 sl29 sl30 sl31 sl32 sl33 : Array (Option Value)} {oc0 kV0 dc0 pm0 cd0 ct0 oc1 kV1 dc1 pm1 cd1 ct1 oc2 kV2 dc2 pm2 cd2 ct2 oc3 kV3 dc3 pm3 cd3 ct3 oc4 kV4 dc4 pm4 cd4 ct4 oc5 kV5 dc5 pm5 cd5 ct5 oc6 kV6 dc6 pm6 cd6 ct6 oc7 kV7 dc7 pm7 cd7 ct7 oc8 kV8 dc8 pm8 cd8 ct8 oc9 kV9 dc9 pm9 cd9 ct9 oc10 kV10 dc10 pm10 cd10 ct10 oc11 kV11 dc11 pm11 cd11 ct11 oc12 kV12 dc12 pm12 cd12 ct12 oc13 kV13 dc13 pm13 cd13 ct13 oc14 kV14 dc14 pm14 cd14 ct14 oc15 kV15 dc15 pm15 cd15 ct15 oc16 kV16 dc16 pm16 cd16 ct16 oc17 kV17 dc17 pm17 cd17 ct17 oc18 kV18 dc18 pm18 cd18 ct18 oc19 kV19 dc19 pm19 cd19 ct19 oc20 kV20 dc20 pm20 cd20 ct20 oc21 kV21 dc21 pm21 cd21 ct21 oc22 kV22 dc22 pm22 cd22 ct22 oc23 kV23 dc23 pm23 cd23 ct23 oc24 kV24 dc24 pm24 cd24 ct24 oc25 kV25 dc25 pm25 cd25 ct25 oc26 kV26 dc26 pm26 cd26 ct26 oc27 kV27 dc27 pm27 cd27 ct27 oc28 kV28 dc28 pm28 cd28 ct28 oc29 kV29 dc29 pm29 cd29 ct29 oc30 kV30 dc30 pm30 cd30 ct30 oc31 kV31 dc31 pm31 cd31 ct31 oc32 kV32 dc32 pm32 cd32 ct32 oc33 kV33 dc33 pm33 cd33 ct33 : Value} {t_SIGNS0 t_SIGNS1 t_SIGNS2 t_FAR t_MOST_BEATS : Tok} {A_SIGNS : Addr} {o_SIGNS : Option Addr} {n_SIGNS : Nat} {s_SIGNS : Array (Option Value)}
    (a0 : PySem.W.nsIn K mainGlobals "_law_spring" = some (some (.ref f0))) (l0 : K.lookup f0 = some ⟨oc0, od0, .func (PySem.W.fnOf "_law_spring" "_law_spring" (defArgs s__law_spring) (defBody s__law_spring) (defScope s__law_spring) .none kV0 dc0 pm0 an0 cd0 ct0), sl0⟩) (c0 : PySem.W.codeIn K cd0 "_law_spring" = true) (k0 : PySem.W.keepIn K (.ref f0) = true)
    (a1 : PySem.W.nsIn K mainGlobals "_law_pick" = some (some (.ref f1))) (l1 : K.lookup f1 = some ⟨oc1, od1, .func (PySem.W.fnOf "_law_pick" "_law_pick" (defArgs s__law_pick) (defBody s__law_pick) (defScope s__law_pick) .none kV1 dc1 pm1 an1 cd1 ct1), sl1⟩) (c1 : PySem.W.codeIn K cd1 "_law_pick" = true) (k1 : PySem.W.keepIn K (.ref f1) = true)
    (a2 : PySem.W.nsIn K mainGlobals "_law_bound" = some (some (.ref f2))) (l2 : K.lookup f2 = some ⟨oc2, od2, .func (PySem.W.fnOf "_law_bound" "_law_bound" (defArgs s__law_bound) (defBody s__law_bound) (defScope s__law_bound) .none kV2 dc2 pm2 an2 cd2 ct2), sl2⟩) (c2 : PySem.W.codeIn K cd2 "_law_bound" = true) (k2 : PySem.W.keepIn K (.ref f2) = true)
    (a3 : PySem.W.nsIn K mainGlobals "_law_edge" = some (some (.ref f3))) (l3 : K.lookup f3 = some ⟨oc3, od3, .func (PySem.W.fnOf "_law_edge" "_law_edge" (defArgs s__law_edge) (defBody s__law_edge) (defScope s__law_edge) .none kV3 dc3 pm3 an3 cd3 ct3), sl3⟩) (c3 : PySem.W.codeIn K cd3 "_law_edge" = true) (k3 : PySem.W.keepIn K (.ref f3) = true)
    (a4 : PySem.W.nsIn K mainGlobals "_law_machine" = some (some (.ref f4))) (l4 : K.lookup f4 = some ⟨oc4, od4, .func (PySem.W.fnOf "_law_machine" "_law_machine" (defArgs s__law_machine) (defBody s__law_machine) (defScope s__law_machine) .none kV4 dc4 pm4 an4 cd4 ct4), sl4⟩) (c4 : PySem.W.codeIn K cd4 "_law_machine" = true) (k4 : PySem.W.keepIn K (.ref f4) = true)
    (a5 : PySem.W.nsIn K mainGlobals "_law_low" = some (some (.ref f5))) (l5 : K.lookup f5 = some ⟨oc5, od5, .func (PySem.W.fnOf "_law_low" "_law_low" (defArgs s__law_low) (defBody s__law_low) (defScope s__law_low) .none kV5 dc5 pm5 an5 cd5 ct5), sl5⟩) (c5 : PySem.W.codeIn K cd5 "_law_low" = true) (k5 : PySem.W.keepIn K (.ref f5) = true)
    (a6 : PySem.W.nsIn K mainGlobals "_law_bent" = some (some (.ref f6))) (l6 : K.lookup f6 = some ⟨oc6, od6, .func (PySem.W.fnOf "_law_bent" "_law_bent" (defArgs s__law_bent) (defBody s__law_bent) (defScope s__law_bent) .none kV6 dc6 pm6 an6 cd6 ct6), sl6⟩) (c6 : PySem.W.codeIn K cd6 "_law_bent" = true) (k6 : PySem.W.keepIn K (.ref f6) = true)
    (a7 : PySem.W.nsIn K mainGlobals "_law_made" = some (some (.ref f7))) (l7 : K.lookup f7 = some ⟨oc7, od7, .func (PySem.W.fnOf "_law_made" "_law_made" (defArgs s__law_made) (defBody s__law_made) (defScope s__law_made) .none kV7 dc7 pm7 an7 cd7 ct7), sl7⟩) (c7 : PySem.W.codeIn K cd7 "_law_made" = true) (k7 : PySem.W.keepIn K (.ref f7) = true)
    (a8 : PySem.W.nsIn K mainGlobals "_law_int" = some (some (.ref f8))) (l8 : K.lookup f8 = some ⟨oc8, od8, .func (PySem.W.fnOf "_law_int" "_law_int" (defArgs s__law_int) (defBody s__law_int) (defScope s__law_int) .none kV8 dc8 pm8 an8 cd8 ct8), sl8⟩) (c8 : PySem.W.codeIn K cd8 "_law_int" = true) (k8 : PySem.W.keepIn K (.ref f8) = true)
    (a9 : PySem.W.nsIn K mainGlobals "_law_good_bound" = some (some (.ref f9))) (l9 : K.lookup f9 = some ⟨oc9, od9, .func (PySem.W.fnOf "_law_good_bound" "_law_good_bound" (defArgs s__law_good_bound) (defBody s__law_good_bound) (defScope s__law_good_bound) .none kV9 dc9 pm9 an9 cd9 ct9), sl9⟩) (c9 : PySem.W.codeIn K cd9 "_law_good_bound" = true) (k9 : PySem.W.keepIn K (.ref f9) = true)
    (a10 : PySem.W.nsIn K mainGlobals "_law_rising" = some (some (.ref f10))) (l10 : K.lookup f10 = some ⟨oc10, od10, .func (PySem.W.fnOf "_law_rising" "_law_rising" (defArgs s__law_rising) (defBody s__law_rising) (defScope s__law_rising) .none kV10 dc10 pm10 an10 cd10 ct10), sl10⟩) (c10 : PySem.W.codeIn K cd10 "_law_rising" = true) (k10 : PySem.W.keepIn K (.ref f10) = true)
    (a11 : PySem.W.nsIn K mainGlobals "_law_good_sign" = some (some (.ref f11))) (l11 : K.lookup f11 = some ⟨oc11, od11, .func (PySem.W.fnOf "_law_good_sign" "_law_good_sign" (defArgs s__law_good_sign) (defBody s__law_good_sign) (defScope s__law_good_sign) .none kV11 dc11 pm11 an11 cd11 ct11), sl11⟩) (c11 : PySem.W.codeIn K cd11 "_law_good_sign" = true) (k11 : PySem.W.keepIn K (.ref f11) = true)
    (a12 : PySem.W.nsIn K mainGlobals "_law_good_edge" = some (some (.ref f12))) (l12 : K.lookup f12 = some ⟨oc12, od12, .func (PySem.W.fnOf "_law_good_edge" "_law_good_edge" (defArgs s__law_good_edge) (defBody s__law_good_edge) (defScope s__law_good_edge) .none kV12 dc12 pm12 an12 cd12 ct12), sl12⟩) (c12 : PySem.W.codeIn K cd12 "_law_good_edge" = true) (k12 : PySem.W.keepIn K (.ref f12) = true)
    (a13 : PySem.W.nsIn K mainGlobals "_law_good_machine" = some (some (.ref f13))) (l13 : K.lookup f13 = some ⟨oc13, od13, .func (PySem.W.fnOf "_law_good_machine" "_law_good_machine" (defArgs s__law_good_machine) (defBody s__law_good_machine) (defScope s__law_good_machine) .none kV13 dc13 pm13 an13 cd13 ct13), sl13⟩) (c13 : PySem.W.codeIn K cd13 "_law_good_machine" = true) (k13 : PySem.W.keepIn K (.ref f13) = true)
    (a14 : PySem.W.nsIn K mainGlobals "_law_good_row" = some (some (.ref f14))) (l14 : K.lookup f14 = some ⟨oc14, od14, .func (PySem.W.fnOf "_law_good_row" "_law_good_row" (defArgs s__law_good_row) (defBody s__law_good_row) (defScope s__law_good_row) .none kV14 dc14 pm14 an14 cd14 ct14), sl14⟩) (c14 : PySem.W.codeIn K cd14 "_law_good_row" = true) (k14 : PySem.W.keepIn K (.ref f14) = true)
    (a15 : PySem.W.nsIn K mainGlobals "_law_kind" = some (some (.ref f15))) (l15 : K.lookup f15 = some ⟨oc15, od15, .func (PySem.W.fnOf "_law_kind" "_law_kind" (defArgs s__law_kind) (defBody s__law_kind) (defScope s__law_kind) .none kV15 dc15 pm15 an15 cd15 ct15), sl15⟩) (c15 : PySem.W.codeIn K cd15 "_law_kind" = true) (k15 : PySem.W.keepIn K (.ref f15) = true)
    (a16 : PySem.W.nsIn K mainGlobals "_law_twins" = some (some (.ref f16))) (l16 : K.lookup f16 = some ⟨oc16, od16, .func (PySem.W.fnOf "_law_twins" "_law_twins" (defArgs s__law_twins) (defBody s__law_twins) (defScope s__law_twins) .none kV16 dc16 pm16 an16 cd16 ct16), sl16⟩) (c16 : PySem.W.codeIn K cd16 "_law_twins" = true) (k16 : PySem.W.keepIn K (.ref f16) = true)
    (a17 : PySem.W.nsIn K mainGlobals "is_row_of" = some (some (.ref f17))) (l17 : K.lookup f17 = some ⟨oc17, od17, .func (PySem.W.fnOf "is_row_of" "is_row_of" (defArgs s_is_row_of) (defBody s_is_row_of) (defScope s_is_row_of) .none kV17 dc17 pm17 an17 cd17 ct17), sl17⟩) (c17 : PySem.W.codeIn K cd17 "is_row_of" = true) (k17 : PySem.W.keepIn K (.ref f17) = true)
    (a18 : PySem.W.nsIn K mainGlobals "is_within" = some (some (.ref f18))) (l18 : K.lookup f18 = some ⟨oc18, od18, .func (PySem.W.fnOf "is_within" "is_within" (defArgs s_is_within) (defBody s_is_within) (defScope s_is_within) .none kV18 dc18 pm18 an18 cd18 ct18), sl18⟩) (c18 : PySem.W.codeIn K cd18 "is_within" = true) (k18 : PySem.W.keepIn K (.ref f18) = true)
    (a19 : PySem.W.nsIn K mainGlobals "is_sign" = some (some (.ref f19))) (l19 : K.lookup f19 = some ⟨oc19, od19, .func (PySem.W.fnOf "is_sign" "is_sign" (defArgs s_is_sign) (defBody s_is_sign) (defScope s_is_sign) .none kV19 dc19 pm19 an19 cd19 ct19), sl19⟩) (c19 : PySem.W.codeIn K cd19 "is_sign" = true) (k19 : PySem.W.keepIn K (.ref f19) = true)
    (a20 : PySem.W.nsIn K mainGlobals "is_bound" = some (some (.ref f20))) (l20 : K.lookup f20 = some ⟨oc20, od20, .func (PySem.W.fnOf "is_bound" "is_bound" (defArgs s_is_bound) (defBody s_is_bound) (defScope s_is_bound) .none kV20 dc20 pm20 an20 cd20 ct20), sl20⟩) (c20 : PySem.W.codeIn K cd20 "is_bound" = true) (k20 : PySem.W.keepIn K (.ref f20) = true)
    (a21 : PySem.W.nsIn K mainGlobals "is_edge" = some (some (.ref f21))) (l21 : K.lookup f21 = some ⟨oc21, od21, .func (PySem.W.fnOf "is_edge" "is_edge" (defArgs s_is_edge) (defBody s_is_edge) (defScope s_is_edge) .none kV21 dc21 pm21 an21 cd21 ct21), sl21⟩) (c21 : PySem.W.codeIn K cd21 "is_edge" = true) (k21 : PySem.W.keepIn K (.ref f21) = true)
    (a22 : PySem.W.nsIn K mainGlobals "is_machine" = some (some (.ref f22))) (l22 : K.lookup f22 = some ⟨oc22, od22, .func (PySem.W.fnOf "is_machine" "is_machine" (defArgs s_is_machine) (defBody s_is_machine) (defScope s_is_machine) .none kV22 dc22 pm22 an22 cd22 ct22), sl22⟩) (c22 : PySem.W.codeIn K cd22 "is_machine" = true) (k22 : PySem.W.keepIn K (.ref f22) = true)
    (a23 : PySem.W.nsIn K mainGlobals "look_at_machine" = some (some (.ref f23))) (l23 : K.lookup f23 = some ⟨oc23, od23, .func (PySem.W.fnOf "look_at_machine" "look_at_machine" (defArgs s_look_at_machine) (defBody s_look_at_machine) (defScope s_look_at_machine) .none kV23 dc23 pm23 an23 cd23 ct23), sl23⟩) (c23 : PySem.W.codeIn K cd23 "look_at_machine" = true) (k23 : PySem.W.keepIn K (.ref f23) = true)
    (a24 : PySem.W.nsIn K mainGlobals "meet" = some (some (.ref f24))) (l24 : K.lookup f24 = some ⟨oc24, od24, .func (PySem.W.fnOf "meet" "meet" (defArgs s_meet) (defBody s_meet) (defScope s_meet) .none kV24 dc24 pm24 an24 cd24 ct24), sl24⟩) (c24 : PySem.W.codeIn K cd24 "meet" = true) (k24 : PySem.W.keepIn K (.ref f24) = true)
    (a25 : PySem.W.nsIn K mainGlobals "clear_by" = some (some (.ref f25))) (l25 : K.lookup f25 = some ⟨oc25, od25, .func (PySem.W.fnOf "clear_by" "clear_by" (defArgs s_clear_by) (defBody s_clear_by) (defScope s_clear_by) .none kV25 dc25 pm25 an25 cd25 ct25), sl25⟩) (c25 : PySem.W.codeIn K cd25 "clear_by" = true) (k25 : PySem.W.keepIn K (.ref f25) = true)
    (a26 : PySem.W.nsIn K mainGlobals "is_clear" = some (some (.ref f26))) (l26 : K.lookup f26 = some ⟨oc26, od26, .func (PySem.W.fnOf "is_clear" "is_clear" (defArgs s_is_clear) (defBody s_is_clear) (defScope s_is_clear) .none kV26 dc26 pm26 an26 cd26 ct26), sl26⟩) (c26 : PySem.W.codeIn K cd26 "is_clear" = true) (k26 : PySem.W.keepIn K (.ref f26) = true)
    (a27 : PySem.W.nsIn K mainGlobals "_law_kept" = some (some (.ref f27))) (l27 : K.lookup f27 = some ⟨oc27, od27, .func (PySem.W.fnOf "_law_kept" "_law_kept" (defArgs s__law_kept) (defBody s__law_kept) (defScope s__law_kept) .none kV27 dc27 pm27 an27 cd27 ct27), sl27⟩) (c27 : PySem.W.codeIn K cd27 "_law_kept" = true) (k27 : PySem.W.keepIn K (.ref f27) = true)
    (a28 : PySem.W.nsIn K mainGlobals "_law_clear" = some (some (.ref f28))) (l28 : K.lookup f28 = some ⟨oc28, od28, .func (PySem.W.fnOf "_law_clear" "_law_clear" (defArgs s__law_clear) (defBody s__law_clear) (defScope s__law_clear) .none kV28 dc28 pm28 an28 cd28 ct28), sl28⟩) (c28 : PySem.W.codeIn K cd28 "_law_clear" = true) (k28 : PySem.W.keepIn K (.ref f28) = true)
    (a29 : PySem.W.nsIn K mainGlobals "common" = some (some (.ref f29))) (l29 : K.lookup f29 = some ⟨oc29, od29, .func (PySem.W.fnOf "common" "common" (defArgs s_common) (defBody s_common) (defScope s_common) .none kV29 dc29 pm29 an29 cd29 ct29), sl29⟩) (c29 : PySem.W.codeIn K cd29 "common" = true) (k29 : PySem.W.keepIn K (.ref f29) = true)
    (a30 : PySem.W.nsIn K mainGlobals "is_fraction" = some (some (.ref f30))) (l30 : K.lookup f30 = some ⟨oc30, od30, .func (PySem.W.fnOf "is_fraction" "is_fraction" (defArgs s_is_fraction) (defBody s_is_fraction) (defScope s_is_fraction) .none kV30 dc30 pm30 an30 cd30 ct30), sl30⟩) (c30 : PySem.W.codeIn K cd30 "is_fraction" = true) (k30 : PySem.W.keepIn K (.ref f30) = true)
    (a31 : PySem.W.nsIn K mainGlobals "is_beat" = some (some (.ref f31))) (l31 : K.lookup f31 = some ⟨oc31, od31, .func (PySem.W.fnOf "is_beat" "is_beat" (defArgs s_is_beat) (defBody s_is_beat) (defScope s_is_beat) .none kV31 dc31 pm31 an31 cd31 ct31), sl31⟩) (c31 : PySem.W.codeIn K cd31 "is_beat" = true) (k31 : PySem.W.keepIn K (.ref f31) = true)
    (a32 : PySem.W.nsIn K mainGlobals "is_row" = some (some (.ref f32))) (l32 : K.lookup f32 = some ⟨oc32, od32, .func (PySem.W.fnOf "is_row" "is_row" (defArgs s_is_row) (defBody s_is_row) (defScope s_is_row) .none kV32 dc32 pm32 an32 cd32 ct32), sl32⟩) (c32 : PySem.W.codeIn K cd32 "is_row" = true) (k32 : PySem.W.keepIn K (.ref f32) = true)
    (a33 : PySem.W.nsIn K mainGlobals "law" = some (some (.ref f33))) (l33 : K.lookup f33 = some ⟨oc33, od33, .func (PySem.W.fnOf "law" "law" (defArgs s_law) (defBody s_law) (defScope s_law) .none kV33 dc33 pm33 an33 cd33 ct33), sl33⟩) (c33 : PySem.W.codeIn K cd33 "law" = true) (k33 : PySem.W.keepIn K (.ref f33) = true)
    (z_len : PySem.W.nsIn K mainGlobals "len" = some none)
    (z_abs : PySem.W.nsIn K mainGlobals "abs" = some none)
    (z_int : PySem.W.nsIn K mainGlobals "int" = some none)
    (z_tuple : PySem.W.nsIn K mainGlobals "tuple" = some none)
    (z_range : PySem.W.nsIn K mainGlobals "range" = some none)
    (z_sorted : PySem.W.nsIn K mainGlobals "sorted" = some none)
    (z_set : PySem.W.nsIn K mainGlobals "set" = some none)
    (z_isinstance : PySem.W.nsIn K mainGlobals "isinstance" = some none)
    (z_bool : PySem.W.nsIn K mainGlobals "bool" = some none)
    (z_str : PySem.W.nsIn K mainGlobals "str" = some none)
    (z_list : PySem.W.nsIn K mainGlobals "list" = some none)
    (z_zip : PySem.W.nsIn K mainGlobals "zip" = some none)
    (z_all : PySem.W.nsIn K mainGlobals "all" = some none)
    (z_max : PySem.W.nsIn K mainGlobals "max" = some none)
    (z_min : PySem.W.nsIn K mainGlobals "min" = some none)
    (z_enumerate : PySem.W.nsIn K mainGlobals "enumerate" = some none)
    (g_SIGNS : PySem.W.nsIn K mainGlobals "SIGNS" = some (some (.ref A_SIGNS))) (h_SIGNS : K.lookup A_SIGNS = some ⟨.type "tuple", o_SIGNS, .seq #[.str "a" t_SIGNS0, .str "b" t_SIGNS1, .str "c" t_SIGNS2] n_SIGNS, s_SIGNS⟩)
    (g_FAR : PySem.W.nsIn K mainGlobals "FAR" = some (some (.int 5 t_FAR)))
    (g_MOST_BEATS : PySem.W.nsIn K mainGlobals "MOST_BEATS" = some (some (.int 30 t_MOST_BEATS)))
    (hfa : mg "law" = some (.ref fa)) : ∃ fd : FuncData, (∀ (s : Shared) (v : Value), BindsTo s fd ⟨[v], []⟩ [("script", v)]) ∧ ∀ base : Heap, K.In base → base.Ns mainGlobals mg → FnOk P w K mg base CX0 15 fa fd ["script"] (spM P w K 1 m_law) := by
  have e := hfa.symm.trans (PySem.W.mg_of X G a33)
  cases e
  have F0 := fun_mk (st := s__law_spring) l0 c0 k0
  have F1 := fun_mk (st := s__law_pick) l1 c1 k1
  have F2 := fun_mk (st := s__law_bound) l2 c2 k2
  have F3 := fun_mk (st := s__law_edge) l3 c3 k3
  have F4 := fun_mk (st := s__law_machine) l4 c4 k4
  have F5 := fun_mk (st := s__law_low) l5 c5 k5
  have F6 := fun_mk (st := s__law_bent) l6 c6 k6
  have F7 := fun_mk (st := s__law_made) l7 c7 k7
  have F8 := fun_mk (st := s__law_int) l8 c8 k8
  have F9 := fun_mk (st := s__law_good_bound) l9 c9 k9
  have F10 := fun_mk (st := s__law_rising) l10 c10 k10
  have F11 := fun_mk (st := s__law_good_sign) l11 c11 k11
  have F12 := fun_mk (st := s__law_good_edge) l12 c12 k12
  have F13 := fun_mk (st := s__law_good_machine) l13 c13 k13
  have F14 := fun_mk (st := s__law_good_row) l14 c14 k14
  have F15 := fun_mk (st := s__law_kind) l15 c15 k15
  have F16 := fun_mk (st := s__law_twins) l16 c16 k16
  have F17 := fun_mk (st := s_is_row_of) l17 c17 k17
  have F18 := fun_mk (st := s_is_within) l18 c18 k18
  have F19 := fun_mk (st := s_is_sign) l19 c19 k19
  have F20 := fun_mk (st := s_is_bound) l20 c20 k20
  have F21 := fun_mk (st := s_is_edge) l21 c21 k21
  have F22 := fun_mk (st := s_is_machine) l22 c22 k22
  have F23 := fun_mk (st := s_look_at_machine) l23 c23 k23
  have F24 := fun_mk (st := s_meet) l24 c24 k24
  have F25 := fun_mk (st := s_clear_by) l25 c25 k25
  have F26 := fun_mk (st := s_is_clear) l26 c26 k26
  have F27 := fun_mk (st := s__law_kept) l27 c27 k27
  have F28 := fun_mk (st := s__law_clear) l28 c28 k28
  have F29 := fun_mk (st := s_common) l29 c29 k29
  have F30 := fun_mk (st := s_is_fraction) l30 c30 k30
  have F31 := fun_mk (st := s_is_beat) l31 c31 k31
  have F32 := fun_mk (st := s_is_row) l32 c32 k32
  have F33 := fun_mk (st := s_law) l33 c33 k33
  have b0 := F0.binds (ps := ["script", "at"]) fun _ _ _ _ _ _ us hl => match us, hl with | [_, _], _ => rfl
  have b1 := F1.binds (ps := ["spring", "many"]) fun _ _ _ _ _ _ us hl => match us, hl with | [_, _], _ => rfl
  have b2 := F2.binds (ps := ["spring"]) fun _ _ _ _ _ _ us hl => match us, hl with | [_], _ => rfl
  have b3 := F3.binds (ps := ["spring", "clocks"]) fun _ _ _ _ _ _ us hl => match us, hl with | [_, _], _ => rfl
  have b4 := F4.binds (ps := ["spring", "most"]) fun _ _ _ _ _ _ us hl => match us, hl with | [_, _], _ => rfl
  have b5 := F5.binds (ps := ["top", "below"]) fun _ _ _ _ _ _ us hl => match us, hl with | [_, _], _ => rfl
  have b6 := F6.binds (ps := ["spring", "value"]) fun _ _ _ _ _ _ us hl => match us, hl with | [_, _], _ => rfl
  have b7 := F7.binds (ps := ["value", "many"]) fun _ _ _ _ _ _ us hl => match us, hl with | [_, _], _ => rfl
  have b8 := F8.binds (ps := ["value", "low", "high"]) fun _ _ _ _ _ _ us hl => match us, hl with | [_, _, _], _ => rfl
  have b9 := F9.binds (ps := ["value"]) fun _ _ _ _ _ _ us hl => match us, hl with | [_], _ => rfl
  have b10 := F10.binds (ps := ["row"]) fun _ _ _ _ _ _ us hl => match us, hl with | [_], _ => rfl
  have b11 := F11.binds (ps := ["value"]) fun _ _ _ _ _ _ us hl => match us, hl with | [_], _ => rfl
  have b12 := F12.binds (ps := ["clocks", "value"]) fun _ _ _ _ _ _ us hl => match us, hl with | [_, _], _ => rfl
  have b13 := F13.binds (ps := ["value"]) fun _ _ _ _ _ _ us hl => match us, hl with | [_], _ => rfl
  have b14 := F14.binds (ps := ["value"]) fun _ _ _ _ _ _ us hl => match us, hl with | [_], _ => rfl
  have b15 := F15.binds (ps := ["value"]) fun _ _ _ _ _ _ us hl => match us, hl with | [_], _ => rfl
  have b16 := F16.binds (ps := ["one", "other"]) fun _ _ _ _ _ _ us hl => match us, hl with | [_, _], _ => rfl
  have b17 := F17.binds (ps := ["value", "many"]) fun _ _ _ _ _ _ us hl => match us, hl with | [_, _], _ => rfl
  have b18 := F18.binds (ps := ["value", "low", "high"]) fun _ _ _ _ _ _ us hl => match us, hl with | [_, _, _], _ => rfl
  have b19 := F19.binds (ps := ["value"]) fun _ _ _ _ _ _ us hl => match us, hl with | [_], _ => rfl
  have b20 := F20.binds (ps := ["value"]) fun _ _ _ _ _ _ us hl => match us, hl with | [_], _ => rfl
  have b21 := F21.binds (ps := ["clocks", "value"]) fun _ _ _ _ _ _ us hl => match us, hl with | [_, _], _ => rfl
  have b22 := F22.binds (ps := ["value"]) fun _ _ _ _ _ _ us hl => match us, hl with | [_], _ => rfl
  have b23 := F23.binds (ps := ["machine"]) fun _ _ _ _ _ _ us hl => match us, hl with | [_], _ => rfl
  have b24 := F24.binds (ps := ["one", "other"]) fun _ _ _ _ _ _ us hl => match us, hl with | [_, _], _ => rfl
  have b25 := F25.binds (ps := ["machine"]) fun _ _ _ _ _ _ us hl => match us, hl with | [_], _ => rfl
  have b26 := F26.binds (ps := ["machine"]) fun _ _ _ _ _ _ us hl => match us, hl with | [_], _ => rfl
  have b27 := F27.binds (ps := ["value", "bound"]) fun _ _ _ _ _ _ us hl => match us, hl with | [_, _], _ => rfl
  have b28 := F28.binds (ps := ["machine"]) fun _ _ _ _ _ _ us hl => match us, hl with | [_], _ => rfl
  have b29 := F29.binds (ps := ["one", "other"]) fun _ _ _ _ _ _ us hl => match us, hl with | [_, _], _ => rfl
  have b30 := F30.binds (ps := ["value"]) fun _ _ _ _ _ _ us hl => match us, hl with | [_], _ => rfl
  have b31 := F31.binds (ps := ["value"]) fun _ _ _ _ _ _ us hl => match us, hl with | [_], _ => rfl
  have b32 := F32.binds (ps := ["value"]) fun _ _ _ _ _ _ us hl => match us, hl with | [_], _ => rfl
  have b33 := F33.binds (ps := ["script"]) fun _ _ _ _ _ _ us hl => match us, hl with | [_], _ => rfl
  exact ⟨_, fun s v => .of_eq rfl, fun base _ _ => ok_law (P := P) (w := w) (base := base) (⟨_, _, F0, b0, PySem.W.mg_of X G a0, _, _, F1, b1, PySem.W.mg_of X G a1, _, _, F2, b2, PySem.W.mg_of X G a2, _, _, F3, b3, PySem.W.mg_of X G a3, _, _, F4, b4, PySem.W.mg_of X G a4, _, _, F5, b5, PySem.W.mg_of X G a5, _, _, F6, b6, PySem.W.mg_of X G a6, _, _, F7, b7, PySem.W.mg_of X G a7, _, _, F8, b8, PySem.W.mg_of X G a8, _, _, F9, b9, PySem.W.mg_of X G a9, _, _, F10, b10, PySem.W.mg_of X G a10, _, _, F11, b11, PySem.W.mg_of X G a11, _, _, F12, b12, PySem.W.mg_of X G a12, _, _, F13, b13, PySem.W.mg_of X G a13, _, _, F14, b14, PySem.W.mg_of X G a14, _, _, F15, b15, PySem.W.mg_of X G a15, _, _, F16, b16, PySem.W.mg_of X G a16, _, _, F17, b17, PySem.W.mg_of X G a17, _, _, F18, b18, PySem.W.mg_of X G a18, _, _, F19, b19, PySem.W.mg_of X G a19, _, _, F20, b20, PySem.W.mg_of X G a20, _, _, F21, b21, PySem.W.mg_of X G a21, _, _, F22, b22, PySem.W.mg_of X G a22, _, _, F23, b23, PySem.W.mg_of X G a23, _, _, F24, b24, PySem.W.mg_of X G a24, _, _, F25, b25, PySem.W.mg_of X G a25, _, _, F26, b26, PySem.W.mg_of X G a26, _, _, F27, b27, PySem.W.mg_of X G a27, _, _, F28, b28, PySem.W.mg_of X G a28, _, _, F29, b29, PySem.W.mg_of X G a29, _, _, F30, b30, PySem.W.mg_of X G a30, _, _, F31, b31, PySem.W.mg_of X G a31, _, _, F32, b32, PySem.W.mg_of X G a32, _, _, F33, b33, PySem.W.mg_of X G a33, PySem.W.mg_none_of X G z_len, PySem.W.mg_none_of X G z_abs, PySem.W.mg_none_of X G z_int, PySem.W.mg_none_of X G z_tuple, PySem.W.mg_none_of X G z_range, PySem.W.mg_none_of X G z_sorted, PySem.W.mg_none_of X G z_set, PySem.W.mg_none_of X G z_isinstance, PySem.W.mg_none_of X G z_bool, PySem.W.mg_none_of X G z_str, PySem.W.mg_none_of X G z_list, PySem.W.mg_none_of X G z_zip, PySem.W.mg_none_of X G z_all, PySem.W.mg_none_of X G z_max, PySem.W.mg_none_of X G z_min, PySem.W.mg_none_of X G z_enumerate, ⟨.ref A_SIGNS, _, PySem.W.mg_of X G g_SIGNS, rfl, fun P w F H => vr_ktup (vs := [.str "a", .str "b", .str "c"]) h_SIGNS rfl rfl (show 3 ≤ sizeLine by decide +kernel) (.cons ⟨t_SIGNS0, rfl⟩ (.cons ⟨t_SIGNS1, rfl⟩ (.cons ⟨t_SIGNS2, rfl⟩ (.nil)))) (fun _ _ => .cons (.str _) (.cons (.str _) (.cons (.str _) (.nil)))) F H⟩, Glb.int (PySem.W.mg_of X G g_FAR), Glb.int (PySem.W.mg_of X G g_MOST_BEATS)⟩ : Facts K mg) 0⟩
def spLaw (P : Program) (w : World) (K : PySem.W.Frag) : Sp := spM P w K 1 m_law
theorem law_run {K : PySem.W.Frag} {P : Program} {w : World} {H : Hp} {a : Addr} {ns : List Int} {Q : VK} {E : XK} (hS : SqL K H a (ns.map V.int)) (hl : m_law [.scr ns] = some (.bl true)) (q : ∀ H', Q (.bl true) H') : spLaw P w K [.ref a] H Q E := by
  have hv : ScrAt K (fun b => H b ≠ none) H a (ns.map V.int) := by
    rcases hS with h | h
    · exact .inl ⟨by rcases h with h | ⟨_, h⟩ <;> rw [h] <;> exact Option.some_ne_none _, h⟩
    · exact .inr h
  refine ⟨fun b => H b ≠ none, [.scr ns], .bl true, fun _ z => z, .cons (L' := []) (.scr hv) .nil, rfl, hl, fun v F' H' Lr h _ => ?_⟩
  rw [h.bl_inv]
  exact q H'
end K01
open PySem PySem.W PyProof.Rows
set_option maxHeartbeats 0 in
theorem PySem.Challenge.cw_realpauses_k01_machines_and_rows_known_holds : PySem.Challenge.rw_realpauses_k01_machines_and_rows_known.Holds := by
  w_on; o_law; k_head; (case hw => w_witness2)
  k_fill
  refine L2.walk_of (l := PySem.Challenge.rw_realpauses_k01_machines_and_rows_known) (n := 63) (k := 15) (x := "script") (CX := fun _ => L2.CX0) (sp := fun w => K01.spLaw PySem.Challenge.rw_realpauses_k01_machines_and_rows_known.prog w _) rfl (by decide) rfl ⟨rfl, by decide, by decide⟩ (fun w h Y => PySem.W.kIn_of Y) ?F (fun _ _ a ns hl _ hS => K01.law_run hS (K01.law_true ns hl) fun _ => rfl) (fun _ _ _ _ _ h => h)
  case F =>
    intro w mg fa h KX G hmg
    refine' K01.all_mk KX G ?a0 ?l0 ?c0 ?k0 ?a1 ?l1 ?c1 ?k1 ?a2 ?l2 ?c2 ?k2 ?a3 ?l3 ?c3 ?k3 ?a4 ?l4 ?c4 ?k4 ?a5 ?l5 ?c5 ?k5 ?a6 ?l6 ?c6 ?k6 ?a7 ?l7 ?c7 ?k7 ?a8 ?l8 ?c8 ?k8 ?a9 ?l9 ?c9 ?k9 ?a10 ?l10 ?c10 ?k10 ?a11 ?l11 ?c11 ?k11 ?a12 ?l12 ?c12 ?k12 ?a13 ?l13 ?c13 ?k13 ?a14 ?l14 ?c14 ?k14 ?a15 ?l15 ?c15 ?k15 ?a16 ?l16 ?c16 ?k16 ?a17 ?l17 ?c17 ?k17 ?a18 ?l18 ?c18 ?k18 ?a19 ?l19 ?c19 ?k19 ?a20 ?l20 ?c20 ?k20 ?a21 ?l21 ?c21 ?k21 ?a22 ?l22 ?c22 ?k22 ?a23 ?l23 ?c23 ?k23 ?a24 ?l24 ?c24 ?k24 ?a25 ?l25 ?c25 ?k25 ?a26 ?l26 ?c26 ?k26 ?a27 ?l27 ?c27 ?k27 ?a28 ?l28 ?c28 ?k28 ?a29 ?l29 ?c29 ?k29 ?a30 ?l30 ?c30 ?k30 ?a31 ?l31 ?c31 ?k31 ?a32 ?l32 ?c32 ?k32 ?a33 ?l33 ?c33 ?k33 ?z_len ?z_abs ?z_int ?z_tuple ?z_range ?z_sorted ?z_set ?z_isinstance ?z_bool ?z_str ?z_list ?z_zip ?z_all ?z_max ?z_min ?z_enumerate ?g_SIGNS ?h_SIGNS ?g_FAR ?g_MOST_BEATS hmg
    (case a0 => k_is); (case l0 => k_is); (case c0 => k_is); (case k0 => k_is); (case a1 => k_is); (case l1 => k_is); (case c1 => k_is); (case k1 => k_is); (case a2 => k_is); (case l2 => k_is); (case c2 => k_is); (case k2 => k_is); (case a3 => k_is); (case l3 => k_is); (case c3 => k_is); (case k3 => k_is); (case a4 => k_is); (case l4 => k_is); (case c4 => k_is); (case k4 => k_is); (case a5 => k_is); (case l5 => k_is); (case c5 => k_is); (case k5 => k_is); (case a6 => k_is); (case l6 => k_is); (case c6 => k_is); (case k6 => k_is); (case a7 => k_is); (case l7 => k_is); (case c7 => k_is); (case k7 => k_is); (case a8 => k_is); (case l8 => k_is); (case c8 => k_is); (case k8 => k_is); (case a9 => k_is); (case l9 => k_is); (case c9 => k_is); (case k9 => k_is); (case a10 => k_is); (case l10 => k_is); (case c10 => k_is); (case k10 => k_is); (case a11 => k_is); (case l11 => k_is); (case c11 => k_is); (case k11 => k_is); (case a12 => k_is); (case l12 => k_is); (case c12 => k_is); (case k12 => k_is); (case a13 => k_is); (case l13 => k_is); (case c13 => k_is); (case k13 => k_is); (case a14 => k_is); (case l14 => k_is); (case c14 => k_is); (case k14 => k_is); (case a15 => k_is); (case l15 => k_is); (case c15 => k_is); (case k15 => k_is); (case a16 => k_is); (case l16 => k_is); (case c16 => k_is); (case k16 => k_is); (case a17 => k_is); (case l17 => k_is); (case c17 => k_is); (case k17 => k_is); (case a18 => k_is); (case l18 => k_is); (case c18 => k_is); (case k18 => k_is); (case a19 => k_is); (case l19 => k_is); (case c19 => k_is); (case k19 => k_is); (case a20 => k_is); (case l20 => k_is); (case c20 => k_is); (case k20 => k_is); (case a21 => k_is); (case l21 => k_is); (case c21 => k_is); (case k21 => k_is); (case a22 => k_is); (case l22 => k_is); (case c22 => k_is); (case k22 => k_is); (case a23 => k_is); (case l23 => k_is); (case c23 => k_is); (case k23 => k_is); (case a24 => k_is); (case l24 => k_is); (case c24 => k_is); (case k24 => k_is); (case a25 => k_is); (case l25 => k_is); (case c25 => k_is); (case k25 => k_is); (case a26 => k_is); (case l26 => k_is); (case c26 => k_is); (case k26 => k_is); (case a27 => k_is); (case l27 => k_is); (case c27 => k_is); (case k27 => k_is); (case a28 => k_is); (case l28 => k_is); (case c28 => k_is); (case k28 => k_is); (case a29 => k_is); (case l29 => k_is); (case c29 => k_is); (case k29 => k_is); (case a30 => k_is); (case l30 => k_is); (case c30 => k_is); (case k30 => k_is); (case a31 => k_is); (case l31 => k_is); (case c31 => k_is); (case k31 => k_is); (case a32 => k_is); (case l32 => k_is); (case c32 => k_is); (case k32 => k_is); (case a33 => k_is); (case l33 => k_is); (case c33 => k_is); (case k33 => k_is); (case z_len => k_is); (case z_abs => k_is); (case z_int => k_is); (case z_tuple => k_is); (case z_range => k_is); (case z_sorted => k_is); (case z_set => k_is); (case z_isinstance => k_is); (case z_bool => k_is); (case z_str => k_is); (case z_list => k_is); (case z_zip => k_is); (case z_all => k_is); (case z_max => k_is); (case z_min => k_is); (case z_enumerate => k_is); (case g_SIGNS => k_is); (case h_SIGNS => k_is); (case g_FAR => k_is); (case g_MOST_BEATS => k_is)
end
