import PyProof.Rows.All
import Wide.All
import OpenK.AllK
import Wide.FinOn
import HandS.ForMost
import HandS.Wide
import HandS.SortInts
import HandS.SetKeys
import HandS.Zip
import HandS.RaiseMore
import HandS.TupMul
import HandS.TupAny
import HandS.Deep
import HandS.Conv
import KE.DataEq
import KE.DatumIndex
import KE.SortData
import HandS.Flow
import HandS.Style
import HandS.More
import HandS.Text
import HandS.TupSets
import HandS.DictTup
import HandS.SetTxt0
import HandS.SetFor
import KE.KDictPairs
import HandS.Iter
import KE.GoesZip
import KE.GoesMore
import PySem.Challenge.RW_unwrittenrow_k62_tracks_and_values
set_option Elab.async false
set_option linter.all false
set_option maxRecDepth 100000
set_option autoImplicit false
set_option maxHeartbeats 4000000
/-! the data layer: what the code does as a function of plain data -/
namespace DL
open PySem PySem.Spec PyProof.Rows L2

/-- plain data; lst: a list that nobody changes any more; lsk: one that is only known to be such (the script); `ref n`: the n-th cell of the abstract heap -/
inductive D where
  | non | bl (b : Bool) | int (i : Int) | str (x : Str)
  | tup (xs : List D) | lst (xs : List D) | lsk (xs : List D)
  | dK (kvs : List (Key × D)) | dT (kvs : List (List Key × D))
  | ref (n : Nat)
  deriving Inhabited

/-- a cell: what may be changed -/
inductive Cell where
  | lst (xs : List D) | dK (kvs : List (Key × D)) | dT (kvs : List (List Key × D))
abbrev AH := List Cell
abbrev Ad := List Addr

mutual
inductive HasD (K : PySem.W.Frag) (m : Ad) (F : Hp) : D → V → Prop
  | non : HasD K m F .non .non
  | bl (b : Bool) : HasD K m F (.bl b) (.bl b)
  | int (i : Int) : HasD K m F (.int i) (.int i)
  | str (x : Str) : HasD K m F (.str x) (.str x)
  | tup {a : Addr} {vs : List V} {xs : List D} : F a = some (.tup vs) → HasDs K m F xs vs → HasD K m F (.tup xs) (.ref a)
  | lst {a : Addr} {vs : List V} {xs : List D} : F a = some (.lst vs) → HasDs K m F xs vs → HasD K m F (.lst xs) (.ref a)
  | lsk {a : Addr} {vs : List V} {xs : List D} : SqL K F a vs → HasDs K m F xs vs → HasD K m F (.lsk xs) (.ref a)
  | dK {a : Addr} {ks : List (Key × V)} {xs : List (Key × D)} : Rd F a (.dK ks) → HasKs K m F xs ks → HasD K m F (.dK xs) (.ref a)
  | dT {a : Addr} {ks : List (List Key × V)} {xs : List (List Key × D)} : Rd F a (.dT ks) → HasTs K m F xs ks → HasD K m F (.dT xs) (.ref a)
  | ref {n : Nat} {a : Addr} : m[n]? = some a → HasD K m F (.ref n) (.ref a)
inductive HasDs (K : PySem.W.Frag) (m : Ad) (F : Hp) : List D → List V → Prop
  | nil : HasDs K m F [] []
  | cons {d : D} {v : V} {ds : List D} {vs : List V} : HasD K m F d v → HasDs K m F ds vs → HasDs K m F (d :: ds) (v :: vs)
inductive HasKs (K : PySem.W.Frag) (m : Ad) (F : Hp) : List (Key × D) → List (Key × V) → Prop
  | nil : HasKs K m F [] []
  | cons {k : Key} {d : D} {v : V} {ds : List (Key × D)} {vs : List (Key × V)} : HasD K m F d v → HasKs K m F ds vs → HasKs K m F ((k, d) :: ds) ((k, v) :: vs)
inductive HasTs (K : PySem.W.Frag) (m : Ad) (F : Hp) : List (List Key × D) → List (List Key × V) → Prop
  | nil : HasTs K m F [] []
  | cons {k : List Key} {d : D} {v : V} {ds : List (List Key × D)} {vs : List (List Key × V)} : HasD K m F d v → HasTs K m F ds vs → HasTs K m F ((k, d) :: ds) ((k, v) :: vs)
end

def Seen : HO → Prop
  | .lst _ => True
  | .tup _ => True
  | .dK _ => True
  | .dT _ => True
  | _ => False

def Loose : HO → Prop
  | .tup _ => False
  | _ => True
def Stays : HO → Prop
  | .lst _ => True
  | .tup _ => True
  | .frz _ _ => True
  | _ => False

/-- what is known stays known -/
structure Ext (m : Ad) (F H : Hp) (m' : Ad) (F' H' : Hp) : Prop where
  pre : ∀ (n : Nat) (a : Addr), m[n]? = some a → m'[n]? = some a
  fz : ∀ (a : Addr) (u : HO), Seen u → Rd F a u → Rd F' a u
  ls : ∀ (a : Addr) (o : HO), Stays o → F a = some o → F' a = some o
  fr : ∀ (a : Addr) (o : HO), Loose o → H a = some o → a ∉ m → F a = none → H' a = some o ∧ a ∉ m' ∧ F' a = none
theorem Ext.refl {m : Ad} {F H : Hp} : Ext m F H m F H := ⟨fun _ _ h => h, fun _ _ _ h => h, fun _ _ _ h => h, fun _ _ _ h h1 h2 => ⟨h, h1, h2⟩⟩
theorem Ext.trans {m m1 m2 : Ad} {F F1 F2 H H1 H2 : Hp} (a : Ext m F H m1 F1 H1) (b : Ext m1 F1 H1 m2 F2 H2) : Ext m F H m2 F2 H2 :=
  ⟨fun n x h => b.pre n x (a.pre n x h), fun x u s h => b.fz x u s (a.fz x u s h), fun x u k h => b.ls x u k (a.ls x u k h), fun x o k h h1 h2 => let ⟨q, q1, q2⟩ := a.fr x o k h h1 h2; b.fr x o k q q1 q2⟩
theorem Ext.len {m m' : Ad} {F F' H H' : Hp} (e : Ext m F H m' F' H') : m.length ≤ m'.length := by
  rcases Nat.lt_or_ge m'.length m.length with h | h
  · have h1 : m[m'.length]? = some m[m'.length] := List.getElem?_eq_getElem h
    have h2 := e.pre _ _ h1
    rw [List.getElem?_eq_none (Nat.le_refl _)] at h2
    cases h2
  · exact h
theorem Ext.take {m m' : Ad} {F F' H H' : Hp} (e : Ext m F H m' F' H') : m'.take m.length = m := by
  apply List.ext_getElem?
  intro n
  rw [List.getElem?_take]
  split
  · rename_i h
    have h1 : m[n]? = some m[n] := List.getElem?_eq_getElem h
    rw [h1, e.pre _ _ h1]
  · rename_i h
    rw [List.getElem?_eq_none (by omega)]

theorem SqT.ext {K : PySem.W.Frag} {m m' : Ad} {F F' H H' : Hp} {a : Addr} {xs : List V} (e : Ext m F H m' F' H') (h : SqT K F a xs) : SqT K F' a xs := by
  rcases h with h | h
  · exact .inl (e.fz _ _ trivial h)
  · exact .inr h
theorem SqL.ext {K : PySem.W.Frag} {m m' : Ad} {F F' H H' : Hp} {a : Addr} {xs : List V} (e : Ext m F H m' F' H') (h : SqL K F a xs) : SqL K F' a xs := by
  rcases h with h | h
  · exact .inl (e.fz _ _ trivial h)
  · exact .inr h

mutual
theorem HasD.ext {K : PySem.W.Frag} {m m' : Ad} {F F' H H' : Hp} (e : Ext m F H m' F' H') : ∀ {d : D} {v : V}, HasD K m F d v → HasD K m' F' d v
  | _, _, .non => .non
  | _, _, .bl b => .bl b
  | _, _, .int i => .int i
  | _, _, .str x => .str x
  | _, _, .tup h hs => .tup (e.ls _ _ trivial h) (HasDs.ext e hs)
  | _, _, .lst h hs => .lst (e.ls _ _ trivial h) (HasDs.ext e hs)
  | _, _, .lsk h hs => .lsk (SqL.ext e h) (HasDs.ext e hs)
  | _, _, .dK h hs => .dK (e.fz _ _ trivial h) (HasKs.ext e hs)
  | _, _, .dT h hs => .dT (e.fz _ _ trivial h) (HasTs.ext e hs)
  | _, _, .ref h => .ref (e.pre _ _ h)
theorem HasDs.ext {K : PySem.W.Frag} {m m' : Ad} {F F' H H' : Hp} (e : Ext m F H m' F' H') : ∀ {d : List D} {v : List V}, HasDs K m F d v → HasDs K m' F' d v
  | _, _, .nil => .nil
  | _, _, .cons h hs => .cons (HasD.ext e h) (HasDs.ext e hs)
theorem HasKs.ext {K : PySem.W.Frag} {m m' : Ad} {F F' H H' : Hp} (e : Ext m F H m' F' H') : ∀ {d : List (Key × D)} {v : List (Key × V)}, HasKs K m F d v → HasKs K m' F' d v
  | _, _, .nil => .nil
  | _, _, .cons h hs => .cons (HasD.ext e h) (HasKs.ext e hs)
theorem HasTs.ext {K : PySem.W.Frag} {m m' : Ad} {F F' H H' : Hp} (e : Ext m F H m' F' H') : ∀ {d : List (List Key × D)} {v : List (List Key × V)}, HasTs K m F d v → HasTs K m' F' d v
  | _, _, .nil => .nil
  | _, _, .cons h hs => .cons (HasD.ext e h) (HasTs.ext e hs)
end

def CellOk (K : PySem.W.Frag) (m : Ad) (F : Hp) : Cell → HO → Prop
  | .lst xs, .lst vs => HasDs K m F xs vs
  | .dK xs, .dK vs => HasKs K m F xs vs
  | .dT xs, .dT vs => HasTs K m F xs vs
  | _, _ => False
theorem CellOk.ext {K : PySem.W.Frag} {m m' : Ad} {F F' H H' : Hp} (e : Ext m F H m' F' H') {c : Cell} {o : HO} (h : CellOk K m F c o) : CellOk K m' F' c o := by
  cases c <;> cases o <;> first | exact HasDs.ext e h | exact HasKs.ext e h | exact HasTs.ext e h | exact False.elim h
theorem CellOk.mut {K : PySem.W.Frag} {m : Ad} {F : Hp} {c : Cell} {o : HO} (h : CellOk K m F c o) : Mut (some o) := by
  cases c <;> cases o <;> first | trivial | exact False.elim h

/-- the abstract heap stands in the heap: m tells the cells' addresses, F what is frozen -/
structure Rel (K : PySem.W.Frag) (m : Ad) (F : Hp) (h : AH) (H : Hp) : Prop where
  sub : ∀ (a : Addr) (o : HO), F a = some o → H a = some o
  len : m.length = h.length
  nodup : m.Nodup
  cell : ∀ (n : Nat) (a : Addr) (c : Cell), m[n]? = some a → h[n]? = some c → F a = none ∧ ∃ o, H a = some o ∧ CellOk K m F c o

theorem Rel.rd {K : PySem.W.Frag} {m : Ad} {F : Hp} {h : AH} {H : Hp} (r : Rel K m F h H) {a : Addr} {u : HO} (q : Rd F a u) : Rd H a u := by
  rcases q with q | ⟨o, q⟩
  · exact .inl (r.sub _ _ q)
  · exact .inr ⟨o, r.sub _ _ q⟩
theorem Rel.sqL {K : PySem.W.Frag} {m : Ad} {F : Hp} {h : AH} {H : Hp} (r : Rel K m F h H) {a : Addr} {xs : List V} (q : SqL K F a xs) : SqL K H a xs := by
  rcases q with q | q
  · exact .inl (r.rd q)
  · exact .inr q
theorem Rel.sqT {K : PySem.W.Frag} {m : Ad} {F : Hp} {h : AH} {H : Hp} (r : Rel K m F h H) {a : Addr} {xs : List V} (q : SqT K F a xs) : SqT K H a xs := by
  rcases q with q | q
  · exact .inl (r.rd q)
  · exact .inr q
theorem Rel.addr {K : PySem.W.Frag} {m : Ad} {F : Hp} {h : AH} {H : Hp} (r : Rel K m F h H) {n : Nat} {c : Cell} (hc : h[n]? = some c) : ∃ a, m[n]? = some a := by
  have hn : n < h.length := (List.getElem?_eq_some_iff.mp hc).1
  exact ⟨m[n]'(by rw [r.len]; exact hn), List.getElem?_eq_getElem _⟩
/-- an address of a cell is tracked -/
theorem Rel.there {K : PySem.W.Frag} {m : Ad} {F : Hp} {h : AH} {H : Hp} (r : Rel K m F h H) {n : Nat} {a : Addr} (hm : m[n]? = some a) : ∃ o, H a = some o ∧ F a = none := by
  have hn : n < m.length := (List.getElem?_eq_some_iff.mp hm).1
  have hh : h[n]? = some (h[n]'(by rw [← r.len]; exact hn)) := List.getElem?_eq_getElem _
  obtain ⟨f, o, ho, _⟩ := r.cell n a _ hm hh
  exact ⟨o, ho, f⟩

/-! ### new objects -/
theorem F_none {K : PySem.W.Frag} {m : Ad} {F : Hp} {h : AH} {H : Hp} (r : Rel K m F h H) {p : Addr} (hp : H p = none) : F p = none := by
  cases q : F p with
  | none => rfl
  | some o => rw [r.sub _ _ q] at hp; cases hp
theorem ext_new {m : Ad} {F H : Hp} {p : Addr} {o u : HO} (hp : F p = none) (hH : H p = none) : Ext m F H m (upd F p o) (upd H p u) :=
  ⟨fun _ _ q => q, fun a u _ q => by
    rcases q with q | ⟨ob, q⟩
    · exact .inl (by rw [upd_ne (ne_of_none q hp)]; exact q)
    · exact .inr ⟨ob, by rw [upd_ne (ne_of_none q hp)]; exact q⟩, fun a xs _ q => by rw [upd_ne (ne_of_none q hp)]; exact q, fun a o _ q q1 q2 => ⟨by rw [upd_ne (ne_of_none q hH)]; exact q, q1, by rw [upd_ne (ne_of_none q hH)]; exact q2⟩⟩
/-- a new frozen object -/
theorem Rel.frozen {K : PySem.W.Frag} {m : Ad} {F : Hp} {h : AH} {H : Hp} (r : Rel K m F h H) {p : Addr} {o : HO} (hp : H p = none) : Rel K m (upd F p o) h (upd H p o) ∧ Ext m F H m (upd F p o) (upd H p o) := by
  have hf := F_none r hp
  have e : Ext m F H m (upd F p o) (upd H p o) := ext_new hf hp
  refine ⟨⟨fun a u q => ?_, r.len, r.nodup, fun n a c hm hc => ?_⟩, e⟩
  · by_cases ha : a = p
    · subst ha
      rw [upd_same] at q ⊢
      exact q
    · rw [upd_ne ha] at q ⊢
      exact r.sub _ _ q
  · obtain ⟨f, ob, ho, ok⟩ := r.cell n a c hm hc
    have na : a ≠ p := ne_of_none ho hp
    exact ⟨by rw [upd_ne na]; exact f, ob, by rw [upd_ne na]; exact ho, ok.ext e⟩
/-- a new cell -/
theorem Rel.newCell {K : PySem.W.Frag} {m : Ad} {F : Hp} {h : AH} {H : Hp} (r : Rel K m F h H) {p : Addr} {o : HO} {c : Cell} (hp : H p = none) (ok : CellOk K m F c o) :
    Rel K (m ++ [p]) F (h ++ [c]) (upd H p o) ∧ Ext m F H (m ++ [p]) F (upd H p o) ∧ (m ++ [p])[h.length]? = some p := by
  have hl : ∀ (n : Nat) (a : Addr), m[n]? = some a → (m ++ [p])[n]? = some a := fun n a q => by
    rw [List.getElem?_append_left (List.getElem?_eq_some_iff.mp q).1]
    exact q
  have e : Ext m F H (m ++ [p]) F (upd H p o) := ⟨hl, fun _ _ _ q => q, fun _ _ _ q => q, fun a u _ q q1 q2 => ⟨by rw [upd_ne (ne_of_none q hp)]; exact q, fun z => (List.mem_append.mp z).elim q1 fun z => ne_of_none q hp (List.mem_singleton.mp z), q2⟩⟩
  have np : p ∉ m := fun hm => by
    obtain ⟨n, hn⟩ := List.mem_iff_getElem?.mp hm
    obtain ⟨o', ho, _⟩ := r.there hn
    rw [hp] at ho
    cases ho
  refine ⟨⟨fun a u q => ?_, by simp [r.len], ?_, fun n a c' hm hc => ?_⟩, e, ?_⟩
  · rw [upd_ne (ne_of_none (r.sub _ _ q) hp)]
    exact r.sub _ _ q
  · rw [List.nodup_append]
    refine ⟨r.nodup, by simp, fun a ha b hb => ?_⟩
    simp at hb
    subst hb
    exact fun z => np (z ▸ ha)
  · rcases Nat.lt_or_ge n m.length with hn | hn
    · rw [List.getElem?_append_left hn] at hm
      rw [List.getElem?_append_left (by rw [← r.len]; exact hn)] at hc
      obtain ⟨f, ob, ho, ok'⟩ := r.cell n a c' hm hc
      exact ⟨f, ob, by rw [upd_ne (ne_of_none ho hp)]; exact ho, ok'.ext e⟩
    · have hn' : n = m.length := by
        have h1 := (List.getElem?_eq_some_iff.mp hm).1
        simp at h1
        omega
      subst hn'
      rw [List.getElem?_append_right (Nat.le_refl _)] at hm
      rw [r.len, List.getElem?_append_right (Nat.le_refl _)] at hc
      simp at hm hc
      subst hm hc
      exact ⟨F_none r hp, o, upd_same, ok.ext e⟩
  · rw [← r.len, List.getElem?_append_right (Nat.le_refl _)]
    simp
/-- a cell is written -/
theorem Rel.write {K : PySem.W.Frag} {m : Ad} {F : Hp} {h : AH} {H : Hp} (r : Rel K m F h H) {n : Nat} {p : Addr} {o : HO} {c : Cell} (hm : m[n]? = some p) (ok : CellOk K m F c o) :
    Rel K m F (h.set n c) (upd H p o) ∧ Ext m F H m F (upd H p o) := by
  obtain ⟨o0, ho0, hf⟩ := r.there hm
  refine ⟨?_, ⟨fun _ _ q => q, fun _ _ _ q => q, fun _ _ _ q => q, fun a u _ q q1 q2 => ⟨by rw [upd_ne (fun z : a = p => q1 (z ▸ List.mem_of_getElem? hm))]; exact q, q1, q2⟩⟩⟩
  refine ⟨fun a u q => ?_, by simp [r.len], r.nodup, fun k a c' hk hc => ?_⟩
  · have na : a ≠ p := fun z => by subst z; rw [hf] at q; cases q
    rw [upd_ne na]
    exact r.sub _ _ q
  · by_cases hkn : k = n
    · subst hkn
      rw [hm] at hk
      cases hk
      rw [List.getElem?_set_self (by rw [← r.len]; exact (List.getElem?_eq_some_iff.mp hm).1)] at hc
      cases hc
      exact ⟨hf, o, upd_same, ok⟩
    · rw [List.getElem?_set_ne (Ne.symm hkn)] at hc
      obtain ⟨f, ob, ho, ok'⟩ := r.cell k a c' hk hc
      have na : a ≠ p := fun z => by
        subst z
        have hk1 := List.getElem?_eq_some_iff.mp hk
        have hm1 := List.getElem?_eq_some_iff.mp hm
        exact hkn ((List.getElem_inj r.nodup).mp (hk1.2.trans hm1.2.symm))
      exact ⟨f, ob, by rw [upd_ne na]; exact ho, ok'⟩

/-! ### results -/
structure XD where
  cls : Str
  args : List D
inductive Res (α : Type) where
  | ok (a : α) (h : AH) | exc (x : XD) (h : AH) | bad
def Res.bind {α β : Type} (r : Res α) (f : α → AH → Res β) : Res β := match r with
  | .ok a h => f a h
  | .exc x h => .exc x h
  | .bad => .bad
abbrev Wi := XD → Ad → Hp → Hp → Prop
/-- the result r, told to a continuation -/
def post {α β : Type} (K : PySem.W.Frag) (W : Wi) (R : Ad → Hp → α → β → Prop) (m : Ad) (F H : Hp) (r : Res α) (Q : β → Hp → Prop) : Prop := match r with
  | .ok d h' => ∀ m' F' H' v, Ext m F H m' F' H' → Rel K m' F' h' H' → R m' F' d v → Q v H'
  | .exc x h' => ∀ m' F' H', Ext m F H m' F' H' → Rel K m' F' h' H' → W x m' F' H'
  | .bad => False
section
variable {α β γ δ : Type} {K : PySem.W.Frag} {W : Wi} {R : Ad → Hp → α → β → Prop} {S : Ad → Hp → γ → δ → Prop} {m m' : Ad} {F F' H H' : Hp}
theorem post.ext {r : Res α} {Q : β → Hp → Prop} (e : Ext m F H m' F' H') (h : post K W R m F H r Q) : post K W R m' F' H' r Q := by
  cases r with
  | ok d h' => exact fun m2 F2 H2 v e2 r2 q => h m2 F2 H2 v (e.trans e2) r2 q
  | exc x h' => exact fun m2 F2 H2 e2 r2 => h m2 F2 H2 (e.trans e2) r2
  | bad => exact h
theorem post.bind {r : Res α} {g : α → AH → Res γ} {Q : δ → Hp → Prop} {Q' : β → Hp → Prop} (h : post K W S m F H (r.bind g) Q)
    (hn : ∀ a h' m' F' H' b, r = .ok a h' → Ext m F H m' F' H' → Rel K m' F' h' H' → R m' F' a b → post K W S m' F' H' (g a h') Q → Q' b H') : post K W R m F H r Q' := by
  cases r with
  | ok d h' => exact fun m2 F2 H2 v e2 r2 q => hn d h' m2 F2 H2 v rfl e2 r2 q (h.ext e2)
  | exc x h' => exact h
  | bad => exact h
theorem post.ok {d : α} {h' : AH} {Q : β → Hp → Prop} (h : post K W R m F H (.ok d h') Q) {v : β} (r : Rel K m F h' H) (q : R m F d v) : Q v H := h m F H v .refl r q
theorem post.mono {r : Res α} {Q Q' : β → Hp → Prop} (h : post K W R m F H r Q) (hq : ∀ v H, Q v H → Q' v H) : post K W R m F H r Q' := by
  cases r with
  | ok d h' => exact fun m2 F2 H2 v e2 r2 q => hq _ _ (h m2 F2 H2 v e2 r2 q)
  | exc x h' => exact h
  | bad => exact h
end

/-! ### the slots -/
abbrev Sl := List (Option D)
structure EnvR (K : PySem.W.Frag) (m : Ad) (F : Hp) (s : Sl) (σ : L2.St) : Prop where
  len : σ.length = s.length
  at_ : ∀ (i : Nat) (d : D), s[i]? = some (some d) → ∃ v, σ[i]? = some (some v) ∧ HasD K m F d v
theorem EnvR.ext {K : PySem.W.Frag} {m m' : Ad} {F F' H H' : Hp} {s : Sl} {σ : L2.St} (e : Ext m F H m' F' H') (h : EnvR K m F s σ) : EnvR K m' F' s σ :=
  ⟨h.len, fun i d q => let ⟨v, a, b⟩ := h.at_ i d q; ⟨v, a, b.ext e⟩⟩
theorem EnvR.set {K : PySem.W.Frag} {m : Ad} {F : Hp} {s : Sl} {σ : L2.St} (h : EnvR K m F s σ) {i : Nat} {d : D} {v : V} (r : HasD K m F d v) : EnvR K m F (s.set i (some d)) (σ.set i (some v)) := by
  refine ⟨by simp [h.len], fun j e q => ?_⟩
  by_cases hj : i = j
  · subst hj
    have hi : i < s.length := by
      have := (List.getElem?_eq_some_iff.mp q).1
      simpa using this
    rw [List.getElem?_set_self hi] at q
    cases q
    exact ⟨v, by rw [List.getElem?_set_self (by rw [h.len]; exact hi)], r⟩
  · rw [List.getElem?_set_ne hj] at q ⊢
    exact h.at_ j e q

abbrev ME := Sl → AH → Res D
abbrev MT := Sl → AH → Res Bool
abbrev RB : Ad → Hp → Bool → Bool → Prop := fun _ _ a b => a = b

structure DE (X : Cx) (W : Wi) (e : Expr) (f : ME) : Prop where
  ex : ∃ t, PE X e t ∧ ∀ m F h H s σ Q, Rel X.K m F h H → EnvR X.K m F s σ → post X.K W (HasD X.K) m F H (f s h) Q → t σ H Q
structure DT (X : Cx) (W : Wi) (e : Expr) (f : MT) : Prop where
  ex : ∃ t, PT X e t ∧ ∀ m F h H s σ Q, Rel X.K m F h H → EnvR X.K m F s σ → post X.K W RB m F H (f s h) Q → t σ H Q
structure DW (X : Cx) (W : Wi) (e : Expr) (f : MT) : Prop where
  ex : ∃ t, PW X e t ∧ ∀ m F h H s σ Q, Rel X.K m F h H → EnvR X.K m F s σ → post X.K W RB m F H (f s h) Q → t σ H Q
def evs : List ME → Sl → AH → Res (List D)
  | [], _, h => .ok [] h
  | f :: fs, s, h => (f s h).bind fun d h => (evs fs s h).bind fun ds h => .ok (d :: ds) h
structure DA (X : Cx) (W : Wi) (es : List Expr) (fs : List ME) : Prop where
  ex : ∃ t, PA X es t ∧ ∀ m F h H s σ Q, Rel X.K m F h H → EnvR X.K m F s σ → post X.K W (HasDs X.K) m F H (evs fs s h) Q → t σ H Q

inductive Fl where
  | nx (s : Sl) (h : AH) | rt (d : D) (h : AH) | bk (s : Sl) (h : AH) | ct (s : Sl) (h : AH) | exc (x : XD) (h : AH) | bad
abbrev MS := Sl → AH → Fl
def Res.fl {α : Type} (r : Res α) (f : α → AH → Fl) : Fl := match r with
  | .ok a h => f a h
  | .exc x h => .exc x h
  | .bad => .bad
def postS (K : PySem.W.Frag) (W : Wi) (m : Ad) (F H : Hp) (r : Fl) (Z : Ends) : Prop := match r with
  | .nx s h => ∀ m' F' H' σ', Ext m F H m' F' H' → Rel K m' F' h H' → EnvR K m' F' s σ' → Z.nx σ' H'
  | .rt d h => ∀ m' F' H' v, Ext m F H m' F' H' → Rel K m' F' h H' → HasD K m' F' d v → Z.rt v H'
  | .bk s h => ∀ m' F' H' σ', Ext m F H m' F' H' → Rel K m' F' h H' → EnvR K m' F' s σ' → Z.bk σ' H'
  | .ct s h => ∀ m' F' H' σ', Ext m F H m' F' H' → Rel K m' F' h H' → EnvR K m' F' s σ' → Z.ct σ' H'
  | .exc x h => ∀ m' F' H', Ext m F H m' F' H' → Rel K m' F' h H' → W x m' F' H'
  | .bad => False
theorem postS.ext {K : PySem.W.Frag} {W : Wi} {m m' : Ad} {F F' H H' : Hp} {r : Fl} {Z : Ends} (e : Ext m F H m' F' H') (h : postS K W m F H r Z) : postS K W m' F' H' r Z := by
  cases r with
  | nx s h' => exact fun m2 F2 H2 σ e2 r2 q => h m2 F2 H2 σ (e.trans e2) r2 q
  | rt d h' => exact fun m2 F2 H2 σ e2 r2 q => h m2 F2 H2 σ (e.trans e2) r2 q
  | bk s h' => exact fun m2 F2 H2 σ e2 r2 q => h m2 F2 H2 σ (e.trans e2) r2 q
  | ct s h' => exact fun m2 F2 H2 σ e2 r2 q => h m2 F2 H2 σ (e.trans e2) r2 q
  | exc x h' => exact fun m2 F2 H2 e2 r2 => h m2 F2 H2 (e.trans e2) r2
  | bad => exact h
theorem postS.fl {α β : Type} {R : Ad → Hp → α → β → Prop} {K : PySem.W.Frag} {W : Wi} {m : Ad} {F H : Hp} {r : Res α} {g : α → AH → Fl} {Z : Ends} {Q' : β → Hp → Prop} (h : postS K W m F H (r.fl g) Z)
    (hn : ∀ a h' m' F' H' b, r = .ok a h' → Ext m F H m' F' H' → Rel K m' F' h' H' → R m' F' a b → postS K W m' F' H' (g a h') Z → Q' b H') : post K W R m F H r Q' := by
  cases r with
  | ok d h' => exact fun m2 F2 H2 v e2 r2 q => hn d h' m2 F2 H2 v rfl e2 r2 q (h.ext e2)
  | exc x h' => exact h
  | bad => exact h
structure DS (X : Cx) (W : Wi) (st : Stmt) (f : MS) : Prop where
  ex : ∃ t, PS X st t ∧ ∀ m F h H s σ Z, Rel X.K m F h H → EnvR X.K m F s σ → postS X.K W m F H (f s h) Z → t Z σ H
structure DSs (X : Cx) (W : Wi) (st : List Stmt) (f : MS) : Prop where
  ex : ∃ t, PSs X st t ∧ ∀ m F h H s σ Z, Rel X.K m F h H → EnvR X.K m F s σ → postS X.K W m F H (f s h) Z → t Z σ H

/-! ### expressions: names, constants -/
section
variable {X : Cx} {W : Wi}
def eVar (i : Nat) : ME := fun s h => match s[i]? with
  | some (some d) => .ok d h
  | _ => .bad
theorem de_var (i : Nat) {x : Str} {pos : Pos} (hN : X.N[i]? = some x := by rfl) (hv : Vis X.env.scope x := by first | exact Or.inl rfl | exact Or.inr (Or.inl rfl) | exact Or.inr (Or.inr rfl)) (hd : (x == ("__debug__" : Str)) = false := by decide)
    (hcd : (x == ("__classdict__" : Str)) = false := by decide) : DE X W (.Name x pos) (eVar i) := by
  refine ⟨_, pe_var hN hv hd hcd, fun m F h H s σ Q r E q => ?_⟩
  unfold eVar at q
  split at q
  · rename_i d hd'
    obtain ⟨v, hv', hr⟩ := E.at_ i d hd'
    exact ⟨v, hv', q.ok r hr⟩
  · exact q.elim
def eC (d : D) : ME := fun _ h => .ok d h
theorem de_int {i : Int} {j pos} : DE X W (.Constant (.int i) j pos) (eC (.int i)) := ⟨_, pe_int, fun m F h H s σ Q r E q => q.ok r (.int i)⟩
theorem de_bl {b : Bool} {j pos} : DE X W (.Constant (.bool b) j pos) (eC (.bl b)) := ⟨_, pe_bl, fun m F h H s σ Q r E q => q.ok r (.bl b)⟩
theorem de_non {j pos} : DE X W (.Constant .none j pos) (eC .non) := ⟨_, pe_non, fun m F h H s σ Q r E q => q.ok r .non⟩
theorem de_str {x : Str} {j pos} : DE X W (.Constant (.str x) j pos) (eC (.str x)) := ⟨_, pe_str, fun m F h H s σ Q r E q => q.ok r (.str x)⟩

/-! ### argument lists -/
theorem pa_nil' : PA X [] tNil := pa_nil
theorem da_nil : DA X W [] [] := ⟨_, pa_nil, fun m F h H s σ Q r E q => q.ok r .nil⟩
theorem da_cons {e : Expr} {es : List Expr} {f : ME} {fs : List ME} (h1 : DE X W e f) (h2 : DA X W es fs) (hs : starEach (e :: es) X.env = (false, eval e X.env) :: starEach es X.env := by rfl) : DA X W (e :: es) (f :: fs) := by
  obtain ⟨t, p1, i1⟩ := h1.ex
  obtain ⟨u, p2, i2⟩ := h2.ex
  refine ⟨_, pa_cons p1 p2 hs, fun m F h H s σ Q r E q => ?_⟩
  refine i1 m F h H s σ _ r E (q.bind fun a h' m' F' H' b _ e' r' ha q => ?_)
  refine i2 m' F' h' H' s σ _ r' (E.ext e') (q.bind fun as h2 m2 F2 H2 bs _ e2 r2 has q => ?_)
  exact q.ok r2 (.cons (ha.ext e2) has)

/-! ### one, two operands, by values -/
abbrev M2 := D → D → AH → Res D
abbrev M1 := D → AH → Res D
def SemV (K : PySem.W.Frag) (W : Wi) (r : V → Hp → VK → Prop) (g : M1) : Prop := ∀ m F h H x d Q, Rel K m F h H → HasD K m F d x → post K W (HasD K) m F H (g d h) Q → r x H Q
def Sem2 (K : PySem.W.Frag) (W : Wi) (r : R2) (g : M2) : Prop := ∀ m F h H x y d e Q, Rel K m F h H → HasD K m F d x → HasD K m F e y → post K W (HasD K) m F H (g d e h) Q → r x y H Q
def SemL (K : PySem.W.Frag) (W : Wi) (r : List V → Hp → VK → Prop) (g : List D → AH → Res D) : Prop := ∀ m F h H xs ds Q, Rel K m F h H → HasDs K m F ds xs → post K W (HasD K) m F H (g ds h) Q → r xs H Q
def e1 (g : M1) (f : ME) : ME := fun s h => (f s h).bind g
def e2 (g : M2) (f1 f2 : ME) : ME := fun s h => (f1 s h).bind fun d h => (f2 s h).bind fun e h => g d e h
def eL (g : List D → AH → Res D) (fs : List ME) : ME := fun s h => (evs fs s h).bind g
theorem imp2 {r : R2} {g : M2} {ta tb : TE} {f1 f2 : ME} (sm : Sem2 X.K W r g)
    (i1 : ∀ m F h H s σ Q, Rel X.K m F h H → EnvR X.K m F s σ → post X.K W (HasD X.K) m F H (f1 s h) Q → ta σ H Q)
    (i2 : ∀ m F h H s σ Q, Rel X.K m F h H → EnvR X.K m F s σ → post X.K W (HasD X.K) m F H (f2 s h) Q → tb σ H Q) :
    ∀ m F h H s σ Q, Rel X.K m F h H → EnvR X.K m F s σ → post X.K W (HasD X.K) m F H (e2 g f1 f2 s h) Q → tOp r ta tb σ H Q := fun m F h H s σ Q r E q => by
  refine i1 m F h H s σ _ r E (q.bind fun a h' m' F' H' b _ e' r' ha q => ?_)
  refine i2 m' F' h' H' s σ _ r' (E.ext e') (q.bind fun a2 h2 m2 F2 H2 b2 _ e2 r2 ha2 q => ?_)
  exact sm m2 F2 h2 H2 b b2 a a2 Q r2 (ha.ext e2) ha2 q
theorem de_op {op : Operator} {r : R2} {g : M2} {a b : Expr} {f1 f2 : ME} {pos : Pos} (ho : OpR X (binaryOp op) r) (sm : Sem2 X.K W r g) (h1 : DE X W a f1) (h2 : DE X W b f2) : DE X W (.BinOp a op b pos) (e2 g f1 f2) := by
  obtain ⟨t, p1, i1⟩ := h1.ex
  obtain ⟨u, p2, i2⟩ := h2.ex
  exact ⟨_, pe_op ho p1 p2, imp2 sm i1 i2⟩
theorem de_cmp {op : CmpOp} {r : R2} {g : M2} {a b : Expr} {f1 f2 : ME} {pos : Pos} (ho : OpR X (compareOp op) r) (sm : Sem2 X.K W r g) (h1 : DE X W a f1) (h2 : DE X W b f2) (hm : behindInMarks op b = false) : DE X W (.Compare a [op] [b] pos) (e2 g f1 f2) := by
  obtain ⟨t, p1, i1⟩ := h1.ex
  obtain ⟨u, p2, i2⟩ := h2.ex
  exact ⟨_, pe_cmpR ho p1 p2 hm, imp2 sm i1 i2⟩
theorem de_ix {r : R2} {g : M2} {a b : Expr} {f1 f2 : ME} {pos : Pos} (ho : IxR X r) (sm : Sem2 X.K W r g) (h1 : DE X W a f1) (h2 : DE X W b f2) (hs : PlainIx b) : DE X W (.Subscript a b pos) (e2 g f1 f2) := by
  obtain ⟨t, p1, i1⟩ := h1.ex
  obtain ⟨u, p2, i2⟩ := h2.ex
  exact ⟨_, pe_ix ho p1 p2 hs, imp2 sm i1 i2⟩
theorem de_un {op : UnaryOp} {r : V → Hp → VK → Prop} {g : M1} {a : Expr} {f : ME} {pos : Pos} (ho : UnR X (unaryOp op) r) (sm : SemV X.K W r g) (h1 : DE X W a f) : DE X W (.UnaryOp op a pos) (e1 g f) := by
  obtain ⟨t, p1, i1⟩ := h1.ex
  refine ⟨_, pe_un ho p1, fun m F h H s σ Q r E q => ?_⟩
  exact i1 m F h H s σ _ r E (q.bind fun a h' m' F' H' b _ e' r' ha q => sm m' F' h' H' b a Q r' ha q)
theorem de_callB {id : String} {r : List V → Hp → VK → Prop} {g : List D → AH → Res D} {x : Str} {e : Expr} {es : List Expr} {fs : List ME} {p pos : Pos} (hc : CallR X (.builtin id) r) (sm : SemL X.K W r g) (hg : Gl X x) (hm : X.mg x = none)
    (hv : bootBuiltins x = some (.builtin id)) (ha : DA X W (e :: es) fs) (hn : x ≠ "__name__" := by decide) (hdb : (x == ("__debug__" : Str)) = false := by decide)
    (he : starEach (e :: es) X.env = (false, eval e X.env) :: starEach es X.env := by rfl) (hpl : (backTo pos (starEach es X.env)).any (·.1) = false := by rfl) : DE X W (.Call (.Name x p) (e :: es) [] pos) (eL g fs) := by
  obtain ⟨t, p1, i1⟩ := ha.ex
  refine ⟨_, pe_callB hc hg hm hv p1 hn hdb he hpl, fun m F h H s σ Q r E q => ?_⟩
  exact i1 m F h H s σ _ r E (q.bind fun a h' m' F' H' b _ e' r' ha q => sm m' F' h' H' b a Q r' ha q)
theorem de_callTy {id : String} {r : List V → Hp → VK → Prop} {g : List D → AH → Res D} {x : Str} {e : Expr} {es : List Expr} {fs : List ME} {p pos : Pos} (hc : CallR X (.type id) r) (sm : SemL X.K W r g) (hg : Gl X x) (hm : X.mg x = none)
    (hv : bootBuiltins x = some (.type id)) (ha : DA X W (e :: es) fs) (hn : x ≠ "__name__" := by decide) (hdb : (x == ("__debug__" : Str)) = false := by decide)
    (he : starEach (e :: es) X.env = (false, eval e X.env) :: starEach es X.env := by rfl) (hpl : (backTo pos (starEach es X.env)).any (·.1) = false := by rfl) : DE X W (.Call (.Name x p) (e :: es) [] pos) (eL g fs) := by
  obtain ⟨t, p1, i1⟩ := ha.ex
  refine ⟨_, pe_callTy hc hg hm hv p1 hn hdb he hpl, fun m F h H s σ Q r E q => ?_⟩
  exact i1 m F h H s σ _ r E (q.bind fun a h' m' F' H' b _ e' r' ha q => sm m' F' h' H' b a Q r' ha q)
end
end DL

namespace DL
open PySem PySem.Spec PyProof.Rows L2

/-! ### data as the library's data -/
mutual
def D.py : D → PyData
  | .non => .none
  | .bl b => .bool b
  | .int i => .int i
  | .str x => .str x
  | .tup xs => .tuple (D.pys xs)
  | .lst xs => .list (D.pys xs)
  | .lsk xs => .list (D.pys xs)
  | .dK _ => .none
  | .dT _ => .none
  | .ref _ => .none
def D.pys : List D → List PyData
  | [] => []
  | x :: xs => D.py x :: D.pys xs
end
mutual
/-- no cell, no dict within -/
def D.pure : D → Bool
  | .non => true
  | .bl _ => true
  | .int _ => true
  | .str _ => true
  | .tup xs => D.pures xs
  | .lst xs => D.pures xs
  | .lsk xs => D.pures xs
  | .dK _ => false
  | .dT _ => false
  | .ref _ => false
def D.pures : List D → Bool
  | [] => true
  | x :: xs => D.pure x && D.pures xs
end
mutual
def D.dep : D → Nat
  | .tup xs => D.deps xs + 1
  | .lst xs => D.deps xs + 1
  | .lsk xs => D.deps xs + 1
  | _ => 0
def D.deps : List D → Nat
  | [] => 0
  | x :: xs => max (D.dep x) (D.deps xs)
end
mutual
theorem D.py_depth : ∀ d : D, d.py.depth = d.dep
  | .non => rfl
  | .bl _ => rfl
  | .int _ => rfl
  | .str _ => rfl
  | .tup xs => by simp only [D.py, D.dep, PyData.depth, D.pys_depth xs]
  | .lst xs => by simp only [D.py, D.dep, PyData.depth, D.pys_depth xs]
  | .lsk xs => by simp only [D.py, D.dep, PyData.depth, D.pys_depth xs]
  | .dK _ => rfl
  | .dT _ => rfl
  | .ref _ => rfl
theorem D.pys_depth : ∀ ds : List D, PyData.depthAll (D.pys ds) = D.deps ds
  | [] => rfl
  | x :: xs => by simp only [D.pys, D.deps, PyData.depthAll, D.py_depth x, D.pys_depth xs]
end
mutual
theorem D.py_plain : ∀ d : D, d.py.plain = true
  | .non => rfl
  | .bl _ => rfl
  | .int _ => rfl
  | .str _ => rfl
  | .tup xs => by simp only [D.py, PyData.plain, D.pys_plain xs]
  | .lst xs => by simp only [D.py, PyData.plain, D.pys_plain xs]
  | .lsk xs => by simp only [D.py, PyData.plain, D.pys_plain xs]
  | .dK _ => rfl
  | .dT _ => rfl
  | .ref _ => rfl
theorem D.pys_plain : ∀ ds : List D, PyData.plainAll (D.pys ds) = true
  | [] => rfl
  | x :: xs => by simp only [D.pys, PyData.plainAll, D.py_plain x, D.pys_plain xs, Bool.and_self]
end
theorem D.pys_map : ∀ ds : List D, D.pys ds = ds.map D.py
  | [] => rfl
  | x :: xs => by simp only [D.pys, List.map_cons, D.pys_map xs]
theorem D.pures_all : ∀ ds : List D, D.pures ds = ds.all D.pure
  | [] => rfl
  | x :: xs => by simp only [D.pures, List.all_cons, D.pures_all xs]

mutual
theorem HasD.dp {K : PySem.W.Frag} {m : Ad} {F : Hp} : ∀ {d : D} {v : V}, HasD K m F d v → d.pure = true → Dp K F v d.py
  | _, _, .non, _ => .non
  | _, _, .bl b, _ => .bl b
  | _, _, .int i, _ => .int i
  | _, _, .str x, _ => .str x
  | _, _, .tup h hs, p => .tup (SqT.of h) (HasDs.dp hs (by simpa only [D.pure] using p))
  | _, _, .lst h hs, p => .lst (SqL.of h) (HasDs.dp hs (by simpa only [D.pure] using p))
  | _, _, .lsk h hs, p => .lst h (HasDs.dp hs (by simpa only [D.pure] using p))
  | _, _, .dK _ _, p => by simp only [D.pure] at p; cases p
  | _, _, .dT _ _, p => by simp only [D.pure] at p; cases p
  | _, _, .ref _, p => by simp only [D.pure] at p; cases p
theorem HasDs.dp {K : PySem.W.Frag} {m : Ad} {F : Hp} : ∀ {d : List D} {v : List V}, HasDs K m F d v → D.pures d = true → DpAll K F v (D.pys d)
  | _, _, .nil, _ => .nil
  | _, _, .cons h hs, p => by
    simp only [D.pures, Bool.and_eq_true] at p
    exact .cons (HasD.dp h p.1) (HasDs.dp hs p.2)
end
mutual
theorem Dp.sub {K : PySem.W.Frag} {m : Ad} {F : Hp} {h : AH} {H : Hp} (r : Rel K m F h H) : ∀ {v : V} {d : PyData}, Dp K F v d → Dp K H v d
  | _, _, .non => .non
  | _, _, .bl b => .bl b
  | _, _, .int i => .int i
  | _, _, .str x => .str x
  | _, _, .tup h hs => .tup (r.sqT h) (DpAll.sub r hs)
  | _, _, .lst h hs => .lst (r.sqL h) (DpAll.sub r hs)
theorem DpAll.sub {K : PySem.W.Frag} {m : Ad} {F : Hp} {h : AH} {H : Hp} (r : Rel K m F h H) : ∀ {v : List V} {d : List PyData}, DpAll K F v d → DpAll K H v d
  | _, _, .nil => .nil
  | _, _, .cons h hs => .cons (Dp.sub r h) (DpAll.sub r hs)
end

/-! ### what stands at a value -/
/-- the items of a list -/
def listAt (d : D) (h : AH) : Option (List D) := match d with
  | .lst xs => some xs
  | .lsk xs => some xs
  | .ref n => match h[n]? with
    | some (.lst xs) => some xs
    | _ => none
  | _ => none
/-- .. that may be told exactly -/
def listX (d : D) (h : AH) : Option (List D) := match d with
  | .lst xs => some xs
  | .ref n => match h[n]? with
    | some (.lst xs) => some xs
    | _ => none
  | _ => none
/-- the items of a list or tuple -/
def seqAt (d : D) (h : AH) : Option (List D) := match d with
  | .tup xs => some xs
  | d => listAt d h
/-- a list's cell read as a list -/
def res (d : D) (h : AH) : D := match d with
  | .ref n => match h[n]? with
    | some (.lst xs) => .lst xs
    | _ => .ref n
  | d => d
section
variable {K : PySem.W.Frag} {m : Ad} {F : Hp} {h : AH} {H : Hp}
theorem HasDs.length : ∀ {ds : List D} {vs : List V}, HasDs K m F ds vs → ds.length = vs.length
  | _, _, .nil => rfl
  | _, _, .cons _ t => by rw [List.length_cons, List.length_cons, HasDs.length t]
theorem HasDs.get : ∀ {ds : List D} {vs : List V} {i : Nat} {d : D}, HasDs K m F ds vs → ds[i]? = some d → ∃ v, vs[i]? = some v ∧ HasD K m F d v
  | _, _, _, _, .nil, e => by simp at e
  | _, _, 0, _, .cons r _, e => by simp at e; subst e; exact ⟨_, rfl, r⟩
  | _, _, i + 1, d, .cons _ t, e => by
    obtain ⟨u, h1, h2⟩ := HasDs.get (i := i) (d := d) t (by simpa using e)
    exact ⟨u, by simpa using h1, h2⟩
theorem HasDs.append : ∀ {ds es : List D} {vs ws : List V}, HasDs K m F ds vs → HasDs K m F es ws → HasDs K m F (ds ++ es) (vs ++ ws)
  | _, _, _, _, .nil, s => s
  | _, _, _, _, .cons r t, s => .cons r (HasDs.append t s)
theorem HasDs.take : ∀ {ds : List D} {vs : List V} (n : Nat), HasDs K m F ds vs → HasDs K m F (ds.take n) (vs.take n)
  | _, _, 0, _ => .nil
  | _, _, _ + 1, .nil => .nil
  | _, _, n + 1, .cons r t => .cons r (HasDs.take n t)
theorem HasDs.drop : ∀ {ds : List D} {vs : List V} (n : Nat), HasDs K m F ds vs → HasDs K m F (ds.drop n) (vs.drop n)
  | _, _, 0, r => r
  | _, _, _ + 1, .nil => .nil
  | _, _, n + 1, .cons r t => HasDs.drop n t
theorem HasDs.set {d : D} {v : V} (r : HasD K m F d v) : ∀ {ds : List D} {vs : List V} (i : Nat), HasDs K m F ds vs → HasDs K m F (ds.set i d) (vs.set i v)
  | _, _, _, .nil => .nil
  | _, _, 0, .cons _ t => .cons r t
  | _, _, i + 1, .cons q t => .cons q (HasDs.set r i t)
theorem HasDs.rep {ds : List D} {vs : List V} (h : HasDs K m F ds vs) : ∀ k : Nat, HasDs K m F (List.replicate k ds).flatten (List.replicate k vs).flatten
  | 0 => .nil
  | k + 1 => by
    rw [List.replicate_succ, List.replicate_succ, List.flatten_cons, List.flatten_cons]
    exact HasDs.append h (HasDs.rep h k)
theorem HasDs.reverse : ∀ {ds : List D} {vs : List V}, HasDs K m F ds vs → HasDs K m F ds.reverse vs.reverse
  | _, _, .nil => .nil
  | _, _, .cons r t => by
    rw [List.reverse_cons, List.reverse_cons]
    exact HasDs.append (HasDs.reverse t) (.cons r .nil)
theorem HasDs.dropLast {ds : List D} {vs : List V} (h : HasDs K m F ds vs) : HasDs K m F ds.dropLast vs.dropLast := by
  rw [List.dropLast_eq_take, List.dropLast_eq_take, h.length]
  exact HasDs.take _ h
theorem HasDs.ints : ∀ {ns : List Int} {vs : List V}, HasDs K m F (ns.map D.int) vs → vs = ns.map V.int
  | [], _, .nil => rfl
  | n :: ns, _, .cons r t => by
    cases r
    rw [List.map_cons, HasDs.ints t]
theorem HasDs.bls : ∀ {ns : List Bool} {vs : List V}, HasDs K m F (ns.map D.bl) vs → vs = ns.map V.bl
  | [], _, .nil => rfl
  | n :: ns, _, .cons r t => by
    cases r
    rw [List.map_cons, HasDs.bls t]
theorem HasDs.strs : ∀ {ns : List Str} {vs : List V}, HasDs K m F (ns.map D.str) vs → vs = ns.map V.str
  | [], _, .nil => rfl
  | n :: ns, _, .cons r t => by
    cases r
    rw [List.map_cons, HasDs.strs t]
theorem HasDs.of_ints : ∀ (ns : List Int), HasDs K m F (ns.map D.int) (ns.map V.int)
  | [] => .nil
  | n :: ns => .cons (.int n) (HasDs.of_ints ns)
theorem HasDs.of_strs : ∀ (ns : List Str), HasDs K m F (ns.map D.str) (ns.map V.str)
  | [] => .nil
  | n :: ns => .cons (.str n) (HasDs.of_strs ns)

theorem cell_lst (r : Rel K m F h H) {n : Nat} {a : Addr} {xs : List D} (hm : m[n]? = some a) (hc : h[n]? = some (.lst xs)) : ∃ vs, H a = some (.lst vs) ∧ HasDs K m F xs vs := by
  obtain ⟨_, o, ho, ok⟩ := r.cell n a _ hm hc
  cases o with
  | lst vs => exact ⟨vs, ho, ok⟩
  | _ => exact False.elim ok
theorem listX_at (r : Rel K m F h H) {d : D} {v : V} {xs : List D} (hd : HasD K m F d v) (e : listX d h = some xs) : ∃ a vs, v = .ref a ∧ H a = some (.lst vs) ∧ HasDs K m F xs vs := by
  cases hd with
  | lst hf hs =>
    have : _ = xs := Option.some.inj e
    subst this
    exact ⟨_, _, rfl, r.sub _ _ hf, hs⟩
  | ref hm =>
    rename_i n a
    unfold listX at e
    simp only at e
    split at e
    · rename_i ys hc
      cases e
      obtain ⟨vs, h1, h2⟩ := cell_lst r hm hc
      exact ⟨a, vs, rfl, h1, h2⟩
    · cases e
  | _ => cases e
theorem listAt_at (r : Rel K m F h H) {d : D} {v : V} {xs : List D} (hd : HasD K m F d v) (e : listAt d h = some xs) : ∃ a vs, v = .ref a ∧ SqL K H a vs ∧ HasDs K m F xs vs := by
  cases hd with
  | lst hf hs =>
    have : _ = xs := Option.some.inj e
    subst this
    exact ⟨_, _, rfl, SqL.of (r.sub _ _ hf), hs⟩
  | lsk hf hs =>
    have : _ = xs := Option.some.inj e
    subst this
    exact ⟨_, _, rfl, r.sqL hf, hs⟩
  | ref hm =>
    rename_i n a
    unfold listAt at e
    simp only at e
    split at e
    · rename_i ys hc
      cases e
      obtain ⟨vs, h1, h2⟩ := cell_lst r hm hc
      exact ⟨a, vs, rfl, SqL.of h1, h2⟩
    · cases e
  | _ => cases e
theorem seqAt_at (r : Rel K m F h H) {d : D} {v : V} {xs : List D} (hd : HasD K m F d v) (e : seqAt d h = some xs) : ∃ a vs, v = .ref a ∧ (SqL K H a vs ∨ SqT K H a vs) ∧ HasDs K m F xs vs := by
  cases hd with
  | tup hf hs =>
    have : _ = xs := Option.some.inj e
    subst this
    exact ⟨_, _, rfl, .inr (SqT.of (r.sub _ _ hf)), hs⟩
  | lst hf hs =>
    obtain ⟨a, vs, e1, e2, e3⟩ := listAt_at r (HasD.lst hf hs) e
    exact ⟨a, vs, e1, .inl e2, e3⟩
  | lsk hf hs =>
    obtain ⟨a, vs, e1, e2, e3⟩ := listAt_at r (HasD.lsk hf hs) e
    exact ⟨a, vs, e1, .inl e2, e3⟩
  | ref hm =>
    obtain ⟨a, vs, e1, e2, e3⟩ := listAt_at r (HasD.ref hm) e
    exact ⟨a, vs, e1, .inl e2, e3⟩
  | _ => cases e
/-- the value as data -/
theorem res_dp (r : Rel K m F h H) {d : D} {v : V} (hd : HasD K m F d v) (p : (res d h).pure = true) : Dp K H v (res d h).py := by
  cases hd with
  | ref hm =>
    rename_i n a
    unfold res at p ⊢
    simp only at p ⊢
    split at p
    · rename_i ys hc
      obtain ⟨vs, h1, h2⟩ := cell_lst r hm hc
      simp only [D.py]
      exact .lst (SqL.of h1) (DpAll.sub r (HasDs.dp h2 (by simpa only [D.pure] using p)))
    · simp only [D.pure] at p
      cases p
  | non => exact .non
  | bl b => exact .bl b
  | int i => exact .int i
  | str x => exact .str x
  | tup hf hs => exact Dp.sub r (HasD.dp (.tup hf hs) p)
  | lst hf hs => exact Dp.sub r (HasD.dp (HasD.lst hf hs) p)
  | lsk hf hs => exact Dp.sub r (HasD.dp (HasD.lsk hf hs) p)
  | dK hf hs => exact absurd p (by simp [res, D.pure])
  | dT hf hs => exact absurd p (by simp [res, D.pure])
end

/-! ### new values -/
section
variable {K : PySem.W.Frag} {W : Wi} {m : Ad} {F : Hp} {h : AH} {H : Hp}
/-- a new list that is never changed -/
theorem post.newL {xs : List D} {vs : List V} {Q : VK} (q : post K W (HasD K) m F H (.ok (.lst xs) h) Q) (r : Rel K m F h H) (hs : HasDs K m F xs vs) : ∀ p, H p = none → Q (.ref p) (upd H p (.lst vs)) := fun p hp => by
  obtain ⟨r', e⟩ := r.frozen (o := .lst vs) hp
  exact q m _ _ _ e r' (.lst upd_same (HasDs.ext e hs))
theorem post.newT {xs : List D} {vs : List V} {Q : VK} (q : post K W (HasD K) m F H (.ok (.tup xs) h) Q) (r : Rel K m F h H) (hs : HasDs K m F xs vs) : ∀ p, H p = none → Q (.ref p) (upd H p (.tup vs)) := fun p hp => by
  obtain ⟨r', e⟩ := r.frozen (o := .tup vs) hp
  exact q m _ _ _ e r' (.tup upd_same (HasDs.ext e hs))
/-- a new cell -/
theorem post.newC {c : Cell} {o : HO} {Q : VK} (q : post K W (HasD K) m F H (.ok (.ref h.length) (h ++ [c])) Q) (r : Rel K m F h H) (hs : CellOk K m F c o) : ∀ p, H p = none → Q (.ref p) (upd H p o) := fun p hp => by
  obtain ⟨r', e, hp'⟩ := r.newCell (o := o) (c := c) hp hs
  exact q _ _ _ _ e r' (.ref hp')
end
/-- a new list, a cell where `b` says so -/
def mkL (b : Bool) (xs : List D) (h : AH) : Res D := if b = true then .ok (.ref h.length) (h ++ [.lst xs]) else .ok (.lst xs) h
theorem post.mkL {K : PySem.W.Frag} {W : Wi} {m : Ad} {F : Hp} {h : AH} {H : Hp} {b : Bool} {xs : List D} {vs : List V} {Q : VK} (q : post K W (HasD K) m F H (mkL b xs h) Q) (r : Rel K m F h H) (hs : HasDs K m F xs vs) :
    ∀ p, H p = none → Q (.ref p) (upd H p (.lst vs)) := by
  unfold DL.mkL at q
  cases b with
  | true => exact post.newC q r (c := .lst xs) hs
  | false => exact post.newL q r hs
end DL

namespace DL
open PySem PySem.Spec PyProof.Rows L2

/-! ### operators -/
theorem OpR.or {X : Cx} {f : Value → Value → Sem Value} {r r' : R2} (h : OpR X f r) (h' : OpR X f r') : OpR X f (fun x y H Q => r x y H Q ∨ r' x y H Q) := by
  intro pins s σ H x y v u Q I rx ry q
  rcases q with q | q
  · exact h pins s σ H x y v u Q I rx ry q
  · exact h' pins s σ H x y v u Q I rx ry q
theorem CallR.or {X : Cx} {f : Value} {r r' : List V → Hp → VK → Prop} (h : CallR X f r) (h' : CallR X f r') : CallR X f (fun x H Q => r x H Q ∨ r' x H Q) := by
  intro pins s σ H x v Q I rx q
  rcases q with q | q
  · exact h pins s σ H x v Q I rx q
  · exact h' pins s σ H x v Q I rx q

def mulOk (i j : Int) : Bool := decide (-(2 ^ 64) < i ∧ i < 2 ^ 64) || decide (-(2 ^ 64) < j ∧ j < 2 ^ 64) || decide (i.natAbs.log2 + j.natAbs.log2 < 1000000)
def divOk (j : Int) : Bool := decide (j ≠ 0) && decide (j.natAbs.log2 < 9000)
def lenOk (n : Nat) : Bool := decide (n ≤ 16777216)
theorem lenOk_le {n : Nat} (h : lenOk n = true) : n ≤ sizeLine := by
  have := of_decide_eq_true h
  rw [sizeLine_eq]
  exact this

section
variable {K : PySem.W.Frag} {W : Wi} {m : Ad} {F : Hp} {h : AH} {H : Hp}
def gAdd (b : Bool) : M2 := fun d e h => match d, e with
  | .int i, .int j => .ok (.int (i + j)) h
  | .str x, .str y => if lenOk (x.length + y.length) = true then .ok (.str (x ++ y)) h else .bad
  | .tup xs, .tup ys => if lenOk (xs.length + ys.length) = true then .ok (.tup (xs ++ ys)) h else .bad
  | d, e => match listX d h, listX e h with
    | some xs, some ys => if lenOk (xs.length + ys.length) = true then mkL b (xs ++ ys) h else .bad
    | _, _ => .bad
def rAddA (K : PySem.W.Frag) : R2 := fun x y H Q => (∃ i j, x = .int i ∧ y = .int j ∧ Q (.int (i + j)) H) ∨ (∃ i j, x = .str i ∧ y = .str j ∧ i.length + j.length ≤ sizeLine ∧ Q (.str (i ++ j)) H) ∨ rCatA K x y H Q ∨ rCat x y H Q
theorem op_addA {X : Cx} : OpR X (binaryOp .Add) (rAddA X.K) := OpR.or op_add (OpR.or op_add_str (OpR.or op_catA op_cat))
theorem gAdd_list {b : Bool} {x y : V} {d e : D} {Q : VK} (r : Rel K m F h H) (hd : HasD K m F d x) (he : HasD K m F e y) (q : post K W (HasD K) m F H (match listX d h, listX e h with
    | some xs, some ys => if lenOk (xs.length + ys.length) = true then mkL b (xs ++ ys) h else .bad
    | _, _ => .bad) Q) : rAddA K x y H Q := by
  split at q
  · rename_i xs ys e1 e2
    obtain ⟨a, vs, rfl, ha, h1⟩ := listX_at r hd e1
    obtain ⟨c, ws, rfl, hc, h2⟩ := listX_at r he e2
    split at q
    · rename_i hl
      exact .inr (.inr (.inr ⟨a, c, vs, ws, rfl, rfl, ha, hc, by rw [← h1.length, ← h2.length]; exact lenOk_le hl, q.mkL r (h1.append h2)⟩))
    · exact q.elim
  · exact q.elim
theorem sem_add {b : Bool} : Sem2 K W (rAddA K) (gAdd b) := fun m F h H x y d e Q r hd he q => by
  unfold gAdd at q
  split at q
  · cases hd
    cases he
    exact .inl ⟨_, _, rfl, rfl, q.ok r (.int _)⟩
  · cases hd
    cases he
    split at q
    · rename_i hl
      exact .inr (.inl ⟨_, _, rfl, rfl, lenOk_le hl, q.ok r (.str _)⟩)
    · exact q.elim
  · rename_i xs ys
    split at q
    · rename_i hl
      cases hd with
      | tup ha h1 =>
        cases he with
        | tup hb h2 =>
          refine .inr (.inr (.inl ⟨_, _, _, _, rfl, rfl, SqT.of (r.sub _ _ ha), SqT.of (r.sub _ _ hb), by rw [← h1.length, ← h2.length]; exact lenOk_le hl, fun z => ?_, fun z z2 => ?_, fun z z2 => q.newT r (h1.append h2)⟩))
          · subst z
            cases h1
            exact q.ok r (HasD.tup hb h2)
          · subst z2
            cases h2
            rw [List.append_nil] at q
            exact q.ok r (HasD.tup ha h1)
    · exact q.elim
  · exact gAdd_list r hd he q

def gSub : M2 := fun d e h => match d, e with
  | .int i, .int j => .ok (.int (i - j)) h
  | _, _ => .bad
theorem sem_sub : Sem2 K W (rI0 fun i j => .int (i - j)) gSub := fun m F h H x y d e Q r hd he q => by
  unfold gSub at q
  split at q
  · cases hd
    cases he
    exact ⟨_, _, rfl, rfl, q.ok r (.int _)⟩
  · exact q.elim

/-- `*` of numbers; of a list and a number; of a tuple and a number -/
def gMul (b : Bool) : M2 := fun d e h => match d, e with
  | .int i, .int j => if mulOk i j = true then .ok (.int (i * j)) h else .bad
  | d, .int k => match listX d h with
    | some xs => if (decide (-(2 ^ 63) ≤ k ∧ k < 2 ^ 63) && lenOk (xs.length * k.toNat)) = true then mkL b (List.replicate k.toNat xs).flatten h else .bad
    | none => .bad
  | _, _ => .bad
def CMulA (i j : Int) : Prop := mulOk i j = true
theorem CMulA.ok {i j : Int} (h : CMulA i j) : IntMulOk i j := by
  unfold CMulA mulOk at h
  rw [Bool.or_eq_true, Bool.or_eq_true] at h
  rcases h with (h | h) | h
  · exact CMul.ok (.inl (of_decide_eq_true h))
  · exact CMul.ok (.inr (of_decide_eq_true h))
  · exact CMulW.ok (show i.natAbs.log2 + j.natAbs.log2 < 1000000 from of_decide_eq_true h)
theorem op_mulA {X : Cx} : OpR X (binaryOp .Mult) (rI CMulA fun i j => .int (i * j)) := opI fun _ _ _ _ _ _ _ hc q => mul_int q hc.ok
def rMulA : R2 := fun x y H Q => rI CMulA (fun i j => .int (i * j)) x y H Q ∨ rRep x y H Q
theorem op_mulB {X : Cx} : OpR X (binaryOp .Mult) rMulA := OpR.or op_mulA op_rep
theorem sem_mul {b : Bool} : Sem2 K W rMulA (gMul b) := fun m F h H x y d e Q r hd he q => by
  unfold gMul at q
  split at q
  · split at q
    · rename_i hc
      cases hd
      cases he
      exact .inl ⟨_, _, rfl, rfl, hc, q.ok r (.int _)⟩
    · exact q.elim
  · split at q
    · rename_i xs e1
      obtain ⟨a, vs, rfl, ha, h1⟩ := listX_at r hd e1
      cases he
      split at q
      · rename_i hc
        rw [Bool.and_eq_true] at hc
        have h2 := of_decide_eq_true hc.1
        exact .inr ⟨a, _, vs, rfl, rfl, ha, h2.1, h2.2, by rw [← h1.length]; exact lenOk_le hc.2, q.mkL r (h1.rep _)⟩
      · exact q.elim
    · exact q.elim
  · exact q.elim

def gDiv : M2 := fun d e h => match d, e with
  | .int i, .int j => if divOk j = true then .ok (.int (i.fdiv j)) h else .bad
  | _, _ => .bad
theorem op_fdivA {X : Cx} : OpR X (binaryOp .FloorDiv) (rI (fun _ j => divOk j = true) fun i j => .int (i.fdiv j)) := opI fun _ _ _ _ _ _ _ hc q => by
  rw [divOk, Bool.and_eq_true] at hc
  exact floordiv_int (of_decide_eq_true hc.1) q (.inl (PyProof.noPylong_of_log2 (of_decide_eq_true hc.2)))
theorem sem_div : Sem2 K W (rI (fun _ j => divOk j = true) fun i j => .int (i.fdiv j)) gDiv := fun m F h H x y d e Q r hd he q => by
  unfold gDiv at q
  split at q
  · split at q
    · rename_i hc
      cases hd
      cases he
      exact ⟨_, _, rfl, rfl, hc, q.ok r (.int _)⟩
    · exact q.elim
  · exact q.elim
def gMod : M2 := fun d e h => match d, e with
  | .int i, .int j => if decide (j ≠ 0) = true then .ok (.int (i.fmod j)) h else .bad
  | _, _ => .bad
theorem sem_mod : Sem2 K W (rI (fun _ j => j ≠ 0) fun i j => .int (i.fmod j)) gMod := fun m F h H x y d e Q r hd he q => by
  unfold gMod at q
  split at q
  · split at q
    · rename_i hc
      cases hd
      cases he
      exact ⟨_, _, rfl, rfl, of_decide_eq_true hc, q.ok r (.int _)⟩
    · exact q.elim
  · exact q.elim
def gPow : M2 := fun d e h => match d, e with
  | .int i, .int j => if decide (0 ≤ j ∧ j ≤ 1000000 ∧ i.natAbs < 2 ^ 64) = true then .ok (.int (i ^ j.toNat)) h else .bad
  | _, _ => .bad
theorem sem_pow : Sem2 K W (rI CPow fun i j => .int (i ^ j.toNat)) gPow := fun m F h H x y d e Q r hd he q => by
  unfold gPow at q
  split at q
  · split at q
    · rename_i hc
      cases hd
      cases he
      exact ⟨_, _, rfl, rfl, show _ ∧ _ from of_decide_eq_true hc, q.ok r (.int _)⟩
    · exact q.elim
  · exact q.elim
def gNeg : M1 := fun d h => match d with
  | .int i => .ok (.int (-i)) h
  | _ => .bad
theorem sem_neg : SemV K W (rU fun i => .int (-i)) gNeg := fun m F h H x d Q r hd q => by
  unfold gNeg at q
  split at q
  · cases hd
    exact ⟨_, rfl, q.ok r (.int _)⟩
  · exact q.elim

/-! ### comparisons -/
def gCmp (p : Int → Int → Bool) : M2 := fun d e h => match d, e with
  | .int i, .int j => .ok (.bl (p i j)) h
  | _, _ => .bad
theorem sem_cmp {p : Int → Int → Bool} : Sem2 K W (rI0 fun i j => .bl (p i j)) (gCmp p) := fun m F h H x y d e Q r hd he q => by
  unfold gCmp at q
  split at q
  · cases hd
    cases he
    exact ⟨_, _, rfl, rfl, q.ok r (.bl _)⟩
  · exact q.elim
/-- x is None -/
def gIsN (b : Bool) : M2 := fun d e h => match e with
  | .non => .ok (.bl (b == (match d with
    | .non => true
    | _ => false))) h
  | _ => .bad
theorem sem_isN : Sem2 K W (fun x y H Q => y = .non ∧ Q (.bl (decide (x = .non))) H) (gIsN true) := fun m F h H x y d e Q r hd he q => by
  unfold gIsN at q
  split at q
  · cases he
    refine ⟨rfl, ?_⟩
    cases hd <;> exact q.ok r (.bl _)
  · exact q.elim
theorem sem_notN : Sem2 K W (fun x y H Q => y = .non ∧ Q (.bl (!decide (x = .non))) H) (gIsN false) := fun m F h H x y d e Q r hd he q => by
  unfold gIsN at q
  split at q
  · cases he
    refine ⟨rfl, ?_⟩
    cases hd <;> exact q.ok r (.bl _)
  · exact q.elim

/-- == of data -/
def dok (d : D) : Bool := d.pure && decide (d.dep ≤ 60)
def deq (d e : D) : Bool := PyData.eqv d.py e.py
def gEq (b : Bool) : M2 := fun d e h => if (dok (res d h) && dok (res e h)) = true then .ok (.bl (b == deq (res d h) (res e h))) h else .bad
def rEqP (K : PySem.W.Frag) (b : Bool) : R2 := fun x y H Q => ∃ d e, Dp K H x d ∧ Dp K H y e ∧ d.plain = true ∧ e.plain = true ∧ d.depth ≤ 60 ∧ Q (.bl (b == PyData.eqv d e)) H
theorem op_eqP {X : Cx} (hu : X.A.units + 64 < cLine) : OpR X (compareOp .Eq) (rEqP X.K true) := by
  intro pins s σ H x y v u Q I rx ry h
  obtain ⟨d, e, hd, he, pd, pe, dd, q⟩ := h
  obtain ⟨as, r1⟩ := Dp.reads I d x v hd rx
  obtain ⟨bs, r2⟩ := Dp.reads I e y u he ry
  refine PySem.SeqAt.eq_plain r1 r2 pd pe (by omega) ⟨.bl _, H, I, rfl, ?_⟩
  rw [show (true == PyData.eqv d e) = PyData.eqv d e from by cases PyData.eqv d e <;> rfl] at q
  exact q
theorem op_neP {X : Cx} (hu : X.A.units + 64 < cLine) : OpR X (compareOp .NotEq) (rEqP X.K false) := by
  intro pins s σ H x y v u Q I rx ry h
  obtain ⟨d, e, hd, he, pd, pe, dd, q⟩ := h
  obtain ⟨as, r1⟩ := Dp.reads I d x v hd rx
  obtain ⟨bs, r2⟩ := Dp.reads I e y u he ry
  refine PySem.SeqAt.ne_plain r1 r2 pd pe (by omega) ⟨.bl _, H, I, rfl, ?_⟩
  rw [show (false == PyData.eqv d e) = !PyData.eqv d e from by cases PyData.eqv d e <;> rfl] at q
  exact q
theorem sem_eq {b : Bool} : Sem2 K W (rEqP K b) (gEq b) := fun m F h H x y d e Q r hd he q => by
  unfold gEq at q
  split at q
  · rename_i hc
    simp only [dok, Bool.and_eq_true, decide_eq_true_eq] at hc
    exact ⟨_, _, res_dp r hd hc.1.1, res_dp r he hc.2.1, D.py_plain _, D.py_plain _, by rw [D.py_depth]; exact hc.1.2, q.ok r (.bl _)⟩
  · exact q.elim

/-- x in a list or tuple -/
def gIn (b : Bool) : M2 := fun d e h => match seqAt e h with
  | some ys => if (dok (res d h) && dok (.lst ys)) = true then .ok (.bl (b == (ys.any fun y => deq y (res d h)))) h else .bad
  | none => .bad
def rInP (K : PySem.W.Frag) (b : Bool) : R2 := fun x y H Q => ∃ d es, (Dp K H y (.list es) ∨ Dp K H y (.tuple es)) ∧ Dp K H x d ∧ PyData.plainAll es = true ∧ d.plain = true ∧ d.depth ≤ 60 ∧ Q (.bl (b == (es.any fun e => PyData.eqv e d))) H
theorem op_inP {X : Cx} (hu : X.A.units + 64 < cLine) : OpR X (compareOp .In) (rInP X.K true) := by
  intro pins s σ H x y v u Q I rx ry h
  obtain ⟨d, es, he, hd, pe, pd, dd, q⟩ := h
  obtain ⟨as, r1⟩ := Dp.reads I d x v hd rx
  rw [show ∀ z : Bool, (true == z) = z from fun z => by cases z <;> rfl] at q
  rcases he with he | he
  · obtain ⟨bs, r2⟩ := Dp.reads I _ y u he ry
    exact PySem.SeqAt.in_list_data r2 r1 pe pd (by omega) ⟨.bl _, H, I, rfl, q⟩
  · obtain ⟨bs, r2⟩ := Dp.reads I _ y u he ry
    exact PySem.SeqAt.in_tuple_data r2 r1 pe pd (by omega) ⟨.bl _, H, I, rfl, q⟩
theorem op_notInP {X : Cx} (hu : X.A.units + 64 < cLine) : OpR X (compareOp .NotIn) (rInP X.K false) := by
  intro pins s σ H x y v u Q I rx ry h
  obtain ⟨d, es, he, hd, pe, pd, dd, q⟩ := h
  obtain ⟨as, r1⟩ := Dp.reads I d x v hd rx
  rw [show ∀ z : Bool, (false == z) = !z from fun z => by cases z <;> rfl] at q
  rcases he with he | he
  · obtain ⟨bs, r2⟩ := Dp.reads I _ y u he ry
    exact PySem.SeqAt.notIn_list_data r2 r1 pe pd (by omega) ⟨.bl _, H, I, rfl, q⟩
  · obtain ⟨bs, r2⟩ := Dp.reads I _ y u he ry
    exact PySem.SeqAt.notIn_tuple_data r2 r1 pe pd (by omega) ⟨.bl _, H, I, rfl, q⟩
theorem D.dps {K : PySem.W.Frag} {H : Hp} {a : Addr} {vs : List V} {ys : List D} (hs : SqL K H a vs ∨ SqT K H a vs) (hd : DpAll K H vs (D.pys ys)) : Dp K H (.ref a) (.list (D.pys ys)) ∨ Dp K H (.ref a) (.tuple (D.pys ys)) := by
  rcases hs with hs | hs
  · exact .inl (.lst hs hd)
  · exact .inr (.tup hs hd)
theorem any_py {ys : List D} {d : D} : (D.pys ys).any (fun e => PyData.eqv e d.py) = ys.any fun y => deq y d := by
  rw [D.pys_map, List.any_map]
  rfl
theorem sem_in {b : Bool} : Sem2 K W (rInP K b) (gIn b) := fun m F h H x y d e Q r hd he q => by
  unfold gIn at q
  split at q
  · rename_i ys e1
    split at q
    · rename_i hc
      simp only [dok, Bool.and_eq_true, decide_eq_true_eq, D.pure] at hc
      obtain ⟨a, vs, rfl, ha, h1⟩ := seqAt_at r he e1
      refine ⟨_, _, D.dps ha (DpAll.sub r (HasDs.dp h1 hc.2.1)), res_dp r hd hc.1.1, D.pys_plain _, D.py_plain _, by rw [D.py_depth]; exact hc.1.2, ?_⟩
      rw [any_py]
      exact q.ok r (.bl _)
    · exact q.elim
  · exact q.elim

/-! ### subscripts -/
def gIx : M2 := fun d e h => match e with
  | .int i => match d with
    | .str z => match atI z.cps.toList i with
      | some c => if lenOk z.length = true then .ok (.str ⟨#[c]⟩) h else .bad
      | none => .bad
    | d => match seqAt d h with
      | some xs => match atI xs i with
        | some x => .ok x h
        | none => .bad
      | none => .bad
  | _ => .bad
theorem HasDs.atI {ds : List D} {vs : List V} {i : Int} {d : D} (hs : HasDs K m F ds vs) (e : L2.atI ds i = some d) : ∃ v, L2.atI vs i = some v ∧ HasD K m F d v := by
  unfold L2.atI at e ⊢
  rw [hs.length] at e
  obtain ⟨j, h1, h2⟩ := Option.bind_eq_some_iff.mp e
  obtain ⟨v, h3, h4⟩ := hs.get h2
  exact ⟨v, by rw [h1]; exact h3, h4⟩
theorem sem_ix : Sem2 K W (rIx K) gIx := fun m F h H x y d e Q r hd he q => by
  have core : ∀ xs i z, seqAt d h = some xs → L2.atI xs i = some z → y = .int i → post K W (HasD K) m F H (.ok z h) Q → rIx K x y H Q := fun xs i z e1 e2 ey q => by
    subst ey
    obtain ⟨a, vs, rfl, ha, h1⟩ := seqAt_at r hd e1
    obtain ⟨v, hv, rv⟩ := h1.atI e2
    rcases ha with ha | ha
    · exact .inl ⟨a, vs, i, v, rfl, rfl, ha, hv, q.ok r rv⟩
    · exact .inr (.inl ⟨a, vs, i, v, rfl, rfl, ha, hv, q.ok r rv⟩)
  unfold gIx at q
  split at q
  · cases he
    split at q
    · split at q
      · rename_i c hc
        split at q
        · rename_i hl
          cases hd
          exact .inr (.inr ⟨_, _, c, rfl, rfl, lenOk_le hl, hc, q.ok r (.str _)⟩)
        · exact q.elim
      · exact q.elim
    · split at q
      · rename_i xs e1
        split at q
        · rename_i z e2
          exact core xs _ z e1 e2 rfl q
        · exact q.elim
      · exact q.elim
  · exact q.elim
/-- d[lo:hi] -/
def cutD (xs : List D) (lo hi : Option Int) : List D := (xs.drop (HT.sIx xs.length 0 lo)).take (HT.sIx xs.length xs.length hi - HT.sIx xs.length 0 lo)
theorem HasDs.cut {xs : List D} {vs : List V} (hs : HasDs K m F xs vs) (lo hi : Option Int) : HasDs K m F (cutD xs lo hi) (cutV vs lo hi) := by
  unfold cutD cutV
  rw [hs.length]
  exact HasDs.take _ (HasDs.drop _ hs)
def gSl (b : Bool) (d : D) (lo hi : Option Int) (h : AH) : Res D := match d with
  | .str z => if lenOk z.length = true then .ok (.str (cutS z lo hi)) h else .bad
  | .tup xs => .ok (.tup (cutD xs lo hi)) h
  | d => match listAt d h with
    | some xs => mkL b (cutD xs lo hi) h
    | none => .bad
def rSlP (K : PySem.W.Frag) : V → Option Int → Option Int → Hp → VK → Prop := fun x lo hi H Q => rSlL K x lo hi H Q ∨ rSlA K x lo hi H Q ∨ rSlS x lo hi H Q
theorem sl_all {X : Cx} : SlR X (rSlP X.K) := SlR.or sl_list (SlR.or sl_tupA sl_str)
theorem cut_whole {xs : List D} {lo hi : Option Int} (h : HT.sIx xs.length 0 lo = 0 ∧ HT.sIx xs.length xs.length hi = xs.length) : cutD xs lo hi = xs := by
  unfold cutD
  rw [h.1, h.2, List.drop_zero, Nat.sub_zero, List.take_length]
theorem sem_sl {b : Bool} {x : V} {d : D} {lo hi : Option Int} {Q : VK} (r : Rel K m F h H) (hd : HasD K m F d x) (q : post K W (HasD K) m F H (gSl b d lo hi h) Q) : rSlP K x lo hi H Q := by
  unfold gSl at q
  split at q
  · split at q
    · rename_i hl
      cases hd
      exact .inr (.inr ⟨_, rfl, lenOk_le hl, q.ok r (.str _)⟩)
    · exact q.elim
  · cases hd with
    | tup ha h1 =>
      refine .inr (.inl ⟨_, _, rfl, SqT.of (r.sub _ _ ha), fun z => ?_, fun z => q.newT r (h1.cut lo hi)⟩)
      rw [← h1.length] at z
      rw [cut_whole z] at q
      exact q.ok r (HasD.tup ha h1)
  · split at q
    · rename_i xs e1
      obtain ⟨a, vs, rfl, ha, h1⟩ := listAt_at r hd e1
      exact .inl ⟨a, vs, rfl, ha, q.mkL r (h1.cut lo hi)⟩
    · exact q.elim
end

/-! ### rules -/
section
variable {X : Cx} {W : Wi} {a b : Expr} {f1 f2 : ME} {pos : Pos}
theorem de_add (bb : Bool) (h1 : DE X W a f1) (h2 : DE X W b f2) : DE X W (.BinOp a .Add b pos) (e2 (gAdd bb) f1 f2) := de_op op_addA sem_add h1 h2
theorem de_sub (h1 : DE X W a f1) (h2 : DE X W b f2) : DE X W (.BinOp a .Sub b pos) (e2 gSub f1 f2) := de_op op_sub sem_sub h1 h2
theorem de_mul (bb : Bool) (h1 : DE X W a f1) (h2 : DE X W b f2) : DE X W (.BinOp a .Mult b pos) (e2 (gMul bb) f1 f2) := de_op op_mulB sem_mul h1 h2
theorem de_div (h1 : DE X W a f1) (h2 : DE X W b f2) : DE X W (.BinOp a .FloorDiv b pos) (e2 gDiv f1 f2) := de_op op_fdivA sem_div h1 h2
theorem de_mod (h1 : DE X W a f1) (h2 : DE X W b f2) : DE X W (.BinOp a .Mod b pos) (e2 gMod f1 f2) := de_op op_modN sem_mod h1 h2
theorem de_pow (h1 : DE X W a f1) (h2 : DE X W b f2) : DE X W (.BinOp a .Pow b pos) (e2 gPow f1 f2) := de_op op_pow sem_pow h1 h2
theorem de_neg (h1 : DE X W a f1) : DE X W (.UnaryOp .USub a pos) (e1 gNeg f1) := de_un un_neg sem_neg h1
abbrev gLt := gCmp fun i j => decide (i < j)
abbrev gLe := gCmp fun i j => decide (i ≤ j)
abbrev gGt := gCmp fun i j => decide (j < i)
abbrev gGe := gCmp fun i j => decide (j ≤ i)
theorem de_lt (h1 : DE X W a f1) (h2 : DE X W b f2) : DE X W (.Compare a [.Lt] [b] pos) (e2 gLt f1 f2) := de_cmp op_lt sem_cmp h1 h2 (nomark _)
theorem de_le (h1 : DE X W a f1) (h2 : DE X W b f2) : DE X W (.Compare a [.LtE] [b] pos) (e2 gLe f1 f2) := de_cmp op_le sem_cmp h1 h2 (nomark _)
theorem de_gt (h1 : DE X W a f1) (h2 : DE X W b f2) : DE X W (.Compare a [.Gt] [b] pos) (e2 gGt f1 f2) := de_cmp op_gt sem_cmp h1 h2 (nomark _)
theorem de_ge (h1 : DE X W a f1) (h2 : DE X W b f2) : DE X W (.Compare a [.GtE] [b] pos) (e2 gGe f1 f2) := de_cmp op_ge sem_cmp h1 h2 (nomark _)
theorem de_isN (h1 : DE X W a f1) (h2 : DE X W b f2) : DE X W (.Compare a [.Is] [b] pos) (e2 (gIsN true) f1 f2) := de_cmp op_isN sem_isN h1 h2 (nomark _)
theorem de_notN (h1 : DE X W a f1) (h2 : DE X W b f2) : DE X W (.Compare a [.IsNot] [b] pos) (e2 (gIsN false) f1 f2) := de_cmp op_notN sem_notN h1 h2 (nomark _)
theorem de_eq (hu : X.A.units + 64 < cLine) (h1 : DE X W a f1) (h2 : DE X W b f2) : DE X W (.Compare a [.Eq] [b] pos) (e2 (gEq true) f1 f2) := de_cmp (op_eqP hu) sem_eq h1 h2 (nomark _)
theorem de_ne (hu : X.A.units + 64 < cLine) (h1 : DE X W a f1) (h2 : DE X W b f2) : DE X W (.Compare a [.NotEq] [b] pos) (e2 (gEq false) f1 f2) := de_cmp (op_neP hu) sem_eq h1 h2 (nomark _)
theorem de_in (hu : X.A.units + 64 < cLine) (h1 : DE X W a f1) (h2 : DE X W b f2) (hm : behindInMarks .In b = false := by rfl) : DE X W (.Compare a [.In] [b] pos) (e2 (gIn true) f1 f2) := de_cmp (op_inP hu) sem_in h1 h2 hm
theorem de_notIn (hu : X.A.units + 64 < cLine) (h1 : DE X W a f1) (h2 : DE X W b f2) (hm : behindInMarks .NotIn b = false := by rfl) : DE X W (.Compare a [.NotIn] [b] pos) (e2 (gIn false) f1 f2) := de_cmp (op_notInP hu) sem_in h1 h2 hm
theorem de_sub_ (h1 : DE X W a f1) (h2 : DE X W b f2) (hs : PlainIx b := by exact fun _ _ => rfl) : DE X W (.Subscript a b pos) (e2 gIx f1 f2) := de_ix ix_seq sem_ix h1 h2 hs
/-- a part of a slice -/
abbrev MO := Sl → AH → Res (Option Int)
abbrev RO : Ad → Hp → Option Int → Option Int → Prop := fun _ _ a b => a = b
structure DO (X : Cx) (W : Wi) (e : Option Expr) (f : MO) : Prop where
  ex : ∃ t, PO X e t ∧ ∀ m F h H s σ Q, Rel X.K m F h H → EnvR X.K m F s σ → post X.K W RO m F H (f s h) Q → t σ H Q
def oN : MO := fun _ h => .ok none h
def oS (f : ME) : MO := fun s h => (f s h).bind fun d h => match d with
  | .int i => .ok (some i) h
  | _ => .bad
theorem do_none : DO X W none oN := ⟨_, po_none, fun m F h H s σ Q r E q => q.ok r rfl⟩
theorem do_some (h1 : DE X W a f1) : DO X W (some a) (oS f1) := by
  obtain ⟨t, p1, i1⟩ := h1.ex
  refine ⟨_, po_some p1, fun m F h H s σ Q r E q => ?_⟩
  refine i1 m F h H s σ _ r E (q.bind fun d h' m' F' H' v _ e' r' ha q => ?_)
  split at q
  · cases ha
    exact ⟨_, rfl, q.ok r' rfl⟩
  · exact q.elim
def eSl (b : Bool) (f : ME) (lo hi : MO) : ME := fun s h => (f s h).bind fun d h => (lo s h).bind fun l h => (hi s h).bind fun u h => gSl b d l u h
theorem de_slice (bb : Bool) {lo hi : Option Expr} {l u : MO} {p2 : Pos} (h1 : DE X W a f1) (h2 : DO X W lo l) (h3 : DO X W hi u) : DE X W (.Subscript a (.Slice lo hi none p2) pos) (eSl bb f1 l u) := by
  obtain ⟨t, p1, i1⟩ := h1.ex
  obtain ⟨t2, q2, i2⟩ := h2.ex
  obtain ⟨t3, q3, i3⟩ := h3.ex
  refine ⟨_, pe_slice sl_all p1 q2 q3, fun m F h H s σ Q r E q => ?_⟩
  refine i1 m F h H s σ _ r E (q.bind fun d h' m' F' H' v _ e' r' ha q => ?_)
  refine i2 m' F' h' H' s σ _ r' (E.ext e') (q.bind fun d2 h2 m2 F2 H2 v2 _ e2 r2 ha2 q => ?_)
  refine i3 m2 F2 h2 H2 s σ _ r2 ((E.ext e').ext e2) (q.bind fun d3 h3 m3 F3 H3 v3 _ e3 r3 ha3 q => ?_)
  subst ha2 ha3
  exact sem_sl r3 ((ha.ext e2).ext e3) q
end
end DL

namespace DL
open PySem PySem.Spec PyProof.Rows L2

/-! ### tests -/
/-- the truth of a value -/
def truD (d : D) (h : AH) : Option Bool := match d with
  | .non => some false
  | .bl b => some b
  | .int i => some (i != 0)
  | .str x => if lenOk x.length = true then some (x.length != 0) else none
  | d => match seqAt d h with
    | some xs => some (!xs.isEmpty)
    | none => none
section
variable {K : PySem.W.Frag} {m : Ad} {F : Hp} {h : AH} {H : Hp}
theorem HasDs.isEmpty {ds : List D} {vs : List V} (hs : HasDs K m F ds vs) : vs.isEmpty = ds.isEmpty := by
  cases hs <;> rfl
theorem tru_at (r : Rel K m F h H) {d : D} {v : V} {b : Bool} (hd : HasD K m F d v) (e : truD d h = some b) : TruV K v H b := by
  have core : ∀ xs, seqAt d h = some xs → b = (!xs.isEmpty) → TruV K v H b := fun xs e1 eb => by
    obtain ⟨a, vs, rfl, ha, h1⟩ := seqAt_at r hd e1
    rcases ha with ha | ha
    · exact .inl ⟨vs, ha, by rw [h1.isEmpty]; exact eb⟩
    · exact .inr (.inl ⟨vs, ha, by rw [h1.isEmpty]; exact eb⟩)
  cases hd with
  | non => exact (Option.some.inj e).symm
  | bl c => exact (Option.some.inj e).symm
  | int i => exact (Option.some.inj e).symm
  | str x =>
    unfold truD at e
    simp only at e
    split at e
    · rename_i hl
      cases e
      refine ⟨lenOk_le hl, ?_⟩
      cases x.length with
      | zero => rfl
      | succ n =>
        have h1 : ((n + 1 : Nat) != 0) = true := bne_iff_ne.mpr (by omega)
        have h2 : (((n + 1 : Nat) : Int) != 0) = true := bne_iff_ne.mpr (by omega)
        rw [h1, h2]
    · cases e
  | tup hf hs => exact core _ rfl (Option.some.inj e).symm
  | lst hf hs => exact core _ rfl (Option.some.inj e).symm
  | lsk hf hs => exact core _ rfl (Option.some.inj e).symm
  | ref hm =>
    unfold truD at e
    simp only at e
    split at e
    · rename_i xs e1
      exact core xs e1 (Option.some.inj e).symm
    · cases e
  | dK hf hs => cases e
  | dT hf hs => cases e
end
def tV (f : ME) : MT := fun s h => (f s h).bind fun d h => match truD d h with
  | some b => .ok b h
  | none => .bad
/-- a value that is a truth -/
def tB_ (f : ME) : MT := fun s h => (f s h).bind fun d h => match d with
  | .bl b => .ok b h
  | _ => .bad
/-- a comparison -/
structure DC (X : Cx) (W : Wi) (op : CmpOp) (a b : Expr) (f : ME) : Prop where
  ex : ∃ (r : R2) (g : M2) (f1 f2 : ME), OpR X (compareOp op) r ∧ Sem2 X.K W r g ∧ DE X W a f1 ∧ DE X W b f2 ∧ behindInMarks op b = false ∧ f = e2 g f1 f2
section
variable {X : Cx} {W : Wi} {a b c : Expr} {f f1 f2 f3 : ME} {g g1 g2 : MT} {pos : Pos}
theorem dt_val (h1 : DE X W a f) (he : ∀ whole, isTrue a X.env whole = (do let v ← whole; standAt a.pos; holding [v] (truthy v)) := by exact fun _ => rfl) : DT X W a (tV f) := by
  obtain ⟨t, p1, i1⟩ := h1.ex
  refine ⟨_, pt_truth p1 he, fun m F h H s σ Q r E q => ?_⟩
  refine i1 m F h H s σ _ r E (q.bind fun d h' m' F' H' v _ e' r' ha q => ?_)
  split at q
  · rename_i b hb
    exact ⟨b, tru_at r' ha hb, q.ok r' rfl⟩
  · exact q.elim
theorem dt_cmp {op : CmpOp} {r : R2} {g : M2} (ho : OpR X (compareOp op) r) (sm : Sem2 X.K W r g) (h1 : DE X W a f1) (h2 : DE X W b f2) (hm : behindInMarks op b = false) : DT X W (.Compare a [op] [b] pos) (tB_ (e2 g f1 f2)) := by
  obtain ⟨t, p1, i1⟩ := h1.ex
  obtain ⟨u, p2, i2⟩ := h2.ex
  refine ⟨_, pt_cmpR ho p1 p2 hm, fun m F h H s σ Q r E q => ?_⟩
  refine imp2 sm i1 i2 m F h H s σ _ r E (q.bind fun d h' m' F' H' v _ e' r' ha q => ?_)
  split at q
  · cases ha
    exact ⟨_, rfl, q.ok r' rfl⟩
  · exact q.elim
theorem DC.de {op : CmpOp} (h : DC X W op a b f) : DE X W (.Compare a [op] [b] pos) f := by
  obtain ⟨r, g, f1, f2, ho, sm, h1, h2, hm, rfl⟩ := h.ex
  exact de_cmp ho sm h1 h2 hm
theorem DC.dt {op : CmpOp} (h : DC X W op a b f) : DT X W (.Compare a [op] [b] pos) (tB_ f) := by
  obtain ⟨r, g, f1, f2, ho, sm, h1, h2, hm, rfl⟩ := h.ex
  exact dt_cmp ho sm h1 h2 hm
theorem dc_lt (h1 : DE X W a f1) (h2 : DE X W b f2) : DC X W .Lt a b (e2 gLt f1 f2) := ⟨_, _, _, _, op_lt, sem_cmp, h1, h2, nomark _, rfl⟩
theorem dc_le (h1 : DE X W a f1) (h2 : DE X W b f2) : DC X W .LtE a b (e2 gLe f1 f2) := ⟨_, _, _, _, op_le, sem_cmp, h1, h2, nomark _, rfl⟩
theorem dc_gt (h1 : DE X W a f1) (h2 : DE X W b f2) : DC X W .Gt a b (e2 gGt f1 f2) := ⟨_, _, _, _, op_gt, sem_cmp, h1, h2, nomark _, rfl⟩
theorem dc_ge (h1 : DE X W a f1) (h2 : DE X W b f2) : DC X W .GtE a b (e2 gGe f1 f2) := ⟨_, _, _, _, op_ge, sem_cmp, h1, h2, nomark _, rfl⟩
theorem dc_is (h1 : DE X W a f1) (h2 : DE X W b f2) : DC X W .Is a b (e2 (gIsN true) f1 f2) := ⟨_, _, _, _, op_isN, sem_isN, h1, h2, nomark _, rfl⟩
theorem dc_isNot (h1 : DE X W a f1) (h2 : DE X W b f2) : DC X W .IsNot a b (e2 (gIsN false) f1 f2) := ⟨_, _, _, _, op_notN, sem_notN, h1, h2, nomark _, rfl⟩
theorem dc_eq (hu : X.A.units + 64 < cLine) (h1 : DE X W a f1) (h2 : DE X W b f2) : DC X W .Eq a b (e2 (gEq true) f1 f2) := ⟨_, _, _, _, op_eqP hu, sem_eq, h1, h2, nomark _, rfl⟩
theorem dc_ne (hu : X.A.units + 64 < cLine) (h1 : DE X W a f1) (h2 : DE X W b f2) : DC X W .NotEq a b (e2 (gEq false) f1 f2) := ⟨_, _, _, _, op_neP hu, sem_eq, h1, h2, nomark _, rfl⟩
theorem dc_in (hu : X.A.units + 64 < cLine) (h1 : DE X W a f1) (h2 : DE X W b f2) (hm : behindInMarks .In b = false := by rfl) : DC X W .In a b (e2 (gIn true) f1 f2) := ⟨_, _, _, _, op_inP hu, sem_in, h1, h2, hm, rfl⟩
theorem dc_notIn (hu : X.A.units + 64 < cLine) (h1 : DE X W a f1) (h2 : DE X W b f2) (hm : behindInMarks .NotIn b = false := by rfl) : DC X W .NotIn a b (e2 (gIn false) f1 f2) := ⟨_, _, _, _, op_notInP hu, sem_in, h1, h2, hm, rfl⟩

/-! ### and, or, not -/
def tAndM (f g : MT) : MT := fun s h => (f s h).bind fun b h => if b = true then g s h else .ok false h
def tOrM (f g : MT) : MT := fun s h => (f s h).bind fun b h => if b = true then .ok true h else g s h
def tNotM (f : MT) : MT := fun s h => (f s h).bind fun b h => .ok (!b) h
theorem DW.dt (h : DW X W a g) : DT X W a g := by
  obtain ⟨t, p, i⟩ := h.ex
  exact ⟨t, p.pt, i⟩
theorem dw_and1 (h : DT X W a g) : DW X W (.BoolOp .And [a] pos) g := by
  obtain ⟨t, p, i⟩ := h.ex
  exact ⟨t, pw_and1 p, i⟩
theorem dw_or1 (h : DT X W a g) : DW X W (.BoolOp .Or [a] pos) g := by
  obtain ⟨t, p, i⟩ := h.ex
  exact ⟨t, pw_or1 p, i⟩
theorem dw_and {rest : List Expr} (h1 : DT X W a g1) (h2 : DW X W (.BoolOp .And (b :: rest) pos) g2) : DW X W (.BoolOp .And (a :: b :: rest) pos) (tAndM g1 g2) := by
  obtain ⟨t, p, i⟩ := h1.ex
  obtain ⟨t2, p2, i2⟩ := h2.ex
  refine ⟨_, pw_and p p2, fun m F h H s σ Q r E q => ?_⟩
  refine i m F h H s σ _ r E (q.bind fun d h' m' F' H' v _ e' r' ha q => ?_)
  subst ha
  cases d with
  | true => exact i2 m' F' h' H' s σ Q r' (E.ext e') q
  | false => exact q.ok r' rfl
theorem dw_or {rest : List Expr} (h1 : DT X W a g1) (h2 : DW X W (.BoolOp .Or (b :: rest) pos) g2) : DW X W (.BoolOp .Or (a :: b :: rest) pos) (tOrM g1 g2) := by
  obtain ⟨t, p, i⟩ := h1.ex
  obtain ⟨t2, p2, i2⟩ := h2.ex
  refine ⟨_, pw_or p p2, fun m F h H s σ Q r E q => ?_⟩
  refine i m F h H s σ _ r E (q.bind fun d h' m' F' H' v _ e' r' ha q => ?_)
  subst ha
  cases d with
  | false => exact i2 m' F' h' H' s σ Q r' (E.ext e') q
  | true => exact q.ok r' rfl
theorem dt_not (h1 : DT X W a g) : DT X W (.UnaryOp .Not a pos) (tNotM g) := by
  obtain ⟨t, p, i⟩ := h1.ex
  refine ⟨_, pt_not p, fun m F h H s σ Q r E q => ?_⟩
  refine i m F h H s σ _ r E (q.bind fun d h' m' F' H' v _ e' r' ha q => ?_)
  subst ha
  exact q.ok r' rfl
/-- as values -/
def eAnd (f g : ME) : ME := fun s h => (f s h).bind fun d h => match truD d h with
  | some b => if b = true then g s h else .ok d h
  | none => .bad
def eOr (f g : ME) : ME := fun s h => (f s h).bind fun d h => match truD d h with
  | some b => if b = true then .ok d h else g s h
  | none => .bad
def eNot (f : ME) : ME := fun s h => (f s h).bind fun d h => match truD d h with
  | some b => .ok (.bl (!b)) h
  | none => .bad
theorem de_one {op : BoolOp} (h1 : DE X W a f) : DE X W (.BoolOp op [a] pos) f := by
  obtain ⟨t, p, i⟩ := h1.ex
  exact ⟨t, pe_one p, i⟩
theorem de_and {rest : List Expr} (h1 : DE X W a f1) (h2 : DE X W (.BoolOp .And (b :: rest) pos) f2) : DE X W (.BoolOp .And (a :: b :: rest) pos) (eAnd f1 f2) := by
  obtain ⟨t, p, i⟩ := h1.ex
  obtain ⟨t2, p2, i2⟩ := h2.ex
  refine ⟨_, pe_andT p p2, fun m F h H s σ Q r E q => ?_⟩
  refine i m F h H s σ _ r E (q.bind fun d h' m' F' H' v _ e' r' ha q => ?_)
  split at q
  · rename_i k hk
    refine ⟨k, tru_at r' ha hk, ?_⟩
    cases k with
    | true => exact i2 m' F' h' H' s σ Q r' (E.ext e') q
    | false => exact q.ok r' ha
  · exact q.elim
theorem de_or {rest : List Expr} (h1 : DE X W a f1) (h2 : DE X W (.BoolOp .Or (b :: rest) pos) f2) : DE X W (.BoolOp .Or (a :: b :: rest) pos) (eOr f1 f2) := by
  obtain ⟨t, p, i⟩ := h1.ex
  obtain ⟨t2, p2, i2⟩ := h2.ex
  refine ⟨_, pe_orT p p2, fun m F h H s σ Q r E q => ?_⟩
  refine i m F h H s σ _ r E (q.bind fun d h' m' F' H' v _ e' r' ha q => ?_)
  split at q
  · rename_i k hk
    refine ⟨k, tru_at r' ha hk, ?_⟩
    cases k with
    | true => exact q.ok r' ha
    | false => exact i2 m' F' h' H' s σ Q r' (E.ext e') q
  · exact q.elim
theorem de_not (h1 : DE X W a f) : DE X W (.UnaryOp .Not a pos) (eNot f) := by
  obtain ⟨t, p, i⟩ := h1.ex
  refine ⟨_, pe_notT p, fun m F h H s σ Q r E q => ?_⟩
  refine i m F h H s σ _ r E (q.bind fun d h' m' F' H' v _ e' r' ha q => ?_)
  split at q
  · rename_i k hk
    exact ⟨k, tru_at r' ha hk, q.ok r' (.bl _)⟩
  · exact q.elim
def eIf (c : MT) (f g : ME) : ME := fun s h => (c s h).bind fun b h => if b = true then f s h else g s h
theorem de_if (hc : DT X W c g) (h1 : DE X W a f1) (h2 : DE X W b f2) : DE X W (.IfExp c a b pos) (eIf g f1 f2) := by
  obtain ⟨t, p, i⟩ := hc.ex
  obtain ⟨t1, p1, i1⟩ := h1.ex
  obtain ⟨t2, p2, i2⟩ := h2.ex
  refine ⟨_, pe_ifExp p p1 p2, fun m F h H s σ Q r E q => ?_⟩
  refine i m F h H s σ _ r E (q.bind fun d h' m' F' H' v _ e' r' ha q => ?_)
  subst ha
  cases d with
  | true => exact i1 m' F' h' H' s σ Q r' (E.ext e') q
  | false => exact i2 m' F' h' H' s σ Q r' (E.ext e') q

/-! ### displays -/
theorem evs_len : ∀ {fs : List ME} {s : Sl} {h h' : AH} {ds : List D}, evs fs s h = .ok ds h' → ds.length = fs.length
  | [], _, _, _, _, e => by
    unfold evs at e
    cases e
    rfl
  | f :: fs, s, h, h', ds, e => by
    unfold evs at e
    cases e1 : f s h with
    | ok d h1 =>
      rw [e1] at e
      simp only [Res.bind] at e
      cases e2 : evs fs s h1 with
      | ok es h2 =>
        rw [e2] at e
        simp only at e
        cases e
        rw [List.length_cons, List.length_cons, evs_len e2]
      | exc x h2 => rw [e2] at e; cases e
      | bad => rw [e2] at e; cases e
    | exc x h2 => rw [e1] at e; cases e
    | bad => rw [e1] at e; cases e
def eTup (fs : List ME) : ME := fun s h => (evs fs s h).bind fun ds h => .ok (.tup ds) h
def eLst (b : Bool) (fs : List ME) : ME := fun s h => (evs fs s h).bind fun ds h => mkL b ds h
theorem de_tup {es : List Expr} {fs : List ME} {x1 : Nat} (h1 : DA X W es fs) (hl : lenOk fs.length = true := by rfl) : DE X W (.Tuple es x1 pos) (eTup fs) := by
  obtain ⟨t, p, i⟩ := h1.ex
  refine ⟨_, pe_tup p, fun m F h H s σ Q r E q => ?_⟩
  refine i m F h H s σ _ r E (q.bind fun d h' m' F' H' v hv e' r' ha q => ?_)
  exact ⟨by rw [← ha.length, evs_len hv]; exact lenOk_le hl, q.newT r' ha⟩
theorem de_lst (bb : Bool) {es : List Expr} {fs : List ME} (h1 : DA X W es fs) (hl : lenOk fs.length = true := by rfl) : DE X W (.List es pos) (eLst bb fs) := by
  obtain ⟨t, p, i⟩ := h1.ex
  refine ⟨_, pe_lst p, fun m F h H s σ Q r E q => ?_⟩
  refine i m F h H s σ _ r E (q.bind fun d h' m' F' H' v hv e' r' ha q => ?_)
  exact ⟨by rw [← ha.length, evs_len hv]; exact lenOk_le hl, q.mkL r' ha⟩
end

/-! ### statements -/
section
variable {X : Cx} {W : Wi} {e : Expr} {f : ME} {st : Stmt} {rest : List Stmt} {fs gs : MS} {pos : Pos}
def sNil : MS := fun s h => .nx s h
def sSeq (f g : MS) : MS := fun s h => match f s h with
  | .nx s h => g s h
  | r => r
theorem dss_nil : DSs X W [] sNil := ⟨_, pss_nil, fun m F h H s σ Z r E q => q m F H σ .refl r E⟩
theorem dss_one (h1 : DS X W st fs) : DSs X W [st] fs := by
  obtain ⟨t, p, i⟩ := h1.ex
  exact ⟨_, pss_one p, i⟩
theorem dss_cons (h1 : DS X W st fs) (h2 : DSs X W rest gs) : DSs X W (st :: rest) (sSeq fs gs) := by
  obtain ⟨t, p, i⟩ := h1.ex
  obtain ⟨t2, p2, i2⟩ := h2.ex
  refine ⟨_, pss_cons p p2, fun m F h H s σ Z r E q => ?_⟩
  refine i m F h H s σ _ r E ?_
  unfold sSeq at q
  cases hf : fs s h with
  | nx s' h' =>
    rw [hf] at q
    exact fun m' F' H' σ' e' r' E' => i2 m' F' h' H' s' σ' Z r' E' (q.ext e')
  | rt d h' => rw [hf] at q; exact q
  | bk s' h' => rw [hf] at q; exact q
  | ct s' h' => rw [hf] at q; exact q
  | exc x h' => rw [hf] at q; exact q
  | bad => rw [hf] at q; exact q
def sPass : MS := fun s h => .nx s h
def sBrk : MS := fun s h => .bk s h
def sCnt : MS := fun s h => .ct s h
theorem ds_pass : DS X W (.Pass pos) sPass := ⟨_, ps_pass, fun m F h H s σ Z r E q => q m F H σ .refl r E⟩
theorem ds_break : DS X W (.Break pos) sBrk := ⟨_, ps_break, fun m F h H s σ Z r E q => q m F H σ .refl r E⟩
theorem ds_continue : DS X W (.Continue pos) sCnt := ⟨_, ps_continue, fun m F h H s σ Z r E q => q m F H σ .refl r E⟩
def sEx (f : ME) : MS := fun s h => (f s h).fl fun _ h => .nx s h
theorem ds_expr (h1 : DE X W e f) (hs : swapsWith e none pos.line X.env = pure false := by rfl) : DS X W (.Expr e pos) (sEx f) := by
  obtain ⟨t, p, i⟩ := h1.ex
  refine ⟨_, ps_expr p hs, fun m F h H s σ Z r E q => ?_⟩
  exact i m F h H s σ _ r E (q.fl fun d h' m' F' H' v _ e' r' ha q => q m' F' H' σ .refl r' (E.ext e'))
def sRet (f : ME) : MS := fun s h => (f s h).fl fun d h => .rt d h
theorem ds_ret (h1 : DE X W e f) : DS X W (.Return (some e) pos) (sRet f) := by
  obtain ⟨t, p, i⟩ := h1.ex
  refine ⟨_, ps_ret p, fun m F h H s σ Z r E q => ?_⟩
  exact i m F h H s σ _ r E (q.fl fun d h' m' F' H' v _ e' r' ha q => q m' F' H' v .refl r' ha)
def sRetN : MS := fun _ h => .rt .non h
theorem ds_retN : DS X W (.Return none pos) sRetN := ⟨_, ps_retN, fun m F h H s σ Z r E q => q m F H _ .refl r .non⟩
def sIf (c : MT) (f g : MS) : MS := fun s h => (c s h).fl fun b h => if b = true then f s h else g s h
theorem ds_if {c : Expr} {a b : List Stmt} {g : MT} (hc : DT X W c g) (h1 : DSs X W a fs) (h2 : DSs X W b gs) : DS X W (.If c a b pos) (sIf g fs gs) := by
  obtain ⟨t, p, i⟩ := hc.ex
  obtain ⟨t1, p1, i1⟩ := h1.ex
  obtain ⟨t2, p2, i2⟩ := h2.ex
  refine ⟨_, ps_if p p1 p2, fun m F h H s σ Z r E q => ?_⟩
  refine i m F h H s σ _ r E (q.fl fun d h' m' F' H' v _ e' r' ha q => ?_)
  subst ha
  cases d with
  | true => exact i1 m' F' h' H' s σ Z r' (E.ext e') q
  | false => exact i2 m' F' h' H' s σ Z r' (E.ext e') q

/-! ### targets -/
abbrev MG := D → Sl → Option Sl
abbrev MGs := List D → Sl → Option Sl
theorem wipe_set {σ : L2.St} {i : Nat} {o : Option V} : ∀ {vs : List Nat}, i ∈ vs → wipe (σ.set i o) vs = wipe σ vs
  | v :: vs, h => by
    have hc : ∀ (τ : L2.St) (us : List Nat) (j : Nat), wipe (τ.set j o) us = (wipe τ us).set j o ∨ wipe (τ.set j o) us = wipe τ us := fun τ us j => by
      induction us with
      | nil => exact .inl rfl
      | cons u us ih =>
        unfold wipe
        by_cases hu : u = j
        · subst hu
          rcases ih with ih | ih
          · rw [ih, List.set_set]
            exact .inr rfl
          · rw [ih]
            exact .inr rfl
        · rcases ih with ih | ih
          · rw [ih, List.set_comm _ _ (Ne.symm hu)]
            exact .inl rfl
          · rw [ih]
            exact .inr rfl
    by_cases hi : i ∈ vs
    · unfold wipe
      rw [wipe_set hi]
    · rcases List.mem_cons.mp h with rfl | h
      · unfold wipe
        rcases hc σ vs i with e | e
        · rw [e, List.set_set]
        · rw [e]
      · exact absurd h hi
theorem wipe_wipe {σ : L2.St} : ∀ {us vs : List Nat}, (∀ i ∈ us, i ∈ vs) → wipe (wipe σ us) vs = wipe σ vs
  | [], _, _ => rfl
  | u :: us, vs, h => by
    show wipe ((wipe σ us).set u none) vs = wipe σ vs
    rw [wipe_set (h u List.mem_cons_self), wipe_wipe fun i hi => h i (List.mem_cons_of_mem _ hi)]
/-- only the slots ts are written -/
structure DG (X : Cx) (t : Expr) (g : MG) (ts : List Nat) : Prop where
  ex : ∃ u, PG X t u ∧ ∀ m F h H s σ d v s' Q, Rel X.K m F h H → EnvR X.K m F s σ → HasD X.K m F d v → g d s = some s' → (∀ σ', EnvR X.K m F s' σ' → (∀ vs, (∀ i ∈ ts, i ∈ vs) → wipe σ' vs = wipe σ vs) → Q σ' H) → u v σ H Q
structure DGs (X : Cx) (tg : List Expr) (g : MGs) (ts : List Nat) : Prop where
  ex : ∃ u, PGs X tg u ∧ ∀ m F h H s σ d v s' Q, Rel X.K m F h H → EnvR X.K m F s σ → HasDs X.K m F d v → g d s = some s' → (∀ σ', EnvR X.K m F s' σ' → (∀ vs, (∀ i ∈ ts, i ∈ vs) → wipe σ' vs = wipe σ vs) → Q σ' H) → u v σ H Q
def gN (i : Nat) : MG := fun d s => some (s.set i (some d))
theorem dg_name (i : Nat) {x : Str} {pos : Pos} (hN : X.N.Nodup) (hi : X.N[i]? = some x := by rfl) (hx : Loc X.env.scope x := by first | exact Or.inl rfl | exact Or.inr rfl)
    (hf : X.fn x = true ∨ X.env.scope.names.lookup x = some .local := by first | exact .inl rfl | exact .inr rfl | assumption) : DG X (.Name x pos) (gN i) [i] :=
  ⟨_, pg_name hN hi hx hf, fun m F h H s σ d v s' Q r E hd e k => by
    cases e
    exact k _ (E.set hd) fun vs hv => wipe_set (hv i List.mem_cons_self)⟩
def gsN : MGs := fun ds s => match ds with
  | [] => some s
  | _ => none
def gsC (g : MG) (gs : MGs) : MGs := fun ds s => match ds with
  | d :: ds => (g d s).bind fun s => gs ds s
  | [] => none
theorem dgs_nil : DGs X [] gsN [] := ⟨_, pgs_nil, fun m F h H s σ d v s' Q r E hd e k => by
  cases hd with
  | nil =>
    cases e
    exact ⟨rfl, k _ E fun _ _ => rfl⟩
  | cons _ _ => cases e⟩
theorem dgs_cons {t : Expr} {ts : List Expr} {g : MG} {gs : MGs} {us ws : List Nat} (h1 : DG X t g us) (h2 : DGs X ts gs ws) (hs : (assignEach (t :: ts) X.env).map (·.2) = assign t X.env :: (assignEach ts X.env).map (·.2) := by rfl) : DGs X (t :: ts) (gsC g gs) (us ++ ws) := by
  obtain ⟨u, p, i⟩ := h1.ex
  obtain ⟨u2, p2, i2⟩ := h2.ex
  refine ⟨_, pgs_cons p p2 hs, fun m F h H s σ d v s' Q r E hd e k => ?_⟩
  cases hd with
  | nil => cases e
  | cons h1 h2 =>
    obtain ⟨s1, e1, e2⟩ := Option.bind_eq_some_iff.mp e
    exact ⟨_, _, rfl, i m F h H s σ _ _ s1 _ r E h1 e1 fun σ1 E1 k1 => i2 m F h H s1 σ1 _ _ s' Q r E1 h2 e2 fun σ2 E2 k2 => k σ2 E2 fun vs hv =>
      (k2 vs fun i hi => hv i (List.mem_append_right _ hi)).trans (k1 vs fun i hi => hv i (List.mem_append_left _ hi))⟩
/-- (a, b, ..) = a tuple -/
def gT (n : Nat) (gs : MGs) : MG := fun d s => match d with
  | .tup xs => if xs.length = n then gs xs s else none
  | _ => none
theorem dg_tup {es : List Expr} {k n : Nat} {gs : MGs} {ts : List Nat} {pos : Pos} (hc : X.calm = true) (h1 : DGs X es gs ts) (hn : (assignEach es X.env).length = n := by rfl) (hst : (assignEach es X.env).findIdx? (·.1) = none := by rfl) : DG X (.Tuple es k pos) (gT n gs) ts := by
  obtain ⟨u, p, i⟩ := h1.ex
  refine ⟨_, pg_tup hc p hn hst, fun m F h H s σ d v s' Q r E hd e k => ?_⟩
  cases hd with
  | tup hf hs =>
    unfold gT at e
    simp only at e
    split at e
    · rename_i hl
      exact ⟨_, _, rfl, SqT.of (r.sub _ _ hf), by rw [← hs.length]; exact hl, i m F h H s σ _ _ s' Q r E hs e k⟩
    · cases e
  | _ => cases e
def sAsg (f : ME) (g : MG) : MS := fun s h => (f s h).fl fun d h => match g d s with
  | some s => .nx s h
  | none => .bad
theorem ds_asg {tg : Expr} {g : MG} {ts : List Nat} (h1 : DE X W e f) (h2 : DG X tg g ts) (hs : swapsWithSole [tg] e pos.line X.env = pure false := by rfl) (hw : swappedStores [tg] e X.env = pure none := by rfl)
    (h3 : (assignEach [tg] X.env).map (·.2) = [assign tg X.env] := by rfl) : DS X W (.Assign [tg] e pos) (sAsg f g) := by
  obtain ⟨t, p, i⟩ := h1.ex
  obtain ⟨u, p2, i2⟩ := h2.ex
  refine ⟨_, ps_asg p p2 hs hw h3, fun m F h H s σ Z r E q => ?_⟩
  refine i m F h H s σ _ r E (q.fl fun d h' m' F' H' v _ e' r' ha q => ?_)
  split at q
  · rename_i s' hs'
    exact i2 m' F' h' H' s σ d v s' _ r' (E.ext e') ha hs' fun σ' E' _ => q m' F' H' σ' .refl r' E'
  · exact q.elim
def sSet (i : Nat) (f : ME) : MS := fun s h => (f s h).fl fun d h => .nx (s.set i (some d)) h
theorem ds_set (i : Nat) {x : Str} {pos' : Pos} (hN : X.N.Nodup) (h1 : DE X W e f) (hi : X.N[i]? = some x := by rfl) (hx : Loc X.env.scope x := by first | exact Or.inl rfl | exact Or.inr rfl) (hs : swapsWith e (some (.Name x pos')) pos.line X.env = pure false := by rfl)
    (hf : X.fn x = true ∨ X.env.scope.names.lookup x = some .local := by first | exact .inl rfl | exact .inr rfl | assumption) : DS X W (.Assign [.Name x pos'] e pos) (sSet i f) := by
  obtain ⟨t, p, ip⟩ := h1.ex
  refine ⟨_, ps_set hN hi hx p hs hf, fun m F h H s σ Z r E q => ?_⟩
  exact ip m F h H s σ _ r E (q.fl fun d h' m' F' H' v _ e' r' ha q => q m' F' H' _ .refl r' ((E.ext e').set ha))
/-- a, b = x, y -/
def sPar (is : List Nat) (fs : List ME) : MS := fun s h => (evs fs s h).fl fun ds h => .nx ((is.zip ds).foldl (fun s p => s.set p.1 (some p.2)) s) h
theorem ds_par (i j : Nat) {x y : Str} {a b : Expr} {f1 f2 : ME} {px py pt : Pos} {kt k2 pt2} (hc : X.calm = true) (hN : X.N.Nodup) (h1 : DA X W [a, b] [f1, f2])
    (hi : X.N[i]? = some x := by rfl) (hj : X.N[j]? = some y := by rfl) (hij : i ≠ j := by decide)
    (hx : X.env.scope.names.lookup x = some .local := by rfl) (hy : X.env.scope.names.lookup y = some .local := by rfl)
    (hw : swappedStores [.Tuple [.Name x px, .Name y py] kt pt] (.Tuple [a, b] k2 pt2) X.env = pure (some [x, y]) := by rfl)
    (hs : swapsWithSole [.Tuple [.Name x px, .Name y py] kt pt] (.Tuple [a, b] k2 pt2) pos.line X.env = pure false := by rfl) :
    DS X W (.Assign [.Tuple [.Name x px, .Name y py] kt pt] (.Tuple [a, b] k2 pt2) pos) (sPar [i, j] [f1, f2]) := by
  obtain ⟨t, p, ip⟩ := h1.ex
  refine ⟨_, ps_par hc hN hi hj hij hx hy p hw hs, fun m F h H s σ Z r E q => ?_⟩
  refine ip m F h H s σ _ r E (q.fl fun d h' m' F' H' v hv e' r' ha q => ?_)
  have hl := evs_len hv
  cases ha with
  | nil => cases hl
  | cons r1 ha =>
    cases ha with
    | nil => cases hl
    | cons r2 ha =>
      cases ha with
      | nil => exact ⟨_, _, rfl, q m' F' H' _ .refl r' (((E.ext e').set r1).set r2)⟩
      | cons _ _ => cases hl
theorem ds_par3 (i j l : Nat) {x y z : Str} {a b c : Expr} {f1 f2 f3 : ME} {px py pz pt : Pos} {kt k2 pt2} (hc : X.calm = true) (hN : X.N.Nodup) (h1 : DA X W [a, b, c] [f1, f2, f3])
    (hi : X.N[i]? = some x := by rfl) (hj : X.N[j]? = some y := by rfl) (hl : X.N[l]? = some z := by rfl) (hij : i ≠ j := by decide) (hil : i ≠ l := by decide) (hjl : j ≠ l := by decide)
    (hx : X.env.scope.names.lookup x = some .local := by rfl) (hy : X.env.scope.names.lookup y = some .local := by rfl) (hz : X.env.scope.names.lookup z = some .local := by rfl)
    (hw : swappedStores [.Tuple [.Name x px, .Name y py, .Name z pz] kt pt] (.Tuple [a, b, c] k2 pt2) X.env = pure (some [x, y, z]) := by rfl)
    (hs : swapsWithSole [.Tuple [.Name x px, .Name y py, .Name z pz] kt pt] (.Tuple [a, b, c] k2 pt2) pos.line X.env = pure false := by rfl) :
    DS X W (.Assign [.Tuple [.Name x px, .Name y py, .Name z pz] kt pt] (.Tuple [a, b, c] k2 pt2) pos) (sPar [i, j, l] [f1, f2, f3]) := by
  obtain ⟨t, p, ip⟩ := h1.ex
  refine ⟨_, ps_par3 hc hN hi hj hl hij hil hjl hx hy hz p hw hs, fun m F h H s σ Z r E q => ?_⟩
  refine ip m F h H s σ _ r E (q.fl fun d h' m' F' H' v hv e' r' ha q => ?_)
  have hl := evs_len hv
  cases ha with
  | nil => cases hl
  | cons r1 ha =>
    cases ha with
    | nil => cases hl
    | cons r2 ha =>
      cases ha with
      | nil => cases hl
      | cons r3 ha =>
        cases ha with
        | nil => exact ⟨_, _, _, rfl, q m' F' H' _ .refl r' ((((E.ext e').set r1).set r2).set r3)⟩
        | cons _ _ => cases hl
/-- x op= e, op by values -/
def SemIp (K : PySem.W.Frag) (W : Wi) (t : TIp) (g : M2) : Prop := ∀ m F h H x y d e Q, Rel K m F h H → HasD K m F d x → HasD K m F e y → post K W (HasD K) m F H (g d e h) Q → t x y H Q
def gIAdd : M2 := fun d e h => match d, e with
  | .int i, .int j => .ok (.int (i + j)) h
  | _, _ => .bad
def gISub : M2 := fun d e h => match d, e with
  | .int i, .int j => .ok (.int (i - j)) h
  | _, _ => .bad
theorem sem_iadd {K : PySem.W.Frag} : SemIp K W (ipI fun i j => i + j) gIAdd := fun m F h H x y d e Q r hd he q => by
  unfold gIAdd at q
  split at q
  · cases hd
    cases he
    exact ⟨_, _, rfl, rfl, q.ok r (.int _)⟩
  · exact q.elim
theorem sem_isub {K : PySem.W.Frag} : SemIp K W (ipI fun i j => i - j) gISub := fun m F h H x y d e Q r hd he q => by
  unfold gISub at q
  split at q
  · cases hd
    cases he
    exact ⟨_, _, rfl, rfl, q.ok r (.int _)⟩
  · exact q.elim
def sAug (i : Nat) (g : M2) (f : ME) : MS := fun s h => match s[i]? with
  | some (some d) => (f s h).fl fun e h => (g d e h).fl fun z h => .nx (s.set i (some z)) h
  | _ => .bad
theorem ds_aug_ (i : Nat) {x : Str} {op : Operator} {t : TIp} {g : M2} {pos' : Pos} (ho : PIp X op t) (sm : SemIp X.K W t g) (hN : X.N.Nodup) (h1 : DE X W e f) (hi : X.N[i]? = some x) (hx : Loc X.env.scope x)
    (hf : X.fn x = true ∨ X.env.scope.names.lookup x = some .local) : DS X W (.AugAssign (.Name x pos') op e pos) (sAug i g f) := by
  obtain ⟨u, p, ip⟩ := h1.ex
  refine ⟨_, ps_aug hN hi hx p ho hf, fun m F h H s σ Z r E q => ?_⟩
  unfold sAug at q
  split at q
  · rename_i d hd
    obtain ⟨v, hv, rv⟩ := E.at_ i d hd
    refine ⟨v, hv, ?_⟩
    refine ip m F h H s σ _ r E (q.fl fun d2 h' m' F' H' v2 _ e' r' ha q => ?_)
    refine sm m' F' h' H' v v2 d d2 _ r' (rv.ext e') ha (q.fl fun d3 h3 m3 F3 H3 v3 _ e3 r3 ha3 q => ?_)
    exact q m3 F3 H3 _ .refl r3 (((E.ext e').ext e3).set ha3)
  · exact q.elim
theorem ds_aug (i : Nat) {x : Str} {pos' : Pos} (hN : X.N.Nodup) (h1 : DE X W e f) (hi : X.N[i]? = some x := by rfl) (hx : Loc X.env.scope x := by first | exact Or.inl rfl | exact Or.inr rfl)
    (hf : X.fn x = true ∨ X.env.scope.names.lookup x = some .local := by first | exact .inl rfl | exact .inr rfl | assumption) : DS X W (.AugAssign (.Name x pos') .Add e pos) (sAug i gIAdd f) := ds_aug_ i ip_add sem_iadd hN h1 hi hx hf
theorem ds_augM (i : Nat) {x : Str} {pos' : Pos} (hN : X.N.Nodup) (h1 : DE X W e f) (hi : X.N[i]? = some x := by rfl) (hx : Loc X.env.scope x := by first | exact Or.inl rfl | exact Or.inr rfl)
    (hf : X.fn x = true ∨ X.env.scope.names.lookup x = some .local := by first | exact .inl rfl | exact .inr rfl | assumption) : DS X W (.AugAssign (.Name x pos') .Sub e pos) (sAug i gISub f) := ds_aug_ i ip_sub sem_isub hN h1 hi hx hf

/-! ### a list's cell is written -/
/-- the n-th cell and its items, of a list -/
def cellL (d : D) (h : AH) : Option (Nat × List D) := match d with
  | .ref n => match h[n]? with
    | some (.lst xs) => some (n, xs)
    | _ => none
  | _ => none
section
variable {K : PySem.W.Frag} {m : Ad} {F : Hp} {h : AH} {H : Hp}
theorem cellL_at (r : Rel K m F h H) {d : D} {v : V} {n : Nat} {xs : List D} (hd : HasD K m F d v) (e : cellL d h = some (n, xs)) : ∃ a vs, v = .ref a ∧ m[n]? = some a ∧ H a = some (.lst vs) ∧ HasDs K m F xs vs := by
  cases hd with
  | ref hm =>
    unfold cellL at e
    simp only at e
    split at e
    · rename_i ys hc
      cases e
      obtain ⟨vs, h1, h2⟩ := cell_lst r hm hc
      exact ⟨_, vs, rfl, hm, h1, h2⟩
    · cases e
  | _ => cases e
end
/-- o[i] = v -/
def setL (o i v : D) (h : AH) : Option AH := match i with
  | .int k => match cellL o h with
    | some (n, xs) => match ixN xs.length k with
      | some j => some (h.set n (.lst (xs.set j v)))
      | none => none
    | none => none
  | _ => none
theorem setL_at {K : PySem.W.Frag} {m : Ad} {F : Hp} {h h' : AH} {H : Hp} {o i d : D} {x y v : V} {Q : Hp → Prop} (r : Rel K m F h H) (ho : HasD K m F o x) (hi : HasD K m F i y) (hd : HasD K m F d v) (e : setL o i d h = some h')
    (q : ∀ H', Rel K m F h' H' → Ext m F H m F H' → Q H') : rSetL x y v H Q := by
  unfold setL at e
  split at e
  · split at e
    · rename_i n xs e1
      split at e
      · rename_i j hj
        cases e
        obtain ⟨a, vs, rfl, hm, ha, h1⟩ := cellL_at r ho e1
        cases hi
        obtain ⟨r', e'⟩ := r.write (c := .lst (xs.set j d)) (o := .lst (vs.set j v)) hm (HasDs.set hd j h1)
        exact ⟨a, vs, _, j, rfl, rfl, ha, by rw [← h1.length]; exact hj, q _ r' e'⟩
      · cases e
    · cases e
  · cases e
def sSub (fo fi fv : ME) : MS := fun s h => (fv s h).fl fun v h => (fo s h).fl fun o h => (fi s h).fl fun i h => match setL o i v h with
  | some h => .nx s h
  | none => .bad
theorem ds_sub {o i : Expr} {fo fi : ME} {p2 : Pos} (h1 : DE X W e f) (h2 : DE X W o fo) (h3 : DE X W i fi) (ha : ∀ v, assign (.Subscript o i p2) X.env v = (do
      let ov ← holding [v] (eval o X.env)
      let iv ← holding [v, ov] (eval i X.env)
      standAt p2
      holding [v, ov, iv] (setItem ov iv v)
      release [v, ov, iv] []) := by exact fun _ => rfl) (hs : swapsWithSole [.Subscript o i p2] e pos.line X.env = pure false := by rfl) (hw : swappedStores [.Subscript o i p2] e X.env = pure none := by rfl)
    (h4 : (assignEach [.Subscript o i p2] X.env).map (·.2) = [assign (.Subscript o i p2) X.env] := by rfl) : DS X W (.Assign [.Subscript o i p2] e pos) (sSub fo fi f) := by
  obtain ⟨t, p, ip⟩ := h1.ex
  obtain ⟨t2, q2, ip2⟩ := h2.ex
  obtain ⟨t3, q3, ip3⟩ := h3.ex
  refine ⟨_, ps_asg p (pg_sub q2 q3 set_list ha) hs hw h4, fun m F h H s σ Z r E q => ?_⟩
  refine ip m F h H s σ _ r E (q.fl fun d h' m' F' H' v _ e' r' ha q => ?_)
  refine ip2 m' F' h' H' s σ _ r' (E.ext e') (q.fl fun d2 h2 m2 F2 H2 v2 _ e2 r2 ha2 q => ?_)
  refine ip3 m2 F2 h2 H2 s σ _ r2 ((E.ext e').ext e2) (q.fl fun d3 h3 m3 F3 H3 v3 _ e3 r3 ha3 q => ?_)
  split at q
  · rename_i h4 hh
    exact setL_at r3 (ha2.ext e3) ha3 ((ha.ext e2).ext e3) hh fun H4 r4 e4 => q m3 F3 H4 σ e4 r4 ((((E.ext e').ext e2).ext e3).ext e4)
  · exact q.elim
/-- o[i] op= v, o a list, i from 0 on -/
theorem get_list : PGet X (fun o i H Q => ∃ p xs k v, o = .ref p ∧ i = .int k ∧ 0 ≤ k ∧ SqL X.K H p xs ∧ xs[k.toNat]? = some v ∧ Q v H) := by
  intro pins s σ H o i ov iv Q I ro ri h
  obtain ⟨p, xs, k, v, rfl, rfl, h0, hq, hx, q⟩ := h
  cases ro
  obtain ⟨t, rfl⟩ := ri
  obtain ⟨its, r, pl, hz⟩ := I.list hq
  obtain ⟨w, ew, rw'⟩ := r.get hx
  have hl := r.length
  have hn := line63
  have hk := (List.getElem?_eq_some_iff.mp hx).1
  exact wpAny_getItem_list pl.isList h0 (by omega) (by simpa using ew) ⟨v, H, I, rw', q⟩
def getL (o i : D) (h : AH) : Option D := match i with
  | .int k => if 0 ≤ k then (match listAt o h with
    | some xs => xs[k.toNat]?
    | none => none) else none
  | _ => none
def sAugS (g : M2) (fo fi f : ME) : MS := fun s h => (fo s h).fl fun o h => (fi s h).fl fun i h => match getL o i h with
  | some x => (f s h).fl fun v h => (g x v h).fl fun z h => match setL o i z h with
    | some h => .nx s h
    | none => .bad
  | none => .bad
theorem ds_augS_ {o i : Expr} {fo fi : ME} {p2 : Pos} {op : Operator} {t : TIp} {g : M2} (ho : PIp X op t) (sm : SemIp X.K W t g) (h1 : DE X W e f) (h2 : DE X W o fo) (h3 : DE X W i fi)
    (ha : ∀ ov iv new, augStore i ov iv new = (do holding [new, ov, iv] (setItem ov iv new); release [new, ov, iv] []; pure .next)) : DS X W (.AugAssign (.Subscript o i p2) op e pos) (sAugS g fo fi f) := by
  obtain ⟨t, p, ip⟩ := h1.ex
  obtain ⟨t2, q2, ip2⟩ := h2.ex
  obtain ⟨t3, q3, ip3⟩ := h3.ex
  refine ⟨_, ps_augS q2 q3 get_list p ho set_list ha, fun m F h H s σ Z r E q => ?_⟩
  refine ip2 m F h H s σ _ r E (q.fl fun d1 h1 m1 F1 H1 v1 _ e1 r1 ha1 q => ?_)
  refine ip3 m1 F1 h1 H1 s σ _ r1 (E.ext e1) (q.fl fun d2 h2 m2 F2 H2 v2 _ e2 r2 ha2 q => ?_)
  split at q
  · rename_i x hx
    unfold getL at hx
    split at hx
    · split at hx
      · rename_i k h0
        split at hx
        · rename_i xs hxs
          obtain ⟨a, vs, rfl, hq, hvs⟩ := listAt_at r2 (ha1.ext e2) hxs
          obtain ⟨w, hw, rw⟩ := hvs.get hx
          cases ha2
          refine ⟨a, vs, _, w, rfl, rfl, h0, hq, hw, ?_⟩
          refine ip m2 F2 h2 H2 s σ _ r2 ((E.ext e1).ext e2) (q.fl fun d3 h3 m3 F3 H3 v3 _ e3 r3 ha3 q => ?_)
          refine sm m3 F3 h3 H3 w v3 x d3 _ r3 (rw.ext e3) ha3 (q.fl fun d4 h4 m4 F4 H4 v4 _ e4 r4 ha4 q => ?_)
          split at q
          · rename_i h5 hh
            exact setL_at r4 (((ha1.ext e2).ext e3).ext e4) (.int _) ha4 hh fun H5 r5 e5 => q m4 F4 H5 σ e5 r5 (((((E.ext e1).ext e2).ext e3).ext e4).ext e5)
          · exact q.elim
        · cases hx
      · cases hx
    · cases hx
  · exact q.elim
theorem ds_augS {o i : Expr} {fo fi : ME} {p2 : Pos} (h1 : DE X W e f) (h2 : DE X W o fo) (h3 : DE X W i fi)
    (ha : ∀ ov iv new, augStore i ov iv new = (do holding [new, ov, iv] (setItem ov iv new); release [new, ov, iv] []; pure .next) := by exact fun _ _ _ => rfl) : DS X W (.AugAssign (.Subscript o i p2) .Add e pos) (sAugS gIAdd fo fi f) := ds_augS_ ip_add sem_iadd h1 h2 h3 ha

/-! ### slots forgotten -/
def fgt (is : List Nat) (s : Sl) : Sl := is.foldl (fun s i => s.set i none) s
theorem EnvR.unset {K : PySem.W.Frag} {m : Ad} {F : Hp} {s : Sl} {σ : L2.St} (E : EnvR K m F s σ) (i : Nat) : EnvR K m F (s.set i none) σ := by
  refine ⟨by rw [E.len, List.length_set], fun j d q => ?_⟩
  by_cases hj : i = j
  · subst hj
    by_cases hi : i < s.length
    · rw [List.getElem?_set_self hi] at q
      cases q
    · rw [List.getElem?_eq_none (by rw [List.length_set]; omega)] at q
      cases q
  · rw [List.getElem?_set_ne hj] at q
    exact E.at_ j d q
theorem EnvR.fgt {K : PySem.W.Frag} {m : Ad} {F : Hp} {σ : L2.St} : ∀ (is : List Nat) {s : Sl}, EnvR K m F s σ → EnvR K m F (DL.fgt is s) σ
  | [], _, E => E
  | i :: is, s, E => EnvR.fgt is (s := s.set i none) (E.unset i)
def sFgt (is : List Nat) (f : MS) : MS := fun s h => match f s h with
  | .nx s h => .nx (fgt is s) h
  | .ct s h => .ct (fgt is s) h
  | .bk s h => .bk (fgt is s) h
  | r => r
theorem fgt_imp (is : List Nat) {t : TS} (i : ∀ m F h H s σ Z, Rel X.K m F h H → EnvR X.K m F s σ → postS X.K W m F H (fs s h) Z → t Z σ H) :
    ∀ m F h H s σ Z, Rel X.K m F h H → EnvR X.K m F s σ → postS X.K W m F H (sFgt is fs s h) Z → t Z σ H := fun m F h H s σ Z r E q => by
  refine i m F h H s σ Z r E ?_
  unfold sFgt at q
  cases hf : fs s h with
  | nx s' h' => rw [hf] at q; exact fun m' F' H' σ' e' r' E' => q m' F' H' σ' e' r' (E'.fgt is)
  | ct s' h' => rw [hf] at q; exact fun m' F' H' σ' e' r' E' => q m' F' H' σ' e' r' (E'.fgt is)
  | bk s' h' => rw [hf] at q; exact fun m' F' H' σ' e' r' E' => q m' F' H' σ' e' r' (E'.fgt is)
  | rt d h' => rw [hf] at q; exact q
  | exc x h' => rw [hf] at q; exact q
  | bad => rw [hf] at q; exact q
theorem ds_fgt (is : List Nat) (h1 : DS X W st fs) : DS X W st (sFgt is fs) := by
  obtain ⟨t, p, i⟩ := h1.ex
  exact ⟨t, p, fgt_imp is i⟩
theorem dss_fgt (is : List Nat) {sts : List Stmt} (h1 : DSs X W sts fs) : DSs X W sts (sFgt is fs) := by
  obtain ⟨t, p, i⟩ := h1.ex
  exact ⟨t, p, fgt_imp is i⟩
end
end DL

namespace DL
open PySem PySem.Spec PyProof.Rows L2

/-! ### what is walked -/
/-- what a loop walks: the items, and the cells that have to stay as they are -/
structure Src where
  items : List D
  chk : List (Nat × List D)
def okS (chk : List (Nat × List D)) (h : AH) : Prop := ∀ p ∈ chk, h[p.1]? = some (.lst p.2)
theorem okS_nil {h : AH} : okS [] h := fun _ z => nomatch z
abbrev nilH : Hp := fun _ => none
theorem Ext.drop {m m' : Ad} {F F' H H' : Hp} (e : Ext m F H m' F' H') : Ext m F nilH m' F' nilH := ⟨e.pre, e.fz, e.ls, fun _ _ _ z => nomatch z⟩
/-- an iterator yields the items -/
structure ItR (K : PySem.W.Frag) (J : It) (x : Src) (m : Ad) (F : Hp) : Prop where
  go : ∀ i m' F' h' H', Ext m F nilH m' F' nilH → Rel K m' F' h' H' → okS x.chk h' → i < x.items.length → J.go i H'
  yld : ∀ i m' F' h' H' v H2 d, Ext m F nilH m' F' nilH → Rel K m' F' h' H' → okS x.chk h' → J.yld i H' v H2 → x.items[i]? = some d → ∃ F2, Ext m' F' H' m' F2 H2 ∧ Rel K m' F2 h' H2 ∧ HasD K m' F2 d v
  stop : ∀ i m' F' h' H', Ext m F nilH m' F' nilH → Rel K m' F' h' H' → okS x.chk h' → x.items.length ≤ i → i ≤ x.items.length → J.stop i H'
abbrev MI := Sl → AH → Res Src
def RI (K : PySem.W.Frag) : Ad → Hp → Src → It → Prop := fun m F x J => ItR K J x m F
structure DI (X : Cx) (W : Wi) (tg iter : Expr) (f : MI) : Prop where
  ex : ∃ wi, PI X tg iter wi ∧ ∀ m F h H s σ R, Rel X.K m F h H → EnvR X.K m F s σ → post X.K W (RI X.K) m F H (f s h) R → wi σ H R
/-- a list's items: a cell is looked at in each turn -/
def chkOf (d : D) (h : AH) : List (Nat × List D) := match cellL d h with
  | some p => [p]
  | none => []
section
variable {K : PySem.W.Frag} {m : Ad} {F : Hp} {h : AH} {H : Hp}
theorem list_later {d : D} {v : V} {xs : List D} (hd : HasD K m F d v) (e : listAt d h = some xs) : ∃ a, v = .ref a ∧ ∀ m' F' h' H', Ext m F nilH m' F' nilH → Rel K m' F' h' H' → okS (chkOf d h) h' → ∃ vs, SqL K H' a vs ∧ HasDs K m' F' xs vs := by
  cases hd with
  | lst hf hs =>
    have : _ = xs := Option.some.inj e
    subst this
    exact ⟨_, rfl, fun m' F' h' H' e' r' _ => ⟨_, SqL.of (r'.sub _ _ (e'.ls _ _ trivial hf)), hs.ext e'⟩⟩
  | lsk hf hs =>
    have : _ = xs := Option.some.inj e
    subst this
    exact ⟨_, rfl, fun m' F' h' H' e' r' _ => ⟨_, r'.sqL (SqL.ext e' hf), hs.ext e'⟩⟩
  | ref hm =>
    rename_i n a
    unfold listAt at e
    simp only at e
    split at e
    · rename_i ys hc
      cases e
      refine ⟨a, rfl, fun m' F' h' H' e' r' ok => ?_⟩
      have hk : h'[n]? = some (.lst xs) := ok (n, xs) (by
        unfold chkOf cellL
        simp only [hc]
        exact List.mem_singleton.mpr rfl)
      obtain ⟨vs, h1, h2⟩ := cell_lst r' (e'.pre _ _ hm) hk
      exact ⟨vs, SqL.of h1, h2⟩
    · cases e
  | _ => cases e
end
theorem itr_list {K : PySem.W.Frag} {m : Ad} {F : Hp} {a : Addr} {xs : List D} {chk : List (Nat × List D)}
    (k : ∀ m' F' h' H', Ext m F nilH m' F' nilH → Rel K m' F' h' H' → okS chk h' → ∃ vs, SqL K H' a vs ∧ HasDs K m' F' xs vs) : ItR K (Itl K a) ⟨xs, chk⟩ m F where
  go := fun i m' F' h' H' e' r' ok hi => by
    obtain ⟨vs, h1, h2⟩ := k m' F' h' H' e' r' ok
    have hi' : i < xs.length := hi
    obtain ⟨v, hv, _⟩ := h2.get (List.getElem?_eq_getElem hi')
    exact ⟨vs, v, h1, hv⟩
  yld := fun i m' F' h' H' v H2 d e' r' ok y hd => by
    obtain ⟨vs, h1, h2⟩ := k m' F' h' H' e' r' ok
    obtain ⟨rfl, y⟩ := y
    obtain ⟨w, hw, rw⟩ := h2.get hd
    have := y vs h1
    rw [hw] at this
    cases this
    exact ⟨F', .refl, r', rw⟩
  stop := fun i m' F' h' H' e' r' ok hi _ => by
    obtain ⟨vs, h1, h2⟩ := k m' F' h' H' e' r' ok
    exact ⟨vs, h1, by rw [← h2.length]; exact hi⟩
theorem itr_tup {K : PySem.W.Frag} {m : Ad} {F : Hp} {a : Addr} {xs : List D} {vs : List V} (hf : SqT K F a vs) (hs : HasDs K m F xs vs) : ItR K (Itt K a) ⟨xs, []⟩ m F where
  go := fun i m' F' h' H' e' r' ok hi => by
    obtain ⟨v, hv, _⟩ := hs.get (List.getElem?_eq_getElem hi)
    exact ⟨vs, v, r'.sqT (SqT.ext e' hf), hv⟩
  yld := fun i m' F' h' H' v H2 d e' r' ok y hd => by
    obtain ⟨rfl, y⟩ := y
    obtain ⟨w, hw, rw⟩ := hs.get hd
    have := y vs (r'.sqT (SqT.ext e' hf))
    rw [hw] at this
    cases this
    exact ⟨F', .refl, r', rw.ext e'⟩
  stop := fun i m' F' h' H' e' r' ok hi _ => ⟨vs, r'.sqT (SqT.ext e' hf), by rw [← hs.length]; exact hi⟩
/-- lo, lo + 1, .. -/
def rngD (lo : Int) (n : Nat) : List D := (List.range n).map fun (i : Nat) => D.int (lo + (i : Int))
theorem rngD_get {lo : Int} {n i : Nat} {d : D} (h : (rngD lo n)[i]? = some d) : d = .int (lo + (i : Int)) := by
  unfold rngD at h
  rw [List.getElem?_map] at h
  cases hi : (List.range n)[i]? with
  | none => rw [hi] at h; cases h
  | some j =>
    rw [hi] at h
    obtain ⟨h1, h2⟩ := List.getElem?_eq_some_iff.mp hi
    rw [List.getElem_range] at h2
    subst h2
    exact (Option.some.inj h).symm
theorem itr_rng {K : PySem.W.Frag} {m : Ad} {F : Hp} {lo : Int} {n : Nat} : ItR K (Itr lo n) ⟨rngD lo n, []⟩ m F where
  go := fun i m' F' h' H' e' r' ok hi => by
    show i < n
    simpa [rngD] using hi
  yld := fun i m' F' h' H' v H2 d e' r' ok y hd => by
    obtain ⟨rfl, rfl⟩ := y
    rw [rngD_get hd]
    exact ⟨F', .refl, r', .int _⟩
  stop := fun i m' F' h' H' e' r' ok hi _ => by
    show n ≤ i
    simpa [rngD] using hi
section
variable {X : Cx} {W : Wi} {tg e a b : Expr} {f f1 f2 : ME} {pos : Pos}
/-- over a list, over a tuple -/
def iL (f : ME) : MI := fun s h => (f s h).bind fun d h => match listAt d h with
  | some xs => .ok ⟨xs, chkOf d h⟩ h
  | none => .bad
def iT (f : ME) : MI := fun s h => (f s h).bind fun d h => match d with
  | .tup xs => .ok ⟨xs, []⟩ h
  | _ => .bad
theorem di_list (h1 : DE X W e f) : DI X W tg e (iL f) := by
  obtain ⟨t, p, i⟩ := h1.ex
  refine ⟨_, pi_list p, fun m F h H s σ R r E q => ?_⟩
  refine i m F h H s σ _ r E (q.bind fun d h' m' F' H' v _ e' r' ha q => ?_)
  split at q
  · rename_i xs hx
    obtain ⟨a, ea, k⟩ := list_later ha hx
    obtain ⟨a', vs, ea', hs, _⟩ := listAt_at r' ha hx
    subst ea
    cases ea'
    exact ⟨a, rfl, ⟨vs, hs⟩, q.ok r' (itr_list k)⟩
  · exact q.elim
theorem di_tup (h1 : DE X W e f) : DI X W tg e (iT f) := by
  obtain ⟨t, p, i⟩ := h1.ex
  refine ⟨_, pi_tup p, fun m F h H s σ R r E q => ?_⟩
  refine i m F h H s σ _ r E (q.bind fun d h' m' F' H' v _ e' r' ha q => ?_)
  split at q
  · cases ha with
    | tup hf hs => exact ⟨_, rfl, ⟨_, SqT.of (r'.sub _ _ hf)⟩, q.ok r' (itr_tup (SqT.of hf) hs)⟩
  · exact q.elim
def iR1 (f : ME) : MI := fun s h => (f s h).bind fun d h => match d with
  | .int j => if decide (-(2 ^ 62) ≤ j ∧ j < 2 ^ 62) = true then .ok ⟨rngD 0 j.toNat, []⟩ h else .bad
  | _ => .bad
def iR2 (f1 f2 : ME) : MI := fun s h => (f1 s h).bind fun d h => (f2 s h).bind fun e h => match d, e with
  | .int i, .int j => if decide ((-(2 ^ 62) ≤ i ∧ i < 2 ^ 62) ∧ -(2 ^ 62) ≤ j ∧ j < 2 ^ 62) = true then .ok ⟨rngD i (j - i).toNat, []⟩ h else .bad
  | _, _ => .bad
theorem di_range1 {p : Pos} (hm : X.mg "range" = none) (h1 : DE X W a f) (hg : Gl X "range" := by rfl) (hs : starEach [a] X.env = [(false, eval a X.env)] := by rfl) (hs' : starEach [a] X.env = (false, eval a X.env) :: starEach [] X.env := by rfl) : DI X W tg (.Call (.Name "range" p) [a] [] pos) (iR1 f) := by
  obtain ⟨t, p1, i⟩ := h1.ex
  refine ⟨_, pi_range1 hg hm (pa_cons p1 pa_nil hs') hs, fun m F h H s σ R r E q => ?_⟩
  refine i m F h H s σ _ r E (q.bind fun d h' m' F' H' v _ e' r' ha q => ?_)
  split at q
  · split at q
    · rename_i hj
      have hj := of_decide_eq_true hj
      cases ha
      exact ⟨_, rfl, hj.1, hj.2, q.ok r' itr_rng⟩
    · exact q.elim
  · exact q.elim
theorem di_range2 {p : Pos} (hm : X.mg "range" = none) (h1 : DE X W a f1) (h2 : DE X W b f2) (hg : Gl X "range" := by rfl) (hs : starEach [a, b] X.env = [(false, eval a X.env), (false, eval b X.env)] := by rfl) (hs2 : starEach [b] X.env = [(false, eval b X.env)] := by rfl)
    (hs' : starEach [a, b] X.env = (false, eval a X.env) :: starEach [b] X.env := by rfl) (hs'' : starEach [b] X.env = (false, eval b X.env) :: starEach [] X.env := by rfl) : DI X W tg (.Call (.Name "range" p) [a, b] [] pos) (iR2 f1 f2) := by
  obtain ⟨t, p1, i1⟩ := h1.ex
  obtain ⟨t2, p2, i2⟩ := h2.ex
  refine ⟨_, pi_range2 hg hm (pa_cons p1 (pa_cons p2 pa_nil hs'') hs') hs hs2, fun m F h H s σ R r E q => ?_⟩
  refine i1 m F h H s σ _ r E (q.bind fun d h' m' F' H' v _ e' r' ha q => ?_)
  refine i2 m' F' h' H' s σ _ r' (E.ext e') (q.bind fun d2 h2 m2 F2 H2 v2 _ e2 r2 ha2 q => ?_)
  split at q
  · split at q
    · rename_i hj
      have hj := of_decide_eq_true hj
      cases ha
      cases ha2
      exact ⟨_, _, rfl, ⟨hj.1.1, hj.1.2, hj.2.1, hj.2.2⟩, q.ok r2 itr_rng⟩
    · exact q.elim
  · exact q.elim
end

/-! ### for -/
open Classical in
/-- the loop over what is left -/
noncomputable def forL (chk : List (Nat × List D)) (g : MG) (body : MS) : List D → Sl → AH → Fl
  | [], s, h => if okS chk h then .nx s h else .bad
  | d :: ds, s, h => if okS chk h then (match g d s with
    | some s1 => match body s1 h with
      | .nx s2 h2 => forL chk g body ds s2 h2
      | .ct s2 h2 => forL chk g body ds s2 h2
      | .bk s2 h2 => .nx s2 h2
      | .rt d h2 => .rt d h2
      | .exc x h2 => .exc x h2
      | .bad => .bad
    | none => .bad) else .bad
noncomputable def sFor (i : MI) (g : MG) (body : MS) : MS := fun s h => (i s h).fl fun x h => forL x.chk g body x.items s h
theorem ds_for {X : Cx} {W : Wi} {tg iter : Expr} {body : List Stmt} {fi : MI} {g : MG} {fb : MS} {ts : List Nat} {pos : Pos} (hp : PassesOwn (model X.prog X.w) X.A X.env X.xe) (hc : X.calm = true) (h1 : DI X W tg iter fi) (h2 : DG X tg g ts) (h3 : DSs X W body fb)
    (hs : ∀ x, foldedSetIterable iter X.env x = pure x := by exact fun _ => rfl) : DS X W (.For tg iter body [] pos) (sFor fi g fb) := by
  obtain ⟨wi, p1, i1⟩ := h1.ex
  obtain ⟨tg', p2, i2⟩ := h2.ex
  obtain ⟨tb, p3, i3⟩ := h3.ex
  refine ⟨_, ps_for hp hc p1 p2 p3 hs, fun m F h H s σ Z r E q => ?_⟩
  refine i1 m F h H s σ _ r E (q.fl fun x h1 m1 F1 H1 J _ e1 r1 (hJ : ItR X.K J x m1 F1) q => ?_)
  have E1 := E.ext e1
  refine ⟨fun i mm τ G => ∃ m' F' h' s', Ext m1 F1 H1 m' F' G ∧ Rel X.K m' F' h' G ∧ EnvR X.K m' F' s' τ ∧ i ≤ x.items.length ∧ mm = x.items.length - i ∧ postS X.K W m' F' G (forL x.chk g fb (x.items.drop i) s' h') Z,
    ⟨_, m1, F1, h1, s, .refl, r1, E1, Nat.zero_le _, rfl, q⟩, ?_⟩
  rintro i mm τ G ⟨m', F', h', s', e', r', E', hi, rfl, q⟩
  rcases Nat.lt_or_ge i x.items.length with hlt | hge
  · have hd : x.items[i]? = some x.items[i] := List.getElem?_eq_getElem hlt
    rw [List.drop_eq_getElem_cons hlt] at q
    unfold forL at q
    split at q
    · rename_i ok
      refine .inr ⟨hJ.go i m' F' h' G e'.drop r' ok hlt, fun τ' G' => ∃ mm', mm' < x.items.length - i ∧ ∃ m2 F2 h2 s2, Ext m1 F1 H1 m2 F2 G' ∧ Rel X.K m2 F2 h2 G' ∧ EnvR X.K m2 F2 s2 τ' ∧ i + 1 ≤ x.items.length ∧ mm' = x.items.length - (i + 1) ∧ postS X.K W m2 F2 G' (forL x.chk g fb (x.items.drop (i + 1)) s2 h2) Z,
        fun _ _ z => z, fun v G2 hy => ?_⟩
      obtain ⟨F2, e2, r2, hv⟩ := hJ.yld i m' F' h' G v G2 _ e'.drop r' ok hy hd
      split at q
      · rename_i s1 hs1
        refine i2 m' F2 h' G2 s' τ _ v s1 _ r2 (E'.ext e2) hv hs1 fun τ1 Eτ _ => ?_
        refine i3 m' F2 h' G2 s1 τ1 _ r2 Eτ ?_
        have q := q.ext e2
        cases hb : fb s1 h' with
        | nx s2 h2 =>
          rw [hb] at q
          exact fun m3 F3 H3 σ3 e3 r3 E3 => ⟨_, by omega, m3, F3, h2, s2, (e'.trans e2).trans e3, r3, E3, hlt, rfl, q.ext e3⟩
        | ct s2 h2 =>
          rw [hb] at q
          exact fun m3 F3 H3 σ3 e3 r3 E3 => ⟨_, by omega, m3, F3, h2, s2, (e'.trans e2).trans e3, r3, E3, hlt, rfl, q.ext e3⟩
        | bk s2 h2 => rw [hb] at q; exact q
        | rt d h2 => rw [hb] at q; exact q
        | exc x h2 => rw [hb] at q; exact q
        | bad => rw [hb] at q; exact q
      · exact q.elim
    · exact q.elim
  · rw [List.drop_eq_nil_of_le hge] at q
    unfold forL at q
    split at q
    · rename_i ok
      exact .inl ⟨hJ.stop i m' F' h' G e'.drop r' ok hge hi, q m' F' G τ .refl r' E'⟩
    · exact q.elim

/-! ### while -/
def whileN (c : MT) (body : MS) : Nat → Sl → AH → Fl
  | 0, _, _ => .bad
  | n + 1, s, h => (c s h).fl fun b h => if b = true then (match body s h with
      | .nx s h => whileN c body n s h
      | .ct s h => whileN c body n s h
      | .bk s h => .nx s h
      | r => r) else .nx s h
open Classical in
noncomputable def sWhile (c : MT) (body : MS) : MS := fun s h => if z : ∃ n, whileN c body n s h ≠ .bad then whileN c body z.choose s h else .bad
theorem whileN_mono {c : MT} {body : MS} : ∀ {n k : Nat} {s : Sl} {h : AH}, whileN c body n s h ≠ .bad → n ≤ k → whileN c body k s h = whileN c body n s h
  | 0, _, _, _, z, _ => absurd rfl z
  | n + 1, 0, _, _, _, l => absurd l (by omega)
  | n + 1, k + 1, s, h, z, l => by
    unfold whileN at z ⊢
    cases hc : c s h with
    | ok b h1 =>
      rw [hc] at z
      simp only [Res.fl] at z ⊢
      cases b with
      | true =>
        simp only [if_true] at z ⊢
        cases hb : body s h1 with
        | nx s2 h2 => rw [hb] at z; exact whileN_mono z (by omega)
        | ct s2 h2 => rw [hb] at z; exact whileN_mono z (by omega)
        | _ => rfl
      | false => rfl
    | exc x h1 => rfl
    | bad => rfl
theorem sWhile_eq {c : MT} {body : MS} {n : Nat} {s : Sl} {h : AH} (z : whileN c body n s h ≠ .bad) : sWhile c body s h = whileN c body n s h := by
  have ex : ∃ n, whileN c body n s h ≠ .bad := ⟨n, z⟩
  unfold sWhile
  rw [dif_pos ex]
  rcases Nat.le_total n ex.choose with l | l
  · exact whileN_mono z l
  · exact (whileN_mono ex.choose_spec l).symm
theorem sWhile_get {c : MT} {body : MS} {s : Sl} {h : AH} (z : sWhile c body s h ≠ .bad) : ∃ n, whileN c body n s h = sWhile c body s h := by
  by_cases ex : ∃ n, whileN c body n s h ≠ .bad
  · obtain ⟨n, hn⟩ := ex
    exact ⟨n, (sWhile_eq hn).symm⟩
  · unfold sWhile at z
    rw [dif_neg ex] at z
    exact absurd rfl z
/-- one turn -/
theorem sWhile_step {c : MT} {body : MS} {s : Sl} {h : AH} : sWhile c body s h = (c s h).fl fun b h => if b = true then (match body s h with
      | .nx s h => sWhile c body s h
      | .ct s h => sWhile c body s h
      | .bk s h => .nx s h
      | r => r) else .nx s h := by
  have fwd : ∀ n, whileN c body (n + 1) s h ≠ .bad → whileN c body (n + 1) s h = (c s h).fl fun b h => if b = true then (match body s h with
      | .nx s h => sWhile c body s h
      | .ct s h => sWhile c body s h
      | .bk s h => .nx s h
      | r => r) else .nx s h := fun n z => by
    unfold whileN at z ⊢
    cases hc : c s h with
    | ok b h1 =>
      rw [hc] at z
      simp only [Res.fl] at z ⊢
      cases b with
      | true =>
        simp only [if_true] at z ⊢
        cases hb : body s h1 with
        | nx s2 h2 => rw [hb] at z; exact (sWhile_eq z).symm
        | ct s2 h2 => rw [hb] at z; exact (sWhile_eq z).symm
        | _ => rfl
      | false => rfl
    | exc x h1 => rfl
    | bad => rfl
  by_cases ex : ∃ n, whileN c body n s h ≠ .bad
  · obtain ⟨n, hn⟩ := ex
    have hn1 : whileN c body (n + 1) s h ≠ .bad := by
      rw [whileN_mono hn (Nat.le_succ n)]
      exact hn
    rw [sWhile_eq hn1]
    exact fwd n hn1
  · have l : sWhile c body s h = .bad := by
      unfold sWhile
      rw [dif_neg ex]
    rw [l]
    cases hc : c s h with
    | bad => rfl
    | exc x h1 =>
      refine absurd ⟨1, ?_⟩ ex
      unfold whileN
      rw [hc]
      exact fun z => nomatch z
    | ok b h1 =>
      cases b with
      | false =>
        refine absurd ⟨1, ?_⟩ ex
        unfold whileN
        rw [hc]
        exact fun z => nomatch z
      | true =>
        simp only [Res.fl, if_true]
        have turn : ∀ n, whileN c body (n + 1) s h = (match body s h1 with
            | .nx s h => whileN c body n s h
            | .ct s h => whileN c body n s h
            | .bk s h => .nx s h
            | r => r) := fun n => by
          show (c s h).fl _ = _
          rw [hc]
          rfl
        have no : ∀ n, whileN c body n s h = .bad := fun n => Classical.byContradiction fun z => ex ⟨n, z⟩
        cases hb : body s h1 with
        | nx s2 h2 =>
          simp only
          by_cases z : sWhile c body s2 h2 = .bad
          · exact z.symm
          · obtain ⟨n, hn⟩ := sWhile_get z
            have t := turn n
            rw [hb, no] at t
            simp only at t
            rw [← hn]
            exact t
        | ct s2 h2 =>
          simp only
          by_cases z : sWhile c body s2 h2 = .bad
          · exact z.symm
          · obtain ⟨n, hn⟩ := sWhile_get z
            have t := turn n
            rw [hb, no] at t
            simp only at t
            rw [← hn]
            exact t
        | bk s2 h2 => have t := turn 0; rw [hb, no] at t; exact t
        | rt d h2 => have t := turn 0; rw [hb, no] at t; exact t
        | exc x h2 => have t := turn 0; rw [hb, no] at t; exact t
        | bad => rfl
theorem ds_while {X : Cx} {W : Wi} {c : Expr} {body : List Stmt} {fc : MT} {fb : MS} {pos : Pos} (hp : PassesOwn (model X.prog X.w) X.A X.env X.xe) (h1 : DT X W c fc) (h2 : DSs X W body fb) : DS X W (.While c body [] pos) (sWhile fc fb) := by
  obtain ⟨t, p1, i1⟩ := h1.ex
  obtain ⟨tb, p2, i2⟩ := h2.ex
  refine ⟨_, ps_while hp p1 p2, fun m F h H s σ Z r E q => ?_⟩
  have hne : sWhile fc fb s h ≠ .bad := fun z => by rw [z] at q; exact q.elim
  obtain ⟨n0, hn0⟩ := sWhile_get hne
  rw [← hn0] at q
  refine ⟨fun n τ G => ∃ m' F' h' s', Rel X.K m' F' h' G ∧ EnvR X.K m' F' s' τ ∧ postS X.K W m' F' G (whileN fc fb n s' h') Z, ⟨n0, m, F, h, s, r, E, q⟩, ?_⟩
  rintro n τ G ⟨m', F', h', s', r', E', q⟩
  cases n with
  | zero => exact q.elim
  | succ n =>
    unfold whileN at q
    refine i1 m' F' h' G s' τ _ r' E' (q.fl fun b h1 m1 F1 H1 b' _ e1 r1 hb q => ?_)
    subst hb
    cases b with
    | false => exact q m1 F1 H1 τ .refl r1 (E'.ext e1)
    | true =>
      refine ⟨fun τ' G' => ∃ k, k < n + 1 ∧ ∃ m2 F2 h2 s2, Rel X.K m2 F2 h2 G' ∧ EnvR X.K m2 F2 s2 τ' ∧ postS X.K W m2 F2 G' (whileN fc fb k s2 h2) Z, fun _ _ z => z, ?_⟩
      refine i2 m1 F1 h1 H1 s' τ _ r1 (E'.ext e1) ?_
      simp only [if_true] at q
      cases hb : fb s' h1 with
      | nx s2 h2 =>
        rw [hb] at q
        exact fun m3 F3 H3 σ3 e3 r3 E3 => ⟨n, Nat.lt_succ_self n, m3, F3, h2, s2, r3, E3, q.ext e3⟩
      | ct s2 h2 =>
        rw [hb] at q
        exact fun m3 F3 H3 σ3 e3 r3 E3 => ⟨n, Nat.lt_succ_self n, m3, F3, h2, s2, r3, E3, q.ext e3⟩
      | bk s2 h2 => rw [hb] at q; exact q
      | rt d h2 => rw [hb] at q; exact q
      | exc x h2 => rw [hb] at q; exact q
      | bad => rw [hb] at q; exact q
end DL

namespace DL
open PySem PySem.Spec PyProof.Rows L2

/-! ### list comprehensions -/
abbrev WF : Wi := fun _ _ _ _ => False
def wpD (s : Sl) : List Nat → Sl
  | [] => s
  | v :: vs => (wpD s vs).set v none
theorem EnvR.unset2 {K : PySem.W.Frag} {m : Ad} {F : Hp} {s : Sl} {σ : L2.St} (E : EnvR K m F s σ) (i : Nat) : EnvR K m F (s.set i none) (σ.set i none) := by
  refine ⟨by rw [List.length_set, List.length_set, E.len], fun j d q => ?_⟩
  by_cases hj : i = j
  · subst hj
    by_cases hi : i < s.length
    · rw [List.getElem?_set_self hi] at q
      cases q
    · rw [List.getElem?_eq_none (by rw [List.length_set]; omega)] at q
      cases q
  · rw [List.getElem?_set_ne hj] at q ⊢
    exact E.at_ j d q
theorem EnvR.wipe {K : PySem.W.Frag} {m : Ad} {F : Hp} {s : Sl} {σ : L2.St} (E : EnvR K m F s σ) : ∀ vs : List Nat, EnvR K m F (wpD s vs) (L2.wipe σ vs)
  | [] => E
  | v :: vs => (EnvR.wipe E vs).unset2 v
/-- a list is under way: it stands aside of all that is known -/
structure Mk (K : PySem.W.Frag) (m : Ad) (F H : Hp) (p : Addr) (xs : List D) : Prop where
  at_ : ∃ vs, H p = some (.lst vs) ∧ HasDs K m F xs vs
  nm : p ∉ m
  nf : F p = none
theorem Mk.ext {K : PySem.W.Frag} {m m' : Ad} {F F' H H' : Hp} {p : Addr} {xs : List D} (k : Mk K m F H p xs) (e : Ext m F H m' F' H') : Mk K m' F' H' p xs := by
  obtain ⟨vs, h1, h2⟩ := k.at_
  obtain ⟨a, b, c⟩ := e.fr p (.lst _) trivial h1 k.nm k.nf
  exact ⟨⟨vs, a, h2.ext e⟩, b, c⟩
theorem Mk.grow {K : PySem.W.Frag} {m : Ad} {F H : Hp} {h : AH} {p : Addr} {xs : List D} {d : D} {v : V} {vs : List V} (k : Mk K m F H p xs) (r : Rel K m F h H) (hv : H p = some (.lst vs)) (hs : HasDs K m F xs vs) (hd : HasD K m F d v) :
    Rel K m F h (upd H p (.lst (vs ++ [v]))) ∧ Mk K m F (upd H p (.lst (vs ++ [v]))) p (xs ++ [d]) := by
  refine ⟨⟨fun a o q => ?_, r.len, r.nodup, fun n a c hm hc => ?_⟩, ⟨⟨_, upd_same, hs.append (.cons hd .nil)⟩, k.nm, k.nf⟩⟩
  · have na : a ≠ p := fun z => by rw [z, k.nf] at q; cases q
    rw [upd_ne na]
    exact r.sub _ _ q
  · obtain ⟨f, o, ho, ok⟩ := r.cell n a c hm hc
    have na : a ≠ p := fun z => k.nm (z ▸ List.mem_of_getElem? hm)
    exact ⟨f, o, by rw [upd_ne na]; exact ho, ok⟩
theorem Rel.adoptC {K : PySem.W.Frag} {m : Ad} {F : Hp} {h : AH} {H : Hp} (r : Rel K m F h H) {p : Addr} {o : HO} {c : Cell} (hp : H p = some o) (nm : p ∉ m) (nf : F p = none) (ok : CellOk K m F c o) :
    Rel K (m ++ [p]) F (h ++ [c]) H ∧ (m ++ [p])[h.length]? = some p := by
  have hl : ∀ (n : Nat) (a : Addr), m[n]? = some a → (m ++ [p])[n]? = some a := fun n a q => by
    rw [List.getElem?_append_left (List.getElem?_eq_some_iff.mp q).1]
    exact q
  have e : Ext m F nilH (m ++ [p]) F nilH := ⟨hl, fun _ _ _ q => q, fun _ _ _ q => q, fun _ _ _ z => nomatch z⟩
  refine ⟨⟨r.sub, by simp [r.len], ?_, fun n a c' hm hc => ?_⟩, ?_⟩
  · rw [List.nodup_append]
    refine ⟨r.nodup, by simp, fun a ha b hb => ?_⟩
    simp at hb
    subst hb
    exact fun z => nm (z ▸ ha)
  · rcases Nat.lt_or_ge n m.length with hn | hn
    · rw [List.getElem?_append_left hn] at hm
      rw [List.getElem?_append_left (by rw [← r.len]; exact hn)] at hc
      obtain ⟨f, ob, ho, ok'⟩ := r.cell n a c' hm hc
      exact ⟨f, ob, ho, ok'.ext e⟩
    · have hn' : n = m.length := by
        have h1 := (List.getElem?_eq_some_iff.mp hm).1
        simp at h1
        omega
      subst hn'
      rw [List.getElem?_append_right (Nat.le_refl _)] at hm
      rw [r.len, List.getElem?_append_right (Nat.le_refl _)] at hc
      simp at hm hc
      subst hm hc
      exact ⟨nf, o, hp, ok.ext e⟩
  · rw [← r.len, List.getElem?_append_right (Nat.le_refl _)]
    simp
theorem Rel.adoptF {K : PySem.W.Frag} {m : Ad} {F : Hp} {h : AH} {H : Hp} (r : Rel K m F h H) {p : Addr} {o : HO} (hp : H p = some o) (nm : p ∉ m) (nf : F p = none) : Rel K m (upd F p o) h H ∧ Ext m F nilH m (upd F p o) nilH := by
  have e : Ext m F nilH m (upd F p o) nilH := ⟨fun _ _ q => q, fun a u _ q => by
    rcases q with q | ⟨ob, q⟩
    · exact .inl (by rw [upd_ne (ne_of_none q nf)]; exact q)
    · exact .inr ⟨ob, by rw [upd_ne (ne_of_none q nf)]; exact q⟩, fun a xs _ q => by rw [upd_ne (ne_of_none q nf)]; exact q, fun _ _ _ z => nomatch z⟩
  refine ⟨⟨fun a u q => ?_, r.len, r.nodup, fun n a c hm hc => ?_⟩, e⟩
  · by_cases ha : a = p
    · subst ha
      rw [upd_same] at q
      cases q
      exact hp
    · rw [upd_ne ha] at q
      exact r.sub _ _ q
  · obtain ⟨f, ob, ho, ok⟩ := r.cell n a c hm hc
    have na : a ≠ p := fun z => nm (z ▸ List.mem_of_getElem? hm)
    exact ⟨by rw [upd_ne na]; exact f, ob, ho, ok.ext e⟩
/-- the new list is known -/
theorem Mk.done {K : PySem.W.Frag} {W : Wi} {m m0 : Ad} {F F0 H H0 : Hp} {h : AH} {p : Addr} {xs : List D} {Q : VK} {b : Bool} (k : Mk K m F H p xs) (r : Rel K m F h H) (hp : H0 p = none)
    (e : Ext m0 F0 H0 m F H) (q : post K W (HasD K) m0 F0 H0 (mkL b xs h) Q) : Q (.ref p) H := by
  obtain ⟨vs, hv, hs⟩ := k.at_
  have fr : ∀ (a : Addr) (o : HO), Loose o → H0 a = some o → a ∉ m0 → F0 a = none → (H a = some o ∧ a ∉ m ∧ F a = none) ∧ a ≠ p := fun a o k q q1 q2 => ⟨e.fr a o k q q1 q2, ne_of_none q hp⟩
  unfold mkL at q
  cases b with
  | true =>
    obtain ⟨r', hp'⟩ := r.adoptC (c := .lst xs) hv k.nm k.nf hs
    refine q (m ++ [p]) F H _ ⟨fun n a z => ?_, e.fz, e.ls, fun a o k z z1 z2 => ?_⟩ r' (.ref hp')
    · have z' := e.pre n a z
      rw [List.getElem?_append_left (List.getElem?_eq_some_iff.mp z').1]
      exact z'
    · obtain ⟨⟨q1, q2, q3⟩, q4⟩ := fr a o k z z1 z2
      exact ⟨q1, fun w => (List.mem_append.mp w).elim q2 fun w => q4 (List.mem_singleton.mp w), q3⟩
  | false =>
    obtain ⟨r', e'⟩ := r.adoptF hv k.nm k.nf
    refine q m _ H _ ⟨e.pre, fun a u su z => e'.fz a u su (e.fz a u su z), fun a xs k z => e'.ls a xs k (e.ls a xs k z), fun a o k z z1 z2 => ?_⟩ r' (.lst upd_same (hs.ext e'))
    obtain ⟨⟨q1, q2, q3⟩, q4⟩ := fr a o k z z1 z2
    exact ⟨q1, q2, by rw [upd_ne q4]; exact q3⟩

open Classical in
/-- [elt for tg in .. if c]: what is left, what is made -/
noncomputable def lcL (chk : List (Nat × List D)) (g : MG) (c : MT) (f : ME) (s : Sl) : List D → List D → AH → Res (List D)
  | [], acc, h => if okS chk h then .ok acc h else .bad
  | d :: ds, acc, h => if okS chk h then (match g d s with
    | some s1 => match c s1 h with
      | .ok true h => match f s1 h with
        | .ok y h => if lenOk (acc.length + 1) = true then lcL chk g c f s ds (acc ++ [y]) h else .bad
        | _ => .bad
      | .ok false h => lcL chk g c f s ds acc h
      | _ => .bad
    | none => .bad) else .bad
noncomputable def eLc (b : Bool) (i : MI) (g : MG) (c : MT) (f : ME) (vs : List Nat) : ME := fun s h => (i s h).bind fun x h => (lcL x.chk g c f (wpD s vs) x.items [] h).bind fun ys h => mkL b ys h
def tYesM : MT := fun _ h => .ok true h
structure DTs (X : Cx) (ifs : List Expr) (f : MT) : Prop where
  ex : ∃ t, PTs X ifs t ∧ ∀ m F h H s σ Q, Rel X.K m F h H → EnvR X.K m F s σ → post X.K WF RB m F H (f s h) Q → t σ H Q
theorem dts_nil {X : Cx} : DTs X [] tYesM := ⟨_, pts_nil, fun m F h H s σ Q r E q => q.ok r rfl⟩
theorem dts_one {X : Cx} {c : Expr} {f : MT} (h : DT X WF c f) : DTs X [c] f := by
  obtain ⟨t, p, i⟩ := h.ex
  exact ⟨t, pts_one p, i⟩
section
variable {X : Cx} {W : Wi}
theorem lc_imp {wi : TI} {tg : TG} {tt : TT} {te : TE} {fi : MI} {g : MG} {c : MT} {f : ME} {own : List (Str × Nat)} {ts : List Nat} {b : Bool}
    (hts : ∀ i ∈ ts, i ∈ own.map (·.2))
    (i1 : ∀ m F h H s σ R, Rel X.K m F h H → EnvR X.K m F s σ → post X.K W (RI X.K) m F H (fi s h) R → wi σ H R)
    (i2 : ∀ m F h H s σ d v s' Q, Rel X.K m F h H → EnvR X.K m F s σ → HasD X.K m F d v → g d s = some s' → (∀ σ', EnvR X.K m F s' σ' → (∀ vs, (∀ i ∈ ts, i ∈ vs) → wipe σ' vs = wipe σ vs) → Q σ' H) → tg v σ H Q)
    (i3 : ∀ m F h H s σ Q, Rel X.K m F h H → EnvR X.K m F s σ → post X.K WF RB m F H (c s h) Q → tt σ H Q)
    (i4 : ∀ m F h H s σ Q, Rel X.K m F h H → EnvR X.K m F s σ → post X.K WF (HasD X.K) m F H (f s h) Q → te σ H Q) :
    ∀ m F h H s σ Q, Rel X.K m F h H → EnvR X.K m F s σ → post X.K W (HasD X.K) m F H (eLc b fi g c f (own.map (·.2)) s h) Q → tLc wi tg tt te (own.map (·.2)) σ H Q := fun m F h H s σ Q r E q => by
  refine i1 m F h H s σ _ r E (q.bind fun x h1 m1 F1 H1 J _ e1 r1 (hJ : ItR X.K J x m1 F1) q => fun p hp => ?_)
  have E1 := (E.ext e1).wipe (own.map (·.2))
  have k0 : Rel X.K m1 F1 h1 (upd H1 p (.lst [])) ∧ Mk X.K m1 F1 (upd H1 p (.lst [])) p [] := by
    have nm : p ∉ m1 := fun hm => by
      obtain ⟨n, hn⟩ := List.mem_iff_getElem?.mp hm
      obtain ⟨o', ho, _⟩ := r1.there hn
      rw [hp] at ho
      cases ho
    refine ⟨⟨fun a o z => by rw [upd_ne (ne_of_none (r1.sub _ _ z) hp)]; exact r1.sub _ _ z, r1.len, r1.nodup, fun n a c' hm hc => ?_⟩, ⟨⟨[], upd_same, .nil⟩, nm, F_none r1 hp⟩⟩
    obtain ⟨f', ob, ho, ok⟩ := r1.cell n a c' hm hc
    exact ⟨f', ob, by rw [upd_ne (ne_of_none ho hp)]; exact ho, ok⟩
  generalize hfin : lcL x.chk g c f (wpD s (own.map (·.2))) x.items [] h1 = fin at q
  refine ⟨fun i mm G => ∃ m' F' h' acc, Ext m1 F1 H1 m' F' G ∧ Rel X.K m' F' h' G ∧ Mk X.K m' F' G p acc ∧ i ≤ x.items.length ∧ mm = x.items.length - i ∧ lcL x.chk g c f (wpD s (own.map (·.2))) (x.items.drop i) acc h' = fin,
    ⟨_, m1, F1, h1, [], ⟨fun _ _ z => z, fun _ _ _ z => z, fun _ _ _ z => z, fun a o k z z1 z2 => ⟨by rw [upd_ne (ne_of_none z hp)]; exact z, z1, z2⟩⟩, k0.1, k0.2, Nat.zero_le _, rfl, hfin⟩, ?_⟩
  rintro i mm G ⟨m', F', h', acc, e', r', k', hi, rfl, eq⟩
  have E' : EnvR X.K m' F' (wpD s (own.map (·.2))) (wipe σ (own.map (·.2))) := E1.ext e'.drop
  have ngood : lcL x.chk g c f (wpD s (own.map (·.2))) (x.items.drop i) acc h' ≠ .bad ∧ ∀ z hh, lcL x.chk g c f (wpD s (own.map (·.2))) (x.items.drop i) acc h' ≠ .exc z hh := by
    have noexc : ∀ (l : List D) (acc : List D) (hh : AH) z h2, lcL x.chk g c f (wpD s (own.map (·.2))) l acc hh ≠ .exc z h2 := by
      intro l
      induction l with
      | nil =>
        intro acc hh z h2 w
        unfold lcL at w
        split at w <;> cases w
      | cons d ds ih =>
        intro acc hh z h2 w
        unfold lcL at w
        split at w
        · split at w
          · split at w
            · split at w
              · split at w
                · exact ih _ _ _ _ w
                · cases w
              · cases w
            · exact ih _ _ _ _ w
            · cases w
          · cases w
        · cases w
    refine ⟨fun z => ?_, fun z hh => noexc _ _ _ _ _⟩
    rw [← eq, z] at q
    exact q
  rcases Nat.lt_or_ge i x.items.length with hlt | hge
  · have hd : x.items[i]? = some x.items[i] := List.getElem?_eq_getElem hlt
    rw [List.drop_eq_getElem_cons hlt] at eq ngood
    unfold lcL at eq ngood
    split at ngood
    · rename_i ok
      rw [if_pos ok] at eq
      refine .inr ⟨hJ.go i m' F' h' G e'.drop r' ok hlt, fun G' => ∃ mm', mm' < x.items.length - i ∧ ∃ m2 F2 h2 acc2, Ext m1 F1 H1 m2 F2 G' ∧ Rel X.K m2 F2 h2 G' ∧ Mk X.K m2 F2 G' p acc2 ∧ i + 1 ≤ x.items.length ∧ mm' = x.items.length - (i + 1) ∧
          lcL x.chk g c f (wpD s (own.map (·.2))) (x.items.drop (i + 1)) acc2 h2 = fin, fun _ z => z, fun v G2 hy => ?_⟩
      obtain ⟨F2, e2, r2, hv⟩ := hJ.yld i m' F' h' G v G2 _ e'.drop r' ok hy hd
      cases hs1 : g x.items[i] (wpD s (own.map (·.2))) with
      | none => rw [hs1] at ngood; exact absurd rfl ngood.1
      | some s1 =>
        rw [hs1] at ngood eq
        simp only at ngood eq
        refine i2 m' F2 h' G2 _ _ _ v s1 _ r2 (E'.ext e2) hv hs1 fun τ1 Eτ hw => ?_
        refine ⟨by rw [hw _ hts, wipe_wipe fun i hi => hi], ?_⟩
        refine i3 m' F2 h' G2 s1 τ1 _ r2 Eτ ?_
        cases hc : c s1 h' with
        | bad => rw [hc] at ngood; exact absurd rfl ngood.1
        | exc z h2 => rw [hc] at ngood; exact absurd rfl ngood.1
        | ok bb h2 =>
          rw [hc] at ngood eq
          refine fun m3 F3 G3 b3 e3 r3 hb => ?_
          have hb : bb = b3 := hb
          subst hb
          have e3' := (e'.trans e2).trans e3
          cases bb with
          | false =>
            show (if false = true then _ else _)
            rw [if_neg Bool.false_ne_true]
            exact ⟨_, by omega, m3, F3, h2, acc, e3', r3, (k'.ext e2).ext e3, hlt, rfl, eq⟩
          | true =>
            show (if true = true then _ else _)
            rw [if_pos rfl]
            refine i4 m3 F3 h2 G3 s1 τ1 _ r3 (Eτ.ext e3) ?_
            simp only at ngood eq
            cases hf : f s1 h2 with
            | bad => rw [hf] at ngood; exact absurd rfl ngood.1
            | exc z h3 => rw [hf] at ngood; exact absurd rfl ngood.1
            | ok y h3 =>
              rw [hf] at ngood eq
              simp only at ngood eq
              refine fun m4 F4 G4 v4 e4 r4 hy4 => ?_
              split at ngood
              · rename_i hl
                rw [if_pos hl] at eq
                have k4 := ((k'.ext e2).ext e3).ext e4
                obtain ⟨vs4, h4, hs4⟩ := k4.at_
                obtain ⟨r5, k5⟩ := k4.grow r4 h4 hs4 hy4
                refine ⟨vs4, h4, ?_, _, by omega, m4, F4, h3, acc ++ [y], ⟨(e3'.trans e4).pre, (e3'.trans e4).fz, (e3'.trans e4).ls, fun a o k z z1 z2 => ?_⟩, r5, k5, hlt, rfl, eq⟩
                · have := lenOk_le hl
                  rw [← hs4.length]
                  omega
                · obtain ⟨y1, y2, y3⟩ := (e3'.trans e4).fr a o k z z1 z2
                  exact ⟨by rw [upd_ne (ne_of_none z hp)]; exact y1, y2, y3⟩
              · exact absurd rfl ngood.1
    · exact absurd rfl ngood.1
  · rw [List.drop_eq_nil_of_le hge] at eq ngood
    unfold lcL at eq ngood
    split at ngood
    · rename_i ok
      rw [if_pos ok] at eq
      refine .inl ⟨hJ.stop i m' F' h' G e'.drop r' ok hge hi, ?_⟩
      rw [← eq] at q
      exact k'.done r' hp e' q
    · exact absurd rfl ngood.1

/-! ### one reading for all contexts -/
def cE (K : PySem.W.Frag) (W : Wi) (f : ME) : TE := fun σ H Q => ∃ m F h s, Rel K m F h H ∧ EnvR K m F s σ ∧ post K W (HasD K) m F H (f s h) Q
theorem DE.pe {e : Expr} {f : ME} (h : DE X W e f) : PE X e (cE X.K W f) := by
  obtain ⟨t, p, i⟩ := h.ex
  exact ⟨fun pins s σ H Q I ⟨m, F, h, s', r, E, q⟩ => p.run pins s σ H Q I (i m F h H s' σ Q r E q)⟩
def cT (K : PySem.W.Frag) (f : MT) : TT := fun σ H Q => ∃ m F h s, Rel K m F h H ∧ EnvR K m F s σ ∧ post K WF RB m F H (f s h) Q
theorem DTs.pts {es : List Expr} {f : MT} (h : DTs X es f) : PTs X es (cT X.K f) := by
  obtain ⟨t, p, i⟩ := h.ex
  exact ⟨fun pins s σ H Q I ⟨m, F, h, s', r, E, q⟩ => p.run pins s σ H Q I (i m F h H s' σ Q r E q)⟩
def cG (K : PySem.W.Frag) (g : MG) (ts : List Nat) : TG := fun v σ H Q => ∃ m F h s d s', Rel K m F h H ∧ EnvR K m F s σ ∧ HasD K m F d v ∧ g d s = some s' ∧ ∀ σ', EnvR K m F s' σ' → (∀ vs, (∀ i ∈ ts, i ∈ vs) → wipe σ' vs = wipe σ vs) → Q σ' H
theorem DG.pg {tg : Expr} {g : MG} {ts : List Nat} (h : DG X tg g ts) : PG X tg (cG X.K g ts) := by
  obtain ⟨t, p, i⟩ := h.ex
  exact ⟨fun pins s σ H v u Q I rv ⟨m, F, h, s', d, s2, r, E, hd, e, k⟩ => p.run pins s σ H v u Q I rv (i m F h H s' σ d v s2 Q r E hd e k)⟩
def cI (K : PySem.W.Frag) (f : MI) : TI := fun σ H R => ∃ m F h s, Rel K m F h H ∧ EnvR K m F s σ ∧ post K WF (RI K) m F H (f s h) R
theorem DI.pi {tg iter : Expr} {f : MI} (h : DI X WF tg iter f) : PI X tg iter (cI X.K f) := by
  obtain ⟨t, p, i⟩ := h.ex
  exact ⟨fun pins s σ H R I ⟨m, F, h, s', r, E, q⟩ => p.run pins s σ H R I (i m F h H s' σ R r E q)⟩

theorem de_lc (bb : Bool) {elt tg iter : Expr} {ifs : List Expr} {scope : Scope} {own : List (Str × Nat)} {pos : Pos} {fi : MI} {g : MG} {ts : List Nat} {c : MT} {f : ME} (hc : X.calm = true) (hN : X.N.Nodup) (h1 : DI X W tg iter fi) (ok : blkC X.N X.env.scope scope own = true)
    (hg : ∀ (s : Shared) (H : Hp) (C : Addr) (cl : List (Str × Addr)) (fp : List Addr), DG (X.blk s H scope (compEnvC scope cl C X.env) fp) tg g ts) (ht : ∀ (s : Shared) (H : Hp) (C : Addr) (cl : List (Str × Addr)) (fp : List Addr), DTs (X.blk s H scope (compEnvC scope cl C X.env) fp) ifs c)
    (he : ∀ (s : Shared) (H : Hp) (C : Addr) (cl : List (Str × Addr)) (fp : List Addr), DE (X.blk s H scope (compEnvC scope cl C X.env) fp) WF elt f) (hts : (ts.all fun i => (own.map (·.2)).contains i) = true := by rfl) (hs : ∀ x, foldedSetIterable iter X.env x = pure x := by exact fun _ => rfl) :
    DE X W (.ListComp elt [⟨tg, iter, ifs, 0⟩] scope pos) (eLc bb fi g c f (own.map (·.2))) := by
  obtain ⟨wi, p1, i1⟩ := h1.ex
  refine ⟨_, pe_lc (g := cG X.K g ts) (tt := cT X.K c) (te := cE X.K WF f) hc hN p1 (blkOk_by ok) (fun s H C cl fp => (hg s H C cl fp).pg) (fun s H C cl fp => (ht s H C cl fp).pts) (fun s H C cl fp => (he s H C cl fp).pe) hs, ?_⟩
  refine lc_imp (ts := ts) (fun i hi => ?_) i1 (fun m F h H s σ d v s' Q r E hd e k => ⟨m, F, h, s, d, s', r, E, hd, e, k⟩) (fun m F h H s σ Q r E q => ⟨m, F, h, s, r, E, q⟩) fun m F h H s σ Q r E q => ⟨m, F, h, s, r, E, q⟩
  have := List.all_eq_true.mp hts i hi
  simpa using this
/-- name = [..] -/
theorem ds_setLc (bb : Bool) (i : Nat) {y : Str} {py : Pos} {elt tg iter : Expr} {ifs : List Expr} {scope : Scope} {own : List (Str × Nat)} {pos spos : Pos} {fi : MI} {g : MG} {ts : List Nat} {c : MT} {f : ME} (hc : X.calm = true) (hN : X.N.Nodup) (h1 : DI X W tg iter fi) (ok : blkC X.N X.env.scope scope own = true)
    (hg : ∀ (s : Shared) (H : Hp) (C : Addr) (cl : List (Str × Addr)) (fp : List Addr), DG (X.blk s H scope (compEnvC scope cl C X.env) fp) tg g ts) (ht : ∀ (s : Shared) (H : Hp) (C : Addr) (cl : List (Str × Addr)) (fp : List Addr), DTs (X.blk s H scope (compEnvC scope cl C X.env) fp) ifs c)
    (he : ∀ (s : Shared) (H : Hp) (C : Addr) (cl : List (Str × Addr)) (fp : List Addr), DE (X.blk s H scope (compEnvC scope cl C X.env) fp) WF elt f)
    (hsw : swapsWith (.ListComp elt [⟨tg, iter, ifs, 0⟩] scope pos) (some (.Name y py)) spos.line X.env = pure true)
    (hy : X.N[i]? = some y := by rfl) (hyl : X.env.scope.names.lookup y = some .local := by rfl) (hts : (ts.all fun i => (own.map (·.2)).contains i) = true := by rfl) (hs : ∀ x, foldedSetIterable iter X.env x = pure x := by exact fun _ => rfl) :
    DS X W (.Assign [.Name y py] (.ListComp elt [⟨tg, iter, ifs, 0⟩] scope pos) spos) (sSet i (eLc bb fi g c f (own.map (·.2)))) := by
  obtain ⟨wi, p1, i1⟩ := h1.ex
  refine ⟨_, ps_setLc (g := cG X.K g ts) (tt := cT X.K c) (te := cE X.K WF f) hc hN hy hyl hsw p1 (blkOk_by ok) (fun s H C cl fp => (hg s H C cl fp).pg) (fun s H C cl fp => (ht s H C cl fp).pts) (fun s H C cl fp => (he s H C cl fp).pe) hs, fun m F h H s σ Z r E q => ?_⟩
  refine lc_imp (W := W) (b := bb) (ts := ts) (fun i hi => ?_) i1 (fun m F h H s σ d v s' Q r E hd e k => ⟨m, F, h, s, d, s', r, E, hd, e, k⟩) (fun m F h H s σ Q r E q => ⟨m, F, h, s, r, E, q⟩) (fun m F h H s σ Q r E q => ⟨m, F, h, s, r, E, q⟩) m F h H s σ _ r E
    (q.fl fun d h' m' F' H' v _ e' r' ha q => q m' F' H' _ .refl r' ((E.ext e').set ha))
  have := List.all_eq_true.mp hts i hi
  simpa using this
end
end DL

namespace DL
open PySem PySem.Spec PyProof.Rows L2

/-! ### two clauses -/
open Classical in
noncomputable def lcL2 (chk : List (Nat × List D)) (g : MG) (c : MT) (i1 : MI) (g1 : MG) (c1 : MT) (f : ME) (vs1 : List Nat) (s : Sl) : List D → List D → AH → Res (List D)
  | [], acc, h => if okS chk h then .ok acc h else .bad
  | d :: ds, acc, h => if okS chk h then (match g d s with
    | some s1 => match c s1 h with
      | .ok true h => match i1 s1 h with
        | .ok x h => match lcL x.chk g1 c1 f (wpD s1 vs1) x.items acc h with
          | .ok acc h => lcL2 chk g c i1 g1 c1 f vs1 s ds acc h
          | _ => .bad
        | _ => .bad
      | .ok false h => lcL2 chk g c i1 g1 c1 f vs1 s ds acc h
      | _ => .bad
    | none => .bad) else .bad
noncomputable def eLc2 (b : Bool) (i : MI) (g : MG) (c : MT) (i1 : MI) (g1 : MG) (c1 : MT) (f : ME) (vs vs1 : List Nat) : ME := fun s h => (i s h).bind fun x h => (lcL2 x.chk g c i1 g1 c1 f vs1 (wpD s vs) x.items [] h).bind fun ys h => mkL b ys h
theorem lcL_noexc {chk : List (Nat × List D)} {g : MG} {c : MT} {f : ME} {s : Sl} : ∀ (l : List D) (acc : List D) (hh : AH) z h2, lcL chk g c f s l acc hh ≠ .exc z h2 := by
  intro l
  induction l with
  | nil =>
    intro acc hh z h2 w
    unfold lcL at w
    split at w <;> cases w
  | cons d ds ih =>
    intro acc hh z h2 w
    unfold lcL at w
    split at w
    · split at w
      · split at w
        · split at w
          · split at w
            · exact ih _ _ _ _ w
            · cases w
          · cases w
        · exact ih _ _ _ _ w
        · cases w
      · cases w
    · cases w
theorem lcL2_noexc {chk : List (Nat × List D)} {g g1 : MG} {c c1 : MT} {i1 : MI} {f : ME} {vs1 : List Nat} {s : Sl} : ∀ (l : List D) (acc : List D) (hh : AH) z h2, lcL2 chk g c i1 g1 c1 f vs1 s l acc hh ≠ .exc z h2 := by
  intro l
  induction l with
  | nil =>
    intro acc hh z h2 w
    unfold lcL2 at w
    split at w <;> cases w
  | cons d ds ih =>
    intro acc hh z h2 w
    unfold lcL2 at w
    split at w
    · split at w
      · split at w
        · split at w
          · split at w
            · exact ih _ _ _ _ w
            · cases w
          · cases w
        · exact ih _ _ _ _ w
        · cases w
      · cases w
    · cases w
section
variable {X : Cx} {W : Wi}
/-- the loop of one clause: from the list acc0 under way to ys -/
theorem lc_core1 {tg : TG} {tt : TT} {te : TE} {g : MG} {c : MT} {f : ME} {vs ts : List Nat} {mB m1 : Ad} {FB F1 HB G0 : Hp} {h1 hE : AH} {p : Addr} {acc0 ys : List D} {x : Src} {J : It} {s : Sl} {σ : L2.St} {Nx : Hp → Prop}
    (hts : ∀ i ∈ ts, i ∈ vs)
    (i2 : ∀ m F h H s σ d v s' Q, Rel X.K m F h H → EnvR X.K m F s σ → HasD X.K m F d v → g d s = some s' → (∀ σ', EnvR X.K m F s' σ' → (∀ vs, (∀ i ∈ ts, i ∈ vs) → wipe σ' vs = wipe σ vs) → Q σ' H) → tg v σ H Q)
    (i3 : ∀ m F h H s σ Q, Rel X.K m F h H → EnvR X.K m F s σ → post X.K WF RB m F H (c s h) Q → tt σ H Q)
    (i4 : ∀ m F h H s σ Q, Rel X.K m F h H → EnvR X.K m F s σ → post X.K WF (HasD X.K) m F H (f s h) Q → te σ H Q)
    (hp : HB p = none) (e0 : Ext mB FB HB m1 F1 G0) (r0 : Rel X.K m1 F1 h1 G0) (k0 : Mk X.K m1 F1 G0 p acc0) (E1 : EnvR X.K m1 F1 s σ) (hJ : ItR X.K J x m1 F1)
    (hfin : lcL x.chk g c f (wpD s vs) x.items acc0 h1 = .ok ys hE)
    (fin : ∀ m' F' G, Ext mB FB HB m' F' G → Ext m1 F1 nilH m' F' nilH → Rel X.K m' F' hE G → Mk X.K m' F' G p ys → Nx G) :
    ∃ W : Nat → Nat → Hp → Prop, (∃ m, W 0 m G0) ∧ ∀ i m H, W i m H →
      (J.stop i H ∧ Nx H) ∨ (J.go i H ∧ ∃ N1 : Hp → Prop, (∀ H', N1 H' → ∃ m', m' < m ∧ W (i + 1) m' H') ∧ ∀ x H', J.yld i H x H' → tg x (wipe σ vs) H' fun σ2 H2 => wipe σ2 vs = wipe σ vs ∧ tt σ2 H2 fun b H3 =>
        if b = true then te σ2 H3 fun y H4 => ∃ acc, H4 p = some (.lst acc) ∧ acc.length < sizeLine ∧ N1 (upd H4 p (.lst (acc ++ [y]))) else N1 H3) := by
  refine ⟨fun i mm G => ∃ m' F' h' acc, Ext mB FB HB m' F' G ∧ Ext m1 F1 nilH m' F' nilH ∧ Rel X.K m' F' h' G ∧ Mk X.K m' F' G p acc ∧ i ≤ x.items.length ∧ mm = x.items.length - i ∧ lcL x.chk g c f (wpD s vs) (x.items.drop i) acc h' = .ok ys hE,
    ⟨_, m1, F1, h1, acc0, e0, .refl, r0, k0, Nat.zero_le _, rfl, hfin⟩, ?_⟩
  rintro i mm G ⟨m', F', h', acc, e', n', r', k', hi, rfl, eq⟩
  have E' : EnvR X.K m' F' (wpD s vs) (wipe σ vs) := (E1.ext n').wipe vs
  rcases Nat.lt_or_ge i x.items.length with hlt | hge
  · have hd : x.items[i]? = some x.items[i] := List.getElem?_eq_getElem hlt
    rw [List.drop_eq_getElem_cons hlt] at eq
    unfold lcL at eq
    split at eq
    · rename_i ok
      refine .inr ⟨hJ.go i m' F' h' G n' r' ok hlt, fun G' => ∃ mm', mm' < x.items.length - i ∧ ∃ m2 F2 h2 acc2, Ext mB FB HB m2 F2 G' ∧ Ext m1 F1 nilH m2 F2 nilH ∧ Rel X.K m2 F2 h2 G' ∧ Mk X.K m2 F2 G' p acc2 ∧ i + 1 ≤ x.items.length ∧ mm' = x.items.length - (i + 1) ∧
          lcL x.chk g c f (wpD s vs) (x.items.drop (i + 1)) acc2 h2 = .ok ys hE, fun _ z => z, fun v G2 hy => ?_⟩
      obtain ⟨F2, e2, r2, hv⟩ := hJ.yld i m' F' h' G v G2 _ n' r' ok hy hd
      split at eq
      · rename_i s1 hs1
        refine i2 m' F2 h' G2 _ _ _ v s1 _ r2 (E'.ext e2) hv hs1 fun τ1 Eτ hw => ?_
        refine ⟨by rw [hw _ hts, wipe_wipe fun i hi => hi], ?_⟩
        refine i3 m' F2 h' G2 s1 τ1 _ r2 Eτ ?_
        split at eq
        · rename_i h2 hc
          rw [hc]
          refine fun m3 F3 G3 b3 e3 r3 hb => ?_
          have hb : true = b3 := hb
          subst hb
          show (if true = true then _ else _)
          rw [if_pos rfl]
          refine i4 m3 F3 h2 G3 s1 τ1 _ r3 (Eτ.ext e3) ?_
          split at eq
          · rename_i y h3 hf
            rw [hf]
            refine fun m4 F4 G4 v4 e4 r4 hy4 => ?_
            split at eq
            · rename_i hl
              have k4 := ((k'.ext e2).ext e3).ext e4
              obtain ⟨vs4, h4, hs4⟩ := k4.at_
              obtain ⟨r5, k5⟩ := k4.grow r4 h4 hs4 hy4
              have e5 := ((e'.trans e2).trans e3).trans e4
              refine ⟨vs4, h4, ?_, _, by omega, m4, F4, h3, acc ++ [y], ⟨e5.pre, e5.fz, e5.ls, fun a o k z z1 z2 => ?_⟩, ((n'.trans e2.drop).trans e3.drop).trans e4.drop, r5, k5, hlt, rfl, eq⟩
              · have := lenOk_le hl
                rw [← hs4.length]
                omega
              · obtain ⟨y1, y2, y3⟩ := e5.fr a o k z z1 z2
                exact ⟨by rw [upd_ne (ne_of_none z hp)]; exact y1, y2, y3⟩
            · cases eq
          · cases eq
        · rename_i h2 hc
          rw [hc]
          refine fun m3 F3 G3 b3 e3 r3 hb => ?_
          have hb : false = b3 := hb
          subst hb
          show (if false = true then _ else _)
          rw [if_neg Bool.false_ne_true]
          exact ⟨_, by omega, m3, F3, h2, acc, (e'.trans e2).trans e3, (n'.trans e2.drop).trans e3.drop, r3, (k'.ext e2).ext e3, hlt, rfl, eq⟩
        · cases eq
      · cases eq
    · cases eq
  · rw [List.drop_eq_nil_of_le hge] at eq
    unfold lcL at eq
    split at eq
    · rename_i ok
      cases eq
      exact .inl ⟨hJ.stop i m' F' _ G n' r' ok hge hi, fin m' F' G e' n' r' k'⟩
    · cases eq

theorem lc2_imp {wi wi1 : TI} {tg tg1 : TG} {tt tt1 : TT} {te : TE} {fi fi1 : MI} {g g1 : MG} {c c1 : MT} {f : ME} {own : List (Str × Nat)} {vs1 ts ts1 : List Nat} {b : Bool}
    (hts : ∀ i ∈ ts, i ∈ own.map (·.2)) (hts1 : ∀ i ∈ ts1, i ∈ vs1)
    (i1 : ∀ m F h H s σ R, Rel X.K m F h H → EnvR X.K m F s σ → post X.K W (RI X.K) m F H (fi s h) R → wi σ H R)
    (i1' : ∀ m F h H s σ R, Rel X.K m F h H → EnvR X.K m F s σ → post X.K WF (RI X.K) m F H (fi1 s h) R → wi1 σ H R)
    (i2 : ∀ m F h H s σ d v s' Q, Rel X.K m F h H → EnvR X.K m F s σ → HasD X.K m F d v → g d s = some s' → (∀ σ', EnvR X.K m F s' σ' → (∀ vs, (∀ i ∈ ts, i ∈ vs) → wipe σ' vs = wipe σ vs) → Q σ' H) → tg v σ H Q)
    (i2' : ∀ m F h H s σ d v s' Q, Rel X.K m F h H → EnvR X.K m F s σ → HasD X.K m F d v → g1 d s = some s' → (∀ σ', EnvR X.K m F s' σ' → (∀ vs, (∀ i ∈ ts1, i ∈ vs) → wipe σ' vs = wipe σ vs) → Q σ' H) → tg1 v σ H Q)
    (i3 : ∀ m F h H s σ Q, Rel X.K m F h H → EnvR X.K m F s σ → post X.K WF RB m F H (c s h) Q → tt σ H Q)
    (i3' : ∀ m F h H s σ Q, Rel X.K m F h H → EnvR X.K m F s σ → post X.K WF RB m F H (c1 s h) Q → tt1 σ H Q)
    (i4 : ∀ m F h H s σ Q, Rel X.K m F h H → EnvR X.K m F s σ → post X.K WF (HasD X.K) m F H (f s h) Q → te σ H Q) :
    ∀ m F h H s σ Q, Rel X.K m F h H → EnvR X.K m F s σ → post X.K W (HasD X.K) m F H (eLc2 b fi g c fi1 g1 c1 f (own.map (·.2)) vs1 s h) Q → tLc2 wi tg tt wi1 tg1 tt1 te (own.map (·.2)) vs1 σ H Q := fun m F h H s σ Q r E q => by
  refine i1 m F h H s σ _ r E (q.bind fun x h1 m1 F1 H1 J _ e1 r1 (hJ : ItR X.K J x m1 F1) q => fun p hp => ?_)
  have E1 := E.ext e1
  have k0 : Rel X.K m1 F1 h1 (upd H1 p (.lst [])) ∧ Mk X.K m1 F1 (upd H1 p (.lst [])) p [] := by
    have nm : p ∉ m1 := fun hm => by
      obtain ⟨n, hn⟩ := List.mem_iff_getElem?.mp hm
      obtain ⟨o', ho, _⟩ := r1.there hn
      rw [hp] at ho
      cases ho
    refine ⟨⟨fun a o z => by rw [upd_ne (ne_of_none (r1.sub _ _ z) hp)]; exact r1.sub _ _ z, r1.len, r1.nodup, fun n a c' hm hc => ?_⟩, ⟨⟨[], upd_same, .nil⟩, nm, F_none r1 hp⟩⟩
    obtain ⟨f', ob, ho, ok⟩ := r1.cell n a c' hm hc
    exact ⟨f', ob, by rw [upd_ne (ne_of_none ho hp)]; exact ho, ok⟩
  cases hfin : lcL2 x.chk g c fi1 g1 c1 f vs1 (wpD s (own.map (·.2))) x.items [] h1 with
  | bad => rw [hfin] at q; exact q.elim
  | exc z h2 => exact absurd hfin (lcL2_noexc _ _ _ _ _)
  | ok ys hE =>
    rw [hfin] at q
    refine ⟨fun i mm G => ∃ m' F' h' acc, Ext m1 F1 H1 m' F' G ∧ Rel X.K m' F' h' G ∧ Mk X.K m' F' G p acc ∧ i ≤ x.items.length ∧ mm = x.items.length - i ∧ lcL2 x.chk g c fi1 g1 c1 f vs1 (wpD s (own.map (·.2))) (x.items.drop i) acc h' = .ok ys hE,
      ⟨_, m1, F1, h1, [], ⟨fun _ _ z => z, fun _ _ _ z => z, fun _ _ _ z => z, fun a o k z z1 z2 => ⟨by rw [upd_ne (ne_of_none z hp)]; exact z, z1, z2⟩⟩, k0.1, k0.2, Nat.zero_le _, rfl, hfin⟩, ?_⟩
    rintro i mm G ⟨m', F', h', acc, e', r', k', hi, rfl, eq⟩
    have E' : EnvR X.K m' F' (wpD s (own.map (·.2))) (wipe σ (own.map (·.2))) := (E1.ext e').wipe _
    rcases Nat.lt_or_ge i x.items.length with hlt | hge
    · have hd : x.items[i]? = some x.items[i] := List.getElem?_eq_getElem hlt
      rw [List.drop_eq_getElem_cons hlt] at eq
      unfold lcL2 at eq
      split at eq
      · rename_i ok
        refine .inr ⟨hJ.go i m' F' h' G e'.drop r' ok hlt, fun G' => ∃ mm', mm' < x.items.length - i ∧ ∃ m2 F2 h2 acc2, Ext m1 F1 H1 m2 F2 G' ∧ Rel X.K m2 F2 h2 G' ∧ Mk X.K m2 F2 G' p acc2 ∧ i + 1 ≤ x.items.length ∧ mm' = x.items.length - (i + 1) ∧
            lcL2 x.chk g c fi1 g1 c1 f vs1 (wpD s (own.map (·.2))) (x.items.drop (i + 1)) acc2 h2 = .ok ys hE, fun _ z => z, fun v G2 hy => ?_⟩
        obtain ⟨F2, e2, r2, hv⟩ := hJ.yld i m' F' h' G v G2 _ e'.drop r' ok hy hd
        split at eq
        · rename_i s1 hs1
          refine i2 m' F2 h' G2 _ _ _ v s1 _ r2 (E'.ext e2) hv hs1 fun τ1 Eτ hw => ?_
          refine ⟨by rw [hw _ hts, wipe_wipe fun i hi => hi], ?_⟩
          refine i3 m' F2 h' G2 s1 τ1 _ r2 Eτ ?_
          split at eq
          · rename_i h2 hc
            rw [hc]
            refine fun m3 F3 G3 b3 e3 r3 hb => ?_
            have hb : true = b3 := hb
            subst hb
            show (if true = true then _ else _)
            rw [if_pos rfl]
            refine i1' m3 F3 h2 G3 s1 τ1 _ r3 (Eτ.ext e3) ?_
            split at eq
            · rename_i x1 h3 hi1
              rw [hi1]
              refine fun m4 F4 G4 J1 e4 r4 (hJ1 : ItR X.K J1 x1 m4 F4) => ?_
              split at eq
              · rename_i acc2 h4 hin
                have e5 := ((e'.trans e2).trans e3).trans e4
                exact lc_core1 hts1 i2' i3' i4 hp e5 r4 (((k'.ext e2).ext e3).ext e4) ((Eτ.ext e3).ext e4) hJ1 hin fun m6 F6 G6 e6 n6 r6 k6 => ⟨_, by omega, m6, F6, h4, acc2, e6, r6, k6, hlt, rfl, eq⟩
              · cases eq
            · cases eq
          · rename_i h2 hc
            rw [hc]
            refine fun m3 F3 G3 b3 e3 r3 hb => ?_
            have hb : false = b3 := hb
            subst hb
            show (if false = true then _ else _)
            rw [if_neg Bool.false_ne_true]
            exact ⟨_, by omega, m3, F3, h2, acc, (e'.trans e2).trans e3, r3, (k'.ext e2).ext e3, hlt, rfl, eq⟩
          · cases eq
        · cases eq
      · cases eq
    · rw [List.drop_eq_nil_of_le hge] at eq
      unfold lcL2 at eq
      split at eq
      · rename_i ok
        cases eq
        exact .inl ⟨hJ.stop i m' F' _ G e'.drop r' ok hge hi, k'.done r' hp e' q⟩
      · cases eq
theorem de_lc2 (bb : Bool) {elt tg iter tg1 iter1 : Expr} {ifs ifs1 : List Expr} {scope : Scope} {own : List (Str × Nat)} {vs1 : List Nat} {pos : Pos} {fi fi1 : MI} {g g1 : MG} {ts ts1 : List Nat} {c c1 : MT} {f : ME} (hc : X.calm = true) (hN : X.N.Nodup) (h1 : DI X W tg iter fi) (ok : blkC X.N X.env.scope scope own = true)
    (hg : ∀ (s : Shared) (H : Hp) (C : Addr) (cl : List (Str × Addr)) (fp : List Addr), DG (X.blk s H scope (compEnvC scope cl C X.env) fp) tg g ts) (ht : ∀ (s : Shared) (H : Hp) (C : Addr) (cl : List (Str × Addr)) (fp : List Addr), DTs (X.blk s H scope (compEnvC scope cl C X.env) fp) ifs c)
    (hi1 : ∀ (s : Shared) (H : Hp) (C : Addr) (cl : List (Str × Addr)) (fp : List Addr), DI (X.blk s H scope (compEnvC scope cl C X.env) fp) WF tg1 iter1 fi1)
    (hg1 : ∀ (s : Shared) (H : Hp) (C : Addr) (cl : List (Str × Addr)) (fp : List Addr), DG (X.blk s H scope (compEnvC scope cl C X.env) fp) tg1 g1 ts1) (ht1 : ∀ (s : Shared) (H : Hp) (C : Addr) (cl : List (Str × Addr)) (fp : List Addr), DTs (X.blk s H scope (compEnvC scope cl C X.env) fp) ifs1 c1)
    (he : ∀ (s : Shared) (H : Hp) (C : Addr) (cl : List (Str × Addr)) (fp : List Addr), DE (X.blk s H scope (compEnvC scope cl C X.env) fp) WF elt f) (hts : (ts.all fun i => (own.map (·.2)).contains i) = true := by rfl) (hts1 : (ts1.all fun i => vs1.contains i) = true := by rfl) (hv : (vs1.all fun i => (own.map (·.2)).contains i) = true := by rfl)
    (hs : ∀ x, foldedSetIterable iter X.env x = pure x := by exact fun _ => rfl) (hs1 : ∀ env x, foldedSetIterable iter1 env x = pure x := by exact fun _ _ => rfl) :
    DE X W (.ListComp elt [⟨tg, iter, ifs, 0⟩, ⟨tg1, iter1, ifs1, 0⟩] scope pos) (eLc2 bb fi g c fi1 g1 c1 f (own.map (·.2)) vs1) := by
  obtain ⟨wi, p1, i1⟩ := h1.ex
  have mem : ∀ {a b : List Nat}, (a.all fun i => b.contains i) = true → ∀ i ∈ a, i ∈ b := fun h i hi => by
    have := List.all_eq_true.mp h i hi
    simpa using this
  refine ⟨_, pe_lc2 (g := cG X.K g ts) (tt := cT X.K c) (wi1 := cI X.K fi1) (g1 := cG X.K g1 ts1) (tt1 := cT X.K c1) (te := cE X.K WF f) hc hN p1 (blkOk_by ok) (mem hv) (fun s H C cl fp => (hg s H C cl fp).pg) (fun s H C cl fp => (ht s H C cl fp).pts) (fun s H C cl fp => (hi1 s H C cl fp).pi) (fun s H C cl fp => (hg1 s H C cl fp).pg) (fun s H C cl fp => (ht1 s H C cl fp).pts) (fun s H C cl fp => (he s H C cl fp).pe) hs hs1, ?_⟩
  exact lc2_imp (ts := ts) (ts1 := ts1) (mem hts) (mem hts1) i1 (fun m F h H s σ Q r E q => ⟨m, F, h, s, r, E, q⟩) (fun m F h H s σ d v s' Q r E hd e k => ⟨m, F, h, s, d, s', r, E, hd, e, k⟩) (fun m F h H s σ d v s' Q r E hd e k => ⟨m, F, h, s, d, s', r, E, hd, e, k⟩) (fun m F h H s σ Q r E q => ⟨m, F, h, s, r, E, q⟩) (fun m F h H s σ Q r E q => ⟨m, F, h, s, r, E, q⟩) fun m F h H s σ Q r E q => ⟨m, F, h, s, r, E, q⟩
theorem ds_setLc2 (bb : Bool) (i : Nat) {y : Str} {py : Pos} {elt tg iter tg1 iter1 : Expr} {ifs ifs1 : List Expr} {scope : Scope} {own : List (Str × Nat)} {vs1 : List Nat} {pos spos : Pos} {fi fi1 : MI} {g g1 : MG} {ts ts1 : List Nat} {c c1 : MT} {f : ME} (hc : X.calm = true) (hN : X.N.Nodup) (h1 : DI X W tg iter fi) (ok : blkC X.N X.env.scope scope own = true)
    (hg : ∀ (s : Shared) (H : Hp) (C : Addr) (cl : List (Str × Addr)) (fp : List Addr), DG (X.blk s H scope (compEnvC scope cl C X.env) fp) tg g ts) (ht : ∀ (s : Shared) (H : Hp) (C : Addr) (cl : List (Str × Addr)) (fp : List Addr), DTs (X.blk s H scope (compEnvC scope cl C X.env) fp) ifs c)
    (hi1 : ∀ (s : Shared) (H : Hp) (C : Addr) (cl : List (Str × Addr)) (fp : List Addr), DI (X.blk s H scope (compEnvC scope cl C X.env) fp) WF tg1 iter1 fi1)
    (hg1 : ∀ (s : Shared) (H : Hp) (C : Addr) (cl : List (Str × Addr)) (fp : List Addr), DG (X.blk s H scope (compEnvC scope cl C X.env) fp) tg1 g1 ts1) (ht1 : ∀ (s : Shared) (H : Hp) (C : Addr) (cl : List (Str × Addr)) (fp : List Addr), DTs (X.blk s H scope (compEnvC scope cl C X.env) fp) ifs1 c1)
    (he : ∀ (s : Shared) (H : Hp) (C : Addr) (cl : List (Str × Addr)) (fp : List Addr), DE (X.blk s H scope (compEnvC scope cl C X.env) fp) WF elt f)
    (hsw : swapsWith (.ListComp elt [⟨tg, iter, ifs, 0⟩, ⟨tg1, iter1, ifs1, 0⟩] scope pos) (some (.Name y py)) spos.line X.env = pure true)
    (hy : X.N[i]? = some y := by rfl) (hyl : X.env.scope.names.lookup y = some .local := by rfl) (hts : (ts.all fun i => (own.map (·.2)).contains i) = true := by rfl) (hts1 : (ts1.all fun i => vs1.contains i) = true := by rfl) (hv : (vs1.all fun i => (own.map (·.2)).contains i) = true := by rfl)
    (hs : ∀ x, foldedSetIterable iter X.env x = pure x := by exact fun _ => rfl) (hs1 : ∀ env x, foldedSetIterable iter1 env x = pure x := by exact fun _ _ => rfl) :
    DS X W (.Assign [.Name y py] (.ListComp elt [⟨tg, iter, ifs, 0⟩, ⟨tg1, iter1, ifs1, 0⟩] scope pos) spos) (sSet i (eLc2 bb fi g c fi1 g1 c1 f (own.map (·.2)) vs1)) := by
  obtain ⟨wi, p1, i1⟩ := h1.ex
  have mem : ∀ {a b : List Nat}, (a.all fun i => b.contains i) = true → ∀ i ∈ a, i ∈ b := fun h i hi => by
    have := List.all_eq_true.mp h i hi
    simpa using this
  refine ⟨_, ps_setLc2 (g := cG X.K g ts) (tt := cT X.K c) (wi1 := cI X.K fi1) (g1 := cG X.K g1 ts1) (tt1 := cT X.K c1) (te := cE X.K WF f) hc hN hy hyl hsw p1 (blkOk_by ok) (mem hv) (fun s H C cl fp => (hg s H C cl fp).pg) (fun s H C cl fp => (ht s H C cl fp).pts) (fun s H C cl fp => (hi1 s H C cl fp).pi) (fun s H C cl fp => (hg1 s H C cl fp).pg) (fun s H C cl fp => (ht1 s H C cl fp).pts) (fun s H C cl fp => (he s H C cl fp).pe) hs hs1, fun m F h H s σ Z r E q => ?_⟩
  exact lc2_imp (W := W) (b := bb) (ts := ts) (ts1 := ts1) (mem hts) (mem hts1) i1 (fun m F h H s σ Q r E q => ⟨m, F, h, s, r, E, q⟩) (fun m F h H s σ d v s' Q r E hd e k => ⟨m, F, h, s, d, s', r, E, hd, e, k⟩) (fun m F h H s σ d v s' Q r E hd e k => ⟨m, F, h, s, d, s', r, E, hd, e, k⟩) (fun m F h H s σ Q r E q => ⟨m, F, h, s, r, E, q⟩) (fun m F h H s σ Q r E q => ⟨m, F, h, s, r, E, q⟩) (fun m F h H s σ Q r E q => ⟨m, F, h, s, r, E, q⟩) m F h H s σ _ r E
    (q.fl fun d h' m' F' H' v _ e' r' ha q => q m' F' H' _ .refl r' ((E.ext e').set ha))
end
end DL

namespace DL
open PySem PySem.Spec PyProof.Rows L2

/-! ### what a def leaves: its own cells are frozen -/
mutual
/-- all cells within stand below n0 -/
def D.lo (n0 : Nat) : D → Bool
  | .non => true
  | .bl _ => true
  | .int _ => true
  | .str _ => true
  | .tup xs => D.los n0 xs
  | .lst xs => D.los n0 xs
  | .lsk xs => D.los n0 xs
  | .dK kvs => D.loK n0 kvs
  | .dT kvs => D.loT n0 kvs
  | .ref n => decide (n < n0)
def D.los (n0 : Nat) : List D → Bool
  | [] => true
  | x :: xs => D.lo n0 x && D.los n0 xs
def D.loK (n0 : Nat) : List (Key × D) → Bool
  | [] => true
  | (_, x) :: xs => D.lo n0 x && D.loK n0 xs
def D.loT (n0 : Nat) : List (List Key × D) → Bool
  | [] => true
  | (_, x) :: xs => D.lo n0 x && D.loT n0 xs
end
def mapD (f : D → Option D) : List D → Option (List D)
  | [] => some []
  | x :: xs => (f x).bind fun y => (mapD f xs).map fun ys => y :: ys
def mapP {α : Type} (f : D → Option D) : List (α × D) → Option (List (α × D))
  | [] => some []
  | (k, x) :: xs => (f x).bind fun y => (mapP f xs).map fun ys => (k, y) :: ys
def frz (n0 : Nat) (h : AH) : Nat → D → Option D
  | 0, d => if d.lo n0 = true then some d else none
  | k + 1, d => if d.lo n0 = true then some d else match d with
    | .ref n => match h[n]? with
      | some (.lst xs) => (mapD (frz n0 h k) xs).map D.lst
      | some (.dK kvs) => (mapP (frz n0 h k) kvs).map D.dK
      | some (.dT kvs) => (mapP (frz n0 h k) kvs).map D.dT
      | none => none
    | .tup xs => (mapD (frz n0 h k) xs).map D.tup
    | .lst xs => (mapD (frz n0 h k) xs).map D.lst
    | .dK kvs => (mapP (frz n0 h k) kvs).map D.dK
    | .dT kvs => (mapP (frz n0 h k) kvs).map D.dT
    | _ => none
def frzC (n0 : Nat) (h : AH) : Cell → Option Cell
  | .lst xs => (mapD (frz n0 h 6) xs).map Cell.lst
  | .dK kvs => (mapP (frz n0 h 6) kvs).map Cell.dK
  | .dT kvs => (mapP (frz n0 h 6) kvs).map Cell.dT
def mapC (f : Cell → Option Cell) : AH → Option AH
  | [] => some []
  | x :: xs => (f x).bind fun y => (mapC f xs).map fun ys => y :: ys
def Cell.lo (n0 : Nat) : Cell → Bool
  | .lst xs => D.los n0 xs
  | .dK kvs => D.loK n0 kvs
  | .dT kvs => D.loT n0 kvs
/-- the end of a def that began with n0 cells -/
def endFn (n0 : Nat) (d : D) (h : AH) : Res D := match frz n0 h 6 d with
  | some d => if (h.take n0).all (Cell.lo n0) = true then .ok d (h.take n0) else (match mapC (frzC n0 h) (h.take n0) with
    | some hs => .ok d hs
    | none => .bad)
  | none => .bad

section
variable {K : PySem.W.Frag} {m : Ad} {F H : Hp} {h : AH} {n0 : Nat}
/-- what is frozen besides: all cells from n0 on -/
noncomputable def frF (m : Ad) (F H : Hp) (n0 : Nat) : Hp := fun a => open Classical in if a ∈ m.drop n0 then H a else F a
theorem frF_in {a : Addr} (h : a ∈ m.drop n0) : frF m F H n0 a = H a := by
  unfold frF
  rw [if_pos h]
theorem frF_out {a : Addr} (h : a ∉ m.drop n0) : frF m F H n0 a = F a := by
  unfold frF
  rw [if_neg h]
theorem frF_F (r : Rel K m F h H) {a : Addr} {o : HO} (e : F a = some o) : frF m F H n0 a = some o := by
  rw [frF_out fun z => ?_]
  · exact e
  · obtain ⟨i, hi⟩ := List.mem_iff_getElem?.mp (List.mem_of_mem_drop z)
    obtain ⟨_, _, f⟩ := r.there hi
    rw [e] at f
    cases f
theorem frF_rd (r : Rel K m F h H) {a : Addr} {u : HO} (e : Rd F a u) : Rd (frF m F H n0) a u := by
  rcases e with e | ⟨o, e⟩
  · exact .inl (frF_F r e)
  · exact .inr ⟨o, frF_F r e⟩
theorem frF_sqT (r : Rel K m F h H) {a : Addr} {xs : List V} (e : SqT K F a xs) : SqT K (frF m F H n0) a xs := by
  rcases e with e | e
  · exact .inl (frF_rd r e)
  · exact .inr e
theorem frF_sqL (r : Rel K m F h H) {a : Addr} {xs : List V} (e : SqL K F a xs) : SqL K (frF m F H n0) a xs := by
  rcases e with e | e
  · exact .inl (frF_rd r e)
  · exact .inr e
mutual
theorem lo_has (r : Rel K m F h H) : ∀ {d : D} {v : V}, HasD K m F d v → d.lo n0 = true → HasD K (m.take n0) (frF m F H n0) d v
  | _, _, .non, _ => .non
  | _, _, .bl b, _ => .bl b
  | _, _, .int i, _ => .int i
  | _, _, .str x, _ => .str x
  | _, _, .tup e hs, p => .tup (frF_F r e) (los_has r hs (by simpa only [D.lo] using p))
  | _, _, .lst e hs, p => .lst (frF_F r e) (los_has r hs (by simpa only [D.lo] using p))
  | _, _, .lsk e hs, p => .lsk (frF_sqL r e) (los_has r hs (by simpa only [D.lo] using p))
  | _, _, .dK e hs, p => .dK (frF_rd r e) (loK_has r hs (by simpa only [D.lo] using p))
  | _, _, .dT e hs, p => .dT (frF_rd r e) (loT_has r hs (by simpa only [D.lo] using p))
  | _, _, .ref e, p => .ref (by
    rw [List.getElem?_take_of_lt (of_decide_eq_true (by simpa only [D.lo] using p))]
    exact e)
theorem los_has (r : Rel K m F h H) : ∀ {d : List D} {v : List V}, HasDs K m F d v → D.los n0 d = true → HasDs K (m.take n0) (frF m F H n0) d v
  | _, _, .nil, _ => .nil
  | _, _, .cons a b, p => by
    simp only [D.los, Bool.and_eq_true] at p
    exact .cons (lo_has r a p.1) (los_has r b p.2)
theorem loK_has (r : Rel K m F h H) : ∀ {d : List (Key × D)} {v : List (Key × V)}, HasKs K m F d v → D.loK n0 d = true → HasKs K (m.take n0) (frF m F H n0) d v
  | _, _, .nil, _ => .nil
  | _, _, .cons a b, p => by
    simp only [D.loK, Bool.and_eq_true] at p
    exact .cons (lo_has r a p.1) (loK_has r b p.2)
theorem loT_has (r : Rel K m F h H) : ∀ {d : List (List Key × D)} {v : List (List Key × V)}, HasTs K m F d v → D.loT n0 d = true → HasTs K (m.take n0) (frF m F H n0) d v
  | _, _, .nil, _ => .nil
  | _, _, .cons a b, p => by
    simp only [D.loT, Bool.and_eq_true] at p
    exact .cons (lo_has r a p.1) (loT_has r b p.2)
end
theorem mapD_has {f : D → Option D} {m' : Ad} {F' : Hp} (hf : ∀ {d : D} {v : V} {d' : D}, HasD K m F d v → f d = some d' → HasD K m' F' d' v) : ∀ {ds : List D} {vs : List V} {ds' : List D}, HasDs K m F ds vs → mapD f ds = some ds' → HasDs K m' F' ds' vs
  | _, _, _, .nil, e => by
    cases e
    exact .nil
  | _, _, _, .cons a b, e => by
    unfold mapD at e
    obtain ⟨y, e1, e2⟩ := Option.bind_eq_some_iff.mp e
    obtain ⟨ys, e3, e4⟩ := Option.map_eq_some_iff.mp e2
    subst e4
    exact .cons (hf a e1) (mapD_has hf b e3)
theorem mapP_hasK {f : D → Option D} {m' : Ad} {F' : Hp} (hf : ∀ {d : D} {v : V} {d' : D}, HasD K m F d v → f d = some d' → HasD K m' F' d' v) : ∀ {ds : List (Key × D)} {vs : List (Key × V)} {ds' : List (Key × D)}, HasKs K m F ds vs → mapP f ds = some ds' → HasKs K m' F' ds' vs
  | _, _, _, .nil, e => by
    cases e
    exact .nil
  | _, _, _, .cons a b, e => by
    unfold mapP at e
    obtain ⟨y, e1, e2⟩ := Option.bind_eq_some_iff.mp e
    obtain ⟨ys, e3, e4⟩ := Option.map_eq_some_iff.mp e2
    subst e4
    exact .cons (hf a e1) (mapP_hasK hf b e3)
theorem mapP_hasT {f : D → Option D} {m' : Ad} {F' : Hp} (hf : ∀ {d : D} {v : V} {d' : D}, HasD K m F d v → f d = some d' → HasD K m' F' d' v) : ∀ {ds : List (List Key × D)} {vs : List (List Key × V)} {ds' : List (List Key × D)}, HasTs K m F ds vs → mapP f ds = some ds' → HasTs K m' F' ds' vs
  | _, _, _, .nil, e => by
    cases e
    exact .nil
  | _, _, _, .cons a b, e => by
    unfold mapP at e
    obtain ⟨y, e1, e2⟩ := Option.bind_eq_some_iff.mp e
    obtain ⟨ys, e3, e4⟩ := Option.map_eq_some_iff.mp e2
    subst e4
    exact .cons (hf a e1) (mapP_hasT hf b e3)
theorem frz_has (r : Rel K m F h H) : ∀ (k : Nat) {d : D} {v : V} {d' : D}, HasD K m F d v → frz n0 h k d = some d' → HasD K (m.take n0) (frF m F H n0) d' v
  | 0, d, v, d', hd, e => by
    unfold frz at e
    split at e
    · rename_i p
      cases e
      exact lo_has r hd p
    · cases e
  | k + 1, d, v, d', hd, e => by
    have ih := @frz_has r k
    unfold frz at e
    split at e
    · rename_i p
      cases e
      exact lo_has r hd p
    · rename_i p
      cases hd with
      | ref hm =>
        rename_i n a
        have hn : a ∈ m.drop n0 := by
          have hge : n0 ≤ n := by
            rcases Nat.lt_or_ge n n0 with z | z
            · exact absurd (by simp only [D.lo]; exact decide_eq_true z) p
            · exact z
          refine List.mem_iff_getElem?.mpr ⟨n - n0, ?_⟩
          rw [List.getElem?_drop, Nat.add_sub_cancel' hge]
          exact hm
        simp only at e
        split at e
        · rename_i xs hc
          obtain ⟨ys, e1, rfl⟩ := Option.map_eq_some_iff.mp e
          obtain ⟨_, o, ho, ok⟩ := r.cell n a _ hm hc
          cases o with
          | lst vs => exact .lst (by rw [frF_in hn]; exact ho) (mapD_has (fun a b => ih a b) (show HasDs K m F xs vs from ok) e1)
          | _ => exact False.elim ok
        · rename_i xs hc
          obtain ⟨ys, e1, rfl⟩ := Option.map_eq_some_iff.mp e
          obtain ⟨_, o, ho, ok⟩ := r.cell n a _ hm hc
          cases o with
          | dK vs => exact .dK (.inl (by rw [frF_in hn]; exact ho)) (mapP_hasK (fun a b => ih a b) (show HasKs K m F xs vs from ok) e1)
          | _ => exact False.elim ok
        · rename_i xs hc
          obtain ⟨ys, e1, rfl⟩ := Option.map_eq_some_iff.mp e
          obtain ⟨_, o, ho, ok⟩ := r.cell n a _ hm hc
          cases o with
          | dT vs => exact .dT (.inl (by rw [frF_in hn]; exact ho)) (mapP_hasT (fun a b => ih a b) (show HasTs K m F xs vs from ok) e1)
          | _ => exact False.elim ok
        · cases e
      | tup ha hs =>
        obtain ⟨ys, e1, rfl⟩ := Option.map_eq_some_iff.mp e
        exact .tup (frF_F r ha) (mapD_has (fun a b => ih a b) hs e1)
      | lst ha hs =>
        obtain ⟨ys, e1, rfl⟩ := Option.map_eq_some_iff.mp e
        exact .lst (frF_F r ha) (mapD_has (fun a b => ih a b) hs e1)
      | dK ha hs =>
        obtain ⟨ys, e1, rfl⟩ := Option.map_eq_some_iff.mp e
        exact .dK (frF_rd r ha) (mapP_hasK (fun a b => ih a b) hs e1)
      | dT ha hs =>
        obtain ⟨ys, e1, rfl⟩ := Option.map_eq_some_iff.mp e
        exact .dT (frF_rd r ha) (mapP_hasT (fun a b => ih a b) hs e1)
      | _ => cases e
theorem mapC_get {f : Cell → Option Cell} : ∀ {h h' : AH} {n : Nat} {c' : Cell}, mapC f h = some h' → h'[n]? = some c' → ∃ c, h[n]? = some c ∧ f c = some c'
  | [], h', n, c', e, q => by
    cases e
    cases q
  | x :: xs, h', n, c', e, q => by
    unfold mapC at e
    obtain ⟨y, e1, e2⟩ := Option.bind_eq_some_iff.mp e
    obtain ⟨ys, e3, rfl⟩ := Option.map_eq_some_iff.mp e2
    cases n with
    | zero =>
      cases q
      exact ⟨x, rfl, e1⟩
    | succ n =>
      obtain ⟨c, h1, h2⟩ := mapC_get e3 (n := n) (c' := c') q
      exact ⟨c, h1, h2⟩
theorem mapC_len {f : Cell → Option Cell} : ∀ {h h' : AH}, mapC f h = some h' → h'.length = h.length
  | [], h', e => by
    cases e
    rfl
  | x :: xs, h', e => by
    unfold mapC at e
    obtain ⟨y, e1, e2⟩ := Option.bind_eq_some_iff.mp e
    obtain ⟨ys, e3, rfl⟩ := Option.map_eq_some_iff.mp e2
    rw [List.length_cons, List.length_cons, mapC_len e3]
theorem frz_rel (r : Rel K m F h H) (hn : n0 ≤ m.length) {h' : AH} (hl : h'.length = n0) (hc : ∀ (n : Nat) (c' : Cell), h'[n]? = some c' → ∃ c, h[n]? = some c ∧ ∀ o, CellOk K m F c o → CellOk K (m.take n0) (frF m F H n0) c' o) : Rel K (m.take n0) (frF m F H n0) h' H := by
  refine ⟨fun a o q => ?_, by rw [List.length_take, hl]; omega, r.nodup.sublist (List.take_sublist _ _), fun n a c' hm hc' => ?_⟩
  · by_cases z : a ∈ m.drop n0
    · rw [frF_in z] at q
      exact q
    · rw [frF_out z] at q
      exact r.sub _ _ q
  · have hlt : n < n0 := by
      have := (List.getElem?_eq_some_iff.mp hm).1
      rw [List.length_take] at this
      omega
    rw [List.getElem?_take_of_lt hlt] at hm
    obtain ⟨c, h1, h2⟩ := hc n c' hc'
    obtain ⟨f, o, ho, ok⟩ := r.cell n a c hm h1
    refine ⟨?_, o, ho, h2 o ok⟩
    rw [frF_out fun z => ?_]
    · exact f
    · obtain ⟨i, hi⟩ := List.mem_iff_getElem?.mp z
      rw [List.getElem?_drop] at hi
      have h3 := List.getElem?_eq_some_iff.mp hi
      have h4 := List.getElem?_eq_some_iff.mp hm
      have := (List.getElem_inj r.nodup).mp (h3.2.trans h4.2.symm)
      omega
theorem frz_ext {m0 : Ad} {F0 H0 : Hp} (r : Rel K m F h H) (e : Ext m0 F0 H0 m F H) : Ext m0 F0 H0 m0 (frF m F H m0.length) H := by
  refine ⟨fun _ _ q => q, fun a u su q => frF_rd r (e.fz a u su q), fun a xs k q => frF_F r (e.ls a xs k q), fun a o k q q1 q2 => ?_⟩
  obtain ⟨h1, h2, h3⟩ := e.fr a o k q q1 q2
  exact ⟨h1, q1, by rw [frF_out fun z => h2 (List.mem_of_mem_drop z)]; exact h3⟩
/-- a def's end -/
theorem endFn_post {W : Wi} {m0 : Ad} {F0 H0 : Hp} {d : D} {v : V} {Q : VK} (r : Rel K m F h H) (e : Ext m0 F0 H0 m F H) (hd : HasD K m F d v) (q : post K W (HasD K) m0 F0 H0 (endFn m0.length d h) Q) : Q v H := by
  have ht : m.take m0.length = m0 := e.take
  have hle := e.len
  have hrl := r.len
  unfold endFn at q
  split at q
  · rename_i d' hd'
    have hv := frz_has r 6 hd hd'
    split at q
    · rename_i hb
      have rr : Rel K (m.take m0.length) (frF m F H m0.length) (h.take m0.length) H := frz_rel r hle (by rw [List.length_take]; omega) fun n c' hc' => by
        have hlt : n < m0.length := by
          have := (List.getElem?_eq_some_iff.mp hc').1
          rw [List.length_take] at this
          omega
        have hall := List.all_eq_true.mp hb c' (List.mem_of_getElem? hc')
        rw [List.getElem?_take_of_lt hlt] at hc'
        refine ⟨c', hc', fun o ok => ?_⟩
        cases c' <;> cases o <;> first
          | exact los_has r ok hall
          | exact loK_has r ok hall
          | exact loT_has r ok hall
          | exact False.elim ok
      rw [ht] at rr hv
      exact q m0 _ H v (frz_ext r e) rr hv
    · split at q
      · rename_i hs hhs
        have rr : Rel K (m.take m0.length) (frF m F H m0.length) hs H := frz_rel r hle (by rw [mapC_len hhs, List.length_take]; omega) fun n c' hc' => by
          obtain ⟨c, h1, h2⟩ := mapC_get hhs hc'
          have hlt : n < m0.length := by
            have := (List.getElem?_eq_some_iff.mp h1).1
            rw [List.length_take] at this
            omega
          rw [List.getElem?_take_of_lt hlt] at h1
          refine ⟨c, h1, fun o ok => ?_⟩
          cases c with
          | lst xs =>
            obtain ⟨ys, e1, rfl⟩ := Option.map_eq_some_iff.mp h2
            cases o with
            | lst vs => exact mapD_has (fun a b => frz_has r 6 a b) (show HasDs K m F xs vs from ok) e1
            | _ => exact False.elim ok
          | dK xs =>
            obtain ⟨ys, e1, rfl⟩ := Option.map_eq_some_iff.mp h2
            cases o with
            | dK vs => exact mapP_hasK (fun a b => frz_has r 6 a b) (show HasKs K m F xs vs from ok) e1
            | _ => exact False.elim ok
          | dT xs =>
            obtain ⟨ys, e1, rfl⟩ := Option.map_eq_some_iff.mp h2
            cases o with
            | dT vs => exact mapP_hasT (fun a b => frz_has r 6 a b) (show HasTs K m F xs vs from ok) e1
            | _ => exact False.elim ok
        rw [ht] at rr hv
        exact q m0 _ H v (frz_ext r e) rr hv
      · exact q.elim
  · exact q.elim
end

/-! ### defs -/
abbrev MF := List D → AH → Res D
/-- n slots, the body -/
def fnB (n : Nat) (b : MS) : MF := fun ds h => match b (ds.map some ++ List.replicate (n - ds.length) none) h with
  | .rt d h' => endFn h.length d h'
  | .nx _ h' => endFn h.length .non h'
  | _ => .bad
/-- the def x of n parameters does what M says, called at most k deep -/
structure DFn (P : Program) (w : World) (K : PySem.W.Frag) (mg : Str → Option Value) (base : Heap) (k : Nat) (x : Str) (n : Nat) (M : MF) : Prop where
  nx : ∀ ds h z h', M ds h ≠ .exc z h'
  ex : ∃ (f : Addr) (fd : FuncData) (ps : List Str), mg x = some (.ref f) ∧ PySem.W.keepIn K (.ref f) = true ∧ Binds K fd ps [] ∧ ps.length = n ∧
    ∀ (A : Around) (outer : List Env) (s : Shared) (H : Hp) (args : Args) (us : List Value) (vs : List V) (Q : VK) (ds : List D) (m : Ad) (F : Hp) (h : AH), Room k A → A.guards = some [] → Env0 P w K mg base A outer s H → BindsTo s fd args (ps.zip us) → Vals vs us → ds.length = n →
      Rel K m F h H → HasDs K m F ds vs → post K WF (HasD K) m F H (M ds h) Q → codeAny (model P w) A (.call (.ref f) args) (CR CX0 outer P w H s Q E0) s
theorem DFn.mono {P : Program} {w : World} {K : PySem.W.Frag} {mg : Str → Option Value} {base : Heap} {j k : Nat} {x : Str} {n : Nat} {M : MF} (d : DFn P w K mg base j x n M) (h : j ≤ k) : DFn P w K mg base k x n M := by
  obtain ⟨f, fd, ps, a, b, c, e, r⟩ := d.ex
  exact ⟨d.nx, f, fd, ps, a, b, c, e, fun A outer s H args us vs Q ds m F hh hr => r A outer s H args us vs Q ds m F hh (hr.mono h)⟩
def cCall (K : PySem.W.Frag) (n : Nat) (M : MF) (t : TA) : TE := fun σ H Q => t σ H fun vs H1 => ∃ ds m F h, ds.length = n ∧ Rel K m F h H1 ∧ HasDs K m F ds vs ∧ post K WF (HasD K) m F H1 (M ds h) Q
theorem de_call {X : Cx} {W : Wi} {k n : Nat} {x : Str} {M : MF} {e : Expr} {es : List Expr} {fs : List ME} {p pos : Pos} (d : DFn X.prog X.w X.K X.mg X.base k x n M) (hr : Room k X.A) (hG : X.A.guards = some []) (ha : DA X W (e :: es) fs)
    (hn : fs.length = n := by rfl) (hg : Gl X x := by rfl) (hdb : (x == ("__debug__" : Str)) = false := by decide) (he : starEach (e :: es) X.env = (false, eval e X.env) :: starEach es X.env := by rfl) (hpl : (backTo pos (starEach es X.env)).any (·.1) = false := by rfl) :
    DE X W (.Call (.Name x p) (e :: es) [] pos) (eL M fs) := by
  obtain ⟨t, pa, ia⟩ := ha.ex
  obtain ⟨f, fd, ps, hm, hk, hb, hpn, run⟩ := d.ex
  refine ⟨cCall X.K n M t, ⟨fun pins s σ H Q I h => wpAny_Call_Name_kw (ld_glob I hg hm (PySem.W.callWith_K (h₀ := X.base) I.ok.mod.kin hk (thn (pa.run pos pins s σ H _ I h) fun us s1 hq => ?_) he hpl) hdb)⟩, fun m F h H s σ Q r E q => ?_⟩
  · obtain ⟨vs, H1, I1, rv, ds, m, F, hh, hl, r1, hd, q⟩ := hq
    refine ⟨I1.kIn, wpAny_call (codeAny_mono (run X.A X.stack s1 H1 ⟨us, []⟩ us vs Q ds m F hh hr hG I1.env0 ?_ rv hl r1 hd q) fun res s2 hres => ?_)⟩
    · have hl2 : (us ++ []).length = ps.length := by rw [List.append_nil, ← rv.length, ← hd.length, hl, hpn]
      have := hb s1 us I1.kIn hl2
      rwa [List.append_nil] at this
    · cases res with
      | error z => exact False.elim hres
      | ok fl =>
        cases fl with
        | ret u => exact I1.after hres
        | _ => exact False.elim hres
  · refine ia m F h H s σ _ r E (q.bind fun ds h' m' F' H' vs hv e' r' hd q => ⟨ds, m', F', h', by rw [evs_len hv]; exact hn, r', hd, ?_⟩)
    cases hM : M ds h' with
    | ok z h2 => rw [hM] at q; exact q
    | exc z h2 => exact absurd hM (d.nx ds h' z h2)
    | bad => rw [hM] at q; exact q
theorem fnB_nx {n : Nat} {b : MS} : ∀ ds h z h', fnB n b ds h ≠ .exc z h' := fun ds h z h' e => by
  have en : ∀ n0 d hh, endFn n0 d hh ≠ .exc z h' := fun n0 d hh e => by
    unfold endFn at e
    split at e
    · split at e
      · cases e
      · split at e <;> cases e
    · cases e
  unfold fnB at e
  split at e
  · exact en _ _ _ e
  · exact en _ _ _ e
  · cases e
theorem envR_start {K : PySem.W.Frag} {m : Ad} {F : Hp} {N : List Str} {ds : List D} {vs : List V} {n : Nat} (hn : N.length = n) (hl : vs.length ≤ n) (h : HasDs K m F ds vs) : EnvR K m F (ds.map some ++ List.replicate (n - ds.length) none) (L2.start N vs) := by
  have hlen := h.length
  subst hn
  unfold L2.start
  refine ⟨by simp; omega, fun i d q => ?_⟩
  rcases Nat.lt_or_ge i ds.length with hi | hi
  · rw [List.getElem?_append_left (by simpa using hi), List.getElem?_map] at q
    obtain ⟨d', h1, h2⟩ := Option.map_eq_some_iff.mp q
    cases h2
    obtain ⟨v, hv, rv⟩ := h.get h1
    exact ⟨v, by rw [List.getElem?_append_left (by rw [List.length_map]; omega), List.getElem?_map, hv]; rfl, rv⟩
  · rw [List.getElem?_append_right (by simpa using hi), List.getElem?_replicate] at q
    split at q <;> cases q
/-- THE RULE of a def: its body read as b -/
theorem dfn_of {P : Program} {w : World} {K : PySem.W.Frag} {mg : Str → Option Value} {base : Heap} {k n np : Nat} {x qual : Str} {st : Stmt} {f : Addr} {fd : FuncData} {N ps : List Str} {b : MS} (T : L2.Fun K x qual st f fd) (S : FnScope N ps (defScope st)) (hm : mg x = some (.ref f)) (hn : N.length = n) (hp : ps.length = np) (hpn : np ≤ n)
    (bind : ∀ (kV doc pm : Value) (an : Option Addr) (cdv ct : Value) (us : List Value), us.length = ps.length → bindArgs (PySem.W.fnOf x qual (defArgs st) (defBody st) (defScope st) .none kV doc pm an cdv ct) ⟨us, []⟩ = pure (ps.zip us))
    (body : ∀ (f : Addr) (cdv : Value) (A : Around) (outer : List Env) (s : Shared) (H : Hp) (E : XK) (X : Cx), X = (cxOf CX0 P w K mg base N qual (defScope st) f cdv A outer s H E).nox → Room k X.A → X.A.guards = some [] → DSs X WF (defBody st) b) :
    DFn P w K mg base (k + 1) x np (fnB n b) := by
  obtain ⟨oc, od, kV, doc, pm, an, cdv, ct, osl, efd, lk, hcd⟩ := T.ex
  refine ⟨fnB_nx, f, fd, ps, hm, T.kp, T.binds bind, hp, fun A outer s H args us vs Q ds m F h hr hG e0 hb rv hl r hd q => ?_⟩
  subst efd
  have same : ∀ (b : Addr) (o : Obj), base.get? b = some o → s.heap.get? b = some o := fun b o e => (e0.bs b o e).1
  have hK : K.In s.heap := e0.mod.kin.keeps same
  have hlv : vs.length = ps.length := by rw [← hd.length, hl, hp]
  have kinds : ∀ y ∈ ps.zip us, (defScope st).names.lookup y.1 = some .local ∨ ((defScope st).names.lookup y.1 = some .cell ∧ ((cellsFrom (s.heap.objs.size + 1) (defScope st).names []).lookup y.1).isSome = true) := fun y hy => by
    have hy1 : y.1 ∈ ps := (List.of_mem_zip (a := y.1) (b := y.2) hy).1
    exact (S.par y.1 hy1).elim Or.inl fun z => Or.inr ⟨z, PySem.W.cellsFrom_some _ _ _ (Or.inl z)⟩
  refine codeAny_call_function hr.depth (hK _ _ lk) rfl S.co S.gen rfl (PySem.W.codeRec_of hK hcd) (hb _ _ _ _ ?_)
  refine wpAny_newFunctionEnv_cells S.kind kinds fun env henv s1 hx => ?_
  subst henv
  refine ⟨(e0.mod.nolimit.keeps same).keeps hx.toInCall.keep, codeAny_func ?_⟩
  obtain ⟨t, pt, it⟩ := (body f cdv A outer s H E0 _ rfl (hr.deeper _) hG).ex
  have I := inv_start (CX := CX0) (E := E0) S hr.hd e0 hlv rv hx
  have E := envR_start (N := N) hn (by rw [hlv, hp]; exact hpn) hd
  have go : t { nx := fun _ H' => Q .non H', rt := Q } (L2.start N vs) H := it m F h H _ _ _ r E (by
    have hm0 : h.length = m.length := r.len.symm
    unfold fnB at q
    rw [hm0] at q
    cases hb : b (ds.map some ++ List.replicate (n - ds.length) none) h with
    | rt d h' =>
      rw [hb] at q
      exact fun m' F' H' v e' r' hd' => endFn_post r' e' hd' q
    | nx s' h' =>
      rw [hb] at q
      exact fun m' F' H' σ' e' r' E' => endFn_post r' e' .non q
    | bk s' h' => rw [hb] at q; exact q.elim
    | ct s' h' => rw [hb] at q; exact q.elim
    | exc z h' => rw [hb] at q; exact q.elim
    | bad => rw [hb] at q; exact q.elim)
  refine wpAny_mono (PSs.nox (X := cxOf CX0 P w K mg base N qual (defScope st) f cdv A outer s H E0) pt |>.run [] s1 (L2.start N vs) H _ I go) (fun fl s' hs => ?_) fun e s' hs => hs
  cases fl with
  | ret u =>
    obtain ⟨v, σ', H', J, r2, q2⟩ := hs
    exact ⟨v, H', J.os, J.bare, J.base, J.hok, r2, q2⟩
  | next =>
    obtain ⟨σ', H', J, q2⟩ := hs
    exact ⟨.non, H', J.os, J.bare, J.base, J.hok, rfl, q2⟩
  | brk =>
    obtain ⟨σ', H', J, q2⟩ := hs
    exact False.elim q2
  | cont =>
    obtain ⟨σ', H', J, q2⟩ := hs
    exact False.elim q2
end DL

namespace DL
open PySem PySem.Spec PyProof.Rows L2

/-! ### calls of built-ins -/
abbrev ML := List D → AH → Res D
section
variable {K : PySem.W.Frag} {W : Wi}
def gAbs : ML := fun ds h => match ds with
  | [.int i] => .ok (.int (if i < 0 then -i else i)) h
  | _ => .bad
theorem HasDs.one {m : Ad} {F : Hp} {d : D} {xs : List V} (h : HasDs K m F [d] xs) : ∃ x, xs = [x] ∧ HasD K m F d x := by
  cases h with
  | cons a b =>
    cases b
    exact ⟨_, rfl, a⟩
theorem HasDs.two {m : Ad} {F : Hp} {d e : D} {xs : List V} (h : HasDs K m F [d, e] xs) : ∃ x y, xs = [x, y] ∧ HasD K m F d x ∧ HasD K m F e y := by
  cases h with
  | cons a b =>
    cases b with
    | cons c b =>
      cases b
      exact ⟨_, _, rfl, a, c⟩
theorem sem_abs : SemL K W (fun xs H Q => ∃ i, xs = [.int i] ∧ Q (.int (if i < 0 then -i else i)) H) gAbs := fun m F h H xs ds Q r hd q => by
  unfold gAbs at q
  split at q
  · obtain ⟨x, rfl, hx⟩ := hd.one
    cases hx
    exact ⟨_, rfl, q.ok r (.int _)⟩
  · exact q.elim
def gInt : ML := fun ds h => match ds with
  | [.int i] => .ok (.int i) h
  | [.bl b] => .ok (.int (if b = true then 1 else 0)) h
  | _ => .bad
theorem sem_int : SemL K W (fun xs H Q => (∃ i, xs = [.int i] ∧ Q (.int i) H) ∨ ∃ k, xs = [.bl k] ∧ Q (.int (if k then 1 else 0)) H) gInt := fun m F h H xs ds Q r hd q => by
  unfold gInt at q
  split at q
  · obtain ⟨x, rfl, hx⟩ := hd.one
    cases hx
    exact .inl ⟨_, rfl, q.ok r (.int _)⟩
  · obtain ⟨x, rfl, hx⟩ := hd.one
    cases hx
    exact .inr ⟨_, rfl, q.ok r (.int _)⟩
  · exact q.elim
def gLen : ML := fun ds h => match ds with
  | [.str z] => if lenOk z.length = true then .ok (.int z.length) h else .bad
  | [d] => match seqAt d h with
    | some xs => .ok (.int xs.length) h
    | none => .bad
  | _ => .bad
theorem sem_len : SemL K W (fun xs H Q => ∃ x n, xs = [x] ∧ LenV K x H n ∧ Q (.int n) H) gLen := fun m F h H xs ds Q r hd q => by
  unfold gLen at q
  split at q
  · obtain ⟨x, rfl, hx⟩ := hd.one
    cases hx
    split at q
    · rename_i hl
      exact ⟨_, _, rfl, ⟨lenOk_le hl, rfl⟩, q.ok r (.int _)⟩
    · exact q.elim
  · obtain ⟨x, rfl, hx⟩ := hd.one
    split at q
    · rename_i ys e1
      obtain ⟨a, vs, rfl, ha, h1⟩ := seqAt_at r hx e1
      refine ⟨_, vs.length, rfl, ?_, by rw [← h1.length]; exact q.ok r (.int _)⟩
      rcases ha with ha | ha
      · exact .inl ⟨vs, ha, rfl⟩
      · exact .inr ⟨vs, ha, rfl⟩
    · exact q.elim
  · exact q.elim
def gList (b : Bool) : ML := fun ds h => match ds with
  | [d] => match seqAt d h with
    | some xs => mkL b xs h
    | none => .bad
  | _ => .bad
theorem sem_list {b : Bool} : SemL K W (fun xs H Q => ∃ p ys, xs = [.ref p] ∧ (SqL K H p ys ∨ SqT K H p ys) ∧ ∀ l, H l = none → Q (.ref l) (upd H l (.lst ys))) (gList b) := fun m F h H xs ds Q r hd q => by
  unfold gList at q
  split at q
  · obtain ⟨x, rfl, hx⟩ := hd.one
    split at q
    · rename_i ys e1
      obtain ⟨a, vs, rfl, ha, h1⟩ := seqAt_at r hx e1
      exact ⟨a, vs, rfl, ha, q.mkL r h1⟩
    · exact q.elim
  · exact q.elim
def gTup : ML := fun ds h => match ds with
  | [.tup xs] => .ok (.tup xs) h
  | [d] => match listAt d h with
    | some xs => .ok (.tup xs) h
    | none => .bad
  | _ => .bad
theorem sem_tup : SemL K W (fun xs H Q => ∃ p ys, xs = [.ref p] ∧ ((SqL K H p ys ∧ ∀ l, H l = none → Q (.ref l) (upd H l (.tup ys))) ∨ (SqT K H p ys ∧ Q (.ref p) H))) gTup := fun m F h H xs ds Q r hd q => by
  unfold gTup at q
  split at q
  · obtain ⟨x, rfl, hx⟩ := hd.one
    cases hx with
    | tup ha h1 => exact ⟨_, _, rfl, .inr ⟨SqT.of (r.sub _ _ ha), q.ok r (HasD.tup ha h1)⟩⟩
  · obtain ⟨x, rfl, hx⟩ := hd.one
    split at q
    · rename_i ys e1
      obtain ⟨a, vs, rfl, ha, h1⟩ := listAt_at r hx e1
      exact ⟨a, vs, rfl, .inl ⟨ha, q.newT r h1⟩⟩
    · exact q.elim
  · exact q.elim
/-- the ints of a list -/
def intsD : List D → Option (List Int)
  | [] => some []
  | .int i :: ds => (intsD ds).map (i :: ·)
  | _ :: _ => none
theorem intsD_eq : ∀ {ds : List D} {ns : List Int}, intsD ds = some ns → ds = ns.map D.int
  | [], ns, e => by
    cases e
    rfl
  | d :: ds, ns, e => by
    cases d with
    | int i =>
      unfold intsD at e
      obtain ⟨ms, e1, rfl⟩ := Option.map_eq_some_iff.mp e
      rw [List.map_cons, ← intsD_eq e1]
    | _ => cases e
theorem intsD_map : ∀ ns : List Int, intsD (ns.map D.int) = some ns
  | [] => rfl
  | n :: ns => by
    rw [List.map_cons]
    unfold intsD
    rw [intsD_map ns]
    rfl
def strsD : List D → Option (List Str)
  | [] => some []
  | .str i :: ds => (strsD ds).map (i :: ·)
  | _ :: _ => none
theorem strsD_eq : ∀ {ds : List D} {ns : List Str}, strsD ds = some ns → ds = ns.map D.str
  | [], ns, e => by
    cases e
    rfl
  | d :: ds, ns, e => by
    cases d with
    | str i =>
      unfold strsD at e
      obtain ⟨ms, e1, rfl⟩ := Option.map_eq_some_iff.mp e
      rw [List.map_cons, ← strsD_eq e1]
    | _ => cases e
theorem strsD_map : ∀ ns : List Str, strsD (ns.map D.str) = some ns
  | [] => rfl
  | n :: ns => by
    rw [List.map_cons]
    unfold strsD
    rw [strsD_map ns]
    rfl
def blsD : List D → Option (List Bool)
  | [] => some []
  | .bl i :: ds => (blsD ds).map (i :: ·)
  | _ :: _ => none
theorem blsD_eq : ∀ {ds : List D} {ns : List Bool}, blsD ds = some ns → ds = ns.map D.bl
  | [], ns, e => by
    cases e
    rfl
  | d :: ds, ns, e => by
    cases d with
    | bl i =>
      unfold blsD at e
      obtain ⟨ms, e1, rfl⟩ := Option.map_eq_some_iff.mp e
      rw [List.map_cons, ← blsD_eq e1]
    | _ => cases e
theorem blsD_map : ∀ ns : List Bool, blsD (ns.map D.bl) = some ns
  | [] => rfl
  | n :: ns => by
    rw [List.map_cons]
    unfold blsD
    rw [blsD_map ns]
    rfl
def gSum : ML := fun ds h => match ds with
  | [d] => match (listAt d h).bind intsD with
    | some ns => .ok (.int ns.sum) h
    | none => .bad
  | _ => .bad
theorem ints_at {m : Ad} {F : Hp} {h : AH} {H : Hp} (r : Rel K m F h H) {d : D} {x : V} {ns : List Int} (hx : HasD K m F d x) (e : (listAt d h).bind intsD = some ns) : ∃ a, x = .ref a ∧ SqL K H a (ns.map V.int) := by
  obtain ⟨ys, e1, e2⟩ := Option.bind_eq_some_iff.mp e
  obtain ⟨a, vs, rfl, ha, h1⟩ := listAt_at r hx e1
  rw [intsD_eq e2] at h1
  rw [h1.ints] at ha
  exact ⟨a, rfl, ha⟩
theorem bls_at {m : Ad} {F : Hp} {h : AH} {H : Hp} (r : Rel K m F h H) {d : D} {x : V} {ns : List Bool} (hx : HasD K m F d x) (e : (listAt d h).bind blsD = some ns) : ∃ a, x = .ref a ∧ SqL K H a (ns.map V.bl) := by
  obtain ⟨ys, e1, e2⟩ := Option.bind_eq_some_iff.mp e
  obtain ⟨a, vs, rfl, ha, h1⟩ := listAt_at r hx e1
  rw [blsD_eq e2] at h1
  rw [h1.bls] at ha
  exact ⟨a, rfl, ha⟩
theorem sem_sum : SemL K W (rSum K) gSum := fun m F h H xs ds Q r hd q => by
  unfold gSum at q
  split at q
  · obtain ⟨x, rfl, hx⟩ := hd.one
    split at q
    · rename_i ns e
      obtain ⟨a, rfl, ha⟩ := ints_at r hx e
      exact ⟨a, ns, rfl, ha, q.ok r (.int _)⟩
    · exact q.elim
  · exact q.elim
def maxI : List Int → Int
  | [] => 0
  | [x] => x
  | x :: xs => max x (maxI xs)
def minI : List Int → Int
  | [] => 0
  | [x] => x
  | x :: xs => min x (minI xs)
theorem maxI_of : ∀ {ns : List Int} {k : Int}, k ∈ ns → (∀ y, y ∈ ns → y ≤ k) → maxI ns = k
  | [], k, h, _ => nomatch h
  | [x], k, h, _ => (List.mem_singleton.mp h).symm
  | x :: y :: xs, k, h, hl => by
    show max x (maxI (y :: xs)) = k
    have up : ∀ l : List Int, l ≠ [] → (∀ z, z ∈ l → z ≤ k) → maxI l ≤ k := by
      intro l
      induction l with
      | nil => intro z _; exact absurd rfl z
      | cons a l ih =>
        intro _ hb
        cases l with
        | nil => exact hb a (List.mem_singleton.mpr rfl)
        | cons c l =>
          show max a (maxI (c :: l)) ≤ k
          have h1 := hb a List.mem_cons_self
          have h2 := ih (by simp) fun z hz => hb z (List.mem_cons_of_mem _ hz)
          omega
    have h2 := up (y :: xs) (by simp) fun z hz => hl z (List.mem_cons_of_mem _ hz)
    have h1 := hl x List.mem_cons_self
    rcases List.mem_cons.mp h with rfl | h
    · omega
    · have h3 := maxI_of h fun z hz => hl z (List.mem_cons_of_mem _ hz)
      omega
theorem minI_of : ∀ {ns : List Int} {k : Int}, k ∈ ns → (∀ y, y ∈ ns → k ≤ y) → minI ns = k
  | [], k, h, _ => nomatch h
  | [x], k, h, _ => (List.mem_singleton.mp h).symm
  | x :: y :: xs, k, h, hl => by
    show min x (minI (y :: xs)) = k
    have up : ∀ l : List Int, l ≠ [] → (∀ z, z ∈ l → k ≤ z) → k ≤ minI l := by
      intro l
      induction l with
      | nil => intro z _; exact absurd rfl z
      | cons a l ih =>
        intro _ hb
        cases l with
        | nil => exact hb a (List.mem_singleton.mpr rfl)
        | cons c l =>
          show k ≤ min a (minI (c :: l))
          have h1 := hb a List.mem_cons_self
          have h2 := ih (by simp) fun z hz => hb z (List.mem_cons_of_mem _ hz)
          omega
    have h2 := up (y :: xs) (by simp) fun z hz => hl z (List.mem_cons_of_mem _ hz)
    have h1 := hl x List.mem_cons_self
    rcases List.mem_cons.mp h with rfl | h
    · omega
    · have h3 := minI_of h fun z hz => hl z (List.mem_cons_of_mem _ hz)
      omega
def gMax1 : ML := fun ds h => match ds with
  | [d] => match (listAt d h).bind intsD with
    | some ns => if ns.length = 0 then .bad else .ok (.int (maxI ns)) h
    | none => .bad
  | _ => .bad
def gMin1 : ML := fun ds h => match ds with
  | [d] => match (listAt d h).bind intsD with
    | some ns => if ns.length = 0 then .bad else .ok (.int (minI ns)) h
    | none => .bad
  | _ => .bad
theorem sem_max1 : SemL K W (rMax K) gMax1 := fun m F h H xs ds Q r hd q => by
  unfold gMax1 at q
  split at q
  · obtain ⟨x, rfl, hx⟩ := hd.one
    split at q
    · rename_i ns e
      obtain ⟨a, rfl, ha⟩ := ints_at r hx e
      split at q
      · exact q.elim
      · rename_i hl
        refine ⟨a, ns, rfl, ha, by omega, fun k h1 h2 => ?_⟩
        rw [← maxI_of h1 h2]
        exact q.ok r (.int _)
    · exact q.elim
  · exact q.elim
theorem sem_min1 : SemL K W (rMin K) gMin1 := fun m F h H xs ds Q r hd q => by
  unfold gMin1 at q
  split at q
  · obtain ⟨x, rfl, hx⟩ := hd.one
    split at q
    · rename_i ns e
      obtain ⟨a, rfl, ha⟩ := ints_at r hx e
      split at q
      · exact q.elim
      · rename_i hl
        refine ⟨a, ns, rfl, ha, by omega, fun k h1 h2 => ?_⟩
        rw [← minI_of h1 h2]
        exact q.ok r (.int _)
    · exact q.elim
  · exact q.elim
def gMax2 : ML := fun ds h => match ds with
  | [.int i, .int j] => .ok (.int (if j > i then j else i)) h
  | _ => .bad
def gMin2 : ML := fun ds h => match ds with
  | [.int i, .int j] => .ok (.int (if j < i then j else i)) h
  | _ => .bad
theorem sem_max2 : SemL K W (fun xs H Q => ∃ i j, xs = [.int i, .int j] ∧ Q (.int (if j > i then j else i)) H) gMax2 := fun m F h H xs ds Q r hd q => by
  unfold gMax2 at q
  split at q
  · obtain ⟨x, y, rfl, hx, hy⟩ := hd.two
    cases hx
    cases hy
    exact ⟨_, _, rfl, q.ok r (.int _)⟩
  · exact q.elim
theorem sem_min2 : SemL K W (fun xs H Q => ∃ i j, xs = [.int i, .int j] ∧ Q (.int (if j < i then j else i)) H) gMin2 := fun m F h H xs ds Q r hd q => by
  unfold gMin2 at q
  split at q
  · obtain ⟨x, y, rfl, hx, hy⟩ := hd.two
    cases hx
    cases hy
    exact ⟨_, _, rfl, q.ok r (.int _)⟩
  · exact q.elim
def gAll : ML := fun ds h => match ds with
  | [d] => match (listAt d h).bind blsD with
    | some ns => .ok (.bl (ns.all id)) h
    | none => .bad
  | _ => .bad
def gAny : ML := fun ds h => match ds with
  | [d] => match (listAt d h).bind blsD with
    | some ns => .ok (.bl (ns.any id)) h
    | none => .bad
  | _ => .bad
theorem sem_all : SemL K W (rAll K) gAll := fun m F h H xs ds Q r hd q => by
  unfold gAll at q
  split at q
  · obtain ⟨x, rfl, hx⟩ := hd.one
    split at q
    · rename_i ns e
      obtain ⟨a, rfl, ha⟩ := bls_at r hx e
      exact ⟨a, ns, rfl, ha, q.ok r (.bl _)⟩
    · exact q.elim
  · exact q.elim
theorem sem_any : SemL K W (rAny K) gAny := fun m F h H xs ds Q r hd q => by
  unfold gAny at q
  split at q
  · obtain ⟨x, rfl, hx⟩ := hd.one
    split at q
    · rename_i ns e
      obtain ⟨a, rfl, ha⟩ := bls_at r hx e
      exact ⟨a, ns, rfl, ha, q.ok r (.bl _)⟩
    · exact q.elim
  · exact q.elim
end

/-! ### repr -/
mutual
theorem D.py_noDict : ∀ d : D, d.py.hasDict = false
  | .non => rfl
  | .bl _ => rfl
  | .int _ => rfl
  | .str _ => rfl
  | .tup xs => by simp only [D.py, PyData.hasDict, D.pys_noDict xs]
  | .lst xs => by simp only [D.py, PyData.hasDict, D.pys_noDict xs]
  | .lsk xs => by simp only [D.py, PyData.hasDict, D.pys_noDict xs]
  | .dK _ => rfl
  | .dT _ => rfl
  | .ref _ => rfl
theorem D.pys_noDict : ∀ ds : List D, PyData.hasDictAll (D.pys ds) = false
  | [] => rfl
  | x :: xs => by simp only [D.pys, PyData.hasDictAll, D.py_noDict x, D.pys_noDict xs, Bool.or_self]
end
def gRepr : ML := fun ds h => match ds with
  | [d] => if ((res d h).pure && decide ((res d h).dep ≤ 60) && (res d h).py.showable && lenOk (res d h).py.shown.length) = true then .ok (.str (res d h).py.shown) h else .bad
  | _ => .bad
def rReprD (K : PySem.W.Frag) : List V → Hp → VK → Prop := fun xs H Q => ∃ x d, xs = [x] ∧ Dp K H x d ∧ d.depth ≤ 60 ∧ d.showable = true ∧ d.hasDict = false ∧ d.shown.length ≤ sizeLine ∧ Q (.str d.shown) H
theorem cr_repr {X : Cx} (hG : X.A.guards = some []) (hu : X.A.units + 64 < cLine) : CallR X (.builtin "repr") (rReprD X.K) := by
  intro pins s σ H xs us Q I r h
  obtain ⟨x, d, rfl, hd, hdep, hs, hn, hl, q⟩ := h
  obtain ⟨u, rfl, rx⟩ := r.one
  obtain ⟨as, rd⟩ := Dp.reads I d x u hd rx
  cases rd with
  | none => exact PySem.P.repr_of_none ⟨.str _, H, I.tok _, ⟨_, rfl⟩, q⟩
  | bool b => exact PySem.P.repr_of_bool ⟨.str _, H, I.tok _, ⟨_, rfl⟩, q⟩
  | int i t => exact PySem.P.repr_of_int (of_decide_eq_true hs) ⟨.str _, H, I.tok _, ⟨_, rfl⟩, q⟩
  | str z t => exact PySem.P.repr_of_str ⟨.str _, H, I.tok _, ⟨_, rfl⟩, q⟩ hl
  | list h1 h2 h3 h4 =>
    exact repr_of_reads' (.list h1 h2 h3 h4) hs (fun z => by rw [hn] at z; cases z) hG (by omega) (fun b o e => e) (fun h' u tk hk => ⟨.str _, H, I.kept hk, ⟨_, rfl⟩, q⟩) hl
  | tuple h1 h2 h3 h4 =>
    exact repr_of_reads' (.tuple h1 h2 h3 h4) hs (fun z => by rw [hn] at z; cases z) hG (by omega) (fun b o e => e) (fun h' u tk hk => ⟨.str _, H, I.kept hk, ⟨_, rfl⟩, q⟩) hl
  | dict => cases hn
theorem sem_repr {K : PySem.W.Frag} {W : Wi} : SemL K W (rReprD K) gRepr := fun m F h H xs ds Q r hd q => by
  unfold gRepr at q
  split at q
  · obtain ⟨x, rfl, hx⟩ := hd.one
    split at q
    · rename_i hc
      simp only [Bool.and_eq_true, decide_eq_true_eq] at hc
      exact ⟨x, _, rfl, res_dp r hx hc.1.1.1, by rw [D.py_depth]; exact hc.1.1.2, hc.1.2, D.py_noDict _, lenOk_le hc.2, q.ok r (.str _)⟩
    · exact q.elim
  · exact q.elim

/-! ### methods -/
def SemM (K : PySem.W.Frag) (W : Wi) (r : V → List V → Hp → VK → Prop) (g : D → List D → AH → Res D) : Prop := ∀ m F h H x d xs ds Q, Rel K m F h H → HasD K m F d x → HasDs K m F ds xs → post K W (HasD K) m F H (g d ds h) Q → r x xs H Q
def IsTy (K : PySem.W.Frag) (T : String) (tb : D → AH → Bool) : Prop := ∀ m F h H x d, Rel K m F h H → HasD K m F d x → tb d h = true → tyV K T x H
def eM (tb : D → AH → Bool) (g : D → List D → AH → Res D) (fo : ME) (fs : List ME) : ME := fun s h => (fo s h).bind fun d h => if tb d h = true then (evs fs s h).bind fun ds h => g d ds h else .bad
section
variable {X : Cx} {W : Wi}
theorem de_bm {T id : String} {name : Str} {tb : D → AH → Bool} {r : V → List V → Hp → VK → Prop} {g : D → List D → AH → Res D} {o e : Expr} {es : List Expr} {fo : ME} {fs : List ME} {apos cpos : Pos}
    (pa : PlainAttrs T) (slot : Slot T name id) (hty : typeOf (.builtin id) = pure (.type "method_descriptor")) (hm : MtR X id r) (sm : SemM X.K W r g) (ty : IsTy X.K T tb) (ho : DE X W o fo) (ha : DA X W (e :: es) fs)
    (hbase : attributeBase o name X.env (eval o X.env) = eval o X.env)
    (hfew : ((backTo cpos (starEach (e :: es) X.env)).all (fun x => !x.1) && (backToKw cpos (keywordEach [] X.env)).all (fun x => x.1.isSome)
      && decide ((e :: es).length + ([] : List Keyword).length + (if ([] : List Keyword).isEmpty then 0 else 1) < 30)) = true)
    (hline : (apos.endLine == cpos.line) = true) (hs : starEach (e :: es) X.env = (false, eval e X.env) :: starEach es X.env) (hplain : (backTo cpos (starEach es X.env)).any (·.1) = false) :
    DE X W (.Call (.Attribute o name apos) (e :: es) [] cpos) (eM tb g fo fs) := by
  obtain ⟨t, p, ip⟩ := ho.ex
  obtain ⟨t2, p2, ip2⟩ := ha.ex
  refine ⟨_, pe_bm pa slot hty hm p p2 hbase hfew hline hs hplain, fun m F h H s σ Q r E q => ?_⟩
  refine ip m F h H s σ _ r E (q.bind fun d h' m' F' H' v _ e' r' ha q => ?_)
  split at q
  · rename_i ht
    refine ⟨ty m' F' h' H' v d r' ha ht, ?_⟩
    refine ip2 m' F' h' H' s σ _ r' (E.ext e') (q.bind fun ds h2 m2 F2 H2 vs _ e2 r2 hds q => ?_)
    exact sm m2 F2 h2 H2 v d vs ds Q r2 (ha.ext e2) hds q
  · exact q.elim
theorem de_bm0 {T id : String} {name : Str} {tb : D → AH → Bool} {r : V → List V → Hp → VK → Prop} {g : D → List D → AH → Res D} {o : Expr} {fo : ME} {apos cpos : Pos}
    (pa : PlainAttrs T) (slot : Slot T name id) (hty : typeOf (.builtin id) = pure (.type "method_descriptor")) (hm : MtR X id r) (sm : SemM X.K W r g) (ty : IsTy X.K T tb) (ho : DE X W o fo)
    (hbase : attributeBase o name X.env (eval o X.env) = eval o X.env) (hline : (apos.endLine == cpos.line) = true) :
    DE X W (.Call (.Attribute o name apos) [] [] cpos) (eM tb g fo []) := by
  obtain ⟨t, p, ip⟩ := ho.ex
  refine ⟨_, pe_bm0 pa slot hty hm p hbase hline, fun m F h H s σ Q r E q => ?_⟩
  refine ip m F h H s σ _ r E (q.bind fun d h' m' F' H' v _ e' r' ha q => ?_)
  split at q
  · rename_i ht
    exact ⟨ty m' F' h' H' v d r' ha ht, sm m' F' h' H' v d [] [] Q r' ha .nil q⟩
  · exact q.elim
end
def isL (d : D) (h : AH) : Bool := (listAt d h).isSome
def isS (d : D) (h : AH) : Bool := match d with
  | .str _ => true
  | _ => false
section
variable {K : PySem.W.Frag} {W : Wi}
theorem isL_ty : IsTy K "list" isL := fun m F h H x d r hd e => by
  unfold isL at e
  obtain ⟨xs, e1⟩ := Option.isSome_iff_exists.mp e
  obtain ⟨a, vs, rfl, ha, _⟩ := listAt_at r hd e1
  exact .inl ⟨rfl, vs, ha⟩
theorem isS_ty : IsTy K "str" isS := fun m F h H x d r hd e => by
  unfold isS at e
  split at e
  · cases hd
    rfl
  · cases e
theorem post.wr {m : Ad} {F : Hp} {h : AH} {H : Hp} {n : Nat} {p : Addr} {o : HO} {c : Cell} {d : D} {v : V} {Q : VK} (q : post K W (HasD K) m F H (.ok d (h.set n c)) Q) (r : Rel K m F h H) (hm : m[n]? = some p) (ok : CellOk K m F c o) (hv : HasD K m F d v) : Q v (upd H p o) := by
  obtain ⟨r', e⟩ := r.write hm ok
  exact q m F _ v e r' (hv.ext e)
def mAppend (d : D) (ds : List D) (h : AH) : Res D := match ds with
  | [y] => match cellL d h with
    | some (n, xs) => if lenOk (xs.length + 1) = true then .ok .non (h.set n (.lst (xs ++ [y]))) else .bad
    | none => .bad
  | _ => .bad
theorem sem_append : SemM K W rAppend mAppend := fun m F h H x d xs ds Q r hx hd q => by
  unfold mAppend at q
  split at q
  · obtain ⟨y, rfl, hy⟩ := hd.one
    split at q
    · rename_i n zs e1
      obtain ⟨a, vs, rfl, hm, ha, h1⟩ := cellL_at r hx e1
      split at q
      · rename_i hl
        have := lenOk_le hl
        exact ⟨a, vs, y, rfl, rfl, ha, by rw [← h1.length]; omega, q.wr r hm (c := .lst (zs ++ _)) (o := .lst (vs ++ [y])) (h1.append (.cons hy .nil)) .non⟩
      · exact q.elim
    · exact q.elim
  · exact q.elim
def mExtend (d : D) (ds : List D) (h : AH) : Res D := match ds with
  | [y] => match cellL d h, listX y h with
    | some (n, xs), some ys => if lenOk (xs.length + ys.length) = true then .ok .non (h.set n (.lst (xs ++ ys))) else .bad
    | _, _ => .bad
  | _ => .bad
theorem sem_extend : SemM K W rExtend mExtend := fun m F h H x d xs ds Q r hx hd q => by
  unfold mExtend at q
  split at q
  · obtain ⟨y, rfl, hy⟩ := hd.one
    split at q
    · rename_i n zs ys e1 e2
      obtain ⟨a, vs, rfl, hm, ha, h1⟩ := cellL_at r hx e1
      obtain ⟨b, us, rfl, hb, h2⟩ := listX_at r hy e2
      split at q
      · rename_i hl
        exact ⟨a, b, vs, us, rfl, rfl, ha, hb, by rw [← h1.length, ← h2.length]; exact lenOk_le hl, q.wr r hm (c := .lst (zs ++ ys)) (o := .lst (vs ++ us)) (h1.append h2) .non⟩
      · exact q.elim
    · exact q.elim
  · exact q.elim
def mInsert (d : D) (ds : List D) (h : AH) : Res D := match ds with
  | [.int i, y] => match cellL d h with
    | some (n, xs) => if (lenOk (xs.length + 1) && decide (0 ≤ i ∧ i < 2 ^ 63)) = true then .ok .non (h.set n (.lst (xs.take i.toNat ++ [y] ++ xs.drop i.toNat))) else .bad
    | none => .bad
  | _ => .bad
def rInsert : V → List V → Hp → VK → Prop := fun x vs H Q => ∃ (l : Addr) (xs : List V) (i : Int) (y : V), x = .ref l ∧ vs = [.int i, y] ∧ H l = some (.lst xs) ∧ xs.length < sizeLine ∧ 0 ≤ i ∧ i < 2 ^ 63 ∧ Q .non (upd H l (.lst (xs.take i.toNat ++ [y] ++ xs.drop i.toNat)))
theorem sem_insert : SemM K W rInsert mInsert := fun m F h H x d xs ds Q r hx hd q => by
  unfold mInsert at q
  split at q
  · obtain ⟨z, y, rfl, hz, hy⟩ := hd.two
    cases hz
    split at q
    · rename_i n zs e1
      obtain ⟨a, vs, rfl, hm, ha, h1⟩ := cellL_at r hx e1
      split at q
      · rename_i hl
        rw [Bool.and_eq_true] at hl
        have h3 := lenOk_le hl.1
        have h4 := of_decide_eq_true hl.2
        exact ⟨a, vs, _, y, rfl, rfl, ha, by rw [← h1.length]; omega, h4.1, h4.2, q.wr r hm (c := .lst _) (o := .lst _) (((h1.take _).append (.cons hy .nil)).append (h1.drop _)) .non⟩
      · exact q.elim
    · exact q.elim
  · exact q.elim
def mPop (d : D) (ds : List D) (h : AH) : Res D := match ds with
  | [] => match cellL d h with
    | some (n, xs) => match xs[xs.length - 1]? with
      | some y => .ok y (h.set n (.lst xs.dropLast))
      | none => .bad
    | none => .bad
  | _ => .bad
theorem sem_pop : SemM K W rPop mPop := fun m F h H x d xs ds Q r hx hd q => by
  unfold mPop at q
  split at q
  · cases hd
    split at q
    · rename_i n zs e1
      obtain ⟨a, vs, rfl, hm, ha, h1⟩ := cellL_at r hx e1
      split at q
      · rename_i y hy
        obtain ⟨v, hv, rv⟩ := h1.get hy
        exact ⟨a, vs, v, rfl, rfl, ha, by rw [← h1.length]; exact hv, q.wr r hm (c := .lst _) (o := .lst _) h1.dropLast rv⟩
      · exact q.elim
    · exact q.elim
  · exact q.elim
/-- the first place of an equal item -/
def firstD (y : D) : List D → Nat → Option Nat
  | [], _ => none
  | x :: xs, n => if deq x y = true then some n else firstD y xs (n + 1)
theorem firstD_at {y : D} : ∀ {xs : List D} {n j : Nat}, firstD y xs n = some j → n ≤ j ∧ (∃ z, xs[j - n]? = some z ∧ deq z y = true) ∧ ∀ (i : Nat) (z : D), i < j - n → xs[i]? = some z → deq z y = false
  | [], n, j, e => nomatch e
  | x :: xs, n, j, e => by
    unfold firstD at e
    split at e
    · rename_i hx
      cases e
      refine ⟨Nat.le_refl _, ⟨x, by rw [Nat.sub_self]; rfl, hx⟩, fun i z hi => ?_⟩
      omega
    · rename_i hx
      obtain ⟨h1, ⟨z, h2, h3⟩, h4⟩ := firstD_at e
      have ej : j - n = (j - (n + 1)) + 1 := by omega
      refine ⟨by omega, ⟨z, by rw [ej, List.getElem?_cons_succ]; exact h2, h3⟩, fun i z hi hz => ?_⟩
      cases i with
      | zero =>
        rw [List.getElem?_cons_zero] at hz
        cases hz
        cases hb : deq x y with
        | true => exact absurd hb hx
        | false => rfl
      | succ i =>
        rw [List.getElem?_cons_succ] at hz
        exact h4 i z (by omega) hz
def mIndex (d : D) (ds : List D) (h : AH) : Res D := match ds with
  | [y] => match listAt d h with
    | some xs => if (D.pures xs && (res y h).pure && SeqAt.shaped (.list (D.pys xs)) && SeqAt.shaped (res y h).py) = true then (match firstD (res y h) xs 0 with
      | some j => .ok (.int (j : Nat)) h
      | none => .bad) else .bad
    | none => .bad
  | _ => .bad
theorem sem_index : SemM K W (rIndexD K) mIndex := fun m F h H x d xs ds Q r hx hd q => by
  unfold mIndex at q
  split at q
  · obtain ⟨y, rfl, hy⟩ := hd.one
    split at q
    · rename_i zs e1
      obtain ⟨a, vs, rfl, ha, h1⟩ := listAt_at r hx e1
      split at q
      · rename_i hc
        simp only [Bool.and_eq_true] at hc
        split at q
        · rename_i j hj
          obtain ⟨_, ⟨z, h2, h3⟩, h4⟩ := firstD_at hj
          rw [Nat.sub_zero] at h2 h4
          refine ⟨a, y, _, D.pys zs, j, z.py, rfl, rfl, .lst ha (DpAll.sub r (HasDs.dp h1 hc.1.1.1)), res_dp r hy hc.1.1.2, hc.1.2, hc.2, ?_, h3, fun i z' hi hz => ?_, q.ok r (.int _)⟩
          · rw [D.pys_map, List.getElem?_map, h2]
            rfl
          · rw [D.pys_map, List.getElem?_map] at hz
            obtain ⟨w, hw, rfl⟩ := Option.map_eq_some_iff.mp hz
            exact h4 i w hi hw
        · exact q.elim
      · exact q.elim
    · exact q.elim
  · exact q.elim
def mJoin (d : D) (ds : List D) (h : AH) : Res D := match d with
  | .str a => match ds with
    | [y] => match (seqAt y h).bind strsD with
      | some ys => if decide ((ys.map (·.length)).sum + ys.length * a.length ≤ 16777216) = true then .ok (.str (Txt.join a ys)) h else .bad
      | none => .bad
    | _ => .bad
  | _ => .bad
theorem sem_join : SemM K W (fun x xs H Q => ∃ a p, ∃ ys : List Str, x = .str a ∧ xs = [.ref p] ∧ (SqL K H p (ys.map V.str) ∨ SqT K H p (ys.map V.str)) ∧
    (ys.map (·.length)).sum + ys.length * a.length ≤ 16777216 ∧ Q (.str (Txt.join a ys)) H) mJoin := fun m F h H x d xs ds Q r hx hd q => by
  unfold mJoin at q
  split at q
  · cases hx
    split at q
    · obtain ⟨y, rfl, hy⟩ := hd.one
      split at q
      · rename_i ys e
        obtain ⟨zs, e1, e2⟩ := Option.bind_eq_some_iff.mp e
        obtain ⟨a, vs, rfl, ha, h1⟩ := seqAt_at r hy e1
        rw [strsD_eq e2] at h1
        rw [h1.strs] at ha
        split at q
        · rename_i hl
          exact ⟨_, a, ys, rfl, rfl, ha, of_decide_eq_true hl, q.ok r (.str _)⟩
        · exact q.elim
      · exact q.elim
    · exact q.elim
  · exact q.elim
end
section
variable {X : Cx} {W : Wi} {o e f : Expr} {fo : ME} {fs : List ME} {apos cpos : Pos}
theorem de_append (ho : DE X W o fo) (ha : DA X W [e] fs) (hbase : attributeBase o "append" X.env (eval o X.env) = eval o X.env := by rfl)
    (hfew : ((backTo cpos (starEach [e] X.env)).all (fun x => !x.1) && (backToKw cpos (keywordEach [] X.env)).all (fun x => x.1.isSome) && decide ([e].length + ([] : List Keyword).length + (if ([] : List Keyword).isEmpty then 0 else 1) < 30)) = true := by rfl)
    (hline : (apos.endLine == cpos.line) = true := by rfl) (hs : starEach [e] X.env = (false, eval e X.env) :: starEach [] X.env := by rfl) (hplain : (backTo cpos (starEach [] X.env)).any (·.1) = false := by rfl) :
    DE X W (.Call (.Attribute o "append" apos) [e] [] cpos) (eM isL mAppend fo fs) := de_bm F.plainAttrs_list F.slot_list_append F.type_list_append mt_append sem_append isL_ty ho ha hbase hfew hline hs hplain
theorem de_extend (ho : DE X W o fo) (ha : DA X W [e] fs) (hbase : attributeBase o "extend" X.env (eval o X.env) = eval o X.env := by rfl)
    (hfew : ((backTo cpos (starEach [e] X.env)).all (fun x => !x.1) && (backToKw cpos (keywordEach [] X.env)).all (fun x => x.1.isSome) && decide ([e].length + ([] : List Keyword).length + (if ([] : List Keyword).isEmpty then 0 else 1) < 30)) = true := by rfl)
    (hline : (apos.endLine == cpos.line) = true := by rfl) (hs : starEach [e] X.env = (false, eval e X.env) :: starEach [] X.env := by rfl) (hplain : (backTo cpos (starEach [] X.env)).any (·.1) = false := by rfl) :
    DE X W (.Call (.Attribute o "extend" apos) [e] [] cpos) (eM isL mExtend fo fs) := de_bm F.plainAttrs_list F.slot_list_extend F.type_list_extend mt_extend sem_extend isL_ty ho ha hbase hfew hline hs hplain
theorem de_index (hu : X.A.units + 64 + 1 < cLine) (ho : DE X W o fo) (ha : DA X W [e] fs) (hbase : attributeBase o "index" X.env (eval o X.env) = eval o X.env := by rfl)
    (hfew : ((backTo cpos (starEach [e] X.env)).all (fun x => !x.1) && (backToKw cpos (keywordEach [] X.env)).all (fun x => x.1.isSome) && decide ([e].length + ([] : List Keyword).length + (if ([] : List Keyword).isEmpty then 0 else 1) < 30)) = true := by rfl)
    (hline : (apos.endLine == cpos.line) = true := by rfl) (hs : starEach [e] X.env = (false, eval e X.env) :: starEach [] X.env := by rfl) (hplain : (backTo cpos (starEach [] X.env)).any (·.1) = false := by rfl) :
    DE X W (.Call (.Attribute o "index" apos) [e] [] cpos) (eM isL mIndex fo fs) := de_bm F.plainAttrs_list F.slot_list_index F.type_list_index (mt_indexD hu) sem_index isL_ty ho ha hbase hfew hline hs hplain
theorem de_join (ho : DE X W o fo) (ha : DA X W [e] fs) (hbase : attributeBase o "join" X.env (eval o X.env) = eval o X.env := by rfl)
    (hfew : ((backTo cpos (starEach [e] X.env)).all (fun x => !x.1) && (backToKw cpos (keywordEach [] X.env)).all (fun x => x.1.isSome) && decide ([e].length + ([] : List Keyword).length + (if ([] : List Keyword).isEmpty then 0 else 1) < 30)) = true := by rfl)
    (hline : (apos.endLine == cpos.line) = true := by rfl) (hs : starEach [e] X.env = (false, eval e X.env) :: starEach [] X.env := by rfl) (hplain : (backTo cpos (starEach [] X.env)).any (·.1) = false := by rfl) :
    DE X W (.Call (.Attribute o "join" apos) [e] [] cpos) (eM isS mJoin fo fs) := de_bm F.plainAttrs_str F.slot_str_join F.type_str_join mt_join sem_join isS_ty ho ha hbase hfew hline hs hplain
theorem de_insert (ho : DE X W o fo) (ha : DA X W [e, f] fs) (hbase : attributeBase o "insert" X.env (eval o X.env) = eval o X.env := by rfl)
    (hfew : ((backTo cpos (starEach [e, f] X.env)).all (fun x => !x.1) && (backToKw cpos (keywordEach [] X.env)).all (fun x => x.1.isSome) && decide ([e, f].length + ([] : List Keyword).length + (if ([] : List Keyword).isEmpty then 0 else 1) < 30)) = true := by rfl)
    (hline : (apos.endLine == cpos.line) = true := by rfl) (hs : starEach [e, f] X.env = (false, eval e X.env) :: starEach [f] X.env := by rfl) (hplain : (backTo cpos (starEach [f] X.env)).any (·.1) = false := by rfl) :
    DE X W (.Call (.Attribute o "insert" apos) [e, f] [] cpos) (eM isL mInsert fo fs) := de_bm F.plainAttrs_list F.slot_list_insert F.type_list_insert mt_insert sem_insert isL_ty ho ha hbase hfew hline hs hplain
theorem de_pop (ho : DE X W o fo) (hbase : attributeBase o "pop" X.env (eval o X.env) = eval o X.env := by rfl) (hline : (apos.endLine == cpos.line) = true := by rfl) :
    DE X W (.Call (.Attribute o "pop" apos) [] [] cpos) (eM isL mPop fo []) := de_bm0 F.plainAttrs_list F.slot_list_pop F.type_list_pop mt_pop sem_pop isL_ty ho hbase hline
end
end DL

namespace DL
open PySem PySem.Spec PyProof.Rows L2

/-! ### sorted(a list of data) -/
def alikeL (ds : List PyData) : Bool := ds.all fun d => ds.all fun e => PySem.W.alike d e
def tup1 : PyData → Bool
  | .tuple (_ :: _) => true
  | _ => false
def noTup : PyData → Bool
  | .tuple _ => false
  | .none => false
  | _ => true
def sortableL (ds : List PyData) : Bool := ds.all tup1 || ds.all noTup
theorem alikeL_ok {ds : List PyData} (h : alikeL ds = true) : PySem.W.AllAlike ds := fun d hd e he => List.all_eq_true.mp (List.all_eq_true.mp h d hd) e he
theorem sortableL_ok {ds : List PyData} (h : sortableL ds = true) : PySem.W.Sortable ds := by
  unfold sortableL at h
  rw [Bool.or_eq_true] at h
  rcases h with h | h
  · refine .inl fun d hd => ?_
    have := List.all_eq_true.mp h d hd
    unfold tup1 at this
    split at this
    · exact ⟨_, _, rfl⟩
    · cases this
  · refine .inr fun d hd => ?_
    have := List.all_eq_true.mp h d hd
    unfold noTup at this
    split at this
    · cases this
    · cases this
    · rename_i h1 h2
      exact ⟨h2, h1⟩
/-- the order of data -/
def leD (a b : D) : Bool := PySem.W.dataLe false D.py a b
def gSorted (b : Bool) : ML := fun ds h => match ds with
  | [d] => match listAt d h with
    | some xs => if (D.pures xs && decide (D.deps xs ≤ 60) && alikeL (xs.map D.py) && sortableL (xs.map D.py) && lenOk xs.length) = true then mkL b (xs.mergeSort leD) h else .bad
    | none => .bad
  | _ => .bad
abbrev VD := V × D
abbrev leV : VD → VD → Bool := PySem.W.dataLe false fun b : VD => b.2.py
def rSortedD (K : PySem.W.Frag) : List V → Hp → VK → Prop := fun xs H Q => ∃ (a : Addr) (bs : List VD), xs = [.ref a] ∧ SqL K H a (bs.map (·.1)) ∧ (∀ b ∈ bs, Dp K H b.1 b.2.py) ∧ PySem.W.AllAlike (bs.map fun b => b.2.py) ∧ PySem.W.Sortable (bs.map fun b => b.2.py) ∧ (∀ b ∈ bs, b.2.dep ≤ 60) ∧ bs.length ≤ sizeLine ∧
  ∀ p, H p = none → Q (.ref p) (upd H p (.lst ((bs.mergeSort leV).map (·.1))))
theorem each_vals : ∀ {out : List Value} {bs : List VD}, PySem.W.EachIs (fun v (b : VD) => RelV b.1 v) out bs → Vals (bs.map (·.1)) out
  | _, _, .nil => .nil
  | _, _, .cons a t => .cons a (each_vals t)
theorem vals_each : ∀ {bs : List VD} {out : List Value}, Vals (bs.map (·.1)) out → PySem.W.EachIs (fun v (b : VD) => RelV b.1 v) out bs
  | [], _, .nil => .nil
  | b :: bs, _, .cons a t => .cons a (vals_each t)
theorem each_and {α β : Type} {R S : α → β → Prop} : ∀ {as : List α} {bs : List β}, PySem.W.EachIs R as bs → (∀ a b, R a b → b ∈ bs → S a b) → PySem.W.EachIs S as bs
  | _, _, .nil, _ => .nil
  | _, _, .cons a t, h => .cons (h _ _ a List.mem_cons_self) (each_and t fun x y r hy => h x y r (List.mem_cons_of_mem _ hy))
theorem cr_sortedD {X : Cx} (hu : X.A.units + 64 < cLine) : CallR X (.builtin "sorted") (rSortedD X.K) := by
  intro pins s σ H vs us Q I r h
  obtain ⟨a, bs, rfl, hs, hd, hal, hk, hdep, hlen, q⟩ := h
  obtain ⟨its, rv, hl, _⟩ := I.list hs
  rw [Vals.ref1 r]
  have e1 := vals_each rv
  have er : PySem.W.EachIs (fun v (b : VD) => ∃ as, Reads s.heap v b.2.py as) its bs := each_and e1 fun v b hv hb => Dp.reads I _ _ v (hd b hb) hv
  refine PySem.W.sorted_data (enc := fun b : VD => b.2.py) hl.isList e1 er hal hk hlen (fun b hb => ?_) fun out ho eo => ?_
  · have := hdep b hb
    rw [D.py_depth]
    omega
  · obtain ⟨ep, he'⟩ := PyProof.Rows.sortedAll_at s.heap its out.toArray
    have hz : ((bs.mergeSort leV).map (·.1)).length ≤ sizeLine := by rw [List.length_map, List.length_mergeSort]; exact hlen
    exact ⟨.ref _, upd H (s.heap.objs.size + 1) (.lst ((bs.mergeSort leV).map (·.1))), I.laid (t' := s.toks) (fun _ _ => PyProof.Rows.sortedAll_old) (Nat.le_succ _) ⟨hz, out, ep, each_vals eo, he'⟩, rfl, q _ (I.hok.fresh (Nat.le_succ _))⟩
theorem has_zip {K : PySem.W.Frag} {m : Ad} {F : Hp} : ∀ {ds : List D} {vs : List V}, HasDs K m F ds vs → (vs.zip ds).map (·.1) = vs ∧ (vs.zip ds).map (·.2) = ds ∧ ∀ b ∈ vs.zip ds, HasD K m F b.2 b.1
  | _, _, .nil => ⟨rfl, rfl, fun _ z => nomatch z⟩
  | _, _, .cons a t => by
    obtain ⟨h1, h2, h3⟩ := has_zip t
    refine ⟨by rw [List.zip_cons_cons, List.map_cons, h1], by rw [List.zip_cons_cons, List.map_cons, h2], fun b hb => ?_⟩
    rw [List.zip_cons_cons] at hb
    rcases List.mem_cons.mp hb with rfl | hb
    · exact a
    · exact h3 b hb
theorem has_of {K : PySem.W.Frag} {m : Ad} {F : Hp} : ∀ {bs : List VD}, (∀ b ∈ bs, HasD K m F b.2 b.1) → HasDs K m F (bs.map (·.2)) (bs.map (·.1))
  | [], _ => .nil
  | b :: bs, h => .cons (h b List.mem_cons_self) (has_of fun c hc => h c (List.mem_cons_of_mem _ hc))
theorem pure_mem {ds : List D} (h : D.pures ds = true) {d : D} (hd : d ∈ ds) : d.pure = true := by
  rw [D.pures_all] at h
  exact List.all_eq_true.mp h d hd
theorem dep_mem : ∀ {ds : List D} {d : D}, d ∈ ds → d.dep ≤ D.deps ds
  | x :: xs, d, h => by
    unfold D.deps
    rcases List.mem_cons.mp h with rfl | h
    · exact Nat.le_max_left _ _
    · exact Nat.le_trans (dep_mem h) (Nat.le_max_right _ _)
theorem sort_snd (bs : List VD) : (bs.mergeSort leV).map (·.2) = (bs.map (·.2)).mergeSort leD := List.map_mergeSort fun a _ b _ => rfl
theorem sem_sorted {K : PySem.W.Frag} {W : Wi} {b : Bool} : SemL K W (rSortedD K) (gSorted b) := fun m F h H xs ds Q r hd q => by
  unfold gSorted at q
  split at q
  · obtain ⟨x, rfl, hx⟩ := hd.one
    split at q
    · rename_i ys e1
      obtain ⟨a, vs, rfl, ha, h1⟩ := listAt_at r hx e1
      split at q
      · rename_i hc
        simp only [Bool.and_eq_true, decide_eq_true_eq] at hc
        obtain ⟨z1, z2, z3⟩ := has_zip h1
        have em : (vs.zip ys).map (fun b => b.2.py) = ys.map D.py := by
          conv => rhs; rw [← z2]
          rw [List.map_map]
          rfl
        refine ⟨a, vs.zip ys, rfl, by rw [z1]; exact ha, fun b hb => ?_, by rw [em]; exact alikeL_ok hc.1.1.2, by rw [em]; exact sortableL_ok hc.1.2, fun b hb => ?_, ?_, fun p hp => ?_⟩
        · have hm : b.2 ∈ ys := by rw [← z2]; exact List.mem_map.mpr ⟨b, hb, rfl⟩
          exact Dp.sub r ((z3 b hb).dp (pure_mem hc.1.1.1.1 hm))
        · have hm : b.2 ∈ ys := by rw [← z2]; exact List.mem_map.mpr ⟨b, hb, rfl⟩
          exact Nat.le_trans (dep_mem hm) hc.1.1.1.2
        · have hl : (vs.zip ys).length = ys.length := by rw [← List.length_map (f := fun b : VD => b.2), z2]
          rw [hl]
          exact lenOk_le hc.2
        · refine q.mkL r ?_ p hp
          have := has_of (K := K) (m := m) (F := F) (bs := (vs.zip ys).mergeSort leV) fun b hb => z3 b (List.mem_mergeSort.mp hb)
          rw [sort_snd, z2] at this
          exact this
      · exact q.elim
    · exact q.elim
  · exact q.elim

/-! ### sorted(set(..)) -/
def dd {α : Type} [DecidableEq α] : List α → List α
  | [] => []
  | x :: xs => if x ∈ xs then dd xs else x :: dd xs
theorem dd_mem {α : Type} [DecidableEq α] {y : α} : ∀ {xs : List α}, y ∈ dd xs ↔ y ∈ xs
  | [] => Iff.rfl
  | x :: xs => by
    unfold dd
    split
    · rename_i h
      rw [dd_mem, List.mem_cons]
      exact ⟨.inr, fun z => z.elim (fun e => e ▸ h) id⟩
    · rw [List.mem_cons, List.mem_cons, dd_mem]
theorem dd_nodup {α : Type} [DecidableEq α] : ∀ {xs : List α}, (dd xs).Nodup
  | [] => List.nodup_nil
  | x :: xs => by
    unfold dd
    split
    · exact dd_nodup
    · rename_i h
      exact List.nodup_cons.mpr ⟨fun z => h (dd_mem.mp z), dd_nodup⟩
def keyK : Value → Key
  | .int i _ => .inl i
  | .str x _ => .inr x
  | _ => .inl 0
theorem keyK_is {k : Key} {v : Value} (h : keyIs k v = true) : keyK v = k := by
  rcases keyIs_shape h with ⟨i, t, rfl, rfl⟩ | ⟨x, t, rfl, rfl⟩ <;> rfl
theorem is_keyK {k : Key} {v : Value} (h : RelV (kV k) v) : keyIs k v = true := by
  cases k with
  | inl i =>
    obtain ⟨t, rfl⟩ := h
    exact beq_self_eq_true i
  | inr x =>
    obtain ⟨t, rfl⟩ := h
    show Value.isStrOf x (.str x t) = true
    simp [Value.isStrOf]
section
variable {P : Program} {w : World} {A : Around} {E : Value → Shared → Prop} {s : Shared} {a : Addr}
/-- the set at a holds the keys l -/
structure SetG (P : Program) (w : World) (h : Heap) (a : Addr) (l : List Key) : Prop where
  ex : ∃ (o : Obj) (es : Array (Int × Value)) (ep : Nat) (t : SetTable), h.get? a = some o ∧ o.ExactSet ∧ o.data = .set es ep t ∧ ElemsOf (mixKind P w) es.toList ∧ (es.toList.map fun e => keyK e.2).Perm l ∧ l.Nodup ∧ l.length < scanBound ∧ t.fits es.size = true ∧ Ris t.place.toList ∧ (w.params.followText "set-order" = true ∨ t.led = true)
theorem SetG.at' {h h' : Heap} {l : List Key} (R : SetG P w h a l) (k : ∀ o, h.get? a = some o → h'.get? a = some o) : SetG P w h' a l := by
  obtain ⟨o, es, ep, t, ho, r⟩ := R.ex
  exact ⟨o, es, ep, t, k o ho, r⟩
theorem sz_perm {es : Array (Int × Value)} {l : List Key} (p : (es.toList.map fun e => keyK e.2).Perm l) : es.size = l.length := by
  rw [← p.length_eq, List.length_map, Array.length_toList]
theorem SetG.congr {h : Heap} {l l' : List Key} (R : SetG P w h a l) (p : l.Perm l') : SetG P w h a l' := by
  obtain ⟨o, es, ep, t, ho, hx, hd, hel, pm, nd, hb, r⟩ := R.ex
  exact ⟨o, es, ep, t, ho, hx, hd, hel, pm.trans p, p.nodup_iff.mp nd, by rw [← p.length_eq]; exact hb, r⟩
theorem setG_tail {g : Bool → Sem Unit} (hg : ∀ (b : Bool) (s₁ : Shared) (Q' : Unit → Shared → Prop), Q' () s₁ → wpAny (model P w) A (g b) Q' E s₁)
    {o : Obj} {es : Array (Int × Value)} {ep : Nat} {t : SetTable} (ho : s.heap.get? a = some o) (hex : o.ExactSet) (hd : o.data = .set es ep t)
    {es1 : Array (Int × Value)} {t2 : SetTable} {l : List Key} (hel : ElemsOf (mixKind P w) es1.toList) (pm : (es1.toList.map fun e => keyK e.2).Perm l) (nd : l.Nodup) (hb : l.length < scanBound)
    (hf : t2.fits es1.size = true) (hr : Ris t2.place.toList) (hl : w.params.followText "set-order" = true ∨ t2.led = true) {wd : Bool} {R : Option Bool → Shared → Prop}
    (hR : ∀ h', Heap.SameBut a s.heap h' → SetG P w h' a l → R (some true) { s with heap := h' }) :
    wpAny (model P w) A (do
        storeSet a es1 t2
        if (!wd && t2.tooFull) = true then do
            g (relayAll t2 es1 (SetTable.grown es1.size)).2.2
            storeSet a (relayAll t2 es1 (SetTable.grown es1.size)).1 (relayAll t2 es1 (SetTable.grown es1.size)).2.1
            pure (some true)
          else pure (some true)) R E s := by
  have hs1 := sz_perm pm
  refine wpAny_bind (wpAny_storeSet_of ho hd ?_ (fits_of_scanBound (by rw [hs1]; exact hb)))
  have ho1 := store_at (es' := es1) (t' := t2) ho hd
  have sb := Heap.SameBut.update s.heap a (Obj.putSet es1 t2)
  by_cases c : (!wd && t2.tooFull) = true
  · rw [if_pos c]
    have p2 := relayAll_perm t2 es1 (SetTable.grown es1.size)
    have f2 := relayAll_fits t2 es1 (SetTable.grown es1.size)
    have r2 := relayAll_ris t2 es1 (SetTable.grown es1.size)
    have l2 := relayAll_led t2 es1 (SetTable.grown es1.size)
    have pm2 : ((relayAll t2 es1 (SetTable.grown es1.size)).1.toList.map fun e => keyK e.2).Perm l := (p2.map _).trans pm
    refine wpAny_bind (hg _ _ _ (wpAny_bind (wpAny_storeSet_of ho1 rfl ?_ (fits_of_scanBound (by rw [sz_perm pm2]; exact hb)))))
    have ho2 := store_at (es' := (relayAll t2 es1 (SetTable.grown es1.size)).1) (t' := (relayAll t2 es1 (SetTable.grown es1.size)).2.1) ho1 rfl
    exact wpAny_pure (hR _ (sb.trans (Heap.SameBut.update _ a _)) ⟨_, _, _, _, ho2, hex, rfl, hel.perm p2, pm2, nd, hb, f2, r2, hl.imp id fun z => by rw [l2]; exact z⟩)
  · rw [if_neg c]
    exact wpAny_pure (hR _ sb ⟨_, _, _, _, ho1, hex, rfl, hel, pm, nd, hb, hf, hr, hl⟩)
theorem setG_add {k : Key} {x : Value} {l : List Key} {Q : Bool → Shared → Prop} (R : SetG P w s.heap a l) (hx : RelV (kV k) x) (room : l.length + 1 < scanBound)
    (hQ : ∀ h', Heap.SameBut a s.heap h' → ∀ l', SetG P w h' a l' → (∀ j, j ∈ l' ↔ j = k ∨ j ∈ l) → l'.length ≤ l.length + 1 → ∀ b, Q b { s with heap := h' }) :
    wpAny (model P w) A (setAddHashed a x ((mixKind P w).hash k)) Q E s := by
  obtain ⟨o, es, ep, t, ho, hex, hd, hel, pm, nd, hb, hf, hr, hl⟩ := R.ex
  have hkey : (mixKind P w).is k x = true := is_keyK hx
  have hsc : x.scannable = true := key_scan hx
  have hsz := sz_perm pm
  have kk : ∀ e ∈ es.toList, (mixKind P w).is k e.2 = true ↔ keyK e.2 = k := fun e he => by
    obtain ⟨⟨k', hk', _⟩, _⟩ := hel e he
    refine ⟨fun z => keyK_is z, fun z => ?_⟩
    have z2 : keyK e.2 = k' := keyK_is hk'
    rw [← z, z2]
    exact hk'
  unfold setAddHashed setAddHashedIn
  refine wpAny_holding (wpAny_bind (wpAny_setState_of ho hd hf ?_))
  dsimp only
  rw [byScan_of hsc (by rw [hsz]; exact hb) hel]
  simp only [↓reduceIte]
  unfold setAddByScan
  refine wpAny_bind (wpAny_bind (wpAny_rule (wpAny_bind (wpAny_setScan_of hkey ho hd hf hel ?_))))
  cases hfi : List.findIdx? (fun e => (mixKind P w).is k e.2) es.toList with
  | some j =>
    dsimp only
    obtain ⟨hj, pj, _⟩ := List.findIdx?_eq_some_iff_getElem.mp hfi
    have hm : k ∈ l := pm.mem_iff.mp (List.mem_map.mpr ⟨es.toList[j], List.getElem_mem hj, (kk _ (List.getElem_mem hj)).mp pj⟩)
    exact wpAny_pure (wpAny_pure (hQ s.heap (Heap.SameBut.refl a s.heap) l ⟨o, es, ep, t, ho, hex, hd, hel, pm, nd, hb, hf, hr, hl⟩ (fun j => ⟨.inr, fun z => z.elim (fun e => by rw [e]; exact hm) id⟩) (Nat.le_succ _) _))
  | none =>
    dsimp only
    have hm : k ∉ l := fun z => by
      obtain ⟨e, he, q⟩ := List.mem_map.mp (pm.mem_iff.mpr z)
      have c := List.findIdx?_eq_none_iff.mp hfi e he
      rw [(kk e he).mpr q] at c
      cases c
    have gw : ∀ (b : Bool) {s₁ : Shared} {Q' : Unit → Shared → Prop}, Q' () s₁ → wpAny (model P w) A (match b with | true => rule "set.scan.the-table-gave-way" | false => pure ()) Q' E s₁ := fun b s₁ Q' q => by
      cases b with
      | true => exact wpAny_rule q
      | false => exact wpAny_pure q
    have p1 := layNew_perm t es ((mixKind P w).hash k) x
    have f1 := layNew_fits t es ((mixKind P w).hash k) x
    have r1 := layNew_ris t es ((mixKind P w).hash k) x hr
    have l1 := layNew_led t es ((mixKind P w).hash k) x
    generalize layNew t es ((mixKind P w).hash k) x = Z at p1 f1 r1 l1 ⊢
    obtain ⟨es1, t1, wd, gave⟩ := Z
    dsimp only at p1 f1 r1 l1 ⊢
    rw [Array.toList_push] at p1
    have hel1 : ElemsOf (mixKind P w) es1.toList := (hel.push hkey hsc).perm p1
    have pm1 : (es1.toList.map fun e => keyK e.2).Perm (k :: l) := by
      have z := (p1.trans (List.perm_append_singleton _ _)).map fun e : Int × Value => keyK e.2
      rw [List.map_cons] at z
      have zk : keyK x = k := keyK_is hkey
      rw [zk] at z
      exact z.trans (pm.cons k)
    have nd1 : (k :: l).Nodup := List.nodup_cons.mpr ⟨hm, nd⟩
    have hled : w.params.followText "set-order" = true ∨ t1.led = true := hl.imp id fun z => by rw [l1]; exact z
    refine wpAny_bind (gw _ ?_)
    by_cases hpl : t1.plain = true
    · rw [if_pos hpl]
      refine wpAny_bind ?_
      rw [hashByValue_scannable 8 hsc]
      refine wpAny_pure ?_
      refine setG_tail (fun b s₁ Q' q => by cases b <;> first | exact wpAny_pure q | exact wpAny_rule q) ho hex hd hel1 pm1 nd1 room ?_ ?_ ?_ fun h' sb r => ?_
      · first | (split <;> first | exact f1 | exact SetTable.fits_plain_off f1) | exact f1
      · first | (split <;> exact r1) | exact r1
      · first | (split <;> exact hled) | exact hled
      · dsimp only
        exact wpAny_pure (hQ h' sb _ r (fun j => List.mem_cons) (Nat.le_refl _) _)
    · rw [if_neg hpl]
      refine wpAny_bind (wpAny_pure ?_)
      simp only [↓reduceIte]
      refine setG_tail (fun b s₁ Q' q => by cases b <;> first | exact wpAny_pure q | exact wpAny_rule q) ho hex hd hel1 pm1 nd1 room f1 r1 hled fun h' sb r => ?_
      dsimp only
      exact wpAny_pure (hQ h' sb _ r (fun j => List.mem_cons) (Nat.le_refl _) _)
end
end DL

namespace DL
open PySem PySem.Spec PyProof.Rows L2

section
variable {P : Program} {w : World} {A : Around} {E : Value → Shared → Prop} {s : Shared}
/-- the set's update from a walked thing of keys -/
theorem setG_update {I : Addr} {fp wr : List Addr} {G : Array GenState → Array GenState → Prop} {n : Nat} {Pv : Nat → Value → Prop} {St : Nat → Shared → Prop} {R : Result → Shared → Prop}
    (W : WalksS P w A.in1 I fp wr G n Pv St) (S : Addr) (hSf : S ∉ fp) (ks : List Key) (hn : n = ks.length) (hb : ks.length + 1 < scanBound) (hval : ∀ i v, Pv i v → ∃ k, ks[i]? = some k ∧ RelV (kV k) v) :
    ∀ (d i : Nat) (s : Shared), n - i = d → i ≤ n → St i s → (∃ l, l.length ≤ i ∧ SetG P w s.heap S l ∧ ∀ j, j ∈ l ↔ j ∈ ks.take i) →
      (∀ s' l, Moved (S :: wr) G s s' → SetG P w s'.heap S l → (∀ j, j ∈ l ↔ j ∈ ks) → R (.ok (.ret .none)) s') →
      codeAny (model P w) A (.builtin "set.update.loop" ⟨[.ref S, .ref I], []⟩) R s := by
  have hSw : S ∉ wr := fun h => hSf (W.sub _ h)
  have hsub : ∀ b ∈ wr, b ∈ S :: wr := fun b hb => List.mem_cons_of_mem _ hb
  intro d
  induction d with
  | zero =>
    intro i s hd hi hst ⟨l, hl, hS, hm⟩ hR
    have hin : i = n := by omega
    subst hin
    refine codeAny_builtin F.entry_set_update_loop ?_
    rw [Around.under_plainId F.plain_set_update_loop _]
    show wpAny _ A.in1 (pyNext (.ref I) >>= _) _ _ s
    refine wpAny_bind (W.done s _ _ hst fun s' mv => ?_)
    show wpAny _ A.in1 (ret Value.none) _ _ s'
    rw [List.take_of_length_le (by omega)] at hm
    exact wpAny_pure (hR s' l (mv.mono hsub) (hS.at' fun o e => mv.heap S o hSw e) hm)
  | succ d ih =>
    intro i s hd hi hst ⟨l, hl, hS, hm⟩ hR
    have hlt : i < n := by omega
    refine codeAny_builtin F.entry_set_update_loop ?_
    rw [Around.under_plainId F.plain_set_update_loop _]
    show wpAny _ A.in1 (pyNext (.ref I) >>= _) _ _ s
    refine wpAny_bind (W.item i s _ _ hlt hst fun v s' hP hst' mv => ?_)
    obtain ⟨k, hk, rk⟩ := hval i v hP
    have hS' : SetG P w s'.heap S l := hS.at' fun o e => mv.heap S o hSw e
    show wpAny _ A.in1 (holding [v] (setAdd S v) >>= _) _ _ s'
    refine wpAny_bind (wpAny_holding ?_)
    unfold setAdd
    refine wpAny_holding (wpAny_bind ((mixKind P w).pyHash (k := k) (is_keyK rk) ?_))
    refine setG_add (s := { s' with toks := s'.toks + 1 }) hS' rk (by omega) fun h' sb l' hS2 hm2 hl2 b => ?_
    refine wpAny_pure ⟨plainId_quiet F.plain_set_update_loop _, ih (i + 1) _ (by omega) hlt (W.frame _ s' _ _ hst' (Nat.le_succ _) fun b hb o e => ?_) ⟨l', by omega, hS2, fun j => ?_⟩ fun s'' l2 mv2 hS'' hm'' => ?_⟩
    · rw [sb.2 b (fun h : b = S => hSf (by rw [← h]; exact hb))]
      exact e
    · rw [hm2 j, hm j, List.take_add_one, hk]
      simp [List.mem_append, or_comm]
    · refine hR s'' l2 (Moved.trans W.gtrans ((mv.mono hsub).then_heap (Nat.le_succ _) fun b o hb e => ?_) mv2) hS'' hm''
      rw [sb.2 b (fun h : b = S => hb (by rw [h]; exact List.mem_cons_self))]
      exact e
theorem setG_new {h : Heap} {a : Addr} (ho : h.get? a = some { cls := .type "set", dict := none, data := .set #[] 0 (.fresh 0 0 (!w.params.followText "set-order")) }) : SetG P w h a [] :=
  ⟨_, #[], 0, _, ho, ⟨rfl, rfl, rfl⟩, rfl, (fun e he => by simp at he), (by simp), List.nodup_nil, (by decide), (by rfl), List.Pairwise.nil, by
    show _ ∨ (!w.params.followText "set-order") = true
    cases w.params.followText "set-order"
    · exact .inr rfl
    · exact .inl rfl⟩
theorem keys_vals_at : ∀ {ks : List Key} {its : List Value}, Vals (ks.map kV) its → ks.length = its.length ∧ ∀ (i : Nat) (v : Value), its[i]? = some v → ∃ k, ks[i]? = some k ∧ RelV (kV k) v
  | [], _, .nil => ⟨rfl, fun i v e => by simp at e⟩
  | k :: ks, _, .cons a t => by
    obtain ⟨h1, h2⟩ := keys_vals_at t
    refine ⟨by rw [List.length_cons, List.length_cons, h1], fun i v e => ?_⟩
    cases i with
    | zero =>
      rw [List.getElem?_cons_zero] at e
      cases e
      exact ⟨k, rfl, a⟩
    | succ i => exact h2 i v e
set_option maxHeartbeats 3200000 in
/-- set(xs), xs a list of keys -/
theorem call_set_keys {l : Addr} {its : List Value} (ks : List Key) {Q : Value → Shared → Prop} (hh : A.handled = none) (hl : s.heap.IsList l its.toArray) (rv : Vals (ks.map kV) its) (hb : ks.length + 1 < scanBound)
    (h : ∀ (h' : Heap) (tk : Nat) (ls : List Key), SetG P w h' s.heap.objs.size ls → (∀ j, j ∈ ls ↔ j ∈ ks) → (∀ b o, s.heap.get? b = some o → h'.get? b = some o) → Q (.ref s.heap.objs.size) { s with heap := h', toks := tk }) :
    wpAny (model P w) A (call (.type "set") [.ref l]) Q E s := by
  obtain ⟨hkl, hkv⟩ := keys_vals_at rv
  obtain ⟨c, tl, hmro⟩ := F.called_set.mro
  have hmade := F.called_set.made
  have hsub := F.called_set.sub
  refine wpAny_call (codeAny_of_tree ?_)
  show wpAny _ _ (callAny (.type "set") _) _ _ _
  refine wpAny_pure ⟨Code.quiet_builtin _ (by decide +kernel), codeAny_builtin F.entry_type_call ?_⟩
  rw [Around.under_plain (weight_type_call_type "set" [.ref l] []) rfl]
  have h1 := F.called_set.notType
  have h2 := F.called_set.canCreate
  have hct := F.typeCall_set_1 (.ref l)
  repeat (any_goals (first | assumption | wp_step))
  refine codeAny_mono (code_set_led1 (.ref l) (E := E) (Q₁ := fun obj s₁ => obj = .ref s.heap.objs.size ∧ s₁ = { s with heap := s.heap.push { cls := .type "set", dict := none, data := .set #[] 0 (.fresh 0 0 (!w.params.followText "set-order")) } }) ⟨rfl, rfl⟩) fun r s₁ hr => ?_
  cases r with
  | error e => exact hr
  | ok fl =>
    cases fl with
    | ret obj =>
      obtain ⟨rfl, rfl⟩ := hr
      have hS : (s.heap.push { cls := .type "set", dict := none, data := .set #[] 0 (.fresh 0 0 (!w.params.followText "set-order")) }).get? s.heap.objs.size = some { cls := .type "set", dict := none, data := .set #[] 0 (.fresh 0 0 (!w.params.followText "set-order")) } := Heap.get?_push_size _ rfl
      have hT : Shared.TypeIs { s with heap := s.heap.push { cls := .type "set", dict := none, data := .set #[] 0 (.fresh 0 0 (!w.params.followText "set-order")) } } (.ref s.heap.objs.size) "set" := ⟨_, hS, rfl⟩
      have hli := F.called_set.init.lookup
      have hbi := F.called_set.init.bind (.ref s.heap.objs.size)
      repeat (any_goals (first | assumption | wp_step))
      refine codeAny_mono (codeAny_call_builtin (R := wants (fun r s₂ => r = .none ∧ ∃ h' tk ls, s₂ = { s with heap := h', toks := tk } ∧ SetG P w h' s.heap.objs.size ls ∧ (∀ j, j ∈ ls ↔ j ∈ ks) ∧
          (∀ b o, s.heap.get? b = some o → h'.get? b = some o)) E) F.called_set.init.plain F.entry_set_init (check_set_init_1 hT ?_)) fun r₂ s₂ hr₂ => ?_
      · obtain ⟨ol, hol, hcl, nl, hdl⟩ := hl
        obtain ⟨ocls, odict, odata, oslots⟩ := ol
        simp only at hcl hdl
        subst hcl; subst hdl
        have hol' : (s.heap.push { cls := .type "set", dict := none, data := .set #[] 0 (.fresh 0 0 (!w.params.followText "set-order")) }).get? l = some { cls := .type "list", dict := odict, data := .seq its.toArray nl, slots := oslots } := Heap.get?_push_of_some _ hol
        have hsls := F.sub_list_set
        have hslf := F.sub_list_frozenset
        have hne : (Value.type "list" == Value.type "dict") = false := by decide
        have hl1 : (s.heap.push { cls := .type "set", dict := none, data := .set #[] 0 (.fresh 0 0 (!w.params.followText "set-order")) }).IsList l its.toArray := ⟨_, hol', rfl, nl, rfl⟩
        unfold Builtin.«set.__init__» noKeywords Builtin.Frozenset.updateFrom
        generalize hPI : pyIter = PI
        wp_walk
        subst hPI
        refine wpAny_pyIter_list hl1 ?_
        refine wpAny_bind (wpAny_runValue ?_)
        have hlS : l < s.heap.objs.size := Heap.lt_size hol
        have hh3 : A.in1.in1.in1.handled = none := by simp [hh]
        have hneI : l ≠ (s.heap.push { cls := .type "set", dict := none, data := .set #[] 0 (.fresh 0 0 (!w.params.followText "set-order")) }).objs.size := by
          rw [Heap.size_push]; exact Nat.ne_of_lt (Nat.lt_succ_of_lt hlS)
        have hSf : s.heap.objs.size ∉ [(s.heap.push { cls := .type "set", dict := none, data := .set #[] 0 (.fresh 0 0 (!w.params.followText "set-order")) }).objs.size, l] := by
          rw [Heap.size_push]; simp only [List.mem_cons, List.mem_singleton, List.not_mem_nil, or_false, not_or]
          exact ⟨Nat.ne_of_lt (Nat.lt_succ_self _), Nat.ne_of_gt hlS⟩
        refine setG_update ((Walks.list hh3 _ l hneI its.toArray).toS) s.heap.objs.size
          hSf ks (by rw [List.size_toArray]; exact hkl.symm) hb (fun i v hv => hkv i v (by simpa using hv)) (its.toArray.size - 0) 0 _ (by omega) (Nat.zero_le _)
          ⟨⟨_, Heap.get?_push_size _ rfl, rfl, rfl⟩, (hl1.push _)⟩ ?hS0 ?hR
        case hS0 =>
          exact ⟨[], Nat.le_refl 0, setG_new (Heap.get?_push_of_some _ hS), fun j => by simp⟩
        case hR =>
          intro s' ls hm hS' hmem
          obtain ⟨h', g2, d', tk', os'⟩ := s'
          have eg : g2 = s.gens := hm.gens
          have ed : d' = s.drawn := hm.drawn
          have eo : os' = s.os := hm.os
          subst eg; subst ed; subst eo
          show wpAny _ _ _ _ _ _
          refine wpAny_pure ?_
          show wpAny _ _ (ret Value.none) _ _ _
          refine wpAny_pure ⟨rfl, h', tk', ls, rfl, hS', hmem, fun b o e => ?_⟩
          have hb0 : b < s.heap.objs.size := Heap.lt_size e
          have hb1 : b ≠ s.heap.objs.size := Nat.ne_of_lt hb0
          have hb2 : b ≠ (s.heap.push { cls := .type "set", dict := none, data := .set #[] 0 (.fresh 0 0 (!w.params.followText "set-order")) }).objs.size := by
            rw [Heap.size_push]; exact Nat.ne_of_lt (Nat.lt_succ_of_lt hb0)
          exact hm.heap b o (by simp only [List.mem_cons, List.mem_singleton, List.not_mem_nil, or_false, not_or]; exact ⟨hb1, hb2⟩) (Heap.get?_push_of_some _ (Heap.get?_push_of_some _ e))
      · cases r₂ with
        | error e => exact hr₂
        | ok fl₂ =>
          cases fl₂ with
          | ret r =>
            obtain ⟨rfl, h', tk, ls, rfl, hS', hmem, hk'⟩ := hr₂
            repeat (any_goals (first | assumption | wp_step))
            exact h _ _ _ hS' hmem hk'
          | _ => exact hr₂.elim
    | _ => exact hr.elim
end
end DL

namespace DL
open PySem PySem.Spec PyProof.Rows L2

def keyD : Key → D
  | .inl i => .int i
  | .inr x => .str x
def leK (a b : Key) : Bool := leD (keyD a) (keyD b)
section
variable {P : Program} {w : World} {A : Around} {E : Value → Shared → Prop} {s : Shared} {a : Addr}
theorem vals_keyK : ∀ {vs : List Value}, (∀ v ∈ vs, ∃ k, keyIs k v = true) → Vals ((vs.map keyK).map kV) vs
  | [], _ => .nil
  | v :: vs, h => by
    obtain ⟨k, hk⟩ := h v List.mem_cons_self
    rw [List.map_cons, List.map_cons, keyK_is hk]
    exact .cons (keyIs_rel hk) (vals_keyK fun u hu => h u (List.mem_cons_of_mem _ hu))
theorem each_keys : ∀ {ks : List Key} {out : List Value}, Vals (ks.map kV) out → PySem.W.EachIs (fun v k => RelV (kV k) v) out ks
  | [], _, .nil => .nil
  | k :: ks, _, .cons a t => .cons a (each_keys t)
theorem keys_each : ∀ {ks : List Key} {out : List Value}, PySem.W.EachIs (fun v k => RelV (kV k) v) out ks → Vals (ks.map kV) out
  | _, _, .nil => .nil
  | _, _, .cons a t => .cons a (keys_each t)
theorem key_reads {h : Heap} {k : Key} {v : Value} (r : RelV (kV k) v) : ∃ as, Reads h v (keyD k).py as := by
  cases k with
  | inl i =>
    obtain ⟨t, rfl⟩ := r
    exact ⟨_, .int i t⟩
  | inr x =>
    obtain ⟨t, rfl⟩ := r
    exact ⟨_, .str x t⟩
theorem sorted_setG {l : List Key} {Q : Value → Shared → Prop} (R : SetG P w s.heap a l) (hh : A.handled = none) (hu : A.units + 64 < cLine) (hal : ∀ j ∈ l, ∀ k ∈ l, PySem.W.alike (keyD j).py (keyD k).py = true)
    (hQ : ∀ s' p (out : List Value) (c : Nat) (ks : List Key), (∀ b o, s.heap.get? b = some o → s'.heap.get? b = some o) → s'.gens = s.gens → s'.os = s.os → s.heap.objs.size ≤ p →
      s'.heap.get? p = some (seqObj "list" out.toArray c) → Vals ((ks.mergeSort leK).map kV) out → ks.Perm l → Q (.ref p) s') :
    wpAny (model P w) A (call (.builtin "sorted") [.ref a]) Q E s := by
  obtain ⟨o, es, ep, t, ho, hex, hd, hel, pm, nd, hb, hf, hr, hl⟩ := R.ex
  have hsz := sz_perm pm
  refine Calls.call_function_entry kind_sorted plain_sorted entry_sorted (args_sorted1 _) ?_
  unfold Builtin.«sorted»
  refine wpAny_bind (m := checkCount "sorted" 1 1 _) (wpAny_pure ?_)
  refine wpAny_bind (collect_set (A := A.in1) hh ⟨o, ho, hex.1, hd⟩ hf (by rw [hsz]; exact hb) hr hl fun s1 vs k1 hz g1 o1 pv => ?_)
  have hks : (vs.map keyK).Perm l := by
    have z := pv.map keyK
    rw [List.map_map] at z
    exact z.trans pm
  have hvs : Vals ((vs.map keyK).map kV) vs := vals_keyK fun v hv => by
    obtain ⟨e, he, q⟩ := List.mem_map.mp (pv.mem_iff.mp hv)
    obtain ⟨⟨k, hk, _⟩, _⟩ := hel e he
    exact ⟨k, by rw [← q]; exact hk⟩
  have hvl : vs.length = l.length := by rw [← hks.length_eq, List.length_map]
  have hsb : vs.length ≤ sizeLine := by
    rw [hvl]
    exact fits_of_scanBound hb
  refine wpAny_bind (wpAny_newList ?_ hsb)
  have hoL : (s1.heap.push (seqObj "list" vs.toArray 0)).get? s1.heap.objs.size = some (seqObj "list" vs.toArray 0) := Heap.get?_push_size _ rfl
  have e1 := each_keys hvs
  refine wpAny_bind (wpAny_holding (PySem.W.list_sort_data (s := { s1 with heap := s1.heap.push (seqObj "list" vs.toArray 0) }) (enc := fun k => (keyD k).py) (R := fun v k => RelV (kV k) v) hoL e1 (e1.mono fun v k r => ?_) ?_ ?_ ?_ ?_ fun out hout eo => ?_))
  · cases k with
    | inl i =>
      obtain ⟨t, rfl⟩ := r
      exact ⟨[], .int i t, fun z => nomatch z⟩
    | inr x =>
      obtain ⟨t, rfl⟩ := r
      exact ⟨[], .str x t, fun z => nomatch z⟩
  · intro d hd d' hd'
    obtain ⟨j, hj, rfl⟩ := List.mem_map.mp hd
    obtain ⟨k, hk, rfl⟩ := List.mem_map.mp hd'
    exact hal j (hks.mem_iff.mp hj) k (hks.mem_iff.mp hk)
  · refine .inr fun d hd => ?_
    obtain ⟨j, hj, rfl⟩ := List.mem_map.mp hd
    cases j with
    | inl i => exact ⟨(fun z => nomatch z), fun xs z => nomatch z⟩
    | inr i => exact ⟨(fun z => nomatch z), fun xs z => nomatch z⟩
  · rw [List.length_map]
    exact hsb
  · intro k hk
    have : (keyD k).py.depth = 0 := by cases k <;> rfl
    rw [this]
    show A.units + 1 + 1 + 0 < cLine
    omega
  · obtain ⟨c, hc⟩ := sortedHeap_at (vs := vs) (out := out.toArray) hoL
    refine wpAny_pure ⟨_, rfl, hQ _ s1.heap.objs.size out c (vs.map keyK) (fun b u e => ?_) g1 o1 hz hc (keys_each eo) hks⟩
    have q := k1 b u e
    have hlt := Heap.lt_size q
    show (sortedHeap (s1.heap.push (seqObj "list" vs.toArray 0)) s1.heap.objs.size vs out.toArray).get? b = some u
    rw [sortedHeap_old (Nat.ne_of_lt hlt) (by rw [size_push']; exact Nat.lt_succ_of_lt hlt)]
    exact Heap.get?_push_of_some _ q
end
theorem sort_same {α : Type} {le : α → α → Bool} (tr : ∀ a b c, le a b = true → le b c = true → le a c = true) (tot : ∀ a b, (le a b || le b a) = true) (anti : ∀ a b, le a b = true → le b a = true → a = b) {xs ys : List α} (p : xs.Perm ys) :
    xs.mergeSort le = ys.mergeSort le :=
  List.Perm.eq_of_pairwise (fun a b _ _ h1 h2 => anti a b h1 h2) (List.pairwise_mergeSort tr tot xs) (List.pairwise_mergeSort tr tot ys) ((List.mergeSort_perm xs le).trans (p.trans (List.mergeSort_perm ys le).symm))
def leS (a b : Str) : Bool := decide (a.cps.toList ≤ b.cps.toList)
def leI (a b : Int) : Bool := decide (a ≤ b)
theorem leS_anti (a b : Str) (h1 : leS a b = true) (h2 : leS b a = true) : a = b := by
  have := List.le_antisymm (of_decide_eq_true h1) (of_decide_eq_true h2)
  cases a
  cases b
  simp at this
  rw [this]
theorem leS_tr (a b c : Str) (h1 : leS a b = true) (h2 : leS b c = true) : leS a c = true := decide_eq_true (List.le_trans (of_decide_eq_true h1) (of_decide_eq_true h2))
theorem leS_tot (a b : Str) : (leS a b || leS b a) = true := by
  unfold leS
  rw [Bool.or_eq_true, decide_eq_true_eq, decide_eq_true_eq]
  exact List.le_total _ _
theorem leI_anti (a b : Int) (h1 : leI a b = true) (h2 : leI b a = true) : a = b := Int.le_antisymm (of_decide_eq_true h1) (of_decide_eq_true h2)
theorem leI_tr (a b c : Int) (h1 : leI a b = true) (h2 : leI b c = true) : leI a c = true := decide_eq_true (Int.le_trans (of_decide_eq_true h1) (of_decide_eq_true h2))
theorem leI_tot (a b : Int) : (leI a b || leI b a) = true := by
  unfold leI
  rw [Bool.or_eq_true, decide_eq_true_eq, decide_eq_true_eq]
  exact Int.le_total _ _
theorem leK_str (a b : Str) : leK (.inr a) (.inr b) = leS a b := congrFun (congrFun (PySem.W.dataLe_str id) a) b
theorem leK_int (a b : Int) : leK (.inl a) (.inl b) = leI a b := congrFun (congrFun (PySem.W.dataLe_int id) a) b
theorem leD_str (a b : Str) : leD (.str a) (.str b) = leS a b := leK_str a b
theorem leD_int (a b : Int) : leD (.int a) (.int b) = leI a b := leK_int a b
def sortS (xs : List Str) : List Str := (dd xs).mergeSort leS
def sortI (xs : List Int) : List Int := (dd xs).mergeSort leI
theorem nodup_map_of {α β : Type} {f : α → β} {l : List α} (h : (l.map f).Nodup) : l.Nodup := by
  rw [List.Nodup, List.pairwise_map] at h
  exact h.imp fun hne e => hne (congrArg f e)
theorem inr_of : ∀ {l : List Key} {xs : List Str}, (∀ j, j ∈ l → j ∈ xs.map (Sum.inr : Str → Key)) → ∃ ys : List Str, l = ys.map Sum.inr
  | [], _, _ => ⟨[], rfl⟩
  | j :: l, xs, h => by
    obtain ⟨ys, rfl⟩ := inr_of (l := l) (xs := xs) fun k hk => h k (List.mem_cons_of_mem _ hk)
    obtain ⟨x, _, rfl⟩ := List.mem_map.mp (h j List.mem_cons_self)
    exact ⟨x :: ys, rfl⟩
theorem inl_of : ∀ {l : List Key} {xs : List Int}, (∀ j, j ∈ l → j ∈ xs.map (Sum.inl : Int → Key)) → ∃ ys : List Int, l = ys.map Sum.inl
  | [], _, _ => ⟨[], rfl⟩
  | j :: l, xs, h => by
    obtain ⟨ys, rfl⟩ := inl_of (l := l) (xs := xs) fun k hk => h k (List.mem_cons_of_mem _ hk)
    obtain ⟨x, _, rfl⟩ := List.mem_map.mp (h j List.mem_cons_self)
    exact ⟨x :: ys, rfl⟩
theorem sort_inr {ks : List Key} {xs : List Str} (nd : ks.Nodup) (hm : ∀ j, j ∈ ks ↔ j ∈ xs.map (Sum.inr : Str → Key)) : ks.mergeSort leK = (sortS xs).map Sum.inr := by
  obtain ⟨ys, rfl⟩ := inr_of fun j hj => (hm j).mp hj
  have p : ys.Perm (dd xs) := (List.perm_ext_iff_of_nodup (nodup_map_of nd) dd_nodup).mpr fun y => by
    rw [dd_mem]
    have := hm (.inr y)
    rw [List.mem_map, List.mem_map] at this
    constructor
    · intro hy
      obtain ⟨z, hz, e⟩ := this.mp ⟨y, hy, rfl⟩
      cases e
      exact hz
    · intro hy
      obtain ⟨z, hz, e⟩ := this.mpr ⟨y, hy, rfl⟩
      cases e
      exact hz
  unfold sortS
  rw [← sort_same leS_tr leS_tot leS_anti p]
  exact (List.map_mergeSort fun a _ b _ => (leK_str a b).symm).symm
theorem sort_inl {ks : List Key} {xs : List Int} (nd : ks.Nodup) (hm : ∀ j, j ∈ ks ↔ j ∈ xs.map (Sum.inl : Int → Key)) : ks.mergeSort leK = (sortI xs).map Sum.inl := by
  obtain ⟨ys, rfl⟩ := inl_of fun j hj => (hm j).mp hj
  have p : ys.Perm (dd xs) := (List.perm_ext_iff_of_nodup (nodup_map_of nd) dd_nodup).mpr fun y => by
    rw [dd_mem]
    have := hm (.inl y)
    rw [List.mem_map, List.mem_map] at this
    constructor
    · intro hy
      obtain ⟨z, hz, e⟩ := this.mp ⟨y, hy, rfl⟩
      cases e
      exact hz
    · intro hy
      obtain ⟨z, hz, e⟩ := this.mpr ⟨y, hy, rfl⟩
      cases e
      exact hz
  unfold sortI
  rw [← sort_same leI_tr leI_tot leI_anti p]
  exact (List.map_mergeSort fun a _ b _ => (leK_int a b).symm).symm
def keysD : List D → Option (List Key)
  | [] => some []
  | .int i :: ds => (keysD ds).map (.inl i :: ·)
  | .str i :: ds => (keysD ds).map (.inr i :: ·)
  | _ :: _ => none
/-- sorted(set(d)) -/
def gSortSet (b : Bool) (d : D) (h : AH) : Res D := match listAt d h with
  | some xs => if lenOk (xs.length + 1) = true ∧ xs.length + 1 < scanBound then (match strsD xs, intsD xs with
    | some ss, _ => mkL b ((sortS ss).map D.str) h
    | none, some ns => mkL b ((sortI ns).map D.int) h
    | none, none => .bad) else .bad
  | none => .bad
def tSortSet (K : PySem.W.Frag) (te : TE) : TE := fun σ H Q => te σ H fun v H1 => ∃ a, v = .ref a ∧ ((∃ ss : List Str, SqL K H1 a (ss.map V.str) ∧ ss.length + 1 < scanBound ∧ ∀ p, H1 p = none → Q (.ref p) (upd H1 p (.lst ((sortS ss).map V.str)))) ∨
  ∃ ns : List Int, SqL K H1 a (ns.map V.int) ∧ ns.length + 1 < scanBound ∧ ∀ p, H1 p = none → Q (.ref p) (upd H1 p (.lst ((sortI ns).map V.int))))
section
variable {X : Cx} {W : Wi} {e : Expr} {f : ME}
theorem sortset_run {pins : List (Addr × Obj)} {σ : L2.St} {H : Hp} {s : Shared} {a : Addr} {ks : List Key} {Q : VK} {rs : List Key} (I : Inv X pins σ H s) (hc : X.calm = true) (hu : X.A.units + 64 < cLine) (hq : SqL X.K H a (ks.map kV)) (hb : ks.length + 1 < scanBound)
    (hal : ∀ j ∈ ks, ∀ k ∈ ks, PySem.W.alike (keyD j).py (keyD k).py = true) (hrs : ∀ l : List Key, l.Nodup → (∀ j, j ∈ l ↔ j ∈ ks) → l.mergeSort leK = rs) (q : ∀ p, H p = none → Q (.ref p) (upd H p (.lst (rs.map kV)))) :
    wpAny (model X.prog X.w) X.A (call (.type "set") [.ref a]) (fun v s' => wpAny (model X.prog X.w) X.A (call (.builtin "sorted") [v]) (EP X pins σ Q) X.xe s') X.xe s := by
  obtain ⟨its, rv, hl, _⟩ := I.list hq
  refine call_set_keys (P := X.prog) (w := X.w) ks (I.ok.hd hc) hl.isList rv hb fun h' tk ls R hm k => ?_
  have I2 : Inv X pins σ H { s with heap := h', toks := tk } := I.kept k
  obtain ⟨_, _, _, _, _, _, _, _, _, nd, _⟩ := id R.ex
  refine sorted_setG (P := X.prog) (w := X.w) (s := { s with heap := h', toks := tk }) R (I.ok.hd hc) hu (fun j hj k hk => hal j ((hm j).mp hj) k ((hm k).mp hk)) fun s' p out c ls2 k2 g2 o2 hp hg hv pm => ?_
  have hs := hrs ls2 (pm.nodup_iff.mpr nd) fun j => pm.mem_iff.trans (hm j)
  rw [hs] at hv
  have hn : H p = none := I2.hok.fresh hp
  have hlen : (rs.map kV).length ≤ sizeLine := by
    rw [List.length_map, ← hs, List.length_mergeSort, pm.length_eq]
    obtain ⟨_, _, _, _, _, _, _, _, _, _, hb2, _⟩ := R.ex
    exact fits_of_scanBound hb2
  have J : Inv X pins σ (upd H p (.lst (rs.map kV))) { ({ s with heap := h', toks := tk } : Shared) with heap := s'.heap, gens := s'.gens, drawn := s'.drawn, toks := s'.toks } :=
    I2.call (ch := []) (Un.laid k2 hp hn) (I2.hok.laid k2 hp ⟨hlen, out, c, hv, hg⟩) (by rw [g2]; exact I.bare) (fun _ z => nomatch z)
  have e : s' = { s with heap := s'.heap, gens := s'.gens, drawn := s'.drawn, toks := s'.toks } := by
    cases s'
    cases s
    cases o2
    rfl
  rw [e]
  exact ⟨.ref p, _, J, rfl, q p hn⟩
theorem pe_sortset {te : TE} {p p2 q2 pos : Pos} (hc : X.calm = true) (hu : X.A.units + 64 < cLine) (hg : Gl X "sorted") (hm : X.mg "sorted" = none) (hg2 : Gl X "set") (hm2 : X.mg "set" = none) (he : PE X e te)
    (na : starEach [e] X.env = (false, eval e X.env) :: starEach [] X.env := by rfl) : PE X (.Call (.Name "sorted" p) [.Call (.Name "set" p2) [e] [] q2] [] pos) (tSortSet X.K te) := by
  refine ⟨fun pins s σ H Q I h => ?_⟩
  refine Call_ (ld_blt I hg hm boot_sorted ?_)
  refine PyProof.Rows.callWith_builtin1 (PyProof.Rows.args_cons ?_ rfl) rfl rfl
  refine Call_ (ld_blt I hg2 hm2 boot_set ?_)
  refine PyProof.Rows.callWith_type1 (PyProof.Rows.args_cons (thn (he.run pins s σ H _ I h) fun v s1 ⟨x, H1, I1, r1, q1⟩ => PyProof.Rows.args_nil ?_) na) na rfl
  obtain ⟨a, rfl, q1⟩ := q1
  cases r1
  have fin : ∀ s2 v, wpAny (model X.prog X.w) X.A (call (.builtin "sorted") [v]) (EP X pins σ Q) X.xe s2 → wpAny (model X.prog X.w) X.A (spliced (backTo pos (starEach [] X.env))) (fun vs s₂ => wpAny (model X.prog X.w) X.A (call (.builtin "sorted") (v :: vs)) (EP X pins σ Q) X.xe s₂) X.xe s2 :=
    fun s2 v h => PyProof.Rows.args_nil h
  rcases q1 with ⟨ss, hq, hb, q⟩ | ⟨ns, hq, hb, q⟩
  · refine wpAny_mono (sortset_run (ks := ss.map Sum.inr) (rs := (sortS ss).map Sum.inr) (Q := Q) I1 hc hu (by rw [List.map_map]; exact hq) (by rw [List.length_map]; exact hb) (fun j hj k hk => ?_) (fun l nd hm => sort_inr nd hm) fun p hp => ?_) (fun v s2 h => fin s2 v h) fun _ _ z => z
    · obtain ⟨x, _, rfl⟩ := List.mem_map.mp hj
      obtain ⟨y, _, rfl⟩ := List.mem_map.mp hk
      rfl
    · rw [List.map_map]
      exact q p hp
  · refine wpAny_mono (sortset_run (ks := ns.map Sum.inl) (rs := (sortI ns).map Sum.inl) (Q := Q) I1 hc hu (by rw [List.map_map]; exact hq) (by rw [List.length_map]; exact hb) (fun j hj k hk => ?_) (fun l nd hm => sort_inl nd hm) fun p hp => ?_) (fun v s2 h => fin s2 v h) fun _ _ z => z
    · obtain ⟨x, _, rfl⟩ := List.mem_map.mp hj
      obtain ⟨y, _, rfl⟩ := List.mem_map.mp hk
      rfl
    · rw [List.map_map]
      exact q p hp
theorem de_sortset (bb : Bool) {p p2 q2 pos : Pos} (hc : X.calm = true) (hu : X.A.units + 64 < cLine) (hm : X.mg "sorted" = none) (hm2 : X.mg "set" = none) (he : DE X W e f) (hg : Gl X "sorted" := by rfl) (hg2 : Gl X "set" := by rfl)
    (na : starEach [e] X.env = (false, eval e X.env) :: starEach [] X.env := by rfl) : DE X W (.Call (.Name "sorted" p) [.Call (.Name "set" p2) [e] [] q2] [] pos) (e1 (gSortSet bb) f) := by
  obtain ⟨t, pp, ip⟩ := he.ex
  refine ⟨_, pe_sortset hc hu hg hm hg2 hm2 pp na, fun m F h H s σ Q r E q => ?_⟩
  refine ip m F h H s σ _ r E (q.bind fun d h' m' F' H' v _ e' r' ha q => ?_)
  unfold gSortSet at q
  split at q
  · rename_i xs e1
    obtain ⟨a, vs, rfl, hs, h1⟩ := listAt_at r' ha e1
    split at q
    · rename_i hl
      split at q
      · rename_i o ss es
        have ed := strsD_eq es
        rw [ed] at h1
        rw [h1.strs] at hs
        refine ⟨a, rfl, .inl ⟨ss, hs, ?_, q.mkL r' (HasDs.of_strs _)⟩⟩
        rw [ed, List.length_map] at hl
        exact hl.2
      · rename_i ns es e2
        have ed := intsD_eq e2
        rw [ed] at h1
        rw [h1.ints] at hs
        refine ⟨a, rfl, .inr ⟨ns, hs, ?_, q.mkL r' (HasDs.of_ints _)⟩⟩
        rw [ed, List.length_map] at hl
        exact hl.2
      · exact q.elim
    · exact q.elim
  · exact q.elim
end
end DL

namespace DL
open PySem PySem.Spec PyProof.Rows L2

/-! ### dicts whose keys are tuples -/
def valD {κ : Type} [DecidableEq κ] (kvs : List (κ × D)) (k : κ) : Option D := (kvs.find? fun kv => decide (kv.1 = k)).map (·.2)
def putD {κ : Type} [DecidableEq κ] (kvs : List (κ × D)) (k : κ) (d : D) : List (κ × D) :=
  if (kvs.any fun kv => decide (kv.1 = k)) = true then kvs.map (fun kv => if kv.1 = k then (kv.1, d) else kv) else kvs ++ [(k, d)]
def mergeD {κ : Type} [DecidableEq κ] (kvs more : List (κ × D)) : List (κ × D) := more.foldl (fun acc kv => putD acc kv.1 kv.2) kvs
section
variable {K : PySem.W.Frag} {m : Ad} {F : Hp}
abbrev RelOD (K : PySem.W.Frag) (m : Ad) (F : Hp) : Option D → Option V → Prop
  | some d, some v => HasD K m F d v
  | none, none => True
  | _, _ => False
theorem valD_pos {κ : Type} [DecidableEq κ] {p : κ × D} {r : List (κ × D)} {k : κ} (e : p.1 = k) : valD (p :: r) k = some p.2 := by simp [valD, List.find?_cons, e]
theorem valD_neg {κ : Type} [DecidableEq κ] {p : κ × D} {r : List (κ × D)} {k : κ} (e : ¬ p.1 = k) : valD (p :: r) k = valD r k := by simp [valD, List.find?_cons, e]
theorem HasTs.val {k : List Key} : ∀ {xs : List (List Key × D)} {ks : List (List Key × V)}, HasTs K m F xs ks → RelOD K m F (valD xs k) (valV ks k)
  | _, _, .nil => True.intro
  | _, _, .cons (k := k0) a t => by
    by_cases e : k0 = k
    · rw [valD_pos (p := (k0, _)) e, valV_pos (p := (k0, _)) e]
      exact a
    · rw [valD_neg (p := (k0, _)) e, valV_neg (p := (k0, _)) e]
      exact HasTs.val t
theorem HasTs.any {k : List Key} : ∀ {xs : List (List Key × D)} {ks : List (List Key × V)}, HasTs K m F xs ks → (xs.any fun kv => decide (kv.1 = k)) = (ks.any fun kv => decide (kv.1 = k))
  | _, _, .nil => rfl
  | _, _, .cons a t => by rw [List.any_cons, List.any_cons, HasTs.any t]
theorem HasTs.app {d : D} {v : V} {k : List Key} (h : HasD K m F d v) : ∀ {xs : List (List Key × D)} {ks : List (List Key × V)}, HasTs K m F xs ks → HasTs K m F (xs ++ [(k, d)]) (ks ++ [(k, v)])
  | _, _, .nil => .cons h .nil
  | _, _, .cons a t => .cons a (HasTs.app h t)
theorem HasTs.rep {d : D} {v : V} {k : List Key} (h : HasD K m F d v) : ∀ {xs : List (List Key × D)} {ks : List (List Key × V)}, HasTs K m F xs ks → HasTs K m F (xs.map fun kv => if kv.1 = k then (kv.1, d) else kv) (ks.map fun kv => if kv.1 = k then (kv.1, v) else kv)
  | _, _, .nil => .nil
  | _, _, .cons (k := k0) a t => by
    rw [List.map_cons, List.map_cons]
    by_cases e : k0 = k
    · simp only [e, if_true]
      exact .cons h (HasTs.rep h t)
    · simp only [e, if_false]
      exact .cons a (HasTs.rep h t)
theorem HasTs.put {d : D} {v : V} {k : List Key} (h : HasD K m F d v) {xs : List (List Key × D)} {ks : List (List Key × V)} (t : HasTs K m F xs ks) : HasTs K m F (putD xs k d) (putK ks k v) := by
  unfold putD putK
  rw [t.any]
  split
  · exact t.rep h
  · exact t.app h
theorem HasTs.length : ∀ {xs : List (List Key × D)} {ks : List (List Key × V)}, HasTs K m F xs ks → xs.length = ks.length
  | _, _, .nil => rfl
  | _, _, .cons a t => by rw [List.length_cons, List.length_cons, HasTs.length t]
theorem HasTs.get : ∀ {xs : List (List Key × D)} {ks : List (List Key × V)} {i : Nat} {k : List Key} {d : D}, HasTs K m F xs ks → xs[i]? = some (k, d) → ∃ v, ks[i]? = some (k, v) ∧ HasD K m F d v
  | _, _, i, k, d, .nil, e => by simp at e
  | _, _, 0, k, d, .cons a t, e => by
    rw [List.getElem?_cons_zero] at e
    cases e
    exact ⟨_, rfl, a⟩
  | _, _, i + 1, k, d, .cons a t, e => by
    rw [List.getElem?_cons_succ] at e
    obtain ⟨v, h1, h2⟩ := HasTs.get t e
    exact ⟨v, by rw [List.getElem?_cons_succ]; exact h1, h2⟩
theorem HasTs.merge : ∀ {more : List (List Key × D)} {ms : List (List Key × V)} {xs : List (List Key × D)} {ks : List (List Key × V)}, HasTs K m F more ms → HasTs K m F xs ks → HasTs K m F (mergeD xs more) (ms.foldl (fun acc kv => putK acc kv.1 kv.2) ks)
  | _, _, _, _, .nil, t => t
  | _, _, _, _, .cons a r, t => HasTs.merge (xs := putD _ _ _) (ks := putK _ _ _) r (t.put a)
/-- the key that a tuple is -/
theorem keysD_eq : ∀ {ds : List D} {k : List Key} {vs : List V}, keysD ds = some k → HasDs K m F ds vs → vs = k.map kV
  | [], k, _, e, .nil => by
    cases e
    rfl
  | .int i :: ds, k, _, e, .cons a t => by
    cases a
    unfold keysD at e
    obtain ⟨ks, e1, rfl⟩ := Option.map_eq_some_iff.mp e
    rw [List.map_cons, ← keysD_eq e1 t]
    rfl
  | .str i :: ds, k, _, e, .cons a t => by
    cases a
    unfold keysD at e
    obtain ⟨ks, e1, rfl⟩ := Option.map_eq_some_iff.mp e
    rw [List.map_cons, ← keysD_eq e1 t]
    rfl
theorem has_keys : ∀ (k : List Key), HasDs K m F (k.map keyD) (k.map kV)
  | [] => .nil
  | .inl i :: ks => .cons (.int i) (has_keys ks)
  | .inr x :: ks => .cons (.str x) (has_keys ks)
theorem keysD_map : ∀ (k : List Key), keysD (k.map keyD) = some k
  | [] => rfl
  | .inl i :: ks => by
    show (keysD (ks.map keyD)).map _ = _
    rw [keysD_map ks]
    rfl
  | .inr x :: ks => by
    show (keysD (ks.map keyD)).map _ = _
    rw [keysD_map ks]
    rfl
end
/-- the items of a dict with tuple keys -/
def dTat (d : D) (h : AH) : Option (List (List Key × D)) := match d with
  | .dT kvs => some kvs
  | .ref n => match h[n]? with
    | some (.dT kvs) => some kvs
    | _ => none
  | _ => none
def cellT (d : D) (h : AH) : Option (Nat × List (List Key × D)) := match d with
  | .ref n => match h[n]? with
    | some (.dT xs) => some (n, xs)
    | _ => none
  | _ => none
section
variable {K : PySem.W.Frag} {m : Ad} {F : Hp} {h : AH} {H : Hp}
theorem cell_dT (r : Rel K m F h H) {n : Nat} {a : Addr} {xs : List (List Key × D)} (hm : m[n]? = some a) (hc : h[n]? = some (.dT xs)) : ∃ vs, H a = some (.dT vs) ∧ HasTs K m F xs vs := by
  obtain ⟨_, o, ho, ok⟩ := r.cell n a _ hm hc
  cases o with
  | dT vs => exact ⟨vs, ho, ok⟩
  | _ => exact False.elim ok
theorem dTat_at (r : Rel K m F h H) {d : D} {v : V} {xs : List (List Key × D)} (hd : HasD K m F d v) (e : dTat d h = some xs) : ∃ a ks, v = .ref a ∧ Rd H a (.dT ks) ∧ HasTs K m F xs ks := by
  cases hd with
  | dT hf hs =>
    have : _ = xs := Option.some.inj e
    subst this
    exact ⟨_, _, rfl, r.rd hf, hs⟩
  | ref hm =>
    rename_i n a
    unfold dTat at e
    simp only at e
    split at e
    · rename_i ys hc
      cases e
      obtain ⟨vs, h1, h2⟩ := cell_dT r hm hc
      exact ⟨a, vs, rfl, .inl h1, h2⟩
    · cases e
  | _ => cases e
theorem cellT_at (r : Rel K m F h H) {d : D} {v : V} {n : Nat} {xs : List (List Key × D)} (hd : HasD K m F d v) (e : cellT d h = some (n, xs)) : ∃ a ks, v = .ref a ∧ m[n]? = some a ∧ H a = some (.dT ks) ∧ HasTs K m F xs ks := by
  cases hd with
  | ref hm =>
    unfold cellT at e
    simp only at e
    split at e
    · rename_i ys hc
      cases e
      obtain ⟨vs, h1, h2⟩ := cell_dT r hm hc
      exact ⟨_, vs, rfl, hm, h1, h2⟩
    · cases e
  | _ => cases e
end
/-- what a fresh tuple leaves known -/
theorem tup_fresh {K : PySem.W.Frag} {m : Ad} {F : Hp} {h : AH} {H : Hp} {p : Addr} {ds : List D} {vs : List V} (r : Rel K m F h H) (hp : H p = none) (hs : HasDs K m F ds vs) :
    Rel K m (upd F p (.tup vs)) h (upd H p (.tup vs)) ∧ Ext m F H m (upd F p (.tup vs)) (upd H p (.tup vs)) ∧ (upd F p (.tup vs)) p = some (.tup vs) := by
  obtain ⟨r', e⟩ := r.frozen (o := .tup vs) hp
  exact ⟨r', e, upd_same⟩
section
variable {X : Cx} {W : Wi} {o e1 e2 : Expr} {es : List Expr} {fd ff : ME} {fks : List ME} {pos apos cpos p2 : Pos} {x1 : Nat}
/-- d[a, b] -/
def eIxT (fd : ME) (fks : List ME) : ME := fun s h => (fd s h).bind fun d h => (evs fks s h).bind fun ks h => match dTat d h, keysD ks with
  | some kvs, some k => (match valD kvs k with
    | some v => .ok v h
    | none => .bad)
  | _, _ => .bad
theorem de_ixT (hu : X.A.units + 64 < cLine) (ho : DE X W o fd) (hk : DA X W es fks) (hl : lenOk fks.length = true := by rfl) (hs : NoSl (.Tuple es x1 p2) := by exact fun _ _ => rfl) : DE X W (.Subscript o (.Tuple es x1 p2) pos) (eIxT fd fks) := by
  obtain ⟨t, p, i⟩ := ho.ex
  obtain ⟨t2, p2, i2⟩ := hk.ex
  refine ⟨_, pe_dget (by omega) p (pe_tup p2) hs, fun m F h H s σ Q r E q => ?_⟩
  refine i m F h H s σ _ r E (q.bind fun d h1 m1 F1 H1 v _ e1 r1 ha q => ?_)
  refine i2 m1 F1 h1 H1 s σ _ r1 (E.ext e1) (q.bind fun ks h2 m2 F2 H2 vs hv e2 r2 hks q => ?_)
  refine ⟨by rw [← hks.length, evs_len hv]; exact lenOk_le hl, fun b hb => ?_⟩
  obtain ⟨r3, e3, hF⟩ := tup_fresh r2 hb hks
  split at q
  · rename_i kvs k ed ek
    obtain ⟨a, ws, rfl, hrd, hts⟩ := dTat_at r2 (ha.ext e2) ed
    have hval := hts.val (k := k)
    split at q
    · rename_i z hz
      rw [hz] at hval
      cases hw : valV ws k with
      | none => rw [hw] at hval; exact hval.elim
      | some w =>
        rw [hw] at hval
        have hval : HasD X.K m2 F2 z w := hval
        refine ⟨a, w, rfl, .inr ⟨ws, k, b, ?_, rfl, ?_, hw.symm⟩, q m2 _ _ w e3 r3 (hval.ext e3)⟩
        · rcases hrd with z | ⟨ob, z⟩
          · exact .inl (by rw [upd_ne (ne_of_none z hb)]; exact z)
          · exact .inr ⟨ob, by rw [upd_ne (ne_of_none z hb)]; exact z⟩
        · rw [upd_same, keysD_eq ek hks]
    · exact q.elim
  · exact q.elim
/-- d.get((a, b), x) -/
def eGetT (fd : ME) (fks : List ME) (ff : ME) : ME := fun s h => (fd s h).bind fun d h => if (dTat d h).isSome = true then (evs fks s h).bind fun ks h => (ff s h).bind fun z h => match dTat d h, keysD ks with
  | some kvs, some k => .ok ((valD kvs k).getD z) h
  | _, _ => .bad else .bad
theorem de_getT (hu : X.A.units + 64 < cLine) (ho : DE X W o fd) (hk : DA X W es fks) (hf : DE X W e2 ff)
    (hb : attributeBase o "get" X.env (eval o X.env) = eval o X.env := by rfl)
    (hfew : ((backTo cpos (starEach [.Tuple es x1 p2, e2] X.env)).all (fun x => !x.1) && (backToKw cpos (keywordEach [] X.env)).all (fun x => x.1.isSome) && decide (([.Tuple es x1 p2, e2] : List Expr).length + ([] : List Keyword).length + (if ([] : List Keyword).isEmpty then 0 else 1) < 30)) = true := by rfl)
    (hline : (apos.endLine == cpos.line) = true := by rfl) (htr : backTo cpos (starEach [.Tuple es x1 p2, e2] X.env) = [(false, eval (.Tuple es x1 p2) X.env), (false, eval e2 X.env)] := by rfl) (hl : lenOk fks.length = true := by rfl) :
    DE X W (.Call (.Attribute o "get" apos) [.Tuple es x1 p2, e2] [] cpos) (eGetT fd fks ff) := by
  obtain ⟨t, p, i⟩ := ho.ex
  obtain ⟨t2, p2, i2⟩ := hk.ex
  obtain ⟨t3, p3, i3⟩ := hf.ex
  refine ⟨_, pe_dget2 (by omega) p (pe_tup p2) p3 ⟨hb, hfew, hline, htr⟩, fun m F h H s σ Q r E q => ?_⟩
  refine i m F h H s σ _ r E (q.bind fun d h1 m1 F1 H1 v _ e1 r1 ha q => ?_)
  split at q
  · rename_i hsome
    obtain ⟨kv0, ed0⟩ := Option.isSome_iff_exists.mp hsome
    obtain ⟨a0, ws0, rfl, hrd0, _⟩ := dTat_at r1 ha ed0
    refine ⟨a0, rfl, .inr ⟨ws0, hrd0⟩, ?_⟩
    refine i2 m1 F1 h1 H1 s σ _ r1 (E.ext e1) (q.bind fun ks h2 m2 F2 H2 vs hv e2 r2 hks q => ?_)
    refine ⟨by rw [← hks.length, evs_len hv]; exact lenOk_le hl, fun b hb => ?_⟩
    obtain ⟨r3, e3, hF⟩ := tup_fresh r2 hb hks
    refine i3 m2 _ h2 _ s σ _ r3 (((E.ext e1).ext e2).ext e3) ((q.ext e3).bind fun z h4 m4 F4 H4 w _ e4 r4 hz q => ?_)
    split at q
    · rename_i kvs k ed ek
      obtain ⟨a, ws, ea, hrd, hts⟩ := dTat_at r4 (((ha.ext e2).ext e3).ext e4) ed
      cases ea
      have hval := hts.val (k := k)
      refine ⟨valV ws k, .inr ⟨ws, k, b, hrd, rfl, ?_, rfl⟩, ?_⟩
      · rw [r4.sub b _ (e4.ls b (.tup vs) trivial hF), keysD_eq ek hks]
      · cases hw : valV ws k with
        | none =>
          rw [hw] at hval
          cases hd : valD kvs k with
          | none =>
            rw [hd] at q
            exact q.ok r4 hz
          | some z2 => rw [hd] at hval; exact hval.elim
        | some w2 =>
          rw [hw] at hval
          cases hd : valD kvs k with
          | none => rw [hd] at hval; exact hval.elim
          | some z2 =>
            rw [hd] at q hval
            exact q.ok r4 hval
    · exact q.elim
  · exact q.elim
/-- {} with tuple keys -/
def eNewT : ME := fun _ h => .ok (.ref h.length) (h ++ [.dT []])
theorem de_newT : DE X W (.Dict [] [] pos) eNewT := ⟨_, pe_dnewT, fun m F h H s σ Q r E q => post.newC q r (c := .dT []) (o := .dT []) (show HasTs X.K m F [] [] from .nil)⟩
/-- d[a, b] = v -/
def sPutT (fd : ME) (fks : List ME) (fv : ME) : MS := fun s h => (fv s h).fl fun v h => (fd s h).fl fun d h => (evs fks s h).fl fun ks h => match cellT d h, keysD ks with
  | some (n, kvs), some k => if lenOk (kvs.length + 1) = true then .nx s (h.set n (.dT (putD kvs k v))) else .bad
  | _, _ => .bad
theorem ds_putT {value : Expr} {fv : ME} {pos' : Pos} (hu : X.A.units + 64 < cLine) (hv : DE X W value fv) (ho : DE X W o fd) (hk : DA X W es fks) (hs : swapsWith value (some (.Subscript o (.Tuple es x1 p2) pos')) pos.line X.env = pure false := by rfl) (hl : lenOk fks.length = true := by rfl) :
    DS X W (.Assign [.Subscript o (.Tuple es x1 p2) pos'] value pos) (sPutT fd fks fv) := by
  obtain ⟨t, p, i⟩ := ho.ex
  obtain ⟨t2, p2, i2⟩ := hk.ex
  obtain ⟨t3, p3, i3⟩ := hv.ex
  refine ⟨_, ps_dput (by omega) p (pe_tup p2) p3 hs, fun m F h H s σ Z r E q => ?_⟩
  refine i3 m F h H s σ _ r E (q.fl fun v0 h0 m0 F0 H0 w0 _ e0 r0 hv0 q => ?_)
  refine i m0 F0 h0 H0 s σ _ r0 (E.ext e0) (q.fl fun d h1 m1 F1 H1 v _ e1 r1 ha q => ?_)
  refine i2 m1 F1 h1 H1 s σ _ r1 ((E.ext e0).ext e1) (q.fl fun ks h2 m2 F2 H2 vs hv e2 r2 hks q => ?_)
  refine ⟨by rw [← hks.length, evs_len hv]; exact lenOk_le hl, fun b hb => ?_⟩
  obtain ⟨r3, e3, hF⟩ := tup_fresh r2 hb hks
  split at q
  · rename_i n kvs k ed ek
    split at q
    · rename_i hlen
      obtain ⟨a, ws, rfl, hm, hH, hts⟩ := cellT_at r3 ((ha.ext e2).ext e3) ed
      have hl2 := lenOk_le hlen
      obtain ⟨r4, e4⟩ := r3.write (c := .dT (putD kvs k v0)) (o := .dT (putK ws k w0)) hm (show HasTs X.K m2 _ _ _ from hts.put (((hv0.ext e1).ext e2).ext e3))
      refine ⟨a, _, rfl, .inr ⟨ws, k, b, hH, rfl, ?_, ?_, rfl⟩, ?_⟩
      · rw [upd_same, keysD_eq ek hks]
      · rw [← hts.length]
        omega
      · exact q m2 _ _ σ (e3.trans e4) r4 (((((E.ext e0).ext e1).ext e2).ext e3).ext e4)
    · exact q.elim
  · exact q.elim
end
end DL

namespace DL
open PySem PySem.Spec PyProof.Rows L2

/-! ### dict(xs) of pairs whose keys are tuples -/
abbrev mergeT (kvs more : List (List Key × V)) : List (List Key × V) := more.foldl (fun acc kv => putK acc kv.1 kv.2) kvs
def PairT (H : Hp) : List Addr → List (List Key × V) → Prop := Paired fun t kv => ∃ b, H t = some (.tup [.ref b, kv.2]) ∧ H b = some (.tup (kv.1.map kV))
def rDictT (K : PySem.W.Frag) : List V → Hp → VK → Prop := fun xs H Q => ∃ (a : Addr) (ts : List Addr) (kvs : List (List Key × V)), xs = [.ref a] ∧ SqL K H a (ts.map V.ref) ∧ PairT H ts kvs ∧ ∀ p, H p = none → Q (.ref p) (upd H p (.dT (mergeT [] kvs)))
theorem kt_merge {H : Hp} : ∀ {more : List (List Key × V)} {ps : List (List Key × Addr × Value)}, KT H more ps → ∀ {kvs : List (List Key × V)} {xs : List (List Key × Addr × Value)}, KT H kvs xs → KT H (mergeT kvs more) (storedAllH xs ps) := by
  intro more ps r
  induction r with
  | nil => exact fun z => z
  | @cons p q more ps h t ih =>
    intro kvs xs z
    have e := z.put p.1 (b := q.2.1) h.2.1 h.2.2
    have e2 : KT H (putK kvs p.1 p.2) (storedH xs q.1 q.2.1 q.2.2) := by
      rw [← h.1]
      exact e
    exact ih e2
theorem pair_vals {X : Cx} {pins : List (Addr × Obj)} {σ : L2.St} {H : Hp} {s : Shared} (I : Inv X pins σ H s) : ∀ {ts : List Addr} {kvs : List (List Key × V)}, PairT H ts kvs →
    ∃ ps : List (List Key × Addr × Value), KT H kvs ps ∧ ps.length = ts.length ∧ ∀ (j : Nat) (q : List Key × Addr × Value), ps[j]? = some q → ∃ t, ts[j]? = some t ∧ s.heap.IsTuple t #[.ref q.2.1, q.2.2]
  | _, _, .nil => ⟨[], .nil, rfl, fun j q e => by simp at e⟩
  | _, _, .cons (a := t) (b := kv) h r => by
    obtain ⟨ps, k, hl, hp⟩ := pair_vals I r
    obtain ⟨b, ht, hb⟩ := h
    obtain ⟨_, its, rv, tup⟩ := (show ObjOk X.prog X.w H s.heap t (.tup [.ref b, kv.2]) from I.hok t _ ht)
    obtain ⟨u, y, rfl, ru, ry⟩ := rv.two
    cases ru
    refine ⟨(kv.1, b, y) :: ps, .cons ⟨rfl, hb, ry⟩ k, by rw [List.length_cons, List.length_cons, hl], fun j q e => ?_⟩
    cases j with
    | zero =>
      rw [List.getElem?_cons_zero] at e
      cases e
      exact ⟨t, rfl, tup⟩
    | succ j =>
      rw [List.getElem?_cons_succ] at e
      obtain ⟨t', h1, h2⟩ := hp j q e
      exact ⟨t', by rw [List.getElem?_cons_succ]; exact h1, h2⟩
theorem cr_dictT {X : Cx} (hc : X.calm = true) (hu : X.A.units + 64 < cLine) : CallR X (.type "dict") (rDictT X.K) := by
  intro pins s σ H xs us Q I r h
  obtain ⟨a, ts, kvs, rfl, hq, hp, q⟩ := h
  rw [Vals.ref1 r]
  obtain ⟨its, rv, ⟨o, n, ho, hcl, hdn, hdat⟩, hz⟩ := I.list hq
  have ei := refs_at rv
  subst ei
  rw [List.length_map] at hz
  obtain ⟨ps, kt, hl, hps⟩ := pair_vals I hp
  have hlt : ∀ x ∈ ps, x.2.1 < s.heap.objs.size ∧ (tupleKind (mixKind X.prog X.w)).is s.heap x.1 x.2.1 := by
    have all : ∀ {l : List (List Key × V)} {m : List (List Key × Addr × Value)}, KT H l m → ∀ x ∈ m, x.2.1 < s.heap.objs.size ∧ (tupleKind (mixKind X.prog X.w)).is s.heap x.1 x.2.1 := by
      intro l m z
      induction z with
      | nil => exact fun x hx => nomatch hx
      | cons h t ih =>
        intro x hx
        rcases List.mem_cons.mp hx with rfl | hx
        · refine ⟨(I.hok _ _ h.2.1).lt, key_of I.hok ?_⟩
          rw [← h.1]
          exact h.2.1
        · exact ih x hx
    exact all kt
  have P := PairArg.list (prog := X.prog) (w := X.w) a (ts.map Value.ref).toArray (fun j => ts.getD j 0) (ps.map fun p => (Value.ref p.2.1, p.2.2))
  refine call_dict_pairsH (knd := tupleKind (mixKind X.prog X.w)) (ps := ps) P (I.ok.hd hc) (tupleKind_room_in1 (A := X.A.in1) (by show X.A.units + 1 + 1 < cLine; omega)) ⟨⟨o, n, ho, hcl, hdn, hdat⟩, by simp [hl], fun j k v e => ?_⟩ ⟨by simp, fun i key v e => ?_⟩ (fun h' hk x hx => ?_) (by rw [List.length_map, hl]; exact hz) fun h' tk hd' hk => ?_
  · rw [List.getElem?_map] at e
    obtain ⟨p, hp1, hp2⟩ := Option.map_eq_some_iff.mp e
    obtain ⟨t, h1, h2⟩ := hps j p hp1
    have h3 : ts.getD j 0 = t := by rw [List.getD_eq_getElem?_getD, h1]; rfl
    cases hp2
    refine ⟨?_, .inl ?_⟩
    · show (ts.map Value.ref).toArray[j]? = some (.ref (ts.getD j 0))
      rw [h3]
      simp [h1]
    · show s.heap.IsTuple (ts.getD j 0) _
      rw [h3]
      exact h2
  · have e : (ps.map fun p => (Value.ref p.2.1, p.2.2))[i]? = some (key, v) := e
    rw [List.getElem?_map] at e
    obtain ⟨p, hp1, hp2⟩ := Option.map_eq_some_iff.mp e
    cases hp2
    exact ⟨p.1, p.2.1, hp1, rfl⟩
  · obtain ⟨h1, ob, items, nn, h2, h3⟩ := hlt x hx
    exact ⟨ob, items, nn, hk _ _ (Nat.ne_of_lt h1) (fun z => nomatch z) h2, h3⟩
  · have hk : ∀ b o, s.heap.get? b = some o → h'.get? b = some o := fun b o e => hk b o (fun z => nomatch z) e
    have ktm : KT H (mergeT [] kvs) (storedAllH [] ps) := kt_merge kt .nil
    obtain ⟨od, es, ep, h1, h2, h3, h4, _, h5⟩ := hd'
    have hm : (s.heap.objs.size == sysModules) = false := beq_eq_false_iff_ne.mpr (Nat.ne_of_gt I.big)
    have len : ∀ (ps xs : List (List Key × Addr × Value)), (storedAllH xs ps).length ≤ xs.length + ps.length := by
      intro ps
      induction ps with
      | nil => intro xs; exact Nat.le_refl _
      | cons p ps ih =>
        intro xs
        have z1 := ih (storedH xs p.1 p.2.1 p.2.2)
        have z2 := storedH_length xs p.1 p.2.1 p.2.2
        rw [List.length_cons]
        show (storedAllH (storedH xs p.1 p.2.1 p.2.2) ps).length ≤ _
        omega
    have hlen : (mergeT [] kvs).length ≤ sizeLine := by
      rw [Paired.length ktm]
      have := len ps []
      rw [List.length_nil, Nat.zero_add, hl] at this
      omega
    have hn : H s.heap.objs.size = none := I.hok.fresh (Nat.le_refl _)
    refine ⟨.ref s.heap.objs.size, upd H s.heap.objs.size (.dT (mergeT [] kvs)), I.laid (t' := tk) hk (Nat.le_refl _) (show ObjOk X.prog X.w _ _ _ (.dT (mergeT [] kvs)) from ⟨hlen, hm, storedAllH [] ps, ktm.keeps fun b ys e => ?_, od, es, ep, h1, h2, h3, h4, h5⟩), rfl, q _ hn⟩
    rw [upd_ne (ne_of_none e hn)]
    exact e
/-- a pair whose first is a tuple of keys -/
def pairD : D → Option (List Key × D)
  | .tup [.tup ks, v] => (keysD ks).map fun k => (k, v)
  | _ => none
def pairsD : List D → Option (List (List Key × D))
  | [] => some []
  | d :: ds => (pairD d).bind fun p => (pairsD ds).map fun ps => p :: ps
theorem pairD_at {K : PySem.W.Frag} {m : Ad} {F : Hp} {h : AH} {H : Hp} (r : Rel K m F h H) {d : D} {v : V} {p : List Key × D} (hd : HasD K m F d v) (e : pairD d = some p) : ∃ t w, v = .ref t ∧ (∃ b, H t = some (.tup [.ref b, w]) ∧ H b = some (.tup (p.1.map kV))) ∧ HasD K m F p.2 w := by
  unfold pairD at e
  split at e
  · obtain ⟨k, e1, rfl⟩ := Option.map_eq_some_iff.mp e
    cases hd with
    | tup hf hs =>
      cases hs with
      | cons a t =>
        cases t with
        | cons c t =>
          cases t
          cases a with
          | tup hf2 hs2 =>
            refine ⟨_, _, rfl, ⟨_, r.sub _ _ hf, ?_⟩, c⟩
            rw [r.sub _ _ hf2, keysD_eq e1 hs2]
  · cases e
theorem pairsD_at {K : PySem.W.Frag} {m : Ad} {F : Hp} {h : AH} {H : Hp} (r : Rel K m F h H) : ∀ {ds : List D} {vs : List V} {ps : List (List Key × D)}, HasDs K m F ds vs → pairsD ds = some ps → ∃ ts kvs, vs = ts.map V.ref ∧ PairT H ts kvs ∧ HasTs K m F ps kvs
  | _, _, ps, .nil, e => by
    cases e
    exact ⟨[], [], rfl, .nil, .nil⟩
  | _, _, ps, .cons a t, e => by
    unfold pairsD at e
    obtain ⟨p, e1, e2⟩ := Option.bind_eq_some_iff.mp e
    obtain ⟨qs, e3, rfl⟩ := Option.map_eq_some_iff.mp e2
    obtain ⟨t1, w, rfl, h1, h2⟩ := pairD_at r a e1
    obtain ⟨ts, kvs, rfl, h3, h4⟩ := pairsD_at r t e3
    exact ⟨t1 :: ts, (p.1, w) :: kvs, rfl, .cons h1 h3, .cons h2 h4⟩
/-- a new dict, a cell where b says so -/
def mkT (b : Bool) (xs : List (List Key × D)) (h : AH) : Res D := if b = true then .ok (.ref h.length) (h ++ [.dT xs]) else .ok (.dT xs) h
theorem post.mkT {K : PySem.W.Frag} {W : Wi} {m : Ad} {F : Hp} {h : AH} {H : Hp} {b : Bool} {xs : List (List Key × D)} {vs : List (List Key × V)} {Q : VK} (q : post K W (HasD K) m F H (mkT b xs h) Q) (r : Rel K m F h H) (hs : HasTs K m F xs vs) :
    ∀ p, H p = none → Q (.ref p) (upd H p (.dT vs)) := by
  unfold DL.mkT at q
  cases b with
  | true => exact post.newC q r (c := .dT xs) hs
  | false =>
    intro p hp
    obtain ⟨r', e⟩ := r.frozen (o := .dT vs) hp
    exact q m _ _ _ e r' (.dT (.inl upd_same) (HasTs.ext e hs))
def gDictT (b : Bool) : ML := fun ds h => match ds with
  | [d] => match (listAt d h).bind pairsD with
    | some ps => mkT b (mergeD [] ps) h
    | none => .bad
  | _ => .bad
theorem sem_dictT {K : PySem.W.Frag} {W : Wi} {b : Bool} : SemL K W (rDictT K) (gDictT b) := fun m F h H xs ds Q r hd q => by
  unfold gDictT at q
  split at q
  · obtain ⟨x, rfl, hx⟩ := hd.one
    split at q
    · rename_i ps e
      obtain ⟨ys, e1, e2⟩ := Option.bind_eq_some_iff.mp e
      obtain ⟨a, vs, rfl, ha, h1⟩ := listAt_at r hx e1
      obtain ⟨ts, kvs, rfl, h2, h3⟩ := pairsD_at r h1 e2
      exact ⟨a, ts, kvs, rfl, ha, h2, q.mkT r (h3.merge .nil)⟩
    · exact q.elim
  · exact q.elim
end DL

namespace DL
open PySem PySem.Spec PyProof.Rows L2

/-! ### what a value's data needs -/
def Exact : HO → Prop
  | .lst _ => True
  | .tup _ => True
  | _ => False
structure Wk (m : Ad) (F : Hp) (m' : Ad) (F' : Hp) : Prop where
  pre : ∀ (n : Nat) (a : Addr), m[n]? = some a → m'[n]? = some a
  fz : ∀ (a : Addr) (u : HO), Seen u → Rd F a u → Rd F' a u
  ls : ∀ (a : Addr) (o : HO), Exact o → F a = some o → F' a = some o
theorem SqL.wk {K : PySem.W.Frag} {m m' : Ad} {F F' : Hp} {a : Addr} {xs : List V} (e : Wk m F m' F') (h : SqL K F a xs) : SqL K F' a xs := by
  rcases h with h | h
  · exact .inl (e.fz _ _ trivial h)
  · exact .inr h
mutual
theorem HasD.wk {K : PySem.W.Frag} {m m' : Ad} {F F' : Hp} (e : Wk m F m' F') : ∀ {d : D} {v : V}, HasD K m F d v → HasD K m' F' d v
  | _, _, .non => .non
  | _, _, .bl b => .bl b
  | _, _, .int i => .int i
  | _, _, .str x => .str x
  | _, _, .tup h hs => .tup (e.ls _ _ trivial h) (HasDs.wk e hs)
  | _, _, .lst h hs => .lst (e.ls _ _ trivial h) (HasDs.wk e hs)
  | _, _, .lsk h hs => .lsk (SqL.wk e h) (HasDs.wk e hs)
  | _, _, .dK h hs => .dK (e.fz _ _ trivial h) (HasKs.wk e hs)
  | _, _, .dT h hs => .dT (e.fz _ _ trivial h) (HasTs.wk e hs)
  | _, _, .ref h => .ref (e.pre _ _ h)
theorem HasDs.wk {K : PySem.W.Frag} {m m' : Ad} {F F' : Hp} (e : Wk m F m' F') : ∀ {d : List D} {v : List V}, HasDs K m F d v → HasDs K m' F' d v
  | _, _, .nil => .nil
  | _, _, .cons h hs => .cons (HasD.wk e h) (HasDs.wk e hs)
theorem HasKs.wk {K : PySem.W.Frag} {m m' : Ad} {F F' : Hp} (e : Wk m F m' F') : ∀ {d : List (Key × D)} {v : List (Key × V)}, HasKs K m F d v → HasKs K m' F' d v
  | _, _, .nil => .nil
  | _, _, .cons h hs => .cons (HasD.wk e h) (HasKs.wk e hs)
theorem HasTs.wk {K : PySem.W.Frag} {m m' : Ad} {F F' : Hp} (e : Wk m F m' F') : ∀ {d : List (List Key × D)} {v : List (List Key × V)}, HasTs K m F d v → HasTs K m' F' d v
  | _, _, .nil => .nil
  | _, _, .cons h hs => .cons (HasD.wk e h) (HasTs.wk e hs)
end
theorem CellOk.wk {K : PySem.W.Frag} {m m' : Ad} {F F' : Hp} (e : Wk m F m' F') {c : Cell} {o : HO} (h : CellOk K m F c o) : CellOk K m' F' c o := by
  cases c <;> cases o <;> first | exact HasDs.wk e h | exact HasKs.wk e h | exact HasTs.wk e h | exact False.elim h
theorem EnvR.wk {K : PySem.W.Frag} {m m' : Ad} {F F' : Hp} {s : Sl} {σ : L2.St} (e : Wk m F m' F') (h : EnvR K m F s σ) : EnvR K m' F' s σ :=
  ⟨h.len, fun i d q => let ⟨v, a, b⟩ := h.at_ i d q; ⟨v, a, b.wk e⟩⟩

/-! ### a dict is locked while it is walked -/
section
variable {K : PySem.W.Frag} {m m' : Ad} {F F' H H' : Hp} {h h' : AH} {a : Addr} {ws : List (List Key × V)} {od : Obj}
theorem lock_in (r : Rel K m F h H) (hF : F a = some (.dT ws)) (od : Obj) : Rel K m (upd F a (.frz od (.dT ws))) h (upd H a (.frz od (.dT ws))) ∧ Ext m F H m (upd F a (.frz od (.dT ws))) (upd H a (.frz od (.dT ws))) := by
  have ne : ∀ {b : Addr} {o : HO}, F b = some o → o ≠ .dT ws → b ≠ a := fun e k z => by
    subst z
    rw [hF] at e
    cases e
    exact k rfl
  have nn : ∀ {b : Addr}, F b = none → b ≠ a := fun e z => by
    subst z
    rw [hF] at e
    cases e
  have e : Ext m F H m (upd F a (.frz od (.dT ws))) (upd H a (.frz od (.dT ws))) := by
    refine ⟨fun _ _ q => q, fun b u su q => ?_, fun b o so q => ?_, fun b o _ q q1 q2 => ⟨?_, q1, ?_⟩⟩
    · by_cases hb : b = a
      · subst hb
        rcases q with q | ⟨o, q⟩
        · rw [hF] at q
          cases q
          exact .inr ⟨od, upd_same⟩
        · rw [hF] at q
          cases q
      · rcases q with q | ⟨o, q⟩
        · exact .inl (by rw [upd_ne hb]; exact q)
        · exact .inr ⟨o, by rw [upd_ne hb]; exact q⟩
    · rw [upd_ne (ne q fun z => by rw [z] at so; exact so)]
      exact q
    · rw [upd_ne (nn q2)]
      exact q
    · rw [upd_ne (nn q2)]
      exact q2
  refine ⟨⟨fun b o q => ?_, r.len, r.nodup, fun n b c hm hc => ?_⟩, e⟩
  · by_cases hb : b = a
    · subst hb
      rw [upd_same] at q ⊢
      exact q
    · rw [upd_ne hb] at q ⊢
      exact r.sub _ _ q
  · obtain ⟨f, o, ho, ok⟩ := r.cell n b c hm hc
    exact ⟨by rw [upd_ne (nn f)]; exact f, o, by rw [upd_ne (nn f)]; exact ho, ok.ext e⟩
theorem lock_out (hF : F a = some (.dT ws)) (e : Ext m (upd F a (.frz od (.dT ws))) (upd H a (.frz od (.dT ws))) m' F' H') (r : Rel K m' F' h' H') :
    H' a = some (.frz od (.dT ws)) ∧ Ext m F H m' (upd F' a (.dT ws)) (upd H' a (.dT ws)) ∧ Rel K m' (upd F' a (.dT ws)) h' (upd H' a (.dT ws)) ∧ Wk m' F' m' (upd F' a (.dT ws)) := by
  have hF' : F' a = some (.frz od (.dT ws)) := e.ls a _ trivial upd_same
  have nn : ∀ {b : Addr}, F b = none → b ≠ a := fun y z => by
    subst z
    rw [hF] at y
    cases y
  have nn' : ∀ {b : Addr}, F' b = none → b ≠ a := fun y z => by
    subst z
    rw [hF'] at y
    cases y
  have un : ∀ {b : Addr} {u : HO}, Seen u → Rd F' b u → Rd (upd F' a (.dT ws)) b u := fun {b u} su q => by
    by_cases hb : b = a
    · subst hb
      rcases q with q | ⟨o, q⟩
      · rw [hF'] at q
        cases q
        exact su.elim
      · rw [hF'] at q
        cases q
        exact .inl upd_same
    · rcases q with q | ⟨o, q⟩
      · exact .inl (by rw [upd_ne hb]; exact q)
      · exact .inr ⟨o, by rw [upd_ne hb]; exact q⟩
  have wk : Wk m' F' m' (upd F' a (.dT ws)) := ⟨fun _ _ q => q, fun b u su q => un su q, fun b o so q => by
    rw [upd_ne fun z => ?_]
    · exact q
    · subst z
      rw [hF'] at q
      cases q
      exact so.elim⟩
  refine ⟨r.sub _ _ hF', ⟨e.pre, fun b u su q => un su (e.fz b u su ?_), fun b o so q => ?_, fun b o lo q q1 q2 => ?_⟩, ⟨fun b o q => ?_, r.len, r.nodup, fun n b c hm hc => ?_⟩, wk⟩
  · by_cases hb : b = a
    · subst hb
      rcases q with q | ⟨o, q⟩
      · rw [hF] at q
        cases q
        exact .inr ⟨od, upd_same⟩
      · rw [hF] at q
        cases q
    · rcases q with q | ⟨o, q⟩
      · exact .inl (by rw [upd_ne hb]; exact q)
      · exact .inr ⟨o, by rw [upd_ne hb]; exact q⟩
  · have hb : b ≠ a := fun z => by
      subst z
      rw [hF] at q
      cases q
      exact so.elim
    rw [upd_ne hb]
    exact e.ls b o so (by rw [upd_ne hb]; exact q)
  · have hb := nn q2
    obtain ⟨h1, h2, h3⟩ := e.fr b o lo (by rw [upd_ne hb]; exact q) q1 (by rw [upd_ne hb]; exact q2)
    exact ⟨by rw [upd_ne hb]; exact h1, h2, by rw [upd_ne hb]; exact h3⟩
  · by_cases hb : b = a
    · subst hb
      rw [upd_same] at q ⊢
      exact q
    · rw [upd_ne hb] at q ⊢
      exact r.sub _ _ q
  · obtain ⟨f, o, ho, ok⟩ := r.cell n b c hm hc
    exact ⟨by rw [upd_ne (nn' f)]; exact f, o, by rw [upd_ne (nn' f)]; exact ho, ok.wk wk⟩
/-- an existing tuple becomes known -/
theorem adoptT {vs : List V} (r : Rel K m F h H) (hq : H a = some (.tup vs)) : Rel K m (upd F a (.tup vs)) h H ∧ Ext m F H m (upd F a (.tup vs)) H := by
  have same : ∀ {b : Addr} {o : HO}, F b = some o → (upd F a (.tup vs)) b = some o := fun {b o} q => by
    by_cases hb : b = a
    · subst hb
      have := r.sub _ _ q
      rw [hq] at this
      rw [upd_same]
      exact this
    · rw [upd_ne hb]
      exact q
  have e : Ext m F H m (upd F a (.tup vs)) H := ⟨fun _ _ q => q, fun b u su q => by
    rcases q with q | ⟨o, q⟩
    · exact .inl (same q)
    · exact .inr ⟨o, same q⟩, fun b o _ q => same q, fun b o lo q q1 q2 => ⟨q, q1, by
      rw [upd_ne fun z => ?_]
      · exact q2
      · subst z
        rw [hq] at q
        cases q
        exact lo.elim⟩⟩
  refine ⟨⟨fun b o q => ?_, r.len, r.nodup, fun n b c hm hc => ?_⟩, e⟩
  · by_cases hb : b = a
    · subst hb
      rw [upd_same] at q
      rw [hq]
      exact q
    · rw [upd_ne hb] at q
      exact r.sub _ _ q
  · obtain ⟨f, o, ho, ok⟩ := r.cell n b c hm hc
    refine ⟨?_, o, ho, ok.ext e⟩
    rw [upd_ne fun z => ?_]
    · exact f
    · subst z
      rw [hq] at ho
      cases ho
      cases c <;> exact ok.elim
end
def keyTup (p : List Key × D) : D := .tup (p.1.map keyD)
theorem itr_keysT {K : PySem.W.Frag} {m : Ad} {F : Hp} {a : Addr} {od : Obj} {kvs : List (List Key × D)} {ws : List (List Key × V)} (hF : F a = some (.frz od (.dT ws))) (ht : HasTs K m F kvs ws) : ItR K (Itkt a od ws) ⟨kvs.map keyTup, []⟩ m F where
  go := fun i m' F' h' H' e' r' ok hi => ⟨r'.sub _ _ (e'.ls a _ trivial hF), by
    have : i < (kvs.map keyTup).length := hi
    rw [List.length_map, ht.length] at this
    exact this⟩
  yld := fun i m' F' h' H' v H2 d e' r' ok y hd => by
    obtain ⟨rfl, k, w, q, h1, rfl, h2⟩ := y
    have hd : (kvs.map keyTup)[i]? = some d := hd
    rw [List.getElem?_map] at hd
    obtain ⟨p, hp, rfl⟩ := Option.map_eq_some_iff.mp hd
    obtain ⟨v', hv', _⟩ := ht.get (i := i) (k := p.1) (d := p.2) hp
    rw [h1] at hv'
    cases hv'
    obtain ⟨r2, e2⟩ := adoptT r' h2
    exact ⟨_, e2, r2, .tup upd_same (has_keys _)⟩
  stop := fun i m' F' h' H' e' r' ok hi _ => ⟨r'.sub _ _ (e'.ls a _ trivial hF), by
    have : (kvs.map keyTup).length ≤ i := hi
    rw [List.length_map, ht.length] at this
    exact this⟩
/-- the keys of the dict in a slot -/
def iKT (i : Nat) : MI := fun s h => match s[i]? with
  | some (some (.dT kvs)) => .ok ⟨kvs.map keyTup, []⟩ h
  | _ => .bad
section
variable {X : Cx}
/-- the loop, its iterator known -/
theorem for_run {tg' : TG} {tb : TS} {g : MG} {fb : MS} {ts : List Nat} {m1 : Ad} {F1 H1 : Hp} {h1 : AH} {s : Sl} {σ : L2.St} {x : Src} {J : It} {Z : Ends} {W : Wi}
    (i2 : ∀ m F h H s σ d v s' Q, Rel X.K m F h H → EnvR X.K m F s σ → HasD X.K m F d v → g d s = some s' → (∀ σ', EnvR X.K m F s' σ' → (∀ vs, (∀ i ∈ ts, i ∈ vs) → wipe σ' vs = wipe σ vs) → Q σ' H) → tg' v σ H Q)
    (i3 : ∀ m F h H s σ Z, Rel X.K m F h H → EnvR X.K m F s σ → postS X.K W m F H (fb s h) Z → tb Z σ H)
    (r1 : Rel X.K m1 F1 h1 H1) (E1 : EnvR X.K m1 F1 s σ) (hJ : ItR X.K J x m1 F1) (q : postS X.K W m1 F1 H1 (forL x.chk g fb x.items s h1) Z) :
    ∃ W : Nat → Nat → L2.St → Hp → Prop, (∃ m, W 0 m σ H1) ∧ ∀ i m σ H, W i m σ H →
  (J.stop i H ∧ Z.nx σ H) ∨ (J.go i H ∧ ∃ N : L2.St → Hp → Prop, (∀ σ' H', N σ' H' → ∃ m', m' < m ∧ W (i + 1) m' σ' H') ∧ ∀ x H', J.yld i H x H' → tg' x σ H' fun σ2 H2 => tb { Z with nx := N, ct := N, bk := Z.nx } σ2 H2) := by
  refine ⟨fun i mm τ G => ∃ m' F' h' s', Ext m1 F1 H1 m' F' G ∧ Rel X.K m' F' h' G ∧ EnvR X.K m' F' s' τ ∧ i ≤ x.items.length ∧ mm = x.items.length - i ∧ postS X.K W m' F' G (forL x.chk g fb (x.items.drop i) s' h') Z,
    ⟨_, m1, F1, h1, s, .refl, r1, E1, Nat.zero_le _, rfl, q⟩, ?_⟩
  rintro i mm τ G ⟨m', F', h', s', e', r', E', hi, rfl, q⟩
  rcases Nat.lt_or_ge i x.items.length with hlt | hge
  · have hd : x.items[i]? = some x.items[i] := List.getElem?_eq_getElem hlt
    rw [List.drop_eq_getElem_cons hlt] at q
    unfold forL at q
    split at q
    · rename_i ok
      refine .inr ⟨hJ.go i m' F' h' G e'.drop r' ok hlt, fun τ' G' => ∃ mm', mm' < x.items.length - i ∧ ∃ m2 F2 h2 s2, Ext m1 F1 H1 m2 F2 G' ∧ Rel X.K m2 F2 h2 G' ∧ EnvR X.K m2 F2 s2 τ' ∧ i + 1 ≤ x.items.length ∧ mm' = x.items.length - (i + 1) ∧ postS X.K W m2 F2 G' (forL x.chk g fb (x.items.drop (i + 1)) s2 h2) Z,
        fun _ _ z => z, fun v G2 hy => ?_⟩
      obtain ⟨F2, e2, r2, hv⟩ := hJ.yld i m' F' h' G v G2 _ e'.drop r' ok hy hd
      split at q
      · rename_i s1 hs1
        refine i2 m' F2 h' G2 s' τ _ v s1 _ r2 (E'.ext e2) hv hs1 fun τ1 Eτ _ => ?_
        refine i3 m' F2 h' G2 s1 τ1 _ r2 Eτ ?_
        have q := q.ext e2
        cases hb : fb s1 h' with
        | nx s2 h2 =>
          rw [hb] at q
          exact fun m3 F3 H3 σ3 e3 r3 E3 => ⟨_, by omega, m3, F3, h2, s2, (e'.trans e2).trans e3, r3, E3, hlt, rfl, q.ext e3⟩
        | ct s2 h2 =>
          rw [hb] at q
          exact fun m3 F3 H3 σ3 e3 r3 E3 => ⟨_, by omega, m3, F3, h2, s2, (e'.trans e2).trans e3, r3, E3, hlt, rfl, q.ext e3⟩
        | bk s2 h2 => rw [hb] at q; exact q
        | rt d h2 => rw [hb] at q; exact q
        | exc x h2 => rw [hb] at q; exact q
        | bad => rw [hb] at q; exact q
      · exact q.elim
    · exact q.elim
  · rw [List.drop_eq_nil_of_le hge] at q
    unfold forL at q
    split at q
    · rename_i ok
      exact .inl ⟨hJ.stop i m' F' h' G e'.drop r' ok hge hi, q m' F' G τ .refl r' E'⟩
    · exact q.elim
def lockZ (a : Addr) (od : Obj) (ws : List (List Key × V)) (Z : Ends) : Ends := ⟨fun σ' H' => H' a = some (.frz od (.dT ws)) ∧ Z.nx σ' (upd H' a (.dT ws)), fun v H' => H' a = some (.frz od (.dT ws)) ∧ Z.rt v (upd H' a (.dT ws)), fun σ' H' => H' a = some (.frz od (.dT ws)) ∧ Z.bk σ' (upd H' a (.dT ws)), fun σ' H' => H' a = some (.frz od (.dT ws)) ∧ Z.ct σ' (upd H' a (.dT ws))⟩
theorem postS_lock {K : PySem.W.Frag} {m : Ad} {F H : Hp} {r : Fl} {Z : Ends} {a : Addr} {ws : List (List Key × V)} {od : Obj} (hF : F a = some (.dT ws)) (q : postS K WF m F H r Z) : postS K WF m (upd F a (.frz od (.dT ws))) (upd H a (.frz od (.dT ws))) r (lockZ a od ws Z) := by
  cases r with
  | nx s h =>
    intro m' F' H' σ' e r E
    obtain ⟨h1, h2, h3, h4⟩ := lock_out hF e r
    exact ⟨h1, q m' _ _ σ' h2 h3 (E.wk h4)⟩
  | rt d h =>
    intro m' F' H' v e r hd
    obtain ⟨h1, h2, h3, h4⟩ := lock_out hF e r
    exact ⟨h1, q m' _ _ v h2 h3 (hd.wk h4)⟩
  | bk s h =>
    intro m' F' H' σ' e r E
    obtain ⟨h1, h2, h3, h4⟩ := lock_out hF e r
    exact ⟨h1, q m' _ _ σ' h2 h3 (E.wk h4)⟩
  | ct s h =>
    intro m' F' H' σ' e r E
    obtain ⟨h1, h2, h3, h4⟩ := lock_out hF e r
    exact ⟨h1, q m' _ _ σ' h2 h3 (E.wk h4)⟩
  | exc x h =>
    intro m' F' H' e r
    obtain ⟨h1, h2, h3, h4⟩ := lock_out hF e r
    exact False.elim (q m' _ _ h2 h3)
  | bad => exact q
theorem post_lock {K : PySem.W.Frag} {m : Ad} {F H : Hp} {r : Res D} {Q : VK} {a : Addr} {ws : List (List Key × V)} {od : Obj} (hF : F a = some (.dT ws)) (q : post K WF (HasD K) m F H r Q) : post K WF (HasD K) m (upd F a (.frz od (.dT ws))) (upd H a (.frz od (.dT ws))) r (fun v H' => H' a = some (.frz od (.dT ws)) ∧ Q v (upd H' a (.dT ws))) := by
  cases r with
  | ok d h =>
    intro m' F' H' v e r hd
    obtain ⟨h1, h2, h3, h4⟩ := lock_out hF e r
    exact ⟨h1, q m' _ _ v h2 h3 (hd.wk h4)⟩
  | exc x h =>
    intro m' F' H' e r
    obtain ⟨h1, h2, h3, h4⟩ := lock_out hF e r
    exact False.elim (q m' _ _ h2 h3)
  | bad => exact q
/-- for a, b in name, the name's value a dict with tuple keys -/
theorem ds_forK (i : Nat) {x : Str} {tg : Expr} {body : List Stmt} {g : MG} {fb : MS} {ts : List Nat} {pos p : Pos} (hp : PassesOwn (model X.prog X.w) X.A X.env X.xe) (hc : X.calm = true) (h2 : DG X tg g ts) (h3 : DSs X WF body fb)
    (hN : X.N[i]? = some x := by rfl) (hv : Vis X.env.scope x := by first | exact Or.inl rfl | exact Or.inr (Or.inl rfl) | exact Or.inr (Or.inr rfl)) (hd : (x == ("__debug__" : Str)) = false := by decide) (hcd : (x == ("__classdict__" : Str)) = false := by decide)
    (hs : ∀ y, foldedSetIterable (.Name x p) X.env y = pure y := by exact fun _ => rfl) : DS X WF (.For tg (.Name x p) body [] pos) (sFor (iKT i) g fb) := by
  obtain ⟨tg', p2, i2⟩ := h2.ex
  obtain ⟨tb, p3, i3⟩ := h3.ex
  have pf := ps_for hp hc (pi_keys (pe_var (pos := p) hN hv hd hcd)) p2 p3 hs (pos := pos)
  refine ⟨fun Z σ H => tFor (iKeys (tVar i)) tg' tb Z σ H ∨ tLock (tFor (iKeys (tVar i)) tg' tb) Z σ H, ⟨fun pins s σ H D I h => h.elim (pf.run pins s σ H D I) ((ps_lock pf).run pins s σ H D I)⟩, fun m F h H s σ Z r E q => ?_⟩
  unfold sFor iKT at q
  split at q
  · rename_i kvs hsl
    obtain ⟨v, hv, hd⟩ := E.at_ i _ hsl
    cases hd with
    | dT hf ht =>
      rename_i a ws
      rcases hf with hf | ⟨od, hf⟩
      · refine .inr ⟨a, .dT ws, r.sub _ _ hf, trivial, fun od => ?_⟩
        obtain ⟨r1, e1⟩ := lock_in r hf od
        exact ⟨.ref a, hv, a, od, rfl, .inr ⟨ws, upd_same, for_run i2 i3 r1 (E.ext e1) (itr_keysT upd_same (HasTs.ext e1 ht)) (postS_lock (od := od) hf q)⟩⟩
      · exact .inl ⟨.ref a, hv, a, od, rfl, .inr ⟨ws, r.sub _ _ hf, for_run i2 i3 r E (itr_keysT hf ht) q⟩⟩
  · exact q.elim
/-- [elt for tg in name if c] -/
theorem de_lcK (bb : Bool) (i : Nat) {x : Str} {elt tg : Expr} {ifs : List Expr} {scope : Scope} {own : List (Str × Nat)} {pos p : Pos} {g : MG} {ts : List Nat} {c : MT} {f : ME} (hc : X.calm = true) (hN : X.N.Nodup) (ok : blkC X.N X.env.scope scope own = true)
    (hg : ∀ (s : Shared) (H : Hp) (C : Addr) (cl : List (Str × Addr)) (fp : List Addr), DG (X.blk s H scope (compEnvC scope cl C X.env) fp) tg g ts) (ht : ∀ (s : Shared) (H : Hp) (C : Addr) (cl : List (Str × Addr)) (fp : List Addr), DTs (X.blk s H scope (compEnvC scope cl C X.env) fp) ifs c)
    (he : ∀ (s : Shared) (H : Hp) (C : Addr) (cl : List (Str × Addr)) (fp : List Addr), DE (X.blk s H scope (compEnvC scope cl C X.env) fp) WF elt f) (hNi : X.N[i]? = some x := by rfl) (hts : (ts.all fun i => (own.map (·.2)).contains i) = true := by rfl)
    (hv : Vis X.env.scope x := by first | exact Or.inl rfl | exact Or.inr (Or.inl rfl) | exact Or.inr (Or.inr rfl)) (hd : (x == ("__debug__" : Str)) = false := by decide) (hcd : (x == ("__classdict__" : Str)) = false := by decide) (hs : ∀ y, foldedSetIterable (.Name x p) X.env y = pure y := by exact fun _ => rfl) :
    DE X WF (.ListComp elt [⟨tg, .Name x p, ifs, 0⟩] scope pos) (eLc bb (iKT i) g c f (own.map (·.2))) := by
  have pl := pe_lc (pos := pos) (g := cG X.K g ts) (tt := cT X.K c) (te := cE X.K WF f) hc hN (pi_keys (pe_var (pos := p) hNi hv hd hcd)) (blkOk_by ok) (fun s H C cl fp => (hg s H C cl fp).pg) (fun s H C cl fp => (ht s H C cl fp).pts) (fun s H C cl fp => (he s H C cl fp).pe) hs
  refine ⟨fun σ H Q => tLc (iKeys (tVar i)) (cG X.K g ts) (cT X.K c) (cE X.K WF f) (own.map (·.2)) σ H Q ∨ tLockE (tLc (iKeys (tVar i)) (cG X.K g ts) (cT X.K c) (cE X.K WF f) (own.map (·.2))) σ H Q, ⟨fun pins s σ H D I h => h.elim (pl.run pins s σ H D I) ((pe_lock pl).run pins s σ H D I)⟩, fun m F h H s σ Q r E q => ?_⟩
  have hts' : ∀ j ∈ ts, j ∈ own.map (·.2) := fun j hj => by
    have := List.all_eq_true.mp hts j hj
    simpa using this
  have core : ∀ (m1 : Ad) (F1 H1 : Hp) (ws : List (List Key × V)) (a : Addr) (od : Obj) (kvs : List (List Key × D)) (Q : VK), Rel X.K m1 F1 h H1 → EnvR X.K m1 F1 s σ → F1 a = some (.frz od (.dT ws)) → HasTs X.K m1 F1 kvs ws →
      post X.K WF (HasD X.K) m1 F1 H1 ((lcL [] g c f (wpD s (own.map (·.2))) (kvs.map keyTup) [] h).bind fun ys h => mkL bb ys h) Q → ∀ p, H1 p = none → ∃ W : Nat → Nat → Hp → Prop, (∃ m, W 0 m (upd H1 p (.lst []))) ∧ ∀ i m H, W i m H →
      ((Itkt a od ws).stop i H ∧ Q (.ref p) H) ∨ ((Itkt a od ws).go i H ∧ ∃ Nx : Hp → Prop, (∀ H', Nx H' → ∃ m', m' < m ∧ W (i + 1) m' H') ∧ ∀ x H', (Itkt a od ws).yld i H x H' → cG X.K g ts x (wipe σ (own.map (·.2))) H' fun σ2 H2 => wipe σ2 (own.map (·.2)) = wipe σ (own.map (·.2)) ∧ cT X.K c σ2 H2 fun b H3 =>
        if b = true then cE X.K WF f σ2 H3 fun y H4 => ∃ acc, H4 p = some (.lst acc) ∧ acc.length < sizeLine ∧ Nx (upd H4 p (.lst (acc ++ [y]))) else Nx H3) := by
    intro m1 F1 H1 ws a od kvs Q r1 E1 hF htt q p hp
    cases hfin : lcL [] g c f (wpD s (own.map (·.2))) (kvs.map keyTup) [] h with
    | bad => rw [hfin] at q; exact q.elim
    | exc z h2 => exact absurd hfin (lcL_noexc _ _ _ _ _)
    | ok ys hE =>
      rw [hfin] at q
      have nm : p ∉ m1 := fun hm => by
        obtain ⟨n, hn⟩ := List.mem_iff_getElem?.mp hm
        obtain ⟨o', ho, _⟩ := r1.there hn
        rw [hp] at ho
        cases ho
      have k0 : Rel X.K m1 F1 h (upd H1 p (.lst [])) := ⟨fun a o z => by rw [upd_ne (ne_of_none (r1.sub _ _ z) hp)]; exact r1.sub _ _ z, r1.len, r1.nodup, fun n a c' hm hc => by
        obtain ⟨f', ob, ho, ok⟩ := r1.cell n a c' hm hc
        exact ⟨f', ob, by rw [upd_ne (ne_of_none ho hp)]; exact ho, ok⟩⟩
      have mk0 : Mk X.K m1 F1 (upd H1 p (.lst [])) p [] := ⟨⟨[], upd_same, .nil⟩, nm, F_none r1 hp⟩
      have e0 : Ext m1 F1 H1 m1 F1 (upd H1 p (.lst [])) := ⟨fun _ _ z => z, fun _ _ _ z => z, fun _ _ _ z => z, fun a o k z z1 z2 => ⟨by rw [upd_ne (ne_of_none z hp)]; exact z, z1, z2⟩⟩
      exact lc_core1 (x := ⟨kvs.map keyTup, []⟩) (Nx := fun G => Q (.ref p) G) hts' (fun m F h H s σ d v s' Q r E hd e k => ⟨m, F, h, s, d, s', r, E, hd, e, k⟩) (fun m F h H s σ Q r E q => ⟨m, F, h, s, r, E, q⟩) (fun m F h H s σ Q r E q => ⟨m, F, h, s, r, E, q⟩) hp e0 k0 mk0 E1 (itr_keysT hF htt) hfin
        fun m' F' G e' n' r' k' => k'.done r' hp e' q
  unfold eLc iKT at q
  split at q
  · rename_i kvs hsl
    obtain ⟨v, hv, hd⟩ := E.at_ i _ hsl
    cases hd with
    | dT hf htt =>
      rename_i a ws
      rcases hf with hf | ⟨od, hf⟩
      · refine .inr ⟨a, .dT ws, r.sub _ _ hf, trivial, fun od => ?_⟩
        obtain ⟨r1, e1⟩ := lock_in r hf od
        exact ⟨.ref a, hv, a, od, rfl, .inr ⟨ws, upd_same, core m _ _ ws a od kvs _ r1 (E.ext e1) upd_same (HasTs.ext e1 htt) (post_lock (od := od) hf q)⟩⟩
      · exact .inl ⟨.ref a, hv, a, od, rfl, .inr ⟨ws, r.sub _ _ hf, core m F H ws a od kvs _ r E hf htt q⟩⟩
  · exact q.elim
end
end DL

namespace DL
open PySem PySem.Spec PyProof.Rows L2

/-! ### sorted(d.items()), d a dict with tuple keys and int values -/
abbrev KI := List Key × Int
def encKI (b : KI) : D := .tup [.tup (b.1.map keyD), .int b.2]
abbrev leKI : KI → KI → Bool := PySem.W.dataLe false fun b => (encKI b).py
def tSortIt (K : PySem.W.Frag) (to : TE) : TE := fun σ H Q => to σ H fun x H1 => ∃ (a : Addr) (bs : List KI), x = .ref a ∧ Rd H1 a (.dT (bs.map fun b => (b.1, V.int b.2))) ∧ PySem.W.AllAlike (bs.map fun b => (encKI b).py) ∧ bs.length ≤ sizeLine ∧
  ∀ (H' : Hp) (l : Addr) (qs : List Addr), (∀ b o, H1 b = some o → H' b = some o) → H1 l = none → H' l = some (.lst (qs.map V.ref)) →
    Paired (fun q (b : KI) => ∃ kb, H' q = some (.tup [.ref kb, .int b.2]) ∧ H' kb = some (.tup (b.1.map kV))) qs (bs.mergeSort leKI) → Q (.ref l) H'
theorem key_reads_all {h : Heap} : ∀ {k : List Key} {its : List Value}, Vals (k.map kV) its → ReadsAll h its (D.pys (k.map keyD)) []
  | [], _, .nil => .nil
  | .inl i :: ks, _, .cons a t => by
    obtain ⟨tk, rfl⟩ := a
    exact .cons (.int i tk) (key_reads_all t)
  | .inr x :: ks, _, .cons a t => by
    obtain ⟨tk, rfl⟩ := a
    exact .cons (.str x tk) (key_reads_all t)
theorem each_at {α β : Type} {R : α → β → Prop} : ∀ {as : List α} {bs : List β}, as.length = bs.length → (∀ (j : Nat) (a : α) (b : β), as[j]? = some a → bs[j]? = some b → R a b) → PySem.W.EachIs R as bs
  | [], [], _, _ => .nil
  | [], _ :: _, h, _ => by simp at h
  | _ :: _, [], h, _ => by simp at h
  | a :: as, b :: bs, h, f => .cons (f 0 a b rfl rfl) (each_at (by simpa using h) fun j x y h1 h2 => f (j + 1) x y (by simpa using h1) (by simpa using h2))
section
variable {X : Cx} {o : Expr} {to : TE}
theorem sortitems_run {pins : List (Addr × Obj)} {σ : L2.St} {H : Hp} {s : Shared} {Q : VK} {a p : Addr} {bs : List KI} (I : Inv X pins σ H s) (hc : X.calm = true) (hu : X.A.units + 64 < cLine) (ha : Rd H a (.dT (bs.map fun b => (b.1, V.int b.2)))) (hal : PySem.W.AllAlike (bs.map fun b => (encKI b).py)) (hz : bs.length ≤ sizeLine)
    (hp : s.heap.IsItemsView p a)
    (q : ∀ (H' : Hp) (l : Addr) (qs : List Addr), (∀ b o, H b = some o → H' b = some o) → H l = none → H' l = some (.lst (qs.map V.ref)) →
      Paired (fun q (b : KI) => ∃ kb, H' q = some (.tup [.ref kb, .int b.2]) ∧ H' kb = some (.tup (b.1.map kV))) qs (bs.mergeSort leKI) → Q (.ref l) H') :
    wpAny (model X.prog X.w) X.A (call (.builtin "sorted") [.ref p]) (EP X pins σ Q) X.xe s := by
  obtain ⟨z, hd, xs', rel, od, es, ep, ho, hx, hdat, hes, his, hn⟩ := dt_rd I.hok ha
  have l1 : (bs.map fun b => (b.1, V.int b.2)).length = xs'.length := Paired.length rel
  rw [List.length_map] at l1
  have l2 : es.size = xs'.length := size_of_entries hes
  have hh : X.A.handled = none := I.ok.hd hc
  refine DT.sortedI (es := es) (ep := ep) hh hp ⟨od, ho, hx, hdat⟩ (by omega) fun h' tk as hk hlt hl hG => ?_
  have lab : as.length = bs.length := by omega
  have nd : as.Nodup := List.Pairwise.imp (fun h => Nat.ne_of_lt h) hG.rise
  -- the pairs that were made
  have pr : ∀ (j : Nat) (c : Addr) (b : KI), as[j]? = some c → bs[j]? = some b → ∃ (kq : Addr) (t : Tok), H kq = some (.tup (b.1.map kV)) ∧ h'.get? c = some { cls := .type "tuple", data := .seq #[Value.ref kq, Value.int b.2 t] } := by
    intro j c b hj hb
    obtain ⟨en, he, hg⟩ := hG.pairs j c hj
    rw [entry_at hes j] at he
    obtain ⟨x, hxj, een⟩ := Option.map_eq_some_iff.mp he
    obtain ⟨e0, he0, r1, r2, r3⟩ := DX.pget rel hxj
    rw [List.getElem?_map, hb] at he0
    have he0 : (b.1, V.int b.2) = e0 := Option.some.inj he0
    subst he0
    obtain ⟨t, ht⟩ := r3
    refine ⟨x.2.1, t, r2, ?_⟩
    rw [hg, ← een, ← ht]
    rfl
  have hob : (h'.push { cls := .type "list", data := .seq (as.map Value.ref).toArray }).get? h'.objs.size = some (seqObj "list" (as.map Value.ref).toArray 0) := Heap.get?_push_size _ rfl
  have kb : ∀ b o, s.heap.get? b = some o → (h'.push { cls := .type "list", data := .seq (as.map Value.ref).toArray }).get? b = some o := fun b o e => Heap.get?_push_of_some _ (hk b o e)
  have ne0 : ∀ b o, h'.get? b = some o → b ≠ h'.objs.size := fun b o e => Nat.ne_of_lt (Heap.lt_size e)
  generalize hh2 : h'.push { cls := .type "list", data := .seq (as.map Value.ref).toArray } = h2 at hob kb ⊢
  have ka : ∀ b o, h'.get? b = some o → h2.get? b = some o := fun b o e => by rw [← hh2]; exact Heap.get?_push_of_some _ e
  have each : PySem.W.EachIs (fun v (b : KI) => ∃ (j : Nat) (c : Addr), v = .ref c ∧ as[j]? = some c ∧ bs[j]? = some b) (as.map Value.ref) bs := by
    refine each_at (by rw [List.length_map]; exact lab) fun j v b hj hb => ?_
    rw [List.getElem?_map] at hj
    obtain ⟨c, hc1, rfl⟩ := Option.map_eq_some_iff.mp hj
    exact ⟨j, c, rfl, hc1, hb⟩
  have er : PySem.W.EachIs (fun v (b : KI) => ∃ as', Reads h2 v (encKI b).py as' ∧ h'.objs.size ∉ as') (as.map Value.ref) bs := each.mono fun v b hv => by
    obtain ⟨j, c, ev, hj, hb⟩ := hv
    subst ev
    obtain ⟨kq, t, h1, h3⟩ := pr j c b hj hb
    obtain ⟨_, its, rv, ⟨ot, hot, hct, nt, hdt⟩⟩ := (show ObjOk X.prog X.w H s.heap kq (.tup (b.1.map kV)) from I.hok kq _ h1)
    refine ⟨[], ?_, fun z => nomatch z⟩
    exact .tuple (ka _ _ h3) rfl rfl (.cons (as := []) (bs := []) (.tuple (kb _ _ hot) hct hdt (key_reads_all rv)) (.cons (as := []) (bs := []) (.int b.2 t) .nil))
  have hdep : ∀ b : KI, b ∈ bs → X.A.in1.units + 1 + (encKI b).py.depth < cLine := by
    intro b hb
    have d0 : ∀ k : List Key, D.deps (k.map keyD) = 0 := by
      intro k
      induction k with
      | nil => rfl
      | cons x k ih =>
        rw [List.map_cons]
        unfold D.deps
        rw [ih]
        cases x <;> rfl
    have : (encKI b).py.depth = 2 := by
      rw [D.py_depth]
      simp only [encKI, D.dep, D.deps, d0]
      rfl
    rw [this]
    show X.A.units + 1 + 1 + 2 < cLine
    omega
  refine PySem.W.list_sort_data (s := { s with heap := h2, toks := tk }) (enc := fun b => (encKI b).py) hob each er hal (PySem.W.Sortable.tuples fun b => ⟨_, _, rfl⟩) hz hdep fun out hout eo => ?_
  · show EP X pins σ Q (.ref h'.objs.size) { s with heap := sortedHeap h2 h'.objs.size (as.map Value.ref) out.toArray, toks := tk }
    obtain ⟨qs, hqs, hqb⟩ : ∃ qs : List Addr, out = qs.map Value.ref ∧ Paired (fun c (b : KI) => ∃ j : Nat, as[j]? = some c ∧ bs[j]? = some b) qs (bs.mergeSort leKI) := by
      have conv : ∀ {vs : List Value} {l : List KI}, PySem.W.EachIs (fun v (b : KI) => ∃ (j : Nat) (c : Addr), v = .ref c ∧ as[j]? = some c ∧ bs[j]? = some b) vs l → ∃ qs : List Addr, vs = qs.map Value.ref ∧ Paired (fun c (b : KI) => ∃ j : Nat, as[j]? = some c ∧ bs[j]? = some b) qs l := by
        intro vs l e
        induction e with
        | nil => exact ⟨[], rfl, .nil⟩
        | cons h t ih =>
          obtain ⟨j, c, rfl, h1, h2⟩ := h
          obtain ⟨qs, rfl, h3⟩ := ih
          exact ⟨c :: qs, rfl, .cons ⟨j, h1, h2⟩ h3⟩
      exact conv eo
    subst hqs
    have kF : ∀ b o, b ≠ h'.objs.size → h2.get? b = some o → (sortedHeap h2 h'.objs.size (as.map Value.ref) (qs.map Value.ref).toArray).get? b = some o := fun b o hb e => (PyProof.Rows.sortedHeap_old hb (Heap.lt_size e)).trans e
    have kS : ∀ b o, s.heap.get? b = some o → (sortedHeap h2 h'.objs.size (as.map Value.ref) (qs.map Value.ref).toArray).get? b = some o := fun b o e => kF b o (ne0 _ _ (hk b o e)) (kb b o e)
    obtain ⟨eF, heF⟩ := PyProof.Rows.sortedHeap_at (vs := as.map Value.ref) (out := (qs.map Value.ref).toArray) hob
    have I1 : Inv X pins σ H { s with heap := sortedHeap h2 h'.objs.size (as.map Value.ref) (qs.map Value.ref).toArray, toks := tk } := I.kept (t' := tk) kS
    have hn0 : H h'.objs.size = none := I.hok.fresh (Nat.le_of_lt hlt)
    have hlen : (qs.map V.ref).length ≤ sizeLine := by
      rw [List.length_map] at hout ⊢
      omega
    have I2 : Inv X pins σ (upd H h'.objs.size (.lst (qs.map V.ref))) { s with heap := sortedHeap h2 h'.objs.size (as.map Value.ref) (qs.map Value.ref).toArray, toks := tk } :=
      I1.take (t' := tk) (fun b ob _ e => e) (I.fpOk (Nat.le_of_lt hlt) hn0) ⟨hlen, qs.map Value.ref, eF, vals_refs _, heF⟩
    obtain ⟨H2, I3, g, qt⟩ := DX.takeT (P := fun c vs => ∃ (j : Nat) (b : KI) (kq : Addr), as[j]? = some c ∧ bs[j]? = some b ∧ vs = [.ref kq, .int b.2] ∧ H kq = some (.tup (b.1.map kV))) I as _ I2 nd fun c hcm => by
      obtain ⟨j, hj⟩ := List.mem_iff_getElem?.mp hcm
      obtain ⟨b, hb⟩ : ∃ b, bs[j]? = some b := ⟨_, List.getElem?_eq_getElem (by rw [← lab]; exact (List.getElem?_eq_some_iff.mp hj).1)⟩
      obtain ⟨kq, t, hkq, hg⟩ := pr j c b hj hb
      have hbl : s.heap.objs.size ≤ c := Nat.le_of_lt (hG.above c hcm)
      refine ⟨hbl, ?_, [.ref kq, .int b.2], ⟨j, b, kq, hj, hb, rfl, hkq⟩, fun H3 => ⟨(by rw [sizeLine_eq]; show 2 ≤ 16777216; omega), [Value.ref kq, Value.int b.2 t], .cons rfl (.cons ⟨t, rfl⟩ .nil), ⟨_, kF _ _ (ne0 _ _ hg) (ka _ _ hg), rfl, 0, rfl⟩⟩⟩
      rw [upd_ne (ne0 _ _ hg)]
      exact I.hok.fresh hbl
    have gr : ∀ b o, H b = some o → H2 b = some o := fun b o e => g b o (by rw [upd_ne (ne_of_none e hn0)]; exact e)
    refine ⟨.ref h'.objs.size, H2, I3, rfl, q H2 h'.objs.size qs gr hn0 (g _ _ upd_same) (Paired.mapP hqb fun c b ⟨j, j1, j2⟩ => ?_)⟩
    obtain ⟨vs, ⟨j', b', kq, i1, i2, ev, hkq⟩, hH⟩ := qt c (List.mem_of_getElem? j1)
    have eij : j = j' := (List.getElem?_inj (List.getElem?_eq_some_iff.mp j1).1 nd).mp (j1.trans i1.symm)
    subst eij
    have ee : b' = b := Option.some.inj (i2.symm.trans j2)
    subst ee
    rw [ev] at hH
    exact ⟨kq, hH, gr _ _ hkq⟩
theorem pe_sortitems {p apos cpos pos : Pos} (hc : X.calm = true) (hu : X.A.units + 64 < cLine) (hg : Gl X "sorted") (hm : X.mg "sorted" = none) (ho : PE X o to)
    (hbase : attributeBase o "items" X.env (eval o X.env) = eval o X.env) (hline : (apos.endLine == cpos.line) = true) : PE X (.Call (.Name "sorted" p) [.Call (.Attribute o "items" apos) [] [] cpos] [] pos) (tSortIt X.K to) := by
  refine ⟨fun pins s σ H Q I h => ?_⟩
  refine Call_ (ld_blt I hg hm boot_sorted ?_)
  refine PyProof.Rows.callWith_builtin1 (PyProof.Rows.args_cons ?_ rfl) rfl rfl
  refine wpAny_Call_method0_late hbase hline (thn (ho.run pins s σ H _ I h) fun v s1 ⟨x, H1, I1, r1, q1⟩ => ?_)
  obtain ⟨a, bs, rfl, ha, hal, hz, q⟩ := q1
  cases r1
  obtain ⟨z, hd, xs', rel, od, es, ep, hob, hx, hdat, _⟩ := dt_rd I1.hok ha
  refine ⟨"dict", "dict.items", F.plainAttrs_dict, F.slot_dict_items, F.type_dict_items, ⟨od, hob, hx.1⟩, fun b e => ?_, Calls.callWith_builtin rfl (PySem.evalArgs_none ?_)⟩
  · cases e
    exact ⟨od, hob, hx.2.1⟩
  · refine DT.callItems (es := es) (ep := ep) hd ⟨od, hob, hx, hdat⟩ (PyProof.Rows.args_nil ?_)
    exact sortitems_run (s := { s1 with heap := s1.heap.push { cls := .type "dict_items", data := .fields #[.ref a] } }) (I1.kept (t' := s1.toks) fun b u e => Heap.get?_push_of_some _ e) hc hu ha hal hz ⟨_, Heap.get?_push_size _ rfl, rfl, rfl⟩ q
end
/-- int values -/
def intsT : List (List Key × D) → Option (List KI)
  | [] => some []
  | (k, .int i) :: ds => (intsT ds).map ((k, i) :: ·)
  | _ :: _ => none
def gSortIt (b : Bool) (d : D) (h : AH) : Res D := match (dTat d h).bind intsT with
  | some bs => if (alikeL (bs.map fun b => (encKI b).py) && lenOk bs.length) = true then mkL b ((bs.mergeSort leKI).map encKI) h else .bad
  | none => .bad
theorem intsT_at {K : PySem.W.Frag} {m : Ad} {F : Hp} : ∀ {ds : List (List Key × D)} {ws : List (List Key × V)} {bs : List KI}, HasTs K m F ds ws → intsT ds = some bs → ws = bs.map fun b => (b.1, V.int b.2)
  | [], _, bs, .nil, e => by
    cases e
    rfl
  | (k, d) :: ds, _, bs, .cons a t, e => by
    cases a with
    | int i =>
      unfold intsT at e
      obtain ⟨cs, e1, rfl⟩ := Option.map_eq_some_iff.mp e
      rw [intsT_at t e1]
      rfl
    | _ => cases e
/-- all the tuples of a larger heap, and a new list, become known -/
theorem adoptAll {K : PySem.W.Frag} {m : Ad} {F : Hp} {h : AH} {H H' : Hp} {l : Addr} {vs : List V} (r : Rel K m F h H) (g : ∀ b o, H b = some o → H' b = some o) (hl : H l = none) (hl' : H' l = some (.lst vs)) :
    ∃ F', Rel K m F' h H' ∧ Ext m F H m F' H' ∧ F' l = some (.lst vs) ∧ ∀ b xs, H' b = some (.tup xs) → F' b = some (.tup xs) := by
  have lm : l ∉ m := fun hm => by
    obtain ⟨n, hn⟩ := List.mem_iff_getElem?.mp hm
    obtain ⟨o', ho, _⟩ := r.there hn
    rw [hl] at ho
    cases ho
  have tm : ∀ b xs, H' b = some (.tup xs) → b ∉ m := fun b xs hb hm => by
    obtain ⟨n, hn⟩ := List.mem_iff_getElem?.mp hm
    have hlt : n < h.length := by
      rw [← r.len]
      exact (List.getElem?_eq_some_iff.mp hn).1
    obtain ⟨_, o, ho, ok⟩ := r.cell n b h[n] hn (List.getElem?_eq_getElem hlt)
    rw [g _ _ ho] at hb
    cases hb
    cases hc : h[n] <;> rw [hc] at ok <;> exact ok.elim
  classical
  refine ⟨fun b => match F b with
    | some o => some o
    | none => if b = l then some (.lst vs) else (match H' b with
      | some (.tup xs) => some (.tup xs)
      | _ => none), ?_⟩
  have fl : F l = none := F_none r hl
  have same : ∀ {b : Addr} {o : HO}, F b = some o → (match F b with
    | some o => some o
    | none => if b = l then some (.lst vs) else (match H' b with
      | some (.tup xs) => some (.tup xs)
      | _ => none)) = some o := fun e => by rw [e]
  have loose : ∀ {b : Addr} {o : HO}, F b = none → b ≠ l → H' b = some o → Loose o → (match F b with
    | some o => some o
    | none => if b = l then some (.lst vs) else (match H' b with
      | some (.tup xs) => some (.tup xs)
      | _ => none)) = none := fun {b o} e hb ho lo => by
    rw [e]
    simp only
    rw [if_neg hb, ho]
    cases o <;> first | rfl | exact lo.elim
  have e : Ext m F H m (fun b => match F b with
    | some o => some o
    | none => if b = l then some (.lst vs) else (match H' b with
      | some (.tup xs) => some (.tup xs)
      | _ => none)) H' := ⟨fun _ _ q => q, fun b u su q => by
      rcases q with q | ⟨o, q⟩
      · exact .inl (same q)
      · exact .inr ⟨o, same q⟩, fun b o _ q => same q, fun b o lo q q1 q2 => ⟨g _ _ q, q1, loose q2 (ne_of_none q hl) (g _ _ q) lo⟩⟩
  refine ⟨⟨fun b o q => ?_, r.len, r.nodup, fun n b c hm hc => ?_⟩, e, ?_, fun b xs hb => ?_⟩
  · cases hF : F b with
    | some o' =>
      simp only [hF] at q
      cases q
      exact g _ _ (r.sub _ _ hF)
    | none =>
      simp only [hF] at q
      split at q
      · rename_i hb
        cases q
        rw [hb]
        exact hl'
      · split at q
        · rename_i xs hx
          cases q
          exact hx
        · cases q
  · obtain ⟨f, o, ho, ok⟩ := r.cell n b c hm hc
    exact ⟨loose f (ne_of_none ho hl) (g _ _ ho) (by
      have := ok.mut
      cases o <;> first | trivial | exact this.elim), o, g _ _ ho, ok.ext e⟩
  · simp only [fl, if_true]
  · cases hF : F b with
    | some o' =>
      have := g _ _ (r.sub _ _ hF)
      rw [hb] at this
      simp only [hF]
      exact this.symm
    | none =>
      simp only [hF]
      rw [if_neg fun z => ?_, hb]
      rw [z, hl'] at hb
      cases hb
/-- a new list, adopted with more -/
def okL (b : Bool) : Bool := !b
section
variable {X : Cx} {W : Wi} {o : Expr} {f : ME}
theorem de_sortitems {p apos cpos pos : Pos} (hc : X.calm = true) (hu : X.A.units + 64 < cLine) (hm : X.mg "sorted" = none) (ho : DE X W o f) (hg : Gl X "sorted" := by rfl)
    (hbase : attributeBase o "items" X.env (eval o X.env) = eval o X.env := by rfl) (hline : (apos.endLine == cpos.line) = true := by rfl) : DE X W (.Call (.Name "sorted" p) [.Call (.Attribute o "items" apos) [] [] cpos] [] pos) (e1 (gSortIt false) f) := by
  obtain ⟨t, pp, ip⟩ := ho.ex
  refine ⟨_, pe_sortitems hc hu hg hm pp hbase hline, fun m F h H s σ Q r E q => ?_⟩
  refine ip m F h H s σ _ r E (q.bind fun d h' m' F' H' v _ e' r' ha q => ?_)
  unfold gSortIt at q
  split at q
  · rename_i bs eb
    obtain ⟨kvs, e1, e2⟩ := Option.bind_eq_some_iff.mp eb
    obtain ⟨a, ws, rfl, hrd, hts⟩ := dTat_at r' ha e1
    have ews := intsT_at hts e2
    subst ews
    split at q
    · rename_i hc
      rw [Bool.and_eq_true] at hc
      refine ⟨a, bs, rfl, hrd, alikeL_ok hc.1, lenOk_le hc.2, fun H2 l qs g hl hl' hp => ?_⟩
      obtain ⟨F2, r2, ex2, hF2, hT⟩ := adoptAll r' g hl hl'
      refine q m' F2 H2 _ ex2 r2 (.lst hF2 ?_)
      have conv : ∀ {qs : List Addr} {cs : List KI}, Paired (fun q (b : KI) => ∃ kb, H2 q = some (.tup [.ref kb, .int b.2]) ∧ H2 kb = some (.tup (b.1.map kV))) qs cs → HasDs X.K m' F2 (cs.map encKI) (qs.map V.ref) := by
        intro qs cs z
        induction z with
        | nil => exact .nil
        | cons h t ih =>
          obtain ⟨kb, h1, h2⟩ := h
          exact .cons (.tup (hT _ _ h1) (.cons (.tup (hT _ _ h2) (has_keys _)) (.cons (.int _) .nil))) ih
      exact conv hp
    · exact q.elim
  · exact q.elim
end
end DL

namespace DL
open PySem PySem.Spec PyProof.Rows L2

/-! ### tuple * int -/
theorem tup_mul1 (l : Addr) (items : Array Value) (n : Nat) (dd : Option Addr) (sl : Array (Option Value)) (x : Int) (u : Tok) (c0 : (decide (x < -(2 ^ 63)) || decide (x ≥ 2 ^ 63)) = false) (c1 : (items.isEmpty || x == 1) = true) :
    Meets (Builtin.«tuple.__mul__» ⟨[.ref l, .int x u], []⟩) (fun _ R s => s.heap.get? l = some { cls := .type "tuple", dict := dd, data := .seq items n, slots := sl } ∧ R (.ok (.ret (Value.ref l))) s) :=
  .of_wp fun prog w A R s h => by
    obtain ⟨hp, g, d, tk, os⟩ := s
    obtain ⟨hl, h⟩ := h
    have f1 := AutoSeq1.idx_int
    wp_walk using wpAny_loadPart' hl
    repeat (first
      | (refine wpAny_ite_false (decide_eq_false (by rw [c0]; exact Bool.false_ne_true)) ?_; wp_walk using wpAny_loadPart' hl)
      | (refine wpAny_ite_true (decide_eq_true c1) ?_; wp_walk using wpAny_loadPart' hl))
    exact ⟨_, rfl, h⟩
theorem tup_mul0 (l : Addr) (items : Array Value) (n : Nat) (dd : Option Addr) (sl : Array (Option Value)) (x : Int) (u : Tok) (c0 : (decide (x < -(2 ^ 63)) || decide (x ≥ 2 ^ 63)) = false) (c1 : (items.isEmpty || x == 1) = false) (c2 : (decide (x ≤ 0) || items.isEmpty) = true) :
    Meets (Builtin.«tuple.__mul__» ⟨[.ref l, .int x u], []⟩) (fun _ R s => s.heap.get? l = some { cls := .type "tuple", dict := dd, data := .seq items n, slots := sl } ∧
      R (.ok (.ret (Value.ref s.heap.objs.size))) { s with heap := s.heap.push { cls := Value.type "tuple", data := Data.seq #[] }, toks := s.toks }) :=
  .of_wp fun prog w A R s h => by
    obtain ⟨hp, g, d, tk, os⟩ := s
    obtain ⟨hl, h⟩ := h
    have f1 := AutoSeq1.idx_int
    wp_walk using wpAny_loadPart' hl
    repeat (first
      | (refine wpAny_ite_false (decide_eq_false (by rw [c0]; exact Bool.false_ne_true)) ?_; wp_walk using wpAny_loadPart' hl)
      | (refine wpAny_ite_false (decide_eq_false (by rw [c1]; exact Bool.false_ne_true)) ?_; wp_walk using wpAny_loadPart' hl)
      | (refine wpAny_ite_true (decide_eq_true c2) ?_; wp_walk using wpAny_loadPart' hl))
    exact ⟨_, rfl, h⟩

def rRepTA (K : PySem.W.Frag) : R2 := fun x y H Q => (∃ l k xs, x = .ref l ∧ y = .int k ∧ SqT K H l xs ∧ -(2 ^ 63) ≤ k ∧ k < 2 ^ 63 ∧ (((xs = [] ∨ k = 1) ∧ Q (.ref l) H) ∨ (xs ≠ [] ∧ k ≤ 0 ∧ ∀ p, H p = none → Q (.ref p) (upd H p (.tup []))))) ∨ rRepT K x y H Q
theorem op_repTA {X : Cx} : OpR X (binaryOp .Mult) (rRepTA X.K) := by
  intro pins s σ H x y v u Q I rx ry h
  rcases h with h | h
  · obtain ⟨l, k, xs, rfl, rfl, hT, h1, h2, q⟩ := h
    cases rx
    obtain ⟨t, rfl⟩ := ry
    obtain ⟨its, r, ⟨⟨cls, dd, data, sl⟩, ho, hc, n, hd⟩, hs⟩ := I.tuple hT
    simp only at hc hd
    subst hc hd
    have c0 : (decide (k < -(2 ^ 63)) || decide (k ≥ 2 ^ 63)) = false := by
      rw [decide_eq_false (by omega), decide_eq_false (by omega)]
      rfl
    have hemp : its.toArray.isEmpty = xs.isEmpty := by
      have := r.length
      cases its <;> cases xs <;> first | rfl | simp at this
    refine wpAny_binaryOp_repeat_ref (T := "tuple") (U := "int") (by decide) ⟨_, ho, rfl⟩ (fun s' => typeIs_int s' k t) noFill_tuple_mul F.fills_int_mul F.slot_int_rmul repeat_tuple F.slot_int_index.lookup
      (call_meets F.slot_int_rmul (typeIs_int s k t) F.entry_int_rmul (F.args_int_rmul_2 _ _) (int_rmul_tuple k t l its.toArray n dd sl) ⟨ho, rfl, ⟨_, ho, rfl⟩, ?_⟩)
    rcases q with ⟨hk, q⟩ | ⟨hne, hk, q⟩
    · refine call_meets F.slot_tuple_mul ⟨_, ho, rfl⟩ F.entry_tuple_mul (F.args_tuple_mul_2 _ _) (tup_mul1 l its.toArray n dd sl k t c0 ?_) ⟨ho, .ref l, H, I, rfl, q⟩
      rw [hemp, Bool.or_eq_true]
      rcases hk with rfl | rfl
      · exact .inl rfl
      · exact .inr rfl
    · have he : xs.isEmpty = false := by
        cases xs with
        | nil => exact absurd rfl hne
        | cons a b => rfl
      refine call_meets F.slot_tuple_mul ⟨_, ho, rfl⟩ F.entry_tuple_mul (F.args_tuple_mul_2 _ _) (tup_mul0 l its.toArray n dd sl k t c0 ?_ ?_) ⟨ho, .ref s.heap.objs.size, _, I.laid (t' := s.toks) (o := .tup []) (fun b ob q => Heap.get?_push_of_some _ q) (Nat.le_refl _) ?_, rfl, q _ (I.hok.fresh (Nat.le_refl _))⟩
      · rw [hemp, he, Bool.false_or]
        exact beq_eq_false_iff_ne.mpr (by omega)
      · rw [decide_eq_true hk]
        rfl
      · exact ⟨Nat.zero_le _, [], .nil, IsTup.new _ _⟩
  · exact op_repT pins s σ H x y v u Q I rx ry h
def gMulT : M2 := fun d e h => match d, e with
  | .tup xs, .int k => if decide (-(2 ^ 63) ≤ k ∧ k ≤ 1000 ∧ xs.length ≤ 1000) = true then .ok (.tup (List.replicate k.toNat xs).flatten) h else .bad
  | _, _ => .bad
theorem sem_mulT {K : PySem.W.Frag} {W : Wi} : Sem2 K W (rRepTA K) gMulT := fun m F h H x y d e Q r hd he q => by
  unfold gMulT at q
  split at q
  · rename_i xs k
    split at q
    · rename_i hc
      have hc := of_decide_eq_true hc
      cases he
      cases hd with
      | tup hf hs =>
        rename_i a vs
        have hT : SqT K H a vs := SqT.of (r.sub _ _ hf)
        by_cases e0 : vs = []
        · subst e0
          cases hs
          have : (List.replicate k.toNat ([] : List D)).flatten = [] := by
            generalize k.toNat = n
            induction n with
            | zero => rfl
            | succ n ih => rw [List.replicate_succ, List.flatten_cons, ih]; rfl
          rw [this] at q
          exact .inl ⟨a, k, [], rfl, rfl, hT, hc.1, by omega, .inl ⟨.inl rfl, q.ok r (HasD.tup hf .nil)⟩⟩
        · by_cases e1 : k = 1
          · subst e1
            have : (List.replicate (1 : Int).toNat xs).flatten = xs := by
              show (List.replicate 1 xs).flatten = xs
              simp
            rw [this] at q
            exact .inl ⟨a, 1, vs, rfl, rfl, hT, hc.1, by omega, .inl ⟨.inr rfl, q.ok r (HasD.tup hf hs)⟩⟩
          · by_cases e2 : k ≤ 0
            · have : k.toNat = 0 := by omega
              rw [this] at q
              exact .inl ⟨a, k, vs, rfl, rfl, hT, hc.1, by omega, .inr ⟨e0, e2, q.newT r .nil⟩⟩
            · exact .inr ⟨a, k, vs, rfl, rfl, hT, e0, by omega, hc.2.1, by rw [← hs.length]; exact hc.2.2, q.newT r (hs.rep _)⟩
    · exact q.elim
  · exact q.elim
theorem de_mulT {X : Cx} {W : Wi} {a b : Expr} {f1 f2 : ME} {pos : Pos} (h1 : DE X W a f1) (h2 : DE X W b f2) : DE X W (.BinOp a .Mult b pos) (e2 gMulT f1 f2) := de_op op_repTA sem_mulT h1 h2

/-! ### over a text -/
def sigs (z : Str) : List D := z.cps.toList.map fun c => .str ⟨#[c]⟩
def iS (f : ME) : MI := fun s h => (f s h).bind fun d h => match d with
  | .str z => .ok ⟨sigs z, []⟩ h
  | _ => .bad
theorem itr_str {K : PySem.W.Frag} {m : Ad} {F : Hp} {z : Str} : ItR K (Its z) ⟨sigs z, []⟩ m F where
  go := fun i m' F' h' H' e' r' ok hi => by
    have hi : i < (sigs z).length := hi
    unfold sigs at hi
    rw [List.length_map, Array.length_toList] at hi
    exact hi
  yld := fun i m' F' h' H' v H2 d e' r' ok y hd => by
    obtain ⟨rfl, c, hc, rfl⟩ := y
    have hd : (sigs z)[i]? = some d := hd
    unfold sigs at hd
    rw [List.getElem?_map, Array.getElem?_toList, hc] at hd
    cases hd
    exact ⟨F', .refl, r', .str _⟩
  stop := fun i m' F' h' H' e' r' ok hi _ => by
    have hi : (sigs z).length ≤ i := hi
    unfold sigs at hi
    rw [List.length_map, Array.length_toList] at hi
    exact hi
theorem di_str {X : Cx} {W : Wi} {tg e : Expr} {f : ME} (h1 : DE X W e f) : DI X W tg e (iS f) := by
  obtain ⟨t, p, i⟩ := h1.ex
  refine ⟨_, pi_str p, fun m F h H s σ R r E q => ?_⟩
  refine i m F h H s σ _ r E (q.bind fun d h' m' F' H' v _ e' r' ha q => ?_)
  split at q
  · cases ha
    exact ⟨_, rfl, q.ok r' itr_str⟩
  · exact q.elim
end DL

namespace DL
open PySem PySem.Spec PyProof.Rows L2

/-! ### zip of two things, each a list or a tuple -/
def SqA (K : PySem.W.Frag) (H : Hp) (a : Addr) (xs : List V) : Bool → Prop
  | true => SqL K H a xs
  | false => SqT K H a xs
def ItAt (h : Heap) (it a : Addr) (i : Nat) : Bool → Prop
  | true => h.IsListIter it a i
  | false => h.IsTupleIter it a i
def SeqIs (h : Heap) (a : Addr) (items : Array Value) : Bool → Prop
  | true => h.IsList a items
  | false => h.IsTuple a items
theorem ItAt.there {h : Heap} {it a : Addr} {i : Nat} {t : Bool} (x : ItAt h it a i t) : ∃ o, h.get? it = some o ∧ ∀ v, o.data ≠ .cell v := by
  cases t with
  | true =>
    obtain ⟨o, ho, _, hd⟩ := x
    exact ⟨o, ho, fun v q => by rw [hd] at q; cases q⟩
  | false =>
    obtain ⟨o, ho, _, hd⟩ := x
    exact ⟨o, ho, fun v q => by rw [hd] at q; cases q⟩
theorem ItAt.at' {h h' : Heap} {it a : Addr} {i : Nat} {t : Bool} (x : ItAt h it a i t) (k : ∀ o, h.get? it = some o → h'.get? it = some o) : ItAt h' it a i t := by
  cases t with
  | true => exact Heap.IsListIter.at x k
  | false => exact Heap.IsTupleIter.at x k
theorem SeqIs.at' {h h' : Heap} {a : Addr} {items : Array Value} {t : Bool} (x : SeqIs h a items t) (k : ∀ o, h.get? a = some o → h'.get? a = some o) : SeqIs h' a items t := by
  cases t with
  | true => exact Heap.IsList.at x k
  | false => exact Heap.IsTuple.at x k
theorem SeqIs.lt {h : Heap} {a : Addr} {items : Array Value} {t : Bool} (x : SeqIs h a items t) : a < h.objs.size := by
  cases t with
  | true =>
    obtain ⟨o, ho, _⟩ := x
    exact Heap.lt_size ho
  | false =>
    obtain ⟨o, ho, _⟩ := x
    exact Heap.lt_size ho
theorem draws_of {prog : Program} {w : World} {A : Around} (t : Bool) (hh : A.handled = none) (it a : Addr) (hne : a ≠ it) (items : Array Value) :
    Draws prog w A it [it, a] items.size (fun i v => items[i]? = some v) (fun i h => ItAt h it a i t ∧ SeqIs h a items t) := by
  cases t with
  | true => exact Draws.list hh it a hne items
  | false => exact Draws.tuple hh it a hne items
abbrev itObjT (a : Addr) (t : Bool) : Obj := { cls := .type (if t = true then "list_iterator" else "tuple_iterator"), data := .fields #[.ref a, .int 0 0] }
section
variable {prog : Program} {w : World} {A : Around} {E : Value → Shared → Prop} {s : Shared}
abbrev zLT5 (h : Heap) (l1 l2 : Addr) : Heap := ((((h.push { cls := .type "list_iterator", data := .fields #[.ref l1, .int 0 0] }).push { cls := .type "tuple_iterator", data := .fields #[.ref l2, .int 0 0] }).push { cls := .type "tuple", data := .seq #[.ref h.objs.size, .ref (h.push { cls := .type "list_iterator", data := .fields #[.ref l1, .int 0 0] }).objs.size] }).push { cls := .type "tuple", data := .seq #[.none, .none] })
abbrev zTL5 (h : Heap) (l1 l2 : Addr) : Heap := ((((h.push { cls := .type "tuple_iterator", data := .fields #[.ref l1, .int 0 0] }).push { cls := .type "list_iterator", data := .fields #[.ref l2, .int 0 0] }).push { cls := .type "tuple", data := .seq #[.ref h.objs.size, .ref (h.push { cls := .type "tuple_iterator", data := .fields #[.ref l1, .int 0 0] }).objs.size] }).push { cls := .type "tuple", data := .seq #[.none, .none] })
theorem meets_zipLT (l1 l2 : Addr) (xs ys : Array Value) :
    Meets (Builtin.«zip.__new__» ⟨[.type "zip", .ref l1, .ref l2], []⟩) (fun _ R s => s.heap.IsList l1 xs ∧ s.heap.IsTuple l2 ys ∧
      R (.ok (.ret (.ref (zLT5 s.heap l1 l2).objs.size))) { s with heap := (zLT5 s.heap l1 l2).push { cls := .type "zip", data := .fields #[.none, .bool false, .bool false, .ref ((s.heap.push { cls := .type "list_iterator", data := .fields #[.ref l1, .int 0 0] }).push { cls := .type "tuple_iterator", data := .fields #[.ref l2, .int 0 0] }).objs.size, .ref (((s.heap.push { cls := .type "list_iterator", data := .fields #[.ref l1, .int 0 0] }).push { cls := .type "tuple_iterator", data := .fields #[.ref l2, .int 0 0] }).push { cls := .type "tuple", data := .seq #[.ref s.heap.objs.size, .ref (s.heap.push { cls := .type "list_iterator", data := .fields #[.ref l1, .int 0 0] }).objs.size] }).objs.size] } }) :=
  .of_wp fun prog w A R s h => by
    obtain ⟨hp, g, d, tk, os⟩ := s; obtain ⟨hl1, hl2, h⟩ := h
    have hsub := sub_zip
    have hL1 : Heap.IsList (Shared.heap ⟨hp, g, d, tk, os⟩) l1 xs := hl1
    have hL2 : Heap.IsTuple (Shared.heap ⟨hp.push { cls := .type "list_iterator", data := .fields #[.ref l1, .int 0 0] }, g, d, tk, os⟩) l2 ys := Heap.IsTuple.push hl2 _
    wp_walk using wpAny_pyIter_list hL1, wpAny_pyIter_tuple hL2
    exact ⟨_, rfl, h⟩
theorem meets_zipTL (l1 l2 : Addr) (xs ys : Array Value) :
    Meets (Builtin.«zip.__new__» ⟨[.type "zip", .ref l1, .ref l2], []⟩) (fun _ R s => s.heap.IsTuple l1 xs ∧ s.heap.IsList l2 ys ∧
      R (.ok (.ret (.ref (zTL5 s.heap l1 l2).objs.size))) { s with heap := (zTL5 s.heap l1 l2).push { cls := .type "zip", data := .fields #[.none, .bool false, .bool false, .ref ((s.heap.push { cls := .type "tuple_iterator", data := .fields #[.ref l1, .int 0 0] }).push { cls := .type "list_iterator", data := .fields #[.ref l2, .int 0 0] }).objs.size, .ref (((s.heap.push { cls := .type "tuple_iterator", data := .fields #[.ref l1, .int 0 0] }).push { cls := .type "list_iterator", data := .fields #[.ref l2, .int 0 0] }).push { cls := .type "tuple", data := .seq #[.ref s.heap.objs.size, .ref (s.heap.push { cls := .type "tuple_iterator", data := .fields #[.ref l1, .int 0 0] }).objs.size] }).objs.size] } }) :=
  .of_wp fun prog w A R s h => by
    obtain ⟨hp, g, d, tk, os⟩ := s; obtain ⟨hl1, hl2, h⟩ := h
    have hsub := sub_zip
    have hL1 : Heap.IsTuple (Shared.heap ⟨hp, g, d, tk, os⟩) l1 xs := hl1
    have hL2 : Heap.IsList (Shared.heap ⟨hp.push { cls := .type "tuple_iterator", data := .fields #[.ref l1, .int 0 0] }, g, d, tk, os⟩) l2 ys := Heap.IsList.push hl2 _
    wp_walk using wpAny_pyIter_tuple hL1, wpAny_pyIter_list hL2
    exact ⟨_, rfl, h⟩
/-- what zip(..) leaves -/
def ZipMade (n : Addr) (h0 h' : Heap) (l1 l2 : Addr) (t1 t2 : Bool) : Prop := IsZip h' (n + 4) (n + 2) (n + 3) .none ∧ IsPair h' (n + 2) (.ref n) (.ref (n + 1)) ∧ IsPair h' (n + 3) .none .none ∧ ItAt h' n l1 0 t1 ∧ ItAt h' (n + 1) l2 0 t2 ∧ (∀ c o, h0.get? c = some o → h'.get? c = some o)
theorem made_of {h : Heap} {l1 l2 : Addr} {o1 o2 : Obj} {t1 t2 : Bool} (i1 : ∀ h' : Heap, h'.get? h.objs.size = some o1 → ItAt h' h.objs.size l1 0 t1) (i2 : ∀ h' : Heap, h'.get? (h.objs.size + 1) = some o2 → ItAt h' (h.objs.size + 1) l2 0 t2) (f1 : o1.isFreed = false) (f2 : o2.isFreed = false)
    {o5 : Obj} (e5 : o5 = { cls := .type "zip", data := .fields #[.none, .bool false, .bool false, .ref ((h.push o1).push o2).objs.size, .ref (((h.push o1).push o2).push { cls := .type "tuple", data := .seq #[.ref h.objs.size, .ref (h.push o1).objs.size] }).objs.size] }) :
    ((((h.push o1).push o2).push { cls := .type "tuple", data := .seq #[.ref h.objs.size, .ref (h.push o1).objs.size] }).push { cls := .type "tuple", data := .seq #[.none, .none] }).objs.size = h.objs.size + 4 ∧
    ZipMade h.objs.size h (((((h.push o1).push o2).push { cls := .type "tuple", data := .seq #[.ref h.objs.size, .ref (h.push o1).objs.size] }).push { cls := .type "tuple", data := .seq #[.none, .none] }).push o5) l1 l2 t1 t2 := by
  have z1 : (h.push o1).objs.size = h.objs.size + 1 := Heap.size_push ..
  have z2 : ((h.push o1).push o2).objs.size = h.objs.size + 2 := by rw [Heap.size_push, z1]
  have z3 : (((h.push o1).push o2).push { cls := .type "tuple", data := .seq #[.ref h.objs.size, .ref (h.push o1).objs.size] }).objs.size = h.objs.size + 3 := by rw [Heap.size_push, z2]
  have z4 : ((((h.push o1).push o2).push { cls := .type "tuple", data := .seq #[.ref h.objs.size, .ref (h.push o1).objs.size] }).push { cls := .type "tuple", data := .seq #[.none, .none] }).objs.size = h.objs.size + 4 := by rw [Heap.size_push, z3]
  refine ⟨z4, ?_⟩
  subst e5
  have g5 := Heap.get?_push_size ((((h.push o1).push o2).push { cls := .type "tuple", data := .seq #[.ref h.objs.size, .ref (h.push o1).objs.size] }).push { cls := .type "tuple", data := .seq #[.none, .none] }) (o := { cls := .type "zip", data := .fields #[.none, .bool false, .bool false, .ref ((h.push o1).push o2).objs.size, .ref (((h.push o1).push o2).push { cls := .type "tuple", data := .seq #[.ref h.objs.size, .ref (h.push o1).objs.size] }).objs.size] }) rfl
  refine ⟨?_, ?_, ?_, i1 _ ?_, i2 _ ?_, fun c o x => Heap.get?_push_of_some _ (Heap.get?_push_of_some _ (Heap.get?_push_of_some _ (Heap.get?_push_of_some _ (Heap.get?_push_of_some _ x))))⟩
  · rw [z4] at g5
    show Heap.get? _ (h.objs.size + 4) = _
    rw [g5, z2, z3]
  · have := Heap.get?_push_size ((h.push o1).push o2) (o := { cls := .type "tuple", data := .seq #[.ref h.objs.size, .ref (h.push o1).objs.size] }) rfl
    rw [z2] at this
    rw [z1] at this ⊢
    exact Heap.get?_push_of_some _ (Heap.get?_push_of_some _ this)
  · have := Heap.get?_push_size (((h.push o1).push o2).push { cls := .type "tuple", data := .seq #[.ref h.objs.size, .ref (h.push o1).objs.size] }) (o := { cls := .type "tuple", data := .seq #[.none, .none] }) rfl
    rw [z3] at this
    exact Heap.get?_push_of_some _ this
  · exact Heap.get?_push_of_some _ (Heap.get?_push_of_some _ (Heap.get?_push_of_some _ (Heap.get?_push_of_some _ (Heap.get?_push_size h f1))))
  · have := Heap.get?_push_size (h.push o1) f2
    rw [z1] at this
    exact Heap.get?_push_of_some _ (Heap.get?_push_of_some _ (Heap.get?_push_of_some _ this))
theorem call_zipM (t1 t2 : Bool) {l1 l2 : Addr} {xs ys : Array Value} {Q : Value → Shared → Prop} (hl1 : SeqIs s.heap l1 xs t1) (hl2 : SeqIs s.heap l2 ys t2)
    (h : ∀ h', ZipMade s.heap.objs.size s.heap h' l1 l2 t1 t2 → Q (.ref (s.heap.objs.size + 4)) { s with heap := h' }) : wpAny (model prog w) A (call (.type "zip") [.ref l1, .ref l2]) Q E s := by
  cases t1 <;> cases t2
  · exact RZ.call_zipT hl1 hl2 fun h' a b c d e _ g => h h' ⟨a, b, c, d, e, g⟩
  · obtain ⟨z4, m⟩ := made_of (h := s.heap) (l1 := l1) (l2 := l2) (o1 := { cls := .type "tuple_iterator", data := .fields #[.ref l1, .int 0 0] }) (o2 := { cls := .type "list_iterator", data := .fields #[.ref l2, .int 0 0] }) (t1 := false) (t2 := true) (fun h' e => ⟨_, e, rfl, rfl⟩) (fun h' e => ⟨_, e, rfl, rfl⟩) rfl rfl rfl
    refine callType_new F.called_zip (by decide) (F.typeCall_zip_2 _ _) (F.newCall_zip_2 _ _) (fun obj => F.args_object_init_3 obj _ _) F.entry_zip_new (meets_zipTL l1 l2 xs ys) ⟨hl1, hl2, ?_⟩
    show _ ∧ _
    rw [show (zTL5 s.heap l1 l2).objs.size = s.heap.objs.size + 4 from z4]
    exact ⟨⟨_, m.1, rfl⟩, h _ m⟩
  · obtain ⟨z4, m⟩ := made_of (h := s.heap) (l1 := l1) (l2 := l2) (o1 := { cls := .type "list_iterator", data := .fields #[.ref l1, .int 0 0] }) (o2 := { cls := .type "tuple_iterator", data := .fields #[.ref l2, .int 0 0] }) (t1 := true) (t2 := false) (fun h' e => ⟨_, e, rfl, rfl⟩) (fun h' e => ⟨_, e, rfl, rfl⟩) rfl rfl rfl
    refine callType_new F.called_zip (by decide) (F.typeCall_zip_2 _ _) (F.newCall_zip_2 _ _) (fun obj => F.args_object_init_3 obj _ _) F.entry_zip_new (meets_zipLT l1 l2 xs ys) ⟨hl1, hl2, ?_⟩
    show _ ∧ _
    rw [show (zLT5 s.heap l1 l2).objs.size = s.heap.objs.size + 4 from z4]
    exact ⟨⟨_, m.1, rfl⟩, h _ m⟩
  · exact call_zip_2 hl1 hl2 fun h' a b c d e _ g => h h' ⟨a, b, c, d, e, g⟩
end
end DL

namespace DL
open PySem PySem.Spec PyProof.Rows L2

def ItzM (K : PySem.W.Frag) (t1 t2 : Bool) (a b : Addr) : It :=
  ⟨fun i H => ∃ (xs ys : List V) (x y : V), SqA K H a xs t1 ∧ SqA K H b ys t2 ∧ xs[i]? = some x ∧ ys[i]? = some y,
    fun i H v H' => ∃ T x y, v = .ref T ∧ H T = none ∧ H' = upd H T (.tup [x, y]) ∧ (∀ xs, SqA K H a xs t1 → xs[i]? = some x) ∧ ∀ ys, SqA K H b ys t2 → ys[i]? = some y,
    fun i H => ∃ xs ys : List V, SqA K H a xs t1 ∧ SqA K H b ys t2 ∧ ((i = xs.length ∧ i ≤ ys.length) ∨ (i ≤ xs.length ∧ i = ys.length))⟩
theorem seqA {X : Cx} {pins : List (Addr × Obj)} {σ : L2.St} {H : Hp} {s : Shared} (I : Inv X pins σ H s) {a : Addr} {xs : List V} {t : Bool} (h : SqA X.K H a xs t) : ∃ its : List Value, Vals xs its ∧ SeqIs s.heap a its.toArray t := by
  cases t with
  | true =>
    obtain ⟨its, rv, p, _⟩ := I.list h
    exact ⟨its, rv, p.isList⟩
  | false =>
    obtain ⟨its, rv, p, _⟩ := I.tuple h
    exact ⟨its, rv, p⟩
theorem seqA_inj {X : Cx} {pins : List (Addr × Obj)} {σ : L2.St} {H : Hp} {s : Shared} (I : Inv X pins σ H s) {a : Addr} {xs ys : List V} {t : Bool} (h : SqA X.K H a xs t) (h' : SqA X.K H a ys t) : xs = ys := by
  cases t with
  | true => exact I.list_inj h h'
  | false => exact I.tuple_inj h h'
theorem turn_zipM {P : Program} {w : World} {K : PySem.W.Frag} {elts : List Expr} {kk : Nat} {tpos : Pos} {t1 t2 : Bool} {a b z TI TO i1 i2 : Addr} (D : ZipApart z TI TO i1 i2 a b) :
    Turn P w K (.Tuple elts kk tpos) (ItzM K t1 t2 a b) [z, TI, TO, i1, i2] z (fun i h => IsZip h z TI TO .none ∧ IsPair h TI (.ref i1) (.ref i2) ∧ (∃ x y, IsPair h TO x y) ∧ ItAt h i1 a i t1 ∧ ItAt h i2 b i t2) where
  mem := by simp
  obj := fun i h st c hc => by
    obtain ⟨hz, hTI, ⟨x, y, hTO⟩, h1, h2⟩ := st
    have e' : c = z ∨ c = TI ∨ c = TO ∨ c = i1 ∨ c = i2 := by simpa using hc
    rcases e' with q | q | q | q | q
    · rw [q]; exact ⟨_, hz, fun v q => nomatch q⟩
    · rw [q]; exact ⟨_, hTI, fun v q => nomatch q⟩
    · rw [q]; exact ⟨_, hTO, fun v q => nomatch q⟩
    · rw [q]; exact h1.there
    · rw [q]; exact h2.there
  keep := fun i h h' st k => by
    obtain ⟨hz, hTI, ⟨x, y, hTO⟩, h1, h2⟩ := st
    exact ⟨k z (by simp) _ hz, k TI (by simp) _ hTI, ⟨x, y, k TO (by simp) _ hTO⟩, h1.at' fun o q => k i1 (by simp) o q, h2.at' fun o q => k i2 (by simp) o q⟩
  item := by
    intro X hP hw hK hc i pins s σ H E I hf st hg
    subst hP hw hK
    obtain ⟨hz, hTI, ⟨x0, y0, hTO⟩, h1, h2⟩ := st
    obtain ⟨xs, ys, x, y, hqx, hqy, hx, hy⟩ := hg
    obtain ⟨its, rv, p⟩ := seqA I hqx
    obtain ⟨its2, rv2, p2⟩ := seqA I hqy
    obtain ⟨u, hu, ru⟩ := rv.get hx
    obtain ⟨u2, hu2, ru2⟩ := rv2.get hy
    have hzl : z < s.heap.objs.size := Heap.lt_size hz
    have sep : ZipSep2 z TI TO i1 i2 [i1, a] [i2, b] := ⟨D.TIz, D.TOz, D.TITO, D.TIi1, by simp, by simp [D.i1z.symm, D.l1z.symm], by simp [D.TOi1, D.l1TO.symm], D.TIi2, by simp, by simp [D.i2z.symm, D.l2z.symm], by simp [D.TOi2, D.l2TO.symm], by simp [D.i12, D.l2i1.symm], by simp [D.i12.symm, D.l1i2.symm]⟩
    have D1 := draws_of (prog := X.prog) (w := X.w) (A := X.A.in1) t1 (I.ok.hd hc) i1 a D.l1i1 its.toArray
    have D2 := draws_of (prog := X.prog) (w := X.w) (A := X.A.in1) t2 (I.ok.hd hc) i2 b D.l2i2 its2.toArray
    have l1 : i < its.toArray.size := by
      rw [List.size_toArray]
      exact (List.getElem?_eq_some_iff.mp hu).1
    have l2 : i < its2.toArray.size := by
      rw [List.size_toArray]
      exact (List.getElem?_eq_some_iff.mp hu2).1
    refine wpAny_pyNext_zipD2_item sep D1 D2 hz hTI hTO ⟨h1, p⟩ ⟨h2, p2⟩ l1 l2 fun v1 v2 h' tk e1 e2 z' TO' s1 s2 hT hsz hk => ?_
    have e1 : its.toArray[i]? = some v1 := e1
    have e2 : its2.toArray[i]? = some v2 := e2
    rw [List.getElem?_toArray, hu] at e1
    rw [List.getElem?_toArray, hu2] at e2
    cases e1
    cases e2
    refine ⟨_, rfl, wpAny_letOwnedTupleGo_zip (s := { s with heap := h', toks := tk }) z' fun h'' z'' sb => ?_⟩
    have hT2 : h''.get? s.heap.objs.size = some { cls := .type "tuple", data := .seq #[u, u2] } := (sb.2 _ (Nat.ne_of_gt hzl)).trans hT
    have new : ObjOk X.prog X.w (upd H s.heap.objs.size (.tup [x, y])) h'' s.heap.objs.size (.tup [x, y]) :=
      ⟨by show 2 ≤ sizeLine; decide, [u, u2], .cons ru (.cons ru2 .nil), ⟨_, hT2, rfl, _, rfl⟩⟩
    have I1 : Inv X pins σ (upd H s.heap.objs.size (.tup [x, y])) { s with heap := h'', toks := tk } :=
      I.turnedNew (t' := tk) (ch := [z, TI, TO, i1, i2]) (fun c o hb q => (sb.2 c (fun q' => hb (by simp [q']))).trans (hk c o (fun q' => hb (by simp [q'])) (fun q' => hb (by simp [q'])) (fun q' => hb (by simp [q'])) (fun q' => hb (by simp [q'])) q)) hf (Nat.le_refl _) new
    refine ⟨.ref s.heap.objs.size, _, I1, rfl, ⟨_, x, y, rfl, I.hok.fresh (Nat.le_refl _), rfl, fun l hl => by rw [seqA_inj I hl hqx]; exact hx, fun l hl => by rw [seqA_inj I hl hqy]; exact hy⟩, ⟨z'', ?_, ⟨u, u2, ?_⟩, ?_, ?_⟩, fun c hcm => ?_⟩
    · exact (sb.2 _ D.TIz).trans (hk _ _ D.TIz D.TITO D.TIi1 D.TIi2 hTI)
    · exact (sb.2 _ D.TOz).trans TO'
    · exact s1.1.at' fun o q => (sb.2 _ D.i1z).trans q
    · exact s2.1.at' fun o q => (sb.2 _ D.i2z).trans q
    · have hlt : c < s.heap.objs.size := by
        have e' : c = z ∨ c = TI ∨ c = TO ∨ c = i1 ∨ c = i2 := by simpa using hcm
        rcases e' with q | q | q | q | q
        · rw [q]; exact hzl
        · rw [q]; exact Heap.lt_size hTI
        · rw [q]; exact Heap.lt_size hTO
        · rw [q]; obtain ⟨_, e1, _⟩ := h1.there; exact Heap.lt_size e1
        · rw [q]; obtain ⟨_, e2, _⟩ := h2.there; exact Heap.lt_size e2
      rw [upd_ne (Nat.ne_of_lt hlt)]
      exact (hf c hcm).1
  done := by
    intro X hP hw hK hc i pins s σ H E I hf st hg
    subst hP hw hK
    obtain ⟨hz, hTI, ⟨x0, y0, hTO⟩, h1, h2⟩ := st
    obtain ⟨xs, ys, hqx, hqy, hend⟩ := hg
    obtain ⟨its, rv, p⟩ := seqA I hqx
    obtain ⟨its2, rv2, p2⟩ := seqA I hqy
    have l1 := rv.length
    have l2 := rv2.length
    have sep : ZipSep2 z TI TO i1 i2 [i1, a] [i2, b] := ⟨D.TIz, D.TOz, D.TITO, D.TIi1, by simp, by simp [D.i1z.symm, D.l1z.symm], by simp [D.TOi1, D.l1TO.symm], D.TIi2, by simp, by simp [D.i2z.symm, D.l2z.symm], by simp [D.TOi2, D.l2TO.symm], by simp [D.i12, D.l2i1.symm], by simp [D.i12.symm, D.l1i2.symm]⟩
    have D1 := draws_of (prog := X.prog) (w := X.w) (A := X.A.in1) t1 (I.ok.hd hc) i1 a D.l1i1 its.toArray
    have D2 := draws_of (prog := X.prog) (w := X.w) (A := X.A.in1) t2 (I.ok.hd hc) i2 b D.l2i2 its2.toArray
    exact wpAny_pyNext_zipD2_end sep D1 D2 hz hTI hTO ⟨h1, p⟩ ⟨h2, p2⟩ (by rw [List.size_toArray]; omega) (by rw [List.size_toArray]; omega) (by rw [List.size_toArray, List.size_toArray]; omega) fun h' tk hk => ⟨rfl, I.turnedL (t' := tk) (ch := [z, TI, TO, i1, i2]) (fun c o hb q =>
      hk c o (fun q' => hb (by simp [q'])) (fun q' => hb (by simp [q'])) (fun q' => hb (by simp [q'])) (fun q' => hb (by simp [q'])) q) hf⟩
  self := fun A i s Q E st h => wpAny_pyIter_zip st.1 h
def iZipM (K : PySem.W.Frag) (ta : TA) : TI := fun σ H R => ta σ H fun vs H1 => ∃ a b xs ys t1 t2, vs = [.ref a, .ref b] ∧ SqA K H1 a xs t1 ∧ SqA K H1 b ys t2 ∧ R (ItzM K t1 t2 a b) H1
theorem pi_zipM {X : Cx} {e e2 : Expr} {ta : TA} {p pos tpos : Pos} {elts : List Expr} {kk : Nat} (hg : Gl X "zip") (hm : X.mg "zip" = none) (ha : PA X [e, e2] ta)
    (hs : starEach [e, e2] X.env = (false, eval e X.env) :: starEach [e2] X.env) (hpl : (backTo pos (starEach [e2] X.env)).any (·.1) = false) :
    PI X (.Tuple elts kk tpos) (.Call (.Name "zip" p) [e, e2] [] pos) (iZipM X.K ta) := by
  refine ⟨fun pins s σ H R I h => ?_⟩
  refine Call_ (ld_blt I hg hm PyProof.Rows.boot_zip (PyProof.Rows.callWith_type1 (thn (ha.run pos pins s σ H _ I h) fun us s1 ⟨vs, H1, I1, r1, q1⟩ => ?_) hs hpl))
  obtain ⟨a, b, xs, ys, t1, t2, ex, hqx, hqy, q⟩ := q1
  subst ex
  obtain ⟨u, v, rfl, ru, rv⟩ := r1.two
  cases ru
  cases rv
  obtain ⟨its, rv1, p1⟩ := seqA I1 hqx
  obtain ⟨its2, rv2, p2⟩ := seqA I1 hqy
  refine call_zipM t1 t2 p1 p2 fun h' ⟨hz, hTI, hTO, h1, h2, hk⟩ => wpAny_pyIter_zip hz ?_
  have I2 : Inv X pins σ H1 { s1 with heap := h' } := I1.kept (t' := s1.toks) hk
  refine ⟨s1.heap.objs.size + 4, [s1.heap.objs.size + 4, s1.heap.objs.size + 2, s1.heap.objs.size + 3, s1.heap.objs.size, s1.heap.objs.size + 1], _, _, H1, rfl, I2, turn_zipM (PySem.W.ktu_apart s1.heap.objs.size a b p1.lt p2.lt), ⟨hz, hTI, ⟨_, _, hTO⟩, h1, h2⟩, fun c hcm => ?_, q⟩
  have e' : c = s1.heap.objs.size + 4 ∨ c = s1.heap.objs.size + 2 ∨ c = s1.heap.objs.size + 3 ∨ c = s1.heap.objs.size ∨ c = s1.heap.objs.size + 1 := by simpa using hcm
  have hle : s1.heap.objs.size ≤ c := by
    rcases e' with z | z | z | z | z
    · rw [z]; exact Nat.le_add_right _ _
    · rw [z]; exact Nat.le_add_right _ _
    · rw [z]; exact Nat.le_add_right _ _
    · rw [z]; exact Nat.le_refl _
    · rw [z]; exact Nat.le_add_right _ _
  exact I1.fpOk hle (I1.hok.fresh hle)
/-- a sequence that is looked at again in each turn -/
theorem seq_later {K : PySem.W.Frag} {m : Ad} {F : Hp} {h : AH} {H : Hp} (r : Rel K m F h H) {d : D} {v : V} {xs : List D} (hd : HasD K m F d v) (e : seqAt d h = some xs) : ∃ a t, v = .ref a ∧ (∃ vs, SqA K H a vs t) ∧ ∀ m' F' h' H', Ext m F nilH m' F' nilH → Rel K m' F' h' H' → okS (chkOf d h) h' → ∃ vs, SqA K H' a vs t ∧ HasDs K m' F' xs vs := by
  have viaL : listAt d h = some xs → ∃ a t, v = .ref a ∧ (∃ vs, SqA K H a vs t) ∧ ∀ m' F' h' H', Ext m F nilH m' F' nilH → Rel K m' F' h' H' → okS (chkOf d h) h' → ∃ vs, SqA K H' a vs t ∧ HasDs K m' F' xs vs := fun e => by
    obtain ⟨a, ea, k⟩ := list_later hd e
    obtain ⟨a', vs, ea', hs, _⟩ := listAt_at r hd e
    subst ea
    cases ea'
    exact ⟨a, true, rfl, ⟨vs, hs⟩, k⟩
  cases hd with
  | tup hf hs =>
    have : _ = xs := Option.some.inj e
    subst this
    exact ⟨_, false, rfl, ⟨_, SqT.of (r.sub _ _ hf)⟩, fun m' F' h' H' e' r' ok => ⟨_, SqT.of (r'.sub _ _ (e'.ls _ _ trivial hf)), hs.ext e'⟩⟩
  | lst hf hs => exact viaL e
  | lsk hf hs => exact viaL e
  | ref hm => exact viaL e
  | _ => cases e
def zipD : List D → List D → List D
  | x :: xs, y :: ys => .tup [x, y] :: zipD xs ys
  | _, _ => []
theorem zipD_get : ∀ {xs ys : List D} {i : Nat} {d : D}, (zipD xs ys)[i]? = some d → ∃ x y, xs[i]? = some x ∧ ys[i]? = some y ∧ d = .tup [x, y]
  | [], ys, i, d, e => by
    unfold zipD at e
    simp at e
  | x :: xs, [], i, d, e => by
    unfold zipD at e
    simp at e
  | x :: xs, y :: ys, 0, d, e => by
    unfold zipD at e
    rw [List.getElem?_cons_zero] at e
    cases e
    exact ⟨x, y, rfl, rfl, rfl⟩
  | x :: xs, y :: ys, i + 1, d, e => by
    unfold zipD at e
    rw [List.getElem?_cons_succ] at e
    obtain ⟨a, b, h1, h2, h3⟩ := zipD_get e
    exact ⟨a, b, by rw [List.getElem?_cons_succ]; exact h1, by rw [List.getElem?_cons_succ]; exact h2, h3⟩
theorem zipD_len : ∀ {xs ys : List D}, (zipD xs ys).length = min xs.length ys.length
  | [], ys => by simp [zipD]
  | x :: xs, [] => by simp [zipD]
  | x :: xs, y :: ys => by
    unfold zipD
    rw [List.length_cons, zipD_len, List.length_cons, List.length_cons]
    omega
def iZ (f1 f2 : ME) : MI := fun s h => (evs [f1, f2] s h).bind fun ds h => match ds with
  | [d, e] => match seqAt d h, seqAt e h with
    | some xs, some ys => .ok ⟨zipD xs ys, chkOf d h ++ chkOf e h⟩ h
    | _, _ => .bad
  | _ => .bad
theorem itr_zip {K : PySem.W.Frag} {m : Ad} {F : Hp} {a b : Addr} {t1 t2 : Bool} {xs ys : List D} {c1 c2 : List (Nat × List D)}
    (k1 : ∀ m' F' h' H', Ext m F nilH m' F' nilH → Rel K m' F' h' H' → okS c1 h' → ∃ vs, SqA K H' a vs t1 ∧ HasDs K m' F' xs vs)
    (k2 : ∀ m' F' h' H', Ext m F nilH m' F' nilH → Rel K m' F' h' H' → okS c2 h' → ∃ vs, SqA K H' b vs t2 ∧ HasDs K m' F' ys vs) : ItR K (ItzM K t1 t2 a b) ⟨zipD xs ys, c1 ++ c2⟩ m F := by
  have o1 : ∀ {h' : AH}, okS (c1 ++ c2) h' → okS c1 h' := fun ok p hp => ok p (List.mem_append_left _ hp)
  have o2 : ∀ {h' : AH}, okS (c1 ++ c2) h' → okS c2 h' := fun ok p hp => ok p (List.mem_append_right _ hp)
  refine ⟨fun i m' F' h' H' e' r' ok hi => ?_, fun i m' F' h' H' v H2 d e' r' ok y hd => ?_, fun i m' F' h' H' e' r' ok hi hi2 => ?_⟩
  · obtain ⟨vs, h1, h2⟩ := k1 m' F' h' H' e' r' (o1 ok)
    obtain ⟨ws, h3, h4⟩ := k2 m' F' h' H' e' r' (o2 ok)
    have hi : i < (zipD xs ys).length := hi
    rw [zipD_len] at hi
    obtain ⟨v, hv, _⟩ := h2.get (List.getElem?_eq_getElem (show i < xs.length by omega))
    obtain ⟨w, hw, _⟩ := h4.get (List.getElem?_eq_getElem (show i < ys.length by omega))
    exact ⟨vs, ws, v, w, h1, h3, hv, hw⟩
  · obtain ⟨vs, h1, h2⟩ := k1 m' F' h' H' e' r' (o1 ok)
    obtain ⟨ws, h3, h4⟩ := k2 m' F' h' H' e' r' (o2 ok)
    obtain ⟨T, x, y', rfl, hT, rfl, f1, f2⟩ := y
    obtain ⟨p, q, hp, hq, rfl⟩ := zipD_get (show (zipD xs ys)[i]? = some d from hd)
    obtain ⟨v1, hv1, r1⟩ := h2.get hp
    obtain ⟨v2, hv2, r2⟩ := h4.get hq
    have e1 := f1 vs h1
    have e2 := f2 ws h3
    rw [hv1] at e1
    rw [hv2] at e2
    cases e1
    cases e2
    obtain ⟨r3, e3, hF⟩ := tup_fresh r' hT (.cons r1 (.cons r2 .nil))
    exact ⟨_, e3, r3, .tup hF (.cons (r1.ext e3) (.cons (r2.ext e3) .nil))⟩
  · obtain ⟨vs, h1, h2⟩ := k1 m' F' h' H' e' r' (o1 ok)
    obtain ⟨ws, h3, h4⟩ := k2 m' F' h' H' e' r' (o2 ok)
    have hi : (zipD xs ys).length ≤ i := hi
    have hi2 : i ≤ (zipD xs ys).length := hi2
    rw [zipD_len] at hi hi2
    exact ⟨vs, ws, h1, h3, by
      have := h2.length
      have := h4.length
      omega⟩
section
variable {X : Cx} {W : Wi} {a b : Expr} {f1 f2 : ME} {pos : Pos}
theorem di_zip {p tpos : Pos} {elts : List Expr} {kk : Nat} (hm : X.mg "zip" = none) (h1 : DE X W a f1) (h2 : DE X W b f2) (hg : Gl X "zip" := by rfl)
    (hs : starEach [a, b] X.env = (false, eval a X.env) :: starEach [b] X.env := by rfl) (hs2 : starEach [b] X.env = (false, eval b X.env) :: starEach [] X.env := by rfl) (hpl : (backTo pos (starEach [b] X.env)).any (·.1) = false := by rfl) :
    DI X W (.Tuple elts kk tpos) (.Call (.Name "zip" p) [a, b] [] pos) (iZ f1 f2) := by
  obtain ⟨t, p1, i⟩ := (da_cons h1 (da_cons h2 da_nil hs2) hs).ex
  refine ⟨_, pi_zipM hg hm p1 hs hpl, fun m F h H s σ R r E q => ?_⟩
  refine i m F h H s σ _ r E (q.bind fun ds h' m' F' H' vs _ e' r' hds q => ?_)
  split at q
  · rename_i d e
    split at q
    · rename_i xs ys ex ey
      obtain ⟨x, y, rfl, hx, hy⟩ := hds.two
      obtain ⟨a1, t1, rfl, ⟨us, hq1⟩, k1⟩ := seq_later r' hx ex
      obtain ⟨a2, t2, rfl, ⟨ws, hq2⟩, k2⟩ := seq_later r' hy ey
      exact ⟨a1, a2, us, ws, t1, t2, rfl, hq1, hq2, q.ok r' (itr_zip k1 k2)⟩
    · exact q.elim
  · exact q.elim
/-- 0, 1, .. with the items of a list -/
def enumD : Nat → List D → List D
  | _, [] => []
  | n, x :: xs => .tup [.int (n : Nat), x] :: enumD (n + 1) xs
theorem enumD_get : ∀ {xs : List D} {n i : Nat} {d : D}, (enumD n xs)[i]? = some d → ∃ x, xs[i]? = some x ∧ d = .tup [.int ((n + i : Nat) : Int), x]
  | [], n, i, d, e => by
    unfold enumD at e
    simp at e
  | x :: xs, n, 0, d, e => by
    unfold enumD at e
    rw [List.getElem?_cons_zero] at e
    cases e
    exact ⟨x, rfl, rfl⟩
  | x :: xs, n, i + 1, d, e => by
    unfold enumD at e
    rw [List.getElem?_cons_succ] at e
    obtain ⟨y, h1, h2⟩ := enumD_get e
    refine ⟨y, by rw [List.getElem?_cons_succ]; exact h1, ?_⟩
    rw [h2]
    congr 3
    omega
theorem enumD_len : ∀ {xs : List D} {n : Nat}, (enumD n xs).length = xs.length
  | [], n => rfl
  | x :: xs, n => by
    unfold enumD
    rw [List.length_cons, enumD_len, List.length_cons]
def iE (f1 : ME) : MI := fun s h => (f1 s h).bind fun d h => match listAt d h with
  | some xs => .ok ⟨enumD 0 xs, chkOf d h⟩ h
  | none => .bad
theorem itr_enum {K : PySem.W.Frag} {m : Ad} {F : Hp} {a : Addr} {xs : List D} {c : List (Nat × List D)}
    (k : ∀ m' F' h' H', Ext m F nilH m' F' nilH → Rel K m' F' h' H' → okS c h' → ∃ vs, SqL K H' a vs ∧ HasDs K m' F' xs vs) : ItR K (Ite K a) ⟨enumD 0 xs, c⟩ m F := by
  refine ⟨fun i m' F' h' H' e' r' ok hi => ?_, fun i m' F' h' H' v H2 d e' r' ok y hd => ?_, fun i m' F' h' H' e' r' ok hi _ => ?_⟩
  · obtain ⟨vs, h1, h2⟩ := k m' F' h' H' e' r' ok
    have hi : i < (enumD 0 xs).length := hi
    rw [enumD_len] at hi
    obtain ⟨v, hv, _⟩ := h2.get (List.getElem?_eq_getElem hi)
    exact ⟨vs, v, h1, hv⟩
  · obtain ⟨vs, h1, h2⟩ := k m' F' h' H' e' r' ok
    obtain ⟨T, x, rfl, hT, rfl, f1⟩ := y
    obtain ⟨p, hp, rfl⟩ := enumD_get (show (enumD 0 xs)[i]? = some d from hd)
    obtain ⟨v1, hv1, r1⟩ := h2.get hp
    have e1 := f1 vs h1
    rw [hv1] at e1
    cases e1
    rw [Nat.zero_add]
    obtain ⟨r3, e3, hF⟩ := tup_fresh r' hT (HasDs.cons (HasD.int (i : Nat)) (.cons r1 .nil))
    exact ⟨_, e3, r3, .tup hF (.cons (.int _) (.cons (r1.ext e3) .nil))⟩
  · obtain ⟨vs, h1, h2⟩ := k m' F' h' H' e' r' ok
    have hi : (enumD 0 xs).length ≤ i := hi
    rw [enumD_len] at hi
    exact ⟨vs, h1, by rw [← h2.length]; exact hi⟩
theorem di_enum {p tpos : Pos} {elts : List Expr} {kk : Nat} (hm : X.mg "enumerate" = none) (h1 : DE X W a f1) (hg : Gl X "enumerate" := by rfl)
    (hs : starEach [a] X.env = (false, eval a X.env) :: starEach [] X.env := by rfl) (hs' : starEach [a] X.env = [(false, eval a X.env)] := by rfl) :
    DI X W (.Tuple elts kk tpos) (.Call (.Name "enumerate" p) [a] [] pos) (iE f1) := by
  obtain ⟨t, p1, i⟩ := h1.ex
  refine ⟨_, pi_enum hg hm (pa_cons p1 pa_nil hs) hs', fun m F h H s σ R r E q => ?_⟩
  refine i m F h H s σ _ r E (q.bind fun d h' m' F' H' v _ e' r' hd q => ?_)
  split at q
  · rename_i xs ex
    obtain ⟨a1, ea, k⟩ := list_later hd ex
    obtain ⟨a', vs, ea', hs, _⟩ := listAt_at r' hd ex
    subst ea
    cases ea'
    exact ⟨a1, vs, rfl, hs, q.ok r' (itr_enum k)⟩
  · exact q.elim
end
end DL

namespace DL
open PySem PySem.Spec PyProof.Rows L2

/-! ### a def that hands out a list that its caller may change -/
/-- the end of such a def: its own cells are frozen, but the one that it gives -/
def endFnC (n0 : Nat) (d : D) (h : AH) : Res D := match d with
  | .ref n => if n0 ≤ n then (match h[n]? with
    | some (.lst xs) => (match mapD (frz n0 (h.take n) 6) xs with
      | some ys => if (h.take n0).all (Cell.lo n0) = true then .ok (.ref n0) (h.take n0 ++ [.lst ys]) else .bad
      | none => .bad)
    | _ => .bad) else .bad
  | _ => .bad
section
variable {K : PySem.W.Frag} {m : Ad} {F H : Hp} {h : AH} {n0 n : Nat}
/-- what is frozen besides: the cells from n0 up to n -/
noncomputable def frP (m : Ad) (F H : Hp) (n0 n : Nat) : Hp := fun a => open Classical in if ∃ k, n0 ≤ k ∧ k ≠ n ∧ m[k]? = some a then H a else F a
theorem frP_in {a : Addr} {k : Nat} (h1 : n0 ≤ k) (h2 : k ≠ n) (h3 : m[k]? = some a) : frP m F H n0 n a = H a := by
  unfold frP
  rw [if_pos ⟨k, h1, h2, h3⟩]
theorem frP_out {a : Addr} (h : ¬ ∃ k, n0 ≤ k ∧ k ≠ n ∧ m[k]? = some a) : frP m F H n0 n a = F a := by
  unfold frP
  rw [if_neg h]
theorem frP_F (r : Rel K m F h H) {a : Addr} {o : HO} (e : F a = some o) : frP m F H n0 n a = some o := by
  have z : ¬ ∃ k, n0 ≤ k ∧ k ≠ n ∧ m[k]? = some a := fun ⟨k, _, _, hk⟩ => by
    obtain ⟨_, _, f⟩ := r.there hk
    rw [e] at f
    cases f
  rw [frP_out z]
  exact e
theorem frP_rd (r : Rel K m F h H) {a : Addr} {u : HO} (e : Rd F a u) : Rd (frP m F H n0 n) a u := by
  rcases e with e | ⟨o, e⟩
  · exact .inl (frP_F r e)
  · exact .inr ⟨o, frP_F r e⟩
theorem frP_sqL (r : Rel K m F h H) {a : Addr} {xs : List V} (e : SqL K F a xs) : SqL K (frP m F H n0 n) a xs := by
  rcases e with e | e
  · exact .inl (frP_rd r e)
  · exact .inr e
variable {m2 : Ad}
mutual
theorem lo_hasP (r : Rel K m F h H) (hm : ∀ (k : Nat) (a : Addr), k < n0 → m[k]? = some a → m2[k]? = some a) : ∀ {d : D} {v : V}, HasD K m F d v → d.lo n0 = true → HasD K m2 (frP m F H n0 n) d v
  | _, _, .non, _ => .non
  | _, _, .bl b, _ => .bl b
  | _, _, .int i, _ => .int i
  | _, _, .str x, _ => .str x
  | _, _, .tup e hs, p => .tup (frP_F r e) (los_hasP r hm hs (by simpa only [D.lo] using p))
  | _, _, .lst e hs, p => .lst (frP_F r e) (los_hasP r hm hs (by simpa only [D.lo] using p))
  | _, _, .lsk e hs, p => .lsk (frP_sqL r e) (los_hasP r hm hs (by simpa only [D.lo] using p))
  | _, _, .dK e hs, p => .dK (frP_rd r e) (loK_hasP r hm hs (by simpa only [D.lo] using p))
  | _, _, .dT e hs, p => .dT (frP_rd r e) (loT_hasP r hm hs (by simpa only [D.lo] using p))
  | _, _, .ref e, p => .ref (hm _ _ (of_decide_eq_true (by simpa only [D.lo] using p)) e)
theorem los_hasP (r : Rel K m F h H) (hm : ∀ (k : Nat) (a : Addr), k < n0 → m[k]? = some a → m2[k]? = some a) : ∀ {d : List D} {v : List V}, HasDs K m F d v → D.los n0 d = true → HasDs K m2 (frP m F H n0 n) d v
  | _, _, .nil, _ => .nil
  | _, _, .cons a b, p => by
    simp only [D.los, Bool.and_eq_true] at p
    exact .cons (lo_hasP r hm a p.1) (los_hasP r hm b p.2)
theorem loK_hasP (r : Rel K m F h H) (hm : ∀ (k : Nat) (a : Addr), k < n0 → m[k]? = some a → m2[k]? = some a) : ∀ {d : List (Key × D)} {v : List (Key × V)}, HasKs K m F d v → D.loK n0 d = true → HasKs K m2 (frP m F H n0 n) d v
  | _, _, .nil, _ => .nil
  | _, _, .cons a b, p => by
    simp only [D.loK, Bool.and_eq_true] at p
    exact .cons (lo_hasP r hm a p.1) (loK_hasP r hm b p.2)
theorem loT_hasP (r : Rel K m F h H) (hm : ∀ (k : Nat) (a : Addr), k < n0 → m[k]? = some a → m2[k]? = some a) : ∀ {d : List (List Key × D)} {v : List (List Key × V)}, HasTs K m F d v → D.loT n0 d = true → HasTs K m2 (frP m F H n0 n) d v
  | _, _, .nil, _ => .nil
  | _, _, .cons a b, p => by
    simp only [D.loT, Bool.and_eq_true] at p
    exact .cons (lo_hasP r hm a p.1) (loT_hasP r hm b p.2)
end
theorem frzP_has (r : Rel K m F h H) (hm : ∀ (k : Nat) (a : Addr), k < n0 → m[k]? = some a → m2[k]? = some a) : ∀ (j : Nat) {d : D} {v : V} {d' : D}, HasD K m F d v → frz n0 (h.take n) j d = some d' → HasD K m2 (frP m F H n0 n) d' v
  | 0, d, v, d', hd, e => by
    unfold frz at e
    split at e
    · rename_i p
      cases e
      exact lo_hasP r hm hd p
    · cases e
  | j + 1, d, v, d', hd, e => by
    have ih := @frzP_has r hm j
    unfold frz at e
    split at e
    · rename_i p
      cases e
      exact lo_hasP r hm hd p
    · rename_i p
      cases hd with
      | ref hk =>
        rename_i k a
        have hge : n0 ≤ k := by
          rcases Nat.lt_or_ge k n0 with z | z
          · exact absurd (by simp only [D.lo]; exact decide_eq_true z) p
          · exact z
        have at_ : ∀ {c : Cell}, (h.take n)[k]? = some c → k ≠ n ∧ h[k]? = some c := fun {c} hc => by
          have hlt : k < n := by
            have := (List.getElem?_eq_some_iff.mp hc).1
            rw [List.length_take] at this
            omega
          rw [List.getElem?_take_of_lt hlt] at hc
          exact ⟨by omega, hc⟩
        simp only at e
        split at e
        · rename_i xs hc
          obtain ⟨ys, e1, rfl⟩ := Option.map_eq_some_iff.mp e
          obtain ⟨hne, hc⟩ := at_ hc
          obtain ⟨_, o, ho, ok⟩ := r.cell k a _ hk hc
          cases o with
          | lst vs => exact .lst (by rw [frP_in hge hne hk]; exact ho) (mapD_has (fun a b => ih a b) (show HasDs K m F xs vs from ok) e1)
          | _ => exact False.elim ok
        · rename_i xs hc
          obtain ⟨ys, e1, rfl⟩ := Option.map_eq_some_iff.mp e
          obtain ⟨hne, hc⟩ := at_ hc
          obtain ⟨_, o, ho, ok⟩ := r.cell k a _ hk hc
          cases o with
          | dK vs => exact .dK (.inl (by rw [frP_in hge hne hk]; exact ho)) (mapP_hasK (fun a b => ih a b) (show HasKs K m F xs vs from ok) e1)
          | _ => exact False.elim ok
        · rename_i xs hc
          obtain ⟨ys, e1, rfl⟩ := Option.map_eq_some_iff.mp e
          obtain ⟨hne, hc⟩ := at_ hc
          obtain ⟨_, o, ho, ok⟩ := r.cell k a _ hk hc
          cases o with
          | dT vs => exact .dT (.inl (by rw [frP_in hge hne hk]; exact ho)) (mapP_hasT (fun a b => ih a b) (show HasTs K m F xs vs from ok) e1)
          | _ => exact False.elim ok
        · cases e
      | tup ha hs =>
        obtain ⟨ys, e1, rfl⟩ := Option.map_eq_some_iff.mp e
        exact .tup (frP_F r ha) (mapD_has (fun a b => ih a b) hs e1)
      | lst ha hs =>
        obtain ⟨ys, e1, rfl⟩ := Option.map_eq_some_iff.mp e
        exact .lst (frP_F r ha) (mapD_has (fun a b => ih a b) hs e1)
      | dK ha hs =>
        obtain ⟨ys, e1, rfl⟩ := Option.map_eq_some_iff.mp e
        exact .dK (frP_rd r ha) (mapP_hasK (fun a b => ih a b) hs e1)
      | dT ha hs =>
        obtain ⟨ys, e1, rfl⟩ := Option.map_eq_some_iff.mp e
        exact .dT (frP_rd r ha) (mapP_hasT (fun a b => ih a b) hs e1)
      | _ => cases e
theorem endFnC_post {W : Wi} {m0 : Ad} {F0 H0 : Hp} {d : D} {v : V} {Q : VK} (r : Rel K m F h H) (e : Ext m0 F0 H0 m F H) (hd : HasD K m F d v) (q : post K W (HasD K) m0 F0 H0 (endFnC m0.length d h) Q) : Q v H := by
  have ht : m.take m0.length = m0 := e.take
  have hle := e.len
  have hrl := r.len
  unfold endFnC at q
  split at q
  · rename_i n
    split at q
    · rename_i hn
      split at q
      · rename_i xs hc
        split at q
        · rename_i ys hys
          split at q
          · rename_i hall
            cases hd with
            | ref hm =>
              rename_i a
              obtain ⟨hFa, o, ho, ok⟩ := r.cell n a _ hm hc
              cases o with
              | lst vs =>
                have pre : ∀ (k : Nat) (b : Addr), k < m0.length → m[k]? = some b → (m0 ++ [a])[k]? = some b := fun k b hk hb => by
                  rw [List.getElem?_append_left hk, ← ht, List.getElem?_take_of_lt hk]
                  exact hb
                have hs : HasDs K (m0 ++ [a]) (frP m F H m0.length n) ys vs := mapD_has (fun a b => frzP_has r pre 6 a b) (show HasDs K m F xs vs from ok) hys
                have nota : ¬ ∃ k, m0.length ≤ k ∧ k ≠ n ∧ m[k]? = some a := fun ⟨k, _, hne, hk⟩ => hne (by
                  have h1 := List.getElem?_eq_some_iff.mp hk
                  have h2 := List.getElem?_eq_some_iff.mp hm
                  exact (List.getElem_inj r.nodup).mp (h1.2.trans h2.2.symm))
                have low : ∀ {k : Nat} {b : Addr}, k < m0.length → m[k]? = some b → ¬ ∃ j, m0.length ≤ j ∧ j ≠ n ∧ m[j]? = some b := fun {k b} hk hb ⟨j, hj, _, hjb⟩ => by
                  have h1 := List.getElem?_eq_some_iff.mp hjb
                  have h2 := List.getElem?_eq_some_iff.mp hb
                  have := (List.getElem_inj r.nodup).mp (h1.2.trans h2.2.symm)
                  omega
                have nd : (m0 ++ [a]).Nodup := by
                  rw [List.nodup_append]
                  refine ⟨by rw [← ht]; exact r.nodup.sublist (List.take_sublist _ _), by simp, fun x hx y hy => ?_⟩
                  simp at hy
                  subst hy
                  intro z
                  subst z
                  rw [← ht] at hx
                  obtain ⟨k, hk⟩ := List.mem_iff_getElem?.mp hx
                  have hlt : k < m0.length := by
                    have := (List.getElem?_eq_some_iff.mp hk).1
                    rw [List.length_take] at this
                    omega
                  rw [List.getElem?_take_of_lt hlt] at hk
                  have h1 := List.getElem?_eq_some_iff.mp hk
                  have h2 := List.getElem?_eq_some_iff.mp hm
                  have := (List.getElem_inj r.nodup).mp (h1.2.trans h2.2.symm)
                  omega
                have rr : Rel K (m0 ++ [a]) (frP m F H m0.length n) (h.take m0.length ++ [.lst ys]) H := by
                  refine ⟨fun b o q => ?_, by rw [List.length_append, List.length_append, List.length_take]; simp; omega, nd, fun k b c hk hc' => ?_⟩
                  · by_cases z : ∃ k, m0.length ≤ k ∧ k ≠ n ∧ m[k]? = some b
                    · obtain ⟨k, z1, z2, z3⟩ := z
                      rw [frP_in z1 z2 z3] at q
                      exact q
                    · rw [frP_out z] at q
                      exact r.sub _ _ q
                  · rcases Nat.lt_or_ge k m0.length with hlt | hge
                    · rw [List.getElem?_append_left hlt] at hk
                      rw [List.getElem?_append_left (by rw [List.length_take]; omega), List.getElem?_take_of_lt hlt] at hc'
                      have hk' : m[k]? = some b := by
                        rw [← ht, List.getElem?_take_of_lt hlt] at hk
                        exact hk
                      obtain ⟨f, o, ho', ok'⟩ := r.cell k b c hk' hc'
                      refine ⟨by rw [frP_out (low hlt hk')]; exact f, o, ho', ?_⟩
                      have hcl : Cell.lo m0.length c = true := List.all_eq_true.mp hall c (List.mem_of_getElem? (by rw [List.getElem?_take_of_lt hlt]; exact hc'))
                      cases c <;> cases o <;> first
                        | exact los_hasP r pre ok' hcl
                        | exact loK_hasP r pre ok' hcl
                        | exact loT_hasP r pre ok' hcl
                        | exact False.elim ok'
                    · have hkl : k = m0.length := by
                        have := (List.getElem?_eq_some_iff.mp hk).1
                        simp at this
                        omega
                      subst hkl
                      rw [List.getElem?_append_right (Nat.le_refl _)] at hk
                      rw [List.getElem?_append_right (by rw [List.length_take]; omega)] at hc'
                      simp at hk
                      subst hk
                      rw [List.length_take, show min m0.length h.length = m0.length by omega] at hc'
                      simp at hc'
                      subst hc'
                      exact ⟨by rw [frP_out nota]; exact hFa, .lst vs, ho, hs⟩
                refine q (m0 ++ [a]) _ H _ ⟨fun k b z => ?_, fun b u su z => frP_rd r (e.fz b u su z), fun b o so z => frP_F r (e.ls b o so z), fun b o lo z z1 z2 => ?_⟩ rr (.ref ?_)
                · rw [List.getElem?_append_left (List.getElem?_eq_some_iff.mp z).1]
                  exact z
                · obtain ⟨y1, y2, y3⟩ := e.fr b o lo z z1 z2
                  refine ⟨y1, fun w => ?_, ?_⟩
                  · rcases List.mem_append.mp w with w | w
                    · exact z1 w
                    · rw [List.mem_singleton.mp w] at y2
                      exact y2 (List.mem_of_getElem? hm)
                  · rw [frP_out fun ⟨k, _, _, hk⟩ => y2 (List.mem_of_getElem? hk)]
                    exact y3
                · rw [List.getElem?_append_right (Nat.le_refl _)]
                  simp
              | _ => exact ok.elim
          · exact q.elim
        · exact q.elim
      · exact q.elim
    · exact q.elim
  · exact q.elim
end
def fnC (n : Nat) (b : MS) : MF := fun ds h => match b (ds.map some ++ List.replicate (n - ds.length) none) h with
  | .rt d h' => endFnC h.length d h'
  | _ => .bad
theorem fnC_nx {n : Nat} {b : MS} : ∀ ds h z h', fnC n b ds h ≠ .exc z h' := fun ds h z h' e => by
  unfold fnC at e
  split at e
  · unfold endFnC at e
    split at e
    · split at e
      · split at e
        · split at e
          · split at e <;> cases e
          · cases e
        · cases e
      · cases e
    · cases e
  · cases e
/-- the def's body does what b says, its end is en -/
theorem dfn_gen {P : Program} {w : World} {K : PySem.W.Frag} {mg : Str → Option Value} {base : Heap} {k n np : Nat} {x qual : Str} {st : Stmt} {f : Addr} {fd : FuncData} {N ps : List Str} {b : MS} {M : MF} (T : L2.Fun K x qual st f fd) (S : FnScope N ps (defScope st)) (hm : mg x = some (.ref f)) (hn : N.length = n) (hp : ps.length = np) (hpn : np ≤ n)
    (bind : ∀ (kV doc pm : Value) (an : Option Addr) (cdv ct : Value) (us : List Value), us.length = ps.length → bindArgs (PySem.W.fnOf x qual (defArgs st) (defBody st) (defScope st) .none kV doc pm an cdv ct) ⟨us, []⟩ = pure (ps.zip us))
    (nx : ∀ ds h z h', M ds h ≠ .exc z h')
    (fit : ∀ (m m' : Ad) (F F' H H' : Hp) (h : AH) (ds : List D) (Q : VK), h.length = m.length → post K WF (HasD K) m F H (M ds h) Q →
      postS K WF m F H (b (ds.map some ++ List.replicate (n - ds.length) none) h) { nx := fun _ H' => Q .non H', rt := Q })
    (body : ∀ (f : Addr) (cdv : Value) (A : Around) (outer : List Env) (s : Shared) (H : Hp) (E : XK) (X : Cx), X = (cxOf CX0 P w K mg base N qual (defScope st) f cdv A outer s H E).nox → Room k X.A → X.A.guards = some [] → DSs X WF (defBody st) b) :
    DFn P w K mg base (k + 1) x np M := by
  obtain ⟨oc, od, kV, doc, pm, an, cdv, ct, osl, efd, lk, hcd⟩ := T.ex
  refine ⟨nx, f, fd, ps, hm, T.kp, T.binds bind, hp, fun A outer s H args us vs Q ds m F h hr hG e0 hb rv hl r hd q => ?_⟩
  subst efd
  have same : ∀ (b : Addr) (o : Obj), base.get? b = some o → s.heap.get? b = some o := fun b o e => (e0.bs b o e).1
  have hK : K.In s.heap := e0.mod.kin.keeps same
  have hlv : vs.length = ps.length := by rw [← hd.length, hl, hp]
  have kinds : ∀ y ∈ ps.zip us, (defScope st).names.lookup y.1 = some .local ∨ ((defScope st).names.lookup y.1 = some .cell ∧ ((cellsFrom (s.heap.objs.size + 1) (defScope st).names []).lookup y.1).isSome = true) := fun y hy => by
    have hy1 : y.1 ∈ ps := (List.of_mem_zip (a := y.1) (b := y.2) hy).1
    exact (S.par y.1 hy1).elim Or.inl fun z => Or.inr ⟨z, PySem.W.cellsFrom_some _ _ _ (Or.inl z)⟩
  refine codeAny_call_function hr.depth (hK _ _ lk) rfl S.co S.gen rfl (PySem.W.codeRec_of hK hcd) (hb _ _ _ _ ?_)
  refine wpAny_newFunctionEnv_cells S.kind kinds fun env henv s1 hx => ?_
  subst henv
  refine ⟨(e0.mod.nolimit.keeps same).keeps hx.toInCall.keep, codeAny_func ?_⟩
  obtain ⟨t, pt, it⟩ := (body f cdv A outer s H E0 _ rfl (hr.deeper _) hG).ex
  have I := inv_start (CX := CX0) (E := E0) S hr.hd e0 hlv rv hx
  have E := envR_start (N := N) hn (by rw [hlv, hp]; exact hpn) hd
  have go : t { nx := fun _ H' => Q .non H', rt := Q } (L2.start N vs) H := it m F h H _ _ _ r E (fit m m F F H H h ds Q r.len.symm q)
  refine wpAny_mono (PSs.nox (X := cxOf CX0 P w K mg base N qual (defScope st) f cdv A outer s H E0) pt |>.run [] s1 (L2.start N vs) H _ I go) (fun fl s' hs => ?_) fun e s' hs => hs
  cases fl with
  | ret u =>
    obtain ⟨v, σ', H', J, r2, q2⟩ := hs
    exact ⟨v, H', J.os, J.bare, J.base, J.hok, r2, q2⟩
  | next =>
    obtain ⟨σ', H', J, q2⟩ := hs
    exact ⟨.non, H', J.os, J.bare, J.base, J.hok, rfl, q2⟩
  | brk =>
    obtain ⟨σ', H', J, q2⟩ := hs
    exact False.elim q2
  | cont =>
    obtain ⟨σ', H', J, q2⟩ := hs
    exact False.elim q2
theorem dfn_ofC {P : Program} {w : World} {K : PySem.W.Frag} {mg : Str → Option Value} {base : Heap} {k n np : Nat} {x qual : Str} {st : Stmt} {f : Addr} {fd : FuncData} {N ps : List Str} {b : MS} (T : L2.Fun K x qual st f fd) (S : FnScope N ps (defScope st)) (hm : mg x = some (.ref f)) (hn : N.length = n) (hp : ps.length = np) (hpn : np ≤ n)
    (bind : ∀ (kV doc pm : Value) (an : Option Addr) (cdv ct : Value) (us : List Value), us.length = ps.length → bindArgs (PySem.W.fnOf x qual (defArgs st) (defBody st) (defScope st) .none kV doc pm an cdv ct) ⟨us, []⟩ = pure (ps.zip us))
    (body : ∀ (f : Addr) (cdv : Value) (A : Around) (outer : List Env) (s : Shared) (H : Hp) (E : XK) (X : Cx), X = (cxOf CX0 P w K mg base N qual (defScope st) f cdv A outer s H E).nox → Room k X.A → X.A.guards = some [] → DSs X WF (defBody st) b) :
    DFn P w K mg base (k + 1) x np (fnC n b) := by
  refine dfn_gen T S hm hn hp hpn bind fnC_nx (fun m m' F F' H H' h ds Q hl q => ?_) body
  unfold fnC at q
  rw [hl] at q
  cases hb : b (ds.map some ++ List.replicate (n - ds.length) none) h with
  | rt d h' =>
    rw [hb] at q
    exact fun m' F' H' v e' r' hd' => endFnC_post r' e' hd' q
  | nx s' h' => rw [hb] at q; exact q.elim
  | bk s' h' => rw [hb] at q; exact q.elim
  | ct s' h' => rw [hb] at q; exact q.elim
  | exc z h' => rw [hb] at q; exact q.elim
  | bad => rw [hb] at q; exact q.elim
end DL

namespace DL
open PySem PySem.Spec PyProof.Rows L2

/-! ### a block's end: its own cells are frozen -/
def endS (n0 : Nat) (s : Sl) (h : AH) (k : Sl → AH → Fl) : Fl := if (h.take n0).all (Cell.lo n0) = true then k (s.map fun o => o.bind (frz n0 h 6)) (h.take n0) else .bad
def sEnd (f : MS) : MS := fun s h => match f s h with
  | .nx s' h' => endS h.length s' h' .nx
  | .ct s' h' => endS h.length s' h' .ct
  | .bk s' h' => endS h.length s' h' .bk
  | r => r
theorem envR_frz {K : PySem.W.Frag} {m : Ad} {F H : Hp} {h : AH} {n0 : Nat} {s : Sl} {σ : L2.St} (r : Rel K m F h H) (E : EnvR K m F s σ) : EnvR K (m.take n0) (frF m F H n0) (s.map fun o => o.bind (frz n0 h 6)) σ := by
  refine ⟨by rw [List.length_map]; exact E.len, fun i d q => ?_⟩
  rw [List.getElem?_map] at q
  obtain ⟨o, ho, q⟩ := Option.map_eq_some_iff.mp q
  obtain ⟨d0, rfl, hf⟩ := Option.bind_eq_some_iff.mp q
  obtain ⟨v, hv, hd⟩ := E.at_ i d0 ho
  exact ⟨v, hv, frz_has r 6 hd hf⟩
theorem endS_post {K : PySem.W.Frag} {W : Wi} {m0 : Ad} {F0 H0 : Hp} {s : Sl} {h : AH} {k : Sl → AH → Fl} {Z : Ends} {P : L2.St → Hp → Prop} (hk : ∀ s h, postS K W m0 F0 H0 (k s h) Z → ∀ m' F' H' σ', Ext m0 F0 H0 m' F' H' → Rel K m' F' h H' → EnvR K m' F' s σ' → P σ' H')
    (q : postS K W m0 F0 H0 (endS m0.length s h k) Z) : ∀ m' F' H' σ', Ext m0 F0 H0 m' F' H' → Rel K m' F' h H' → EnvR K m' F' s σ' → P σ' H' := by
  intro m' F' H' σ' e r E
  unfold endS at q
  split at q
  · rename_i hall
    have ht : m'.take m0.length = m0 := e.take
    have hle := e.len
    have hrl := r.len
    have rr : Rel K (m'.take m0.length) (frF m' F' H' m0.length) (h.take m0.length) H' := frz_rel r hle (by rw [List.length_take]; omega) fun n c' hc' => by
      have hlt : n < m0.length := by
        have := (List.getElem?_eq_some_iff.mp hc').1
        rw [List.length_take] at this
        omega
      have hl := List.all_eq_true.mp hall c' (List.mem_of_getElem? hc')
      rw [List.getElem?_take_of_lt hlt] at hc'
      refine ⟨c', hc', fun o ok => ?_⟩
      cases c' <;> cases o <;> first
        | exact los_has r ok hl
        | exact loK_has r ok hl
        | exact loT_has r ok hl
        | exact False.elim ok
    have ee := envR_frz (n0 := m0.length) r E
    rw [ht] at rr ee
    exact hk _ _ q m0 _ H' σ' (frz_ext r e) rr ee
  · exact q.elim
theorem dss_end {X : Cx} {W : Wi} {sts : List Stmt} {f : MS} (h1 : DSs X W sts f) : DSs X W sts (sEnd f) := by
  obtain ⟨t, p, i⟩ := h1.ex
  refine ⟨t, p, fun m F h H s σ Z r E q => i m F h H s σ Z r E ?_⟩
  unfold sEnd at q
  rw [r.len.symm] at q
  cases hf : f s h with
  | nx s' h' =>
    rw [hf] at q
    exact endS_post (k := .nx) (Z := Z) (P := Z.nx) (fun s h q => q) q
  | ct s' h' =>
    rw [hf] at q
    exact endS_post (k := .ct) (Z := Z) (P := Z.ct) (fun s h q => q) q
  | bk s' h' =>
    rw [hf] at q
    exact endS_post (k := .bk) (Z := Z) (P := Z.bk) (fun s h q => q) q
  | rt d h' => rw [hf] at q; exact q
  | exc x h' => rw [hf] at q; exact q
  | bad => rw [hf] at q; exact q
end DL

namespace DL
open PySem PySem.Spec PyProof.Rows L2

/-! ### the law's own call -/
/-- from an abstract heap that may hold the script alone -/
theorem law_at {P : Program} {w : World} {K : PySem.W.Frag} {mg mb : Str → Option Value} {k : Nat} {fa a : Addr} {x : Str} {M : MF} {s : Shared} {vs : List Value} {ns : List Int} {H : Hp} {z : AH}
    (KX : K.In s.heap) (hns : s.heap.Ns mainGlobals mg) (hb : s.heap.Ns builtinsNs mb) (hbb : ∀ y : Str, y ≠ "__name__" → mb y = bootBuiltins y) (hlim : s.heap.NoLimit) (hg : s.gens = #[])
    (ha : s.heap.get? a = some { cls := .type "list", data := .seq vs.toArray }) (hr : Room k callerA) (hfa : mg x = some (.ref fa))
    (F : ∀ base : Heap, K.In base → base.Ns mainGlobals mg → DFn P w K mg base k x 1 M) (hM : M [.lsk (ns.map D.int)] [] = .ok (.bl true) z)
    (only : Only H) (hS : SqL K H a (ns.map V.int)) (hok : HOk P w H s.heap) (hA : ∀ b, H b ≠ none → b = a) (hK : H a ≠ none → K.lookup a = none) :
    codeAny (model P w) callerA (.call (.ref fa) ⟨[.ref a], []⟩) (fun r s' => r = .ok (.ret (.bool true)) ∧ OldK s.heap s'.heap ∧ s'.os = s.os ∧ AllBare s'.gens) s := by
  have clear : ∀ {b : Addr}, b ≠ a → H b = none := fun {b} hne => Classical.byContradiction fun q => hne (hA b q)
  have hid : ∀ {b : Addr} {o : Obj}, s.heap.get? b = some o → H b = none → (hidT s.heap H).get? b = some o := fun e n => hidT_get e n
  have dicts : ∀ {b : Addr} {o : Obj} {es : Array DictEntry} {ep : Nat}, s.heap.get? b = some o → o.data = .dict es ep → H b = none := fun {b o es ep} e d => clear fun hb => by
    subst hb
    rw [ha] at e
    cases e
    cases d
  have space : ∀ {b : Addr} {mm : Str → Option Value}, s.heap.Ns b mm → (hidT s.heap H).Ns b mm := fun {b mm} y => by
    obtain ⟨o, es, ep, e, d, r⟩ := y
    exact ⟨o, es, ep, hid e (dicts e d), d, r⟩
  have inK : K.In (hidT s.heap H) := fun b o e => hid (KX b o e) (by
    by_cases hb : b = a
    · subst hb
      refine Classical.byContradiction fun q => ?_
      rw [hK q] at e
      cases e
    · exact clear hb)
  obtain ⟨mc, c1, c2⟩ := hlim
  have mods : Mod K mg (hidT s.heap H) := ⟨inK, space hns, ⟨mb, space hb, hbb⟩, ⟨mc, space c1, c2⟩⟩
  have e0 : Env0 P w K mg (hidT s.heap H) callerA [] s H := ⟨rfl, mods, fun b o e => of_hidT e, Nat.le_of_eq (hidT_size _ _), trivial, fun b hb => absurd (show b ∈ ([] : List Addr) from hb) (by simp), hok, .of_eq hg⟩
  obtain ⟨f, fd, ps, h1, h2, h3, h4, run⟩ := (F _ inK (space hns)).ex
  have hf := hfa.symm.trans h1
  cases hf
  obtain ⟨p, rfl⟩ : ∃ p, ps = [p] := by
    match ps, h4 with
    | [p], _ => exact ⟨p, rfl⟩
  have bt : BindsTo s fd ⟨[.ref a], []⟩ ([p].zip [.ref a]) := h3 s [.ref a] KX rfl
  have rel : Rel K [] H [] H := ⟨fun _ _ q => q, rfl, List.nodup_nil, fun n b c q => by simp at q⟩
  have hds : HasDs K [] H [.lsk (ns.map D.int)] [.ref a] := .cons (.lsk hS (HasDs.of_ints ns)) .nil
  have hpost : post K WF (HasD K) [] H H (M [.lsk (ns.map D.int)] []) (fun v _ => v = .bl true) := by
    rw [hM]
    intro m' F' H' v _ _ hv
    cases hv
    rfl
  refine codeAny_mono (run callerA [] s H ⟨[.ref a], []⟩ [.ref a] [.ref a] _ _ _ _ _ hr rfl e0 bt (.cons rfl .nil) rfl rel hds hpost) fun r s' h => ?_
  match r, h with
  | .error e, h => exact False.elim h
  | .ok .next, h => exact False.elim h
  | .ok .brk, h => exact False.elim h
  | .ok .cont, h => exact False.elim h
  | .ok (.ret u), h =>
    obtain ⟨v, H', os, bare, un, hok', rel', q⟩ := h
    have q : v = .bl true := q
    subst q
    have eu : u = Value.bool true := rel'
    subst eu
    refine ⟨rfl, OldK.of_keep fun b o e => ?_, os, bare⟩
    rcases only b with q | ⟨ob, xs, q⟩
    · exact un.keep b o e q (by intro y; exact absurd (show b ∈ ([] : List Addr) from y) (by simp)) (by simp)
    · have b1 := (hok b _ q).1
      have b2 := (hok' b _ (un.frzs b ob _ q)).1
      rw [e] at b1
      cases b1
      exact b2
theorem law_dfn {P : Program} {w : World} {K : PySem.W.Frag} {mg mb : Str → Option Value} {k : Nat} {fa a : Addr} {x : Str} {M : MF} {s : Shared} {vs : List Value} {ns : List Int} {z : AH}
    (KX : K.In s.heap) (hns : s.heap.Ns mainGlobals mg) (hb : s.heap.Ns builtinsNs mb) (hbb : ∀ y : Str, y ≠ "__name__" → mb y = bootBuiltins y) (hlim : s.heap.NoLimit) (hg : s.gens = #[])
    (ha : s.heap.get? a = some { cls := .type "list", data := .seq vs.toArray }) (hi : IntsAre vs ns) (hl : ns.length ≤ sizeLine) (hr : Room k callerA) (hfa : mg x = some (.ref fa))
    (F : ∀ base : Heap, K.In base → base.Ns mainGlobals mg → DFn P w K mg base k x 1 M) (hM : M [.lsk (ns.map D.int)] [] = .ok (.bl true) z) :
    codeAny (model P w) callerA (.call (.ref fa) ⟨[.ref a], []⟩) (fun r s' => r = .ok (.ret (.bool true)) ∧ OldK s.heap s'.heap ∧ s'.os = s.os ∧ AllBare s'.gens) s := by
  have rv := vals_ints hi
  have lenV := hi.length
  by_cases hk : ∃ o, K.lookup a = some o
  · obtain ⟨o, hk⟩ := hk
    have e := KX a o hk
    rw [ha] at e
    cases e
    exact law_at (H := fun _ => none) KX hns hb hbb hlim hg ha hr hfa F hM (fun _ => .inl rfl) (.inr ⟨_, vs.toArray, _, hk, rfl, rfl, rfl, by rw [List.size_toArray, lenV]; exact hl, by simpa using rv⟩) (fun b u y => nomatch (show (none : Option HO) = some u from y)) (fun b y => absurd rfl y) fun y => absurd rfl y
  · have hk : K.lookup a = none := by
      cases q : K.lookup a with
      | none => rfl
      | some o => exact absurd ⟨o, q⟩ hk
    have at1 : ∀ b, (fun b => if b = a then some (HO.frz { cls := .type "list", data := .seq vs.toArray } (.lst (ns.map V.int))) else none : Hp) b = if b = a then some (HO.frz { cls := .type "list", data := .seq vs.toArray } (.lst (ns.map V.int))) else none := fun _ => rfl
    refine law_at (H := fun b => if b = a then some (.frz { cls := .type "list", data := .seq vs.toArray } (.lst (ns.map V.int))) else none) KX hns hb hbb hlim hg ha hr hfa F hM (fun b => ?_) (.inl (.inr ⟨{ cls := .type "list", data := .seq vs.toArray }, if_pos rfl⟩)) (fun b u y => ?_) (fun b y => ?_) fun _ => hk
    · by_cases hba : b = a
      · exact .inr ⟨_, _, if_pos hba⟩
      · exact .inl (if_neg hba)
    · have y := (at1 b).symm.trans y
      split at y
      · rename_i hba
        cases y
        subst hba
        exact ⟨ha, by rw [List.length_map]; exact hl, vs, _, rv, ha⟩
      · cases y
    · refine Classical.byContradiction fun hba => y ?_
      exact if_neg hba
/-- the law's walk -/
theorem walk_dfn {l : PySem.W.OpenLaw} {n k : Nat} {q : Program} {loose : List Str} {XP : (Str → Option Value) → Heap → Prop} {YP : World → Heap → Prop} {d : DefRec} {K : Params → PySem.W.Frag} {M : MF}
    (hn : l.most = some n) (hn2 : n ≤ sizeLine) (hdf : d.params.defaults = []) (hr : Room k callerA) (hY : ∀ (w : World) (h : Heap), YP w h → (K w.params).In h)
    (F : ∀ (w : World) (mg : Str → Option Value) (h : Heap), (K w.params).In h → h.Ns mainGlobals mg → ∀ base : Heap, (K w.params).In base → base.Ns mainGlobals mg → DFn l.prog w (K w.params) mg base k d.name 1 M)
    (hM : ∀ ns : List Int, ns.length ≤ n → ∃ z, M [.lsk (ns.map D.int)] [] = .ok (.bl true) z) :
    PySem.W.WalkO q loose XP YP l.row.toRowW d [] (fun f vs => PySem.call f vs) := by
  refine Att.attach_call hn hdf fun w s₀ s₁ mg mb fa o pm cd doc a vs ns G Y ho hd hcd hmg hobj hints hlen hg => ?_
  have KX := hY w _ Y
  obtain ⟨z, hz⟩ := hM ns hlen
  exact law_dfn KX G.T.g G.T.b G.T.builtins G.T.nolimit hg hobj hints (Nat.le_trans hlen hn2) hr hmg (F w mg _ KX G.T.g) hz
end DL

namespace DL
open PySem PySem.Spec PyProof.Rows L2

/-! ### what the printed derivations name -/
theorem hu1_of {k : Nat} {A : Around} (hr : Room k A) : A.units + 64 + 1 < cLine := by
  have := hr.un
  omega
section
variable {X : Cx} {W : Wi} {a b : Expr} {f f1 f2 : ME} {pos p : Pos} {x : Str}
/-- over a list, a tuple, a text -/
def iA (f : ME) : MI := fun s h => (f s h).bind fun d h => match d with
  | .tup xs => .ok ⟨xs, []⟩ h
  | .str z => .ok ⟨sigs z, []⟩ h
  | d => match listAt d h with
    | some xs => .ok ⟨xs, chkOf d h⟩ h
    | none => .bad
theorem di_any {tg e : Expr} (h1 : DE X W e f) : DI X W tg e (iA f) := by
  obtain ⟨t, p, i⟩ := h1.ex
  refine ⟨fun σ H R => iList X.K t σ H R ∨ iTup X.K t σ H R ∨ iStr t σ H R, ⟨fun pins s σ H R I h => h.elim ((pi_list p).run pins s σ H R I) fun h => h.elim ((pi_tup p).run pins s σ H R I) ((pi_str p).run pins s σ H R I)⟩, fun m F h H s σ R r E q => ?_⟩
  unfold iA at q
  cases hf : f s h with
  | bad => rw [hf] at q; exact q.elim
  | exc z h' =>
    refine .inl (i m F h H s σ _ r E ?_)
    rw [hf] at q ⊢
    exact q
  | ok d h' =>
    rw [hf] at q
    simp only [Res.bind] at q
    split at q
    · refine .inr (.inl (i m F h H s σ _ r E ?_))
      rw [hf]
      intro m' F' H' v e' r' ha
      cases ha with
      | tup hf hs => exact ⟨_, rfl, ⟨_, SqT.of (r'.sub _ _ hf)⟩, (q.ext e').ok r' (itr_tup (SqT.of hf) hs)⟩
    · refine .inr (.inr (i m F h H s σ _ r E ?_))
      rw [hf]
      intro m' F' H' v e' r' ha
      cases ha
      exact ⟨_, rfl, (q.ext e').ok r' itr_str⟩
    · refine .inl (i m F h H s σ _ r E ?_)
      rw [hf]
      intro m' F' H' v e' r' ha
      split at q
      · rename_i xs hx
        obtain ⟨a, ea, k⟩ := list_later ha hx
        obtain ⟨a', vs, ea', hs, _⟩ := listAt_at r' ha hx
        subst ea
        cases ea'
        exact ⟨a, rfl, ⟨vs, hs⟩, (q.ext e').ok r' (itr_list k)⟩
      · exact q.elim
/-- `*` of anything -/
def gMulX (b : Bool) : M2 := fun d e h => match d with
  | .tup xs => gMulT (.tup xs) e h
  | d => gMul b d e h
theorem sem_mulX {K : PySem.W.Frag} {bb : Bool} : Sem2 K W (fun x y H Q => rMulA x y H Q ∨ rRepTA K x y H Q) (gMulX bb) := fun m F h H x y d e Q r hd he q => by
  unfold gMulX at q
  split at q
  · exact .inr (sem_mulT m F h H x y _ e Q r hd he q)
  · exact .inl (sem_mul (b := bb) m F h H x y _ e Q r hd he q)
theorem de_mulX (bb : Bool) (h1 : DE X W a f1) (h2 : DE X W b f2) : DE X W (.BinOp a .Mult b pos) (e2 (gMulX bb) f1 f2) := de_op (OpR.or op_mulB op_repTA) sem_mulX h1 h2
section
variable {fs : List ME} {es : List Expr} {e : Expr}
theorem de_len (hm : X.mg "len" = none) (ha : DA X W [a] fs) (hg : Gl X "len" := by rfl) (he : starEach [a] X.env = (false, eval a X.env) :: starEach [] X.env := by rfl) (hpl : (backTo pos (starEach [] X.env)).any (·.1) = false := by rfl) : DE X W (.Call (.Name "len" p) [a] [] pos) (eL gLen fs) :=
  de_callB call_len sem_len hg hm PySem.boot_len ha (by decide) (by decide) he hpl
theorem de_abs (hm : X.mg "abs" = none) (ha : DA X W [a] fs) (hg : Gl X "abs" := by rfl) (he : starEach [a] X.env = (false, eval a X.env) :: starEach [] X.env := by rfl) (hpl : (backTo pos (starEach [] X.env)).any (·.1) = false := by rfl) : DE X W (.Call (.Name "abs" p) [a] [] pos) (eL gAbs fs) :=
  de_callB call_abs sem_abs hg hm PyProof.Rows.boot_abs ha (by decide) (by decide) he hpl
theorem de_intf (hm : X.mg "int" = none) (ha : DA X W [a] fs) (hg : Gl X "int" := by rfl) (he : starEach [a] X.env = (false, eval a X.env) :: starEach [] X.env := by rfl) (hpl : (backTo pos (starEach [] X.env)).any (·.1) = false := by rfl) : DE X W (.Call (.Name "int" p) [a] [] pos) (eL gInt fs) :=
  de_callTy call_int1 sem_int hg hm PyProof.Rows.boot_int ha (by decide) (by decide) he hpl
theorem de_listf (bb : Bool) (hm : X.mg "list" = none) (ha : DA X W [a] fs) (hg : Gl X "list" := by rfl) (he : starEach [a] X.env = (false, eval a X.env) :: starEach [] X.env := by rfl) (hpl : (backTo pos (starEach [] X.env)).any (·.1) = false := by rfl) : DE X W (.Call (.Name "list" p) [a] [] pos) (eL (gList bb) fs) :=
  de_callTy call_list_of sem_list hg hm PyProof.Rows.boot_list ha (by decide) (by decide) he hpl
theorem de_tupf (hm : X.mg "tuple" = none) (ha : DA X W [a] fs) (hg : Gl X "tuple" := by rfl) (he : starEach [a] X.env = (false, eval a X.env) :: starEach [] X.env := by rfl) (hpl : (backTo pos (starEach [] X.env)).any (·.1) = false := by rfl) : DE X W (.Call (.Name "tuple" p) [a] [] pos) (eL gTup fs) :=
  de_callTy call_tuple_of sem_tup hg hm PyProof.Rows.boot_tuple ha (by decide) (by decide) he hpl
theorem de_sumf (hc : X.calm = true) (hm : X.mg "sum" = none) (ha : DA X W [a] fs) (hg : Gl X "sum" := by rfl) (he : starEach [a] X.env = (false, eval a X.env) :: starEach [] X.env := by rfl) (hpl : (backTo pos (starEach [] X.env)).any (·.1) = false := by rfl) : DE X W (.Call (.Name "sum" p) [a] [] pos) (eL gSum fs) :=
  de_callB (cr_sum hc) sem_sum hg hm PyProof.Rows.boot_sum ha (by decide) (by decide) he hpl
theorem de_allf (hc : X.calm = true) (hm : X.mg "all" = none) (ha : DA X W [a] fs) (hg : Gl X "all" := by rfl) (he : starEach [a] X.env = (false, eval a X.env) :: starEach [] X.env := by rfl) (hpl : (backTo pos (starEach [] X.env)).any (·.1) = false := by rfl) : DE X W (.Call (.Name "all" p) [a] [] pos) (eL gAll fs) :=
  de_callB (cr_all hc) sem_all hg hm PyProof.Rows.boot_all ha (by decide) (by decide) he hpl
theorem de_anyf (hc : X.calm = true) (hm : X.mg "any" = none) (ha : DA X W [a] fs) (hg : Gl X "any" := by rfl) (he : starEach [a] X.env = (false, eval a X.env) :: starEach [] X.env := by rfl) (hpl : (backTo pos (starEach [] X.env)).any (·.1) = false := by rfl) : DE X W (.Call (.Name "any" p) [a] [] pos) (eL gAny fs) :=
  de_callB (cr_any hc) sem_any hg hm PyProof.Rows.boot_any ha (by decide) (by decide) he hpl
theorem de_max1 (hc : X.calm = true) (hm : X.mg "max" = none) (ha : DA X W [a] fs) (hg : Gl X "max" := by rfl) (he : starEach [a] X.env = (false, eval a X.env) :: starEach [] X.env := by rfl) (hpl : (backTo pos (starEach [] X.env)).any (·.1) = false := by rfl) : DE X W (.Call (.Name "max" p) [a] [] pos) (eL gMax1 fs) :=
  de_callB (cr_max hc) sem_max1 hg hm PyProof.Rows.boot_max ha (by decide) (by decide) he hpl
theorem de_min1 (hc : X.calm = true) (hm : X.mg "min" = none) (ha : DA X W [a] fs) (hg : Gl X "min" := by rfl) (he : starEach [a] X.env = (false, eval a X.env) :: starEach [] X.env := by rfl) (hpl : (backTo pos (starEach [] X.env)).any (·.1) = false := by rfl) : DE X W (.Call (.Name "min" p) [a] [] pos) (eL gMin1 fs) :=
  de_callB (cr_min hc) sem_min1 hg hm PyProof.Rows.boot_min ha (by decide) (by decide) he hpl
theorem de_max2 (hc : X.calm = true) (hm : X.mg "max" = none) (ha : DA X W [a, b] fs) (hg : Gl X "max" := by rfl) (he : starEach [a, b] X.env = (false, eval a X.env) :: starEach [b] X.env := by rfl) (hpl : (backTo pos (starEach [b] X.env)).any (·.1) = false := by rfl) : DE X W (.Call (.Name "max" p) [a, b] [] pos) (eL gMax2 fs) :=
  de_callB (call_max2 hc) sem_max2 hg hm PyProof.Rows.boot_max ha (by decide) (by decide) he hpl
theorem de_min2 (hc : X.calm = true) (hm : X.mg "min" = none) (ha : DA X W [a, b] fs) (hg : Gl X "min" := by rfl) (he : starEach [a, b] X.env = (false, eval a X.env) :: starEach [b] X.env := by rfl) (hpl : (backTo pos (starEach [b] X.env)).any (·.1) = false := by rfl) : DE X W (.Call (.Name "min" p) [a, b] [] pos) (eL gMin2 fs) :=
  de_callB (call_min2 hc) sem_min2 hg hm PyProof.Rows.boot_min ha (by decide) (by decide) he hpl
theorem de_repr (hG : X.A.guards = some []) (hu : X.A.units + 64 < cLine) (hm : X.mg "repr" = none) (ha : DA X W [a] fs) (hg : Gl X "repr" := by rfl) (he : starEach [a] X.env = (false, eval a X.env) :: starEach [] X.env := by rfl) (hpl : (backTo pos (starEach [] X.env)).any (·.1) = false := by rfl) : DE X W (.Call (.Name "repr" p) [a] [] pos) (eL gRepr fs) :=
  de_callB (cr_repr hG hu) sem_repr hg hm PyProof.Rows.boot_repr ha (by decide) (by decide) he hpl
theorem de_sortf (bb : Bool) (hu : X.A.units + 64 < cLine) (hm : X.mg "sorted" = none) (ha : DA X W [a] fs) (hg : Gl X "sorted" := by rfl) (he : starEach [a] X.env = (false, eval a X.env) :: starEach [] X.env := by rfl) (hpl : (backTo pos (starEach [] X.env)).any (·.1) = false := by rfl) : DE X W (.Call (.Name "sorted" p) [a] [] pos) (eL (gSorted bb) fs) :=
  de_callB (cr_sortedD hu) sem_sorted hg hm PyProof.Rows.boot_sorted ha (by decide) (by decide) he hpl
theorem de_dictT (bb : Bool) (hc : X.calm = true) (hu : X.A.units + 64 < cLine) (hm : X.mg "dict" = none) (ha : DA X W [a] fs) (hg : Gl X "dict" := by rfl) (he : starEach [a] X.env = (false, eval a X.env) :: starEach [] X.env := by rfl) (hpl : (backTo pos (starEach [] X.env)).any (·.1) = false := by rfl) : DE X W (.Call (.Name "dict" p) [a] [] pos) (eL (gDictT bb) fs) :=
  de_callTy (cr_dictT hc hu) sem_dictT hg hm PyProof.Rows.boot_dict ha (by decide) (by decide) he hpl
end
/-! ### list(range(..)), tuple(range(..)) -/
def rgOk (a b : Int) : Bool := decide (-(2 ^ 62) ≤ a ∧ a < 2 ^ 62 ∧ -(2 ^ 62) ≤ b ∧ b < 2 ^ 62 ∧ (b - a).toNat ≤ 2 ^ 24)
theorem has_rg {K : PySem.W.Frag} {m : Ad} {F : Hp} (a b : Int) : HasDs K m F (rngD a (b - a).toNat) (rgV a b) := by
  unfold rngD rgV
  generalize List.range (b - a).toNat = l
  induction l with
  | nil => exact .nil
  | cons x l ih => exact .cons (.int _) ih
def eLR1 (bb : Bool) (f : ME) : ME := fun s h => (f s h).bind fun d h => match d with
  | .int n => if rgOk 0 n = true then mkL bb (rngD 0 (n - 0).toNat) h else .bad
  | _ => .bad
def eTR1 (f : ME) : ME := fun s h => (f s h).bind fun d h => match d with
  | .int n => if rgOk 0 n = true then .ok (.tup (rngD 0 (n - 0).toNat)) h else .bad
  | _ => .bad
theorem de_listRg1 (bb : Bool) {p2 q2 : Pos} (hc : X.calm = true) (hm : X.mg "list" = none) (hm2 : X.mg "range" = none) (ha : DE X W a f) (hg : Gl X "list" := by rfl) (hg2 : Gl X "range" := by rfl) (na : starEach [a] X.env = (false, eval a X.env) :: starEach [] X.env := by rfl)
    (na2 : starEach [.Call (.Name "range" p2) [a] [] q2] X.env = (false, eval (.Call (.Name "range" p2) [a] [] q2) X.env) :: starEach [] X.env := by rfl) : DE X W (.Call (.Name "list" p) [.Call (.Name "range" p2) [a] [] q2] [] pos) (eLR1 bb f) := by
  obtain ⟨t, pp, i⟩ := ha.ex
  refine ⟨_, pe_listRg hc hg hm (prg_1 hg2 hm2 pp na) na2, fun m F h H s σ Q r E q => ?_⟩
  refine i m F h H s σ _ r E (q.bind fun d h' m' F' H' v _ e' r' hd q => ?_)
  split at q
  · split at q
    · rename_i hok
      cases hd
      exact ⟨_, rfl, show _ ∧ _ from of_decide_eq_true hok, q.mkL r' (has_rg 0 _)⟩
    · exact q.elim
  · exact q.elim
theorem de_tupRg1 {p2 q2 : Pos} (hc : X.calm = true) (hm : X.mg "tuple" = none) (hm2 : X.mg "range" = none) (ha : DE X W a f) (hg : Gl X "tuple" := by rfl) (hg2 : Gl X "range" := by rfl) (na : starEach [a] X.env = (false, eval a X.env) :: starEach [] X.env := by rfl)
    (na2 : starEach [.Call (.Name "range" p2) [a] [] q2] X.env = (false, eval (.Call (.Name "range" p2) [a] [] q2) X.env) :: starEach [] X.env := by rfl) : DE X W (.Call (.Name "tuple" p) [.Call (.Name "range" p2) [a] [] q2] [] pos) (eTR1 f) := by
  obtain ⟨t, pp, i⟩ := ha.ex
  refine ⟨_, pe_tupRg hc hg hm (prg_1 hg2 hm2 pp na) na2, fun m F h H s σ Q r E q => ?_⟩
  refine i m F h H s σ _ r E (q.bind fun d h' m' F' H' v _ e' r' hd q => ?_)
  split at q
  · split at q
    · rename_i hok
      cases hd
      exact ⟨_, rfl, show _ ∧ _ from of_decide_eq_true hok, q.newT r' (has_rg 0 _)⟩
    · exact q.elim
  · exact q.elim
end
end DL

namespace K62
open PySem PySem.Spec PyProof.Rows L2 DL

def topS (i : Nat) : Stmt := PySem.Challenge.pw_unwrittenrow_k62_tracks_and_values.main.body.getD i (.Pass ⟨0, 0, 0, 0⟩)
section
variable {P : Program} {w : World} {K : PySem.W.Frag} {mg : Str → Option Value} {base : Heap}
noncomputable def b_led : MS := (sSeq (sSet 3 (e2 (gMulX true) (eLst false [(eC (.int 0))]) (eL gLen [(eVar 1)])))
    (sSeq (sFgt [4, 5, 6, 7] (sFor (iA (e2 gIx (eVar 0) (eC (.int 3)))) (gT 4 (gsC (gN 4) (gsC (gN 5) (gsC (gN 6) (gsC (gN 7) gsN))))) (sFgt [4, 5, 6, 7] (sIf (tOrM (tB_ (e2 (gIsN true) (eVar 2) (eC .non))) (tB_ (e2 (gEq true) (eVar 5) (eVar 2)))) (sAugS gIAdd (eVar 3) (eVar 6) (e2 (gMulX false) (e2 gIx (eVar 1) (eVar 4)) (eVar 7))) sNil))))
    (sRet (eVar 3))))
noncomputable def m_led : MF := fnB 8 b_led
abbrev s_led : Stmt := topS 1
theorem sc_led : FnScope ["model", "row", "letter", "found", "p", "its", "q", "w"] ["model", "row", "letter"] (defScope s_led) := ⟨rfl, rfl, rfl, by decide +kernel, rfl, by decide +kernel, by decide +kernel⟩
theorem ok_led {f : Addr} {fd : FuncData} (T : L2.Fun K "led" "led" s_led f fd) (hmg : mg "led" = some (.ref f)) (z_len : mg "len" = none) : DFn P w K mg base 1 "led" 3 m_led :=
  dfn_of T sc_led hmg rfl rfl (by decide) (fun _ _ _ _ _ _ us hl => match us, hl with | [_, _, _], _ => rfl) fun f cdv A outer s H E X hX hr hG => by
    subst hX
    have hu := hr.units
    have hu1 := hu1_of hr
    have nd := sc_led.nd
    exact (dss_cons (ds_set 3 nd (de_mulX true (de_lst false (da_cons de_int da_nil)) (de_len z_len (da_cons (de_var 1) da_nil))))
    (dss_cons (ds_fgt [4, 5, 6, 7] (ds_for PassesOwn.never rfl (di_any (de_sub_ (de_var 0) de_int)) (dg_tup rfl (dgs_cons (dg_name 4 nd) (dgs_cons (dg_name 5 nd) (dgs_cons (dg_name 6 nd) (dgs_cons (dg_name 7 nd) dgs_nil))))) (dss_one (ds_fgt [4, 5, 6, 7] (ds_if (DW.dt (dw_or (DC.dt (dc_is (de_var 2) de_non)) (dw_or1 (DC.dt (dc_eq hu (de_var 5) (de_var 2)))))) (dss_one (ds_augS (de_mulX false (de_sub_ (de_var 1) (de_var 4)) (de_var 7)) (de_var 3) (de_var 6))) dss_nil)))))
    (dss_one (ds_ret (de_var 3)))))
noncomputable def b_first_rows : MS := (sRet (eTup [(eL (gList false) [(e2 gIx (eVar 0) (eC (.int 1)))]), (eL (gList false) [(e2 gIx (eVar 1) (eC (.int 1)))]), (eL (gList false) [(e2 gIx (eVar 1) (eC (.int 1)))]), (eL (gList false) [(e2 gIx (eVar 0) (eC (.int 1)))])]))
noncomputable def m_first_rows : MF := fnB 2 b_first_rows
abbrev s_first_rows : Stmt := topS 3
theorem sc_first_rows : FnScope ["one", "other"] ["one", "other"] (defScope s_first_rows) := ⟨rfl, rfl, rfl, by decide +kernel, rfl, by decide +kernel, by decide +kernel⟩
theorem ok_first_rows {f : Addr} {fd : FuncData} (T : L2.Fun K "first_rows" "first_rows" s_first_rows f fd) (hmg : mg "first_rows" = some (.ref f)) (z_list : mg "list" = none) : DFn P w K mg base 1 "first_rows" 2 m_first_rows :=
  dfn_of T sc_first_rows hmg rfl rfl (by decide) (fun _ _ _ _ _ _ us hl => match us, hl with | [_, _], _ => rfl) fun f cdv A outer s H E X hX hr hG => by
    subst hX
    have hu := hr.units
    have hu1 := hu1_of hr
    have nd := sc_first_rows.nd
    exact (dss_one (ds_ret (de_tup (da_cons (de_listf false z_list (da_cons (de_sub_ (de_var 0) de_int) da_nil)) (da_cons (de_listf false z_list (da_cons (de_sub_ (de_var 1) de_int) da_nil)) (da_cons (de_listf false z_list (da_cons (de_sub_ (de_var 1) de_int) da_nil)) (da_cons (de_listf false z_list (da_cons (de_sub_ (de_var 0) de_int) da_nil)) da_nil)))))))
noncomputable def b_next_rows : MS := (sSeq (sAsg (eVar 2) (gT 4 (gsC (gN 4) (gsC (gN 5) (gsC (gN 6) (gsC (gN 7) gsN))))))
    (sRet (eTup [(eL m_led [(eVar 0), (eVar 4), (eVar 3)]), (eL m_led [(eVar 1), (eVar 5), (eC .non)]), (eL m_led [(eVar 1), (eVar 6), (eVar 3)]), (eL m_led [(eVar 0), (eVar 7), (eC .non)])])))
noncomputable def m_next_rows : MF := fnB 8 b_next_rows
abbrev s_next_rows : Stmt := topS 4
theorem sc_next_rows : FnScope ["one", "other", "rows", "letter", "mine", "all_other", "its", "all_mine"] ["one", "other", "rows", "letter"] (defScope s_next_rows) := ⟨rfl, rfl, rfl, by decide +kernel, rfl, by decide +kernel, by decide +kernel⟩
theorem ok_next_rows {f : Addr} {fd : FuncData} (T : L2.Fun K "next_rows" "next_rows" s_next_rows f fd) (hmg : mg "next_rows" = some (.ref f)) (d_led : DFn P w K mg base 1 "led" 3 m_led) : DFn P w K mg base 2 "next_rows" 4 m_next_rows :=
  dfn_of T sc_next_rows hmg rfl rfl (by decide) (fun _ _ _ _ _ _ us hl => match us, hl with | [_, _, _, _], _ => rfl) fun f cdv A outer s H E X hX hr hG => by
    subst hX
    have hu := hr.units
    have hu1 := hu1_of hr
    have nd := sc_next_rows.nd
    exact (dss_cons (ds_asg (de_var 2) (dg_tup rfl (dgs_cons (dg_name 4 nd) (dgs_cons (dg_name 5 nd) (dgs_cons (dg_name 6 nd) (dgs_cons (dg_name 7 nd) dgs_nil))))))
    (dss_one (ds_ret (de_tup (da_cons (de_call (d_led.mono (by decide)) hr hG (da_cons (de_var 0) (da_cons (de_var 4) (da_cons (de_var 3) da_nil)))) (da_cons (de_call (d_led.mono (by decide)) hr hG (da_cons (de_var 1) (da_cons (de_var 5) (da_cons de_non da_nil)))) (da_cons (de_call (d_led.mono (by decide)) hr hG (da_cons (de_var 1) (da_cons (de_var 6) (da_cons (de_var 3) da_nil)))) (da_cons (de_call (d_led.mono (by decide)) hr hG (da_cons (de_var 0) (da_cons (de_var 7) (da_cons de_non da_nil)))) da_nil))))))))
noncomputable def b_track_by : MS := (sSeq (sAsg (eVar 0) (gT 4 (gsC (gN 1) (gsC (gN 2) (gsC (gN 3) (gsC (gN 4) gsN))))))
    (sSeq (sSet 5 (eLc2 false (iA (eVar 1)) (gN 7) tYesM (iA (eVar 2)) (gN 8) tYesM (e2 (gMulX false) (eVar 7) (eVar 8)) [6, 7, 8] [8]))
    (sRet (eL gTup [(e2 (gAdd false) (eVar 5) (eLc2 false (iA (eVar 4)) (gN 7) tYesM (iA (eVar 3)) (gN 8) tYesM (e2 (gMulX false) (eVar 7) (eVar 8)) [6, 7, 8] [8]))]))))
noncomputable def m_track_by : MF := fnB 9 b_track_by
abbrev s_track_by : Stmt := topS 5
theorem sc_track_by : FnScope ["rows", "mine", "all_other", "its", "all_mine", "first", ".0", "x", "y"] ["rows"] (defScope s_track_by) := ⟨rfl, rfl, rfl, by decide +kernel, rfl, by decide +kernel, by decide +kernel⟩
theorem ok_track_by {f : Addr} {fd : FuncData} (T : L2.Fun K "track_by" "track_by" s_track_by f fd) (hmg : mg "track_by" = some (.ref f)) (z_tuple : mg "tuple" = none) : DFn P w K mg base 1 "track_by" 1 m_track_by :=
  dfn_of T sc_track_by hmg rfl rfl (by decide) (fun _ _ _ _ _ _ us hl => match us, hl with | [_], _ => rfl) fun f cdv A outer s H E X hX hr hG => by
    subst hX
    have hu := hr.units
    have hu1 := hu1_of hr
    have nd := sc_track_by.nd
    exact (dss_cons (ds_asg (de_var 0) (dg_tup rfl (dgs_cons (dg_name 1 nd) (dgs_cons (dg_name 2 nd) (dgs_cons (dg_name 3 nd) (dgs_cons (dg_name 4 nd) dgs_nil))))))
    (dss_cons (ds_setLc2 (own := [(".0", 6), ("x", 7), ("y", 8)]) (vs1 := [8]) false 5 rfl nd (di_any (de_var 1)) (by rfl) (fun _ _ _ _ _ => (dg_name 7 nd)) (fun _ _ _ _ _ => dts_nil) (fun _ _ _ _ _ => (di_any (de_var 2))) (fun _ _ _ _ _ => (dg_name 8 nd)) (fun _ _ _ _ _ => dts_nil) (fun _ _ _ _ _ => (de_mulX false (de_var 7) (de_var 8))) (sw_true rfl rfl rfl (by decide +kernel)))
    (dss_one (ds_ret (de_tupf z_tuple (da_cons (de_add false (de_var 5) (de_lc2 (own := [(".0", 6), ("x", 7), ("y", 8)]) (vs1 := [8]) false rfl nd (di_any (de_var 4)) (by rfl) (fun _ _ _ _ _ => (dg_name 7 nd)) (fun _ _ _ _ _ => dts_nil) (fun _ _ _ _ _ => (di_any (de_var 3))) (fun _ _ _ _ _ => (dg_name 8 nd)) (fun _ _ _ _ _ => dts_nil) (fun _ _ _ _ _ => (de_mulX false (de_var 7) (de_var 8))))) da_nil))))))
noncomputable def b_track_of : MS := (sSeq (sSet 3 (eL m_first_rows [(eVar 0), (eVar 1)]))
    (sSeq (sFgt [4] (sFor (iA (eVar 2)) (gN 4) (sFgt [4] (sSet 3 (eL m_next_rows [(eVar 0), (eVar 1), (eVar 3), (eVar 4)])))))
    (sRet (eL m_track_by [(eVar 3)]))))
noncomputable def m_track_of : MF := fnB 5 b_track_of
abbrev s_track_of : Stmt := topS 6
theorem sc_track_of : FnScope ["one", "other", "word", "rows", "letter"] ["one", "other", "word"] (defScope s_track_of) := ⟨rfl, rfl, rfl, by decide +kernel, rfl, by decide +kernel, by decide +kernel⟩
theorem ok_track_of {f : Addr} {fd : FuncData} (T : L2.Fun K "track_of" "track_of" s_track_of f fd) (hmg : mg "track_of" = some (.ref f)) (d_first_rows : DFn P w K mg base 1 "first_rows" 2 m_first_rows) (d_next_rows : DFn P w K mg base 2 "next_rows" 4 m_next_rows) (d_track_by : DFn P w K mg base 1 "track_by" 1 m_track_by) : DFn P w K mg base 3 "track_of" 3 m_track_of :=
  dfn_of T sc_track_of hmg rfl rfl (by decide) (fun _ _ _ _ _ _ us hl => match us, hl with | [_, _, _], _ => rfl) fun f cdv A outer s H E X hX hr hG => by
    subst hX
    have hu := hr.units
    have hu1 := hu1_of hr
    have nd := sc_track_of.nd
    exact (dss_cons (ds_set 3 nd (de_call (d_first_rows.mono (by decide)) hr hG (da_cons (de_var 0) (da_cons (de_var 1) da_nil))))
    (dss_cons (ds_fgt [4] (ds_for PassesOwn.never rfl (di_any (de_var 2)) (dg_name 4 nd) (dss_one (ds_fgt [4] (ds_set 3 nd (de_call (d_next_rows.mono (by decide)) hr hG (da_cons (de_var 0) (da_cons (de_var 1) (da_cons (de_var 3) (da_cons (de_var 4) da_nil))))))))))
    (dss_one (ds_ret (de_call (d_track_by.mono (by decide)) hr hG (da_cons (de_var 3) da_nil))))))
noncomputable def b_value_of : MS := (sSeq (sSet 3 (eLc2 false (iA (e2 gIx (eVar 0) (eC (.int 2)))) (gN 6) tYesM (iA (e2 gIx (eVar 1) (eC (.int 2)))) (gN 7) tYesM (e2 (gMulX false) (eVar 6) (eVar 7)) [5, 6, 7] [7]))
    (sSeq (sSet 4 (eL gSum [(eLc false (iZ (eVar 2) (eVar 3)) (gT 2 (gsC (gN 6) (gsC (gN 8) gsN))) tYesM (e2 (gMulX false) (eVar 6) (eVar 8)) [5, 6, 8])]))
    (sRet (e2 gSub (eVar 4) (eL gSum [(eLc false (iZ (eSl false (eVar 2) (oS (eL gLen [(eVar 3)])) oN) (eVar 3)) (gT 2 (gsC (gN 6) (gsC (gN 8) gsN))) tYesM (e2 (gMulX false) (eVar 6) (eVar 8)) [5, 6, 8])])))))
noncomputable def m_value_of : MF := fnB 9 b_value_of
abbrev s_value_of : Stmt := topS 7
theorem sc_value_of : FnScope ["one", "other", "track", "ends", "both", ".0", "x", "y", "end"] ["one", "other", "track"] (defScope s_value_of) := ⟨rfl, rfl, rfl, by decide +kernel, rfl, by decide +kernel, by decide +kernel⟩
theorem ok_value_of {f : Addr} {fd : FuncData} (T : L2.Fun K "value_of" "value_of" s_value_of f fd) (hmg : mg "value_of" = some (.ref f)) (z_len : mg "len" = none) (z_sum : mg "sum" = none) (z_zip : mg "zip" = none) : DFn P w K mg base 1 "value_of" 3 m_value_of :=
  dfn_of T sc_value_of hmg rfl rfl (by decide) (fun _ _ _ _ _ _ us hl => match us, hl with | [_, _, _], _ => rfl) fun f cdv A outer s H E X hX hr hG => by
    subst hX
    have hu := hr.units
    have hu1 := hu1_of hr
    have nd := sc_value_of.nd
    exact (dss_cons (ds_setLc2 (own := [(".0", 5), ("x", 6), ("y", 7)]) (vs1 := [7]) false 3 rfl nd (di_any (de_sub_ (de_var 0) de_int)) (by rfl) (fun _ _ _ _ _ => (dg_name 6 nd)) (fun _ _ _ _ _ => dts_nil) (fun _ _ _ _ _ => (di_any (de_sub_ (de_var 1) de_int))) (fun _ _ _ _ _ => (dg_name 7 nd)) (fun _ _ _ _ _ => dts_nil) (fun _ _ _ _ _ => (de_mulX false (de_var 6) (de_var 7))) (sw_true rfl rfl rfl (by decide +kernel)))
    (dss_cons (ds_set 4 nd (de_sumf rfl z_sum (da_cons (de_lc (own := [(".0", 5), ("x", 6), ("end", 8)]) false rfl nd (di_zip z_zip (de_var 2) (de_var 3)) (by rfl) (fun _ _ _ _ _ => (dg_tup rfl (dgs_cons (dg_name 6 nd) (dgs_cons (dg_name 8 nd) dgs_nil)))) (fun _ _ _ _ _ => dts_nil) (fun _ _ _ _ _ => (de_mulX false (de_var 6) (de_var 8)))) da_nil)))
    (dss_one (ds_ret (de_sub (de_var 4) (de_sumf rfl z_sum (da_cons (de_lc (own := [(".0", 5), ("x", 6), ("end", 8)]) false rfl nd (di_zip z_zip (de_slice false (de_var 2) (do_some (de_len z_len (da_cons (de_var 3) da_nil))) do_none) (de_var 3)) (by rfl) (fun _ _ _ _ _ => (dg_tup rfl (dgs_cons (dg_name 6 nd) (dgs_cons (dg_name 8 nd) dgs_nil)))) (fun _ _ _ _ _ => dts_nil) (fun _ _ _ _ _ => (de_mulX false (de_var 6) (de_var 8)))) da_nil)))))))
noncomputable def b_law_bag : MS := (sRet (eLst true [(eC (.int 0)), (eC (.int 1234567891)), (eC (.int 0)), (eLc false (iA (eSl false (eVar 0) oN (oS (eC (.int 63))))) (gN 2) tYesM (eL gAbs [(eVar 2)]) [1, 2])]))
noncomputable def m_law_bag : MF := fnC 3 b_law_bag
abbrev s_law_bag : Stmt := topS 9
theorem sc_law_bag : FnScope ["_law_script", ".0", "_law_cell"] ["_law_script"] (defScope s_law_bag) := ⟨rfl, rfl, rfl, by decide +kernel, rfl, by decide +kernel, by decide +kernel⟩
theorem ok_law_bag {f : Addr} {fd : FuncData} (T : L2.Fun K "_law_bag" "_law_bag" s_law_bag f fd) (hmg : mg "_law_bag" = some (.ref f)) (z_abs : mg "abs" = none) : DFn P w K mg base 1 "_law_bag" 1 m_law_bag :=
  dfn_ofC T sc_law_bag hmg rfl rfl (by decide) (fun _ _ _ _ _ _ us hl => match us, hl with | [_], _ => rfl) fun f cdv A outer s H E X hX hr hG => by
    subst hX
    have hu := hr.units
    have hu1 := hu1_of hr
    have nd := sc_law_bag.nd
    exact (dss_one (ds_ret (de_lst true (da_cons de_int (da_cons de_int (da_cons de_int (da_cons (de_lc (own := [(".0", 1), ("_law_cell", 2)]) false rfl nd (di_any (de_slice false (de_var 0) do_none (do_some de_int))) (by rfl) (fun _ _ _ _ _ => (dg_name 2 nd)) (fun _ _ _ _ _ => dts_nil) (fun _ _ _ _ _ => (de_abs z_abs (da_cons (de_var 2) da_nil)))) da_nil)))))))
noncomputable def b_law_take : MS := (sSeq (sIf (tB_ (e2 (gEq true) (e2 gIx (eVar 0) (eC (.int 0))) (eC (.int 0)))) (sSeq (sSet 2 (e2 gIx (e2 (gAdd false) (eSl false (e2 gIx (eVar 0) (eC (.int 3))) (oS (e2 gIx (eVar 0) (eC (.int 2)))) oN) (eLst false [(eC (.int 0))])) (eC (.int 0))))
    (sSeq (sAugS gIAdd (eVar 0) (eC (.int 2)) (eC (.int 1)))
    (sSeq (sIf (tB_ (e2 gGe (eVar 2) (e2 gPow (eC (.int 10)) (eC (.int 18))))) (sSub (eVar 0) (eC (.int 0)) (eVar 2)) sNil)
    (sSeq (sSet 3 (e2 (gAdd false) (e2 (gAdd false) (e2 (gMulX false) (e2 gIx (eVar 0) (eC (.int 1))) (eC (.int 48271))) (e2 gMod (eL gInt [(eVar 2)]) (eC (.int 2147483647)))) (e2 (gMulX false) (eC (.int 7919)) (e2 gIx (eVar 0) (eC (.int 2))))))
    (sSub (eVar 0) (eC (.int 1)) (e2 gMod (eL gInt [(eVar 3)]) (eC (.int 2147483647)))))))) sNil)
    (sSeq (sIf (tB_ (e2 gGt (e2 gIx (eVar 0) (eC (.int 0))) (eC (.int 0)))) (sSeq (sSet 4 (e2 gMod (eL gInt [(e2 gIx (eVar 0) (eC (.int 0)))]) (eVar 1)))
    (sSeq (sSub (eVar 0) (eC (.int 0)) (e2 gDiv (eL gInt [(e2 gIx (eVar 0) (eC (.int 0)))]) (eVar 1)))
    (sRet (eVar 4)))) sNil)
    (sSeq (sSet 5 (e2 gMod (eL gInt [(e2 (gMulX false) (e2 (gAdd false) (e2 gIx (eVar 0) (eC (.int 1))) (eC (.int 1))) (eC (.int 39373)))]) (eC (.int 1000000007))))
    (sSeq (sSet 6 (e2 gMod (eL gInt [(e2 (gMulX false) (e2 gMod (eL gInt [(e2 (gMulX false) (eVar 5) (eVar 5))]) (eC (.int 998244353))) (eC (.int 30011)))]) (eC (.int 998244353))))
    (sRet (e2 gMod (eL gInt [(e2 gDiv (eVar 6) (eC (.int 7)))]) (eVar 1)))))))
noncomputable def m_law_take : MF := fnB 7 b_law_take
abbrev s_law_take : Stmt := topS 10
theorem sc_law_take : FnScope ["_law_bag_here", "_law_many", "_law_cell", "_law_stirred", "_law_value_here", "_law_begin", "_law_second"] ["_law_bag_here", "_law_many"] (defScope s_law_take) := ⟨rfl, rfl, rfl, by decide +kernel, rfl, by decide +kernel, by decide +kernel⟩
theorem ok_law_take {f : Addr} {fd : FuncData} (T : L2.Fun K "_law_take" "_law_take" s_law_take f fd) (hmg : mg "_law_take" = some (.ref f)) (z_int : mg "int" = none) : DFn P w K mg base 1 "_law_take" 2 m_law_take :=
  dfn_of T sc_law_take hmg rfl rfl (by decide) (fun _ _ _ _ _ _ us hl => match us, hl with | [_, _], _ => rfl) fun f cdv A outer s H E X hX hr hG => by
    subst hX
    have hu := hr.units
    have hu1 := hu1_of hr
    have nd := sc_law_take.nd
    exact (dss_cons (ds_if (DC.dt (dc_eq hu (de_sub_ (de_var 0) de_int) de_int)) (dss_cons (ds_set 2 nd (de_sub_ (de_add false (de_slice false (de_sub_ (de_var 0) de_int) (do_some (de_sub_ (de_var 0) de_int)) do_none) (de_lst false (da_cons de_int da_nil))) de_int))
    (dss_cons (ds_augS de_int (de_var 0) de_int)
    (dss_cons (ds_if (DC.dt (dc_ge (de_var 2) (de_pow de_int de_int))) (dss_one (ds_sub (de_var 2) (de_var 0) de_int)) dss_nil)
    (dss_cons (ds_set 3 nd (de_add false (de_add false (de_mulX false (de_sub_ (de_var 0) de_int) de_int) (de_mod (de_intf z_int (da_cons (de_var 2) da_nil)) de_int)) (de_mulX false de_int (de_sub_ (de_var 0) de_int))))
    (dss_one (ds_sub (de_mod (de_intf z_int (da_cons (de_var 3) da_nil)) de_int) (de_var 0) de_int)))))) dss_nil)
    (dss_cons (ds_if (DC.dt (dc_gt (de_sub_ (de_var 0) de_int) de_int)) (dss_cons (ds_set 4 nd (de_mod (de_intf z_int (da_cons (de_sub_ (de_var 0) de_int) da_nil)) (de_var 1)))
    (dss_cons (ds_sub (de_div (de_intf z_int (da_cons (de_sub_ (de_var 0) de_int) da_nil)) (de_var 1)) (de_var 0) de_int)
    (dss_one (ds_ret (de_var 4))))) dss_nil)
    (dss_cons (ds_set 5 nd (de_mod (de_intf z_int (da_cons (de_mulX false (de_add false (de_sub_ (de_var 0) de_int) de_int) de_int) da_nil)) de_int))
    (dss_cons (ds_set 6 nd (de_mod (de_intf z_int (da_cons (de_mulX false (de_mod (de_intf z_int (da_cons (de_mulX false (de_var 5) (de_var 5)) da_nil)) de_int) de_int) da_nil)) de_int))
    (dss_one (ds_ret (de_mod (de_intf z_int (da_cons (de_div (de_var 6) de_int) da_nil)) (de_var 1))))))))
noncomputable def b_law_some : MS := (sRet (e2 gIx (eVar 1) (eL m_law_take [(eVar 0), (eL gLen [(eVar 1)])])))
noncomputable def m_law_some : MF := fnB 2 b_law_some
abbrev s_law_some : Stmt := topS 11
theorem sc_law_some : FnScope ["_law_bag_here", "_law_things"] ["_law_bag_here", "_law_things"] (defScope s_law_some) := ⟨rfl, rfl, rfl, by decide +kernel, rfl, by decide +kernel, by decide +kernel⟩
theorem ok_law_some {f : Addr} {fd : FuncData} (T : L2.Fun K "_law_some" "_law_some" s_law_some f fd) (hmg : mg "_law_some" = some (.ref f)) (z_len : mg "len" = none) (d_law_take : DFn P w K mg base 1 "_law_take" 2 m_law_take) : DFn P w K mg base 2 "_law_some" 2 m_law_some :=
  dfn_of T sc_law_some hmg rfl rfl (by decide) (fun _ _ _ _ _ _ us hl => match us, hl with | [_, _], _ => rfl) fun f cdv A outer s H E X hX hr hG => by
    subst hX
    have hu := hr.units
    have hu1 := hu1_of hr
    have nd := sc_law_some.nd
    exact (dss_one (ds_ret (de_sub_ (de_var 1) (de_call (d_law_take.mono (by decide)) hr hG (da_cons (de_var 0) (da_cons (de_len z_len (da_cons (de_var 1) da_nil)) da_nil))))))
noncomputable def b_law_mixed : MS := (sSeq (sSet 2 (eLst true []))
    (sSeq (sFgt [3] (sFor (iA (eVar 1)) (gN 3) (sFgt [3] (sEx (eM isL mInsert (eVar 2) [(eL m_law_take [(eVar 0), (e2 (gAdd false) (eL gLen [(eVar 2)]) (eC (.int 1)))]), (eVar 3)])))))
    (sRet (eVar 2))))
noncomputable def m_law_mixed : MF := fnB 4 b_law_mixed
abbrev s_law_mixed : Stmt := topS 12
theorem sc_law_mixed : FnScope ["_law_bag_here", "_law_things", "_law_found", "_law_thing"] ["_law_bag_here", "_law_things"] (defScope s_law_mixed) := ⟨rfl, rfl, rfl, by decide +kernel, rfl, by decide +kernel, by decide +kernel⟩
theorem ok_law_mixed {f : Addr} {fd : FuncData} (T : L2.Fun K "_law_mixed" "_law_mixed" s_law_mixed f fd) (hmg : mg "_law_mixed" = some (.ref f)) (z_len : mg "len" = none) (d_law_take : DFn P w K mg base 1 "_law_take" 2 m_law_take) : DFn P w K mg base 2 "_law_mixed" 2 m_law_mixed :=
  dfn_of T sc_law_mixed hmg rfl rfl (by decide) (fun _ _ _ _ _ _ us hl => match us, hl with | [_, _], _ => rfl) fun f cdv A outer s H E X hX hr hG => by
    subst hX
    have hu := hr.units
    have hu1 := hu1_of hr
    have nd := sc_law_mixed.nd
    exact (dss_cons (ds_set 2 nd (de_lst true da_nil))
    (dss_cons (ds_fgt [3] (ds_for PassesOwn.never rfl (di_any (de_var 1)) (dg_name 3 nd) (dss_one (ds_fgt [3] (ds_expr (de_insert (de_var 2) (da_cons (de_call (d_law_take.mono (by decide)) hr hG (da_cons (de_var 0) (da_cons (de_add false (de_len z_len (da_cons (de_var 2) da_nil)) de_int) da_nil))) (da_cons (de_var 3) da_nil))))))))
    (dss_one (ds_ret (de_var 2)))))
noncomputable def b_law_alike : MS := (sRet (eAnd (e2 (gEq true) (eVar 0) (eVar 1)) (e2 (gEq true) (eL gRepr [(eVar 0)]) (eL gRepr [(eVar 1)]))))
noncomputable def m_law_alike : MF := fnB 2 b_law_alike
abbrev s_law_alike : Stmt := topS 13
theorem sc_law_alike : FnScope ["_law_found", "_law_due"] ["_law_found", "_law_due"] (defScope s_law_alike) := ⟨rfl, rfl, rfl, by decide +kernel, rfl, by decide +kernel, by decide +kernel⟩
theorem ok_law_alike {f : Addr} {fd : FuncData} (T : L2.Fun K "_law_alike" "_law_alike" s_law_alike f fd) (hmg : mg "_law_alike" = some (.ref f)) (z_repr : mg "repr" = none) : DFn P w K mg base 1 "_law_alike" 2 m_law_alike :=
  dfn_of T sc_law_alike hmg rfl rfl (by decide) (fun _ _ _ _ _ _ us hl => match us, hl with | [_, _], _ => rfl) fun f cdv A outer s H E X hX hr hG => by
    subst hX
    have hu := hr.units
    have hu1 := hu1_of hr
    have nd := sc_law_alike.nd
    exact (dss_one (ds_ret (de_and (DC.de (dc_eq hu (de_var 0) (de_var 1))) (de_one (DC.de (dc_eq hu (de_repr hG hu z_repr (da_cons (de_var 0) da_nil)) (de_repr hG hu z_repr (da_cons (de_var 1) da_nil))))))))
noncomputable def b_law_prices : MS := (sSeq (sSet 3 (eL (gDictT false) [(eLc false (iR1 (eL gLen [(e2 gIx (eVar 0) (eC (.int 1)))])) (gN 2) tYesM (eTup [(eTup [(eVar 2), (eVar 2)]), (eC (.int 1))]) [11, 2])]))
    (sSeq (sFgt [2, 4, 5, 6, 7, 8, 9, 10] (sFor (iA (eVar 1)) (gN 4) (sEnd (sSeq (sSet 5 eNewT)
    (sSeq (sFgt [2, 3, 4, 6, 7, 8, 9, 10] (sFor (iKT 3) (gT 2 (gsC (gN 2) (gsC (gN 6) gsN))) (sFgt [2, 6, 7, 8, 9, 10] (sFor (iA (e2 gIx (eVar 0) (eC (.int 3)))) (gT 4 (gsC (gN 7) (gsC (gN 8) (gsC (gN 9) (gsC (gN 10) gsN))))) (sFgt [7, 8, 9, 10] (sIf (tAndM (tB_ (e2 (gEq true) (eVar 7) (eVar 6))) (tB_ (e2 (gEq true) (eVar 8) (eVar 4)))) (sPutT (eVar 5) [(eVar 2), (eVar 9)] (e2 (gAdd false) (eGetT (eVar 5) [(eVar 2), (eVar 9)] (eC (.int 0))) (e2 (gMulX false) (eIxT (eVar 3) [(eVar 2), (eVar 6)]) (eVar 10)))) sNil))))))
    (sFgt [5] (sSet 3 (eVar 5))))))))
    (sRet (eL (gDictT false) [(e1 (gSortIt false) (eVar 3))]))))
noncomputable def m_law_prices : MF := fnB 12 b_law_prices
abbrev s_law_prices : Stmt := topS 14
theorem sc_law_prices : FnScope ["_law_model", "_law_word", "_law_p", "_law_found", "_law_letter", "_law_longer", "_law_middle", "_law_one", "_law_sign", "_law_q", "_law_w", ".0"] ["_law_model", "_law_word"] (defScope s_law_prices) := ⟨rfl, rfl, rfl, by decide +kernel, rfl, by decide +kernel, by decide +kernel⟩
theorem ok_law_prices {f : Addr} {fd : FuncData} (T : L2.Fun K "_law_prices" "_law_prices" s_law_prices f fd) (hmg : mg "_law_prices" = some (.ref f)) (z_dict : mg "dict" = none) (z_len : mg "len" = none) (z_range : mg "range" = none) (z_sorted : mg "sorted" = none) : DFn P w K mg base 1 "_law_prices" 2 m_law_prices :=
  dfn_of T sc_law_prices hmg rfl rfl (by decide) (fun _ _ _ _ _ _ us hl => match us, hl with | [_, _], _ => rfl) fun f cdv A outer s H E X hX hr hG => by
    subst hX
    have hu := hr.units
    have hu1 := hu1_of hr
    have nd := sc_law_prices.nd
    exact (dss_cons (ds_set 3 nd (de_dictT false rfl hu z_dict (da_cons (de_lc (own := [(".0", 11), ("_law_p", 2)]) false rfl nd (di_range1 z_range (de_len z_len (da_cons (de_sub_ (de_var 0) de_int) da_nil))) (by rfl) (fun _ _ _ _ _ => (dg_name 2 nd)) (fun _ _ _ _ _ => dts_nil) (fun _ _ _ _ _ => (de_tup (da_cons (de_tup (da_cons (de_var 2) (da_cons (de_var 2) da_nil))) (da_cons de_int da_nil))))) da_nil)))
    (dss_cons (ds_fgt [2, 4, 5, 6, 7, 8, 9, 10] (ds_for PassesOwn.never rfl (di_any (de_var 1)) (dg_name 4 nd) (dss_end (dss_cons (ds_set 5 nd de_newT)
    (dss_cons (ds_fgt [2, 3, 4, 6, 7, 8, 9, 10] (ds_forK 3 PassesOwn.never rfl (dg_tup rfl (dgs_cons (dg_name 2 nd) (dgs_cons (dg_name 6 nd) dgs_nil))) (dss_one (ds_fgt [2, 6, 7, 8, 9, 10] (ds_for PassesOwn.never rfl (di_any (de_sub_ (de_var 0) de_int)) (dg_tup rfl (dgs_cons (dg_name 7 nd) (dgs_cons (dg_name 8 nd) (dgs_cons (dg_name 9 nd) (dgs_cons (dg_name 10 nd) dgs_nil))))) (dss_one (ds_fgt [7, 8, 9, 10] (ds_if (DW.dt (dw_and (DC.dt (dc_eq hu (de_var 7) (de_var 6))) (dw_and1 (DC.dt (dc_eq hu (de_var 8) (de_var 4)))))) (dss_one (ds_putT hu (de_add false (de_getT hu (de_var 5) (da_cons (de_var 2) (da_cons (de_var 9) da_nil)) de_int) (de_mulX false (de_ixT hu (de_var 3) (da_cons (de_var 2) (da_cons (de_var 6) da_nil))) (de_var 10))) (de_var 5) (da_cons (de_var 2) (da_cons (de_var 9) da_nil)))) dss_nil))))))))
    (dss_one (ds_fgt [5] (ds_set 3 nd (de_var 5)))))))))
    (dss_one (ds_ret (de_dictT false rfl hu z_dict (da_cons (de_sortitems rfl hu z_sorted (de_var 3)) da_nil))))))
noncomputable def b_law_weight : MS := (sSeq (sSet 2 (eL m_law_prices [(eVar 0), (eVar 1)]))
    (sRet (eL gSum [(eLc false (iKT 2) (gT 2 (gsC (gN 4) (gsC (gN 5) gsN))) tYesM (e2 (gMulX false) (e2 (gMulX false) (e2 gIx (e2 gIx (eVar 0) (eC (.int 1))) (eVar 4)) (eIxT (eVar 2) [(eVar 4), (eVar 5)])) (e2 gIx (e2 gIx (eVar 0) (eC (.int 2))) (eVar 5))) [3, 4, 5])])))
noncomputable def m_law_weight : MF := fnB 6 b_law_weight
abbrev s_law_weight : Stmt := topS 15
theorem sc_law_weight : FnScope ["_law_model", "_law_word", "_law_prices_here", ".0", "_law_p", "_law_q"] ["_law_model", "_law_word"] (defScope s_law_weight) := ⟨rfl, rfl, rfl, by decide +kernel, rfl, by decide +kernel, by decide +kernel⟩
theorem ok_law_weight {f : Addr} {fd : FuncData} (T : L2.Fun K "_law_weight" "_law_weight" s_law_weight f fd) (hmg : mg "_law_weight" = some (.ref f)) (z_sum : mg "sum" = none) (d_law_prices : DFn P w K mg base 1 "_law_prices" 2 m_law_prices) : DFn P w K mg base 2 "_law_weight" 2 m_law_weight :=
  dfn_of T sc_law_weight hmg rfl rfl (by decide) (fun _ _ _ _ _ _ us hl => match us, hl with | [_, _], _ => rfl) fun f cdv A outer s H E X hX hr hG => by
    subst hX
    have hu := hr.units
    have hu1 := hu1_of hr
    have nd := sc_law_weight.nd
    exact (dss_cons (ds_set 2 nd (de_call (d_law_prices.mono (by decide)) hr hG (da_cons (de_var 0) (da_cons (de_var 1) da_nil))))
    (dss_one (ds_ret (de_sumf rfl z_sum (da_cons (de_lcK (own := [(".0", 3), ("_law_p", 4), ("_law_q", 5)]) false 2 rfl nd (by rfl) (fun _ _ _ _ _ => (dg_tup rfl (dgs_cons (dg_name 4 nd) (dgs_cons (dg_name 5 nd) dgs_nil)))) (fun _ _ _ _ _ => dts_nil) (fun _ _ _ _ _ => (de_mulX false (de_mulX false (de_sub_ (de_sub_ (de_var 0) de_int) (de_var 4)) (de_ixT hu (de_var 2) (da_cons (de_var 4) (da_cons (de_var 5) da_nil)))) (de_sub_ (de_sub_ (de_var 0) de_int) (de_var 5))))) da_nil)))))
noncomputable def b_law_arc_letters : MS := (sRet (e1 (gSortSet false) (eLc false (iA (e2 (gAdd false) (e2 gIx (eVar 0) (eC (.int 3))) (e2 gIx (eVar 1) (eC (.int 3))))) (gN 3) tYesM (e2 gIx (eVar 3) (eC (.int 1))) [2, 3])))
noncomputable def m_law_arc_letters : MF := fnB 4 b_law_arc_letters
abbrev s_law_arc_letters : Stmt := topS 16
theorem sc_law_arc_letters : FnScope ["_law_one", "_law_other", ".0", "_law_arc"] ["_law_one", "_law_other"] (defScope s_law_arc_letters) := ⟨rfl, rfl, rfl, by decide +kernel, rfl, by decide +kernel, by decide +kernel⟩
theorem ok_law_arc_letters {f : Addr} {fd : FuncData} (T : L2.Fun K "_law_arc_letters" "_law_arc_letters" s_law_arc_letters f fd) (hmg : mg "_law_arc_letters" = some (.ref f)) (z_set : mg "set" = none) (z_sorted : mg "sorted" = none) : DFn P w K mg base 1 "_law_arc_letters" 2 m_law_arc_letters :=
  dfn_of T sc_law_arc_letters hmg rfl rfl (by decide) (fun _ _ _ _ _ _ us hl => match us, hl with | [_, _], _ => rfl) fun f cdv A outer s H E X hX hr hG => by
    subst hX
    have hu := hr.units
    have hu1 := hu1_of hr
    have nd := sc_law_arc_letters.nd
    exact (dss_one (ds_ret (de_sortset false rfl hu z_sorted z_set (de_lc (own := [(".0", 2), ("_law_arc", 3)]) false rfl nd (di_any (de_add false (de_sub_ (de_var 0) de_int) (de_sub_ (de_var 1) de_int))) (by rfl) (fun _ _ _ _ _ => (dg_name 3 nd)) (fun _ _ _ _ _ => dts_nil) (fun _ _ _ _ _ => (de_sub_ (de_var 3) de_int))))))
noncomputable def b_law_led : MS := (sSeq (sSet 3 (e2 (gMulX true) (eLst false [(eC (.int 0))]) (eL gLen [(eVar 1)])))
    (sSeq (sFgt [4, 5, 6, 7] (sFor (iA (e2 gIx (eVar 0) (eC (.int 3)))) (gT 4 (gsC (gN 4) (gsC (gN 5) (gsC (gN 6) (gsC (gN 7) gsN))))) (sFgt [4, 5, 6, 7] (sIf (tB_ (e2 (gIn true) (eVar 5) (eVar 2))) (sAugS gIAdd (eVar 3) (eVar 6) (e2 (gMulX false) (e2 gIx (eVar 1) (eVar 4)) (eVar 7))) sNil))))
    (sRet (eVar 3))))
noncomputable def m_law_led : MF := fnB 8 b_law_led
abbrev s_law_led : Stmt := topS 17
theorem sc_law_led : FnScope ["_law_model", "_law_sums_here", "_law_letters", "_law_found", "_law_p", "_law_letter", "_law_q", "_law_w"] ["_law_model", "_law_sums_here", "_law_letters"] (defScope s_law_led) := ⟨rfl, rfl, rfl, by decide +kernel, rfl, by decide +kernel, by decide +kernel⟩
theorem ok_law_led {f : Addr} {fd : FuncData} (T : L2.Fun K "_law_led" "_law_led" s_law_led f fd) (hmg : mg "_law_led" = some (.ref f)) (z_len : mg "len" = none) : DFn P w K mg base 1 "_law_led" 3 m_law_led :=
  dfn_of T sc_law_led hmg rfl rfl (by decide) (fun _ _ _ _ _ _ us hl => match us, hl with | [_, _, _], _ => rfl) fun f cdv A outer s H E X hX hr hG => by
    subst hX
    have hu := hr.units
    have hu1 := hu1_of hr
    have nd := sc_law_led.nd
    exact (dss_cons (ds_set 3 nd (de_mulX true (de_lst false (da_cons de_int da_nil)) (de_len z_len (da_cons (de_var 1) da_nil))))
    (dss_cons (ds_fgt [4, 5, 6, 7] (ds_for PassesOwn.never rfl (di_any (de_sub_ (de_var 0) de_int)) (dg_tup rfl (dgs_cons (dg_name 4 nd) (dgs_cons (dg_name 5 nd) (dgs_cons (dg_name 6 nd) (dgs_cons (dg_name 7 nd) dgs_nil))))) (dss_one (ds_fgt [4, 5, 6, 7] (ds_if (DC.dt (dc_in hu (de_var 5) (de_var 2))) (dss_one (ds_augS (de_mulX false (de_sub_ (de_var 1) (de_var 4)) (de_var 7)) (de_var 3) (de_var 6))) dss_nil)))))
    (dss_one (ds_ret (de_var 3)))))
noncomputable def b_law_ended : MS := (sRet (eL gSum [(eLc false (iZ (eVar 1) (e2 gIx (eVar 0) (eC (.int 2)))) (gT 2 (gsC (gN 3) (gsC (gN 4) gsN))) tYesM (e2 (gMulX false) (eVar 3) (eVar 4)) [2, 3, 4])]))
noncomputable def m_law_ended : MF := fnB 5 b_law_ended
abbrev s_law_ended : Stmt := topS 18
theorem sc_law_ended : FnScope ["_law_model", "_law_sums_here", ".0", "_law_one", "_law_end"] ["_law_model", "_law_sums_here"] (defScope s_law_ended) := ⟨rfl, rfl, rfl, by decide +kernel, rfl, by decide +kernel, by decide +kernel⟩
theorem ok_law_ended {f : Addr} {fd : FuncData} (T : L2.Fun K "_law_ended" "_law_ended" s_law_ended f fd) (hmg : mg "_law_ended" = some (.ref f)) (z_sum : mg "sum" = none) (z_zip : mg "zip" = none) : DFn P w K mg base 1 "_law_ended" 2 m_law_ended :=
  dfn_of T sc_law_ended hmg rfl rfl (by decide) (fun _ _ _ _ _ _ us hl => match us, hl with | [_, _], _ => rfl) fun f cdv A outer s H E X hX hr hG => by
    subst hX
    have hu := hr.units
    have hu1 := hu1_of hr
    have nd := sc_law_ended.nd
    exact (dss_one (ds_ret (de_sumf rfl z_sum (da_cons (de_lc (own := [(".0", 2), ("_law_one", 3), ("_law_end", 4)]) false rfl nd (di_zip z_zip (de_var 1) (de_sub_ (de_var 0) de_int)) (by rfl) (fun _ _ _ _ _ => (dg_tup rfl (dgs_cons (dg_name 3 nd) (dgs_cons (dg_name 4 nd) dgs_nil)))) (fun _ _ _ _ _ => dts_nil) (fun _ _ _ _ _ => (de_mulX false (de_var 3) (de_var 4)))) da_nil))))
noncomputable def b_law_sums : MS := (sSeq (sSet 2 (eL (gList false) [(e2 gIx (eVar 0) (eC (.int 1)))]))
    (sSeq (sFgt [3] (sFor (iA (eVar 1)) (gN 3) (sFgt [3] (sSet 2 (eL m_law_led [(eVar 0), (eVar 2), (eLst false [(eVar 3)])])))))
    (sRet (eVar 2))))
noncomputable def m_law_sums : MF := fnB 4 b_law_sums
abbrev s_law_sums : Stmt := topS 19
theorem sc_law_sums : FnScope ["_law_model", "_law_word", "_law_sums_here", "_law_letter"] ["_law_model", "_law_word"] (defScope s_law_sums) := ⟨rfl, rfl, rfl, by decide +kernel, rfl, by decide +kernel, by decide +kernel⟩
theorem ok_law_sums {f : Addr} {fd : FuncData} (T : L2.Fun K "_law_sums" "_law_sums" s_law_sums f fd) (hmg : mg "_law_sums" = some (.ref f)) (z_list : mg "list" = none) (d_law_led : DFn P w K mg base 1 "_law_led" 3 m_law_led) : DFn P w K mg base 2 "_law_sums" 2 m_law_sums :=
  dfn_of T sc_law_sums hmg rfl rfl (by decide) (fun _ _ _ _ _ _ us hl => match us, hl with | [_, _], _ => rfl) fun f cdv A outer s H E X hX hr hG => by
    subst hX
    have hu := hr.units
    have hu1 := hu1_of hr
    have nd := sc_law_sums.nd
    exact (dss_cons (ds_set 2 nd (de_listf false z_list (da_cons (de_sub_ (de_var 0) de_int) da_nil)))
    (dss_cons (ds_fgt [3] (ds_for PassesOwn.never rfl (di_any (de_var 1)) (dg_name 3 nd) (dss_one (ds_fgt [3] (ds_set 2 nd (de_call (d_law_led.mono (by decide)) hr hG (da_cons (de_var 0) (da_cons (de_var 2) (da_cons (de_lst false (da_cons (de_var 3) da_nil)) da_nil)))))))))
    (dss_one (ds_ret (de_var 2)))))
noncomputable def b_law_all_sums : MS := (sSeq (sPar [2, 3] [(eL (gList false) [(e2 gIx (eVar 0) (eC (.int 1)))]), (eLc false (iA (e2 gIx (eVar 0) (eC (.int 3)))) (gN 6) tYesM (e2 gIx (eVar 6) (eC (.int 1))) [5, 6])])
    (sSeq (sFgt [4] (sFor (iR1 (eVar 1)) (gN 4) (sFgt [4] (sSet 2 (eL m_law_led [(eVar 0), (eVar 2), (eVar 3)])))))
    (sRet (eVar 2))))
noncomputable def m_law_all_sums : MF := fnB 7 b_law_all_sums
abbrev s_law_all_sums : Stmt := topS 20
theorem sc_law_all_sums : FnScope ["_law_model", "_law_n", "_law_sums_here", "_law_letters", "_law_turn", ".0", "_law_arc"] ["_law_model", "_law_n"] (defScope s_law_all_sums) := ⟨rfl, rfl, rfl, by decide +kernel, rfl, by decide +kernel, by decide +kernel⟩
theorem ok_law_all_sums {f : Addr} {fd : FuncData} (T : L2.Fun K "_law_all_sums" "_law_all_sums" s_law_all_sums f fd) (hmg : mg "_law_all_sums" = some (.ref f)) (z_list : mg "list" = none) (z_range : mg "range" = none) (d_law_led : DFn P w K mg base 1 "_law_led" 3 m_law_led) : DFn P w K mg base 2 "_law_all_sums" 2 m_law_all_sums :=
  dfn_of T sc_law_all_sums hmg rfl rfl (by decide) (fun _ _ _ _ _ _ us hl => match us, hl with | [_, _], _ => rfl) fun f cdv A outer s H E X hX hr hG => by
    subst hX
    have hu := hr.units
    have hu1 := hu1_of hr
    have nd := sc_law_all_sums.nd
    exact (dss_cons (ds_par 2 3 rfl nd (da_cons (de_listf false z_list (da_cons (de_sub_ (de_var 0) de_int) da_nil)) (da_cons (de_lc (own := [(".0", 5), ("_law_arc", 6)]) false rfl nd (di_any (de_sub_ (de_var 0) de_int)) (by rfl) (fun _ _ _ _ _ => (dg_name 6 nd)) (fun _ _ _ _ _ => dts_nil) (fun _ _ _ _ _ => (de_sub_ (de_var 6) de_int))) da_nil)))
    (dss_cons (ds_fgt [4] (ds_for PassesOwn.never rfl (di_range1 z_range (de_var 1)) (dg_name 4 nd) (dss_fgt [4] (dss_one (ds_set 2 nd (de_call (d_law_led.mono (by decide)) hr hG (da_cons (de_var 0) (da_cons (de_var 2) (da_cons (de_var 3) da_nil)))))))))
    (dss_one (ds_ret (de_var 2)))))
noncomputable def b_law_small_model : MS := (sSeq (sSet 2 (eL m_law_some [(eVar 0), (eLst false [(eLst false [(eC (.str (PySem.Str.ofString "a"))), (eC (.str (PySem.Str.ofString "b")))]), (eLst false [(eC (.str (PySem.Str.ofString "a"))), (eC (.str (PySem.Str.ofString "b")))]), (eLst false [(eC (.str (PySem.Str.ofString "a")))]), (eLst false [(eC (.str (PySem.Str.ofString "b"))), (eC (.str (PySem.Str.ofString "x")))])])]))
    (sSeq (sPar [3, 4, 5] [(e2 (gAdd false) (eC (.int 1)) (eL m_law_take [(eVar 0), (eVar 1)])), (eLst true []), (e2 (gEq true) (eL m_law_take [(eVar 0), (eC (.int 6))]) (eC (.int 0)))])
    (sSeq (sFgt [6, 7, 8] (sFor (iR1 (eVar 3)) (gN 6) (sFgt [6, 7, 8] (sFor (iA (eVar 2)) (gN 7) (sFgt [7, 8] (sFor (iR1 (eVar 3)) (gN 8) (sFgt [8] (sIf (tAndM (tB_ (e2 gGt (eL m_law_take [(eVar 0), (eC (.int 3))]) (eC (.int 0)))) (tOrM (tNotM (tV (eVar 5))) (tB_ (e2 (gEq false) (eVar 6) (eVar 8))))) (sEx (eM isL mAppend (eVar 4) [(eTup [(eVar 6), (eVar 7), (eVar 8), (eL m_law_some [(eVar 0), (eLst false [(eC (.int 1)), (eC (.int 1)), (eC (.int 2)), (eC (.int 3)), (eC (.int 7))])])])])) sNil))))))))
    (sSeq (sSet 9 (e2 (gAdd false) (eTup [(eL m_law_some [(eVar 0), (eLst false [(eC (.int 1)), (eC (.int 1)), (eC (.int 2)), (eC (.int 0))])])]) (eL gTup [(eLc false (iR1 (e2 gSub (eVar 3) (eC (.int 1)))) (gN 6) tYesM (eL m_law_some [(eVar 0), (eLst false [(eC (.int 0)), (eC (.int 1)), (eC (.int 3))])]) [11, 6])])))
    (sSeq (sSet 10 (eL gTup [(eLc false (iR1 (eVar 3)) (gN 6) tYesM (eL m_law_some [(eVar 0), (eLst false [(eC (.int 1)), (eC (.int 0)), (eC (.int 1)), (eC (.int 2))])]) [11, 6])]))
    (sSeq (sIf (tV (eVar 5)) (sPar [9, 10] [(e2 (gAdd false) (eTup [(eC (.int 1))]) (e2 (gMulX false) (eTup [(eC (.int 0))]) (e2 gSub (eVar 3) (eC (.int 1))))), (e2 (gAdd false) (eTup [(eC (.int 2))]) (e2 (gMulX false) (eTup [(eC (.int 0))]) (e2 gSub (eVar 3) (eC (.int 1)))))]) sNil)
    (sRet (eTup [(eTup [(eTup [(eTup [(eC (.int 0))])]), (eL gTup [(eLc false (iA (eVar 2)) (gN 7) tYesM (eTup [(eVar 7), (eC (.int 0))]) [11, 7])])]), (eVar 9), (eVar 10), (eL gTup [(eL (gSorted false) [(eVar 4)])])]))))))))
noncomputable def m_law_small_model : MF := fnB 12 b_law_small_model
abbrev s_law_small_model : Stmt := topS 21
theorem sc_law_small_model : FnScope ["_law_bag_here", "_law_most", "_law_letters", "_law_states", "_law_arcs", "_law_is_even", "_law_p", "_law_letter", "_law_q", "_law_begins", "_law_ends", ".0"] ["_law_bag_here", "_law_most"] (defScope s_law_small_model) := ⟨rfl, rfl, rfl, by decide +kernel, rfl, by decide +kernel, by decide +kernel⟩
theorem ok_law_small_model {f : Addr} {fd : FuncData} (T : L2.Fun K "_law_small_model" "_law_small_model" s_law_small_model f fd) (hmg : mg "_law_small_model" = some (.ref f)) (z_range : mg "range" = none) (z_sorted : mg "sorted" = none) (z_tuple : mg "tuple" = none) (d_law_take : DFn P w K mg base 1 "_law_take" 2 m_law_take) (d_law_some : DFn P w K mg base 2 "_law_some" 2 m_law_some) : DFn P w K mg base 3 "_law_small_model" 2 m_law_small_model :=
  dfn_of T sc_law_small_model hmg rfl rfl (by decide) (fun _ _ _ _ _ _ us hl => match us, hl with | [_, _], _ => rfl) fun f cdv A outer s H E X hX hr hG => by
    subst hX
    have hu := hr.units
    have hu1 := hu1_of hr
    have nd := sc_law_small_model.nd
    exact (dss_cons (ds_set 2 nd (de_call (d_law_some.mono (by decide)) hr hG (da_cons (de_var 0) (da_cons (de_lst false (da_cons (de_lst false (da_cons de_str (da_cons de_str da_nil))) (da_cons (de_lst false (da_cons de_str (da_cons de_str da_nil))) (da_cons (de_lst false (da_cons de_str da_nil)) (da_cons (de_lst false (da_cons de_str (da_cons de_str da_nil))) da_nil))))) da_nil))))
    (dss_cons (ds_par3 3 4 5 rfl nd (da_cons (de_add false de_int (de_call (d_law_take.mono (by decide)) hr hG (da_cons (de_var 0) (da_cons (de_var 1) da_nil)))) (da_cons (de_lst true da_nil) (da_cons (DC.de (dc_eq hu (de_call (d_law_take.mono (by decide)) hr hG (da_cons (de_var 0) (da_cons de_int da_nil))) de_int)) da_nil))))
    (dss_cons (ds_fgt [6, 7, 8] (ds_for PassesOwn.never rfl (di_range1 z_range (de_var 3)) (dg_name 6 nd) (dss_one (ds_fgt [6, 7, 8] (ds_for PassesOwn.never rfl (di_any (de_var 2)) (dg_name 7 nd) (dss_one (ds_fgt [7, 8] (ds_for PassesOwn.never rfl (di_range1 z_range (de_var 3)) (dg_name 8 nd) (dss_one (ds_fgt [8] (ds_if (DW.dt (dw_and (DC.dt (dc_gt (de_call (d_law_take.mono (by decide)) hr hG (da_cons (de_var 0) (da_cons de_int da_nil))) de_int)) (dw_and1 (DW.dt (dw_or (dt_not (dt_val (de_var 5))) (dw_or1 (DC.dt (dc_ne hu (de_var 6) (de_var 8))))))))) (dss_one (ds_expr (de_append (de_var 4) (da_cons (de_tup (da_cons (de_var 6) (da_cons (de_var 7) (da_cons (de_var 8) (da_cons (de_call (d_law_some.mono (by decide)) hr hG (da_cons (de_var 0) (da_cons (de_lst false (da_cons de_int (da_cons de_int (da_cons de_int (da_cons de_int (da_cons de_int da_nil)))))) da_nil))) da_nil))))) da_nil)))) dss_nil)))))))))))
    (dss_cons (ds_set 9 nd (de_add false (de_tup (da_cons (de_call (d_law_some.mono (by decide)) hr hG (da_cons (de_var 0) (da_cons (de_lst false (da_cons de_int (da_cons de_int (da_cons de_int (da_cons de_int da_nil))))) da_nil))) da_nil)) (de_tupf z_tuple (da_cons (de_lc (own := [(".0", 11), ("_law_p", 6)]) false rfl nd (di_range1 z_range (de_sub (de_var 3) de_int)) (by rfl) (fun _ _ _ _ _ => (dg_name 6 nd)) (fun _ _ _ _ _ => dts_nil) (fun _ _ _ _ _ => (de_call (d_law_some.mono (by decide)) hr hG (da_cons (de_var 0) (da_cons (de_lst false (da_cons de_int (da_cons de_int (da_cons de_int da_nil)))) da_nil))))) da_nil))))
    (dss_cons (ds_set 10 nd (de_tupf z_tuple (da_cons (de_lc (own := [(".0", 11), ("_law_p", 6)]) false rfl nd (di_range1 z_range (de_var 3)) (by rfl) (fun _ _ _ _ _ => (dg_name 6 nd)) (fun _ _ _ _ _ => dts_nil) (fun _ _ _ _ _ => (de_call (d_law_some.mono (by decide)) hr hG (da_cons (de_var 0) (da_cons (de_lst false (da_cons de_int (da_cons de_int (da_cons de_int (da_cons de_int da_nil))))) da_nil))))) da_nil)))
    (dss_cons (ds_if (dt_val (de_var 5)) (dss_one (ds_par 9 10 rfl nd (da_cons (de_add false (de_tup (da_cons de_int da_nil)) (de_mulX false (de_tup (da_cons de_int da_nil)) (de_sub (de_var 3) de_int))) (da_cons (de_add false (de_tup (da_cons de_int da_nil)) (de_mulX false (de_tup (da_cons de_int da_nil)) (de_sub (de_var 3) de_int))) da_nil)))) dss_nil)
    (dss_one (ds_ret (de_tup (da_cons (de_tup (da_cons (de_tup (da_cons (de_tup (da_cons de_int da_nil)) da_nil)) (da_cons (de_tupf z_tuple (da_cons (de_lc (own := [(".0", 11), ("_law_letter", 7)]) false rfl nd (di_any (de_var 2)) (by rfl) (fun _ _ _ _ _ => (dg_name 7 nd)) (fun _ _ _ _ _ => dts_nil) (fun _ _ _ _ _ => (de_tup (da_cons (de_var 7) (da_cons de_int da_nil))))) da_nil)) da_nil))) (da_cons (de_var 9) (da_cons (de_var 10) (da_cons (de_tupf z_tuple (da_cons (de_sortf false hu z_sorted (da_cons (de_var 4) da_nil)) da_nil)) da_nil)))))))))))))
noncomputable def b_law_turned_model : MS := (sSeq (sAsg (eVar 1) (gT 4 (gsC (gN 2) (gsC (gN 3) (gsC (gN 4) (gsC (gN 5) gsN))))))
    (sSeq (sPar [6, 7] [(eL m_law_take [(eVar 0), (eC (.int 7))]), (eL gLen [(eVar 3)])])
    (sSeq (sSet 8 (eL m_law_some [(eVar 0), (eLst false [(eC (.int 2)), (eC (.int 3)), (eC (.int 5))])]))
    (sSeq (sIf (tB_ (e2 (gEq true) (eVar 6) (eC (.int 0)))) (sRet (eTup [(eVar 2), (eL gTup [(eLc false (iA (eVar 3)) (gN 13) tYesM (e2 (gMulX false) (eVar 13) (eVar 8)) [12, 13])]), (eL gTup [(eLc false (iA (eVar 4)) (gN 13) tYesM (e2 (gMulX false) (eVar 13) (eC (.int 3))) [12, 13])]), (eVar 5)])) sNil)
    (sSeq (sIf (tB_ (e2 (gEq true) (eVar 6) (eC (.int 1)))) (sRet (eTup [(eVar 2), (eVar 3), (eVar 4), (eL gTup [(eLc false (iA (eVar 5)) (gT 4 (gsC (gN 14) (gsC (gN 15) (gsC (gN 16) (gsC (gN 17) gsN))))) tYesM (eTup [(eVar 14), (eVar 15), (eVar 16), (e2 (gMulX false) (eVar 17) (eVar 8))]) [12, 14, 15, 16, 17])])])) sNil)
    (sSeq (sIf (tB_ (e2 (gEq true) (eVar 6) (eC (.int 2)))) (sSeq (sSet 9 (eL m_law_mixed [(eVar 0), (eLR1 false (eVar 7))]))
    (sSeq (sSet 10 (eL gTup [(eL (gSorted false) [(eLc false (iA (eVar 5)) (gT 4 (gsC (gN 14) (gsC (gN 15) (gsC (gN 16) (gsC (gN 17) gsN))))) tYesM (eTup [(eM isL mIndex (eVar 9) [(eVar 14)]), (eVar 15), (eM isL mIndex (eVar 9) [(eVar 16)]), (eVar 17)]) [12, 14, 15, 16, 17])])]))
    (sRet (eTup [(eVar 2), (eL gTup [(eLc false (iA (eVar 9)) (gN 14) tYesM (e2 gIx (eVar 3) (eVar 14)) [12, 14])]), (eL gTup [(eLc false (iA (eVar 9)) (gN 14) tYesM (e2 gIx (eVar 4) (eVar 14)) [12, 14])]), (eVar 10)])))) sNil)
    (sSeq (sIf (tAndM (tB_ (e2 (gEq true) (eVar 6) (eC (.int 3)))) (tB_ (e2 (gEq false) (eVar 5) (eTup [])))) (sSeq (sSet 11 (eL m_law_take [(eVar 0), (eL gLen [(eVar 5)])]))
    (sRet (eTup [(eVar 2), (eVar 3), (eVar 4), (e2 (gAdd false) (e2 (gAdd false) (eSl false (eVar 5) oN (oS (eVar 11))) (eTup [(e2 (gAdd false) (eSl false (e2 gIx (eVar 5) (eVar 11)) oN (oS (eC (.int 3)))) (eTup [(e2 (gAdd false) (e2 gIx (e2 gIx (eVar 5) (eVar 11)) (eC (.int 3))) (eC (.int 1)))]))])) (eSl false (eVar 5) (oS (e2 (gAdd false) (eVar 11) (eC (.int 1)))) oN))]))) sNil)
    (sSeq (sIf (tAndM (tB_ (e2 (gEq true) (eVar 6) (eC (.int 4)))) (tB_ (e2 (gEq false) (eVar 5) (eTup [])))) (sSeq (sSet 11 (eL m_law_take [(eVar 0), (eL gLen [(eVar 5)])]))
    (sRet (eTup [(eVar 2), (eVar 3), (eVar 4), (e2 (gAdd false) (eSl false (eVar 5) oN (oS (eVar 11))) (eSl false (eVar 5) (oS (e2 (gAdd false) (eVar 11) (eC (.int 1)))) oN))]))) sNil)
    (sSeq (sIf (tB_ (e2 (gEq true) (eVar 6) (eC (.int 5)))) (sSeq (sSet 11 (eL m_law_take [(eVar 0), (eVar 7)]))
    (sRet (eTup [(eVar 2), (eVar 3), (e2 (gAdd false) (e2 (gAdd false) (eSl false (eVar 4) oN (oS (eVar 11))) (eTup [(e2 (gAdd false) (e2 gIx (eVar 4) (eVar 11)) (eC (.int 1)))])) (eSl false (eVar 4) (oS (e2 (gAdd false) (eVar 11) (eC (.int 1)))) oN)), (eVar 5)]))) sNil)
    (sRet (eVar 1)))))))))))
noncomputable def m_law_turned_model : MF := fnB 18 b_law_turned_model
abbrev s_law_turned_model : Stmt := topS 22
theorem sc_law_turned_model : FnScope ["_law_bag_here", "_law_model", "_law_measure", "_law_begins", "_law_ends", "_law_arcs", "_law_way", "_law_many", "_law_by", "_law_line", "_law_turned", "_law_at", ".0", "_law_one", "_law_p", "_law_letter", "_law_q", "_law_w"] ["_law_bag_here", "_law_model"] (defScope s_law_turned_model) := ⟨rfl, rfl, rfl, by decide +kernel, rfl, by decide +kernel, by decide +kernel⟩
theorem ok_law_turned_model {f : Addr} {fd : FuncData} (T : L2.Fun K "_law_turned_model" "_law_turned_model" s_law_turned_model f fd) (hmg : mg "_law_turned_model" = some (.ref f)) (z_len : mg "len" = none) (z_list : mg "list" = none) (z_range : mg "range" = none) (z_sorted : mg "sorted" = none) (z_tuple : mg "tuple" = none) (d_law_take : DFn P w K mg base 1 "_law_take" 2 m_law_take) (d_law_some : DFn P w K mg base 2 "_law_some" 2 m_law_some) (d_law_mixed : DFn P w K mg base 2 "_law_mixed" 2 m_law_mixed) : DFn P w K mg base 3 "_law_turned_model" 2 m_law_turned_model :=
  dfn_of T sc_law_turned_model hmg rfl rfl (by decide) (fun _ _ _ _ _ _ us hl => match us, hl with | [_, _], _ => rfl) fun f cdv A outer s H E X hX hr hG => by
    subst hX
    have hu := hr.units
    have hu1 := hu1_of hr
    have nd := sc_law_turned_model.nd
    exact (dss_cons (ds_asg (de_var 1) (dg_tup rfl (dgs_cons (dg_name 2 nd) (dgs_cons (dg_name 3 nd) (dgs_cons (dg_name 4 nd) (dgs_cons (dg_name 5 nd) dgs_nil))))))
    (dss_cons (ds_par 6 7 rfl nd (da_cons (de_call (d_law_take.mono (by decide)) hr hG (da_cons (de_var 0) (da_cons de_int da_nil))) (da_cons (de_len z_len (da_cons (de_var 3) da_nil)) da_nil)))
    (dss_cons (ds_set 8 nd (de_call (d_law_some.mono (by decide)) hr hG (da_cons (de_var 0) (da_cons (de_lst false (da_cons de_int (da_cons de_int (da_cons de_int da_nil)))) da_nil))))
    (dss_cons (ds_if (DC.dt (dc_eq hu (de_var 6) de_int)) (dss_one (ds_ret (de_tup (da_cons (de_var 2) (da_cons (de_tupf z_tuple (da_cons (de_lc (own := [(".0", 12), ("_law_one", 13)]) false rfl nd (di_any (de_var 3)) (by rfl) (fun _ _ _ _ _ => (dg_name 13 nd)) (fun _ _ _ _ _ => dts_nil) (fun _ _ _ _ _ => (de_mulX false (de_var 13) (de_var 8)))) da_nil)) (da_cons (de_tupf z_tuple (da_cons (de_lc (own := [(".0", 12), ("_law_one", 13)]) false rfl nd (di_any (de_var 4)) (by rfl) (fun _ _ _ _ _ => (dg_name 13 nd)) (fun _ _ _ _ _ => dts_nil) (fun _ _ _ _ _ => (de_mulX false (de_var 13) de_int))) da_nil)) (da_cons (de_var 5) da_nil))))))) dss_nil)
    (dss_cons (ds_if (DC.dt (dc_eq hu (de_var 6) de_int)) (dss_one (ds_ret (de_tup (da_cons (de_var 2) (da_cons (de_var 3) (da_cons (de_var 4) (da_cons (de_tupf z_tuple (da_cons (de_lc (own := [(".0", 12), ("_law_p", 14), ("_law_letter", 15), ("_law_q", 16), ("_law_w", 17)]) false rfl nd (di_any (de_var 5)) (by rfl) (fun _ _ _ _ _ => (dg_tup rfl (dgs_cons (dg_name 14 nd) (dgs_cons (dg_name 15 nd) (dgs_cons (dg_name 16 nd) (dgs_cons (dg_name 17 nd) dgs_nil)))))) (fun _ _ _ _ _ => dts_nil) (fun _ _ _ _ _ => (de_tup (da_cons (de_var 14) (da_cons (de_var 15) (da_cons (de_var 16) (da_cons (de_mulX false (de_var 17) (de_var 8)) da_nil))))))) da_nil)) da_nil))))))) dss_nil)
    (dss_cons (ds_if (DC.dt (dc_eq hu (de_var 6) de_int)) (dss_cons (ds_set 9 nd (de_call (d_law_mixed.mono (by decide)) hr hG (da_cons (de_var 0) (da_cons (de_listRg1 false rfl z_list z_range (de_var 7)) da_nil))))
    (dss_cons (ds_set 10 nd (de_tupf z_tuple (da_cons (de_sortf false hu z_sorted (da_cons (de_lc (own := [(".0", 12), ("_law_p", 14), ("_law_letter", 15), ("_law_q", 16), ("_law_w", 17)]) false rfl nd (di_any (de_var 5)) (by rfl) (fun _ _ _ _ _ => (dg_tup rfl (dgs_cons (dg_name 14 nd) (dgs_cons (dg_name 15 nd) (dgs_cons (dg_name 16 nd) (dgs_cons (dg_name 17 nd) dgs_nil)))))) (fun _ _ _ _ _ => dts_nil) (fun _ _ _ _ _ => (de_tup (da_cons (de_index hu1 (de_var 9) (da_cons (de_var 14) da_nil)) (da_cons (de_var 15) (da_cons (de_index hu1 (de_var 9) (da_cons (de_var 16) da_nil)) (da_cons (de_var 17) da_nil))))))) da_nil)) da_nil)))
    (dss_one (ds_ret (de_tup (da_cons (de_var 2) (da_cons (de_tupf z_tuple (da_cons (de_lc (own := [(".0", 12), ("_law_p", 14)]) false rfl nd (di_any (de_var 9)) (by rfl) (fun _ _ _ _ _ => (dg_name 14 nd)) (fun _ _ _ _ _ => dts_nil) (fun _ _ _ _ _ => (de_sub_ (de_var 3) (de_var 14)))) da_nil)) (da_cons (de_tupf z_tuple (da_cons (de_lc (own := [(".0", 12), ("_law_p", 14)]) false rfl nd (di_any (de_var 9)) (by rfl) (fun _ _ _ _ _ => (dg_name 14 nd)) (fun _ _ _ _ _ => dts_nil) (fun _ _ _ _ _ => (de_sub_ (de_var 4) (de_var 14)))) da_nil)) (da_cons (de_var 10) da_nil))))))))) dss_nil)
    (dss_cons (ds_if (DW.dt (dw_and (DC.dt (dc_eq hu (de_var 6) de_int)) (dw_and1 (DC.dt (dc_ne hu (de_var 5) (de_tup da_nil)))))) (dss_cons (ds_set 11 nd (de_call (d_law_take.mono (by decide)) hr hG (da_cons (de_var 0) (da_cons (de_len z_len (da_cons (de_var 5) da_nil)) da_nil))))
    (dss_one (ds_ret (de_tup (da_cons (de_var 2) (da_cons (de_var 3) (da_cons (de_var 4) (da_cons (de_add false (de_add false (de_slice false (de_var 5) do_none (do_some (de_var 11))) (de_tup (da_cons (de_add false (de_slice false (de_sub_ (de_var 5) (de_var 11)) do_none (do_some de_int)) (de_tup (da_cons (de_add false (de_sub_ (de_sub_ (de_var 5) (de_var 11)) de_int) de_int) da_nil))) da_nil))) (de_slice false (de_var 5) (do_some (de_add false (de_var 11) de_int)) do_none)) da_nil)))))))) dss_nil)
    (dss_cons (ds_if (DW.dt (dw_and (DC.dt (dc_eq hu (de_var 6) de_int)) (dw_and1 (DC.dt (dc_ne hu (de_var 5) (de_tup da_nil)))))) (dss_cons (ds_set 11 nd (de_call (d_law_take.mono (by decide)) hr hG (da_cons (de_var 0) (da_cons (de_len z_len (da_cons (de_var 5) da_nil)) da_nil))))
    (dss_one (ds_ret (de_tup (da_cons (de_var 2) (da_cons (de_var 3) (da_cons (de_var 4) (da_cons (de_add false (de_slice false (de_var 5) do_none (do_some (de_var 11))) (de_slice false (de_var 5) (do_some (de_add false (de_var 11) de_int)) do_none)) da_nil)))))))) dss_nil)
    (dss_cons (ds_if (DC.dt (dc_eq hu (de_var 6) de_int)) (dss_cons (ds_set 11 nd (de_call (d_law_take.mono (by decide)) hr hG (da_cons (de_var 0) (da_cons (de_var 7) da_nil))))
    (dss_one (ds_ret (de_tup (da_cons (de_var 2) (da_cons (de_var 3) (da_cons (de_add false (de_add false (de_slice false (de_var 4) do_none (do_some (de_var 11))) (de_tup (da_cons (de_add false (de_sub_ (de_var 4) (de_var 11)) de_int) da_nil))) (de_slice false (de_var 4) (do_some (de_add false (de_var 11) de_int)) do_none)) (da_cons (de_var 5) da_nil)))))))) dss_nil)
    (dss_one (ds_ret (de_var 1))))))))))))
noncomputable def b_law_doubled : MS := (sSeq (sAsg (eVar 0) (gT 4 (gsC (gN 1) (gsC (gN 2) (gsC (gN 3) (gsC (gN 4) gsN))))))
    (sSeq (sSet 5 (eL gLen [(eVar 2)]))
    (sSeq (sSet 6 (eL gTup [(eLc false (iA (eVar 4)) (gT 4 (gsC (gN 8) (gsC (gN 9) (gsC (gN 10) (gsC (gN 11) gsN))))) tYesM (eTup [(e2 (gAdd false) (eVar 8) (eVar 5)), (eVar 9), (e2 (gAdd false) (eVar 10) (eVar 5)), (eVar 11)]) [7, 8, 9, 10, 11])]))
    (sRet (eTup [(eVar 1), (e2 (gAdd false) (eVar 2) (eVar 2)), (e2 (gAdd false) (eVar 3) (eVar 3)), (e2 (gAdd false) (eVar 4) (eVar 6))])))))
noncomputable def m_law_doubled : MF := fnB 12 b_law_doubled
abbrev s_law_doubled : Stmt := topS 24
theorem sc_law_doubled : FnScope ["_law_model", "_law_measure", "_law_begins", "_law_ends", "_law_arcs", "_law_many", "_law_more", ".0", "_law_p", "_law_letter", "_law_q", "_law_w"] ["_law_model"] (defScope s_law_doubled) := ⟨rfl, rfl, rfl, by decide +kernel, rfl, by decide +kernel, by decide +kernel⟩
theorem ok_law_doubled {f : Addr} {fd : FuncData} (T : L2.Fun K "_law_doubled" "_law_doubled" s_law_doubled f fd) (hmg : mg "_law_doubled" = some (.ref f)) (z_len : mg "len" = none) (z_tuple : mg "tuple" = none) : DFn P w K mg base 1 "_law_doubled" 1 m_law_doubled :=
  dfn_of T sc_law_doubled hmg rfl rfl (by decide) (fun _ _ _ _ _ _ us hl => match us, hl with | [_], _ => rfl) fun f cdv A outer s H E X hX hr hG => by
    subst hX
    have hu := hr.units
    have hu1 := hu1_of hr
    have nd := sc_law_doubled.nd
    exact (dss_cons (ds_asg (de_var 0) (dg_tup rfl (dgs_cons (dg_name 1 nd) (dgs_cons (dg_name 2 nd) (dgs_cons (dg_name 3 nd) (dgs_cons (dg_name 4 nd) dgs_nil))))))
    (dss_cons (ds_set 5 nd (de_len z_len (da_cons (de_var 2) da_nil)))
    (dss_cons (ds_set 6 nd (de_tupf z_tuple (da_cons (de_lc (own := [(".0", 7), ("_law_p", 8), ("_law_letter", 9), ("_law_q", 10), ("_law_w", 11)]) false rfl nd (di_any (de_var 4)) (by rfl) (fun _ _ _ _ _ => (dg_tup rfl (dgs_cons (dg_name 8 nd) (dgs_cons (dg_name 9 nd) (dgs_cons (dg_name 10 nd) (dgs_cons (dg_name 11 nd) dgs_nil)))))) (fun _ _ _ _ _ => dts_nil) (fun _ _ _ _ _ => (de_tup (da_cons (de_add false (de_var 8) (de_var 5)) (da_cons (de_var 9) (da_cons (de_add false (de_var 10) (de_var 5)) (da_cons (de_var 11) da_nil))))))) da_nil)))
    (dss_one (ds_ret (de_tup (da_cons (de_var 1) (da_cons (de_add false (de_var 2) (de_var 2)) (da_cons (de_add false (de_var 3) (de_var 3)) (da_cons (de_add false (de_var 4) (de_var 6)) da_nil))))))))))
noncomputable def b_law_couple : MS := (sSeq (sSet 1 (eL m_law_small_model [(eVar 0), (eL m_law_some [(eVar 0), (eLst false [(eC (.int 2)), (eC (.int 1)), (eC (.int 2))])])]))
    (sSeq (sSet 2 (eL m_law_turned_model [(eVar 0), (eL m_law_turned_model [(eVar 0), (eVar 1)])]))
    (sSeq (sIf (tB_ (e2 (gEq true) (eL m_law_take [(eVar 0), (eC (.int 4))]) (eC (.int 0)))) (sSet 2 (eL m_law_small_model [(eVar 0), (eC (.int 2))])) sNil)
    (sSeq (sIf (tB_ (e2 (gEq true) (eL m_law_take [(eVar 0), (eC (.int 6))]) (eC (.int 0)))) (sSet 2 (eIf (tB_ (e2 gLe (e2 (gMulX false) (eL gLen [(e2 gIx (eVar 1) (eC (.int 1)))]) (eL gLen [(e2 gIx (eVar 2) (eC (.int 1)))])) (eC (.int 2)))) (eL m_law_doubled [(eVar 2)]) (eVar 2))) sNil)
    (sRet (eTup [(eVar 1), (eVar 2)]))))))
noncomputable def m_law_couple : MF := fnB 3 b_law_couple
abbrev s_law_couple : Stmt := topS 23
theorem sc_law_couple : FnScope ["_law_bag_here", "_law_one", "_law_other"] ["_law_bag_here"] (defScope s_law_couple) := ⟨rfl, rfl, rfl, by decide +kernel, rfl, by decide +kernel, by decide +kernel⟩
theorem ok_law_couple {f : Addr} {fd : FuncData} (T : L2.Fun K "_law_couple" "_law_couple" s_law_couple f fd) (hmg : mg "_law_couple" = some (.ref f)) (z_len : mg "len" = none) (d_law_take : DFn P w K mg base 1 "_law_take" 2 m_law_take) (d_law_some : DFn P w K mg base 2 "_law_some" 2 m_law_some) (d_law_small_model : DFn P w K mg base 3 "_law_small_model" 2 m_law_small_model) (d_law_turned_model : DFn P w K mg base 3 "_law_turned_model" 2 m_law_turned_model) (d_law_doubled : DFn P w K mg base 1 "_law_doubled" 1 m_law_doubled) : DFn P w K mg base 4 "_law_couple" 1 m_law_couple :=
  dfn_of T sc_law_couple hmg rfl rfl (by decide) (fun _ _ _ _ _ _ us hl => match us, hl with | [_], _ => rfl) fun f cdv A outer s H E X hX hr hG => by
    subst hX
    have hu := hr.units
    have hu1 := hu1_of hr
    have nd := sc_law_couple.nd
    exact (dss_cons (ds_set 1 nd (de_call (d_law_small_model.mono (by decide)) hr hG (da_cons (de_var 0) (da_cons (de_call (d_law_some.mono (by decide)) hr hG (da_cons (de_var 0) (da_cons (de_lst false (da_cons de_int (da_cons de_int (da_cons de_int da_nil)))) da_nil))) da_nil))))
    (dss_cons (ds_set 2 nd (de_call (d_law_turned_model.mono (by decide)) hr hG (da_cons (de_var 0) (da_cons (de_call (d_law_turned_model.mono (by decide)) hr hG (da_cons (de_var 0) (da_cons (de_var 1) da_nil))) da_nil))))
    (dss_cons (ds_if (DC.dt (dc_eq hu (de_call (d_law_take.mono (by decide)) hr hG (da_cons (de_var 0) (da_cons de_int da_nil))) de_int)) (dss_one (ds_set 2 nd (de_call (d_law_small_model.mono (by decide)) hr hG (da_cons (de_var 0) (da_cons de_int da_nil))))) dss_nil)
    (dss_cons (ds_if (DC.dt (dc_eq hu (de_call (d_law_take.mono (by decide)) hr hG (da_cons (de_var 0) (da_cons de_int da_nil))) de_int)) (dss_one (ds_set 2 nd (de_if (DC.dt (dc_le (de_mulX false (de_len z_len (da_cons (de_sub_ (de_var 1) de_int) da_nil)) (de_len z_len (da_cons (de_sub_ (de_var 2) de_int) da_nil))) de_int)) (de_call (d_law_doubled.mono (by decide)) hr hG (da_cons (de_var 2) da_nil)) (de_var 2)))) dss_nil)
    (dss_one (ds_ret (de_tup (da_cons (de_var 1) (da_cons (de_var 2) da_nil)))))))))
noncomputable def b_law_track : MS := (sSeq (sAsg (eTup [(eL m_law_sums [(eVar 0), (eVar 2)]), (eL m_law_sums [(eVar 1), (eVar 2)])]) (gT 2 (gsC (gN 3) (gsC (gN 4) gsN))))
    (sSeq (sAsg (eTup [(eL m_law_all_sums [(eVar 0), (eL gLen [(eVar 2)])]), (eL m_law_all_sums [(eVar 1), (eL gLen [(eVar 2)])])]) (gT 2 (gsC (gN 5) (gsC (gN 6) gsN))))
    (sSeq (sSet 7 (eLst true []))
    (sSeq (sFgt [8] (sFor (iR1 (eL gLen [(eVar 3)])) (gN 8) (sFgt [8] (sEx (eM isL mExtend (eVar 7) [(eLc false (iA (eVar 6)) (gN 10) tYesM (e2 (gMulX false) (e2 gIx (eVar 3) (eVar 8)) (eVar 10)) [9, 10])])))))
    (sSeq (sFgt [8] (sFor (iR1 (eL gLen [(eVar 3)])) (gN 8) (sFgt [8] (sEx (eM isL mExtend (eVar 7) [(eLc false (iA (eVar 4)) (gN 11) tYesM (e2 (gMulX false) (e2 gIx (eVar 5) (eVar 8)) (eVar 11)) [9, 11])])))))
    (sRet (eL gTup [(eVar 7)])))))))
noncomputable def m_law_track : MF := fnB 12 b_law_track
abbrev s_law_track : Stmt := topS 25
theorem sc_law_track : FnScope ["_law_one", "_law_other", "_law_word", "_law_mine", "_law_its", "_law_all_mine", "_law_all_its", "_law_found", "_law_p", ".0", "_law_whole", "_law_some_here"] ["_law_one", "_law_other", "_law_word"] (defScope s_law_track) := ⟨rfl, rfl, rfl, by decide +kernel, rfl, by decide +kernel, by decide +kernel⟩
theorem ok_law_track {f : Addr} {fd : FuncData} (T : L2.Fun K "_law_track" "_law_track" s_law_track f fd) (hmg : mg "_law_track" = some (.ref f)) (z_len : mg "len" = none) (z_range : mg "range" = none) (z_tuple : mg "tuple" = none) (d_law_sums : DFn P w K mg base 2 "_law_sums" 2 m_law_sums) (d_law_all_sums : DFn P w K mg base 2 "_law_all_sums" 2 m_law_all_sums) : DFn P w K mg base 3 "_law_track" 3 m_law_track :=
  dfn_of T sc_law_track hmg rfl rfl (by decide) (fun _ _ _ _ _ _ us hl => match us, hl with | [_, _, _], _ => rfl) fun f cdv A outer s H E X hX hr hG => by
    subst hX
    have hu := hr.units
    have hu1 := hu1_of hr
    have nd := sc_law_track.nd
    exact (dss_cons (ds_asg (de_tup (da_cons (de_call (d_law_sums.mono (by decide)) hr hG (da_cons (de_var 0) (da_cons (de_var 2) da_nil))) (da_cons (de_call (d_law_sums.mono (by decide)) hr hG (da_cons (de_var 1) (da_cons (de_var 2) da_nil))) da_nil))) (dg_tup rfl (dgs_cons (dg_name 3 nd) (dgs_cons (dg_name 4 nd) dgs_nil))))
    (dss_cons (ds_asg (de_tup (da_cons (de_call (d_law_all_sums.mono (by decide)) hr hG (da_cons (de_var 0) (da_cons (de_len z_len (da_cons (de_var 2) da_nil)) da_nil))) (da_cons (de_call (d_law_all_sums.mono (by decide)) hr hG (da_cons (de_var 1) (da_cons (de_len z_len (da_cons (de_var 2) da_nil)) da_nil))) da_nil))) (dg_tup rfl (dgs_cons (dg_name 5 nd) (dgs_cons (dg_name 6 nd) dgs_nil))))
    (dss_cons (ds_set 7 nd (de_lst true da_nil))
    (dss_cons (ds_fgt [8] (ds_for PassesOwn.never rfl (di_range1 z_range (de_len z_len (da_cons (de_var 3) da_nil))) (dg_name 8 nd) (dss_one (ds_fgt [8] (ds_expr (de_extend (de_var 7) (da_cons (de_lc (own := [(".0", 9), ("_law_whole", 10)]) false rfl nd (di_any (de_var 6)) (by rfl) (fun _ _ _ _ _ => (dg_name 10 nd)) (fun _ _ _ _ _ => dts_nil) (fun _ _ _ _ _ => (de_mulX false (de_sub_ (de_var 3) (de_var 8)) (de_var 10)))) da_nil)))))))
    (dss_cons (ds_fgt [8] (ds_for PassesOwn.never rfl (di_range1 z_range (de_len z_len (da_cons (de_var 3) da_nil))) (dg_name 8 nd) (dss_one (ds_fgt [8] (ds_expr (de_extend (de_var 7) (da_cons (de_lc (own := [(".0", 9), ("_law_some_here", 11)]) false rfl nd (di_any (de_var 4)) (by rfl) (fun _ _ _ _ _ => (dg_name 11 nd)) (fun _ _ _ _ _ => dts_nil) (fun _ _ _ _ _ => (de_mulX false (de_sub_ (de_var 5) (de_var 8)) (de_var 11)))) da_nil)))))))
    (dss_one (ds_ret (de_tupf z_tuple (da_cons (de_var 7) da_nil)))))))))
noncomputable def b_law_value : MS := (sSeq (sSet 3 (eLst true []))
    (sSeq (sFgt [4] (sFor (iA (e2 gIx (eVar 0) (eC (.int 2)))) (gN 4) (sFgt [4] (sEx (eM isL mExtend (eVar 3) [(eLc false (iA (e2 gIx (eVar 1) (eC (.int 2)))) (gN 8) tYesM (e2 (gMulX false) (eVar 4) (eVar 8)) [7, 8])])))))
    (sSeq (sSet 5 (eL gLen [(eVar 3)]))
    (sSeq (sSet 6 (eL gSum [(eLc false (iZ (eSl false (eVar 2) oN (oS (eVar 5))) (eVar 3)) (gT 2 (gsC (gN 9) (gsC (gN 10) gsN))) tYesM (e2 (gMulX false) (eVar 9) (eVar 10)) [7, 9, 10])]))
    (sRet (e2 gSub (eVar 6) (eL gSum [(eLc false (iZ (eSl false (eVar 2) (oS (eVar 5)) oN) (eVar 3)) (gT 2 (gsC (gN 9) (gsC (gN 10) gsN))) tYesM (e2 (gMulX false) (eVar 9) (eVar 10)) [7, 9, 10])])))))))
noncomputable def m_law_value : MF := fnB 11 b_law_value
abbrev s_law_value : Stmt := topS 26
theorem sc_law_value : FnScope ["_law_one", "_law_other", "_law_track_here", "_law_factors", "_law_end", "_law_many", "_law_ahead", ".0", "_law_its", "_law_item", "_law_factor"] ["_law_one", "_law_other", "_law_track_here"] (defScope s_law_value) := ⟨rfl, rfl, rfl, by decide +kernel, rfl, by decide +kernel, by decide +kernel⟩
theorem ok_law_value {f : Addr} {fd : FuncData} (T : L2.Fun K "_law_value" "_law_value" s_law_value f fd) (hmg : mg "_law_value" = some (.ref f)) (z_len : mg "len" = none) (z_sum : mg "sum" = none) (z_zip : mg "zip" = none) : DFn P w K mg base 1 "_law_value" 3 m_law_value :=
  dfn_of T sc_law_value hmg rfl rfl (by decide) (fun _ _ _ _ _ _ us hl => match us, hl with | [_, _, _], _ => rfl) fun f cdv A outer s H E X hX hr hG => by
    subst hX
    have hu := hr.units
    have hu1 := hu1_of hr
    have nd := sc_law_value.nd
    exact (dss_cons (ds_set 3 nd (de_lst true da_nil))
    (dss_cons (ds_fgt [4] (ds_for PassesOwn.never rfl (di_any (de_sub_ (de_var 0) de_int)) (dg_name 4 nd) (dss_one (ds_fgt [4] (ds_expr (de_extend (de_var 3) (da_cons (de_lc (own := [(".0", 7), ("_law_its", 8)]) false rfl nd (di_any (de_sub_ (de_var 1) de_int)) (by rfl) (fun _ _ _ _ _ => (dg_name 8 nd)) (fun _ _ _ _ _ => dts_nil) (fun _ _ _ _ _ => (de_mulX false (de_var 4) (de_var 8)))) da_nil)))))))
    (dss_cons (ds_set 5 nd (de_len z_len (da_cons (de_var 3) da_nil)))
    (dss_cons (ds_set 6 nd (de_sumf rfl z_sum (da_cons (de_lc (own := [(".0", 7), ("_law_item", 9), ("_law_factor", 10)]) false rfl nd (di_zip z_zip (de_slice false (de_var 2) do_none (do_some (de_var 5))) (de_var 3)) (by rfl) (fun _ _ _ _ _ => (dg_tup rfl (dgs_cons (dg_name 9 nd) (dgs_cons (dg_name 10 nd) dgs_nil)))) (fun _ _ _ _ _ => dts_nil) (fun _ _ _ _ _ => (de_mulX false (de_var 9) (de_var 10)))) da_nil)))
    (dss_one (ds_ret (de_sub (de_var 6) (de_sumf rfl z_sum (da_cons (de_lc (own := [(".0", 7), ("_law_item", 9), ("_law_factor", 10)]) false rfl nd (di_zip z_zip (de_slice false (de_var 2) (do_some (de_var 5)) do_none) (de_var 3)) (by rfl) (fun _ _ _ _ _ => (dg_tup rfl (dgs_cons (dg_name 9 nd) (dgs_cons (dg_name 10 nd) dgs_nil)))) (fun _ _ _ _ _ => dts_nil) (fun _ _ _ _ _ => (de_mulX false (de_var 9) (de_var 10)))) da_nil)))))))))
noncomputable def b_law : MS := (sSeq (sSet 1 (eL m_law_bag [(eVar 0)]))
    (sSeq (sFgt [2, 3, 4, 5, 6, 7, 8, 9, 10, 11, 12, 13, 14] (sFor (iR1 (eC (.int 3))) (gN 2) (sFgt [2] (sSeq (sAsg (eL m_law_couple [(eVar 1)]) (gT 2 (gsC (gN 3) (gsC (gN 4) gsN))))
    (sSeq (sSet 5 (e2 (gAdd false) (eL m_law_arc_letters [(eVar 3), (eVar 4)]) (eLst false [(eC (.str (PySem.Str.ofString "z")))])))
    (sSeq (sFgt [6, 7, 8, 9, 10, 11] (sFor (iR1 (eC (.int 5))) (gN 6) (sFgt [6] (sSeq (sSet 7 (eM isS mJoin (eC (.str (PySem.Str.ofString ""))) [(eLc false (iR1 (eL m_law_take [(eVar 1), (eC (.int 8))])) (gN 16) tYesM (eL m_law_some [(eVar 1), (eVar 5)]) [15, 16])]))
    (sSeq (sSet 8 (eL m_law_track [(eVar 3), (eVar 4), (eVar 7)]))
    (sSeq (sIf (tNotM (tV (eL m_law_alike [(eL m_track_of [(eVar 3), (eVar 4), (eVar 7)]), (eVar 8)]))) (sRet (eC (.bl false))) sNil)
    (sSeq (sSet 9 (eLst false [(eL m_law_weight [(eVar 3), (eVar 7)]), (eL m_law_weight [(eVar 4), (eVar 7)])]))
    (sSeq (sFgt [7] (sSet 10 (eLc false (iA (eTup [(eVar 3), (eVar 4)])) (gN 17) tYesM (eL m_law_ended [(eVar 17), (eL m_law_all_sums [(eVar 17), (eL gLen [(eVar 7)])])]) [15, 17])))
    (sSeq (sFgt [9, 10] (sSet 11 (e2 gSub (e2 (gMulX false) (e2 gIx (eVar 9) (eC (.int 0))) (e2 gIx (eVar 10) (eC (.int 1)))) (e2 (gMulX false) (e2 gIx (eVar 9) (eC (.int 1))) (e2 gIx (eVar 10) (eC (.int 0)))))))
    (sFgt [8, 11] (sIf (tNotM (tV (eL m_law_alike [(eLst false [(eL m_value_of [(eVar 3), (eVar 4), (eVar 8)]), (eL m_law_value [(eVar 3), (eVar 4), (eVar 8)])]), (eLst false [(eVar 11), (eVar 11)])]))) (sRet (eC (.bl false))) sNil)))))))))))
    (sSeq (sSet 12 (eLc false (iR1 (eC (.int 2))) (gN 6) tYesM (eM isS mJoin (eC (.str (PySem.Str.ofString ""))) [(eLc false (iR1 (eC (.int 3))) (gN 16) tYesM (eL m_law_some [(eVar 1), (eVar 5)]) [15, 16])]) [15, 6]))
    (sSeq (sSet 13 (eLst false [(eL m_track_of [(eVar 3), (eVar 4), (e2 gIx (eVar 12) (eC (.int 0)))]), (eL m_track_of [(eVar 3), (eVar 4), (e2 gIx (eVar 12) (eC (.int 1)))])]))
    (sFgt [3, 4, 5, 12, 13, 14] (sIf (tB_ (e2 (gEq true) (e2 gIx (eVar 13) (eC (.int 0))) (e2 gIx (eVar 13) (eC (.int 1))))) (sFor (iA (eVar 5)) (gN 14) (sFgt [14] (sIf (tB_ (e2 (gEq false) (eL m_track_of [(eVar 3), (eVar 4), (e2 (gAdd false) (e2 gIx (eVar 12) (eC (.int 0))) (eVar 14))]) (eL m_track_of [(eVar 3), (eVar 4), (e2 (gAdd false) (e2 gIx (eVar 12) (eC (.int 1))) (eVar 14))]))) (sRet (eC (.bl false))) sNil))) sNil))))))))))
    (sRet (eC (.bl true)))))
noncomputable def m_law : MF := fnB 18 b_law
abbrev s_law : Stmt := topS 27
theorem sc_law : FnScope ["_law_script", "_law_bag_here", "_law_turn", "_law_one", "_law_other", "_law_letters", "_law_k", "_law_word", "_law_due", "_law_weights", "_law_wholes", "_law_value_here", "_law_words", "_law_rows", "_law_letter", ".0", "_law_at", "_law_model"] ["_law_script"] (defScope s_law) := ⟨rfl, rfl, rfl, by decide +kernel, rfl, by decide +kernel, by decide +kernel⟩
theorem ok_law {f : Addr} {fd : FuncData} (T : L2.Fun K "law" "law" s_law f fd) (hmg : mg "law" = some (.ref f)) (z_len : mg "len" = none) (z_range : mg "range" = none) (d_track_of : DFn P w K mg base 3 "track_of" 3 m_track_of) (d_value_of : DFn P w K mg base 1 "value_of" 3 m_value_of) (d_law_bag : DFn P w K mg base 1 "_law_bag" 1 m_law_bag) (d_law_take : DFn P w K mg base 1 "_law_take" 2 m_law_take) (d_law_some : DFn P w K mg base 2 "_law_some" 2 m_law_some) (d_law_alike : DFn P w K mg base 1 "_law_alike" 2 m_law_alike) (d_law_weight : DFn P w K mg base 2 "_law_weight" 2 m_law_weight) (d_law_arc_letters : DFn P w K mg base 1 "_law_arc_letters" 2 m_law_arc_letters) (d_law_ended : DFn P w K mg base 1 "_law_ended" 2 m_law_ended) (d_law_all_sums : DFn P w K mg base 2 "_law_all_sums" 2 m_law_all_sums) (d_law_couple : DFn P w K mg base 4 "_law_couple" 1 m_law_couple) (d_law_track : DFn P w K mg base 3 "_law_track" 3 m_law_track) (d_law_value : DFn P w K mg base 1 "_law_value" 3 m_law_value) : DFn P w K mg base 5 "law" 1 m_law :=
  dfn_of T sc_law hmg rfl rfl (by decide) (fun _ _ _ _ _ _ us hl => match us, hl with | [_], _ => rfl) fun f cdv A outer s H E X hX hr hG => by
    subst hX
    have hu := hr.units
    have hu1 := hu1_of hr
    have nd := sc_law.nd
    exact (dss_cons (ds_set 1 nd (de_call (d_law_bag.mono (by decide)) hr hG (da_cons (de_var 0) da_nil)))
    (dss_cons (ds_fgt [2, 3, 4, 5, 6, 7, 8, 9, 10, 11, 12, 13, 14] (ds_for PassesOwn.never rfl (di_range1 z_range de_int) (dg_name 2 nd) (dss_fgt [2] (dss_cons (ds_asg (de_call (d_law_couple.mono (by decide)) hr hG (da_cons (de_var 1) da_nil)) (dg_tup rfl (dgs_cons (dg_name 3 nd) (dgs_cons (dg_name 4 nd) dgs_nil))))
    (dss_cons (ds_set 5 nd (de_add false (de_call (d_law_arc_letters.mono (by decide)) hr hG (da_cons (de_var 3) (da_cons (de_var 4) da_nil))) (de_lst false (da_cons de_str da_nil))))
    (dss_cons (ds_fgt [6, 7, 8, 9, 10, 11] (ds_for PassesOwn.never rfl (di_range1 z_range de_int) (dg_name 6 nd) (dss_fgt [6] (dss_cons (ds_set 7 nd (de_join de_str (da_cons (de_lc (own := [(".0", 15), ("_law_at", 16)]) false rfl nd (di_range1 z_range (de_call (d_law_take.mono (by decide)) hr hG (da_cons (de_var 1) (da_cons de_int da_nil)))) (by rfl) (fun _ _ _ _ _ => (dg_name 16 nd)) (fun _ _ _ _ _ => dts_nil) (fun _ _ _ _ _ => (de_call (d_law_some.mono (by decide)) hr hG (da_cons (de_var 1) (da_cons (de_var 5) da_nil))))) da_nil)))
    (dss_cons (ds_set 8 nd (de_call (d_law_track.mono (by decide)) hr hG (da_cons (de_var 3) (da_cons (de_var 4) (da_cons (de_var 7) da_nil)))))
    (dss_cons (ds_if (dt_not (dt_val (de_call (d_law_alike.mono (by decide)) hr hG (da_cons (de_call (d_track_of.mono (by decide)) hr hG (da_cons (de_var 3) (da_cons (de_var 4) (da_cons (de_var 7) da_nil)))) (da_cons (de_var 8) da_nil))))) (dss_one (ds_ret de_bl)) dss_nil)
    (dss_cons (ds_set 9 nd (de_lst false (da_cons (de_call (d_law_weight.mono (by decide)) hr hG (da_cons (de_var 3) (da_cons (de_var 7) da_nil))) (da_cons (de_call (d_law_weight.mono (by decide)) hr hG (da_cons (de_var 4) (da_cons (de_var 7) da_nil))) da_nil))))
    (dss_cons (ds_fgt [7] (ds_setLc (own := [(".0", 15), ("_law_model", 17)]) false 10 rfl nd (di_any (de_tup (da_cons (de_var 3) (da_cons (de_var 4) da_nil)))) (by rfl) (fun _ _ _ _ _ => (dg_name 17 nd)) (fun _ _ _ _ _ => dts_nil) (fun _ _ _ _ _ => (de_call (d_law_ended.mono (by decide)) hr hG (da_cons (de_var 17) (da_cons (de_call (d_law_all_sums.mono (by decide)) hr hG (da_cons (de_var 17) (da_cons (de_len z_len (da_cons (de_var 7) da_nil)) da_nil))) da_nil)))) (sw_true rfl rfl rfl (by decide +kernel))))
    (dss_cons (ds_fgt [9, 10] (ds_set 11 nd (de_sub (de_mulX false (de_sub_ (de_var 9) de_int) (de_sub_ (de_var 10) de_int)) (de_mulX false (de_sub_ (de_var 9) de_int) (de_sub_ (de_var 10) de_int)))))
    (dss_one (ds_fgt [8, 11] (ds_if (dt_not (dt_val (de_call (d_law_alike.mono (by decide)) hr hG (da_cons (de_lst false (da_cons (de_call (d_value_of.mono (by decide)) hr hG (da_cons (de_var 3) (da_cons (de_var 4) (da_cons (de_var 8) da_nil)))) (da_cons (de_call (d_law_value.mono (by decide)) hr hG (da_cons (de_var 3) (da_cons (de_var 4) (da_cons (de_var 8) da_nil)))) da_nil))) (da_cons (de_lst false (da_cons (de_var 11) (da_cons (de_var 11) da_nil))) da_nil))))) (dss_one (ds_ret de_bl)) dss_nil))))))))))))
    (dss_cons (ds_setLc (own := [(".0", 15), ("_law_k", 6)]) false 12 rfl nd (di_range1 z_range de_int) (by rfl) (fun _ _ _ _ _ => (dg_name 6 nd)) (fun _ _ _ _ _ => dts_nil) (fun _ _ _ _ _ => (de_join de_str (da_cons (de_lc (own := [(".0", 15), ("_law_at", 16)]) false rfl nd (di_range1 z_range de_int) (by rfl) (fun _ _ _ _ _ => (dg_name 16 nd)) (fun _ _ _ _ _ => dts_nil) (fun _ _ _ _ _ => (de_call (d_law_some.mono (by decide)) hr hG (da_cons (de_var 1) (da_cons (de_var 5) da_nil))))) da_nil))) (sw_true rfl rfl rfl (by decide +kernel)))
    (dss_cons (ds_set 13 nd (de_lst false (da_cons (de_call (d_track_of.mono (by decide)) hr hG (da_cons (de_var 3) (da_cons (de_var 4) (da_cons (de_sub_ (de_var 12) de_int) da_nil)))) (da_cons (de_call (d_track_of.mono (by decide)) hr hG (da_cons (de_var 3) (da_cons (de_var 4) (da_cons (de_sub_ (de_var 12) de_int) da_nil)))) da_nil))))
    (dss_one (ds_fgt [3, 4, 5, 12, 13, 14] (ds_if (DC.dt (dc_eq hu (de_sub_ (de_var 13) de_int) (de_sub_ (de_var 13) de_int))) (dss_one (ds_for PassesOwn.never rfl (di_any (de_var 5)) (dg_name 14 nd) (dss_one (ds_fgt [14] (ds_if (DC.dt (dc_ne hu (de_call (d_track_of.mono (by decide)) hr hG (da_cons (de_var 3) (da_cons (de_var 4) (da_cons (de_add false (de_sub_ (de_var 12) de_int) (de_var 14)) da_nil)))) (de_call (d_track_of.mono (by decide)) hr hG (da_cons (de_var 3) (da_cons (de_var 4) (da_cons (de_add false (de_sub_ (de_var 12) de_int) (de_var 14)) da_nil)))))) (dss_one (ds_ret de_bl)) dss_nil))))) dss_nil)))))))))))
    (dss_one (ds_ret de_bl))))
end
theorem all_mk {l : PySem.W.OpenLaw} {w : World} {K : PySem.W.Frag} {h : Heap} {mg : Str → Option Value} (X : K.In h) (G : h.Ns mainGlobals mg)
    {f0 : Addr} {od0 an0 : Option Addr} {sl0 : Array (Option Value)} {oc0 kV0 dc0 pm0 cd0 ct0 : Value}
    (a0 : PySem.W.nsIn K mainGlobals "led" = some (some (.ref f0))) (l0 : K.lookup f0 = some ⟨oc0, od0, .func (PySem.W.fnOf "led" "led" (defArgs s_led) (defBody s_led) (defScope s_led) .none kV0 dc0 pm0 an0 cd0 ct0), sl0⟩) (c0 : PySem.W.codeIn K cd0 "led" = true) (k0 : PySem.W.keepIn K (.ref f0) = true)
    {f1 : Addr} {od1 an1 : Option Addr} {sl1 : Array (Option Value)} {oc1 kV1 dc1 pm1 cd1 ct1 : Value}
    (a1 : PySem.W.nsIn K mainGlobals "first_rows" = some (some (.ref f1))) (l1 : K.lookup f1 = some ⟨oc1, od1, .func (PySem.W.fnOf "first_rows" "first_rows" (defArgs s_first_rows) (defBody s_first_rows) (defScope s_first_rows) .none kV1 dc1 pm1 an1 cd1 ct1), sl1⟩) (c1 : PySem.W.codeIn K cd1 "first_rows" = true) (k1 : PySem.W.keepIn K (.ref f1) = true)
    {f2 : Addr} {od2 an2 : Option Addr} {sl2 : Array (Option Value)} {oc2 kV2 dc2 pm2 cd2 ct2 : Value}
    (a2 : PySem.W.nsIn K mainGlobals "next_rows" = some (some (.ref f2))) (l2 : K.lookup f2 = some ⟨oc2, od2, .func (PySem.W.fnOf "next_rows" "next_rows" (defArgs s_next_rows) (defBody s_next_rows) (defScope s_next_rows) .none kV2 dc2 pm2 an2 cd2 ct2), sl2⟩) (c2 : PySem.W.codeIn K cd2 "next_rows" = true) (k2 : PySem.W.keepIn K (.ref f2) = true)
    {f3 : Addr} {od3 an3 : Option Addr} {sl3 : Array (Option Value)} {oc3 kV3 dc3 pm3 cd3 ct3 : Value}
    (a3 : PySem.W.nsIn K mainGlobals "track_by" = some (some (.ref f3))) (l3 : K.lookup f3 = some ⟨oc3, od3, .func (PySem.W.fnOf "track_by" "track_by" (defArgs s_track_by) (defBody s_track_by) (defScope s_track_by) .none kV3 dc3 pm3 an3 cd3 ct3), sl3⟩) (c3 : PySem.W.codeIn K cd3 "track_by" = true) (k3 : PySem.W.keepIn K (.ref f3) = true)
    {f4 : Addr} {od4 an4 : Option Addr} {sl4 : Array (Option Value)} {oc4 kV4 dc4 pm4 cd4 ct4 : Value}
    (a4 : PySem.W.nsIn K mainGlobals "track_of" = some (some (.ref f4))) (l4 : K.lookup f4 = some ⟨oc4, od4, .func (PySem.W.fnOf "track_of" "track_of" (defArgs s_track_of) (defBody s_track_of) (defScope s_track_of) .none kV4 dc4 pm4 an4 cd4 ct4), sl4⟩) (c4 : PySem.W.codeIn K cd4 "track_of" = true) (k4 : PySem.W.keepIn K (.ref f4) = true)
    {f5 : Addr} {od5 an5 : Option Addr} {sl5 : Array (Option Value)} {oc5 kV5 dc5 pm5 cd5 ct5 : Value}
    (a5 : PySem.W.nsIn K mainGlobals "value_of" = some (some (.ref f5))) (l5 : K.lookup f5 = some ⟨oc5, od5, .func (PySem.W.fnOf "value_of" "value_of" (defArgs s_value_of) (defBody s_value_of) (defScope s_value_of) .none kV5 dc5 pm5 an5 cd5 ct5), sl5⟩) (c5 : PySem.W.codeIn K cd5 "value_of" = true) (k5 : PySem.W.keepIn K (.ref f5) = true)
    {f6 : Addr} {od6 an6 : Option Addr} {sl6 : Array (Option Value)} {oc6 kV6 dc6 pm6 cd6 ct6 : Value}
    (a6 : PySem.W.nsIn K mainGlobals "_law_bag" = some (some (.ref f6))) (l6 : K.lookup f6 = some ⟨oc6, od6, .func (PySem.W.fnOf "_law_bag" "_law_bag" (defArgs s_law_bag) (defBody s_law_bag) (defScope s_law_bag) .none kV6 dc6 pm6 an6 cd6 ct6), sl6⟩) (c6 : PySem.W.codeIn K cd6 "_law_bag" = true) (k6 : PySem.W.keepIn K (.ref f6) = true)
    {f7 : Addr} {od7 an7 : Option Addr} {sl7 : Array (Option Value)} {oc7 kV7 dc7 pm7 cd7 ct7 : Value}
    (a7 : PySem.W.nsIn K mainGlobals "_law_take" = some (some (.ref f7))) (l7 : K.lookup f7 = some ⟨oc7, od7, .func (PySem.W.fnOf "_law_take" "_law_take" (defArgs s_law_take) (defBody s_law_take) (defScope s_law_take) .none kV7 dc7 pm7 an7 cd7 ct7), sl7⟩) (c7 : PySem.W.codeIn K cd7 "_law_take" = true) (k7 : PySem.W.keepIn K (.ref f7) = true)
    {f8 : Addr} {od8 an8 : Option Addr} {sl8 : Array (Option Value)} {oc8 kV8 dc8 pm8 cd8 ct8 : Value}
    (a8 : PySem.W.nsIn K mainGlobals "_law_some" = some (some (.ref f8))) (l8 : K.lookup f8 = some ⟨oc8, od8, .func (PySem.W.fnOf "_law_some" "_law_some" (defArgs s_law_some) (defBody s_law_some) (defScope s_law_some) .none kV8 dc8 pm8 an8 cd8 ct8), sl8⟩) (c8 : PySem.W.codeIn K cd8 "_law_some" = true) (k8 : PySem.W.keepIn K (.ref f8) = true)
    {f9 : Addr} {od9 an9 : Option Addr} {sl9 : Array (Option Value)} {oc9 kV9 dc9 pm9 cd9 ct9 : Value}
    (a9 : PySem.W.nsIn K mainGlobals "_law_mixed" = some (some (.ref f9))) (l9 : K.lookup f9 = some ⟨oc9, od9, .func (PySem.W.fnOf "_law_mixed" "_law_mixed" (defArgs s_law_mixed) (defBody s_law_mixed) (defScope s_law_mixed) .none kV9 dc9 pm9 an9 cd9 ct9), sl9⟩) (c9 : PySem.W.codeIn K cd9 "_law_mixed" = true) (k9 : PySem.W.keepIn K (.ref f9) = true)
    {f10 : Addr} {od10 an10 : Option Addr} {sl10 : Array (Option Value)} {oc10 kV10 dc10 pm10 cd10 ct10 : Value}
    (a10 : PySem.W.nsIn K mainGlobals "_law_alike" = some (some (.ref f10))) (l10 : K.lookup f10 = some ⟨oc10, od10, .func (PySem.W.fnOf "_law_alike" "_law_alike" (defArgs s_law_alike) (defBody s_law_alike) (defScope s_law_alike) .none kV10 dc10 pm10 an10 cd10 ct10), sl10⟩) (c10 : PySem.W.codeIn K cd10 "_law_alike" = true) (k10 : PySem.W.keepIn K (.ref f10) = true)
    {f11 : Addr} {od11 an11 : Option Addr} {sl11 : Array (Option Value)} {oc11 kV11 dc11 pm11 cd11 ct11 : Value}
    (a11 : PySem.W.nsIn K mainGlobals "_law_prices" = some (some (.ref f11))) (l11 : K.lookup f11 = some ⟨oc11, od11, .func (PySem.W.fnOf "_law_prices" "_law_prices" (defArgs s_law_prices) (defBody s_law_prices) (defScope s_law_prices) .none kV11 dc11 pm11 an11 cd11 ct11), sl11⟩) (c11 : PySem.W.codeIn K cd11 "_law_prices" = true) (k11 : PySem.W.keepIn K (.ref f11) = true)
    {f12 : Addr} {od12 an12 : Option Addr} {sl12 : Array (Option Value)} {oc12 kV12 dc12 pm12 cd12 ct12 : Value}
    (a12 : PySem.W.nsIn K mainGlobals "_law_weight" = some (some (.ref f12))) (l12 : K.lookup f12 = some ⟨oc12, od12, .func (PySem.W.fnOf "_law_weight" "_law_weight" (defArgs s_law_weight) (defBody s_law_weight) (defScope s_law_weight) .none kV12 dc12 pm12 an12 cd12 ct12), sl12⟩) (c12 : PySem.W.codeIn K cd12 "_law_weight" = true) (k12 : PySem.W.keepIn K (.ref f12) = true)
    {f13 : Addr} {od13 an13 : Option Addr} {sl13 : Array (Option Value)} {oc13 kV13 dc13 pm13 cd13 ct13 : Value}
    (a13 : PySem.W.nsIn K mainGlobals "_law_arc_letters" = some (some (.ref f13))) (l13 : K.lookup f13 = some ⟨oc13, od13, .func (PySem.W.fnOf "_law_arc_letters" "_law_arc_letters" (defArgs s_law_arc_letters) (defBody s_law_arc_letters) (defScope s_law_arc_letters) .none kV13 dc13 pm13 an13 cd13 ct13), sl13⟩) (c13 : PySem.W.codeIn K cd13 "_law_arc_letters" = true) (k13 : PySem.W.keepIn K (.ref f13) = true)
    {f14 : Addr} {od14 an14 : Option Addr} {sl14 : Array (Option Value)} {oc14 kV14 dc14 pm14 cd14 ct14 : Value}
    (a14 : PySem.W.nsIn K mainGlobals "_law_led" = some (some (.ref f14))) (l14 : K.lookup f14 = some ⟨oc14, od14, .func (PySem.W.fnOf "_law_led" "_law_led" (defArgs s_law_led) (defBody s_law_led) (defScope s_law_led) .none kV14 dc14 pm14 an14 cd14 ct14), sl14⟩) (c14 : PySem.W.codeIn K cd14 "_law_led" = true) (k14 : PySem.W.keepIn K (.ref f14) = true)
    {f15 : Addr} {od15 an15 : Option Addr} {sl15 : Array (Option Value)} {oc15 kV15 dc15 pm15 cd15 ct15 : Value}
    (a15 : PySem.W.nsIn K mainGlobals "_law_ended" = some (some (.ref f15))) (l15 : K.lookup f15 = some ⟨oc15, od15, .func (PySem.W.fnOf "_law_ended" "_law_ended" (defArgs s_law_ended) (defBody s_law_ended) (defScope s_law_ended) .none kV15 dc15 pm15 an15 cd15 ct15), sl15⟩) (c15 : PySem.W.codeIn K cd15 "_law_ended" = true) (k15 : PySem.W.keepIn K (.ref f15) = true)
    {f16 : Addr} {od16 an16 : Option Addr} {sl16 : Array (Option Value)} {oc16 kV16 dc16 pm16 cd16 ct16 : Value}
    (a16 : PySem.W.nsIn K mainGlobals "_law_sums" = some (some (.ref f16))) (l16 : K.lookup f16 = some ⟨oc16, od16, .func (PySem.W.fnOf "_law_sums" "_law_sums" (defArgs s_law_sums) (defBody s_law_sums) (defScope s_law_sums) .none kV16 dc16 pm16 an16 cd16 ct16), sl16⟩) (c16 : PySem.W.codeIn K cd16 "_law_sums" = true) (k16 : PySem.W.keepIn K (.ref f16) = true)
    {f17 : Addr} {od17 an17 : Option Addr} {sl17 : Array (Option Value)} {oc17 kV17 dc17 pm17 cd17 ct17 : Value}
    (a17 : PySem.W.nsIn K mainGlobals "_law_all_sums" = some (some (.ref f17))) (l17 : K.lookup f17 = some ⟨oc17, od17, .func (PySem.W.fnOf "_law_all_sums" "_law_all_sums" (defArgs s_law_all_sums) (defBody s_law_all_sums) (defScope s_law_all_sums) .none kV17 dc17 pm17 an17 cd17 ct17), sl17⟩) (c17 : PySem.W.codeIn K cd17 "_law_all_sums" = true) (k17 : PySem.W.keepIn K (.ref f17) = true)
    {f18 : Addr} {od18 an18 : Option Addr} {sl18 : Array (Option Value)} {oc18 kV18 dc18 pm18 cd18 ct18 : Value}
    (a18 : PySem.W.nsIn K mainGlobals "_law_small_model" = some (some (.ref f18))) (l18 : K.lookup f18 = some ⟨oc18, od18, .func (PySem.W.fnOf "_law_small_model" "_law_small_model" (defArgs s_law_small_model) (defBody s_law_small_model) (defScope s_law_small_model) .none kV18 dc18 pm18 an18 cd18 ct18), sl18⟩) (c18 : PySem.W.codeIn K cd18 "_law_small_model" = true) (k18 : PySem.W.keepIn K (.ref f18) = true)
    {f19 : Addr} {od19 an19 : Option Addr} {sl19 : Array (Option Value)} {oc19 kV19 dc19 pm19 cd19 ct19 : Value}
    (a19 : PySem.W.nsIn K mainGlobals "_law_turned_model" = some (some (.ref f19))) (l19 : K.lookup f19 = some ⟨oc19, od19, .func (PySem.W.fnOf "_law_turned_model" "_law_turned_model" (defArgs s_law_turned_model) (defBody s_law_turned_model) (defScope s_law_turned_model) .none kV19 dc19 pm19 an19 cd19 ct19), sl19⟩) (c19 : PySem.W.codeIn K cd19 "_law_turned_model" = true) (k19 : PySem.W.keepIn K (.ref f19) = true)
    {f20 : Addr} {od20 an20 : Option Addr} {sl20 : Array (Option Value)} {oc20 kV20 dc20 pm20 cd20 ct20 : Value}
    (a20 : PySem.W.nsIn K mainGlobals "_law_doubled" = some (some (.ref f20))) (l20 : K.lookup f20 = some ⟨oc20, od20, .func (PySem.W.fnOf "_law_doubled" "_law_doubled" (defArgs s_law_doubled) (defBody s_law_doubled) (defScope s_law_doubled) .none kV20 dc20 pm20 an20 cd20 ct20), sl20⟩) (c20 : PySem.W.codeIn K cd20 "_law_doubled" = true) (k20 : PySem.W.keepIn K (.ref f20) = true)
    {f21 : Addr} {od21 an21 : Option Addr} {sl21 : Array (Option Value)} {oc21 kV21 dc21 pm21 cd21 ct21 : Value}
    (a21 : PySem.W.nsIn K mainGlobals "_law_couple" = some (some (.ref f21))) (l21 : K.lookup f21 = some ⟨oc21, od21, .func (PySem.W.fnOf "_law_couple" "_law_couple" (defArgs s_law_couple) (defBody s_law_couple) (defScope s_law_couple) .none kV21 dc21 pm21 an21 cd21 ct21), sl21⟩) (c21 : PySem.W.codeIn K cd21 "_law_couple" = true) (k21 : PySem.W.keepIn K (.ref f21) = true)
    {f22 : Addr} {od22 an22 : Option Addr} {sl22 : Array (Option Value)} {oc22 kV22 dc22 pm22 cd22 ct22 : Value}
    (a22 : PySem.W.nsIn K mainGlobals "_law_track" = some (some (.ref f22))) (l22 : K.lookup f22 = some ⟨oc22, od22, .func (PySem.W.fnOf "_law_track" "_law_track" (defArgs s_law_track) (defBody s_law_track) (defScope s_law_track) .none kV22 dc22 pm22 an22 cd22 ct22), sl22⟩) (c22 : PySem.W.codeIn K cd22 "_law_track" = true) (k22 : PySem.W.keepIn K (.ref f22) = true)
    {f23 : Addr} {od23 an23 : Option Addr} {sl23 : Array (Option Value)} {oc23 kV23 dc23 pm23 cd23 ct23 : Value}
    (a23 : PySem.W.nsIn K mainGlobals "_law_value" = some (some (.ref f23))) (l23 : K.lookup f23 = some ⟨oc23, od23, .func (PySem.W.fnOf "_law_value" "_law_value" (defArgs s_law_value) (defBody s_law_value) (defScope s_law_value) .none kV23 dc23 pm23 an23 cd23 ct23), sl23⟩) (c23 : PySem.W.codeIn K cd23 "_law_value" = true) (k23 : PySem.W.keepIn K (.ref f23) = true)
    {f24 : Addr} {od24 an24 : Option Addr} {sl24 : Array (Option Value)} {oc24 kV24 dc24 pm24 cd24 ct24 : Value}
    (a24 : PySem.W.nsIn K mainGlobals "law" = some (some (.ref f24))) (l24 : K.lookup f24 = some ⟨oc24, od24, .func (PySem.W.fnOf "law" "law" (defArgs s_law) (defBody s_law) (defScope s_law) .none kV24 dc24 pm24 an24 cd24 ct24), sl24⟩) (c24 : PySem.W.codeIn K cd24 "law" = true) (k24 : PySem.W.keepIn K (.ref f24) = true)
    (z_abs : PySem.W.nsIn K mainGlobals "abs" = some none)
    (z_dict : PySem.W.nsIn K mainGlobals "dict" = some none)
    (z_int : PySem.W.nsIn K mainGlobals "int" = some none)
    (z_len : PySem.W.nsIn K mainGlobals "len" = some none)
    (z_list : PySem.W.nsIn K mainGlobals "list" = some none)
    (z_range : PySem.W.nsIn K mainGlobals "range" = some none)
    (z_repr : PySem.W.nsIn K mainGlobals "repr" = some none)
    (z_set : PySem.W.nsIn K mainGlobals "set" = some none)
    (z_sorted : PySem.W.nsIn K mainGlobals "sorted" = some none)
    (z_sum : PySem.W.nsIn K mainGlobals "sum" = some none)
    (z_tuple : PySem.W.nsIn K mainGlobals "tuple" = some none)
    (z_zip : PySem.W.nsIn K mainGlobals "zip" = some none)
    : ∀ base : Heap, K.In base → base.Ns mainGlobals mg → DFn l.prog w K mg base 5 "law" 1 m_law := by
  intro base _ _
  have y_abs := PySem.W.mg_none_of X G z_abs
  have y_dict := PySem.W.mg_none_of X G z_dict
  have y_int := PySem.W.mg_none_of X G z_int
  have y_len := PySem.W.mg_none_of X G z_len
  have y_list := PySem.W.mg_none_of X G z_list
  have y_range := PySem.W.mg_none_of X G z_range
  have y_repr := PySem.W.mg_none_of X G z_repr
  have y_set := PySem.W.mg_none_of X G z_set
  have y_sorted := PySem.W.mg_none_of X G z_sorted
  have y_sum := PySem.W.mg_none_of X G z_sum
  have y_tuple := PySem.W.mg_none_of X G z_tuple
  have y_zip := PySem.W.mg_none_of X G z_zip
  have e_led : DFn l.prog w K mg base 1 "led" 3 m_led := ok_led (fun_mk (st := s_led) l0 c0 k0) (PySem.W.mg_of X G a0) y_len
  have e_first_rows : DFn l.prog w K mg base 1 "first_rows" 2 m_first_rows := ok_first_rows (fun_mk (st := s_first_rows) l1 c1 k1) (PySem.W.mg_of X G a1) y_list
  have e_next_rows : DFn l.prog w K mg base 2 "next_rows" 4 m_next_rows := ok_next_rows (fun_mk (st := s_next_rows) l2 c2 k2) (PySem.W.mg_of X G a2) e_led
  have e_track_by : DFn l.prog w K mg base 1 "track_by" 1 m_track_by := ok_track_by (fun_mk (st := s_track_by) l3 c3 k3) (PySem.W.mg_of X G a3) y_tuple
  have e_track_of : DFn l.prog w K mg base 3 "track_of" 3 m_track_of := ok_track_of (fun_mk (st := s_track_of) l4 c4 k4) (PySem.W.mg_of X G a4) e_first_rows e_next_rows e_track_by
  have e_value_of : DFn l.prog w K mg base 1 "value_of" 3 m_value_of := ok_value_of (fun_mk (st := s_value_of) l5 c5 k5) (PySem.W.mg_of X G a5) y_len y_sum y_zip
  have e_law_bag : DFn l.prog w K mg base 1 "_law_bag" 1 m_law_bag := ok_law_bag (fun_mk (st := s_law_bag) l6 c6 k6) (PySem.W.mg_of X G a6) y_abs
  have e_law_take : DFn l.prog w K mg base 1 "_law_take" 2 m_law_take := ok_law_take (fun_mk (st := s_law_take) l7 c7 k7) (PySem.W.mg_of X G a7) y_int
  have e_law_some : DFn l.prog w K mg base 2 "_law_some" 2 m_law_some := ok_law_some (fun_mk (st := s_law_some) l8 c8 k8) (PySem.W.mg_of X G a8) y_len e_law_take
  have e_law_mixed : DFn l.prog w K mg base 2 "_law_mixed" 2 m_law_mixed := ok_law_mixed (fun_mk (st := s_law_mixed) l9 c9 k9) (PySem.W.mg_of X G a9) y_len e_law_take
  have e_law_alike : DFn l.prog w K mg base 1 "_law_alike" 2 m_law_alike := ok_law_alike (fun_mk (st := s_law_alike) l10 c10 k10) (PySem.W.mg_of X G a10) y_repr
  have e_law_prices : DFn l.prog w K mg base 1 "_law_prices" 2 m_law_prices := ok_law_prices (fun_mk (st := s_law_prices) l11 c11 k11) (PySem.W.mg_of X G a11) y_dict y_len y_range y_sorted
  have e_law_weight : DFn l.prog w K mg base 2 "_law_weight" 2 m_law_weight := ok_law_weight (fun_mk (st := s_law_weight) l12 c12 k12) (PySem.W.mg_of X G a12) y_sum e_law_prices
  have e_law_arc_letters : DFn l.prog w K mg base 1 "_law_arc_letters" 2 m_law_arc_letters := ok_law_arc_letters (fun_mk (st := s_law_arc_letters) l13 c13 k13) (PySem.W.mg_of X G a13) y_set y_sorted
  have e_law_led : DFn l.prog w K mg base 1 "_law_led" 3 m_law_led := ok_law_led (fun_mk (st := s_law_led) l14 c14 k14) (PySem.W.mg_of X G a14) y_len
  have e_law_ended : DFn l.prog w K mg base 1 "_law_ended" 2 m_law_ended := ok_law_ended (fun_mk (st := s_law_ended) l15 c15 k15) (PySem.W.mg_of X G a15) y_sum y_zip
  have e_law_sums : DFn l.prog w K mg base 2 "_law_sums" 2 m_law_sums := ok_law_sums (fun_mk (st := s_law_sums) l16 c16 k16) (PySem.W.mg_of X G a16) y_list e_law_led
  have e_law_all_sums : DFn l.prog w K mg base 2 "_law_all_sums" 2 m_law_all_sums := ok_law_all_sums (fun_mk (st := s_law_all_sums) l17 c17 k17) (PySem.W.mg_of X G a17) y_list y_range e_law_led
  have e_law_small_model : DFn l.prog w K mg base 3 "_law_small_model" 2 m_law_small_model := ok_law_small_model (fun_mk (st := s_law_small_model) l18 c18 k18) (PySem.W.mg_of X G a18) y_range y_sorted y_tuple e_law_take e_law_some
  have e_law_turned_model : DFn l.prog w K mg base 3 "_law_turned_model" 2 m_law_turned_model := ok_law_turned_model (fun_mk (st := s_law_turned_model) l19 c19 k19) (PySem.W.mg_of X G a19) y_len y_list y_range y_sorted y_tuple e_law_take e_law_some e_law_mixed
  have e_law_doubled : DFn l.prog w K mg base 1 "_law_doubled" 1 m_law_doubled := ok_law_doubled (fun_mk (st := s_law_doubled) l20 c20 k20) (PySem.W.mg_of X G a20) y_len y_tuple
  have e_law_couple : DFn l.prog w K mg base 4 "_law_couple" 1 m_law_couple := ok_law_couple (fun_mk (st := s_law_couple) l21 c21 k21) (PySem.W.mg_of X G a21) y_len e_law_take e_law_some e_law_small_model e_law_turned_model e_law_doubled
  have e_law_track : DFn l.prog w K mg base 3 "_law_track" 3 m_law_track := ok_law_track (fun_mk (st := s_law_track) l22 c22 k22) (PySem.W.mg_of X G a22) y_len y_range y_tuple e_law_sums e_law_all_sums
  have e_law_value : DFn l.prog w K mg base 1 "_law_value" 3 m_law_value := ok_law_value (fun_mk (st := s_law_value) l23 c23 k23) (PySem.W.mg_of X G a23) y_len y_sum y_zip
  have e_law : DFn l.prog w K mg base 5 "law" 1 m_law := ok_law (fun_mk (st := s_law) l24 c24 k24) (PySem.W.mg_of X G a24) y_len y_range e_track_of e_value_of e_law_bag e_law_take e_law_some e_law_alike e_law_weight e_law_arc_letters e_law_ended e_law_all_sums e_law_couple e_law_track e_law_value
  exact e_law
end K62

namespace DL
open PySem PySem.Spec PyProof.Rows L2

/-! ### plain evaluation of mirrors -/
mutual
theorem lo_pure (n : Nat) : ∀ d : D, d.pure = true → d.lo n = true
  | .non, _ => rfl
  | .bl _, _ => rfl
  | .int _, _ => rfl
  | .str _, _ => rfl
  | .tup xs, h => by
    simp only [D.pure] at h
    simp only [D.lo]
    exact los_pure n xs h
  | .lst xs, h => by
    simp only [D.pure] at h
    simp only [D.lo]
    exact los_pure n xs h
  | .lsk xs, h => by
    simp only [D.pure] at h
    simp only [D.lo]
    exact los_pure n xs h
  | .dK _, h => by simp [D.pure] at h
  | .dT _, h => by simp [D.pure] at h
  | .ref _, h => by simp [D.pure] at h
theorem los_pure (n : Nat) : ∀ ds : List D, D.pures ds = true → D.los n ds = true
  | [], _ => rfl
  | x :: xs, h => by
    simp only [D.pures, Bool.and_eq_true] at h
    simp only [D.los, Bool.and_eq_true]
    exact ⟨lo_pure n x h.1, los_pure n xs h.2⟩
end
theorem pures_ints : ∀ ns : List Int, D.pures (ns.map D.int) = true
  | [] => rfl
  | n :: ns => by simp [D.pures, D.pure, pures_ints ns]
theorem pures_strs : ∀ ns : List Str, D.pures (ns.map D.str) = true
  | [] => rfl
  | n :: ns => by simp [D.pures, D.pure, pures_strs ns]
theorem pures_map {α : Type} {f : α → D} (hf : ∀ a, (f a).pure = true) : ∀ l : List α, D.pures (l.map f) = true
  | [] => rfl
  | a :: l => by simp [D.pures, hf a, pures_map hf l]
theorem pures_of {ds : List D} (h : ∀ d ∈ ds, d.pure = true) : D.pures ds = true := by
  rw [D.pures_all, List.all_eq_true]
  exact h
theorem pures_append {a b : List D} (ha : D.pures a = true) (hb : D.pures b = true) : D.pures (a ++ b) = true := by
  rw [D.pures_all, List.all_append, ← D.pures_all, ← D.pures_all, ha, hb]
  rfl
theorem deps_le {ds : List D} {k : Nat} (h : ∀ d ∈ ds, d.dep ≤ k) : D.deps ds ≤ k := by
  induction ds with
  | nil => exact Nat.zero_le _
  | cons x xs ih =>
    unfold D.deps
    exact Nat.max_le.mpr ⟨h x List.mem_cons_self, ih fun d hd => h d (List.mem_cons_of_mem _ hd)⟩
theorem deps_ints (ns : List Int) : D.deps (ns.map D.int) = 0 := Nat.le_zero.mp (deps_le fun d hd => by
  obtain ⟨n, _, rfl⟩ := List.mem_map.mp hd
  exact Nat.le_refl _)
theorem deps_strs (ns : List Str) : D.deps (ns.map D.str) = 0 := Nat.le_zero.mp (deps_le fun d hd => by
  obtain ⟨n, _, rfl⟩ := List.mem_map.mp hd
  exact Nat.le_refl _)
/-- a heap of lists of plain data -/
def PH (h : AH) : Prop := ∀ c ∈ h, ∃ xs, c = .lst xs ∧ D.pures xs = true
theorem PH.nil : PH [] := fun _ h => nomatch h
theorem PH.app {h : AH} {xs : List D} (H : PH h) (p : D.pures xs = true) : PH (h ++ [.lst xs]) := fun c hc => by
  rcases List.mem_append.mp hc with hc | hc
  · exact H c hc
  · rw [List.mem_singleton.mp hc]
    exact ⟨xs, rfl, p⟩
theorem PH.set {h : AH} {xs : List D} {n : Nat} (H : PH h) (p : D.pures xs = true) : PH (h.set n (.lst xs)) := fun c hc => by
  rcases List.mem_or_eq_of_mem_set hc with hc | hc
  · exact H c hc
  · exact ⟨xs, hc, p⟩
theorem PH.take {h : AH} {n : Nat} (H : PH h) : PH (h.take n) := fun c hc => H c (List.mem_of_mem_take hc)
theorem PH.lo {h : AH} (H : PH h) (n : Nat) : h.all (Cell.lo n) = true := by
  rw [List.all_eq_true]
  intro c hc
  obtain ⟨xs, rfl, p⟩ := H c hc
  exact los_pure n xs p
theorem frz_pure {n0 : Nat} {h : AH} {k : Nat} {d : D} (p : d.pure = true) : frz n0 h k d = some d := by
  cases k with
  | zero =>
    unfold frz
    rw [if_pos (lo_pure n0 d p)]
  | succ k =>
    unfold frz
    rw [if_pos (lo_pure n0 d p)]
theorem mapD_pure {n0 : Nat} {h : AH} {k : Nat} : ∀ {xs : List D}, D.pures xs = true → mapD (frz n0 h k) xs = some xs
  | [], _ => rfl
  | x :: xs, p => by
    simp only [D.pures, Bool.and_eq_true] at p
    unfold mapD
    rw [frz_pure p.1, mapD_pure p.2]
    rfl
theorem endFn_pure {n0 : Nat} {d : D} {h : AH} (p : d.pure = true) (H : PH (h.take n0)) : endFn n0 d h = .ok d (h.take n0) := by
  unfold endFn
  rw [frz_pure p]
  simp only
  rw [if_pos (H.lo n0)]
theorem endFn_ref {n0 k : Nat} {h : AH} {xs : List D} (hk : n0 ≤ k) (hc : h[k]? = some (.lst xs)) (p : D.pures xs = true) (H : PH (h.take n0)) : endFn n0 (.ref k) h = .ok (.lst xs) (h.take n0) := by
  have e : frz n0 h 6 (.ref k) = some (.lst xs) := by
    unfold frz
    rw [if_neg (by simp only [D.lo, decide_eq_true_eq]; omega)]
    simp only [hc, mapD_pure p, Option.map_some]
  unfold endFn
  rw [e]
  simp only
  rw [if_pos (H.lo n0)]
theorem fnB_rt {n : Nat} {b : MS} {ds : List D} {h h2 : AH} {d : D} (e : b (ds.map some ++ List.replicate (n - ds.length) none) h = .rt d h2) (p : d.pure = true) (H : PH (h2.take h.length)) : fnB n b ds h = .ok d (h2.take h.length) := by
  unfold fnB
  rw [e]
  exact endFn_pure p H
theorem fnB_rf {n k : Nat} {b : MS} {ds : List D} {h h2 : AH} {xs : List D} (e : b (ds.map some ++ List.replicate (n - ds.length) none) h = .rt (.ref k) h2) (hk : h.length ≤ k) (hc : h2[k]? = some (.lst xs)) (p : D.pures xs = true) (H : PH (h2.take h.length)) :
    fnB n b ds h = .ok (.lst xs) (h2.take h.length) := by
  unfold fnB
  rw [e]
  exact endFn_ref hk hc p H
/-! ### loops -/
theorem forL_map {α β : Type} {chk : List (Nat × List D)} {g : MG} {body : MS} {enc : α → D} {S : β → Sl} {T : β → AH} {step : β → α → β} {P : β → Prop} (ok : ∀ b, P b → okS chk (T b)) : ∀ (l : List α) (b : β), P b →
    (∀ b a, a ∈ l → P b → P (step b a) ∧ ∃ s1, g (enc a) (S b) = some s1 ∧ (body s1 (T b) = .nx (S (step b a)) (T (step b a)) ∨ body s1 (T b) = .ct (S (step b a)) (T (step b a)))) → forL chk g body (l.map enc) (S b) (T b) = .nx (S (l.foldl step b)) (T (l.foldl step b)) ∧ P (l.foldl step b)
  | [], b, hb, _ => by
    refine ⟨?_, hb⟩
    show forL chk g body [] (S b) (T b) = _
    unfold forL
    rw [if_pos (ok b hb)]
    rfl
  | a :: l, b, hb, hs => by
    obtain ⟨hp, s1, e1, e2⟩ := hs b a List.mem_cons_self hb
    obtain ⟨r1, r2⟩ := forL_map ok l (step b a) hp fun b' a' ha => hs b' a' (List.mem_cons_of_mem _ ha)
    refine ⟨?_, r2⟩
    rw [List.map_cons]
    unfold forL
    rw [if_pos (ok b hb), e1]
    simp only
    rcases e2 with e2 | e2
    · rw [e2]
      exact r1
    · rw [e2]
      exact r1
/-- a loop by an invariant -/
theorem forL_inv {chk : List (Nat × List D)} {g : MG} {body : MS} (P : Nat → Sl → AH → Prop) (ok : ∀ i s h, P i s h → okS chk h) : ∀ (l : List D) (i : Nat) (s : Sl) (h : AH), P i s h →
    (∀ j d s h, l[j]? = some d → P (i + j) s h → ∃ s1, g d s = some s1 ∧ ∃ s2 h2, (body s1 h = .nx s2 h2 ∨ body s1 h = .ct s2 h2) ∧ P (i + j + 1) s2 h2) → ∃ s2 h2, forL chk g body l s h = .nx s2 h2 ∧ P (i + l.length) s2 h2
  | [], i, s, h, hp, _ => by
    refine ⟨s, h, ?_, hp⟩
    unfold forL
    rw [if_pos (ok i s h hp)]
  | d :: l, i, s, h, hp, hs => by
    obtain ⟨s1, e1, s2, h2, e2, hp2⟩ := hs 0 d s h rfl hp
    obtain ⟨s3, h3, e3, hp3⟩ := forL_inv P ok l (i + 1) s2 h2 hp2 fun j d s h hj hp => by
      have := hs (j + 1) d s h (by rw [List.getElem?_cons_succ]; exact hj)
      rw [show i + (j + 1) = i + 1 + j by omega] at this
      exact this hp
    refine ⟨s3, h3, ?_, by rw [List.length_cons, show i + (l.length + 1) = i + 1 + l.length by omega]; exact hp3⟩
    unfold forL
    rw [if_pos (ok i s h hp), e1]
    simp only
    rcases e2 with e2 | e2
    · rw [e2]
      exact e3
    · rw [e2]
      exact e3
theorem lcL_map {α : Type} {chk : List (Nat × List D)} {g : MG} {f : ME} {s : Sl} {h : AH} {enc out : α → D} (ok : okS chk h) : ∀ (l : List α) (acc : List D), acc.length + l.length ≤ 16777216 →
    (∀ a, a ∈ l → ∃ s1, g (enc a) s = some s1 ∧ f s1 h = .ok (out a) h) → lcL chk g tYesM f s (l.map enc) acc h = .ok (acc ++ l.map out) h
  | [], acc, _, _ => by
    show lcL chk g tYesM f s [] acc h = _
    unfold lcL
    rw [if_pos ok, List.map_nil, List.append_nil]
  | a :: l, acc, hl, hs => by
    obtain ⟨s1, e1, e2⟩ := hs a List.mem_cons_self
    rw [List.length_cons] at hl
    rw [List.map_cons]
    unfold lcL
    rw [if_pos ok, e1]
    simp only [tYesM, e2]
    rw [if_pos (show lenOk (acc.length + 1) = true from decide_eq_true (by omega)), lcL_map ok l _ (by rw [List.length_append, List.length_singleton]; omega) fun a' ha => hs a' (List.mem_cons_of_mem _ ha), List.map_cons, List.append_assoc]
    rfl
/-- a comprehension whose items change the heap -/
theorem lcL_inv {chk : List (Nat × List D)} {g : MG} {f : ME} {s : Sl} (P : List D → AH → Prop) (ok : ∀ acc h, P acc h → okS chk h) : ∀ (l : List D) (acc : List D) (h : AH), acc.length + l.length ≤ 16777216 → P acc h →
    (∀ d, d ∈ l → ∀ acc h, P acc h → ∃ s1, g d s = some s1 ∧ ∃ y h2, f s1 h = .ok y h2 ∧ P (acc ++ [y]) h2) → ∃ ys h2, lcL chk g tYesM f s l acc h = .ok ys h2 ∧ P ys h2 ∧ ys.length = acc.length + l.length
  | [], acc, h, _, hp, _ => by
    refine ⟨acc, h, ?_, hp, rfl⟩
    unfold lcL
    rw [if_pos (ok acc h hp)]
  | d :: l, acc, h, hl, hp, hs => by
    obtain ⟨s1, e1, y, h2, e2, hp2⟩ := hs d List.mem_cons_self acc h hp
    rw [List.length_cons] at hl
    obtain ⟨ys, h3, e3, hp3, hlen⟩ := lcL_inv P ok l (acc ++ [y]) h2 (by rw [List.length_append, List.length_singleton]; omega) hp2 fun d hd => hs d (List.mem_cons_of_mem _ hd)
    refine ⟨ys, h3, ?_, hp3, by rw [hlen, List.length_append, List.length_singleton, List.length_cons]; omega⟩
    unfold lcL
    rw [if_pos (ok acc h hp), e1]
    simp only [tYesM, e2]
    rw [if_pos (show lenOk (acc.length + 1) = true from decide_eq_true (by omega))]
    exact e3
/-! ### steps -/
theorem gIx_seq {d : D} {h : AH} {xs : List D} {i : Nat} {x : D} (e : seqAt d h = some xs) (hx : xs[i]? = some x) : gIx d (.int (i : Nat)) h = .ok x h := by
  have ha : atI xs (i : Int) = some x := atI_nat hx
  cases d with
  | str z => cases e
  | _ =>
    unfold gIx
    simp only [e, ha]
theorem gIx_int {d : D} {h : AH} {xs : List D} {k : Int} {x : D} (e : seqAt d h = some xs) (h0 : 0 ≤ k) (hx : xs[k.toNat]? = some x) : gIx d (.int k) h = .ok x h := by
  have := gIx_seq (h := h) e hx
  rw [Int.toNat_of_nonneg h0] at this
  exact this
theorem eVar_at {i : Nat} {s : Sl} {h : AH} {d : D} (e : s[i]? = some (some d)) : eVar i s h = .ok d h := by
  unfold eVar
  rw [e]
theorem mulOk_l {i j : Int} (h : i.natAbs < 2 ^ 64) : mulOk i j = true := by
  unfold mulOk
  rw [Bool.or_eq_true, Bool.or_eq_true]
  exact .inl (.inl (decide_eq_true (by omega)))
theorem mulOk_r {i j : Int} (h : j.natAbs < 2 ^ 64) : mulOk i j = true := by
  unfold mulOk
  rw [Bool.or_eq_true, Bool.or_eq_true]
  exact .inl (.inr (decide_eq_true (by omega)))
/-- below 2^k in size -/
def Bd (k : Nat) (i : Int) : Prop := i.natAbs < 2 ^ k
theorem Bd.mono {k l : Nat} {i : Int} (h : Bd k i) (hl : k ≤ l) : Bd l i := Nat.lt_of_lt_of_le h (Nat.pow_le_pow_right (by decide) hl)
theorem Bd.mul {k l : Nat} {i j : Int} (hi : Bd k i) (hj : Bd l j) : Bd (k + l) (i * j) := by
  unfold Bd at *
  rw [Int.natAbs_mul, Nat.pow_add]
  exact Nat.mul_lt_mul'' hi hj
theorem Bd.add {k : Nat} {i j : Int} (hi : Bd k i) (hj : Bd k j) : Bd (k + 1) (i + j) := by
  unfold Bd at *
  rw [Nat.pow_succ]
  have := Int.natAbs_add_le i j
  omega
theorem Bd.sub {k : Nat} {i j : Int} (hi : Bd k i) (hj : Bd k j) : Bd (k + 1) (i - j) := by
  unfold Bd at *
  rw [Nat.pow_succ]
  omega
theorem Bd.log {k : Nat} {i : Int} (h : Bd k i) (hk : 0 < k) : i.natAbs.log2 < k := by
  unfold Bd at h
  by_cases h0 : i.natAbs = 0
  · rw [h0]
    exact hk
  · exact (Nat.log2_lt h0).mpr h
theorem Bd.mulOk {k l : Nat} {i j : Int} (hi : Bd k i) (hj : Bd l j) (h : k + l < 1000000) (hk : 0 < k) (hl : 0 < l) : DL.mulOk i j = true := by
  unfold DL.mulOk
  rw [Bool.or_eq_true]
  have h1 := hi.log hk
  have h2 := hj.log hl
  exact .inr (decide_eq_true (by omega))
end DL

namespace K62
open PySem DL
theorem lenOk_of {n : Nat} (h : n ≤ 16777216) : lenOk n = true := decide_eq_true h

def bagD (a b c : Int) (cs : List Int) : List D := [.int a, .int b, .int c, .lst (cs.map D.int)]
theorem bag_pure (a b c : Int) (cs : List Int) : D.pures (bagD a b c cs) = true := by
  simp [bagD, D.pures, D.pure, pures_ints]
theorem deq_int (i j : Int) : deq (.int i) (.int j) = decide (i = j) := by
  simp [deq, D.py, PyData.eqv]
  by_cases h : i = j <;> simp [h]
section
variable {h : AH} {n : Nat} {a b c : Int} {cs : List Int}
theorem seq_bag (hn : n < h.length) (xs : List D) : seqAt (.ref n) (h.set n (.lst xs)) = some xs := by
  simp [seqAt, listAt, hn]
theorem list_bag (hn : n < h.length) (xs : List D) : listAt (.ref n) (h.set n (.lst xs)) = some xs := by
  simp [listAt, hn]
theorem cell_bag (hn : n < h.length) (xs : List D) : cellL (.ref n) (h.set n (.lst xs)) = some (n, xs) := by
  simp [cellL, hn]
theorem ix_bag (hn : n < h.length) {xs : List D} {k : Int} {x : D} (h0 : 0 ≤ k) (hx : xs[k.toNat]? = some x) : gIx (.ref n) (.int k) (h.set n (.lst xs)) = .ok x (h.set n (.lst xs)) := gIx_int (seq_bag hn xs) h0 hx
theorem ix_bag0 (hn : n < h.length) : gIx (.ref n) (.int 0) (h.set n (.lst (bagD a b c cs))) = .ok (.int a) (h.set n (.lst (bagD a b c cs))) := ix_bag hn (by decide) rfl
theorem ix_bag1 (hn : n < h.length) : gIx (.ref n) (.int 1) (h.set n (.lst (bagD a b c cs))) = .ok (.int b) (h.set n (.lst (bagD a b c cs))) := ix_bag hn (by decide) rfl
theorem ix_bag2 (hn : n < h.length) : gIx (.ref n) (.int 2) (h.set n (.lst (bagD a b c cs))) = .ok (.int c) (h.set n (.lst (bagD a b c cs))) := ix_bag hn (by decide) rfl
theorem ix_bag3 (hn : n < h.length) : gIx (.ref n) (.int 3) (h.set n (.lst (bagD a b c cs))) = .ok (.lst (cs.map D.int)) (h.set n (.lst (bagD a b c cs))) := ix_bag hn (by decide) rfl
theorem set_bag0 (hn : n < h.length) (x : Int) : setL (.ref n) (.int 0) (.int x) (h.set n (.lst (bagD a b c cs))) = some (h.set n (.lst (bagD x b c cs))) := by
  unfold setL
  simp only [cell_bag hn]
  show some _ = _
  rw [List.set_set]
  rfl
theorem set_bag1 (hn : n < h.length) (x : Int) : setL (.ref n) (.int 1) (.int x) (h.set n (.lst (bagD a b c cs))) = some (h.set n (.lst (bagD a x c cs))) := by
  unfold setL
  simp only [cell_bag hn]
  show some _ = _
  rw [List.set_set]
  rfl
theorem set_bag2 (hn : n < h.length) (x : Int) : setL (.ref n) (.int 2) (.int x) (h.set n (.lst (bagD a b c cs))) = some (h.set n (.lst (bagD a b x cs))) := by
  unfold setL
  simp only [cell_bag hn]
  show some _ = _
  rw [List.set_set]
  rfl
theorem get_bag2 (hn : n < h.length) : getL (.ref n) (.int 2) (h.set n (.lst (bagD a b c cs))) = some (.int c) := by
  unfold getL
  simp only [list_bag hn]
  rfl
theorem geq_int (i j : Int) : gEq true (.int i) (.int j) h = .ok (.bl (decide (i = j))) h := by
  unfold gEq
  rw [if_pos (by rfl)]
  simp only [res, deq_int]
  cases decide (i = j) <;> rfl
theorem gne_int (i j : Int) : gEq false (.int i) (.int j) h = .ok (.bl (!decide (i = j))) h := by
  unfold gEq
  rw [if_pos (by rfl)]
  simp only [res, deq_int]
  cases decide (i = j) <;> rfl
/-- the cell that take looks at -/
def cellAt (c : Int) (cs : List Int) : Int := ((cutD (cs.map D.int) (some c) none).head?.bind fun d => match d with
  | .int i => some i
  | _ => none).getD 0
theorem cell_eval (hl : cs.length ≤ 63) : e2 gIx (e2 (gAdd false) (fun _ h => gSl false (.lst (cs.map D.int)) (some c) none h) (eLst false [(eC (.int 0))])) (eC (.int 0)) [] h = .ok (.int (cellAt c cs)) h ∧ (cellAt c cs = 0 ∨ cellAt c cs ∈ cs) := by
  have hlen : (cutD (cs.map D.int) (some c) none).length ≤ 63 := by
    unfold cutD
    rw [List.length_take, List.length_drop, List.length_map]
    omega
  have hm : ∀ d ∈ cutD (cs.map D.int) (some c) none, ∃ i ∈ cs, d = .int i := fun d hd => by
    have := List.mem_of_mem_drop (List.mem_of_mem_take hd)
    obtain ⟨i, hi, rfl⟩ := List.mem_map.mp this
    exact ⟨i, hi, rfl⟩
  have e1 : gSl false (.lst (cs.map D.int)) (some c) none h = .ok (.lst (cutD (cs.map D.int) (some c) none)) h := rfl
  have e3 : gAdd false (.lst (cutD (cs.map D.int) (some c) none)) (.lst [.int 0]) h = .ok (.lst (cutD (cs.map D.int) (some c) none ++ [.int 0])) h := by
    show (if lenOk _ = true then _ else _) = _
    rw [if_pos (lenOk_of (by rw [List.length_singleton]; omega))]
    rfl
  have e4 : eLst false [(eC (.int 0))] [] h = .ok (.lst [.int 0]) h := rfl
  constructor
  · simp only [e2, e1, e4, eC, Res.bind, e3]
    refine gIx_int (xs := cutD (cs.map D.int) (some c) none ++ [.int 0]) rfl (by decide) ?_
    unfold cellAt
    cases hc : cutD (cs.map D.int) (some c) none with
    | nil => rfl
    | cons x l =>
      obtain ⟨i, _, rfl⟩ := hm x (by rw [hc]; exact List.mem_cons_self)
      rfl
  · unfold cellAt
    cases hc : cutD (cs.map D.int) (some c) none with
    | nil => exact .inl rfl
    | cons x l =>
      obtain ⟨i, hi, rfl⟩ := hm x (by rw [hc]; exact List.mem_cons_self)
      exact .inr hi
end
end K62

namespace DL
open PySem L2
/-! ### combinators, applied -/
section
variable {s s1 : Sl} {h h1 : AH} {f g f1 f2 f3 : ME} {d e : D} {fs : List ME} {a b : MS}
theorem bind_ok {α β : Type} {x : α} {k : α → AH → Res β} : (Res.ok x h).bind k = k x h := (rfl)
theorem fl_ok {α : Type} {x : α} {k : α → AH → Fl} : (Res.ok x h).fl k = k x h := (rfl)
def Fl.sq (r : Fl) (k : Sl → AH → Fl) : Fl := match r with
  | .nx s h => k s h
  | r => r
theorem sq_nx {k : Sl → AH → Fl} : (Fl.nx s h).sq k = k s h := (rfl)
theorem sq_rt {k : Sl → AH → Fl} : (Fl.rt d h).sq k = .rt d h := (rfl)
theorem sq_bk {k : Sl → AH → Fl} : (Fl.bk s h).sq k = .bk s h := (rfl)
theorem sq_ct {k : Sl → AH → Fl} : (Fl.ct s h).sq k = .ct s h := (rfl)
def Fl.fg (r : Fl) (is : List Nat) : Fl := match r with
  | .nx s h => .nx (fgt is s) h
  | .ct s h => .ct (fgt is s) h
  | .bk s h => .bk (fgt is s) h
  | r => r
theorem fg_nx {is : List Nat} : (Fl.nx s h).fg is = .nx (fgt is s) h := (rfl)
theorem fg_rt {is : List Nat} : (Fl.rt d h).fg is = .rt d h := (rfl)
theorem fg_bk {is : List Nat} : (Fl.bk s h).fg is = .bk (fgt is s) h := (rfl)
theorem fg_ct {is : List Nat} : (Fl.ct s h).fg is = .ct (fgt is s) h := (rfl)
theorem sSeq_ap : sSeq a b s h = (a s h).sq b := (rfl)
def oF (o : Option Sl) (h : AH) : Fl := match o with
  | some s => .nx s h
  | none => .bad
theorem oF_some : oF (some s) h = .nx s h := (rfl)
def oH (s : Sl) (o : Option AH) : Fl := match o with
  | some h => .nx s h
  | none => .bad
theorem oH_some : oH s (some h) = .nx s h := (rfl)
def slot (o : Option (Option D)) (h : AH) : Res D := match o with
  | some (some d) => .ok d h
  | _ => .bad
theorem slot_some : slot (some (some d)) h = .ok d h := (rfl)
def boolR (d : D) (h : AH) : Res Bool := match d with
  | .bl b => .ok b h
  | _ => .bad
theorem boolR_bl {x : Bool} : boolR (.bl x) h = .ok x h := (rfl)
def intR (d : D) (h : AH) : Res (Option Int) := match d with
  | .int i => .ok (some i) h
  | _ => .bad
theorem intR_int {i : Int} : intR (.int i) h = .ok (some i) h := (rfl)
def itA (d : D) (h : AH) : Res Src := match d with
  | .tup xs => .ok ⟨xs, []⟩ h
  | .str z => .ok ⟨sigs z, []⟩ h
  | d => match listAt d h with
    | some xs => .ok ⟨xs, chkOf d h⟩ h
    | none => .bad
theorem itA_tup {xs : List D} : itA (.tup xs) h = .ok ⟨xs, []⟩ h := (rfl)
theorem itA_str {z : Str} : itA (.str z) h = .ok ⟨sigs z, []⟩ h := (rfl)
theorem itA_lst {xs : List D} : itA (.lst xs) h = .ok ⟨xs, []⟩ h := (rfl)
theorem itA_lsk {xs : List D} : itA (.lsk xs) h = .ok ⟨xs, []⟩ h := (rfl)
theorem src_items {xs : List D} {c : List (Nat × List D)} : (Src.mk xs c).items = xs := (rfl)
theorem src_chk {xs : List D} {c : List (Nat × List D)} : (Src.mk xs c).chk = c := (rfl)
def itZ (ds : List D) (h : AH) : Res Src := match ds with
  | [d, e] => match seqAt d h, seqAt e h with
    | some xs, some ys => .ok ⟨zipD xs ys, chkOf d h ++ chkOf e h⟩ h
    | _, _ => .bad
  | _ => .bad
theorem itZ_lt {xs ys : List D} : itZ [.lst xs, .tup ys] h = .ok ⟨zipD xs ys, []⟩ h := (rfl)
theorem itZ_tl {xs ys : List D} : itZ [.tup xs, .lst ys] h = .ok ⟨zipD xs ys, []⟩ h := (rfl)
theorem itZ_ll {xs ys : List D} : itZ [.lst xs, .lst ys] h = .ok ⟨zipD xs ys, []⟩ h := (rfl)
theorem itZ_tt {xs ys : List D} : itZ [.tup xs, .tup ys] h = .ok ⟨zipD xs ys, []⟩ h := (rfl)
def truR (o : Option Bool) (h : AH) : Res Bool := match o with
  | some b => .ok b h
  | none => .bad
theorem truR_some {x : Bool} : truR (some x) h = .ok x h := (rfl)
theorem set0 {x y : Option D} {l : Sl} : (x :: l).set 0 y = y :: l := (rfl)
theorem setS {n : Nat} {x y : Option D} {l : Sl} : (x :: l).set (n + 1) y = x :: l.set n y := (rfl)
theorem get0 {x : Option D} {l : Sl} : (x :: l)[0]? = some x := (rfl)
theorem getS {n : Nat} {x : Option D} {l : Sl} : (x :: l)[n + 1]? = l[n]? := (rfl)
def parF (is : List Nat) (ds : List D) (s : Sl) : Sl := (is.zip ds).foldl (fun s p => s.set p.1 (some p.2)) s
theorem parF_nil : parF [] [] s = s := (rfl)
theorem parF_cons {i : Nat} {is : List Nat} {ds : List D} : parF (i :: is) (d :: ds) s = parF is ds (s.set i (some d)) := (rfl)
theorem fgt_nil : fgt [] s = s := (rfl)
theorem fgt_cons {i : Nat} {is : List Nat} : fgt (i :: is) s = fgt is (s.set i none) := (rfl)
theorem wpD_nil : wpD s [] = s := (rfl)
theorem wpD_cons {i : Nat} {is : List Nat} : wpD s (i :: is) = (wpD s is).set i none := (rfl)
theorem ite_tt {α : Type} {x y : α} : (if true = true then x else y) = x := (rfl)
theorem ite_ff {α : Type} {x y : α} : (if false = true then x else y) = y := (rfl)
theorem obind_some {α β : Type} {x : α} {k : α → Option β} : (some x).bind k = k x := (rfl)
theorem sIf_ap {c : MT} : sIf c a b s h = (c s h).fl fun x h => if x = true then a s h else b s h := (rfl)
theorem sNil_ap : sNil s h = .nx s h := (rfl)
theorem sSet_ap {i : Nat} : sSet i f s h = (f s h).fl fun d h => .nx (s.set i (some d)) h := (rfl)
theorem sRet_ap : sRet f s h = (f s h).fl fun d h => .rt d h := (rfl)
theorem sEx_ap : sEx f s h = (f s h).fl fun _ h => .nx s h := (rfl)
theorem sPar_ap {is : List Nat} : sPar is fs s h = (evs fs s h).fl fun ds h => .nx (parF is ds s) h := (rfl)
theorem sAsg_ap {t : MG} : sAsg f t s h = (f s h).fl fun d h => oF (t d s) h := (rfl)
theorem sSub_ap : sSub f1 f2 f3 s h = (f3 s h).fl fun v h => (f1 s h).fl fun o h => (f2 s h).fl fun i h => oH s (setL o i v h) := (rfl)
theorem sFgt_ap {is : List Nat} : sFgt is a s h = (a s h).fg is := (rfl)
theorem sFor_ap {i : MI} {t : MG} : sFor i t a s h = (i s h).fl fun x h => forL x.chk t a x.items s h := (rfl)
theorem e1_ap {k : M1} : e1 k f s h = (f s h).bind k := (rfl)
theorem e2_ap {k : M2} : e2 k f1 f2 s h = (f1 s h).bind fun d h => (f2 s h).bind fun e h => k d e h := (rfl)
theorem eL_ap {k : List D → AH → Res D} : eL k fs s h = (evs fs s h).bind k := (rfl)
theorem eC_ap : eC d s h = .ok d h := (rfl)
theorem eVar_ap {i : Nat} : eVar i s h = slot s[i]? h := (rfl)
theorem evs_nil : evs [] s h = .ok [] h := (rfl)
theorem evs_cons : evs (f :: fs) s h = (f s h).bind fun d h => (evs fs s h).bind fun ds h => .ok (d :: ds) h := (rfl)
theorem eTup_ap : eTup fs s h = (evs fs s h).bind fun ds h => .ok (.tup ds) h := (rfl)
theorem eLstF_ap : eLst false fs s h = (evs fs s h).bind fun ds h => .ok (.lst ds) h := (rfl)
theorem eLstT_ap : eLst true fs s h = (evs fs s h).bind fun ds h => .ok (.ref h.length) (h ++ [.lst ds]) := (rfl)
theorem eLcF_ap {i : MI} {t : MG} {c : MT} {vs : List Nat} : eLc false i t c f vs s h = (i s h).bind fun x h => (lcL x.chk t c f (wpD s vs) x.items [] h).bind fun ys h => .ok (.lst ys) h := (rfl)
theorem eLc2F_ap {i i1 : MI} {t t1 : MG} {c c1 : MT} {vs vs1 : List Nat} : eLc2 false i t c i1 t1 c1 f vs vs1 s h = (i s h).bind fun x h => (lcL2 x.chk t c i1 t1 c1 f vs1 (wpD s vs) x.items [] h).bind fun ys h => .ok (.lst ys) h := (rfl)
theorem iA_ap : iA f s h = (f s h).bind itA := (rfl)
theorem iZ_ap : iZ f1 f2 s h = (evs [f1, f2] s h).bind itZ := (rfl)
theorem tB_ap : tB_ f s h = (f s h).bind boolR := (rfl)
theorem tAnd_ap {c d : MT} : tAndM c d s h = (c s h).bind fun b h => if b = true then d s h else .ok false h := (rfl)
theorem tOr_ap {c d : MT} : tOrM c d s h = (c s h).bind fun b h => if b = true then .ok true h else d s h := (rfl)
theorem tNot_ap {c : MT} : tNotM c s h = (c s h).bind fun b h => .ok (!b) h := (rfl)
theorem tYes_ap : tYesM s h = .ok true h := (rfl)
theorem tV_ap : tV f s h = (f s h).bind fun d h => truR (truD d h) h := (rfl)
theorem eSl_ap {b : Bool} {lo hi : MO} : eSl b f lo hi s h = (f s h).bind fun d h => (lo s h).bind fun l h => (hi s h).bind fun u h => gSl b d l u h := (rfl)
theorem oN_ap : oN s h = .ok none h := (rfl)
theorem oS_ap : oS f s h = (f s h).bind intR := (rfl)
theorem eIf_ap {c : MT} : eIf c f g s h = (c s h).bind fun b h => if b = true then f s h else g s h := (rfl)
theorem eM_ap {tb : D → AH → Bool} {m : D → List D → AH → Res D} : eM tb m f fs s h = (f s h).bind fun d h => if tb d h = true then (evs fs s h).bind fun ds h => m d ds h else .bad := (rfl)
theorem gN_ap {i : Nat} : gN i d s = some (s.set i (some d)) := (rfl)
theorem gsN_ap : gsN [] s = some s := (rfl)
theorem gsC_ap {t : MG} {ts : MGs} {ds : List D} : gsC t ts (d :: ds) s = (t d s).bind fun s => ts ds s := (rfl)
theorem gT_tup {n : Nat} {ts : MGs} {ds : List D} (hl : ds.length = n) : gT n ts (.tup ds) s = ts ds s := by
  unfold gT
  simp only
  rw [if_pos (by simp [hl])]
theorem gTup_tup {xs : List D} : gTup [.tup xs] h = .ok (.tup xs) h := (rfl)
theorem gTup_lst {xs : List D} : gTup [.lst xs] h = .ok (.tup xs) h := (rfl)
theorem gTup_ref {n : Nat} {xs : List D} (e : h[n]? = some (.lst xs)) : gTup [.ref n] h = .ok (.tup xs) h := by
  unfold gTup
  simp only [listAt, e]
theorem gList_tup {xs : List D} : gList false [.tup xs] h = .ok (.lst xs) h := (rfl)
theorem gList_lst {xs : List D} : gList false [.lst xs] h = .ok (.lst xs) h := (rfl)
theorem gLen_tup {xs : List D} : gLen [.tup xs] h = .ok (.int xs.length) h := (rfl)
theorem gLen_lst {xs : List D} : gLen [.lst xs] h = .ok (.int xs.length) h := (rfl)
theorem gLen_ref {n : Nat} {xs : List D} (e : h[n]? = some (.lst xs)) : gLen [.ref n] h = .ok (.int xs.length) h := by
  unfold gLen
  simp only [seqAt, listAt, e]
theorem gLen_str {z : Str} (hz : z.length ≤ 16777216) : gLen [.str z] h = .ok (.int z.length) h := by
  unfold gLen
  simp only
  rw [if_pos (show lenOk _ = true from decide_eq_true hz)]
theorem lenOk_le2 {n : Nat} (h : n ≤ 16777216) : lenOk n = true := decide_eq_true h
theorem gAdd_int {b : Bool} {i j : Int} : gAdd b (.int i) (.int j) h = .ok (.int (i + j)) h := (rfl)
theorem gAdd_tup {b : Bool} {xs ys : List D} (hl : xs.length + ys.length ≤ 16777216) : gAdd b (.tup xs) (.tup ys) h = .ok (.tup (xs ++ ys)) h := by
  show (if lenOk _ = true then _ else _) = _
  rw [if_pos (lenOk_le2 hl)]
theorem gAdd_lst {xs ys : List D} (hl : xs.length + ys.length ≤ 16777216) : gAdd false (.lst xs) (.lst ys) h = .ok (.lst (xs ++ ys)) h := by
  show (if lenOk _ = true then _ else _) = _
  rw [if_pos (lenOk_le2 hl)]
  rfl
theorem gAdd_str {b : Bool} {xs ys : Str} (hl : xs.length + ys.length ≤ 16777216) : gAdd b (.str xs) (.str ys) h = .ok (.str (xs ++ ys)) h := by
  show (if lenOk _ = true then _ else _) = _
  rw [if_pos (lenOk_le2 hl)]
theorem gSub_int {i j : Int} : gSub (.int i) (.int j) h = .ok (.int (i - j)) h := (rfl)
theorem gMulX_int {b : Bool} {i j : Int} (hm : mulOk i j = true) : gMulX b (.int i) (.int j) h = .ok (.int (i * j)) h := by
  show (if mulOk i j = true then _ else _) = _
  rw [if_pos hm]
theorem gSl_tup {b : Bool} {xs : List D} {lo hi : Option Int} : gSl b (.tup xs) lo hi h = .ok (.tup (cutD xs lo hi)) h := (rfl)
theorem gSl_lst {xs : List D} {lo hi : Option Int} : gSl false (.lst xs) lo hi h = .ok (.lst (cutD xs lo hi)) h := (rfl)
theorem gIsN_non {b : Bool} : gIsN b .non .non h = .ok (.bl (b == true)) h := (rfl)
theorem gIsN_str {b : Bool} {z : Str} : gIsN b (.str z) .non h = .ok (.bl (b == false)) h := (rfl)
theorem gSum_lst {ns : List Int} : gSum [.lst (ns.map D.int)] h = .ok (.int ns.sum) h := by
  unfold gSum
  simp only [listAt, Option.bind_some, intsD_map]
theorem deq_str (x y : Str) : deq (.str x) (.str y) = decide (x = y) := by
  simp [deq, D.py, PyData.eqv]
  by_cases h : x = y <;> simp [h]
theorem geq_str {b : Bool} (x y : Str) : gEq b (.str x) (.str y) h = .ok (.bl (b == decide (x = y))) h := by
  unfold gEq
  rw [if_pos (by rfl)]
  simp only [res, deq_str]
/-- `c[i] += v` at a fresh list of ints -/
theorem aug_ok {fo fi : ME} {n : Nat} {xs : List Int} {i : Nat} {v : Int} (e1 : fo s (h ++ [.lst (xs.map D.int)]) = .ok (.ref n) (h ++ [.lst (xs.map D.int)])) (hn : n = h.length) (e2 : fi s (h ++ [.lst (xs.map D.int)]) = .ok (.int (i : Nat)) (h ++ [.lst (xs.map D.int)])) (hi : i < xs.length)
    (e3 : f s (h ++ [.lst (xs.map D.int)]) = .ok (.int v) (h ++ [.lst (xs.map D.int)])) : sAugS gIAdd fo fi f s (h ++ [.lst (xs.map D.int)]) = .nx s (h ++ [.lst ((xs.set i (xs.getD i 0 + v)).map D.int)]) := by
  subst hn
  unfold sAugS
  rw [e1, fl_ok, e2, fl_ok]
  have g1 : getL (.ref h.length) (.int (i : Nat)) (h ++ [.lst (xs.map D.int)]) = some (.int (xs.getD i 0)) := by
    unfold getL
    simp only [listAt, List.getElem?_concat_length]
    rw [if_pos (by omega), Int.toNat_natCast, List.getElem?_map, List.getElem?_eq_getElem hi, List.getD_eq_getElem?_getD, List.getElem?_eq_getElem hi]
    rfl
  have g2 : ∀ z, setL (.ref h.length) (.int (i : Nat)) (.int z) (h ++ [.lst (xs.map D.int)]) = some (h ++ [.lst ((xs.set i z).map D.int)]) := fun z => by
    unfold setL
    simp only [cellL, List.getElem?_concat_length]
    have : ixN (xs.map D.int).length (i : Nat) = some i := by
      unfold ixN
      simp [hi]
    rw [this]
    simp [List.map_set]
  rw [g1]
  simp only [e3, fl_ok, gIAdd, g2]
end
/-! ### ends of defs -/
theorem fnB_0 {n : Nat} {b : MS} {ds : List D} {h : AH} {d : D} (e : b (ds.map some ++ List.replicate (n - ds.length) none) h = .rt d h) (p : d.pure = true) (H : PH h) : fnB n b ds h = .ok d h := by
  have := fnB_rt (n := n) (b := b) (ds := ds) e p (by rw [List.take_length]; exact H)
  rw [List.take_length] at this
  exact this
theorem fnB_1 {n : Nat} {b : MS} {ds : List D} {h g : AH} {d : D} (e : b (ds.map some ++ List.replicate (n - ds.length) none) h = .rt d (h ++ g)) (p : d.pure = true) (H : PH h) : fnB n b ds h = .ok d h := by
  have := fnB_rt (n := n) (b := b) (ds := ds) e p (by rw [List.take_left]; exact H)
  rw [List.take_left] at this
  exact this
theorem fnB_rf1 {n : Nat} {b : MS} {ds : List D} {h : AH} {xs : List D} (e : b (ds.map some ++ List.replicate (n - ds.length) none) h = .rt (.ref h.length) (h ++ [.lst xs])) (p : D.pures xs = true) (H : PH h) : fnB n b ds h = .ok (.lst xs) h := by
  have := fnB_rf (n := n) (b := b) (ds := ds) e (Nat.le_refl _) (by rw [List.getElem?_concat_length]) p (by rw [List.take_left]; exact H)
  rw [List.take_left] at this
  exact this
/-! ### two clauses; extend; append -/
theorem lcL_map0 {α : Type} {chk : List (Nat × List D)} {g : MG} {f : ME} {s : Sl} {h : AH} {enc out : α → D} (ok : okS chk h) (l : List α) (hl : l.length ≤ 16777216)
    (hs : ∀ a, a ∈ l → ∃ s1, g (enc a) s = some s1 ∧ f s1 h = .ok (out a) h) : lcL chk g tYesM f s (l.map enc) [] h = .ok (l.map out) h := by
  rw [lcL_map ok l [] (by simpa using hl) hs]
  rfl
theorem lcL2_map {α β : Type} {chk : List (Nat × List D)} {g g1 : MG} {i1 : MI} {f : ME} {s : Sl} {h : AH} {enc : α → D} {enc1 : β → D} {out : α → β → D} {vs1 : List Nat} (ok : okS chk h) (l1 : List β) : ∀ (l : List α) (acc : List D), acc.length + l.length * l1.length ≤ 16777216 →
    (∀ a, a ∈ l → ∃ s1, g (enc a) s = some s1 ∧ i1 s1 h = .ok ⟨l1.map enc1, []⟩ h ∧ ∀ b, b ∈ l1 → ∃ s2, g1 (enc1 b) (wpD s1 vs1) = some s2 ∧ f s2 h = .ok (out a b) h) →
    lcL2 chk g tYesM i1 g1 tYesM f vs1 s (l.map enc) acc h = .ok (acc ++ l.flatMap fun a => l1.map (out a)) h
  | [], acc, _, _ => by
    show lcL2 chk g tYesM i1 g1 tYesM f vs1 s [] acc h = _
    unfold lcL2
    rw [if_pos ok, List.flatMap_nil, List.append_nil]
  | a :: l, acc, hl, hs => by
    obtain ⟨s1, e1, e2, e3⟩ := hs a List.mem_cons_self
    rw [List.length_cons, Nat.succ_mul] at hl
    rw [List.map_cons]
    unfold lcL2
    rw [if_pos ok, e1]
    simp only [tYesM, e2]
    have e4 := lcL_map (chk := []) (g := g1) (f := f) (s := wpD s1 vs1) (enc := enc1) (out := out a) (h := h) okS_nil l1 acc (by omega) e3
    rw [e4]
    simp only
    have e5 := lcL2_map ok l1 l (acc ++ l1.map (out a)) (by rw [List.length_append, List.length_map]; omega) fun a' ha => hs a' (List.mem_cons_of_mem _ ha)
    rw [e5, List.flatMap_cons, List.append_assoc]
theorem ext_ok {h : AH} {n : Nat} {xs ys : List D} (hn : n = h.length) (hl : xs.length + ys.length ≤ 16777216) : mExtend (.ref n) [.lst ys] (h ++ [.lst xs]) = .ok .non (h ++ [.lst (xs ++ ys)]) := by
  subst hn
  unfold mExtend
  simp only [cellL, listX, List.getElem?_concat_length]
  rw [if_pos (lenOk_le2 hl)]
  simp
theorem app_ok {h : AH} {n : Nat} {xs : List D} {y : D} (hn : n = h.length) (hl : xs.length < 16777216) : mAppend (.ref n) [y] (h ++ [.lst xs]) = .ok .non (h ++ [.lst (xs ++ [y])]) := by
  subst hn
  unfold mAppend
  simp only [cellL, List.getElem?_concat_length]
  rw [if_pos (lenOk_le2 hl)]
  simp
theorem isL_ref {h : AH} {n : Nat} {xs : List D} (e : h[n]? = some (.lst xs)) : isL (.ref n) h = true := by
  unfold isL listAt
  simp only [e]
  rfl
theorem fold_flat {α β : Type} {g : α → List β} {d : α} : ∀ (row : List α) (acc : List β), (List.range row.length).foldl (fun f i => f ++ g (row.getD i d)) acc = acc ++ row.flatMap g
  | [], acc => by simp
  | x :: row, acc => by
    rw [List.length_cons, List.range_succ_eq_map, List.foldl_cons, List.foldl_map]
    have := fold_flat (g := g) (d := d) row (acc ++ g x)
    simp only [List.getD_cons_succ, List.getD_cons_zero]
    rw [this, List.flatMap_cons, List.append_assoc]
theorem rngD0 {n : Nat} : rngD 0 ((n : Int)).toNat = (List.range n).map fun (i : Nat) => D.int (i : Int) := by
  unfold rngD
  rw [Int.toNat_natCast]
  refine List.map_congr_left fun i _ => ?_
  rw [Int.zero_add]
theorem iR1_ok {f : ME} {s : Sl} {h h1 : AH} {n : Nat} (e : f s h = .ok (.int (n : Nat)) h1) (hn : n ≤ 1000) : iR1 f s h = .ok ⟨(List.range n).map fun (i : Nat) => D.int (i : Int), []⟩ h1 := by
  unfold iR1
  rw [e]
  simp only [bind_ok]
  refine (if_pos ?_).trans ?_
  · refine decide_eq_true ?_
    omega
  · rw [rngD0]
end DL

namespace K62
open PySem DL

section
variable {h : AH} {n : Nat} {a b c many : Int} {cs : List Int} {x2 x3 x4 x5 x6 : Option D}
theorem bd_lit {k : Nat} {x : Int} (h : x.natAbs < 2 ^ k) : Bd k x := h
theorem fmod_range {x m : Int} (hm : 0 < m) : 0 ≤ x.fmod m ∧ x.fmod m < m := ⟨Int.fmod_nonneg_of_pos x hm, Int.fmod_lt_of_pos x hm⟩
theorem gMod_ok {i j : Int} (hj : 0 < j) : gMod (.int i) (.int j) h = .ok (.int (i.fmod j)) h := by
  unfold gMod
  simp only
  rw [if_pos (decide_eq_true (by omega))]
theorem gDiv_ok {i j : Int} (hj : 0 < j) (hj2 : Bd 64 j) : gDiv (.int i) (.int j) h = .ok (.int (i.fdiv j)) h := by
  unfold gDiv
  simp only
  rw [if_pos]
  unfold divOk
  rw [Bool.and_eq_true, decide_eq_true_eq, decide_eq_true_eq]
  have := hj2.log (by decide)
  exact ⟨by omega, by omega⟩
theorem gMul_l {bb : Bool} {i j : Int} (hi : Bd 64 i) : gMulX bb (.int i) (.int j) h = .ok (.int (i * j)) h := by
  show (if mulOk i j = true then _ else _) = _
  rw [if_pos (mulOk_l hi)]
theorem gMul_r {bb : Bool} {i j : Int} (hi : Bd 64 j) : gMulX bb (.int i) (.int j) h = .ok (.int (i * j)) h := by
  show (if mulOk i j = true then _ else _) = _
  rw [if_pos (mulOk_r hi)]
/-- the first half: a new cell is looked at -/
theorem take_1 (hn : n < h.length) (hl : cs.length ≤ 63) (hcs : ∀ x ∈ cs, 0 ≤ x) (ha : 0 ≤ a) (hc : 0 ≤ c) :
    ∃ a' b' c' y2 y3, 0 ≤ a' ∧ 0 ≤ c' ∧ (sIf (tB_ (e2 (gEq true) (e2 gIx (eVar 0) (eC (.int 0))) (eC (.int 0)))) (sSeq (sSet 2 (e2 gIx (e2 (gAdd false) (eSl false (e2 gIx (eVar 0) (eC (.int 3))) (oS (e2 gIx (eVar 0) (eC (.int 2)))) oN) (eLst false [(eC (.int 0))])) (eC (.int 0))))
    (sSeq (sAugS gIAdd (eVar 0) (eC (.int 2)) (eC (.int 1)))
    (sSeq (sIf (tB_ (e2 gGe (eVar 2) (e2 gPow (eC (.int 10)) (eC (.int 18))))) (sSub (eVar 0) (eC (.int 0)) (eVar 2)) sNil)
    (sSeq (sSet 3 (e2 (gAdd false) (e2 (gAdd false) (e2 (gMulX false) (e2 gIx (eVar 0) (eC (.int 1))) (eC (.int 48271))) (e2 gMod (eL gInt [(eVar 2)]) (eC (.int 2147483647)))) (e2 (gMulX false) (eC (.int 7919)) (e2 gIx (eVar 0) (eC (.int 2))))))
    (sSub (eVar 0) (eC (.int 1)) (e2 gMod (eL gInt [(eVar 3)]) (eC (.int 2147483647)))))))) sNil) [some (.ref n), some (.int many), x2, x3, x4, x5, x6] (h.set n (.lst (bagD a b c cs))) = .nx [some (.ref n), some (.int many), y2, y3, x4, x5, x6] (h.set n (.lst (bagD a' b' c' cs))) := by
  by_cases h0 : a = 0
  · have ht : (tB_ (e2 (gEq true) (e2 gIx (eVar 0) (eC (.int 0))) (eC (.int 0)))) [some (.ref n), some (.int many), x2, x3, x4, x5, x6] (h.set n (.lst (bagD a b c cs))) = .ok true (h.set n (.lst (bagD a b c cs))) := by
      simp [tB_, e2, eVar, eC, Res.bind, ix_bag0 hn, geq_int, h0]
    obtain ⟨ec, ecm⟩ := cell_eval (h := h.set n (.lst (bagD a b c cs))) (c := c) (cs := cs) hl
    generalize hx : cellAt c cs = x at ec ecm
    have hx0 : 0 ≤ x := by
      rcases ecm with e | e
      · omega
      · exact hcs x e
    have e1 : (e2 gIx (e2 (gAdd false) (eSl false (e2 gIx (eVar 0) (eC (.int 3))) (oS (e2 gIx (eVar 0) (eC (.int 2)))) oN) (eLst false [(eC (.int 0))])) (eC (.int 0))) [some (.ref n), some (.int many), x2, x3, x4, x5, x6] (h.set n (.lst (bagD a b c cs))) = .ok (.int x) (h.set n (.lst (bagD a b c cs))) := by
      refine Eq.trans ?_ ec
      simp [e2, eVar, eC, eSl, oS, oN, Res.bind, ix_bag3 hn, ix_bag2 hn, eLst, evs, mkL]
    have f2 : (sAugS gIAdd (eVar 0) (eC (.int 2)) (eC (.int 1))) [some (.ref n), some (.int many), some (.int x), x3, x4, x5, x6] (h.set n (.lst (bagD a b c cs))) = .nx [some (.ref n), some (.int many), some (.int x), x3, x4, x5, x6] (h.set n (.lst (bagD a b (c + 1) cs))) := by
      simp [sAugS, eVar, eC, Res.fl, get_bag2 hn, gIAdd, set_bag2 hn]
    have f3 : ∃ a', 0 ≤ a' ∧ (sIf (tB_ (e2 gGe (eVar 2) (e2 gPow (eC (.int 10)) (eC (.int 18))))) (sSub (eVar 0) (eC (.int 0)) (eVar 2)) sNil) [some (.ref n), some (.int many), some (.int x), x3, x4, x5, x6] (h.set n (.lst (bagD a b (c + 1) cs))) = .nx [some (.ref n), some (.int many), some (.int x), x3, x4, x5, x6] (h.set n (.lst (bagD a' b (c + 1) cs))) := by
      have hp : (tB_ (e2 gGe (eVar 2) (e2 gPow (eC (.int 10)) (eC (.int 18))))) [some (.ref n), some (.int many), some (.int x), x3, x4, x5, x6] (h.set n (.lst (bagD a b (c + 1) cs))) = .ok (decide (10 ^ 18 ≤ x)) (h.set n (.lst (bagD a b (c + 1) cs))) := by
        have : gPow (.int 10) (.int 18) (h.set n (.lst (bagD a b (c + 1) cs))) = .ok (.int (10 ^ 18)) (h.set n (.lst (bagD a b (c + 1) cs))) := by
          unfold gPow
          simp only
          rw [if_pos (by decide)]
          rfl
        simp [tB_, e2, eVar, eC, Res.bind, this, gCmp]
      by_cases hge : 10 ^ 18 ≤ x
      · refine ⟨x, hx0, ?_⟩
        simp only [sIf, hp, Res.fl, hge, decide_true, if_true]
        simp [sSub, eVar, eC, Res.fl, set_bag0 hn]
      · refine ⟨a, ha, ?_⟩
        simp only [sIf, hp, Res.fl, hge, decide_false]
        rfl
    obtain ⟨a', ha', f3⟩ := f3
    have f4 : (e2 (gAdd false) (e2 (gAdd false) (e2 (gMulX false) (e2 gIx (eVar 0) (eC (.int 1))) (eC (.int 48271))) (e2 gMod (eL gInt [(eVar 2)]) (eC (.int 2147483647)))) (e2 (gMulX false) (eC (.int 7919)) (e2 gIx (eVar 0) (eC (.int 2))))) [some (.ref n), some (.int many), some (.int x), x3, x4, x5, x6] (h.set n (.lst (bagD a' b (c + 1) cs))) = .ok (.int (b * 48271 + x.fmod 2147483647 + 7919 * (c + 1))) (h.set n (.lst (bagD a' b (c + 1) cs))) := by
      simp [e2, eVar, eC, eL, evs, gInt, Res.bind, ix_bag1 hn, ix_bag2 hn, gMul_r (bd_lit (x := 48271) (by decide)), gMul_l (bd_lit (x := 7919) (by decide)), gMod_ok (show (0 : Int) < 2147483647 by decide), gAdd]
    generalize hz : b * 48271 + x.fmod 2147483647 + 7919 * (c + 1) = z at f4
    have f5 : (sSub (eVar 0) (eC (.int 1)) (e2 gMod (eL gInt [(eVar 3)]) (eC (.int 2147483647)))) [some (.ref n), some (.int many), some (.int x), some (.int z), x4, x5, x6] (h.set n (.lst (bagD a' b (c + 1) cs))) = .nx [some (.ref n), some (.int many), some (.int x), some (.int z), x4, x5, x6] (h.set n (.lst (bagD a' (z.fmod 2147483647) (c + 1) cs))) := by
      simp [sSub, e2, eVar, eC, eL, evs, gInt, Res.bind, Res.fl, gMod_ok (show (0 : Int) < 2147483647 by decide), set_bag1 hn]
    refine ⟨a', z.fmod 2147483647, c + 1, some (.int x), some (.int z), ha', by omega, ?_⟩
    rw [sIf_ap, ht, fl_ok, if_pos rfl, sSeq_ap, sSet_ap, e1, fl_ok, sq_nx]
    simp only [setS, set0]
    rw [sSeq_ap, f2, sq_nx, sSeq_ap, f3, sq_nx, sSeq_ap, sSet_ap, f4, fl_ok, sq_nx]
    simp only [setS, set0]
    rw [f5]
  · refine ⟨a, b, c, x2, x3, ha, hc, ?_⟩
    simp [sIf, tB_, e2, eVar, eC, Res.bind, Res.fl, ix_bag0 hn, geq_int, h0, sNil]
theorem take_ok (hn : n < h.length) (H : PH h) (hl : cs.length ≤ 63) (hcs : ∀ x ∈ cs, 0 ≤ x) (ha : 0 ≤ a) (hc : 0 ≤ c) (hm : 0 < many) (hm2 : Bd 64 many) :
    ∃ r a' b' c', 0 ≤ r ∧ r < many ∧ 0 ≤ a' ∧ 0 ≤ c' ∧ m_law_take [.ref n, .int many] (h.set n (.lst (bagD a b c cs))) = .ok (.int r) (h.set n (.lst (bagD a' b' c' cs))) := by
  obtain ⟨a1, b1, c1, y2, y3, ha1, hc1, e1⟩ := take_1 (many := many) (x2 := none) (x3 := none) (x4 := none) (x5 := none) (x6 := none) (b := b) hn hl hcs ha hc
  have fin : ∀ {a2 b2 c2 r : Int} {s2 : Sl}, 0 ≤ a2 → 0 ≤ c2 → 0 ≤ r → r < many → b_law_take [some (.ref n), some (.int many), none, none, none, none, none] (h.set n (.lst (bagD a b c cs))) = .rt (.int r) (h.set n (.lst (bagD a2 b2 c2 cs))) →
      ∃ r a' b' c', 0 ≤ r ∧ r < many ∧ 0 ≤ a' ∧ 0 ≤ c' ∧ m_law_take [.ref n, .int many] (h.set n (.lst (bagD a b c cs))) = .ok (.int r) (h.set n (.lst (bagD a' b' c' cs))) := fun {a2 b2 c2 r _} h1 h2 h3 h4 e => by
    refine ⟨r, a2, b2, c2, h3, h4, h1, h2, ?_⟩
    have := fnB_rt (n := 7) (b := b_law_take) (ds := [.ref n, .int many]) (h := h.set n (.lst (bagD a b c cs))) e rfl (by
      rw [List.length_set, ← List.length_set (as := h) (i := n) (a := .lst (bagD a2 b2 c2 cs)), List.take_length]
      exact H.set (bag_pure _ _ _ _))
    rw [List.length_set, ← List.length_set (as := h) (i := n) (a := .lst (bagD a2 b2 c2 cs)), List.take_length] at this
    exact this
  by_cases hp : 0 < a1
  · refine fin (a2 := a1.fdiv many) (b2 := b1) (c2 := c1) (r := a1.fmod many) (s2 := []) (Int.fdiv_nonneg (by omega) (by omega)) hc1 (fmod_range hm).1 (fmod_range hm).2 ?_
    unfold b_law_take
    simp only [sSeq, e1]
    simp [sIf, tB_, e2, eVar, eC, Res.bind, Res.fl, ix_bag0 hn, gCmp, hp, sSet, sSeq, eL, evs, gInt, gMod_ok hm, gDiv_ok hm hm2, sSub, set_bag0 hn, sRet]
  · have g1 := fmod_range (x := (b1 + 1) * 39373) (m := 1000000007) (by decide)
    generalize hz : ((b1 + 1) * 39373).fmod 1000000007 = z at g1
    have bz : Bd 64 z := by
      unfold Bd
      omega
    have g2 := fmod_range (x := z * z) (m := 998244353) (by decide)
    refine fin (a2 := a1) (b2 := b1) (c2 := c1) (r := ((((z * z).fmod 998244353 * 30011).fmod 998244353).fdiv 7).fmod many) (s2 := []) ha1 hc1 (fmod_range hm).1 (fmod_range hm).2 ?_
    unfold b_law_take
    simp only [sSeq, e1]
    simp [sIf, tB_, e2, eVar, eC, Res.bind, Res.fl, ix_bag0 hn, ix_bag1 hn, gCmp, hp, sSet, sSeq, eL, evs, gInt, gMod_ok hm, gMod_ok (show (0 : Int) < 1000000007 by decide), gMod_ok (show (0 : Int) < 998244353 by decide), gDiv_ok (show (0 : Int) < 7 by decide) (bd_lit (x := 7) (by decide)), sRet, sNil, gAdd, gMul_r (bd_lit (x := 39373) (by decide)), gMul_r (bd_lit (x := 30011) (by decide)), hz, gMul_r bz]
end
end K62

namespace K62
open PySem DL

structure Arc where
  p : Nat
  l : Str
  q : Nat
  w : Int
def Arc.d (a : Arc) : D := .tup [.int (a.p : Nat), .str a.l, .int (a.q : Nat), .int a.w]
structure Md where
  m : D
  b : List Int
  e : List Int
  arcs : List Arc
def Md.d (M : Md) : D := .tup [M.m, .tup (M.b.map D.int), .tup (M.e.map D.int), .tup (M.arcs.map Arc.d)]
structure Md.Ok (M : Md) : Prop where
  pm : M.m.pure = true
  dm : M.m.dep ≤ 8
  be : M.b.length = M.e.length
  pos : 0 < M.b.length
  nb : M.b.length ≤ 8
  na : M.arcs.length ≤ 64
  pq : ∀ a ∈ M.arcs, a.p < M.b.length ∧ a.q < M.b.length ∧ Bd 20 a.w ∧ a.l.length = 1
  bb : ∀ x ∈ M.b, Bd 20 x
  bd : ∀ x ∈ M.e, Bd 20 x
def Arc.st (row : List Int) (t : Str → Bool) (f : List Int) (a : Arc) : List Int := if t a.l = true then f.set a.q (f.getD a.q 0 + row.getD a.p 0 * a.w) else f
def ledF (M : Md) (t : Str → Bool) (row : List Int) : List Int := M.arcs.foldl (Arc.st row t) (List.replicate row.length 0)
theorem ledF_len {M : Md} {t : Str → Bool} {row : List Int} : (ledF M t row).length = row.length := by
  unfold ledF
  have : ∀ (l : List Arc) (f : List Int), (l.foldl (Arc.st row t) f).length = f.length := fun l => by
    induction l with
    | nil => exact fun _ => rfl
    | cons a l ih =>
      intro f
      rw [List.foldl_cons, ih]
      unfold Arc.st
      split
      · rw [List.length_set]
      · rfl
  rw [this, List.length_replicate]
theorem gIx_int_lst {h : AH} {row : List Int} {p : Nat} (hp : p < row.length) : gIx (.lst (row.map D.int)) (.int (p : Nat)) h = .ok (.int (row.getD p 0)) h := by
  refine gIx_seq (xs := row.map D.int) rfl ?_
  rw [List.getElem?_map, List.getElem?_eq_getElem hp, List.getD_eq_getElem?_getD, List.getElem?_eq_getElem hp]
  rfl
theorem md_arcs {M : Md} {h : AH} : gIx M.d (.int 3) h = .ok (.tup (M.arcs.map Arc.d)) h := gIx_int (xs := [M.m, .tup (M.b.map D.int), .tup (M.e.map D.int), .tup (M.arcs.map Arc.d)]) rfl (by decide) rfl
theorem md_b {M : Md} {h : AH} : gIx M.d (.int 1) h = .ok (.tup (M.b.map D.int)) h := gIx_int (xs := [M.m, .tup (M.b.map D.int), .tup (M.e.map D.int), .tup (M.arcs.map Arc.d)]) rfl (by decide) rfl
theorem md_e {M : Md} {h : AH} : gIx M.d (.int 2) h = .ok (.tup (M.e.map D.int)) h := gIx_int (xs := [M.m, .tup (M.b.map D.int), .tup (M.e.map D.int), .tup (M.arcs.map Arc.d)]) rfl (by decide) rfl
theorem zeros {row : List Int} {h : AH} (hr : row.length ≤ 8) : gMulX true (.lst [.int 0]) (.int (row.map D.int).length) h = .ok (.ref h.length) (h ++ [.lst ((List.replicate row.length (0 : Int)).map D.int)]) := by
  unfold gMulX gMul
  simp only [listX, List.length_map]
  rw [if_pos (by
    rw [Bool.and_eq_true, decide_eq_true_eq]
    refine ⟨by omega, lenOk_le2 ?_⟩
    simp
    omega)]
  unfold mkL
  simp only [if_true, Int.toNat_natCast]
  congr 3
  induction row.length with
  | zero => rfl
  | succ n ih =>
    rw [List.replicate_succ, List.replicate_succ, List.map_cons, List.flatten_cons]
    simp only [List.map_replicate] at ih ⊢
    congr 1
    rw [List.cons_append, List.nil_append]
    congr 1
    simpa using ih
/-- the arcs' loop of either walk -/
theorem arcs_loop {M : Md} {row : List Int} {h : AH} {c : D} {t : Str → Bool} {cond : MT} (hM : M.Ok) (hr : row.length = M.b.length)
    (hc : ∀ (a : Arc) (f : List Int), a ∈ M.arcs → cond [some M.d, some (.lst (row.map D.int)), some c, some (.ref h.length), some (.int (a.p : Nat)), some (.str a.l), some (.int (a.q : Nat)), some (.int a.w)] (h ++ [.lst (f.map D.int)]) = .ok (t a.l) (h ++ [.lst (f.map D.int)])) :
    forL [] (gT 4 (gsC (gN 4) (gsC (gN 5) (gsC (gN 6) (gsC (gN 7) gsN))))) (sFgt [4, 5, 6, 7] (sIf cond (sAugS gIAdd (eVar 3) (eVar 6) (e2 (gMulX false) (e2 gIx (eVar 1) (eVar 4)) (eVar 7))) sNil)) (M.arcs.map Arc.d)
      [some M.d, some (.lst (row.map D.int)), some c, some (.ref h.length), none, none, none, none] (h ++ [.lst ((List.replicate row.length (0 : Int)).map D.int)]) = .nx [some M.d, some (.lst (row.map D.int)), some c, some (.ref h.length), none, none, none, none] (h ++ [.lst ((ledF M t row).map D.int)]) := by
  refine (forL_map (chk := []) (enc := Arc.d) (S := fun _ => [some M.d, some (.lst (row.map D.int)), some c, some (.ref h.length), none, none, none, none]) (T := fun f => h ++ [.lst (List.map D.int f)]) (step := Arc.st row t) (P := fun f => f.length = row.length) (fun _ _ => okS_nil) M.arcs (List.replicate row.length 0) (by rw [List.length_replicate]) ?_).1
  intro f a ha hf
  obtain ⟨hp, hq, hw, _⟩ := hM.pq a ha
  refine ⟨by unfold Arc.st; split <;> simp [hf], _, (gT_tup rfl).trans (by simp only [sSeq_ap, sIf_ap, sNil_ap, sSet_ap, sRet_ap, sEx_ap, sPar_ap, sAsg_ap, sFgt_ap, sFor_ap, e1_ap, e2_ap, eL_ap, eC_ap, evs_nil, evs_cons, eTup_ap, eLstF_ap, eLstT_ap, eLcF_ap, eLc2F_ap, iA_ap, iZ_ap, tB_ap, tAnd_ap, tOr_ap, tNot_ap, tYes_ap, tV_ap, eSl_ap, oN_ap, oS_ap, eIf_ap, eM_ap, gN_ap, gsN_ap, gsC_ap, bind_ok, fl_ok, eVar_ap, sq_nx, sq_rt, sq_bk, sq_ct, fg_nx, fg_rt, fg_bk, fg_ct, oF_some, oH_some, slot_some, boolR_bl, intR_int, itA_tup, itA_str, itA_lst, itA_lsk, src_items, src_chk, itZ_lt, itZ_tl, itZ_ll, itZ_tt, truR_some, set0, setS, get0, getS, parF_nil, parF_cons, fgt_nil, fgt_cons, wpD_nil, wpD_cons, ite_tt, ite_ff, obind_some, gTup_tup, gTup_lst, gList_tup, gList_lst, gLen_tup, gLen_lst, gAdd_int, gSub_int]; rfl), .inl ?_⟩
  simp only [sSeq_ap, sIf_ap, sNil_ap, sSet_ap, sRet_ap, sEx_ap, sPar_ap, sAsg_ap, sFgt_ap, sFor_ap, e1_ap, e2_ap, eL_ap, eC_ap, evs_nil, evs_cons, eTup_ap, eLstF_ap, eLstT_ap, eLcF_ap, eLc2F_ap, iA_ap, iZ_ap, tB_ap, tAnd_ap, tOr_ap, tNot_ap, tYes_ap, tV_ap, eSl_ap, oN_ap, oS_ap, eIf_ap, eM_ap, gN_ap, gsN_ap, gsC_ap, bind_ok, fl_ok, eVar_ap, sq_nx, sq_rt, sq_bk, sq_ct, fg_nx, fg_rt, fg_bk, fg_ct, oF_some, oH_some, slot_some, boolR_bl, intR_int, itA_tup, itA_str, itA_lst, itA_lsk, src_items, src_chk, itZ_lt, itZ_tl, itZ_ll, itZ_tt, truR_some, set0, setS, get0, getS, parF_nil, parF_cons, fgt_nil, fgt_cons, wpD_nil, wpD_cons, ite_tt, ite_ff, obind_some, gTup_tup, gTup_lst, gList_tup, gList_lst, gLen_tup, gLen_lst, gAdd_int, gSub_int, hc a f ha]
  unfold Arc.st
  cases t a.l with
  | true =>
    simp only [if_true]
    rw [aug_ok (n := h.length) (i := a.q) (v := row.getD a.p 0 * a.w) (by simp only [sSeq_ap, sIf_ap, sNil_ap, sSet_ap, sRet_ap, sEx_ap, sPar_ap, sAsg_ap, sFgt_ap, sFor_ap, e1_ap, e2_ap, eL_ap, eC_ap, evs_nil, evs_cons, eTup_ap, eLstF_ap, eLstT_ap, eLcF_ap, eLc2F_ap, iA_ap, iZ_ap, tB_ap, tAnd_ap, tOr_ap, tNot_ap, tYes_ap, tV_ap, eSl_ap, oN_ap, oS_ap, eIf_ap, eM_ap, gN_ap, gsN_ap, gsC_ap, bind_ok, fl_ok, eVar_ap, sq_nx, sq_rt, sq_bk, sq_ct, fg_nx, fg_rt, fg_bk, fg_ct, oF_some, oH_some, slot_some, boolR_bl, intR_int, itA_tup, itA_str, itA_lst, itA_lsk, src_items, src_chk, itZ_lt, itZ_tl, itZ_ll, itZ_tt, truR_some, set0, setS, get0, getS, parF_nil, parF_cons, fgt_nil, fgt_cons, wpD_nil, wpD_cons, ite_tt, ite_ff, obind_some, gTup_tup, gTup_lst, gList_tup, gList_lst, gLen_tup, gLen_lst, gAdd_int, gSub_int]) rfl (by simp only [sSeq_ap, sIf_ap, sNil_ap, sSet_ap, sRet_ap, sEx_ap, sPar_ap, sAsg_ap, sFgt_ap, sFor_ap, e1_ap, e2_ap, eL_ap, eC_ap, evs_nil, evs_cons, eTup_ap, eLstF_ap, eLstT_ap, eLcF_ap, eLc2F_ap, iA_ap, iZ_ap, tB_ap, tAnd_ap, tOr_ap, tNot_ap, tYes_ap, tV_ap, eSl_ap, oN_ap, oS_ap, eIf_ap, eM_ap, gN_ap, gsN_ap, gsC_ap, bind_ok, fl_ok, eVar_ap, sq_nx, sq_rt, sq_bk, sq_ct, fg_nx, fg_rt, fg_bk, fg_ct, oF_some, oH_some, slot_some, boolR_bl, intR_int, itA_tup, itA_str, itA_lst, itA_lsk, src_items, src_chk, itZ_lt, itZ_tl, itZ_ll, itZ_tt, truR_some, set0, setS, get0, getS, parF_nil, parF_cons, fgt_nil, fgt_cons, wpD_nil, wpD_cons, ite_tt, ite_ff, obind_some, gTup_tup, gTup_lst, gList_tup, gList_lst, gLen_tup, gLen_lst, gAdd_int, gSub_int]) (by omega) (by
      simp only [sSeq_ap, sIf_ap, sNil_ap, sSet_ap, sRet_ap, sEx_ap, sPar_ap, sAsg_ap, sFgt_ap, sFor_ap, e1_ap, e2_ap, eL_ap, eC_ap, evs_nil, evs_cons, eTup_ap, eLstF_ap, eLstT_ap, eLcF_ap, eLc2F_ap, iA_ap, iZ_ap, tB_ap, tAnd_ap, tOr_ap, tNot_ap, tYes_ap, tV_ap, eSl_ap, oN_ap, oS_ap, eIf_ap, eM_ap, gN_ap, gsN_ap, gsC_ap, bind_ok, fl_ok, eVar_ap, sq_nx, sq_rt, sq_bk, sq_ct, fg_nx, fg_rt, fg_bk, fg_ct, oF_some, oH_some, slot_some, boolR_bl, intR_int, itA_tup, itA_str, itA_lst, itA_lsk, src_items, src_chk, itZ_lt, itZ_tl, itZ_ll, itZ_tt, truR_some, set0, setS, get0, getS, parF_nil, parF_cons, fgt_nil, fgt_cons, wpD_nil, wpD_cons, ite_tt, ite_ff, obind_some, gTup_tup, gTup_lst, gList_tup, gList_lst, gLen_tup, gLen_lst, gAdd_int, gSub_int, gIx_int_lst (row := row) (p := a.p) (by omega)]
      rw [gMulX_int (mulOk_r (hw.mono (by decide)))])]
    rfl
  | false =>
    rfl
theorem led_any {M : Md} {row : List Int} {h : AH} {c : D} {t : Str → Bool} {cond : MT} (hM : M.Ok) (hr : row.length = M.b.length) (H : PH h)
    (hc : ∀ (a : Arc) (f : List Int), a ∈ M.arcs → cond [some M.d, some (.lst (row.map D.int)), some c, some (.ref h.length), some (.int (a.p : Nat)), some (.str a.l), some (.int (a.q : Nat)), some (.int a.w)] (h ++ [.lst (f.map D.int)]) = .ok (t a.l) (h ++ [.lst (f.map D.int)])) :
    fnB 8 (sSeq (sSet 3 (e2 (gMulX true) (eLst false [(eC (.int 0))]) (eL gLen [(eVar 1)])))
    (sSeq (sFgt [4, 5, 6, 7] (sFor (iA (e2 gIx (eVar 0) (eC (.int 3)))) (gT 4 (gsC (gN 4) (gsC (gN 5) (gsC (gN 6) (gsC (gN 7) gsN))))) (sFgt [4, 5, 6, 7] (sIf cond (sAugS gIAdd (eVar 3) (eVar 6) (e2 (gMulX false) (e2 gIx (eVar 1) (eVar 4)) (eVar 7))) sNil))))
    (sRet (eVar 3)))) [M.d, .lst (row.map D.int), c] h = .ok (.lst ((ledF M t row).map D.int)) h := by
  have := fnB_rf (n := 8) (k := h.length) (ds := [M.d, .lst (row.map D.int), c]) (h := h) (h2 := h ++ [.lst ((ledF M t row).map D.int)]) (xs := (ledF M t row).map D.int) (b := sSeq (sSet 3 (e2 (gMulX true) (eLst false [(eC (.int 0))]) (eL gLen [(eVar 1)])))
    (sSeq (sFgt [4, 5, 6, 7] (sFor (iA (e2 gIx (eVar 0) (eC (.int 3)))) (gT 4 (gsC (gN 4) (gsC (gN 5) (gsC (gN 6) (gsC (gN 7) gsN))))) (sFgt [4, 5, 6, 7] (sIf cond (sAugS gIAdd (eVar 3) (eVar 6) (e2 (gMulX false) (e2 gIx (eVar 1) (eVar 4)) (eVar 7))) sNil))))
    (sRet (eVar 3)))) ?_ (Nat.le_refl _) (by rw [List.getElem?_concat_length]) (pures_ints _) (by rw [List.take_left]; exact H)
  · rw [List.take_left] at this
    exact this
  · show sSeq _ _ [some M.d, some (.lst (row.map D.int)), some c, none, none, none, none, none] h = _
    have h8 : row.length ≤ 8 := by
      have := hM.nb
      omega
    simp only [sSeq_ap, sIf_ap, sNil_ap, sSet_ap, sRet_ap, sEx_ap, sPar_ap, sAsg_ap, sFgt_ap, sFor_ap, e1_ap, e2_ap, eL_ap, eC_ap, evs_nil, evs_cons, eTup_ap, eLstF_ap, eLstT_ap, eLcF_ap, eLc2F_ap, iA_ap, iZ_ap, tB_ap, tAnd_ap, tOr_ap, tNot_ap, tYes_ap, tV_ap, eSl_ap, oN_ap, oS_ap, eIf_ap, eM_ap, gN_ap, gsN_ap, gsC_ap, bind_ok, fl_ok, eVar_ap, sq_nx, sq_rt, sq_bk, sq_ct, fg_nx, fg_rt, fg_bk, fg_ct, oF_some, oH_some, slot_some, boolR_bl, intR_int, itA_tup, itA_str, itA_lst, itA_lsk, src_items, src_chk, itZ_lt, itZ_tl, itZ_ll, itZ_tt, truR_some, set0, setS, get0, getS, parF_nil, parF_cons, fgt_nil, fgt_cons, wpD_nil, wpD_cons, ite_tt, ite_ff, obind_some, gTup_tup, gTup_lst, gList_tup, gList_lst, gLen_tup, gLen_lst, gAdd_int, gSub_int, zeros h8, md_arcs]
    rw [arcs_loop hM hr hc]
    simp only [sSeq_ap, sIf_ap, sNil_ap, sSet_ap, sRet_ap, sEx_ap, sPar_ap, sAsg_ap, sFgt_ap, sFor_ap, e1_ap, e2_ap, eL_ap, eC_ap, evs_nil, evs_cons, eTup_ap, eLstF_ap, eLstT_ap, eLcF_ap, eLc2F_ap, iA_ap, iZ_ap, tB_ap, tAnd_ap, tOr_ap, tNot_ap, tYes_ap, tV_ap, eSl_ap, oN_ap, oS_ap, eIf_ap, eM_ap, gN_ap, gsN_ap, gsC_ap, bind_ok, fl_ok, eVar_ap, sq_nx, sq_rt, sq_bk, sq_ct, fg_nx, fg_rt, fg_bk, fg_ct, oF_some, oH_some, slot_some, boolR_bl, intR_int, itA_tup, itA_str, itA_lst, itA_lsk, src_items, src_chk, itZ_lt, itZ_tl, itZ_ll, itZ_tt, truR_some, set0, setS, get0, getS, parF_nil, parF_cons, fgt_nil, fgt_cons, wpD_nil, wpD_cons, ite_tt, ite_ff, obind_some, gTup_tup, gTup_lst, gList_tup, gList_lst, gLen_tup, gLen_lst, gAdd_int, gSub_int]
def isL1 (l : Str) (x : Str) : Bool := decide (x = l)
def isAny (_ : Str) : Bool := true
theorem led_ok {M : Md} {row : List Int} {h : AH} {l : Str} (hM : M.Ok) (hr : row.length = M.b.length) (H : PH h) : m_led [M.d, .lst (row.map D.int), .str l] h = .ok (.lst ((ledF M (isL1 l) row).map D.int)) h := led_any hM hr H fun a f _ => by
  simp only [sSeq_ap, sIf_ap, sNil_ap, sSet_ap, sRet_ap, sEx_ap, sPar_ap, sAsg_ap, sFgt_ap, sFor_ap, e1_ap, e2_ap, eL_ap, eC_ap, evs_nil, evs_cons, eTup_ap, eLstF_ap, eLstT_ap, eLcF_ap, eLc2F_ap, iA_ap, iZ_ap, tB_ap, tAnd_ap, tOr_ap, tNot_ap, tYes_ap, tV_ap, eSl_ap, oN_ap, oS_ap, eIf_ap, eM_ap, gN_ap, gsN_ap, gsC_ap, bind_ok, fl_ok, eVar_ap, sq_nx, sq_rt, sq_bk, sq_ct, fg_nx, fg_rt, fg_bk, fg_ct, oF_some, oH_some, slot_some, boolR_bl, intR_int, itA_tup, itA_str, itA_lst, itA_lsk, src_items, src_chk, itZ_lt, itZ_tl, itZ_ll, itZ_tt, truR_some, set0, setS, get0, getS, parF_nil, parF_cons, fgt_nil, fgt_cons, wpD_nil, wpD_cons, ite_tt, ite_ff, obind_some, gTup_tup, gTup_lst, gList_tup, gList_lst, gLen_tup, gLen_lst, gAdd_int, gSub_int, gIsN_str, geq_str]
  unfold isL1
  cases decide (a.l = l) <;> rfl
theorem led_none {M : Md} {row : List Int} {h : AH} (hM : M.Ok) (hr : row.length = M.b.length) (H : PH h) : m_led [M.d, .lst (row.map D.int), .non] h = .ok (.lst ((ledF M isAny row).map D.int)) h := led_any hM hr H fun a f _ => by
  simp only [sSeq_ap, sIf_ap, sNil_ap, sSet_ap, sRet_ap, sEx_ap, sPar_ap, sAsg_ap, sFgt_ap, sFor_ap, e1_ap, e2_ap, eL_ap, eC_ap, evs_nil, evs_cons, eTup_ap, eLstF_ap, eLstT_ap, eLcF_ap, eLc2F_ap, iA_ap, iZ_ap, tB_ap, tAnd_ap, tOr_ap, tNot_ap, tYes_ap, tV_ap, eSl_ap, oN_ap, oS_ap, eIf_ap, eM_ap, gN_ap, gsN_ap, gsC_ap, bind_ok, fl_ok, eVar_ap, sq_nx, sq_rt, sq_bk, sq_ct, fg_nx, fg_rt, fg_bk, fg_ct, oF_some, oH_some, slot_some, boolR_bl, intR_int, itA_tup, itA_str, itA_lst, itA_lsk, src_items, src_chk, itZ_lt, itZ_tl, itZ_ll, itZ_tt, truR_some, set0, setS, get0, getS, parF_nil, parF_cons, fgt_nil, fgt_cons, wpD_nil, wpD_cons, ite_tt, ite_ff, obind_some, gTup_tup, gTup_lst, gList_tup, gList_lst, gLen_tup, gLen_lst, gAdd_int, gSub_int, gIsN_non]
  rfl
theorem gIn_strs {h : AH} {x : Str} {ls : List Str} : gIn true (.str x) (.lst (ls.map D.str)) h = .ok (.bl (ls.any fun y => decide (y = x))) h := by
  unfold gIn
  simp only [seqAt, listAt]
  have e : (dok (res (.str x) h) && dok (.lst (ls.map D.str))) = true := by
    unfold dok
    simp [res, D.pure, D.dep, pures_strs, deps_strs]
  rw [if_pos e]
  congr 1
  simp only [res, List.any_map]
  rw [show ((fun y => deq y (.str x)) ∘ D.str) = fun y => decide (y = x) from funext fun y => deq_str y x]
  cases ls.any fun y => decide (y = x) <;> rfl
theorem law_led_ok {M : Md} {row : List Int} {h : AH} {ls : List Str} (hM : M.Ok) (hr : row.length = M.b.length) (H : PH h) : m_law_led [M.d, .lst (row.map D.int), .lst (ls.map D.str)] h = .ok (.lst ((ledF M (fun x => ls.any fun y => decide (y = x)) row).map D.int)) h := led_any hM hr H fun a f _ => by
  simp only [sSeq_ap, sIf_ap, sNil_ap, sSet_ap, sRet_ap, sEx_ap, sPar_ap, sAsg_ap, sFgt_ap, sFor_ap, e1_ap, e2_ap, eL_ap, eC_ap, evs_nil, evs_cons, eTup_ap, eLstF_ap, eLstT_ap, eLcF_ap, eLc2F_ap, iA_ap, iZ_ap, tB_ap, tAnd_ap, tOr_ap, tNot_ap, tYes_ap, tV_ap, eSl_ap, oN_ap, oS_ap, eIf_ap, eM_ap, gN_ap, gsN_ap, gsC_ap, bind_ok, fl_ok, eVar_ap, sq_nx, sq_rt, sq_bk, sq_ct, fg_nx, fg_rt, fg_bk, fg_ct, oF_some, oH_some, slot_some, boolR_bl, intR_int, itA_tup, itA_str, itA_lst, itA_lsk, src_items, src_chk, itZ_lt, itZ_tl, itZ_ll, itZ_tt, truR_some, set0, setS, get0, getS, parF_nil, parF_cons, fgt_nil, fgt_cons, wpD_nil, wpD_cons, ite_tt, ite_ff, obind_some, gTup_tup, gTup_lst, gList_tup, gList_lst, gLen_tup, gLen_lst, gAdd_int, gSub_int, gIn_strs]
end K62

namespace K62
open PySem DL

def chars (z : Str) : List Str := z.cps.toList.map fun c => ⟨#[c]⟩
theorem sigs_chars (z : Str) : sigs z = (chars z).map D.str := by
  unfold sigs chars
  rw [List.map_map]
  rfl
theorem chars_len (z : Str) : (chars z).length = z.length := by
  unfold chars
  rw [List.length_map, Array.length_toList]
  rfl
/-- the entries' bound -/
def RB (k : Nat) (row : List Int) : Prop := ∀ x ∈ row, Bd k x
theorem RB.getD {k : Nat} {row : List Int} (h : RB k row) (i : Nat) : Bd k (row.getD i 0) := by
  rw [List.getD_eq_getElem?_getD]
  by_cases hi : i < row.length
  · rw [List.getElem?_eq_getElem hi]
    exact h _ (List.getElem_mem hi)
  · rw [List.getElem?_eq_none (by omega)]
    exact Nat.pow_pos (by decide)
theorem led_rb {M : Md} {t : Str → Bool} {row : List Int} {k : Nat} (hM : M.Ok) (h : RB k row) : RB (k + 27) (ledF M t row) := by
  have key : ∀ (l : List Arc) (f : List Int) (n : Nat), (∀ a ∈ l, a ∈ M.arcs) → (∀ x ∈ f, x.natAbs ≤ n * 2 ^ (k + 20)) → ∀ x ∈ l.foldl (Arc.st row t) f, x.natAbs ≤ (n + l.length) * 2 ^ (k + 20) := by
    intro l
    induction l with
    | nil => exact fun f n _ hf => hf
    | cons a l ih =>
      intro f n hl hf
      rw [List.foldl_cons, List.length_cons, show n + (l.length + 1) = n + 1 + l.length by omega]
      refine ih _ _ (fun a ha => hl a (List.mem_cons_of_mem _ ha)) fun x hx => ?_
      unfold Arc.st at hx
      have mono : n * 2 ^ (k + 20) ≤ (n + 1) * 2 ^ (k + 20) := Nat.mul_le_mul_right _ (by omega)
      split at hx
      · rcases List.mem_or_eq_of_mem_set hx with hx | rfl
        · exact Nat.le_trans (hf x hx) mono
        · have b1 := (h.getD a.p).mul (hM.pq a (hl a List.mem_cons_self)).2.2.1
          have b2 : (f.getD a.q 0).natAbs ≤ n * 2 ^ (k + 20) := by
            rw [List.getD_eq_getElem?_getD]
            by_cases hi : a.q < f.length
            · rw [List.getElem?_eq_getElem hi]
              exact hf _ (List.getElem_mem hi)
            · rw [List.getElem?_eq_none (by omega)]
              exact Nat.zero_le _
          unfold Bd at b1
          have := Int.natAbs_add_le (f.getD a.q 0) (row.getD a.p 0 * a.w)
          rw [Nat.succ_mul]
          omega
      · exact Nat.le_trans (hf x hx) mono
  intro x hx
  have := key M.arcs (List.replicate row.length 0) 0 (fun _ h => h) (fun x hx => by
    rw [(List.mem_replicate.mp hx).2]
    exact Nat.zero_le _) x hx
  have na := hM.na
  unfold Bd
  rw [Nat.zero_add] at this
  have h2 : M.arcs.length * 2 ^ (k + 20) ≤ 64 * 2 ^ (k + 20) := Nat.mul_le_mul_right _ na
  have h3 : 2 ^ (k + 27) = 128 * 2 ^ (k + 20) := by
    rw [show k + 27 = 7 + (k + 20) by omega, Nat.pow_add]
  have h4 : 0 < 2 ^ (k + 20) := Nat.pow_pos (by decide)
  omega
def walkF (M : Md) (ts : List (Str → Bool)) (row : List Int) : List Int := ts.foldl (fun row t => ledF M t row) row
theorem walk_len {M : Md} : ∀ {ts : List (Str → Bool)} {row : List Int}, (walkF M ts row).length = row.length
  | [], row => rfl
  | t :: ts, row => by
    show (walkF M ts (ledF M t row)).length = _
    rw [walk_len, ledF_len]
theorem walk_rb {M : Md} (hM : M.Ok) : ∀ {ts : List (Str → Bool)} {row : List Int} {k : Nat}, RB k row → RB (k + 27 * ts.length) (walkF M ts row)
  | [], row, k, h => h
  | t :: ts, row, k, h => by
    have := walk_rb hM (ts := ts) (led_rb (t := t) hM h)
    rw [List.length_cons, show k + 27 * (ts.length + 1) = k + 27 + 27 * ts.length by omega]
    exact this
def sumsF (M : Md) (z : Str) : List Int := walkF M ((chars z).map isL1) M.b
def allF (M : Md) (n : Nat) : List Int := walkF M (List.replicate n isAny) M.b
theorem sumsF_len {M : Md} {z : Str} : (sumsF M z).length = M.b.length := walk_len
theorem allF_len {M : Md} {n : Nat} : (allF M n).length = M.b.length := walk_len
theorem sumsF_rb {M : Md} {z : Str} (hM : M.Ok) (hz : z.length ≤ 16) : RB 500 (sumsF M z) := fun x hx => by
  have := walk_rb hM (ts := (chars z).map isL1) (row := M.b) hM.bb x hx
  refine this.mono ?_
  rw [List.length_map, chars_len]
  omega
theorem allF_rb {M : Md} {n : Nat} (hM : M.Ok) (hz : n ≤ 16) : RB 500 (allF M n) := fun x hx => by
  have := walk_rb hM (ts := List.replicate n isAny) (row := M.b) hM.bb x hx
  refine this.mono ?_
  rw [List.length_replicate]
  omega
theorem ledF_congr {M : Md} {t u : Str → Bool} {row : List Int} (h : ∀ a ∈ M.arcs, t a.l = u a.l) : ledF M t row = ledF M u row := by
  unfold ledF
  generalize List.replicate row.length (0 : Int) = f
  have : ∀ (l : List Arc) (f : List Int), (∀ a ∈ l, a ∈ M.arcs) → l.foldl (Arc.st row t) f = l.foldl (Arc.st row u) f := by
    intro l
    induction l with
    | nil => exact fun _ _ => rfl
    | cons a l ih =>
      intro f hl
      rw [List.foldl_cons, List.foldl_cons, ih _ fun a ha => hl a (List.mem_cons_of_mem _ ha)]
      unfold Arc.st
      rw [h a (hl a List.mem_cons_self)]
  exact this _ _ fun _ h => h
section
variable {M N : Md} {h : AH} {z : Str}
theorem sums_ok (hM : M.Ok) (H : PH h) : m_law_sums [M.d, .str z] h = .ok (.lst ((sumsF M z).map D.int)) h := by
  refine fnB_0 ?_ (by simp only [D.pure, pures_ints]) H
  show b_law_sums [some M.d, some (.str z), none, none] h = _
  unfold b_law_sums
  simp only [sSeq_ap, sIf_ap, sNil_ap, sSet_ap, sRet_ap, sEx_ap, sPar_ap, sAsg_ap, sFgt_ap, sFor_ap, e1_ap, e2_ap, eL_ap, eC_ap, evs_nil, evs_cons, eTup_ap, eLstF_ap, eLstT_ap, eLcF_ap, eLc2F_ap, iA_ap, iZ_ap, tB_ap, tAnd_ap, tOr_ap, tNot_ap, tYes_ap, tV_ap, eSl_ap, oN_ap, oS_ap, eIf_ap, eM_ap, gN_ap, gsN_ap, gsC_ap, bind_ok, fl_ok, eVar_ap, sq_nx, sq_rt, sq_bk, sq_ct, fg_nx, fg_rt, fg_bk, fg_ct, oF_some, oH_some, slot_some, boolR_bl, intR_int, itA_tup, itA_str, itA_lst, itA_lsk, src_items, src_chk, itZ_lt, itZ_tl, itZ_ll, itZ_tt, truR_some, set0, setS, get0, getS, parF_nil, parF_cons, fgt_nil, fgt_cons, wpD_nil, wpD_cons, ite_tt, ite_ff, obind_some, gTup_tup, gTup_lst, gList_tup, gList_lst, gLen_tup, gLen_lst, gAdd_int, gSub_int, md_b, sigs_chars]
  rw [(forL_map (chk := []) (enc := D.str) (S := fun row : List Int => [some M.d, some (.str z), some (.lst (row.map D.int)), none]) (T := fun _ => h) (step := fun row l => ledF M (isL1 l) row) (P := fun f => f.length = M.b.length) (fun _ _ => okS_nil) (chars z) M.b rfl ?_).1]
  · simp only [sSeq_ap, sIf_ap, sNil_ap, sSet_ap, sRet_ap, sEx_ap, sPar_ap, sAsg_ap, sFgt_ap, sFor_ap, e1_ap, e2_ap, eL_ap, eC_ap, evs_nil, evs_cons, eTup_ap, eLstF_ap, eLstT_ap, eLcF_ap, eLc2F_ap, iA_ap, iZ_ap, tB_ap, tAnd_ap, tOr_ap, tNot_ap, tYes_ap, tV_ap, eSl_ap, oN_ap, oS_ap, eIf_ap, eM_ap, gN_ap, gsN_ap, gsC_ap, bind_ok, fl_ok, eVar_ap, sq_nx, sq_rt, sq_bk, sq_ct, fg_nx, fg_rt, fg_bk, fg_ct, oF_some, oH_some, slot_some, boolR_bl, intR_int, itA_tup, itA_str, itA_lst, itA_lsk, src_items, src_chk, itZ_lt, itZ_tl, itZ_ll, itZ_tt, truR_some, set0, setS, get0, getS, parF_nil, parF_cons, fgt_nil, fgt_cons, wpD_nil, wpD_cons, ite_tt, ite_ff, obind_some, gTup_tup, gTup_lst, gList_tup, gList_lst, gLen_tup, gLen_lst, gAdd_int, gSub_int]
    unfold sumsF walkF
    rw [List.foldl_map]
  · intro row l _ hr
    refine ⟨by rw [ledF_len, hr], _, rfl, .inl ?_⟩
    have := law_led_ok (row := row) (ls := [l]) hM hr H
    simp only [List.map_cons, List.map_nil] at this
    simp only [sSeq_ap, sIf_ap, sNil_ap, sSet_ap, sRet_ap, sEx_ap, sPar_ap, sAsg_ap, sFgt_ap, sFor_ap, e1_ap, e2_ap, eL_ap, eC_ap, evs_nil, evs_cons, eTup_ap, eLstF_ap, eLstT_ap, eLcF_ap, eLc2F_ap, iA_ap, iZ_ap, tB_ap, tAnd_ap, tOr_ap, tNot_ap, tYes_ap, tV_ap, eSl_ap, oN_ap, oS_ap, eIf_ap, eM_ap, gN_ap, gsN_ap, gsC_ap, bind_ok, fl_ok, eVar_ap, sq_nx, sq_rt, sq_bk, sq_ct, fg_nx, fg_rt, fg_bk, fg_ct, oF_some, oH_some, slot_some, boolR_bl, intR_int, itA_tup, itA_str, itA_lst, itA_lsk, src_items, src_chk, itZ_lt, itZ_tl, itZ_ll, itZ_tt, truR_some, set0, setS, get0, getS, parF_nil, parF_cons, fgt_nil, fgt_cons, wpD_nil, wpD_cons, ite_tt, ite_ff, obind_some, gTup_tup, gTup_lst, gList_tup, gList_lst, gLen_tup, gLen_lst, gAdd_int, gSub_int, this]
    rw [ledF_congr (t := fun x => [l].any fun y => decide (y = x)) (u := isL1 l) fun a _ => by
      unfold isL1
      by_cases e : a.l = l
      · simp [e]
      · simp [e, Ne.symm e]]
theorem arc_letter {a : Arc} : gIx a.d (.int 1) h = .ok (.str a.l) h := gIx_int (xs := [.int (a.p : Nat), .str a.l, .int (a.q : Nat), .int a.w]) rfl (by decide) rfl
theorem all_sums_ok {n : Nat} (hn : n ≤ 1000) (hM : M.Ok) (H : PH h) : m_law_all_sums [M.d, .int (n : Nat)] h = .ok (.lst ((allF M n).map D.int)) h := by
  refine fnB_0 ?_ (by simp only [D.pure, pures_ints]) H
  show b_law_all_sums [some M.d, some (.int (n : Nat)), none, none, none, none, none] h = _
  unfold b_law_all_sums
  simp only [sSeq_ap, sIf_ap, sNil_ap, sSet_ap, sRet_ap, sEx_ap, sPar_ap, sAsg_ap, sFgt_ap, sFor_ap, e1_ap, e2_ap, eL_ap, eC_ap, evs_nil, evs_cons, eTup_ap, eLstF_ap, eLstT_ap, eLcF_ap, eLc2F_ap, iA_ap, iZ_ap, tB_ap, tAnd_ap, tOr_ap, tNot_ap, tYes_ap, tV_ap, eSl_ap, oN_ap, oS_ap, eIf_ap, eM_ap, gN_ap, gsN_ap, gsC_ap, bind_ok, fl_ok, eVar_ap, sq_nx, sq_rt, sq_bk, sq_ct, fg_nx, fg_rt, fg_bk, fg_ct, oF_some, oH_some, slot_some, boolR_bl, intR_int, itA_tup, itA_str, itA_lst, itA_lsk, src_items, src_chk, itZ_lt, itZ_tl, itZ_ll, itZ_tt, truR_some, set0, setS, get0, getS, parF_nil, parF_cons, fgt_nil, fgt_cons, wpD_nil, wpD_cons, ite_tt, ite_ff, obind_some, gTup_tup, gTup_lst, gList_tup, gList_lst, gLen_tup, gLen_lst, gAdd_int, gSub_int, md_b, md_arcs]
  have na := hM.na
  rw [lcL_map0 (enc := Arc.d) (out := fun a => .str a.l) okS_nil M.arcs (by omega) fun a _ => ⟨_, rfl, by simp only [sSeq_ap, sIf_ap, sNil_ap, sSet_ap, sRet_ap, sEx_ap, sPar_ap, sAsg_ap, sFgt_ap, sFor_ap, e1_ap, e2_ap, eL_ap, eC_ap, evs_nil, evs_cons, eTup_ap, eLstF_ap, eLstT_ap, eLcF_ap, eLc2F_ap, iA_ap, iZ_ap, tB_ap, tAnd_ap, tOr_ap, tNot_ap, tYes_ap, tV_ap, eSl_ap, oN_ap, oS_ap, eIf_ap, eM_ap, gN_ap, gsN_ap, gsC_ap, bind_ok, fl_ok, eVar_ap, sq_nx, sq_rt, sq_bk, sq_ct, fg_nx, fg_rt, fg_bk, fg_ct, oF_some, oH_some, slot_some, boolR_bl, intR_int, itA_tup, itA_str, itA_lst, itA_lsk, src_items, src_chk, itZ_lt, itZ_tl, itZ_ll, itZ_tt, truR_some, set0, setS, get0, getS, parF_nil, parF_cons, fgt_nil, fgt_cons, wpD_nil, wpD_cons, ite_tt, ite_ff, obind_some, gTup_tup, gTup_lst, gList_tup, gList_lst, gLen_tup, gLen_lst, gAdd_int, gSub_int, arc_letter]⟩]
  simp only [sSeq_ap, sIf_ap, sNil_ap, sSet_ap, sRet_ap, sEx_ap, sPar_ap, sAsg_ap, sFgt_ap, sFor_ap, e1_ap, e2_ap, eL_ap, eC_ap, evs_nil, evs_cons, eTup_ap, eLstF_ap, eLstT_ap, eLcF_ap, eLc2F_ap, iA_ap, iZ_ap, tB_ap, tAnd_ap, tOr_ap, tNot_ap, tYes_ap, tV_ap, eSl_ap, oN_ap, oS_ap, eIf_ap, eM_ap, gN_ap, gsN_ap, gsC_ap, bind_ok, fl_ok, eVar_ap, sq_nx, sq_rt, sq_bk, sq_ct, fg_nx, fg_rt, fg_bk, fg_ct, oF_some, oH_some, slot_some, boolR_bl, intR_int, itA_tup, itA_str, itA_lst, itA_lsk, src_items, src_chk, itZ_lt, itZ_tl, itZ_ll, itZ_tt, truR_some, set0, setS, get0, getS, parF_nil, parF_cons, fgt_nil, fgt_cons, wpD_nil, wpD_cons, ite_tt, ite_ff, obind_some, gTup_tup, gTup_lst, gList_tup, gList_lst, gLen_tup, gLen_lst, gAdd_int, gSub_int]
  rw [iR1_ok (n := n) (by simp only [sSeq_ap, sIf_ap, sNil_ap, sSet_ap, sRet_ap, sEx_ap, sPar_ap, sAsg_ap, sFgt_ap, sFor_ap, e1_ap, e2_ap, eL_ap, eC_ap, evs_nil, evs_cons, eTup_ap, eLstF_ap, eLstT_ap, eLcF_ap, eLc2F_ap, iA_ap, iZ_ap, tB_ap, tAnd_ap, tOr_ap, tNot_ap, tYes_ap, tV_ap, eSl_ap, oN_ap, oS_ap, eIf_ap, eM_ap, gN_ap, gsN_ap, gsC_ap, bind_ok, fl_ok, eVar_ap, sq_nx, sq_rt, sq_bk, sq_ct, fg_nx, fg_rt, fg_bk, fg_ct, oF_some, oH_some, slot_some, boolR_bl, intR_int, itA_tup, itA_str, itA_lst, itA_lsk, src_items, src_chk, itZ_lt, itZ_tl, itZ_ll, itZ_tt, truR_some, set0, setS, get0, getS, parF_nil, parF_cons, fgt_nil, fgt_cons, wpD_nil, wpD_cons, ite_tt, ite_ff, obind_some, gTup_tup, gTup_lst, gList_tup, gList_lst, gLen_tup, gLen_lst, gAdd_int, gSub_int]; rfl) hn]
  simp only [sSeq_ap, sIf_ap, sNil_ap, sSet_ap, sRet_ap, sEx_ap, sPar_ap, sAsg_ap, sFgt_ap, sFor_ap, e1_ap, e2_ap, eL_ap, eC_ap, evs_nil, evs_cons, eTup_ap, eLstF_ap, eLstT_ap, eLcF_ap, eLc2F_ap, iA_ap, iZ_ap, tB_ap, tAnd_ap, tOr_ap, tNot_ap, tYes_ap, tV_ap, eSl_ap, oN_ap, oS_ap, eIf_ap, eM_ap, gN_ap, gsN_ap, gsC_ap, bind_ok, fl_ok, eVar_ap, sq_nx, sq_rt, sq_bk, sq_ct, fg_nx, fg_rt, fg_bk, fg_ct, oF_some, oH_some, slot_some, boolR_bl, intR_int, itA_tup, itA_str, itA_lst, itA_lsk, src_items, src_chk, itZ_lt, itZ_tl, itZ_ll, itZ_tt, truR_some, set0, setS, get0, getS, parF_nil, parF_cons, fgt_nil, fgt_cons, wpD_nil, wpD_cons, ite_tt, ite_ff, obind_some, gTup_tup, gTup_lst, gList_tup, gList_lst, gLen_tup, gLen_lst, gAdd_int, gSub_int]
  rw [(forL_map (chk := []) (enc := fun i : Nat => D.int (i : Int)) (S := fun row : List Int => [some M.d, some (.int (n : Nat)), some (.lst (row.map D.int)), some (.lst (M.arcs.map fun a => .str a.l)), none, none, none]) (T := fun _ => h) (step := fun row _ => ledF M isAny row) (P := fun f => f.length = M.b.length) (fun _ _ => okS_nil) (List.range n) M.b rfl ?_).1]
  · simp only [sSeq_ap, sIf_ap, sNil_ap, sSet_ap, sRet_ap, sEx_ap, sPar_ap, sAsg_ap, sFgt_ap, sFor_ap, e1_ap, e2_ap, eL_ap, eC_ap, evs_nil, evs_cons, eTup_ap, eLstF_ap, eLstT_ap, eLcF_ap, eLc2F_ap, iA_ap, iZ_ap, tB_ap, tAnd_ap, tOr_ap, tNot_ap, tYes_ap, tV_ap, eSl_ap, oN_ap, oS_ap, eIf_ap, eM_ap, gN_ap, gsN_ap, gsC_ap, bind_ok, fl_ok, eVar_ap, sq_nx, sq_rt, sq_bk, sq_ct, fg_nx, fg_rt, fg_bk, fg_ct, oF_some, oH_some, slot_some, boolR_bl, intR_int, itA_tup, itA_str, itA_lst, itA_lsk, src_items, src_chk, itZ_lt, itZ_tl, itZ_ll, itZ_tt, truR_some, set0, setS, get0, getS, parF_nil, parF_cons, fgt_nil, fgt_cons, wpD_nil, wpD_cons, ite_tt, ite_ff, obind_some, gTup_tup, gTup_lst, gList_tup, gList_lst, gLen_tup, gLen_lst, gAdd_int, gSub_int]
    unfold allF walkF
    congr 3
    have : ∀ (l : List Nat) (row : List Int), l.foldl (fun row _ => ledF M isAny row) row = (List.replicate l.length isAny).foldl (fun row t => ledF M t row) row := by
      intro l
      induction l with
      | nil => exact fun _ => rfl
      | cons a l ih =>
        intro row
        rw [List.foldl_cons, List.length_cons, List.replicate_succ, List.foldl_cons, ih]
    rw [this, List.length_range]
  · intro row l _ hr
    refine ⟨by rw [ledF_len, hr], _, rfl, .inl ?_⟩
    have := law_led_ok (row := row) (ls := M.arcs.map Arc.l) hM hr H
    rw [List.map_map] at this
    have e : (D.str ∘ Arc.l) = fun a : Arc => D.str a.l := rfl
    rw [e] at this
    simp only [sSeq_ap, sIf_ap, sNil_ap, sSet_ap, sRet_ap, sEx_ap, sPar_ap, sAsg_ap, sFgt_ap, sFor_ap, e1_ap, e2_ap, eL_ap, eC_ap, evs_nil, evs_cons, eTup_ap, eLstF_ap, eLstT_ap, eLcF_ap, eLc2F_ap, iA_ap, iZ_ap, tB_ap, tAnd_ap, tOr_ap, tNot_ap, tYes_ap, tV_ap, eSl_ap, oN_ap, oS_ap, eIf_ap, eM_ap, gN_ap, gsN_ap, gsC_ap, bind_ok, fl_ok, eVar_ap, sq_nx, sq_rt, sq_bk, sq_ct, fg_nx, fg_rt, fg_bk, fg_ct, oF_some, oH_some, slot_some, boolR_bl, intR_int, itA_tup, itA_str, itA_lst, itA_lsk, src_items, src_chk, itZ_lt, itZ_tl, itZ_ll, itZ_tt, truR_some, set0, setS, get0, getS, parF_nil, parF_cons, fgt_nil, fgt_cons, wpD_nil, wpD_cons, ite_tt, ite_ff, obind_some, gTup_tup, gTup_lst, gList_tup, gList_lst, gLen_tup, gLen_lst, gAdd_int, gSub_int, this]
    rw [ledF_congr (u := isAny) fun a ha => by
      unfold isAny
      rw [List.any_eq_true]
      exact ⟨a.l, List.mem_map_of_mem ha, by simp⟩]
end
end K62

namespace K62
open PySem DL

def trk (mine allIts its allMine : List Int) : List Int := (mine.flatMap fun x => allIts.map fun y => x * y) ++ allMine.flatMap fun x => its.map fun y => x * y
structure Q4 where
  a : List Int
  b : List Int
  c : List Int
  d : List Int
def Q4.e (r : Q4) : D := .tup [.lst (r.a.map D.int), .lst (r.b.map D.int), .lst (r.c.map D.int), .lst (r.d.map D.int)]
theorem Q4.pure (r : Q4) : r.e.pure = true := by
  simp [Q4.e, D.pure, D.pures, pures_ints]
def Q4.st (M N : Md) (r : Q4) (l : Str) : Q4 := ⟨ledF M (isL1 l) r.a, ledF N isAny r.b, ledF N (isL1 l) r.c, ledF M isAny r.d⟩
structure Q4.Len (M N : Md) (r : Q4) : Prop where
  a : r.a.length = M.b.length
  b : r.b.length = N.b.length
  c : r.c.length = N.b.length
  d : r.d.length = M.b.length
def trackF (M N : Md) (z : Str) : List Int := trk (sumsF M z) (allF N z.length) (sumsF N z) (allF M z.length)
theorem q4_get (r : Q4) {s : Sl} (i j k l : Nat) : gT 4 (gsC (gN i) (gsC (gN j) (gsC (gN k) (gsC (gN l) gsN)))) r.e s = some ((((s.set i (some (.lst (r.a.map D.int)))).set j (some (.lst (r.b.map D.int)))).set k (some (.lst (r.c.map D.int)))).set l (some (.lst (r.d.map D.int)))) := by
  exact (gT_tup (n := 4) rfl).trans rfl
section
variable {M N : Md} {h : AH} {z : Str}
theorem first_ok (H : PH h) : m_first_rows [M.d, N.d] h = .ok (Q4.mk M.b N.b N.b M.b).e h := by
  refine fnB_0 ?_ (Q4.pure _) H
  show b_first_rows [some M.d, some N.d] h = _
  unfold b_first_rows
  simp only [sSeq_ap, sIf_ap, sNil_ap, sSet_ap, sRet_ap, sEx_ap, sPar_ap, sAsg_ap, sFgt_ap, sFor_ap, e1_ap, e2_ap, eL_ap, eC_ap, evs_nil, evs_cons, eTup_ap, eLstF_ap, eLstT_ap, eLcF_ap, eLc2F_ap, iA_ap, iZ_ap, tB_ap, tAnd_ap, tOr_ap, tNot_ap, tYes_ap, tV_ap, eSl_ap, oN_ap, oS_ap, eIf_ap, eM_ap, gN_ap, gsN_ap, gsC_ap, bind_ok, fl_ok, eVar_ap, sq_nx, sq_rt, sq_bk, sq_ct, fg_nx, fg_rt, fg_bk, fg_ct, oF_some, oH_some, slot_some, boolR_bl, intR_int, itA_tup, itA_str, itA_lst, itA_lsk, src_items, src_chk, itZ_lt, itZ_tl, itZ_ll, itZ_tt, truR_some, set0, setS, get0, getS, parF_nil, parF_cons, fgt_nil, fgt_cons, wpD_nil, wpD_cons, ite_tt, ite_ff, obind_some, gTup_tup, gTup_lst, gList_tup, gList_lst, gLen_tup, gLen_lst, gAdd_int, gSub_int, md_b]
  rfl
theorem next_ok {r : Q4} {l : Str} (hM : M.Ok) (hN : N.Ok) (hr : r.Len M N) (H : PH h) : m_next_rows [M.d, N.d, r.e, .str l] h = .ok (r.st M N l).e h := by
  refine fnB_0 ?_ (Q4.pure _) H
  show b_next_rows [some M.d, some N.d, some r.e, some (.str l), none, none, none, none] h = _
  unfold b_next_rows
  simp only [sSeq_ap, sIf_ap, sNil_ap, sSet_ap, sRet_ap, sEx_ap, sPar_ap, sAsg_ap, sFgt_ap, sFor_ap, e1_ap, e2_ap, eL_ap, eC_ap, evs_nil, evs_cons, eTup_ap, eLstF_ap, eLstT_ap, eLcF_ap, eLc2F_ap, iA_ap, iZ_ap, tB_ap, tAnd_ap, tOr_ap, tNot_ap, tYes_ap, tV_ap, eSl_ap, oN_ap, oS_ap, eIf_ap, eM_ap, gN_ap, gsN_ap, gsC_ap, bind_ok, fl_ok, eVar_ap, sq_nx, sq_rt, sq_bk, sq_ct, fg_nx, fg_rt, fg_bk, fg_ct, oF_some, oH_some, slot_some, boolR_bl, intR_int, itA_tup, itA_str, itA_lst, itA_lsk, src_items, src_chk, itZ_lt, itZ_tl, itZ_ll, itZ_tt, truR_some, set0, setS, get0, getS, parF_nil, parF_cons, fgt_nil, fgt_cons, wpD_nil, wpD_cons, ite_tt, ite_ff, obind_some, gTup_tup, gTup_lst, gList_tup, gList_lst, gLen_tup, gLen_lst, gAdd_int, gSub_int, q4_get, led_ok hM hr.a H, led_none hN hr.b H, led_ok hN hr.c H, led_none hM hr.d H]
  rfl
theorem Q4.Len.st {r : Q4} (hr : r.Len M N) (l : Str) : (r.st M N l).Len M N := ⟨by rw [← hr.a]; exact ledF_len, by rw [← hr.b]; exact ledF_len, by rw [← hr.c]; exact ledF_len, by rw [← hr.d]; exact ledF_len⟩
theorem mul_map {x : List Int} {y : Int} : x.map (fun z => D.int (y * z)) = (x.map fun z => y * z).map D.int := by
  rw [List.map_map]
  rfl
theorem flat_map2 {x y : List Int} : x.flatMap (fun a => y.map fun b => D.int (a * b)) = (x.flatMap fun a => y.map fun b => a * b).map D.int := by
  rw [List.map_flatMap]
  congr 1
  funext a
  rw [List.map_map]
  rfl
theorem flat_len {x y : List Int} : (x.flatMap fun a => y.map fun b => a * b).length = x.length * y.length := by
  induction x with
  | nil => simp
  | cons a x ih => rw [List.flatMap_cons, List.length_append, ih, List.length_map, List.length_cons, Nat.succ_mul, Nat.add_comm]
theorem pairs_lc {x y : List Int} {f : ME} {s : Sl} {i1 : MI} {g g1 : MG} {vs : List Nat} (hx : RB 500 x) (hy : RB 500 y) (lx : x.length ≤ 8) (ly : y.length ≤ 8)
    (e : ∀ a b, a ∈ x → b ∈ y → ∃ s1, g (.int a) s = some s1 ∧ i1 s1 h = .ok ⟨y.map D.int, []⟩ h ∧ ∃ s2, g1 (.int b) (wpD s1 vs) = some s2 ∧ f s2 h = gMulX false (.int a) (.int b) h) (hy0 : y ≠ []) :
    lcL2 [] g tYesM i1 g1 tYesM f vs s (x.map D.int) [] h = .ok ((x.flatMap fun a => y.map fun b => a * b).map D.int) h := by
  have : x.length * y.length ≤ 8 * 8 := Nat.mul_le_mul lx ly
  rw [lcL2_map (enc := D.int) (enc1 := D.int) (out := fun a b => D.int (a * b)) okS_nil y x [] (by rw [List.length_nil]; omega) fun a ha => ?_, List.nil_append, flat_map2]
  obtain ⟨b0, hb0⟩ : ∃ b, b ∈ y := List.exists_mem_of_ne_nil y hy0
  obtain ⟨s1, e1, e2, _⟩ := e a b0 ha hb0
  refine ⟨s1, e1, e2, fun b hb => ?_⟩
  obtain ⟨s1', e1', _, s2, e3, e4⟩ := e a b ha hb
  rw [e1] at e1'
  cases e1'
  exact ⟨s2, e3, e4.trans (gMulX_int ((hx a ha).mulOk (hy b hb) (by decide) (by decide) (by decide)))⟩
structure Q4.Bd4 (r : Q4) : Prop where
  a : RB 500 r.a
  b : RB 500 r.b
  c : RB 500 r.c
  d : RB 500 r.d
theorem nnil {M : Md} {l : List Int} (hM : M.Ok) (h : l.length = M.b.length) : l ≠ [] := fun e => by
  have := hM.pos
  rw [e] at h
  simp at h
  omega
theorem by_ok {r : Q4} (hM : M.Ok) (hN : N.Ok) (hr : r.Len M N) (hb : r.Bd4) (H : PH h) : m_track_by [r.e] h = .ok (.tup ((trk r.a r.b r.c r.d).map D.int)) h := by
  refine fnB_0 ?_ (by simp only [D.pure, pures_ints]) H
  show b_track_by [some r.e, none, none, none, none, none, none, none, none] h = _
  have m8 := hM.nb
  have n8 := hN.nb
  have ra := hr.a
  have rb := hr.b
  have rc := hr.c
  have rd := hr.d
  have t1 := flat_len (x := r.a) (y := r.b)
  have t2 := flat_len (x := r.d) (y := r.c)
  have q1 : r.a.length * r.b.length ≤ 8 * 8 := Nat.mul_le_mul (by omega) (by omega)
  have q2 : r.d.length * r.c.length ≤ 8 * 8 := Nat.mul_le_mul (by omega) (by omega)
  unfold b_track_by
  simp only [sSeq_ap, sIf_ap, sNil_ap, sSet_ap, sRet_ap, sEx_ap, sPar_ap, sAsg_ap, sFgt_ap, sFor_ap, e1_ap, e2_ap, eL_ap, eC_ap, evs_nil, evs_cons, eTup_ap, eLstF_ap, eLstT_ap, eLcF_ap, eLc2F_ap, iA_ap, iZ_ap, tB_ap, tAnd_ap, tOr_ap, tNot_ap, tYes_ap, tV_ap, eSl_ap, oN_ap, oS_ap, eIf_ap, eM_ap, gN_ap, gsN_ap, gsC_ap, bind_ok, fl_ok, eVar_ap, sq_nx, sq_rt, sq_bk, sq_ct, fg_nx, fg_rt, fg_bk, fg_ct, oF_some, oH_some, slot_some, boolR_bl, intR_int, itA_tup, itA_str, itA_lst, itA_lsk, src_items, src_chk, itZ_lt, itZ_tl, itZ_ll, itZ_tt, truR_some, set0, setS, get0, getS, parF_nil, parF_cons, fgt_nil, fgt_cons, wpD_nil, wpD_cons, ite_tt, ite_ff, obind_some, gTup_tup, gTup_lst, gList_tup, gList_lst, gLen_tup, gLen_lst, gAdd_int, gSub_int, q4_get]
  rw [pairs_lc (x := r.a) (y := r.b) hb.a hb.b (by omega) (by omega) (fun a b _ _ => ⟨_, rfl, by simp only [sSeq_ap, sIf_ap, sNil_ap, sSet_ap, sRet_ap, sEx_ap, sPar_ap, sAsg_ap, sFgt_ap, sFor_ap, e1_ap, e2_ap, eL_ap, eC_ap, evs_nil, evs_cons, eTup_ap, eLstF_ap, eLstT_ap, eLcF_ap, eLc2F_ap, iA_ap, iZ_ap, tB_ap, tAnd_ap, tOr_ap, tNot_ap, tYes_ap, tV_ap, eSl_ap, oN_ap, oS_ap, eIf_ap, eM_ap, gN_ap, gsN_ap, gsC_ap, bind_ok, fl_ok, eVar_ap, sq_nx, sq_rt, sq_bk, sq_ct, fg_nx, fg_rt, fg_bk, fg_ct, oF_some, oH_some, slot_some, boolR_bl, intR_int, itA_tup, itA_str, itA_lst, itA_lsk, src_items, src_chk, itZ_lt, itZ_tl, itZ_ll, itZ_tt, truR_some, set0, setS, get0, getS, parF_nil, parF_cons, fgt_nil, fgt_cons, wpD_nil, wpD_cons, ite_tt, ite_ff, obind_some, gTup_tup, gTup_lst, gList_tup, gList_lst, gLen_tup, gLen_lst, gAdd_int, gSub_int], _, rfl, by simp only [sSeq_ap, sIf_ap, sNil_ap, sSet_ap, sRet_ap, sEx_ap, sPar_ap, sAsg_ap, sFgt_ap, sFor_ap, e1_ap, e2_ap, eL_ap, eC_ap, evs_nil, evs_cons, eTup_ap, eLstF_ap, eLstT_ap, eLcF_ap, eLc2F_ap, iA_ap, iZ_ap, tB_ap, tAnd_ap, tOr_ap, tNot_ap, tYes_ap, tV_ap, eSl_ap, oN_ap, oS_ap, eIf_ap, eM_ap, gN_ap, gsN_ap, gsC_ap, bind_ok, fl_ok, eVar_ap, sq_nx, sq_rt, sq_bk, sq_ct, fg_nx, fg_rt, fg_bk, fg_ct, oF_some, oH_some, slot_some, boolR_bl, intR_int, itA_tup, itA_str, itA_lst, itA_lsk, src_items, src_chk, itZ_lt, itZ_tl, itZ_ll, itZ_tt, truR_some, set0, setS, get0, getS, parF_nil, parF_cons, fgt_nil, fgt_cons, wpD_nil, wpD_cons, ite_tt, ite_ff, obind_some, gTup_tup, gTup_lst, gList_tup, gList_lst, gLen_tup, gLen_lst, gAdd_int, gSub_int]⟩) (nnil hN rb)]
  simp only [sSeq_ap, sIf_ap, sNil_ap, sSet_ap, sRet_ap, sEx_ap, sPar_ap, sAsg_ap, sFgt_ap, sFor_ap, e1_ap, e2_ap, eL_ap, eC_ap, evs_nil, evs_cons, eTup_ap, eLstF_ap, eLstT_ap, eLcF_ap, eLc2F_ap, iA_ap, iZ_ap, tB_ap, tAnd_ap, tOr_ap, tNot_ap, tYes_ap, tV_ap, eSl_ap, oN_ap, oS_ap, eIf_ap, eM_ap, gN_ap, gsN_ap, gsC_ap, bind_ok, fl_ok, eVar_ap, sq_nx, sq_rt, sq_bk, sq_ct, fg_nx, fg_rt, fg_bk, fg_ct, oF_some, oH_some, slot_some, boolR_bl, intR_int, itA_tup, itA_str, itA_lst, itA_lsk, src_items, src_chk, itZ_lt, itZ_tl, itZ_ll, itZ_tt, truR_some, set0, setS, get0, getS, parF_nil, parF_cons, fgt_nil, fgt_cons, wpD_nil, wpD_cons, ite_tt, ite_ff, obind_some, gTup_tup, gTup_lst, gList_tup, gList_lst, gLen_tup, gLen_lst, gAdd_int, gSub_int]
  rw [pairs_lc (x := r.d) (y := r.c) hb.d hb.c (by omega) (by omega) (fun a b _ _ => ⟨_, rfl, by simp only [sSeq_ap, sIf_ap, sNil_ap, sSet_ap, sRet_ap, sEx_ap, sPar_ap, sAsg_ap, sFgt_ap, sFor_ap, e1_ap, e2_ap, eL_ap, eC_ap, evs_nil, evs_cons, eTup_ap, eLstF_ap, eLstT_ap, eLcF_ap, eLc2F_ap, iA_ap, iZ_ap, tB_ap, tAnd_ap, tOr_ap, tNot_ap, tYes_ap, tV_ap, eSl_ap, oN_ap, oS_ap, eIf_ap, eM_ap, gN_ap, gsN_ap, gsC_ap, bind_ok, fl_ok, eVar_ap, sq_nx, sq_rt, sq_bk, sq_ct, fg_nx, fg_rt, fg_bk, fg_ct, oF_some, oH_some, slot_some, boolR_bl, intR_int, itA_tup, itA_str, itA_lst, itA_lsk, src_items, src_chk, itZ_lt, itZ_tl, itZ_ll, itZ_tt, truR_some, set0, setS, get0, getS, parF_nil, parF_cons, fgt_nil, fgt_cons, wpD_nil, wpD_cons, ite_tt, ite_ff, obind_some, gTup_tup, gTup_lst, gList_tup, gList_lst, gLen_tup, gLen_lst, gAdd_int, gSub_int], _, rfl, by simp only [sSeq_ap, sIf_ap, sNil_ap, sSet_ap, sRet_ap, sEx_ap, sPar_ap, sAsg_ap, sFgt_ap, sFor_ap, e1_ap, e2_ap, eL_ap, eC_ap, evs_nil, evs_cons, eTup_ap, eLstF_ap, eLstT_ap, eLcF_ap, eLc2F_ap, iA_ap, iZ_ap, tB_ap, tAnd_ap, tOr_ap, tNot_ap, tYes_ap, tV_ap, eSl_ap, oN_ap, oS_ap, eIf_ap, eM_ap, gN_ap, gsN_ap, gsC_ap, bind_ok, fl_ok, eVar_ap, sq_nx, sq_rt, sq_bk, sq_ct, fg_nx, fg_rt, fg_bk, fg_ct, oF_some, oH_some, slot_some, boolR_bl, intR_int, itA_tup, itA_str, itA_lst, itA_lsk, src_items, src_chk, itZ_lt, itZ_tl, itZ_ll, itZ_tt, truR_some, set0, setS, get0, getS, parF_nil, parF_cons, fgt_nil, fgt_cons, wpD_nil, wpD_cons, ite_tt, ite_ff, obind_some, gTup_tup, gTup_lst, gList_tup, gList_lst, gLen_tup, gLen_lst, gAdd_int, gSub_int]⟩) (nnil hN rc)]
  simp only [sSeq_ap, sIf_ap, sNil_ap, sSet_ap, sRet_ap, sEx_ap, sPar_ap, sAsg_ap, sFgt_ap, sFor_ap, e1_ap, e2_ap, eL_ap, eC_ap, evs_nil, evs_cons, eTup_ap, eLstF_ap, eLstT_ap, eLcF_ap, eLc2F_ap, iA_ap, iZ_ap, tB_ap, tAnd_ap, tOr_ap, tNot_ap, tYes_ap, tV_ap, eSl_ap, oN_ap, oS_ap, eIf_ap, eM_ap, gN_ap, gsN_ap, gsC_ap, bind_ok, fl_ok, eVar_ap, sq_nx, sq_rt, sq_bk, sq_ct, fg_nx, fg_rt, fg_bk, fg_ct, oF_some, oH_some, slot_some, boolR_bl, intR_int, itA_tup, itA_str, itA_lst, itA_lsk, src_items, src_chk, itZ_lt, itZ_tl, itZ_ll, itZ_tt, truR_some, set0, setS, get0, getS, parF_nil, parF_cons, fgt_nil, fgt_cons, wpD_nil, wpD_cons, ite_tt, ite_ff, obind_some, gTup_tup, gTup_lst, gList_tup, gList_lst, gLen_tup, gLen_lst, gAdd_int, gSub_int]
  rw [gAdd_lst (by rw [List.length_map, List.length_map]; omega)]
  simp only [sSeq_ap, sIf_ap, sNil_ap, sSet_ap, sRet_ap, sEx_ap, sPar_ap, sAsg_ap, sFgt_ap, sFor_ap, e1_ap, e2_ap, eL_ap, eC_ap, evs_nil, evs_cons, eTup_ap, eLstF_ap, eLstT_ap, eLcF_ap, eLc2F_ap, iA_ap, iZ_ap, tB_ap, tAnd_ap, tOr_ap, tNot_ap, tYes_ap, tV_ap, eSl_ap, oN_ap, oS_ap, eIf_ap, eM_ap, gN_ap, gsN_ap, gsC_ap, bind_ok, fl_ok, eVar_ap, sq_nx, sq_rt, sq_bk, sq_ct, fg_nx, fg_rt, fg_bk, fg_ct, oF_some, oH_some, slot_some, boolR_bl, intR_int, itA_tup, itA_str, itA_lst, itA_lsk, src_items, src_chk, itZ_lt, itZ_tl, itZ_ll, itZ_tt, truR_some, set0, setS, get0, getS, parF_nil, parF_cons, fgt_nil, fgt_cons, wpD_nil, wpD_cons, ite_tt, ite_ff, obind_some, gTup_tup, gTup_lst, gList_tup, gList_lst, gLen_tup, gLen_lst, gAdd_int, gSub_int]
  unfold trk
  rw [List.map_append]
theorem fold_q4 : ∀ (ls : List Str) (r : Q4), ls.foldl (Q4.st M N) r = ⟨walkF M (ls.map isL1) r.a, walkF N (List.replicate ls.length isAny) r.b, walkF N (ls.map isL1) r.c, walkF M (List.replicate ls.length isAny) r.d⟩
  | [], r => rfl
  | l :: ls, r => by
    rw [List.foldl_cons, fold_q4 ls]
    rfl
theorem track_of_ok (hM : M.Ok) (hN : N.Ok) (hz : z.length ≤ 16) (H : PH h) : m_track_of [M.d, N.d, .str z] h = .ok (.tup ((trackF M N z).map D.int)) h := by
  refine fnB_0 ?_ (by simp only [D.pure, pures_ints]) H
  show b_track_of [some M.d, some N.d, some (.str z), none, none] h = _
  unfold b_track_of
  simp only [sSeq_ap, sIf_ap, sNil_ap, sSet_ap, sRet_ap, sEx_ap, sPar_ap, sAsg_ap, sFgt_ap, sFor_ap, e1_ap, e2_ap, eL_ap, eC_ap, evs_nil, evs_cons, eTup_ap, eLstF_ap, eLstT_ap, eLcF_ap, eLc2F_ap, iA_ap, iZ_ap, tB_ap, tAnd_ap, tOr_ap, tNot_ap, tYes_ap, tV_ap, eSl_ap, oN_ap, oS_ap, eIf_ap, eM_ap, gN_ap, gsN_ap, gsC_ap, bind_ok, fl_ok, eVar_ap, sq_nx, sq_rt, sq_bk, sq_ct, fg_nx, fg_rt, fg_bk, fg_ct, oF_some, oH_some, slot_some, boolR_bl, intR_int, itA_tup, itA_str, itA_lst, itA_lsk, src_items, src_chk, itZ_lt, itZ_tl, itZ_ll, itZ_tt, truR_some, set0, setS, get0, getS, parF_nil, parF_cons, fgt_nil, fgt_cons, wpD_nil, wpD_cons, ite_tt, ite_ff, obind_some, gTup_tup, gTup_lst, gList_tup, gList_lst, gLen_tup, gLen_lst, gAdd_int, gSub_int, first_ok H, sigs_chars]
  rw [(forL_map (chk := []) (enc := D.str) (S := fun r : Q4 => [some M.d, some N.d, some (.str z), some r.e, none]) (T := fun _ => h) (step := Q4.st M N) (P := Q4.Len M N) (fun _ _ => okS_nil) (chars z) ⟨M.b, N.b, N.b, M.b⟩ ⟨rfl, rfl, rfl, rfl⟩ ?_).1]
  · rw [fold_q4, chars_len]
    have := by_ok (r := ⟨sumsF M z, allF N z.length, sumsF N z, allF M z.length⟩) hM hN ⟨sumsF_len, allF_len, sumsF_len, allF_len⟩ ⟨sumsF_rb hM hz, allF_rb hN hz, sumsF_rb hN hz, allF_rb hM hz⟩ H
    unfold sumsF allF at this
    simp only [sSeq_ap, sIf_ap, sNil_ap, sSet_ap, sRet_ap, sEx_ap, sPar_ap, sAsg_ap, sFgt_ap, sFor_ap, e1_ap, e2_ap, eL_ap, eC_ap, evs_nil, evs_cons, eTup_ap, eLstF_ap, eLstT_ap, eLcF_ap, eLc2F_ap, iA_ap, iZ_ap, tB_ap, tAnd_ap, tOr_ap, tNot_ap, tYes_ap, tV_ap, eSl_ap, oN_ap, oS_ap, eIf_ap, eM_ap, gN_ap, gsN_ap, gsC_ap, bind_ok, fl_ok, eVar_ap, sq_nx, sq_rt, sq_bk, sq_ct, fg_nx, fg_rt, fg_bk, fg_ct, oF_some, oH_some, slot_some, boolR_bl, intR_int, itA_tup, itA_str, itA_lst, itA_lsk, src_items, src_chk, itZ_lt, itZ_tl, itZ_ll, itZ_tt, truR_some, set0, setS, get0, getS, parF_nil, parF_cons, fgt_nil, fgt_cons, wpD_nil, wpD_cons, ite_tt, ite_ff, obind_some, gTup_tup, gTup_lst, gList_tup, gList_lst, gLen_tup, gLen_lst, gAdd_int, gSub_int, this]
    rfl
  · intro r l _ hr
    refine ⟨hr.st l, _, rfl, .inl ?_⟩
    simp only [sSeq_ap, sIf_ap, sNil_ap, sSet_ap, sRet_ap, sEx_ap, sPar_ap, sAsg_ap, sFgt_ap, sFor_ap, e1_ap, e2_ap, eL_ap, eC_ap, evs_nil, evs_cons, eTup_ap, eLstF_ap, eLstT_ap, eLcF_ap, eLc2F_ap, iA_ap, iZ_ap, tB_ap, tAnd_ap, tOr_ap, tNot_ap, tYes_ap, tV_ap, eSl_ap, oN_ap, oS_ap, eIf_ap, eM_ap, gN_ap, gsN_ap, gsC_ap, bind_ok, fl_ok, eVar_ap, sq_nx, sq_rt, sq_bk, sq_ct, fg_nx, fg_rt, fg_bk, fg_ct, oF_some, oH_some, slot_some, boolR_bl, intR_int, itA_tup, itA_str, itA_lst, itA_lsk, src_items, src_chk, itZ_lt, itZ_tl, itZ_ll, itZ_tt, truR_some, set0, setS, get0, getS, parF_nil, parF_cons, fgt_nil, fgt_cons, wpD_nil, wpD_cons, ite_tt, ite_ff, obind_some, gTup_tup, gTup_lst, gList_tup, gList_lst, gLen_tup, gLen_lst, gAdd_int, gSub_int, next_ok hM hN hr H]
end
end K62

namespace K62
open PySem DL

section
variable {M N : Md} {h : AH} {z : Str}
theorem ext_loop {x y : List Int} {g : MG} {b : MS} {S : Sl} {aD : List D} (hx : RB 500 x) (hy : RB 500 y) (lx : x.length ≤ 8) (ly : y.length ≤ 8) (acc : List Int) (eD : aD = acc.map D.int) (ha : acc.length ≤ 100)
    (e : ∀ i (fs : List Int), i < x.length → ∃ s1, g (.int (i : Nat)) S = some s1 ∧ (fs.length ≤ 1000 → b s1 (h ++ [.lst (fs.map D.int)]) = .nx S (h ++ [.lst ((fs ++ y.map fun z => x.getD i 0 * z).map D.int)]))) :
    forL [] g b ((List.range x.length).map fun (i : Nat) => D.int (i : Int)) S (h ++ [.lst aD]) = .nx S (h ++ [.lst ((acc ++ x.flatMap fun a => y.map fun b => a * b).map D.int)]) := by
  subst eD
  have t := (forL_inv (chk := []) (g := g) (body := b) (fun i s hh => s = S ∧ ∃ fs : List Int, fs.length = acc.length + i * y.length ∧ hh = h ++ [.lst (fs.map D.int)] ∧ fs = (List.range i).foldl (fun f i => f ++ y.map fun z => x.getD i 0 * z) acc) (fun _ _ _ _ => okS_nil) ((List.range x.length).map fun (i : Nat) => D.int (i : Int)) 0 S (h ++ [.lst (acc.map D.int)]) ⟨rfl, acc, by simp, rfl, rfl⟩ ?_)
  · obtain ⟨s2, h2, e1, rfl, fs, _, rfl, hf⟩ := t
    rw [e1, hf, Nat.zero_add, List.length_map, List.length_range, fold_flat (g := fun a => y.map fun z => a * z) (d := (0 : Int))]
  · rintro j d s hh hj ⟨rfl, fs, hl, rfl, hf⟩
    rw [List.getElem?_map] at hj
    obtain ⟨i, hi, rfl⟩ := Option.map_eq_some_iff.mp hj
    obtain ⟨hlt, hi⟩ := List.getElem?_eq_some_iff.mp hi
    rw [List.length_range] at hlt
    rw [List.getElem_range] at hi
    subst hi
    obtain ⟨s1, e1, e2⟩ := e j fs hlt
    have q : (0 + j) * y.length ≤ 8 * 8 := Nat.mul_le_mul (by omega) ly
    refine ⟨s1, e1, _, _, .inl (e2 (by omega)), rfl, _, ?_, rfl, ?_⟩
    · rw [List.length_append, List.length_map, hl, Nat.succ_mul]
      omega
    · rw [List.range_succ, List.foldl_append, ← hf, Nat.zero_add]
      rfl
theorem law_track_ok (hM : M.Ok) (hN : N.Ok) (hz : z.length ≤ 16) (H : PH h) : m_law_track [M.d, N.d, .str z] h = .ok (.tup ((trackF M N z).map D.int)) h := by
  refine fnB_1 (g := [.lst ((trackF M N z).map D.int)]) ?_ (by simp only [D.pure, pures_ints]) H
  show b_law_track [some M.d, some N.d, some (.str z), none, none, none, none, none, none, none, none, none] h = _
  have m8 := hM.nb
  have n8 := hN.nb
  have b1 := sumsF_rb hM hz
  have b2 := allF_rb (n := z.length) hN hz
  have b3 := sumsF_rb hN hz
  have b4 := allF_rb (n := z.length) hM hz
  have l1 : (sumsF M z).length = M.b.length := sumsF_len
  have l2 : (allF N z.length).length = N.b.length := allF_len
  have l3 : (sumsF N z).length = N.b.length := sumsF_len
  have l4 : (allF M z.length).length = M.b.length := allF_len
  unfold b_law_track
  simp only [sSeq_ap, sIf_ap, sNil_ap, sSet_ap, sRet_ap, sEx_ap, sPar_ap, sAsg_ap, sFgt_ap, sFor_ap, e1_ap, e2_ap, eL_ap, eC_ap, evs_nil, evs_cons, eTup_ap, eLstF_ap, eLstT_ap, eLcF_ap, eLc2F_ap, iA_ap, iZ_ap, tB_ap, tAnd_ap, tOr_ap, tNot_ap, tYes_ap, tV_ap, eSl_ap, oN_ap, oS_ap, eIf_ap, eM_ap, gN_ap, gsN_ap, gsC_ap, bind_ok, fl_ok, eVar_ap, sq_nx, sq_rt, sq_bk, sq_ct, fg_nx, fg_rt, fg_bk, fg_ct, oF_some, oH_some, slot_some, boolR_bl, intR_int, itA_tup, itA_str, itA_lst, itA_lsk, src_items, src_chk, itZ_lt, itZ_tl, itZ_ll, itZ_tt, truR_some, set0, setS, get0, getS, parF_nil, parF_cons, fgt_nil, fgt_cons, wpD_nil, wpD_cons, ite_tt, ite_ff, obind_some, gTup_tup, gTup_lst, gList_tup, gList_lst, gLen_tup, gLen_lst, gAdd_int, gSub_int, sums_ok hM H, sums_ok hN H, gT_tup (n := 2) (ds := [.lst ((sumsF M z).map D.int), .lst ((sumsF N z).map D.int)]) rfl, gLen_str (z := z) (by omega), all_sums_ok (n := z.length) (by omega) hM H, all_sums_ok (n := z.length) (by omega) hN H,
    gT_tup (n := 2) (ds := [.lst ((allF M z.length).map D.int), .lst ((allF N z.length).map D.int)]) rfl]
  unfold trackF trk
  generalize sumsF M z = x1 at *
  generalize allF N z.length = y1 at *
  generalize sumsF N z = y2 at *
  generalize allF M z.length = x2 at *
  have q1 := flat_len (x := x1) (y := y1)
  have q2 : x1.length * y1.length ≤ 8 * 8 := Nat.mul_le_mul (by omega) (by omega)
  have ix : ∀ {s : Sl} {hh : AH} {k i : Nat} {x : List Int} {j : Nat}, s[k]? = some (some (.lst (x.map D.int))) → s[j]? = some (some (.int (i : Nat))) → i < x.length → e2 gIx (eVar k) (eVar j) s hh = .ok (.int (x.getD i 0)) hh := fun e1 e2 hi => by
    simp only [sSeq_ap, sIf_ap, sNil_ap, sSet_ap, sRet_ap, sEx_ap, sPar_ap, sAsg_ap, sFgt_ap, sFor_ap, e1_ap, e2_ap, eL_ap, eC_ap, evs_nil, evs_cons, eTup_ap, eLstF_ap, eLstT_ap, eLcF_ap, eLc2F_ap, iA_ap, iZ_ap, tB_ap, tAnd_ap, tOr_ap, tNot_ap, tYes_ap, tV_ap, eSl_ap, oN_ap, oS_ap, eIf_ap, eM_ap, gN_ap, gsN_ap, gsC_ap, bind_ok, fl_ok, eVar_ap, sq_nx, sq_rt, sq_bk, sq_ct, fg_nx, fg_rt, fg_bk, fg_ct, oF_some, oH_some, slot_some, boolR_bl, intR_int, itA_tup, itA_str, itA_lst, itA_lsk, src_items, src_chk, itZ_lt, itZ_tl, itZ_ll, itZ_tt, truR_some, set0, setS, get0, getS, parF_nil, parF_cons, fgt_nil, fgt_cons, wpD_nil, wpD_cons, ite_tt, ite_ff, obind_some, gTup_tup, gTup_lst, gList_tup, gList_lst, gLen_tup, gLen_lst, gAdd_int, gSub_int, e1, e2]
    exact gIx_int_lst hi
  rw [iR1_ok (n := x1.length) (h1 := h ++ [.lst []]) (by simp only [sSeq_ap, sIf_ap, sNil_ap, sSet_ap, sRet_ap, sEx_ap, sPar_ap, sAsg_ap, sFgt_ap, sFor_ap, e1_ap, e2_ap, eL_ap, eC_ap, evs_nil, evs_cons, eTup_ap, eLstF_ap, eLstT_ap, eLcF_ap, eLc2F_ap, iA_ap, iZ_ap, tB_ap, tAnd_ap, tOr_ap, tNot_ap, tYes_ap, tV_ap, eSl_ap, oN_ap, oS_ap, eIf_ap, eM_ap, gN_ap, gsN_ap, gsC_ap, bind_ok, fl_ok, eVar_ap, sq_nx, sq_rt, sq_bk, sq_ct, fg_nx, fg_rt, fg_bk, fg_ct, oF_some, oH_some, slot_some, boolR_bl, intR_int, itA_tup, itA_str, itA_lst, itA_lsk, src_items, src_chk, itZ_lt, itZ_tl, itZ_ll, itZ_tt, truR_some, set0, setS, get0, getS, parF_nil, parF_cons, fgt_nil, fgt_cons, wpD_nil, wpD_cons, ite_tt, ite_ff, obind_some, gTup_tup, gTup_lst, gList_tup, gList_lst, gLen_tup, gLen_lst, gAdd_int, gSub_int, List.length_map]) (by omega)]
  simp only [sSeq_ap, sIf_ap, sNil_ap, sSet_ap, sRet_ap, sEx_ap, sPar_ap, sAsg_ap, sFgt_ap, sFor_ap, e1_ap, e2_ap, eL_ap, eC_ap, evs_nil, evs_cons, eTup_ap, eLstF_ap, eLstT_ap, eLcF_ap, eLc2F_ap, iA_ap, iZ_ap, tB_ap, tAnd_ap, tOr_ap, tNot_ap, tYes_ap, tV_ap, eSl_ap, oN_ap, oS_ap, eIf_ap, eM_ap, gN_ap, gsN_ap, gsC_ap, bind_ok, fl_ok, eVar_ap, sq_nx, sq_rt, sq_bk, sq_ct, fg_nx, fg_rt, fg_bk, fg_ct, oF_some, oH_some, slot_some, boolR_bl, intR_int, itA_tup, itA_str, itA_lst, itA_lsk, src_items, src_chk, itZ_lt, itZ_tl, itZ_ll, itZ_tt, truR_some, set0, setS, get0, getS, parF_nil, parF_cons, fgt_nil, fgt_cons, wpD_nil, wpD_cons, ite_tt, ite_ff, obind_some, gTup_tup, gTup_lst, gList_tup, gList_lst, gLen_tup, gLen_lst, gAdd_int, gSub_int]
  rw [ext_loop (h := h) (acc := []) (aD := []) (eD := rfl) (x := x1) (y := y1) b1 b2 (by omega) (by omega) (by simp) fun i fs hi => ⟨_, rfl, fun hf => ?_⟩]
  · simp only [sSeq_ap, sIf_ap, sNil_ap, sSet_ap, sRet_ap, sEx_ap, sPar_ap, sAsg_ap, sFgt_ap, sFor_ap, e1_ap, e2_ap, eL_ap, eC_ap, evs_nil, evs_cons, eTup_ap, eLstF_ap, eLstT_ap, eLcF_ap, eLc2F_ap, iA_ap, iZ_ap, tB_ap, tAnd_ap, tOr_ap, tNot_ap, tYes_ap, tV_ap, eSl_ap, oN_ap, oS_ap, eIf_ap, eM_ap, gN_ap, gsN_ap, gsC_ap, bind_ok, fl_ok, eVar_ap, sq_nx, sq_rt, sq_bk, sq_ct, fg_nx, fg_rt, fg_bk, fg_ct, oF_some, oH_some, slot_some, boolR_bl, intR_int, itA_tup, itA_str, itA_lst, itA_lsk, src_items, src_chk, itZ_lt, itZ_tl, itZ_ll, itZ_tt, truR_some, set0, setS, get0, getS, parF_nil, parF_cons, fgt_nil, fgt_cons, wpD_nil, wpD_cons, ite_tt, ite_ff, obind_some, gTup_tup, gTup_lst, gList_tup, gList_lst, gLen_tup, gLen_lst, gAdd_int, gSub_int]
    rw [iR1_ok (n := x1.length) (h1 := h ++ [.lst (([] ++ x1.flatMap fun a => y1.map fun b => a * b).map D.int)]) (by simp only [sSeq_ap, sIf_ap, sNil_ap, sSet_ap, sRet_ap, sEx_ap, sPar_ap, sAsg_ap, sFgt_ap, sFor_ap, e1_ap, e2_ap, eL_ap, eC_ap, evs_nil, evs_cons, eTup_ap, eLstF_ap, eLstT_ap, eLcF_ap, eLc2F_ap, iA_ap, iZ_ap, tB_ap, tAnd_ap, tOr_ap, tNot_ap, tYes_ap, tV_ap, eSl_ap, oN_ap, oS_ap, eIf_ap, eM_ap, gN_ap, gsN_ap, gsC_ap, bind_ok, fl_ok, eVar_ap, sq_nx, sq_rt, sq_bk, sq_ct, fg_nx, fg_rt, fg_bk, fg_ct, oF_some, oH_some, slot_some, boolR_bl, intR_int, itA_tup, itA_str, itA_lst, itA_lsk, src_items, src_chk, itZ_lt, itZ_tl, itZ_ll, itZ_tt, truR_some, set0, setS, get0, getS, parF_nil, parF_cons, fgt_nil, fgt_cons, wpD_nil, wpD_cons, ite_tt, ite_ff, obind_some, gTup_tup, gTup_lst, gList_tup, gList_lst, gLen_tup, gLen_lst, gAdd_int, gSub_int, List.length_map]) (by omega)]
    simp only [sSeq_ap, sIf_ap, sNil_ap, sSet_ap, sRet_ap, sEx_ap, sPar_ap, sAsg_ap, sFgt_ap, sFor_ap, e1_ap, e2_ap, eL_ap, eC_ap, evs_nil, evs_cons, eTup_ap, eLstF_ap, eLstT_ap, eLcF_ap, eLc2F_ap, iA_ap, iZ_ap, tB_ap, tAnd_ap, tOr_ap, tNot_ap, tYes_ap, tV_ap, eSl_ap, oN_ap, oS_ap, eIf_ap, eM_ap, gN_ap, gsN_ap, gsC_ap, bind_ok, fl_ok, eVar_ap, sq_nx, sq_rt, sq_bk, sq_ct, fg_nx, fg_rt, fg_bk, fg_ct, oF_some, oH_some, slot_some, boolR_bl, intR_int, itA_tup, itA_str, itA_lst, itA_lsk, src_items, src_chk, itZ_lt, itZ_tl, itZ_ll, itZ_tt, truR_some, set0, setS, get0, getS, parF_nil, parF_cons, fgt_nil, fgt_cons, wpD_nil, wpD_cons, ite_tt, ite_ff, obind_some, gTup_tup, gTup_lst, gList_tup, gList_lst, gLen_tup, gLen_lst, gAdd_int, gSub_int]
    rw [show x1.length = x2.length by omega]
    rw [ext_loop (h := h) (eD := rfl) (acc := [] ++ x1.flatMap fun a => y1.map fun b => a * b) (x := x2) (y := y2) b4 b3 (by omega) (by omega) (by rw [List.nil_append]; omega) fun i fs hi => ⟨_, rfl, fun hf => ?_⟩]
    · simp only [sSeq_ap, sIf_ap, sNil_ap, sSet_ap, sRet_ap, sEx_ap, sPar_ap, sAsg_ap, sFgt_ap, sFor_ap, e1_ap, e2_ap, eL_ap, eC_ap, evs_nil, evs_cons, eTup_ap, eLstF_ap, eLstT_ap, eLcF_ap, eLc2F_ap, iA_ap, iZ_ap, tB_ap, tAnd_ap, tOr_ap, tNot_ap, tYes_ap, tV_ap, eSl_ap, oN_ap, oS_ap, eIf_ap, eM_ap, gN_ap, gsN_ap, gsC_ap, bind_ok, fl_ok, eVar_ap, sq_nx, sq_rt, sq_bk, sq_ct, fg_nx, fg_rt, fg_bk, fg_ct, oF_some, oH_some, slot_some, boolR_bl, intR_int, itA_tup, itA_str, itA_lst, itA_lsk, src_items, src_chk, itZ_lt, itZ_tl, itZ_ll, itZ_tt, truR_some, set0, setS, get0, getS, parF_nil, parF_cons, fgt_nil, fgt_cons, wpD_nil, wpD_cons, ite_tt, ite_ff, obind_some, gTup_tup, gTup_lst, gList_tup, gList_lst, gLen_tup, gLen_lst, gAdd_int, gSub_int, List.nil_append]
      rw [gTup_ref (by rw [List.getElem?_concat_length])]
      simp only [sSeq_ap, sIf_ap, sNil_ap, sSet_ap, sRet_ap, sEx_ap, sPar_ap, sAsg_ap, sFgt_ap, sFor_ap, e1_ap, e2_ap, eL_ap, eC_ap, evs_nil, evs_cons, eTup_ap, eLstF_ap, eLstT_ap, eLcF_ap, eLc2F_ap, iA_ap, iZ_ap, tB_ap, tAnd_ap, tOr_ap, tNot_ap, tYes_ap, tV_ap, eSl_ap, oN_ap, oS_ap, eIf_ap, eM_ap, gN_ap, gsN_ap, gsC_ap, bind_ok, fl_ok, eVar_ap, sq_nx, sq_rt, sq_bk, sq_ct, fg_nx, fg_rt, fg_bk, fg_ct, oF_some, oH_some, slot_some, boolR_bl, intR_int, itA_tup, itA_str, itA_lst, itA_lsk, src_items, src_chk, itZ_lt, itZ_tl, itZ_ll, itZ_tt, truR_some, set0, setS, get0, getS, parF_nil, parF_cons, fgt_nil, fgt_cons, wpD_nil, wpD_cons, ite_tt, ite_ff, obind_some, gTup_tup, gTup_lst, gList_tup, gList_lst, gLen_tup, gLen_lst, gAdd_int, gSub_int]
    · simp only [sSeq_ap, sIf_ap, sNil_ap, sSet_ap, sRet_ap, sEx_ap, sPar_ap, sAsg_ap, sFgt_ap, sFor_ap, e1_ap, e2_ap, eL_ap, eC_ap, evs_nil, evs_cons, eTup_ap, eLstF_ap, eLstT_ap, eLcF_ap, eLc2F_ap, iA_ap, iZ_ap, tB_ap, tAnd_ap, tOr_ap, tNot_ap, tYes_ap, tV_ap, eSl_ap, oN_ap, oS_ap, eIf_ap, eM_ap, gN_ap, gsN_ap, gsC_ap, bind_ok, fl_ok, eVar_ap, sq_nx, sq_rt, sq_bk, sq_ct, fg_nx, fg_rt, fg_bk, fg_ct, oF_some, oH_some, slot_some, boolR_bl, intR_int, itA_tup, itA_str, itA_lst, itA_lsk, src_items, src_chk, itZ_lt, itZ_tl, itZ_ll, itZ_tt, truR_some, set0, setS, get0, getS, parF_nil, parF_cons, fgt_nil, fgt_cons, wpD_nil, wpD_cons, ite_tt, ite_ff, obind_some, gTup_tup, gTup_lst, gList_tup, gList_lst, gLen_tup, gLen_lst, gAdd_int, gSub_int, isL_ref (List.getElem?_concat_length)]
      rw [lcL_map0 (enc := D.int) (out := fun z => D.int (x2.getD i 0 * z)) okS_nil y2 (by omega) fun b hb => ⟨_, rfl, by simp only [sSeq_ap, sIf_ap, sNil_ap, sSet_ap, sRet_ap, sEx_ap, sPar_ap, sAsg_ap, sFgt_ap, sFor_ap, e1_ap, e2_ap, eL_ap, eC_ap, evs_nil, evs_cons, eTup_ap, eLstF_ap, eLstT_ap, eLcF_ap, eLc2F_ap, iA_ap, iZ_ap, tB_ap, tAnd_ap, tOr_ap, tNot_ap, tYes_ap, tV_ap, eSl_ap, oN_ap, oS_ap, eIf_ap, eM_ap, gN_ap, gsN_ap, gsC_ap, bind_ok, fl_ok, eVar_ap, sq_nx, sq_rt, sq_bk, sq_ct, fg_nx, fg_rt, fg_bk, fg_ct, oF_some, oH_some, slot_some, boolR_bl, intR_int, itA_tup, itA_str, itA_lst, itA_lsk, src_items, src_chk, itZ_lt, itZ_tl, itZ_ll, itZ_tt, truR_some, set0, setS, get0, getS, parF_nil, parF_cons, fgt_nil, fgt_cons, wpD_nil, wpD_cons, ite_tt, ite_ff, obind_some, gTup_tup, gTup_lst, gList_tup, gList_lst, gLen_tup, gLen_lst, gAdd_int, gSub_int, gIx_int_lst hi, gMulX_int ((b4.getD i).mulOk (b3 b hb) (by decide) (by decide) (by decide))]⟩]
      simp only [sSeq_ap, sIf_ap, sNil_ap, sSet_ap, sRet_ap, sEx_ap, sPar_ap, sAsg_ap, sFgt_ap, sFor_ap, e1_ap, e2_ap, eL_ap, eC_ap, evs_nil, evs_cons, eTup_ap, eLstF_ap, eLstT_ap, eLcF_ap, eLc2F_ap, iA_ap, iZ_ap, tB_ap, tAnd_ap, tOr_ap, tNot_ap, tYes_ap, tV_ap, eSl_ap, oN_ap, oS_ap, eIf_ap, eM_ap, gN_ap, gsN_ap, gsC_ap, bind_ok, fl_ok, eVar_ap, sq_nx, sq_rt, sq_bk, sq_ct, fg_nx, fg_rt, fg_bk, fg_ct, oF_some, oH_some, slot_some, boolR_bl, intR_int, itA_tup, itA_str, itA_lst, itA_lsk, src_items, src_chk, itZ_lt, itZ_tl, itZ_ll, itZ_tt, truR_some, set0, setS, get0, getS, parF_nil, parF_cons, fgt_nil, fgt_cons, wpD_nil, wpD_cons, ite_tt, ite_ff, obind_some, gTup_tup, gTup_lst, gList_tup, gList_lst, gLen_tup, gLen_lst, gAdd_int, gSub_int]
      rw [ext_ok rfl (by rw [List.length_map, List.length_map]; omega), mul_map, List.map_append]
      rfl
  · simp only [sSeq_ap, sIf_ap, sNil_ap, sSet_ap, sRet_ap, sEx_ap, sPar_ap, sAsg_ap, sFgt_ap, sFor_ap, e1_ap, e2_ap, eL_ap, eC_ap, evs_nil, evs_cons, eTup_ap, eLstF_ap, eLstT_ap, eLcF_ap, eLc2F_ap, iA_ap, iZ_ap, tB_ap, tAnd_ap, tOr_ap, tNot_ap, tYes_ap, tV_ap, eSl_ap, oN_ap, oS_ap, eIf_ap, eM_ap, gN_ap, gsN_ap, gsC_ap, bind_ok, fl_ok, eVar_ap, sq_nx, sq_rt, sq_bk, sq_ct, fg_nx, fg_rt, fg_bk, fg_ct, oF_some, oH_some, slot_some, boolR_bl, intR_int, itA_tup, itA_str, itA_lst, itA_lsk, src_items, src_chk, itZ_lt, itZ_tl, itZ_ll, itZ_tt, truR_some, set0, setS, get0, getS, parF_nil, parF_cons, fgt_nil, fgt_cons, wpD_nil, wpD_cons, ite_tt, ite_ff, obind_some, gTup_tup, gTup_lst, gList_tup, gList_lst, gLen_tup, gLen_lst, gAdd_int, gSub_int, isL_ref (List.getElem?_concat_length)]
    rw [lcL_map0 (enc := D.int) (out := fun z => D.int (x1.getD i 0 * z)) okS_nil y1 (by omega) fun b hb => ⟨_, rfl, by simp only [sSeq_ap, sIf_ap, sNil_ap, sSet_ap, sRet_ap, sEx_ap, sPar_ap, sAsg_ap, sFgt_ap, sFor_ap, e1_ap, e2_ap, eL_ap, eC_ap, evs_nil, evs_cons, eTup_ap, eLstF_ap, eLstT_ap, eLcF_ap, eLc2F_ap, iA_ap, iZ_ap, tB_ap, tAnd_ap, tOr_ap, tNot_ap, tYes_ap, tV_ap, eSl_ap, oN_ap, oS_ap, eIf_ap, eM_ap, gN_ap, gsN_ap, gsC_ap, bind_ok, fl_ok, eVar_ap, sq_nx, sq_rt, sq_bk, sq_ct, fg_nx, fg_rt, fg_bk, fg_ct, oF_some, oH_some, slot_some, boolR_bl, intR_int, itA_tup, itA_str, itA_lst, itA_lsk, src_items, src_chk, itZ_lt, itZ_tl, itZ_ll, itZ_tt, truR_some, set0, setS, get0, getS, parF_nil, parF_cons, fgt_nil, fgt_cons, wpD_nil, wpD_cons, ite_tt, ite_ff, obind_some, gTup_tup, gTup_lst, gList_tup, gList_lst, gLen_tup, gLen_lst, gAdd_int, gSub_int, gIx_int_lst hi, gMulX_int ((b1.getD i).mulOk (b2 b hb) (by decide) (by decide) (by decide))]⟩]
    simp only [sSeq_ap, sIf_ap, sNil_ap, sSet_ap, sRet_ap, sEx_ap, sPar_ap, sAsg_ap, sFgt_ap, sFor_ap, e1_ap, e2_ap, eL_ap, eC_ap, evs_nil, evs_cons, eTup_ap, eLstF_ap, eLstT_ap, eLcF_ap, eLc2F_ap, iA_ap, iZ_ap, tB_ap, tAnd_ap, tOr_ap, tNot_ap, tYes_ap, tV_ap, eSl_ap, oN_ap, oS_ap, eIf_ap, eM_ap, gN_ap, gsN_ap, gsC_ap, bind_ok, fl_ok, eVar_ap, sq_nx, sq_rt, sq_bk, sq_ct, fg_nx, fg_rt, fg_bk, fg_ct, oF_some, oH_some, slot_some, boolR_bl, intR_int, itA_tup, itA_str, itA_lst, itA_lsk, src_items, src_chk, itZ_lt, itZ_tl, itZ_ll, itZ_tt, truR_some, set0, setS, get0, getS, parF_nil, parF_cons, fgt_nil, fgt_cons, wpD_nil, wpD_cons, ite_tt, ite_ff, obind_some, gTup_tup, gTup_lst, gList_tup, gList_lst, gLen_tup, gLen_lst, gAdd_int, gSub_int]
    rw [ext_ok rfl (by rw [List.length_map, List.length_map]; omega), mul_map, List.map_append]
    rfl
end
end K62

namespace K62
open PySem DL

def dot : List Int → List Int → Int
  | x :: xs, y :: ys => x * y + dot xs ys
  | _, _ => 0
def prods : List Int → List Int → List Int
  | x :: xs, y :: ys => x * y :: prods xs ys
  | _, _ => []
theorem prods_cons {x y : Int} {xs ys : List Int} : prods (x :: xs) (y :: ys) = x * y :: prods xs ys := by rw [prods]
theorem prods_sum : ∀ {xs ys : List Int}, (prods xs ys).sum = dot xs ys
  | [], _ => rfl
  | x :: xs, [] => rfl
  | x :: xs, y :: ys => by
    unfold prods dot
    rw [List.sum_cons, prods_sum]
theorem prods_len : ∀ {xs ys : List Int}, (prods xs ys).length ≤ xs.length
  | [], _ => Nat.le_refl _
  | x :: xs, [] => Nat.zero_le _
  | x :: xs, y :: ys => by
    unfold prods
    rw [List.length_cons, List.length_cons]
    have := prods_len (xs := xs) (ys := ys)
    omega
theorem zip_lc {g : MG} {f : ME} {s : Sl} {h : AH} {chk : List (Nat × List D)} (ok : okS chk h) : ∀ {xs ys : List Int} {acc : List D}, acc.length + xs.length ≤ 16777216 → (∀ a ∈ xs, ∀ b ∈ ys, ∃ s1, g (.tup [.int a, .int b]) s = some s1 ∧ f s1 h = .ok (.int (a * b)) h) →
    lcL chk g tYesM f s (zipD (xs.map D.int) (ys.map D.int)) acc h = .ok (acc ++ (prods xs ys).map D.int) h
  | [], ys, acc, _, _ => by
    show lcL chk g tYesM f s [] acc h = _
    unfold lcL
    rw [if_pos ok]
    unfold prods
    simp
  | x :: xs, [], acc, _, _ => by
    show lcL chk g tYesM f s [] acc h = _
    unfold lcL
    rw [if_pos ok]
    unfold prods
    simp
  | x :: xs, y :: ys, acc, hl, e => by
    obtain ⟨s1, e1, e2⟩ := e x List.mem_cons_self y List.mem_cons_self
    rw [List.length_cons] at hl
    show lcL chk g tYesM f s (.tup [.int x, .int y] :: zipD (xs.map D.int) (ys.map D.int)) acc h = _
    unfold lcL
    rw [if_pos ok, e1]
    simp only [tYes_ap, e2]
    rw [if_pos (lenOk_le2 (by omega)), zip_lc ok (by rw [List.length_append, List.length_singleton]; omega) fun a ha b hb => e a (List.mem_cons_of_mem _ ha) b (List.mem_cons_of_mem _ hb)]
    rw [prods_cons, List.map_cons, List.append_assoc]
    rfl
def ends (M N : Md) : List Int := M.e.flatMap fun a => N.e.map fun b => a * b
def valF (M N : Md) (t : List Int) : Int := dot t (ends M N) - dot (t.drop (ends M N).length) (ends M N)
theorem cut_drop {xs : List D} {n : Nat} : cutD xs (some (n : Int)) none = xs.drop n := by
  unfold cutD
  have e : HT.sIx xs.length 0 (some (n : Int)) = min n xs.length := by
    show (if (n : Int) < 0 then ((n : Int) + xs.length).toNat else min (n : Int).toNat xs.length) = _
    rw [if_neg (by omega), Int.toNat_natCast]
  have e2 : HT.sIx xs.length xs.length none = xs.length := by
    unfold HT.sIx
    rfl
  rw [e, e2]
  rcases Nat.le_total n xs.length with h | h
  · rw [Nat.min_eq_left h, List.take_of_length_le (by rw [List.length_drop]; omega)]
  · rw [Nat.min_eq_right h, List.drop_of_length_le (Nat.le_refl _), List.drop_of_length_le h]
    simp
theorem cut_take {xs : List D} {n : Nat} : cutD xs none (some (n : Int)) = xs.take n := by
  unfold cutD
  have e : HT.sIx xs.length xs.length (some (n : Int)) = min n xs.length := by
    show (if (n : Int) < 0 then ((n : Int) + xs.length).toNat else min (n : Int).toNat xs.length) = _
    rw [if_neg (by omega), Int.toNat_natCast]
  have e2 : HT.sIx xs.length 0 none = 0 := by
    unfold HT.sIx
    rfl
  rw [e, e2, List.drop_zero, Nat.sub_zero]
  rcases Nat.le_total n xs.length with h | h
  · rw [Nat.min_eq_left h]
  · rw [Nat.min_eq_right h, List.take_of_length_le (Nat.le_refl _), List.take_of_length_le h]
theorem dot_take : ∀ {xs ys : List Int}, dot (xs.take ys.length) ys = dot xs ys
  | [], ys => by simp
  | x :: xs, [] => rfl
  | x :: xs, y :: ys => by
    rw [List.length_cons, List.take_succ_cons]
    unfold dot
    rw [dot_take]
section
variable {M N : Md} {h : AH} {t : List Int}
theorem ends_bd (hM : M.Ok) (hN : N.Ok) : RB 40 (ends M N) := fun x hx => by
  unfold ends at hx
  obtain ⟨a, ha, hx⟩ := List.mem_flatMap.mp hx
  obtain ⟨b, hb, rfl⟩ := List.mem_map.mp hx
  exact (hM.bd a ha).mul (hN.bd b hb)
theorem RB.mono {k l : Nat} {r : List Int} (h : RB k r) (hl : k ≤ l) : RB l r := fun x hx => (h x hx).mono hl
theorem gSum_ok {ns : List Int} {xs : List D} (e : xs = ns.map D.int) : gSum [.lst xs] h = .ok (.int ns.sum) h := by
  subst e
  exact gSum_lst
theorem value_of_ok (hM : M.Ok) (hN : N.Ok) (ht : t.length ≤ 1000) (H : PH h) : m_value_of [M.d, N.d, .tup (t.map D.int)] h = .ok (.int (valF M N t)) h := by
  refine fnB_0 ?_ rfl H
  show b_value_of [some M.d, some N.d, some (.tup (t.map D.int)), none, none, none, none, none, none] h = _
  have m8 := hM.nb
  have n8 := hN.nb
  have me := hM.be
  have ne := hN.be
  have q1 := ends_bd hM hN
  have ne0 : N.e ≠ [] := nnil hN ne.symm
  unfold b_value_of
  simp only [sSeq_ap, sIf_ap, sNil_ap, sSet_ap, sRet_ap, sEx_ap, sPar_ap, sAsg_ap, sFgt_ap, sFor_ap, e1_ap, e2_ap, eL_ap, eC_ap, evs_nil, evs_cons, eTup_ap, eLstF_ap, eLstT_ap, eLcF_ap, eLc2F_ap, iA_ap, iZ_ap, tB_ap, tAnd_ap, tOr_ap, tNot_ap, tYes_ap, tV_ap, eSl_ap, oN_ap, oS_ap, eIf_ap, eM_ap, gN_ap, gsN_ap, gsC_ap, bind_ok, fl_ok, eVar_ap, sq_nx, sq_rt, sq_bk, sq_ct, fg_nx, fg_rt, fg_bk, fg_ct, oF_some, oH_some, slot_some, boolR_bl, intR_int, itA_tup, itA_str, itA_lst, itA_lsk, src_items, src_chk, itZ_lt, itZ_tl, itZ_ll, itZ_tt, truR_some, set0, setS, get0, getS, parF_nil, parF_cons, fgt_nil, fgt_cons, wpD_nil, wpD_cons, ite_tt, ite_ff, obind_some, gTup_tup, gTup_lst, gList_tup, gList_lst, gLen_tup, gLen_lst, gAdd_int, gSub_int, md_e]
  rw [pairs_lc (x := M.e) (y := N.e) (fun x hx => (hM.bd x hx).mono (by decide)) (fun x hx => (hN.bd x hx).mono (by decide)) (by omega) (by omega) (fun a b _ _ => ⟨_, rfl, by simp only [sSeq_ap, sIf_ap, sNil_ap, sSet_ap, sRet_ap, sEx_ap, sPar_ap, sAsg_ap, sFgt_ap, sFor_ap, e1_ap, e2_ap, eL_ap, eC_ap, evs_nil, evs_cons, eTup_ap, eLstF_ap, eLstT_ap, eLcF_ap, eLc2F_ap, iA_ap, iZ_ap, tB_ap, tAnd_ap, tOr_ap, tNot_ap, tYes_ap, tV_ap, eSl_ap, oN_ap, oS_ap, eIf_ap, eM_ap, gN_ap, gsN_ap, gsC_ap, bind_ok, fl_ok, eVar_ap, sq_nx, sq_rt, sq_bk, sq_ct, fg_nx, fg_rt, fg_bk, fg_ct, oF_some, oH_some, slot_some, boolR_bl, intR_int, itA_tup, itA_str, itA_lst, itA_lsk, src_items, src_chk, itZ_lt, itZ_tl, itZ_ll, itZ_tt, truR_some, set0, setS, get0, getS, parF_nil, parF_cons, fgt_nil, fgt_cons, wpD_nil, wpD_cons, ite_tt, ite_ff, obind_some, gTup_tup, gTup_lst, gList_tup, gList_lst, gLen_tup, gLen_lst, gAdd_int, gSub_int, md_e], _, rfl, by simp only [sSeq_ap, sIf_ap, sNil_ap, sSet_ap, sRet_ap, sEx_ap, sPar_ap, sAsg_ap, sFgt_ap, sFor_ap, e1_ap, e2_ap, eL_ap, eC_ap, evs_nil, evs_cons, eTup_ap, eLstF_ap, eLstT_ap, eLcF_ap, eLc2F_ap, iA_ap, iZ_ap, tB_ap, tAnd_ap, tOr_ap, tNot_ap, tYes_ap, tV_ap, eSl_ap, oN_ap, oS_ap, eIf_ap, eM_ap, gN_ap, gsN_ap, gsC_ap, bind_ok, fl_ok, eVar_ap, sq_nx, sq_rt, sq_bk, sq_ct, fg_nx, fg_rt, fg_bk, fg_ct, oF_some, oH_some, slot_some, boolR_bl, intR_int, itA_tup, itA_str, itA_lst, itA_lsk, src_items, src_chk, itZ_lt, itZ_tl, itZ_ll, itZ_tt, truR_some, set0, setS, get0, getS, parF_nil, parF_cons, fgt_nil, fgt_cons, wpD_nil, wpD_cons, ite_tt, ite_ff, obind_some, gTup_tup, gTup_lst, gList_tup, gList_lst, gLen_tup, gLen_lst, gAdd_int, gSub_int]⟩) ne0]
  simp only [sSeq_ap, sIf_ap, sNil_ap, sSet_ap, sRet_ap, sEx_ap, sPar_ap, sAsg_ap, sFgt_ap, sFor_ap, e1_ap, e2_ap, eL_ap, eC_ap, evs_nil, evs_cons, eTup_ap, eLstF_ap, eLstT_ap, eLcF_ap, eLc2F_ap, iA_ap, iZ_ap, tB_ap, tAnd_ap, tOr_ap, tNot_ap, tYes_ap, tV_ap, eSl_ap, oN_ap, oS_ap, eIf_ap, eM_ap, gN_ap, gsN_ap, gsC_ap, bind_ok, fl_ok, eVar_ap, sq_nx, sq_rt, sq_bk, sq_ct, fg_nx, fg_rt, fg_bk, fg_ct, oF_some, oH_some, slot_some, boolR_bl, intR_int, itA_tup, itA_str, itA_lst, itA_lsk, src_items, src_chk, itZ_lt, itZ_tl, itZ_ll, itZ_tt, truR_some, set0, setS, get0, getS, parF_nil, parF_cons, fgt_nil, fgt_cons, wpD_nil, wpD_cons, ite_tt, ite_ff, obind_some, gTup_tup, gTup_lst, gList_tup, gList_lst, gLen_tup, gLen_lst, gAdd_int, gSub_int]
  have zz : ∀ {u : List Int} {o : Option D}, u.length ≤ 1000 → 
      lcL [] (gT 2 (gsC (gN 6) (gsC (gN 8) gsN))) tYesM (e2 (gMulX false) (eVar 6) (eVar 8)) [some M.d, some N.d, some (.tup (t.map D.int)), some (.lst ((ends M N).map D.int)), o, none, none, none, none] (zipD (u.map D.int) ((ends M N).map D.int)) [] h = .ok ((prods u (ends M N)).map D.int) h := fun hu => by
    rw [zip_lc okS_nil (by rw [List.length_nil]; omega) fun a ha b hb => ⟨_, (gT_tup rfl).trans (by simp only [sSeq_ap, sIf_ap, sNil_ap, sSet_ap, sRet_ap, sEx_ap, sPar_ap, sAsg_ap, sFgt_ap, sFor_ap, e1_ap, e2_ap, eL_ap, eC_ap, evs_nil, evs_cons, eTup_ap, eLstF_ap, eLstT_ap, eLcF_ap, eLc2F_ap, iA_ap, iZ_ap, tB_ap, tAnd_ap, tOr_ap, tNot_ap, tYes_ap, tV_ap, eSl_ap, oN_ap, oS_ap, eIf_ap, eM_ap, gN_ap, gsN_ap, gsC_ap, bind_ok, fl_ok, eVar_ap, sq_nx, sq_rt, sq_bk, sq_ct, fg_nx, fg_rt, fg_bk, fg_ct, oF_some, oH_some, slot_some, boolR_bl, intR_int, itA_tup, itA_str, itA_lst, itA_lsk, src_items, src_chk, itZ_lt, itZ_tl, itZ_ll, itZ_tt, truR_some, set0, setS, get0, getS, parF_nil, parF_cons, fgt_nil, fgt_cons, wpD_nil, wpD_cons, ite_tt, ite_ff, obind_some, gTup_tup, gTup_lst, gList_tup, gList_lst, gLen_tup, gLen_lst, gAdd_int, gSub_int]; rfl), ?_⟩, List.nil_append]
    simp only [sSeq_ap, sIf_ap, sNil_ap, sSet_ap, sRet_ap, sEx_ap, sPar_ap, sAsg_ap, sFgt_ap, sFor_ap, e1_ap, e2_ap, eL_ap, eC_ap, evs_nil, evs_cons, eTup_ap, eLstF_ap, eLstT_ap, eLcF_ap, eLc2F_ap, iA_ap, iZ_ap, tB_ap, tAnd_ap, tOr_ap, tNot_ap, tYes_ap, tV_ap, eSl_ap, oN_ap, oS_ap, eIf_ap, eM_ap, gN_ap, gsN_ap, gsC_ap, bind_ok, fl_ok, eVar_ap, sq_nx, sq_rt, sq_bk, sq_ct, fg_nx, fg_rt, fg_bk, fg_ct, oF_some, oH_some, slot_some, boolR_bl, intR_int, itA_tup, itA_str, itA_lst, itA_lsk, src_items, src_chk, itZ_lt, itZ_tl, itZ_ll, itZ_tt, truR_some, set0, setS, get0, getS, parF_nil, parF_cons, fgt_nil, fgt_cons, wpD_nil, wpD_cons, ite_tt, ite_ff, obind_some, gTup_tup, gTup_lst, gList_tup, gList_lst, gLen_tup, gLen_lst, gAdd_int, gSub_int]
    rw [gMulX_int (mulOk_r ((q1 b hb).mono (by decide)))]
  unfold ends at zz
  rw [zz ht]
  simp only [sSeq_ap, sIf_ap, sNil_ap, sSet_ap, sRet_ap, sEx_ap, sPar_ap, sAsg_ap, sFgt_ap, sFor_ap, e1_ap, e2_ap, eL_ap, eC_ap, evs_nil, evs_cons, eTup_ap, eLstF_ap, eLstT_ap, eLcF_ap, eLc2F_ap, iA_ap, iZ_ap, tB_ap, tAnd_ap, tOr_ap, tNot_ap, tYes_ap, tV_ap, eSl_ap, oN_ap, oS_ap, eIf_ap, eM_ap, gN_ap, gsN_ap, gsC_ap, bind_ok, fl_ok, eVar_ap, sq_nx, sq_rt, sq_bk, sq_ct, fg_nx, fg_rt, fg_bk, fg_ct, oF_some, oH_some, slot_some, boolR_bl, intR_int, itA_tup, itA_str, itA_lst, itA_lsk, src_items, src_chk, itZ_lt, itZ_tl, itZ_ll, itZ_tt, truR_some, set0, setS, get0, getS, parF_nil, parF_cons, fgt_nil, fgt_cons, wpD_nil, wpD_cons, ite_tt, ite_ff, obind_some, gTup_tup, gTup_lst, gList_tup, gList_lst, gLen_tup, gLen_lst, gAdd_int, gSub_int, gSum_lst, gSl_tup]
  rw [List.length_map, cut_drop, ← List.map_drop]
  rw [zz (u := t.drop _) (by rw [List.length_drop]; omega)]
  simp only [sSeq_ap, sIf_ap, sNil_ap, sSet_ap, sRet_ap, sEx_ap, sPar_ap, sAsg_ap, sFgt_ap, sFor_ap, e1_ap, e2_ap, eL_ap, eC_ap, evs_nil, evs_cons, eTup_ap, eLstF_ap, eLstT_ap, eLcF_ap, eLc2F_ap, iA_ap, iZ_ap, tB_ap, tAnd_ap, tOr_ap, tNot_ap, tYes_ap, tV_ap, eSl_ap, oN_ap, oS_ap, eIf_ap, eM_ap, gN_ap, gsN_ap, gsC_ap, bind_ok, fl_ok, eVar_ap, sq_nx, sq_rt, sq_bk, sq_ct, fg_nx, fg_rt, fg_bk, fg_ct, oF_some, oH_some, slot_some, boolR_bl, intR_int, itA_tup, itA_str, itA_lst, itA_lsk, src_items, src_chk, itZ_lt, itZ_tl, itZ_ll, itZ_tt, truR_some, set0, setS, get0, getS, parF_nil, parF_cons, fgt_nil, fgt_cons, wpD_nil, wpD_cons, ite_tt, ite_ff, obind_some, gTup_tup, gTup_lst, gList_tup, gList_lst, gLen_tup, gLen_lst, gAdd_int, gSub_int, gSum_lst]
  rw [prods_sum, prods_sum]
  rfl
end
end K62

namespace K62
open PySem DL

section
variable {M N : Md} {h : AH} {t : List Int}
theorem ended_ok {row : List Int} (hM : M.Ok) (hr : row.length ≤ 1000) (H : PH h) : m_law_ended [M.d, .lst (row.map D.int)] h = .ok (.int (dot row M.e)) h := by
  refine fnB_0 ?_ rfl H
  show b_law_ended [some M.d, some (.lst (row.map D.int)), none, none, none] h = _
  unfold b_law_ended
  simp only [sSeq_ap, sIf_ap, sNil_ap, sSet_ap, sRet_ap, sEx_ap, sPar_ap, sAsg_ap, sFgt_ap, sFor_ap, e1_ap, e2_ap, eL_ap, eC_ap, evs_nil, evs_cons, eTup_ap, eLstF_ap, eLstT_ap, eLcF_ap, eLc2F_ap, iA_ap, iZ_ap, tB_ap, tAnd_ap, tOr_ap, tNot_ap, tYes_ap, tV_ap, eSl_ap, oN_ap, oS_ap, eIf_ap, eM_ap, gN_ap, gsN_ap, gsC_ap, bind_ok, fl_ok, eVar_ap, sq_nx, sq_rt, sq_bk, sq_ct, fg_nx, fg_rt, fg_bk, fg_ct, oF_some, oH_some, slot_some, boolR_bl, intR_int, itA_tup, itA_str, itA_lst, itA_lsk, src_items, src_chk, itZ_lt, itZ_tl, itZ_ll, itZ_tt, truR_some, set0, setS, get0, getS, parF_nil, parF_cons, fgt_nil, fgt_cons, wpD_nil, wpD_cons, ite_tt, ite_ff, obind_some, gTup_tup, gTup_lst, gList_tup, gList_lst, gLen_tup, gLen_lst, gAdd_int, gSub_int, md_e]
  rw [zip_lc okS_nil (by rw [List.length_nil]; omega) fun a ha b hb => ⟨_, (gT_tup rfl).trans (by simp only [sSeq_ap, sIf_ap, sNil_ap, sSet_ap, sRet_ap, sEx_ap, sPar_ap, sAsg_ap, sFgt_ap, sFor_ap, e1_ap, e2_ap, eL_ap, eC_ap, evs_nil, evs_cons, eTup_ap, eLstF_ap, eLstT_ap, eLcF_ap, eLc2F_ap, iA_ap, iZ_ap, tB_ap, tAnd_ap, tOr_ap, tNot_ap, tYes_ap, tV_ap, eSl_ap, oN_ap, oS_ap, eIf_ap, eM_ap, gN_ap, gsN_ap, gsC_ap, bind_ok, fl_ok, eVar_ap, sq_nx, sq_rt, sq_bk, sq_ct, fg_nx, fg_rt, fg_bk, fg_ct, oF_some, oH_some, slot_some, boolR_bl, intR_int, itA_tup, itA_str, itA_lst, itA_lsk, src_items, src_chk, itZ_lt, itZ_tl, itZ_ll, itZ_tt, truR_some, set0, setS, get0, getS, parF_nil, parF_cons, fgt_nil, fgt_cons, wpD_nil, wpD_cons, ite_tt, ite_ff, obind_some, gTup_tup, gTup_lst, gList_tup, gList_lst, gLen_tup, gLen_lst, gAdd_int, gSub_int]; rfl), ?_⟩, List.nil_append]
  · simp only [sSeq_ap, sIf_ap, sNil_ap, sSet_ap, sRet_ap, sEx_ap, sPar_ap, sAsg_ap, sFgt_ap, sFor_ap, e1_ap, e2_ap, eL_ap, eC_ap, evs_nil, evs_cons, eTup_ap, eLstF_ap, eLstT_ap, eLcF_ap, eLc2F_ap, iA_ap, iZ_ap, tB_ap, tAnd_ap, tOr_ap, tNot_ap, tYes_ap, tV_ap, eSl_ap, oN_ap, oS_ap, eIf_ap, eM_ap, gN_ap, gsN_ap, gsC_ap, bind_ok, fl_ok, eVar_ap, sq_nx, sq_rt, sq_bk, sq_ct, fg_nx, fg_rt, fg_bk, fg_ct, oF_some, oH_some, slot_some, boolR_bl, intR_int, itA_tup, itA_str, itA_lst, itA_lsk, src_items, src_chk, itZ_lt, itZ_tl, itZ_ll, itZ_tt, truR_some, set0, setS, get0, getS, parF_nil, parF_cons, fgt_nil, fgt_cons, wpD_nil, wpD_cons, ite_tt, ite_ff, obind_some, gTup_tup, gTup_lst, gList_tup, gList_lst, gLen_tup, gLen_lst, gAdd_int, gSub_int, gSum_lst]
    rw [prods_sum]
  · simp only [sSeq_ap, sIf_ap, sNil_ap, sSet_ap, sRet_ap, sEx_ap, sPar_ap, sAsg_ap, sFgt_ap, sFor_ap, e1_ap, e2_ap, eL_ap, eC_ap, evs_nil, evs_cons, eTup_ap, eLstF_ap, eLstT_ap, eLcF_ap, eLc2F_ap, iA_ap, iZ_ap, tB_ap, tAnd_ap, tOr_ap, tNot_ap, tYes_ap, tV_ap, eSl_ap, oN_ap, oS_ap, eIf_ap, eM_ap, gN_ap, gsN_ap, gsC_ap, bind_ok, fl_ok, eVar_ap, sq_nx, sq_rt, sq_bk, sq_ct, fg_nx, fg_rt, fg_bk, fg_ct, oF_some, oH_some, slot_some, boolR_bl, intR_int, itA_tup, itA_str, itA_lst, itA_lsk, src_items, src_chk, itZ_lt, itZ_tl, itZ_ll, itZ_tt, truR_some, set0, setS, get0, getS, parF_nil, parF_cons, fgt_nil, fgt_cons, wpD_nil, wpD_cons, ite_tt, ite_ff, obind_some, gTup_tup, gTup_lst, gList_tup, gList_lst, gLen_tup, gLen_lst, gAdd_int, gSub_int]
    rw [gMulX_int (mulOk_r ((hM.bd b hb).mono (by decide)))]
theorem ext_loop2 {y : List Int} {g : MG} {b : MS} {S : Sl} : ∀ (l : List Int) (acc : List Int), (∀ a ∈ l, ∀ fs : List Int, fs.length ≤ acc.length + l.length * y.length → ∃ s1, g (.int a) S = some s1 ∧ b s1 (h ++ [.lst (fs.map D.int)]) = .nx S (h ++ [.lst ((fs ++ y.map fun z => a * z).map D.int)])) →
    forL [] g b (l.map D.int) S (h ++ [.lst (acc.map D.int)]) = .nx S (h ++ [.lst ((acc ++ l.flatMap fun a => y.map fun b => a * b).map D.int)])
  | [], acc, _ => by
    show forL [] g b [] S _ = _
    unfold forL
    rw [if_pos okS_nil, List.flatMap_nil, List.append_nil]
  | a :: l, acc, e => by
    obtain ⟨s1, e1, e2⟩ := e a List.mem_cons_self acc (by omega)
    rw [List.map_cons]
    unfold forL
    rw [if_pos okS_nil, e1]
    simp only [e2]
    rw [ext_loop2 l _ fun a' ha' fs hf => e a' (List.mem_cons_of_mem _ ha') fs (by
      rw [List.length_append, List.length_map] at hf
      rw [List.length_cons, Nat.succ_mul]
      omega), List.flatMap_cons, List.append_assoc]
theorem law_value_ok (hM : M.Ok) (hN : N.Ok) (ht : t.length ≤ 1000) (H : PH h) : m_law_value [M.d, N.d, .tup (t.map D.int)] h = .ok (.int (valF M N t)) h := by
  refine fnB_1 (g := [.lst ((ends M N).map D.int)]) ?_ rfl H
  show b_law_value [some M.d, some N.d, some (.tup (t.map D.int)), none, none, none, none, none, none, none, none] h = _
  have m8 := hM.nb
  have n8 := hN.nb
  have me := hM.be
  have ne := hN.be
  have q1 := ends_bd hM hN
  have q2 : M.e.length * N.e.length ≤ 8 * 8 := Nat.mul_le_mul (by omega) (by omega)
  unfold b_law_value
  simp only [sSeq_ap, sIf_ap, sNil_ap, sSet_ap, sRet_ap, sEx_ap, sPar_ap, sAsg_ap, sFgt_ap, sFor_ap, e1_ap, e2_ap, eL_ap, eC_ap, evs_nil, evs_cons, eTup_ap, eLstF_ap, eLstT_ap, eLcF_ap, eLc2F_ap, iA_ap, iZ_ap, tB_ap, tAnd_ap, tOr_ap, tNot_ap, tYes_ap, tV_ap, eSl_ap, oN_ap, oS_ap, eIf_ap, eM_ap, gN_ap, gsN_ap, gsC_ap, bind_ok, fl_ok, eVar_ap, sq_nx, sq_rt, sq_bk, sq_ct, fg_nx, fg_rt, fg_bk, fg_ct, oF_some, oH_some, slot_some, boolR_bl, intR_int, itA_tup, itA_str, itA_lst, itA_lsk, src_items, src_chk, itZ_lt, itZ_tl, itZ_ll, itZ_tt, truR_some, set0, setS, get0, getS, parF_nil, parF_cons, fgt_nil, fgt_cons, wpD_nil, wpD_cons, ite_tt, ite_ff, obind_some, gTup_tup, gTup_lst, gList_tup, gList_lst, gLen_tup, gLen_lst, gAdd_int, gSub_int, md_e]
  have lp := ext_loop2 (h := h) (y := N.e) (g := gN 4) (b := (sFgt [4] (sEx (eM isL mExtend (eVar 3) [(eLc false (iA (e2 gIx (eVar 1) (eC (.int 2)))) (gN 8) tYesM (e2 (gMulX false) (eVar 4) (eVar 8)) [7, 8])]))))
    (S := [some M.d, some N.d, some (.tup (t.map D.int)), some (.ref h.length), none, none, none, none, none, none, none]) M.e [] fun a ha fs hf => ⟨_, rfl, by
      have : fs.length ≤ 64 := Nat.le_trans hf (by rw [List.length_nil]; omega)
      simp only [sSeq_ap, sIf_ap, sNil_ap, sSet_ap, sRet_ap, sEx_ap, sPar_ap, sAsg_ap, sFgt_ap, sFor_ap, e1_ap, e2_ap, eL_ap, eC_ap, evs_nil, evs_cons, eTup_ap, eLstF_ap, eLstT_ap, eLcF_ap, eLc2F_ap, iA_ap, iZ_ap, tB_ap, tAnd_ap, tOr_ap, tNot_ap, tYes_ap, tV_ap, eSl_ap, oN_ap, oS_ap, eIf_ap, eM_ap, gN_ap, gsN_ap, gsC_ap, bind_ok, fl_ok, eVar_ap, sq_nx, sq_rt, sq_bk, sq_ct, fg_nx, fg_rt, fg_bk, fg_ct, oF_some, oH_some, slot_some, boolR_bl, intR_int, itA_tup, itA_str, itA_lst, itA_lsk, src_items, src_chk, itZ_lt, itZ_tl, itZ_ll, itZ_tt, truR_some, set0, setS, get0, getS, parF_nil, parF_cons, fgt_nil, fgt_cons, wpD_nil, wpD_cons, ite_tt, ite_ff, obind_some, gTup_tup, gTup_lst, gList_tup, gList_lst, gLen_tup, gLen_lst, gAdd_int, gSub_int, isL_ref (List.getElem?_concat_length), md_e]
      rw [lcL_map0 (enc := D.int) (out := fun z => D.int (a * z)) okS_nil N.e (by omega) fun b hb => ⟨_, rfl, by simp only [sSeq_ap, sIf_ap, sNil_ap, sSet_ap, sRet_ap, sEx_ap, sPar_ap, sAsg_ap, sFgt_ap, sFor_ap, e1_ap, e2_ap, eL_ap, eC_ap, evs_nil, evs_cons, eTup_ap, eLstF_ap, eLstT_ap, eLcF_ap, eLc2F_ap, iA_ap, iZ_ap, tB_ap, tAnd_ap, tOr_ap, tNot_ap, tYes_ap, tV_ap, eSl_ap, oN_ap, oS_ap, eIf_ap, eM_ap, gN_ap, gsN_ap, gsC_ap, bind_ok, fl_ok, eVar_ap, sq_nx, sq_rt, sq_bk, sq_ct, fg_nx, fg_rt, fg_bk, fg_ct, oF_some, oH_some, slot_some, boolR_bl, intR_int, itA_tup, itA_str, itA_lst, itA_lsk, src_items, src_chk, itZ_lt, itZ_tl, itZ_ll, itZ_tt, truR_some, set0, setS, get0, getS, parF_nil, parF_cons, fgt_nil, fgt_cons, wpD_nil, wpD_cons, ite_tt, ite_ff, obind_some, gTup_tup, gTup_lst, gList_tup, gList_lst, gLen_tup, gLen_lst, gAdd_int, gSub_int]; rw [gMulX_int (mulOk_r ((hN.bd b hb).mono (by decide)))]⟩]
      simp only [sSeq_ap, sIf_ap, sNil_ap, sSet_ap, sRet_ap, sEx_ap, sPar_ap, sAsg_ap, sFgt_ap, sFor_ap, e1_ap, e2_ap, eL_ap, eC_ap, evs_nil, evs_cons, eTup_ap, eLstF_ap, eLstT_ap, eLcF_ap, eLc2F_ap, iA_ap, iZ_ap, tB_ap, tAnd_ap, tOr_ap, tNot_ap, tYes_ap, tV_ap, eSl_ap, oN_ap, oS_ap, eIf_ap, eM_ap, gN_ap, gsN_ap, gsC_ap, bind_ok, fl_ok, eVar_ap, sq_nx, sq_rt, sq_bk, sq_ct, fg_nx, fg_rt, fg_bk, fg_ct, oF_some, oH_some, slot_some, boolR_bl, intR_int, itA_tup, itA_str, itA_lst, itA_lsk, src_items, src_chk, itZ_lt, itZ_tl, itZ_ll, itZ_tt, truR_some, set0, setS, get0, getS, parF_nil, parF_cons, fgt_nil, fgt_cons, wpD_nil, wpD_cons, ite_tt, ite_ff, obind_some, gTup_tup, gTup_lst, gList_tup, gList_lst, gLen_tup, gLen_lst, gAdd_int, gSub_int]
      rw [ext_ok rfl (by rw [List.length_map, List.length_map]; omega), mul_map, List.map_append]
      rfl⟩
  rw [List.map_nil, List.nil_append] at lp
  rw [lp]
  simp only [sSeq_ap, sIf_ap, sNil_ap, sSet_ap, sRet_ap, sEx_ap, sPar_ap, sAsg_ap, sFgt_ap, sFor_ap, e1_ap, e2_ap, eL_ap, eC_ap, evs_nil, evs_cons, eTup_ap, eLstF_ap, eLstT_ap, eLcF_ap, eLc2F_ap, iA_ap, iZ_ap, tB_ap, tAnd_ap, tOr_ap, tNot_ap, tYes_ap, tV_ap, eSl_ap, oN_ap, oS_ap, eIf_ap, eM_ap, gN_ap, gsN_ap, gsC_ap, bind_ok, fl_ok, eVar_ap, sq_nx, sq_rt, sq_bk, sq_ct, fg_nx, fg_rt, fg_bk, fg_ct, oF_some, oH_some, slot_some, boolR_bl, intR_int, itA_tup, itA_str, itA_lst, itA_lsk, src_items, src_chk, itZ_lt, itZ_tl, itZ_ll, itZ_tt, truR_some, set0, setS, get0, getS, parF_nil, parF_cons, fgt_nil, fgt_cons, wpD_nil, wpD_cons, ite_tt, ite_ff, obind_some, gTup_tup, gTup_lst, gList_tup, gList_lst, gLen_tup, gLen_lst, gAdd_int, gSub_int, List.nil_append]
  show _ = Fl.rt _ (h ++ [.lst ((ends M N).map D.int)])
  have eE : (M.e.flatMap fun a => N.e.map fun b => a * b) = ends M N := rfl
  rw [eE]
  have hc : (h ++ [Cell.lst ((ends M N).map D.int)])[h.length]? = some (.lst ((ends M N).map D.int)) := List.getElem?_concat_length
  have hz : ∀ {xs : List D}, itZ [.tup xs, .ref h.length] (h ++ [Cell.lst ((ends M N).map D.int)]) = .ok ⟨zipD xs ((ends M N).map D.int), [(h.length, (ends M N).map D.int)]⟩ (h ++ [Cell.lst ((ends M N).map D.int)]) := fun {xs} => by
    unfold itZ
    simp only [seqAt, listAt, hc, chkOf, cellL]
    rfl
  have ok : okS [(h.length, (ends M N).map D.int)] (h ++ [Cell.lst ((ends M N).map D.int)]) := fun p hp => by
    rw [List.mem_singleton.mp hp]
    exact hc
  have zz : ∀ {u : List Int} {o1 o2 o3 o4 : Option D}, u.length ≤ 1000 → 
      lcL [(h.length, (ends M N).map D.int)] (gT 2 (gsC (gN 9) (gsC (gN 10) gsN))) tYesM (e2 (gMulX false) (eVar 9) (eVar 10)) [some M.d, some N.d, some (.tup (t.map D.int)), some (.ref h.length), o1, o2, o3, none, o4, none, none] (zipD (u.map D.int) ((ends M N).map D.int)) [] (h ++ [.lst ((ends M N).map D.int)]) = .ok ((prods u (ends M N)).map D.int) (h ++ [.lst ((ends M N).map D.int)]) := fun hu => by
    rw [zip_lc ok (by rw [List.length_nil]; omega) fun a ha b hb => ⟨_, (gT_tup rfl).trans (by simp only [sSeq_ap, sIf_ap, sNil_ap, sSet_ap, sRet_ap, sEx_ap, sPar_ap, sAsg_ap, sFgt_ap, sFor_ap, e1_ap, e2_ap, eL_ap, eC_ap, evs_nil, evs_cons, eTup_ap, eLstF_ap, eLstT_ap, eLcF_ap, eLc2F_ap, iA_ap, iZ_ap, tB_ap, tAnd_ap, tOr_ap, tNot_ap, tYes_ap, tV_ap, eSl_ap, oN_ap, oS_ap, eIf_ap, eM_ap, gN_ap, gsN_ap, gsC_ap, bind_ok, fl_ok, eVar_ap, sq_nx, sq_rt, sq_bk, sq_ct, fg_nx, fg_rt, fg_bk, fg_ct, oF_some, oH_some, slot_some, boolR_bl, intR_int, itA_tup, itA_str, itA_lst, itA_lsk, src_items, src_chk, itZ_lt, itZ_tl, itZ_ll, itZ_tt, truR_some, set0, setS, get0, getS, parF_nil, parF_cons, fgt_nil, fgt_cons, wpD_nil, wpD_cons, ite_tt, ite_ff, obind_some, gTup_tup, gTup_lst, gList_tup, gList_lst, gLen_tup, gLen_lst, gAdd_int, gSub_int]; rfl), ?_⟩, List.nil_append]
    simp only [sSeq_ap, sIf_ap, sNil_ap, sSet_ap, sRet_ap, sEx_ap, sPar_ap, sAsg_ap, sFgt_ap, sFor_ap, e1_ap, e2_ap, eL_ap, eC_ap, evs_nil, evs_cons, eTup_ap, eLstF_ap, eLstT_ap, eLcF_ap, eLc2F_ap, iA_ap, iZ_ap, tB_ap, tAnd_ap, tOr_ap, tNot_ap, tYes_ap, tV_ap, eSl_ap, oN_ap, oS_ap, eIf_ap, eM_ap, gN_ap, gsN_ap, gsC_ap, bind_ok, fl_ok, eVar_ap, sq_nx, sq_rt, sq_bk, sq_ct, fg_nx, fg_rt, fg_bk, fg_ct, oF_some, oH_some, slot_some, boolR_bl, intR_int, itA_tup, itA_str, itA_lst, itA_lsk, src_items, src_chk, itZ_lt, itZ_tl, itZ_ll, itZ_tt, truR_some, set0, setS, get0, getS, parF_nil, parF_cons, fgt_nil, fgt_cons, wpD_nil, wpD_cons, ite_tt, ite_ff, obind_some, gTup_tup, gTup_lst, gList_tup, gList_lst, gLen_tup, gLen_lst, gAdd_int, gSub_int]
    rw [gMulX_int (mulOk_r ((q1 b hb).mono (by decide)))]
  rw [gLen_ref hc]
  simp only [sSeq_ap, sIf_ap, sNil_ap, sSet_ap, sRet_ap, sEx_ap, sPar_ap, sAsg_ap, sFgt_ap, sFor_ap, e1_ap, e2_ap, eL_ap, eC_ap, evs_nil, evs_cons, eTup_ap, eLstF_ap, eLstT_ap, eLcF_ap, eLc2F_ap, iA_ap, iZ_ap, tB_ap, tAnd_ap, tOr_ap, tNot_ap, tYes_ap, tV_ap, eSl_ap, oN_ap, oS_ap, eIf_ap, eM_ap, gN_ap, gsN_ap, gsC_ap, bind_ok, fl_ok, eVar_ap, sq_nx, sq_rt, sq_bk, sq_ct, fg_nx, fg_rt, fg_bk, fg_ct, oF_some, oH_some, slot_some, boolR_bl, intR_int, itA_tup, itA_str, itA_lst, itA_lsk, src_items, src_chk, itZ_lt, itZ_tl, itZ_ll, itZ_tt, truR_some, set0, setS, get0, getS, parF_nil, parF_cons, fgt_nil, fgt_cons, wpD_nil, wpD_cons, ite_tt, ite_ff, obind_some, gTup_tup, gTup_lst, gList_tup, gList_lst, gLen_tup, gLen_lst, gAdd_int, gSub_int, gSl_tup, hz]
  rw [List.length_map, cut_take, ← List.map_take]
  rw [zz (u := t.take _) (by rw [List.length_take]; omega)]
  simp only [sSeq_ap, sIf_ap, sNil_ap, sSet_ap, sRet_ap, sEx_ap, sPar_ap, sAsg_ap, sFgt_ap, sFor_ap, e1_ap, e2_ap, eL_ap, eC_ap, evs_nil, evs_cons, eTup_ap, eLstF_ap, eLstT_ap, eLcF_ap, eLc2F_ap, iA_ap, iZ_ap, tB_ap, tAnd_ap, tOr_ap, tNot_ap, tYes_ap, tV_ap, eSl_ap, oN_ap, oS_ap, eIf_ap, eM_ap, gN_ap, gsN_ap, gsC_ap, bind_ok, fl_ok, eVar_ap, sq_nx, sq_rt, sq_bk, sq_ct, fg_nx, fg_rt, fg_bk, fg_ct, oF_some, oH_some, slot_some, boolR_bl, intR_int, itA_tup, itA_str, itA_lst, itA_lsk, src_items, src_chk, itZ_lt, itZ_tl, itZ_ll, itZ_tt, truR_some, set0, setS, get0, getS, parF_nil, parF_cons, fgt_nil, fgt_cons, wpD_nil, wpD_cons, ite_tt, ite_ff, obind_some, gTup_tup, gTup_lst, gList_tup, gList_lst, gLen_tup, gLen_lst, gAdd_int, gSub_int, gSum_lst, gSl_tup, hz]
  rw [cut_drop, ← List.map_drop]
  rw [zz (u := t.drop _) (by rw [List.length_drop]; omega)]
  simp only [sSeq_ap, sIf_ap, sNil_ap, sSet_ap, sRet_ap, sEx_ap, sPar_ap, sAsg_ap, sFgt_ap, sFor_ap, e1_ap, e2_ap, eL_ap, eC_ap, evs_nil, evs_cons, eTup_ap, eLstF_ap, eLstT_ap, eLcF_ap, eLc2F_ap, iA_ap, iZ_ap, tB_ap, tAnd_ap, tOr_ap, tNot_ap, tYes_ap, tV_ap, eSl_ap, oN_ap, oS_ap, eIf_ap, eM_ap, gN_ap, gsN_ap, gsC_ap, bind_ok, fl_ok, eVar_ap, sq_nx, sq_rt, sq_bk, sq_ct, fg_nx, fg_rt, fg_bk, fg_ct, oF_some, oH_some, slot_some, boolR_bl, intR_int, itA_tup, itA_str, itA_lst, itA_lsk, src_items, src_chk, itZ_lt, itZ_tl, itZ_ll, itZ_tt, truR_some, set0, setS, get0, getS, parF_nil, parF_cons, fgt_nil, fgt_cons, wpD_nil, wpD_cons, ite_tt, ite_ff, obind_some, gTup_tup, gTup_lst, gList_tup, gList_lst, gLen_tup, gLen_lst, gAdd_int, gSub_int, gSum_lst]
  rw [prods_sum, prods_sum, dot_take]
  rfl
end
end K62

namespace K62
open PySem DL

/-! ### plain: a dict of prices -/
abbrev PK := (Nat × Nat) × Int
def putR : List PK → Nat × Nat → Int → List PK
  | [], k, v => [(k, v)]
  | e :: L, k, v => if e.1 = k then (k, v) :: L else e :: putR L k v
def getR : List PK → Nat × Nat → Int
  | [], _ => 0
  | e :: L, k => if e.1 = k then e.2 else getR L k
def wsum (b : List Int) (f : Nat → Int) (L : List PK) : Int := (L.map fun e => b.getD e.1.1 0 * e.2 * f e.1.2).sum
theorem put_keys : ∀ {L : List PK} {k : Nat × Nat} {v : Int} {j : Nat × Nat}, j ∈ (putR L k v).map (·.1) ↔ j = k ∨ j ∈ L.map (·.1)
  | [], k, v, j => by simp [putR]
  | e :: L, k, v, j => by
    unfold putR
    split
    · rename_i h
      simp only [List.map_cons, List.mem_cons, h]
      constructor
      · rintro (h | h)
        · exact .inl h
        · exact .inr (.inr h)
      · rintro (h | h | h)
        · exact .inl h
        · exact .inl h
        · exact .inr h
    · simp only [List.map_cons, List.mem_cons, put_keys (L := L)]
      constructor
      · rintro (h | h | h)
        · exact .inr (.inl h)
        · exact .inl h
        · exact .inr (.inr h)
      · rintro (h | h | h)
        · exact .inr (.inl h)
        · exact .inl h
        · exact .inr (.inr h)
theorem put_nodup : ∀ {L : List PK} {k : Nat × Nat} {v : Int}, (L.map (·.1)).Nodup → ((putR L k v).map (·.1)).Nodup
  | [], k, v, _ => by simp [putR]
  | e :: L, k, v, h => by
    rw [List.map_cons, List.nodup_cons] at h
    unfold putR
    split
    · rename_i he
      rw [List.map_cons, List.nodup_cons]
      exact ⟨he ▸ h.1, h.2⟩
    · rename_i he
      rw [List.map_cons, List.nodup_cons]
      refine ⟨fun hm => ?_, put_nodup h.2⟩
      rcases put_keys.mp hm with hm | hm
      · exact he hm
      · exact h.1 hm
theorem wsum_put {b : List Int} {f : Nat → Int} {k : Nat × Nat} {x : Int} : ∀ {L : List PK}, wsum b f (putR L k (getR L k + x)) = wsum b f L + b.getD k.1 0 * x * f k.2
  | [] => by simp [putR, getR, wsum]
  | e :: L => by
    unfold putR getR
    split
    · rename_i h
      unfold wsum
      simp only [List.map_cons, List.sum_cons, ← h]
      rw [Int.mul_add, Int.add_mul]
      omega
    · have := wsum_put (b := b) (f := f) (k := k) (x := x) (L := L)
      unfold wsum at this ⊢
      simp only [List.map_cons, List.sum_cons, this]
      omega
/-- a letter, from behind -/
def backT (t : Str → Bool) (f : Nat → Int) : List Arc → Nat → Int
  | [], _ => 0
  | a :: l, p => (if t a.l = true ∧ a.p = p then a.w * f a.q else 0) + backT t f l p
theorem backT_cons {t : Str → Bool} {f : Nat → Int} {a : Arc} {l : List Arc} {p : Nat} : backT t f (a :: l) p = (if t a.l = true ∧ a.p = p then a.w * f a.q else 0) + backT t f l p := by rw [backT]
def stA (t : Str → Bool) (e : PK) (L : List PK) (a : Arc) : List PK := if a.p = e.1.2 ∧ t a.l = true then putR L (e.1.1, a.q) (getR L (e.1.1, a.q) + e.2 * a.w) else L
def stE (M : Md) (t : Str → Bool) (L : List PK) (e : PK) : List PK := M.arcs.foldl (stA t e) L
def longer (M : Md) (t : Str → Bool) (L : List PK) : List PK := L.foldl (stE M t) []
theorem wsum_stA {b : List Int} {f : Nat → Int} {t : Str → Bool} {e : PK} : ∀ (l : List Arc) (L : List PK), wsum b f (l.foldl (stA t e) L) = wsum b f L + b.getD e.1.1 0 * e.2 * backT t f l e.1.2
  | [], L => by simp [backT]
  | a :: l, L => by
    rw [List.foldl_cons, wsum_stA l, backT_cons]
    unfold stA
    by_cases h : a.p = e.1.2 ∧ t a.l = true
    · rw [if_pos h, if_pos ⟨h.2, h.1⟩, wsum_put, Int.mul_add]
      simp only
      rw [show b.getD e.1.1 0 * (e.2 * a.w) * f a.q = b.getD e.1.1 0 * e.2 * (a.w * f a.q) from by rw [Int.mul_assoc, Int.mul_assoc, Int.mul_assoc]]
      omega
    · rw [if_neg h, if_neg fun h' => h ⟨h'.2, h'.1⟩, Int.zero_add]
theorem wsum_longer {M : Md} {b : List Int} {f : Nat → Int} {t : Str → Bool} {L : List PK} : wsum b f (longer M t L) = wsum b (backT t f M.arcs) L := by
  unfold longer
  have : ∀ (L acc : List PK), wsum b f (L.foldl (stE M t) acc) = wsum b f acc + wsum b (backT t f M.arcs) L := by
    intro L
    induction L with
    | nil =>
      intro acc
      simp [wsum]
    | cons e L ih =>
      intro acc
      rw [List.foldl_cons, ih]
      unfold stE
      rw [wsum_stA]
      unfold wsum
      simp only [List.map_cons, List.sum_cons]
      omega
  rw [this]
  simp [wsum]
/-! ### the sums' side -/
def wdot : List Int → (Nat → Int) → Int
  | [], _ => 0
  | x :: xs, f => x * f 0 + wdot xs fun i => f (i + 1)
theorem wdot_set {x : Int} : ∀ {r : List Int} {q : Nat} {f : Nat → Int}, q < r.length → wdot (r.set q (r.getD q 0 + x)) f = wdot r f + x * f q
  | [], q, f, h => by simp at h
  | y :: r, 0, f, h => by
    simp only [List.set_cons_zero, List.getD_cons_zero]
    unfold wdot
    rw [Int.add_mul]
    omega
  | y :: r, q + 1, f, h => by
    simp only [List.set_cons_succ, List.getD_cons_succ]
    unfold wdot
    rw [wdot_set (r := r) (by simpa using h)]
    omega
theorem wdot_zero : ∀ {n : Nat} {f : Nat → Int}, wdot (List.replicate n 0) f = 0
  | 0, f => rfl
  | n + 1, f => by
    rw [List.replicate_succ]
    unfold wdot
    rw [wdot_zero]
    simp
theorem wdot_add : ∀ {r : List Int} {f g : Nat → Int}, wdot r (fun i => f i + g i) = wdot r f + wdot r g
  | [], f, g => rfl
  | x :: r, f, g => by
    unfold wdot
    rw [wdot_add (r := r), Int.mul_add]
    omega
theorem wdot_z : ∀ {r : List Int}, wdot r (fun _ => 0) = 0
  | [] => rfl
  | x :: r => by
    unfold wdot
    rw [wdot_z]
    simp
theorem wdot_one {c : Int} : ∀ {r : List Int} {p : Nat}, wdot r (fun i => if p = i then c else 0) = r.getD p 0 * c
  | [], p => by simp [wdot]
  | x :: r, 0 => by
    unfold wdot
    simp [wdot_z]
  | x :: r, p + 1 => by
    unfold wdot
    have := wdot_one (c := c) (r := r) (p := p)
    simp [this]
theorem wdot_led {M : Md} {t : Str → Bool} {row : List Int} {f : Nat → Int} (hM : M.Ok) (hr : row.length = M.b.length) : wdot (ledF M t row) f = wdot row (backT t f M.arcs) := by
  have : ∀ (l : List Arc) (r : List Int), (∀ a ∈ l, a ∈ M.arcs) → r.length = row.length → wdot (l.foldl (Arc.st row t) r) f = wdot r f + wdot row (backT t f l) := by
    intro l
    induction l with
    | nil =>
      intro r _ _
      show wdot r f = wdot r f + wdot row (fun _ => 0)
      rw [wdot_z]
      omega
    | cons a l ih =>
      intro r hl hlen
      rw [List.foldl_cons, ih _ (fun a ha => hl a (List.mem_cons_of_mem _ ha)) (by unfold Arc.st; split <;> simp [hlen])]
      show _ = wdot r f + wdot row (fun p => (if t a.l = true ∧ a.p = p then a.w * f a.q else 0) + backT t f l p)
      rw [wdot_add]
      unfold Arc.st
      by_cases h : t a.l = true
      · have hq := (hM.pq a (hl a List.mem_cons_self)).2.1
        rw [if_pos h, wdot_set (by omega)]
        have : (fun i => if t a.l = true ∧ a.p = i then a.w * f a.q else 0) = fun i => if a.p = i then a.w * f a.q else 0 := by
          funext i
          simp [h]
        rw [this, wdot_one, Int.mul_assoc]
        omega
      · rw [if_neg h]
        have : (fun i => if t a.l = true ∧ a.p = i then a.w * f a.q else 0) = fun _ => 0 := by
          funext i
          rw [if_neg fun h' => h h'.1]
        rw [this, wdot_z]
        omega
  unfold ledF
  rw [this M.arcs _ (fun _ h => h) (by rw [List.length_replicate]), wdot_zero]
  omega
theorem dot_wdot : ∀ {r e : List Int}, dot r e = wdot r fun i => e.getD i 0
  | [], e => by
    unfold wdot dot
    rfl
  | x :: r, [] => by
    have : (fun i => ([] : List Int).getD i 0) = fun _ => (0 : Int) := by
      funext i
      simp
    rw [this, wdot_z]
    rfl
  | x :: r, y :: e => by
    show x * y + dot r e = _
    unfold wdot
    rw [dot_wdot (r := r)]
    simp
end K62

namespace K62
open PySem DL L2

def keyP (k : Nat × Nat) : List Key := [.inl (k.1 : Nat), .inl (k.2 : Nat)]
theorem keyP_inj {j k : Nat × Nat} (h : keyP j = keyP k) : j = k := by
  unfold keyP at h
  injection h with h1 h2
  injection h2 with h2 _
  injection h1 with h1
  injection h2 with h2
  exact Prod.ext (by omega) (by omega)
theorem getR_cons {e : PK} {L : List PK} {k : Nat × Nat} : getR (e :: L) k = if e.1 = k then e.2 else getR L k := by rw [getR]
theorem putR_cons {e : PK} {L : List PK} {k : Nat × Nat} {v : Int} : putR (e :: L) k v = if e.1 = k then (k, v) :: L else e :: putR L k v := by rw [putR]
def encP (e : PK) : List Key × D := (keyP e.1, .int e.2)
theorem valD_enc {k : Nat × Nat} : ∀ {L : List PK}, valD (L.map encP) (keyP k) = if k ∈ L.map (·.1) then some (.int (getR L k)) else none
  | [] => rfl
  | e :: L => by
    rw [List.map_cons]
    by_cases h : e.1 = k
    · rw [valD_pos (show (encP e).1 = keyP k by unfold encP; rw [h])]
      rw [if_pos (by simp [h]), getR_cons, if_pos h]
      rfl
    · rw [valD_neg (fun h' => h (keyP_inj h')), valD_enc, getR_cons, if_neg h]
      have : (k ∈ (e :: L).map (·.1)) ↔ k ∈ L.map (·.1) := by
        rw [List.map_cons, List.mem_cons]
        exact ⟨fun z => z.resolve_left fun z => h z.symm, .inr⟩
      simp only [this]
theorem get_none {k : Nat × Nat} : ∀ {L : List PK}, k ∉ L.map (·.1) → getR L k = 0
  | [], _ => rfl
  | e :: L, h => by
    rw [List.map_cons, List.mem_cons] at h
    rw [getR_cons, if_neg fun z => h (.inl z.symm), get_none fun z => h (.inr z)]
theorem get_mem : ∀ {L : List PK} {e : PK}, (L.map (·.1)).Nodup → e ∈ L → getR L e.1 = e.2
  | x :: L, e, h, he => by
    rw [List.map_cons, List.nodup_cons] at h
    rw [getR_cons]
    rcases List.mem_cons.mp he with rfl | he
    · rw [if_pos rfl]
    · rw [if_neg (fun (z : x.1 = e.1) => h.1 (by rw [z]; exact List.mem_map_of_mem he)), get_mem h.2 he]
theorem put_enc {k : Nat × Nat} {v : Int} : ∀ {L : List PK}, (L.map (·.1)).Nodup → putD (L.map encP) (keyP k) (.int v) = (putR L k v).map encP
  | [], _ => rfl
  | e :: L, h => by
    rw [List.map_cons, List.nodup_cons] at h
    have ih := put_enc (k := k) (v := v) h.2
    unfold putD at ih ⊢
    rw [List.map_cons, List.any_cons]
    by_cases he : e.1 = k
    · have e1 : decide ((encP e).1 = keyP k) = true := decide_eq_true (by unfold encP; rw [he])
      rw [e1, Bool.true_or, if_pos rfl, List.map_cons, if_pos (of_decide_eq_true e1), putR_cons, if_pos he, List.map_cons, show ((encP e).1, D.int v) = encP (k, v) from by unfold encP; rw [he]]
      congr 1
      refine (List.map_congr_left fun x hx => ?_).trans (List.map_id _)
      obtain ⟨y, hy, rfl⟩ := List.mem_map.mp hx
      rw [if_neg fun z => h.1 ?_]
      · rfl
      · have : y.1 = k := keyP_inj z
        rw [he, ← this]
        exact List.mem_map_of_mem hy
    · have e1 : decide ((encP e).1 = keyP k) = false := decide_eq_false fun z => he (keyP_inj z)
      rw [e1, Bool.false_or, putR_cons, if_neg he, List.map_cons (f := encP) (a := e) (l := putR L k v), ← ih]
      split
      · rw [List.map_cons, if_neg (fun (z : (encP e).1 = keyP k) => he (keyP_inj z))]
      · rfl
theorem nodup_le : ∀ (N : Nat) (l : List Nat), l.Nodup → (∀ x ∈ l, x < N) → l.length ≤ N
  | 0, l, _, h => by
    cases l with
    | nil => exact Nat.le_refl _
    | cons x l => exact absurd (h x List.mem_cons_self) (by omega)
  | N + 1, l, hn, h => by
    have h1 := nodup_le N (l.erase N) (hn.erase N) fun x hx => by
      have := (hn.mem_erase_iff).mp hx
      have := h x this.2
      omega
    by_cases hm : N ∈ l
    · rw [List.length_erase_of_mem hm] at h1
      omega
    · rw [List.erase_of_not_mem hm] at h1
      omega
structure KOk (n : Nat) (L : List PK) : Prop where
  n8 : n ≤ 8
  nd : (L.map (·.1)).Nodup
  lt : ∀ e ∈ L, e.1.1 < n ∧ e.1.2 < n
theorem KOk.len {n : Nat} {L : List PK} (h : KOk n L) : L.length ≤ 64 := by
  have := nodup_le 64 ((L.map (·.1)).map fun k => k.1 * 8 + k.2) (by
    have : ∀ l : List (Nat × Nat), l.Nodup → (∀ k ∈ l, k.1 < 8 ∧ k.2 < 8) → (l.map fun k => k.1 * 8 + k.2).Nodup := by
      intro l
      induction l with
      | nil => exact fun _ _ => List.nodup_nil
      | cons k l ih =>
        intro hn hl
        rw [List.nodup_cons] at hn
        rw [List.map_cons, List.nodup_cons]
        refine ⟨fun hm => ?_, ih hn.2 fun k hk => hl k (List.mem_cons_of_mem _ hk)⟩
        obtain ⟨j, hj, e⟩ := List.mem_map.mp hm
        have h1 := hl k List.mem_cons_self
        have h2 := hl j (List.mem_cons_of_mem _ hj)
        have : j = k := Prod.ext (by omega) (by omega)
        exact hn.1 (this ▸ hj)
    refine this _ h.nd fun k hk => ?_
    obtain ⟨e, he, rfl⟩ := List.mem_map.mp hk
    have := h.lt e he
    have := h.n8
    omega) (by
    intro x hx
    obtain ⟨k, hk, rfl⟩ := List.mem_map.mp hx
    obtain ⟨e, he, rfl⟩ := List.mem_map.mp hk
    have := h.lt e he
    have := h.n8
    omega)
  simpa using this
theorem KOk.put {n : Nat} {L : List PK} {k : Nat × Nat} {v : Int} (h : KOk n L) (h1 : k.1 < n) (h2 : k.2 < n) : KOk n (putR L k v) := ⟨h.n8, put_nodup h.nd, fun e he => by
  rcases put_keys.mp (List.mem_map_of_mem he) with z | z
  · rw [z]
    exact ⟨h1, h2⟩
  · obtain ⟨e', he', z⟩ := List.mem_map.mp z
    rw [← z]
    exact h.lt e' he'⟩
theorem kok_nil {n : Nat} (h8 : n ≤ 8) : KOk n [] := ⟨h8, List.nodup_nil, fun _ h => nomatch h⟩
theorem kok_stA {n : Nat} {t : Str → Bool} {e : PK} {L : List PK} {a : Arc} (h : KOk n L) (h1 : e.1.1 < n) (h2 : a.q < n) : KOk n (stA t e L a) := by
  unfold stA
  split
  · exact h.put h1 h2
  · exact h
end K62

namespace K62
open PySem DL L2

section
variable {M : Md} {h : AH} {z : Str}
theorem keyTup_enc (e : PK) : keyTup (encP e) = .tup [.int (e.1.1 : Nat), .int (e.1.2 : Nat)] := rfl
theorem keys2 {p q : Nat} : keysD [.int (p : Nat), .int (q : Nat)] = some (keyP (p, q)) := rfl
theorem ixT_ok {s : Sl} {k p q : Nat} {i j : Nat} {L : List PK} (e1 : s[k]? = some (some (.dT (L.map encP)))) (e2 : s[i]? = some (some (.int (p : Nat)))) (e3 : s[j]? = some (some (.int (q : Nat)))) (hm : (p, q) ∈ L.map (·.1)) : eIxT (eVar k) [(eVar i), (eVar j)] s h = .ok (.int (getR L (p, q))) h := by
  unfold eIxT
  simp only [sSeq_ap, sIf_ap, sNil_ap, sSet_ap, sRet_ap, sEx_ap, sPar_ap, sAsg_ap, sFgt_ap, sFor_ap, e1_ap, e2_ap, eL_ap, eC_ap, evs_nil, evs_cons, eTup_ap, eLstF_ap, eLstT_ap, eLcF_ap, eLc2F_ap, iA_ap, iZ_ap, tB_ap, tAnd_ap, tOr_ap, tNot_ap, tYes_ap, tV_ap, eSl_ap, oN_ap, oS_ap, eIf_ap, eM_ap, gN_ap, gsN_ap, gsC_ap, bind_ok, fl_ok, eVar_ap, sq_nx, sq_rt, sq_bk, sq_ct, fg_nx, fg_rt, fg_bk, fg_ct, oF_some, oH_some, slot_some, boolR_bl, intR_int, itA_tup, itA_str, itA_lst, itA_lsk, src_items, src_chk, itZ_lt, itZ_tl, itZ_ll, itZ_tt, truR_some, set0, setS, get0, getS, parF_nil, parF_cons, fgt_nil, fgt_cons, wpD_nil, wpD_cons, ite_tt, ite_ff, if_true, if_false, obind_some, gTup_tup, gTup_lst, gList_tup, gList_lst, gLen_tup, gLen_lst, gAdd_int, gSub_int, e1, e2, e3, keys2, dTat, valD_enc]
  rw [if_pos hm]
theorem getT_ok {s : Sl} {k p q : Nat} {i j : Nat} {L : List PK} (e1 : s[k]? = some (some (.ref h.length))) (e2 : s[i]? = some (some (.int (p : Nat)))) (e3 : s[j]? = some (some (.int (q : Nat)))) : eGetT (eVar k) [(eVar i), (eVar j)] (eC (.int 0)) s (h ++ [.dT (L.map encP)]) = .ok (.int (getR L (p, q))) (h ++ [.dT (L.map encP)]) := by
  have hc : (h ++ [Cell.dT (L.map encP)])[h.length]? = some (.dT (L.map encP)) := List.getElem?_concat_length
  unfold eGetT
  simp only [sSeq_ap, sIf_ap, sNil_ap, sSet_ap, sRet_ap, sEx_ap, sPar_ap, sAsg_ap, sFgt_ap, sFor_ap, e1_ap, e2_ap, eL_ap, eC_ap, evs_nil, evs_cons, eTup_ap, eLstF_ap, eLstT_ap, eLcF_ap, eLc2F_ap, iA_ap, iZ_ap, tB_ap, tAnd_ap, tOr_ap, tNot_ap, tYes_ap, tV_ap, eSl_ap, oN_ap, oS_ap, eIf_ap, eM_ap, gN_ap, gsN_ap, gsC_ap, bind_ok, fl_ok, eVar_ap, sq_nx, sq_rt, sq_bk, sq_ct, fg_nx, fg_rt, fg_bk, fg_ct, oF_some, oH_some, slot_some, boolR_bl, intR_int, itA_tup, itA_str, itA_lst, itA_lsk, src_items, src_chk, itZ_lt, itZ_tl, itZ_ll, itZ_tt, truR_some, set0, setS, get0, getS, parF_nil, parF_cons, fgt_nil, fgt_cons, wpD_nil, wpD_cons, ite_tt, ite_ff, if_true, if_false, obind_some, gTup_tup, gTup_lst, gList_tup, gList_lst, gLen_tup, gLen_lst, gAdd_int, gSub_int, e1, e2, e3, keys2, dTat, hc, valD_enc, Option.isSome_some]
  by_cases hm : (p, q) ∈ L.map (·.1)
  · rw [if_pos hm]
    rfl
  · rw [if_neg hm, get_none hm]
    rfl
theorem putT_ok {s : Sl} {f : ME} {k p q : Nat} {i j : Nat} {L : List PK} {v : Int} {n : Nat} (hL : KOk n L) (e0 : f s (h ++ [.dT (L.map encP)]) = .ok (.int v) (h ++ [.dT (L.map encP)])) (e1 : s[k]? = some (some (.ref h.length))) (e2 : s[i]? = some (some (.int (p : Nat)))) (e3 : s[j]? = some (some (.int (q : Nat)))) : sPutT (eVar k) [(eVar i), (eVar j)] f s (h ++ [.dT (L.map encP)]) = .nx s (h ++ [.dT ((putR L (p, q) v).map encP)]) := by
  have hc : (h ++ [Cell.dT (L.map encP)])[h.length]? = some (.dT (L.map encP)) := List.getElem?_concat_length
  have hl := hL.len
  unfold sPutT
  simp only [sSeq_ap, sIf_ap, sNil_ap, sSet_ap, sRet_ap, sEx_ap, sPar_ap, sAsg_ap, sFgt_ap, sFor_ap, e1_ap, e2_ap, eL_ap, eC_ap, evs_nil, evs_cons, eTup_ap, eLstF_ap, eLstT_ap, eLcF_ap, eLc2F_ap, iA_ap, iZ_ap, tB_ap, tAnd_ap, tOr_ap, tNot_ap, tYes_ap, tV_ap, eSl_ap, oN_ap, oS_ap, eIf_ap, eM_ap, gN_ap, gsN_ap, gsC_ap, bind_ok, fl_ok, eVar_ap, sq_nx, sq_rt, sq_bk, sq_ct, fg_nx, fg_rt, fg_bk, fg_ct, oF_some, oH_some, slot_some, boolR_bl, intR_int, itA_tup, itA_str, itA_lst, itA_lsk, src_items, src_chk, itZ_lt, itZ_tl, itZ_ll, itZ_tt, truR_some, set0, setS, get0, getS, parF_nil, parF_cons, fgt_nil, fgt_cons, wpD_nil, wpD_cons, ite_tt, ite_ff, if_true, if_false, obind_some, gTup_tup, gTup_lst, gList_tup, gList_lst, gLen_tup, gLen_lst, gAdd_int, gSub_int, e0, e1, e2, e3, keys2, cellT, hc]
  rw [if_pos (lenOk_le2 (by rw [List.length_map]; omega)), put_enc hL.nd]
  simp
abbrev pS (M : Md) (z l : Str) (n : Nat) (L : List PK) (x2 x6 x7 x8 x9 x10 : Option D) : Sl := [some M.d, some (.str z), x2, some (.dT (L.map encP)), some (.str l), some (.ref n), x6, x7, x8, x9, x10, none]
theorem arcs_walk {l : Str} {L : List PK} {e : PK} (hM : M.Ok) (hL : KOk M.b.length L) (he : e ∈ L) (x7 x8 x9 x10 : Option D) : ∀ (as : List Arc) (acc : List PK), (∀ a ∈ as, a ∈ M.arcs) → KOk M.b.length acc →
    forL [] (gT 4 (gsC (gN 7) (gsC (gN 8) (gsC (gN 9) (gsC (gN 10) gsN))))) (sFgt [7, 8, 9, 10] (sIf (tAndM (tB_ (e2 (gEq true) (eVar 7) (eVar 6))) (tB_ (e2 (gEq true) (eVar 8) (eVar 4)))) (sPutT (eVar 5) [(eVar 2), (eVar 9)] (e2 (gAdd false) (eGetT (eVar 5) [(eVar 2), (eVar 9)] (eC (.int 0))) (e2 (gMulX false) (eIxT (eVar 3) [(eVar 2), (eVar 6)]) (eVar 10)))) sNil)) (as.map Arc.d)
      (pS M z l h.length L (some (.int (e.1.1 : Nat))) (some (.int (e.1.2 : Nat))) none none none none) (h ++ [.dT (acc.map encP)]) = .nx (pS M z l h.length L (some (.int (e.1.1 : Nat))) (some (.int (e.1.2 : Nat))) none none none none) (h ++ [.dT ((as.foldl (stA (isL1 l) e) acc).map encP)]) ∧ KOk M.b.length (as.foldl (stA (isL1 l) e) acc) := by
  intro as acc has hacc
  refine forL_map (chk := []) (enc := Arc.d) (S := fun _ => pS M z l h.length L (some (.int (e.1.1 : Nat))) (some (.int (e.1.2 : Nat))) none none none none) (T := fun acc : List PK => h ++ [.dT (acc.map encP)]) (step := stA (isL1 l) e) (P := KOk M.b.length) (fun _ _ => okS_nil) as acc hacc ?_
  intro acc a ha hacc
  have hb := hM.nb
  obtain ⟨hp, hq, hw, _⟩ := hM.pq a (has a ha)
  refine ⟨kok_stA hacc (hL.lt e he).1 (by omega), _, (gT_tup rfl).trans (by simp only [sSeq_ap, sIf_ap, sNil_ap, sSet_ap, sRet_ap, sEx_ap, sPar_ap, sAsg_ap, sFgt_ap, sFor_ap, e1_ap, e2_ap, eL_ap, eC_ap, evs_nil, evs_cons, eTup_ap, eLstF_ap, eLstT_ap, eLcF_ap, eLc2F_ap, iA_ap, iZ_ap, tB_ap, tAnd_ap, tOr_ap, tNot_ap, tYes_ap, tV_ap, eSl_ap, oN_ap, oS_ap, eIf_ap, eM_ap, gN_ap, gsN_ap, gsC_ap, bind_ok, fl_ok, eVar_ap, sq_nx, sq_rt, sq_bk, sq_ct, fg_nx, fg_rt, fg_bk, fg_ct, oF_some, oH_some, slot_some, boolR_bl, intR_int, itA_tup, itA_str, itA_lst, itA_lsk, src_items, src_chk, itZ_lt, itZ_tl, itZ_ll, itZ_tt, truR_some, set0, setS, get0, getS, parF_nil, parF_cons, fgt_nil, fgt_cons, wpD_nil, wpD_cons, ite_tt, ite_ff, if_true, if_false, obind_some, gTup_tup, gTup_lst, gList_tup, gList_lst, gLen_tup, gLen_lst, gAdd_int, gSub_int]; rfl), .inl ?_⟩
  have hmem : (e.1.1, e.1.2) ∈ L.map (·.1) := List.mem_map_of_mem (f := (·.1)) he
  have hv : getR L (e.1.1, e.1.2) = e.2 := get_mem hL.nd he
  by_cases h1 : a.p = e.1.2
  · have d1 : decide ((a.p : Int) = (e.1.2 : Int)) = true := decide_eq_true (by rw [h1])
    by_cases h2 : isL1 l a.l = true
    · have d2 : decide (a.l = l) = true := h2
      have hs : stA (isL1 l) e acc a = putR acc (e.1.1, a.q) (getR acc (e.1.1, a.q) + e.2 * a.w) := if_pos ⟨h1, h2⟩
      rw [hs]
      simp only [sSeq_ap, sIf_ap, sNil_ap, sSet_ap, sRet_ap, sEx_ap, sPar_ap, sAsg_ap, sFgt_ap, sFor_ap, e1_ap, e2_ap, eL_ap, eC_ap, evs_nil, evs_cons, eTup_ap, eLstF_ap, eLstT_ap, eLcF_ap, eLc2F_ap, iA_ap, iZ_ap, tB_ap, tAnd_ap, tOr_ap, tNot_ap, tYes_ap, tV_ap, eSl_ap, oN_ap, oS_ap, eIf_ap, eM_ap, gN_ap, gsN_ap, gsC_ap, bind_ok, fl_ok, eVar_ap, sq_nx, sq_rt, sq_bk, sq_ct, fg_nx, fg_rt, fg_bk, fg_ct, oF_some, oH_some, slot_some, boolR_bl, intR_int, itA_tup, itA_str, itA_lst, itA_lsk, src_items, src_chk, itZ_lt, itZ_tl, itZ_ll, itZ_tt, truR_some, set0, setS, get0, getS, parF_nil, parF_cons, fgt_nil, fgt_cons, wpD_nil, wpD_cons, ite_tt, ite_ff, if_true, if_false, obind_some, gTup_tup, gTup_lst, gList_tup, gList_lst, gLen_tup, gLen_lst, gAdd_int, gSub_int, geq_int, geq_str, d1, d2, beq_self_eq_true]
      rw [putT_ok (p := e.1.1) (q := a.q) (v := getR acc (e.1.1, a.q) + e.2 * a.w) hacc ?_ rfl rfl rfl]
      · rfl
      · rw [e2_ap, getT_ok (p := e.1.1) (q := a.q) rfl rfl rfl, bind_ok, e2_ap, ixT_ok (p := e.1.1) (q := e.1.2) (L := L) rfl rfl rfl hmem, hv, bind_ok]
        simp only [sSeq_ap, sIf_ap, sNil_ap, sSet_ap, sRet_ap, sEx_ap, sPar_ap, sAsg_ap, sFgt_ap, sFor_ap, e1_ap, e2_ap, eL_ap, eC_ap, evs_nil, evs_cons, eTup_ap, eLstF_ap, eLstT_ap, eLcF_ap, eLc2F_ap, iA_ap, iZ_ap, tB_ap, tAnd_ap, tOr_ap, tNot_ap, tYes_ap, tV_ap, eSl_ap, oN_ap, oS_ap, eIf_ap, eM_ap, gN_ap, gsN_ap, gsC_ap, bind_ok, fl_ok, eVar_ap, sq_nx, sq_rt, sq_bk, sq_ct, fg_nx, fg_rt, fg_bk, fg_ct, oF_some, oH_some, slot_some, boolR_bl, intR_int, itA_tup, itA_str, itA_lst, itA_lsk, src_items, src_chk, itZ_lt, itZ_tl, itZ_ll, itZ_tt, truR_some, set0, setS, get0, getS, parF_nil, parF_cons, fgt_nil, fgt_cons, wpD_nil, wpD_cons, ite_tt, ite_ff, if_true, if_false, obind_some, gTup_tup, gTup_lst, gList_tup, gList_lst, gLen_tup, gLen_lst, gAdd_int, gSub_int]
        rw [gMulX_int (mulOk_r (hw.mono (by decide)))]
        rfl
    · have d2 : decide (a.l = l) = false := by
        cases hd : decide (a.l = l) with
        | true => exact absurd hd h2
        | false => rfl
      have hs : stA (isL1 l) e acc a = acc := if_neg fun z => h2 z.2
      rw [hs]
      simp only [sSeq_ap, sIf_ap, sNil_ap, sSet_ap, sRet_ap, sEx_ap, sPar_ap, sAsg_ap, sFgt_ap, sFor_ap, e1_ap, e2_ap, eL_ap, eC_ap, evs_nil, evs_cons, eTup_ap, eLstF_ap, eLstT_ap, eLcF_ap, eLc2F_ap, iA_ap, iZ_ap, tB_ap, tAnd_ap, tOr_ap, tNot_ap, tYes_ap, tV_ap, eSl_ap, oN_ap, oS_ap, eIf_ap, eM_ap, gN_ap, gsN_ap, gsC_ap, bind_ok, fl_ok, eVar_ap, sq_nx, sq_rt, sq_bk, sq_ct, fg_nx, fg_rt, fg_bk, fg_ct, oF_some, oH_some, slot_some, boolR_bl, intR_int, itA_tup, itA_str, itA_lst, itA_lsk, src_items, src_chk, itZ_lt, itZ_tl, itZ_ll, itZ_tt, truR_some, set0, setS, get0, getS, parF_nil, parF_cons, fgt_nil, fgt_cons, wpD_nil, wpD_cons, ite_tt, ite_ff, if_true, if_false, obind_some, gTup_tup, gTup_lst, gList_tup, gList_lst, gLen_tup, gLen_lst, gAdd_int, gSub_int, geq_int, geq_str, d1, d2]
      try rfl
  · have d1 : decide ((a.p : Int) = (e.1.2 : Int)) = false := decide_eq_false (by omega)
    have hs : stA (isL1 l) e acc a = acc := if_neg fun z => h1 z.1
    rw [hs]
    simp only [sSeq_ap, sIf_ap, sNil_ap, sSet_ap, sRet_ap, sEx_ap, sPar_ap, sAsg_ap, sFgt_ap, sFor_ap, e1_ap, e2_ap, eL_ap, eC_ap, evs_nil, evs_cons, eTup_ap, eLstF_ap, eLstT_ap, eLcF_ap, eLc2F_ap, iA_ap, iZ_ap, tB_ap, tAnd_ap, tOr_ap, tNot_ap, tYes_ap, tV_ap, eSl_ap, oN_ap, oS_ap, eIf_ap, eM_ap, gN_ap, gsN_ap, gsC_ap, bind_ok, fl_ok, eVar_ap, sq_nx, sq_rt, sq_bk, sq_ct, fg_nx, fg_rt, fg_bk, fg_ct, oF_some, oH_some, slot_some, boolR_bl, intR_int, itA_tup, itA_str, itA_lst, itA_lsk, src_items, src_chk, itZ_lt, itZ_tl, itZ_ll, itZ_tt, truR_some, set0, setS, get0, getS, parF_nil, parF_cons, fgt_nil, fgt_cons, wpD_nil, wpD_cons, ite_tt, ite_ff, if_true, if_false, obind_some, gTup_tup, gTup_lst, gList_tup, gList_lst, gLen_tup, gLen_lst, gAdd_int, gSub_int, geq_int, geq_str, d1]
    try rfl
end
end K62

namespace K62
open PySem DL L2

section
variable {M : Md} {h : AH} {z : Str}
theorem Md.pure (hM : M.Ok) : M.d.pure = true := by
  have ha : D.pures (M.arcs.map Arc.d) = true := pures_map (f := Arc.d) (fun a => by simp [Arc.d, D.pure, D.pures]) M.arcs
  unfold Md.d
  simp only [D.pure, D.pures, hM.pm, pures_ints, ha, Bool.and_self]
theorem keys_loop {l : Str} {L : List PK} (hM : M.Ok) (hL : KOk M.b.length L) : ∀ (es : List PK) (acc : List PK), (∀ e ∈ es, e ∈ L) → KOk M.b.length acc →
    forL [] (gT 2 (gsC (gN 2) (gsC (gN 6) gsN))) (sFgt [2, 6, 7, 8, 9, 10] (sFor (iA (e2 gIx (eVar 0) (eC (.int 3)))) (gT 4 (gsC (gN 7) (gsC (gN 8) (gsC (gN 9) (gsC (gN 10) gsN))))) (sFgt [7, 8, 9, 10] (sIf (tAndM (tB_ (e2 (gEq true) (eVar 7) (eVar 6))) (tB_ (e2 (gEq true) (eVar 8) (eVar 4)))) (sPutT (eVar 5) [(eVar 2), (eVar 9)] (e2 (gAdd false) (eGetT (eVar 5) [(eVar 2), (eVar 9)] (eC (.int 0))) (e2 (gMulX false) (eIxT (eVar 3) [(eVar 2), (eVar 6)]) (eVar 10)))) sNil)))) (es.map fun e => keyTup (encP e))
      (pS M z l h.length L none none none none none none) (h ++ [.dT (acc.map encP)]) = .nx (pS M z l h.length L none none none none none none) (h ++ [.dT ((es.foldl (stE M (isL1 l)) acc).map encP)]) ∧ KOk M.b.length (es.foldl (stE M (isL1 l)) acc) := by
  intro es acc hes hacc
  refine forL_map (chk := []) (enc := fun e => keyTup (encP e)) (S := fun _ => pS M z l h.length L none none none none none none) (T := fun acc : List PK => h ++ [.dT (acc.map encP)]) (step := stE M (isL1 l)) (P := KOk M.b.length) (fun _ _ => okS_nil) es acc hacc ?_
  intro acc e he hacc
  obtain ⟨w1, w2⟩ := arcs_walk (h := h) (z := z) (l := l) (e := e) hM hL (hes e he) none none none none M.arcs acc (fun _ h => h) hacc
  refine ⟨w2, _, (gT_tup (ds := [.int (e.1.1 : Nat), .int (e.1.2 : Nat)]) rfl).trans (by simp only [sSeq_ap, sIf_ap, sNil_ap, sSet_ap, sRet_ap, sEx_ap, sPar_ap, sAsg_ap, sFgt_ap, sFor_ap, e1_ap, e2_ap, eL_ap, eC_ap, evs_nil, evs_cons, eTup_ap, eLstF_ap, eLstT_ap, eLcF_ap, eLc2F_ap, iA_ap, iZ_ap, tB_ap, tAnd_ap, tOr_ap, tNot_ap, tYes_ap, tV_ap, eSl_ap, oN_ap, oS_ap, eIf_ap, eM_ap, gN_ap, gsN_ap, gsC_ap, bind_ok, fl_ok, eVar_ap, sq_nx, sq_rt, sq_bk, sq_ct, fg_nx, fg_rt, fg_bk, fg_ct, oF_some, oH_some, slot_some, boolR_bl, intR_int, itA_tup, itA_str, itA_lst, itA_lsk, src_items, src_chk, itZ_lt, itZ_tl, itZ_ll, itZ_tt, truR_some, set0, setS, get0, getS, parF_nil, parF_cons, fgt_nil, fgt_cons, wpD_nil, wpD_cons, ite_tt, ite_ff, if_true, if_false, obind_some, gTup_tup, gTup_lst, gList_tup, gList_lst, gLen_tup, gLen_lst, gAdd_int, gSub_int]; rfl), .inl ?_⟩
  simp only [sSeq_ap, sIf_ap, sNil_ap, sSet_ap, sRet_ap, sEx_ap, sPar_ap, sAsg_ap, sFgt_ap, sFor_ap, e1_ap, e2_ap, eL_ap, eC_ap, evs_nil, evs_cons, eTup_ap, eLstF_ap, eLstT_ap, eLcF_ap, eLc2F_ap, iA_ap, iZ_ap, tB_ap, tAnd_ap, tOr_ap, tNot_ap, tYes_ap, tV_ap, eSl_ap, oN_ap, oS_ap, eIf_ap, eM_ap, gN_ap, gsN_ap, gsC_ap, bind_ok, fl_ok, eVar_ap, sq_nx, sq_rt, sq_bk, sq_ct, fg_nx, fg_rt, fg_bk, fg_ct, oF_some, oH_some, slot_some, boolR_bl, intR_int, itA_tup, itA_str, itA_lst, itA_lsk, src_items, src_chk, itZ_lt, itZ_tl, itZ_ll, itZ_tt, truR_some, set0, setS, get0, getS, parF_nil, parF_cons, fgt_nil, fgt_cons, wpD_nil, wpD_cons, ite_tt, ite_ff, if_true, if_false, obind_some, gTup_tup, gTup_lst, gList_tup, gList_lst, gLen_tup, gLen_lst, gAdd_int, gSub_int, md_arcs]
  rw [w1]
  simp only [sSeq_ap, sIf_ap, sNil_ap, sSet_ap, sRet_ap, sEx_ap, sPar_ap, sAsg_ap, sFgt_ap, sFor_ap, e1_ap, e2_ap, eL_ap, eC_ap, evs_nil, evs_cons, eTup_ap, eLstF_ap, eLstT_ap, eLcF_ap, eLc2F_ap, iA_ap, iZ_ap, tB_ap, tAnd_ap, tOr_ap, tNot_ap, tYes_ap, tV_ap, eSl_ap, oN_ap, oS_ap, eIf_ap, eM_ap, gN_ap, gsN_ap, gsC_ap, bind_ok, fl_ok, eVar_ap, sq_nx, sq_rt, sq_bk, sq_ct, fg_nx, fg_rt, fg_bk, fg_ct, oF_some, oH_some, slot_some, boolR_bl, intR_int, itA_tup, itA_str, itA_lst, itA_lsk, src_items, src_chk, itZ_lt, itZ_tl, itZ_ll, itZ_tt, truR_some, set0, setS, get0, getS, parF_nil, parF_cons, fgt_nil, fgt_cons, wpD_nil, wpD_cons, ite_tt, ite_ff, if_true, if_false, obind_some, gTup_tup, gTup_lst, gList_tup, gList_lst, gLen_tup, gLen_lst, gAdd_int, gSub_int]
  rfl
theorem frz_enc {n k : Nat} {hh : AH} : ∀ {L : List PK}, mapP (frz n hh k) (L.map encP) = some (L.map encP)
  | [] => rfl
  | e :: L => by
    rw [List.map_cons]
    show (frz n hh k (.int e.2)).bind _ = _
    rw [frz_pure rfl, frz_enc]
    rfl
theorem lo_enc {n : Nat} : ∀ {L : List PK}, D.loT n (L.map encP) = true
  | [] => rfl
  | e :: L => by
    rw [List.map_cons]
    show (D.lo n (.int e.2) && D.loT n (L.map encP)) = true
    rw [lo_enc]
    rfl
theorem frz_ref {n : Nat} {L : List PK} (hn : n = h.length) : frz n (h ++ [.dT (L.map encP)]) 6 (.ref n) = some (.dT (L.map encP)) := by
  subst hn
  unfold frz
  rw [if_neg (by simp only [D.lo, decide_eq_true_eq]; omega)]
  simp only [List.getElem?_concat_length, frz_enc, Option.map_some]
theorem sEnd_nx {f : MS} {s s' : Sl} {g : AH} (H : PH h) (e : f s h = .nx s' (h ++ g)) : sEnd f s h = .nx (s'.map fun o => o.bind (frz h.length (h ++ g) 6)) h := by
  unfold sEnd
  rw [e]
  simp only
  unfold endS
  rw [List.take_left, if_pos (H.lo _)]
theorem kok_stE {t : Str → Bool} {e : PK} {acc : List PK} (hM : M.Ok) (h : KOk M.b.length acc) (h1 : e.1.1 < M.b.length) : KOk M.b.length (stE M t acc e) := by
  unfold stE
  have hb := hM.nb
  have : ∀ (as : List Arc) (acc : List PK), (∀ a ∈ as, a ∈ M.arcs) → KOk M.b.length acc → KOk M.b.length (as.foldl (stA t e) acc) := by
    intro as
    induction as with
    | nil => exact fun _ _ h => h
    | cons a as ih =>
      intro acc hs h
      rw [List.foldl_cons]
      have := hM.pq a (hs a List.mem_cons_self)
      exact ih _ (fun a ha => hs a (List.mem_cons_of_mem _ ha)) (kok_stA h h1 (by omega))
  exact this _ _ (fun _ h => h) h
def L0 (n : Nat) : List PK := (List.range n).map fun p => ((p, p), 1)
theorem L0_keys {n : Nat} : (L0 n).map (·.1) = (List.range n).map fun p => (p, p) := by
  unfold L0
  rw [List.map_map]
  rfl
theorem kok_L0 {n : Nat} (hn : n ≤ 8) : KOk n (L0 n) := ⟨hn, by
  rw [L0_keys]
  have : ∀ l : List Nat, l.Nodup → (l.map fun p => (p, p)).Nodup := by
    intro l
    induction l with
    | nil => exact fun _ => List.nodup_nil
    | cons a l ih =>
      intro h
      rw [List.nodup_cons] at h
      rw [List.map_cons, List.nodup_cons]
      refine ⟨fun hm => ?_, ih h.2⟩
      obtain ⟨b, hb, e⟩ := List.mem_map.mp hm
      injection e with e _
      exact h.1 (e ▸ hb)
  exact this _ List.nodup_range, fun e he => by
  obtain ⟨p, hp, rfl⟩ := List.mem_map.mp he
  have := List.mem_range.mp hp
  simp only
  omega⟩
theorem merge_enc : ∀ (L acc : List PK), ((acc ++ L).map (·.1)).Nodup → mergeD (acc.map encP) (L.map encP) = (acc ++ L).map encP
  | [], acc, _ => by
    unfold mergeD
    simp
  | e :: L, acc, h => by
    have h2 : (acc.map (·.1)).Nodup ∧ e.1 ∉ acc.map (·.1) := by
      rw [List.map_append, List.map_cons] at h
      have := List.nodup_append.mp h
      exact ⟨this.1, fun hm => this.2.2 _ hm _ List.mem_cons_self rfl⟩
    have e1 : putR acc e.1 e.2 = acc ++ [e] := by
      have : ∀ acc : List PK, e.1 ∉ acc.map (·.1) → putR acc e.1 e.2 = acc ++ [e] := by
        intro acc
        induction acc with
        | nil => exact fun _ => rfl
        | cons x acc ih =>
          intro h
          rw [List.map_cons, List.mem_cons] at h
          rw [putR_cons, if_neg fun z => h (.inl z.symm), ih fun z => h (.inr z)]
          rfl
      exact this acc h2.2
    have e2 : mergeD (acc.map encP) ((e :: L).map encP) = mergeD (putD (acc.map encP) (keyP e.1) (.int e.2)) (L.map encP) := rfl
    rw [e2, put_enc h2.1, e1, merge_enc L (acc ++ [e]) (by rw [List.append_assoc]; exact h), List.append_assoc]
    rfl
def pairE (e : PK) : D := .tup [.tup [.int (e.1.1 : Nat), .int (e.1.2 : Nat)], .int e.2]
theorem pairs_enc : ∀ {L : List PK}, pairsD (L.map pairE) = some (L.map encP)
  | [] => rfl
  | e :: L => by
    rw [List.map_cons]
    unfold pairsD
    rw [pairs_enc]
    rfl
theorem dict_ok {n : Nat} {L : List PK} (hL : KOk n L) : gDictT false [.lst (L.map pairE)] h = .ok (.dT (L.map encP)) h := by
  unfold gDictT
  simp only [listAt, Option.bind_some, pairs_enc]
  have := merge_enc L [] (by rw [List.nil_append]; exact hL.nd)
  rw [List.map_nil, List.nil_append] at this
  rw [this]
  rfl
def encI (e : PK) : KI := (keyP e.1, e.2)
theorem ints_enc : ∀ {L : List PK}, intsT (L.map encP) = some (L.map encI)
  | [] => rfl
  | e :: L => by
    rw [List.map_cons]
    show (intsT (L.map encP)).map _ = _
    rw [ints_enc]
    rfl
def sortL (L : List PK) : List PK := L.mergeSort fun a b => leKI (encI a) (encI b)
theorem sort_ok {n : Nat} {L : List PK} (hL : KOk n L) : gSortIt false (.dT (L.map encP)) h = .ok (.lst ((sortL L).map pairE)) h := by
  unfold gSortIt
  simp only [dTat, Option.bind_some, ints_enc]
  have hl := hL.len
  rw [if_pos]
  · unfold mkL
    rw [if_neg (by decide)]
    congr 2
    unfold sortL
    rw [← List.map_mergeSort (r := fun a b => leKI (encI a) (encI b)) (s := leKI) (f := encI) (fun _ _ _ _ => rfl), List.map_map]
    rfl
  · rw [Bool.and_eq_true]
    refine ⟨?_, lenOk_le2 (by rw [List.length_map]; omega)⟩
    unfold alikeL
    rw [List.all_eq_true]
    intro x hx
    rw [List.all_eq_true]
    intro y hy
    rw [List.map_map] at hx hy
    obtain ⟨a, _, rfl⟩ := List.mem_map.mp hx
    obtain ⟨b, _, rfl⟩ := List.mem_map.mp hy
    rfl
theorem sort_perm {L : List PK} : (sortL L).Perm L := List.mergeSort_perm _ _
theorem KOk.perm {n : Nat} {L N : List PK} (h : KOk n L) (p : N.Perm L) : KOk n N := ⟨h.n8, (p.map _).nodup_iff.mpr h.nd, fun e he => h.lt e (p.mem_iff.mp he)⟩
theorem fnB_lo {n : Nat} {b : MS} {ds : List D} {d : D} (e : b (ds.map some ++ List.replicate (n - ds.length) none) h = .rt d h) (l : D.lo h.length d = true) (H : PH h) : fnB n b ds h = .ok d h := by
  unfold fnB
  rw [e]
  simp only
  unfold endFn
  have e : frz h.length h 6 d = some d := by
    unfold frz
    rw [if_pos l]
  rw [e]
  simp only
  rw [if_pos (by rw [List.take_length]; exact H.lo _), List.take_length]
def pricesF (M : Md) (z : Str) : List PK := (chars z).foldl (fun L l => longer M (isL1 l) L) (L0 M.b.length)
theorem prices_ok (hM : M.Ok) (H : PH h) : m_law_prices [M.d, .str z] h = .ok (.dT ((sortL (pricesF M z)).map encP)) h ∧ KOk M.b.length (pricesF M z) := by
  have hb := hM.nb
  have key : ∃ hk : KOk M.b.length (pricesF M z), b_law_prices [some M.d, some (.str z), none, none, none, none, none, none, none, none, none, none] h = .rt (.dT ((sortL (pricesF M z)).map encP)) h := by
    have lp := forL_map (chk := []) (enc := D.str) (g := gN 4) (body := (sEnd (sSeq (sSet 5 eNewT)
    (sSeq (sFgt [2, 3, 4, 6, 7, 8, 9, 10] (sFor (iKT 3) (gT 2 (gsC (gN 2) (gsC (gN 6) gsN))) (sFgt [2, 6, 7, 8, 9, 10] (sFor (iA (e2 gIx (eVar 0) (eC (.int 3)))) (gT 4 (gsC (gN 7) (gsC (gN 8) (gsC (gN 9) (gsC (gN 10) gsN))))) (sFgt [7, 8, 9, 10] (sIf (tAndM (tB_ (e2 (gEq true) (eVar 7) (eVar 6))) (tB_ (e2 (gEq true) (eVar 8) (eVar 4)))) (sPutT (eVar 5) [(eVar 2), (eVar 9)] (e2 (gAdd false) (eGetT (eVar 5) [(eVar 2), (eVar 9)] (eC (.int 0))) (e2 (gMulX false) (eIxT (eVar 3) [(eVar 2), (eVar 6)]) (eVar 10)))) sNil))))))
    (sFgt [5] (sSet 3 (eVar 5)))))))
      (S := fun L : List PK => [some M.d, some (.str z), none, some (.dT (L.map encP)), none, none, none, none, none, none, none, none]) (T := fun _ => h) (step := fun L l => longer M (isL1 l) L) (P := KOk M.b.length) (fun _ _ => okS_nil) (chars z) (L0 M.b.length) (kok_L0 hb) fun L l hl hL => by
        have kl := keys_loop (h := h) (z := z) (l := l) hM hL L [] (fun _ h => h) (kok_nil hb)
        refine ⟨kl.2, [some M.d, some (.str z), none, some (.dT (L.map encP)), some (.str l), none, none, none, none, none, none, none], rfl, .inl ?_⟩
        have e1 : (sSeq (sSet 5 eNewT)
    (sSeq (sFgt [2, 3, 4, 6, 7, 8, 9, 10] (sFor (iKT 3) (gT 2 (gsC (gN 2) (gsC (gN 6) gsN))) (sFgt [2, 6, 7, 8, 9, 10] (sFor (iA (e2 gIx (eVar 0) (eC (.int 3)))) (gT 4 (gsC (gN 7) (gsC (gN 8) (gsC (gN 9) (gsC (gN 10) gsN))))) (sFgt [7, 8, 9, 10] (sIf (tAndM (tB_ (e2 (gEq true) (eVar 7) (eVar 6))) (tB_ (e2 (gEq true) (eVar 8) (eVar 4)))) (sPutT (eVar 5) [(eVar 2), (eVar 9)] (e2 (gAdd false) (eGetT (eVar 5) [(eVar 2), (eVar 9)] (eC (.int 0))) (e2 (gMulX false) (eIxT (eVar 3) [(eVar 2), (eVar 6)]) (eVar 10)))) sNil))))))
    (sFgt [5] (sSet 3 (eVar 5))))) [some M.d, some (.str z), none, some (.dT (L.map encP)), some (.str l), none, none, none, none, none, none, none] h = .nx [some M.d, some (.str z), none, some (.ref h.length), none, none, none, none, none, none, none, none] (h ++ [.dT ((longer M (isL1 l) L).map encP)]) := by
          have hi : iKT 3 (pS M z l h.length L none none none none none none) (h ++ [.dT []]) = .ok ⟨L.map fun e => keyTup (encP e), []⟩ (h ++ [.dT []]) := by
            unfold iKT
            simp only [sSeq_ap, sIf_ap, sNil_ap, sSet_ap, sRet_ap, sEx_ap, sPar_ap, sAsg_ap, sFgt_ap, sFor_ap, e1_ap, e2_ap, eL_ap, eC_ap, evs_nil, evs_cons, eTup_ap, eLstF_ap, eLstT_ap, eLcF_ap, eLc2F_ap, iA_ap, iZ_ap, tB_ap, tAnd_ap, tOr_ap, tNot_ap, tYes_ap, tV_ap, eSl_ap, oN_ap, oS_ap, eIf_ap, eM_ap, gN_ap, gsN_ap, gsC_ap, bind_ok, fl_ok, eVar_ap, sq_nx, sq_rt, sq_bk, sq_ct, fg_nx, fg_rt, fg_bk, fg_ct, oF_some, oH_some, slot_some, boolR_bl, intR_int, itA_tup, itA_str, itA_lst, itA_lsk, src_items, src_chk, itZ_lt, itZ_tl, itZ_ll, itZ_tt, truR_some, set0, setS, get0, getS, parF_nil, parF_cons, fgt_nil, fgt_cons, wpD_nil, wpD_cons, ite_tt, ite_ff, if_true, if_false, obind_some, gTup_tup, gTup_lst, gList_tup, gList_lst, gLen_tup, gLen_lst, gAdd_int, gSub_int, List.map_map]
            rfl
          have en : ∀ s, eNewT s h = .ok (.ref h.length) (h ++ [.dT []]) := fun _ => rfl
          simp only [sSeq_ap, sIf_ap, sNil_ap, sSet_ap, sRet_ap, sEx_ap, sPar_ap, sAsg_ap, sFgt_ap, sFor_ap, e1_ap, e2_ap, eL_ap, eC_ap, evs_nil, evs_cons, eTup_ap, eLstF_ap, eLstT_ap, eLcF_ap, eLc2F_ap, iA_ap, iZ_ap, tB_ap, tAnd_ap, tOr_ap, tNot_ap, tYes_ap, tV_ap, eSl_ap, oN_ap, oS_ap, eIf_ap, eM_ap, gN_ap, gsN_ap, gsC_ap, bind_ok, fl_ok, eVar_ap, sq_nx, sq_rt, sq_bk, sq_ct, fg_nx, fg_rt, fg_bk, fg_ct, oF_some, oH_some, slot_some, boolR_bl, intR_int, itA_tup, itA_str, itA_lst, itA_lsk, src_items, src_chk, itZ_lt, itZ_tl, itZ_ll, itZ_tt, truR_some, set0, setS, get0, getS, parF_nil, parF_cons, fgt_nil, fgt_cons, wpD_nil, wpD_cons, ite_tt, ite_ff, if_true, if_false, obind_some, gTup_tup, gTup_lst, gList_tup, gList_lst, gLen_tup, gLen_lst, gAdd_int, gSub_int, en, hi]
          have k1 := kl.1
          rw [List.map_nil] at k1
          rw [k1]
          simp only [sSeq_ap, sIf_ap, sNil_ap, sSet_ap, sRet_ap, sEx_ap, sPar_ap, sAsg_ap, sFgt_ap, sFor_ap, e1_ap, e2_ap, eL_ap, eC_ap, evs_nil, evs_cons, eTup_ap, eLstF_ap, eLstT_ap, eLcF_ap, eLc2F_ap, iA_ap, iZ_ap, tB_ap, tAnd_ap, tOr_ap, tNot_ap, tYes_ap, tV_ap, eSl_ap, oN_ap, oS_ap, eIf_ap, eM_ap, gN_ap, gsN_ap, gsC_ap, bind_ok, fl_ok, eVar_ap, sq_nx, sq_rt, sq_bk, sq_ct, fg_nx, fg_rt, fg_bk, fg_ct, oF_some, oH_some, slot_some, boolR_bl, intR_int, itA_tup, itA_str, itA_lst, itA_lsk, src_items, src_chk, itZ_lt, itZ_tl, itZ_ll, itZ_tt, truR_some, set0, setS, get0, getS, parF_nil, parF_cons, fgt_nil, fgt_cons, wpD_nil, wpD_cons, ite_tt, ite_ff, if_true, if_false, obind_some, gTup_tup, gTup_lst, gList_tup, gList_lst, gLen_tup, gLen_lst, gAdd_int, gSub_int]
          rfl
        rw [sEnd_nx H e1]
        simp only [List.map_cons, List.map_nil, Option.bind_some, Option.bind_none, frz_pure (Md.pure hM), frz_ref rfl]
        rw [frz_pure rfl]
    refine ⟨lp.2, ?_⟩
    unfold b_law_prices
    simp only [sSeq_ap, sIf_ap, sNil_ap, sSet_ap, sRet_ap, sEx_ap, sPar_ap, sAsg_ap, sFgt_ap, sFor_ap, e1_ap, e2_ap, eL_ap, eC_ap, evs_nil, evs_cons, eTup_ap, eLstF_ap, eLstT_ap, eLcF_ap, eLc2F_ap, iA_ap, iZ_ap, tB_ap, tAnd_ap, tOr_ap, tNot_ap, tYes_ap, tV_ap, eSl_ap, oN_ap, oS_ap, eIf_ap, eM_ap, gN_ap, gsN_ap, gsC_ap, bind_ok, fl_ok, eVar_ap, sq_nx, sq_rt, sq_bk, sq_ct, fg_nx, fg_rt, fg_bk, fg_ct, oF_some, oH_some, slot_some, boolR_bl, intR_int, itA_tup, itA_str, itA_lst, itA_lsk, src_items, src_chk, itZ_lt, itZ_tl, itZ_ll, itZ_tt, truR_some, set0, setS, get0, getS, parF_nil, parF_cons, fgt_nil, fgt_cons, wpD_nil, wpD_cons, ite_tt, ite_ff, if_true, if_false, obind_some, gTup_tup, gTup_lst, gList_tup, gList_lst, gLen_tup, gLen_lst, gAdd_int, gSub_int, md_b]
    rw [iR1_ok (n := M.b.length) (h1 := h) (by simp only [sSeq_ap, sIf_ap, sNil_ap, sSet_ap, sRet_ap, sEx_ap, sPar_ap, sAsg_ap, sFgt_ap, sFor_ap, e1_ap, e2_ap, eL_ap, eC_ap, evs_nil, evs_cons, eTup_ap, eLstF_ap, eLstT_ap, eLcF_ap, eLc2F_ap, iA_ap, iZ_ap, tB_ap, tAnd_ap, tOr_ap, tNot_ap, tYes_ap, tV_ap, eSl_ap, oN_ap, oS_ap, eIf_ap, eM_ap, gN_ap, gsN_ap, gsC_ap, bind_ok, fl_ok, eVar_ap, sq_nx, sq_rt, sq_bk, sq_ct, fg_nx, fg_rt, fg_bk, fg_ct, oF_some, oH_some, slot_some, boolR_bl, intR_int, itA_tup, itA_str, itA_lst, itA_lsk, src_items, src_chk, itZ_lt, itZ_tl, itZ_ll, itZ_tt, truR_some, set0, setS, get0, getS, parF_nil, parF_cons, fgt_nil, fgt_cons, wpD_nil, wpD_cons, ite_tt, ite_ff, if_true, if_false, obind_some, gTup_tup, gTup_lst, gList_tup, gList_lst, gLen_tup, gLen_lst, gAdd_int, gSub_int, md_b, List.length_map]) (by omega)]
    simp only [sSeq_ap, sIf_ap, sNil_ap, sSet_ap, sRet_ap, sEx_ap, sPar_ap, sAsg_ap, sFgt_ap, sFor_ap, e1_ap, e2_ap, eL_ap, eC_ap, evs_nil, evs_cons, eTup_ap, eLstF_ap, eLstT_ap, eLcF_ap, eLc2F_ap, iA_ap, iZ_ap, tB_ap, tAnd_ap, tOr_ap, tNot_ap, tYes_ap, tV_ap, eSl_ap, oN_ap, oS_ap, eIf_ap, eM_ap, gN_ap, gsN_ap, gsC_ap, bind_ok, fl_ok, eVar_ap, sq_nx, sq_rt, sq_bk, sq_ct, fg_nx, fg_rt, fg_bk, fg_ct, oF_some, oH_some, slot_some, boolR_bl, intR_int, itA_tup, itA_str, itA_lst, itA_lsk, src_items, src_chk, itZ_lt, itZ_tl, itZ_ll, itZ_tt, truR_some, set0, setS, get0, getS, parF_nil, parF_cons, fgt_nil, fgt_cons, wpD_nil, wpD_cons, ite_tt, ite_ff, if_true, if_false, obind_some, gTup_tup, gTup_lst, gList_tup, gList_lst, gLen_tup, gLen_lst, gAdd_int, gSub_int]
    rw [lcL_map0 (enc := fun i : Nat => D.int (i : Int)) (out := fun p => pairE ((p, p), 1)) okS_nil (List.range M.b.length) (by rw [List.length_range]; omega) fun p _ => ⟨_, rfl, by simp only [sSeq_ap, sIf_ap, sNil_ap, sSet_ap, sRet_ap, sEx_ap, sPar_ap, sAsg_ap, sFgt_ap, sFor_ap, e1_ap, e2_ap, eL_ap, eC_ap, evs_nil, evs_cons, eTup_ap, eLstF_ap, eLstT_ap, eLcF_ap, eLc2F_ap, iA_ap, iZ_ap, tB_ap, tAnd_ap, tOr_ap, tNot_ap, tYes_ap, tV_ap, eSl_ap, oN_ap, oS_ap, eIf_ap, eM_ap, gN_ap, gsN_ap, gsC_ap, bind_ok, fl_ok, eVar_ap, sq_nx, sq_rt, sq_bk, sq_ct, fg_nx, fg_rt, fg_bk, fg_ct, oF_some, oH_some, slot_some, boolR_bl, intR_int, itA_tup, itA_str, itA_lst, itA_lsk, src_items, src_chk, itZ_lt, itZ_tl, itZ_ll, itZ_tt, truR_some, set0, setS, get0, getS, parF_nil, parF_cons, fgt_nil, fgt_cons, wpD_nil, wpD_cons, ite_tt, ite_ff, if_true, if_false, obind_some, gTup_tup, gTup_lst, gList_tup, gList_lst, gLen_tup, gLen_lst, gAdd_int, gSub_int]; rfl⟩]
    have e0 : ((List.range M.b.length).map fun p => pairE ((p, p), 1)) = (L0 M.b.length).map pairE := by
      unfold L0
      rw [List.map_map]
      rfl
    simp only [sSeq_ap, sIf_ap, sNil_ap, sSet_ap, sRet_ap, sEx_ap, sPar_ap, sAsg_ap, sFgt_ap, sFor_ap, e1_ap, e2_ap, eL_ap, eC_ap, evs_nil, evs_cons, eTup_ap, eLstF_ap, eLstT_ap, eLcF_ap, eLc2F_ap, iA_ap, iZ_ap, tB_ap, tAnd_ap, tOr_ap, tNot_ap, tYes_ap, tV_ap, eSl_ap, oN_ap, oS_ap, eIf_ap, eM_ap, gN_ap, gsN_ap, gsC_ap, bind_ok, fl_ok, eVar_ap, sq_nx, sq_rt, sq_bk, sq_ct, fg_nx, fg_rt, fg_bk, fg_ct, oF_some, oH_some, slot_some, boolR_bl, intR_int, itA_tup, itA_str, itA_lst, itA_lsk, src_items, src_chk, itZ_lt, itZ_tl, itZ_ll, itZ_tt, truR_some, set0, setS, get0, getS, parF_nil, parF_cons, fgt_nil, fgt_cons, wpD_nil, wpD_cons, ite_tt, ite_ff, if_true, if_false, obind_some, gTup_tup, gTup_lst, gList_tup, gList_lst, gLen_tup, gLen_lst, gAdd_int, gSub_int, e0, dict_ok (kok_L0 hb), sigs_chars]
    rw [lp.1]
    simp only [sSeq_ap, sIf_ap, sNil_ap, sSet_ap, sRet_ap, sEx_ap, sPar_ap, sAsg_ap, sFgt_ap, sFor_ap, e1_ap, e2_ap, eL_ap, eC_ap, evs_nil, evs_cons, eTup_ap, eLstF_ap, eLstT_ap, eLcF_ap, eLc2F_ap, iA_ap, iZ_ap, tB_ap, tAnd_ap, tOr_ap, tNot_ap, tYes_ap, tV_ap, eSl_ap, oN_ap, oS_ap, eIf_ap, eM_ap, gN_ap, gsN_ap, gsC_ap, bind_ok, fl_ok, eVar_ap, sq_nx, sq_rt, sq_bk, sq_ct, fg_nx, fg_rt, fg_bk, fg_ct, oF_some, oH_some, slot_some, boolR_bl, intR_int, itA_tup, itA_str, itA_lst, itA_lsk, src_items, src_chk, itZ_lt, itZ_tl, itZ_ll, itZ_tt, truR_some, set0, setS, get0, getS, parF_nil, parF_cons, fgt_nil, fgt_cons, wpD_nil, wpD_cons, ite_tt, ite_ff, if_true, if_false, obind_some, gTup_tup, gTup_lst, gList_tup, gList_lst, gLen_tup, gLen_lst, gAdd_int, gSub_int]
    rw [sort_ok lp.2]
    simp only [sSeq_ap, sIf_ap, sNil_ap, sSet_ap, sRet_ap, sEx_ap, sPar_ap, sAsg_ap, sFgt_ap, sFor_ap, e1_ap, e2_ap, eL_ap, eC_ap, evs_nil, evs_cons, eTup_ap, eLstF_ap, eLstT_ap, eLcF_ap, eLc2F_ap, iA_ap, iZ_ap, tB_ap, tAnd_ap, tOr_ap, tNot_ap, tYes_ap, tV_ap, eSl_ap, oN_ap, oS_ap, eIf_ap, eM_ap, gN_ap, gsN_ap, gsC_ap, bind_ok, fl_ok, eVar_ap, sq_nx, sq_rt, sq_bk, sq_ct, fg_nx, fg_rt, fg_bk, fg_ct, oF_some, oH_some, slot_some, boolR_bl, intR_int, itA_tup, itA_str, itA_lst, itA_lsk, src_items, src_chk, itZ_lt, itZ_tl, itZ_ll, itZ_tt, truR_some, set0, setS, get0, getS, parF_nil, parF_cons, fgt_nil, fgt_cons, wpD_nil, wpD_cons, ite_tt, ite_ff, if_true, if_false, obind_some, gTup_tup, gTup_lst, gList_tup, gList_lst, gLen_tup, gLen_lst, gAdd_int, gSub_int]
    rw [dict_ok (lp.2.perm sort_perm)]
    simp only [sSeq_ap, sIf_ap, sNil_ap, sSet_ap, sRet_ap, sEx_ap, sPar_ap, sAsg_ap, sFgt_ap, sFor_ap, e1_ap, e2_ap, eL_ap, eC_ap, evs_nil, evs_cons, eTup_ap, eLstF_ap, eLstT_ap, eLcF_ap, eLc2F_ap, iA_ap, iZ_ap, tB_ap, tAnd_ap, tOr_ap, tNot_ap, tYes_ap, tV_ap, eSl_ap, oN_ap, oS_ap, eIf_ap, eM_ap, gN_ap, gsN_ap, gsC_ap, bind_ok, fl_ok, eVar_ap, sq_nx, sq_rt, sq_bk, sq_ct, fg_nx, fg_rt, fg_bk, fg_ct, oF_some, oH_some, slot_some, boolR_bl, intR_int, itA_tup, itA_str, itA_lst, itA_lsk, src_items, src_chk, itZ_lt, itZ_tl, itZ_ll, itZ_tt, truR_some, set0, setS, get0, getS, parF_nil, parF_cons, fgt_nil, fgt_cons, wpD_nil, wpD_cons, ite_tt, ite_ff, if_true, if_false, obind_some, gTup_tup, gTup_lst, gList_tup, gList_lst, gLen_tup, gLen_lst, gAdd_int, gSub_int]
    rfl
  obtain ⟨hk, key⟩ := key
  refine ⟨?_, hk⟩
  exact fnB_lo key (show D.lo _ (.dT _) = true from lo_enc) H
theorem wsum_perm {b : List Int} {f : Nat → Int} {L N : List PK} (p : L.Perm N) : wsum b f L = wsum b f N := by
  unfold wsum
  have : ∀ {x y : List Int}, x.Perm y → x.sum = y.sum := fun p => by
    induction p with
    | nil => rfl
    | cons a _ ih => rw [List.sum_cons, List.sum_cons, ih]
    | swap a b l =>
      simp only [List.sum_cons]
      omega
    | trans _ _ h1 h2 => exact h1.trans h2
  exact this (p.map _)
theorem wsum_prices (hM : M.Ok) {f : Nat → Int} : wsum M.b f (pricesF M z) = wdot (sumsF M z) f := by
  unfold pricesF sumsF walkF
  rw [List.foldl_map]
  have : ∀ (ls : List Str) (L : List PK) (row : List Int), row.length = M.b.length → (∀ f, wsum M.b f L = wdot row f) → ∀ f, wsum M.b f (ls.foldl (fun L l => longer M (isL1 l) L) L) = wdot (ls.foldl (fun row l => ledF M (isL1 l) row) row) f := by
    intro ls
    induction ls with
    | nil => exact fun _ _ _ h => h
    | cons l ls ih =>
      intro L row hr h
      rw [List.foldl_cons, List.foldl_cons]
      refine ih _ _ (by rw [ledF_len, hr]) fun f => ?_
      rw [wsum_longer, wdot_led hM hr, h]
  refine this _ _ _ rfl (fun f => ?_) f
  have h0 : ∀ (b : List Int) (n : Nat) (g : Nat → Int), ((List.range b.length).map fun p => b.getD p 0 * g p).sum = wdot b g := by
    intro b
    induction b with
    | nil => exact fun _ _ => rfl
    | cons x b ih =>
      intro n g
      rw [List.length_cons, List.range_succ_eq_map, List.map_cons, List.sum_cons, List.map_map]
      have := ih n fun i => g (i + 1)
      show _ = x * g 0 + wdot b fun i => g (i + 1)
      rw [← this]
      rfl
  rw [← h0 M.b 0 f]
  unfold wsum L0
  rw [List.map_map]
  congr 1
  refine List.map_congr_left fun p _ => ?_
  show M.b.getD p 0 * 1 * f p = _
  rw [Int.mul_one]
def weightF (M : Md) (z : Str) : Int := dot (sumsF M z) M.e
theorem gIx_int_tup {row : List Int} {p : Nat} (hp : p < row.length) : gIx (.tup (row.map D.int)) (.int (p : Nat)) h = .ok (.int (row.getD p 0)) h := by
  refine gIx_seq (xs := row.map D.int) rfl ?_
  rw [List.getElem?_map, List.getElem?_eq_getElem hp, List.getD_eq_getElem?_getD, List.getElem?_eq_getElem hp]
  rfl
theorem weight_ok (hM : M.Ok) (H : PH h) : m_law_weight [M.d, .str z] h = .ok (.int (weightF M z)) h := by
  obtain ⟨hp, hk⟩ := prices_ok (z := z) hM H
  refine fnB_0 ?_ rfl H
  show b_law_weight [some M.d, some (.str z), none, none, none, none] h = _
  have hk2 := hk.perm sort_perm
  have hl := hk2.len
  have be := hM.be
  generalize hS : sortL (pricesF M z) = S at *
  unfold b_law_weight
  have hi : iKT 2 [some M.d, some (.str z), some (.dT (S.map encP)), none, none, none] h = .ok ⟨S.map fun e => keyTup (encP e), []⟩ h := by
    unfold iKT
    simp only [sSeq_ap, sIf_ap, sNil_ap, sSet_ap, sRet_ap, sEx_ap, sPar_ap, sAsg_ap, sFgt_ap, sFor_ap, e1_ap, e2_ap, eL_ap, eC_ap, evs_nil, evs_cons, eTup_ap, eLstF_ap, eLstT_ap, eLcF_ap, eLc2F_ap, iA_ap, iZ_ap, tB_ap, tAnd_ap, tOr_ap, tNot_ap, tYes_ap, tV_ap, eSl_ap, oN_ap, oS_ap, eIf_ap, eM_ap, gN_ap, gsN_ap, gsC_ap, bind_ok, fl_ok, eVar_ap, sq_nx, sq_rt, sq_bk, sq_ct, fg_nx, fg_rt, fg_bk, fg_ct, oF_some, oH_some, slot_some, boolR_bl, intR_int, itA_tup, itA_str, itA_lst, itA_lsk, src_items, src_chk, itZ_lt, itZ_tl, itZ_ll, itZ_tt, truR_some, set0, setS, get0, getS, parF_nil, parF_cons, fgt_nil, fgt_cons, wpD_nil, wpD_cons, ite_tt, ite_ff, if_true, if_false, obind_some, gTup_tup, gTup_lst, gList_tup, gList_lst, gLen_tup, gLen_lst, gAdd_int, gSub_int, List.map_map]
    rfl
  simp only [sSeq_ap, sIf_ap, sNil_ap, sSet_ap, sRet_ap, sEx_ap, sPar_ap, sAsg_ap, sFgt_ap, sFor_ap, e1_ap, e2_ap, eL_ap, eC_ap, evs_nil, evs_cons, eTup_ap, eLstF_ap, eLstT_ap, eLcF_ap, eLc2F_ap, iA_ap, iZ_ap, tB_ap, tAnd_ap, tOr_ap, tNot_ap, tYes_ap, tV_ap, eSl_ap, oN_ap, oS_ap, eIf_ap, eM_ap, gN_ap, gsN_ap, gsC_ap, bind_ok, fl_ok, eVar_ap, sq_nx, sq_rt, sq_bk, sq_ct, fg_nx, fg_rt, fg_bk, fg_ct, oF_some, oH_some, slot_some, boolR_bl, intR_int, itA_tup, itA_str, itA_lst, itA_lsk, src_items, src_chk, itZ_lt, itZ_tl, itZ_ll, itZ_tt, truR_some, set0, setS, get0, getS, parF_nil, parF_cons, fgt_nil, fgt_cons, wpD_nil, wpD_cons, ite_tt, ite_ff, if_true, if_false, obind_some, gTup_tup, gTup_lst, gList_tup, gList_lst, gLen_tup, gLen_lst, gAdd_int, gSub_int, hp, hi]
  rw [lcL_map0 (enc := fun e => keyTup (encP e)) (out := fun e => D.int (M.b.getD e.1.1 0 * e.2 * M.e.getD e.1.2 0)) okS_nil S (by omega) fun e he => ⟨_, (gT_tup (ds := [.int (e.1.1 : Nat), .int (e.1.2 : Nat)]) rfl).trans (by simp only [sSeq_ap, sIf_ap, sNil_ap, sSet_ap, sRet_ap, sEx_ap, sPar_ap, sAsg_ap, sFgt_ap, sFor_ap, e1_ap, e2_ap, eL_ap, eC_ap, evs_nil, evs_cons, eTup_ap, eLstF_ap, eLstT_ap, eLcF_ap, eLc2F_ap, iA_ap, iZ_ap, tB_ap, tAnd_ap, tOr_ap, tNot_ap, tYes_ap, tV_ap, eSl_ap, oN_ap, oS_ap, eIf_ap, eM_ap, gN_ap, gsN_ap, gsC_ap, bind_ok, fl_ok, eVar_ap, sq_nx, sq_rt, sq_bk, sq_ct, fg_nx, fg_rt, fg_bk, fg_ct, oF_some, oH_some, slot_some, boolR_bl, intR_int, itA_tup, itA_str, itA_lst, itA_lsk, src_items, src_chk, itZ_lt, itZ_tl, itZ_ll, itZ_tt, truR_some, set0, setS, get0, getS, parF_nil, parF_cons, fgt_nil, fgt_cons, wpD_nil, wpD_cons, ite_tt, ite_ff, if_true, if_false, obind_some, gTup_tup, gTup_lst, gList_tup, gList_lst, gLen_tup, gLen_lst, gAdd_int, gSub_int]; rfl), ?_⟩]
  · have em : (S.map fun e => D.int (M.b.getD e.1.1 0 * e.2 * M.e.getD e.1.2 0)) = (S.map fun e => M.b.getD e.1.1 0 * e.2 * M.e.getD e.1.2 0).map D.int := by
      rw [List.map_map]
      rfl
    rw [em]
    simp only [sSeq_ap, sIf_ap, sNil_ap, sSet_ap, sRet_ap, sEx_ap, sPar_ap, sAsg_ap, sFgt_ap, sFor_ap, e1_ap, e2_ap, eL_ap, eC_ap, evs_nil, evs_cons, eTup_ap, eLstF_ap, eLstT_ap, eLcF_ap, eLc2F_ap, iA_ap, iZ_ap, tB_ap, tAnd_ap, tOr_ap, tNot_ap, tYes_ap, tV_ap, eSl_ap, oN_ap, oS_ap, eIf_ap, eM_ap, gN_ap, gsN_ap, gsC_ap, bind_ok, fl_ok, eVar_ap, sq_nx, sq_rt, sq_bk, sq_ct, fg_nx, fg_rt, fg_bk, fg_ct, oF_some, oH_some, slot_some, boolR_bl, intR_int, itA_tup, itA_str, itA_lst, itA_lsk, src_items, src_chk, itZ_lt, itZ_tl, itZ_ll, itZ_tt, truR_some, set0, setS, get0, getS, parF_nil, parF_cons, fgt_nil, fgt_cons, wpD_nil, wpD_cons, ite_tt, ite_ff, if_true, if_false, obind_some, gTup_tup, gTup_lst, gList_tup, gList_lst, gLen_tup, gLen_lst, gAdd_int, gSub_int, gSum_lst]
    have : (S.map fun e => M.b.getD e.1.1 0 * e.2 * M.e.getD e.1.2 0).sum = wsum M.b (fun q => M.e.getD q 0) S := rfl
    rw [this, ← hS, wsum_perm sort_perm, wsum_prices hM, ← dot_wdot]
    rfl
  · have hlt := hk2.lt e he
    have hmem : (e.1.1, e.1.2) ∈ S.map (·.1) := List.mem_map_of_mem (f := (·.1)) he
    have hv : getR S (e.1.1, e.1.2) = e.2 := get_mem hk2.nd he
    simp only [sSeq_ap, sIf_ap, sNil_ap, sSet_ap, sRet_ap, sEx_ap, sPar_ap, sAsg_ap, sFgt_ap, sFor_ap, e1_ap, e2_ap, eL_ap, eC_ap, evs_nil, evs_cons, eTup_ap, eLstF_ap, eLstT_ap, eLcF_ap, eLc2F_ap, iA_ap, iZ_ap, tB_ap, tAnd_ap, tOr_ap, tNot_ap, tYes_ap, tV_ap, eSl_ap, oN_ap, oS_ap, eIf_ap, eM_ap, gN_ap, gsN_ap, gsC_ap, bind_ok, fl_ok, eVar_ap, sq_nx, sq_rt, sq_bk, sq_ct, fg_nx, fg_rt, fg_bk, fg_ct, oF_some, oH_some, slot_some, boolR_bl, intR_int, itA_tup, itA_str, itA_lst, itA_lsk, src_items, src_chk, itZ_lt, itZ_tl, itZ_ll, itZ_tt, truR_some, set0, setS, get0, getS, parF_nil, parF_cons, fgt_nil, fgt_cons, wpD_nil, wpD_cons, ite_tt, ite_ff, if_true, if_false, obind_some, gTup_tup, gTup_lst, gList_tup, gList_lst, gLen_tup, gLen_lst, gAdd_int, gSub_int, md_b, md_e]
    rw [gIx_int_tup (row := M.b) (p := e.1.1) hlt.1]
    simp only [sSeq_ap, sIf_ap, sNil_ap, sSet_ap, sRet_ap, sEx_ap, sPar_ap, sAsg_ap, sFgt_ap, sFor_ap, e1_ap, e2_ap, eL_ap, eC_ap, evs_nil, evs_cons, eTup_ap, eLstF_ap, eLstT_ap, eLcF_ap, eLc2F_ap, iA_ap, iZ_ap, tB_ap, tAnd_ap, tOr_ap, tNot_ap, tYes_ap, tV_ap, eSl_ap, oN_ap, oS_ap, eIf_ap, eM_ap, gN_ap, gsN_ap, gsC_ap, bind_ok, fl_ok, eVar_ap, sq_nx, sq_rt, sq_bk, sq_ct, fg_nx, fg_rt, fg_bk, fg_ct, oF_some, oH_some, slot_some, boolR_bl, intR_int, itA_tup, itA_str, itA_lst, itA_lsk, src_items, src_chk, itZ_lt, itZ_tl, itZ_ll, itZ_tt, truR_some, set0, setS, get0, getS, parF_nil, parF_cons, fgt_nil, fgt_cons, wpD_nil, wpD_cons, ite_tt, ite_ff, if_true, if_false, obind_some, gTup_tup, gTup_lst, gList_tup, gList_lst, gLen_tup, gLen_lst, gAdd_int, gSub_int]
    rw [ixT_ok (p := e.1.1) (q := e.1.2) (L := S) rfl rfl rfl hmem, hv]
    simp only [sSeq_ap, sIf_ap, sNil_ap, sSet_ap, sRet_ap, sEx_ap, sPar_ap, sAsg_ap, sFgt_ap, sFor_ap, e1_ap, e2_ap, eL_ap, eC_ap, evs_nil, evs_cons, eTup_ap, eLstF_ap, eLstT_ap, eLcF_ap, eLc2F_ap, iA_ap, iZ_ap, tB_ap, tAnd_ap, tOr_ap, tNot_ap, tYes_ap, tV_ap, eSl_ap, oN_ap, oS_ap, eIf_ap, eM_ap, gN_ap, gsN_ap, gsC_ap, bind_ok, fl_ok, eVar_ap, sq_nx, sq_rt, sq_bk, sq_ct, fg_nx, fg_rt, fg_bk, fg_ct, oF_some, oH_some, slot_some, boolR_bl, intR_int, itA_tup, itA_str, itA_lst, itA_lsk, src_items, src_chk, itZ_lt, itZ_tl, itZ_ll, itZ_tt, truR_some, set0, setS, get0, getS, parF_nil, parF_cons, fgt_nil, fgt_cons, wpD_nil, wpD_cons, ite_tt, ite_ff, if_true, if_false, obind_some, gTup_tup, gTup_lst, gList_tup, gList_lst, gLen_tup, gLen_lst, gAdd_int, gSub_int]
    rw [gMulX_int (mulOk_l ((show Bd 20 _ from RB.getD hM.bb e.1.1).mono (by decide)))]
    simp only [sSeq_ap, sIf_ap, sNil_ap, sSet_ap, sRet_ap, sEx_ap, sPar_ap, sAsg_ap, sFgt_ap, sFor_ap, e1_ap, e2_ap, eL_ap, eC_ap, evs_nil, evs_cons, eTup_ap, eLstF_ap, eLstT_ap, eLcF_ap, eLc2F_ap, iA_ap, iZ_ap, tB_ap, tAnd_ap, tOr_ap, tNot_ap, tYes_ap, tV_ap, eSl_ap, oN_ap, oS_ap, eIf_ap, eM_ap, gN_ap, gsN_ap, gsC_ap, bind_ok, fl_ok, eVar_ap, sq_nx, sq_rt, sq_bk, sq_ct, fg_nx, fg_rt, fg_bk, fg_ct, oF_some, oH_some, slot_some, boolR_bl, intR_int, itA_tup, itA_str, itA_lst, itA_lsk, src_items, src_chk, itZ_lt, itZ_tl, itZ_ll, itZ_tt, truR_some, set0, setS, get0, getS, parF_nil, parF_cons, fgt_nil, fgt_cons, wpD_nil, wpD_cons, ite_tt, ite_ff, if_true, if_false, obind_some, gTup_tup, gTup_lst, gList_tup, gList_lst, gLen_tup, gLen_lst, gAdd_int, gSub_int, md_e]
    rw [gIx_int_tup (row := M.e) (p := e.1.2) (by omega)]
    simp only [sSeq_ap, sIf_ap, sNil_ap, sSet_ap, sRet_ap, sEx_ap, sPar_ap, sAsg_ap, sFgt_ap, sFor_ap, e1_ap, e2_ap, eL_ap, eC_ap, evs_nil, evs_cons, eTup_ap, eLstF_ap, eLstT_ap, eLcF_ap, eLc2F_ap, iA_ap, iZ_ap, tB_ap, tAnd_ap, tOr_ap, tNot_ap, tYes_ap, tV_ap, eSl_ap, oN_ap, oS_ap, eIf_ap, eM_ap, gN_ap, gsN_ap, gsC_ap, bind_ok, fl_ok, eVar_ap, sq_nx, sq_rt, sq_bk, sq_ct, fg_nx, fg_rt, fg_bk, fg_ct, oF_some, oH_some, slot_some, boolR_bl, intR_int, itA_tup, itA_str, itA_lst, itA_lsk, src_items, src_chk, itZ_lt, itZ_tl, itZ_ll, itZ_tt, truR_some, set0, setS, get0, getS, parF_nil, parF_cons, fgt_nil, fgt_cons, wpD_nil, wpD_cons, ite_tt, ite_ff, if_true, if_false, obind_some, gTup_tup, gTup_lst, gList_tup, gList_lst, gLen_tup, gLen_lst, gAdd_int, gSub_int]
    rw [gMulX_int (mulOk_r ((show Bd 20 _ from RB.getD hM.bd e.1.2).mono (by decide)))]
end
end K62

namespace K62
open PySem DL L2

/-! ### the value's law -/
def ten (x y : List Int) : List Int := x.flatMap fun a => y.map fun b => a * b
theorem ten_len {x y : List Int} : (ten x y).length = x.length * y.length := flat_len
theorem dot_app {a b c d : List Int} (h : a.length = c.length) : dot (a ++ b) (c ++ d) = dot a c + dot b d := by
  induction a generalizing c with
  | nil =>
    cases c with
    | nil => simp [dot]
    | cons x c => simp at h
  | cons x a ih =>
    cases c with
    | nil => simp at h
    | cons y c =>
      show x * y + dot (a ++ b) (c ++ d) = x * y + dot a c + dot b d
      rw [ih (by simpa using h)]
      omega
theorem dot_scale {x y : Int} : ∀ {a b : List Int}, dot (a.map fun z => x * z) (b.map fun z => y * z) = x * y * dot a b
  | [], b => by simp [dot]
  | p :: a, [] => by simp [dot]
  | p :: a, q :: b => by
    show x * p * (y * q) + dot (a.map _) (b.map _) = x * y * (p * q + dot a b)
    rw [dot_scale, Int.mul_add]
    congr 1
    rw [Int.mul_assoc, Int.mul_assoc, ← Int.mul_assoc p, Int.mul_comm p y, Int.mul_assoc]
theorem dot_ten {y v : List Int} (h : y.length = v.length) : ∀ {x u : List Int}, dot (ten x y) (ten u v) = dot x u * dot y v
  | [], u => by simp [ten, dot]
  | a :: x, [] => by
    have : ten [] v = [] := rfl
    rw [this]
    have e1 : ∀ l : List Int, dot l [] = 0 := fun l => by cases l <;> rfl
    rw [e1, e1]
    simp
  | a :: x, b :: u => by
    have e1 : ten (a :: x) y = (y.map fun z => a * z) ++ ten x y := by
      unfold ten
      rw [List.flatMap_cons]
    have e2 : ten (b :: u) v = (v.map fun z => b * z) ++ ten u v := by
      unfold ten
      rw [List.flatMap_cons]
    rw [e1, e2, dot_app (by rw [List.length_map, List.length_map, h]), dot_scale, dot_ten h]
    show _ = (a * b + dot x u) * dot y v
    rw [Int.add_mul]
section
variable {M N : Md} {z : Str}
theorem val_law (hM : M.Ok) (hN : N.Ok) : valF M N (trackF M N z) = weightF M z * dot (allF N z.length) N.e - weightF N z * dot (allF M z.length) M.e := by
  have hE : ends M N = ten M.e N.e := rfl
  have hT : trackF M N z = ten (sumsF M z) (allF N z.length) ++ ten (allF M z.length) (sumsF N z) := rfl
  have l1 : (ends M N).length = (ten (sumsF M z) (allF N z.length)).length := by
    rw [hE, ten_len, ten_len, sumsF_len, allF_len, hM.be, hN.be]
  unfold valF
  have e1 : dot (trackF M N z) (ends M N) = dot (ten (sumsF M z) (allF N z.length)) (ends M N) := by
    rw [hT, ← dot_take, l1, List.take_left]
  have e2 : (trackF M N z).drop (ends M N).length = ten (allF M z.length) (sumsF N z) := by
    rw [hT, l1, List.drop_left]
  rw [e1, e2, hE, dot_ten (by rw [allF_len, hN.be]), dot_ten (by rw [sumsF_len, hN.be])]
  unfold weightF
  rw [Int.mul_comm (dot (allF M z.length) M.e)]
end
/-! ### a letter more -/
/-- the sums after a letter depend linearly on those before -/
def stepC (t : Str → Bool) : List Arc → Nat → Nat → Int
  | [], _, _ => 0
  | a :: l, q, p => (if t a.l = true ∧ a.p = p ∧ a.q = q then a.w else 0) + stepC t l q p
theorem led_at {M : Md} {t : Str → Bool} {row : List Int} (hM : M.Ok) (hr : row.length = M.b.length) (q : Nat) (hq : q < M.b.length) : (ledF M t row).getD q 0 = wdot row (backT t (fun i => if q = i then 1 else 0) M.arcs) := by
  rw [← wdot_led hM hr, wdot_one, Int.mul_one]
end K62

namespace K62
open PySem DL L2

theorem wdot_dot : ∀ {r : List Int} {f : Nat → Int}, wdot r f = dot r ((List.range r.length).map f)
  | [], f => rfl
  | x :: r, f => by
    rw [List.length_cons, List.range_succ_eq_map, List.map_cons, List.map_map]
    show x * f 0 + wdot r (fun i => f (i + 1)) = x * f 0 + dot r _
    rw [wdot_dot (r := r)]
    rfl
theorem ten_l {y : List Int} : ∀ {x u : List Int}, x.length = u.length → (∀ i, i < x.length → ∀ b ∈ y, x.getD i 0 * b = u.getD i 0 * b) → ten x y = ten u y
  | [], [], _, _ => rfl
  | [], _ :: _, h, _ => by simp at h
  | _ :: _, [], h, _ => by simp at h
  | a :: x, b :: u, h, e => by
    have e0 := e 0 (by simp)
    have e1 : (y.map fun z => a * z) = y.map fun z => b * z := List.map_congr_left fun z hz => by simpa using e0 z hz
    show (a :: x).flatMap _ = (b :: u).flatMap _
    rw [List.flatMap_cons, List.flatMap_cons, e1]
    congr 1
    exact ten_l (by simpa using h) fun i hi c hc => by
      have := e (i + 1) (by simpa using hi) c hc
      simpa using this
theorem ten_r {y v : List Int} (h : y.length = v.length) : ∀ {x : List Int}, (∀ a ∈ x, ∀ j, j < y.length → a * y.getD j 0 = a * v.getD j 0) → ten x y = ten x v
  | [], _ => rfl
  | a :: x, e => by
    have e1 : ∀ {y v : List Int}, y.length = v.length → (∀ j, j < y.length → a * y.getD j 0 = a * v.getD j 0) → (y.map fun z => a * z) = v.map fun z => a * z := by
      intro y
      induction y with
      | nil =>
        intro v h _
        cases v with
        | nil => rfl
        | cons _ _ => simp at h
      | cons p y ih =>
        intro v h e
        cases v with
        | nil => simp at h
        | cons q v =>
          rw [List.map_cons, List.map_cons, ih (by simpa using h) fun j hj => by simpa using e (j + 1) (by simpa using hj)]
          have := e 0 (by simp)
          simp at this
          rw [this]
    show (a :: x).flatMap _ = (a :: x).flatMap _
    rw [List.flatMap_cons, List.flatMap_cons, e1 h (e a List.mem_cons_self)]
    congr 1
    exact ten_r h fun b hb => e b (List.mem_cons_of_mem _ hb)
theorem mem_getD {y : List Int} {b : Int} (h : b ∈ y) : ∃ j, j < y.length ∧ b = y.getD j 0 := by
  obtain ⟨j, hj, rfl⟩ := List.mem_iff_getElem.mp h
  refine ⟨j, hj, ?_⟩
  rw [List.getD_eq_getElem?_getD, List.getElem?_eq_getElem hj]
  rfl
section
variable {M N : Md}
theorem prod_at {t u : Str → Bool} {s A : List Int} (hM : M.Ok) (hN : N.Ok) (hs : s.length = M.b.length) (hA : A.length = N.b.length) {i j : Nat} (hi : i < M.b.length) (hj : j < N.b.length) :
    (ledF M t s).getD i 0 * (ledF N u A).getD j 0 = dot (ten s A) (ten ((List.range M.b.length).map (backT t (fun k => if i = k then 1 else 0) M.arcs)) ((List.range N.b.length).map (backT u (fun k => if j = k then 1 else 0) N.arcs))) := by
  rw [led_at hM hs i hi, led_at hN hA j hj, dot_ten (by rw [List.length_map, List.length_range, hA]), wdot_dot, wdot_dot, hs, hA]
theorem more_l {t u : Str → Bool} {s1 s2 A : List Int} (hM : M.Ok) (hN : N.Ok) (h1 : s1.length = M.b.length) (h2 : s2.length = M.b.length) (hA : A.length = N.b.length) (e : ten s1 A = ten s2 A) : ten (ledF M t s1) (ledF N u A) = ten (ledF M t s2) (ledF N u A) := by
  refine ten_l (by rw [ledF_len, ledF_len, h1, h2]) fun i hi b hb => ?_
  rw [ledF_len, h1] at hi
  obtain ⟨j, hj, rfl⟩ := mem_getD hb
  rw [ledF_len, hA] at hj
  rw [prod_at hM hN h1 hA hi hj, prod_at hM hN h2 hA hi hj, e]
theorem more_r {t u : Str → Bool} {s1 s2 A : List Int} (hM : M.Ok) (hN : N.Ok) (h1 : s1.length = N.b.length) (h2 : s2.length = N.b.length) (hA : A.length = M.b.length) (e : ten A s1 = ten A s2) : ten (ledF M u A) (ledF N t s1) = ten (ledF M u A) (ledF N t s2) := by
  refine ten_r (by rw [ledF_len, ledF_len, h1, h2]) fun a ha j hj => ?_
  rw [ledF_len, h1] at hj
  obtain ⟨i, hi, rfl⟩ := mem_getD ha
  rw [ledF_len, hA] at hi
  rw [prod_at hM hN hA h1 hi hj, prod_at hM hN hA h2 hi hj, e]
theorem walk_l (hM : M.Ok) (hN : N.Ok) : ∀ (ts us : List (Str → Bool)) (s1 s2 A : List Int), ts.length = us.length → s1.length = M.b.length → s2.length = M.b.length → A.length = N.b.length → ten s1 A = ten s2 A → ten (walkF M ts s1) (walkF N us A) = ten (walkF M ts s2) (walkF N us A)
  | [], [], s1, s2, A, _, _, _, _, e => e
  | [], _ :: _, _, _, _, h, _, _, _, _ => by simp at h
  | _ :: _, [], _, _, _, h, _, _, _, _ => by simp at h
  | t :: ts, u :: us, s1, s2, A, h, h1, h2, hA, e => walk_l hM hN ts us _ _ _ (by simpa using h) (by rw [ledF_len, h1]) (by rw [ledF_len, h2]) (by rw [ledF_len, hA]) (more_l hM hN h1 h2 hA e)
theorem walk_r (hM : M.Ok) (hN : N.Ok) : ∀ (ts us : List (Str → Bool)) (s1 s2 A : List Int), ts.length = us.length → s1.length = N.b.length → s2.length = N.b.length → A.length = M.b.length → ten A s1 = ten A s2 → ten (walkF M us A) (walkF N ts s1) = ten (walkF M us A) (walkF N ts s2)
  | [], [], s1, s2, A, _, _, _, _, e => e
  | [], _ :: _, _, _, _, h, _, _, _, _ => by simp at h
  | _ :: _, [], _, _, _, h, _, _, _, _ => by simp at h
  | t :: ts, u :: us, s1, s2, A, h, h1, h2, hA, e => walk_r hM hN ts us _ _ _ (by simpa using h) (by rw [ledF_len, h1]) (by rw [ledF_len, h2]) (by rw [ledF_len, hA]) (more_r hM hN h1 h2 hA e)
theorem chars_app (x y : Str) : chars (x ++ y) = chars x ++ chars y := by
  show ((x.cps ++ y.cps).toList.map fun c => (⟨#[c]⟩ : Str)) = _
  rw [Array.toList_append, List.map_append]
  rfl
theorem walk_app {ts us : List (Str → Bool)} {r : List Int} : walkF M (ts ++ us) r = walkF M us (walkF M ts r) := by
  unfold walkF
  rw [List.foldl_append]
theorem sums_app {x y : Str} : sumsF M (x ++ y) = walkF M ((chars y).map isL1) (sumsF M x) := by
  unfold sumsF
  rw [chars_app, List.map_append, walk_app]
theorem all_app {m n : Nat} : allF M (m + n) = walkF M (List.replicate n isAny) (allF M m) := by
  unfold allF
  rw [← List.replicate_append_replicate, walk_app]
theorem str_app_len (x y : Str) : (x ++ y).length = x.length + y.length := by
  rw [← chars_len, chars_app, List.length_append, chars_len, chars_len]
theorem track_more {x y l : Str} (hM : M.Ok) (hN : N.Ok) (hl : x.length = y.length) (e : trackF M N x = trackF M N y) : trackF M N (x ++ l) = trackF M N (y ++ l) := by
  have hx : ∀ w, trackF M N w = ten (sumsF M w) (allF N w.length) ++ ten (allF M w.length) (sumsF N w) := fun _ => rfl
  rw [hx, hx, ← hl] at e
  obtain ⟨e1, e2⟩ := List.append_inj e (by rw [ten_len, ten_len, sumsF_len, sumsF_len])
  rw [hx, hx, str_app_len, str_app_len, ← hl, sums_app, sums_app, sums_app, sums_app, all_app, all_app]
  rw [walk_l hM hN _ _ _ _ _ (by rw [List.length_map, chars_len, List.length_replicate]) sumsF_len sumsF_len allF_len e1, walk_r hM hN _ _ _ _ _ (by rw [List.length_map, chars_len, List.length_replicate]) sumsF_len sumsF_len allF_len e2]
end
end K62

namespace K62
open PySem DL L2 PyProof.Rows

theorem textFrom_up : ∀ (ts : List Str) (k : Nat) (acc : Str), (textFrom k acc ts).length ≤ acc.length + piled ts
  | [], k, acc => by
    show acc.length ≤ acc.length + _
    omega
  | t :: ts, k, acc => by
    have := textFrom_up ts (k + 1) (acc ++ (if k > 0 then ", " else "" : String) ++ t)
    rw [strLen_append, strLen_append] at this
    rw [piled_cons]
    have e2 : (((if k > 0 then ", " else "" : String) : Str)).length ≤ 2 := by split <;> decide
    show (textFrom (k + 1) _ ts).length ≤ _
    omega
theorem listText_up (ts : List Str) : (listText ts).length ≤ piled ts + 2 := by
  unfold listText
  rw [strLen_append]
  have := textFrom_up ts 0 "["
  have e1 : ((("[" : String) : Str)).length = 1 := rfl
  have e2 : ((("]" : String) : Str)).length = 1 := rfl
  omega
theorem tupleText_up (ts : List Str) : (tupleText ts).length ≤ piled ts + 3 := by
  unfold tupleText
  rw [strLen_append, strLen_append]
  have e1 : ((("(" : String) : Str)).length = 1 := rfl
  have e3 : (((if ts.length == 1 then ",)" else ")" : String) : Str)).length ≤ 2 := by split <;> decide
  rw [e1]
  by_cases h : ts = []
  · subst h
    have : (Str.join ", " []).length = 0 := rfl
    omega
  · have := join_length_add ts h
    omega
theorem shown_ints : ∀ {ns : List Int}, RB 1500 ns → piled (PyData.shownAll (D.pys (ns.map D.int))) ≤ 1503 * ns.length ∧ PyData.showableAll (D.pys (ns.map D.int)) = true
  | [], _ => ⟨Nat.le_refl _, rfl⟩
  | n :: ns, h => by
    obtain ⟨h1, h2⟩ := shown_ints (ns := ns) fun x hx => h x (List.mem_cons_of_mem _ hx)
    have hn := (h n List.mem_cons_self).log (by decide)
    have hl : (PyData.shown (.int n)).length ≤ 1501 := by
      have := int_text_length_le (a := n) (k := 1500) (by decide) hn
      show (Str.ofString (toString n)).length ≤ _
      rw [PySem.ofString_length]
      exact this
    constructor
    · show piled (PyData.shown (.int n) :: PyData.shownAll (D.pys (ns.map D.int))) ≤ _
      rw [piled_cons, List.length_cons]
      omega
    · show (decide (n.natAbs.log2 < 1920) && PyData.showableAll (D.pys (ns.map D.int))) = true
      rw [h2, Bool.and_true, decide_eq_true_eq]
      omega
theorem deq_refl {d : D} : deq d d = true := PySem.SeqAt.eqv_refl_plain d.py (D.py_plain d)
theorem alike_any {d : D} {h : AH} (hr : res d h = d) (hp : d.pure = true) (hd : d.dep ≤ 60) (hs : d.py.showable = true) (hl : d.py.shown.length ≤ 16777216) (H : PH h) : m_law_alike [d, d] h = .ok (.bl true) h := by
  refine fnB_0 ?_ rfl H
  show b_law_alike [some d, some d] h = _
  have ok : dok d = true := by
    unfold dok
    rw [hp, Bool.true_and]
    exact decide_eq_true hd
  have e1 : gEq true d d h = .ok (.bl true) h := by
    unfold gEq
    rw [hr, ok, if_pos (by rfl), deq_refl]
    rfl
  have e2 : gRepr [d] h = .ok (.str d.py.shown) h := by
    unfold gRepr
    simp only [hr]
    rw [if_pos (by rw [hp, hs, decide_eq_true hd, lenOk_le2 hl]; rfl)]
  have e3 : ∀ z : Str, gEq true (.str z) (.str z) h = .ok (.bl true) h := fun z => by
    rw [geq_str]
    simp
  unfold b_law_alike
  have ea : ∀ (f g : ME) (s : Sl), f s h = .ok (.bl true) h → g s h = .ok (.bl true) h → eAnd f g s h = .ok (.bl true) h := fun f g s h1 h2 => by
    unfold eAnd
    rw [h1, bind_ok]
    simp only [truD]
    rw [if_pos trivial, h2]
  rw [sRet_ap, ea _ _ _ (by simp only [sSeq_ap, sIf_ap, sNil_ap, sSet_ap, sRet_ap, sEx_ap, sPar_ap, sAsg_ap, sFgt_ap, sFor_ap, e1_ap, e2_ap, eL_ap, eC_ap, evs_nil, evs_cons, eTup_ap, eLstF_ap, eLstT_ap, eLcF_ap, eLc2F_ap, iA_ap, iZ_ap, tB_ap, tAnd_ap, tOr_ap, tNot_ap, tYes_ap, tV_ap, eSl_ap, oN_ap, oS_ap, eIf_ap, eM_ap, gN_ap, gsN_ap, gsC_ap, bind_ok, fl_ok, eVar_ap, sq_nx, sq_rt, sq_bk, sq_ct, fg_nx, fg_rt, fg_bk, fg_ct, oF_some, oH_some, slot_some, boolR_bl, intR_int, itA_tup, itA_str, itA_lst, itA_lsk, src_items, src_chk, itZ_lt, itZ_tl, itZ_ll, itZ_tt, truR_some, set0, setS, get0, getS, parF_nil, parF_cons, fgt_nil, fgt_cons, wpD_nil, wpD_cons, DL.ite_tt, DL.ite_ff, if_true, if_false, obind_some, gTup_tup, gTup_lst, gList_tup, gList_lst, gLen_tup, gLen_lst, gAdd_int, gSub_int, e1]) (by simp only [sSeq_ap, sIf_ap, sNil_ap, sSet_ap, sRet_ap, sEx_ap, sPar_ap, sAsg_ap, sFgt_ap, sFor_ap, e1_ap, e2_ap, eL_ap, eC_ap, evs_nil, evs_cons, eTup_ap, eLstF_ap, eLstT_ap, eLcF_ap, eLc2F_ap, iA_ap, iZ_ap, tB_ap, tAnd_ap, tOr_ap, tNot_ap, tYes_ap, tV_ap, eSl_ap, oN_ap, oS_ap, eIf_ap, eM_ap, gN_ap, gsN_ap, gsC_ap, bind_ok, fl_ok, eVar_ap, sq_nx, sq_rt, sq_bk, sq_ct, fg_nx, fg_rt, fg_bk, fg_ct, oF_some, oH_some, slot_some, boolR_bl, intR_int, itA_tup, itA_str, itA_lst, itA_lsk, src_items, src_chk, itZ_lt, itZ_tl, itZ_ll, itZ_tt, truR_some, set0, setS, get0, getS, parF_nil, parF_cons, fgt_nil, fgt_cons, wpD_nil, wpD_cons, DL.ite_tt, DL.ite_ff, if_true, if_false, obind_some, gTup_tup, gTup_lst, gList_tup, gList_lst, gLen_tup, gLen_lst, gAdd_int, gSub_int, e2, e3])]
  simp only [sSeq_ap, sIf_ap, sNil_ap, sSet_ap, sRet_ap, sEx_ap, sPar_ap, sAsg_ap, sFgt_ap, sFor_ap, e1_ap, e2_ap, eL_ap, eC_ap, evs_nil, evs_cons, eTup_ap, eLstF_ap, eLstT_ap, eLcF_ap, eLc2F_ap, iA_ap, iZ_ap, tB_ap, tAnd_ap, tOr_ap, tNot_ap, tYes_ap, tV_ap, eSl_ap, oN_ap, oS_ap, eIf_ap, eM_ap, gN_ap, gsN_ap, gsC_ap, bind_ok, fl_ok, eVar_ap, sq_nx, sq_rt, sq_bk, sq_ct, fg_nx, fg_rt, fg_bk, fg_ct, oF_some, oH_some, slot_some, boolR_bl, intR_int, itA_tup, itA_str, itA_lst, itA_lsk, src_items, src_chk, itZ_lt, itZ_tl, itZ_ll, itZ_tt, truR_some, set0, setS, get0, getS, parF_nil, parF_cons, fgt_nil, fgt_cons, wpD_nil, wpD_cons, DL.ite_tt, DL.ite_ff, if_true, if_false, obind_some, gTup_tup, gTup_lst, gList_tup, gList_lst, gLen_tup, gLen_lst, gAdd_int, gSub_int]
theorem alike_track {ns : List Int} {h : AH} (hb : RB 1500 ns) (hl : ns.length ≤ 200) (H : PH h) : m_law_alike [.tup (ns.map D.int), .tup (ns.map D.int)] h = .ok (.bl true) h := by
  obtain ⟨h1, h2⟩ := shown_ints hb
  refine alike_any rfl (by simp only [D.pure, pures_ints]) (by simp only [D.dep, deps_ints]; omega) h2 ?_ H
  have := tupleText_up (PyData.shownAll (D.pys (ns.map D.int)))
  show (tupleText (PyData.shownAll (D.pys (ns.map D.int)))).length ≤ _
  omega
theorem alike_list {ns : List Int} {h : AH} (hb : RB 1500 ns) (hl : ns.length ≤ 200) (H : PH h) : m_law_alike [.lst (ns.map D.int), .lst (ns.map D.int)] h = .ok (.bl true) h := by
  obtain ⟨h1, h2⟩ := shown_ints hb
  refine alike_any rfl (by simp only [D.pure, pures_ints]) (by simp only [D.dep, deps_ints]; omega) h2 ?_ H
  have := listText_up (PyData.shownAll (D.pys (ns.map D.int)))
  show (listText (PyData.shownAll (D.pys (ns.map D.int)))).length ≤ _
  omega
end K62

namespace K62
open PySem DL L2

/-- the bag's cell -/
def Bg (cs : List Int) (c : Cell) : Prop := cs.length ≤ 63 ∧ (∀ x ∈ cs, 0 ≤ x) ∧ ∃ a b d, 0 ≤ a ∧ 0 ≤ d ∧ c = .lst (bagD a b d cs)
section
variable {cs : List Int} {c : Cell} {t : AH}
theorem Bg.ph (h : Bg cs c) (H : PH t) : PH (c :: t) := fun x hx => by
  obtain ⟨_, _, a, b, d, _, _, rfl⟩ := h
  rcases List.mem_cons.mp hx with rfl | hx
  · exact ⟨_, rfl, bag_pure _ _ _ _⟩
  · exact H x hx
theorem take_c {many : Int} (h : Bg cs c) (H : PH t) (hm : 0 < many) (hm2 : Bd 64 many) : ∃ r c', Bg cs c' ∧ 0 ≤ r ∧ r < many ∧ m_law_take [.ref 0, .int many] (c :: t) = .ok (.int r) (c' :: t) := by
  have Hc := h.ph H
  obtain ⟨h1, h2, a, b, d, h3, h4, rfl⟩ := h
  obtain ⟨r, a', b', d', e1, e2, e3, e4, e5⟩ := take_ok (h := .lst (bagD a b d cs) :: t) (n := 0) (b := b) (by simp) Hc h1 h2 h3 h4 hm hm2
  exact ⟨r, _, ⟨h1, h2, a', b', d', e3, e4, rfl⟩, e1, e2, e5⟩
theorem fnB_c {n : Nat} {b : MS} {ds : List D} {c' : Cell} {d : D} (e : b (ds.map some ++ List.replicate (n - ds.length) none) (c :: t) = .rt d (c' :: t)) (p : d.pure = true) (H : PH (c' :: t)) : fnB n b ds (c :: t) = .ok d (c' :: t) := by
  have hl : (c' :: t).take (c :: t).length = c' :: t := by
    rw [show (c :: t).length = (c' :: t).length from rfl, List.take_length]
  have := fnB_rt (n := n) (b := b) (ds := ds) e p (by rw [hl]; exact H)
  rw [hl] at this
  exact this
theorem some_c {xs : List D} (h : Bg cs c) (H : PH t) (h0 : xs ≠ []) (hl : xs.length ≤ 1000) (hp : D.pures xs = true) : ∃ x c', Bg cs c' ∧ x ∈ xs ∧ m_law_some [.ref 0, .lst xs] (c :: t) = .ok x (c' :: t) := by
  have hpos : 0 < xs.length := List.length_pos_iff.mpr h0
  obtain ⟨r, c', hb, r0, r1, e⟩ := take_c (many := (xs.length : Int)) h H (by omega) (by unfold Bd; omega)
  have hr : r.toNat < xs.length := by omega
  refine ⟨xs[r.toNat], c', hb, List.getElem_mem hr, ?_⟩
  refine fnB_c ?_ ?_ (hb.ph H)
  · show b_law_some [some (.ref 0), some (.lst xs)] (c :: t) = _
    unfold b_law_some
    simp only [sSeq_ap, sIf_ap, sNil_ap, sSet_ap, sRet_ap, sEx_ap, sPar_ap, sAsg_ap, sFgt_ap, sFor_ap, e1_ap, e2_ap, eL_ap, eC_ap, evs_nil, evs_cons, eTup_ap, eLstF_ap, eLstT_ap, eLcF_ap, eLc2F_ap, iA_ap, iZ_ap, tB_ap, tAnd_ap, tOr_ap, tNot_ap, tYes_ap, tV_ap, eSl_ap, oN_ap, oS_ap, eIf_ap, eM_ap, gN_ap, gsN_ap, gsC_ap, bind_ok, fl_ok, eVar_ap, sq_nx, sq_rt, sq_bk, sq_ct, fg_nx, fg_rt, fg_bk, fg_ct, oF_some, oH_some, slot_some, boolR_bl, intR_int, itA_tup, itA_str, itA_lst, itA_lsk, src_items, src_chk, itZ_lt, itZ_tl, itZ_ll, itZ_tt, truR_some, set0, setS, get0, getS, parF_nil, parF_cons, fgt_nil, fgt_cons, wpD_nil, wpD_cons, DL.ite_tt, DL.ite_ff, if_true, if_false, obind_some, gTup_tup, gTup_lst, gList_tup, gList_lst, gLen_tup, gLen_lst, gAdd_int, gSub_int, e]
    rw [gIx_int (xs := xs) rfl r0 (List.getElem?_eq_getElem hr)]
    simp only [sSeq_ap, sIf_ap, sNil_ap, sSet_ap, sRet_ap, sEx_ap, sPar_ap, sAsg_ap, sFgt_ap, sFor_ap, e1_ap, e2_ap, eL_ap, eC_ap, evs_nil, evs_cons, eTup_ap, eLstF_ap, eLstT_ap, eLcF_ap, eLc2F_ap, iA_ap, iZ_ap, tB_ap, tAnd_ap, tOr_ap, tNot_ap, tYes_ap, tV_ap, eSl_ap, oN_ap, oS_ap, eIf_ap, eM_ap, gN_ap, gsN_ap, gsC_ap, bind_ok, fl_ok, eVar_ap, sq_nx, sq_rt, sq_bk, sq_ct, fg_nx, fg_rt, fg_bk, fg_ct, oF_some, oH_some, slot_some, boolR_bl, intR_int, itA_tup, itA_str, itA_lst, itA_lsk, src_items, src_chk, itZ_lt, itZ_tl, itZ_ll, itZ_tt, truR_some, set0, setS, get0, getS, parF_nil, parF_cons, fgt_nil, fgt_cons, wpD_nil, wpD_cons, DL.ite_tt, DL.ite_ff, if_true, if_false, obind_some, gTup_tup, gTup_lst, gList_tup, gList_lst, gLen_tup, gLen_lst, gAdd_int, gSub_int]
  · rw [D.pures_all, List.all_eq_true] at hp
    exact hp _ (List.getElem_mem hr)
theorem some_ints {xs : List Int} (h : Bg cs c) (H : PH t) (h0 : xs ≠ []) (hl : xs.length ≤ 1000) : ∃ x c', Bg cs c' ∧ x ∈ xs ∧ m_law_some [.ref 0, .lst (xs.map D.int)] (c :: t) = .ok (.int x) (c' :: t) := by
  obtain ⟨x, c', hb, hx, e⟩ := some_c h H (xs := xs.map D.int) (by simpa using h0) (by simpa using hl) (pures_ints _)
  obtain ⟨i, hi, rfl⟩ := List.mem_map.mp hx
  exact ⟨i, c', hb, hi, e⟩
end
end K62

namespace K62
open PySem DL L2

structure Gd (j : Nat) (M : Md) : Prop where
  pm : M.m.pure = true
  dm : M.m.dep ≤ 8
  be : M.b.length = M.e.length
  pos : 0 < M.b.length
  nb : M.b.length ≤ 2
  na : M.arcs.length ≤ 8 + j
  pq : ∀ a ∈ M.arcs, a.p < M.b.length ∧ a.q < M.b.length ∧ Bd (4 + 3 * j) a.w ∧ a.l.length = 1
  bb : ∀ x ∈ M.b, Bd (4 + 3 * j) x
  bd : ∀ x ∈ M.e, Bd (4 + 3 * j) x
theorem Gd.ok {j : Nat} {M : Md} (h : Gd j M) (hj : j ≤ 2) : M.Ok := by
  have := h.nb
  have := h.na
  exact ⟨h.pm, h.dm, h.be, h.pos, by omega, by omega, fun a ha => ⟨(h.pq a ha).1, (h.pq a ha).2.1, (h.pq a ha).2.2.1.mono (by omega), (h.pq a ha).2.2.2⟩, fun x hx => (h.bb x hx).mono (by omega), fun x hx => (h.bd x hx).mono (by omega)⟩
theorem Gd.up {j k : Nat} {M : Md} (h : Gd j M) (hj : j ≤ k) : Gd k M := by
  have := h.na
  exact ⟨h.pm, h.dm, h.be, h.pos, h.nb, by omega, fun a ha => ⟨(h.pq a ha).1, (h.pq a ha).2.1, (h.pq a ha).2.2.1.mono (by omega), (h.pq a ha).2.2.2⟩, fun x hx => (h.bb x hx).mono (by omega), fun x hx => (h.bd x hx).mono (by omega)⟩
theorem sorted_arcs {as : List Arc} {h : AH} {n : Nat} (hn : as.length ≤ 1000) {d : D} (hd : listAt d h = some (as.map Arc.d)) : ∃ bs : List Arc, bs.Perm as ∧ gSorted false [d] h = .ok (.lst (bs.map Arc.d)) h := by
  refine ⟨as.mergeSort fun a b => leD a.d b.d, List.mergeSort_perm _ _, ?_⟩
  unfold gSorted
  simp only [hd]
  have hp : D.pures (as.map Arc.d) = true := pures_map (f := Arc.d) (fun a => by simp [Arc.d, D.pure, D.pures]) as
  have hdp : D.deps (as.map Arc.d) ≤ 60 := deps_le fun d hd => by
    obtain ⟨a, _, rfl⟩ := List.mem_map.mp hd
    simp [Arc.d, D.dep, D.deps]
  have ha : alikeL ((as.map Arc.d).map D.py) = true := by
    unfold alikeL
    rw [List.all_eq_true]
    intro x hx
    rw [List.all_eq_true]
    intro y hy
    rw [List.map_map] at hx hy
    obtain ⟨a, _, rfl⟩ := List.mem_map.mp hx
    obtain ⟨b, _, rfl⟩ := List.mem_map.mp hy
    rfl
  have hs : sortableL ((as.map Arc.d).map D.py) = true := by
    unfold sortableL
    rw [Bool.or_eq_true]
    left
    rw [List.all_eq_true]
    intro x hx
    rw [List.map_map] at hx
    obtain ⟨a, _, rfl⟩ := List.mem_map.mp hx
    rfl
  rw [if_pos (by rw [hp, ha, hs, decide_eq_true hdp, lenOk_le2 (by rw [List.length_map]; omega)]; rfl)]
  unfold mkL
  rw [if_neg (by decide)]
  congr 2
  exact (List.map_mergeSort (r := fun a b : Arc => leD a.d b.d) (s := leD) (f := Arc.d) (fun _ _ _ _ => rfl)).symm
end K62

namespace K62
open PySem DL L2

section
variable {cs : List Int}
def AOk (n j : Nat) (as : List Arc) : Prop := ∀ a ∈ as, a.p < n ∧ a.q < n ∧ Bd j a.w ∧ a.l.length = 1
abbrev smS (x1 : Option D) (ls : List Str) (n : Nat) (ev : Bool) (x6 x7 x8 : Option D) : Sl := [some (.ref 0), x1, some (.lst (ls.map D.str)), some (.int (n : Nat)), some (.ref 1), some (.bl ev), x6, x7, x8, none, none, none]
def HA (cs : List Int) (n k : Nat) (h : AH) : Prop := ∃ c as, Bg cs c ∧ h = [c, .lst (as.map Arc.d)] ∧ as.length ≤ k ∧ AOk n 4 as
theorem PH1 {as : List Arc} : PH [.lst (as.map Arc.d)] := fun x hx => by
  rw [List.mem_singleton.mp hx]
  exact ⟨_, rfl, pures_map (f := Arc.d) (fun a => by simp [Arc.d, D.pure, D.pures]) as⟩
theorem q_step {n : Nat} {ev : Bool} {x1 : Option D} {ls : List Str} {p q k : Nat} {l : Str} {h : AH} (hp : p < n) (hq : q < n) (hl : l.length = 1) (hk : k ≤ 100) (hh : HA cs n k h) :
    ∃ h2, (sFgt [8] (sIf (tAndM (tB_ (e2 gGt (eL m_law_take [(eVar 0), (eC (.int 3))]) (eC (.int 0)))) (tOrM (tNotM (tV (eVar 5))) (tB_ (e2 (gEq false) (eVar 6) (eVar 8))))) (sEx (eM isL mAppend (eVar 4) [(eTup [(eVar 6), (eVar 7), (eVar 8), (eL m_law_some [(eVar 0), (eLst false [(eC (.int 1)), (eC (.int 1)), (eC (.int 2)), (eC (.int 3)), (eC (.int 7))])])])])) sNil))
      (smS x1 ls n ev (some (.int (p : Nat))) (some (.str l)) (some (.int (q : Nat)))) h = .nx (smS x1 ls n ev (some (.int (p : Nat))) (some (.str l)) none) h2 ∧ HA cs n (k + 1) h2 := by
  obtain ⟨c, as, hc, rfl, hlen, hok⟩ := hh
  obtain ⟨r, c1, hc1, r0, r1, e1⟩ := take_c (many := 3) hc (PH1 (as := as)) (by decide) (bd_lit (by decide))
  obtain ⟨w, c2, hc2, hw, e2⟩ := some_ints (xs := [1, 1, 2, 3, 7]) hc1 (PH1 (as := as)) (by simp) (by simp)
  have hbw : Bd 4 w := by
    simp only [List.mem_cons, List.not_mem_nil, or_false] at hw
    unfold Bd
    rcases hw with rfl | rfl | rfl | rfl | rfl <;> decide
  have e2' : m_law_some [.ref 0, .lst [.int 1, .int 1, .int 2, .int 3, .int 7]] [c1, .lst (as.map Arc.d)] = .ok (.int w) [c2, .lst (as.map Arc.d)] := e2
  have hap : mAppend (.ref 1) [.tup [.int (p : Nat), .str l, .int (q : Nat), .int w]] [c2, .lst (as.map Arc.d)] = .ok .non [c2, .lst ((as ++ [Arc.mk p l q w]).map Arc.d)] := by
    have := app_ok (h := [c2]) (n := 1) (xs := as.map Arc.d) (y := .tup [.int (p : Nat), .str l, .int (q : Nat), .int w]) rfl (by rw [List.length_map]; omega)
    rw [List.map_append]
    exact this
  have hil : isL (.ref 1) [c1, .lst (as.map Arc.d)] = true := isL_ref rfl
  have ct : ∀ b : Bool, truD (.bl b) [c1, .lst (as.map Arc.d)] = some b := fun _ => rfl
  have good : HA cs n (k + 1) [c2, .lst ((as ++ [Arc.mk p l q w]).map Arc.d)] := ⟨c2, _, hc2, rfl, by rw [List.length_append, List.length_singleton]; omega, fun a ha => by
    rcases List.mem_append.mp ha with ha | ha
    · exact hok a ha
    · rw [List.mem_singleton.mp ha]
      exact ⟨hp, hq, hbw, hl⟩⟩
  have same : HA cs n (k + 1) [c1, .lst (as.map Arc.d)] := ⟨c1, as, hc1, rfl, by omega, hok⟩
  have cond : ∃ b : Bool, (tAndM (tB_ (DL.e2 gGt (eL m_law_take [(eVar 0), (eC (.int 3))]) (eC (.int 0)))) (tOrM (tNotM (tV (eVar 5))) (tB_ (DL.e2 (gEq false) (eVar 6) (eVar 8))))) (smS x1 ls n ev (some (.int (p : Nat))) (some (.str l)) (some (.int (q : Nat)))) [c, .lst (as.map Arc.d)] = .ok b [c1, .lst (as.map Arc.d)] := by
    simp only [sSeq_ap, sIf_ap, sNil_ap, sSet_ap, sRet_ap, sEx_ap, sPar_ap, sAsg_ap, sFgt_ap, sFor_ap, e1_ap, e2_ap, eL_ap, eC_ap, evs_nil, evs_cons, eTup_ap, eLstF_ap, eLstT_ap, eLcF_ap, eLc2F_ap, iA_ap, iZ_ap, tB_ap, tAnd_ap, tOr_ap, tNot_ap, tYes_ap, tV_ap, eSl_ap, oN_ap, oS_ap, eIf_ap, eM_ap, gN_ap, gsN_ap, gsC_ap, bind_ok, fl_ok, eVar_ap, sq_nx, sq_rt, sq_bk, sq_ct, fg_nx, fg_rt, fg_bk, fg_ct, oF_some, oH_some, slot_some, boolR_bl, intR_int, itA_tup, itA_str, itA_lst, itA_lsk, src_items, src_chk, itZ_lt, itZ_tl, itZ_ll, itZ_tt, truR_some, set0, setS, get0, getS, parF_nil, parF_cons, fgt_nil, fgt_cons, wpD_nil, wpD_cons, DL.ite_tt, DL.ite_ff, if_true, if_false, obind_some, gTup_tup, gTup_lst, gList_tup, gList_lst, gLen_tup, gLen_lst, gAdd_int, gSub_int, e1, gCmp, gne_int, ct]
    generalize decide ((p : Int) = (q : Int)) = zz
    cases decide (0 < r) <;> cases ev <;> cases zz <;> simp [bind_ok]
  obtain ⟨b, cond⟩ := cond
  rw [sFgt_ap, sIf_ap, cond, fl_ok]
  cases b with
  | true =>
    refine ⟨_, ?_, good⟩
    simp only [sSeq_ap, sIf_ap, sNil_ap, sSet_ap, sRet_ap, sEx_ap, sPar_ap, sAsg_ap, sFgt_ap, sFor_ap, e1_ap, e2_ap, eL_ap, eC_ap, evs_nil, evs_cons, eTup_ap, eLstF_ap, eLstT_ap, eLcF_ap, eLc2F_ap, iA_ap, iZ_ap, tB_ap, tAnd_ap, tOr_ap, tNot_ap, tYes_ap, tV_ap, eSl_ap, oN_ap, oS_ap, eIf_ap, eM_ap, gN_ap, gsN_ap, gsC_ap, bind_ok, fl_ok, eVar_ap, sq_nx, sq_rt, sq_bk, sq_ct, fg_nx, fg_rt, fg_bk, fg_ct, oF_some, oH_some, slot_some, boolR_bl, intR_int, itA_tup, itA_str, itA_lst, itA_lsk, src_items, src_chk, itZ_lt, itZ_tl, itZ_ll, itZ_tt, truR_some, set0, setS, get0, getS, parF_nil, parF_cons, fgt_nil, fgt_cons, wpD_nil, wpD_cons, DL.ite_tt, DL.ite_ff, if_true, if_false, obind_some, gTup_tup, gTup_lst, gList_tup, gList_lst, gLen_tup, gLen_lst, gAdd_int, gSub_int, hil, e2', hap]
  | false =>
    refine ⟨_, ?_, same⟩
    simp only [sSeq_ap, sIf_ap, sNil_ap, sSet_ap, sRet_ap, sEx_ap, sPar_ap, sAsg_ap, sFgt_ap, sFor_ap, e1_ap, e2_ap, eL_ap, eC_ap, evs_nil, evs_cons, eTup_ap, eLstF_ap, eLstT_ap, eLcF_ap, eLc2F_ap, iA_ap, iZ_ap, tB_ap, tAnd_ap, tOr_ap, tNot_ap, tYes_ap, tV_ap, eSl_ap, oN_ap, oS_ap, eIf_ap, eM_ap, gN_ap, gsN_ap, gsC_ap, bind_ok, fl_ok, eVar_ap, sq_nx, sq_rt, sq_bk, sq_ct, fg_nx, fg_rt, fg_bk, fg_ct, oF_some, oH_some, slot_some, boolR_bl, intR_int, itA_tup, itA_str, itA_lst, itA_lsk, src_items, src_chk, itZ_lt, itZ_tl, itZ_ll, itZ_tt, truR_some, set0, setS, get0, getS, parF_nil, parF_cons, fgt_nil, fgt_cons, wpD_nil, wpD_cons, DL.ite_tt, DL.ite_ff, if_true, if_false, obind_some, gTup_tup, gTup_lst, gList_tup, gList_lst, gLen_tup, gLen_lst, gAdd_int, gSub_int]
    try rfl
end
end K62

namespace K62
open PySem DL L2

section
variable {cs : List Int}
theorem q_loop {n : Nat} {ev : Bool} {x1 : Option D} {ls : List Str} {p k : Nat} {l : Str} {h : AH} (hp : p < n) (hn : n ≤ 2) (hl : l.length = 1) (hk : k ≤ 90) (hh : HA cs n k h) :
    ∃ h2, forL [] (gN 8) (sFgt [8] (sIf (tAndM (tB_ (e2 gGt (eL m_law_take [(eVar 0), (eC (.int 3))]) (eC (.int 0)))) (tOrM (tNotM (tV (eVar 5))) (tB_ (e2 (gEq false) (eVar 6) (eVar 8))))) (sEx (eM isL mAppend (eVar 4) [(eTup [(eVar 6), (eVar 7), (eVar 8), (eL m_law_some [(eVar 0), (eLst false [(eC (.int 1)), (eC (.int 1)), (eC (.int 2)), (eC (.int 3)), (eC (.int 7))])])])])) sNil)) ((List.range n).map fun (i : Nat) => D.int (i : Int))
      (smS x1 ls n ev (some (.int (p : Nat))) (some (.str l)) none) h = .nx (smS x1 ls n ev (some (.int (p : Nat))) (some (.str l)) none) h2 ∧ HA cs n (k + n) h2 := by
  obtain ⟨s2, h2, e, e3, e4⟩ := forL_inv (chk := []) (g := gN 8) (body := (sFgt [8] (sIf (tAndM (tB_ (e2 gGt (eL m_law_take [(eVar 0), (eC (.int 3))]) (eC (.int 0)))) (tOrM (tNotM (tV (eVar 5))) (tB_ (e2 (gEq false) (eVar 6) (eVar 8))))) (sEx (eM isL mAppend (eVar 4) [(eTup [(eVar 6), (eVar 7), (eVar 8), (eL m_law_some [(eVar 0), (eLst false [(eC (.int 1)), (eC (.int 1)), (eC (.int 2)), (eC (.int 3)), (eC (.int 7))])])])])) sNil)))
    (fun i s h => s = smS x1 ls n ev (some (.int (p : Nat))) (some (.str l)) none ∧ HA cs n (k + i) h) (fun _ _ _ _ => okS_nil) ((List.range n).map fun (i : Nat) => D.int (i : Int)) 0 _ h ⟨rfl, hh⟩ (by
    rintro j d s h hj ⟨rfl, hP⟩
    rw [List.getElem?_map] at hj
    obtain ⟨i, hi, rfl⟩ := Option.map_eq_some_iff.mp hj
    obtain ⟨hlt, hi⟩ := List.getElem?_eq_some_iff.mp hi
    rw [List.length_range] at hlt
    rw [List.getElem_range] at hi
    subst hi
    obtain ⟨h2, e, hP2⟩ := q_step (x1 := x1) (ls := ls) (ev := ev) hp hlt hl (by omega) hP
    exact ⟨_, rfl, _, h2, .inl e, rfl, hP2⟩)
  refine ⟨h2, ?_, ?_⟩
  · rw [e, e3]
  · simpa using e4
theorem l_loop {n : Nat} {ev : Bool} {x1 : Option D} {ls : List Str} {p k : Nat} {h : AH} (hp : p < n) (hn : n ≤ 2) (hls : ls.length ≤ 2) (hl : ∀ l ∈ ls, l.length = 1) (hk : k ≤ 50) (hh : HA cs n k h) :
    ∃ h2, forL [] (gN 7) (sFgt [7, 8] (sFor (iR1 (eVar 3)) (gN 8) (sFgt [8] (sIf (tAndM (tB_ (e2 gGt (eL m_law_take [(eVar 0), (eC (.int 3))]) (eC (.int 0)))) (tOrM (tNotM (tV (eVar 5))) (tB_ (e2 (gEq false) (eVar 6) (eVar 8))))) (sEx (eM isL mAppend (eVar 4) [(eTup [(eVar 6), (eVar 7), (eVar 8), (eL m_law_some [(eVar 0), (eLst false [(eC (.int 1)), (eC (.int 1)), (eC (.int 2)), (eC (.int 3)), (eC (.int 7))])])])])) sNil)))) (ls.map D.str)
      (smS x1 ls n ev (some (.int (p : Nat))) none none) h = .nx (smS x1 ls n ev (some (.int (p : Nat))) none none) h2 ∧ HA cs n (k + n * ls.length) h2 := by
  obtain ⟨s2, h2, e, e3, e4⟩ := forL_inv (chk := []) (g := gN 7) (body := (sFgt [7, 8] (sFor (iR1 (eVar 3)) (gN 8) (sFgt [8] (sIf (tAndM (tB_ (e2 gGt (eL m_law_take [(eVar 0), (eC (.int 3))]) (eC (.int 0)))) (tOrM (tNotM (tV (eVar 5))) (tB_ (e2 (gEq false) (eVar 6) (eVar 8))))) (sEx (eM isL mAppend (eVar 4) [(eTup [(eVar 6), (eVar 7), (eVar 8), (eL m_law_some [(eVar 0), (eLst false [(eC (.int 1)), (eC (.int 1)), (eC (.int 2)), (eC (.int 3)), (eC (.int 7))])])])])) sNil)))))
    (fun i s h => s = smS x1 ls n ev (some (.int (p : Nat))) none none ∧ HA cs n (k + n * i) h) (fun _ _ _ _ => okS_nil) (ls.map D.str) 0 _ h ⟨rfl, by simpa using hh⟩ (by
    rintro j d s h hj ⟨rfl, hP⟩
    rw [List.getElem?_map] at hj
    obtain ⟨l, hi, rfl⟩ := Option.map_eq_some_iff.mp hj
    obtain ⟨hlt, hi⟩ := List.getElem?_eq_some_iff.mp hi
    have hb : n * (0 + j) ≤ 2 * 2 := Nat.mul_le_mul hn (by omega)
    obtain ⟨h2, e, hP2⟩ := q_loop (x1 := x1) (ls := ls) (ev := ev) (l := l) hp hn (hl l (by rw [← hi]; exact List.getElem_mem hlt)) (by omega) hP
    refine ⟨smS x1 ls n ev (some (.int (p : Nat))) (some (.str l)) none, rfl, smS x1 ls n ev (some (.int (p : Nat))) none none, h2, .inl ?_, rfl, ?_⟩
    · rw [sFgt_ap, sFor_ap, iR1_ok (n := n) (h1 := h) rfl (by omega), fl_ok]
      simp only [src_chk, src_items]
      rw [e]
      simp only [sSeq_ap, sIf_ap, sNil_ap, sSet_ap, sRet_ap, sEx_ap, sPar_ap, sAsg_ap, sFgt_ap, sFor_ap, e1_ap, e2_ap, eL_ap, eC_ap, evs_nil, evs_cons, eTup_ap, eLstF_ap, eLstT_ap, eLcF_ap, eLc2F_ap, iA_ap, iZ_ap, tB_ap, tAnd_ap, tOr_ap, tNot_ap, tYes_ap, tV_ap, eSl_ap, oN_ap, oS_ap, eIf_ap, eM_ap, gN_ap, gsN_ap, gsC_ap, bind_ok, fl_ok, eVar_ap, sq_nx, sq_rt, sq_bk, sq_ct, fg_nx, fg_rt, fg_bk, fg_ct, oF_some, oH_some, slot_some, boolR_bl, intR_int, itA_tup, itA_str, itA_lst, itA_lsk, src_items, src_chk, itZ_lt, itZ_tl, itZ_ll, itZ_tt, truR_some, set0, setS, get0, getS, parF_nil, parF_cons, fgt_nil, fgt_cons, wpD_nil, wpD_cons, DL.ite_tt, DL.ite_ff, if_true, if_false, obind_some, gTup_tup, gTup_lst, gList_tup, gList_lst, gLen_tup, gLen_lst, gAdd_int, gSub_int]
    · rw [Nat.mul_add, Nat.mul_one, ← Nat.add_assoc]
      exact hP2)
  refine ⟨h2, ?_, ?_⟩
  · rw [e, e3]
  · simpa using e4
end
end K62

namespace K62
open PySem DL L2

section
variable {cs : List Int}
theorem p_loop {n : Nat} {ev : Bool} {x1 : Option D} {ls : List Str} {h : AH} (hn : n ≤ 2) (hls : ls.length ≤ 2) (hl : ∀ l ∈ ls, l.length = 1) (hh : HA cs n 0 h) :
    ∃ h2, forL [] (gN 6) (sFgt [6, 7, 8] (sFor (iA (eVar 2)) (gN 7) (sFgt [7, 8] (sFor (iR1 (eVar 3)) (gN 8) (sFgt [8] (sIf (tAndM (tB_ (e2 gGt (eL m_law_take [(eVar 0), (eC (.int 3))]) (eC (.int 0)))) (tOrM (tNotM (tV (eVar 5))) (tB_ (e2 (gEq false) (eVar 6) (eVar 8))))) (sEx (eM isL mAppend (eVar 4) [(eTup [(eVar 6), (eVar 7), (eVar 8), (eL m_law_some [(eVar 0), (eLst false [(eC (.int 1)), (eC (.int 1)), (eC (.int 2)), (eC (.int 3)), (eC (.int 7))])])])])) sNil)))))) ((List.range n).map fun (i : Nat) => D.int (i : Int))
      (smS x1 ls n ev none none none) h = .nx (smS x1 ls n ev none none none) h2 ∧ HA cs n 8 h2 := by
  obtain ⟨s2, h2, e, e3, e4⟩ := forL_inv (chk := []) (g := gN 6) (body := (sFgt [6, 7, 8] (sFor (iA (eVar 2)) (gN 7) (sFgt [7, 8] (sFor (iR1 (eVar 3)) (gN 8) (sFgt [8] (sIf (tAndM (tB_ (e2 gGt (eL m_law_take [(eVar 0), (eC (.int 3))]) (eC (.int 0)))) (tOrM (tNotM (tV (eVar 5))) (tB_ (e2 (gEq false) (eVar 6) (eVar 8))))) (sEx (eM isL mAppend (eVar 4) [(eTup [(eVar 6), (eVar 7), (eVar 8), (eL m_law_some [(eVar 0), (eLst false [(eC (.int 1)), (eC (.int 1)), (eC (.int 2)), (eC (.int 3)), (eC (.int 7))])])])])) sNil)))))))
    (fun i s h => s = smS x1 ls n ev none none none ∧ HA cs n (i * 4) h) (fun _ _ _ _ => okS_nil) ((List.range n).map fun (i : Nat) => D.int (i : Int)) 0 _ h ⟨rfl, by simpa using hh⟩ (by
    rintro j d s h hj ⟨rfl, hP⟩
    rw [List.getElem?_map] at hj
    obtain ⟨i, hi, rfl⟩ := Option.map_eq_some_iff.mp hj
    obtain ⟨hlt, hi⟩ := List.getElem?_eq_some_iff.mp hi
    rw [List.length_range] at hlt
    rw [List.getElem_range] at hi
    subst hi
    obtain ⟨h2, e, c, as, hc, eh, hlen, hok⟩ := l_loop (x1 := x1) (ls := ls) (ev := ev) hlt hn hls hl (by omega) hP
    have hb : n * ls.length ≤ 2 * 2 := Nat.mul_le_mul hn hls
    refine ⟨smS x1 ls n ev (some (.int (j : Nat))) none none, rfl, smS x1 ls n ev none none none, h2, .inl ?_, rfl, c, as, hc, eh, by omega, hok⟩
    rw [sFgt_ap, sFor_ap, show iA (eVar 2) (smS x1 ls n ev (some (.int (j : Nat))) none none) h = .ok ⟨ls.map D.str, []⟩ h from rfl, fl_ok]
    simp only [src_chk, src_items]
    rw [e]
    simp only [sSeq_ap, sIf_ap, sNil_ap, sSet_ap, sRet_ap, sEx_ap, sPar_ap, sAsg_ap, sFgt_ap, sFor_ap, e1_ap, e2_ap, eL_ap, eC_ap, evs_nil, evs_cons, eTup_ap, eLstF_ap, eLstT_ap, eLcF_ap, eLc2F_ap, iA_ap, iZ_ap, tB_ap, tAnd_ap, tOr_ap, tNot_ap, tYes_ap, tV_ap, eSl_ap, oN_ap, oS_ap, eIf_ap, eM_ap, gN_ap, gsN_ap, gsC_ap, bind_ok, fl_ok, eVar_ap, sq_nx, sq_rt, sq_bk, sq_ct, fg_nx, fg_rt, fg_bk, fg_ct, oF_some, oH_some, slot_some, boolR_bl, intR_int, itA_tup, itA_str, itA_lst, itA_lsk, src_items, src_chk, itZ_lt, itZ_tl, itZ_ll, itZ_tt, truR_some, set0, setS, get0, getS, parF_nil, parF_cons, fgt_nil, fgt_cons, wpD_nil, wpD_cons, DL.ite_tt, DL.ite_ff, if_true, if_false, obind_some, gTup_tup, gTup_lst, gList_tup, gList_lst, gLen_tup, gLen_lst, gAdd_int, gSub_int])
  obtain ⟨c, as, hc, eh, hlen, hok⟩ := e4
  refine ⟨h2, ?_, c, as, hc, eh, ?_, hok⟩
  · rw [e, e3]
  · rw [List.length_map, List.length_range] at hlen
    omega
/-- ints drawn from the bag, one for each turn -/
theorem draws {f : ME} {s : Sl} {g : MG} {xs : List Int} {t : AH} (H : PH t) (hs : ∀ (d : D) c, Bg cs c → ∃ s1, g d s = some s1 ∧ ∃ x c', Bg cs c' ∧ x ∈ xs ∧ f s1 (c :: t) = .ok (.int x) (c' :: t)) : ∀ (l : List D) (acc : List Int) (c : Cell), Bg cs c → acc.length + l.length ≤ 1000 →
    ∃ (ys : List Int) (c' : Cell), Bg cs c' ∧ (∀ y ∈ ys, y ∈ xs) ∧ ys.length = l.length ∧ lcL [] g tYesM f s l (acc.map D.int) (c :: t) = .ok ((acc ++ ys).map D.int) (c' :: t)
  | [], acc, c, hc, _ => ⟨[], c, hc, (fun _ h => nomatch h), rfl, by
    unfold lcL
    rw [if_pos okS_nil, List.append_nil]⟩
  | d :: l, acc, c, hc, hl => by
    rw [List.length_cons] at hl
    obtain ⟨s1, e1, x, c1, hc1, hx, e2⟩ := hs d c hc
    obtain ⟨ys, c2, hc2, hy, hlen, e3⟩ := draws H hs l (acc ++ [x]) c1 hc1 (by rw [List.length_append, List.length_singleton]; omega)
    refine ⟨x :: ys, c2, hc2, ?_, by rw [List.length_cons, List.length_cons, hlen], ?_⟩
    · intro y hy'
      rcases List.mem_cons.mp hy' with rfl | hy'
      · exact hx
      · exact hy y hy'
    · unfold lcL
      rw [if_pos okS_nil, e1]
      simp only [tYes_ap, e2]
      rw [if_pos (lenOk_le2 (by rw [List.length_map]; omega))]
      rw [List.map_append, List.append_assoc] at e3
      exact e3
end
end K62

namespace K62
open PySem DL L2

section
variable {cs : List Int} {c : Cell}
def letA : Str := Str.ofString "a"
def letB : Str := Str.ofString "b"
def letX : Str := Str.ofString "x"
theorem pick_letters {t : AH} (h : Bg cs c) (H : PH t) : ∃ (ls : List Str) (c' : Cell), Bg cs c' ∧ ls.length ≤ 2 ∧ (∀ l ∈ ls, l.length = 1) ∧
    m_law_some [.ref 0, .lst [.lst [.str letA, .str letB], .lst [.str letA, .str letB], .lst [.str letA], .lst [.str letB, .str letX]]] (c :: t) = .ok (.lst (ls.map D.str)) (c' :: t) := by
  obtain ⟨x, c', hc, hx, e⟩ := some_c h H (xs := [.lst [.str letA, .str letB], .lst [.str letA, .str letB], .lst [.str letA], .lst [.str letB, .str letX]]) (by simp) (by simp) rfl
  simp only [List.mem_cons, List.not_mem_nil, or_false] at hx
  have la : letA.length = 1 := rfl
  have lb : letB.length = 1 := rfl
  have lx : letX.length = 1 := rfl
  rcases hx with rfl | rfl | rfl | rfl
  · exact ⟨[letA, letB], c', hc, by simp, by simp [la, lb], e⟩
  · exact ⟨[letA, letB], c', hc, by simp, by simp [la, lb], e⟩
  · exact ⟨[letA], c', hc, by simp, by simp [la], e⟩
  · exact ⟨[letB, letX], c', hc, by simp, by simp [lb, lx], e⟩
theorem zeros_tup {n : Nat} {h : AH} (hn : n ≤ 2) (h0 : 0 < n) : gMulX false (.tup [.int 0]) (.int ((n : Int) - 1)) h = .ok (.tup ((List.replicate (n - 1) (0 : Int)).map D.int)) h := by
  have : n = 1 ∨ n = 2 := by omega
  unfold gMulX gMulT
  simp only
  rcases this with rfl | rfl
  · rw [if_pos (by decide)]
    rfl
  · rw [if_pos (by decide)]
    rfl
theorem mem_bd4 {x : Int} {xs : List Int} (h : x ∈ xs) (ha : ∀ y ∈ xs, Bd 4 y) : Bd 4 x := ha x h
theorem small_c {most : Nat} (h : Bg cs c) (hm : most = 1 ∨ most = 2) : ∃ (M : Md) (c' : Cell), Bg cs c' ∧ Gd 0 M ∧ m_law_small_model [.ref 0, .int (most : Nat)] [c] = .ok M.d [c'] := by
  obtain ⟨ls, c1, h1, l1, l2, e1⟩ := pick_letters h PH.nil
  obtain ⟨r, c2, h2, r0, r1, e2⟩ := take_c (many := (most : Int)) h1 PH.nil (by omega) (by unfold Bd; omega)
  have hn : ∃ n : Nat, 1 + r = (n : Int) ∧ 0 < n ∧ n ≤ 2 := ⟨(1 + r).toNat, by omega, by omega, by omega⟩
  obtain ⟨n, hn, n0, n2⟩ := hn
  obtain ⟨k, c3, h3, _, _, e3⟩ := take_c (many := 6) (t := [.lst []]) h2 (PH1 (as := [])) (by decide) (bd_lit (by decide))
  obtain ⟨hp2, ep, c4, as, h4, rfl, alen, aok⟩ := p_loop (x1 := some (.int (most : Nat))) (ev := decide (k = 0)) (h := [c3, .lst []]) n2 l1 l2 ⟨c3, [], h3, rfl, Nat.le_refl _, fun _ h => nomatch h⟩
  obtain ⟨b0, c5, h5, hb0, e5⟩ := some_ints (xs := [1, 1, 2, 0]) h4 (PH1 (as := as)) (by simp) (by simp)
  have draw : ∀ (xs : List Int) (s : Sl) (i : Nat) (t : AH) (l : List D) (c : Cell), PH t → xs ≠ [] → xs.length ≤ 100 → l.length ≤ 100 → Bg cs c → (∀ d, (s.set i (some d))[0]? = some (some (.ref 0))) → ∃ (ys : List Int) (c' : Cell), Bg cs c' ∧ (∀ y ∈ ys, y ∈ xs) ∧ ys.length = l.length ∧
      ∀ fs : List ME, evs fs = evs (xs.map fun x => eC (.int x)) → lcL [] (gN i) tYesM (eL m_law_some [(eVar 0), (eLst false fs)]) s l [] (c :: t) = .ok (ys.map D.int) (c' :: t) := fun xs s i t l c H x0 xl ll hc hs => by
    have ev : ∀ (xs : List Int) (s : Sl) (h : AH), evs (xs.map fun x => eC (.int x)) s h = .ok (xs.map D.int) h := by
      intro xs
      induction xs with
      | nil => exact fun _ _ => rfl
      | cons x xs ih =>
        intro s h
        rw [List.map_cons, evs_cons, eC_ap, bind_ok, ih, bind_ok]
        rfl
    obtain ⟨ys, c', hc', hy, hl, e⟩ := draws (f := eL m_law_some [(eVar 0), (eLst false (xs.map fun x => eC (.int x)))]) (s := s) (g := gN i) (xs := xs) H (fun d c hc => by
      obtain ⟨x, c', hc', hx, e⟩ := some_ints (xs := xs) hc H x0 (by omega)
      refine ⟨_, rfl, x, c', hc', hx, ?_⟩
      simp only [sSeq_ap, sIf_ap, sNil_ap, sSet_ap, sRet_ap, sEx_ap, sPar_ap, sAsg_ap, sFgt_ap, sFor_ap, e1_ap, e2_ap, eL_ap, eC_ap, evs_nil, evs_cons, eTup_ap, eLstF_ap, eLstT_ap, eLcF_ap, eLc2F_ap, iA_ap, iZ_ap, tB_ap, tAnd_ap, tOr_ap, tNot_ap, tYes_ap, tV_ap, eSl_ap, oN_ap, oS_ap, eIf_ap, eM_ap, gN_ap, gsN_ap, gsC_ap, bind_ok, fl_ok, eVar_ap, sq_nx, sq_rt, sq_bk, sq_ct, fg_nx, fg_rt, fg_bk, fg_ct, oF_some, oH_some, slot_some, boolR_bl, intR_int, itA_tup, itA_str, itA_lst, itA_lsk, src_items, src_chk, itZ_lt, itZ_tl, itZ_ll, itZ_tt, truR_some, set0, setS, get0, getS, parF_nil, parF_cons, fgt_nil, fgt_cons, wpD_nil, wpD_cons, DL.ite_tt, DL.ite_ff, if_true, if_false, obind_some, gTup_tup, gTup_lst, gList_tup, gList_lst, gLen_tup, gLen_lst, gAdd_int, gSub_int, hs, ev, e]) l [] c hc (by rw [List.length_nil]; omega)
    refine ⟨ys, c', hc', hy, hl, fun fs hfs => ?_⟩
    have : eLst false fs = eLst false (xs.map fun x => eC (.int x)) := by
      unfold eLst
      rw [hfs]
    rw [this]
    exact e
  obtain ⟨bs, c6, h6, hbs, lbs, e6⟩ := draw [0, 1, 3] [some (.ref 0), some (.int (most : Nat)), some (.lst (ls.map D.str)), some (.int (n : Nat)), some (.ref 1), some (.bl (decide (k = 0))), none, none, none, none, none, none] 6 [.lst (as.map Arc.d)] ((List.range (n - 1)).map fun (i : Nat) => D.int (i : Int)) c5 PH1 (by simp) (by simp) (by simp; omega) h5 (fun _ => rfl)
  obtain ⟨es, c7, h7, hes, les, e7⟩ := draw [1, 0, 1, 2] [some (.ref 0), some (.int (most : Nat)), some (.lst (ls.map D.str)), some (.int (n : Nat)), some (.ref 1), some (.bl (decide (k = 0))), none, none, none, some (.tup ((b0 :: bs).map D.int)), none, none] 6 [.lst (as.map Arc.d)] ((List.range n).map fun (i : Nat) => D.int (i : Int)) c6 PH1 (by simp) (by simp) (by simp; omega) h6 (fun _ => rfl)
  obtain ⟨as2, hperm, e8⟩ := sorted_arcs (as := as) (h := [c7, .lst (as.map Arc.d)]) (n := 0) (by omega) (d := .ref 1) rfl
  have e1' : m_law_some [.ref 0, .lst [.lst [.str (Str.ofString "a"), .str (Str.ofString "b")], .lst [.str (Str.ofString "a"), .str (Str.ofString "b")], .lst [.str (Str.ofString "a")], .lst [.str (Str.ofString "b"), .str (Str.ofString "x")]]] [c] = .ok (.lst (ls.map D.str)) [c1] := e1
  have e5' : m_law_some [.ref 0, .lst [.int 1, .int 1, .int 2, .int 0]] [c4, .lst (as.map Arc.d)] = .ok (.int b0) [c5, .lst (as.map Arc.d)] := e5
  have e3' : m_law_take [.ref 0, .int 6] [c2, .lst []] = .ok (.int k) [c3, .lst []] := e3
  have ep' := ep
  have lbs' : bs.length = n - 1 := by simpa using lbs
  have les' : es.length = n := by simpa using les
  have key : ∃ (b e : List Int), b.length = n ∧ e.length = n ∧ (∀ x ∈ b, Bd 4 x) ∧ (∀ x ∈ e, Bd 4 x) ∧ b_law_small_model [some (.ref 0), some (.int (most : Nat)), none, none, none, none, none, none, none, none, none, none] [c] = .rt (Md.d ⟨.tup [.tup [.tup [.int 0]], .tup (ls.map fun l => .tup [.str l, .int 0])], b, e, as2⟩) ([c7] ++ [.lst (as.map Arc.d)]) := by
    have fin : ∀ (b e : List Int) (s : Sl), s[2]? = some (some (.lst (ls.map D.str))) → s[4]? = some (some (.ref 1)) → s[9]? = some (some (.tup (b.map D.int))) → s[10]? = some (some (.tup (e.map D.int))) → True := fun _ _ _ _ _ _ _ => trivial
    unfold b_law_small_model
    simp only [sSeq_ap, sIf_ap, sNil_ap, sSet_ap, sRet_ap, sEx_ap, sPar_ap, sAsg_ap, sFgt_ap, sFor_ap, e1_ap, e2_ap, eL_ap, eC_ap, evs_nil, evs_cons, eTup_ap, eLstF_ap, eLstT_ap, eLcF_ap, eLc2F_ap, iA_ap, iZ_ap, tB_ap, tAnd_ap, tOr_ap, tNot_ap, tYes_ap, tV_ap, eSl_ap, oN_ap, oS_ap, eIf_ap, eM_ap, gN_ap, gsN_ap, gsC_ap, bind_ok, fl_ok, eVar_ap, sq_nx, sq_rt, sq_bk, sq_ct, fg_nx, fg_rt, fg_bk, fg_ct, oF_some, oH_some, slot_some, boolR_bl, intR_int, itA_tup, itA_str, itA_lst, itA_lsk, src_items, src_chk, itZ_lt, itZ_tl, itZ_ll, itZ_tt, truR_some, set0, setS, get0, getS, parF_nil, parF_cons, fgt_nil, fgt_cons, wpD_nil, wpD_cons, DL.ite_tt, DL.ite_ff, if_true, if_false, obind_some, gTup_tup, gTup_lst, gList_tup, gList_lst, gLen_tup, gLen_lst, gAdd_int, gSub_int, e1', e2, hn, List.length_cons, List.length_nil, Nat.zero_add, List.cons_append, List.nil_append, e3', geq_int]
    rw [iR1_ok (n := n) (h1 := [c3, .lst []]) rfl (by omega)]
    simp only [sSeq_ap, sIf_ap, sNil_ap, sSet_ap, sRet_ap, sEx_ap, sPar_ap, sAsg_ap, sFgt_ap, sFor_ap, e1_ap, e2_ap, eL_ap, eC_ap, evs_nil, evs_cons, eTup_ap, eLstF_ap, eLstT_ap, eLcF_ap, eLc2F_ap, iA_ap, iZ_ap, tB_ap, tAnd_ap, tOr_ap, tNot_ap, tYes_ap, tV_ap, eSl_ap, oN_ap, oS_ap, eIf_ap, eM_ap, gN_ap, gsN_ap, gsC_ap, bind_ok, fl_ok, eVar_ap, sq_nx, sq_rt, sq_bk, sq_ct, fg_nx, fg_rt, fg_bk, fg_ct, oF_some, oH_some, slot_some, boolR_bl, intR_int, itA_tup, itA_str, itA_lst, itA_lsk, src_items, src_chk, itZ_lt, itZ_tl, itZ_ll, itZ_tt, truR_some, set0, setS, get0, getS, parF_nil, parF_cons, fgt_nil, fgt_cons, wpD_nil, wpD_cons, DL.ite_tt, DL.ite_ff, if_true, if_false, obind_some, gTup_tup, gTup_lst, gList_tup, gList_lst, gLen_tup, gLen_lst, gAdd_int, gSub_int]
    rw [ep]
    simp only [sSeq_ap, sIf_ap, sNil_ap, sSet_ap, sRet_ap, sEx_ap, sPar_ap, sAsg_ap, sFgt_ap, sFor_ap, e1_ap, e2_ap, eL_ap, eC_ap, evs_nil, evs_cons, eTup_ap, eLstF_ap, eLstT_ap, eLcF_ap, eLc2F_ap, iA_ap, iZ_ap, tB_ap, tAnd_ap, tOr_ap, tNot_ap, tYes_ap, tV_ap, eSl_ap, oN_ap, oS_ap, eIf_ap, eM_ap, gN_ap, gsN_ap, gsC_ap, bind_ok, fl_ok, eVar_ap, sq_nx, sq_rt, sq_bk, sq_ct, fg_nx, fg_rt, fg_bk, fg_ct, oF_some, oH_some, slot_some, boolR_bl, intR_int, itA_tup, itA_str, itA_lst, itA_lsk, src_items, src_chk, itZ_lt, itZ_tl, itZ_ll, itZ_tt, truR_some, set0, setS, get0, getS, parF_nil, parF_cons, fgt_nil, fgt_cons, wpD_nil, wpD_cons, DL.ite_tt, DL.ite_ff, if_true, if_false, obind_some, gTup_tup, gTup_lst, gList_tup, gList_lst, gLen_tup, gLen_lst, gAdd_int, gSub_int, e5']
    have hg : gSub (.int (n : Nat)) (.int 1) [c5, .lst (as.map Arc.d)] = .ok (.int ((n - 1 : Nat) : Int)) [c5, .lst (as.map Arc.d)] := by
      rw [gSub_int]
      congr 2
      omega
    rw [iR1_ok (n := n - 1) (h1 := [c5, .lst (as.map Arc.d)]) (by rw [e2_ap]; simp only [eVar_ap, getS, get0, slot_some, bind_ok, eC_ap]; exact hg) (by omega)]
    simp only [sSeq_ap, sIf_ap, sNil_ap, sSet_ap, sRet_ap, sEx_ap, sPar_ap, sAsg_ap, sFgt_ap, sFor_ap, e1_ap, e2_ap, eL_ap, eC_ap, evs_nil, evs_cons, eTup_ap, eLstF_ap, eLstT_ap, eLcF_ap, eLc2F_ap, iA_ap, iZ_ap, tB_ap, tAnd_ap, tOr_ap, tNot_ap, tYes_ap, tV_ap, eSl_ap, oN_ap, oS_ap, eIf_ap, eM_ap, gN_ap, gsN_ap, gsC_ap, bind_ok, fl_ok, eVar_ap, sq_nx, sq_rt, sq_bk, sq_ct, fg_nx, fg_rt, fg_bk, fg_ct, oF_some, oH_some, slot_some, boolR_bl, intR_int, itA_tup, itA_str, itA_lst, itA_lsk, src_items, src_chk, itZ_lt, itZ_tl, itZ_ll, itZ_tt, truR_some, set0, setS, get0, getS, parF_nil, parF_cons, fgt_nil, fgt_cons, wpD_nil, wpD_cons, DL.ite_tt, DL.ite_ff, if_true, if_false, obind_some, gTup_tup, gTup_lst, gList_tup, gList_lst, gLen_tup, gLen_lst, gAdd_int, gSub_int]
    rw [e6 [eC (.int 0), eC (.int 1), eC (.int 3)] rfl]
    simp only [sSeq_ap, sIf_ap, sNil_ap, sSet_ap, sRet_ap, sEx_ap, sPar_ap, sAsg_ap, sFgt_ap, sFor_ap, e1_ap, e2_ap, eL_ap, eC_ap, evs_nil, evs_cons, eTup_ap, eLstF_ap, eLstT_ap, eLcF_ap, eLc2F_ap, iA_ap, iZ_ap, tB_ap, tAnd_ap, tOr_ap, tNot_ap, tYes_ap, tV_ap, eSl_ap, oN_ap, oS_ap, eIf_ap, eM_ap, gN_ap, gsN_ap, gsC_ap, bind_ok, fl_ok, eVar_ap, sq_nx, sq_rt, sq_bk, sq_ct, fg_nx, fg_rt, fg_bk, fg_ct, oF_some, oH_some, slot_some, boolR_bl, intR_int, itA_tup, itA_str, itA_lst, itA_lsk, src_items, src_chk, itZ_lt, itZ_tl, itZ_ll, itZ_tt, truR_some, set0, setS, get0, getS, parF_nil, parF_cons, fgt_nil, fgt_cons, wpD_nil, wpD_cons, DL.ite_tt, DL.ite_ff, if_true, if_false, obind_some, gTup_tup, gTup_lst, gList_tup, gList_lst, gLen_tup, gLen_lst, gAdd_int, gSub_int]
    rw [gAdd_tup (by rw [List.length_map]; simp; omega)]
    simp only [sSeq_ap, sIf_ap, sNil_ap, sSet_ap, sRet_ap, sEx_ap, sPar_ap, sAsg_ap, sFgt_ap, sFor_ap, e1_ap, e2_ap, eL_ap, eC_ap, evs_nil, evs_cons, eTup_ap, eLstF_ap, eLstT_ap, eLcF_ap, eLc2F_ap, iA_ap, iZ_ap, tB_ap, tAnd_ap, tOr_ap, tNot_ap, tYes_ap, tV_ap, eSl_ap, oN_ap, oS_ap, eIf_ap, eM_ap, gN_ap, gsN_ap, gsC_ap, bind_ok, fl_ok, eVar_ap, sq_nx, sq_rt, sq_bk, sq_ct, fg_nx, fg_rt, fg_bk, fg_ct, oF_some, oH_some, slot_some, boolR_bl, intR_int, itA_tup, itA_str, itA_lst, itA_lsk, src_items, src_chk, itZ_lt, itZ_tl, itZ_ll, itZ_tt, truR_some, set0, setS, get0, getS, parF_nil, parF_cons, fgt_nil, fgt_cons, wpD_nil, wpD_cons, DL.ite_tt, DL.ite_ff, if_true, if_false, obind_some, gTup_tup, gTup_lst, gList_tup, gList_lst, gLen_tup, gLen_lst, gAdd_int, gSub_int]
    have hb : ([D.int b0] ++ bs.map D.int) = (b0 :: bs).map D.int := rfl
    rw [hb, iR1_ok (n := n) (h1 := [c6, .lst (as.map Arc.d)]) rfl (by omega)]
    simp only [sSeq_ap, sIf_ap, sNil_ap, sSet_ap, sRet_ap, sEx_ap, sPar_ap, sAsg_ap, sFgt_ap, sFor_ap, e1_ap, e2_ap, eL_ap, eC_ap, evs_nil, evs_cons, eTup_ap, eLstF_ap, eLstT_ap, eLcF_ap, eLc2F_ap, iA_ap, iZ_ap, tB_ap, tAnd_ap, tOr_ap, tNot_ap, tYes_ap, tV_ap, eSl_ap, oN_ap, oS_ap, eIf_ap, eM_ap, gN_ap, gsN_ap, gsC_ap, bind_ok, fl_ok, eVar_ap, sq_nx, sq_rt, sq_bk, sq_ct, fg_nx, fg_rt, fg_bk, fg_ct, oF_some, oH_some, slot_some, boolR_bl, intR_int, itA_tup, itA_str, itA_lst, itA_lsk, src_items, src_chk, itZ_lt, itZ_tl, itZ_ll, itZ_tt, truR_some, set0, setS, get0, getS, parF_nil, parF_cons, fgt_nil, fgt_cons, wpD_nil, wpD_cons, DL.ite_tt, DL.ite_ff, if_true, if_false, obind_some, gTup_tup, gTup_lst, gList_tup, gList_lst, gLen_tup, gLen_lst, gAdd_int, gSub_int]
    rw [e7 [eC (.int 1), eC (.int 0), eC (.int 1), eC (.int 2)] rfl]
    simp only [sSeq_ap, sIf_ap, sNil_ap, sSet_ap, sRet_ap, sEx_ap, sPar_ap, sAsg_ap, sFgt_ap, sFor_ap, e1_ap, e2_ap, eL_ap, eC_ap, evs_nil, evs_cons, eTup_ap, eLstF_ap, eLstT_ap, eLcF_ap, eLc2F_ap, iA_ap, iZ_ap, tB_ap, tAnd_ap, tOr_ap, tNot_ap, tYes_ap, tV_ap, eSl_ap, oN_ap, oS_ap, eIf_ap, eM_ap, gN_ap, gsN_ap, gsC_ap, bind_ok, fl_ok, eVar_ap, sq_nx, sq_rt, sq_bk, sq_ct, fg_nx, fg_rt, fg_bk, fg_ct, oF_some, oH_some, slot_some, boolR_bl, intR_int, itA_tup, itA_str, itA_lst, itA_lsk, src_items, src_chk, itZ_lt, itZ_tl, itZ_ll, itZ_tt, truR_some, set0, setS, get0, getS, parF_nil, parF_cons, fgt_nil, fgt_cons, wpD_nil, wpD_cons, DL.ite_tt, DL.ite_ff, if_true, if_false, obind_some, gTup_tup, gTup_lst, gList_tup, gList_lst, gLen_tup, gLen_lst, gAdd_int, gSub_int]
    have z1 : ∀ h : AH, gMulX false (.tup [.int 0]) (.int ((n : Int) - 1)) h = .ok (.tup ((List.replicate (n - 1) (0 : Int)).map D.int)) h := fun h => zeros_tup n2 n0
    have z2 : ∀ (i : Int) (h : AH), gAdd false (.tup [.int i]) (.tup ((List.replicate (n - 1) (0 : Int)).map D.int)) h = .ok (.tup ((i :: List.replicate (n - 1) (0 : Int)).map D.int)) h := fun i h => by
      rw [gAdd_tup (by rw [List.length_map, List.length_replicate]; simp; omega)]
      rfl
    have lst : ∀ (l : List Str) (h : AH), (∀ x ∈ l, True) → l.length ≤ 2 → True := fun _ _ _ _ => trivial
    have lets : ∀ s : Sl, lcL [] (gN 7) tYesM (eTup [eVar 7, eC (.int 0)]) s (ls.map D.str) [] [c7, .lst (as.map Arc.d)] = .ok (ls.map fun l => .tup [.str l, .int 0]) [c7, .lst (as.map Arc.d)] ∨ s.length ≤ 7 := fun s => by
      by_cases hs : s.length ≤ 7
      · exact .inr hs
      · left
        refine lcL_map0 okS_nil ls (by omega) fun l _ => ⟨_, rfl, ?_⟩
        simp only [sSeq_ap, sIf_ap, sNil_ap, sSet_ap, sRet_ap, sEx_ap, sPar_ap, sAsg_ap, sFgt_ap, sFor_ap, e1_ap, e2_ap, eL_ap, eC_ap, evs_nil, evs_cons, eTup_ap, eLstF_ap, eLstT_ap, eLcF_ap, eLc2F_ap, iA_ap, iZ_ap, tB_ap, tAnd_ap, tOr_ap, tNot_ap, tYes_ap, tV_ap, eSl_ap, oN_ap, oS_ap, eIf_ap, eM_ap, gN_ap, gsN_ap, gsC_ap, bind_ok, fl_ok, eVar_ap, sq_nx, sq_rt, sq_bk, sq_ct, fg_nx, fg_rt, fg_bk, fg_ct, oF_some, oH_some, slot_some, boolR_bl, intR_int, itA_tup, itA_str, itA_lst, itA_lsk, src_items, src_chk, itZ_lt, itZ_tl, itZ_ll, itZ_tt, truR_some, set0, setS, get0, getS, parF_nil, parF_cons, fgt_nil, fgt_cons, wpD_nil, wpD_cons, DL.ite_tt, DL.ite_ff, if_true, if_false, obind_some, gTup_tup, gTup_lst, gList_tup, gList_lst, gLen_tup, gLen_lst, gAdd_int, gSub_int]
        rw [List.getElem?_set_self (by omega)]
        simp only [sSeq_ap, sIf_ap, sNil_ap, sSet_ap, sRet_ap, sEx_ap, sPar_ap, sAsg_ap, sFgt_ap, sFor_ap, e1_ap, e2_ap, eL_ap, eC_ap, evs_nil, evs_cons, eTup_ap, eLstF_ap, eLstT_ap, eLcF_ap, eLc2F_ap, iA_ap, iZ_ap, tB_ap, tAnd_ap, tOr_ap, tNot_ap, tYes_ap, tV_ap, eSl_ap, oN_ap, oS_ap, eIf_ap, eM_ap, gN_ap, gsN_ap, gsC_ap, bind_ok, fl_ok, eVar_ap, sq_nx, sq_rt, sq_bk, sq_ct, fg_nx, fg_rt, fg_bk, fg_ct, oF_some, oH_some, slot_some, boolR_bl, intR_int, itA_tup, itA_str, itA_lst, itA_lsk, src_items, src_chk, itZ_lt, itZ_tl, itZ_ll, itZ_tt, truR_some, set0, setS, get0, getS, parF_nil, parF_cons, fgt_nil, fgt_cons, wpD_nil, wpD_cons, DL.ite_tt, DL.ite_ff, if_true, if_false, obind_some, gTup_tup, gTup_lst, gList_tup, gList_lst, gLen_tup, gLen_lst, gAdd_int, gSub_int]
    have e8' : gSorted false [.ref 1] [c7, .lst (as.map Arc.d)] = .ok (.lst (as2.map Arc.d)) [c7, .lst (as.map Arc.d)] := e8
    have lz : ∀ (o9 o10 : Option D), lcL [] (gN 7) tYesM (eTup [eVar 7, eC (.int 0)]) [some (.ref 0), some (.int (most : Nat)), some (.lst (ls.map D.str)), some (.int (n : Nat)), some (.ref 1), some (.bl (decide (k = 0))), none, none, none, o9, o10, none] (ls.map D.str) [] [c7, .lst (as.map Arc.d)] = .ok (ls.map fun l => .tup [.str l, .int 0]) [c7, .lst (as.map Arc.d)] := fun o9 o10 => (lets _).resolve_right (by simp)
    have zb : ∀ {x : Int} {i : Int}, Bd 4 i → x ∈ i :: List.replicate (n - 1) 0 → Bd 4 x := fun hi hx => by
      rcases List.mem_cons.mp hx with rfl | hx
      · exact hi
      · rw [(List.mem_replicate.mp hx).2]
        exact bd_lit (by decide)
    by_cases hk : k = 0
    · have dk : decide (k = 0) = true := decide_eq_true hk
      refine ⟨1 :: List.replicate (n - 1) 0, 2 :: List.replicate (n - 1) 0, by rw [List.length_cons, List.length_replicate]; omega, by rw [List.length_cons, List.length_replicate]; omega, fun x hx => zb (bd_lit (by decide)) hx, fun x hx => zb (bd_lit (by decide)) hx, ?_⟩
      rw [dk] at lz ⊢
      simp only [sSeq_ap, sIf_ap, sNil_ap, sSet_ap, sRet_ap, sEx_ap, sPar_ap, sAsg_ap, sFgt_ap, sFor_ap, e1_ap, e2_ap, eL_ap, eC_ap, evs_nil, evs_cons, eTup_ap, eLstF_ap, eLstT_ap, eLcF_ap, eLc2F_ap, iA_ap, iZ_ap, tB_ap, tAnd_ap, tOr_ap, tNot_ap, tYes_ap, tV_ap, eSl_ap, oN_ap, oS_ap, eIf_ap, eM_ap, gN_ap, gsN_ap, gsC_ap, bind_ok, fl_ok, eVar_ap, sq_nx, sq_rt, sq_bk, sq_ct, fg_nx, fg_rt, fg_bk, fg_ct, oF_some, oH_some, slot_some, boolR_bl, intR_int, itA_tup, itA_str, itA_lst, itA_lsk, src_items, src_chk, itZ_lt, itZ_tl, itZ_ll, itZ_tt, truR_some, set0, setS, get0, getS, parF_nil, parF_cons, fgt_nil, fgt_cons, wpD_nil, wpD_cons, DL.ite_tt, DL.ite_ff, if_true, if_false, obind_some, gTup_tup, gTup_lst, gList_tup, gList_lst, gLen_tup, gLen_lst, gAdd_int, gSub_int, truD, z1, z2, lz, e8']
      rfl
    · have dk : decide (k = 0) = false := decide_eq_false hk
      refine ⟨b0 :: bs, es, by rw [List.length_cons]; omega, les', fun x hx => ?_, fun x hx => ?_, ?_⟩
      · rcases List.mem_cons.mp hx with rfl | hx
        · exact mem_bd4 hb0 (by simp [Bd])
        · exact mem_bd4 (hbs x hx) (by simp [Bd])
      · exact mem_bd4 (hes x hx) (by simp [Bd])
      · rw [dk] at lz ⊢
        simp only [sSeq_ap, sIf_ap, sNil_ap, sSet_ap, sRet_ap, sEx_ap, sPar_ap, sAsg_ap, sFgt_ap, sFor_ap, e1_ap, e2_ap, eL_ap, eC_ap, evs_nil, evs_cons, eTup_ap, eLstF_ap, eLstT_ap, eLcF_ap, eLc2F_ap, iA_ap, iZ_ap, tB_ap, tAnd_ap, tOr_ap, tNot_ap, tYes_ap, tV_ap, eSl_ap, oN_ap, oS_ap, eIf_ap, eM_ap, gN_ap, gsN_ap, gsC_ap, bind_ok, fl_ok, eVar_ap, sq_nx, sq_rt, sq_bk, sq_ct, fg_nx, fg_rt, fg_bk, fg_ct, oF_some, oH_some, slot_some, boolR_bl, intR_int, itA_tup, itA_str, itA_lst, itA_lsk, src_items, src_chk, itZ_lt, itZ_tl, itZ_ll, itZ_tt, truR_some, set0, setS, get0, getS, parF_nil, parF_cons, fgt_nil, fgt_cons, wpD_nil, wpD_cons, DL.ite_tt, DL.ite_ff, if_true, if_false, obind_some, gTup_tup, gTup_lst, gList_tup, gList_lst, gLen_tup, gLen_lst, gAdd_int, gSub_int, truD, lz, e8']
        rfl
  obtain ⟨b, e, lb, le, bb, be, key⟩ := key
  have pl : D.pures (ls.map fun l => .tup [.str l, .int 0]) = true := pures_map (f := fun l : Str => D.tup [.str l, .int 0]) (fun l => by simp [D.pure, D.pures]) ls
  have pa : D.pures (as2.map Arc.d) = true := pures_map (f := Arc.d) (fun a => by simp [Arc.d, D.pure, D.pures]) as2
  refine ⟨⟨.tup [.tup [.tup [.int 0]], .tup (ls.map fun l => .tup [.str l, .int 0])], b, e, as2⟩, c7, h7, ⟨by simp [D.pure, D.pures, pl], ?_, by rw [lb, le], by rw [lb]; exact n0, by rw [lb]; exact n2, by rw [hperm.length_eq]; omega, fun a ha => ?_, bb, be⟩, ?_⟩
  · have : D.deps (ls.map fun l => D.tup [.str l, .int 0]) ≤ 3 := deps_le fun d hd => by
      obtain ⟨l, _, rfl⟩ := List.mem_map.mp hd
      simp [D.dep, D.deps]
    simp only [D.dep, D.deps]
    omega
  · show a.p < b.length ∧ a.q < b.length ∧ _
    rw [lb]
    exact aok a (hperm.mem_iff.mp ha)
  · have pd : (Md.d ⟨.tup [.tup [.tup [.int 0]], .tup (ls.map fun l => .tup [.str l, .int 0])], b, e, as2⟩).pure = true := by
      simp [Md.d, D.pure, D.pures, pl, pa, pures_ints]
    have h3 : PH (List.take [c].length ([c7] ++ [Cell.lst (as.map Arc.d)])) := h7.ph PH.nil
    exact fnB_rt (n := 12) (b := b_law_small_model) (ds := [D.ref 0, D.int (most : Nat)]) (h := [c]) (h2 := [c7] ++ [Cell.lst (as.map Arc.d)]) key pd h3
end
end K62

namespace K62
open PySem DL L2

section
variable {cs : List Int} {c : Cell}
/-- a line of 0, 1, .. mixed -/
def IsLine (n : Nat) (l : List Nat) : Prop := (n = 1 ∧ l = [0]) ∨ (n = 2 ∧ (l = [0, 1] ∨ l = [1, 0]))
theorem ins_c {xs : List Int} {x : Int} {i : Nat} {s : Sl} {t : AH} (hi : i ≤ xs.length) (hl : xs.length ≤ 100) {c : Cell} : mInsert (.ref 1) [.int (i : Nat), .int x] [c, .lst (xs.map D.int)] = .ok .non [c, .lst ((xs.take i ++ [x] ++ xs.drop i).map D.int)] := by
  unfold mInsert
  simp only [cellL, List.getElem?_cons_succ, List.getElem?_cons_zero]
  rw [if_pos (by rw [lenOk_le2 (by rw [List.length_map]; omega), Bool.true_and, decide_eq_true_eq]; omega)]
  simp [List.map_take, List.map_drop]
theorem mix_step {xs : List Int} {x : Int} {ys : D} (h : Bg cs c) (hl : xs.length ≤ 100) : ∃ (i : Nat) (c' : Cell), i ≤ xs.length ∧ Bg cs c' ∧
    (sFgt [3] (sEx (eM isL mInsert (eVar 2) [(eL m_law_take [(eVar 0), (e2 (gAdd false) (eL gLen [(eVar 2)]) (eC (.int 1)))]), (eVar 3)]))) [some (.ref 0), some ys, some (.ref 1), some (.int x)] [c, .lst (xs.map D.int)] = .nx [some (.ref 0), some ys, some (.ref 1), none] [c', .lst ((xs.take i ++ [x] ++ xs.drop i).map D.int)] := by
  have H : PH [Cell.lst (xs.map D.int)] := fun y hy => by
    rw [List.mem_singleton.mp hy]
    exact ⟨_, rfl, pures_ints _⟩
  obtain ⟨r, c', hc', r0, r1, e⟩ := take_c (many := (xs.length : Int) + 1) h H (by omega) (by unfold Bd; omega)
  refine ⟨r.toNat, c', by omega, hc', ?_⟩
  have hr : r = ((r.toNat : Nat) : Int) := by omega
  have hlen : gLen [.ref 1] [c, .lst (xs.map D.int)] = .ok (.int (xs.length : Nat)) [c, .lst (xs.map D.int)] := by
    rw [gLen_ref (xs := xs.map D.int) rfl, List.length_map]
  simp only [sSeq_ap, sIf_ap, sNil_ap, sSet_ap, sRet_ap, sEx_ap, sPar_ap, sAsg_ap, sFgt_ap, sFor_ap, e1_ap, e2_ap, eL_ap, eC_ap, evs_nil, evs_cons, eTup_ap, eLstF_ap, eLstT_ap, eLcF_ap, eLc2F_ap, iA_ap, iZ_ap, tB_ap, tAnd_ap, tOr_ap, tNot_ap, tYes_ap, tV_ap, eSl_ap, oN_ap, oS_ap, eIf_ap, eM_ap, gN_ap, gsN_ap, gsC_ap, bind_ok, fl_ok, eVar_ap, sq_nx, sq_rt, sq_bk, sq_ct, fg_nx, fg_rt, fg_bk, fg_ct, oF_some, oH_some, slot_some, boolR_bl, intR_int, itA_tup, itA_str, itA_lst, itA_lsk, src_items, src_chk, itZ_lt, itZ_tl, itZ_ll, itZ_tt, truR_some, set0, setS, get0, getS, parF_nil, parF_cons, fgt_nil, fgt_cons, wpD_nil, wpD_cons, DL.ite_tt, DL.ite_ff, if_true, if_false, obind_some, gTup_tup, gTup_lst, gList_tup, gList_lst, gLen_tup, gLen_lst, gAdd_int, gSub_int, isL_ref (show [c, Cell.lst (xs.map D.int)][1]? = some (.lst (xs.map D.int)) from rfl), hlen, e]
  rw [hr, ins_c (i := r.toNat) (s := []) (t := []) (by omega) hl]
  simp only [sSeq_ap, sIf_ap, sNil_ap, sSet_ap, sRet_ap, sEx_ap, sPar_ap, sAsg_ap, sFgt_ap, sFor_ap, e1_ap, e2_ap, eL_ap, eC_ap, evs_nil, evs_cons, eTup_ap, eLstF_ap, eLstT_ap, eLcF_ap, eLc2F_ap, iA_ap, iZ_ap, tB_ap, tAnd_ap, tOr_ap, tNot_ap, tYes_ap, tV_ap, eSl_ap, oN_ap, oS_ap, eIf_ap, eM_ap, gN_ap, gsN_ap, gsC_ap, bind_ok, fl_ok, eVar_ap, sq_nx, sq_rt, sq_bk, sq_ct, fg_nx, fg_rt, fg_bk, fg_ct, oF_some, oH_some, slot_some, boolR_bl, intR_int, itA_tup, itA_str, itA_lst, itA_lsk, src_items, src_chk, itZ_lt, itZ_tl, itZ_ll, itZ_tt, truR_some, set0, setS, get0, getS, parF_nil, parF_cons, fgt_nil, fgt_cons, wpD_nil, wpD_cons, DL.ite_tt, DL.ite_ff, if_true, if_false, obind_some, gTup_tup, gTup_lst, gList_tup, gList_lst, gLen_tup, gLen_lst, gAdd_int, gSub_int, Int.toNat_natCast]
end
end K62

namespace K62
open PySem DL L2

section
variable {cs : List Int} {c : Cell}
def nats (l : List Nat) : List D := l.map fun (i : Nat) => D.int (i : Int)
theorem forL_go {g : MG} {b : MS} {d : D} {ds : List D} {s s1 s2 : Sl} {h h2 : AH} (e1 : g d s = some s1) (e2 : b s1 h = .nx s2 h2) : forL [] g b (d :: ds) s h = forL [] g b ds s2 h2 := by
  show forL [] g b (d :: ds) s h = _
  rw [forL, if_pos okS_nil, e1]
  simp only [e2]
theorem forL_end {g : MG} {b : MS} {s : Sl} {h : AH} : forL [] g b [] s h = .nx s h := by
  rw [forL, if_pos okS_nil]
theorem mixed_c {n : Nat} (h : Bg cs c) (hn : n = 1 ∨ n = 2) : ∃ (l : List Nat) (c' : Cell), Bg cs c' ∧ IsLine n l ∧ m_law_mixed [.ref 0, .lst (nats (List.range n))] [c] = .ok (.lst (nats l)) [c'] := by
  have run : ∀ (l : List Nat) (c' : Cell), Bg cs c' → b_law_mixed [some (.ref 0), some (.lst (nats (List.range n))), none, none] [c] = .rt (.ref 1) [c', .lst (nats l)] → m_law_mixed [.ref 0, .lst (nats (List.range n))] [c] = .ok (.lst (nats l)) [c'] := fun l c' hc' e => by
    have pn : D.pures (nats l) = true := pures_map (f := fun i : Nat => D.int (i : Int)) (fun _ => rfl) l
    exact fnB_rf (n := 4) (k := 1) (b := b_law_mixed) (ds := [.ref 0, .lst (nats (List.range n))]) (h := [c]) (h2 := [c', .lst (nats l)]) e (by simp) rfl pn (hc'.ph PH.nil)
  rcases hn with rfl | rfl
  · obtain ⟨i, c1, hi, h1, e1⟩ := mix_step (xs := []) (x := 0) (ys := .lst (nats (List.range 1))) h (by simp)
    refine ⟨[0], c1, h1, .inl ⟨rfl, rfl⟩, run _ _ h1 ?_⟩
    unfold b_law_mixed
    simp only [sSeq_ap, sIf_ap, sNil_ap, sSet_ap, sRet_ap, sEx_ap, sPar_ap, sAsg_ap, sFgt_ap, sFor_ap, e1_ap, e2_ap, eL_ap, eC_ap, evs_nil, evs_cons, eTup_ap, eLstF_ap, eLstT_ap, eLcF_ap, eLc2F_ap, iA_ap, iZ_ap, tB_ap, tAnd_ap, tOr_ap, tNot_ap, tYes_ap, tV_ap, eSl_ap, oN_ap, oS_ap, eIf_ap, eM_ap, gN_ap, gsN_ap, gsC_ap, bind_ok, fl_ok, eVar_ap, sq_nx, sq_rt, sq_bk, sq_ct, fg_nx, fg_rt, fg_bk, fg_ct, oF_some, oH_some, slot_some, boolR_bl, intR_int, itA_tup, itA_str, itA_lst, itA_lsk, src_items, src_chk, itZ_lt, itZ_tl, itZ_ll, itZ_tt, truR_some, set0, setS, get0, getS, parF_nil, parF_cons, fgt_nil, fgt_cons, wpD_nil, wpD_cons, DL.ite_tt, DL.ite_ff, if_true, if_false, obind_some, gTup_tup, gTup_lst, gList_tup, gList_lst, gLen_tup, gLen_lst, gAdd_int, gSub_int]
    have hr : nats (List.range 1) = [.int 0] := rfl
    show ((forL [] (gN 3) _ [.int 0] [some (.ref 0), some (.lst (nats (List.range 1))), some (.ref 1), none] [c, .lst (([] : List Int).map D.int)]).fg [3]).sq (sRet (eVar 2)) = _
    rw [forL_go (ds := []) (d := .int 0) (s1 := [some (.ref 0), some (.lst (nats (List.range 1))), some (.ref 1), some (.int 0)]) rfl e1, forL_end]
    have : i = 0 := by simpa using hi
    subst this
    rfl
  · obtain ⟨i, c1, hi, h1, e1⟩ := mix_step (xs := []) (x := 0) (ys := .lst (nats (List.range 2))) h (by simp)
    have : i = 0 := by simpa using hi
    subst this
    obtain ⟨j, c2, hj, h2, e2⟩ := mix_step (xs := [0]) (x := 1) (ys := .lst (nats (List.range 2))) h1 (by simp)
    have hj2 : j = 0 ∨ j = 1 := by
      have : j ≤ 1 := by simpa using hj
      omega
    have key : ∀ l : List Nat, ([0].take j ++ [1] ++ [0].drop j : List Int).map D.int = nats l → b_law_mixed [some (.ref 0), some (.lst (nats (List.range 2))), none, none] [c] = .rt (.ref 1) [c2, .lst (nats l)] := fun l hl => by
      unfold b_law_mixed
      simp only [sSeq_ap, sIf_ap, sNil_ap, sSet_ap, sRet_ap, sEx_ap, sPar_ap, sAsg_ap, sFgt_ap, sFor_ap, e1_ap, e2_ap, eL_ap, eC_ap, evs_nil, evs_cons, eTup_ap, eLstF_ap, eLstT_ap, eLcF_ap, eLc2F_ap, iA_ap, iZ_ap, tB_ap, tAnd_ap, tOr_ap, tNot_ap, tYes_ap, tV_ap, eSl_ap, oN_ap, oS_ap, eIf_ap, eM_ap, gN_ap, gsN_ap, gsC_ap, bind_ok, fl_ok, eVar_ap, sq_nx, sq_rt, sq_bk, sq_ct, fg_nx, fg_rt, fg_bk, fg_ct, oF_some, oH_some, slot_some, boolR_bl, intR_int, itA_tup, itA_str, itA_lst, itA_lsk, src_items, src_chk, itZ_lt, itZ_tl, itZ_ll, itZ_tt, truR_some, set0, setS, get0, getS, parF_nil, parF_cons, fgt_nil, fgt_cons, wpD_nil, wpD_cons, DL.ite_tt, DL.ite_ff, if_true, if_false, obind_some, gTup_tup, gTup_lst, gList_tup, gList_lst, gLen_tup, gLen_lst, gAdd_int, gSub_int]
      show ((forL [] (gN 3) _ [.int 0, .int 1] [some (.ref 0), some (.lst (nats (List.range 2))), some (.ref 1), none] [c, .lst (([] : List Int).map D.int)]).fg [3]).sq (sRet (eVar 2)) = _
      rw [forL_go (ds := [.int 1]) (d := .int 0) (s1 := [some (.ref 0), some (.lst (nats (List.range 2))), some (.ref 1), some (.int 0)]) rfl e1]
      show ((forL [] (gN 3) _ [.int 1] [some (.ref 0), some (.lst (nats (List.range 2))), some (.ref 1), none] [c1, .lst (([0] : List Int).map D.int)]).fg [3]).sq (sRet (eVar 2)) = _
      rw [forL_go (ds := []) (d := .int 1) (s1 := [some (.ref 0), some (.lst (nats (List.range 2))), some (.ref 1), some (.int 1)]) rfl e2, forL_end, hl]
      rfl
    rcases hj2 with rfl | rfl
    · exact ⟨[1, 0], c2, h2, .inr ⟨rfl, .inr rfl⟩, run _ _ h2 (key _ rfl)⟩
    · exact ⟨[0, 1], c2, h2, .inr ⟨rfl, .inl rfl⟩, run _ _ h2 (key _ rfl)⟩
end
end K62

namespace K62
open PySem DL L2

section
variable {cs : List Int} {c : Cell} {M : Md} {j : Nat}
abbrev tS (M : Md) (way n by_ : Int) : Sl := [some (.ref 0), some M.d, some M.m, some (.tup (M.b.map D.int)), some (.tup (M.e.map D.int)), some (.tup (M.arcs.map Arc.d)), some (.int way), some (.int n), some (.int by_), none, none, none, none, none, none, none, none, none]
theorem gd_way0 {k : Int} (hM : Gd j M) (hk : Bd 3 k) : Gd (j + 1) ⟨M.m, M.b.map (fun x => x * k), M.e.map (fun x => x * 3), M.arcs⟩ := by
  have hj : 4 + 3 * (j + 1) = 4 + 3 * j + 3 := by omega
  refine ⟨hM.pm, hM.dm, by rw [List.length_map, List.length_map]; exact hM.be, by rw [List.length_map]; exact hM.pos, by rw [List.length_map]; exact hM.nb, by have := hM.na; show M.arcs.length ≤ _; omega, fun a ha => ?_, fun x hx => ?_, fun x hx => ?_⟩
  · have := hM.pq a ha
    show a.p < (M.b.map _).length ∧ a.q < (M.b.map _).length ∧ _
    rw [List.length_map]
    exact ⟨this.1, this.2.1, this.2.2.1.mono (by omega), this.2.2.2⟩
  · obtain ⟨y, hy, rfl⟩ := List.mem_map.mp hx
    rw [hj]
    exact (hM.bb y hy).mul hk
  · obtain ⟨y, hy, rfl⟩ := List.mem_map.mp hx
    rw [hj]
    exact (hM.bd y hy).mul (bd_lit (by decide))
theorem gd_arcs {as : List Arc} (hM : Gd j M) (hl : as.length ≤ 9 + j) (h : ∀ a ∈ as, a.p < M.b.length ∧ a.q < M.b.length ∧ Bd (4 + 3 * (j + 1)) a.w ∧ a.l.length = 1) : Gd (j + 1) ⟨M.m, M.b, M.e, as⟩ :=
  ⟨hM.pm, hM.dm, hM.be, hM.pos, hM.nb, by show as.length ≤ _; omega, h, fun x hx => (hM.bb x hx).mono (by omega), fun x hx => (hM.bd x hx).mono (by omega)⟩
theorem arc_w {a : Arc} {n : Nat} (hM : Gd j M) (ha : a ∈ M.arcs) : a.p < M.b.length ∧ a.q < M.b.length ∧ Bd (4 + 3 * (j + 1)) a.w ∧ a.l.length = 1 := by
  have := hM.pq a ha
  exact ⟨this.1, this.2.1, this.2.2.1.mono (by omega), this.2.2.2⟩
theorem md_pure (hM : Gd j M) : M.d.pure = true := by
  have ha : D.pures (M.arcs.map Arc.d) = true := pures_map (f := Arc.d) (fun a => by simp [Arc.d, D.pure, D.pures]) M.arcs
  unfold Md.d
  simp only [D.pure, D.pures, hM.pm, pures_ints, ha, Bool.and_self]
theorem md_tup4 (M : Md) (i k l m : Nat) (s : Sl) : gT 4 (gsC (gN i) (gsC (gN k) (gsC (gN l) (gsC (gN m) gsN)))) M.d s = some ((((s.set i (some M.m)).set k (some (.tup (M.b.map D.int)))).set l (some (.tup (M.e.map D.int)))).set m (some (.tup (M.arcs.map Arc.d)))) := (gT_tup (n := 4) rfl).trans rfl
theorem gEq_of {b : Bool} {d e : D} {h : AH} (k1 : dok (res d h) = true) (k2 : dok (res e h) = true) : gEq b d e h = .ok (.bl (b == deq (res d h) (res e h))) h := by
  unfold gEq
  exact if_pos (by rw [k1, k2]; rfl)
theorem gne_empty {as : List Arc} {h : AH} : gEq false (.tup (as.map Arc.d)) (.tup []) h = .ok (.bl (!as.isEmpty)) h := by
  have hp : D.pures (as.map Arc.d) = true := pures_map (f := Arc.d) (fun a => by simp [Arc.d, D.pure, D.pures]) as
  have hdp : D.deps (as.map Arc.d) ≤ 5 := deps_le fun d hd => by
    obtain ⟨a, _, rfl⟩ := List.mem_map.mp hd
    simp [Arc.d, D.dep, D.deps]
  have k1 : dok (.tup (as.map Arc.d)) = true := by
    unfold dok
    simp only [D.pure, D.dep, hp, Bool.true_and]
    exact decide_eq_true (by omega)
  have k2 : dok (.tup []) = true := rfl
  rw [gEq_of (d := .tup (as.map Arc.d)) (e := .tup []) k1 k2]
  cases as with
  | nil => rfl
  | cons a as => rfl
theorem bump_len {xs : List Int} {i : Nat} {y : Int} (hi : i < xs.length) : (xs.take i ++ [y] ++ xs.drop (i + 1)).length = xs.length := by
  simp
  omega
theorem cutI_take {xs : List Int} {n : Nat} : cutD (xs.map D.int) none (some (n : Int)) = (xs.take n).map D.int := by rw [cut_take, List.map_take]
theorem cutI_drop {xs : List Int} {n : Nat} : cutD (xs.map D.int) (some (n : Int)) none = (xs.drop n).map D.int := by rw [cut_drop, List.map_drop]
theorem cutA_take {xs : List Arc} {n : Nat} : cutD (xs.map Arc.d) none (some (n : Int)) = (xs.take n).map Arc.d := by rw [cut_take, List.map_take]
theorem cutA_drop {xs : List Arc} {n : Nat} : cutD (xs.map Arc.d) (some (n : Int)) none = (xs.drop n).map Arc.d := by rw [cut_drop, List.map_drop]
theorem bump_lenA {xs : List Arc} {i : Nat} {y : Arc} (hi : i < xs.length) : (xs.take i ++ [y] ++ xs.drop (i + 1)).length = xs.length := by
  simp
  omega
theorem bd_bump {x : Int} (h : Bd (4 + 3 * j) x) : Bd (4 + 3 * (j + 1)) (x + 1) := (h.add (bd_lit (k := 4 + 3 * j) (x := 1) (by
  show 1 < 2 ^ (4 + 3 * j)
  exact Nat.lt_of_lt_of_le (by decide : 1 < 2 ^ 4) (Nat.pow_le_pow_right (by decide) (by omega))))).mono (by omega)
theorem line_len {n : Nat} {l : List Nat} (h : IsLine n l) : l.length = n := by
  rcases h with ⟨rfl, rfl⟩ | ⟨rfl, rfl | rfl⟩ <;> rfl
theorem line_mem {n : Nat} {l : List Nat} (h : IsLine n l) : ∀ i ∈ l, i < n := by
  rcases h with ⟨rfl, rfl⟩ | ⟨rfl, rfl | rfl⟩ <;> simp
/-- where an item of the line stands -/
theorem line_index {n : Nat} {l : List Nat} (h : IsLine n l) : ∃ f : Nat → Nat, (∀ p, p < n → ∀ h, mIndex (.lst (nats l)) [.int (p : Nat)] h = .ok (.int (f p : Nat)) h) ∧ ∀ p, p < n → f p < n := by
  rcases h with ⟨rfl, rfl⟩ | ⟨rfl, rfl | rfl⟩
  · exact ⟨fun _ => 0, fun p hp h => by
      have : p = 0 := by omega
      subst this
      rfl, fun p hp => by
      show 0 < 1
      omega⟩
  · exact ⟨fun p => p, fun p hp h => by
      have : p = 0 ∨ p = 1 := by omega
      rcases this with rfl | rfl <;> rfl, fun p hp => hp⟩
  · exact ⟨fun p => 1 - p, fun p hp h => by
      have : p = 0 ∨ p = 1 := by omega
      rcases this with rfl | rfl <;> rfl, fun p hp => by
      show 1 - p < 2
      omega⟩
theorem eLR1_ok {f : ME} {s : Sl} {h h1 : AH} {n : Nat} (e : f s h = .ok (.int (n : Nat)) h1) (hn : n ≤ 1000) : eLR1 false f s h = .ok (.lst (nats (List.range n))) h1 := by
  unfold eLR1
  rw [e]
  simp only [bind_ok]
  refine (if_pos ?_).trans ?_
  · unfold rgOk
    exact decide_eq_true (by omega)
  · rw [Int.sub_zero, rngD0]
    rfl
theorem lcL_nats {g : MG} {f : ME} {s : Sl} {h : AH} {out : Nat → D} {l : List Nat} (hl : l.length ≤ 16777216) (hs : ∀ a, a ∈ l → ∃ s1, g (.int (a : Nat)) s = some s1 ∧ f s1 h = .ok (out a) h) : lcL [] g tYesM f s (nats l) [] h = .ok (l.map out) h := lcL_map0 (enc := fun i : Nat => D.int (i : Int)) okS_nil l hl hs
theorem turned_c (hj : j ≤ 1) (h : Bg cs c) (hM : Gd j M) : ∃ (N : Md) (c' : Cell), Bg cs c' ∧ Gd (j + 1) N ∧ N.b.length = M.b.length ∧ m_law_turned_model [.ref 0, M.d] [c] = .ok N.d [c'] := by
  have run : ∀ (N : Md) (c' : Cell), Bg cs c' → Gd (j + 1) N → N.b.length = M.b.length → b_law_turned_model [some (.ref 0), some M.d, none, none, none, none, none, none, none, none, none, none, none, none, none, none, none, none] [c] = .rt N.d [c'] → ∃ (N : Md) (c' : Cell), Bg cs c' ∧ Gd (j + 1) N ∧ N.b.length = M.b.length ∧ m_law_turned_model [.ref 0, M.d] [c] = .ok N.d [c'] := fun N c' hc' hN hb e => ⟨N, c', hc', hN, hb, by
    have pN := md_pure hN
    have HH : PH [c'] := hc'.ph PH.nil
    exact fnB_c (n := 18) (b := b_law_turned_model) (ds := [D.ref 0, M.d]) (t := []) e pN HH⟩
  obtain ⟨way, c1, h1, w0, w1, e1⟩ := take_c (many := 7) h PH.nil (by decide) (bd_lit (by decide))
  obtain ⟨k, c2, h2, hk, e2⟩ := some_ints (xs := [2, 3, 5]) h1 PH.nil (by simp) (by simp)
  have hk3 : Bd 3 k := by
    simp only [List.mem_cons, List.not_mem_nil, or_false] at hk
    unfold Bd
    rcases hk with rfl | rfl | rfl <;> decide
  have e2' : m_law_some [.ref 0, .lst [.int 2, .int 3, .int 5]] [c1] = .ok (.int k) [c2] := e2
  have nb := hM.nb
  have na := hM.na
  have be := hM.be
  have hw : way = 0 ∨ way = 1 ∨ way = 2 ∨ way = 3 ∨ way = 4 ∨ way = 5 ∨ way = 6 := by omega
  rcases hw with rfl | rfl | rfl | rfl | rfl | rfl | rfl
  · refine run ⟨M.m, M.b.map (fun x => x * k), M.e.map (fun x => x * 3), M.arcs⟩ c2 h2 (gd_way0 hM hk3) (by rw [List.length_map]) ?_
    unfold b_law_turned_model
    simp only [sSeq_ap, sIf_ap, sNil_ap, sSet_ap, sRet_ap, sEx_ap, sPar_ap, sAsg_ap, sFgt_ap, sFor_ap, e1_ap, e2_ap, eL_ap, eC_ap, evs_nil, evs_cons, eTup_ap, eLstF_ap, eLstT_ap, eLcF_ap, eLc2F_ap, iA_ap, iZ_ap, tB_ap, tAnd_ap, tOr_ap, tNot_ap, tYes_ap, tV_ap, eSl_ap, oN_ap, oS_ap, eIf_ap, eM_ap, gN_ap, gsN_ap, gsC_ap, bind_ok, fl_ok, eVar_ap, sq_nx, sq_rt, sq_bk, sq_ct, fg_nx, fg_rt, fg_bk, fg_ct, oF_some, oH_some, slot_some, boolR_bl, intR_int, itA_tup, itA_str, itA_lst, itA_lsk, src_items, src_chk, itZ_lt, itZ_tl, itZ_ll, itZ_tt, truR_some, set0, setS, get0, getS, parF_nil, parF_cons, fgt_nil, fgt_cons, wpD_nil, wpD_cons, DL.ite_tt, DL.ite_ff, if_true, if_false, obind_some, gTup_tup, gTup_lst, gList_tup, gList_lst, gLen_tup, gLen_lst, gAdd_int, gSub_int, md_tup4, e1, e2', geq_int, Int.reduceEq, decide_true, decide_false]
    rw [lcL_map0 (enc := D.int) (out := fun x => D.int (x * k)) okS_nil M.b (by omega) fun x hx => ⟨_, rfl, by simp only [sSeq_ap, sIf_ap, sNil_ap, sSet_ap, sRet_ap, sEx_ap, sPar_ap, sAsg_ap, sFgt_ap, sFor_ap, e1_ap, e2_ap, eL_ap, eC_ap, evs_nil, evs_cons, eTup_ap, eLstF_ap, eLstT_ap, eLcF_ap, eLc2F_ap, iA_ap, iZ_ap, tB_ap, tAnd_ap, tOr_ap, tNot_ap, tYes_ap, tV_ap, eSl_ap, oN_ap, oS_ap, eIf_ap, eM_ap, gN_ap, gsN_ap, gsC_ap, bind_ok, fl_ok, eVar_ap, sq_nx, sq_rt, sq_bk, sq_ct, fg_nx, fg_rt, fg_bk, fg_ct, oF_some, oH_some, slot_some, boolR_bl, intR_int, itA_tup, itA_str, itA_lst, itA_lsk, src_items, src_chk, itZ_lt, itZ_tl, itZ_ll, itZ_tt, truR_some, set0, setS, get0, getS, parF_nil, parF_cons, fgt_nil, fgt_cons, wpD_nil, wpD_cons, DL.ite_tt, DL.ite_ff, if_true, if_false, obind_some, gTup_tup, gTup_lst, gList_tup, gList_lst, gLen_tup, gLen_lst, gAdd_int, gSub_int]; rw [gMulX_int (mulOk_r (hk3.mono (by decide)))]⟩]
    simp only [sSeq_ap, sIf_ap, sNil_ap, sSet_ap, sRet_ap, sEx_ap, sPar_ap, sAsg_ap, sFgt_ap, sFor_ap, e1_ap, e2_ap, eL_ap, eC_ap, evs_nil, evs_cons, eTup_ap, eLstF_ap, eLstT_ap, eLcF_ap, eLc2F_ap, iA_ap, iZ_ap, tB_ap, tAnd_ap, tOr_ap, tNot_ap, tYes_ap, tV_ap, eSl_ap, oN_ap, oS_ap, eIf_ap, eM_ap, gN_ap, gsN_ap, gsC_ap, bind_ok, fl_ok, eVar_ap, sq_nx, sq_rt, sq_bk, sq_ct, fg_nx, fg_rt, fg_bk, fg_ct, oF_some, oH_some, slot_some, boolR_bl, intR_int, itA_tup, itA_str, itA_lst, itA_lsk, src_items, src_chk, itZ_lt, itZ_tl, itZ_ll, itZ_tt, truR_some, set0, setS, get0, getS, parF_nil, parF_cons, fgt_nil, fgt_cons, wpD_nil, wpD_cons, DL.ite_tt, DL.ite_ff, if_true, if_false, obind_some, gTup_tup, gTup_lst, gList_tup, gList_lst, gLen_tup, gLen_lst, gAdd_int, gSub_int]
    rw [lcL_map0 (enc := D.int) (out := fun x => D.int (x * 3)) okS_nil M.e (by omega) fun x hx => ⟨_, rfl, by simp only [sSeq_ap, sIf_ap, sNil_ap, sSet_ap, sRet_ap, sEx_ap, sPar_ap, sAsg_ap, sFgt_ap, sFor_ap, e1_ap, e2_ap, eL_ap, eC_ap, evs_nil, evs_cons, eTup_ap, eLstF_ap, eLstT_ap, eLcF_ap, eLc2F_ap, iA_ap, iZ_ap, tB_ap, tAnd_ap, tOr_ap, tNot_ap, tYes_ap, tV_ap, eSl_ap, oN_ap, oS_ap, eIf_ap, eM_ap, gN_ap, gsN_ap, gsC_ap, bind_ok, fl_ok, eVar_ap, sq_nx, sq_rt, sq_bk, sq_ct, fg_nx, fg_rt, fg_bk, fg_ct, oF_some, oH_some, slot_some, boolR_bl, intR_int, itA_tup, itA_str, itA_lst, itA_lsk, src_items, src_chk, itZ_lt, itZ_tl, itZ_ll, itZ_tt, truR_some, set0, setS, get0, getS, parF_nil, parF_cons, fgt_nil, fgt_cons, wpD_nil, wpD_cons, DL.ite_tt, DL.ite_ff, if_true, if_false, obind_some, gTup_tup, gTup_lst, gList_tup, gList_lst, gLen_tup, gLen_lst, gAdd_int, gSub_int]; rw [gMulX_int (mulOk_r (bd_lit (k := 64) (x := 3) (by decide)))]⟩]
    simp only [sSeq_ap, sIf_ap, sNil_ap, sSet_ap, sRet_ap, sEx_ap, sPar_ap, sAsg_ap, sFgt_ap, sFor_ap, e1_ap, e2_ap, eL_ap, eC_ap, evs_nil, evs_cons, eTup_ap, eLstF_ap, eLstT_ap, eLcF_ap, eLc2F_ap, iA_ap, iZ_ap, tB_ap, tAnd_ap, tOr_ap, tNot_ap, tYes_ap, tV_ap, eSl_ap, oN_ap, oS_ap, eIf_ap, eM_ap, gN_ap, gsN_ap, gsC_ap, bind_ok, fl_ok, eVar_ap, sq_nx, sq_rt, sq_bk, sq_ct, fg_nx, fg_rt, fg_bk, fg_ct, oF_some, oH_some, slot_some, boolR_bl, intR_int, itA_tup, itA_str, itA_lst, itA_lsk, src_items, src_chk, itZ_lt, itZ_tl, itZ_ll, itZ_tt, truR_some, set0, setS, get0, getS, parF_nil, parF_cons, fgt_nil, fgt_cons, wpD_nil, wpD_cons, DL.ite_tt, DL.ite_ff, if_true, if_false, obind_some, gTup_tup, gTup_lst, gList_tup, gList_lst, gLen_tup, gLen_lst, gAdd_int, gSub_int]
    unfold Md.d
    rw [List.map_map, List.map_map]
    rfl
  · refine run ⟨M.m, M.b, M.e, M.arcs.map fun a => ⟨a.p, a.l, a.q, a.w * k⟩⟩ c2 h2 (gd_arcs hM (by rw [List.length_map]; omega) fun a ha => ?_) rfl ?_
    · obtain ⟨a, ha', rfl⟩ := List.mem_map.mp ha
      have := hM.pq a ha'
      have hb := this.2.2.1.mul hk3
      exact ⟨this.1, this.2.1, hb.mono (by omega), this.2.2.2⟩
    · unfold b_law_turned_model
      simp only [sSeq_ap, sIf_ap, sNil_ap, sSet_ap, sRet_ap, sEx_ap, sPar_ap, sAsg_ap, sFgt_ap, sFor_ap, e1_ap, e2_ap, eL_ap, eC_ap, evs_nil, evs_cons, eTup_ap, eLstF_ap, eLstT_ap, eLcF_ap, eLc2F_ap, iA_ap, iZ_ap, tB_ap, tAnd_ap, tOr_ap, tNot_ap, tYes_ap, tV_ap, eSl_ap, oN_ap, oS_ap, eIf_ap, eM_ap, gN_ap, gsN_ap, gsC_ap, bind_ok, fl_ok, eVar_ap, sq_nx, sq_rt, sq_bk, sq_ct, fg_nx, fg_rt, fg_bk, fg_ct, oF_some, oH_some, slot_some, boolR_bl, intR_int, itA_tup, itA_str, itA_lst, itA_lsk, src_items, src_chk, itZ_lt, itZ_tl, itZ_ll, itZ_tt, truR_some, set0, setS, get0, getS, parF_nil, parF_cons, fgt_nil, fgt_cons, wpD_nil, wpD_cons, DL.ite_tt, DL.ite_ff, if_true, if_false, obind_some, gTup_tup, gTup_lst, gList_tup, gList_lst, gLen_tup, gLen_lst, gAdd_int, gSub_int, md_tup4, e1, e2', geq_int, Int.reduceEq, decide_true, decide_false]
      rw [lcL_map0 (enc := Arc.d) (out := fun a => Arc.d ⟨a.p, a.l, a.q, a.w * k⟩) okS_nil M.arcs (by omega) fun a ha => ⟨_, (gT_tup rfl).trans (by simp only [sSeq_ap, sIf_ap, sNil_ap, sSet_ap, sRet_ap, sEx_ap, sPar_ap, sAsg_ap, sFgt_ap, sFor_ap, e1_ap, e2_ap, eL_ap, eC_ap, evs_nil, evs_cons, eTup_ap, eLstF_ap, eLstT_ap, eLcF_ap, eLc2F_ap, iA_ap, iZ_ap, tB_ap, tAnd_ap, tOr_ap, tNot_ap, tYes_ap, tV_ap, eSl_ap, oN_ap, oS_ap, eIf_ap, eM_ap, gN_ap, gsN_ap, gsC_ap, bind_ok, fl_ok, eVar_ap, sq_nx, sq_rt, sq_bk, sq_ct, fg_nx, fg_rt, fg_bk, fg_ct, oF_some, oH_some, slot_some, boolR_bl, intR_int, itA_tup, itA_str, itA_lst, itA_lsk, src_items, src_chk, itZ_lt, itZ_tl, itZ_ll, itZ_tt, truR_some, set0, setS, get0, getS, parF_nil, parF_cons, fgt_nil, fgt_cons, wpD_nil, wpD_cons, DL.ite_tt, DL.ite_ff, if_true, if_false, obind_some, gTup_tup, gTup_lst, gList_tup, gList_lst, gLen_tup, gLen_lst, gAdd_int, gSub_int]; rfl), by simp only [sSeq_ap, sIf_ap, sNil_ap, sSet_ap, sRet_ap, sEx_ap, sPar_ap, sAsg_ap, sFgt_ap, sFor_ap, e1_ap, e2_ap, eL_ap, eC_ap, evs_nil, evs_cons, eTup_ap, eLstF_ap, eLstT_ap, eLcF_ap, eLc2F_ap, iA_ap, iZ_ap, tB_ap, tAnd_ap, tOr_ap, tNot_ap, tYes_ap, tV_ap, eSl_ap, oN_ap, oS_ap, eIf_ap, eM_ap, gN_ap, gsN_ap, gsC_ap, bind_ok, fl_ok, eVar_ap, sq_nx, sq_rt, sq_bk, sq_ct, fg_nx, fg_rt, fg_bk, fg_ct, oF_some, oH_some, slot_some, boolR_bl, intR_int, itA_tup, itA_str, itA_lst, itA_lsk, src_items, src_chk, itZ_lt, itZ_tl, itZ_ll, itZ_tt, truR_some, set0, setS, get0, getS, parF_nil, parF_cons, fgt_nil, fgt_cons, wpD_nil, wpD_cons, DL.ite_tt, DL.ite_ff, if_true, if_false, obind_some, gTup_tup, gTup_lst, gList_tup, gList_lst, gLen_tup, gLen_lst, gAdd_int, gSub_int]; rw [gMulX_int (mulOk_r (hk3.mono (by decide)))]; rfl⟩]
      simp only [sSeq_ap, sIf_ap, sNil_ap, sSet_ap, sRet_ap, sEx_ap, sPar_ap, sAsg_ap, sFgt_ap, sFor_ap, e1_ap, e2_ap, eL_ap, eC_ap, evs_nil, evs_cons, eTup_ap, eLstF_ap, eLstT_ap, eLcF_ap, eLc2F_ap, iA_ap, iZ_ap, tB_ap, tAnd_ap, tOr_ap, tNot_ap, tYes_ap, tV_ap, eSl_ap, oN_ap, oS_ap, eIf_ap, eM_ap, gN_ap, gsN_ap, gsC_ap, bind_ok, fl_ok, eVar_ap, sq_nx, sq_rt, sq_bk, sq_ct, fg_nx, fg_rt, fg_bk, fg_ct, oF_some, oH_some, slot_some, boolR_bl, intR_int, itA_tup, itA_str, itA_lst, itA_lsk, src_items, src_chk, itZ_lt, itZ_tl, itZ_ll, itZ_tt, truR_some, set0, setS, get0, getS, parF_nil, parF_cons, fgt_nil, fgt_cons, wpD_nil, wpD_cons, DL.ite_tt, DL.ite_ff, if_true, if_false, obind_some, gTup_tup, gTup_lst, gList_tup, gList_lst, gLen_tup, gLen_lst, gAdd_int, gSub_int]
      unfold Md.d
      rw [List.map_map]
      rfl
  · obtain ⟨l, c3, h3, hl, e3⟩ := mixed_c (n := M.b.length) h2 (by have := hM.pos; omega)
    obtain ⟨f, hf, hfl⟩ := line_index hl
    obtain ⟨bs, hbs, es⟩ := sorted_arcs (n := 0) (as := M.arcs.map fun a => Arc.mk (f a.p) a.l (f a.q) a.w) (h := [c3]) (by rw [List.length_map]; omega) (d := .lst ((M.arcs.map fun a => Arc.mk (f a.p) a.l (f a.q) a.w).map Arc.d)) rfl
    have hll : l.length = M.b.length := line_len hl
    have hlm : ∀ i ∈ l, i < M.b.length := line_mem hl
    refine run ⟨M.m, l.map (fun i => M.b.getD i 0), l.map (fun i => M.e.getD i 0), bs⟩ c3 h3 ⟨hM.pm, hM.dm, ?_, ?_, ?_, ?_, fun a ha => ?_, fun x hx => ?_, fun x hx => ?_⟩ ?_ ?_
    · show (l.map _).length = (l.map _).length
      rw [List.length_map, List.length_map]
    · show 0 < (l.map _).length
      rw [List.length_map, hll]
      exact hM.pos
    · show (l.map _).length ≤ 2
      rw [List.length_map, hll]
      exact nb
    · show bs.length ≤ _
      rw [hbs.length_eq, List.length_map]
      omega
    · obtain ⟨a0, h0, rfl⟩ := List.mem_map.mp (hbs.mem_iff.mp ha)
      have := hM.pq a0 h0
      show f a0.p < (l.map _).length ∧ f a0.q < (l.map _).length ∧ Bd (4 + 3 * (j + 1)) a0.w ∧ a0.l.length = 1
      rw [List.length_map, hll]
      exact ⟨hfl _ this.1, hfl _ this.2.1, this.2.2.1.mono (by omega), this.2.2.2⟩
    · obtain ⟨i, _, rfl⟩ := List.mem_map.mp hx
      exact (RB.getD hM.bb i).mono (by omega)
    · obtain ⟨i, _, rfl⟩ := List.mem_map.mp hx
      exact (RB.getD hM.bd i).mono (by omega)
    · show (l.map _).length = _
      rw [List.length_map, hll]
    unfold b_law_turned_model
    simp only [sSeq_ap, sIf_ap, sNil_ap, sSet_ap, sRet_ap, sEx_ap, sPar_ap, sAsg_ap, sFgt_ap, sFor_ap, e1_ap, e2_ap, eL_ap, eC_ap, evs_nil, evs_cons, eTup_ap, eLstF_ap, eLstT_ap, eLcF_ap, eLc2F_ap, iA_ap, iZ_ap, tB_ap, tAnd_ap, tOr_ap, tNot_ap, tYes_ap, tV_ap, eSl_ap, oN_ap, oS_ap, eIf_ap, eM_ap, gN_ap, gsN_ap, gsC_ap, bind_ok, fl_ok, eVar_ap, sq_nx, sq_rt, sq_bk, sq_ct, fg_nx, fg_rt, fg_bk, fg_ct, oF_some, oH_some, slot_some, boolR_bl, intR_int, itA_tup, itA_str, itA_lst, itA_lsk, src_items, src_chk, itZ_lt, itZ_tl, itZ_ll, itZ_tt, truR_some, set0, setS, get0, getS, parF_nil, parF_cons, fgt_nil, fgt_cons, wpD_nil, wpD_cons, DL.ite_tt, DL.ite_ff, if_true, if_false, obind_some, gTup_tup, gTup_lst, gList_tup, gList_lst, gLen_tup, gLen_lst, gAdd_int, gSub_int, md_tup4, e1, e2', geq_int, Int.reduceEq, decide_true, decide_false]
    rw [eLR1_ok (n := M.b.length) (h1 := [c2]) (by simp only [sSeq_ap, sIf_ap, sNil_ap, sSet_ap, sRet_ap, sEx_ap, sPar_ap, sAsg_ap, sFgt_ap, sFor_ap, e1_ap, e2_ap, eL_ap, eC_ap, evs_nil, evs_cons, eTup_ap, eLstF_ap, eLstT_ap, eLcF_ap, eLc2F_ap, iA_ap, iZ_ap, tB_ap, tAnd_ap, tOr_ap, tNot_ap, tYes_ap, tV_ap, eSl_ap, oN_ap, oS_ap, eIf_ap, eM_ap, gN_ap, gsN_ap, gsC_ap, bind_ok, fl_ok, eVar_ap, sq_nx, sq_rt, sq_bk, sq_ct, fg_nx, fg_rt, fg_bk, fg_ct, oF_some, oH_some, slot_some, boolR_bl, intR_int, itA_tup, itA_str, itA_lst, itA_lsk, src_items, src_chk, itZ_lt, itZ_tl, itZ_ll, itZ_tt, truR_some, set0, setS, get0, getS, parF_nil, parF_cons, fgt_nil, fgt_cons, wpD_nil, wpD_cons, DL.ite_tt, DL.ite_ff, if_true, if_false, obind_some, gTup_tup, gTup_lst, gList_tup, gList_lst, gLen_tup, gLen_lst, gAdd_int, gSub_int]; rw [List.length_map]) (by omega)]
    simp only [sSeq_ap, sIf_ap, sNil_ap, sSet_ap, sRet_ap, sEx_ap, sPar_ap, sAsg_ap, sFgt_ap, sFor_ap, e1_ap, e2_ap, eL_ap, eC_ap, evs_nil, evs_cons, eTup_ap, eLstF_ap, eLstT_ap, eLcF_ap, eLc2F_ap, iA_ap, iZ_ap, tB_ap, tAnd_ap, tOr_ap, tNot_ap, tYes_ap, tV_ap, eSl_ap, oN_ap, oS_ap, eIf_ap, eM_ap, gN_ap, gsN_ap, gsC_ap, bind_ok, fl_ok, eVar_ap, sq_nx, sq_rt, sq_bk, sq_ct, fg_nx, fg_rt, fg_bk, fg_ct, oF_some, oH_some, slot_some, boolR_bl, intR_int, itA_tup, itA_str, itA_lst, itA_lsk, src_items, src_chk, itZ_lt, itZ_tl, itZ_ll, itZ_tt, truR_some, set0, setS, get0, getS, parF_nil, parF_cons, fgt_nil, fgt_cons, wpD_nil, wpD_cons, DL.ite_tt, DL.ite_ff, if_true, if_false, obind_some, gTup_tup, gTup_lst, gList_tup, gList_lst, gLen_tup, gLen_lst, gAdd_int, gSub_int, e3]
    rw [lcL_map0 (enc := Arc.d) (out := fun a => Arc.d (Arc.mk (f a.p) a.l (f a.q) a.w)) okS_nil M.arcs (by omega) fun a ha => ⟨_, (gT_tup rfl).trans (by simp only [sSeq_ap, sIf_ap, sNil_ap, sSet_ap, sRet_ap, sEx_ap, sPar_ap, sAsg_ap, sFgt_ap, sFor_ap, e1_ap, e2_ap, eL_ap, eC_ap, evs_nil, evs_cons, eTup_ap, eLstF_ap, eLstT_ap, eLcF_ap, eLc2F_ap, iA_ap, iZ_ap, tB_ap, tAnd_ap, tOr_ap, tNot_ap, tYes_ap, tV_ap, eSl_ap, oN_ap, oS_ap, eIf_ap, eM_ap, gN_ap, gsN_ap, gsC_ap, bind_ok, fl_ok, eVar_ap, sq_nx, sq_rt, sq_bk, sq_ct, fg_nx, fg_rt, fg_bk, fg_ct, oF_some, oH_some, slot_some, boolR_bl, intR_int, itA_tup, itA_str, itA_lst, itA_lsk, src_items, src_chk, itZ_lt, itZ_tl, itZ_ll, itZ_tt, truR_some, set0, setS, get0, getS, parF_nil, parF_cons, fgt_nil, fgt_cons, wpD_nil, wpD_cons, DL.ite_tt, DL.ite_ff, if_true, if_false, obind_some, gTup_tup, gTup_lst, gList_tup, gList_lst, gLen_tup, gLen_lst, gAdd_int, gSub_int]; rfl), by
      have h4 := hM.pq a ha
      simp only [sSeq_ap, sIf_ap, sNil_ap, sSet_ap, sRet_ap, sEx_ap, sPar_ap, sAsg_ap, sFgt_ap, sFor_ap, e1_ap, e2_ap, eL_ap, eC_ap, evs_nil, evs_cons, eTup_ap, eLstF_ap, eLstT_ap, eLcF_ap, eLc2F_ap, iA_ap, iZ_ap, tB_ap, tAnd_ap, tOr_ap, tNot_ap, tYes_ap, tV_ap, eSl_ap, oN_ap, oS_ap, eIf_ap, eM_ap, gN_ap, gsN_ap, gsC_ap, bind_ok, fl_ok, eVar_ap, sq_nx, sq_rt, sq_bk, sq_ct, fg_nx, fg_rt, fg_bk, fg_ct, oF_some, oH_some, slot_some, boolR_bl, intR_int, itA_tup, itA_str, itA_lst, itA_lsk, src_items, src_chk, itZ_lt, itZ_tl, itZ_ll, itZ_tt, truR_some, set0, setS, get0, getS, parF_nil, parF_cons, fgt_nil, fgt_cons, wpD_nil, wpD_cons, DL.ite_tt, DL.ite_ff, if_true, if_false, obind_some, gTup_tup, gTup_lst, gList_tup, gList_lst, gLen_tup, gLen_lst, gAdd_int, gSub_int, show isL (.lst (nats l)) [c3] = true from rfl, hf _ h4.1, hf _ h4.2.1]
      rfl⟩]
    rw [List.map_map] at es
    simp only [sSeq_ap, sIf_ap, sNil_ap, sSet_ap, sRet_ap, sEx_ap, sPar_ap, sAsg_ap, sFgt_ap, sFor_ap, e1_ap, e2_ap, eL_ap, eC_ap, evs_nil, evs_cons, eTup_ap, eLstF_ap, eLstT_ap, eLcF_ap, eLc2F_ap, iA_ap, iZ_ap, tB_ap, tAnd_ap, tOr_ap, tNot_ap, tYes_ap, tV_ap, eSl_ap, oN_ap, oS_ap, eIf_ap, eM_ap, gN_ap, gsN_ap, gsC_ap, bind_ok, fl_ok, eVar_ap, sq_nx, sq_rt, sq_bk, sq_ct, fg_nx, fg_rt, fg_bk, fg_ct, oF_some, oH_some, slot_some, boolR_bl, intR_int, itA_tup, itA_str, itA_lst, itA_lsk, src_items, src_chk, itZ_lt, itZ_tl, itZ_ll, itZ_tt, truR_some, set0, setS, get0, getS, parF_nil, parF_cons, fgt_nil, fgt_cons, wpD_nil, wpD_cons, DL.ite_tt, DL.ite_ff, if_true, if_false, obind_some, gTup_tup, gTup_lst, gList_tup, gList_lst, gLen_tup, gLen_lst, gAdd_int, gSub_int]
    rw [show (M.arcs.map fun a => Arc.d (Arc.mk (f a.p) a.l (f a.q) a.w)) = M.arcs.map (Arc.d ∘ fun a => Arc.mk (f a.p) a.l (f a.q) a.w) from rfl, es]
    simp only [sSeq_ap, sIf_ap, sNil_ap, sSet_ap, sRet_ap, sEx_ap, sPar_ap, sAsg_ap, sFgt_ap, sFor_ap, e1_ap, e2_ap, eL_ap, eC_ap, evs_nil, evs_cons, eTup_ap, eLstF_ap, eLstT_ap, eLcF_ap, eLc2F_ap, iA_ap, iZ_ap, tB_ap, tAnd_ap, tOr_ap, tNot_ap, tYes_ap, tV_ap, eSl_ap, oN_ap, oS_ap, eIf_ap, eM_ap, gN_ap, gsN_ap, gsC_ap, bind_ok, fl_ok, eVar_ap, sq_nx, sq_rt, sq_bk, sq_ct, fg_nx, fg_rt, fg_bk, fg_ct, oF_some, oH_some, slot_some, boolR_bl, intR_int, itA_tup, itA_str, itA_lst, itA_lsk, src_items, src_chk, itZ_lt, itZ_tl, itZ_ll, itZ_tt, truR_some, set0, setS, get0, getS, parF_nil, parF_cons, fgt_nil, fgt_cons, wpD_nil, wpD_cons, DL.ite_tt, DL.ite_ff, if_true, if_false, obind_some, gTup_tup, gTup_lst, gList_tup, gList_lst, gLen_tup, gLen_lst, gAdd_int, gSub_int]
    rw [lcL_nats (out := fun i => D.int (M.b.getD i 0)) (by omega) fun i hi => ⟨_, rfl, by simp only [sSeq_ap, sIf_ap, sNil_ap, sSet_ap, sRet_ap, sEx_ap, sPar_ap, sAsg_ap, sFgt_ap, sFor_ap, e1_ap, e2_ap, eL_ap, eC_ap, evs_nil, evs_cons, eTup_ap, eLstF_ap, eLstT_ap, eLcF_ap, eLc2F_ap, iA_ap, iZ_ap, tB_ap, tAnd_ap, tOr_ap, tNot_ap, tYes_ap, tV_ap, eSl_ap, oN_ap, oS_ap, eIf_ap, eM_ap, gN_ap, gsN_ap, gsC_ap, bind_ok, fl_ok, eVar_ap, sq_nx, sq_rt, sq_bk, sq_ct, fg_nx, fg_rt, fg_bk, fg_ct, oF_some, oH_some, slot_some, boolR_bl, intR_int, itA_tup, itA_str, itA_lst, itA_lsk, src_items, src_chk, itZ_lt, itZ_tl, itZ_ll, itZ_tt, truR_some, set0, setS, get0, getS, parF_nil, parF_cons, fgt_nil, fgt_cons, wpD_nil, wpD_cons, DL.ite_tt, DL.ite_ff, if_true, if_false, obind_some, gTup_tup, gTup_lst, gList_tup, gList_lst, gLen_tup, gLen_lst, gAdd_int, gSub_int]; rw [gIx_int_tup (hlm i hi)]⟩]
    simp only [sSeq_ap, sIf_ap, sNil_ap, sSet_ap, sRet_ap, sEx_ap, sPar_ap, sAsg_ap, sFgt_ap, sFor_ap, e1_ap, e2_ap, eL_ap, eC_ap, evs_nil, evs_cons, eTup_ap, eLstF_ap, eLstT_ap, eLcF_ap, eLc2F_ap, iA_ap, iZ_ap, tB_ap, tAnd_ap, tOr_ap, tNot_ap, tYes_ap, tV_ap, eSl_ap, oN_ap, oS_ap, eIf_ap, eM_ap, gN_ap, gsN_ap, gsC_ap, bind_ok, fl_ok, eVar_ap, sq_nx, sq_rt, sq_bk, sq_ct, fg_nx, fg_rt, fg_bk, fg_ct, oF_some, oH_some, slot_some, boolR_bl, intR_int, itA_tup, itA_str, itA_lst, itA_lsk, src_items, src_chk, itZ_lt, itZ_tl, itZ_ll, itZ_tt, truR_some, set0, setS, get0, getS, parF_nil, parF_cons, fgt_nil, fgt_cons, wpD_nil, wpD_cons, DL.ite_tt, DL.ite_ff, if_true, if_false, obind_some, gTup_tup, gTup_lst, gList_tup, gList_lst, gLen_tup, gLen_lst, gAdd_int, gSub_int]
    rw [lcL_nats (out := fun i => D.int (M.e.getD i 0)) (by omega) fun i hi => ⟨_, rfl, by simp only [sSeq_ap, sIf_ap, sNil_ap, sSet_ap, sRet_ap, sEx_ap, sPar_ap, sAsg_ap, sFgt_ap, sFor_ap, e1_ap, e2_ap, eL_ap, eC_ap, evs_nil, evs_cons, eTup_ap, eLstF_ap, eLstT_ap, eLcF_ap, eLc2F_ap, iA_ap, iZ_ap, tB_ap, tAnd_ap, tOr_ap, tNot_ap, tYes_ap, tV_ap, eSl_ap, oN_ap, oS_ap, eIf_ap, eM_ap, gN_ap, gsN_ap, gsC_ap, bind_ok, fl_ok, eVar_ap, sq_nx, sq_rt, sq_bk, sq_ct, fg_nx, fg_rt, fg_bk, fg_ct, oF_some, oH_some, slot_some, boolR_bl, intR_int, itA_tup, itA_str, itA_lst, itA_lsk, src_items, src_chk, itZ_lt, itZ_tl, itZ_ll, itZ_tt, truR_some, set0, setS, get0, getS, parF_nil, parF_cons, fgt_nil, fgt_cons, wpD_nil, wpD_cons, DL.ite_tt, DL.ite_ff, if_true, if_false, obind_some, gTup_tup, gTup_lst, gList_tup, gList_lst, gLen_tup, gLen_lst, gAdd_int, gSub_int]; rw [gIx_int_tup (by rw [← be]; exact hlm i hi)]⟩]
    simp only [sSeq_ap, sIf_ap, sNil_ap, sSet_ap, sRet_ap, sEx_ap, sPar_ap, sAsg_ap, sFgt_ap, sFor_ap, e1_ap, e2_ap, eL_ap, eC_ap, evs_nil, evs_cons, eTup_ap, eLstF_ap, eLstT_ap, eLcF_ap, eLc2F_ap, iA_ap, iZ_ap, tB_ap, tAnd_ap, tOr_ap, tNot_ap, tYes_ap, tV_ap, eSl_ap, oN_ap, oS_ap, eIf_ap, eM_ap, gN_ap, gsN_ap, gsC_ap, bind_ok, fl_ok, eVar_ap, sq_nx, sq_rt, sq_bk, sq_ct, fg_nx, fg_rt, fg_bk, fg_ct, oF_some, oH_some, slot_some, boolR_bl, intR_int, itA_tup, itA_str, itA_lst, itA_lsk, src_items, src_chk, itZ_lt, itZ_tl, itZ_ll, itZ_tt, truR_some, set0, setS, get0, getS, parF_nil, parF_cons, fgt_nil, fgt_cons, wpD_nil, wpD_cons, DL.ite_tt, DL.ite_ff, if_true, if_false, obind_some, gTup_tup, gTup_lst, gList_tup, gList_lst, gLen_tup, gLen_lst, gAdd_int, gSub_int]
    unfold Md.d
    rw [List.map_map, List.map_map]
    rfl
  · by_cases h0 : M.arcs = []
    · refine run M c2 h2 (hM.up (by omega)) rfl ?_
      unfold b_law_turned_model
      simp only [sSeq_ap, sIf_ap, sNil_ap, sSet_ap, sRet_ap, sEx_ap, sPar_ap, sAsg_ap, sFgt_ap, sFor_ap, e1_ap, e2_ap, eL_ap, eC_ap, evs_nil, evs_cons, eTup_ap, eLstF_ap, eLstT_ap, eLcF_ap, eLc2F_ap, iA_ap, iZ_ap, tB_ap, tAnd_ap, tOr_ap, tNot_ap, tYes_ap, tV_ap, eSl_ap, oN_ap, oS_ap, eIf_ap, eM_ap, gN_ap, gsN_ap, gsC_ap, bind_ok, fl_ok, eVar_ap, sq_nx, sq_rt, sq_bk, sq_ct, fg_nx, fg_rt, fg_bk, fg_ct, oF_some, oH_some, slot_some, boolR_bl, intR_int, itA_tup, itA_str, itA_lst, itA_lsk, src_items, src_chk, itZ_lt, itZ_tl, itZ_ll, itZ_tt, truR_some, set0, setS, get0, getS, parF_nil, parF_cons, fgt_nil, fgt_cons, wpD_nil, wpD_cons, DL.ite_tt, DL.ite_ff, if_true, if_false, obind_some, gTup_tup, gTup_lst, gList_tup, gList_lst, gLen_tup, gLen_lst, gAdd_int, gSub_int, md_tup4, e1, e2', geq_int, Int.reduceEq, decide_true, decide_false, gne_empty, h0, List.isEmpty_nil, Bool.not_true, boolR_bl]
    · obtain ⟨r, c3, h3, r0, r1, e3⟩ := take_c (many := (M.arcs.length : Int)) h2 PH.nil (by have := List.length_pos_iff.mpr h0; omega) (by unfold Bd; omega)
      obtain ⟨i, rfl⟩ : ∃ i : Nat, r = (i : Int) := ⟨r.toNat, by omega⟩
      have hi : i < M.arcs.length := by omega
      have hb : M.arcs.isEmpty = false := by
        cases hq : M.arcs with
        | nil => exact absurd hq h0
        | cons a l => rfl
      have e3' : m_law_take [.ref 0, .int ((M.arcs.map Arc.d).length : Nat)] [c2] = .ok (.int (i : Int)) [c3] := by
        rw [List.length_map]
        exact e3
      have hmi := hM.pq _ (List.getElem_mem hi)
      refine run ⟨M.m, M.b, M.e, M.arcs.take i ++ [⟨M.arcs[i].p, M.arcs[i].l, M.arcs[i].q, M.arcs[i].w + 1⟩] ++ M.arcs.drop (i + 1)⟩ c3 h3 (gd_arcs hM ?_ ?_) rfl ?_
      · rw [bump_lenA hi]
        omega
      · intro a ha
        simp only [List.mem_append, List.mem_singleton] at ha
        rcases ha with (ha | rfl) | ha
        · exact arc_w (n := 0) hM (List.mem_of_mem_take ha)
        · exact ⟨hmi.1, hmi.2.1, bd_bump hmi.2.2.1, hmi.2.2.2⟩
        · exact arc_w (n := 0) hM (List.mem_of_mem_drop ha)
      · have a1 : ((i : Int) + 1) = ((i + 1 : Nat) : Int) := by omega
        have g0 : ∀ h, gIx (.tup (M.arcs.map Arc.d)) (.int (i : Int)) h = .ok M.arcs[i].d h := fun h => gIx_seq (xs := M.arcs.map Arc.d) rfl (by rw [List.getElem?_map, List.getElem?_eq_getElem hi]; rfl)
        have g1 : ∀ h, gSl false M.arcs[i].d none (some 3) h = .ok (.tup [.int (M.arcs[i].p : Nat), .str M.arcs[i].l, .int (M.arcs[i].q : Nat)]) h := fun h => rfl
        have g2 : ∀ h, gIx M.arcs[i].d (.int 3) h = .ok (.int M.arcs[i].w) h := fun h => gIx_int (xs := [.int (M.arcs[i].p : Nat), .str M.arcs[i].l, .int (M.arcs[i].q : Nat), .int M.arcs[i].w]) rfl (by decide) rfl
        unfold b_law_turned_model
        simp only [sSeq_ap, sIf_ap, sNil_ap, sSet_ap, sRet_ap, sEx_ap, sPar_ap, sAsg_ap, sFgt_ap, sFor_ap, e1_ap, e2_ap, eL_ap, eC_ap, evs_nil, evs_cons, eTup_ap, eLstF_ap, eLstT_ap, eLcF_ap, eLc2F_ap, iA_ap, iZ_ap, tB_ap, tAnd_ap, tOr_ap, tNot_ap, tYes_ap, tV_ap, eSl_ap, oN_ap, oS_ap, eIf_ap, eM_ap, gN_ap, gsN_ap, gsC_ap, bind_ok, fl_ok, eVar_ap, sq_nx, sq_rt, sq_bk, sq_ct, fg_nx, fg_rt, fg_bk, fg_ct, oF_some, oH_some, slot_some, boolR_bl, intR_int, itA_tup, itA_str, itA_lst, itA_lsk, src_items, src_chk, itZ_lt, itZ_tl, itZ_ll, itZ_tt, truR_some, set0, setS, get0, getS, parF_nil, parF_cons, fgt_nil, fgt_cons, wpD_nil, wpD_cons, DL.ite_tt, DL.ite_ff, if_true, if_false, obind_some, gTup_tup, gTup_lst, gList_tup, gList_lst, gLen_tup, gLen_lst, gAdd_int, gSub_int, md_tup4, e1, e2', geq_int, Int.reduceEq, decide_true, decide_false, gne_empty, hb, Bool.not_false, gTup_tup, gLen_tup, e3', gSl_tup, a1, cutA_take, cutA_drop, g0, g1, g2]
        rw [gAdd_tup (by simp)]
        simp only [sSeq_ap, sIf_ap, sNil_ap, sSet_ap, sRet_ap, sEx_ap, sPar_ap, sAsg_ap, sFgt_ap, sFor_ap, e1_ap, e2_ap, eL_ap, eC_ap, evs_nil, evs_cons, eTup_ap, eLstF_ap, eLstT_ap, eLcF_ap, eLc2F_ap, iA_ap, iZ_ap, tB_ap, tAnd_ap, tOr_ap, tNot_ap, tYes_ap, tV_ap, eSl_ap, oN_ap, oS_ap, eIf_ap, eM_ap, gN_ap, gsN_ap, gsC_ap, bind_ok, fl_ok, eVar_ap, sq_nx, sq_rt, sq_bk, sq_ct, fg_nx, fg_rt, fg_bk, fg_ct, oF_some, oH_some, slot_some, boolR_bl, intR_int, itA_tup, itA_str, itA_lst, itA_lsk, src_items, src_chk, itZ_lt, itZ_tl, itZ_ll, itZ_tt, truR_some, set0, setS, get0, getS, parF_nil, parF_cons, fgt_nil, fgt_cons, wpD_nil, wpD_cons, DL.ite_tt, DL.ite_ff, if_true, if_false, obind_some, gTup_tup, gTup_lst, gList_tup, gList_lst, gLen_tup, gLen_lst, gAdd_int, gSub_int]
        rw [gAdd_tup (by simp; omega)]
        simp only [sSeq_ap, sIf_ap, sNil_ap, sSet_ap, sRet_ap, sEx_ap, sPar_ap, sAsg_ap, sFgt_ap, sFor_ap, e1_ap, e2_ap, eL_ap, eC_ap, evs_nil, evs_cons, eTup_ap, eLstF_ap, eLstT_ap, eLcF_ap, eLc2F_ap, iA_ap, iZ_ap, tB_ap, tAnd_ap, tOr_ap, tNot_ap, tYes_ap, tV_ap, eSl_ap, oN_ap, oS_ap, eIf_ap, eM_ap, gN_ap, gsN_ap, gsC_ap, bind_ok, fl_ok, eVar_ap, sq_nx, sq_rt, sq_bk, sq_ct, fg_nx, fg_rt, fg_bk, fg_ct, oF_some, oH_some, slot_some, boolR_bl, intR_int, itA_tup, itA_str, itA_lst, itA_lsk, src_items, src_chk, itZ_lt, itZ_tl, itZ_ll, itZ_tt, truR_some, set0, setS, get0, getS, parF_nil, parF_cons, fgt_nil, fgt_cons, wpD_nil, wpD_cons, DL.ite_tt, DL.ite_ff, if_true, if_false, obind_some, gTup_tup, gTup_lst, gList_tup, gList_lst, gLen_tup, gLen_lst, gAdd_int, gSub_int]
        rw [gAdd_tup (by simp; omega)]
        simp only [sSeq_ap, sIf_ap, sNil_ap, sSet_ap, sRet_ap, sEx_ap, sPar_ap, sAsg_ap, sFgt_ap, sFor_ap, e1_ap, e2_ap, eL_ap, eC_ap, evs_nil, evs_cons, eTup_ap, eLstF_ap, eLstT_ap, eLcF_ap, eLc2F_ap, iA_ap, iZ_ap, tB_ap, tAnd_ap, tOr_ap, tNot_ap, tYes_ap, tV_ap, eSl_ap, oN_ap, oS_ap, eIf_ap, eM_ap, gN_ap, gsN_ap, gsC_ap, bind_ok, fl_ok, eVar_ap, sq_nx, sq_rt, sq_bk, sq_ct, fg_nx, fg_rt, fg_bk, fg_ct, oF_some, oH_some, slot_some, boolR_bl, intR_int, itA_tup, itA_str, itA_lst, itA_lsk, src_items, src_chk, itZ_lt, itZ_tl, itZ_ll, itZ_tt, truR_some, set0, setS, get0, getS, parF_nil, parF_cons, fgt_nil, fgt_cons, wpD_nil, wpD_cons, DL.ite_tt, DL.ite_ff, if_true, if_false, obind_some, gTup_tup, gTup_lst, gList_tup, gList_lst, gLen_tup, gLen_lst, gAdd_int, gSub_int]
        unfold Md.d
        simp only [List.map_append]
        rfl
  · by_cases h0 : M.arcs = []
    · refine run M c2 h2 (hM.up (by omega)) rfl ?_
      unfold b_law_turned_model
      simp only [sSeq_ap, sIf_ap, sNil_ap, sSet_ap, sRet_ap, sEx_ap, sPar_ap, sAsg_ap, sFgt_ap, sFor_ap, e1_ap, e2_ap, eL_ap, eC_ap, evs_nil, evs_cons, eTup_ap, eLstF_ap, eLstT_ap, eLcF_ap, eLc2F_ap, iA_ap, iZ_ap, tB_ap, tAnd_ap, tOr_ap, tNot_ap, tYes_ap, tV_ap, eSl_ap, oN_ap, oS_ap, eIf_ap, eM_ap, gN_ap, gsN_ap, gsC_ap, bind_ok, fl_ok, eVar_ap, sq_nx, sq_rt, sq_bk, sq_ct, fg_nx, fg_rt, fg_bk, fg_ct, oF_some, oH_some, slot_some, boolR_bl, intR_int, itA_tup, itA_str, itA_lst, itA_lsk, src_items, src_chk, itZ_lt, itZ_tl, itZ_ll, itZ_tt, truR_some, set0, setS, get0, getS, parF_nil, parF_cons, fgt_nil, fgt_cons, wpD_nil, wpD_cons, DL.ite_tt, DL.ite_ff, if_true, if_false, obind_some, gTup_tup, gTup_lst, gList_tup, gList_lst, gLen_tup, gLen_lst, gAdd_int, gSub_int, md_tup4, e1, e2', geq_int, Int.reduceEq, decide_true, decide_false, gne_empty, h0, List.isEmpty_nil, Bool.not_true, boolR_bl]
    · obtain ⟨r, c3, h3, r0, r1, e3⟩ := take_c (many := (M.arcs.length : Int)) h2 PH.nil (by have := List.length_pos_iff.mpr h0; omega) (by unfold Bd; omega)
      obtain ⟨i, rfl⟩ : ∃ i : Nat, r = (i : Int) := ⟨r.toNat, by omega⟩
      have hi : i < M.arcs.length := by omega
      have hb : M.arcs.isEmpty = false := by
        cases hq : M.arcs with
        | nil => exact absurd hq h0
        | cons a l => rfl
      have e3' : m_law_take [.ref 0, .int ((M.arcs.map Arc.d).length : Nat)] [c2] = .ok (.int (i : Int)) [c3] := by
        rw [List.length_map]
        exact e3
      refine run ⟨M.m, M.b, M.e, M.arcs.take i ++ M.arcs.drop (i + 1)⟩ c3 h3 (gd_arcs hM ?_ ?_) rfl ?_
      · rw [List.length_append, List.length_take, List.length_drop]
        omega
      · intro a ha
        rcases List.mem_append.mp ha with ha | ha
        · exact arc_w (n := 0) hM (List.mem_of_mem_take ha)
        · exact arc_w (n := 0) hM (List.mem_of_mem_drop ha)
      · have a1 : ((i : Int) + 1) = ((i + 1 : Nat) : Int) := by omega
        unfold b_law_turned_model
        simp only [sSeq_ap, sIf_ap, sNil_ap, sSet_ap, sRet_ap, sEx_ap, sPar_ap, sAsg_ap, sFgt_ap, sFor_ap, e1_ap, e2_ap, eL_ap, eC_ap, evs_nil, evs_cons, eTup_ap, eLstF_ap, eLstT_ap, eLcF_ap, eLc2F_ap, iA_ap, iZ_ap, tB_ap, tAnd_ap, tOr_ap, tNot_ap, tYes_ap, tV_ap, eSl_ap, oN_ap, oS_ap, eIf_ap, eM_ap, gN_ap, gsN_ap, gsC_ap, bind_ok, fl_ok, eVar_ap, sq_nx, sq_rt, sq_bk, sq_ct, fg_nx, fg_rt, fg_bk, fg_ct, oF_some, oH_some, slot_some, boolR_bl, intR_int, itA_tup, itA_str, itA_lst, itA_lsk, src_items, src_chk, itZ_lt, itZ_tl, itZ_ll, itZ_tt, truR_some, set0, setS, get0, getS, parF_nil, parF_cons, fgt_nil, fgt_cons, wpD_nil, wpD_cons, DL.ite_tt, DL.ite_ff, if_true, if_false, obind_some, gTup_tup, gTup_lst, gList_tup, gList_lst, gLen_tup, gLen_lst, gAdd_int, gSub_int, md_tup4, e1, e2', geq_int, Int.reduceEq, decide_true, decide_false, gne_empty, hb, Bool.not_false, gTup_tup, gLen_tup, e3', gSl_tup, a1, cutA_take, cutA_drop]
        rw [gAdd_tup (by simp; omega)]
        simp only [sSeq_ap, sIf_ap, sNil_ap, sSet_ap, sRet_ap, sEx_ap, sPar_ap, sAsg_ap, sFgt_ap, sFor_ap, e1_ap, e2_ap, eL_ap, eC_ap, evs_nil, evs_cons, eTup_ap, eLstF_ap, eLstT_ap, eLcF_ap, eLc2F_ap, iA_ap, iZ_ap, tB_ap, tAnd_ap, tOr_ap, tNot_ap, tYes_ap, tV_ap, eSl_ap, oN_ap, oS_ap, eIf_ap, eM_ap, gN_ap, gsN_ap, gsC_ap, bind_ok, fl_ok, eVar_ap, sq_nx, sq_rt, sq_bk, sq_ct, fg_nx, fg_rt, fg_bk, fg_ct, oF_some, oH_some, slot_some, boolR_bl, intR_int, itA_tup, itA_str, itA_lst, itA_lsk, src_items, src_chk, itZ_lt, itZ_tl, itZ_ll, itZ_tt, truR_some, set0, setS, get0, getS, parF_nil, parF_cons, fgt_nil, fgt_cons, wpD_nil, wpD_cons, DL.ite_tt, DL.ite_ff, if_true, if_false, obind_some, gTup_tup, gTup_lst, gList_tup, gList_lst, gLen_tup, gLen_lst, gAdd_int, gSub_int]
        unfold Md.d
        simp only [List.map_append]
  · obtain ⟨r, c3, h3, r0, r1, e3⟩ := take_c (many := (M.b.length : Int)) h2 PH.nil (by have := hM.pos; omega) (by unfold Bd; omega)
    obtain ⟨i, rfl⟩ : ∃ i : Nat, r = (i : Int) := ⟨r.toNat, by omega⟩
    have hi : i < M.e.length := by omega
    refine run ⟨M.m, M.b, M.e.take i ++ [M.e.getD i 0 + 1] ++ M.e.drop (i + 1), M.arcs⟩ c3 h3 ⟨hM.pm, hM.dm, ?_, hM.pos, hM.nb, by show M.arcs.length ≤ _; omega, fun a ha => ?_, fun x hx => (hM.bb x hx).mono (by omega), fun x hx => ?_⟩ rfl ?_
    · show M.b.length = (M.e.take i ++ [M.e.getD i 0 + 1] ++ M.e.drop (i + 1)).length
      rw [bump_len hi]
      exact be
    · have := hM.pq a ha
      exact ⟨this.1, this.2.1, this.2.2.1.mono (by omega), this.2.2.2⟩
    · have hd : Bd (4 + 3 * j) (M.e.getD i 0) := RB.getD hM.bd i
      have h1' : Bd (4 + 3 * (j + 1)) (M.e.getD i 0 + 1) := (hd.add (bd_lit (k := 4 + 3 * j) (x := 1) (by
        show 1 < 2 ^ (4 + 3 * j)
        exact Nat.lt_of_lt_of_le (by decide : 1 < 2 ^ 4) (Nat.pow_le_pow_right (by decide) (by omega))))).mono (by omega)
      have hx : x ∈ M.e.take i ++ [M.e.getD i 0 + 1] ++ M.e.drop (i + 1) := hx
      simp only [List.mem_append, List.mem_singleton] at hx
      rcases hx with (hx | rfl) | hx
      · exact (hM.bd x (List.mem_of_mem_take hx)).mono (by omega)
      · exact h1'
      · exact (hM.bd x (List.mem_of_mem_drop hx)).mono (by omega)
    · have e3' : m_law_take [.ref 0, .int ((M.b.map D.int).length : Nat)] [c2] = .ok (.int (i : Int)) [c3] := by
        rw [List.length_map]
        exact e3
      have a1 : ((i : Int) + 1) = ((i + 1 : Nat) : Int) := by omega
      unfold b_law_turned_model
      simp only [sSeq_ap, sIf_ap, sNil_ap, sSet_ap, sRet_ap, sEx_ap, sPar_ap, sAsg_ap, sFgt_ap, sFor_ap, e1_ap, e2_ap, eL_ap, eC_ap, evs_nil, evs_cons, eTup_ap, eLstF_ap, eLstT_ap, eLcF_ap, eLc2F_ap, iA_ap, iZ_ap, tB_ap, tAnd_ap, tOr_ap, tNot_ap, tYes_ap, tV_ap, eSl_ap, oN_ap, oS_ap, eIf_ap, eM_ap, gN_ap, gsN_ap, gsC_ap, bind_ok, fl_ok, eVar_ap, sq_nx, sq_rt, sq_bk, sq_ct, fg_nx, fg_rt, fg_bk, fg_ct, oF_some, oH_some, slot_some, boolR_bl, intR_int, itA_tup, itA_str, itA_lst, itA_lsk, src_items, src_chk, itZ_lt, itZ_tl, itZ_ll, itZ_tt, truR_some, set0, setS, get0, getS, parF_nil, parF_cons, fgt_nil, fgt_cons, wpD_nil, wpD_cons, DL.ite_tt, DL.ite_ff, if_true, if_false, obind_some, gTup_tup, gTup_lst, gList_tup, gList_lst, gLen_tup, gLen_lst, gAdd_int, gSub_int, md_tup4, e1, e2', geq_int, Int.reduceEq, decide_true, decide_false, e3', gSl_tup, gIx_int_tup hi, a1, cutI_take, cutI_drop]
      rw [gAdd_tup (by simp; omega)]
      simp only [sSeq_ap, sIf_ap, sNil_ap, sSet_ap, sRet_ap, sEx_ap, sPar_ap, sAsg_ap, sFgt_ap, sFor_ap, e1_ap, e2_ap, eL_ap, eC_ap, evs_nil, evs_cons, eTup_ap, eLstF_ap, eLstT_ap, eLcF_ap, eLc2F_ap, iA_ap, iZ_ap, tB_ap, tAnd_ap, tOr_ap, tNot_ap, tYes_ap, tV_ap, eSl_ap, oN_ap, oS_ap, eIf_ap, eM_ap, gN_ap, gsN_ap, gsC_ap, bind_ok, fl_ok, eVar_ap, sq_nx, sq_rt, sq_bk, sq_ct, fg_nx, fg_rt, fg_bk, fg_ct, oF_some, oH_some, slot_some, boolR_bl, intR_int, itA_tup, itA_str, itA_lst, itA_lsk, src_items, src_chk, itZ_lt, itZ_tl, itZ_ll, itZ_tt, truR_some, set0, setS, get0, getS, parF_nil, parF_cons, fgt_nil, fgt_cons, wpD_nil, wpD_cons, DL.ite_tt, DL.ite_ff, if_true, if_false, obind_some, gTup_tup, gTup_lst, gList_tup, gList_lst, gLen_tup, gLen_lst, gAdd_int, gSub_int]
      rw [gAdd_tup (by simp; omega)]
      simp only [sSeq_ap, sIf_ap, sNil_ap, sSet_ap, sRet_ap, sEx_ap, sPar_ap, sAsg_ap, sFgt_ap, sFor_ap, e1_ap, e2_ap, eL_ap, eC_ap, evs_nil, evs_cons, eTup_ap, eLstF_ap, eLstT_ap, eLcF_ap, eLc2F_ap, iA_ap, iZ_ap, tB_ap, tAnd_ap, tOr_ap, tNot_ap, tYes_ap, tV_ap, eSl_ap, oN_ap, oS_ap, eIf_ap, eM_ap, gN_ap, gsN_ap, gsC_ap, bind_ok, fl_ok, eVar_ap, sq_nx, sq_rt, sq_bk, sq_ct, fg_nx, fg_rt, fg_bk, fg_ct, oF_some, oH_some, slot_some, boolR_bl, intR_int, itA_tup, itA_str, itA_lst, itA_lsk, src_items, src_chk, itZ_lt, itZ_tl, itZ_ll, itZ_tt, truR_some, set0, setS, get0, getS, parF_nil, parF_cons, fgt_nil, fgt_cons, wpD_nil, wpD_cons, DL.ite_tt, DL.ite_ff, if_true, if_false, obind_some, gTup_tup, gTup_lst, gList_tup, gList_lst, gLen_tup, gLen_lst, gAdd_int, gSub_int]
      unfold Md.d
      simp only [List.map_append]
      rfl
  · refine run M c2 h2 (hM.up (by omega)) rfl ?_
    unfold b_law_turned_model
    simp only [sSeq_ap, sIf_ap, sNil_ap, sSet_ap, sRet_ap, sEx_ap, sPar_ap, sAsg_ap, sFgt_ap, sFor_ap, e1_ap, e2_ap, eL_ap, eC_ap, evs_nil, evs_cons, eTup_ap, eLstF_ap, eLstT_ap, eLcF_ap, eLc2F_ap, iA_ap, iZ_ap, tB_ap, tAnd_ap, tOr_ap, tNot_ap, tYes_ap, tV_ap, eSl_ap, oN_ap, oS_ap, eIf_ap, eM_ap, gN_ap, gsN_ap, gsC_ap, bind_ok, fl_ok, eVar_ap, sq_nx, sq_rt, sq_bk, sq_ct, fg_nx, fg_rt, fg_bk, fg_ct, oF_some, oH_some, slot_some, boolR_bl, intR_int, itA_tup, itA_str, itA_lst, itA_lsk, src_items, src_chk, itZ_lt, itZ_tl, itZ_ll, itZ_tt, truR_some, set0, setS, get0, getS, parF_nil, parF_cons, fgt_nil, fgt_cons, wpD_nil, wpD_cons, DL.ite_tt, DL.ite_ff, if_true, if_false, obind_some, gTup_tup, gTup_lst, gList_tup, gList_lst, gLen_tup, gLen_lst, gAdd_int, gSub_int, md_tup4, e1, e2', geq_int, Int.reduceEq, decide_true, decide_false]
end
end K62

namespace K62
open PySem DL L2

section
variable {cs : List Int} {c : Cell} {M N : Md} {j : Nat} {h : AH}
def dbl (M : Md) : Md := ⟨M.m, M.b ++ M.b, M.e ++ M.e, M.arcs ++ M.arcs.map fun a => ⟨a.p + M.b.length, a.l, a.q + M.b.length, a.w⟩⟩
theorem dbl_ok (hM : Gd 2 M) : (dbl M).Ok := by
  have nb := hM.nb
  have na := hM.na
  have hp := hM.pos
  have hl : (dbl M).b.length = 2 * M.b.length := by
    show (M.b ++ M.b).length = _
    rw [List.length_append]
    omega
  refine ⟨hM.pm, hM.dm, ?_, by rw [hl]; omega, by rw [hl]; omega, ?_, fun a ha => ?_, fun x hx => ?_, fun x hx => ?_⟩
  · show (M.b ++ M.b).length = (M.e ++ M.e).length
    rw [List.length_append, List.length_append, hM.be]
  · show (M.arcs ++ M.arcs.map _).length ≤ 64
    rw [List.length_append, List.length_map]
    omega
  · rw [hl]
    rcases List.mem_append.mp (show a ∈ M.arcs ++ M.arcs.map _ from ha) with ha | ha
    · have := hM.pq a ha
      exact ⟨by omega, by omega, this.2.2.1.mono (by omega), this.2.2.2⟩
    · obtain ⟨a0, h0, rfl⟩ := List.mem_map.mp ha
      have := hM.pq a0 h0
      refine ⟨?_, ?_, this.2.2.1.mono (by omega), this.2.2.2⟩
      · show a0.p + M.b.length < _
        omega
      · show a0.q + M.b.length < _
        omega
  · have hx : x ∈ M.b := by
      rcases List.mem_append.mp (show x ∈ M.b ++ M.b from hx) with hx | hx <;> exact hx
    exact (hM.bb x hx).mono (by omega)
  · have hx : x ∈ M.e := by
      rcases List.mem_append.mp (show x ∈ M.e ++ M.e from hx) with hx | hx <;> exact hx
    exact (hM.bd x hx).mono (by omega)
theorem okd_pure (hM : M.Ok) : M.d.pure = true := by
  have ha : D.pures (M.arcs.map Arc.d) = true := pures_map (f := Arc.d) (fun a => by simp [Arc.d, D.pure, D.pures]) M.arcs
  unfold Md.d
  simp only [D.pure, D.pures, hM.pm, pures_ints, ha, Bool.and_self]
theorem doubled_c (hM : Gd 2 M) (H : PH h) : m_law_doubled [M.d] h = .ok (dbl M).d h := by
  have nb := hM.nb
  have na := hM.na
  have be := hM.be
  refine fnB_0 (b := b_law_doubled) ?_ (okd_pure (dbl_ok hM)) H
  show b_law_doubled [some M.d, none, none, none, none, none, none, none, none, none, none, none] h = _
  unfold b_law_doubled
  simp only [sSeq_ap, sIf_ap, sNil_ap, sSet_ap, sRet_ap, sEx_ap, sPar_ap, sAsg_ap, sFgt_ap, sFor_ap, e1_ap, e2_ap, eL_ap, eC_ap, evs_nil, evs_cons, eTup_ap, eLstF_ap, eLstT_ap, eLcF_ap, eLc2F_ap, iA_ap, iZ_ap, tB_ap, tAnd_ap, tOr_ap, tNot_ap, tYes_ap, tV_ap, eSl_ap, oN_ap, oS_ap, eIf_ap, eM_ap, gN_ap, gsN_ap, gsC_ap, bind_ok, fl_ok, eVar_ap, sq_nx, sq_rt, sq_bk, sq_ct, fg_nx, fg_rt, fg_bk, fg_ct, oF_some, oH_some, slot_some, boolR_bl, intR_int, itA_tup, itA_str, itA_lst, itA_lsk, src_items, src_chk, itZ_lt, itZ_tl, itZ_ll, itZ_tt, truR_some, set0, setS, get0, getS, parF_nil, parF_cons, fgt_nil, fgt_cons, wpD_nil, wpD_cons, DL.ite_tt, DL.ite_ff, if_true, if_false, obind_some, gTup_tup, gTup_lst, gList_tup, gList_lst, gLen_tup, gLen_lst, gAdd_int, gSub_int, md_tup4]
  rw [lcL_map0 (enc := Arc.d) (out := fun a => Arc.d ⟨a.p + M.b.length, a.l, a.q + M.b.length, a.w⟩) okS_nil M.arcs (by omega) fun a ha => ⟨_, (gT_tup rfl).trans (by simp only [sSeq_ap, sIf_ap, sNil_ap, sSet_ap, sRet_ap, sEx_ap, sPar_ap, sAsg_ap, sFgt_ap, sFor_ap, e1_ap, e2_ap, eL_ap, eC_ap, evs_nil, evs_cons, eTup_ap, eLstF_ap, eLstT_ap, eLcF_ap, eLc2F_ap, iA_ap, iZ_ap, tB_ap, tAnd_ap, tOr_ap, tNot_ap, tYes_ap, tV_ap, eSl_ap, oN_ap, oS_ap, eIf_ap, eM_ap, gN_ap, gsN_ap, gsC_ap, bind_ok, fl_ok, eVar_ap, sq_nx, sq_rt, sq_bk, sq_ct, fg_nx, fg_rt, fg_bk, fg_ct, oF_some, oH_some, slot_some, boolR_bl, intR_int, itA_tup, itA_str, itA_lst, itA_lsk, src_items, src_chk, itZ_lt, itZ_tl, itZ_ll, itZ_tt, truR_some, set0, setS, get0, getS, parF_nil, parF_cons, fgt_nil, fgt_cons, wpD_nil, wpD_cons, DL.ite_tt, DL.ite_ff, if_true, if_false, obind_some, gTup_tup, gTup_lst, gList_tup, gList_lst, gLen_tup, gLen_lst, gAdd_int, gSub_int]; rfl), by
    simp only [sSeq_ap, sIf_ap, sNil_ap, sSet_ap, sRet_ap, sEx_ap, sPar_ap, sAsg_ap, sFgt_ap, sFor_ap, e1_ap, e2_ap, eL_ap, eC_ap, evs_nil, evs_cons, eTup_ap, eLstF_ap, eLstT_ap, eLcF_ap, eLc2F_ap, iA_ap, iZ_ap, tB_ap, tAnd_ap, tOr_ap, tNot_ap, tYes_ap, tV_ap, eSl_ap, oN_ap, oS_ap, eIf_ap, eM_ap, gN_ap, gsN_ap, gsC_ap, bind_ok, fl_ok, eVar_ap, sq_nx, sq_rt, sq_bk, sq_ct, fg_nx, fg_rt, fg_bk, fg_ct, oF_some, oH_some, slot_some, boolR_bl, intR_int, itA_tup, itA_str, itA_lst, itA_lsk, src_items, src_chk, itZ_lt, itZ_tl, itZ_ll, itZ_tt, truR_some, set0, setS, get0, getS, parF_nil, parF_cons, fgt_nil, fgt_cons, wpD_nil, wpD_cons, DL.ite_tt, DL.ite_ff, if_true, if_false, obind_some, gTup_tup, gTup_lst, gList_tup, gList_lst, gLen_tup, gLen_lst, gAdd_int, gSub_int, List.length_map]
    rfl⟩]
  simp only [sSeq_ap, sIf_ap, sNil_ap, sSet_ap, sRet_ap, sEx_ap, sPar_ap, sAsg_ap, sFgt_ap, sFor_ap, e1_ap, e2_ap, eL_ap, eC_ap, evs_nil, evs_cons, eTup_ap, eLstF_ap, eLstT_ap, eLcF_ap, eLc2F_ap, iA_ap, iZ_ap, tB_ap, tAnd_ap, tOr_ap, tNot_ap, tYes_ap, tV_ap, eSl_ap, oN_ap, oS_ap, eIf_ap, eM_ap, gN_ap, gsN_ap, gsC_ap, bind_ok, fl_ok, eVar_ap, sq_nx, sq_rt, sq_bk, sq_ct, fg_nx, fg_rt, fg_bk, fg_ct, oF_some, oH_some, slot_some, boolR_bl, intR_int, itA_tup, itA_str, itA_lst, itA_lsk, src_items, src_chk, itZ_lt, itZ_tl, itZ_ll, itZ_tt, truR_some, set0, setS, get0, getS, parF_nil, parF_cons, fgt_nil, fgt_cons, wpD_nil, wpD_cons, DL.ite_tt, DL.ite_ff, if_true, if_false, obind_some, gTup_tup, gTup_lst, gList_tup, gList_lst, gLen_tup, gLen_lst, gAdd_int, gSub_int]
  rw [gAdd_tup (by simp; omega)]
  simp only [sSeq_ap, sIf_ap, sNil_ap, sSet_ap, sRet_ap, sEx_ap, sPar_ap, sAsg_ap, sFgt_ap, sFor_ap, e1_ap, e2_ap, eL_ap, eC_ap, evs_nil, evs_cons, eTup_ap, eLstF_ap, eLstT_ap, eLcF_ap, eLc2F_ap, iA_ap, iZ_ap, tB_ap, tAnd_ap, tOr_ap, tNot_ap, tYes_ap, tV_ap, eSl_ap, oN_ap, oS_ap, eIf_ap, eM_ap, gN_ap, gsN_ap, gsC_ap, bind_ok, fl_ok, eVar_ap, sq_nx, sq_rt, sq_bk, sq_ct, fg_nx, fg_rt, fg_bk, fg_ct, oF_some, oH_some, slot_some, boolR_bl, intR_int, itA_tup, itA_str, itA_lst, itA_lsk, src_items, src_chk, itZ_lt, itZ_tl, itZ_ll, itZ_tt, truR_some, set0, setS, get0, getS, parF_nil, parF_cons, fgt_nil, fgt_cons, wpD_nil, wpD_cons, DL.ite_tt, DL.ite_ff, if_true, if_false, obind_some, gTup_tup, gTup_lst, gList_tup, gList_lst, gLen_tup, gLen_lst, gAdd_int, gSub_int]
  rw [gAdd_tup (by simp; omega)]
  simp only [sSeq_ap, sIf_ap, sNil_ap, sSet_ap, sRet_ap, sEx_ap, sPar_ap, sAsg_ap, sFgt_ap, sFor_ap, e1_ap, e2_ap, eL_ap, eC_ap, evs_nil, evs_cons, eTup_ap, eLstF_ap, eLstT_ap, eLcF_ap, eLc2F_ap, iA_ap, iZ_ap, tB_ap, tAnd_ap, tOr_ap, tNot_ap, tYes_ap, tV_ap, eSl_ap, oN_ap, oS_ap, eIf_ap, eM_ap, gN_ap, gsN_ap, gsC_ap, bind_ok, fl_ok, eVar_ap, sq_nx, sq_rt, sq_bk, sq_ct, fg_nx, fg_rt, fg_bk, fg_ct, oF_some, oH_some, slot_some, boolR_bl, intR_int, itA_tup, itA_str, itA_lst, itA_lsk, src_items, src_chk, itZ_lt, itZ_tl, itZ_ll, itZ_tt, truR_some, set0, setS, get0, getS, parF_nil, parF_cons, fgt_nil, fgt_cons, wpD_nil, wpD_cons, DL.ite_tt, DL.ite_ff, if_true, if_false, obind_some, gTup_tup, gTup_lst, gList_tup, gList_lst, gLen_tup, gLen_lst, gAdd_int, gSub_int]
  rw [gAdd_tup (by simp; omega)]
  simp only [sSeq_ap, sIf_ap, sNil_ap, sSet_ap, sRet_ap, sEx_ap, sPar_ap, sAsg_ap, sFgt_ap, sFor_ap, e1_ap, e2_ap, eL_ap, eC_ap, evs_nil, evs_cons, eTup_ap, eLstF_ap, eLstT_ap, eLcF_ap, eLc2F_ap, iA_ap, iZ_ap, tB_ap, tAnd_ap, tOr_ap, tNot_ap, tYes_ap, tV_ap, eSl_ap, oN_ap, oS_ap, eIf_ap, eM_ap, gN_ap, gsN_ap, gsC_ap, bind_ok, fl_ok, eVar_ap, sq_nx, sq_rt, sq_bk, sq_ct, fg_nx, fg_rt, fg_bk, fg_ct, oF_some, oH_some, slot_some, boolR_bl, intR_int, itA_tup, itA_str, itA_lst, itA_lsk, src_items, src_chk, itZ_lt, itZ_tl, itZ_ll, itZ_tt, truR_some, set0, setS, get0, getS, parF_nil, parF_cons, fgt_nil, fgt_cons, wpD_nil, wpD_cons, DL.ite_tt, DL.ite_ff, if_true, if_false, obind_some, gTup_tup, gTup_lst, gList_tup, gList_lst, gLen_tup, gLen_lst, gAdd_int, gSub_int]
  unfold Md.d dbl
  simp only [List.map_append, List.map_map]
  rfl
theorem couple_c (h : Bg cs c) : ∃ (M N : Md) (c' : Cell), Bg cs c' ∧ M.Ok ∧ N.Ok ∧ m_law_couple [.ref 0] [c] = .ok (.tup [M.d, N.d]) [c'] := by
  have run : ∀ (M N : Md) (c' : Cell), Bg cs c' → M.Ok → N.Ok → b_law_couple [some (.ref 0), none, none] [c] = .rt (.tup [M.d, N.d]) [c'] → ∃ (M N : Md) (c' : Cell), Bg cs c' ∧ M.Ok ∧ N.Ok ∧ m_law_couple [.ref 0] [c] = .ok (.tup [M.d, N.d]) [c'] := fun M N c' hc' hM hN e => ⟨M, N, c', hc', hM, hN, by
    have pT : (D.tup [M.d, N.d]).pure = true := by
      simp only [D.pure, D.pures, okd_pure hM, okd_pure hN, Bool.and_self]
    have HH : PH [c'] := hc'.ph PH.nil
    exact fnB_c (n := 3) (b := b_law_couple) (ds := [D.ref 0]) (t := []) e pT HH⟩
  obtain ⟨k, c1, h1, hk, e1⟩ := some_ints (xs := [2, 1, 2]) h PH.nil (by simp) (by simp)
  have e1' : m_law_some [.ref 0, .lst [.int 2, .int 1, .int 2]] [c] = .ok (.int k) [c1] := e1
  obtain ⟨most, hmost, rfl⟩ : ∃ most : Nat, (most = 1 ∨ most = 2) ∧ k = (most : Int) := by
    simp only [List.mem_cons, List.not_mem_nil, or_false] at hk
    rcases hk with rfl | rfl | rfl
    · exact ⟨2, .inr rfl, rfl⟩
    · exact ⟨1, .inl rfl, rfl⟩
    · exact ⟨2, .inr rfl, rfl⟩
  obtain ⟨M, c2, h2, gM, e2⟩ := small_c h1 hmost
  obtain ⟨N1, c3, h3, g1, _, e3⟩ := turned_c (by omega) h2 gM
  obtain ⟨N2, c4, h4, g2, _, e4⟩ := turned_c (by omega) h3 g1
  obtain ⟨t, c5, h5, _, _, e5⟩ := take_c (many := 4) h4 PH.nil (by decide) (bd_lit (by decide))
  have s1 : ∃ (N : Md) (c6 : Cell), Bg cs c6 ∧ Gd 2 N ∧ (sIf (tB_ (DL.e2 (gEq true) (eL m_law_take [(eVar 0), (eC (.int 4))]) (eC (.int 0)))) (sSet 2 (eL m_law_small_model [(eVar 0), (eC (.int 2))])) sNil) [some (.ref 0), some M.d, some N2.d] [c4] = .nx [some (.ref 0), some M.d, some N.d] [c6] := by
    by_cases h0 : t = 0
    · obtain ⟨N, c6, h6, gN, e6⟩ := small_c (most := 2) h5 (.inr rfl)
      refine ⟨N, c6, h6, gN.up (by omega), ?_⟩
      have e6' : m_law_small_model [.ref 0, .int 2] [c5] = .ok N.d [c6] := e6
      simp only [sSeq_ap, sIf_ap, sNil_ap, sSet_ap, sRet_ap, sEx_ap, sPar_ap, sAsg_ap, sFgt_ap, sFor_ap, e1_ap, e2_ap, eL_ap, eC_ap, evs_nil, evs_cons, eTup_ap, eLstF_ap, eLstT_ap, eLcF_ap, eLc2F_ap, iA_ap, iZ_ap, tB_ap, tAnd_ap, tOr_ap, tNot_ap, tYes_ap, tV_ap, eSl_ap, oN_ap, oS_ap, eIf_ap, eM_ap, gN_ap, gsN_ap, gsC_ap, bind_ok, fl_ok, eVar_ap, sq_nx, sq_rt, sq_bk, sq_ct, fg_nx, fg_rt, fg_bk, fg_ct, oF_some, oH_some, slot_some, boolR_bl, intR_int, itA_tup, itA_str, itA_lst, itA_lsk, src_items, src_chk, itZ_lt, itZ_tl, itZ_ll, itZ_tt, truR_some, set0, setS, get0, getS, parF_nil, parF_cons, fgt_nil, fgt_cons, wpD_nil, wpD_cons, DL.ite_tt, DL.ite_ff, if_true, if_false, obind_some, gTup_tup, gTup_lst, gList_tup, gList_lst, gLen_tup, gLen_lst, gAdd_int, gSub_int, e5, geq_int, h0, decide_true, e6']
    · refine ⟨N2, c5, h5, g2, ?_⟩
      simp only [sSeq_ap, sIf_ap, sNil_ap, sSet_ap, sRet_ap, sEx_ap, sPar_ap, sAsg_ap, sFgt_ap, sFor_ap, e1_ap, e2_ap, eL_ap, eC_ap, evs_nil, evs_cons, eTup_ap, eLstF_ap, eLstT_ap, eLcF_ap, eLc2F_ap, iA_ap, iZ_ap, tB_ap, tAnd_ap, tOr_ap, tNot_ap, tYes_ap, tV_ap, eSl_ap, oN_ap, oS_ap, eIf_ap, eM_ap, gN_ap, gsN_ap, gsC_ap, bind_ok, fl_ok, eVar_ap, sq_nx, sq_rt, sq_bk, sq_ct, fg_nx, fg_rt, fg_bk, fg_ct, oF_some, oH_some, slot_some, boolR_bl, intR_int, itA_tup, itA_str, itA_lst, itA_lsk, src_items, src_chk, itZ_lt, itZ_tl, itZ_ll, itZ_tt, truR_some, set0, setS, get0, getS, parF_nil, parF_cons, fgt_nil, fgt_cons, wpD_nil, wpD_cons, DL.ite_tt, DL.ite_ff, if_true, if_false, obind_some, gTup_tup, gTup_lst, gList_tup, gList_lst, gLen_tup, gLen_lst, gAdd_int, gSub_int, e5, geq_int, h0, decide_false]
  obtain ⟨N, c6, h6, gN, e6⟩ := s1
  obtain ⟨u, c7, h7, _, _, e7⟩ := take_c (many := 6) h6 PH.nil (by decide) (bd_lit (by decide))
  have nb := gM.nb
  have nb2 := gN.nb
  have ml : ∀ h : AH, gMulX false (.int ((M.b.map D.int).length : Nat)) (.int ((N.b.map D.int).length : Nat)) h = .ok (.int (((M.b.map D.int).length : Nat) * ((N.b.map D.int).length : Nat))) h := fun h => gMulX_int (mulOk_l (by rw [List.length_map]; omega))
  have s2 : ∃ (N' : Md), N'.Ok ∧ (sIf (tB_ (DL.e2 (gEq true) (eL m_law_take [(eVar 0), (eC (.int 6))]) (eC (.int 0)))) (sSet 2 (eIf (tB_ (DL.e2 gLe (DL.e2 (gMulX false) (eL gLen [(DL.e2 gIx (eVar 1) (eC (.int 1)))]) (eL gLen [(DL.e2 gIx (eVar 2) (eC (.int 1)))])) (eC (.int 2)))) (eL m_law_doubled [(eVar 2)]) (eVar 2))) sNil) [some (.ref 0), some M.d, some N.d] [c6] = .nx [some (.ref 0), some M.d, some N'.d] [c7] := by
    by_cases h0 : u = 0
    · by_cases h8 : ((M.b.map D.int).length : Int) * ((N.b.map D.int).length : Int) ≤ 2
      · refine ⟨dbl N, dbl_ok gN, ?_⟩
        simp only [sSeq_ap, sIf_ap, sNil_ap, sSet_ap, sRet_ap, sEx_ap, sPar_ap, sAsg_ap, sFgt_ap, sFor_ap, e1_ap, e2_ap, eL_ap, eC_ap, evs_nil, evs_cons, eTup_ap, eLstF_ap, eLstT_ap, eLcF_ap, eLc2F_ap, iA_ap, iZ_ap, tB_ap, tAnd_ap, tOr_ap, tNot_ap, tYes_ap, tV_ap, eSl_ap, oN_ap, oS_ap, eIf_ap, eM_ap, gN_ap, gsN_ap, gsC_ap, bind_ok, fl_ok, eVar_ap, sq_nx, sq_rt, sq_bk, sq_ct, fg_nx, fg_rt, fg_bk, fg_ct, oF_some, oH_some, slot_some, boolR_bl, intR_int, itA_tup, itA_str, itA_lst, itA_lsk, src_items, src_chk, itZ_lt, itZ_tl, itZ_ll, itZ_tt, truR_some, set0, setS, get0, getS, parF_nil, parF_cons, fgt_nil, fgt_cons, wpD_nil, wpD_cons, DL.ite_tt, DL.ite_ff, if_true, if_false, obind_some, gTup_tup, gTup_lst, gList_tup, gList_lst, gLen_tup, gLen_lst, gAdd_int, gSub_int, e7, geq_int, h0, decide_true, md_b, ml, gCmp, h8, doubled_c gN (h7.ph PH.nil)]
      · refine ⟨N, gN.ok (by omega), ?_⟩
        simp only [sSeq_ap, sIf_ap, sNil_ap, sSet_ap, sRet_ap, sEx_ap, sPar_ap, sAsg_ap, sFgt_ap, sFor_ap, e1_ap, e2_ap, eL_ap, eC_ap, evs_nil, evs_cons, eTup_ap, eLstF_ap, eLstT_ap, eLcF_ap, eLc2F_ap, iA_ap, iZ_ap, tB_ap, tAnd_ap, tOr_ap, tNot_ap, tYes_ap, tV_ap, eSl_ap, oN_ap, oS_ap, eIf_ap, eM_ap, gN_ap, gsN_ap, gsC_ap, bind_ok, fl_ok, eVar_ap, sq_nx, sq_rt, sq_bk, sq_ct, fg_nx, fg_rt, fg_bk, fg_ct, oF_some, oH_some, slot_some, boolR_bl, intR_int, itA_tup, itA_str, itA_lst, itA_lsk, src_items, src_chk, itZ_lt, itZ_tl, itZ_ll, itZ_tt, truR_some, set0, setS, get0, getS, parF_nil, parF_cons, fgt_nil, fgt_cons, wpD_nil, wpD_cons, DL.ite_tt, DL.ite_ff, if_true, if_false, obind_some, gTup_tup, gTup_lst, gList_tup, gList_lst, gLen_tup, gLen_lst, gAdd_int, gSub_int, e7, geq_int, h0, decide_true, md_b, ml, gCmp, h8, decide_false]
    · refine ⟨N, gN.ok (by omega), ?_⟩
      simp only [sSeq_ap, sIf_ap, sNil_ap, sSet_ap, sRet_ap, sEx_ap, sPar_ap, sAsg_ap, sFgt_ap, sFor_ap, e1_ap, e2_ap, eL_ap, eC_ap, evs_nil, evs_cons, eTup_ap, eLstF_ap, eLstT_ap, eLcF_ap, eLc2F_ap, iA_ap, iZ_ap, tB_ap, tAnd_ap, tOr_ap, tNot_ap, tYes_ap, tV_ap, eSl_ap, oN_ap, oS_ap, eIf_ap, eM_ap, gN_ap, gsN_ap, gsC_ap, bind_ok, fl_ok, eVar_ap, sq_nx, sq_rt, sq_bk, sq_ct, fg_nx, fg_rt, fg_bk, fg_ct, oF_some, oH_some, slot_some, boolR_bl, intR_int, itA_tup, itA_str, itA_lst, itA_lsk, src_items, src_chk, itZ_lt, itZ_tl, itZ_ll, itZ_tt, truR_some, set0, setS, get0, getS, parF_nil, parF_cons, fgt_nil, fgt_cons, wpD_nil, wpD_cons, DL.ite_tt, DL.ite_ff, if_true, if_false, obind_some, gTup_tup, gTup_lst, gList_tup, gList_lst, gLen_tup, gLen_lst, gAdd_int, gSub_int, e7, geq_int, h0, decide_false]
  obtain ⟨N', okN, e8⟩ := s2
  refine run M N' c7 h7 (gM.ok (by omega)) okN ?_
  unfold b_law_couple
  rw [sSeq_ap, sSet_ap]
  simp only [eL_ap, evs_cons, evs_nil, eVar_ap, get0, getS, slot_some, bind_ok, eLstF_ap, eC_ap, e1', e2, fl_ok, sq_nx, set0, setS]
  rw [sSeq_ap, sSet_ap]
  simp only [eL_ap, evs_cons, evs_nil, eVar_ap, get0, getS, slot_some, bind_ok, e3, e4, fl_ok, sq_nx, set0, setS]
  rw [sSeq_ap, e6, sq_nx, sSeq_ap, e8, sq_nx]
  simp only [sSeq_ap, sIf_ap, sNil_ap, sSet_ap, sRet_ap, sEx_ap, sPar_ap, sAsg_ap, sFgt_ap, sFor_ap, e1_ap, e2_ap, eL_ap, eC_ap, evs_nil, evs_cons, eTup_ap, eLstF_ap, eLstT_ap, eLcF_ap, eLc2F_ap, iA_ap, iZ_ap, tB_ap, tAnd_ap, tOr_ap, tNot_ap, tYes_ap, tV_ap, eSl_ap, oN_ap, oS_ap, eIf_ap, eM_ap, gN_ap, gsN_ap, gsC_ap, bind_ok, fl_ok, eVar_ap, sq_nx, sq_rt, sq_bk, sq_ct, fg_nx, fg_rt, fg_bk, fg_ct, oF_some, oH_some, slot_some, boolR_bl, intR_int, itA_tup, itA_str, itA_lst, itA_lsk, src_items, src_chk, itZ_lt, itZ_tl, itZ_ll, itZ_tt, truR_some, set0, setS, get0, getS, parF_nil, parF_cons, fgt_nil, fgt_cons, wpD_nil, wpD_cons, DL.ite_tt, DL.ite_ff, if_true, if_false, obind_some, gTup_tup, gTup_lst, gList_tup, gList_lst, gLen_tup, gLen_lst, gAdd_int, gSub_int]
end
end K62

namespace K62
open PySem DL L2

section
variable {cs : List Int} {c : Cell} {M N : Md} {h : AH}
theorem dd_len {α : Type} [DecidableEq α] : ∀ {xs : List α}, (dd xs).length ≤ xs.length
  | [] => Nat.le_refl _
  | x :: xs => by
    have := dd_len (xs := xs)
    unfold dd
    split
    · rw [List.length_cons]
      omega
    · rw [List.length_cons, List.length_cons]
      omega
/-- the letters of a law's turn -/
def Lets (ls : List Str) : Prop := ls ≠ [] ∧ ls.length ≤ 200 ∧ ∀ l ∈ ls, l.length = 1
theorem arc_letters_ok (hM : M.Ok) (hN : N.Ok) (H : PH h) : ∃ ls : List Str, ls.length ≤ 128 ∧ (∀ l ∈ ls, l.length = 1) ∧ m_law_arc_letters [M.d, N.d] h = .ok (.lst (ls.map D.str)) h := by
  have nm := hM.na
  have nn := hN.na
  have hl : ∀ l ∈ sortS ((M.arcs ++ N.arcs).map Arc.l), l.length = 1 := fun l hl => by
    unfold sortS at hl
    rw [List.mem_mergeSort, dd_mem] at hl
    obtain ⟨a, ha, rfl⟩ := List.mem_map.mp hl
    rcases List.mem_append.mp ha with ha | ha
    · exact (hM.pq a ha).2.2.2
    · exact (hN.pq a ha).2.2.2
  refine ⟨sortS ((M.arcs ++ N.arcs).map Arc.l), ?_, hl, ?_⟩
  · unfold sortS
    rw [List.length_mergeSort]
    have := dd_len (xs := (M.arcs ++ N.arcs).map Arc.l)
    rw [List.length_map, List.length_append] at this
    omega
  refine fnB_0 (b := b_law_arc_letters) ?_ (pures_strs _) H
  show b_law_arc_letters [some M.d, some N.d, none, none] h = _
  have ga : gAdd false (.tup (M.arcs.map Arc.d)) (.tup (N.arcs.map Arc.d)) h = .ok (.tup ((M.arcs ++ N.arcs).map Arc.d)) h := by
    rw [gAdd_tup (by rw [List.length_map, List.length_map]; omega), List.map_append]
  unfold b_law_arc_letters
  simp only [sSeq_ap, sIf_ap, sNil_ap, sSet_ap, sRet_ap, sEx_ap, sPar_ap, sAsg_ap, sFgt_ap, sFor_ap, e1_ap, e2_ap, eL_ap, eC_ap, evs_nil, evs_cons, eTup_ap, eLstF_ap, eLstT_ap, eLcF_ap, eLc2F_ap, iA_ap, iZ_ap, tB_ap, tAnd_ap, tOr_ap, tNot_ap, tYes_ap, tV_ap, eSl_ap, oN_ap, oS_ap, eIf_ap, eM_ap, gN_ap, gsN_ap, gsC_ap, bind_ok, fl_ok, eVar_ap, sq_nx, sq_rt, sq_bk, sq_ct, fg_nx, fg_rt, fg_bk, fg_ct, oF_some, oH_some, slot_some, boolR_bl, intR_int, itA_tup, itA_str, itA_lst, itA_lsk, src_items, src_chk, itZ_lt, itZ_tl, itZ_ll, itZ_tt, truR_some, set0, setS, get0, getS, parF_nil, parF_cons, fgt_nil, fgt_cons, wpD_nil, wpD_cons, DL.ite_tt, DL.ite_ff, if_true, if_false, obind_some, gTup_tup, gTup_lst, gList_tup, gList_lst, gLen_tup, gLen_lst, gAdd_int, gSub_int, md_arcs, ga]
  rw [lcL_map0 (enc := Arc.d) (out := fun a => D.str a.l) okS_nil (M.arcs ++ N.arcs) (by rw [List.length_append]; omega) fun a ha => ⟨_, rfl, by simp only [sSeq_ap, sIf_ap, sNil_ap, sSet_ap, sRet_ap, sEx_ap, sPar_ap, sAsg_ap, sFgt_ap, sFor_ap, e1_ap, e2_ap, eL_ap, eC_ap, evs_nil, evs_cons, eTup_ap, eLstF_ap, eLstT_ap, eLcF_ap, eLc2F_ap, iA_ap, iZ_ap, tB_ap, tAnd_ap, tOr_ap, tNot_ap, tYes_ap, tV_ap, eSl_ap, oN_ap, oS_ap, eIf_ap, eM_ap, gN_ap, gsN_ap, gsC_ap, bind_ok, fl_ok, eVar_ap, sq_nx, sq_rt, sq_bk, sq_ct, fg_nx, fg_rt, fg_bk, fg_ct, oF_some, oH_some, slot_some, boolR_bl, intR_int, itA_tup, itA_str, itA_lst, itA_lsk, src_items, src_chk, itZ_lt, itZ_tl, itZ_ll, itZ_tt, truR_some, set0, setS, get0, getS, parF_nil, parF_cons, fgt_nil, fgt_cons, wpD_nil, wpD_cons, DL.ite_tt, DL.ite_ff, if_true, if_false, obind_some, gTup_tup, gTup_lst, gList_tup, gList_lst, gLen_tup, gLen_lst, gAdd_int, gSub_int, arc_letter]⟩]
  simp only [sSeq_ap, sIf_ap, sNil_ap, sSet_ap, sRet_ap, sEx_ap, sPar_ap, sAsg_ap, sFgt_ap, sFor_ap, e1_ap, e2_ap, eL_ap, eC_ap, evs_nil, evs_cons, eTup_ap, eLstF_ap, eLstT_ap, eLcF_ap, eLc2F_ap, iA_ap, iZ_ap, tB_ap, tAnd_ap, tOr_ap, tNot_ap, tYes_ap, tV_ap, eSl_ap, oN_ap, oS_ap, eIf_ap, eM_ap, gN_ap, gsN_ap, gsC_ap, bind_ok, fl_ok, eVar_ap, sq_nx, sq_rt, sq_bk, sq_ct, fg_nx, fg_rt, fg_bk, fg_ct, oF_some, oH_some, slot_some, boolR_bl, intR_int, itA_tup, itA_str, itA_lst, itA_lsk, src_items, src_chk, itZ_lt, itZ_tl, itZ_ll, itZ_tt, truR_some, set0, setS, get0, getS, parF_nil, parF_cons, fgt_nil, fgt_cons, wpD_nil, wpD_cons, DL.ite_tt, DL.ite_ff, if_true, if_false, obind_some, gTup_tup, gTup_lst, gList_tup, gList_lst, gLen_tup, gLen_lst, gAdd_int, gSub_int]
  unfold gSortSet
  have e1 : listAt (.lst ((M.arcs ++ N.arcs).map fun a => D.str a.l)) h = some (((M.arcs ++ N.arcs).map Arc.l).map D.str) := by
    rw [List.map_map]
    rfl
  simp only [e1, strsD_map]
  rw [if_pos ⟨lenOk_le2 (by rw [List.length_map, List.length_map, List.length_append]; omega), by rw [List.length_map, List.length_map, List.length_append]; unfold scanBound; omega⟩]
  rfl
/-- texts drawn from the bag -/
theorem draws_s {f : ME} {s : Sl} {g : MG} {xs : List Str} {t : AH} (hs : ∀ (d : D) c, Bg cs c → ∃ s1, g d s = some s1 ∧ ∃ x c', Bg cs c' ∧ x ∈ xs ∧ f s1 (c :: t) = .ok (.str x) (c' :: t)) : ∀ (l : List D) (acc : List Str) (c : Cell), Bg cs c → acc.length + l.length ≤ 1000 →
    ∃ (ys : List Str) (c' : Cell), Bg cs c' ∧ (∀ y ∈ ys, y ∈ xs) ∧ ys.length = l.length ∧ lcL [] g tYesM f s l (acc.map D.str) (c :: t) = .ok ((acc ++ ys).map D.str) (c' :: t)
  | [], acc, c, hc, _ => ⟨[], c, hc, (fun _ h => nomatch h), rfl, by
    unfold lcL
    rw [if_pos okS_nil, List.append_nil]⟩
  | d :: l, acc, c, hc, hl => by
    rw [List.length_cons] at hl
    obtain ⟨s1, e1, x, c1, hc1, hx, e2⟩ := hs d c hc
    obtain ⟨ys, c2, hc2, hy, hlen, e3⟩ := draws_s hs l (acc ++ [x]) c1 hc1 (by rw [List.length_append, List.length_singleton]; omega)
    refine ⟨x :: ys, c2, hc2, ?_, by rw [List.length_cons, List.length_cons, hlen], ?_⟩
    · intro y hy'
      rcases List.mem_cons.mp hy' with rfl | hy'
      · exact hx
      · exact hy y hy'
    · unfold lcL
      rw [if_pos okS_nil, e1]
      simp only [tYes_ap, e2]
      rw [if_pos (lenOk_le2 (by rw [List.length_map]; omega))]
      rw [List.map_append, List.append_assoc] at e3
      exact e3
theorem join_len : ∀ {ys : List Str}, (∀ y ∈ ys, y.length = 1) → (Txt.join (Str.ofString "") ys).length = ys.length := by
  have : ∀ {ys : List Str}, (∀ y ∈ ys, y.length = 1) → (Str.join (Str.ofString "") ys).length = ys.length := by
    intro ys
    induction ys with
    | nil => exact fun _ => rfl
    | cons x ys ih =>
      intro h
      cases ys with
      | nil => exact h x List.mem_cons_self
      | cons y ys =>
        have h1 := ih fun z hz => h z (List.mem_cons_of_mem _ hz)
        have h2 := h x List.mem_cons_self
        show (x ++ Str.ofString "" ++ Str.join _ (y :: ys)).length = _
        rw [str_app_len, str_app_len, h1, h2]
        simp only [List.length_cons]
        have : (Str.ofString "").length = 0 := rfl
        omega
  intro ys h
  show (Builtin.Str.glued _ ys).length = _
  rw [StrLaws.glued_eq_join]
  exact this h
theorem join_ok {ys : List Str} (h1 : ∀ y ∈ ys, y.length = 1) (hl : ys.length ≤ 1000) : mJoin (.str (Str.ofString "")) [.lst (ys.map D.str)] h = .ok (.str (Txt.join (Str.ofString "") ys)) h := by
  unfold mJoin
  simp only [seqAt, listAt, Option.bind_some, strsD_map]
  refine if_pos (decide_eq_true ?_)
  have e0 : (Str.ofString "").length = 0 := rfl
  have e1 : (ys.map (·.length)).sum = ys.length := by
    clear hl
    induction ys with
    | nil => rfl
    | cons y ys ih =>
      rw [List.map_cons, List.sum_cons, ih fun z hz => h1 z (List.mem_cons_of_mem _ hz), h1 y List.mem_cons_self, List.length_cons]
      omega
  rw [e0, e1]
  omega
/-- a word drawn -/
theorem word_c {ls : List Str} {t : AH} {s : Sl} {fi : ME} {n : Nat} {c1 : Cell} (hls : Lets ls) (h : Bg cs c) (h1 : Bg cs c1) (H : PH t) (hn : n ≤ 16) (e : iR1 fi s (c :: t) = .ok ⟨(List.range n).map fun (i : Nat) => D.int (i : Int), []⟩ (c1 :: t))
    (s1 : (wpD s [15, 16])[1]? = some (some (.ref 0))) (s5 : (wpD s [15, 16])[5]? = some (some (.lst (ls.map D.str)))) :
    ∃ (z : Str) (c2 : Cell), Bg cs c2 ∧ z.length = n ∧ (eM isS mJoin (eC (.str (PySem.Str.ofString ""))) [(eLc false (iR1 fi) (gN 16) tYesM (eL m_law_some [(eVar 1), (eVar 5)]) [15, 16])]) s (c :: t) = .ok (.str z) (c2 :: t) := by
  obtain ⟨ys, c2, h2, hy, hl, e2⟩ := draws_s (cs := cs) (t := t) (xs := ls) (f := eL m_law_some [(eVar 1), (eVar 5)]) (g := gN 16) (s := wpD s [15, 16]) (fun d c hc => by
    obtain ⟨x, c', hb, hx, e3⟩ := some_c hc H (xs := ls.map D.str) (by simpa using hls.1) (by rw [List.length_map]; have := hls.2.1; omega) (pures_strs _)
    obtain ⟨l, hl, rfl⟩ := List.mem_map.mp hx
    refine ⟨_, rfl, l, c', hb, hl, ?_⟩
    have q1 : ((wpD s [15, 16]).set 16 (some d))[1]? = some (some (.ref 0)) := by
      rw [List.getElem?_set_ne (by decide)]
      exact s1
    have q5 : ((wpD s [15, 16]).set 16 (some d))[5]? = some (some (.lst (ls.map D.str))) := by
      rw [List.getElem?_set_ne (by decide)]
      exact s5
    simp only [eL_ap, evs_cons, evs_nil, eVar_ap, q1, q5, slot_some, bind_ok, e3]) ((List.range n).map fun (i : Nat) => D.int (i : Int)) [] c1 h1 (by simp; omega)
  rw [List.length_map, List.length_range] at hl
  have hy1 : ∀ y ∈ ys, y.length = 1 := fun y hy' => hls.2.2 y (hy y hy')
  refine ⟨Txt.join (Str.ofString "") ys, c2, h2, by rw [join_len hy1, hl], ?_⟩
  have e2' : lcL [] (gN 16) tYesM (eL m_law_some [(eVar 1), (eVar 5)]) (wpD s [15, 16]) ((List.range n).map fun (i : Nat) => D.int (i : Int)) [] (c1 :: t) = .ok (ys.map D.str) (c2 :: t) := e2
  rw [eM_ap, eC_ap, bind_ok, if_pos (by rfl), evs_cons, eLcF_ap, e, bind_ok]
  simp only [src_chk, src_items]
  rw [e2', bind_ok, bind_ok, evs_nil, bind_ok, bind_ok, join_ok hy1 (by omega)]
end
end K62

namespace K62
open PySem DL L2

section
variable {cs : List Int} {c : Cell} {M N : Md} {h : AH} {z : Str}
theorem bd_zero {k : Nat} : Bd k 0 := by
  unfold Bd
  exact Nat.pow_pos (by decide)
theorem dot_bd {k l : Nat} : ∀ {n : Nat} {a b : List Int}, a.length ≤ n → RB k a → RB l b → Bd (k + l + n) (dot a b)
  | _, [], b, _, _, _ => by
    have : dot [] b = 0 := rfl
    rw [this]
    exact bd_zero
  | _, x :: a, [], _, _, _ => bd_zero
  | 0, x :: a, y :: b, h, _, _ => by simp at h
  | n + 1, x :: a, y :: b, h, h1, h2 => by
    have e1 := dot_bd (n := n) (a := a) (b := b) (by simpa using h) (fun z hz => h1 z (List.mem_cons_of_mem _ hz)) (fun z hz => h2 z (List.mem_cons_of_mem _ hz))
    have e2 := (h1 x List.mem_cons_self).mul (h2 y List.mem_cons_self)
    show Bd (k + l + (n + 1)) (x * y + dot a b)
    exact ((e2.mono (by omega)).add e1).mono (by omega)
theorem ten_rb {k l : Nat} {x y : List Int} (hx : RB k x) (hy : RB l y) : RB (k + l) (ten x y) := fun w hw => by
  obtain ⟨a, ha, hw⟩ := List.mem_flatMap.mp hw
  obtain ⟨b, hb, rfl⟩ := List.mem_map.mp hw
  exact (hx a ha).mul (hy b hb)
theorem track_rb (hM : M.Ok) (hN : N.Ok) (hz : z.length ≤ 16) : RB 1500 (trackF M N z) := fun w hw => by
  rcases List.mem_append.mp (show w ∈ ten (sumsF M z) (allF N z.length) ++ ten (allF M z.length) (sumsF N z) from hw) with hw | hw
  · exact (ten_rb (sumsF_rb hM hz) (allF_rb hN hz) w hw).mono (by omega)
  · exact (ten_rb (allF_rb hM hz) (sumsF_rb hN hz) w hw).mono (by omega)
theorem track_len (hM : M.Ok) (hN : N.Ok) : (trackF M N z).length ≤ 128 := by
  show (ten (sumsF M z) (allF N z.length) ++ ten (allF M z.length) (sumsF N z)).length ≤ _
  rw [List.length_append, ten_len, ten_len, sumsF_len, allF_len, sumsF_len, allF_len]
  have := Nat.mul_le_mul hM.nb hN.nb
  omega
theorem weight_bd (hM : M.Ok) (hz : z.length ≤ 16) : Bd 540 (weightF M z) := (dot_bd (n := 8) (by rw [sumsF_len]; exact hM.nb) (sumsF_rb hM hz) hM.bd).mono (by omega)
theorem whole_bd (hM : M.Ok) {n : Nat} (hz : n ≤ 16) : Bd 540 (dot (allF M n) M.e) := (dot_bd (n := 8) (by rw [allF_len]; exact hM.nb) (allF_rb hM hz) hM.bd).mono (by omega)
theorem lcL_go {g : MG} {f : ME} {d y : D} {ds acc : List D} {s s1 : Sl} {h h2 : AH} (e1 : g d s = some s1) (e2 : f s1 h = .ok y h2) (hl : acc.length ≤ 1000) : lcL [] g tYesM f s (d :: ds) acc h = lcL [] g tYesM f s ds (acc ++ [y]) h2 := by
  rw [lcL, if_pos okS_nil, e1]
  simp only [tYes_ap, e2]
  rw [if_pos (lenOk_le2 (by omega))]
theorem lcL_end {g : MG} {f : ME} {acc : List D} {s : Sl} {h : AH} : lcL [] g tYesM f s [] acc h = .ok acc h := by
  rw [lcL, if_pos okS_nil]
abbrev S5 (sc t x6 x7 x8 x9 x10 x11 : Option D) (M N : Md) (ls : List Str) : Sl := [sc, some (.ref 0), t, some M.d, some N.d, some (.lst (ls.map D.str)), x6, x7, x8, x9, x10, x11, none, none, none, none, none, none]
theorem wholes_ok {sc t x6 x8 x9 : Option D} {ls : List Str} (hM : M.Ok) (hN : N.Ok) (hz : z.length ≤ 16) (H : PH h) : (eLc false (iA (eTup [(eVar 3), (eVar 4)])) (gN 17) tYesM (eL m_law_ended [(eVar 17), (eL m_law_all_sums [(eVar 17), (eL gLen [(eVar 7)])])]) [15, 17]) (S5 sc t x6 (some (.str z)) x8 x9 none none M N ls) h
    = .ok (.lst [.int (dot (allF M z.length) M.e), .int (dot (allF N z.length) N.e)]) h := by
  have gl : gLen [.str z] h = .ok (.int z.length) h := gLen_str (by omega)
  have step : ∀ (P : Md), P.Ok → ∃ s1, gN 17 P.d (wpD (S5 sc t x6 (some (.str z)) x8 x9 none none M N ls) [15, 17]) = some s1 ∧ (eL m_law_ended [(eVar 17), (eL m_law_all_sums [(eVar 17), (eL gLen [(eVar 7)])])]) s1 h = .ok (.int (dot (allF P z.length) P.e)) h := fun P hP => ⟨_, rfl, by
    have nb := hP.nb
    simp only [sSeq_ap, sIf_ap, sNil_ap, sSet_ap, sRet_ap, sEx_ap, sPar_ap, sAsg_ap, sFgt_ap, sFor_ap, e1_ap, e2_ap, eL_ap, eC_ap, evs_nil, evs_cons, eTup_ap, eLstF_ap, eLstT_ap, eLcF_ap, eLc2F_ap, iA_ap, iZ_ap, tB_ap, tAnd_ap, tOr_ap, tNot_ap, tYes_ap, tV_ap, eSl_ap, oN_ap, oS_ap, eIf_ap, eM_ap, gN_ap, gsN_ap, gsC_ap, bind_ok, fl_ok, eVar_ap, sq_nx, sq_rt, sq_bk, sq_ct, fg_nx, fg_rt, fg_bk, fg_ct, oF_some, oH_some, slot_some, boolR_bl, intR_int, itA_tup, itA_str, itA_lst, itA_lsk, src_items, src_chk, itZ_lt, itZ_tl, itZ_ll, itZ_tt, truR_some, set0, setS, get0, getS, parF_nil, parF_cons, fgt_nil, fgt_cons, wpD_nil, wpD_cons, DL.ite_tt, DL.ite_ff, if_true, if_false, obind_some, gTup_tup, gTup_lst, gList_tup, gList_lst, gLen_tup, gLen_lst, gAdd_int, gSub_int, gl, all_sums_ok (n := z.length) (by omega) hP H]
    rw [ended_ok hP (by rw [allF_len]; omega) H]⟩
  obtain ⟨s1, a1, a2⟩ := step M hM
  obtain ⟨s2, b1, b2⟩ := step N hN
  rw [eLcF_ap]
  simp only [iA_ap, eTup_ap, evs_cons, evs_nil, eVar_ap, get0, getS, slot_some, bind_ok, itA_tup, src_chk, src_items]
  rw [lcL_go a1 a2 (by simp), lcL_go b1 b2 (by simp), lcL_end, bind_ok]
  rfl
theorem turn5 {sc t : Option D} {ls : List Str} {d6 : D} (hM : M.Ok) (hN : N.Ok) (hls : Lets ls) (h : Bg cs c) : ∃ c', Bg cs c' ∧ (sFgt [6] (sSeq (sSet 7 (eM isS mJoin (eC (.str (PySem.Str.ofString ""))) [(eLc false (iR1 (eL m_law_take [(eVar 1), (eC (.int 8))])) (gN 16) tYesM (eL m_law_some [(eVar 1), (eVar 5)]) [15, 16])]))
    (sSeq (sSet 8 (eL m_law_track [(eVar 3), (eVar 4), (eVar 7)]))
    (sSeq (sIf (tNotM (tV (eL m_law_alike [(eL m_track_of [(eVar 3), (eVar 4), (eVar 7)]), (eVar 8)]))) (sRet (eC (.bl false))) sNil)
    (sSeq (sSet 9 (eLst false [(eL m_law_weight [(eVar 3), (eVar 7)]), (eL m_law_weight [(eVar 4), (eVar 7)])]))
    (sSeq (sFgt [7] (sSet 10 (eLc false (iA (eTup [(eVar 3), (eVar 4)])) (gN 17) tYesM (eL m_law_ended [(eVar 17), (eL m_law_all_sums [(eVar 17), (eL gLen [(eVar 7)])])]) [15, 17])))
    (sSeq (sFgt [9, 10] (sSet 11 (e2 gSub (e2 (gMulX false) (e2 gIx (eVar 9) (eC (.int 0))) (e2 gIx (eVar 10) (eC (.int 1)))) (e2 (gMulX false) (e2 gIx (eVar 9) (eC (.int 1))) (e2 gIx (eVar 10) (eC (.int 0)))))))
    (sFgt [8, 11] (sIf (tNotM (tV (eL m_law_alike [(eLst false [(eL m_value_of [(eVar 3), (eVar 4), (eVar 8)]), (eL m_law_value [(eVar 3), (eVar 4), (eVar 8)])]), (eLst false [(eVar 11), (eVar 11)])]))) (sRet (eC (.bl false))) sNil)))))))))
    (S5 sc t (some d6) none none none none none M N ls) [c] = .nx (S5 sc t none none none none none none M N ls) [c'] := by
  obtain ⟨r, c1, h1, r0, r1, e1⟩ := take_c (many := 8) h PH.nil (by decide) (bd_lit (by decide))
  obtain ⟨n, rfl⟩ : ∃ n : Nat, r = (n : Int) := ⟨r.toNat, by omega⟩
  have er : iR1 (eL m_law_take [(eVar 1), (eC (.int 8))]) (S5 sc t (some d6) none none none none none M N ls) [c] = .ok ⟨(List.range n).map fun (i : Nat) => D.int (i : Int), []⟩ [c1] := iR1_ok (by simp only [sSeq_ap, sIf_ap, sNil_ap, sSet_ap, sRet_ap, sEx_ap, sPar_ap, sAsg_ap, sFgt_ap, sFor_ap, e1_ap, e2_ap, eL_ap, eC_ap, evs_nil, evs_cons, eTup_ap, eLstF_ap, eLstT_ap, eLcF_ap, eLc2F_ap, iA_ap, iZ_ap, tB_ap, tAnd_ap, tOr_ap, tNot_ap, tYes_ap, tV_ap, eSl_ap, oN_ap, oS_ap, eIf_ap, eM_ap, gN_ap, gsN_ap, gsC_ap, bind_ok, fl_ok, eVar_ap, sq_nx, sq_rt, sq_bk, sq_ct, fg_nx, fg_rt, fg_bk, fg_ct, oF_some, oH_some, slot_some, boolR_bl, intR_int, itA_tup, itA_str, itA_lst, itA_lsk, src_items, src_chk, itZ_lt, itZ_tl, itZ_ll, itZ_tt, truR_some, set0, setS, get0, getS, parF_nil, parF_cons, fgt_nil, fgt_cons, wpD_nil, wpD_cons, DL.ite_tt, DL.ite_ff, if_true, if_false, obind_some, gTup_tup, gTup_lst, gList_tup, gList_lst, gLen_tup, gLen_lst, gAdd_int, gSub_int, e1]) (by omega)
  obtain ⟨z, c2, h2, hz, e2⟩ := word_c (t := []) hls h h1 PH.nil (by omega) er rfl rfl
  have H2 := h2.ph PH.nil
  have zl : z.length ≤ 16 := by omega
  refine ⟨c2, h2, ?_⟩
  have t1 := law_track_ok (z := z) hM hN zl H2
  have t2 := track_of_ok (z := z) hM hN zl H2
  have t3 := alike_track (h := [c2]) (track_rb (z := z) hM hN zl) (by have := track_len (z := z) hM hN; omega) H2
  have t4 := value_of_ok (h := [c2]) (t := trackF M N z) hM hN (by have := track_len (z := z) hM hN; omega) H2
  have t5 := law_value_ok (h := [c2]) (t := trackF M N z) hM hN (by have := track_len (z := z) hM hN; omega) H2
  have wM := weight_ok (z := z) hM H2
  have wN := weight_ok (z := z) hN H2
  have bM := weight_bd hM zl
  have bN := weight_bd hN zl
  have aM := whole_bd hM zl
  have aN := whole_bd hN zl
  have m1 : ∀ h, gMulX false (.int (weightF M z)) (.int (dot (allF N z.length) N.e)) h = .ok (.int (weightF M z * dot (allF N z.length) N.e)) h := fun h => gMulX_int (bM.mulOk aN (by decide) (by decide) (by decide))
  have m2 : ∀ h, gMulX false (.int (weightF N z)) (.int (dot (allF M z.length) M.e)) h = .ok (.int (weightF N z * dot (allF M z.length) M.e)) h := fun h => gMulX_int (bN.mulOk aM (by decide) (by decide) (by decide))
  have bv : Bd 1100 (weightF M z * dot (allF N z.length) N.e - weightF N z * dot (allF M z.length) M.e) := ((bM.mul aN).sub (bN.mul aM)).mono (by decide)
  rw [val_law hM hN] at t4 t5
  have t6 := alike_list (h := [c2]) (ns := [weightF M z * dot (allF N z.length) N.e - weightF N z * dot (allF M z.length) M.e, weightF M z * dot (allF N z.length) N.e - weightF N z * dot (allF M z.length) M.e]) (fun x hx => by
    simp only [List.mem_cons, List.not_mem_nil, or_false, or_self] at hx
    subst hx
    exact bv.mono (by decide)) (by simp) H2
  have t6' : m_law_alike [.lst [.int (weightF M z * dot (allF N z.length) N.e - weightF N z * dot (allF M z.length) M.e), .int (weightF M z * dot (allF N z.length) N.e - weightF N z * dot (allF M z.length) M.e)], .lst [.int (weightF M z * dot (allF N z.length) N.e - weightF N z * dot (allF M z.length) M.e), .int (weightF M z * dot (allF N z.length) N.e - weightF N z * dot (allF M z.length) M.e)]] [c2] = .ok (.bl true) [c2] := t6
  have ix0 : ∀ (a b : Int) (h : AH), gIx (.lst [.int a, .int b]) (.int 0) h = .ok (.int a) h := fun a b h => gIx_int (xs := [.int a, .int b]) rfl (by decide) rfl
  have ix1 : ∀ (a b : Int) (h : AH), gIx (.lst [.int a, .int b]) (.int 1) h = .ok (.int b) h := fun a b h => gIx_int (xs := [.int a, .int b]) rfl (by decide) rfl
  have ct : ∀ (b : Bool) (h : AH), truD (.bl b) h = some b := fun _ _ => rfl
  rw [sFgt_ap, sSeq_ap, sSet_ap, e2, fl_ok, sq_nx]
  simp only [set0, setS]
  rw [sSeq_ap, sSet_ap]
  simp only [eL_ap, evs_cons, evs_nil, eVar_ap, get0, getS, slot_some, bind_ok, t1, fl_ok, sq_nx, set0, setS]
  rw [sSeq_ap, sIf_ap]
  simp only [sSeq_ap, sIf_ap, sNil_ap, sSet_ap, sRet_ap, sEx_ap, sPar_ap, sAsg_ap, sFgt_ap, sFor_ap, e1_ap, e2_ap, eL_ap, eC_ap, evs_nil, evs_cons, eTup_ap, eLstF_ap, eLstT_ap, eLcF_ap, eLc2F_ap, iA_ap, iZ_ap, tB_ap, tAnd_ap, tOr_ap, tNot_ap, tYes_ap, tV_ap, eSl_ap, oN_ap, oS_ap, eIf_ap, eM_ap, gN_ap, gsN_ap, gsC_ap, bind_ok, fl_ok, eVar_ap, sq_nx, sq_rt, sq_bk, sq_ct, fg_nx, fg_rt, fg_bk, fg_ct, oF_some, oH_some, slot_some, boolR_bl, intR_int, itA_tup, itA_str, itA_lst, itA_lsk, src_items, src_chk, itZ_lt, itZ_tl, itZ_ll, itZ_tt, truR_some, set0, setS, get0, getS, parF_nil, parF_cons, fgt_nil, fgt_cons, wpD_nil, wpD_cons, DL.ite_tt, DL.ite_ff, if_true, if_false, obind_some, gTup_tup, gTup_lst, gList_tup, gList_lst, gLen_tup, gLen_lst, gAdd_int, gSub_int, t2, t3, ct, Bool.not_true, wM, wN]
  have wh := wholes_ok (sc := sc) (t := t) (x6 := some d6) (x8 := some (.tup ((trackF M N z).map D.int))) (x9 := some (.lst [.int (weightF M z), .int (weightF N z)])) (ls := ls) hM hN zl H2
  rw [eLcF_ap] at wh
  simp only [iA_ap, eTup_ap, evs_cons, evs_nil, eVar_ap, get0, getS, slot_some, bind_ok, itA_tup, src_chk, src_items] at wh
  simp only [wpD_nil, wpD_cons, set0, setS] at wh
  rw [wh]
  simp only [sSeq_ap, sIf_ap, sNil_ap, sSet_ap, sRet_ap, sEx_ap, sPar_ap, sAsg_ap, sFgt_ap, sFor_ap, e1_ap, e2_ap, eL_ap, eC_ap, evs_nil, evs_cons, eTup_ap, eLstF_ap, eLstT_ap, eLcF_ap, eLc2F_ap, iA_ap, iZ_ap, tB_ap, tAnd_ap, tOr_ap, tNot_ap, tYes_ap, tV_ap, eSl_ap, oN_ap, oS_ap, eIf_ap, eM_ap, gN_ap, gsN_ap, gsC_ap, bind_ok, fl_ok, eVar_ap, sq_nx, sq_rt, sq_bk, sq_ct, fg_nx, fg_rt, fg_bk, fg_ct, oF_some, oH_some, slot_some, boolR_bl, intR_int, itA_tup, itA_str, itA_lst, itA_lsk, src_items, src_chk, itZ_lt, itZ_tl, itZ_ll, itZ_tt, truR_some, set0, setS, get0, getS, parF_nil, parF_cons, fgt_nil, fgt_cons, wpD_nil, wpD_cons, DL.ite_tt, DL.ite_ff, if_true, if_false, obind_some, gTup_tup, gTup_lst, gList_tup, gList_lst, gLen_tup, gLen_lst, gAdd_int, gSub_int, ix0, ix1, m1, m2, t4, t5, t6', ct, Bool.not_true]
end
end K62

namespace K62
open PySem DL L2

section
variable {cs : List Int} {c : Cell} {M N : Md} {h : AH}
theorem eqvAll_ints : ∀ {a b : List Int}, PyData.eqvAll (D.pys (a.map D.int)) (D.pys (b.map D.int)) = decide (a = b)
  | [], [] => rfl
  | [], _ :: _ => rfl
  | _ :: _, [] => rfl
  | x :: a, y :: b => by
    have ih := eqvAll_ints (a := a) (b := b)
    have e0 := deq_int x y
    unfold deq at e0
    show (PyData.eqv (D.int x).py (D.int y).py && PyData.eqvAll (D.pys (a.map D.int)) (D.pys (b.map D.int))) = _
    rw [e0, ih, Bool.eq_iff_iff, Bool.and_eq_true, decide_eq_true_eq, decide_eq_true_eq, decide_eq_true_eq, List.cons.injEq]
theorem deq_tints {a b : List Int} : deq (.tup (a.map D.int)) (.tup (b.map D.int)) = decide (a = b) := eqvAll_ints
theorem dok_tints (a : List Int) : dok (.tup (a.map D.int)) = true := by
  unfold dok
  simp only [D.pure, D.dep, pures_ints, deps_ints]
  rfl
theorem geq_tints {b : Bool} {x y : List Int} : gEq b (.tup (x.map D.int)) (.tup (y.map D.int)) h = .ok (.bl (b == decide (x = y))) h := by
  rw [gEq_of (d := .tup (x.map D.int)) (e := .tup (y.map D.int)) (dok_tints x) (dok_tints y)]
  show Res.ok (D.bl (b == deq (.tup (x.map D.int)) (.tup (y.map D.int)))) h = _
  rw [deq_tints]
abbrev S6 (sc t x6 x12 x13 x14 : Option D) (M N : Md) (ls : List Str) : Sl := [sc, some (.ref 0), t, some M.d, some N.d, some (.lst (ls.map D.str)), x6, none, none, none, none, none, x12, x13, x14, none, none, none]
theorem words_c {sc t : Option D} {ls : List Str} (hls : Lets ls) (h : Bg cs c) : ∃ (x y : Str) (c' : Cell), Bg cs c' ∧ x.length = 3 ∧ y.length = 3 ∧ (eLc false (iR1 (eC (.int 2))) (gN 6) tYesM (eM isS mJoin (eC (.str (PySem.Str.ofString ""))) [(eLc false (iR1 (eC (.int 3))) (gN 16) tYesM (eL m_law_some [(eVar 1), (eVar 5)]) [15, 16])]) [15, 6]) (S6 sc t none none none none M N ls) [c] = .ok (.lst [.str x, .str y]) [c'] := by
  have step : ∀ (d : D) (c : Cell), Bg cs c → ∃ s1, gN 6 d (wpD (S6 sc t none none none none M N ls) [15, 6]) = some s1 ∧ ∃ (x : Str) (c' : Cell), Bg cs c' ∧ x.length = 3 ∧ (eM isS mJoin (eC (.str (PySem.Str.ofString ""))) [(eLc false (iR1 (eC (.int 3))) (gN 16) tYesM (eL m_law_some [(eVar 1), (eVar 5)]) [15, 16])]) s1 [c] = .ok (.str x) [c'] := fun d c hc => by
    obtain ⟨z, c2, h2, hz, e2⟩ := word_c (t := []) (n := 3) (fi := eC (.int 3)) (s := (S6 sc t (some d) none none none M N ls)) hls hc hc PH.nil (by omega) (iR1_ok rfl (by omega)) rfl rfl
    exact ⟨_, rfl, z, c2, h2, hz, e2⟩
  obtain ⟨s1, a1, x, c1, h1, hx, a2⟩ := step (.int 0) c h
  obtain ⟨s2, b1, y, c2, h2, hy, b2⟩ := step (.int 1) c1 h1
  refine ⟨x, y, c2, h2, hx, hy, ?_⟩
  rw [eLcF_ap, iR1_ok (n := 2) (h1 := [c]) rfl (by omega), bind_ok]
  simp only [src_chk, src_items]
  show (lcL [] (gN 6) tYesM _ _ [.int 0, .int 1] [] [c]).bind _ = _
  rw [lcL_go a1 a2 (by simp), lcL_go b1 b2 (by simp), lcL_end, bind_ok]
  rfl
theorem letters_loop {sc t x12 x13 : Option D} {ls : List Str} {x y : Str} (hM : M.Ok) (hN : N.Ok) (hls : Lets ls) (h : Bg cs c) (hx : x.length = 3) (hy : y.length = 3) (ex : x12 = some (.lst [.str x, .str y])) (he : trackF M N x = trackF M N y) :
    forL [] (gN 14) (sFgt [14] (sIf (tB_ (e2 (gEq false) (eL m_track_of [(eVar 3), (eVar 4), (e2 (gAdd false) (e2 gIx (eVar 12) (eC (.int 0))) (eVar 14))]) (eL m_track_of [(eVar 3), (eVar 4), (e2 (gAdd false) (e2 gIx (eVar 12) (eC (.int 1))) (eVar 14))]))) (sRet (eC (.bl false))) sNil)) (ls.map D.str) (S6 sc t none x12 x13 none M N ls) [c] = .nx (S6 sc t none x12 x13 none M N ls) [c] := by
  subst ex
  obtain ⟨s2, h2, e, e3, e4⟩ := forL_inv (chk := []) (g := gN 14) (body := sFgt [14] (sIf (tB_ (e2 (gEq false) (eL m_track_of [(eVar 3), (eVar 4), (e2 (gAdd false) (e2 gIx (eVar 12) (eC (.int 0))) (eVar 14))]) (eL m_track_of [(eVar 3), (eVar 4), (e2 (gAdd false) (e2 gIx (eVar 12) (eC (.int 1))) (eVar 14))]))) (sRet (eC (.bl false))) sNil))
    (fun _ s h => s = S6 sc t none (some (.lst [.str x, .str y])) x13 none M N ls ∧ h = [c]) (fun _ _ _ _ => okS_nil) (ls.map D.str) 0 _ _ ⟨rfl, rfl⟩ (by
    rintro j d s h' hj ⟨rfl, rfl⟩
    rw [List.getElem?_map] at hj
    obtain ⟨l, hi, rfl⟩ := Option.map_eq_some_iff.mp hj
    have hl := hls.2.2 l (List.mem_of_getElem? hi)
    have H := h.ph PH.nil
    refine ⟨_, rfl, _, _, .inl ?_, rfl, rfl⟩
    have ix0 : ∀ (h : AH), gIx (.lst [.str x, .str y]) (.int 0) h = .ok (.str x) h := fun h => gIx_int (xs := [.str x, .str y]) rfl (by decide) rfl
    have ix1 : ∀ (h : AH), gIx (.lst [.str x, .str y]) (.int 1) h = .ok (.str y) h := fun h => gIx_int (xs := [.str x, .str y]) rfl (by decide) rfl
    have a1 : ∀ h, gAdd false (.str x) (.str l) h = .ok (.str (x ++ l)) h := fun h => gAdd_str (by omega)
    have a2 : ∀ h, gAdd false (.str y) (.str l) h = .ok (.str (y ++ l)) h := fun h => gAdd_str (by omega)
    have t1 := track_of_ok (z := x ++ l) hM hN (by rw [str_app_len]; omega) H
    have t2 := track_of_ok (z := y ++ l) hM hN (by rw [str_app_len]; omega) H
    rw [← track_more hM hN (by rw [hx, hy]) he] at t2
    simp only [sSeq_ap, sIf_ap, sNil_ap, sSet_ap, sRet_ap, sEx_ap, sPar_ap, sAsg_ap, sFgt_ap, sFor_ap, e1_ap, e2_ap, eL_ap, eC_ap, evs_nil, evs_cons, eTup_ap, eLstF_ap, eLstT_ap, eLcF_ap, eLc2F_ap, iA_ap, iZ_ap, tB_ap, tAnd_ap, tOr_ap, tNot_ap, tYes_ap, tV_ap, eSl_ap, oN_ap, oS_ap, eIf_ap, eM_ap, gN_ap, gsN_ap, gsC_ap, bind_ok, fl_ok, eVar_ap, sq_nx, sq_rt, sq_bk, sq_ct, fg_nx, fg_rt, fg_bk, fg_ct, oF_some, oH_some, slot_some, boolR_bl, intR_int, itA_tup, itA_str, itA_lst, itA_lsk, src_items, src_chk, itZ_lt, itZ_tl, itZ_ll, itZ_tt, truR_some, set0, setS, get0, getS, parF_nil, parF_cons, fgt_nil, fgt_cons, wpD_nil, wpD_cons, DL.ite_tt, DL.ite_ff, if_true, if_false, obind_some, gTup_tup, gTup_lst, gList_tup, gList_lst, gLen_tup, gLen_lst, gAdd_int, gSub_int, ix0, ix1, a1, a2, t1, t2, geq_tints]
    rfl)
  rw [e, e3, e4]
theorem turn3 {sc : Option D} {d2 : D} (h : Bg cs c) : ∃ c', Bg cs c' ∧ (sFgt [2] (sSeq (sAsg (eL m_law_couple [(eVar 1)]) (gT 2 (gsC (gN 3) (gsC (gN 4) gsN))))
    (sSeq (sSet 5 (e2 (gAdd false) (eL m_law_arc_letters [(eVar 3), (eVar 4)]) (eLst false [(eC (.str (PySem.Str.ofString "z")))])))
    (sSeq (sFgt [6, 7, 8, 9, 10, 11] (sFor (iR1 (eC (.int 5))) (gN 6) (sFgt [6] (sSeq (sSet 7 (eM isS mJoin (eC (.str (PySem.Str.ofString ""))) [(eLc false (iR1 (eL m_law_take [(eVar 1), (eC (.int 8))])) (gN 16) tYesM (eL m_law_some [(eVar 1), (eVar 5)]) [15, 16])]))
    (sSeq (sSet 8 (eL m_law_track [(eVar 3), (eVar 4), (eVar 7)]))
    (sSeq (sIf (tNotM (tV (eL m_law_alike [(eL m_track_of [(eVar 3), (eVar 4), (eVar 7)]), (eVar 8)]))) (sRet (eC (.bl false))) sNil)
    (sSeq (sSet 9 (eLst false [(eL m_law_weight [(eVar 3), (eVar 7)]), (eL m_law_weight [(eVar 4), (eVar 7)])]))
    (sSeq (sFgt [7] (sSet 10 (eLc false (iA (eTup [(eVar 3), (eVar 4)])) (gN 17) tYesM (eL m_law_ended [(eVar 17), (eL m_law_all_sums [(eVar 17), (eL gLen [(eVar 7)])])]) [15, 17])))
    (sSeq (sFgt [9, 10] (sSet 11 (e2 gSub (e2 (gMulX false) (e2 gIx (eVar 9) (eC (.int 0))) (e2 gIx (eVar 10) (eC (.int 1)))) (e2 (gMulX false) (e2 gIx (eVar 9) (eC (.int 1))) (e2 gIx (eVar 10) (eC (.int 0)))))))
    (sFgt [8, 11] (sIf (tNotM (tV (eL m_law_alike [(eLst false [(eL m_value_of [(eVar 3), (eVar 4), (eVar 8)]), (eL m_law_value [(eVar 3), (eVar 4), (eVar 8)])]), (eLst false [(eVar 11), (eVar 11)])]))) (sRet (eC (.bl false))) sNil)))))))))))
    (sSeq (sSet 12 (eLc false (iR1 (eC (.int 2))) (gN 6) tYesM (eM isS mJoin (eC (.str (PySem.Str.ofString ""))) [(eLc false (iR1 (eC (.int 3))) (gN 16) tYesM (eL m_law_some [(eVar 1), (eVar 5)]) [15, 16])]) [15, 6]))
    (sSeq (sSet 13 (eLst false [(eL m_track_of [(eVar 3), (eVar 4), (e2 gIx (eVar 12) (eC (.int 0)))]), (eL m_track_of [(eVar 3), (eVar 4), (e2 gIx (eVar 12) (eC (.int 1)))])]))
    (sFgt [3, 4, 5, 12, 13, 14] (sIf (tB_ (e2 (gEq true) (e2 gIx (eVar 13) (eC (.int 0))) (e2 gIx (eVar 13) (eC (.int 1))))) (sFor (iA (eVar 5)) (gN 14) (sFgt [14] (sIf (tB_ (e2 (gEq false) (eL m_track_of [(eVar 3), (eVar 4), (e2 (gAdd false) (e2 gIx (eVar 12) (eC (.int 0))) (eVar 14))]) (eL m_track_of [(eVar 3), (eVar 4), (e2 (gAdd false) (e2 gIx (eVar 12) (eC (.int 1))) (eVar 14))]))) (sRet (eC (.bl false))) sNil))) sNil))))))))
    [sc, some (.ref 0), some d2, none, none, none, none, none, none, none, none, none, none, none, none, none, none, none] [c] = .nx [sc, some (.ref 0), none, none, none, none, none, none, none, none, none, none, none, none, none, none, none, none] [c'] := by
  obtain ⟨M, N, c1, h1, hM, hN, e1⟩ := couple_c h
  have H1 := h1.ph PH.nil
  obtain ⟨ls, l1, l2, e2⟩ := arc_letters_ok hM hN H1
  have hls : Lets (ls ++ [Str.ofString "z"]) := ⟨by simp, by rw [List.length_append, List.length_singleton]; omega, fun l hl => by
    rcases List.mem_append.mp hl with hl | hl
    · exact l2 l hl
    · rw [List.mem_singleton.mp hl]
      rfl⟩
  have ga : gAdd false (.lst (ls.map D.str)) (.lst [.str (Str.ofString "z")]) [c1] = .ok (.lst ((ls ++ [Str.ofString "z"]).map D.str)) [c1] := by
    rw [gAdd_lst (by rw [List.length_map, List.length_singleton]; omega), List.map_append]
    rfl
  generalize ls ++ [Str.ofString "z"] = ks at hls ga
  obtain ⟨s2, h2', e3, e4, c2, h2, rfl⟩ := forL_inv (chk := []) (g := gN 6) (body := (sFgt [6] (sSeq (sSet 7 (eM isS mJoin (eC (.str (PySem.Str.ofString ""))) [(eLc false (iR1 (eL m_law_take [(eVar 1), (eC (.int 8))])) (gN 16) tYesM (eL m_law_some [(eVar 1), (eVar 5)]) [15, 16])]))
    (sSeq (sSet 8 (eL m_law_track [(eVar 3), (eVar 4), (eVar 7)]))
    (sSeq (sIf (tNotM (tV (eL m_law_alike [(eL m_track_of [(eVar 3), (eVar 4), (eVar 7)]), (eVar 8)]))) (sRet (eC (.bl false))) sNil)
    (sSeq (sSet 9 (eLst false [(eL m_law_weight [(eVar 3), (eVar 7)]), (eL m_law_weight [(eVar 4), (eVar 7)])]))
    (sSeq (sFgt [7] (sSet 10 (eLc false (iA (eTup [(eVar 3), (eVar 4)])) (gN 17) tYesM (eL m_law_ended [(eVar 17), (eL m_law_all_sums [(eVar 17), (eL gLen [(eVar 7)])])]) [15, 17])))
    (sSeq (sFgt [9, 10] (sSet 11 (DL.e2 gSub (DL.e2 (gMulX false) (DL.e2 gIx (eVar 9) (eC (.int 0))) (DL.e2 gIx (eVar 10) (eC (.int 1)))) (DL.e2 (gMulX false) (DL.e2 gIx (eVar 9) (eC (.int 1))) (DL.e2 gIx (eVar 10) (eC (.int 0)))))))
    (sFgt [8, 11] (sIf (tNotM (tV (eL m_law_alike [(eLst false [(eL m_value_of [(eVar 3), (eVar 4), (eVar 8)]), (eL m_law_value [(eVar 3), (eVar 4), (eVar 8)])]), (eLst false [(eVar 11), (eVar 11)])]))) (sRet (eC (.bl false))) sNil))))))))))
    (fun _ s h => s = S5 sc (some d2) none none none none none none M N ks ∧ ∃ c, Bg cs c ∧ h = [c]) (fun _ _ _ _ => okS_nil) ((List.range 5).map fun (i : Nat) => D.int (i : Int)) 0 (S5 sc (some d2) none none none none none none M N ks) [c1] ⟨rfl, c1, h1, rfl⟩ (by
    rintro j d s h' hj ⟨rfl, c, hc, rfl⟩
    obtain ⟨c', hc', e⟩ := turn5 (sc := sc) (t := some d2) (d6 := d) hM hN hls hc
    exact ⟨_, rfl, _, _, .inl e, rfl, c', hc', rfl⟩)
  obtain ⟨x, y, c3, h3, hx, hy, e5⟩ := words_c (sc := sc) (t := some d2) (M := M) (N := N) hls h2
  have H3 := h3.ph PH.nil
  refine ⟨c3, h3, ?_⟩
  have t1 := track_of_ok (z := x) hM hN (by omega) H3
  have t2 := track_of_ok (z := y) hM hN (by omega) H3
  have ix0 : ∀ (a b : D) (h : AH), gIx (.lst [a, b]) (.int 0) h = .ok a h := fun a b h => gIx_int (xs := [a, b]) rfl (by decide) rfl
  have ix1 : ∀ (a b : D) (h : AH), gIx (.lst [a, b]) (.int 1) h = .ok b h := fun a b h => gIx_int (xs := [a, b]) rfl (by decide) rfl
  have i5 : ∀ s h, iR1 (eC (.int 5)) s h = .ok ⟨(List.range 5).map fun (i : Nat) => D.int (i : Int), []⟩ h := fun s h => iR1_ok rfl (by omega)
  have gp : ∀ s, gT 2 (gsC (gN 3) (gsC (gN 4) gsN)) (.tup [M.d, N.d]) s = some ((s.set 3 (some M.d)).set 4 (some N.d)) := fun s => (gT_tup (n := 2) rfl).trans rfl
  rw [sFgt_ap, sSeq_ap, sAsg_ap]
  simp only [eL_ap, evs_cons, evs_nil, eVar_ap, get0, getS, slot_some, bind_ok, e1, fl_ok, gp, oF_some, sq_nx, set0, setS]
  rw [sSeq_ap, sSet_ap]
  simp only [e2_ap, eL_ap, evs_cons, evs_nil, eVar_ap, get0, getS, slot_some, bind_ok, e2, eLstF_ap, eC_ap, ga, fl_ok, sq_nx, set0, setS]
  rw [sSeq_ap, sFgt_ap, sFor_ap, i5, fl_ok]
  simp only [src_chk, src_items]
  rw [e3, e4, fg_nx, sq_nx]
  simp only [fgt_cons, fgt_nil, set0, setS]
  rw [sSeq_ap, sSet_ap, e5, fl_ok, sq_nx]
  simp only [set0, setS]
  rw [sSeq_ap, sSet_ap]
  simp only [e2_ap, eL_ap, evs_cons, evs_nil, eVar_ap, get0, getS, slot_some, bind_ok, ix0, ix1, t1, t2, eLstF_ap, eC_ap, fl_ok, sq_nx, set0, setS]
  rw [sFgt_ap, sIf_ap]
  simp only [tB_ap, e2_ap, eVar_ap, get0, getS, slot_some, bind_ok, ix0, ix1, eC_ap, geq_tints, boolR_bl, fl_ok]
  by_cases he : trackF M N x = trackF M N y
  · rw [he, if_pos (by simp), sFor_ap]
    simp only [iA_ap, eVar_ap, get0, getS, slot_some, bind_ok, itA_lst, fl_ok, src_chk, src_items]
    rw [letters_loop hM hN hls h3 hx hy rfl he]
    simp only [sSeq_ap, sIf_ap, sNil_ap, sSet_ap, sRet_ap, sEx_ap, sPar_ap, sAsg_ap, sFgt_ap, sFor_ap, e1_ap, e2_ap, eL_ap, eC_ap, evs_nil, evs_cons, eTup_ap, eLstF_ap, eLstT_ap, eLcF_ap, eLc2F_ap, iA_ap, iZ_ap, tB_ap, tAnd_ap, tOr_ap, tNot_ap, tYes_ap, tV_ap, eSl_ap, oN_ap, oS_ap, eIf_ap, eM_ap, gN_ap, gsN_ap, gsC_ap, bind_ok, fl_ok, eVar_ap, sq_nx, sq_rt, sq_bk, sq_ct, fg_nx, fg_rt, fg_bk, fg_ct, oF_some, oH_some, slot_some, boolR_bl, intR_int, itA_tup, itA_str, itA_lst, itA_lsk, src_items, src_chk, itZ_lt, itZ_tl, itZ_ll, itZ_tt, truR_some, set0, setS, get0, getS, parF_nil, parF_cons, fgt_nil, fgt_cons, wpD_nil, wpD_cons, DL.ite_tt, DL.ite_ff, if_true, if_false, obind_some, gTup_tup, gTup_lst, gList_tup, gList_lst, gLen_tup, gLen_lst, gAdd_int, gSub_int]
  · rw [if_neg (by simp [he])]
    simp only [sSeq_ap, sIf_ap, sNil_ap, sSet_ap, sRet_ap, sEx_ap, sPar_ap, sAsg_ap, sFgt_ap, sFor_ap, e1_ap, e2_ap, eL_ap, eC_ap, evs_nil, evs_cons, eTup_ap, eLstF_ap, eLstT_ap, eLcF_ap, eLc2F_ap, iA_ap, iZ_ap, tB_ap, tAnd_ap, tOr_ap, tNot_ap, tYes_ap, tV_ap, eSl_ap, oN_ap, oS_ap, eIf_ap, eM_ap, gN_ap, gsN_ap, gsC_ap, bind_ok, fl_ok, eVar_ap, sq_nx, sq_rt, sq_bk, sq_ct, fg_nx, fg_rt, fg_bk, fg_ct, oF_some, oH_some, slot_some, boolR_bl, intR_int, itA_tup, itA_str, itA_lst, itA_lsk, src_items, src_chk, itZ_lt, itZ_tl, itZ_ll, itZ_tt, truR_some, set0, setS, get0, getS, parF_nil, parF_cons, fgt_nil, fgt_cons, wpD_nil, wpD_cons, DL.ite_tt, DL.ite_ff, if_true, if_false, obind_some, gTup_tup, gTup_lst, gList_tup, gList_lst, gLen_tup, gLen_lst, gAdd_int, gSub_int]
end
end K62

namespace K62
open PySem DL L2

theorem bag_ok (ns : List Int) (hl : ns.length ≤ 63) : ∃ cs c, Bg cs c ∧ m_law_bag [.lsk (ns.map D.int)] [] = .ok (.ref 0) [c] := by
  refine ⟨ns.map fun i => if i < 0 then -i else i, _, ⟨by rw [List.length_map]; exact hl, fun x hx => ?_, 0, 1234567891, 0, by decide, by decide, rfl⟩, ?_⟩
  · obtain ⟨i, _, rfl⟩ := List.mem_map.mp hx
    split <;> omega
  have e0 : cutD (ns.map D.int) none (some 63) = ns.map D.int := by
    have := cutI_take (xs := ns) (n := 63)
    rw [List.take_of_length_le hl] at this
    exact this
  have e1 : (eLst true [(eC (.int 0)), (eC (.int 1234567891)), (eC (.int 0)), (eLc false (iA (eSl false (eVar 0) oN (oS (eC (.int 63))))) (gN 2) tYesM (eL gAbs [(eVar 2)]) [1, 2])]) [some (.lsk (ns.map D.int)), none, none] [] = .ok (.ref 0) [.lst (bagD 0 1234567891 0 (ns.map fun i => if i < 0 then -i else i))] := by
    have gs : ∀ h, gSl false (.lsk (ns.map D.int)) none (some 63) h = .ok (.lst (ns.map D.int)) h := fun h => by
      show mkL false (cutD (ns.map D.int) none (some 63)) h = _
      rw [e0]
      rfl
    rw [eLstT_ap]
    simp only [sSeq_ap, sIf_ap, sNil_ap, sSet_ap, sRet_ap, sEx_ap, sPar_ap, sAsg_ap, sFgt_ap, sFor_ap, e1_ap, e2_ap, eL_ap, eC_ap, evs_nil, evs_cons, eTup_ap, eLstF_ap, eLstT_ap, eLcF_ap, eLc2F_ap, iA_ap, iZ_ap, tB_ap, tAnd_ap, tOr_ap, tNot_ap, tYes_ap, tV_ap, eSl_ap, oN_ap, oS_ap, eIf_ap, eM_ap, gN_ap, gsN_ap, gsC_ap, bind_ok, fl_ok, eVar_ap, sq_nx, sq_rt, sq_bk, sq_ct, fg_nx, fg_rt, fg_bk, fg_ct, oF_some, oH_some, slot_some, boolR_bl, intR_int, itA_tup, itA_str, itA_lst, itA_lsk, src_items, src_chk, itZ_lt, itZ_tl, itZ_ll, itZ_tt, truR_some, set0, setS, get0, getS, parF_nil, parF_cons, fgt_nil, fgt_cons, wpD_nil, wpD_cons, DL.ite_tt, DL.ite_ff, if_true, if_false, obind_some, gTup_tup, gTup_lst, gList_tup, gList_lst, gLen_tup, gLen_lst, gAdd_int, gSub_int, gs]
    rw [lcL_map0 (enc := D.int) (out := fun i => D.int (if i < 0 then -i else i)) okS_nil ns (by omega) fun i hi => ⟨_, rfl, by simp only [sSeq_ap, sIf_ap, sNil_ap, sSet_ap, sRet_ap, sEx_ap, sPar_ap, sAsg_ap, sFgt_ap, sFor_ap, e1_ap, e2_ap, eL_ap, eC_ap, evs_nil, evs_cons, eTup_ap, eLstF_ap, eLstT_ap, eLcF_ap, eLc2F_ap, iA_ap, iZ_ap, tB_ap, tAnd_ap, tOr_ap, tNot_ap, tYes_ap, tV_ap, eSl_ap, oN_ap, oS_ap, eIf_ap, eM_ap, gN_ap, gsN_ap, gsC_ap, bind_ok, fl_ok, eVar_ap, sq_nx, sq_rt, sq_bk, sq_ct, fg_nx, fg_rt, fg_bk, fg_ct, oF_some, oH_some, slot_some, boolR_bl, intR_int, itA_tup, itA_str, itA_lst, itA_lsk, src_items, src_chk, itZ_lt, itZ_tl, itZ_ll, itZ_tt, truR_some, set0, setS, get0, getS, parF_nil, parF_cons, fgt_nil, fgt_cons, wpD_nil, wpD_cons, DL.ite_tt, DL.ite_ff, if_true, if_false, obind_some, gTup_tup, gTup_lst, gList_tup, gList_lst, gLen_tup, gLen_lst, gAdd_int, gSub_int, gAbs]⟩]
    simp only [sSeq_ap, sIf_ap, sNil_ap, sSet_ap, sRet_ap, sEx_ap, sPar_ap, sAsg_ap, sFgt_ap, sFor_ap, e1_ap, e2_ap, eL_ap, eC_ap, evs_nil, evs_cons, eTup_ap, eLstF_ap, eLstT_ap, eLcF_ap, eLc2F_ap, iA_ap, iZ_ap, tB_ap, tAnd_ap, tOr_ap, tNot_ap, tYes_ap, tV_ap, eSl_ap, oN_ap, oS_ap, eIf_ap, eM_ap, gN_ap, gsN_ap, gsC_ap, bind_ok, fl_ok, eVar_ap, sq_nx, sq_rt, sq_bk, sq_ct, fg_nx, fg_rt, fg_bk, fg_ct, oF_some, oH_some, slot_some, boolR_bl, intR_int, itA_tup, itA_str, itA_lst, itA_lsk, src_items, src_chk, itZ_lt, itZ_tl, itZ_ll, itZ_tt, truR_some, set0, setS, get0, getS, parF_nil, parF_cons, fgt_nil, fgt_cons, wpD_nil, wpD_cons, DL.ite_tt, DL.ite_ff, if_true, if_false, obind_some, gTup_tup, gTup_lst, gList_tup, gList_lst, gLen_tup, gLen_lst, gAdd_int, gSub_int]
    unfold bagD
    rw [List.map_map]
    rfl
  unfold m_law_bag fnC b_law_bag
  show (match sRet _ [some (.lsk (ns.map D.int)), none, none] [] with
    | .rt d h' => endFnC 0 d h'
    | _ => .bad) = _
  rw [sRet_ap, e1, fl_ok]
  show endFnC 0 (.ref 0) _ = _
  unfold endFnC
  simp only [List.getElem?_cons_zero, List.take_zero, Nat.le_refl, if_true]
  rw [mapD_pure (bag_pure _ _ _ _)]
  rfl
theorem plain (ns : List Int) (hl : ns.length ≤ 63) : ∃ z, m_law [.lsk (ns.map D.int)] [] = .ok (.bl true) z := by
  obtain ⟨cs, c, hc, e⟩ := bag_ok ns hl
  have key : ∃ c', b_law [some (.lsk (ns.map D.int)), none, none, none, none, none, none, none, none, none, none, none, none, none, none, none, none, none] [] = .rt (.bl true) [c'] := by
    unfold b_law
    rw [sSeq_ap, sSet_ap]
    simp only [eL_ap, evs_cons, evs_nil, eVar_ap, get0, slot_some, bind_ok, e, fl_ok, sq_nx, set0, setS]
    rw [sSeq_ap, sFgt_ap, sFor_ap, iR1_ok (n := 3) (h1 := [c]) rfl (by omega), fl_ok]
    simp only [src_chk, src_items]
    obtain ⟨s2, h2, e3, e4, c2, h2, rfl⟩ := forL_inv (chk := []) (g := gN 2) (fun _ s h => s = [some (.lsk (ns.map D.int)), some (.ref 0), none, none, none, none, none, none, none, none, none, none, none, none, none, none, none, none] ∧ ∃ c, Bg cs c ∧ h = [c]) (fun _ _ _ _ => okS_nil) ((List.range 3).map fun (i : Nat) => D.int (i : Int)) 0 [some (.lsk (ns.map D.int)), some (.ref 0), none, none, none, none, none, none, none, none, none, none, none, none, none, none, none, none] [c] ⟨rfl, c, hc, rfl⟩ (by
      rintro j d s h' hj ⟨rfl, c, hc, rfl⟩
      obtain ⟨c', hc', e⟩ := turn3 (sc := some (.lsk (ns.map D.int))) (d2 := d) hc
      exact ⟨_, rfl, _, _, .inl e, rfl, c', hc', rfl⟩)
    refine ⟨c2, ?_⟩
    rw [e3, e4, fg_nx, sq_nx]
    simp only [sSeq_ap, sIf_ap, sNil_ap, sSet_ap, sRet_ap, sEx_ap, sPar_ap, sAsg_ap, sFgt_ap, sFor_ap, e1_ap, e2_ap, eL_ap, eC_ap, evs_nil, evs_cons, eTup_ap, eLstF_ap, eLstT_ap, eLcF_ap, eLc2F_ap, iA_ap, iZ_ap, tB_ap, tAnd_ap, tOr_ap, tNot_ap, tYes_ap, tV_ap, eSl_ap, oN_ap, oS_ap, eIf_ap, eM_ap, gN_ap, gsN_ap, gsC_ap, bind_ok, fl_ok, eVar_ap, sq_nx, sq_rt, sq_bk, sq_ct, fg_nx, fg_rt, fg_bk, fg_ct, oF_some, oH_some, slot_some, boolR_bl, intR_int, itA_tup, itA_str, itA_lst, itA_lsk, src_items, src_chk, itZ_lt, itZ_tl, itZ_ll, itZ_tt, truR_some, set0, setS, get0, getS, parF_nil, parF_cons, fgt_nil, fgt_cons, wpD_nil, wpD_cons, DL.ite_tt, DL.ite_ff, if_true, if_false, obind_some, gTup_tup, gTup_lst, gList_tup, gList_lst, gLen_tup, gLen_lst, gAdd_int, gSub_int]
  obtain ⟨c', key⟩ := key
  refine ⟨[], ?_⟩
  exact fnB_rt (n := 18) (b := b_law) (ds := [.lsk (ns.map D.int)]) (h := []) (h2 := [c']) key rfl PH.nil
end K62

open PySem PySem.W PyProof.Rows
set_option maxHeartbeats 0 in
theorem PySem.Challenge.cw_unwrittenrow_k62_tracks_and_values_holds : PySem.Challenge.rw_unwrittenrow_k62_tracks_and_values.Holds := by
  w_on; o_law; k_head; (case hw => w_witness2)
  k_fill
  refine DL.walk_dfn (l := PySem.Challenge.rw_unwrittenrow_k62_tracks_and_values) (n := 63) (k := 5) (M := K62.m_law) rfl (by decide) rfl ⟨rfl, by decide, by decide⟩ (fun w h Y => PySem.W.kIn_of Y) ?F K62.plain
  case F =>
    intro w mg h KX G
    refine' K62.all_mk KX G ?a0 ?l0 ?c0 ?k0 ?a1 ?l1 ?c1 ?k1 ?a2 ?l2 ?c2 ?k2 ?a3 ?l3 ?c3 ?k3 ?a4 ?l4 ?c4 ?k4 ?a5 ?l5 ?c5 ?k5 ?a6 ?l6 ?c6 ?k6 ?a7 ?l7 ?c7 ?k7 ?a8 ?l8 ?c8 ?k8 ?a9 ?l9 ?c9 ?k9 ?a10 ?l10 ?c10 ?k10 ?a11 ?l11 ?c11 ?k11 ?a12 ?l12 ?c12 ?k12 ?a13 ?l13 ?c13 ?k13 ?a14 ?l14 ?c14 ?k14 ?a15 ?l15 ?c15 ?k15 ?a16 ?l16 ?c16 ?k16 ?a17 ?l17 ?c17 ?k17 ?a18 ?l18 ?c18 ?k18 ?a19 ?l19 ?c19 ?k19 ?a20 ?l20 ?c20 ?k20 ?a21 ?l21 ?c21 ?k21 ?a22 ?l22 ?c22 ?k22 ?a23 ?l23 ?c23 ?k23 ?a24 ?l24 ?c24 ?k24 ?z_abs ?z_dict ?z_int ?z_len ?z_list ?z_range ?z_repr ?z_set ?z_sorted ?z_sum ?z_tuple ?z_zip
    (case a0 => k_is); (case l0 => k_is); (case c0 => k_is); (case k0 => k_is); (case a1 => k_is); (case l1 => k_is); (case c1 => k_is); (case k1 => k_is); (case a2 => k_is); (case l2 => k_is); (case c2 => k_is); (case k2 => k_is); (case a3 => k_is); (case l3 => k_is); (case c3 => k_is); (case k3 => k_is); (case a4 => k_is); (case l4 => k_is); (case c4 => k_is); (case k4 => k_is); (case a5 => k_is); (case l5 => k_is); (case c5 => k_is); (case k5 => k_is); (case a6 => k_is); (case l6 => k_is); (case c6 => k_is); (case k6 => k_is); (case a7 => k_is); (case l7 => k_is); (case c7 => k_is); (case k7 => k_is); (case a8 => k_is); (case l8 => k_is); (case c8 => k_is); (case k8 => k_is); (case a9 => k_is); (case l9 => k_is); (case c9 => k_is); (case k9 => k_is); (case a10 => k_is); (case l10 => k_is); (case c10 => k_is); (case k10 => k_is); (case a11 => k_is); (case l11 => k_is); (case c11 => k_is); (case k11 => k_is); (case a12 => k_is); (case l12 => k_is); (case c12 => k_is); (case k12 => k_is); (case a13 => k_is); (case l13 => k_is); (case c13 => k_is); (case k13 => k_is); (case a14 => k_is); (case l14 => k_is); (case c14 => k_is); (case k14 => k_is); (case a15 => k_is); (case l15 => k_is); (case c15 => k_is); (case k15 => k_is); (case a16 => k_is); (case l16 => k_is); (case c16 => k_is); (case k16 => k_is); (case a17 => k_is); (case l17 => k_is); (case c17 => k_is); (case k17 => k_is); (case a18 => k_is); (case l18 => k_is); (case c18 => k_is); (case k18 => k_is); (case a19 => k_is); (case l19 => k_is); (case c19 => k_is); (case k19 => k_is); (case a20 => k_is); (case l20 => k_is); (case c20 => k_is); (case k20 => k_is); (case a21 => k_is); (case l21 => k_is); (case c21 => k_is); (case k21 => k_is); (case a22 => k_is); (case l22 => k_is); (case c22 => k_is); (case k22 => k_is); (case a23 => k_is); (case l23 => k_is); (case c23 => k_is); (case k23 => k_is); (case a24 => k_is); (case l24 => k_is); (case c24 => k_is); (case k24 => k_is); (case z_abs => k_is); (case z_dict => k_is); (case z_int => k_is); (case z_len => k_is); (case z_list => k_is); (case z_range => k_is); (case z_repr => k_is); (case z_set => k_is); (case z_sorted => k_is); (case z_sum => k_is); (case z_tuple => k_is); (case z_zip => k_is)
