import PyProof.Rows.All
import Wide.All
import OpenK.AllK
import Wide.FinOn
import HandS.ForMost
import HandS.Exc
import HandS.ExcOwn
import HandS.WordsExc
import HandS.Deep
import HandS.CallSlots
import HandS.Zip
import HandS.ExcInit
import HandS.ExcField
import HandS.TryOnly
import HandS.Wide
import HandS.IsInst
import HandS.TupAny
import HandS.Style
import HandS.Text
import HandS.RaiseMore
import HandS.TupLen
import HandS.WordsDict
import HandS.OwnEq
import HandS.EndBits
import PySem.Challenge.RW_sameagain_k59_whole_run_texts
set_option Elab.async false
set_option linter.all false
set_option maxRecDepth 100000
set_option maxHeartbeats 4000000
namespace PM
open PySem PySem.Spec PyProof.Rows L2
/-- plain data: what never changes -/
inductive D where
  | non | bl (b : Bool) | int (i : Int) | str (x : Str)
  | tup (xs : List D) | lst (xs : List D) | dct (kvs : List (D × D)) | ins (c : Str) (fs : List (Str × D)) | raw (v : V) | scr (ns : List Int)
/-- a value: plain data, or the n-th of the objects that may change -/
inductive U where
  | d (x : D) | loc (n : Nat) | tup (xs : List U)
/-- an object that may change -/
inductive O where
  | lst (xs : List U) | dct (kvs : List (D × U)) | ins (c : Str) (fs : List (Str × U)) | gone
abbrev Hea := List O
abbrev Sl := List (Option U)
structure Exn where
  c : Str
  fs : List (Str × D)
inductive R (α : Type) where
  | ok (a : α) (h : Hea)
  | exc (e : Exn) (h : Hea)
/-- an expression's mirror -/
def M (α : Type) := Sl → Hea → Option (R α)
inductive Out where
  | nx (s : Sl) (h : Hea) | rt (u : U) (h : Hea) | bk (s : Sl) (h : Hea) | ct (s : Sl) (h : Hea) | ex (e : Exn) (s : Sl) (h : Hea)
/-- a statement's mirror -/
def S := Sl → Hea → Option Out
abbrev Bd := Addr → Prop
structure Ct0 where
  K : PySem.W.Frag
  mg : Str → Option Value
def keyD : D → Option Key
  | .int i => some (.inl i)
  | .str x => some (.inr x)
  | _ => none
/-- a list that nobody changes -/
def Fr (B : Bd) (H : Hp) (a : Addr) (vs : List V) : Prop := ¬ B a ∧ H a = some (.lst vs)
/-- .., also one of the written part, or the law's own argument -/
def Frz (K : PySem.W.Frag) (B : Bd) (H : Hp) (a : Addr) (vs : List V) : Prop := (¬ B a ∧ Rd H a (.lst vs)) ∨ SqL K (fun _ => none) a vs
theorem Frz.seq {K : PySem.W.Frag} {B : Bd} {H : Hp} {a : Addr} {vs : List V} (h : Frz K B H a vs) : SqL K H a vs := by
  rcases h with ⟨_, h⟩ | h
  · exact .inl h
  · rcases h with h | h
    · rcases h with h | ⟨o, h⟩ <;> cases h
    · exact .inr h
theorem Fr.seq {K : PySem.W.Frag} {B : Bd} {H : Hp} {a : Addr} {vs : List V} (h : Fr B H a vs) : SqL K H a vs := SqL.of h.2
mutual
inductive RD (C : Ct0) (B : Bd) (H : Hp) : D → V → Prop
  | non : RD C B H .non .non
  | bl (b : Bool) : RD C B H (.bl b) (.bl b)
  | int (i : Int) : RD C B H (.int i) (.int i)
  | str (x : Str) : RD C B H (.str x) (.str x)
  | tup {a : Addr} {ds : List D} {vs : List V} : SqT C.K H a vs → RDs C B H ds vs → RD C B H (.tup ds) (.ref a)
  | lst {a : Addr} {ds : List D} {vs : List V} : Fr B H a vs → RDs C B H ds vs → RD C B H (.lst ds) (.ref a)
  | dct {a : Addr} {ds : List (D × D)} {vs : List (Key × V)} : ¬ B a → Rd H a (.dK vs) → RDk C B H ds vs → RD C B H (.dct ds) (.ref a)
  | ins {a Cd dx : Addr} {c : Str} {ds : List (Str × D)} {vs : List (Str × V)} : C.mg c = some (.ref Cd) → ¬ B a → H a = some (.ins Cd dx vs) → RDf C B H ds vs → RD C B H (.ins c ds) (.ref a)
  | raw (v : V) : RD C B H (.raw v) v
  | scr {a : Addr} {ns : List Int} : Frz C.K B H a (ns.map V.int) → RD C B H (.scr ns) (.ref a)
inductive RDs (C : Ct0) (B : Bd) (H : Hp) : List D → List V → Prop
  | nil : RDs C B H [] []
  | cons {d : D} {v : V} {ds : List D} {vs : List V} : RD C B H d v → RDs C B H ds vs → RDs C B H (d :: ds) (v :: vs)
inductive RDk (C : Ct0) (B : Bd) (H : Hp) : List (D × D) → List (Key × V) → Prop
  | nil : RDk C B H [] []
  | cons {k : Key} {kd d : D} {v : V} {ds : List (D × D)} {vs : List (Key × V)} : keyD kd = some k → RD C B H d v → RDk C B H ds vs → RDk C B H ((kd, d) :: ds) ((k, v) :: vs)
inductive RDf (C : Ct0) (B : Bd) (H : Hp) : List (Str × D) → List (Str × V) → Prop
  | nil : RDf C B H [] []
  | cons {f : Str} {d : D} {v : V} {ds : List (Str × D)} {vs : List (Str × V)} : RD C B H d v → RDf C B H ds vs → RDf C B H ((f, d) :: ds) ((f, v) :: vs)
end
/-- from one state to a later one: rho the addresses of what may change (none: no more), B all addresses that may not be taken for plain data -/
abbrev Rho := List (Option Addr)
def Lv (r : Rho) (a : Addr) : Prop := ∃ n : Nat, r[n]? = some (some a)
structure Ext (B : Bd) (r : Rho) (H : Hp) (B' : Bd) (r' : Rho) (H' : Hp) : Prop where
  rho : ∀ (n : Nat) x, r[n]? = some x → r'[n]? = some x ∨ r'[n]? = some none
  rnew : ∀ (n : Nat) a, r.length ≤ n → r'[n]? = some (some a) → H a = none
  keep : ∀ a o, ¬ Lv r a → H a = some o → H' a = some o
  bnew : ∀ a, B' a → B a ∨ H a = none
  bold : ∀ a, B a → ¬ Lv r a → B' a
  there : ∀ a o, H a = some o → ∃ o', H' a = some o'
  dom : ∀ a, B' a → ∃ o, H' a = some o
theorem rd_some {H : Hp} {a : Addr} {u : HO} (h : Rd H a u) : ∃ o, H a = some o := by
  rcases h with h | ⟨o, h⟩
  · exact ⟨_, h⟩
  · exact ⟨_, h⟩
theorem some_rd {H : Hp} {a : Addr} {o : HO} (h : H a = some o) : ∃ o', H a = some o' := ⟨o, h⟩
theorem Ext.refl {B : Bd} {r : Rho} {H : Hp} (dm : ∀ a, B a → ∃ o, H a = some o) : Ext B r H B r H :=
  { rho := fun _ _ h => .inl h
    rnew := fun n a h1 h2 => by
      rw [List.getElem?_eq_none_iff.mpr h1] at h2
      cases h2
    keep := fun _ _ _ h => h
    bnew := fun _ h => .inl h
    bold := fun _ h _ => h
    there := fun _ o h => ⟨o, h⟩
    dom := dm }
theorem Ext.lv {B B' : Bd} {r r' : Rho} {H H' : Hp} (e : Ext B r H B' r' H') {a : Addr} {o : HO} (ha : H a = some o) (h : Lv r' a) : Lv r a := by
  obtain ⟨n, hn⟩ := h
  by_cases hl : n < r.length
  · have hx : r[n]? = some r[n] := List.getElem?_eq_getElem hl
    rcases e.rho n _ hx with q | q
    · rw [hn] at q
      refine ⟨n, ?_⟩
      rw [hx]
      exact q.symm
    · rw [hn] at q; cases q
  · have := e.rnew n a (Nat.le_of_not_lt hl) hn
    rw [ha] at this; cases this
theorem Ext.trans {B B1 B2 : Bd} {r r1 r2 : Rho} {H H1 H2 : Hp} (dm : ∀ a, B a → ∃ o, H a = some o) (hl : r.length ≤ r1.length) (e : Ext B r H B1 r1 H1) (f : Ext B1 r1 H1 B2 r2 H2) : Ext B r H B2 r2 H2 where
  rho := fun n x h => by
    rcases e.rho n x h with q | q
    · exact f.rho n x q
    · rcases f.rho n _ q with q' | q' <;> exact .inr q'
  rnew := fun n a h1 h2 => by
    by_cases hl : n < r1.length
    · have hx : r1[n]? = some r1[n] := List.getElem?_eq_getElem hl
      rcases f.rho n _ hx with q | q
      · rw [h2] at q
        exact e.rnew n a h1 (by rw [hx]; exact q.symm)
      · rw [h2] at q; cases q
    · have z := f.rnew n a (Nat.le_of_not_lt hl) h2
      cases q : H a with
      | none => rfl
      | some o =>
        obtain ⟨o', z'⟩ := e.there a o q
        rw [z] at z'; cases z'
  keep := fun a o hn h => f.keep a o (fun z => hn (e.lv h z)) (e.keep a o hn h)
  bnew := fun a h => by
    rcases f.bnew a h with q | q
    · exact e.bnew a q
    · refine .inr ?_
      cases q' : H a with
      | none => rfl
      | some o =>
        obtain ⟨o', z'⟩ := e.there a o q'
        rw [q] at z'; cases z'
  bold := fun a h hn => by
    obtain ⟨o, ho⟩ := dm a h
    exact f.bold a (e.bold a h hn) fun z => hn (e.lv ho z)
  there := fun a o h => by
    obtain ⟨o', z⟩ := e.there a o h
    exact f.there a o' z
  dom := f.dom
section
variable {C : Ct0} {B B' : Bd} {r r' : Rho} {H H' : Hp}
theorem Ext.rd (e : Ext B r H B' r' H') {a : Addr} {u : HO} (hn : ¬ Lv r a) (h : Rd H a u) : Rd H' a u := by
  rcases h with h | ⟨o, h⟩
  · exact .inl (e.keep a _ hn h)
  · exact .inr ⟨o, e.keep a _ hn h⟩
theorem Ext.sqT {K : PySem.W.Frag} (e : Ext B r H B' r' H') (own : ∀ a, Lv r a → ∀ vs, ¬ Rd H a (.tup vs)) {a : Addr} {vs : List V} (h : SqT K H a vs) : SqT K H' a vs := by
  rcases h with h | h
  · exact .inl (e.rd (fun z => own a z _ h) h)
  · exact .inr h
theorem Ext.fr (e : Ext B r H B' r' H') (own : ∀ a, Lv r a → B a) {a : Addr} {vs : List V} (h : Fr B H a vs) : Fr B' H' a vs := by
  obtain ⟨nb, h⟩ := h
  refine ⟨fun z => ?_, e.keep a _ (fun z => nb (own a z)) h⟩
  rcases e.bnew a z with q | q
  · exact nb q
  · rw [h] at q; cases q
theorem Ext.frz {K : PySem.W.Frag} (e : Ext B r H B' r' H') (own : ∀ a, Lv r a → B a) {a : Addr} {vs : List V} (h : Frz K B H a vs) : Frz K B' H' a vs := by
  rcases h with ⟨nb, h⟩ | h
  · refine .inl ⟨fun z => ?_, e.rd (fun z => nb (own a z)) h⟩
    obtain ⟨o, ho⟩ := rd_some h
    rcases e.bnew a z with q | q
    · exact nb q
    · rw [ho] at q; cases q
  · exact .inr h
/-- what is known of the changing things: theirs are the addresses in B, and no tuple is among them -/
structure Own (B : Bd) (r : Rho) (H : Hp) : Prop where
  own : ∀ a, Lv r a → B a
  notup : ∀ a, B a → ∀ vs, ¬ Rd H a (.tup vs)
  dom : ∀ a, B a → ∃ o, H a = some o
theorem Own.lvt (w : Own B r H) : ∀ a, Lv r a → ∀ vs, ¬ Rd H a (.tup vs) := fun a h => w.notup a (w.own a h)
theorem nb_of (e : Ext B r H B' r' H') {a : Addr} (nb : ¬ B a) {o : HO} (h : H a = some o) : ¬ B' a := fun z => by
  rcases e.bnew a z with q | q
  · exact nb q
  · rw [h] at q; cases q
mutual
theorem RD.ext (e : Ext B r H B' r' H') (w : Own B r H) : ∀ {d : D} {v : V}, RD C B H d v → RD C B' H' d v
  | _, _, .non => .non
  | _, _, .bl b => .bl b
  | _, _, .int i => .int i
  | _, _, .str x => .str x
  | _, _, .tup h q => .tup (e.sqT w.lvt h) (RDs.ext e w q)
  | _, _, .lst h q => .lst (e.fr w.own h) (RDs.ext e w q)
  | _, _, .dct nb h q => .dct (let ⟨_, z⟩ := rd_some h; nb_of e nb z) (e.rd (fun z => nb (w.own _ z)) h) (RDk.ext e w q)
  | _, _, .ins m nb h q => .ins m (nb_of e nb h) (e.keep _ _ (fun z => nb (w.own _ z)) h) (RDf.ext e w q)
  | _, _, .raw v => .raw v
  | _, _, .scr h => .scr (e.frz w.own h)
theorem RDs.ext (e : Ext B r H B' r' H') (w : Own B r H) : ∀ {d : List D} {v : List V}, RDs C B H d v → RDs C B' H' d v
  | _, _, .nil => .nil
  | _, _, .cons a b => .cons (RD.ext e w a) (RDs.ext e w b)
theorem RDk.ext (e : Ext B r H B' r' H') (w : Own B r H) : ∀ {d : List (D × D)} {v : List (Key × V)}, RDk C B H d v → RDk C B' H' d v
  | _, _, .nil => .nil
  | _, _, .cons k a b => .cons k (RD.ext e w a) (RDk.ext e w b)
theorem RDf.ext (e : Ext B r H B' r' H') (w : Own B r H) : ∀ {d : List (Str × D)} {v : List (Str × V)}, RDf C B H d v → RDf C B' H' d v
  | _, _, .nil => .nil
  | _, _, .cons a b => .cons (RD.ext e w a) (RDf.ext e w b)
end
end
/-- what is known of the exception in hand (in an except suite): the slot of its name, its address, what is true of it as long as nothing but what may change is changed -/
structure Jx where
  xi : Option (Nat × Addr)
  J : Ct0 → Bd → Hp → Prop
  st : ∀ C B r H B' r' H', Own B r H → Ext B r H B' r' H' → J C B H → J C B' H'
def j0 : Jx := ⟨none, fun _ _ _ => True, fun _ _ _ _ _ _ _ _ _ _ => True.intro⟩
structure Ct extends Ct0 where
  j : Jx
instance : Coe Ct Ct0 := ⟨Ct.toCt0⟩
section
variable {B B' : Bd} {r r' : Rho} {H H' : Hp}
theorem Ext.len (e : Ext B r H B' r' H') : r.length ≤ r'.length := by
  cases hn : r.length with
  | zero => exact Nat.zero_le _
  | succ n =>
    have hlt : n < r.length := by omega
    have hx : r[n]? = some r[n] := List.getElem?_eq_getElem hlt
    rcases e.rho n _ hx with q | q <;> exact Nat.succ_le_of_lt (List.getElem?_eq_some_iff.mp q).1
theorem Ext.tr {B1 B2 : Bd} {r1 r2 : Rho} {H1 H2 : Hp} (w : Own B r H) (e : Ext B r H B1 r1 H1) (f : Ext B1 r1 H1 B2 r2 H2) : Ext B r H B2 r2 H2 := Ext.trans w.dom e.len e f
mutual
inductive RU (C : Ct0) (B : Bd) (r : Rho) (H : Hp) : U → V → Prop
  | d {x : D} {v : V} : RD C B H x v → RU C B r H (.d x) v
  | loc {n : Nat} {a : Addr} : r[n]? = some (some a) → RU C B r H (.loc n) (.ref a)
  | gone {n : Nat} {v : V} : r[n]? = some none → RU C B r H (.loc n) v
  | tup {a : Addr} {us : List U} {vs : List V} : SqT C.K H a vs → RUs C B r H us vs → RU C B r H (.tup us) (.ref a)
inductive RUs (C : Ct0) (B : Bd) (r : Rho) (H : Hp) : List U → List V → Prop
  | nil : RUs C B r H [] []
  | cons {d : U} {v : V} {ds : List U} {vs : List V} : RU C B r H d v → RUs C B r H ds vs → RUs C B r H (d :: ds) (v :: vs)
end
inductive RUk (C : Ct0) (B : Bd) (r : Rho) (H : Hp) : List (D × U) → List (Key × V) → Prop
  | nil : RUk C B r H [] []
  | cons {k : Key} {kd : D} {d : U} {v : V} {ds : List (D × U)} {vs : List (Key × V)} : keyD kd = some k → RU C B r H d v → RUk C B r H ds vs → RUk C B r H ((kd, d) :: ds) ((k, v) :: vs)
inductive RUf (C : Ct0) (B : Bd) (r : Rho) (H : Hp) : List (Str × U) → List (Str × V) → Prop
  | nil : RUf C B r H [] []
  | cons {f : Str} {d : U} {v : V} {ds : List (Str × U)} {vs : List (Str × V)} : RU C B r H d v → RUf C B r H ds vs → RUf C B r H ((f, d) :: ds) ((f, v) :: vs)
mutual
theorem RU.ext {C : Ct0} (e : Ext B r H B' r' H') (w : Own B r H) : ∀ {d : U} {v : V}, RU C B r H d v → RU C B' r' H' d v
  | _, _, .d h => .d (h.ext e w)
  | _, _, .loc h => by
    rcases e.rho _ _ h with q | q
    · exact .loc q
    · exact .gone q
  | _, _, .gone h => by
    rcases e.rho _ _ h with q | q
    · exact .gone q
    · exact .gone q
  | _, _, .tup h q => .tup (e.sqT w.lvt h) (RUs.ext e w q)
theorem RUs.ext {C : Ct0} (e : Ext B r H B' r' H') (w : Own B r H) : ∀ {d : List U} {v : List V}, RUs C B r H d v → RUs C B' r' H' d v
  | _, _, .nil => .nil
  | _, _, .cons a b => .cons (RU.ext e w a) (RUs.ext e w b)
end
theorem RUk.ext {C : Ct0} (e : Ext B r H B' r' H') (w : Own B r H) : ∀ {d : List (D × U)} {v : List (Key × V)}, RUk C B r H d v → RUk C B' r' H' d v
  | _, _, .nil => .nil
  | _, _, .cons k a b => .cons k (RU.ext e w a) (RUk.ext e w b)
theorem RUf.ext {C : Ct0} (e : Ext B r H B' r' H') (w : Own B r H) : ∀ {d : List (Str × U)} {v : List (Str × V)}, RUf C B r H d v → RUf C B' r' H' d v
  | _, _, .nil => .nil
  | _, _, .cons a b => .cons (RU.ext e w a) (RUf.ext e w b)
def RO (C : Ct0) (B : Bd) (r : Rho) (H : Hp) (a : Addr) : O → Prop
  | .lst us => ∃ vs, H a = some (.lst vs) ∧ RUs C B r H us vs
  | .dct kvs => ∃ vs, H a = some (.dK vs) ∧ RUk C B r H kvs vs
  | .ins c fs => ∃ Cd dx vs, C.mg c = some (.ref Cd) ∧ H a = some (.ins Cd dx vs) ∧ RUf C B r H fs vs
  | .gone => False
structure Wd (C : Ct) (B : Bd) (r : Rho) (H : Hp) (h : Hea) : Prop extends Own B r H where
  len : r.length = h.length
  obj : ∀ (n : Nat) a, r[n]? = some (some a) → ∃ o, h[n]? = some o ∧ RO C B r H a o
  gon : ∀ (n : Nat), r[n]? = some none → h[n]? = some .gone
  inj : ∀ (n m : Nat) a, r[n]? = some (some a) → r[m]? = some (some a) → n = m
  jx : C.j.J C.toCt0 B H
/-- an object as it stands, the state behind it having more that is new -/
theorem RO.ext {C : Ct0} (e : Ext B r H B' r' H') (w : Own B r H) {a : Addr} (hk : H' a = H a) : ∀ {o : O}, RO C B r H a o → RO C B' r' H' a o
  | .lst us, ⟨vs, h, q⟩ => ⟨vs, hk.trans h, q.ext e w⟩
  | .dct us, ⟨vs, h, q⟩ => ⟨vs, hk.trans h, q.ext e w⟩
  | .ins c us, ⟨Cd, dx, vs, m, h, q⟩ => ⟨Cd, dx, vs, m, hk.trans h, q.ext e w⟩
  | .gone, h => h.elim
/-- more that is new, nothing else -/
structure Gr (B : Bd) (H : Hp) (B' : Bd) (H' : Hp) : Prop where
  keep : ∀ a o, H a = some o → H' a = some o
  bnew : ∀ a, B' a → B a ∨ H a = none
  bold : ∀ a, B a → B' a
  dom : ∀ a, B' a → ∃ o, H' a = some o
  notup : ∀ a, B' a → ∀ vs, ¬ Rd H' a (.tup vs)
theorem rd_keep {H H' : Hp} {a : Addr} {u : HO} (k : ∀ o, H a = some o → H' a = some o) (h : Rd H a u) : Rd H' a u := by
  rcases h with h | ⟨o, h⟩
  · exact .inl (k _ h)
  · exact .inr ⟨o, k _ h⟩
theorem rd_back {H H' : Hp} {a : Addr} {u : HO} {o : HO} (ho : H a = some o) (k : ∀ o, H a = some o → H' a = some o) (h : Rd H' a u) : Rd H a u := by
  have q := k _ ho
  rcases h with h | ⟨z, h⟩
  · rw [q] at h
    exact .inl (by rw [ho]; exact h)
  · rw [q] at h
    exact .inr ⟨z, by rw [ho]; exact h⟩
theorem Gr.ext (g : Gr B H B' H') : Ext B r H B' r H' where
  rho := fun _ _ h => .inl h
  rnew := fun n a h1 h2 => by
    rw [List.getElem?_eq_none_iff.mpr h1] at h2
    cases h2
  keep := fun a o _ h => g.keep a o h
  bnew := g.bnew
  bold := fun a h _ => g.bold a h
  there := fun a o h => ⟨o, g.keep a o h⟩
  dom := g.dom
theorem Gr.wd {C : Ct} {h : Hea} (g : Gr B H B' H') (w : Wd C B r H h) : Wd C B' r H' h where
  own := fun a z => g.bold a (w.own a z)
  notup := g.notup
  dom := g.dom
  len := w.len
  obj := fun n a hn => by
    obtain ⟨o, ho, q⟩ := w.obj n a hn
    refine ⟨o, ho, q.ext g.ext w.toOwn ?_⟩
    obtain ⟨x, hx⟩ := w.dom a (w.own a ⟨n, hn⟩)
    rw [hx]
    exact g.keep a x hx
  gon := w.gon
  inj := w.inj
  jx := C.j.st _ _ r _ _ r _ w.toOwn g.ext w.jx
theorem Own.gr (w : Own B r H) : Gr B H B H := ⟨fun _ _ h => h, fun _ h => .inl h, fun _ h => h, w.dom, w.notup⟩
/-- a new object that is not to change -/
theorem Own.new (w : Own B r H) {p : Addr} (hp : H p = none) (o : HO) : Gr B H B (upd H p o) where
  keep := fun a x h => by
    rw [upd_ne (ne_of_none h hp)]
    exact h
  bnew := fun _ h => .inl h
  bold := fun _ h => h
  dom := fun a h => by
    obtain ⟨x, hx⟩ := w.dom a h
    exact ⟨x, by rw [upd_ne (ne_of_none hx hp)]; exact hx⟩
  notup := fun a h vs z => by
    obtain ⟨x, hx⟩ := w.dom a h
    refine w.notup a h vs (rd_back hx (fun o ho => ?_) z)
    rw [upd_ne (ne_of_none ho hp)]
    exact ho
theorem Own.nb (w : Own B r H) {p : Addr} (hp : H p = none) : ¬ B p := fun z => by
  obtain ⟨x, hx⟩ := w.dom p z
  rw [hp] at hx; cases hx
/-- the state behind: what was not live is as it was -/
theorem Gr.trans {B1 B2 : Bd} {H1 H2 : Hp} (g : Gr B H B1 H1) (g2 : Gr B1 H1 B2 H2) : Gr B H B2 H2 :=
  { keep := fun a o h => g2.keep a o (g.keep a o h)
    bnew := fun a h => by
      rcases g2.bnew a h with q | q
      · exact g.bnew a q
      · refine .inr ?_
        cases z : H a with
        | none => rfl
        | some o =>
          have z2 := g2.keep a o (g.keep a o z)
          rw [g.keep a o z] at q
          cases q
    bold := fun a h => g2.bold a (g.bold a h)
    dom := g2.dom
    notup := g2.notup }
inductive RV (C : Ct0) (B : Bd) (H : Hp) : D → V → Prop
  | of {d : D} {v : V} : RD C B H d v → RV C B H d v
  | lst {a : Addr} {ds : List D} {vs : List V} : H a = some (.lst vs) → RDs C B H ds vs → RV C B H (.lst ds) (.ref a)
  | dct {a : Addr} {ds : List (D × D)} {vs : List (Key × V)} : Rd H a (.dK vs) → RDk C B H ds vs → RV C B H (.dct ds) (.ref a)
  | ins {a Cd dx : Addr} {c : Str} {ds : List (Str × D)} {vs : List (Str × V)} : C.mg c = some (.ref Cd) → H a = some (.ins Cd dx vs) → RDf C B H ds vs → RV C B H (.ins c ds) (.ref a)
def U.toD : U → Option D
  | .d x => some x
  | _ => none
def allD : List U → Option (List D)
  | [] => some []
  | u :: us => match u.toD, allD us with
    | some x, some xs => some (x :: xs)
    | _, _ => none
def allK : List (D × U) → Option (List (D × D))
  | [] => some []
  | (k, u) :: us => match u.toD, allK us with
    | some x, some xs => some ((k, x) :: xs)
    | _, _ => none
def allF : List (Str × U) → Option (List (Str × D))
  | [] => some []
  | (k, u) :: us => match u.toD, allF us with
    | some x, some xs => some ((k, x) :: xs)
    | _, _ => none
def O.view : O → Option D
  | .lst us => (allD us).map .lst
  | .dct us => (allK us).map .dct
  | .ins c us => (allF us).map (.ins c)
  | .gone => none
def view (h : Hea) : U → Option D
  | .d x => some x
  | .loc n => match h[n]? with
    | some o => o.view
    | none => none
  | .tup us => (allD us).map .tup
section
variable {C : Ct} {h : Hea}
theorem toD_some {u : U} {d : D} (h : u.toD = some d) : u = .d d := by
  cases u with
  | d x => exact congrArg U.d (Option.some.inj h)
  | loc n => cases h
  | tup us => cases h
theorem RU.toD {u : U} {v : V} {d : D} (q : RU C B r H u v) (h : u.toD = some d) : RD C.toCt0 B H d v := by
  have e := toD_some h
  subst e
  cases q with
  | d q => exact q
theorem RUs.allD : ∀ {us : List U} {vs : List V} {ds : List D}, RUs C B r H us vs → allD us = some ds → RDs C.toCt0 B H ds vs
  | [], _, ds, .nil, h => by
    cases h
    exact .nil
  | u :: us, _, ds, .cons a b, h => by
    unfold PM.allD at h
    split at h
    · rename_i x xs e1 e2
      cases h
      exact .cons (a.toD e1) (RUs.allD b e2)
    · cases h
theorem RUk.allK : ∀ {us : List (D × U)} {vs : List (Key × V)} {ds : List (D × D)}, RUk C B r H us vs → allK us = some ds → RDk C.toCt0 B H ds vs
  | [], _, ds, .nil, h => by
    cases h
    exact .nil
  | (k, u) :: us, _, ds, .cons e a b, h => by
    unfold PM.allK at h
    split at h
    · rename_i x xs e1 e2
      cases h
      exact .cons e (a.toD e1) (RUk.allK b e2)
    · cases h
theorem RUf.allF : ∀ {us : List (Str × U)} {vs : List (Str × V)} {ds : List (Str × D)}, RUf C B r H us vs → allF us = some ds → RDf C.toCt0 B H ds vs
  | [], _, ds, .nil, h => by
    cases h
    exact .nil
  | (k, u) :: us, _, ds, .cons a b, h => by
    unfold PM.allF at h
    split at h
    · rename_i x xs e1 e2
      cases h
      exact .cons (a.toD e1) (RUf.allF b e2)
    · cases h
theorem RO.view {a : Addr} : ∀ {o : O} {d : D}, RO C B r H a o → o.view = some d → RV C.toCt0 B H d (.ref a)
  | .lst us, d, ⟨vs, hH, q⟩, h => by
    change (allD us).map D.lst = some d at h
    cases e : allD us with
    | none => rw [e] at h; cases h
    | some xs =>
      rw [e] at h
      cases h
      exact .lst hH (q.allD e)
  | .dct us, d, ⟨vs, hH, q⟩, h => by
    change (allK us).map D.dct = some d at h
    cases e : allK us with
    | none => rw [e] at h; cases h
    | some xs =>
      rw [e] at h
      cases h
      exact .dct (.inl hH) (q.allK e)
  | .ins c us, d, ⟨Cd, dx, vs, m, hH, q⟩, h => by
    change (allF us).map (D.ins c) = some d at h
    cases e : allF us with
    | none => rw [e] at h; cases h
    | some xs =>
      rw [e] at h
      cases h
      exact .ins m hH (q.allF e)
  | .gone, _, h, _ => h.elim
theorem Wd.view (w : Wd C B r H h) {u : U} {v : V} {d : D} (q : RU C B r H u v) (e : view h u = some d) : RV C.toCt0 B H d v := by
  cases q with
  | d q =>
    cases e
    exact .of q
  | loc hn =>
    obtain ⟨o, ho, ro⟩ := w.obj _ _ hn
    unfold PM.view at e
    simp only [ho] at e
    exact ro.view e
  | gone hn =>
    unfold PM.view at e
    simp only [w.gon _ hn] at e
    cases e
  | tup hs qs =>
    rename_i us vs
    change (allD us).map D.tup = some d at e
    cases z : allD us with
    | none => rw [z] at e; cases e
    | some xs =>
      rw [z] at e
      cases e
      exact .of (.tup hs (qs.allD z))
end
end
/-- an exception as it lies: its class's address, its own dict -/
def RX (C : Ct0) (B : Bd) (H : Hp) (e : Exn) (cls : Value) (d : Option Addr) : Prop :=
  ∃ Cd, C.mg e.c = some (.ref Cd) ∧ cls = .ref Cd ∧ ((e.fs = [] ∧ d = none) ∨ ∃ dx fs, d = some dx ∧ ¬ B dx ∧ H dx = some (.xd fs) ∧ RDf C B H e.fs fs)
/-- what is wanted of an exception, and what is known of the one in hand -/
structure Wj where
  w : WX
  j : Jx
/-- what is wanted behind: Q of what Rel says the answer is, W of an exception -/
def EQ (C : Ct) (W : Wj) (σ : L2.St) {α β : Type} (B : Bd) (r : Rho) (H : Hp) (x : Option (R α)) (Rel : Bd → Rho → Hp → α → β → Prop) (Q : β → Hp → Prop) : Prop :=
  match x with
  | none => False
  | some (.ok a h') => ∀ B' r' H' v, Ext B r H B' r' H' → Wd C B' r' H' h' → Rel B' r' H' a v → Q v H'
  | some (.exc e h') => ∀ B' r' H' cls d, Ext B r H B' r' H' → Wd C B' r' H' h' → RX C.toCt0 B' H' e cls d → W.w cls d σ H'
structure SlR (C : Ct) (B : Bd) (r : Rho) (H : Hp) (σ : L2.St) (δ : Sl) : Prop where
  len : δ.length = σ.length
  at_ : ∀ (i : Nat) u, δ[i]? = some (some u) → ∃ v, σ[i]? = some (some v) ∧ RU C B r H u v
  xi : ∀ i a, C.j.xi = some (i, a) → σ[i]? = some (some (.ref a))
def tG (C : Ct) (W : Wj) {α β : Type} (Rel : Bd → Rho → Hp → α → β → Prop) (f : M α) : L2.St → Hp → (β → Hp → Prop) → Prop := fun σ H Q =>
  ∃ B r h δ, Wd C B r H h ∧ SlR C B r H σ δ ∧ EQ C W σ B r H (f δ h) Rel Q
def tI (C : Ct) (W : Wj) (f : M U) : TE := tG C W (RU C) f
def tA (C : Ct) (W : Wj) (f : M (List U)) : TA := tG C W (RUs C) f
def relB : Bd → Rho → Hp → Bool → Bool → Prop := fun _ _ _ a b => a = b
def tT (C : Ct) (W : Wj) (f : M Bool) : TT := tG C W relB f
abbrev ctX (X : Cx) (W : Wj) : Ct := ⟨⟨X.K, X.mg⟩, W.j⟩
def RE (X : Cx) (W : Wj) (e : Expr) (f : M U) : Prop := PE X e (tI (ctX X W) W f)
def RA (X : Cx) (W : Wj) (es : List Expr) (f : M (List U)) : Prop := PA X es (tA (ctX X W) W f)
def RT (X : Cx) (W : Wj) (e : Expr) (f : M Bool) : Prop := PT X e (tT (ctX X W) W f)
def RW (X : Cx) (W : Wj) (e : Expr) (f : M Bool) : Prop := PW X e (tT (ctX X W) W f)
section
variable {X : Cx} {e : Expr}
theorem pe_imp {t t' : TE} (h : PE X e t) (i : ∀ σ H Q, t' σ H Q → t σ H Q) : PE X e t' := ⟨fun pins s σ H Q I q => h.run pins s σ H Q I (i _ _ _ q)⟩
theorem pt_imp {t t' : TT} (h : PT X e t) (i : ∀ σ H Q, t' σ H Q → t σ H Q) : PT X e t' := ⟨fun pins s σ H Q I q => h.run pins s σ H Q I (i _ _ _ q)⟩
theorem pw_imp {t t' : TT} (h : PW X e t) (i : ∀ σ H Q, t' σ H Q → t σ H Q) : PW X e t' := ⟨fun wh pins s σ H Q I q => h.run wh pins s σ H Q I (i _ _ _ q)⟩
theorem pa_imp {es : List Expr} {t t' : TA} (h : PA X es t) (i : ∀ σ H Q, t' σ H Q → t σ H Q) : PA X es t' := ⟨fun pos pins s σ H Q I q => h.run pos pins s σ H Q I (i _ _ _ q)⟩
theorem ps_imp {st : Stmt} {t t' : TS} (h : PS X st t) (i : ∀ D σ H, t' D σ H → t D σ H) : PS X st t' := ⟨fun pins s σ H D I q => h.run pins s σ H D I (i _ _ _ q)⟩
theorem pss_imp {st : List Stmt} {t t' : TS} (h : PSs X st t) (i : ∀ D σ H, t' D σ H → t D σ H) : PSs X st t' := ⟨fun pins s σ H D I q => h.run pins s σ H D I (i _ _ _ q)⟩
end
def mret {α : Type} (a : α) : M α := fun _ h => some (.ok a h)
def mbnd {α β : Type} (f : M α) (k : α → M β) : M β := fun δ h => match f δ h with
  | some (.ok a h') => k a δ h'
  | some (.exc e h') => some (.exc e h')
  | none => none
def mfail {α : Type} : M α := fun _ _ => none
section
variable {C : Ct} {W : Wj} {σ : L2.St} {B B' : Bd} {r r' : Rho} {H H' : Hp} {α β γ ε : Type} {h : Hea} {δ : Sl}
theorem EQ.shift {x : Option (R α)} {Rel : Bd → Rho → Hp → α → β → Prop} {Q : β → Hp → Prop} (w : Own B r H) (q : EQ C W σ B r H x Rel Q) (e : Ext B r H B' r' H') : EQ C W σ B' r' H' x Rel Q := by
  unfold EQ at *
  split
  · exact q.elim
  · intro B2 r2 H2 v e2
    exact q B2 r2 H2 v (e.tr w e2)
  · intro B2 r2 H2 cls d e2
    exact q B2 r2 H2 cls d (e.tr w e2)
theorem SlR.ext {C : Ct} (s : SlR C B r H σ δ) (e : Ext B r H B' r' H') (w : Own B r H) : SlR C B' r' H' σ δ :=
  ⟨s.len, fun i u hu => let ⟨v, h1, h2⟩ := s.at_ i u hu; ⟨v, h1, h2.ext e w⟩, s.xi⟩
/-- the first part, then the rest -/
theorem EQ.bnd {f : M α} {k : α → M γ} {Rel : Bd → Rho → Hp → α → β → Prop} {Rel2 : Bd → Rho → Hp → γ → ε → Prop} {Q : ε → Hp → Prop} {Q1 : β → Hp → Prop} (w : Wd C B r H h) (s : SlR C B r H σ δ)
    (q : EQ C W σ B r H (mbnd f k δ h) Rel2 Q)
    (n : ∀ a B' r' H' h' v, Ext B r H B' r' H' → Wd C B' r' H' h' → SlR C B' r' H' σ δ → Rel B' r' H' a v → EQ C W σ B' r' H' (k a δ h') Rel2 Q → Q1 v H') :
    EQ C W σ B r H (f δ h) Rel Q1 := by
  unfold mbnd at q
  cases hf : f δ h with
  | none => rw [hf] at q; exact q.elim
  | some x =>
    cases x with
    | ok a h' =>
      rw [hf] at q
      intro B' r' H' v e w' rel
      exact n a B' r' H' h' v e w' (s.ext e w.toOwn) rel (q.shift w.toOwn e)
    | exc e h' =>
      rw [hf] at q
      exact q
theorem EQ.ret {a : α} {v : β} {Rel : Bd → Rho → Hp → α → β → Prop} {Q : β → Hp → Prop} (w : Wd C B r H h) (q : EQ C W σ B r H (some (.ok a h)) Rel Q) (rel : Rel B r H a v) : Q v H :=
  q B r H v (Ext.refl w.dom) w rel
/-- an end with something new -/
theorem EQ.gr {a : α} {v : β} {Rel : Bd → Rho → Hp → α → β → Prop} {Q : β → Hp → Prop} (w : Wd C B r H h) (q : EQ C W σ B r H (some (.ok a h)) Rel Q) (g : Gr B H B' H') (rel : Rel B' r H' a v) : Q v H' :=
  q B' r H' v g.ext (g.wd w) rel
/-- a reading as an expression's: from the answer on -/
theorem tG.bnd {f : M α} {k : α → M γ} {Rel : Bd → Rho → Hp → α → β → Prop} {Rel2 : Bd → Rho → Hp → γ → ε → Prop} {Q : ε → Hp → Prop} {Q1 : β → Hp → Prop} (t : tG C W Rel2 (mbnd f k) σ H Q)
    (n : ∀ a B' r' H' h' δ v, Wd C B' r' H' h' → SlR C B' r' H' σ δ → Rel B' r' H' a v → EQ C W σ B' r' H' (k a δ h') Rel2 Q → Q1 v H') : tG C W Rel f σ H Q1 := by
  obtain ⟨B, r, h, δ, w, s, q⟩ := t
  exact ⟨B, r, h, δ, w, s, q.bnd w s fun a B' r' H' h' v _ w' s' rel q' => n a B' r' H' h' δ v w' s' rel q'⟩
end
def vr (i : Nat) : M U := fun δ h => match δ[i]? with
  | some (some u) => some (.ok u h)
  | _ => none
def cn (d : D) : M U := mret (.d d)
section
variable {X : Cx} {W : Wj} {pos : Pos}
theorem re_var (i : Nat) {x : Str} (hN : X.N[i]? = some x := by rfl) (hv : Vis X.env.scope x := by first | exact Or.inl rfl | exact Or.inr (Or.inl rfl) | exact Or.inr (Or.inr rfl)) (hd : (x == ("__debug__" : Str)) = false := by decide)
    (hcd : (x == ("__classdict__" : Str)) = false := by decide) : RE X W (.Name x pos) (vr i) := by
  refine pe_imp (pe_var hN hv hd hcd) fun σ H Q ⟨B, r, h, δ, w, s, q⟩ => ?_
  unfold vr at q
  split at q
  · rename_i u hu
    obtain ⟨v, h1, h2⟩ := s.at_ i u hu
    exact ⟨v, h1, EQ.ret w q h2⟩
  · exact q.elim
theorem re_cn {e : Expr} {v : V} {d : D} (hp : PE X e (tC v)) (hd : ∀ C B H, RD C B H d v) : RE X W e (cn d) := by
  refine pe_imp hp fun σ H Q ⟨B, r, h, δ, w, s, q⟩ => ?_
  exact EQ.ret w q (.d (hd _ _ _))
theorem re_int {i j} : RE X W (.Constant (.int i) j pos) (cn (.int i)) := re_cn pe_int fun _ _ _ => .int i
theorem re_bl {b j} : RE X W (.Constant (.bool b) j pos) (cn (.bl b)) := re_cn pe_bl fun _ _ _ => .bl b
theorem re_non {j} : RE X W (.Constant .none j pos) (cn .non) := re_cn pe_non fun _ _ _ => .non
theorem re_str {x j} : RE X W (.Constant (.str x) j pos) (cn (.str x)) := re_cn pe_str fun _ _ _ => .str x
/-- a class, a def as a value; a constant -/
theorem re_glob {x : Str} {v : V} {u : Value} {d : D} (hm : X.mg x = some u) (rl : RelV v u) (hd : ∀ C B H, RD C B H d v) (hg : Gl X x := by rfl) (hdb : (x == ("__debug__" : Str)) = false := by decide) : RE X W (.Name x pos) (cn d) := re_cn (pe_glob hg hm rl hdb) hd
end
def opE (p : D → D → Option D) (x y : U) : M U := fun _ h => match view h x, view h y with
  | some a, some b => match p a b with
    | some c => some (.ok (.d c) h)
    | none => none
  | _, _ => none
def op2 (p : D → D → Option D) (f g : M U) : M U := mbnd f fun x => mbnd g fun y => opE p x y
/-- a rule on values does what p says -/
def Op2 (C : Ct) (p : D → D → Option D) (rr : R2) : Prop := ∀ {B : Bd} {r : Rho} {H : Hp} {h : Hea} {x y : D} {v w : V} {c : D} {Q : VK}, Wd C B r H h → RV C.toCt0 B H x v → RV C.toCt0 B H y w → p x y = some c →
  (∀ B' H' u, Gr B H B' H' → RD C.toCt0 B' H' c u → Q u H') → rr v w H Q
section
variable {X : Cx} {W : Wj} {pos : Pos} {a b : Expr} {f g : M U} {p : D → D → Option D} {rr : R2}
theorem opE_end {C : Ct} {σ : L2.St} {B : Bd} {r : Rho} {H : Hp} {h : Hea} {δ : Sl} {x y : U} {v w : V} {Q : VK} (hr : Op2 C p rr) (wd : Wd C B r H h) (rx : RU C B r H x v) (ry : RU C B r H y w) (q : EQ C W σ B r H (opE p x y δ h) (RU C) Q) : rr v w H Q := by
  unfold opE at q
  split at q
  · rename_i xa ya e1 e2
    split at q
    · rename_i c e3
      exact hr wd (wd.view rx e1) (wd.view ry e2) e3 fun B' H' u gr rd => EQ.gr wd q gr (.d rd)
    · exact q.elim
  · exact q.elim
theorem t_op2 {C : Ct} {σ : L2.St} {H : Hp} {Q : VK} (hr : Op2 C p rr) (t : tI C W (op2 p f g) σ H Q) : tOp rr (tI C W f) (tI C W g) σ H Q := by
  refine tG.bnd t fun x B1 r1 H1 h1 δ v w1 s1 rx q1 => ?_
  exact ⟨B1, r1, h1, δ, w1, s1, q1.bnd w1 s1 fun y B2 r2 H2 h2 w' e2 w2 s2 ry q2 => opE_end hr w2 (rx.ext e2 w1.toOwn) ry q2⟩
theorem re_op {op : Operator} (ho : OpR X (binaryOp op) rr) (hr : Op2 (ctX X W) p rr) (ha : RE X W a f) (hb : RE X W b g) : RE X W (.BinOp a op b pos) (op2 p f g) :=
  pe_imp (pe_op ho ha hb) fun _ _ _ t => t_op2 hr t
theorem re_cmp {op : CmpOp} (ho : OpR X (compareOp op) rr) (hr : Op2 (ctX X W) p rr) (ha : RE X W a f) (hb : RE X W b g) (hm : behindInMarks op b = false := by first | exact nomark _ | rfl | with_unfolding_all rfl) : RE X W (.Compare a [op] [b] pos) (op2 p f g) :=
  pe_imp (pe_cmpR ho ha hb hm) fun _ _ _ t => t_op2 hr t
/-- a value that is a bool, as a test -/
def isB : U → Option Bool
  | .d (.bl b) => some b
  | _ => none
def tst (f : M U) : M Bool := mbnd f fun x _ h => match isB x with
  | some b => some (.ok b h)
  | none => none
theorem isB_some {x : U} {b : Bool} (h : isB x = some b) : x = .d (.bl b) := by
  unfold isB at h
  split at h
  · cases h; rfl
  · cases h
theorem t_tst {C : Ct} {σ : L2.St} {H : Hp} {Q : Bool → Hp → Prop} (t : tT C W (tst f) σ H Q) : tI C W f σ H fun x H' => ∃ k, x = .bl k ∧ Q k H' := by
  refine tG.bnd t fun x B1 r1 H1 h1 δ v w1 s1 rx q1 => ?_
  cases hb : isB x with
  | none => rw [hb] at q1; exact q1.elim
  | some k =>
    rw [hb] at q1
    have e := isB_some hb
    subst e
    cases rx with
    | d rx =>
      cases rx
      exact ⟨k, rfl, EQ.ret w1 q1 rfl⟩
theorem rt_cmp {op : CmpOp} (ho : OpR X (compareOp op) rr) (hr : Op2 (ctX X W) p rr) (ha : RE X W a f) (hb : RE X W b g) (hm : behindInMarks op b = false := by first | exact nomark _ | rfl | with_unfolding_all rfl) : RT X W (.Compare a [op] [b] pos) (tst (op2 p f g)) :=
  pt_imp (pt_cmpR ho ha hb hm) fun _ _ _ t => by
    obtain ⟨B, r, h, δ, w, s, q⟩ := t_tst t
    refine t_op2 hr ⟨B, r, h, δ, w, s, ?_⟩
    exact q
/-- any expression that gives a bool, as a test -/
theorem rt_val (ha : RE X W a f) (he : ∀ whole, isTrue a X.env whole = (do let v ← whole; standAt a.pos; holding [v] (truthy v)) := by intro _; rfl) : RT X W a (tst f) :=
  pt_imp (pt_val ha he) fun _ _ _ t => t_tst t
/-- and, or, not as tests -/
def andT (f g : M Bool) : M Bool := mbnd f fun x => if x = true then g else mret false
def orT (f g : M Bool) : M Bool := mbnd f fun x => if x = true then mret true else g
def notT (f : M Bool) : M Bool := mbnd f fun x => mret (!x)
variable {fT gT : M Bool} {rest : List Expr}
theorem rw_and1 (ha : RT X W a fT) : RW X W (.BoolOp .And [a] pos) fT := pw_and1 ha
theorem rw_or1 (ha : RT X W a fT) : RW X W (.BoolOp .Or [a] pos) fT := pw_or1 ha
theorem rw_and (ha : RT X W a fT) (hb : RW X W (.BoolOp .And (b :: rest) pos) gT) : RW X W (.BoolOp .And (a :: b :: rest) pos) (andT fT gT) :=
  pw_imp (pw_and ha hb) fun σ H Q t => tG.bnd t fun x B1 r1 H1 h1 δ v w1 s1 rx q1 => by
    cases rx
    cases x with
    | true => exact ⟨B1, r1, h1, δ, w1, s1, q1⟩
    | false => exact EQ.ret w1 q1 rfl
theorem rw_or (ha : RT X W a fT) (hb : RW X W (.BoolOp .Or (b :: rest) pos) gT) : RW X W (.BoolOp .Or (a :: b :: rest) pos) (orT fT gT) :=
  pw_imp (pw_or ha hb) fun σ H Q t => tG.bnd t fun x B1 r1 H1 h1 δ v w1 s1 rx q1 => by
    cases rx
    cases x with
    | false => exact ⟨B1, r1, h1, δ, w1, s1, q1⟩
    | true => exact EQ.ret w1 q1 rfl
theorem rt_w (h : RW X W a fT) : RT X W a fT := PW.pt h
theorem rt_not (ha : RT X W a fT) : RT X W (.UnaryOp .Not a pos) (notT fT) :=
  pt_imp (pt_not ha) fun σ H Q t => tG.bnd t fun x B1 r1 H1 h1 δ v w1 s1 rx q1 => by
    cases rx
    exact EQ.ret w1 q1 rfl
/-- .. as values: all but the last a bool -/
def andV (f g : M U) : M U := mbnd (tst f) fun x => if x = true then g else cn (.bl false)
def orV (f g : M U) : M U := mbnd (tst f) fun x => if x = true then cn (.bl true) else g
def notV (f : M U) : M U := mbnd (tst f) fun x => cn (.bl !x)
theorem re_one {op} (ha : RE X W a f) : RE X W (.BoolOp op [a] pos) f := pe_one ha
theorem re_and (ha : RE X W a f) (hb : RE X W (.BoolOp .And (b :: rest) pos) g) : RE X W (.BoolOp .And (a :: b :: rest) pos) (andV f g) :=
  pe_imp (pe_and ha hb) fun σ H Q t => t_tst (Q := fun c H1 => if c = true then tI (ctX X W) W g σ H1 Q else Q (.bl false) H1) (tG.bnd t fun x B1 r1 H1 h1 δ v w1 s1 rx q1 => by
    cases rx
    cases x with
    | true => exact ⟨B1, r1, h1, δ, w1, s1, q1⟩
    | false => exact EQ.ret w1 q1 (.d (.bl _)))
theorem re_or (ha : RE X W a f) (hb : RE X W (.BoolOp .Or (b :: rest) pos) g) : RE X W (.BoolOp .Or (a :: b :: rest) pos) (orV f g) :=
  pe_imp (pe_or ha hb) fun σ H Q t => t_tst (Q := fun c H1 => if c = true then Q (.bl true) H1 else tI (ctX X W) W g σ H1 Q) (tG.bnd t fun x B1 r1 H1 h1 δ v w1 s1 rx q1 => by
    cases rx
    cases x with
    | false => exact ⟨B1, r1, h1, δ, w1, s1, q1⟩
    | true => exact EQ.ret w1 q1 (.d (.bl _)))
theorem re_not (ha : RE X W a f) : RE X W (.UnaryOp .Not a pos) (notV f) :=
  pe_imp (pe_not ha) fun σ H Q t => t_tst (Q := fun c H1 => Q (.bl (!c)) H1) (tG.bnd t fun x B1 r1 H1 h1 δ v w1 s1 rx q1 => by
    cases rx
    exact EQ.ret w1 q1 (.d (.bl _)))
/-- a if t else b -/
def ifE (c : M Bool) (f g : M U) : M U := mbnd c fun x => if x = true then f else g
theorem re_if {c : Expr} (hc : RT X W c fT) (ha : RE X W a f) (hb : RE X W b g) : RE X W (.IfExp c a b pos) (ifE fT f g) :=
  pe_imp (pe_ifExp hc ha hb) fun σ H Q t => tG.bnd t fun x B1 r1 H1 h1 δ v w1 s1 rx q1 => by
    cases rx
    cases x with
    | true => exact ⟨B1, r1, h1, δ, w1, s1, q1⟩
    | false => exact ⟨B1, r1, h1, δ, w1, s1, q1⟩
/-- a op b op' c, two comparisons -/
def chain (p p' : D → D → Option D) (f g k : M U) : M U := mbnd f fun x => mbnd g fun y => mbnd (opE p x y) fun z => match isB z with
  | some true => mbnd k fun w => opE p' y w
  | some false => cn (.bl false)
  | none => mfail
theorem t_chain {C : Ct} {rr' : R2} {p' : D → D → Option D} {k : M U} {σ : L2.St} {H : Hp} {Q : VK} (hr : Op2 C p rr) (hr' : Op2 C p' rr') (t : tI C W (chain p p' f g k) σ H Q) : tChain rr rr' (tI C W f) (tI C W g) (tI C W k) σ H Q := by
  refine tG.bnd t fun x B1 r1 H1 h1 δ v w1 s1 rx q1 => ?_
  refine ⟨B1, r1, h1, δ, w1, s1, q1.bnd w1 s1 fun y B2 r2 H2 h2 w' e2 w2 s2 ry q2 => ?_⟩
  have q3 := q2.bnd (Rel := RU C) (Q1 := fun z H3 => ∃ k2, z = .bl k2 ∧ (if k2 = true then tI C W k σ H3 (fun w'' H4 => rr' w' w'' H4 Q) else Q (.bl false) H3)) w2 s2 fun z B3 r3 H3 h3 u e3 w3 s3 rz q3 => ?_
  · exact opE_end hr w2 (rx.ext e2 w1.toOwn) ry q3
  · cases hb : isB z with
    | none => rw [hb] at q3; exact q3.elim
    | some k2 =>
      rw [hb] at q3
      have e := isB_some hb
      subst e
      cases rz with
      | d rz =>
        cases rz
        refine ⟨k2, rfl, ?_⟩
        cases k2 with
        | false => exact EQ.ret w3 q3 (.d (.bl _))
        | true => exact ⟨B3, r3, h3, δ, w3, s3, q3.bnd w3 s3 fun y2 B4 r4 H4 h4 w'' e4 w4 s4 ry2 q4 => opE_end hr' w4 ((ry.ext e3 w2.toOwn).ext e4 w3.toOwn) ry2 q4⟩
theorem re_chain {c : Expr} {rr' : R2} {p' : D → D → Option D} {k : M U} {op op' : CmpOp} (ho : OpR X (compareOp op) rr) (hr : Op2 (ctX X W) p rr) (ho' : OpR X (compareOp op') rr') (hr' : Op2 (ctX X W) p' rr') (ha : RE X W a f) (hb : RE X W b g) (hc : RE X W c k)
    (hm : lastMarks [op, op'] [b, c] = false := by with_unfolding_all rfl) : RE X W (.Compare a [op, op'] [b, c] pos) (chain p p' f g k) :=
  pe_imp (pe_chain ho ho' ha hb hc hm) fun _ _ _ t => t_chain hr hr' t
theorem rt_chain {c : Expr} {rr' : R2} {p' : D → D → Option D} {k : M U} {op op' : CmpOp} (ho : OpR X (compareOp op) rr) (hr : Op2 (ctX X W) p rr) (ho' : OpR X (compareOp op') rr') (hr' : Op2 (ctX X W) p' rr') (ha : RE X W a f) (hb : RE X W b g) (hc : RE X W c k)
    (hm : lastMarks [op, op'] [b, c] = false := by with_unfolding_all rfl) : RT X W (.Compare a [op, op'] [b, c] pos) (tst (chain p p' f g k)) :=
  pt_imp (pt_chain ho ho' ha hb hc hm) fun _ _ _ t => by
    obtain ⟨B, r, h, δ, w, s, q⟩ := t_tst t
    exact t_chain hr hr' ⟨B, r, h, δ, w, s, q⟩
end
def mnil : M (List U) := mret []
def mcons (f : M U) (g : M (List U)) : M (List U) := mbnd f fun x => mbnd g fun xs => mret (x :: xs)
def szOk (n : Nat) : Bool := decide (n ≤ 16777216)
/-- a tuple of plain things -/
def tupE (us : List U) : M U := fun _ h => if szOk us.length = true then match allD us with
    | some ds => some (.ok (.d (.tup ds)) h)
    | none => some (.ok (.tup us) h)
  else none
def lstE (us : List U) : M U := fun _ h => if szOk us.length = true then match allD us with
    | some ds => some (.ok (.d (.lst ds)) h)
    | none => none
  else none
/-- a list that may change -/
def newE (o : O) : M U := fun _ h => some (.ok (.loc h.length) (h ++ [o]))
def lstN (us : List U) : M U := fun δ h => if szOk us.length = true then newE (.lst us) δ h else none
section
variable {X : Cx} {W : Wj} {pos : Pos} {e : Expr} {es : List Expr} {f : M U} {g : M (List U)}
theorem ra_nil : RA X W [] mnil := pa_imp pa_nil fun σ H Q ⟨B, r, h, δ, w, s, q⟩ => EQ.ret w q .nil
theorem ra_cons (ha : RE X W e f) (hr : RA X W es g) (hs : starEach (e :: es) X.env = (false, eval e X.env) :: starEach es X.env := by rfl) : RA X W (e :: es) (mcons f g) :=
  pa_imp (pa_cons ha hr hs) fun σ H Q t => tG.bnd t fun x B1 r1 H1 h1 δ v w1 s1 rx q1 => ⟨B1, r1, h1, δ, w1, s1, q1.bnd w1 s1 fun xs B2 r2 H2 h2 vs e2 w2 s2 rxs q2 => EQ.ret w2 q2 (.cons (rx.ext e2 w1.toOwn) rxs)⟩
theorem szOk_le {n : Nat} (h : szOk n = true) : n ≤ sizeLine := by
  have := of_decide_eq_true h
  rw [sizeLine_eq]
  exact this
theorem RUs.length {C : Ct} {B : Bd} {r : Rho} {H : Hp} : ∀ {us : List U} {vs : List V}, RUs C B r H us vs → us.length = vs.length
  | _, _, .nil => rfl
  | _, _, .cons _ b => congrArg (· + 1) (RUs.length b)
theorem RDs.length {C : Ct} {B : Bd} {H : Hp} : ∀ {us : List D} {vs : List V}, RDs C.toCt0 B H us vs → us.length = vs.length
  | _, _, .nil => rfl
  | _, _, .cons _ b => congrArg (· + 1) (RDs.length b)
theorem re_tup {k} (ha : RA X W es g) : RE X W (.Tuple es k pos) (mbnd g tupE) :=
  pe_imp (pe_tup ha) fun σ H Q t => tG.bnd t fun us B1 r1 H1 h1 δ vs w1 s1 rx q1 => by
    unfold tupE at q1
    split at q1
    · rename_i hz
      refine ⟨by rw [← rx.length]; exact szOk_le hz, fun p hp => ?_⟩
      have gr := w1.toOwn.new hp (.tup vs)
      split at q1
      · rename_i ds hd
        exact EQ.gr w1 q1 gr (.d (.tup (SqT.of upd_same) ((rx.allD hd).ext (gr.ext (r := r1)) w1.toOwn)))
      · exact EQ.gr w1 q1 gr (.tup (SqT.of upd_same) (rx.ext gr.ext w1.toOwn))
    · exact q1.elim
theorem re_lst (ha : RA X W es g) : RE X W (.List es pos) (mbnd g lstE) :=
  pe_imp (pe_lst ha) fun σ H Q t => tG.bnd t fun us B1 r1 H1 h1 δ vs w1 s1 rx q1 => by
    unfold lstE at q1
    split at q1
    · rename_i hz
      refine ⟨by rw [← rx.length]; exact szOk_le hz, fun p hp => ?_⟩
      have gr := w1.toOwn.new hp (.lst vs)
      split at q1
      · rename_i ds hd
        exact EQ.gr w1 q1 gr (.d (.lst ⟨w1.toOwn.nb hp, upd_same⟩ ((rx.allD hd).ext (gr.ext (r := r1)) w1.toOwn)))
      · exact q1.elim
    · exact q1.elim
/-- a new object at p that may change -/
theorem Wd.add {C : Ct} {B : Bd} {r : Rho} {H : Hp} {h : Hea} (w : Wd C B r H h) {p : Addr} (hp : H p = none) {x : HO} (nt : ∀ vs, ¬ Rd (upd H p x) p (.tup vs)) {o : O}
    (ro : Ext B r H (fun a => B a ∨ a = p) (r ++ [some p]) (upd H p x) → RO C (fun a => B a ∨ a = p) (r ++ [some p]) (upd H p x) p o) :
    Ext B r H (fun a => B a ∨ a = p) (r ++ [some p]) (upd H p x) ∧ Wd C (fun a => B a ∨ a = p) (r ++ [some p]) (upd H p x) (h ++ [o]) := by
  have kp : ∀ a u, H a = some u → upd H p x a = some u := fun a u z => by
    rw [upd_ne (ne_of_none z hp)]
    exact z
  have ex : Ext B r H (fun a => B a ∨ a = p) (r ++ [some p]) (upd H p x) :=
    { rho := fun n y z => .inl (by
        rw [List.getElem?_append_left (List.getElem?_eq_some_iff.mp z).1]
        exact z)
      rnew := fun n a hl z => by
        rw [List.getElem?_append_right hl] at z
        rw [List.getElem?_singleton] at z
        split at z
        · cases z
          exact hp
        · cases z
      keep := fun a u _ z => kp a u z
      bnew := fun a z => by
        rcases z with z | rfl
        · exact .inl z
        · exact .inr hp
      bold := fun a z _ => .inl z
      there := fun a u z => ⟨u, kp a u z⟩
      dom := fun a z => by
        rcases z with z | rfl
        · obtain ⟨u, hu⟩ := w.dom a z
          exact ⟨u, kp a u hu⟩
        · exact ⟨x, upd_same⟩ }
  refine ⟨ex, ?_⟩
  have old : ∀ (n : Nat) a, (r ++ [some p])[n]? = some (some a) → (r[n]? = some (some a) ∧ n < r.length) ∨ (n = r.length ∧ a = p) := fun n a z => by
    by_cases hl : n < r.length
    · rw [List.getElem?_append_left hl] at z
      exact .inl ⟨z, hl⟩
    · rw [List.getElem?_append_right (Nat.le_of_not_lt hl), List.getElem?_singleton] at z
      split at z
      · rename_i h0
        exact .inr ⟨by omega, (Option.some.inj (Option.some.inj z)).symm⟩
      · cases z
  have pne : ∀ (n : Nat), r[n]? ≠ some (some p) := fun n z => by
    obtain ⟨u, hu⟩ := w.dom p (w.own p ⟨n, z⟩)
    rw [hp] at hu
    cases hu
  exact { own := fun a ⟨n, z⟩ => by
            rcases old n a z with ⟨z, _⟩ | ⟨_, rfl⟩
            · exact .inl (w.own a ⟨n, z⟩)
            · exact .inr rfl
          notup := fun a z vs q => by
            rcases z with z | rfl
            · obtain ⟨u, hu⟩ := w.dom a z
              exact w.notup a z vs (rd_back hu (kp a) q)
            · exact nt vs q
          dom := ex.dom
          len := by simp [w.len]
          obj := fun n a z => by
            rcases old n a z with ⟨z, hl⟩ | ⟨rfl, rfl⟩
            · obtain ⟨u, hu, q⟩ := w.obj n a z
              refine ⟨u, ?_, q.ext ex w.toOwn ?_⟩
              · rw [List.getElem?_append_left (by rw [← w.len]; exact hl)]
                exact hu
              · obtain ⟨y, hy⟩ := w.dom a (w.own a ⟨n, z⟩)
                rw [hy]
                exact kp a y hy
            · refine ⟨o, ?_, ro ex⟩
              rw [w.len, List.getElem?_append_right (Nat.le_refl _)]
              simp
          gon := fun n z => by
            by_cases hl : n < r.length
            · rw [List.getElem?_append_left hl] at z
              rw [List.getElem?_append_left (by rw [← w.len]; exact hl)]
              exact w.gon n z
            · rw [List.getElem?_append_right (Nat.le_of_not_lt hl), List.getElem?_singleton] at z
              split at z
              · cases z
              · cases z
          inj := fun n m a z1 z2 => by
            rcases old n a z1 with ⟨y1, _⟩ | ⟨e1, f1⟩ <;> rcases old m a z2 with ⟨y2, _⟩ | ⟨e2, f2⟩
            · exact w.inj n m a y1 y2
            · subst f2
              exact absurd y1 (pne n)
            · subst f1
              exact absurd y2 (pne m)
            · omega
          jx := C.j.st _ _ _ _ _ _ _ w.toOwn ex w.jx }
theorem notup_lst {H : Hp} {p : Addr} {xs : List V} : ∀ vs, ¬ Rd (upd H p (.lst xs)) p (.tup vs) := fun vs z => by
  rcases z with z | ⟨o, z⟩ <;> (rw [upd_same] at z; cases z)
theorem re_lstN (ha : RA X W es g) : RE X W (.List es pos) (mbnd g lstN) :=
  pe_imp (pe_lst ha) fun σ H Q t => tG.bnd t fun us B1 r1 H1 h1 δ vs w1 s1 rx q1 => by
    unfold lstN at q1
    split at q1
    · rename_i hz
      refine ⟨by rw [← rx.length]; exact szOk_le hz, fun p hp => ?_⟩
      obtain ⟨ex, w2⟩ := w1.add (o := .lst us) hp (notup_lst (xs := vs)) fun ex => ⟨vs, upd_same, rx.ext ex w1.toOwn⟩
      exact q1 _ _ _ _ ex w2 (.loc (by rw [← w1.len]; simp))
    · exact q1.elim
end
/-- what is wanted behind a statement's mirror -/
def OQ (C : Ct) (W : Wj) (D : Ends) (B : Bd) (r : Rho) (H : Hp) (x : Option Out) : Prop :=
  match x with
  | none => False
  | some (.nx δ h) => ∀ B' r' H' σ', Ext B r H B' r' H' → Wd C B' r' H' h → SlR C B' r' H' σ' δ → D.nx σ' H'
  | some (.bk δ h) => ∀ B' r' H' σ', Ext B r H B' r' H' → Wd C B' r' H' h → SlR C B' r' H' σ' δ → D.bk σ' H'
  | some (.ct δ h) => ∀ B' r' H' σ', Ext B r H B' r' H' → Wd C B' r' H' h → SlR C B' r' H' σ' δ → D.ct σ' H'
  | some (.rt u h) => ∀ B' r' H' v, Ext B r H B' r' H' → Wd C B' r' H' h → RU C B' r' H' u v → D.rt v H'
  | some (.ex e δ h) => ∀ B' r' H' σ' cls d, Ext B r H B' r' H' → Wd C B' r' H' h → SlR C B' r' H' σ' δ → RX C.toCt0 B' H' e cls d → W.w cls d σ' H'
def tS (C : Ct) (W : Wj) (s : S) : TS := fun D σ H => ∃ B r h δ, Wd C B r H h ∧ SlR C B r H σ δ ∧ OQ C W D B r H (s δ h)
def RS (X : Cx) (W : Wj) (st : Stmt) (s : S) : Prop := PS X st (tS (ctX X W) W s)
def RSs (X : Cx) (W : Wj) (st : List Stmt) (s : S) : Prop := PSs X st (tS (ctX X W) W s)
/-- an expression, then a statement -/
def sbnd {α : Type} (f : M α) (k : α → S) : S := fun δ h => match f δ h with
  | some (.ok a h') => k a δ h'
  | some (.exc e h') => some (.ex e δ h')
  | none => none
def snx : S := fun δ h => some (.nx δ h)
def sseq (s t : S) : S := fun δ h => match s δ h with
  | some (.nx δ' h') => t δ' h'
  | x => x
def sret (f : M U) : S := sbnd f fun u _ h => some (.rt u h)
def sexp (f : M U) : S := sbnd f fun _ => snx
def sif (c : M Bool) (s t : S) : S := sbnd c fun b => if b = true then s else t
def sbk : S := fun δ h => some (.bk δ h)
def sct : S := fun δ h => some (.ct δ h)
section
variable {C : Ct} {W : Wj} {σ : L2.St} {B B' : Bd} {r r' : Rho} {H H' : Hp} {α β : Type} {h : Hea} {δ : Sl} {D : Ends}
theorem OQ.shift {x : Option Out} (w : Own B r H) (q : OQ C W D B r H x) (e : Ext B r H B' r' H') : OQ C W D B' r' H' x := by
  unfold OQ at *
  split
  · exact q.elim
  · exact fun B2 r2 H2 σ' e2 => q B2 r2 H2 σ' (e.tr w e2)
  · exact fun B2 r2 H2 σ' e2 => q B2 r2 H2 σ' (e.tr w e2)
  · exact fun B2 r2 H2 σ' e2 => q B2 r2 H2 σ' (e.tr w e2)
  · exact fun B2 r2 H2 v e2 => q B2 r2 H2 v (e.tr w e2)
  · exact fun B2 r2 H2 σ' cls d e2 => q B2 r2 H2 σ' cls d (e.tr w e2)
theorem OQ.bnd {f : M α} {k : α → S} {Rel : Bd → Rho → Hp → α → β → Prop} {Q1 : β → Hp → Prop} (w : Wd C B r H h) (s : SlR C B r H σ δ) (q : OQ C W D B r H (sbnd f k δ h))
    (n : ∀ a B' r' H' h' v, Ext B r H B' r' H' → Wd C B' r' H' h' → SlR C B' r' H' σ δ → Rel B' r' H' a v → OQ C W D B' r' H' (k a δ h') → Q1 v H') : EQ C W σ B r H (f δ h) Rel Q1 := by
  unfold sbnd at q
  cases hf : f δ h with
  | none => rw [hf] at q; exact q.elim
  | some x =>
    cases x with
    | ok a h' =>
      rw [hf] at q
      intro B' r' H' v e w' rel
      exact n a B' r' H' h' v e w' (s.ext e w.toOwn) rel (q.shift w.toOwn e)
    | exc e h' =>
      rw [hf] at q
      intro B' r' H' cls d ex w' rx
      exact q B' r' H' σ cls d ex w' (s.ext ex w.toOwn) rx
theorem tS.bnd {f : M α} {k : α → S} {Rel : Bd → Rho → Hp → α → β → Prop} {Q1 : β → Hp → Prop} (t : tS C W (sbnd f k) D σ H)
    (n : ∀ a B' r' H' h' δ v, Wd C B' r' H' h' → SlR C B' r' H' σ δ → Rel B' r' H' a v → OQ C W D B' r' H' (k a δ h') → Q1 v H') : tG C W Rel f σ H Q1 := by
  obtain ⟨B, r, h, δ, w, s, q⟩ := t
  exact ⟨B, r, h, δ, w, s, q.bnd w s fun a B' r' H' h' v _ w' s' rel q' => n a B' r' H' h' δ v w' s' rel q'⟩
theorem OQ.nx (w : Wd C B r H h) (s : SlR C B r H σ δ) (q : OQ C W D B r H (some (.nx δ h))) : D.nx σ H := q B r H σ (Ext.refl w.dom) w s
theorem OQ.gr (w : Wd C B r H h) (s : SlR C B r H σ δ) (q : OQ C W D B r H (some (.nx δ h))) (g : Gr B H B' H') : D.nx σ H' := q B' r H' σ g.ext (g.wd w) (s.ext g.ext w.toOwn)
/-- another wish for what follows -/
theorem OQ.to {D' : Ends} {x : Option Out} (q : OQ C W D B r H x)
    (nx : ∀ δ h, x = some (.nx δ h) → ∀ B' r' H' σ', Ext B r H B' r' H' → Wd C B' r' H' h → SlR C B' r' H' σ' δ → D'.nx σ' H')
    (bk : ∀ δ h, x = some (.bk δ h) → ∀ B' r' H' σ', Ext B r H B' r' H' → Wd C B' r' H' h → SlR C B' r' H' σ' δ → D'.bk σ' H')
    (ct : ∀ δ h, x = some (.ct δ h) → ∀ B' r' H' σ', Ext B r H B' r' H' → Wd C B' r' H' h → SlR C B' r' H' σ' δ → D'.ct σ' H')
    (rt : ∀ v H', D.rt v H' → D'.rt v H') : OQ C W D' B r H x := by
  cases x with
  | none => exact q
  | some o =>
    cases o with
    | nx δ h => exact nx δ h rfl
    | bk δ h => exact bk δ h rfl
    | ct δ h => exact ct δ h rfl
    | rt u h => exact fun B' r' H' v e w z => rt v H' (q B' r' H' v e w z)
    | ex e δ h => exact q
end
section
variable {X : Cx} {W : Wj} {pos : Pos} {st : Stmt} {rest : List Stmt} {s t : S} {e : Expr} {f : M U}
theorem rss_nil : RSs X W [] snx := pss_imp pss_nil fun D σ H ⟨B, r, h, δ, w, sl, q⟩ => OQ.nx w sl q
theorem rss_cons (h1 : RS X W st s) (h2 : RSs X W rest t) : RSs X W (st :: rest) (sseq s t) :=
  pss_imp (pss_cons h1 h2) fun D σ H ⟨B, r, h, δ, w, sl, q⟩ => by
    refine ⟨B, r, h, δ, w, sl, ?_⟩
    unfold sseq at q
    cases hs : s δ h with
    | none => rw [hs] at q; exact q
    | some o =>
      rw [hs] at q
      cases o with
      | nx δ' h' => exact fun B' r' H' σ' ex w' s' => ⟨B', r', h', δ', w', s', q.shift w.toOwn ex⟩
      | bk δ h => exact q
      | ct δ h => exact q
      | rt u h => exact q
      | ex e δ h => exact q
theorem rss_one (h1 : RS X W st s) : RSs X W [st] s := pss_one h1
theorem rs_pass : RS X W (.Pass pos) snx := ps_imp ps_pass fun D σ H ⟨B, r, h, δ, w, sl, q⟩ => OQ.nx w sl q
theorem rs_bk : RS X W (.Break pos) sbk := ps_imp ps_break fun D σ H ⟨B, r, h, δ, w, sl, q⟩ => q B r H σ (Ext.refl w.dom) w sl
theorem rs_ct : RS X W (.Continue pos) sct := ps_imp ps_continue fun D σ H ⟨B, r, h, δ, w, sl, q⟩ => q B r H σ (Ext.refl w.dom) w sl
theorem rs_exp (he : RE X W e f) (hs : swapsWith e none pos.line X.env = pure false := by rfl) : RS X W (.Expr e pos) (sexp f) :=
  ps_imp (ps_expr he hs) fun D σ H q => tS.bnd q fun a B r H1 h δ v w s ru q => OQ.nx w s q
theorem rs_ret (he : RE X W e f) : RS X W (.Return (some e) pos) (sret f) :=
  ps_imp (ps_ret he) fun D σ H q => tS.bnd q fun a B r H1 h δ v w s ru q => q B r H1 v (Ext.refl w.dom) w ru
theorem rs_retN : RS X W (.Return none pos) (sret (cn .non)) :=
  ps_imp ps_retN fun D σ H ⟨B, r, h, δ, w, s, q⟩ => q B r H .non (Ext.refl w.dom) w (.d .non)
theorem rs_if {c : Expr} {a b : List Stmt} {fT : M Bool} (hc : RT X W c fT) (ha : RSs X W a s) (hb : RSs X W b t) : RS X W (.If c a b pos) (sif fT s t) :=
  ps_imp (ps_if hc ha hb) fun D σ H q => tS.bnd q fun a B r H1 h δ v w sl ru q => by
    cases ru
    cases a with
    | true => exact ⟨B, r, h, δ, w, sl, q⟩
    | false => exact ⟨B, r, h, δ, w, sl, q⟩
end
def G := U → Sl → Hea → Option (Sl × Hea)
def GQ (C : Ct) (B : Bd) (r : Rho) (H : Hp) (x : Option (Sl × Hea)) (Q : L2.St → Hp → Prop) : Prop :=
  match x with
  | none => False
  | some (δ', h') => ∀ B' r' H' σ', Ext B r H B' r' H' → Wd C B' r' H' h' → SlR C B' r' H' σ' δ' → Q σ' H'
def tGt (C : Ct) (g : G) : TG := fun v σ H Q => ∃ B r h δ u, Wd C B r H h ∧ SlR C B r H σ δ ∧ RU C B r H u v ∧ GQ C B r H (g u δ h) Q
def tGts (C : Ct) (g : List U → Sl → Hea → Option (Sl × Hea)) : TGs := fun vs σ H Q => ∃ B r h δ us, Wd C B r H h ∧ SlR C B r H σ δ ∧ RUs C B r H us vs ∧ GQ C B r H (g us δ h) Q
def RG (X : Cx) (W : Wj) (tg : Expr) (g : G) : Prop := PG X tg (tGt (ctX X W) g)
def RGs (X : Cx) (W : Wj) (tg : List Expr) (g : List U → Sl → Hea → Option (Sl × Hea)) : Prop := PGs X tg (tGts (ctX X W) g)
section
variable {X : Cx} {W : Wj} {pos : Pos}
theorem pg_imp {e : Expr} {t t' : TG} (h : PG X e t) (i : ∀ v σ H Q, t' v σ H Q → t v σ H Q) : PG X e t' := ⟨fun pins s σ H v u Q I rv q => h.run pins s σ H v u Q I rv (i _ _ _ _ q)⟩
theorem pgs_imp {e : List Expr} {t t' : TGs} (h : PGs X e t) (i : ∀ v σ H Q, t' v σ H Q → t v σ H Q) : PGs X e t' := ⟨fun pins s σ H v u Q I rv q => h.run pins s σ H v u Q I rv (i _ _ _ _ q)⟩
theorem SlR.set {C : Ct} {B : Bd} {r : Rho} {H : Hp} {σ : L2.St} {δ : Sl} (s : SlR C B r H σ δ) {i : Nat} {u : U} {v : V} (hj : C.j.xi = none) (ru : RU C B r H u v) : SlR C B r H (σ.set i (some v)) (δ.set i (some u)) := by
  refine ⟨by simp [s.len], fun j u' hj => ?_, fun j a z => by rw [hj] at z; cases z⟩
  by_cases hij : i = j
  · subst hij
    by_cases hl : i < δ.length
    · rw [List.getElem?_set_self hl] at hj
      cases hj
      exact ⟨v, List.getElem?_set_self (by rw [← s.len]; exact hl), ru⟩
    · rw [List.getElem?_eq_none_iff.mpr (by simp; omega)] at hj
      cases hj
  · rw [List.getElem?_set_ne hij] at hj
    obtain ⟨v', h1, h2⟩ := s.at_ j u' hj
    exact ⟨v', by rw [List.getElem?_set_ne hij]; exact h1, h2⟩
def gnm (i : Nat) : G := fun u δ h => some (δ.set i (some u), h)
theorem rg_name {i : Nat} {x : Str} (hN : X.N.Nodup) (hj : W.j.xi = none := by rfl) (hi : X.N[i]? = some x := by rfl) (hx : Loc X.env.scope x := by first | exact Or.inl rfl | exact Or.inr rfl) (hf : X.fn x = true ∨ X.env.scope.names.lookup x = some .local := by first | exact .inl rfl | exact .inr rfl) : RG X W (.Name x pos) (gnm i) :=
  pg_imp (pg_name hN hi hx hf) fun v σ H Q ⟨B, r, h, δ, u, w, s, ru, q⟩ => q B r H _ (Ext.refl w.dom) w (s.set hj ru)
def gnil : List U → Sl → Hea → Option (Sl × Hea) := fun us δ h => match us with
  | [] => some (δ, h)
  | _ => none
def gcons (g : G) (k : List U → Sl → Hea → Option (Sl × Hea)) : List U → Sl → Hea → Option (Sl × Hea) := fun us δ h => match us with
  | u :: r => match g u δ h with
    | some (δ', h') => k r δ' h'
    | none => none
  | [] => none
theorem rgs_nil : RGs X W [] gnil := pgs_imp pgs_nil fun vs σ H Q ⟨B, r, h, δ, us, w, s, ru, q⟩ => by
  cases ru with
  | nil => exact ⟨rfl, q B r H _ (Ext.refl w.dom) w s⟩
  | cons _ _ => exact q.elim
theorem GQ.shift {C : Ct} {B B' : Bd} {r r' : Rho} {H H' : Hp} {x : Option (Sl × Hea)} {Q : L2.St → Hp → Prop} (w : Own B r H) (q : GQ C B r H x Q) (e : Ext B r H B' r' H') : GQ C B' r' H' x Q := by
  cases x with
  | none => exact q
  | some y => exact fun B2 r2 H2 σ' e2 => q B2 r2 H2 σ' (e.tr w e2)
theorem rgs_cons {e : Expr} {es : List Expr} {g : G} {k : List U → Sl → Hea → Option (Sl × Hea)} (h1 : RG X W e g) (h2 : RGs X W es k)
    (hs : (assignEach (e :: es) X.env).map (·.2) = assign e X.env :: (assignEach es X.env).map (·.2) := by rfl) : RGs X W (e :: es) (gcons g k) :=
  pgs_imp (pgs_cons h1 h2 hs) fun vs σ H Q ⟨B, r, h, δ, us, w, s, ru, q⟩ => by
    cases ru with
    | nil => exact q.elim
    | @cons u v us vs ra rb =>
      refine ⟨v, vs, rfl, B, r, h, δ, u, w, s, ra, ?_⟩
      change GQ (ctX X W) B r H (match g u δ h with | some (δ', h') => k us δ' h' | none => none) Q at q
      cases hg : g u δ h with
      | none => rw [hg] at q; exact q
      | some y =>
        rw [hg] at q
        exact fun B' r' H' σ' ex w' s' => ⟨B', r', y.2, y.1, us, w', s', rb.ext ex w.toOwn, q.shift w.toOwn ex⟩
/-- the items of a tuple -/
def tupU : U → Option (List U)
  | .d (.tup ds) => some (ds.map .d)
  | .tup us => some us
  | _ => none
theorem RDs.us {C : Ct0} {B : Bd} {r : Rho} {H : Hp} : ∀ {ds : List D} {vs : List V}, RDs C B H ds vs → RUs C B r H (ds.map .d) vs
  | _, _, .nil => .nil
  | _, _, .cons a b => .cons (.d a) (RDs.us b)
theorem tupU_ok {C : Ct} {B : Bd} {r : Rho} {H : Hp} {u : U} {v : V} {us : List U} (ru : RU C B r H u v) (h : tupU u = some us) : ∃ a vs, v = .ref a ∧ SqT C.K H a vs ∧ RUs C B r H us vs := by
  cases ru with
  | d rd =>
    cases rd with
    | tup hs q =>
      cases h
      exact ⟨_, _, rfl, hs, q.us⟩
    | _ => cases h
  | loc _ => cases h
  | gone _ => cases h
  | tup hs q =>
    cases h
    exact ⟨_, _, rfl, hs, q⟩
def gtup (n : Nat) (k : List U → Sl → Hea → Option (Sl × Hea)) : G := fun u δ h => match tupU u with
  | some us => if us.length = n then k us δ h else none
  | none => none
theorem rg_tup {es : List Expr} {k0 : Nat} {k : List U → Sl → Hea → Option (Sl × Hea)} {n : Nat} (hc : X.calm = true) (hs : RGs X W es k)
    (hn : (assignEach es X.env).length = n := by rfl) (hst : (assignEach es X.env).findIdx? (·.1) = none := by rfl) : RG X W (.Tuple es k0 pos) (gtup n k) :=
  pg_imp (pg_tup hc hs hn hst) fun v σ H Q ⟨B, r, h, δ, u, w, s, ru, q⟩ => by
    unfold gtup at q
    cases hu : tupU u with
    | none => rw [hu] at q; exact q.elim
    | some us =>
      simp only [hu] at q
      obtain ⟨a, vs, rfl, h1, h2⟩ := tupU_ok ru hu
      by_cases hl : us.length = n
      · rw [if_pos hl] at q
        exact ⟨a, vs, rfl, h1, h2.length.symm.trans hl, B, r, h, δ, us, w, s, h2, q⟩
      · rw [if_neg hl] at q
        exact q.elim
end
def sasg (f : M U) (g : G) : S := sbnd f fun u δ h => match g u δ h with
  | some (δ', h') => some (.nx δ' h')
  | none => none
section
variable {X : Cx} {W : Wj} {pos : Pos} {e tg : Expr} {f : M U} {g : G}
theorem gq_of {C : Ct} {D : Ends} {B : Bd} {r : Rho} {H : Hp} {x : Option (Sl × Hea)} (q : OQ C W D B r H (match x with | some (δ', h') => some (.nx δ' h') | none => none)) : GQ C B r H x D.nx := by
  cases x with
  | none => exact q
  | some y => exact q
theorem rs_asg (he : RE X W e f) (hg : RG X W tg g) (hs : swapsWithSole [tg] e pos.line X.env = pure false := by rfl) (hw : swappedStores [tg] e X.env = pure none := by rfl)
    (h1 : (assignEach [tg] X.env).map (·.2) = [assign tg X.env] := by rfl) : RS X W (.Assign [tg] e pos) (sasg f g) :=
  ps_imp (ps_asg he hg hs hw h1) fun D σ H q => tS.bnd q fun a B r H1 h δ v w s ru q => ⟨B, r, h, δ, a, w, s, ru, gq_of q⟩
theorem rs_set {i : Nat} {x : Str} {pos' : Pos} (hN : X.N.Nodup) (he : RE X W e f) (hj : W.j.xi = none := by rfl) (hi : X.N[i]? = some x := by rfl) (hx : Loc X.env.scope x := by first | exact Or.inl rfl | exact Or.inr rfl) (hs : swapsWith e (some (.Name x pos')) pos.line X.env = pure false := by rfl) (hf : X.fn x = true ∨ X.env.scope.names.lookup x = some .local := by first | exact .inl rfl | exact .inr rfl) :
    RS X W (.Assign [.Name x pos'] e pos) (sasg f (gnm i)) :=
  ps_imp (ps_set hN hi hx he hs hf) fun D σ H q => tS.bnd q fun a B r H1 h δ v w s ru q => OQ.nx w (s.set hj ru) q
/-- a, b = x, y, two plain local names -/
def spar (i j : Nat) (g : M (List U)) : S := sbnd g fun us δ h => match us with
  | [a, b] => some (.nx ((δ.set i (some a)).set j (some b)) h)
  | _ => none
theorem rs_par {i j : Nat} {x y : Str} {a b : Expr} {ga : M (List U)} {px py pt : Pos} {kt k2 pt2} (hc : X.calm = true) (hN : X.N.Nodup) (ha : RA X W [a, b] ga) (hjx : W.j.xi = none := by rfl) (hij : i ≠ j := by decide) (hi : X.N[i]? = some x := by rfl) (hj : X.N[j]? = some y := by rfl)
    (hx : X.env.scope.names.lookup x = some .local := by rfl) (hy : X.env.scope.names.lookup y = some .local := by rfl)
    (hw : swappedStores [.Tuple [.Name x px, .Name y py] kt pt] (.Tuple [a, b] k2 pt2) X.env = pure (some [x, y]) := by rfl)
    (hs : swapsWithSole [.Tuple [.Name x px, .Name y py] kt pt] (.Tuple [a, b] k2 pt2) pos.line X.env = pure false := by rfl) :
    RS X W (.Assign [.Tuple [.Name x px, .Name y py] kt pt] (.Tuple [a, b] k2 pt2) pos) (spar i j ga) :=
  ps_imp (ps_par hc hN hi hj hij hx hy ha hw hs) fun D σ H q => tS.bnd q fun us B r H1 h δ vs w s ru q => by
    cases ru with
    | nil => exact q.elim
    | cons r1 rr =>
      cases rr with
      | nil => exact q.elim
      | cons r2 rr =>
        cases rr with
        | nil => exact ⟨_, _, rfl, OQ.nx w ((s.set hjx r1).set hjx r2) q⟩
        | cons _ _ => exact q.elim
/-- name op= e -/
def saug (p : D → D → Option D) (i : Nat) (f : M U) : S := sbnd (vr i) fun x => sbnd f fun y => sbnd (opE p x y) fun z δ h => some (.nx (δ.set i (some z)) h)
def ipOk (C : Ct) (p : D → D → Option D) (ti : TIp) : Prop := Op2 C p ti
theorem rs_aug {i : Nat} {x : Str} {op : Operator} {p : D → D → Option D} {ti : TIp} {pos' : Pos} (ho : PIp X op ti) (hr : Op2 (ctX X W) p ti) (hN : X.N.Nodup) (he : RE X W e f) (hj : W.j.xi = none := by rfl) (hi : X.N[i]? = some x := by rfl) (hx : Loc X.env.scope x := by first | exact Or.inl rfl | exact Or.inr rfl) (hf : X.fn x = true ∨ X.env.scope.names.lookup x = some .local := by first | exact .inl rfl | exact .inr rfl) :
    RS X W (.AugAssign (.Name x pos') op e pos) (saug p i f) :=
  ps_imp (ps_aug hN hi hx he ho hf) fun D σ H ⟨B, r, h, δ, w, s, q⟩ => by
    unfold saug sbnd vr at q
    cases hu : δ[i]? with
    | none => rw [hu] at q; exact q.elim
    | some o =>
      cases o with
      | none => rw [hu] at q; exact q.elim
      | some x =>
        rw [hu] at q
        obtain ⟨v, h1, h2⟩ := s.at_ i x hu
        refine ⟨v, h1, B, r, h, δ, w, s, ?_⟩
        have q' : OQ (ctX X W) W D B r H ((sbnd f fun y => sbnd (opE p x y) fun z δ h => some (.nx (δ.set i (some z)) h)) δ h) := q
        refine q'.bnd w s fun y B2 r2 H2 h2' w' e2 w2 s2 ry q2 => ?_
        have q3 := q2.bnd (Rel := RU (ctX X W)) (Q1 := fun z H3 => D.nx (σ.set i (some z)) H3) w2 s2 fun z B3 r3 H3 h3 u e3 w3 s3 rz q3 => OQ.nx w3 (s3.set hj rz) q3
        exact opE_end hr w2 (h2.ext e2 w.toOwn) ry q3
end
/-- what is walked gives the values xs, one behind the other, whatever becomes of what may change -/
def Ylds (C : Ct) (B : Bd) (r : Rho) (H : Hp) (xs : List U) (J : It) : Prop :=
  ∀ B1 r1 H1 h1 (i : Nat), Ext B r H B1 r1 H1 → Wd C B1 r1 H1 h1 →
    (i < xs.length → J.go i H1 ∧ ∀ x H2, J.yld i H1 x H2 → ∃ B2, Gr B1 H1 B2 H2 ∧ ∃ u, xs[i]? = some u ∧ RU C B2 r1 H2 u x) ∧ (xs.length ≤ i → J.stop i H1)
def tII (C : Ct) (W : Wj) (f : M (List U)) : TI := fun σ H R => tG C W (Ylds C) f σ H R
def RI1 (X : Cx) (W : Wj) (tg it : Expr) (f : M (List U)) : Prop := PI X tg it (tII (ctX X W) W f)
def forL (g : G) (body : S) : List U → S
  | [] => snx
  | x :: xs => fun δ h => match g x δ h with
    | some (δ1, h1) => match body δ1 h1 with
      | some (.nx δ2 h2) => forL g body xs δ2 h2
      | some (.ct δ2 h2) => forL g body xs δ2 h2
      | some (.bk δ2 h2) => some (.nx δ2 h2)
      | o => o
    | none => none
def sfor (f : M (List U)) (g : G) (body : S) : S := sbnd f fun xs => forL g body xs
theorem pi_imp {X : Cx} {tg e : Expr} {t t' : TI} (h : PI X tg e t) (i : ∀ σ H Q, t' σ H Q → t σ H Q) : PI X tg e t' := ⟨fun pins s σ H Q I q => h.run pins s σ H Q I (i _ _ _ q)⟩
theorem rs_for {X : Cx} {W : Wj} {pos : Pos} {tg iter : Expr} {body : List Stmt} {f : M (List U)} {g : G} {b : S} (hp : PassesOwn (model X.prog X.w) X.A X.env X.xe) (hc : X.calm = true) (hi : RI1 X W tg iter f) (hg : RG X W tg g) (hb : RSs X W body b)
    (hs : ∀ x, foldedSetIterable iter X.env x = pure x := by intro _; rfl) : RS X W (.For tg iter body [] pos) (sfor f g b) :=
  ps_imp (ps_for hp hc hi hg hb hs) fun D σ H q => tS.bnd (Rel := Ylds (ctX X W)) q fun xs B r H1 h δ J w s rj q => by
    refine ⟨fun i m σ2 H2 => ∃ B2 r2 h2 δ2, Ext B r H1 B2 r2 H2 ∧ Wd (ctX X W) B2 r2 H2 h2 ∧ SlR (ctX X W) B2 r2 H2 σ2 δ2 ∧ m = xs.length - i ∧ i ≤ xs.length ∧ OQ (ctX X W) W D B2 r2 H2 (forL g b (xs.drop i) δ2 h2), ⟨xs.length, B, r, h, δ, Ext.refl w.dom, w, s, by simp, Nat.zero_le _, q⟩, ?_⟩
    rintro i m σ2 H2 ⟨B2, r2, h2, δ2, e2, w2, s2, rfl, hi, q2⟩
    obtain ⟨j1, j2⟩ := rj B2 r2 H2 h2 i e2 w2
    by_cases hlt : i < xs.length
    · obtain ⟨j3, j4⟩ := j1 hlt
      refine .inr ⟨j3, fun σ' H' => ∃ B2 r2 h2 δ2, Ext B r H1 B2 r2 H' ∧ Wd (ctX X W) B2 r2 H' h2 ∧ SlR (ctX X W) B2 r2 H' σ' δ2 ∧ OQ (ctX X W) W D B2 r2 H' (forL g b (xs.drop (i + 1)) δ2 h2), fun σ' H' ⟨B3, r3, h3, δ3, e3, w3, s3, q3⟩ => ⟨xs.length - (i + 1), by omega, B3, r3, h3, δ3, e3, w3, s3, rfl, hlt, q3⟩, fun x H3 y => ?_⟩
      obtain ⟨B3, g3, u, hu, ru⟩ := j4 x H3 y
      have w3 := g3.wd w2
      have e3 : Ext B2 r2 H2 B3 r2 H3 := g3.ext
      refine ⟨B3, r2, h2, δ2, u, w3, s2.ext e3 w2.toOwn, ru, ?_⟩
      have ed : xs.drop i = u :: xs.drop (i + 1) := by
        have hx : xs[i]? = some xs[i] := List.getElem?_eq_getElem hlt
        rw [hu] at hx
        rw [List.drop_eq_getElem_cons hlt, ← Option.some.inj hx]
      rw [ed] at q2
      have q3 := q2.shift w2.toOwn e3
      unfold forL at q3
      cases hg1 : g u δ2 h2 with
      | none => simp only [hg1] at q3; exact q3
      | some y1 =>
        simp only [hg1] at q3
        intro B4 r4 H4 σ4 e4 w4 s4
        refine ⟨B4, r4, y1.2, y1.1, w4, s4, ?_⟩
        have q4 := q3.shift w3.toOwn e4
        have e14 : Ext B r H1 B4 r4 H4 := e2.tr w.toOwn (e3.tr w2.toOwn e4)
        cases hb1 : b y1.1 y1.2 with
        | none => rw [hb1] at q4; exact q4
        | some o =>
          rw [hb1] at q4
          cases o with
          | nx δ5 h5 => exact fun B5 r5 H5 σ5 e5 w5 s5 => ⟨B5, r5, h5, δ5, e14.tr w.toOwn e5, w5, s5, q4.shift w4.toOwn e5⟩
          | ct δ5 h5 => exact fun B5 r5 H5 σ5 e5 w5 s5 => ⟨B5, r5, h5, δ5, e14.tr w.toOwn e5, w5, s5, q4.shift w4.toOwn e5⟩
          | bk δ5 h5 => exact q4
          | rt u h5 => exact q4
          | ex e δ5 h5 => exact q4
    · have hd : xs.drop i = [] := List.drop_eq_nil_of_le (Nat.le_of_not_lt hlt)
      rw [hd] at q2
      exact .inl ⟨j2 (Nat.le_of_not_lt hlt), OQ.nx w2 s2 q2⟩
/-- while, within n turns -/
def swhl (c : M Bool) (body : S) : Nat → S
  | 0 => fun _ _ => none
  | n + 1 => fun δ h => match c δ h with
    | some (.ok true h1) => match body δ h1 with
      | some (.nx δ2 h2) => swhl c body n δ2 h2
      | some (.ct δ2 h2) => swhl c body n δ2 h2
      | some (.bk δ2 h2) => some (.nx δ2 h2)
      | o => o
    | some (.ok false h1) => some (.nx δ h1)
    | some (.exc e h1) => some (.ex e δ h1)
    | none => none
theorem rs_while {X : Cx} {W : Wj} {pos : Pos} {c : Expr} {body : List Stmt} {fc : M Bool} {b : S} (n : Nat) (hp : PassesOwn (model X.prog X.w) X.A X.env X.xe) (hc : RT X W c fc) (hb : RSs X W body b) : RS X W (.While c body [] pos) (swhl fc b n) :=
  ps_imp (ps_while hp hc hb) fun D σ H ⟨B, r, h, δ, w, s, q⟩ => by
    refine ⟨fun m σ2 H2 => ∃ B2 r2 h2 δ2, Wd (ctX X W) B2 r2 H2 h2 ∧ SlR (ctX X W) B2 r2 H2 σ2 δ2 ∧ OQ (ctX X W) W D B2 r2 H2 (swhl fc b m δ2 h2), ⟨n, B, r, h, δ, w, s, q⟩, ?_⟩
    rintro m σ2 H2 ⟨B2, r2, h2, δ2, w2, s2, q2⟩
    cases m with
    | zero => exact q2.elim
    | succ m =>
      unfold swhl at q2
      refine ⟨B2, r2, h2, δ2, w2, s2, ?_⟩
      cases hf : fc δ2 h2 with
      | none => rw [hf] at q2; exact q2
      | some o =>
        rw [hf] at q2
        cases o with
        | exc e h1 => exact fun B' r' H' cls d ex w' rx => q2 B' r' H' σ2 cls d ex w' (s2.ext ex w2.toOwn) rx
        | ok a h1 =>
          intro B3 r3 H3 v e3 w3 rel
          cases rel
          have q3 := q2.shift w2.toOwn e3
          have s3 := s2.ext e3 w2.toOwn
          cases a with
          | false => exact OQ.nx w3 s3 q3
          | true =>
            refine ⟨fun σ' H' => ∃ B2 r2 h2 δ2, Wd (ctX X W) B2 r2 H' h2 ∧ SlR (ctX X W) B2 r2 H' σ' δ2 ∧ OQ (ctX X W) W D B2 r2 H' (swhl fc b m δ2 h2), fun σ' H' z => ⟨m, Nat.lt_succ_self m, z⟩, ?_⟩
            refine ⟨B3, r3, h1, δ2, w3, s3, ?_⟩
            dsimp only at q3
            cases hb1 : b δ2 h1 with
            | none => rw [hb1] at q3; exact q3
            | some o =>
              rw [hb1] at q3
              cases o with
              | nx δ5 h5 => exact fun B5 r5 H5 σ5 e5 w5 s5 => ⟨B5, r5, h5, δ5, w5, s5, q3.shift w3.toOwn e5⟩
              | ct δ5 h5 => exact fun B5 r5 H5 σ5 e5 w5 s5 => ⟨B5, r5, h5, δ5, w5, s5, q3.shift w3.toOwn e5⟩
              | bk δ5 h5 => exact q3
              | rt u h5 => exact q3
              | ex e δ5 h5 => exact q3
section
variable {C : Ct} {B B' : Bd} {r r' : Rho} {H H' : Hp} {h : Hea} {n : Nat} {a : Addr}
/-- another content at a live address -/
theorem Wd.put (w : Wd C B r H h) (hn : r[n]? = some (some a)) {x : HO} (nt : ∀ vs, ¬ Rd (upd H a x) a (.tup vs)) {o : O} (ro : Ext B r H B r (upd H a x) → RO C B r (upd H a x) a o) :
    Ext B r H B r (upd H a x) ∧ Wd C B r (upd H a x) (h.set n o) := by
  have lv : Lv r a := ⟨n, hn⟩
  have kp : ∀ b u, b ≠ a → H b = some u → upd H a x b = some u := fun b u hb z => by
    rw [upd_ne hb]
    exact z
  have ex : Ext B r H B r (upd H a x) :=
    { rho := fun _ _ z => .inl z
      rnew := fun m b h1 h2 => by
        rw [List.getElem?_eq_none_iff.mpr h1] at h2
        cases h2
      keep := fun b u nl z => kp b u (fun e => nl (e ▸ lv)) z
      bnew := fun _ z => .inl z
      bold := fun _ z _ => z
      there := fun b u z => by
        by_cases hb : b = a
        · subst hb
          exact ⟨x, upd_same⟩
        · exact ⟨u, kp b u hb z⟩
      dom := fun b z => by
        obtain ⟨u, hu⟩ := w.dom b z
        by_cases hb : b = a
        · subst hb
          exact ⟨x, upd_same⟩
        · exact ⟨u, kp b u hb hu⟩ }
  have hlen : n < h.length := by
    rw [← w.len]
    exact (List.getElem?_eq_some_iff.mp hn).1
  refine ⟨ex, { own := w.own, notup := fun b z vs q => ?_, dom := ex.dom, len := by rw [List.length_set]; exact w.len, obj := fun m b z => ?_, gon := fun m z => ?_, inj := w.inj, jx := C.j.st _ _ _ _ _ _ _ w.toOwn ex w.jx }⟩
  · by_cases hb : b = a
    · subst hb
      exact nt vs q
    · obtain ⟨u, hu⟩ := w.dom b z
      exact w.notup b z vs (rd_back hu (fun o ho => kp b o hb ho) q)
  · by_cases hm : n = m
    · subst hm
      rw [hn] at z
      cases z
      exact ⟨o, List.getElem?_set_self hlen, ro ex⟩
    · obtain ⟨u, hu, q⟩ := w.obj m b z
      refine ⟨u, by rw [List.getElem?_set_ne hm]; exact hu, q.ext ex w.toOwn ?_⟩
      exact upd_ne fun e => hm (w.inj n m a hn (e ▸ z))
  · have hm : n ≠ m := fun e => by
      subst e
      rw [hn] at z
      cases z
    rw [List.getElem?_set_ne hm]
    exact w.gon m z
/-- it is not to change from now on -/
theorem Wd.frz (w : Wd C B r H h) (hn : r[n]? = some (some a)) :
    Ext B r H (fun b => B b ∧ b ≠ a) (r.set n none) H ∧ Wd C (fun b => B b ∧ b ≠ a) (r.set n none) H (h.set n .gone) := by
  have hl : n < r.length := (List.getElem?_eq_some_iff.mp hn).1
  have old : ∀ (m : Nat) b, (r.set n none)[m]? = some (some b) → r[m]? = some (some b) ∧ m ≠ n := fun m b z => by
    by_cases hm : n = m
    · subst hm
      rw [List.getElem?_set_self hl] at z
      cases z
    · rw [List.getElem?_set_ne hm] at z
      exact ⟨z, Ne.symm hm⟩
  have ex : Ext B r H (fun b => B b ∧ b ≠ a) (r.set n none) H :=
    { rho := fun m x z => by
        by_cases hm : n = m
        · subst hm
          exact .inr (List.getElem?_set_self hl)
        · exact .inl (by rw [List.getElem?_set_ne hm]; exact z)
      rnew := fun m b h1 h2 => by
        rw [List.getElem?_eq_none_iff.mpr (by rw [List.length_set]; exact h1)] at h2
        cases h2
      keep := fun _ _ _ z => z
      bnew := fun _ z => .inl z.1
      bold := fun b z nl => ⟨z, fun e => nl (e ▸ ⟨n, hn⟩)⟩
      there := fun _ u z => ⟨u, z⟩
      dom := fun b z => w.dom b z.1 }
  have hlen : n < h.length := by
    rw [← w.len]
    exact hl
  refine ⟨ex, { own := fun b ⟨m, z⟩ => ?_, notup := fun b z => w.notup b z.1, dom := ex.dom, len := by rw [List.length_set, List.length_set]; exact w.len, obj := fun m b z => ?_, gon := fun m z => ?_, inj := fun m k b z1 z2 => w.inj m k b (old m b z1).1 (old k b z2).1, jx := C.j.st _ _ _ _ _ _ _ w.toOwn ex w.jx }⟩
  · obtain ⟨z, hm⟩ := old m b z
    exact ⟨w.own b ⟨m, z⟩, fun e => hm (w.inj m n a (e ▸ z) hn)⟩
  · obtain ⟨z, hm⟩ := old m b z
    obtain ⟨u, hu, q⟩ := w.obj m b z
    exact ⟨u, by rw [List.getElem?_set_ne (Ne.symm hm)]; exact hu, q.ext ex w.toOwn rfl⟩
  · by_cases hm : n = m
    · subst hm
      exact List.getElem?_set_self hlen
    · rw [List.getElem?_set_ne hm] at z ⊢
      exact w.gon m z
theorem RO.rd (w : Wd C B r H h) (nb : ¬ B' a) (ex : Ext B r H B' r' H') (hk : H' a = H a) : ∀ {o : O} {d : D}, RO C B r H a o → o.view = some d → RD C.toCt0 B' H' d (.ref a)
  | .lst us, d, ⟨vs, hH, q⟩, e => by
    change (allD us).map D.lst = some d at e
    cases z : allD us with
    | none => rw [z] at e; cases e
    | some xs =>
      rw [z] at e
      cases e
      exact .lst ⟨nb, hk.trans hH⟩ ((q.allD z).ext ex w.toOwn)
  | .dct us, d, ⟨vs, hH, q⟩, e => by
    change (allK us).map D.dct = some d at e
    cases z : allK us with
    | none => rw [z] at e; cases e
    | some xs =>
      rw [z] at e
      cases e
      exact .dct nb (Rd.of (hk.trans hH)) ((q.allK z).ext ex w.toOwn)
  | .ins c us, d, ⟨Cd, dx, vs, m, hH, q⟩, e => by
    change (allF us).map (D.ins c) = some d at e
    cases z : allF us with
    | none => rw [z] at e; cases e
    | some xs =>
      rw [z] at e
      cases e
      exact .ins m nb (hk.trans hH) ((q.allF z).ext ex w.toOwn)
  | .gone, _, q, _ => q.elim
end
def fzE (u : U) : M U := fun _ h => match u with
  | .d x => some (.ok (.d x) h)
  | .loc n => match h[n]? with
    | some o => match o.view with
      | some d => some (.ok (.d d) (h.set n .gone))
      | none => none
    | none => none
  | .tup us => match allD us with
    | some ds => some (.ok (.d (.tup ds)) h)
    | none => none
def fz (f : M U) : M U := mbnd f fzE
theorem t_fz {C : Ct} {W : Wj} {f : M U} {σ : L2.St} {H : Hp} {Q : VK} (t : tI C W (fz f) σ H Q) : tI C W f σ H Q := by
  refine tG.bnd t fun u B r H1 h δ v w s ru q => ?_
  cases ru with
  | d rd => exact EQ.ret w q (.d rd)
  | @loc n a hn =>
    obtain ⟨o, ho, ro⟩ := w.obj n a hn
    unfold fzE at q
    simp only [ho] at q
    cases hv : o.view with
    | none => rw [hv] at q; exact q.elim
    | some d =>
      simp only [hv] at q
      obtain ⟨ex, w'⟩ := w.frz hn
      exact q _ _ _ _ ex w' (.d (ro.rd w (fun z => z.2 rfl) ex rfl hv))
  | @gone n v hn =>
    unfold fzE at q
    simp only [w.gon n hn] at q
    exact q.elim
  | @tup a us vs hs qs =>
    unfold fzE at q
    cases z : allD us with
    | none => simp only [z] at q; exact q.elim
    | some ds =>
      simp only [z] at q
      exact EQ.ret w q (.d (.tup hs (qs.allD z)))
theorem re_fz {X : Cx} {W : Wj} {e : Expr} {f : M U} (h : RE X W e f) : RE X W e (fz f) := pe_imp h fun _ _ _ t => t_fz t
def FQ (C : Ct) (B : Bd) (r : Rho) (H : Hp) (x : Option (R U)) (Q : VK) (E : XK) : Prop :=
  match x with
  | none => False
  | some (.ok u h') => ∀ B' r' H' v, Ext B r H B' r' H' → Wd C B' r' H' h' → RU C B' r' H' u v → Q v H'
  | some (.exc e h') => ∀ B' r' H' cls d, Ext B r H B' r' H' → Wd C B' r' H' h' → RX C.toCt0 B' H' e cls d → E cls d H'
abbrev FM := List U → Hea → Option (R U)
def spM (C : Ct) (np : Nat) (m : FM) : Sp := fun vs H Q E => vs.length = np ∧ ∃ B r h us, Wd C B r H h ∧ RUs C B r H us vs ∧ FQ C B r H (m us h) Q E
mutual
def U.low (n : Nat) : U → Bool
  | .d _ => true
  | .loc m => decide (m < n)
  | .tup us => lowS n us
def lowS (n : Nat) : List U → Bool
  | [] => true
  | u :: us => u.low n && lowS n us
end
def lowK (n : Nat) : List (D × U) → Bool
  | [] => true
  | (_, u) :: us => u.low n && lowK n us
def lowF (n : Nat) : List (Str × U) → Bool
  | [] => true
  | (_, u) :: us => u.low n && lowF n us
def O.low (n : Nat) : O → Bool
  | .lst us => lowS n us
  | .dct us => lowK n us
  | .ins _ us => lowF n us
  | .gone => true
def lowH (n : Nat) : Hea → Bool
  | [] => true
  | o :: h => o.low n && lowH n h
/-- what the def made and let go is forgotten -/
def fin (n : Nat) (u : U) (h : Hea) : Option (R U) := match u with
  | .d x => if lowH n (h.take n) = true then some (.ok (.d x) (h.take n)) else some (.ok (.d x) h)
  | u => some (.ok u h)
def finX (n : Nat) (e : Exn) (h : Hea) : Option (R U) := if lowH n (h.take n) = true then some (.exc e (h.take n)) else some (.exc e h)
/-- a def's mirror by its body's: nn the number of its names -/
def fnM (nn : Nat) (b : S) : FM := fun us h => match b (us.map some ++ List.replicate (nn - us.length) none) h with
  | some (.nx _ h') => fin h.length (.d .non) h'
  | some (.rt u h') => fin h.length u h'
  | some (.ex e _ h') => finX h.length e h'
  | _ => none
section
variable {C : Ct} {B B' : Bd} {r r' : Rho} {H H' : Hp} {h h' : Hea} {n : Nat}
mutual
theorem RU.cut (n : Nat) : ∀ {u : U} {v : V}, RU C B r H u v → u.low n = true → RU C B (r.take n) H u v
  | _, _, .d q, _ => .d q
  | _, _, .loc q, hb => .loc (by
      have hm := of_decide_eq_true hb
      rw [List.getElem?_take_of_lt hm]
      exact q)
  | _, _, .gone q, hb => .gone (by
      have hm := of_decide_eq_true hb
      rw [List.getElem?_take_of_lt hm]
      exact q)
  | _, _, .tup hs q, hb => .tup hs (RUs.cut n q hb)
theorem RUs.cut (n : Nat) : ∀ {us : List U} {vs : List V}, RUs C B r H us vs → lowS n us = true → RUs C B (r.take n) H us vs
  | _, _, .nil, _ => .nil
  | _, _, .cons a b, hb => by
    unfold lowS at hb
    rw [Bool.and_eq_true] at hb
    exact .cons (RU.cut n a hb.1) (RUs.cut n b hb.2)
end
theorem RUk.cut (n : Nat) : ∀ {us : List (D × U)} {vs : List (Key × V)}, RUk C B r H us vs → lowK n us = true → RUk C B (r.take n) H us vs
  | _, _, .nil, _ => .nil
  | _, _, .cons k a b, hb => by
    unfold lowK at hb
    rw [Bool.and_eq_true] at hb
    exact .cons k (RU.cut n a hb.1) (RUk.cut n b hb.2)
theorem RUf.cut (n : Nat) : ∀ {us : List (Str × U)} {vs : List (Str × V)}, RUf C B r H us vs → lowF n us = true → RUf C B (r.take n) H us vs
  | _, _, .nil, _ => .nil
  | _, _, .cons a b, hb => by
    unfold lowF at hb
    rw [Bool.and_eq_true] at hb
    exact .cons (RU.cut n a hb.1) (RUf.cut n b hb.2)
theorem lowH_at : ∀ {h : Hea} {m : Nat} {o : O}, lowH n h = true → h[m]? = some o → o.low n = true
  | [], m, o, _, e => by simp at e
  | x :: h, 0, o, hb, e => by
    unfold lowH at hb
    rw [Bool.and_eq_true] at hb
    cases e
    exact hb.1
  | x :: h, m + 1, o, hb, e => by
    unfold lowH at hb
    rw [Bool.and_eq_true] at hb
    exact lowH_at hb.2 e
theorem RO.cut (n : Nat) {a : Addr} : ∀ {o : O}, RO C B r H a o → o.low n = true → RO C B (r.take n) H a o
  | .lst us, ⟨vs, hH, q⟩, hb => ⟨vs, hH, q.cut n hb⟩
  | .dct us, ⟨vs, hH, q⟩, hb => ⟨vs, hH, q.cut n hb⟩
  | .ins c us, ⟨Cd, dx, vs, m, hH, q⟩, hb => ⟨Cd, dx, vs, m, hH, q.cut n hb⟩
  | .gone, q, _ => q.elim
theorem Wd.cut (w : Wd C B r H h) (hb : lowH n (h.take n) = true) : Wd C B (r.take n) H (h.take n) where
  own := fun a ⟨m, z⟩ => w.own a ⟨m, by
    rw [List.getElem?_take] at z
    split at z
    · exact z
    · cases z⟩
  notup := w.notup
  dom := w.dom
  len := by rw [List.length_take, List.length_take, w.len]
  obj := fun m a z => by
    rw [List.getElem?_take] at z
    split at z
    · rename_i hm
      obtain ⟨o, ho, q⟩ := w.obj m a z
      have e : (h.take n)[m]? = some o := by
        rw [List.getElem?_take_of_lt hm]
        exact ho
      exact ⟨o, e, q.cut n (lowH_at hb e)⟩
    · cases z
  gon := fun m z => by
    rw [List.getElem?_take] at z
    split at z
    · rename_i hm
      rw [List.getElem?_take_of_lt hm]
      exact w.gon m z
    · cases z
  inj := fun m k a z1 z2 => by
    rw [List.getElem?_take] at z1 z2
    split at z1
    · split at z2
      · exact w.inj m k a z1 z2
      · cases z2
    · cases z1
  jx := w.jx
theorem Ext.cut (e : Ext B r H B' r' H') : Ext B r H B' (r'.take r.length) H' where
  rho := fun m x z => by
    have hm : m < r.length := (List.getElem?_eq_some_iff.mp z).1
    rw [List.getElem?_take_of_lt hm]
    exact e.rho m x z
  rnew := fun m a h1 h2 => by
    rw [List.getElem?_take] at h2
    split at h2
    · omega
    · cases h2
  keep := e.keep
  bnew := e.bnew
  bold := e.bold
  there := e.there
  dom := e.dom
end
section
variable {P : Program} {w : World} {K : PySem.W.Frag} {mg : Str → Option Value} {base : Heap}
/-- THE RULE for a def -/
theorem fn_ok {x qual : Str} {st : Stmt} {f : Addr} {fd : FuncData} {N ps : List Str} {k : Nat} {b : S} (F : Fun K x qual st f fd) (Sc : FnScope N ps (defScope st))
    (hb : ∀ (cdv : Value) (A : Around) (outer : List Env) (s : Shared) (H : Hp) (E : XK), Room k (A.deeper (envOfC qual (defScope st) s.heap.objs.size f cdv)) →
      Takes (cxOf (L2.CX P w) P w K mg base N qual (defScope st) f cdv A outer s H E) (fun cls d _ H => E cls d H) →
      PassesOwn (model P w) (cxOf (L2.CX P w) P w K mg base N qual (defScope st) f cdv A outer s H E).A (cxOf (L2.CX P w) P w K mg base N qual (defScope st) f cdv A outer s H E).env (cxOf (L2.CX P w) P w K mg base N qual (defScope st) f cdv A outer s H E).xe →
      RSs (cxOf (L2.CX P w) P w K mg base N qual (defScope st) f cdv A outer s H E) ⟨fun cls d _ H => E cls d H, j0⟩ (defBody st) b) :
    FnOk P w K mg base (L2.CX P w) (k + 1) f fd ps (spM ⟨⟨K, mg⟩, j0⟩ ps.length (fnM N.length b)) := by
  refine F.okX Sc (fun vs H Q E h => h.1) (fun cdv A outer s H vs Q E hr h => ?_)
  obtain ⟨hl, B, r, hh, us, wd, ru, q⟩ := h
  refine ⟨_, hb cdv A outer s H E hr (takes_of rfl rfl rfl rfl) (passes_of rfl), B, r, hh, us.map some ++ List.replicate (N.length - us.length) none, wd, ⟨?_, fun i u hu => ?_, fun i a z => by cases z⟩, ?_⟩
  · have e := ru.length
    unfold L2.start
    simp only [List.length_append, List.length_map, List.length_replicate, e]
  · have e := ru.length
    have hi : i < us.length := by
      by_cases hi : i < us.length
      · exact hi
      · rw [List.getElem?_append_right (by simpa using hi)] at hu
        rw [List.getElem?_replicate] at hu
        split at hu <;> cases hu
    rw [List.getElem?_append_left (by simpa using hi), List.getElem?_map] at hu
    have hiv : i < vs.length := by rw [← e]; exact hi
    refine ⟨vs[i], ?_, ?_⟩
    · unfold L2.start
      rw [List.getElem?_append_left (by simpa using hiv), List.getElem?_map, List.getElem?_eq_getElem hiv]
      rfl
    · have go : ∀ {us : List U} {vs : List V} (i : Nat) {u v}, RUs ⟨K, mg⟩ B r H us vs → us[i]? = some u → vs[i]? = some v → RU ⟨K, mg⟩ B r H u v := by
        intro us vs i
        induction us generalizing vs i with
        | nil => intro u v _ h; simp at h
        | cons x xs ih =>
          intro u v hr h1 h2
          cases hr with
          | cons a b =>
            cases i with
            | zero => cases h1; cases h2; exact a
            | succ i => exact ih i b h1 h2
      rw [List.getElem?_eq_getElem hi] at hu
      cases hu
      exact go i ru (List.getElem?_eq_getElem hi) (List.getElem?_eq_getElem hiv)
  · unfold fnM at q
    have fz : ∀ {u : U} {h'' : Hea} {B' r' H' v}, FQ ⟨⟨K, mg⟩, j0⟩ B r H (fin hh.length u h'') Q E → Ext B r H B' r' H' → Wd ⟨⟨K, mg⟩, j0⟩ B' r' H' h'' → RU ⟨K, mg⟩ B' r' H' u v → Q v H' := by
      intro u h'' B' r' H' v q ex w' rv
      unfold fin at q
      split at q
      · split at q
        · rename_i hbl
          rw [← wd.len] at q hbl
          refine q B' _ H' v ex.cut (w'.cut hbl) ?_
          cases rv with
          | d rd => exact .d rd
        · exact q B' r' H' v ex w' rv
      · exact q B' r' H' v ex w' rv
    generalize hgo : b (us.map some ++ List.replicate (N.length - us.length) none) hh = o at q ⊢
    cases o with
    | none => exact q
    | some o =>
      cases o with
      | nx δ h' => exact fun B' r' H' σ' ex w' _ => fz q ex w' (.d .non)
      | rt u h' => exact fun B' r' H' v ex w' rv => fz q ex w' rv
      | bk δ h' => exact q.elim
      | ct δ h' => exact q.elim
      | ex e δ h' =>
        intro B' r' H' σ' cls d ex w' _ rx
        change FQ ⟨⟨K, mg⟩, j0⟩ B r H (finX hh.length e h') Q E at q
        unfold finX at q
        split at q
        · rename_i hbl
          rw [← wd.len] at q hbl
          exact q B' _ H' cls d ex.cut (w'.cut hbl) rx
        · exact q B' r' H' cls d ex w' rx
end
/-- a call upon plain data, that gives plain data -/
def pureR (x : Option (R U)) (h : Hea) : Option (R U) := match x with
  | some (.ok (.d d) _) => some (.ok (.d d) h)
  | some (.exc e _) => some (.exc e h)
  | _ => none
def viewS (h : Hea) : List U → Option (List D)
  | [] => some []
  | u :: us => match view h u, viewS h us with
    | some x, some xs => some (x :: xs)
    | _, _ => none
section
variable {C : Ct} {W : Wj} {σ : L2.St} {B B' : Bd} {r r' : Rho} {H H' : Hp} {h : Hea} {δ : Sl} {Q : VK}
/-- a state in which nothing is at hand to be changed -/
theorem Wd.bare (w : Wd C B r H h) : Wd C B [] H [] where
  own := fun a ⟨n, z⟩ => by simp at z
  notup := w.notup
  dom := w.dom
  len := rfl
  obj := fun n a z => by simp at z
  gon := fun n z => by simp at z
  inj := fun n m a z => by simp at z
  jx := w.jx
/-- back from there -/
theorem Ext.gr {h' : Hea} (e : Ext B [] H B' r' H') (w' : Wd C B' r' H' h') : Gr B H B' H' :=
  ⟨fun a o z => e.keep a o (fun ⟨n, q⟩ => by simp at q) z, e.bnew, fun a z => e.bold a z (fun ⟨n, q⟩ => by simp at q), w'.dom, w'.notup⟩
end
/-- in what Ext keeps, locks aside, everything is kept: H has no lock where it had none -/
theorem us_allD {us : List U} : ∀ {ds : List D}, allD us = some ds → us = ds.map .d := by
  induction us with
  | nil => intro ds h; cases h; rfl
  | cons u us ih =>
    intro ds h
    unfold allD at h
    split at h
    · rename_i x xs e1 e2
      cases h
      rw [toD_some e1, ih e2]
      rfl
    · cases h
section
variable {C : Ct} {W : Wj} {σ : L2.St} {B : Bd} {r : Rho} {H : Hp} {h : Hea} {δ : Sl} {Q : VK} {us : List U} {vs : List V} {ds : List D} {m : FM}
theorem RUs.bare {C' : Ct} (hc : C'.toCt0 = C.toCt0) (ru : RUs C B r H us vs) (e : PM.allD us = some ds) : RUs C' B [] H us vs := by
  have q := ru.allD e
  rw [us_allD e]
  rw [← hc] at q
  exact q.us
theorem Wd.bare0 {C' : Ct} (hj : C'.j = j0) (w : Wd C B r H h) : Wd C' B [] H [] where
  own := fun a ⟨n, z⟩ => by simp at z
  notup := w.notup
  dom := w.dom
  len := rfl
  obj := fun n a z => by simp at z
  gon := fun n z => by simp at z
  inj := fun n m a z => by simp at z
  jx := by rw [hj]; trivial
theorem pure_end {C' : Ct} (hc : C'.toCt0 = C.toCt0) {x : Option (R U)} (w : Wd C B r H h) (q : EQ C W σ B r H (pureR x h) (RU C) Q) : FQ C' B [] H x Q (WE W.w σ) := by
  cases x with
  | none => exact q
  | some o =>
    cases o with
    | ok u h' =>
      cases u with
      | d d =>
        intro B' r' H' v ex w' ru
        cases ru with
        | d rd =>
          rw [hc] at rd
          exact EQ.gr w q (ex.gr w') (.d rd)
      | loc n => exact q.elim
      | tup us => exact q.elim
    | exc e h' =>
      intro B' r' H' cls d ex w' rx
      have gr := ex.gr w'
      rw [hc] at rx
      exact q B' r H' cls d gr.ext (gr.wd w) rx
theorem call_end {x : Option (R U)} (q : EQ C W σ B r H x (RU C) Q) : FQ C B r H x Q (WE W.w σ) := by
  cases x with
  | none => exact q
  | some o =>
    cases o with
    | ok u h' => exact q
    | exc e h' => exact q
end
/-- the def that the module's name x holds keeps m -/
structure FnAt (P : Program) (w : World) (K : PySem.W.Frag) (mg : Str → Option Value) (base : Heap) (k : Nat) (x : Str) (np : Nat) (m : FM) : Prop where
  ex : ∃ (f : Addr) (fd : FuncData) (ps : List Str), mg x = some (.ref f) ∧ PySem.W.keepIn K (.ref f) = true ∧ Binds K fd ps [] ∧ FnOk P w K mg base (L2.CX P w) k f fd ps (spM ⟨⟨K, mg⟩, j0⟩ np m)
def callM (np : Nat) (m : FM) (g : M (List U)) : M U := mbnd g fun us _ h => if us.length = np then m us h else none
def callP (np : Nat) (m : FM) (g : M (List U)) : M U := mbnd g fun us _ h => if us.length = np then (match allD us with
  | some _ => pureR (m us []) h
  | none => none) else none
/-- a call upon things seen as they are now; the answer is no thing that could be one of them -/
def atomD : D → Bool
  | .non => true
  | .bl _ => true
  | .int _ => true
  | .str _ => true
  | _ => false
section
variable {X : Cx} {W : Wj} {k np : Nat} {x : Str} {m : FM} {p pos : Pos} {e : Expr} {es : List Expr} {g : M (List U)}
theorem re_callM (F : FnAt X.prog X.w X.K X.mg X.base k x np m) (hr : Room k X.A) (tk : Takes X W.w) (ha : RA X W (e :: es) g) (hj : W.j = j0 := by rfl) (hg : Gl X x := by rfl) (hdb : (x == ("__debug__" : Str)) = false := by decide)
    (he : starEach (e :: es) X.env = (false, eval e X.env) :: starEach es X.env := by rfl) (hpl : (backTo pos (starEach es X.env)).any (·.1) = false := by rfl) :
    RE X W (.Call (.Name x p) (e :: es) [] pos) (callM np m g) := by
  obtain ⟨f, fd, ps, hm, hk, hb, ok⟩ := F.ex
  refine pe_imp (pe_callS ok hr hg hm hk hb (passAt tk) ha hdb he hpl) fun σ H Q t => tG.bnd t fun us B r H1 h δ vs w s ru q => ?_
  by_cases hl : us.length = np
  · try dsimp only at q
    rw [if_pos hl] at q
    have ec : ctX X W = ⟨⟨X.K, X.mg⟩, j0⟩ := by unfold ctX; rw [hj]
    rw [ec] at w ru q
    exact ⟨ru.length.symm.trans hl, B, r, h, us, w, ru, call_end q⟩
  · try dsimp only at q
    rw [if_neg hl] at q
    exact q.elim
theorem re_callP (F : FnAt X.prog X.w X.K X.mg X.base k x np m) (hr : Room k X.A) (tk : Takes X W.w) (ha : RA X W (e :: es) g) (hg : Gl X x := by rfl) (hdb : (x == ("__debug__" : Str)) = false := by decide)
    (he : starEach (e :: es) X.env = (false, eval e X.env) :: starEach es X.env := by rfl) (hpl : (backTo pos (starEach es X.env)).any (·.1) = false := by rfl) :
    RE X W (.Call (.Name x p) (e :: es) [] pos) (callP np m g) := by
  obtain ⟨f, fd, ps, hm, hk, hb, ok⟩ := F.ex
  refine pe_imp (pe_callS ok hr hg hm hk hb (passAt tk) ha hdb he hpl) fun σ H Q t => tG.bnd t fun us B r H1 h δ vs w s ru q => ?_
  by_cases hl : us.length = np
  · try dsimp only at q
    rw [if_pos hl] at q
    cases hd : allD us with
    | none => rw [hd] at q; exact q.elim
    | some ds =>
      rw [hd] at q
      exact ⟨ru.length.symm.trans hl, B, [], [], us, w.bare0 rfl, RUs.bare (C := ctX X W) rfl ru hd, pure_end (C := ctX X W) (C' := ⟨⟨X.K, X.mg⟩, j0⟩) rfl w q⟩
  · try dsimp only at q
    rw [if_neg hl] at q
    exact q.elim
end
/-- the class of an instance, and whether it has a field so called -/
def insHas (c : Str) (n : Str) (h : Hea) : U → Option Bool
  | .d (.ins c' fs) => if c' = c then some (fs.any fun p => p.1 == n) else none
  | .loc l => match h[l]? with
    | some (.ins c' fs) => if c' = c then some (fs.any fun p => p.1 == n) else none
    | _ => none
  | _ => none
def fldOf (cs : List Str) (n : Str) (h : Hea) : U → Option U
  | .d (.ins c' fs) => if cs.contains c' = true then (fs.lookup n).map .d else none
  | .loc l => match h[l]? with
    | some (.ins c' fs) => if cs.contains c' = true then fs.lookup n else none
    | _ => none
  | _ => none
section
variable {C : Ct} {B : Bd} {r : Rho} {H : Hp} {h : Hea}
theorem RDf.look {C0 : Ct0} {n : Str} : ∀ {fs : List (Str × D)} {vs : List (Str × V)}, RDf C0 B H fs vs → ∀ {d}, fs.lookup n = some d → ∃ v, vs.lookup n = some v ∧ RD C0 B H d v
  | _, _, .nil, d, h => by simp at h
  | _, _, .cons (f := f) (ds := ds) (vs := vs) a b, d, h => by
    rw [List.lookup_cons] at h ⊢
    split at h
    · cases h
      exact ⟨_, rfl, a⟩
    · exact RDf.look b h
theorem RUf.look {n : Str} : ∀ {fs : List (Str × U)} {vs : List (Str × V)}, RUf C B r H fs vs → ∀ {d}, fs.lookup n = some d → ∃ v, vs.lookup n = some v ∧ RU C B r H d v
  | _, _, .nil, d, h => by simp at h
  | _, _, .cons (f := f) (ds := ds) (vs := vs) a b, d, h => by
    rw [List.lookup_cons] at h ⊢
    split at h
    · cases h
      exact ⟨_, rfl, a⟩
    · exact RUf.look b h
theorem RDf.none {C0 : Ct0} {n : Str} : ∀ {fs : List (Str × D)} {vs : List (Str × V)}, RDf C0 B H fs vs → (fs.any fun p => p.1 == n) = false → vs.lookup n = none
  | _, _, .nil, h => rfl
  | _, _, .cons (f := f) a b, h => by
    rw [List.any_cons, Bool.or_eq_false_iff] at h
    rw [List.lookup_cons]
    have e : (n == f) = false := by
      have q := h.1
      simp only [beq_eq_false_iff_ne, ne_eq] at q ⊢
      exact fun z => q z.symm
    rw [e]
    exact RDf.none b h.2
theorem RUf.none {n : Str} : ∀ {fs : List (Str × U)} {vs : List (Str × V)}, RUf C B r H fs vs → (fs.any fun p => p.1 == n) = false → vs.lookup n = none
  | _, _, .nil, h => rfl
  | _, _, .cons (f := f) a b, h => by
    rw [List.any_cons, Bool.or_eq_false_iff] at h
    rw [List.lookup_cons]
    have e : (n == f) = false := by
      have q := h.1
      simp only [beq_eq_false_iff_ne, ne_eq] at q ⊢
      exact fun z => q z.symm
    rw [e]
    exact RUf.none b h.2
theorem insHas_ok {c n : Str} {u : U} {v : V} (w : Wd C B r H h) (ru : RU C B r H u v) (e : insHas c n h u = some false) : ∃ a Cd dx fs, v = .ref a ∧ C.mg c = some (.ref Cd) ∧ H a = some (.ins Cd dx fs) ∧ fs.lookup n = none := by
  cases ru with
  | d rd =>
    cases rd with
    | ins m nb hH q =>
      unfold insHas at e
      dsimp only at e
      split at e
      · rename_i ec
        subst ec
        exact ⟨_, _, _, _, rfl, m, hH, q.none (Option.some.inj e)⟩
      · cases e
    | _ => cases e
  | @loc l a hl =>
    obtain ⟨o, ho, ro⟩ := w.obj l a hl
    unfold insHas at e
    dsimp only at e
    rw [ho] at e
    cases o with
    | ins c' fs =>
      dsimp only at e
      obtain ⟨Cd, dx, vs, m, hH, q⟩ := ro
      split at e
      · rename_i ec
        subst ec
        exact ⟨_, _, _, _, rfl, m, hH, q.none (Option.some.inj e)⟩
      · cases e
    | _ => cases e
  | @gone l v hl =>
    unfold insHas at e
    dsimp only at e
    rw [w.gon l hl] at e
    cases e
  | tup _ _ => cases e
theorem fldOf_ok {cs : List Str} {n : Str} {u x : U} {v : V} (w : Wd C B r H h) (ru : RU C B r H u v) (e : fldOf cs n h u = some x) : ∃ a c Cd dx fs y, v = .ref a ∧ c ∈ cs ∧ C.mg c = some (.ref Cd) ∧ H a = some (.ins Cd dx fs) ∧ fs.lookup n = some y ∧ RU C B r H x y := by
  cases ru with
  | d rd =>
    cases rd with
    | @ins a Cd dx c ds vs m nb hH q =>
      unfold fldOf at e
      dsimp only at e
      split at e
      · rename_i ec
        cases hf : ds.lookup n with
        | none => rw [hf] at e; cases e
        | some d =>
          rw [hf] at e
          cases e
          obtain ⟨y, h1, h2⟩ := q.look hf
          exact ⟨a, c, Cd, dx, vs, y, rfl, by simpa using ec, m, hH, h1, .d h2⟩
      · cases e
    | _ => cases e
  | @loc l a hl =>
    obtain ⟨o, ho, ro⟩ := w.obj l a hl
    unfold fldOf at e
    dsimp only at e
    rw [ho] at e
    cases o with
    | ins c' fs =>
      dsimp only at e
      obtain ⟨Cd, dx, vs, m, hH, q⟩ := ro
      split at e
      · rename_i ec
        obtain ⟨y, h1, h2⟩ := q.look e
        exact ⟨a, c', Cd, dx, vs, y, rfl, by simpa using ec, m, hH, h1, h2⟩
      · cases e
    | _ => cases e
  | @gone l v hl =>
    unfold fldOf at e
    dsimp only at e
    rw [w.gon l hl] at e
    cases e
  | tup _ _ => cases e
end
/-- e.n may be read of instances of the classes -/
def FldAt (K : PySem.W.Frag) (mg : Str → Option Value) (cs : List Str) (n : Str) : Prop := ∀ c ∈ cs, ∀ Cd, mg c = some (.ref Cd) → Cls K Cd ∧ NoAttr K Cd n
def fldE (cs : List Str) (n : Str) (f : M U) : M U := mbnd f fun u _ h => match fldOf cs n h u with
  | some x => some (.ok x h)
  | none => none
section
variable {X : Cx} {W : Wj} {pos : Pos} {e : Expr} {f : M U} {cs : List Str} {n : Str}
theorem re_fld (hF : FldAt X.K X.mg cs n) (he : RE X W e f) (hb : attributeBase e n X.env (eval e X.env) = eval e X.env := by rfl) : RE X W (.Attribute e n pos) (fldE cs n f) :=
  pe_imp (pe_fld he hb) fun σ H Q t => tG.bnd t fun u B r H1 h δ v w s ru q => by
    try dsimp only at q
    cases hx : fldOf cs n h u with
    | none => rw [hx] at q; exact q.elim
    | some x =>
      rw [hx] at q
      obtain ⟨a, c, Cd, dx, fs, y, e1, hc, m, hH, hl, ry⟩ := fldOf_ok w ru hx
      obtain ⟨k1, k2⟩ := hF c hc Cd m
      exact ⟨a, Cd, dx, fs, y, e1, hH, k1, k2, hl, EQ.ret w q ry⟩
end
/-- o.m(..), at the caller's slots -/
def tMethS (C : Addr) (m : Str) (sp : Sp) (E : L2.St → XK) (ta : TE) (t : TA) : TE := fun σ H Q => ta σ H fun x H1 => ∃ a dx fs, x = .ref a ∧ H1 a = some (.ins C dx fs) ∧ fs.lookup m = none ∧
  t σ H1 fun vs H2 => sp (x :: vs) H2 Q (E σ)
section
variable {X : Cx} {CX : CXT} {k : Nat} {f C : Addr} {fd : FuncData} {ps : List Str} {sp : Sp} {E : L2.St → XK} {m : Str} {pos apos : Pos} {e o : Expr} {es : List Expr} {ta : TE} {t : TA}
theorem pe_methS {pl : Sem Bool} (he : PE X o ta) (c : Cls X.K C) (hm : Meth X.K C m f) (F : FnOk X.prog X.w X.K X.mg X.base CX k f fd ps sp) (hr : Room k X.A) (hb : Binds X.K fd ps []) (hx : ∀ σ, PassesAt CX X σ (E σ)) (ha : PA X (e :: es) t)
    (hst : starEach (e :: es) X.env = (false, eval e X.env) :: starEach es X.env := by rfl) (hpl : (backTo pos (starEach es X.env)).any (·.1) = false := by rfl)
    (ht : eval (.Call (.Attribute o m apos) (e :: es) [] pos) X.env = (do
      let ov ← eval o X.env
      standAt apos.atName
      let (f, first) ← holding [ov] (getMethod ov m pl)
      callWith pos f first (backTo pos (starEach (e :: es) X.env)) (backToKw pos (keywordEach [] X.env))) := by rfl) :
    PE X (.Call (.Attribute o m apos) (e :: es) [] pos) (tMethS C m sp E ta t) := by
  refine ⟨fun pins s σ H Q I h => ?_⟩
  refine PySem.W.methodCall_KW (pl := pl) (thn (he.run pins s σ H _ I h) fun u s1 ⟨x, H1, I1, rx, a, dx, fs, ex, ea, l, q⟩ => ?_) ht
  subst ex
  obtain rfl : u = Value.ref a := rx
  refine getmeth_ok I1 ea c hm l ?_
  refine PySem.W.callWith_K (first := [.ref a]) (h₀ := X.base) I.ok.mod.kin hm.kp (thn (ha.run pos pins s1 σ H1 _ I1 q) fun us s2 ⟨vs, H2, I2, r, q2⟩ => ⟨I2.kIn, ?_⟩) hst hpl
  exact run_fnS (us := .ref a :: us) (vs := .ref a :: vs) F hr hb (hx σ) I2 (.cons rfl r) q2
theorem pe_methS0 {pl : Sem Bool} (he : PE X o ta) (c : Cls X.K C) (hm : Meth X.K C m f) (F : FnOk X.prog X.w X.K X.mg X.base CX k f fd ps sp) (hr : Room k X.A) (hb : Binds X.K fd ps []) (hx : ∀ σ, PassesAt CX X σ (E σ))
    (ht : eval (.Call (.Attribute o m apos) [] [] pos) X.env = (do
      let ov ← eval o X.env
      standAt apos.atName
      let (f, first) ← holding [ov] (getMethod ov m pl)
      callWith pos f first (backTo pos (starEach [] X.env)) (backToKw pos (keywordEach [] X.env))) := by rfl) :
    PE X (.Call (.Attribute o m apos) [] [] pos) (tMethS C m sp E ta tNil) := by
  refine ⟨fun pins s σ H Q I h => ?_⟩
  refine PySem.W.methodCall_KW (pl := pl) (thn (he.run pins s σ H _ I h) fun u s1 ⟨x, H1, I1, rx, a, dx, fs, ex, ea, l, q⟩ => ?_) ht
  subst ex
  obtain rfl : u = Value.ref a := rx
  refine getmeth_ok I1 ea c hm l ?_
  exact PySem.W.callWith_K0 (first := [.ref a]) I1.kIn hm.kp (run_fnS (us := [.ref a]) (vs := [.ref a]) F hr hb (hx σ) I1 (.cons rfl .nil) q)
end
/-- the method mn of the class c keeps m -/
structure MtAt (P : Program) (w : World) (K : PySem.W.Frag) (mg : Str → Option Value) (base : Heap) (k : Nat) (c mn : Str) (np : Nat) (m : FM) : Prop where
  ex : ∃ (C f : Addr) (fd : FuncData) (ps : List Str), mg c = some (.ref C) ∧ Cls K C ∧ Meth K C mn f ∧ Binds K fd ps [] ∧ FnOk P w K mg base (L2.CX P w) k f fd ps (spM ⟨⟨K, mg⟩, j0⟩ np m)
def methM (c mn : Str) (np : Nat) (m : FM) (fo : M U) (g : M (List U)) : M U := mbnd fo fun o δ h => if insHas c mn h o = some false then
  mbnd g (fun us _ h => if us.length + 1 = np then m (o :: us) h else none) δ h else none
def methP (c mn : Str) (np : Nat) (m : FM) (fo : M U) (g : M (List U)) : M U := mbnd fo fun o δ h => if insHas c mn h o = some false then
  mbnd g (fun us _ h => if us.length + 1 = np then (match allD (o :: us) with
    | some _ => pureR (m (o :: us) []) h
    | none => none) else none) δ h else none
section
variable {X : Cx} {W : Wj} {k np : Nat} {c mn : Str} {m : FM} {apos pos : Pos} {e o : Expr} {es : List Expr} {fo : M U} {g : M (List U)}
theorem t_meth {Cd : Addr} {f : Addr} {np : Nat} {σ : L2.St} {H : Hp} {Q : VK} (hm : X.mg c = some (.ref Cd)) (hj : W.j = j0) (t : tI (ctX X W) W (methM c mn np m fo g) σ H Q) : tMethS Cd mn (spM ⟨⟨X.K, X.mg⟩, j0⟩ np m) (WE W.w) (tI (ctX X W) W fo) (tA (ctX X W) W g) σ H Q := by
  refine tG.bnd t fun u B r H1 h δ v w s ru q => ?_
  try dsimp only at q
  by_cases hi : insHas c mn h u = some false
  · rw [if_pos hi] at q
    obtain ⟨a, Cd', dx, fs, e1, m1, hH, hl⟩ := insHas_ok w ru hi
    have e2 : Cd' = Cd := by
      have z : X.mg c = some (.ref Cd') := m1
      rw [hm] at z
      cases z
      rfl
    subst e2
    refine ⟨a, dx, fs, e1, hH, hl, B, r, h, δ, w, s, q.bnd w s fun us B2 r2 H2 h2 vs e2 w2 s2 rus q2 => ?_⟩
    try dsimp only at q2
    by_cases hl : us.length + 1 = np
    · rw [if_pos hl] at q2
      have ec : ctX X W = ⟨⟨X.K, X.mg⟩, j0⟩ := by unfold ctX; rw [hj]
      have ru2 := ru.ext e2 w.toOwn
      rw [ec] at w2 ru2 rus q2
      exact ⟨by rw [← hl, List.length_cons, rus.length], B2, r2, h2, _, w2, .cons ru2 rus, call_end q2⟩
    · rw [if_neg hl] at q2
      exact q2.elim
  · rw [if_neg hi] at q
    exact q.elim
theorem t_methP {Cd : Addr} {np : Nat} {σ : L2.St} {H : Hp} {Q : VK} (hm : X.mg c = some (.ref Cd)) (t : tI (ctX X W) W (methP c mn np m fo g) σ H Q) : tMethS Cd mn (spM ⟨⟨X.K, X.mg⟩, j0⟩ np m) (WE W.w) (tI (ctX X W) W fo) (tA (ctX X W) W g) σ H Q := by
  refine tG.bnd t fun u B r H1 h δ v w s ru q => ?_
  try dsimp only at q
  by_cases hi : insHas c mn h u = some false
  · rw [if_pos hi] at q
    obtain ⟨a, Cd', dx, fs, e1, m1, hH, hl⟩ := insHas_ok w ru hi
    have e2 : Cd' = Cd := by
      have z : X.mg c = some (.ref Cd') := m1
      rw [hm] at z
      cases z
      rfl
    subst e2
    refine ⟨a, dx, fs, e1, hH, hl, B, r, h, δ, w, s, q.bnd w s fun us B2 r2 H2 h2 vs e2 w2 s2 rus q2 => ?_⟩
    try dsimp only at q2
    by_cases hl : us.length + 1 = np
    · rw [if_pos hl] at q2
      have ru2 := ru.ext e2 w.toOwn
      cases hd : allD (u :: us) with
      | none => rw [hd] at q2; exact q2.elim
      | some ds =>
        rw [hd] at q2
        exact ⟨by rw [← hl, List.length_cons, rus.length], B2, [], [], _, w2.bare0 rfl, RUs.bare (C := ctX X W) rfl (.cons ru2 rus) hd, pure_end (C := ctX X W) (C' := ⟨⟨X.K, X.mg⟩, j0⟩) rfl w2 q2⟩
    · rw [if_neg hl] at q2
      exact q2.elim
  · rw [if_neg hi] at q
    exact q.elim
theorem re_methM {pl : Sem Bool} (F : MtAt X.prog X.w X.K X.mg X.base k c mn np m) (hr : Room k X.A) (tk : Takes X W.w) (ho : RE X W o fo) (ha : RA X W (e :: es) g) (hj : W.j = j0 := by rfl)
    (hst : starEach (e :: es) X.env = (false, eval e X.env) :: starEach es X.env := by rfl) (hpl : (backTo pos (starEach es X.env)).any (·.1) = false := by rfl)
    (ht : eval (.Call (.Attribute o mn apos) (e :: es) [] pos) X.env = (do
      let ov ← eval o X.env
      standAt apos.atName
      let (f, first) ← holding [ov] (getMethod ov mn pl)
      callWith pos f first (backTo pos (starEach (e :: es) X.env)) (backToKw pos (keywordEach [] X.env))) := by rfl) : RE X W (.Call (.Attribute o mn apos) (e :: es) [] pos) (methM c mn np m fo g) := by
  obtain ⟨Cd, f, fd, ps, hm, hc, hmt, hb, ok⟩ := F.ex
  exact pe_imp (pe_methS ho hc hmt ok hr hb (passAt tk) ha hst hpl ht) fun σ H Q t => t_meth (f := f) hm hj t
theorem re_methP {pl : Sem Bool} (F : MtAt X.prog X.w X.K X.mg X.base k c mn np m) (hr : Room k X.A) (tk : Takes X W.w) (ho : RE X W o fo) (ha : RA X W (e :: es) g)
    (hst : starEach (e :: es) X.env = (false, eval e X.env) :: starEach es X.env := by rfl) (hpl : (backTo pos (starEach es X.env)).any (·.1) = false := by rfl)
    (ht : eval (.Call (.Attribute o mn apos) (e :: es) [] pos) X.env = (do
      let ov ← eval o X.env
      standAt apos.atName
      let (f, first) ← holding [ov] (getMethod ov mn pl)
      callWith pos f first (backTo pos (starEach (e :: es) X.env)) (backToKw pos (keywordEach [] X.env))) := by rfl) : RE X W (.Call (.Attribute o mn apos) (e :: es) [] pos) (methP c mn np m fo g) := by
  obtain ⟨Cd, f, fd, ps, hm, hc, hmt, hb, ok⟩ := F.ex
  exact pe_imp (pe_methS ho hc hmt ok hr hb (passAt tk) ha hst hpl ht) fun σ H Q t => t_methP hm t
theorem t_nil {C : Ct} {σ : L2.St} {H : Hp} {Q : List V → Hp → Prop} (t : tA C W mnil σ H Q) : tNil σ H Q := by
  obtain ⟨B, r, h, δ, w, s, q⟩ := t
  exact EQ.ret w q .nil
theorem tG.imp {C : Ct} {α β : Type} {Rel : Bd → Rho → Hp → α → β → Prop} {f : M α} {σ : L2.St} {H : Hp} {Q Q' : β → Hp → Prop} (t : tG C W Rel f σ H Q) (i : ∀ b H, Q b H → Q' b H) : tG C W Rel f σ H Q' := by
  obtain ⟨B, r, h, δ, w, s, q⟩ := t
  refine ⟨B, r, h, δ, w, s, ?_⟩
  cases hx : f δ h with
  | none => rw [hx] at q; exact q
  | some o =>
    rw [hx] at q
    cases o with
    | ok a h' => exact fun B' r' H' v a b c => i _ _ (q B' r' H' v a b c)
    | exc e h' => exact q
theorem re_methM0 {pl : Sem Bool} (F : MtAt X.prog X.w X.K X.mg X.base k c mn np m) (hr : Room k X.A) (tk : Takes X W.w) (ho : RE X W o fo) (hj : W.j = j0 := by rfl)
    (ht : eval (.Call (.Attribute o mn apos) [] [] pos) X.env = (do
      let ov ← eval o X.env
      standAt apos.atName
      let (f, first) ← holding [ov] (getMethod ov mn pl)
      callWith pos f first (backTo pos (starEach [] X.env)) (backToKw pos (keywordEach [] X.env))) := by rfl) : RE X W (.Call (.Attribute o mn apos) [] [] pos) (methM c mn np m fo mnil) := by
  obtain ⟨Cd, f, fd, ps, hm, hc, hmt, hb, ok⟩ := F.ex
  refine pe_imp (pe_methS0 ho hc hmt ok hr hb (passAt tk) ht) fun σ H Q t => ?_
  exact tG.imp (t_meth (f := f) hm hj t) fun x H1 ⟨a, dx, fs, h1, h2, h3, h4⟩ => ⟨a, dx, fs, h1, h2, h3, t_nil h4⟩
theorem re_methP0 {pl : Sem Bool} (F : MtAt X.prog X.w X.K X.mg X.base k c mn np m) (hr : Room k X.A) (tk : Takes X W.w) (ho : RE X W o fo)
    (ht : eval (.Call (.Attribute o mn apos) [] [] pos) X.env = (do
      let ov ← eval o X.env
      standAt apos.atName
      let (f, first) ← holding [ov] (getMethod ov mn pl)
      callWith pos f first (backTo pos (starEach [] X.env)) (backToKw pos (keywordEach [] X.env))) := by rfl) : RE X W (.Call (.Attribute o mn apos) [] [] pos) (methP c mn np m fo mnil) := by
  obtain ⟨Cd, f, fd, ps, hm, hc, hmt, hb, ok⟩ := F.ex
  refine pe_imp (pe_methS0 ho hc hmt ok hr hb (passAt tk) ht) fun σ H Q t => ?_
  exact tG.imp (t_methP hm t) fun x H1 ⟨a, dx, fs, h1, h2, h3, h4⟩ => ⟨a, dx, fs, h1, h2, h3, t_nil h4⟩
end
def seqL : U → Option (List U)
  | .d (.lst ds) => some (ds.map .d)
  | _ => none
def seqT : U → Option (List U)
  | .d (.tup ds) => some (ds.map .d)
  | _ => none
def itE (s : U → Option (List U)) (f : M U) : M (List U) := mbnd f fun u _ h => match s u with
  | some xs => some (.ok xs h)
  | none => none
section
variable {C : Ct} {B : Bd} {r : Rho} {H : Hp} {h : Hea}
theorem RDs.at_ {C0 : Ct0} : ∀ {ds : List D} {vs : List V} (i : Nat) {v}, RDs C0 B H ds vs → vs[i]? = some v → ∃ d, ds[i]? = some d ∧ RD C0 B H d v
  | _, _, _, _, .nil, h => by simp at h
  | _, _, 0, _, .cons a b, h => by
    cases h
    exact ⟨_, rfl, a⟩
  | _, _, i + 1, _, .cons a b, h => by
    obtain ⟨d, h1, h2⟩ := RDs.at_ i b h
    exact ⟨d, by simpa using h1, h2⟩
theorem seqL_ok {u : U} {v : V} {xs : List U} (ru : RU C B r H u v) (e : seqL u = some xs) : ∃ a vs ds, v = .ref a ∧ Fr B H a vs ∧ RDs C.toCt0 B H ds vs ∧ xs = ds.map .d := by
  cases ru with
  | d rd =>
    cases rd with
    | lst hs q =>
      cases e
      exact ⟨_, _, _, rfl, hs, q, rfl⟩
    | _ => cases e
  | _ => cases e
theorem seqT_ok {u : U} {v : V} {xs : List U} (ru : RU C B r H u v) (e : seqT u = some xs) : ∃ a vs ds, v = .ref a ∧ SqT C.K H a vs ∧ RDs C.toCt0 B H ds vs ∧ xs = ds.map .d := by
  cases ru with
  | d rd =>
    cases rd with
    | tup hs q =>
      cases e
      exact ⟨_, _, _, rfl, hs, q, rfl⟩
    | _ => cases e
  | _ => cases e
theorem ylds_list {a : Addr} {vs : List V} {ds : List D} (w : Wd C B r H h) (hs : Fr B H a vs) (q : RDs C.toCt0 B H ds vs) : Ylds C B r H (ds.map .d) (Itl C.K a) := fun B1 r1 H1 h1 i e w1 => by
  have hs1 : SqL C.K H1 _ _ := (e.fr w.own hs).seq
  have q1 := q.ext e w.toOwn
  have hl : (ds.map U.d).length = vs.length := by rw [List.length_map, q.length]
  refine ⟨fun hi => ?_, fun hi => ⟨vs, hs1, by omega⟩⟩
  have hv : vs[i]? = some vs[i] := List.getElem?_eq_getElem (by omega)
  refine ⟨⟨vs, _, hs1, hv⟩, fun x H2 ⟨eH, y⟩ => ?_⟩
  subst eH
  obtain ⟨d, h1, h2⟩ := q1.at_ i (y vs hs1)
  exact ⟨B1, w1.toOwn.gr, .d d, by rw [List.getElem?_map, h1]; rfl, .d h2⟩
theorem ylds_tup {a : Addr} {vs : List V} {ds : List D} (w : Wd C B r H h) (hs : SqT C.K H a vs) (q : RDs C.toCt0 B H ds vs) : Ylds C B r H (ds.map .d) (Itt C.K a) := fun B1 r1 H1 h1 i e w1 => by
  have hs1 := e.sqT w.lvt hs
  have q1 := q.ext e w.toOwn
  have hl : (ds.map U.d).length = vs.length := by rw [List.length_map, q.length]
  refine ⟨fun hi => ?_, fun hi => ⟨vs, hs1, by omega⟩⟩
  have hv : vs[i]? = some vs[i] := List.getElem?_eq_getElem (by omega)
  refine ⟨⟨vs, _, hs1, hv⟩, fun x H2 ⟨eH, y⟩ => ?_⟩
  subst eH
  obtain ⟨d, h1, h2⟩ := q1.at_ i (y vs hs1)
  exact ⟨B1, w1.toOwn.gr, .d d, by rw [List.getElem?_map, h1]; rfl, .d h2⟩
/-- a new pair -/
theorem pair_new {B1 : Bd} {r1 : Rho} {H1 : Hp} {h1 : Hea} (w1 : Wd C B1 r1 H1 h1) {T : Addr} (hT : H1 T = none) {x y : V} {d e : D} (rx : RD C.toCt0 B1 H1 d x) (ry : RD C.toCt0 B1 H1 e y) :
    Gr B1 H1 B1 (upd H1 T (.tup [x, y])) ∧ RU C B1 r1 (upd H1 T (.tup [x, y])) (.d (.tup [d, e])) (.ref T) := by
  have g := w1.toOwn.new hT (.tup [x, y])
  exact ⟨g, .d (.tup (SqT.of upd_same) (.cons (rx.ext (g.ext (r := r1)) w1.toOwn) (.cons (ry.ext (g.ext (r := r1)) w1.toOwn) .nil)))⟩
def enumD : Nat → List D → List U
  | _, [] => []
  | i, d :: ds => .d (.tup [.int i, d]) :: enumD (i + 1) ds
theorem enumD_len : ∀ (i : Nat) (ds : List D), (enumD i ds).length = ds.length
  | _, [] => rfl
  | i, _ :: ds => congrArg (· + 1) (enumD_len (i + 1) ds)
theorem enumD_at : ∀ (i j : Nat) (ds : List D) {d : D}, ds[j]? = some d → (enumD i ds)[j]? = some (.d (.tup [.int ((i + j : Nat) : Int), d]))
  | _, _, [], _, h => by simp at h
  | i, 0, _ :: ds, d, h => by
    cases h
    rfl
  | i, j + 1, x :: ds, d, h => by
    have q := enumD_at (i + 1) j ds (d := d) (by simpa using h)
    have e : i + 1 + j = i + (j + 1) := by omega
    rw [e] at q
    simpa [enumD] using q
theorem ylds_enum {a : Addr} {vs : List V} {ds : List D} (w : Wd C B r H h) (hs : Fr B H a vs) (q : RDs C.toCt0 B H ds vs) : Ylds C B r H (enumD 0 ds) (Ite C.K a) := fun B1 r1 H1 h1 i e w1 => by
  have hs1 : SqL C.K H1 _ _ := (e.fr w.own hs).seq
  have q1 := q.ext e w.toOwn
  have hl : (enumD 0 ds).length = vs.length := by rw [enumD_len, q.length]
  refine ⟨fun hi => ?_, fun hi => ⟨vs, hs1, by omega⟩⟩
  have hv : vs[i]? = some vs[i] := List.getElem?_eq_getElem (by omega)
  refine ⟨⟨vs, _, hs1, hv⟩, fun x H2 ⟨T, x', ex, hT, eH, y⟩ => ?_⟩
  subst eH ex
  obtain ⟨d, h1, h2⟩ := q1.at_ i (y vs hs1)
  obtain ⟨g, ru⟩ := pair_new w1 hT (.int (i : Nat)) h2
  have z := enumD_at 0 i ds h1
  rw [Nat.zero_add] at z
  exact ⟨B1, g, _, z, ru⟩
def zipD : List D → List D → List U
  | d :: ds, e :: es => .d (.tup [d, e]) :: zipD ds es
  | _, _ => []
theorem zipD_len : ∀ (ds es : List D), (zipD ds es).length = min ds.length es.length
  | [], es => by simp [zipD]
  | _ :: _, [] => by simp [zipD]
  | _ :: ds, _ :: es => by
    show (zipD ds es).length + 1 = min (ds.length + 1) (es.length + 1)
    rw [zipD_len ds es]
    omega
theorem zipD_at : ∀ (j : Nat) (ds es : List D) {d e : D}, ds[j]? = some d → es[j]? = some e → (zipD ds es)[j]? = some (.d (.tup [d, e]))
  | _, [], _, _, _, h, _ => by simp at h
  | _, _ :: _, [], _, _, _, h => by simp at h
  | 0, _ :: _, _ :: _, _, _, h, k => by
    cases h
    cases k
    rfl
  | j + 1, _ :: ds, _ :: es, d, e, h, k => by
    have q := zipD_at j ds es (d := d) (e := e) (by simpa using h) (by simpa using k)
    simpa [zipD] using q
theorem ylds_zip {a b : Addr} {vs us : List V} {ds es : List D} (w : Wd C B r H h) (hs : Fr B H a vs) (q : RDs C.toCt0 B H ds vs) (hs' : Fr B H b us) (q' : RDs C.toCt0 B H es us) : Ylds C B r H (zipD ds es) (Itz C.K a b) := fun B1 r1 H1 h1 i e w1 => by
  have hs1 : SqL C.K H1 _ _ := (e.fr w.own hs).seq
  have q1 := q.ext e w.toOwn
  have hs2 : SqL C.K H1 _ _ := (e.fr w.own hs').seq
  have q2 := q'.ext e w.toOwn
  have hl : (zipD ds es).length = min vs.length us.length := by rw [zipD_len, q.length, q'.length]
  refine ⟨fun hi => ?_, fun hi => ⟨vs, us, hs1, hs2, by omega⟩⟩
  have hv : vs[i]? = some vs[i] := List.getElem?_eq_getElem (by omega)
  have hu : us[i]? = some us[i] := List.getElem?_eq_getElem (by omega)
  refine ⟨⟨vs, us, _, _, hs1, hs2, hv, hu⟩, fun x H2 ⟨T, x', y', ex, hT, eH, y, z⟩ => ?_⟩
  subst eH ex
  obtain ⟨d, h1, h2⟩ := q1.at_ i (y vs hs1)
  obtain ⟨d', h3, h4⟩ := q2.at_ i (z us hs2)
  obtain ⟨g, ru⟩ := pair_new w1 hT h2 h4
  exact ⟨B1, g, _, zipD_at i ds es h1 h3, ru⟩
theorem ylds_zipT {a b : Addr} {vs us : List V} {ds es : List D} (w : Wd C B r H h) (hs : SqT C.K H a vs) (q : RDs C.toCt0 B H ds vs) (hs' : SqT C.K H b us) (q' : RDs C.toCt0 B H es us) : Ylds C B r H (zipD ds es) (RZ.ItzT C.K a b) := fun B1 r1 H1 h1 i e w1 => by
  have hs1 := e.sqT w.lvt hs
  have q1 := q.ext e w.toOwn
  have hs2 := e.sqT w.lvt hs'
  have q2 := q'.ext e w.toOwn
  have hl : (zipD ds es).length = min vs.length us.length := by rw [zipD_len, q.length, q'.length]
  refine ⟨fun hi => ?_, fun hi => ⟨vs, us, hs1, hs2, by omega⟩⟩
  have hv : vs[i]? = some vs[i] := List.getElem?_eq_getElem (by omega)
  have hu : us[i]? = some us[i] := List.getElem?_eq_getElem (by omega)
  refine ⟨⟨vs, us, _, _, hs1, hs2, hv, hu⟩, fun x H2 ⟨T, x', y', ex, hT, eH, y, z⟩ => ?_⟩
  subst eH ex
  obtain ⟨d, h1, h2⟩ := q1.at_ i (y vs hs1)
  obtain ⟨d', h3, h4⟩ := q2.at_ i (z us hs2)
  obtain ⟨g, ru⟩ := pair_new w1 hT h2 h4
  exact ⟨B1, g, _, zipD_at i ds es h1 h3, ru⟩
def rngD (lo : Int) : Nat → List U
  | 0 => []
  | n + 1 => .d (.int lo) :: rngD (lo + 1) n
theorem rngD_len : ∀ (n : Nat) (lo : Int), (rngD lo n).length = n
  | 0, _ => rfl
  | n + 1, lo => congrArg (· + 1) (rngD_len n (lo + 1))
theorem rngD_at : ∀ (n : Nat) (lo : Int) (i : Nat), i < n → (rngD lo n)[i]? = some (.d (.int (lo + i)))
  | 0, _, _, h => absurd h (Nat.not_lt_zero _)
  | n + 1, lo, 0, _ => by simp [rngD]
  | n + 1, lo, i + 1, h => by
    have q := rngD_at n (lo + 1) i (by omega)
    have e : lo + 1 + (i : Int) = lo + ((i + 1 : Nat) : Int) := by omega
    rw [e] at q
    simpa [rngD] using q
theorem ylds_rng {lo : Int} {n : Nat} : Ylds C B r H (rngD lo n) (Itr lo n) := fun B1 r1 H1 h1 i e w1 => by
  refine ⟨fun hi => ?_, fun hi => by rw [rngD_len] at hi; exact hi⟩
  rw [rngD_len] at hi
  refine ⟨hi, fun x H2 ⟨eH, ex⟩ => ?_⟩
  subst eH ex
  exact ⟨B1, w1.toOwn.gr, _, rngD_at n lo i hi, .d (.int _)⟩
def strD (x : Str) : List U := x.cps.toList.map fun c => .d (.str ⟨#[c]⟩)
theorem ylds_str {x : Str} : Ylds C B r H (strD x) (Its x) := fun B1 r1 H1 h1 i e w1 => by
  have hl : (strD x).length = x.cps.size := by simp [strD]
  refine ⟨fun hi => ?_, fun hi => by rw [hl] at hi; exact hi⟩
  rw [hl] at hi
  refine ⟨hi, fun y H2 ⟨eH, c, hc, ey⟩ => ?_⟩
  subst eH ey
  refine ⟨B1, w1.toOwn.gr, .d (.str ⟨#[c]⟩), ?_, .d (.str _)⟩
  unfold strD
  rw [List.getElem?_map, Array.getElem?_toList, hc]
  rfl
end
def itStr : U → Option (List U)
  | .d (.str x) => some (strD x)
  | _ => none
def enumL : U → Option (List U)
  | .d (.lst ds) => some (enumD 0 ds)
  | _ => none
def it1 (s : U → Option (List U)) (g : M (List U)) : M (List U) := mbnd g fun us _ h => match us with
  | [u] => (match s u with
    | some xs => some (.ok xs h)
    | none => none)
  | _ => none
def zipL : List U → Option (List U)
  | [.d (.lst ds), .d (.lst es)] => some (zipD ds es)
  | [.d (.tup ds), .d (.tup es)] => some (zipD ds es)
  | _ => none
def itN (s : List U → Option (List U)) (g : M (List U)) : M (List U) := mbnd g fun us _ h => match s us with
  | some xs => some (.ok xs h)
  | none => none
def rng62 (i : Int) : Bool := decide (-4611686018427387904 ≤ i ∧ i < 4611686018427387904)
theorem rng62_ok {i : Int} (h : rng62 i = true) : -(2 ^ 62) ≤ i ∧ i < 2 ^ 62 := of_decide_eq_true h
def rngL1 : List U → Option (List U)
  | [.d (.int j)] => if rng62 j = true then some (rngD 0 j.toNat) else none
  | _ => none
def rngL2 : List U → Option (List U)
  | [.d (.int i), .d (.int j)] => if (rng62 i && rng62 j) = true then some (rngD i (j - i).toNat) else none
  | _ => none
theorem zipL_ok {us xs : List U} (h : zipL us = some xs) : (∃ ds es, us = [.d (.lst ds), .d (.lst es)] ∧ xs = zipD ds es) ∨ ∃ ds es, us = [.d (.tup ds), .d (.tup es)] ∧ xs = zipD ds es := by
  unfold zipL at h
  split at h
  · cases h
    exact .inl ⟨_, _, rfl, rfl⟩
  · cases h
    exact .inr ⟨_, _, rfl, rfl⟩
  · cases h
theorem rngL1_ok {us xs : List U} (h : rngL1 us = some xs) : ∃ j, us = [.d (.int j)] ∧ rng62 j = true ∧ xs = rngD 0 j.toNat := by
  unfold rngL1 at h
  split at h
  · split at h
    · rename_i hj
      cases h
      exact ⟨_, rfl, hj, rfl⟩
    · cases h
  · cases h
theorem rngL2_ok {us xs : List U} (h : rngL2 us = some xs) : ∃ i j, us = [.d (.int i), .d (.int j)] ∧ rng62 i = true ∧ rng62 j = true ∧ xs = rngD i (j - i).toNat := by
  unfold rngL2 at h
  split at h
  · split at h
    · rename_i hj
      cases h
      rw [Bool.and_eq_true] at hj
      exact ⟨_, _, rfl, hj.1, hj.2, rfl⟩
    · cases h
  · cases h
theorem RUs.one {C : Ct} {B : Bd} {r : Rho} {H : Hp} {u : U} {vs : List V} (h : RUs C B r H [u] vs) : ∃ v, vs = [v] ∧ RU C B r H u v := by
  cases h with
  | cons a b =>
    cases b
    exact ⟨_, rfl, a⟩
theorem RUs.two {C : Ct} {B : Bd} {r : Rho} {H : Hp} {u1 u2 : U} {vs : List V} (h : RUs C B r H [u1, u2] vs) : ∃ v1 v2, vs = [v1, v2] ∧ RU C B r H u1 v1 ∧ RU C B r H u2 v2 := by
  cases h with
  | cons a b =>
    obtain ⟨v, rfl, q⟩ := b.one
    exact ⟨_, _, rfl, a, q⟩
section
variable {X : Cx} {W : Wj} {tg e e2 : Expr} {p pos tpos : Pos} {elts : List Expr} {kk : Nat} {f : M U} {g : M (List U)}
theorem ri_list (he : RE X W e f) : RI1 X W tg e (itE seqL f) :=
  pi_imp (pi_list he) fun σ H R t => tG.bnd t fun u B r H1 h δ v w s ru q => by
    try dsimp only at q
    cases hx : seqL u with
    | none => rw [hx] at q; exact q.elim
    | some xs =>
      rw [hx] at q
      obtain ⟨a, vs, ds, e1, h1, h2, e2⟩ := seqL_ok ru hx
      subst e2
      exact ⟨a, e1, ⟨vs, h1.seq⟩, EQ.ret w q (ylds_list w h1 h2)⟩
theorem ri_tup (he : RE X W e f) : RI1 X W tg e (itE seqT f) :=
  pi_imp (pi_tup he) fun σ H R t => tG.bnd t fun u B r H1 h δ v w s ru q => by
    try dsimp only at q
    cases hx : seqT u with
    | none => rw [hx] at q; exact q.elim
    | some xs =>
      rw [hx] at q
      obtain ⟨a, vs, ds, e1, h1, h2, e2⟩ := seqT_ok ru hx
      subst e2
      exact ⟨a, e1, ⟨vs, h1⟩, EQ.ret w q (ylds_tup w h1 h2)⟩
theorem ri_str (he : RE X W e f) : RI1 X W tg e (itE itStr f) :=
  pi_imp (pi_str he) fun σ H R t => tG.bnd t fun u B r H1 h δ v w s ru q => by
    try dsimp only at q
    cases ru with
    | d rd =>
      cases rd with
      | str x => exact ⟨x, rfl, EQ.ret w q ylds_str⟩
      | _ => exact q.elim
    | _ => exact q.elim
theorem ri_enum (hm : X.mg "enumerate" = none) (ha : RA X W [e] g) (hg : Gl X "enumerate" := by rfl) (hs : starEach [e] X.env = [(false, eval e X.env)] := by rfl) :
    RI1 X W (.Tuple elts kk tpos) (.Call (.Name "enumerate" p) [e] [] pos) (it1 enumL g) :=
  pi_imp (pi_enum hg hm ha hs) fun σ H R t => tG.bnd t fun us B r H1 h δ vs w s ru q => by
    try dsimp only at q
    cases ru with
    | nil => exact q.elim
    | cons r1 rr =>
      cases rr with
      | cons _ _ => exact q.elim
      | nil =>
        cases r1 with
        | d rd =>
          cases rd with
          | lst hs q1 => exact ⟨_, _, rfl, hs.seq, EQ.ret w q (ylds_enum w hs q1)⟩
          | _ => exact q.elim
        | _ => exact q.elim
theorem ri_zip (hm : X.mg "zip" = none) (ha : RA X W [e, e2] g) (hg : Gl X "zip" := by rfl)
    (hs : starEach [e, e2] X.env = (false, eval e X.env) :: starEach [e2] X.env := by rfl) (hpl : (backTo pos (starEach [e2] X.env)).any (·.1) = false := by rfl) :
    RI1 X W (.Tuple elts kk tpos) (.Call (.Name "zip" p) [e, e2] [] pos) (itN zipL g) :=
  pi_imp (RZ.pi_zipA hg hm ha hs hpl) fun σ H R t => tG.bnd t fun us B r H1 h δ vs w s ru q => by
    try dsimp only at q
    cases hx : zipL us with
    | none => rw [hx] at q; exact q.elim
    | some xs =>
      rw [hx] at q
      rcases zipL_ok hx with ⟨ds, es, rfl, rfl⟩ | ⟨ds, es, rfl, rfl⟩
      · obtain ⟨v1, v2, rfl, r1, r2⟩ := ru.two
        cases r1 with
        | d rd => cases r2 with
          | d rd2 => cases rd with
            | lst hs q1 => cases rd2 with
              | lst hs2 q2 => exact ⟨_, _, _, _, rfl, .inl ⟨hs.seq, hs2.seq, EQ.ret w q (ylds_zip w hs q1 hs2 q2)⟩⟩
      · obtain ⟨v1, v2, rfl, r1, r2⟩ := ru.two
        cases r1 with
        | d rd => cases r2 with
          | d rd2 => cases rd with
            | tup hs q1 => cases rd2 with
              | tup hs2 q2 => exact ⟨_, _, _, _, rfl, .inr ⟨hs, hs2, EQ.ret w q (ylds_zipT w hs q1 hs2 q2)⟩⟩
theorem ri_rng1 (hm : X.mg "range" = none) (ha : RA X W [e] g) (hg : Gl X "range" := by rfl) (hs : starEach [e] X.env = [(false, eval e X.env)] := by rfl) : RI1 X W tg (.Call (.Name "range" p) [e] [] pos) (itN rngL1 g) :=
  pi_imp (pi_range1 hg hm ha hs) fun σ H R t => tG.bnd t fun us B r H1 h δ vs w s ru q => by
    try dsimp only at q
    cases hx : rngL1 us with
    | none => rw [hx] at q; exact q.elim
    | some xs =>
      rw [hx] at q
      obtain ⟨j, rfl, hj, rfl⟩ := rngL1_ok hx
      obtain ⟨v, rfl, r1⟩ := ru.one
      cases r1 with
      | d rd =>
        cases rd
        exact ⟨j, rfl, (rng62_ok hj).1, (rng62_ok hj).2, EQ.ret w q ylds_rng⟩
theorem ri_rng2 (hm : X.mg "range" = none) (ha : RA X W [e, e2] g) (hg : Gl X "range" := by rfl) (hs : starEach [e, e2] X.env = [(false, eval e X.env), (false, eval e2 X.env)] := by rfl) (hs2 : starEach [e2] X.env = [(false, eval e2 X.env)] := by rfl) :
    RI1 X W tg (.Call (.Name "range" p) [e, e2] [] pos) (itN rngL2 g) :=
  pi_imp (pi_range2 hg hm ha hs hs2) fun σ H R t => tG.bnd t fun us B r H1 h δ vs w s ru q => by
    try dsimp only at q
    cases hx : rngL2 us with
    | none => rw [hx] at q; exact q.elim
    | some xs =>
      rw [hx] at q
      obtain ⟨i, j, rfl, hi, hj, rfl⟩ := rngL2_ok hx
      obtain ⟨v1, v2, rfl, r1, r2⟩ := ru.two
      cases r1 with
      | d rd => cases r2 with
        | d rd2 =>
          cases rd
          cases rd2
          exact ⟨i, j, rfl, ⟨(rng62_ok hi).1, (rng62_ok hi).2, (rng62_ok hj).1, (rng62_ok hj).2⟩, EQ.ret w q ylds_rng⟩
end
def sfz (i : Nat) (s : S) : S := fun δ h => match δ[i]? with
  | some (some (.loc n)) => (match h[n]? with
    | some o => (match o.view with
      | some d => s (δ.set i (some (.d d))) (h.set n .gone)
      | none => none)
    | none => none)
  | _ => s δ h
theorem rs_fz {X : Cx} {W : Wj} {st : Stmt} {s : S} (i : Nat) (hs : RS X W st s) : RS X W st (sfz i s) :=
  ps_imp hs fun D σ H ⟨B, r, h, δ, w, sl, q⟩ => by
    unfold sfz at q
    split at q
    · rename_i n hn
      obtain ⟨v, hv, ru⟩ := sl.at_ i _ hn
      split at q
      · rename_i o ho
        split at q
        · rename_i d hd
          cases ru with
          | @loc n a hr =>
            obtain ⟨o', ho', ro⟩ := w.obj n a hr
            rw [ho] at ho'
            cases ho'
            obtain ⟨ex, w'⟩ := w.frz hr
            have rd := ro.rd w (B' := fun b => B b ∧ b ≠ a) (fun z => z.2 rfl) ex rfl hd
            refine ⟨_, _, _, _, w', ⟨?_, fun j u hj => ?_, sl.xi⟩, q.shift w.toOwn ex⟩
            · rw [List.length_set]
              exact sl.len
            · by_cases hij : i = j
              · subst hij
                have hl : i < δ.length := (List.getElem?_eq_some_iff.mp hn).1
                rw [List.getElem?_set_self hl] at hj
                cases hj
                exact ⟨_, hv, .d rd⟩
              · rw [List.getElem?_set_ne hij] at hj
                obtain ⟨v', h1, h2⟩ := sl.at_ j u hj
                exact ⟨v', h1, h2.ext ex w.toOwn⟩
          | @gone n v hr =>
            rw [w.gon n hr] at ho
            cases ho
            cases hd
        · exact q.elim
      · exact q.elim
    · exact ⟨B, r, h, δ, w, sl, q⟩
/- what reads as u in one state reads so in another one, if data and tuples do -/
mutual
theorem RU.map {C : Ct0} {B B' : Bd} {r : Rho} {H H' : Hp} (f : ∀ d v, RD C B H d v → RD C B' H' d v) (g : ∀ a vs, SqT C.K H a vs → SqT C.K H' a vs) : ∀ {u : U} {v : V}, RU C B r H u v → RU C B' r H' u v
  | _, _, .d h => .d (f _ _ h)
  | _, _, .loc h => .loc h
  | _, _, .gone h => .gone h
  | _, _, .tup h q => .tup (g _ _ h) (RUs.map f g q)
theorem RUs.map {C : Ct0} {B B' : Bd} {r : Rho} {H H' : Hp} (f : ∀ d v, RD C B H d v → RD C B' H' d v) (g : ∀ a vs, SqT C.K H a vs → SqT C.K H' a vs) : ∀ {u : List U} {v : List V}, RUs C B r H u v → RUs C B' r H' u v
  | _, _, .nil => .nil
  | _, _, .cons a b => .cons (RU.map f g a) (RUs.map f g b)
end
theorem RUk.map {C : Ct0} {B B' : Bd} {r : Rho} {H H' : Hp} (f : ∀ d v, RD C B H d v → RD C B' H' d v) (g : ∀ a vs, SqT C.K H a vs → SqT C.K H' a vs) : ∀ {u : List (D × U)} {v : List (Key × V)}, RUk C B r H u v → RUk C B' r H' u v
  | _, _, .nil => .nil
  | _, _, .cons k a b => .cons k (RU.map f g a) (RUk.map f g b)
theorem RUf.map {C : Ct0} {B B' : Bd} {r : Rho} {H H' : Hp} (f : ∀ d v, RD C B H d v → RD C B' H' d v) (g : ∀ a vs, SqT C.K H a vs → SqT C.K H' a vs) : ∀ {u : List (Str × U)} {v : List (Str × V)}, RUf C B r H u v → RUf C B' r H' u v
  | _, _, .nil => .nil
  | _, _, .cons a b => .cons (RU.map f g a) (RUf.map f g b)
theorem RO.map {C : Ct0} {B B' : Bd} {r : Rho} {H H' : Hp} (f : ∀ d v, RD C B H d v → RD C B' H' d v) (g : ∀ a vs, SqT C.K H a vs → SqT C.K H' a vs) {a : Addr} (hk : H' a = H a) : ∀ {o : O}, RO C B r H a o → RO C B' r H' a o
  | .lst us, ⟨vs, h, q⟩ => ⟨vs, hk.trans h, q.map f g⟩
  | .dct us, ⟨vs, h, q⟩ => ⟨vs, hk.trans h, q.map f g⟩
  | .ins c us, ⟨Cd, dx, vs, m, h, q⟩ => ⟨Cd, dx, vs, m, hk.trans h, q.map f g⟩
  | .gone, h => h.elim
section
variable {C : Ct} {B : Bd} {r : Rho} {H : Hp} {h : Hea} {Dd : Addr}
theorem lv_app {a : Addr} (l : Lv (r ++ [some Dd]) a) : Lv r a ∨ a = Dd := by
  obtain ⟨n, hn⟩ := l
  by_cases hl : n < r.length
  · rw [List.getElem?_append_left hl] at hn
    exact .inl ⟨n, hn⟩
  · rw [List.getElem?_append_right (Nat.le_of_not_lt hl), List.getElem?_singleton] at hn
    split at hn
    · exact .inr (Option.some.inj (Option.some.inj hn)).symm
    · cases hn
theorem lv_last : Lv (r ++ [some Dd]) Dd := ⟨r.length, by simp⟩
theorem lv_old {a : Addr} (l : Lv r a) : Lv (r ++ [some Dd]) a := by
  obtain ⟨n, hn⟩ := l
  exact ⟨n, by rw [List.getElem?_append_left (List.getElem?_eq_some_iff.mp hn).1]; exact hn⟩
theorem Own.plus (w : Own B r H) (hD : B Dd) : Own B (r ++ [some Dd]) H :=
  ⟨fun a l => (lv_app l).elim (w.own a) fun e => e ▸ hD, w.notup, w.dom⟩
/-- a thing that is ours alone changes: nothing that is read at plain data knows of it -/
theorem Ext.own_put (w : Own B r H) (hD : B Dd) (x : HO) : Ext B (r ++ [some Dd]) H B (r ++ [some Dd]) (upd H Dd x) where
  rho := fun _ _ z => .inl z
  rnew := fun n a h1 h2 => by
    rw [List.getElem?_eq_none_iff.mpr h1] at h2
    cases h2
  keep := fun a o nl z => by
    rw [upd_ne (fun e => nl (by rw [e]; exact lv_last))]
    exact z
  bnew := fun _ z => .inl z
  bold := fun _ z _ => z
  there := fun a o z => by
    by_cases e : a = Dd
    · subst e
      exact ⟨x, upd_same⟩
    · exact ⟨o, by rw [upd_ne e]; exact z⟩
  dom := fun a z => by
    obtain ⟨o, ho⟩ := w.dom a z
    by_cases e : a = Dd
    · subst e
      exact ⟨x, upd_same⟩
    · exact ⟨o, by rw [upd_ne e]; exact ho⟩
theorem Wd.own_put (w : Wd C B r H h) (hD : B Dd) (nl : ¬ Lv r Dd) (xs : List V) :
    Wd C B r (upd H Dd (.lst xs)) h ∧ (∀ d v, RD C.toCt0 B H d v → RD C.toCt0 B (upd H Dd (.lst xs)) d v) ∧ (∀ a vs, SqT C.K H a vs → SqT C.K (upd H Dd (.lst xs)) a vs) := by
  have e := Ext.own_put w.toOwn hD (.lst xs)
  have wp := w.toOwn.plus hD
  have f : ∀ d v, RD C.toCt0 B H d v → RD C.toCt0 B (upd H Dd (.lst xs)) d v := fun d v q => q.ext e wp
  have g : ∀ a vs, SqT C.K H a vs → SqT C.K (upd H Dd (.lst xs)) a vs := fun a vs q => e.sqT wp.lvt q
  refine ⟨{ own := w.own, notup := fun a z vs q => ?_, dom := e.dom, len := w.len, obj := fun n a z => ?_, gon := w.gon, inj := w.inj, jx := C.j.st _ _ _ _ _ _ _ wp e w.jx }, f, g⟩
  · by_cases ea : a = Dd
    · subst ea
      exact notup_lst vs q
    · obtain ⟨o, ho⟩ := w.dom a z
      exact w.notup a z vs (rd_back ho (fun o' h' => by rw [upd_ne ea]; exact h') q)
  · obtain ⟨o, ho, ro⟩ := w.obj n a z
    exact ⟨o, ho, ro.map f g (upd_ne fun e => nl (e ▸ ⟨n, z⟩))⟩
/-- it is plain data from now on -/
theorem Ext.own_drop (w : Own B r H) (hD : B Dd) : Ext B (r ++ [some Dd]) H (fun b => B b ∧ b ≠ Dd) (r ++ [some Dd]) H where
  rho := fun _ _ z => .inl z
  rnew := fun n a h1 h2 => by
    rw [List.getElem?_eq_none_iff.mpr h1] at h2
    cases h2
  keep := fun _ _ _ z => z
  bnew := fun _ z => .inl z.1
  bold := fun a z nl => ⟨z, fun e => nl (by rw [e]; exact lv_last)⟩
  there := fun _ o z => ⟨o, z⟩
  dom := fun a z => w.dom a z.1
theorem Wd.own_drop (w : Wd C B r H h) (hD : B Dd) (nl : ¬ Lv r Dd) :
    Wd C (fun b => B b ∧ b ≠ Dd) r H h ∧ (∀ d v, RD C.toCt0 B H d v → RD C.toCt0 (fun b => B b ∧ b ≠ Dd) H d v) := by
  have e := Ext.own_drop w.toOwn hD
  have wp := w.toOwn.plus hD
  have f : ∀ d v, RD C.toCt0 B H d v → RD C.toCt0 (fun b => B b ∧ b ≠ Dd) H d v := fun d v q => q.ext e wp
  exact ⟨{ own := fun a l => ⟨w.own a l, fun e => nl (e ▸ l)⟩, notup := fun a z => w.notup a z.1, dom := e.dom, len := w.len, obj := fun n a z => by
            obtain ⟨o, ho, ro⟩ := w.obj n a z
            exact ⟨o, ho, ro.map f (fun _ _ q => q) rfl⟩
           gon := w.gon, inj := w.inj, jx := C.j.st _ _ _ _ _ _ _ wp e w.jx }, f⟩
end
def GQc (C : Ct) (ws : List Nat) (σ : L2.St) (B : Bd) (r : Rho) (H : Hp) (x : Option (Sl × Hea)) (Q : L2.St → Hp → Prop) : Prop :=
  match x with
  | none => False
  | some (δ', h') => ∀ B' r' H' σ', Ext B r H B' r' H' → Wd C B' r' H' h' → SlR C B' r' H' σ' δ' → wipe σ' ws = wipe σ ws → Q σ' H'
def tGc (C : Ct) (ws : List Nat) (g : G) : TG := fun v σ H Q => ∃ B r h δ u, Wd C B r H h ∧ SlR C B r H σ δ ∧ RU C B r H u v ∧ GQc C ws σ B r H (g u δ h) Q
def tGcs (C : Ct) (ws : List Nat) (g : List U → Sl → Hea → Option (Sl × Hea)) : TGs := fun vs σ H Q => ∃ B r h δ us, Wd C B r H h ∧ SlR C B r H σ δ ∧ RUs C B r H us vs ∧ GQc C ws σ B r H (g us δ h) Q
def RGc (X : Cx) (W : Wj) (ws : List Nat) (tg : Expr) (g : G) : Prop := PG X tg (tGc (ctX X W) ws g)
def RGcs (X : Cx) (W : Wj) (ws : List Nat) (tg : List Expr) (g : List U → Sl → Hea → Option (Sl × Hea)) : Prop := PGs X tg (tGcs (ctX X W) ws g)
theorem wipe_set : ∀ (ws : List Nat) (σ : L2.St) (i : Nat) (x : Option V), i ∈ ws → wipe (σ.set i x) ws = wipe σ ws
  | [], _, _, _, h => by cases h
  | w :: ws, σ, i, x, h => by
    show (wipe (σ.set i x) ws).set w none = (wipe σ ws).set w none
    by_cases hi : i ∈ ws
    · rw [wipe_set ws σ i x hi]
    · have e : i = w := by
        rcases List.mem_cons.mp h with z | z
        · exact z
        · exact absurd z hi
      subst e
      have go : ∀ (ws : List Nat) (σ : L2.St), i ∉ ws → wipe (σ.set i x) ws = (wipe σ ws).set i x := by
        intro ws
        induction ws with
        | nil => intro σ _; rfl
        | cons w ws ih =>
          intro σ hn
          show (wipe (σ.set i x) ws).set w none = ((wipe σ ws).set w none).set i x
          rw [ih σ (fun z => hn (List.mem_cons_of_mem _ z)), List.set_comm _ _ (fun e => hn (by rw [e]; exact List.mem_cons_self))]
      rw [go ws σ hi, List.set_set]
section
variable {X : Cx} {W : Wj} {pos : Pos} {ws : List Nat}
theorem rgc_name {i : Nat} {x : Str} (hN : X.N.Nodup) (hj : W.j.xi = none := by rfl) (hi : X.N[i]? = some x := by rfl) (hw : i ∈ ws := by decide) (hx : Loc X.env.scope x := by first | exact Or.inl rfl | exact Or.inr rfl) (hf : X.fn x = true ∨ X.env.scope.names.lookup x = some .local := by first | exact .inl rfl | exact .inr rfl) : RGc X W ws (.Name x pos) (gnm i) :=
  pg_imp (pg_name hN hi hx hf) fun v σ H Q ⟨B, r, h, δ, u, w, s, ru, q⟩ => q B r H _ (Ext.refl w.dom) w (s.set hj ru) (wipe_set ws σ i _ hw)
theorem rgcs_nil : RGcs X W ws [] gnil := pgs_imp pgs_nil fun vs σ H Q ⟨B, r, h, δ, us, w, s, ru, q⟩ => by
  cases ru with
  | nil => exact ⟨rfl, q B r H _ (Ext.refl w.dom) w s rfl⟩
  | cons _ _ => exact q.elim
theorem GQc.shift {C : Ct} {σ σ' : L2.St} {B B' : Bd} {r r' : Rho} {H H' : Hp} {x : Option (Sl × Hea)} {Q : L2.St → Hp → Prop} (w : Own B r H) (q : GQc C ws σ B r H x Q) (e : Ext B r H B' r' H') (hs : wipe σ' ws = wipe σ ws) : GQc C ws σ' B' r' H' x Q := by
  cases x with
  | none => exact q
  | some y => exact fun B2 r2 H2 σ2 e2 w2 s2 h2 => q B2 r2 H2 σ2 (e.tr w e2) w2 s2 (h2.trans hs)
theorem rgcs_cons {e : Expr} {es : List Expr} {g : G} {k : List U → Sl → Hea → Option (Sl × Hea)} (h1 : RGc X W ws e g) (h2 : RGcs X W ws es k)
    (hs : (assignEach (e :: es) X.env).map (·.2) = assign e X.env :: (assignEach es X.env).map (·.2) := by rfl) : RGcs X W ws (e :: es) (gcons g k) :=
  pgs_imp (pgs_cons h1 h2 hs) fun vs σ H Q ⟨B, r, h, δ, us, w, s, ru, q⟩ => by
    cases ru with
    | nil => exact q.elim
    | @cons u v us vs ra rb =>
      refine ⟨v, vs, rfl, B, r, h, δ, u, w, s, ra, ?_⟩
      change GQc (ctX X W) ws σ B r H (match g u δ h with | some (δ', h') => k us δ' h' | none => none) Q at q
      cases hg : g u δ h with
      | none => rw [hg] at q; exact q
      | some y =>
        rw [hg] at q
        exact fun B' r' H' σ' ex w' s' hs' => ⟨B', r', y.2, y.1, us, w', s', rb.ext ex w.toOwn, q.shift w.toOwn ex hs'⟩
theorem rgc_tup {es : List Expr} {k0 : Nat} {k : List U → Sl → Hea → Option (Sl × Hea)} {n : Nat} (hc : X.calm = true) (hs : RGcs X W ws es k)
    (hn : (assignEach es X.env).length = n := by rfl) (hst : (assignEach es X.env).findIdx? (·.1) = none := by rfl) : RGc X W ws (.Tuple es k0 pos) (gtup n k) :=
  pg_imp (pg_tup hc hs hn hst) fun v σ H Q ⟨B, r, h, δ, u, w, s, ru, q⟩ => by
    unfold gtup at q
    cases hu : tupU u with
    | none => rw [hu] at q; exact q.elim
    | some us =>
      simp only [hu] at q
      obtain ⟨a, vs, rfl, h1, h2⟩ := tupU_ok ru hu
      by_cases hl : us.length = n
      · rw [if_pos hl] at q
        exact ⟨a, vs, rfl, h1, h2.length.symm.trans hl, B, r, h, δ, us, w, s, h2, q⟩
      · rw [if_neg hl] at q
        exact q.elim
end
def wipeS (δ : Sl) : List Nat → Sl
  | [] => δ
  | v :: vs => (wipeS δ vs).set v none
def lcL (g : G) (tt : M Bool) (te : M U) (δ : Sl) : List U → Hea → Option (List U × Hea)
  | [], h => some ([], h)
  | x :: xs, h => match g x δ h with
    | some (δ1, h1) => (match tt δ1 h1 with
      | some (.ok true h2) => (match te δ1 h2 with
        | some (.ok y h3) => (match lcL g tt te δ xs h3 with
          | some (ys, h4) => some (y :: ys, h4)
          | none => none)
        | _ => none)
      | some (.ok false h2) => lcL g tt te δ xs h2
      | _ => none)
    | none => none
def lcM (f : M (List U)) (vs : List Nat) (g : G) (tt : M Bool) (te : M U) (mk : List U → M U) : M U := mbnd f fun xs δ h => if szOk xs.length = true then (match lcL g tt te (wipeS δ vs) xs h with
  | some (ys, h') => mk ys δ h'
  | none => none) else none
theorem SlR.wipe {C : Ct} {B : Bd} {r : Rho} {H : Hp} {σ : L2.St} {δ : Sl} (hj : C.j.xi = none) (s : SlR C B r H σ δ) : ∀ vs : List Nat, SlR C B r H (L2.wipe σ vs) (wipeS δ vs)
  | [] => s
  | v :: vs => by
    have q := SlR.wipe hj s vs
    refine ⟨by show ((wipeS δ vs).set v none).length = ((L2.wipe σ vs).set v none).length; simp [q.len], fun i u hi => ?_, fun j a z => by rw [hj] at z; cases z⟩
    change ((wipeS δ vs).set v none)[i]? = some (some u) at hi
    show ∃ x, ((L2.wipe σ vs).set v none)[i]? = some (some x) ∧ _
    by_cases hv : v = i
    · subst hv
      by_cases hl : v < (wipeS δ vs).length
      · rw [List.getElem?_set_self hl] at hi
        cases hi
      · rw [List.getElem?_eq_none_iff.mpr (by simp; omega)] at hi
        cases hi
    · rw [List.getElem?_set_ne hv] at hi ⊢
      exact q.at_ i u hi
theorem lcL_len {g : G} {tt : M Bool} {te : M U} {δ : Sl} : ∀ {xs : List U} {h h' : Hea} {ys : List U}, lcL g tt te δ xs h = some (ys, h') → ys.length ≤ xs.length
  | [], h, h', ys, e => by
    cases e
    exact Nat.le_refl _
  | x :: xs, h, h', ys, e => by
    unfold lcL at e
    split at e
    · split at e
      · split at e
        · split at e
          · rename_i e4
            cases e
            exact Nat.succ_le_succ (lcL_len e4)
          · cases e
        · cases e
      · exact Nat.le_succ_of_le (lcL_len e)
      · cases e
    · cases e
/-- how the list is handed on -/
def lstF (us : List U) : M U := fun _ h => match allD us with
  | some ds => some (.ok (.d (.lst ds)) h)
  | none => none
def lstL (us : List U) : M U := newE (.lst us)
def MkL (C : Ct) (mk : List U → M U) : Prop := ∀ {W : Wj} {σ : L2.St} {δ : Sl} {B0 : Bd} {r0 : Rho} {H0 : Hp} {B : Bd} {r : Rho} {H : Hp} {h : Hea} {us : List U} {vs : List V} {Dd : Addr} {Q : VK}, Ext B0 r0 H0 B r H → Own B0 r0 H0 → H0 Dd = none → Wd C B r H h → B Dd → ¬ Lv r Dd → H Dd = some (.lst vs) → RUs C B r H us vs →
  EQ C W σ B0 r0 H0 (mk us δ h) (RU C) Q → Q (.ref Dd) H
theorem mk_lstF {C : Ct} : MkL C lstF := by
  intro W σ δ B0 r0 H0 B r H h us vs Dd Q e w0 hn w hD nl hH ru q
  unfold lstF at q
  cases hd : allD us with
  | none => rw [hd] at q; exact q.elim
  | some ds =>
    rw [hd] at q
    obtain ⟨w', f⟩ := w.own_drop hD nl
    have rd : RDs C.toCt0 (fun b => B b ∧ b ≠ Dd) H ds vs := by
      have q0 := ru.allD hd
      have go : ∀ {ds : List D} {vs : List V}, RDs C.toCt0 B H ds vs → RDs C.toCt0 (fun b => B b ∧ b ≠ Dd) H ds vs := by
        intro ds
        induction ds with
        | nil => intro vs h; cases h; exact .nil
        | cons x xs ih =>
          intro vs h
          cases h with
          | cons a b => exact .cons (f _ _ a) (ih b)
      exact go q0
    refine q (fun b => B b ∧ b ≠ Dd) r H (.ref Dd) { rho := e.rho, rnew := e.rnew, keep := e.keep, bnew := fun a z => e.bnew a z.1, bold := fun a z nl' => ⟨e.bold a z nl', fun ea => ?_⟩, there := e.there, dom := w'.dom } w' (.d (.lst ⟨fun z => z.2 rfl, hH⟩ rd))
    subst ea
    obtain ⟨o, ho⟩ := w0.dom a z
    rw [hn] at ho
    cases ho
mutual
theorem RU.app {C : Ct0} {B : Bd} {r : Rho} {H : Hp} (x : Option Addr) : ∀ {u : U} {v : V}, RU C B r H u v → RU C B (r ++ [x]) H u v
  | _, _, .d h => .d h
  | _, _, .loc h => .loc (by rw [List.getElem?_append_left (List.getElem?_eq_some_iff.mp h).1]; exact h)
  | _, _, .gone h => .gone (by rw [List.getElem?_append_left (List.getElem?_eq_some_iff.mp h).1]; exact h)
  | _, _, .tup h q => .tup h (RUs.app x q)
theorem RUs.app {C : Ct0} {B : Bd} {r : Rho} {H : Hp} (x : Option Addr) : ∀ {u : List U} {v : List V}, RUs C B r H u v → RUs C B (r ++ [x]) H u v
  | _, _, .nil => .nil
  | _, _, .cons a b => .cons (RU.app x a) (RUs.app x b)
end
theorem RUk.app {C : Ct0} {B : Bd} {r : Rho} {H : Hp} (x : Option Addr) : ∀ {u : List (D × U)} {v : List (Key × V)}, RUk C B r H u v → RUk C B (r ++ [x]) H u v
  | _, _, .nil => .nil
  | _, _, .cons k a b => .cons k (RU.app x a) (RUk.app x b)
theorem RUf.app {C : Ct0} {B : Bd} {r : Rho} {H : Hp} (x : Option Addr) : ∀ {u : List (Str × U)} {v : List (Str × V)}, RUf C B r H u v → RUf C B (r ++ [x]) H u v
  | _, _, .nil => .nil
  | _, _, .cons a b => .cons (RU.app x a) (RUf.app x b)
theorem RO.app {C : Ct0} {B : Bd} {r : Rho} {H : Hp} (x : Option Addr) {a : Addr} : ∀ {o : O}, RO C B r H a o → RO C B (r ++ [x]) H a o
  | .lst us, ⟨vs, h, q⟩ => ⟨vs, h, q.app x⟩
  | .dct us, ⟨vs, h, q⟩ => ⟨vs, h, q.app x⟩
  | .ins c us, ⟨Cd, dx, vs, m, h, q⟩ => ⟨Cd, dx, vs, m, h, q.app x⟩
  | .gone, h => h.elim
theorem mk_lstL {C : Ct} : MkL C lstL := by
  intro W σ δ B0 r0 H0 B r H h us vs Dd Q e w0 hn w hD nl hH ru q
  have old : ∀ (n : Nat) a, (r ++ [some Dd])[n]? = some (some a) → (r[n]? = some (some a)) ∨ (n = r.length ∧ a = Dd) := fun n a z => by
    by_cases hl : n < r.length
    · rw [List.getElem?_append_left hl] at z
      exact .inl z
    · rw [List.getElem?_append_right (Nat.le_of_not_lt hl), List.getElem?_singleton] at z
      split at z
      · exact .inr ⟨by omega, (Option.some.inj (Option.some.inj z)).symm⟩
      · cases z
  have ru' : RUs C B (r ++ [some Dd]) H us vs := ru.app _
  refine q B (r ++ [some Dd]) H (.ref Dd)
    { rho := fun n x z => by
        rcases e.rho n x z with y | y
        · exact .inl (by rw [List.getElem?_append_left (List.getElem?_eq_some_iff.mp y).1]; exact y)
        · exact .inr (by rw [List.getElem?_append_left (List.getElem?_eq_some_iff.mp y).1]; exact y)
      rnew := fun n a h1 h2 => by
        rcases old n a h2 with y | ⟨_, rfl⟩
        · exact e.rnew n a h1 y
        · exact hn
      keep := e.keep, bnew := e.bnew, bold := e.bold, there := e.there, dom := e.dom }
    { own := fun a l => (lv_app l).elim (w.own a) fun ea => ea ▸ hD
      notup := w.notup
      dom := w.dom
      len := by simp [w.len]
      obj := fun n a z => by
        rcases old n a z with y | ⟨rfl, rfl⟩
        · obtain ⟨o, ho, ro⟩ := w.obj n a y
          have hl : n < h.length := (List.getElem?_eq_some_iff.mp ho).1
          exact ⟨o, by rw [List.getElem?_append_left hl]; exact ho, ro.app _⟩
        · exact ⟨.lst us, by rw [w.len]; simp, vs, hH, ru'⟩
      gon := fun n z => by
        by_cases hl : n < r.length
        · rw [List.getElem?_append_left hl] at z
          rw [List.getElem?_append_left (by rw [← w.len]; exact hl)]
          exact w.gon n z
        · rw [List.getElem?_append_right (Nat.le_of_not_lt hl), List.getElem?_singleton] at z
          split at z
          · cases z
          · cases z
      inj := fun n m a z1 z2 => by
        rcases old n a z1 with y1 | ⟨e1, f1⟩ <;> rcases old m a z2 with y2 | ⟨e2, f2⟩
        · exact w.inj n m a y1 y2
        · subst f2
          exact absurd ⟨n, y1⟩ nl
        · subst f1
          exact absurd ⟨m, y2⟩ nl
        · omega
      jx := w.jx } (.loc (by rw [← w.len]; simp))
/-- a comprehension's reading -/
theorem t_lc {C : Ct} {W : Wj} {f : M (List U)} {vs : List Nat} {g : G} {tt : M Bool} {te : M U} {mk : List U → M U} {σ : L2.St} {H : Hp} {Q : VK} (hm : MkL C mk) (hj : C.j.xi = none) (W0 : Wj) (h0 : W0.w = fun _ _ _ _ => False)
    (t : tI C W (lcM f vs g tt te mk) σ H Q) : tLc (tII C W f) (tGc C vs g) (tT C W0 tt) (tI C W0 te) vs σ H Q := by
  refine tG.bnd (Rel := Ylds C) t fun xs B r H1 h δ J w s rj q => ?_
  intro Dd hD
  try dsimp only at q
  by_cases hz : szOk xs.length = true
  · rw [if_pos hz] at q
    cases hl : lcL g tt te (wipeS δ vs) xs h with
    | none => rw [hl] at q; exact q.elim
    | some res =>
      obtain ⟨ysF, hF⟩ := res
      simp only [hl] at q
      -- the state with the new list
      have gD : Gr B H1 (fun a => B a ∨ a = Dd) (upd H1 Dd (.lst [])) :=
        { keep := fun a o z => by
            rw [upd_ne (ne_of_none z hD)]
            exact z
          bnew := fun a z => by
            rcases z with z | rfl
            · exact .inl z
            · exact .inr hD
          bold := fun a z => .inl z
          dom := fun a z => by
            rcases z with z | rfl
            · obtain ⟨o, ho⟩ := w.dom a z
              exact ⟨o, by rw [upd_ne (ne_of_none ho hD)]; exact ho⟩
            · exact ⟨_, upd_same⟩
          notup := fun a z us y => by
            rcases z with z | rfl
            · obtain ⟨o, ho⟩ := w.dom a z
              exact w.notup a z us (rd_back ho (fun o' h' => by rw [upd_ne (ne_of_none h' hD)]; exact h') y)
            · exact notup_lst us y }
      have wD := gD.wd w
      have nlD : ¬ Lv r Dd := fun l => by
        obtain ⟨o, ho⟩ := w.dom Dd (w.own Dd l)
        rw [hD] at ho
        cases ho
      refine ⟨fun i m H2 => ∃ B2 r2 h2 done acc todo, Ext B r H1 B2 r2 H2 ∧ Wd C B2 r2 H2 h2 ∧ B2 Dd ∧ ¬ Lv r2 Dd ∧ H2 Dd = some (.lst acc) ∧ RUs C B2 r2 H2 done acc ∧ m = xs.length - i ∧ i ≤ xs.length ∧ done.length ≤ i ∧ ysF = done ++ todo ∧ lcL g tt te (wipeS δ vs) (xs.drop i) h2 = some (todo, hF),
        ⟨xs.length, _, r, h, [], [], ysF, gD.ext, wD, .inr rfl, nlD, upd_same, .nil, by simp, Nat.zero_le _, Nat.zero_le _, rfl, hl⟩, ?_⟩
      rintro i m H2 ⟨B2, r2, h2, done, acc, todo, e2, w2, bD, nl2, hH2, rdn, rfl, hi, hdl, hys, hlc⟩
      obtain ⟨j1, j2⟩ := rj B2 r2 H2 h2 i e2 w2
      have s2 : SlR C B2 r2 H2 (wipe σ vs) (wipeS δ vs) := (s.ext e2 w.toOwn).wipe hj vs
      by_cases hlt : i < xs.length
      · obtain ⟨j3, j4⟩ := j1 hlt
        have ed : xs.drop i = xs[i] :: xs.drop (i + 1) := List.drop_eq_getElem_cons hlt
        rw [ed] at hlc
        refine .inr ⟨j3, fun H' => ∃ B2 r2 h2 done acc todo, Ext B r H1 B2 r2 H' ∧ Wd C B2 r2 H' h2 ∧ B2 Dd ∧ ¬ Lv r2 Dd ∧ H' Dd = some (.lst acc) ∧ RUs C B2 r2 H' done acc ∧ done.length ≤ i + 1 ∧ ysF = done ++ todo ∧ lcL g tt te (wipeS δ vs) (xs.drop (i + 1)) h2 = some (todo, hF),
          fun H' ⟨B3, r3, h3, d3, a3, t3, e3, w3, b3, n3, hh3, rd3, l3, y3, c3⟩ => ⟨xs.length - (i + 1), by omega, B3, r3, h3, d3, a3, t3, e3, w3, b3, n3, hh3, rd3, rfl, hlt, l3, y3, c3⟩, fun x H3 y => ?_⟩
        obtain ⟨B3, g3, u, hu, ru⟩ := j4 x H3 y
        have eu : u = xs[i] := by
          rw [List.getElem?_eq_getElem hlt] at hu
          exact (Option.some.inj hu).symm
        subst eu
        have w3 := g3.wd w2
        have e3 : Ext B2 r2 H2 B3 r2 H3 := g3.ext
        -- what stays of the new list
        have step : ∀ {Ba Bb : Bd} {ra rb : Rho} {Ha Hb : Hp} {hb : Hea}, Ext Ba ra Ha Bb rb Hb → Wd C Bb rb Hb hb → Own Ba ra Ha → Ba Dd → ¬ Lv ra Dd → Ha Dd = some (.lst acc) → RUs C Ba ra Ha done acc → Bb Dd ∧ ¬ Lv rb Dd ∧ Hb Dd = some (.lst acc) ∧ RUs C Bb rb Hb done acc :=
          fun e w' o b n hh rr => ⟨e.bold Dd b n, fun l => n (e.lv hh l), e.keep Dd _ n hh, rr.ext e o⟩
        obtain ⟨b3, n3, hh3, rd3⟩ := step e3 w3 w2.toOwn bD nl2 hH2 rdn
        have s3 := s2.ext e3 w2.toOwn
        refine ⟨B3, r2, h2, wipeS δ vs, xs[i], w3, s3, ru, ?_⟩
        unfold lcL at hlc
        cases hg : g xs[i] (wipeS δ vs) h2 with
        | none => simp only [hg] at hlc; cases hlc
        | some y1 =>
          obtain ⟨δ1, h1⟩ := y1
          simp only [hg] at hlc
          intro B4 r4 H4 σ4 e4 w4 s4 hw4
          obtain ⟨b4, n4, hh4, rd4⟩ := step e4 w4 w3.toOwn b3 n3 hh3 rd3
          have hww : wipe (wipe σ vs) vs = wipe σ vs := by
            have go : ∀ (l m : List Nat) (σ : L2.St), (∀ v ∈ l, v ∈ m) → wipe (wipe σ m) l = wipe σ m := by
              intro l m σ hlm
              induction l with
              | nil => rfl
              | cons v l ih =>
                show (wipe (wipe σ m) l).set v none = wipe σ m
                rw [ih fun v h => hlm v (List.mem_cons_of_mem _ h)]
                have go2 : ∀ (m : List Nat), v ∈ m → (wipe σ m).set v none = wipe σ m := by
                  intro m
                  induction m with
                  | nil => intro h; cases h
                  | cons u m ih2 =>
                    intro hv
                    show ((wipe σ m).set u none).set v none = (wipe σ m).set u none
                    by_cases huv : u = v
                    · subst huv
                      rw [List.set_set]
                    · rw [List.set_comm _ _ huv]
                      rcases List.mem_cons.mp hv with z | z
                      · exact absurd z.symm huv
                      · rw [ih2 z]
                exact go2 m (hlm v List.mem_cons_self)
            exact go vs vs σ fun _ h => h
          refine ⟨hw4.trans hww, B4, r4, h1, δ1, w4, s4, ?_⟩
          have e14 : Ext B r H1 B4 r4 H4 := e2.tr w.toOwn (e3.tr w2.toOwn e4)
          cases ht : tt δ1 h1 with
          | none => simp only [ht] at hlc; cases hlc
          | some o =>
            cases o with
            | exc e h => simp only [ht] at hlc; cases hlc
            | ok b h5 =>
              intro B5 r5 H5 b' e5 w5 rel
              cases rel
              obtain ⟨b5, n5, hh5, rd5⟩ := step e5 w5 w4.toOwn b4 n4 hh4 rd4
              have s5 := s4.ext e5 w4.toOwn
              have e15 := e14.tr w.toOwn e5
              cases b with
              | false =>
                simp only [ht] at hlc
                exact ⟨B5, r5, h5, done, acc, todo, e15, w5, b5, n5, hh5, rd5, by omega, hys, hlc⟩
              | true =>
                simp only [ht] at hlc
                show tI C W0 te σ4 H5 _
                refine ⟨B5, r5, h5, δ1, w5, s5, ?_⟩
                cases hte : te δ1 h5 with
                | none => simp only [hte] at hlc; cases hlc
                | some o =>
                  cases o with
                  | exc e h => simp only [hte] at hlc; cases hlc
                  | ok y h6 =>
                    simp only [hte] at hlc
                    intro B6 r6 H6 v6 e6 w6 ry
                    obtain ⟨b6, n6, hh6, rd6⟩ := step e6 w6 w5.toOwn b5 n5 hh5 rd5
                    have hal : acc.length < sizeLine := by
                      rw [← rd6.length]
                      have := szOk_le hz
                      omega
                    refine ⟨acc, hh6, hal, ?_⟩
                    obtain ⟨w7, f7, g7⟩ := w6.own_put b6 n6 (acc ++ [v6])
                    cases hrest : lcL g tt te (wipeS δ vs) (xs.drop (i + 1)) h6 with
                    | none => simp only [hrest] at hlc; cases hlc
                    | some rs =>
                      obtain ⟨ys, h8⟩ := rs
                      simp only [hrest] at hlc
                      cases hlc
                      have e16 := e15.tr w.toOwn e6
                      have e17 : Ext B r H1 B6 r6 (upd H6 Dd (.lst (acc ++ [v6]))) :=
                        { rho := e16.rho
                          rnew := e16.rnew
                          keep := fun a o nl z => by
                            rw [upd_ne (ne_of_none z hD)]
                            exact e16.keep a o nl z
                          bnew := e16.bnew
                          bold := e16.bold
                          there := fun a o z => by
                            obtain ⟨o', z'⟩ := e16.there a o z
                            exact ⟨o', by rw [upd_ne (ne_of_none z hD)]; exact z'⟩
                          dom := w7.dom }
                      refine ⟨B6, r6, h6, done ++ [y], acc ++ [v6], ys, e17, w7, b6, n6, upd_same, ?_, by simp; omega, by rw [hys]; simp, hrest⟩
                      have go : ∀ {us : List U} {vs : List V}, RUs C B6 r6 (upd H6 Dd (.lst (acc ++ [v6]))) us vs → RU C B6 r6 (upd H6 Dd (.lst (acc ++ [v6]))) y v6 → RUs C B6 r6 (upd H6 Dd (.lst (acc ++ [v6]))) (us ++ [y]) (vs ++ [v6]) := by
                        intro us
                        induction us with
                        | nil => intro vs h k; cases h; exact .cons k .nil
                        | cons x xs ih => intro vs h k; cases h with | cons a b => exact .cons a (ih b k)
                      exact go (rd6.map f7 g7) (ry.map f7 g7)
      · have hd : xs.drop i = [] := List.drop_eq_nil_of_le (Nat.le_of_not_lt hlt)
        rw [hd] at hlc
        cases hlc
        refine .inl ⟨j2 (Nat.le_of_not_lt hlt), ?_⟩
        rw [List.append_nil] at hys
        subst hys
        exact hm e2 w.toOwn hD w2 bD nl2 hH2 rdn q
  · rw [if_neg hz] at q
    exact q.elim
/-- no exception is let out (in a comprehension's block, in an except suite) -/
def Wj.no (W : Wj) : Wj := ⟨fun _ _ _ _ => False, W.j⟩
def RTs (X : Cx) (W : Wj) (ifs : List Expr) (f : M Bool) : Prop := PTs X ifs (tT (ctX X W) W f)
theorem pts_imp {X : Cx} {es : List Expr} {t t' : TT} (h : PTs X es t) (i : ∀ σ H Q, t' σ H Q → t σ H Q) : PTs X es t' := ⟨fun pins s σ H Q I q => h.run pins s σ H Q I (i _ _ _ q)⟩
theorem rts_nil {X : Cx} {W : Wj} : RTs X W [] (mret true) := pts_imp pts_nil fun σ H Q ⟨B, r, h, δ, w, s, q⟩ => EQ.ret w q rfl
theorem rts_one {X : Cx} {W : Wj} {c : Expr} {f : M Bool} (h : RT X W c f) : RTs X W [c] f := pts_one h
section
variable {X : Cx} {W : Wj} {elt tg iter : Expr} {ifs : List Expr} {scope : Scope} {own : List (Str × Nat)} {pos spos py : Pos} {f : M (List U)} {g : G} {tt : M Bool} {te : M U} {mk : List U → M U}
theorem re_lc (own : List (Str × Nat)) (hm : MkL (ctX X W) mk) (hc : X.calm = true) (hN : X.N.Nodup) (hj : W.j.xi = none) (hi : RI1 X W tg iter f) (ok : blkC X.N X.env.scope scope own = true)
    (hg : ∀ (s : Shared) (H : Hp) (C : Addr) (cl : List (Str × Addr)) (fp : List Addr), RGc (X.blk s H scope (compEnvC scope cl C X.env) fp) W.no (own.map fun p : Str × Nat => p.2) tg g)
    (ht : ∀ (s : Shared) (H : Hp) (C : Addr) (cl : List (Str × Addr)) (fp : List Addr), RTs (X.blk s H scope (compEnvC scope cl C X.env) fp) W.no ifs tt)
    (he : ∀ (s : Shared) (H : Hp) (C : Addr) (cl : List (Str × Addr)) (fp : List Addr), RE (X.blk s H scope (compEnvC scope cl C X.env) fp) W.no elt te) (hs : ∀ x, foldedSetIterable iter X.env x = pure x := by intro _; rfl) :
    RE X W (.ListComp elt [⟨tg, iter, ifs, 0⟩] scope pos) (lcM f (own.map fun p : Str × Nat => p.2) g tt te mk) :=
  pe_imp (pe_lc (g := tGc (ctX X W) (own.map fun p : Str × Nat => p.2) g) (tt := tT (ctX X W) W.no tt) (te := tI (ctX X W) W.no te) hc hN hi (blkOk_by ok) hg ht he hs) fun σ H Q t => t_lc hm hj W.no rfl t
theorem rs_setLc {i : Nat} {y : Str} (own : List (Str × Nat)) (hm : MkL (ctX X W) mk) (hc : X.calm = true) (hN : X.N.Nodup) (hj : W.j.xi = none) (hi : RI1 X W tg iter f) (ok : blkC X.N X.env.scope scope own = true)
    (hg : ∀ (s : Shared) (H : Hp) (C : Addr) (cl : List (Str × Addr)) (fp : List Addr), RGc (X.blk s H scope (compEnvC scope cl C X.env) fp) W.no (own.map fun p : Str × Nat => p.2) tg g)
    (ht : ∀ (s : Shared) (H : Hp) (C : Addr) (cl : List (Str × Addr)) (fp : List Addr), RTs (X.blk s H scope (compEnvC scope cl C X.env) fp) W.no ifs tt)
    (he : ∀ (s : Shared) (H : Hp) (C : Addr) (cl : List (Str × Addr)) (fp : List Addr), RE (X.blk s H scope (compEnvC scope cl C X.env) fp) W.no elt te)
    (hy : X.N[i]? = some y := by rfl) (hyl : X.env.scope.names.lookup y = some .local := by rfl) (hsw : swapsWith (.ListComp elt [⟨tg, iter, ifs, 0⟩] scope pos) (some (.Name y py)) spos.line X.env = pure true := by exact sw_true rfl rfl rfl (by decide +kernel)) (hs : ∀ x, foldedSetIterable iter X.env x = pure x := by intro _; rfl) :
    RS X W (.Assign [.Name y py] (.ListComp elt [⟨tg, iter, ifs, 0⟩] scope pos) spos) (sasg (lcM f (own.map fun p : Str × Nat => p.2) g tt te mk) (gnm i)) :=
  ps_imp (ps_setLc (g := tGc (ctX X W) (own.map fun p : Str × Nat => p.2) g) (tt := tT (ctX X W) W.no tt) (te := tI (ctX X W) W.no te) hc hN hy hyl hsw hi (blkOk_by ok) hg ht he hs) fun D σ H t => by
    have z : tI (ctX X W) W (lcM f (own.map fun p : Str × Nat => p.2) g tt te mk) σ H (fun v H1 => gName i v σ H1 D.nx) := tS.bnd t fun a B r H1 h δ v w s ru q => OQ.nx w (s.set hj ru) q
    exact t_lc hm hj W.no rfl z
end
/-- __init__ of such a class: its fields from its arguments, in their order -/
def spI (K : PySem.W.Frag) (names : List Str) : Sp := fun vs H Q E => ∃ (a C : Addr) (ys : List V), vs = .ref a :: ys ∧ ys.length = names.length ∧ OexC K C ∧ (∀ f ∈ names, PySem.W.findIn K (.ref C) f = some none) ∧ H a = some (exo a C none) ∧
  ∀ (dx : Addr) (H' : Hp), H dx = none → dx ≠ a → (∀ b, b ≠ a → b ≠ dx → H' b = H b) → H' a = some (exo a C (some dx)) → H' dx = some (exd dx (names.zip ys).reverse) → Q .non H'
section
variable {P : Program} {w : World} {K : PySem.W.Frag} {mg : Str → Option Value} {base : Heap}
theorem init1 {qual : Str} {st : Stmt} {f : Addr} {fd : FuncData} {n1 : Str} {N ps : List Str} {k : Nat} (F : Fun K "__init__" qual st f fd) (S : FnScope N ps (defScope st)) (hp : ps.length = 2) (hN : N.length = 2)
    (hb : ∀ X : Cx, X.N = N → X.env.scope = defScope st → PSs X (defBody st) (tOst X.K n1 (tVar 0) (tVar 1))) : FnOk P w K mg base (L2.CX P w) (k + 1) f fd ps (spI K [n1]) := by
  refine F.okX S (fun vs H Q E h => ?_) (fun cdv A outer s H vs Q E hr h => ⟨_, hb _ rfl rfl, ?_⟩)
  · obtain ⟨a, C, ys, rfl, hl, _⟩ := h
    simp [hl, hp]
  · obtain ⟨a, C, ys, rfl, hl, hO, hn, ha, q⟩ := h
    obtain ⟨y, rfl⟩ : ∃ y, ys = [y] := by
      match ys, hl with
      | [y], _ => exact ⟨y, rfl⟩
    refine ⟨y, by simp [L2.start], .ref a, by simp [L2.start], a, C, rfl, hO, hn n1 (by simp), .inl ⟨ha, fun dx hdx hne => ?_⟩⟩
    refine q dx _ hdx hne (fun b h1 h2 => ?_) upd_same ?_
    · rw [upd_ne h1, upd_ne h2]
    · rw [upd_ne hne, upd_same]
      rfl
theorem init2 {qual : Str} {st : Stmt} {f : Addr} {fd : FuncData} {n1 n2 : Str} {N ps : List Str} {k : Nat} (F : Fun K "__init__" qual st f fd) (S : FnScope N ps (defScope st)) (hp : ps.length = 3) (hN : N.length = 3)
    (hb : ∀ X : Cx, X.N = N → X.env.scope = defScope st → PSs X (defBody st) (tSeq (tOst X.K n1 (tVar 0) (tVar 1)) (tOst X.K n2 (tVar 0) (tVar 2)))) : FnOk P w K mg base (L2.CX P w) (k + 1) f fd ps (spI K [n1, n2]) := by
  refine F.okX S (fun vs H Q E h => ?_) (fun cdv A outer s H vs Q E hr h => ⟨_, hb _ rfl rfl, ?_⟩)
  · obtain ⟨a, C, ys, rfl, hl, _⟩ := h
    simp [hl, hp]
  · obtain ⟨a, C, ys, rfl, hl, hO, hn, ha, q⟩ := h
    obtain ⟨y, z, rfl⟩ : ∃ y z, ys = [y, z] := by
      match ys, hl with
      | [y, z], _ => exact ⟨y, z, rfl⟩
    refine ⟨y, by simp [L2.start], .ref a, by simp [L2.start], a, C, rfl, hO, hn n1 (by simp), .inl ⟨ha, fun dx hdx hne => ?_⟩⟩
    refine ⟨z, by simp [L2.start], .ref a, by simp [L2.start], a, C, rfl, hO, hn n2 (by simp), .inr ⟨dx, [(n1, y)], upd_same, by rw [upd_ne hne, upd_same], by simp, ?_⟩⟩
    refine q dx _ hdx hne (fun b h1 h2 => ?_) ?_ ?_
    · rw [upd_ne h2, upd_ne h1, upd_ne h2]
    · rw [upd_ne hne.symm, upd_same]
    · rw [upd_same]
      rfl
end
/-- an exception class that the module's name c holds, with its fields -/
structure XcAt (P : Program) (w : World) (K : PySem.W.Frag) (mg : Str → Option Value) (base : Heap) (k : Nat) (c : Str) (names : List Str) : Prop where
  ex : ∃ (C fI : Addr) (fd : FuncData) (ps : List Str), mg c = some (.ref C) ∧ OexC K C ∧ PySem.W.findIn K (.ref C) "__init__" = some (some (.ref fI)) ∧ PySem.W.typeIn K (.ref fI) = some (.type "function") ∧ (∀ f ∈ names, PySem.W.findIn K (.ref C) f = some none) ∧
    Binds K fd ps [] ∧ FnOk P w K mg base (L2.CX P w) k fI fd ps (spI K names)
def sraise (c : Str) (names : List Str) (g : M (List U)) : S := sbnd g fun us δ h => match allD us with
  | some ds => if ds.length = names.length ∧ names.length ≤ 1000 then some (.ex ⟨c, (names.zip ds).reverse⟩ δ h) else none
  | none => none
theorem RDf.app {C0 : Ct0} {B : Bd} {H : Hp} {f : Str} {d : D} {v : V} : ∀ {fs : List (Str × D)} {vs : List (Str × V)}, RDf C0 B H fs vs → RD C0 B H d v → RDf C0 B H (fs ++ [(f, d)]) (vs ++ [(f, v)])
  | _, _, .nil, h => .cons h .nil
  | _, _, .cons a b, h => .cons a (RDf.app b h)
theorem RDf.rev {C0 : Ct0} {B : Bd} {H : Hp} : ∀ {fs : List (Str × D)} {vs : List (Str × V)}, RDf C0 B H fs vs → RDf C0 B H fs.reverse vs.reverse
  | _, _, .nil => .nil
  | _, _, .cons a b => by
    rw [List.reverse_cons, List.reverse_cons]
    exact (RDf.rev b).app a
theorem RDs.zip {C0 : Ct0} {B : Bd} {H : Hp} : ∀ {ns : List Str} {ds : List D} {vs : List V}, RDs C0 B H ds vs → RDf C0 B H (ns.zip ds) (ns.zip vs)
  | [], _, _, _ => by simpa using RDf.nil
  | _ :: _, _, _, .nil => by simpa using RDf.nil
  | n :: ns, _, _, .cons a b => .cons a (RDs.zip b)
section
variable {X : Cx} {W : Wj} {k : Nat} {c : Str} {names : List Str} {g : M (List U)} {e : Expr} {es : List Expr} {p pos rpos : Pos}
theorem rs_raise (F : XcAt X.prog X.w X.K X.mg X.base k c names) (hr : Room (k + 1) X.A) (hc : X.calm = true) (tk : Takes X W.w) (ha : RA X W (e :: es) g) (hg : Gl X c := by rfl)
    (hdb : (c == ("__debug__" : Str)) = false := by decide) (he : starEach (e :: es) X.env = (false, eval e X.env) :: starEach es X.env := by rfl) (hpl : (backTo pos (starEach es X.env)).any (·.1) = false := by rfl) :
    RS X W (.Raise (some (.Call (.Name c p) (e :: es) [] pos)) none rpos) (sraise c names g) := by
  obtain ⟨C, fI, fd, ps, hm, hO, iC, tI, hn, hb, ok⟩ := F.ex
  refine ps_imp (ps_raise hc tk (pmk_oex hO iC tI ok hr hb .nil passL hg hm ha hdb he hpl)) fun D σ H t => ?_
  refine tS.bnd t fun us B r H1 h δ vs w s ru q => ?_
  try dsimp only at q
  cases hd : allD us with
  | none => rw [hd] at q; exact q.elim
  | some ds =>
    simp only [hd] at q
    by_cases hl : ds.length = names.length ∧ names.length ≤ 1000
    · rw [if_pos hl] at q
      have rd := ru.allD hd
      have hvl : vs.length = names.length := by rw [← rd.length, hl.1]
      refine ⟨by omega, fun a ha0 => ⟨a, C, vs ++ [], rfl, by simpa using hvl, hO, hn, upd_same, fun dx H' hdx hne hk h1 h2 => ⟨rfl, dx, _, h1, h2, ?_, ?_⟩⟩⟩
      · rw [upd_ne hne] at hdx
        exact hdx
      · rw [upd_ne hne] at hdx
        have hH : ∀ b o, H1 b = some o → upd (del H' a) dx (.xd (names.zip (vs ++ [])).reverse) b = some o := fun b o z => by
          have n1 : b ≠ dx := ne_of_none z hdx
          have n2 : b ≠ a := ne_of_none z ha0
          rw [upd_ne n1, del_ne n2, hk b n2 n1, upd_ne n2]
          exact z
        have gr : Gr B H1 B (upd (del H' a) dx (.xd (names.zip (vs ++ [])).reverse)) :=
          { keep := hH
            bnew := fun _ z => .inl z
            bold := fun _ z => z
            dom := fun b z => by
              obtain ⟨o, ho⟩ := w.dom b z
              exact ⟨o, hH b o ho⟩
            notup := fun b z us y => by
              obtain ⟨o, ho⟩ := w.dom b z
              exact w.notup b z us (rd_back ho (hH b) y) }
        refine q B r _ σ (.ref C) (some dx) gr.ext (gr.wd w) (s.ext gr.ext w.toOwn) ⟨C, hm, rfl, .inr ⟨dx, _, rfl, w.toOwn.nb hdx, upd_same, ?_⟩⟩
        have z := ((RDs.zip (ns := names) rd).rev).ext (gr.ext (r := r)) w.toOwn
        rw [List.append_nil] at z ⊢
        exact z
    · rw [if_neg hl] at q
      exact q.elim
end
theorem RX.st {C : Ct0} {e : Exn} {cls : Value} {d : Option Addr} {B B' : Bd} {r r' : Rho} {H H' : Hp} (w : Own B r H) (ex : Ext B r H B' r' H') (h : RX C B H e cls d) : RX C B' H' e cls d := by
  obtain ⟨Cd, h1, h2, h3⟩ := h
  refine ⟨Cd, h1, h2, ?_⟩
  rcases h3 with h3 | ⟨dx, fs, h4, h5, h6, h7⟩
  · exact .inl h3
  · exact .inr ⟨dx, fs, h4, nb_of ex h5 h6, ex.keep dx _ (fun l => h5 (w.own dx l)) h6, h7.ext ex w⟩
def outI (i : Nat) : Option Out → Option Out
  | some (.nx δ h) => some (.nx (δ.set i none) h)
  | some (.bk δ h) => some (.bk (δ.set i none) h)
  | some (.ct δ h) => some (.ct (δ.set i none) h)
  | some (.rt u h) => some (.rt u h)
  | _ => none
/-- ms: which classes the clause takes -/
def stry (i : Nat) (ms : List (Str × Bool)) (body : S) (suite : Exn → S) : S := fun δ h => match body δ h with
  | some (.ex e δ' h') => (match ms.lookup e.c with
    | some true => if i < δ'.length then outI i (suite e (δ'.set i none) h') else none
    | some false => some (.ex e δ' h')
    | none => none)
  | o => o
def XmAt (K : PySem.W.Frag) (mg : Str → Option Value) (x : Str) (ms : List (Str × Bool)) : Prop := ∃ Cx, mg x = some (.ref Cx) ∧ ∀ c b, ms.lookup c = some b → ∀ C, mg c = some (.ref C) → PySem.W.exmOne K (.ref C) (.ref Cx) = some b
theorem Wd.toJ {C C' : Ct} {B : Bd} {r : Rho} {H : Hp} {h : Hea} (hc : C.toCt0 = C'.toCt0) (w : Wd C B r H h) (hj : C'.j.J C'.toCt0 B H) : Wd C' B r H h :=
  { own := w.own, notup := w.notup, dom := w.dom, len := w.len, obj := fun n a z => by
      obtain ⟨o, ho, ro⟩ := w.obj n a z
      exact ⟨o, ho, by rw [← hc]; exact ro⟩
    gon := w.gon, inj := w.inj, jx := hj }
def jS (a : Addr) (i : Nat) (e : Exn) (cls : Value) (d : Option Addr) : Jx := ⟨some (i, a), fun C B H => RX C B H e cls d, fun _ _ _ _ _ _ _ w ex h => RX.st w ex h⟩
/-- what the clause's suite asks, for an exception of the class cls, its dict d, at a -/
def tSu (C0 : Ct0) (i : Nat) (su : Exn → S) (a : Addr) (cls : Value) (d : Option Addr) : TS := fun D σ H => ∃ e, tS ⟨C0, jS a i e cls d⟩ ⟨fun _ _ _ _ => False, jS a i e cls d⟩ (su e) D σ H
theorem SlR.unset {C C' : Ct} {B : Bd} {r : Rho} {H : Hp} {σ : L2.St} {δ : Sl} {i : Nat} {x : Option V} (hc : C.toCt0 = C'.toCt0) (s : SlR C B r H σ δ) (hx : ∀ j a, C'.j.xi = some (j, a) → (σ.set i x)[j]? = some (some (.ref a))) : SlR C' B r H (σ.set i x) (δ.set i none) := by
  refine ⟨by simp [s.len], fun j u hj => ?_, hx⟩
  by_cases hij : i = j
  · subst hij
    by_cases hl : i < δ.length
    · rw [List.getElem?_set_self hl] at hj
      cases hj
    · rw [List.getElem?_eq_none_iff.mpr (by simp; omega)] at hj
      cases hj
  · rw [List.getElem?_set_ne hij] at hj ⊢
    obtain ⟨v, h1, h2⟩ := s.at_ j u hj
    exact ⟨v, h1, by rw [← hc]; exact h2⟩
section
variable {X : Cx} {W : Wj} {x n : Str} {i : Nat} {body suite : List Stmt} {b₀ : Stmt} {np pos pos' : Pos} {b : S} {su : Exn → S}
theorem rs_try (ms : List (Str × Bool)) (hxm : XmAt X.K X.mg x ms) (tk : Takes X W.w) (hN : X.N.Nodup)
    (hb : ∀ (V : WX) (pn : List (Addr × Obj)) (xe : Value → Shared → Prop), Takes (X.tr pn xe) V → PassesOwn (model X.prog X.w) X.A X.env xe → RSs (X.tr pn xe) ⟨V, j0⟩ body b)
    (hsu : ∀ (a : Addr) (oe : Obj) (e : Exn) (cls : Value) (d : Option Addr) (pn : List (Addr × Obj)), Zc cls d oe → (∃ vs, oe.data = .fields vs) → RSs (X.suite a ((a, oe) :: pn)) ⟨fun _ _ _ _ => False, jS a i e cls d⟩ (b₀ :: suite) (su e))
    (hj : W.j = j0 := by rfl) (hi : X.N[i]? = some n := by rfl) (hln : X.env.kindOf n = some .local := by rfl) (hg : Gl X x := by rfl) (hdb : (x == ("__debug__" : Str)) = false := by decide) (hs : X.stack = X.env :: X.outer := by rfl) (hf : X.env.frame = some X.env.locals := by rfl) :
    RS X W (.Try body [.ExceptHandler (some (.Name x np)) (some n) (b₀ :: suite) pos'] [] [] pos) (stry i ms b su) := by
  obtain ⟨Cx, hcx, hms⟩ := hxm
  have ec : ctX X W = ⟨⟨X.K, X.mg⟩, j0⟩ := by unfold ctX; rw [hj]
  refine ps_imp (ps_try_as (c := .ref Cx) (tb := fun V => tS ⟨⟨X.K, X.mg⟩, j0⟩ ⟨V, j0⟩ b) (ts := tSu ⟨X.K, X.mg⟩ i su) (Wout := W.w) hs hf hN hi hln ⟨hg, hdb, .inl hcx⟩ tk (fun V pn xe t p => hb V pn xe t p) (fun a oe cls d pn hz hfl => ?_)) fun D σ H t => ?_
  · refine ⟨fun pins s σ H D I t => ?_⟩
    obtain ⟨e, t⟩ := t
    exact (hsu a oe e cls d pn hz hfl).run pins s σ H D I t
  · obtain ⟨B, r, h, δ, w, sl, q⟩ := t
    rw [ec] at w sl q
    refine ⟨B, r, h, δ, w, sl, ?_⟩
    unfold stry at q
    cases hb1 : b δ h with
    | none => rw [hb1] at q; exact q
    | some o =>
      rw [hb1] at q
      cases o with
      | nx δ' h' => exact q
      | bk δ' h' => exact q
      | ct δ' h' => exact q
      | rt u h' => exact q
      | ex e δ' h' =>
        intro B' r' H' σ' cls d ex w' s' rx
        obtain ⟨Cd, m1, m2, m3⟩ := id rx
        subst m2
        cases hl : ms.lookup e.c with
        | none => simp only [hl] at q; exact q.elim
        | some bb =>
          refine ⟨bb, hms e.c bb hl Cd m1, fun hbt => ?_, fun hbf => ?_⟩
          · subst hbt
            simp only [hl] at q
            by_cases hil : i < δ'.length
            · rw [if_pos hil] at q
              intro a ha
              have q' := q.shift w.toOwn ex
              refine ⟨e, B', r', h', δ'.set i none, Wd.toJ (C := ⟨⟨X.K, X.mg⟩, j0⟩) (C' := ⟨⟨X.K, X.mg⟩, jS a i e (.ref Cd) d⟩) rfl w' rx, SlR.unset (C := ⟨⟨X.K, X.mg⟩, j0⟩) (C' := ⟨⟨X.K, X.mg⟩, jS a i e (.ref Cd) d⟩) rfl s' (fun j a' z => ?_), ?_⟩
              · cases z
                exact List.getElem?_set_self (by rw [← s'.len]; exact hil)
              · have back : ∀ {B5 : Bd} {r5 : Rho} {H5 : Hp} {σ5 : L2.St} {δ5 : Sl}, SlR ⟨⟨X.K, X.mg⟩, jS a i e (.ref Cd) d⟩ B5 r5 H5 σ5 δ5 → SlR ⟨⟨X.K, X.mg⟩, j0⟩ B5 r5 H5 (σ5.set i none) (δ5.set i none) := fun s5 => SlR.unset (C := ⟨⟨X.K, X.mg⟩, jS a i e (.ref Cd) d⟩) (C' := ⟨⟨X.K, X.mg⟩, j0⟩) rfl s5 (fun j a z => by cases z)
                cases hsr : su e (δ'.set i none) h' with
                | none => rw [hsr] at q'; exact q'
                | some o2 =>
                  rw [hsr] at q'
                  cases o2 with
                  | nx δ5 h5 => exact fun B5 r5 H5 σ5 e5 w5 s5 => q' B5 r5 H5 _ e5 (Wd.toJ (C := ⟨⟨X.K, X.mg⟩, jS a i e (.ref Cd) d⟩) (C' := ⟨⟨X.K, X.mg⟩, j0⟩) rfl w5 trivial) (back s5)
                  | bk δ5 h5 => exact fun B5 r5 H5 σ5 e5 w5 s5 => q' B5 r5 H5 _ e5 (Wd.toJ (C := ⟨⟨X.K, X.mg⟩, jS a i e (.ref Cd) d⟩) (C' := ⟨⟨X.K, X.mg⟩, j0⟩) rfl w5 trivial) (back s5)
                  | ct δ5 h5 => exact fun B5 r5 H5 σ5 e5 w5 s5 => q' B5 r5 H5 _ e5 (Wd.toJ (C := ⟨⟨X.K, X.mg⟩, jS a i e (.ref Cd) d⟩) (C' := ⟨⟨X.K, X.mg⟩, j0⟩) rfl w5 trivial) (back s5)
                  | rt u h5 => exact fun B5 r5 H5 v e5 w5 ru => q' B5 r5 H5 v e5 (Wd.toJ (C := ⟨⟨X.K, X.mg⟩, jS a i e (.ref Cd) d⟩) (C' := ⟨⟨X.K, X.mg⟩, j0⟩) rfl w5 trivial) ru
                  | ex e2 δ5 h5 => exact q'.elim
            · rw [if_neg hil] at q
              exact q.elim
          · subst hbf
            simp only [hl] at q
            exact q B' r' H' σ' (.ref Cd) d ex w' s' rx
end
def XfAt (K : PySem.W.Frag) (mg : Str → Option Value) (cs : List Str) (f : Str) : Prop := ∀ c ∈ cs, ∀ C, mg c = some (.ref C) → XfC K C ∧ PySem.W.findIn K (.ref C) f = some none
def xfE (cs : List Str) (e : Exn) (f : Str) : M U := fun _ h => if cs.contains e.c = true then (match e.fs.lookup f with
  | some d => some (.ok (.d d) h)
  | none => none) else none
theorem re_xf {X : Cx} {a : Addr} {oe : Obj} {e : Exn} {cls : Value} {d : Option Addr} {pn : List (Addr × Obj)} {i : Nat} {n f : Str} {np pos : Pos} {w : WX} (cs : List Str) (T : XfAt X.K X.mg cs f) (hz : Zc cls d oe) (hf : ∃ vs, oe.data = .fields vs)
    (hN : X.N[i]? = some n := by rfl) (hv : Vis X.env.scope n := by first | exact Or.inl rfl | exact Or.inr (Or.inl rfl) | exact Or.inr (Or.inr rfl)) (hd : (n == ("__debug__" : Str)) = false := by decide) (hcd : (n == ("__classdict__" : Str)) = false := by decide)
    (hb : attributeBase (.Name n np) f X.env (eval (.Name n np) X.env) = eval (.Name n np) X.env := by rfl) : RE (X.suite a ((a, oe) :: pn)) ⟨w, jS a i e cls d⟩ (.Attribute (.Name n np) f pos) (xfE cs e f) := by
  refine ⟨fun pins s σ H Q I t => ?_⟩
  obtain ⟨B, r, h, δ, wd, sl, q⟩ := t
  have rx : RX ⟨X.K, X.mg⟩ B H e cls d := wd.jx
  obtain ⟨Cd, m1, m2, m3⟩ := rx
  unfold xfE at q
  by_cases hc : cs.contains e.c = true
  · rw [if_pos hc] at q
    cases hl : e.fs.lookup f with
    | none => rw [hl] at q; exact q.elim
    | some x =>
      rw [hl] at q
      obtain ⟨T1, T2⟩ := T e.c (by simpa using hc) Cd m1
      subst m2
      rcases m3 with ⟨m4, _⟩ | ⟨dx, fs, m4, m5, m6, m7⟩
      · rw [m4] at hl
        cases hl
      · obtain ⟨v, hv1, hv2⟩ := m7.look hl
        refine (pe_xf (C := Cd) T1 T2 hz hf (pe_var hN hv hd hcd) hb).run pins s σ H Q I ⟨.ref a, sl.xi i a rfl, rfl, rfl, dx, fs, v, m4, m6, hv1, EQ.ret wd q (.d hv2)⟩
  · rw [if_neg hc] at q
    exact q.elim
theorem OpR.or {X : Cx} {f : Value → Value → Sem Value} {r r' : R2} (h : OpR X f r) (h' : OpR X f r') : OpR X f (fun x y H Q => r x y H Q ∨ r' x y H Q) := by
  intro pins s σ H x y v u Q I rx ry q
  rcases q with q | q
  · exact h pins s σ H x y v u Q I rx ry q
  · exact h' pins s σ H x y v u Q I rx ry q
/- inversions of what is seen -/
section
variable {C : Ct0} {B : Bd} {H : Hp} {v : V}
theorem RV.intI {i : Int} (h : RV C B H (.int i) v) : v = .int i := by
  cases h with
  | of h => cases h; rfl
theorem RV.blI {b : Bool} (h : RV C B H (.bl b) v) : v = .bl b := by
  cases h with
  | of h => cases h; rfl
theorem RV.strI {x : Str} (h : RV C B H (.str x) v) : v = .str x := by
  cases h with
  | of h => cases h; rfl
theorem RV.nonI (h : RV C B H .non v) : v = .non := by
  cases h with
  | of h => cases h; rfl
theorem RV.tupI {xs : List D} (h : RV C B H (.tup xs) v) : ∃ a vs, v = .ref a ∧ SqT C.K H a vs ∧ RDs C B H xs vs ∧ RD C B H (.tup xs) v := by
  cases h with
  | of h =>
    cases h with
    | tup hs q => exact ⟨_, _, rfl, hs, q, .tup hs q⟩
theorem RV.lstI {xs : List D} (h : RV C B H (.lst xs) v) : ∃ a vs, v = .ref a ∧ H a = some (.lst vs) ∧ RDs C B H xs vs := by
  cases h with
  | of h =>
    cases h with
    | lst hs q => exact ⟨_, _, rfl, hs.2, q⟩
  | lst hs q => exact ⟨_, _, rfl, hs, q⟩
theorem RV.scrI {xs : List Int} (h : RV C B H (.scr xs) v) : ∃ a, v = .ref a ∧ SqL C.K H a (xs.map V.int) := by
  cases h with
  | of h =>
    cases h with
    | scr hs => exact ⟨_, rfl, hs.seq⟩
theorem RDs.get {ds : List D} {vs : List V} {i : Nat} {d : D} (h : RDs C B H ds vs) (e : ds[i]? = some d) : ∃ v, vs[i]? = some v ∧ RD C B H d v := by
  induction ds generalizing vs i with
  | nil => simp at e
  | cons x xs ih =>
    cases h with
    | cons a b =>
      cases i with
      | zero =>
        cases e
        exact ⟨_, rfl, a⟩
      | succ i =>
        obtain ⟨v, h1, h2⟩ := ih b (i := i) (by simpa using e)
        exact ⟨v, by simpa using h1, h2⟩
theorem RDs.append {ds es : List D} {vs us : List V} (h : RDs C B H ds vs) (k : RDs C B H es us) : RDs C B H (ds ++ es) (vs ++ us) := by
  induction ds generalizing vs with
  | nil => cases h; exact k
  | cons x xs ih =>
    cases h with
    | cons a b => exact .cons a (ih b)
theorem RDs.take {ds : List D} {vs : List V} (n : Nat) (h : RDs C B H ds vs) : RDs C B H (ds.take n) (vs.take n) := by
  induction ds generalizing vs n with
  | nil => cases h; simpa using RDs.nil
  | cons x xs ih =>
    cases h with
    | cons a b =>
      cases n with
      | zero => exact .nil
      | succ n => exact .cons a (ih n b)
theorem RDs.drop {ds : List D} {vs : List V} (n : Nat) (h : RDs C B H ds vs) : RDs C B H (ds.drop n) (vs.drop n) := by
  induction ds generalizing vs n with
  | nil => cases h; simpa using RDs.nil
  | cons x xs ih =>
    cases h with
    | cons a b =>
      cases n with
      | zero => exact .cons a b
      | succ n => exact ih n b
theorem RDs.strs {ys : List Str} : RDs C B H (ys.map D.str) (ys.map V.str) := by
  induction ys with
  | nil => exact .nil
  | cons y ys ih => exact .cons (.str y) ih
theorem RDs.rep {ds : List D} {vs : List V} (h : RDs C B H ds vs) : ∀ n : Nat, RDs C B H (List.replicate n ds).flatten (List.replicate n vs).flatten
  | 0 => .nil
  | n + 1 => by
    rw [List.replicate_succ, List.replicate_succ, List.flatten_cons, List.flatten_cons]
    exact h.append (RDs.rep h n)
end
def liI (p : Int → Int → Option D) : D → D → Option D
  | .int i, .int j => p i j
  | _, _ => none
theorem liI_ok {p : Int → Int → Option D} {x y c : D} (h : liI p x y = some c) : ∃ i j, x = .int i ∧ y = .int j ∧ p i j = some c := by
  unfold liI at h
  split at h
  · exact ⟨_, _, rfl, rfl, h⟩
  · cases h
theorem op2_int0 {C : Ct} {g : Int → Int → V} {d : Int → Int → D} (hd : ∀ i j B H, RD C B H (d i j) (g i j)) : Op2 C (liI fun i j => some (d i j)) (rI0 g) := by
  intro B r H h x y v w c Q wd rx ry e q
  obtain ⟨i, j, rfl, rfl, e⟩ := liI_ok e
  cases e
  exact ⟨i, j, rx.intI, ry.intI, q B H _ wd.toOwn.gr (hd i j B H)⟩
theorem op2_intC {C : Ct} {g : Int → Int → V} {d : Int → Int → D} {K : Int → Int → Prop} {b : Int → Int → Bool} (hb : ∀ i j, b i j = true → K i j) (hd : ∀ i j B H, RD C B H (d i j) (g i j)) : Op2 C (liI fun i j => if b i j = true then some (d i j) else none) (rI K g) := by
  intro B r H h x y v w c Q wd rx ry e q
  obtain ⟨i, j, e1, e2, e3⟩ := liI_ok e
  subst e1 e2
  clear e
  split at e3
  · rename_i hk
    cases e3
    exact ⟨i, j, rx.intI, ry.intI, hb i j hk, q B H _ wd.toOwn.gr (hd i j B H)⟩
  · cases e3
def pAddI : D → D → Option D := liI fun i j => some (.int (i + j))
def pSub : D → D → Option D := liI fun i j => some (.int (i - j))
def pMulI : D → D → Option D := liI fun i j => if decide (i.natAbs.log2 + j.natAbs.log2 < 100000000) = true then some (.int (i * j)) else none
def pFdiv : D → D → Option D := liI fun i j => if decide (0 < j ∧ j.natAbs.log2 < 9000) = true then some (.int (i / j)) else none
def pMod : D → D → Option D := liI fun i j => if decide (j ≠ 0) = true then some (.int (i.fmod j)) else none
def pPow : D → D → Option D := liI fun i j => if decide (0 ≤ j ∧ j ≤ 1000000 ∧ i.natAbs < 2 ^ 64) = true then some (.int (i ^ j.toNat)) else none
def pLtI : D → D → Option D := liI fun i j => some (.bl (decide (i < j)))
def pLeI : D → D → Option D := liI fun i j => some (.bl (decide (i ≤ j)))
def pGtI : D → D → Option D := liI fun i j => some (.bl (decide (j < i)))
def pGeI : D → D → Option D := liI fun i j => some (.bl (decide (j ≤ i)))
theorem mul_ok {i j : Int} (h : i.natAbs.log2 + j.natAbs.log2 < 100000000) : IntMulOk i j := by
  have b : ∀ x : Int, Builtin.Int.intBits x ≤ x.natAbs.log2 + 1 := fun x => by
    unfold Builtin.Int.intBits
    split <;> omega
  have h1 := b i
  have h2 := b j
  have e : bitsLine = 134217728 := by decide
  unfold IntMulOk
  intro z
  rw [Bool.and_eq_true] at z
  have z2 := z.2
  unfold Builtin.Int.intTooBig at z2
  have z3 := of_decide_eq_true z2
  rw [e] at z3
  omega
theorem op_mulX {X : Cx} : OpR X (binaryOp .Mult) (rI (fun i j => i.natAbs.log2 + j.natAbs.log2 < 100000000) fun i j => .int (i * j)) := opI fun _ _ _ _ _ _ _ hc q => mul_int q (mul_ok hc)
def pAdd : D → D → Option D
  | .int i, .int j => some (.int (i + j))
  | .str x, .str y => if szOk (x.length + y.length) = true then some (.str (x ++ y)) else none
  | .lst xs, .lst ys => if szOk (xs.length + ys.length) = true then some (.lst (xs ++ ys)) else none
  | .tup xs, .tup ys => if szOk (xs.length + ys.length) = true then some (.tup (xs ++ ys)) else none
  | _, _ => none
def rAddS : R2 := fun x y H Q => ∃ i j, x = .str i ∧ y = .str j ∧ i.length + j.length ≤ sizeLine ∧ Q (.str (i ++ j)) H
def rAddAll (K : PySem.W.Frag) : R2 := fun x y H Q => (rI0 fun i j => .int (i + j)) x y H Q ∨ rAddS x y H Q ∨ rCat x y H Q ∨ rCatA K x y H Q
theorem op_addAll {X : Cx} : OpR X (binaryOp .Add) (rAddAll X.K) := OpR.or op_add (OpR.or op_add_str (OpR.or op_cat op_catA))
theorem op2_add {C : Ct} : Op2 C pAdd (rAddAll C.K) := by
  intro B r H h x y v w c Q wd rx ry e q
  unfold pAdd at e
  split at e
  · cases e
    exact .inl ⟨_, _, rx.intI, ry.intI, q B H _ wd.toOwn.gr (.int _)⟩
  · split at e
    · rename_i hz
      cases e
      exact .inr (.inl ⟨_, _, rx.strI, ry.strI, szOk_le hz, q B H _ wd.toOwn.gr (.str _)⟩)
    · cases e
  · split at e
    · rename_i hz
      cases e
      obtain ⟨a, vs, rfl, h1, h2⟩ := rx.lstI
      obtain ⟨b, us, rfl, h3, h4⟩ := ry.lstI
      refine .inr (.inr (.inl ⟨a, b, vs, us, rfl, rfl, h1, h3, by rw [← h2.length, ← h4.length]; exact szOk_le hz, fun p hp => ?_⟩))
      have g := wd.toOwn.new hp (.lst (vs ++ us))
      exact q _ _ _ g (.lst ⟨wd.toOwn.nb hp, upd_same⟩ ((h2.append h4).ext (g.ext (r := r)) wd.toOwn))
    · cases e
  · split at e
    · rename_i xs ys hz
      cases e
      obtain ⟨a, vs, rfl, h1, h2, h5⟩ := rx.tupI
      obtain ⟨b, us, rfl, h3, h4, h6⟩ := ry.tupI
      refine .inr (.inr (.inr ⟨a, b, vs, us, rfl, rfl, h1, h3, by rw [← h2.length, ← h4.length]; exact szOk_le hz, fun e => ?_, fun e1 e2 => ?_, fun e1 e2 p hp => ?_⟩))
      · subst e
        cases h2
        exact q B H _ wd.toOwn.gr h6
      · subst e2
        cases h4
        rw [List.append_nil] at q
        exact q B H _ wd.toOwn.gr h5
      · have g := wd.toOwn.new hp (.tup (vs ++ us))
        exact q _ _ _ g (.tup (SqT.of upd_same) ((h2.append h4).ext (g.ext (r := r)) wd.toOwn))
    · cases e
  · cases e
def rep63 (n : Nat) (k : Int) : Bool := decide (-9223372036854775808 ≤ k ∧ k < 9223372036854775808 ∧ n * k.toNat ≤ 16777216)
def pMul : D → D → Option D
  | .int i, .int j => if decide (i.natAbs.log2 + j.natAbs.log2 < 100000000) = true then some (.int (i * j)) else none
  | .lst xs, .int k => if rep63 xs.length k = true then some (.lst (List.replicate k.toNat xs).flatten) else none
  | _, _ => none
def rMulAll : R2 := fun x y H Q => (rI (fun i j => i.natAbs.log2 + j.natAbs.log2 < 100000000) fun i j => .int (i * j)) x y H Q ∨ rRep x y H Q
theorem op_mulAll {X : Cx} : OpR X (binaryOp .Mult) rMulAll := OpR.or op_mulX op_rep
theorem op2_mul {C : Ct} : Op2 C pMul rMulAll := by
  intro B r H h x y v w c Q wd rx ry e q
  unfold pMul at e
  split at e
  · split at e
    · rename_i hz
      cases e
      exact .inl ⟨_, _, rx.intI, ry.intI, of_decide_eq_true hz, q B H _ wd.toOwn.gr (.int _)⟩
    · cases e
  · split at e
    · rename_i xs k hz
      cases e
      obtain ⟨a, vs, rfl, h1, h2⟩ := rx.lstI
      obtain ⟨z1, z2, z3⟩ := of_decide_eq_true hz
      refine .inr ⟨a, k, vs, rfl, ry.intI, h1, by omega, by omega, by rw [← h2.length, sizeLine_eq]; exact z3, fun p hp => ?_⟩
      have g := wd.toOwn.new hp (.lst (List.replicate k.toNat vs).flatten)
      exact q _ _ _ g (.lst ⟨wd.toOwn.nb hp, upd_same⟩ ((h2.rep _).ext (g.ext (r := r)) wd.toOwn))
    · cases e
  · cases e
def strLt (x y : Str) : Bool := decide (x.cps.toList < y.cps.toList)
def pLt : D → D → Option D
  | .int i, .int j => some (.bl (decide (i < j)))
  | .str x, .str y => some (.bl (strLt x y))
  | _, _ => none
def pLe : D → D → Option D
  | .int i, .int j => some (.bl (decide (i ≤ j)))
  | .str x, .str y => some (.bl (!strLt y x))
  | _, _ => none
def pGt : D → D → Option D
  | .int i, .int j => some (.bl (decide (j < i)))
  | .str x, .str y => some (.bl (strLt y x))
  | _, _ => none
def pGe : D → D → Option D
  | .int i, .int j => some (.bl (decide (j ≤ i)))
  | .str x, .str y => some (.bl (!strLt x y))
  | _, _ => none
def rBoth (g : Int → Int → V) (k : Str → Str → V) : R2 := fun x y H Q => (rI0 g) x y H Q ∨ ∃ i j, x = .str i ∧ y = .str j ∧ Q (k i j) H
theorem op_ltA {X : Cx} : OpR X (compareOp .Lt) (rBoth (fun i j => .bl (decide (i < j))) fun i j => .bl (strLt i j)) := OpR.or op_lt op_lt_str
theorem op_leA {X : Cx} : OpR X (compareOp .LtE) (rBoth (fun i j => .bl (decide (i ≤ j))) fun i j => .bl (!strLt j i)) := OpR.or op_le op_le_str
theorem op_gtA {X : Cx} : OpR X (compareOp .Gt) (rBoth (fun i j => .bl (decide (j < i))) fun i j => .bl (strLt j i)) := OpR.or op_gt op_gt_str
theorem op_geA {X : Cx} : OpR X (compareOp .GtE) (rBoth (fun i j => .bl (decide (j ≤ i))) fun i j => .bl (!strLt i j)) := OpR.or op_ge op_ge_str
theorem op2_lt {C : Ct} : Op2 C pLt (rBoth (fun i j => .bl (decide (i < j))) fun i j => .bl (strLt i j)) := by
  intro B r H h x y v w c Q wd rx ry e q
  unfold pLt at e
  split at e
  · cases e
    exact .inl ⟨_, _, rx.intI, ry.intI, q B H _ wd.toOwn.gr (.bl _)⟩
  · cases e
    exact .inr ⟨_, _, rx.strI, ry.strI, q B H _ wd.toOwn.gr (.bl _)⟩
  · cases e
theorem op2_le {C : Ct} : Op2 C pLe (rBoth (fun i j => .bl (decide (i ≤ j))) fun i j => .bl (!strLt j i)) := by
  intro B r H h x y v w c Q wd rx ry e q
  unfold pLe at e
  split at e
  · cases e
    exact .inl ⟨_, _, rx.intI, ry.intI, q B H _ wd.toOwn.gr (.bl _)⟩
  · cases e
    exact .inr ⟨_, _, rx.strI, ry.strI, q B H _ wd.toOwn.gr (.bl _)⟩
  · cases e
theorem op2_gt {C : Ct} : Op2 C pGt (rBoth (fun i j => .bl (decide (j < i))) fun i j => .bl (strLt j i)) := by
  intro B r H h x y v w c Q wd rx ry e q
  unfold pGt at e
  split at e
  · cases e
    exact .inl ⟨_, _, rx.intI, ry.intI, q B H _ wd.toOwn.gr (.bl _)⟩
  · cases e
    exact .inr ⟨_, _, rx.strI, ry.strI, q B H _ wd.toOwn.gr (.bl _)⟩
  · cases e
theorem op2_ge {C : Ct} : Op2 C pGe (rBoth (fun i j => .bl (decide (j ≤ i))) fun i j => .bl (!strLt i j)) := by
  intro B r H h x y v w c Q wd rx ry e q
  unfold pGe at e
  split at e
  · cases e
    exact .inl ⟨_, _, rx.intI, ry.intI, q B H _ wd.toOwn.gr (.bl _)⟩
  · cases e
    exact .inr ⟨_, _, rx.strI, ry.strI, q B H _ wd.toOwn.gr (.bl _)⟩
  · cases e
/- plain data without dicts and instances, as the library's -/
mutual
def toPy : D → Option PyData
  | .non => some .none
  | .bl b => some (.bool b)
  | .int i => some (.int i)
  | .str x => some (.str x)
  | .tup xs => match toPys xs with
    | some ys => some (.tuple ys)
    | none => none
  | .lst xs => match toPys xs with
    | some ys => some (.list ys)
    | none => none
  | .scr ns => some (.list (ns.map .int))
  | _ => none
def toPys : List D → Option (List PyData)
  | [] => some []
  | x :: xs => match toPy x, toPys xs with
    | some y, some ys => some (y :: ys)
    | _, _ => none
end
mutual
theorem RD.dp {C : Ct0} {B : Bd} {H : Hp} : ∀ {d : D} {v : V} {p : PyData}, RD C B H d v → toPy d = some p → Dp C.K H v p
  | .non, _, p, h, e => by cases h; cases e; exact .non
  | .bl b, _, p, h, e => by cases h; cases e; exact .bl b
  | .int i, _, p, h, e => by cases h; cases e; exact .int i
  | .str x, _, p, h, e => by cases h; cases e; exact .str x
  | .tup xs, _, p, h, e => by
    cases h with
    | tup hs q =>
      unfold toPy at e
      split at e
      · rename_i ys e2
        cases e
        exact .tup hs (RDs.dp q e2)
      · cases e
  | .lst xs, _, p, h, e => by
    cases h with
    | lst hs q =>
      unfold toPy at e
      split at e
      · rename_i ys e2
        cases e
        exact .lst hs.seq (RDs.dp q e2)
      · cases e
  | .scr ns, _, p, h, e => by
    cases h with
    | scr hs =>
      cases e
      refine .lst hs.seq ?_
      have go : ∀ ns : List Int, DpAll C.K H (ns.map V.int) (ns.map PyData.int) := fun ns => by
        induction ns with
        | nil => exact .nil
        | cons n ns ih => exact .cons (.int n) ih
      exact go ns
  | .dct _, _, _, _, e => by cases e
  | .ins _ _, _, _, _, e => by cases e
  | .raw _, _, _, _, e => by cases e
theorem RDs.dp {C : Ct0} {B : Bd} {H : Hp} : ∀ {d : List D} {v : List V} {p : List PyData}, RDs C B H d v → toPys d = some p → DpAll C.K H v p
  | [], _, p, h, e => by cases h; cases e; exact .nil
  | x :: xs, _, p, h, e => by
    cases h with
    | cons a b =>
      unfold toPys at e
      split at e
      · rename_i y ys e1 e2
        cases e
        exact .cons (RD.dp a e1) (RDs.dp b e2)
      · cases e
end
theorem RV.dp {C : Ct0} {B : Bd} {H : Hp} {d : D} {v : V} {p : PyData} (h : RV C B H d v) (e : toPy d = some p) : Dp C.K H v p := by
  cases h with
  | of h => exact h.dp e
  | lst hs q =>
    unfold toPy at e
    split at e
    · rename_i ys e2
      cases e
      exact .lst (SqL.of hs) (q.dp e2)
    · cases e
  | dct _ _ => cases e
  | ins _ _ _ => cases e
/-- the scalars that == tells apart as such -/
def scalD : D → D → Bool
  | .non, .non => true | .non, .int _ => true | .int _, .non => true | .non, .bl _ => true | .bl _, .non => true | .non, .str _ => true | .str _, .non => true
  | .int _, .int _ => true | .bl _, .bl _ => true | .str _, .str _ => true
  | .int _, .str _ => true | .str _, .int _ => true | .bl _, .str _ => true | .str _, .bl _ => true
  | _, _ => false
def eqS : D → D → Bool
  | .non, .non => true
  | .int i, .int j => i == j
  | .bl i, .bl j => i == j
  | .str i, .str j => i == j
  | _, _ => false
def eqP (x y : D) : Option Bool := match toPy x, toPy y with
  | some a, some b => if (SeqAt.shaped a && SeqAt.shaped b) = true then some (PyData.eqv a b) else none
  | _, _ => none
def eqD (x y : D) : Option Bool := if scalD x y = true then some (eqS x y) else eqP x y
def pEq (x y : D) : Option D := (eqD x y).map .bl
def pNe (x y : D) : Option D := (eqD x y).map fun b => .bl (!b)
theorem dec_or {p q : Prop} [Decidable p] [Decidable q] (h : p ↔ q) : decide p = decide q := decide_eq_decide.mpr h
theorem scal_ok {C : Ct0} {B : Bd} {H : Hp} {x y : D} {v w : V} (rx : RV C B H x v) (ry : RV C B H y w) (h : scalD x y = true) : scal v w = true ∧ decide (v = w) = eqS x y := by
  cases x <;> cases y <;> first
    | (exact absurd h Bool.false_ne_true)
    | ((first | (have e1 := rx.nonI) | (have e1 := rx.blI) | (have e1 := rx.intI) | (have e1 := rx.strI)) <;> (first | (have e2 := ry.nonI) | (have e2 := ry.blI) | (have e2 := ry.intI) | (have e2 := ry.strI)) <;>
      (subst e1 e2; refine ⟨rfl, ?_⟩; first | exact dec_int | exact dec_bl | exact dec_str | exact decide_eq_false (fun z => nomatch z) | exact decide_eq_true rfl))
theorem op_eqA {X : Cx} (hu : X.A.units + 64 < cLine) : OpR X (compareOp .Eq) (fun x y H Q => rEq x y H Q ∨ rEqD X.K x y H Q) := OpR.or op_eq (op_eqD hu)
theorem op_neA {X : Cx} (hu : X.A.units + 64 < cLine) : OpR X (compareOp .NotEq) (fun x y H Q => rNe x y H Q ∨ rNeD X.K x y H Q) := OpR.or op_ne (op_neD hu)
theorem op2_eq {C : Ct} : Op2 C pEq (fun x y H Q => rEq x y H Q ∨ rEqD C.K x y H Q) := by
  intro B r H h x y v w c Q wd rx ry e q
  unfold pEq eqD at e
  split at e
  · rename_i hs
    cases e
    obtain ⟨h1, h2⟩ := scal_ok rx ry hs
    exact .inl ⟨h1, by rw [h2]; exact q B H _ wd.toOwn.gr (.bl _)⟩
  · unfold eqP at e
    split at e
    · rename_i a b e1 e2
      split at e
      · rename_i hsh
        cases e
        rw [Bool.and_eq_true] at hsh
        exact .inr ⟨a, b, rx.dp e1, ry.dp e2, hsh.1, hsh.2, q B H _ wd.toOwn.gr (.bl _)⟩
      · cases e
    · cases e
theorem op2_ne {C : Ct} : Op2 C pNe (fun x y H Q => rNe x y H Q ∨ rNeD C.K x y H Q) := by
  intro B r H h x y v w c Q wd rx ry e q
  unfold pNe eqD at e
  split at e
  · rename_i hs
    cases e
    obtain ⟨h1, h2⟩ := scal_ok rx ry hs
    exact .inl ⟨h1, by rw [h2]; exact q B H _ wd.toOwn.gr (.bl _)⟩
  · unfold eqP at e
    split at e
    · rename_i a b e1 e2
      split at e
      · rename_i hsh
        cases e
        rw [Bool.and_eq_true] at hsh
        exact .inr ⟨a, b, rx.dp e1, ry.dp e2, hsh.1, hsh.2, q B H _ wd.toOwn.gr (.bl _)⟩
      · cases e
    · cases e
/-- is, is not: None, bools -/
def isNB : D → Bool
  | .raw _ => false
  | _ => true
def pIs : D → D → Option D
  | .bl a, .bl b => some (.bl (decide (a = b)))
  | .raw _, .non => none
  | .non, .non => some (.bl true)
  | _, .non => some (.bl false)
  | _, _ => none
def pIsNot : D → D → Option D
  | .bl a, .bl b => some (.bl (!decide (a = b)))
  | .raw _, .non => none
  | .non, .non => some (.bl false)
  | _, .non => some (.bl true)
  | _, _ => none
theorem RV.nn {C : Ct0} {B : Bd} {H : Hp} {x : D} {v : V} (rx : RV C B H x v) (h1 : x ≠ .non) (h2 : ∀ z, x ≠ .raw z) : v ≠ .non := by
  cases rx with
  | of h =>
    cases h with
    | non => exact absurd rfl h1
    | raw z => exact absurd rfl (h2 _)
    | _ => exact fun z => nomatch z
  | _ => exact fun z => nomatch z
theorem op_isA {X : Cx} : OpR X (compareOp .Is) (fun x y H Q => (y = .non ∧ Q (.bl (decide (x = .non))) H) ∨ rIsB x y H Q) := OpR.or op_isN op_isBl
theorem op_notA {X : Cx} : OpR X (compareOp .IsNot) (fun x y H Q => (y = .non ∧ Q (.bl (!decide (x = .non))) H) ∨ rNotB x y H Q) := OpR.or op_notN op_notBl
theorem op2_is {C : Ct} : Op2 C pIs (fun x y H Q => (y = .non ∧ Q (.bl (decide (x = .non))) H) ∨ rIsB x y H Q) := by
  intro B r H h x y v w c Q wd rx ry e q
  unfold pIs at e
  split at e
  · cases e
    exact .inr ⟨_, _, rx.blI, ry.blI, q B H _ wd.toOwn.gr (.bl _)⟩
  · cases e
  · cases e
    have e1 := rx.nonI
    subst e1
    exact .inl ⟨ry.nonI, q B H _ wd.toOwn.gr (.bl true)⟩
  · rename_i h1 h2
    cases e
    have e1 : v ≠ .non := rx.nn h2 (fun z => h1 z)
    exact .inl ⟨ry.nonI, by rw [decide_eq_false e1]; exact q B H _ wd.toOwn.gr (.bl false)⟩
  · cases e
theorem op2_isNot {C : Ct} : Op2 C pIsNot (fun x y H Q => (y = .non ∧ Q (.bl (!decide (x = .non))) H) ∨ rNotB x y H Q) := by
  intro B r H h x y v w c Q wd rx ry e q
  unfold pIsNot at e
  split at e
  · cases e
    exact .inr ⟨_, _, rx.blI, ry.blI, q B H _ wd.toOwn.gr (.bl _)⟩
  · cases e
  · cases e
    have e1 := rx.nonI
    subst e1
    exact .inl ⟨ry.nonI, q B H _ wd.toOwn.gr (.bl false)⟩
  · rename_i h1 h2
    cases e
    have e1 : v ≠ .non := rx.nn h2 (fun z => h1 z)
    exact .inl ⟨ry.nonI, by rw [decide_eq_false e1]; exact q B H _ wd.toOwn.gr (.bl true)⟩
  · cases e
section
variable {C : Ct} {B : Bd} {r : Rho} {H : Hp} {h : Hea}
theorem RUs.at_ : ∀ {us : List U} {vs : List V} {i : Nat} {u : U}, RUs C B r H us vs → us[i]? = some u → ∃ v, vs[i]? = some v ∧ RU C B r H u v
  | _, _, i, u, .nil, e => by simp at e
  | _, _, 0, u, .cons a b, e => by
    cases e
    exact ⟨_, rfl, a⟩
  | _, _, i + 1, u, .cons a b, e => by
    obtain ⟨v, h1, h2⟩ := RUs.at_ b (i := i) (by simpa using e)
    exact ⟨v, by simpa using h1, h2⟩
theorem RUs.set_ : ∀ {us : List U} {vs : List V} (i : Nat) {u : U} {v : V}, RUs C B r H us vs → RU C B r H u v → RUs C B r H (us.set i u) (vs.set i v)
  | _, _, _, _, _, .nil, _ => .nil
  | _, _, 0, u, v, .cons a b, q => .cons q b
  | _, _, i + 1, u, v, .cons a b, q => .cons a (RUs.set_ i b q)
theorem RUs.app2 : ∀ {us ws : List U} {vs xs : List V}, RUs C B r H us vs → RUs C B r H ws xs → RUs C B r H (us ++ ws) (vs ++ xs)
  | _, _, _, _, .nil, q => q
  | _, _, _, _, .cons a b, q => .cons a (RUs.app2 b q)
theorem RUs.rev : ∀ {us : List U} {vs : List V}, RUs C B r H us vs → RUs C B r H us.reverse vs.reverse
  | _, _, .nil => .nil
  | _, _, .cons a b => by
    rw [List.reverse_cons, List.reverse_cons]
    exact (RUs.rev b).app2 (.cons a .nil)
theorem RUs.dropL : ∀ {us : List U} {vs : List V}, RUs C B r H us vs → RUs C B r H us.dropLast vs.dropLast
  | _, _, .nil => .nil
  | _, _, .cons a .nil => .nil
  | _, _, .cons a (.cons b c) => by
    rw [List.dropLast_cons₂, List.dropLast_cons₂]
    exact .cons a (RUs.dropL (.cons b c))
theorem RUs.era : ∀ {us : List U} {vs : List V} (i : Nat), RUs C B r H us vs → RUs C B r H (us.eraseIdx i) (vs.eraseIdx i)
  | _, _, _, .nil => .nil
  | _, _, 0, .cons a b => b
  | _, _, i + 1, .cons a b => .cons a (RUs.era i b)
theorem RUs.len {us : List U} {vs : List V} (q : RUs C B r H us vs) : us.length = vs.length := q.length
theorem atI_len {α β : Type} {xs : List α} {ys : List β} {i : Int} {x : α} (hl : xs.length = ys.length) (h : atI xs i = some x) : ∃ j : Nat, xs[j]? = some x ∧ ∀ y, ys[j]? = some y → atI ys i = some y := by
  unfold atI at *
  rw [← hl]
  cases e : ixN xs.length i with
  | none => rw [e] at h; cases h
  | some j =>
    rw [e] at h
    exact ⟨j, h, fun y hy => hy⟩
theorem RUs.atI_ {us : List U} {vs : List V} {i : Int} {u : U} (q : RUs C B r H us vs) (e : atI us i = some u) : ∃ v, atI vs i = some v ∧ RU C B r H u v := by
  obtain ⟨j, h1, h2⟩ := atI_len q.length e
  obtain ⟨v, h3, h4⟩ := q.at_ h1
  exact ⟨v, h2 v h3, h4⟩
theorem RDs.atI_ {us : List D} {vs : List V} {i : Int} {u : D} (q : RDs C.toCt0 B H us vs) (e : atI us i = some u) : ∃ v, atI vs i = some v ∧ RD C.toCt0 B H u v := by
  obtain ⟨j, h1, h2⟩ := atI_len q.length e
  obtain ⟨v, h3, h4⟩ := RDs.get q h1
  exact ⟨v, h2 v h3, h4⟩
end
/-- the items of a list -/
def lsI : D → Option (List D)
  | .lst ds => some ds
  | .scr ns => some (ns.map .int)
  | _ => none
theorem RDs.ints {C : Ct0} {B : Bd} {H : Hp} : ∀ {ns : List Int}, RDs C B H (ns.map D.int) (ns.map V.int)
  | [] => .nil
  | n :: ns => .cons (.int n) RDs.ints
theorem RV.items {C : Ct0} {B : Bd} {H : Hp} {x : D} {v : V} {ds : List D} (q : RV C B H x v) (e : lsI x = some ds) : ∃ a vs, v = .ref a ∧ SqL C.K H a vs ∧ RDs C B H ds vs := by
  cases x with
  | lst xs =>
    cases e
    obtain ⟨a, vs, rfl, h1, h2⟩ := q.lstI
    exact ⟨a, vs, rfl, SqL.of h1, h2⟩
  | scr ns =>
    cases e
    obtain ⟨a, rfl, h1⟩ := q.scrI
    exact ⟨a, _, rfl, h1, RDs.ints⟩
  | _ => cases e
def pIx : D → D → Option D
  | .tup ds, .int i => atI ds i
  | .str z, .int i => if szOk z.length = true then (match atI z.cps.toList i with
    | some c => some (.str ⟨#[c]⟩)
    | none => none) else none
  | x, .int i => match lsI x with
    | some ds => atI ds i
    | none => none
  | _, _ => none
def ixU (h : Hea) : U → U → Option U
  | .d x, .d i => (pIx x i).map .d
  | .loc n, .d (.int k) => match h[n]? with
    | some (.lst us) => atI us k
    | _ => none
  | .tup us, .d (.int k) => atI us k
  | _, _ => none
def ixE (f g : M U) : M U := mbnd f fun x => mbnd g fun y _ h => match ixU h x y with
  | some u => some (.ok u h)
  | none => none
theorem ixU_ok {C : Ct} {B : Bd} {r : Rho} {H : Hp} {h : Hea} {x y u : U} {v w : V} {Q : VK} (wd : Wd C B r H h) (rx : RU C B r H x v) (ry : RU C B r H y w) (e : ixU h x y = some u) (q : ∀ z, RU C B r H u z → Q z H) : rIx C.K v w H Q := by
  unfold ixU at e
  split at e
  · rename_i x i
    cases hp : pIx x i with
    | none => rw [hp] at e; cases e
    | some c =>
      rw [hp] at e
      cases e
      cases rx with
      | d rx => cases ry with
        | d ry =>
          unfold pIx at hp
          split at hp
          · rename_i ds k
            cases rx with
            | tup hs qs =>
              cases ry
              obtain ⟨z, h1, h2⟩ := qs.atI_ hp
              exact .inr (.inl ⟨_, _, k, z, rfl, rfl, hs, h1, q z (.d h2)⟩)
          · rename_i z k
            split at hp
            · rename_i hz
              split at hp
              · rename_i c' hc
                cases hp
                cases rx
                cases ry
                exact .inr (.inr ⟨z, k, c', rfl, rfl, szOk_le hz, hc, q _ (.d (.str _))⟩)
              · cases hp
            · cases hp
          · split at hp
            · rename_i k _ _ _ ds hds
              cases ry
              obtain ⟨a, vs, rfl, h1, h2⟩ := (RV.of rx).items hds
              obtain ⟨z, h3, h4⟩ := h2.atI_ hp
              exact .inl ⟨a, vs, k, z, rfl, rfl, h1, h3, q z (.d h4)⟩
            · cases hp
          · cases hp
  · rename_i n k
    split at e
    · rename_i us ho
      cases ry with
      | d ry =>
        cases ry
        cases rx with
        | loc hn =>
          obtain ⟨o, h1, ro⟩ := wd.obj _ _ hn
          rw [ho] at h1
          cases h1
          obtain ⟨vs, h2, h3⟩ := ro
          obtain ⟨z, h4, h5⟩ := h3.atI_ e
          exact .inl ⟨_, vs, k, z, rfl, rfl, SqL.of h2, h4, q z h5⟩
        | gone hn =>
          rw [wd.gon _ hn] at ho
          cases ho
    · cases e
  · rename_i us k
    cases ry with
    | d ry =>
      cases ry
      cases rx with
      | tup hs qs =>
        obtain ⟨z, h4, h5⟩ := qs.atI_ e
        exact .inr (.inl ⟨_, _, k, z, rfl, rfl, hs, h4, q z h5⟩)
  · cases e
section
variable {X : Cx} {W : Wj} {pos p2 : Pos} {a b : Expr} {f g : M U}
theorem re_ix (ha : RE X W a f) (hb : RE X W b g) (hs : PlainIx b := by intro _ _; rfl) : RE X W (.Subscript a b pos) (ixE f g) :=
  pe_imp (pe_ix ix_seq ha hb hs) fun σ H Q t => by
    refine tG.bnd t fun x B1 r1 H1 h1 δ v w1 s1 rx q1 => ?_
    refine ⟨B1, r1, h1, δ, w1, s1, q1.bnd w1 s1 fun y B2 r2 H2 h2 w' e2 w2 s2 ry q2 => ?_⟩
    try dsimp only at q2
    cases hx : ixU h2 x y with
    | none => rw [hx] at q2; exact q2.elim
    | some u =>
      rw [hx] at q2
      exact ixU_ok w2 (rx.ext e2 w1.toOwn) ry hx fun z rz => EQ.ret w2 q2 rz
end
def cutL {α : Type} (xs : List α) (lo hi : Option Int) : List α := (xs.drop (HT.sIx xs.length 0 lo)).take (HT.sIx xs.length xs.length hi - HT.sIx xs.length 0 lo)
theorem RDs.cutL {C : Ct} {B : Bd} {H : Hp} {ds : List D} {vs : List V} (q : RDs C.toCt0 B H ds vs) (lo hi : Option Int) : RDs C.toCt0 B H (PM.cutL ds lo hi) (cutV vs lo hi) := by
  unfold PM.cutL cutV
  rw [← q.length]
  exact (q.drop _).take _
def pSl (lo hi : Option Int) : D → Option D
  | .tup ds => some (.tup (cutL ds lo hi))
  | .str z => if szOk z.length = true then some (.str (cutS z lo hi)) else none
  | x => match lsI x with
    | some ds => some (.lst (cutL ds lo hi))
    | none => none
/-- a bound that stands there, or none -/
def ptE : Option (M U) → M (Option Int)
  | none => mret none
  | some f => mbnd f fun x _ h => match x with
    | .d (.int i) => some (.ok (some i) h)
    | _ => none
def slE (f : M U) (lo hi : Option (M U)) : M U := mbnd f fun x => mbnd (ptE lo) fun l => mbnd (ptE hi) fun u _ h => match view h x with
  | some d => (match pSl l u d with
    | some c => some (.ok (.d c) h)
    | none => none)
  | none => none
def relO : Bd → Rho → Hp → Option Int → Option Int → Prop := fun _ _ _ a b => a = b
def RP (X : Cx) (W : Wj) (e : Option Expr) (f : Option (M U)) : Prop := PO X e (fun σ H Q => tG (ctX X W) W relO (ptE f) σ H Q)
section
variable {X : Cx} {W : Wj} {pos p2 : Pos} {a : Expr} {f : M U} {lo hi : Option Expr} {fl fu : Option (M U)}
theorem po_imp {e : Option Expr} {t t' : TO} (h : PO X e t) (i : ∀ σ H Q, t' σ H Q → t σ H Q) : PO X e t' := ⟨fun pins s σ H Q I q => h.run pins s σ H Q I (i _ _ _ q)⟩
theorem rp_none : RP X W none none := po_imp po_none fun σ H Q ⟨B, r, h, δ, w, s, q⟩ => EQ.ret w q rfl
theorem rp_some (ha : RE X W a f) : RP X W (some a) (some f) := po_imp (po_some ha) fun σ H Q t => by
  refine tG.bnd (f := f) t fun x B1 r1 H1 h1 δ v w1 s1 rx q1 => ?_
  split at q1
  · cases rx with
    | d rx =>
      cases rx
      exact ⟨_, rfl, EQ.ret w1 q1 rfl⟩
  · exact q1.elim
theorem re_sl (ha : RE X W a f) (hl : RP X W lo fl) (hu : RP X W hi fu) : RE X W (.Subscript a (.Slice lo hi none p2) pos) (slE f fl fu) :=
  pe_imp (pe_slice (L2.SlR.or sl_list (L2.SlR.or sl_tupA sl_str)) ha hl hu) fun σ H Q t => by
    refine tG.bnd t fun x B1 r1 H1 h1 δ v w1 s1 rx q1 => ?_
    refine ⟨B1, r1, h1, δ, w1, s1, q1.bnd w1 s1 fun l B2 r2 H2 h2 l' e2 w2 s2 rl q2 => ?_⟩
    refine ⟨B2, r2, h2, δ, w2, s2, q2.bnd w2 s2 fun u B3 r3 H3 h3 u' e3 w3 s3 ru q3 => ?_⟩
    cases rl
    cases ru
    try dsimp only at q3
    have rx := (rx.ext e2 w1.toOwn).ext e3 w2.toOwn
    split at q3
    · rename_i d hv
      split at q3
      · rename_i c hp
        have rv := w3.view rx hv
        unfold pSl at hp
        split at hp
        · rename_i ds
          cases hp
          obtain ⟨a, vs, rfl, h4, h5, h6⟩ := rv.tupI
          refine .inr (.inl ⟨a, vs, rfl, h4, fun hw => ?_, fun hw p hp => ?_⟩)
          · have e : cutL ds l u = ds := by
              unfold cutL
              rw [← h5.length] at hw
              rw [hw.1, hw.2, List.drop_zero, Nat.sub_zero, List.take_length]
            rw [e] at q3
            exact EQ.ret w3 q3 (.d h6)
          · have g := w3.toOwn.new hp (.tup (cutV vs l u))
            exact EQ.gr w3 q3 g (.d (.tup (SqT.of upd_same) ((h5.cutL l u).ext (g.ext (r := r3)) w3.toOwn)))
        · rename_i z
          split at hp
          · rename_i hz
            cases hp
            exact .inr (.inr ⟨z, rv.strI, szOk_le hz, EQ.ret w3 q3 (.d (.str _))⟩)
          · cases hp
        · split at hp
          · rename_i ds hds
            cases hp
            obtain ⟨a, vs, rfl, h4, h5⟩ := rv.items hds
            refine .inl ⟨a, vs, rfl, h4, fun p hp => ?_⟩
            have g := w3.toOwn.new hp (.lst (cutV vs l u))
            exact EQ.gr w3 q3 g (.d (.lst ⟨w3.toOwn.nb hp, upd_same⟩ ((h5.cutL l u).ext (g.ext (r := r3)) w3.toOwn)))
          · cases hp
      · exact q3.elim
    · exact q3.elim
end
def unE (p : D → Option D) (f : M U) : M U := mbnd f fun x _ h => match view h x with
  | some d => (match p d with
    | some c => some (.ok (.d c) h)
    | none => none)
  | none => none
def pNeg : D → Option D
  | .int i => some (.int (-i))
  | _ => none
theorem re_neg {X : Cx} {W : Wj} {pos : Pos} {a : Expr} {f : M U} (ha : RE X W a f) : RE X W (.UnaryOp .USub a pos) (unE pNeg f) :=
  pe_imp (pe_un un_neg ha) fun σ H Q t => tG.bnd t fun x B r H1 h δ v w s rx q => by
    try dsimp only at q
    split at q
    · rename_i d hv
      split at q
      · rename_i c hp
        unfold pNeg at hp
        split at hp
        · cases hp
          exact ⟨_, (w.view rx hv).intI, EQ.ret w q (.d (.int _))⟩
        · cases hp
      · exact q.elim
    · exact q.elim
inductive RVs (C : Ct0) (B : Bd) (H : Hp) : List D → List V → Prop
  | nil : RVs C B H [] []
  | cons {d : D} {v : V} {ds : List D} {vs : List V} : RV C B H d v → RVs C B H ds vs → RVs C B H (d :: ds) (v :: vs)
theorem Wd.viewS {C : Ct} {B : Bd} {r : Rho} {H : Hp} {h : Hea} (w : Wd C B r H h) : ∀ {us : List U} {vs : List V} {ds : List D}, RUs C B r H us vs → viewS h us = some ds → RVs C.toCt0 B H ds vs
  | [], _, ds, .nil, e => by
    cases e
    exact .nil
  | u :: us, _, ds, .cons a b, e => by
    unfold PM.viewS at e
    split at e
    · rename_i x xs e1 e2
      cases e
      exact .cons (w.view a e1) (w.viewS b e2)
    · cases e
/-- a rule of calls does what p says -/
def FnC (C : Ct) (p : List D → Option D) (rr : List V → Hp → VK → Prop) : Prop := ∀ {B : Bd} {r : Rho} {H : Hp} {h : Hea} {ds : List D} {vs : List V} {c : D} {Q : VK}, Wd C B r H h → RVs C.toCt0 B H ds vs → p ds = some c →
  (∀ B' H' u, Gr B H B' H' → RD C.toCt0 B' H' c u → Q u H') → rr vs H Q
def fnE (p : List D → Option D) (g : M (List U)) : M U := mbnd g fun us _ h => match viewS h us with
  | some ds => (match p ds with
    | some c => some (.ok (.d c) h)
    | none => none)
  | none => none
theorem FnC.or {C : Ct} {p : List D → Option D} {r1 r2 : List V → Hp → VK → Prop} (h : FnC C p r1) : FnC C p (fun vs H Q => r1 vs H Q ∨ r2 vs H Q) := fun w q e k => .inl (h w q e k)
theorem callR_or {X : Cx} {f : Value} {r1 r2 : List V → Hp → VK → Prop} (h1 : CallR X f r1) (h2 : CallR X f r2) : CallR X f (fun vs H Q => r1 vs H Q ∨ r2 vs H Q) := by
  intro pins s σ H xs us Q I r q
  rcases q with q | q
  · exact h1 pins s σ H xs us Q I r q
  · exact h2 pins s σ H xs us Q I r q
theorem RVs.one {C : Ct0} {B : Bd} {H : Hp} {d : D} {vs : List V} (q : RVs C B H [d] vs) : ∃ v, vs = [v] ∧ RV C B H d v := by
  cases q with
  | cons a b =>
    cases b
    exact ⟨_, rfl, a⟩
theorem RVs.two {C : Ct0} {B : Bd} {H : Hp} {d e : D} {vs : List V} (q : RVs C B H [d, e] vs) : ∃ v w, vs = [v, w] ∧ RV C B H d v ∧ RV C B H e w := by
  cases q with
  | cons a b =>
    obtain ⟨w, rfl, c⟩ := b.one
    exact ⟨_, w, rfl, a, c⟩
theorem RVs.nilI {C : Ct0} {B : Bd} {H : Hp} {vs : List V} (q : RVs C B H [] vs) : vs = [] := by
  cases q
  rfl
section
variable {X : Cx} {W : Wj} {pos p : Pos} {x : Str} {e : Expr} {es : List Expr} {g : M (List U)} {pp : List D → Option D} {rr : List V → Hp → VK → Prop} {id T : String}
theorem t_fn {C : Ct} {σ : L2.St} {H : Hp} {Q : VK} (hr : FnC C pp rr) (t : tI C W (fnE pp g) σ H Q) : tCB rr (tA C W g) σ H Q := by
  refine tG.bnd t fun us B r H1 h δ vs w s ru q => ?_
  try dsimp only at q
  split at q
  · rename_i ds hv
    split at q
    · rename_i c hp
      exact hr w (w.viewS ru hv) hp fun B' H' u gr rd => EQ.gr w q gr (.d rd)
    · exact q.elim
  · exact q.elim
theorem re_bfn (hc : CallR X (.builtin id) rr) (hr : FnC (ctX X W) pp rr) (hm : X.mg x = none) (hv : bootBuiltins x = some (.builtin id)) (ha : RA X W (e :: es) g) (hg : Gl X x := by rfl) (hn : x ≠ "__name__" := by decide) (hdb : (x == ("__debug__" : Str)) = false := by decide)
    (he : starEach (e :: es) X.env = (false, eval e X.env) :: starEach es X.env := by rfl) (hpl : (backTo pos (starEach es X.env)).any (·.1) = false := by rfl) : RE X W (.Call (.Name x p) (e :: es) [] pos) (fnE pp g) :=
  pe_imp (pe_callB hc hg hm hv ha hn hdb he hpl) fun _ _ _ t => t_fn hr t
theorem re_bty (hc : CallR X (.type T) rr) (hr : FnC (ctX X W) pp rr) (hm : X.mg x = none) (hv : bootBuiltins x = some (.type T)) (ha : RA X W (e :: es) g) (hg : Gl X x := by rfl) (hn : x ≠ "__name__" := by decide) (hdb : (x == ("__debug__" : Str)) = false := by decide)
    (he : starEach (e :: es) X.env = (false, eval e X.env) :: starEach es X.env := by rfl) (hpl : (backTo pos (starEach es X.env)).any (·.1) = false := by rfl) : RE X W (.Call (.Name x p) (e :: es) [] pos) (fnE pp g) :=
  pe_imp (pe_callTy hc hg hm hv ha hn hdb he hpl) fun _ _ _ t => t_fn hr t
/-- a built-in type as a value -/
theorem re_ty {x : Str} {T : String} (hm : X.mg x = none) (hv : bootBuiltins x = some (.type T)) (hg : Gl X x := by rfl) (hn : x ≠ "__name__" := by decide) (hd : (x == ("__debug__" : Str)) = false := by decide) : RE X W (.Name x pos) (cn (.raw (.ty T))) :=
  re_cn (pe_bltn (v := .ty T) hg hm hv rfl hn hd) fun _ _ _ => .raw _
end
def pLen : List D → Option D
  | [.str z] => if szOk z.length = true then some (.int z.length) else none
  | [.tup ds] => some (.int ds.length)
  | [.dct ds] => some (.int ds.length)
  | [x] => match lsI x with
    | some ds => some (.int ds.length)
    | none => none
  | _ => none
theorem call_lenR {X : Cx} : CallR X (.builtin "len") (fun xs H Q => ∃ a kvs, xs = [V.ref a] ∧ Rd H a (.dK kvs) ∧ Q (.int kvs.length) H) := by
  intro pins s σ H xs us Q I r h
  obtain ⟨a, kvs, rfl, ha, q⟩ := h
  obtain ⟨u, rfl, ru⟩ := vals1 r
  cases ru
  exact d_len I ha fun t s' I' => ⟨.int kvs.length, H, I', ⟨t, rfl⟩, q⟩
theorem RDk.length {C : Ct0} {B : Bd} {H : Hp} : ∀ {us : List (D × D)} {vs : List (Key × V)}, RDk C B H us vs → us.length = vs.length
  | _, _, .nil => rfl
  | _, _, .cons _ _ b => congrArg (· + 1) (RDk.length b)
theorem RV.dctI {C : Ct0} {B : Bd} {H : Hp} {ds : List (D × D)} {v : V} (h : RV C B H (.dct ds) v) : ∃ a vs, v = .ref a ∧ Rd H a (.dK vs) ∧ RDk C B H ds vs := by
  cases h with
  | of h =>
    cases h with
    | dct nb hs q => exact ⟨_, _, rfl, hs, q⟩
  | dct hs q => exact ⟨_, _, rfl, hs, q⟩
def rLenA (K : PySem.W.Frag) : List V → Hp → VK → Prop := fun vs H Q => (∃ x n, vs = [x] ∧ LenV K x H n ∧ Q (.int n) H) ∨ ∃ a kvs, vs = [V.ref a] ∧ Rd H a (.dK kvs) ∧ Q (.int kvs.length) H
theorem call_lenA {X : Cx} : CallR X (.builtin "len") (rLenA X.K) := callR_or call_len call_lenR
theorem fn_len {C : Ct} : FnC C pLen (rLenA C.K) := by
  intro B r H h ds vs c Q w rv e q
  unfold pLen at e
  split at e
  · split at e
    · rename_i z hz
      cases e
      obtain ⟨v, rfl, r1⟩ := rv.one
      have e1 := r1.strI
      subst e1
      exact .inl ⟨_, _, rfl, ⟨szOk_le hz, rfl⟩, q _ _ _ w.toOwn.gr (.int _)⟩
    · cases e
  · cases e
    obtain ⟨v, rfl, r1⟩ := rv.one
    obtain ⟨a, vs, rfl, h1, h2, _⟩ := r1.tupI
    rw [h2.length] at q
    exact .inl ⟨_, _, rfl, .inr ⟨_, h1, rfl⟩, q _ _ _ w.toOwn.gr (.int _)⟩
  · cases e
    obtain ⟨v, rfl, r1⟩ := rv.one
    obtain ⟨a, vs, rfl, h1, h2⟩ := r1.dctI
    rw [h2.length] at q
    exact .inr ⟨_, _, rfl, h1, q _ _ _ w.toOwn.gr (.int _)⟩
  · split at e
    · rename_i ds hds
      cases e
      obtain ⟨v, rfl, r1⟩ := rv.one
      obtain ⟨a, vs, rfl, h1, h2⟩ := r1.items hds
      rw [h2.length] at q
      exact .inl ⟨_, _, rfl, .inl ⟨_, h1, rfl⟩, q _ _ _ w.toOwn.gr (.int _)⟩
    · cases e
  · cases e
/-- len, also of what may change and holds such -/
def lenU (h : Hea) (u : U) : Option D := match u with
  | .loc n => match h[n]? with
    | some (.lst us) => some (.int us.length)
    | some (.dct us) => some (.int us.length)
    | _ => none
  | .tup us => some (.int us.length)
  | .d x => pLen [x]
def lenE (g : M (List U)) : M U := mbnd g fun us _ h => match us with
  | [u] => (match lenU h u with
    | some c => some (.ok (.d c) h)
    | none => none)
  | _ => none
theorem RUk.length {C : Ct} {B : Bd} {r : Rho} {H : Hp} : ∀ {us : List (D × U)} {vs : List (Key × V)}, RUk C B r H us vs → us.length = vs.length
  | _, _, .nil => rfl
  | _, _, .cons _ _ b => congrArg (· + 1) (RUk.length b)
theorem lenU_ok {C : Ct} {B : Bd} {r : Rho} {H : Hp} {h : Hea} {u : U} {v : V} {c : D} {Q : VK} (w : Wd C B r H h) (ru : RU C B r H u v) (e : lenU h u = some c) (q : ∀ B' H' z, Gr B H B' H' → RD C.toCt0 B' H' c z → Q z H') : rLenA C.K [v] H Q := by
  unfold lenU at e
  split at e
  · rename_i n
    cases ru with
    | loc hn =>
      obtain ⟨o, h1, ro⟩ := w.obj _ _ hn
      split at e
      · rename_i us ho
        rw [ho] at h1
        cases h1
        cases e
        obtain ⟨vs, h2, h3⟩ := ro
        rw [h3.length] at q
        exact .inl ⟨_, _, rfl, .inl ⟨_, SqL.of h2, rfl⟩, q _ _ _ w.toOwn.gr (.int _)⟩
      · rename_i us ho
        rw [ho] at h1
        cases h1
        cases e
        obtain ⟨vs, h2, h3⟩ := ro
        rw [h3.length] at q
        exact .inr ⟨_, _, rfl, .inl h2, q _ _ _ w.toOwn.gr (.int _)⟩
      · cases e
    | gone hn =>
      simp only [w.gon _ hn] at e
      cases e
  · cases e
    cases ru with
    | tup hs qs =>
      rw [qs.length] at q
      exact .inl ⟨_, _, rfl, .inr ⟨_, hs, rfl⟩, q _ _ _ w.toOwn.gr (.int _)⟩
  · cases ru with
    | d rd => exact fn_len (r := r) (h := h) w (.cons (.of rd) .nil) e q
section
variable {X : Cx} {W : Wj} {pos p : Pos} {e : Expr} {g : M (List U)}
theorem re_len (hm : X.mg "len" = none) (ha : RA X W [e] g) (hg : Gl X "len" := by rfl) (he : starEach [e] X.env = (false, eval e X.env) :: starEach [] X.env := by rfl) : RE X W (.Call (.Name "len" p) [e] [] pos) (lenE g) :=
  pe_imp (pe_callB call_lenA hg hm rfl ha (he := he)) fun σ H Q t => tG.bnd t fun us B r H1 h δ vs w s ru q => by
    try dsimp only at q
    split at q
    · rename_i u
      split at q
      · rename_i c hc
        obtain ⟨v, rfl, r1⟩ := ru.one
        exact lenU_ok w r1 hc fun B' H' z gr rd => EQ.gr w q gr (.d rd)
      · exact q.elim
    · exact q.elim
end
def strOk (i : Int) : Bool := decide (i.natAbs.log2 < 1920)
def pStr : List D → Option D
  | [.int i] => if strOk i = true then some (.str (toString i)) else none
  | [.str a] => some (.str a)
  | _ => none
def rStr : List V → Hp → VK → Prop := fun xs H Q => (∃ i, xs = [.int i] ∧ i.natAbs.log2 < 1920 ∧ Q (.str (toString i)) H) ∨ ∃ a, xs = [.str a] ∧ Q (.str a) H
theorem call_strA {X : Cx} : CallR X (.type "str") rStr := callR_or call_str_int SkE.call_str_str
theorem fn_str {C : Ct} : FnC C pStr rStr := by
  intro B r H h ds vs c Q w rv e q
  unfold pStr at e
  split at e
  · split at e
    · rename_i i hz
      cases e
      obtain ⟨v, rfl, r1⟩ := rv.one
      have e1 := r1.intI
      subst e1
      exact .inl ⟨_, rfl, of_decide_eq_true hz, q _ _ _ w.toOwn.gr (.str _)⟩
    · cases e
  · cases e
    obtain ⟨v, rfl, r1⟩ := rv.one
    have e1 := r1.strI
    subst e1
    exact .inr ⟨_, rfl, q _ _ _ w.toOwn.gr (.str _)⟩
  · cases e
def len640 (a : Str) : Bool := decide (a.length ≤ 640)
def pInt : List D → Option D
  | [.int i] => some (.int i)
  | [.bl k] => some (.int (if k then 1 else 0))
  | [.str a] => if len640 a = true then (intText? a).map .int else none
  | _ => none
def rInt : List V → Hp → VK → Prop := fun xs H Q => ((∃ i, xs = [.int i] ∧ Q (.int i) H) ∨ ∃ k, xs = [.bl k] ∧ Q (.int (if k then 1 else 0)) H) ∨ ∃ a n, xs = [.str a] ∧ PySem.intText? a = some n ∧ a.length ≤ 640 ∧ Q (.int n) H
theorem call_intA {X : Cx} : CallR X (.type "int") rInt := callR_or call_int1 call_int_str
theorem fn_int {C : Ct} : FnC C pInt rInt := by
  intro B r H h ds vs c Q w rv e q
  unfold pInt at e
  split at e
  · cases e
    obtain ⟨v, rfl, r1⟩ := rv.one
    have e1 := r1.intI
    subst e1
    exact .inl (.inl ⟨_, rfl, q _ _ _ w.toOwn.gr (.int _)⟩)
  · cases e
    obtain ⟨v, rfl, r1⟩ := rv.one
    have e1 := r1.blI
    subst e1
    exact .inl (.inr ⟨_, rfl, q _ _ _ w.toOwn.gr (.int _)⟩)
  · split at e
    · rename_i a hz
      obtain ⟨v, rfl, r1⟩ := rv.one
      have e1 := r1.strI
      subst e1
      obtain ⟨n, hn, hc⟩ := Option.map_eq_some_iff.mp e
      subst hc
      exact .inr ⟨_, n, rfl, hn, of_decide_eq_true hz, q _ _ _ w.toOwn.gr (.int _)⟩
    · cases e
  · cases e
def pBool : List D → Option D
  | [.int i] => some (.bl (i != 0))
  | [.bl k] => some (.bl k)
  | _ => none
theorem fn_bool {C : Ct} : FnC C pBool (fun xs H Q => (∃ i, xs = [.int i] ∧ Q (.bl (i != 0)) H) ∨ ∃ k, xs = [.bl k] ∧ Q (.bl k) H) := by
  intro B r H h ds vs c Q w rv e q
  unfold pBool at e
  split at e
  · cases e
    obtain ⟨v, rfl, r1⟩ := rv.one
    have e1 := r1.intI
    subst e1
    exact .inl ⟨_, rfl, q _ _ _ w.toOwn.gr (.bl _)⟩
  · cases e
    obtain ⟨v, rfl, r1⟩ := rv.one
    have e1 := r1.blI
    subst e1
    exact .inr ⟨_, rfl, q _ _ _ w.toOwn.gr (.bl _)⟩
  · cases e
def pAbs : List D → Option D
  | [.int i] => some (.int (if i < 0 then -i else i))
  | _ => none
theorem fn_abs {C : Ct} : FnC C pAbs (fun xs H Q => ∃ i, xs = [.int i] ∧ Q (.int (if i < 0 then -i else i)) H) := by
  intro B r H h ds vs c Q w rv e q
  unfold pAbs at e
  split at e
  · cases e
    obtain ⟨v, rfl, r1⟩ := rv.one
    have e1 := r1.intI
    subst e1
    exact ⟨_, rfl, q _ _ _ w.toOwn.gr (.int _)⟩
  · cases e
/-- items that are all of one kind -/
def blsD : List D → Option (List Bool)
  | [] => some []
  | .bl b :: r => (blsD r).map (b :: ·)
  | _ => none
def intsD : List D → Option (List Int)
  | [] => some []
  | .int b :: r => (intsD r).map (b :: ·)
  | _ => none
def strsD : List D → Option (List Str)
  | [] => some []
  | .str b :: r => (strsD r).map (b :: ·)
  | _ => none
section
variable {C : Ct0} {B : Bd} {H : Hp}
theorem RDs.bls : ∀ {ds : List D} {vs : List V} {bs : List Bool}, RDs C B H ds vs → blsD ds = some bs → vs = bs.map V.bl
  | [], _, _, .nil, e => by cases e; rfl
  | d :: ds, _, bs, .cons a b, e => by
    unfold blsD at e
    split at e
    · rename_i h0; cases h0
    · rename_i x r h0
      cases h0
      obtain ⟨n, hn, hc⟩ := Option.map_eq_some_iff.mp e
      subst hc
      cases a
      rw [RDs.bls b hn]
      rfl
    · cases e
theorem RDs.intsI : ∀ {ds : List D} {vs : List V} {bs : List Int}, RDs C B H ds vs → intsD ds = some bs → vs = bs.map V.int
  | [], _, _, .nil, e => by cases e; rfl
  | d :: ds, _, bs, .cons a b, e => by
    unfold intsD at e
    split at e
    · rename_i h0; cases h0
    · rename_i x r h0
      cases h0
      obtain ⟨n, hn, hc⟩ := Option.map_eq_some_iff.mp e
      subst hc
      cases a
      rw [RDs.intsI b hn]
      rfl
    · cases e
theorem RDs.strsI : ∀ {ds : List D} {vs : List V} {bs : List Str}, RDs C B H ds vs → strsD ds = some bs → vs = bs.map V.str
  | [], _, _, .nil, e => by cases e; rfl
  | d :: ds, _, bs, .cons a b, e => by
    unfold strsD at e
    split at e
    · rename_i h0; cases h0
    · rename_i x r h0
      cases h0
      obtain ⟨n, hn, hc⟩ := Option.map_eq_some_iff.mp e
      subst hc
      cases a
      rw [RDs.strsI b hn]
      rfl
    · cases e
end
def pAll : List D → Option D
  | [x] => match lsI x with
    | some ds => (blsD ds).map fun bs => .bl (bs.all id)
    | none => none
  | _ => none
def pAny : List D → Option D
  | [x] => match lsI x with
    | some ds => (blsD ds).map fun bs => .bl (bs.any id)
    | none => none
  | _ => none
def pSum : List D → Option D
  | [x] => match lsI x with
    | some ds => (intsD ds).map fun bs => .int bs.sum
    | none => none
  | _ => none
theorem fn_all {C : Ct} : FnC C pAll (rAll C.K) := by
  intro B r H h ds vs c Q w rv e q
  unfold pAll at e
  split at e
  · split at e
    · rename_i x ds hds
      obtain ⟨v, rfl, r1⟩ := rv.one
      obtain ⟨bs, hb, hc⟩ := Option.map_eq_some_iff.mp e
      subst hc
      obtain ⟨a, vs, rfl, h1, h2⟩ := r1.items hds
      rw [h2.bls hb] at h1
      exact ⟨a, bs, rfl, h1, q _ _ _ w.toOwn.gr (.bl _)⟩
    · cases e
  · cases e
theorem fn_any {C : Ct} : FnC C pAny (rAny C.K) := by
  intro B r H h ds vs c Q w rv e q
  unfold pAny at e
  split at e
  · split at e
    · rename_i x ds hds
      obtain ⟨v, rfl, r1⟩ := rv.one
      obtain ⟨bs, hb, hc⟩ := Option.map_eq_some_iff.mp e
      subst hc
      obtain ⟨a, vs, rfl, h1, h2⟩ := r1.items hds
      rw [h2.bls hb] at h1
      exact ⟨a, bs, rfl, h1, q _ _ _ w.toOwn.gr (.bl _)⟩
    · cases e
  · cases e
theorem fn_sum {C : Ct} : FnC C pSum (rSum C.K) := by
  intro B r H h ds vs c Q w rv e q
  unfold pSum at e
  split at e
  · split at e
    · rename_i x ds hds
      obtain ⟨v, rfl, r1⟩ := rv.one
      obtain ⟨bs, hb, hc⟩ := Option.map_eq_some_iff.mp e
      subst hc
      obtain ⟨a, vs, rfl, h1, h2⟩ := r1.items hds
      rw [h2.intsI hb] at h1
      exact ⟨a, bs, rfl, h1, q _ _ _ w.toOwn.gr (.int _)⟩
    · cases e
  · cases e
def pMin : List D → Option D
  | [.int i, .int j] => some (.int (if j < i then j else i))
  | _ => none
def pMax : List D → Option D
  | [.int i, .int j] => some (.int (if j > i then j else i))
  | _ => none
theorem fn_min {C : Ct} : FnC C pMin (fun xs H Q => ∃ i j, xs = [.int i, .int j] ∧ Q (.int (if j < i then j else i)) H) := by
  intro B r H h ds vs c Q w rv e q
  unfold pMin at e
  split at e
  · cases e
    obtain ⟨v, u, rfl, r1, r2⟩ := rv.two
    have e1 := r1.intI
    have e2 := r2.intI
    subst e1 e2
    exact ⟨_, _, rfl, q _ _ _ w.toOwn.gr (.int _)⟩
  · cases e
theorem fn_max {C : Ct} : FnC C pMax (fun xs H Q => ∃ i j, xs = [.int i, .int j] ∧ Q (.int (if j > i then j else i)) H) := by
  intro B r H h ds vs c Q w rv e q
  unfold pMax at e
  split at e
  · cases e
    obtain ⟨v, u, rfl, r1, r2⟩ := rv.two
    have e1 := r1.intI
    have e2 := r2.intI
    subst e1 e2
    exact ⟨_, _, rfl, q _ _ _ w.toOwn.gr (.int _)⟩
  · cases e
/-- list(x): the new one is not to change; tuple(x) -/
def pList : List D → Option D
  | [.tup ds] => some (.lst ds)
  | [x] => (lsI x).map .lst
  | _ => none
def pTuple : List D → Option D
  | [.tup ds] => some (.tup ds)
  | [x] => (lsI x).map .tup
  | _ => none
theorem fn_list {C : Ct} : FnC C pList (fun xs H Q => ∃ p ys, xs = [.ref p] ∧ (SqL C.K H p ys ∨ SqT C.K H p ys) ∧ ∀ l, H l = none → Q (.ref l) (upd H l (.lst ys))) := by
  intro B r H h ds vs c Q w rv e q
  unfold pList at e
  split at e
  · cases e
    obtain ⟨v, rfl, r1⟩ := rv.one
    obtain ⟨a, vs, rfl, h1, h2, _⟩ := r1.tupI
    refine ⟨a, vs, rfl, .inr h1, fun p hp => ?_⟩
    have g := w.toOwn.new hp (.lst vs)
    exact q _ _ _ g (.lst ⟨w.toOwn.nb hp, upd_same⟩ (h2.ext (g.ext (r := r)) w.toOwn))
  · obtain ⟨v, rfl, r1⟩ := rv.one
    obtain ⟨ds, hd, hc⟩ := Option.map_eq_some_iff.mp e
    subst hc
    obtain ⟨a, vs, rfl, h1, h2⟩ := r1.items hd
    refine ⟨a, vs, rfl, .inl h1, fun p hp => ?_⟩
    have g := w.toOwn.new hp (.lst vs)
    exact q _ _ _ g (.lst ⟨w.toOwn.nb hp, upd_same⟩ (h2.ext (g.ext (r := r)) w.toOwn))
  · cases e
theorem fn_tuple {C : Ct} : FnC C pTuple (fun xs H Q => ∃ p ys, xs = [.ref p] ∧ ((SqL C.K H p ys ∧ ∀ l, H l = none → Q (.ref l) (upd H l (.tup ys))) ∨ (SqT C.K H p ys ∧ Q (.ref p) H))) := by
  intro B r H h ds vs c Q w rv e q
  unfold pTuple at e
  split at e
  · cases e
    obtain ⟨v, rfl, r1⟩ := rv.one
    obtain ⟨a, vs, rfl, h1, h2, h3⟩ := r1.tupI
    exact ⟨a, vs, rfl, .inr ⟨h1, q _ _ _ w.toOwn.gr h3⟩⟩
  · obtain ⟨v, rfl, r1⟩ := rv.one
    obtain ⟨ds, hd, hc⟩ := Option.map_eq_some_iff.mp e
    subst hc
    obtain ⟨a, vs, rfl, h1, h2⟩ := r1.items hd
    refine ⟨a, vs, rfl, .inl ⟨h1, fun p hp => ?_⟩⟩
    have g := w.toOwn.new hp (.tup vs)
    exact q _ _ _ g (.tup (SqT.of upd_same) (h2.ext (g.ext (r := r)) w.toOwn))
  · cases e
/-- list(x), to be changed -/
def lstOfN (g : M (List U)) : M U := mbnd g fun us _ h => match viewS h us with
  | some ds => (match pList ds with
    | some (.lst xs) => newE (.lst (xs.map .d)) [] h
    | _ => none)
  | none => none
theorem pList_lst {ds : List D} {c : D} (h : pList ds = some c) : ∃ xs, c = .lst xs := by
  unfold pList at h
  split at h
  · cases h
    exact ⟨_, rfl⟩
  · obtain ⟨ds, hd, hc⟩ := Option.map_eq_some_iff.mp h
    exact ⟨_, hc.symm⟩
  · cases h
section
variable {X : Cx} {W : Wj} {pos p : Pos} {e : Expr} {g : M (List U)}
theorem re_listN (hm : X.mg "list" = none) (ha : RA X W [e] g) (hg : Gl X "list" := by rfl) (he : starEach [e] X.env = (false, eval e X.env) :: starEach [] X.env := by rfl) : RE X W (.Call (.Name "list" p) [e] [] pos) (lstOfN g) :=
  pe_imp (pe_callTy call_list_of hg hm rfl ha (he := he)) fun σ H Q t => tG.bnd t fun us B r H1 h δ vs w s ru q => by
    try dsimp only at q
    split at q
    · rename_i ds hv
      split at q
      · rename_i xs hp
        have rv := w.viewS ru hv
        have fin : ∀ {a : Addr} {ys : List V}, RDs (ctX X W).toCt0 B H1 xs ys → ∀ l, H1 l = none → Q (.ref l) (upd H1 l (.lst ys)) := fun {a ys} h2 l hl => by
          obtain ⟨ex, w2⟩ := w.add (o := .lst (xs.map .d)) hl (notup_lst (xs := ys)) fun ex => ⟨ys, upd_same, (h2.ext ex w.toOwn).us⟩
          exact q _ _ _ _ ex w2 (.loc (by rw [← w.len]; simp))
        unfold pList at hp
        split at hp
        · cases hp
          obtain ⟨v, rfl, r1⟩ := rv.one
          obtain ⟨a, vs, rfl, h1, h2, _⟩ := r1.tupI
          exact ⟨a, vs, rfl, .inr h1, fin (a := a) h2⟩
        · obtain ⟨v, rfl, r1⟩ := rv.one
          obtain ⟨ds, hd, hc⟩ := Option.map_eq_some_iff.mp hp
          cases hc
          obtain ⟨a, vs, rfl, h1, h2⟩ := r1.items hd
          exact ⟨a, vs, rfl, .inl h1, fin (a := a) h2⟩
        · cases hp
      · exact q.elim
    · exact q.elim
end
def inStr (x z : Str) : Bool := match x.cps.toList with
  | [c] => decide (c ∈ z.cps.toList)
  | _ => !(Builtin.Str.occurrences z x 0 z.length 1).isEmpty
def inB : D → D → Option Bool
  | .str x, .str z => some (inStr x z)
  | x, y => match toPy x, toPy y with
    | some d, some (.list ds) => if (SeqAt.shaped d && SeqAt.shaped (.list ds)) = true then some (ds.any fun z => PyData.eqv z d) else none
    | _, _ => none
def pIn (x y : D) : Option D := (inB x y).map .bl
def pNotIn (x y : D) : Option D := (inB x y).map fun b => .bl (!b)
theorem one_sign {x : Str} {c : Nat} (h : x.cps.toList = [c]) : x = ⟨#[c]⟩ := by
  obtain ⟨⟨l⟩⟩ := x
  dsimp only at h
  subst h
  rfl
theorem inB_ok {C : Ct} {B : Bd} {H : Hp} {x y : D} {v w : V} {b : Bool} (rx : RV C.toCt0 B H x v) (ry : RV C.toCt0 B H y w) (e : inB x y = some b) :
    (∃ i j, v = .str i ∧ w = .str j ∧ ((!(Builtin.Str.occurrences j i 0 j.length 1).isEmpty) = b)) ∨ ∃ d ds, Dp C.K H v d ∧ Dp C.K H w (.list ds) ∧ SeqAt.shaped d = true ∧ SeqAt.shaped (.list ds) = true ∧ (ds.any fun z => PyData.eqv z d) = b := by
  unfold inB at e
  split at e
  · cases e
    refine .inl ⟨_, _, rx.strI, ry.strI, ?_⟩
    unfold inStr
    split
    · rename_i c hc
      rw [one_sign hc]
      exact PySem.StrLaws.found_one _ c
    · rfl
  · split at e
    · rename_i d ds h1 h2
      split at e
      · rename_i hsh
        cases e
        rw [Bool.and_eq_true] at hsh
        exact .inr ⟨d, ds, rx.dp h1, ry.dp h2, hsh.1, hsh.2, rfl⟩
      · cases e
    · cases e
def rInAll (K : PySem.W.Frag) : R2 := fun x y H Q => (∃ i j, x = .str i ∧ y = .str j ∧ Q (.bl (!(Builtin.Str.occurrences j i 0 j.length 1).isEmpty)) H) ∨ rInD K x y H Q
def rNotInAll (K : PySem.W.Frag) : R2 := fun x y H Q => (∃ i j, x = .str i ∧ y = .str j ∧ Q (.bl (!(!(Builtin.Str.occurrences j i 0 j.length 1).isEmpty))) H) ∨ rNotInD K x y H Q
theorem op_inA {X : Cx} (hu : X.A.units + 65 < cLine) : OpR X (compareOp .In) (rInAll X.K) := OpR.or op_in_str (op_inD hu)
theorem op_notInA {X : Cx} (hu : X.A.units + 65 < cLine) : OpR X (compareOp .NotIn) (rNotInAll X.K) := OpR.or op_notin_str (op_notInD hu)
theorem op2_in {C : Ct} : Op2 C pIn (rInAll C.K) := by
  intro B r H h x y v w c Q wd rx ry e q
  obtain ⟨b, hb, hc⟩ := Option.map_eq_some_iff.mp e
  subst hc
  rcases inB_ok rx ry hb with ⟨i, j, rfl, rfl, e⟩ | ⟨d, ds, h1, h2, h3, h4, e⟩
  · exact .inl ⟨i, j, rfl, rfl, by rw [e]; exact q B H _ wd.toOwn.gr (.bl _)⟩
  · exact .inr ⟨d, ds, h1, h2, h3, h4, by rw [e]; exact q B H _ wd.toOwn.gr (.bl _)⟩
theorem op2_notIn {C : Ct} : Op2 C pNotIn (rNotInAll C.K) := by
  intro B r H h x y v w c Q wd rx ry e q
  obtain ⟨b, hb, hc⟩ := Option.map_eq_some_iff.mp e
  subst hc
  rcases inB_ok rx ry hb with ⟨i, j, rfl, rfl, e⟩ | ⟨d, ds, h1, h2, h3, h4, e⟩
  · exact .inl ⟨i, j, rfl, rfl, by rw [e]; exact q B H _ wd.toOwn.gr (.bl _)⟩
  · exact .inr ⟨d, ds, h1, h2, h3, h4, by rw [e]; exact q B H _ wd.toOwn.gr (.bl _)⟩
def MtC (C : Ct) (T : String) (p : D → List D → Option D) (rr : V → List V → Hp → VK → Prop) : Prop := ∀ {B : Bd} {r : Rho} {H : Hp} {h : Hea} {x : D} {v : V} {ds : List D} {vs : List V} {c : D} {Q : VK}, Wd C B r H h → RV C.toCt0 B H x v → RVs C.toCt0 B H ds vs → p x ds = some c →
  (∀ B' H' u, Gr B H B' H' → RD C.toCt0 B' H' c u → Q u H') → rr v vs H Q
/-- what kind the receiver must be of -/
def isT (T : String) : D → Bool
  | .str _ => T == "str"
  | .lst _ => T == "list"
  | .scr _ => T == "list"
  | _ => false
theorem isT_ok {C : Ct} {B : Bd} {H : Hp} {T : String} {x : D} {v : V} (rx : RV C.toCt0 B H x v) (h : isT T x = true) : tyV C.K T v H := by
  unfold isT at h
  split at h
  · rw [rx.strI]
    exact eq_of_beq h
  · obtain ⟨a, vs, rfl, h1, _⟩ := rx.lstI
    exact .inl ⟨eq_of_beq h, vs, SqL.of h1⟩
  · obtain ⟨a, rfl, h1⟩ := rx.scrI
    exact .inl ⟨eq_of_beq h, _, h1⟩
  · cases h
def bmE (T : String) (p : D → List D → Option D) (f : M U) (g : M (List U)) : M U := mbnd f fun x δ h => match view h x with
  | some d => if isT T d = true then mbnd g (fun us _ h => match view h x, viewS h us with
    | some d, some ds => (match p d ds with
      | some c => some (.ok (.d c) h)
      | none => none)
    | _, _ => none) δ h else none
  | none => none
def bm0E (T : String) (p : D → List D → Option D) (f : M U) : M U := mbnd f fun x _ h => match view h x with
  | some d => if isT T d = true then (match p d [] with
      | some c => some (.ok (.d c) h)
      | none => none) else none
  | none => none
section
variable {X : Cx} {W : Wj} {apos cpos : Pos} {o e : Expr} {es : List Expr} {f : M U} {g : M (List U)} {pp : D → List D → Option D} {rr : V → List V → Hp → VK → Prop} {T id : String} {name : Str}
theorem re_bm (pa : PlainAttrs T) (slot : Slot T name id) (hty : typeOf (.builtin id) = pure (.type "method_descriptor")) (hm : MtR X id rr) (hr : MtC (ctX X W) T pp rr) (ho : RE X W o f) (ha : RA X W (e :: es) g)
    (hbase : attributeBase o name X.env (eval o X.env) = eval o X.env := by rfl)
    (hfew : ((backTo cpos (starEach (e :: es) X.env)).all (fun x => !x.1) && (backToKw cpos (keywordEach [] X.env)).all (fun x => x.1.isSome)
      && decide ((e :: es).length + ([] : List Keyword).length + (if ([] : List Keyword).isEmpty then 0 else 1) < 30)) = true := by rfl)
    (hline : (apos.endLine == cpos.line) = true := by rfl) (hs : starEach (e :: es) X.env = (false, eval e X.env) :: starEach es X.env := by rfl) (hplain : (backTo cpos (starEach es X.env)).any (·.1) = false := by rfl) :
    RE X W (.Call (.Attribute o name apos) (e :: es) [] cpos) (bmE T pp f g) :=
  pe_imp (pe_bm pa slot hty hm ho ha hbase hfew hline hs hplain) fun σ H Q t => tG.bnd t fun x B r H1 h δ v w s rx q => by
    try dsimp only at q
    split at q
    · rename_i d hv
      split at q
      · rename_i ht
        refine ⟨isT_ok (w.view rx hv) ht, B, r, h, δ, w, s, q.bnd w s fun us B2 r2 H2 h2 vs e2 w2 s2 rus q2 => ?_⟩
        try dsimp only at q2
        split at q2
        · rename_i d2 ds hv2 hvs
          split at q2
          · rename_i c hp
            exact hr w2 (w2.view (rx.ext e2 w.toOwn) hv2) (w2.viewS rus hvs) hp fun B' H' u gr rd => EQ.gr w2 q2 gr (.d rd)
          · exact q2.elim
        · exact q2.elim
      · exact q.elim
    · exact q.elim
theorem re_bm0 (pa : PlainAttrs T) (slot : Slot T name id) (hty : typeOf (.builtin id) = pure (.type "method_descriptor")) (hm : MtR X id rr) (hr : MtC (ctX X W) T pp rr) (ho : RE X W o f)
    (hbase : attributeBase o name X.env (eval o X.env) = eval o X.env := by rfl) (hline : (apos.endLine == cpos.line) = true := by rfl) : RE X W (.Call (.Attribute o name apos) [] [] cpos) (bm0E T pp f) :=
  pe_imp (pe_bm0 pa slot hty hm ho hbase hline) fun σ H Q t => tG.bnd t fun x B r H1 h δ v w s rx q => by
    try dsimp only at q
    split at q
    · rename_i d hv
      split at q
      · rename_i ht
        split at q
        · rename_i c hp
          exact ⟨isT_ok (w.view rx hv) ht, hr w (w.view rx hv) .nil hp fun B' H' u gr rd => EQ.gr w q gr (.d rd)⟩
        · exact q.elim
      · exact q.elim
    · exact q.elim
end
def len2 (a : Str) : Bool := decide (a.length + 2 ≤ 16777216)
def pSplit : D → List D → Option D
  | .str a, [.str b] => if (!(b.length == 0) && len2 a) = true then some (.lst ((Txt.split a b).map .str)) else none
  | _, _ => none
theorem mt_splitC {C : Ct} : MtC C "str" pSplit (fun x xs H Q => ∃ a b, x = .str a ∧ xs = [.str b] ∧ (b.length == 0) = false ∧ a.length + 2 ≤ sizeLine ∧ rNewStrs (Txt.split a b) H Q) := by
  intro B r H h x v ds vs c Q w rx rv e q
  unfold pSplit at e
  split at e
  · split at e
    · rename_i a b hz
      cases e
      rw [Bool.and_eq_true] at hz
      obtain ⟨u, rfl, r1⟩ := rv.one
      refine ⟨_, _, rx.strI, by rw [r1.strI], by simpa using hz.1, by rw [sizeLine_eq]; exact of_decide_eq_true hz.2, fun p hp => ?_⟩
      have g := w.toOwn.new hp (.lst ((Txt.split a b).map V.str))
      exact q _ _ _ g (.lst ⟨w.toOwn.nb hp, upd_same⟩ RDs.strs)
    · cases e
  · cases e
def pJoin : D → List D → Option D
  | .str a, [.tup ds] => match strsD ds with
    | some ys => if szOk ((ys.map (·.length)).sum + ys.length * a.length) = true then some (.str (Txt.join a ys)) else none
    | none => none
  | .str a, [x] => match lsI x with
    | some ds => (match strsD ds with
      | some ys => if szOk ((ys.map (·.length)).sum + ys.length * a.length) = true then some (.str (Txt.join a ys)) else none
      | none => none)
    | none => none
  | _, _ => none
theorem mt_joinC {C : Ct} : MtC C "str" pJoin (fun x xs H Q => ∃ a p, ∃ ys : List Str, x = .str a ∧ xs = [.ref p] ∧ (SqL C.K H p (ys.map V.str) ∨ SqT C.K H p (ys.map V.str)) ∧ (ys.map (·.length)).sum + ys.length * a.length ≤ 16777216 ∧ Q (.str (Txt.join a ys)) H) := by
  intro B r H h x v ds vs c Q w rx rv e q
  unfold pJoin at e
  split at e
  · split at e
    · rename_i ys hy
      split at e
      · rename_i hz
        cases e
        obtain ⟨u, rfl, r1⟩ := rv.one
        obtain ⟨a, vs, rfl, h1, h2, _⟩ := r1.tupI
        rw [h2.strsI hy] at h1
        exact ⟨_, a, ys, rx.strI, rfl, .inr h1, of_decide_eq_true hz, q _ _ _ w.toOwn.gr (.str _)⟩
      · cases e
    · cases e
  · split at e
    · rename_i ds hd
      split at e
      · rename_i ys hy
        split at e
        · rename_i hz
          cases e
          obtain ⟨u, rfl, r1⟩ := rv.one
          obtain ⟨a, vs, rfl, h1, h2⟩ := r1.items hd
          rw [h2.strsI hy] at h1
          exact ⟨_, a, ys, rx.strI, rfl, .inl h1, of_decide_eq_true hz, q _ _ _ w.toOwn.gr (.str _)⟩
        · cases e
      · cases e
    · cases e
  · cases e
inductive Tg where
  | bt (s : String) | own (c : Str)
def tgD : D → Option Tg
  | .non => some (.bt "NoneType")
  | .bl _ => some (.bt "bool")
  | .int _ => some (.bt "int")
  | .str _ => some (.bt "str")
  | .tup _ => some (.bt "tuple")
  | .lst _ => some (.bt "list")
  | .scr _ => some (.bt "list")
  | .dct _ => some (.bt "dict")
  | .ins c _ => some (.own c)
  | .raw _ => none
def tgU (h : Hea) : U → Option Tg
  | .d x => tgD x
  | .tup _ => some (.bt "tuple")
  | .loc n => match h[n]? with
    | some (.lst _) => some (.bt "list")
    | some (.dct _) => some (.bt "dict")
    | some (.ins c _) => some (.own c)
    | _ => none
/-- what isinstance needs of own classes: their instances' type, by name -/
structure InsF (K : PySem.W.Frag) (C : Addr) : Prop where
  cl : Cls K C
  ha : PySem.W.findIn K (.ref C) "__class__" = some (some (.builtin "object.__class__"))
  hn : PySem.W.specialIn K (.builtin "object.__class__") "__get__" = some (some (.builtin "getset_descriptor.__get__"))
  htk : PySem.W.takesIn K (.builtin "object.__class__") = some true
  hm : PySem.W.mroIn K C (.type "object") = some true
def TgOk (C : Ct0) (t : Tg) (v : Value) : Prop := match t with
  | .bt s => v = .type s
  | .own c => ∃ Cd, C.mg c = some (.ref Cd) ∧ v = .ref Cd
def OwnsOk (K : PySem.W.Frag) (mg : Str → Option Value) (cs : List Str) : Prop := ∀ c ∈ cs, ∀ Cd, mg c = some (.ref Cd) → InsF K Cd
def tgIn (cs : List Str) : Tg → Bool
  | .bt _ => true
  | .own c => cs.contains c
theorem tup_ty {K : PySem.W.Frag} {H : Hp} {a : Addr} {vs : List V} (h : SqT K H a vs) : TyX K H (.ref a) (.type "tuple") := by
  rcases h with h | h
  · rcases h with h | ⟨o, h⟩
    · exact .base (.tup h)
    · exact .fTuple h
  · obtain ⟨o, its, n, h1, h2, _⟩ := h
    exact .kTuple h1 h2
theorem lst_ty {K : PySem.W.Frag} {H : Hp} {a : Addr} {vs : List V} (h : SqL K H a vs) : TyX K H (.ref a) (.type "list") := by
  rcases h with h | h
  · rcases h with h | ⟨o, h⟩
    · exact .base (.lst h)
    · exact .base (.frz h)
  · obtain ⟨o, its, n, h1, h2, _⟩ := h
    exact .kList h1 h2
theorem dct_ty {K : PySem.W.Frag} {H : Hp} {a : Addr} {vs : List (Key × V)} (h : Rd H a (.dK vs)) : TyX K H (.ref a) (.type "dict") := by
  rcases h with h | ⟨o, h⟩
  · exact .base (.dK h)
  · exact .fDict h
theorem tgD_ok {C : Ct0} {B : Bd} {H : Hp} {cs : List Str} (ho : OwnsOk C.K C.mg cs) {x : D} {v : V} {t : Tg} (rx : RD C B H x v) (e : tgD x = some t) (hi : tgIn cs t = true) : ∃ y, TyX C.K H v y ∧ TgOk C t y := by
  cases rx with
  | non => cases e; exact ⟨_, .base .non, rfl⟩
  | bl b => cases e; exact ⟨_, .base (.bl b), rfl⟩
  | int b => cases e; exact ⟨_, .base (.int b), rfl⟩
  | str b => cases e; exact ⟨_, .base (.str b), rfl⟩
  | tup hs q => cases e; exact ⟨_, tup_ty hs, rfl⟩
  | lst hs q => cases e; exact ⟨_, lst_ty hs.seq, rfl⟩
  | dct nb hs q => cases e; exact ⟨_, dct_ty hs, rfl⟩
  | ins m nb hs q =>
    cases e
    have z := ho _ (by simpa [tgIn] using hi) _ m
    exact ⟨_, .base (.ins hs z.cl z.ha z.hn z.htk z.hm), _, m, rfl⟩
  | raw v => cases e
  | scr hs => cases e; exact ⟨_, lst_ty hs.seq, rfl⟩
theorem tgU_ok {C : Ct} {B : Bd} {r : Rho} {H : Hp} {h : Hea} {cs : List Str} (ho : OwnsOk C.K C.mg cs) (w : Wd C B r H h) {u : U} {v : V} {t : Tg} (ru : RU C B r H u v) (e : tgU h u = some t) (hi : tgIn cs t = true) : ∃ y, TyX C.K H v y ∧ TgOk C.toCt0 t y := by
  cases ru with
  | d rd => exact tgD_ok ho rd e hi
  | tup hs q => cases e; exact ⟨_, tup_ty hs, rfl⟩
  | gone hn =>
    unfold tgU at e
    simp only [w.gon _ hn] at e
    cases e
  | loc hn =>
    obtain ⟨o, h1, ro⟩ := w.obj _ _ hn
    unfold tgU at e
    simp only [h1] at e
    cases o with
    | lst us =>
      cases e
      obtain ⟨vs, h2, _⟩ := ro
      exact ⟨_, .base (.lst h2), rfl⟩
    | dct us =>
      cases e
      obtain ⟨vs, h2, _⟩ := ro
      exact ⟨_, .base (.dK h2), rfl⟩
    | ins c us =>
      cases e
      obtain ⟨Cd, dx, vs, m, h2, _⟩ := ro
      have z := ho _ (by simpa [tgIn] using hi) _ m
      exact ⟨_, .base (.ins h2 z.cl z.ha z.hn z.htk z.hm), _, m, rfl⟩
    | gone => cases e
/-- what is answered, by the tags -/
def isiE (cs : List Str) (an : Tg → Option Bool) (f : M U) : M U := mbnd f fun u _ h => match tgU h u with
  | some t => if tgIn cs t = true then (match an t with
    | some b => some (.ok (.d (.bl b)) h)
    | none => none) else none
  | none => none
/-- the class c (a value of the text) answers an -/
def IsiC (K : PySem.W.Frag) (mg : Str → Option Value) (c : Value) (an : Tg → Option Bool) : Prop := ∀ t b v, an t = some b → TgOk ⟨K, mg⟩ t v → PySem.W.kitOne K v c = some b
def anB (T : String) (cs : List (Str × Bool)) : Tg → Option Bool
  | .bt s => kitB s T
  | .own c => cs.lookup c
theorem isiC_bt {K : PySem.W.Frag} {mg : Str → Option Value} {T : String} {cs : List (Str × Bool)} (h : ∀ c b, cs.lookup c = some b → ∀ Cd, mg c = some (.ref Cd) → PySem.W.kitOne K (.ref Cd) (.type T) = some b) : IsiC K mg (.type T) (anB T cs) := by
  intro t b v e ok
  cases t with
  | bt s =>
    cases ok
    exact kit_ty e
  | own c =>
    obtain ⟨Cd, m, rfl⟩ := ok
    exact h c b e Cd m
section
variable {X : Cx} {W : Wj} {pos p p2 : Pos} {e : Expr} {f : M U} {cs : List Str} {an : Tg → Option Bool} {x : Str}
theorem t_isi {C : Ct} {σ : L2.St} {H : Hp} {Q : VK} {cv : V} {c : Value} (hk : ClsV cv c) (ho : OwnsOk C.K C.mg cs) (hi : IsiC C.K C.mg c an) (t : tI C W (isiE cs an f) σ H Q) : tCB (rIsi C.K) (tCons (tI C W f) (tCons (tC cv) tNil)) σ H Q := by
  refine tG.bnd t fun u B r H1 h δ v w s ru q => ?_
  try dsimp only at q
  split at q
  · rename_i tg htg
    split at q
    · rename_i hin
      split at q
      · rename_i b hb
        obtain ⟨y, h1, h2⟩ := tgU_ok ho w ru htg hin
        exact ⟨v, cv, y, c, b, rfl, hk, h1, hi _ _ _ hb h2, EQ.ret w q (.d (.bl b))⟩
      · exact q.elim
    · exact q.elim
  · exact q.elim
theorem re_isiB {T : String} (tb : List (Str × Bool)) (ho : OwnsOk X.K X.mg cs) (hi : IsiC X.K X.mg (.type T) (anB T tb)) (hm : X.mg "isinstance" = none) (hmT : X.mg x = none) (hvT : bootBuiltins x = some (.type T)) (he : RE X W e f) (hg : Gl X "isinstance" := by rfl) (hgT : Gl X x := by rfl)
    (hn : x ≠ "__name__" := by decide) (hd : (x == ("__debug__" : Str)) = false := by decide) (hs : starEach [e, .Name x p2] X.env = (false, eval e X.env) :: starEach [.Name x p2] X.env := by rfl)
    (hs2 : starEach [.Name x p2] X.env = (false, eval (.Name x p2) X.env) :: starEach [] X.env := by rfl) (hpl : (backTo pos (starEach [.Name x p2] X.env)).any (·.1) = false := by rfl) :
    RE X W (.Call (.Name "isinstance" p) [e, .Name x p2] [] pos) (isiE cs (anB T tb) f) :=
  pe_imp (pe_callB call_isi hg hm rfl (pa_cons he (pa_cons (pe_bltn (v := .ty T) hgT hmT hvT rfl hn hd) pa_nil hs2) hs) (he := hs) (hpl := hpl)) fun _ _ _ t => t_isi (.ty T) ho hi t
/-- .. an own class of the module -/
theorem re_isiO {Cd : Addr} (ho : OwnsOk X.K X.mg cs) (hm : X.mg "isinstance" = none) (hmC : X.mg x = some (.ref Cd)) (hi : IsiC X.K X.mg (.ref Cd) an) (he : RE X W e f) (hg : Gl X "isinstance" := by rfl) (hgT : Gl X x := by rfl)
    (hd : (x == ("__debug__" : Str)) = false := by decide) (hs : starEach [e, .Name x p2] X.env = (false, eval e X.env) :: starEach [.Name x p2] X.env := by rfl)
    (hs2 : starEach [.Name x p2] X.env = (false, eval (.Name x p2) X.env) :: starEach [] X.env := by rfl) (hpl : (backTo pos (starEach [.Name x p2] X.env)).any (·.1) = false := by rfl) :
    RE X W (.Call (.Name "isinstance" p) [e, .Name x p2] [] pos) (isiE cs an f) :=
  pe_imp (pe_callB call_isi hg hm rfl (pa_cons he (pa_cons (pe_glob (v := .ref Cd) hgT hmC rfl hd) pa_nil hs2) hs) (he := hs) (hpl := hpl)) fun _ _ _ t => t_isi (.own Cd) ho hi t
end
/-- the list's items, by what f gives from them and the arguments -/
def lmE (p : List U → List U → Option (U × List U)) (f : M U) (g : M (List U)) : M U := mbnd f fun x δ h => match x with
  | .loc n => (match h[n]? with
    | some (.lst _) => mbnd g (fun us _ h => match h[n]? with
      | some (.lst xs) => (match p xs us with
        | some (u, ys) => some (.ok u (h.set n (.lst ys)))
        | none => none)
      | _ => none) δ h
    | _ => none)
  | _ => none
def LmC (C : Ct) (p : List U → List U → Option (U × List U)) (rr : V → List V → Hp → VK → Prop) : Prop := ∀ {B : Bd} {r : Rho} {H : Hp} {xs us ys : List U} {u : U} {vs ws : List V} {a : Addr} {Q : VK}, p xs us = some (u, ys) → H a = some (.lst vs) → RUs C B r H xs vs → RUs C B r H us ws →
  (∀ ys' v, RUs C B r H ys ys' → RU C B r H u v → Q v (upd H a (.lst ys'))) → rr (.ref a) ws H Q
theorem lm_end {C : Ct} {W : Wj} {σ : L2.St} {B : Bd} {r : Rho} {H : Hp} {h : Hea} {p : List U → List U → Option (U × List U)} {rr : V → List V → Hp → VK → Prop} {us xs ys : List U} {u : U} {vs : List V} {n : Nat} {a : Addr} {Q : VK} (hr : LmC C p rr) (w : Wd C B r H h) (hn : r[n]? = some (some a))
    (ho : h[n]? = some (.lst xs)) (hp : p xs us = some (u, ys)) (ru : RUs C B r H us vs) (q : EQ C W σ B r H (some (.ok u (h.set n (.lst ys)))) (RU C) Q) : rr (.ref a) vs H Q := by
  obtain ⟨o, h1, ro⟩ := w.obj n a hn
  rw [ho] at h1
  cases h1
  obtain ⟨xs', h2, h3⟩ := ro
  refine hr hp h2 h3 ru fun ys' v r1 r2 => ?_
  obtain ⟨ex, w2⟩ := w.put hn (notup_lst (xs := ys')) (o := .lst ys) fun ex => ⟨ys', upd_same, r1.ext ex w.toOwn⟩
  exact q _ _ _ _ ex w2 (r2.ext ex w.toOwn)
section
variable {X : Cx} {W : Wj} {apos cpos : Pos} {o e : Expr} {es : List Expr} {f : M U} {g : M (List U)} {pp : List U → List U → Option (U × List U)} {rr : V → List V → Hp → VK → Prop} {id : String} {name : Str}
theorem t_lm {C : Ct} {σ : L2.St} {H : Hp} {Q : VK} (hr : LmC C pp rr) (t : tI C W (lmE pp f g) σ H Q) : tBM C.K "list" rr (tI C W f) (tA C W g) σ H Q := by
  refine tG.bnd t fun x B r H1 h δ v w s rx q => ?_
  try dsimp only at q
  split at q
  · rename_i n
    split at q
    · rename_i xs0 ho0
      cases rx with
      | @loc n a hn =>
        obtain ⟨o, h1, ro⟩ := w.obj n a hn
        rw [ho0] at h1
        cases h1
        obtain ⟨vs, h2, h3⟩ := ro
        refine ⟨.inl ⟨rfl, vs, SqL.of h2⟩, B, r, h, δ, w, s, q.bnd w s fun us B2 r2 H2 h2 ws e2 w2 s2 rus q2 => ?_⟩
        try dsimp only at q2
        split at q2
        · rename_i xs ho
          split at q2
          · rename_i u ys hp
            rcases e2.rho n _ hn with hn2 | hn2
            · exact lm_end hr w2 hn2 ho hp rus q2
            · rw [w2.gon n hn2] at ho
              cases ho
          · exact q2.elim
        · exact q2.elim
      | gone hn =>
        rw [w.gon _ hn] at ho0
        cases ho0
    · exact q.elim
  · exact q.elim
theorem re_lm (slot : Slot "list" name id) (hty : typeOf (.builtin id) = pure (.type "method_descriptor")) (hm : MtR X id rr) (hr : LmC (ctX X W) pp rr) (ho : RE X W o f) (ha : RA X W (e :: es) g)
    (hbase : attributeBase o name X.env (eval o X.env) = eval o X.env := by rfl)
    (hfew : ((backTo cpos (starEach (e :: es) X.env)).all (fun x => !x.1) && (backToKw cpos (keywordEach [] X.env)).all (fun x => x.1.isSome)
      && decide ((e :: es).length + ([] : List Keyword).length + (if ([] : List Keyword).isEmpty then 0 else 1) < 30)) = true := by rfl)
    (hline : (apos.endLine == cpos.line) = true := by rfl) (hs : starEach (e :: es) X.env = (false, eval e X.env) :: starEach es X.env := by rfl) (hplain : (backTo cpos (starEach es X.env)).any (·.1) = false := by rfl) :
    RE X W (.Call (.Attribute o name apos) (e :: es) [] cpos) (lmE pp f g) :=
  pe_imp (pe_bm PySem.F.plainAttrs_list slot hty hm ho ha hbase hfew hline hs hplain) fun _ _ _ t => t_lm hr t
theorem re_lm0 (slot : Slot "list" name id) (hty : typeOf (.builtin id) = pure (.type "method_descriptor")) (hm : MtR X id rr) (hr : LmC (ctX X W) pp rr) (ho : RE X W o f)
    (hbase : attributeBase o name X.env (eval o X.env) = eval o X.env := by rfl) (hline : (apos.endLine == cpos.line) = true := by rfl) : RE X W (.Call (.Attribute o name apos) [] [] cpos) (lmE pp f mnil) :=
  pe_imp (pe_bm0 PySem.F.plainAttrs_list slot hty hm ho hbase hline) fun σ H Q t => by
    have q := t_lm hr t
    obtain ⟨B, r, h, δ, w, s, q⟩ := q
    refine ⟨B, r, h, δ, w, s, ?_⟩
    cases hf : f δ h with
    | none => rw [hf] at q; exact q
    | some y =>
      rw [hf] at q
      cases y with
      | exc ex h2 => exact q
      | ok u h2 =>
        intro B' r' H' v ex w' ru
        obtain ⟨z1, z2⟩ := q B' r' H' v ex w' ru
        refine ⟨z1, ?_⟩
        obtain ⟨B3, r3, h3, δ3, w3, s3, q3⟩ := z2
        exact EQ.ret w3 q3 .nil
end
def pAppend : List U → List U → Option (U × List U)
  | xs, [u] => if szOk (xs.length + 1) = true then some (.d .non, xs ++ [u]) else none
  | _, _ => none
theorem lm_append {C : Ct} : LmC C pAppend rAppend := by
  intro B r H xs us ys u vs ws a Q e hH rx ru q
  unfold pAppend at e
  split at e
  · split at e
    · rename_i hz
      cases e
      obtain ⟨v, rfl, r1⟩ := ru.one
      have := szOk_le hz
      exact ⟨a, vs, v, rfl, rfl, hH, by rw [← rx.length]; omega, q _ _ (rx.app2 (.cons r1 .nil)) (.d .non)⟩
    · cases e
  · cases e
def pPop : List U → List U → Option (U × List U)
  | xs, [] => match xs[xs.length - 1]? with
    | some u => some (u, xs.dropLast)
    | none => none
  | _, _ => none
theorem lm_pop {C : Ct} : LmC C pPop rPop := by
  intro B r H xs us ys u vs ws a Q e hH rx ru q
  unfold pPop at e
  split at e
  · split at e
    · rename_i u' hu
      cases e
      cases ru
      obtain ⟨v, h1, h2⟩ := rx.at_ hu
      rw [rx.length] at h1
      exact ⟨a, vs, v, rfl, rfl, hH, h1, q _ _ rx.dropL h2⟩
    · cases e
  · cases e
def pPopAt : List U → List U → Option (U × List U)
  | xs, [.d (.int i)] => if rng62 i = true then (match seqIndex? i xs.length with
    | some k => (match xs[k]? with
      | some u => some (u, xs.eraseIdx k)
      | none => none)
    | none => none) else none
  | _, _ => none
theorem lm_popAt {C : Ct} : LmC C pPopAt rPopAt := by
  intro B r H xs us ys u vs ws a Q e hH rx ru q
  unfold pPopAt at e
  split at e
  · rename_i i
    split at e
    · rename_i hi
      split at e
      · rename_i k hk
        split at e
        · rename_i u' hu
          cases e
          obtain ⟨v1, rfl, r1⟩ := ru.one
          cases r1 with
          | d r1 =>
            cases r1
            obtain ⟨v, h1, h2⟩ := rx.at_ hu
            have h6 := rng62_ok hi
            exact ⟨a, vs, i, k, v, rfl, rfl, hH, by omega, by omega, by rw [← rx.length]; exact hk, h1, q _ _ (rx.era k) h2⟩
        · cases e
      · cases e
    · cases e
  · cases e
def pReverse : List U → List U → Option (U × List U)
  | xs, [] => some (.d .non, xs.reverse)
  | _, _ => none
theorem lm_reverse {C : Ct} : LmC C pReverse rReverse := by
  intro B r H xs us ys u vs ws a Q e hH rx ru q
  unfold pReverse at e
  split at e
  · cases e
    cases ru
    exact ⟨a, vs, rfl, rfl, hH, q _ _ rx.rev (.d .non)⟩
  · cases e
def setU (h : Hea) (o i v : U) : Option Hea := match o with
  | .loc n => match i with
    | .d (.int k) => match h[n]? with
      | some (.lst us) => match ixN us.length k with
        | some j => some (h.set n (.lst (us.set j v)))
        | none => none
      | _ => none
    | _ => none
  | _ => none
def gset (fo fi : M U) : G := fun v δ h => match fo δ h with
  | some (.ok o h1) => (match fi δ h1 with
    | some (.ok i h2) => (match setU h2 o i v with
      | some h3 => some (δ, h3)
      | none => none)
    | _ => none)
  | _ => none
section
variable {C : Ct} {B : Bd} {r : Rho} {H : Hp} {h : Hea}
theorem setU_ok {o i v : U} {ov iv vv : V} {h2 : Hea} {Q : Hp → Prop} (w : Wd C B r H h) (ro : RU C B r H o ov) (ri : RU C B r H i iv) (rv : RU C B r H v vv) (e : setU h o i v = some h2)
    (q : ∀ H', Ext B r H B r H' → Wd C B r H' h2 → Q H') : rSetL ov iv vv H Q := by
  unfold setU at e
  split at e
  · rename_i n
    split at e
    · rename_i k
      split at e
      · rename_i us ho
        split at e
        · rename_i j hj
          cases e
          cases ri with
          | d ri =>
            cases ri
            cases ro with
            | loc hn =>
              obtain ⟨x, h1, rx⟩ := w.obj _ _ hn
              rw [ho] at h1
              cases h1
              obtain ⟨vs, h3, h4⟩ := rx
              obtain ⟨ex, w2⟩ := w.put hn (notup_lst (xs := vs.set j vv)) (o := .lst (us.set j v)) fun ex => ⟨vs.set j vv, upd_same, (h4.set_ j rv).ext ex w.toOwn⟩
              exact ⟨_, vs, k, j, rfl, rfl, h3, by rw [← h4.length]; exact hj, q _ ex w2⟩
            | gone hn =>
              rw [w.gon _ hn] at ho
              cases ho
        · cases e
      · cases e
    · cases e
  · cases e
end
section
variable {X : Cx} {W : Wj} {pos : Pos} {o i : Expr} {fo fi : M U}
theorem rg_set (ho : RE X W o fo) (hi : RE X W i fi) (ha : ∀ v, assign (.Subscript o i pos) X.env v = (do
      let ov ← holding [v] (eval o X.env)
      let iv ← holding [v, ov] (eval i X.env)
      standAt pos
      holding [v, ov, iv] (setItem ov iv v)
      release [v, ov, iv] []) := by intro _; rfl) : RG X W (.Subscript o i pos) (gset fo fi) :=
  pg_imp (pg_sub ho hi set_list ha) fun v σ H Q ⟨B, r, h, δ, u, w, s, ru, q⟩ => by
    unfold gset at q
    refine ⟨B, r, h, δ, w, s, ?_⟩
    cases h1 : fo δ h with
    | none => rw [h1] at q; exact q.elim
    | some x =>
      cases x with
      | exc e h' => rw [h1] at q; exact q.elim
      | ok o1 ha1 =>
        rw [h1] at q
        intro B1 r1 H1 v1 e1 w1 rv1
        refine ⟨B1, r1, ha1, δ, w1, s.ext e1 w.toOwn, ?_⟩
        dsimp only at q
        cases h2 : fi δ ha1 with
        | none => rw [h2] at q; exact q.elim
        | some x =>
          cases x with
          | exc e h' => rw [h2] at q; exact q.elim
          | ok i1 ha2 =>
            rw [h2] at q
            dsimp only at q
            intro B2 r2 H2 v2 e2 w2 rv2
            cases h3 : setU ha2 o1 i1 u with
            | none => rw [h3] at q; exact q.elim
            | some ha3 =>
              rw [h3] at q
              have s2 := (s.ext e1 w.toOwn).ext e2 w1.toOwn
              refine setU_ok w2 (rv1.ext e2 w1.toOwn) rv2 ((ru.ext e1 w.toOwn).ext e2 w1.toOwn) h3 fun H' ex w3 => ?_
              exact q _ _ _ _ ((e1.tr w.toOwn e2).tr w.toOwn ex) w3 (s2.ext ex w2.toOwn)
end
theorem get_list {X : Cx} : PGet X (rIxL X.K) := by
  intro pins s σ H x y v u Q I rx ry h
  obtain ⟨p, xs, i, z, rfl, rfl, hq, he, q⟩ := h
  cases rx
  obtain ⟨t, rfl⟩ := ry
  obtain ⟨its, r, pl, hz⟩ := I.list hq
  obtain ⟨j, h1, h2, h3, h4, h5⟩ := atI_get he
  obtain ⟨w, ew, rw'⟩ := r.get h2
  have hl := r.length
  have hn := line63
  have fin : EP X pins σ Q w s := ⟨z, H, I, rw', q⟩
  by_cases h0 : 0 ≤ i
  · have hj : i.toNat = j := by
      rw [seqIndex_of h0 h5] at h1
      exact Option.some.inj h1
    exact wpAny_getItem_list pl.isList h0 (by omega) (by rw [hj]; simpa using ew) fin
  · have hj : (i + (its.toArray.size : Int)).toNat = j := by
      rw [seqIndex_neg (by omega) h4] at h1
      rw [List.size_toArray, ← hl]
      exact Option.some.inj h1
    exact wpAny_getItem_list_neg pl.isList (by omega) (by rw [List.size_toArray] <;> omega) (by omega) (by rw [hj]; simpa using ew) fin
def getU (h : Hea) : U → U → Option U
  | .loc n, .d (.int k) => match h[n]? with
    | some (.lst us) => atI us k
    | _ => none
  | _, _ => none
def saugS (p : D → D → Option D) (fo fi f : M U) : S := sbnd fo fun o => sbnd fi fun i => sbnd (fun _ h => match getU h o i with
  | some x => some (.ok x h)
  | none => none) fun x => sbnd f fun y => sbnd (opE p x y) fun z δ h => match setU h o i z with
    | some h' => some (.nx δ h')
    | none => none
theorem getU_ok {C : Ct} {B : Bd} {r : Rho} {H : Hp} {h : Hea} {x y u : U} {v w : V} {Q : VK} (wd : Wd C B r H h) (rx : RU C B r H x v) (ry : RU C B r H y w) (e : getU h x y = some u) (q : ∀ z, RU C B r H u z → Q z H) : rIxL C.K v w H Q := by
  unfold getU at e
  split at e
  · rename_i n k
    split at e
    · rename_i us ho
      cases ry with
      | d ry =>
        cases ry
        cases rx with
        | loc hn =>
          obtain ⟨o, h1, ro⟩ := wd.obj _ _ hn
          rw [ho] at h1
          cases h1
          obtain ⟨vs, h2, h3⟩ := ro
          obtain ⟨z, h4, h5⟩ := h3.atI_ e
          exact ⟨_, vs, k, z, rfl, rfl, SqL.of h2, h4, q z h5⟩
        | gone hn =>
          rw [wd.gon _ hn] at ho
          cases ho
    · cases e
  · cases e
theorem rs_augS {X : Cx} {W : Wj} {pos tpos : Pos} {o i e : Expr} {fo fi f : M U} {op : Operator} {p : D → D → Option D} {ti : TIp} (hp : PIp X op ti) (hr : Op2 (ctX X W) p ti) (ho : RE X W o fo) (hi : RE X W i fi) (he : RE X W e f)
    (ha : ∀ ov iv new, augStore i ov iv new = (do holding [new, ov, iv] (setItem ov iv new); release [new, ov, iv] []; pure .next) := by intros; rfl) : RS X W (.AugAssign (.Subscript o i tpos) op e pos) (saugS p fo fi f) :=
  ps_imp (ps_augS ho hi get_list he hp set_list ha) fun D σ H t => by
    refine tS.bnd t fun o1 B1 r1 H1 h1 δ v1 w1 s1 ro1 q1 => ?_
    refine ⟨B1, r1, h1, δ, w1, s1, q1.bnd w1 s1 fun i1 B2 r2 H2 h2 v2 e2 w2 s2 ri2 q2 => ?_⟩
    have ro2 := ro1.ext e2 w1.toOwn
    cases hx : getU h2 o1 i1 with
    | none =>
      unfold sbnd at q2
      simp only [hx] at q2
      exact q2.elim
    | some x =>
      have q3 : OQ (ctX X W) W D B2 r2 H2 ((sbnd f fun y => sbnd (opE p x y) fun z δ h => match setU h o1 i1 z with
        | some h' => some (.nx δ h')
        | none => none) δ h2) := by
        unfold sbnd at q2 ⊢
        simp only [hx] at q2
        exact q2
      refine getU_ok w2 ro2 ri2 hx fun z rz => ?_
      refine ⟨B2, r2, h2, δ, w2, s2, q3.bnd w2 s2 fun y B3 r3 H3 h3 v3 e3 w3 s3 ry q4 => ?_⟩
      refine opE_end hr w3 (rz.ext e3 w2.toOwn) ry (q4.bnd w3 s3 fun z4 B4 r4 H4 h4 v4 e4 w4 s4 rz4 q5 => ?_)
      try dsimp only at q5
      cases hs : setU h4 o1 i1 z4 with
      | none => rw [hs] at q5; exact q5.elim
      | some h5 =>
        rw [hs] at q5
        refine setU_ok w4 ((ro2.ext e3 w2.toOwn).ext e4 w3.toOwn) ((ri2.ext e3 w2.toOwn).ext e4 w3.toOwn) rz4 hs fun H' ex w5 => ?_
        exact q5 _ _ _ _ ex w5 (s4.ext ex w4.toOwn)
theorem op2_sub {C : Ct} : Op2 C pSub (rI0 fun i j => .int (i - j)) := op2_int0 fun _ _ _ _ => .int _
theorem op2_fdiv {C : Ct} : Op2 C pFdiv (rI CDivW fun i j => .int (i / j)) := op2_intC (b := fun i j => decide (0 < j ∧ j.natAbs.log2 < 9000)) (fun _ _ h => of_decide_eq_true h) fun _ _ _ _ => .int _
theorem op2_mod {C : Ct} : Op2 C pMod (rI (fun _ j => j ≠ 0) fun i j => .int (i.fmod j)) := op2_intC (b := fun i j => decide (j ≠ 0)) (fun _ _ h => of_decide_eq_true h) fun _ _ _ _ => .int _
theorem op2_pow {C : Ct} : Op2 C pPow (rI CPow fun i j => .int (i ^ j.toNat)) := op2_intC (b := fun i j => decide (0 ≤ j ∧ j ≤ 1000000 ∧ i.natAbs < 2 ^ 64)) (fun _ _ h => of_decide_eq_true h) fun _ _ _ _ => .int _
theorem Room.u65 {k : Nat} {A : Around} (r : Room k A) : A.units + 65 < cLine := by
  have := r.un
  omega
/-- += of ints and texts -/
theorem iop_addA {X : Cx} : OpR X (inplaceOp .Add) (fun x y H Q => (rI0 fun i j => .int (i + j)) x y H Q ∨ rAddS x y H Q) := OpR.or iop_add iop_add_str
def pIadd : D → D → Option D
  | .int i, .int j => some (.int (i + j))
  | .str x, .str y => if szOk (x.length + y.length) = true then some (.str (x ++ y)) else none
  | _, _ => none
theorem op2_iadd {C : Ct} : Op2 C pIadd (fun x y H Q => (rI0 fun i j => .int (i + j)) x y H Q ∨ rAddS x y H Q) := by
  intro B r H h x y v w c Q wd rx ry e q
  unfold pIadd at e
  split at e
  · cases e
    exact .inl ⟨_, _, rx.intI, ry.intI, q B H _ wd.toOwn.gr (.int _)⟩
  · split at e
    · rename_i hz
      cases e
      exact .inr ⟨_, _, rx.strI, ry.strI, szOk_le hz, q B H _ wd.toOwn.gr (.str _)⟩
    · cases e
  · cases e
/-- x.split(sep), to be changed -/
def spNE (f : M U) (g : M (List U)) : M U := mbnd f fun x δ h => match view h x with
  | some (.str a) => mbnd g (fun us _ h => match viewS h us with
    | some ds => (match pSplit (.str a) ds with
      | some (.lst ys) => newE (.lst (ys.map .d)) [] h
      | _ => none)
    | none => none) δ h
  | _ => none
section
variable {X : Cx} {W : Wj} {apos cpos : Pos} {o e : Expr} {es : List Expr} {f : M U} {g : M (List U)}
theorem re_splitN (ho : RE X W o f) (ha : RA X W (e :: es) g)
    (hbase : attributeBase o "split" X.env (eval o X.env) = eval o X.env := by rfl)
    (hfew : ((backTo cpos (starEach (e :: es) X.env)).all (fun x => !x.1) && (backToKw cpos (keywordEach [] X.env)).all (fun x => x.1.isSome)
      && decide ((e :: es).length + ([] : List Keyword).length + (if ([] : List Keyword).isEmpty then 0 else 1) < 30)) = true := by rfl)
    (hline : (apos.endLine == cpos.line) = true := by rfl) (hs : starEach (e :: es) X.env = (false, eval e X.env) :: starEach es X.env := by rfl) (hplain : (backTo cpos (starEach es X.env)).any (·.1) = false := by rfl) :
    RE X W (.Call (.Attribute o "split" apos) (e :: es) [] cpos) (spNE f g) :=
  pe_imp (pe_bm PySem.F.plainAttrs_str PySem.F.slot_str_split PySem.F.type_str_split mt_split ho ha hbase hfew hline hs hplain) fun σ H Q t => tG.bnd t fun x B r H1 h δ v w s rx q => by
    try dsimp only at q
    split at q
    · rename_i a hv
      have e1 := (w.view rx hv).strI
      subst e1
      refine ⟨rfl, B, r, h, δ, w, s, q.bnd w s fun us B2 r2 H2 h2 vs e2 w2 s2 rus q2 => ?_⟩
      try dsimp only at q2
      split at q2
      · rename_i ds hvs
        split at q2
        · rename_i ys hp
          have rv := w2.viewS rus hvs
          unfold pSplit at hp
          split at hp
          · rename_i a' b ea
            cases ea
            split at hp
            · rename_i hz
              cases hp
              rw [Bool.and_eq_true] at hz
              obtain ⟨u, rfl, r1⟩ := rv.one
              refine ⟨a, b, rfl, by rw [r1.strI], by simpa using hz.1, by rw [sizeLine_eq]; exact of_decide_eq_true hz.2, fun l hl => ?_⟩
              obtain ⟨ex, w3⟩ := w2.add (o := .lst (((Txt.split a b).map D.str).map .d)) hl (notup_lst (xs := (Txt.split a b).map V.str)) fun ex => ⟨_, upd_same, RDs.us RDs.strs⟩
              exact q2 _ _ _ _ ex w3 (.loc (by rw [← w2.len]; simp))
            · cases hp
          · cases hp
        · exact q2.elim
      · exact q2.elim
    · exact q.elim
end
theorem end_of {K : PySem.W.Frag} {mg : Str → Option Value} {m : FM} {H : Hp} {a : Addr} {ns : List Int} (hO : Only H) (hS : SqL K H a (ns.map V.int))
    (hm : m [.d (.scr ns)] [] = some (.ok (.d (.bl true)) [])) : spM ⟨⟨K, mg⟩, j0⟩ 1 m [.ref a] H (fun v _ => v = .bl true) fun _ _ _ => False := by
  have nl : ∀ b vs, H b ≠ some (.lst vs) := fun b vs z => by
    rcases hO b with q | ⟨o, xs, q⟩ <;> (rw [z] at q; cases q)
  have fr : Frz K (fun _ => False) H a (ns.map V.int) := by
    rcases hS with h | h
    · exact .inl ⟨fun z => z, h⟩
    · exact .inr (.inr h)
  refine ⟨rfl, fun _ => False, [], [], [.d (.scr ns)], ⟨⟨fun a ⟨n, z⟩ => by simp at z, fun a z => z.elim, fun a z => z.elim⟩, rfl, fun n a z => by simp at z, fun n z => by simp at z, fun n m a z => by simp at z, trivial⟩, .cons (.d (.scr fr)) .nil, ?_⟩
  rw [hm]
  intro B' r' H' v ex w' ru
  cases ru with
  | d rd =>
    cases rd
    rfl
def spEnd (K : PySem.W.Frag) : Sp := fun vs H Q _ => ∃ (a : Addr) (ns : List Int), vs = [.ref a] ∧ Only H ∧ SqL K H a (ns.map V.int) ∧ ns.length ≤ 63 ∧ (∀ z ∈ ns, Builtin.Int.intBits z ≤ 1048576) ∧ ∀ H', Q (.bl true) H'
theorem spM_to {C : Ct} {np : Nat} {m : FM} {vs : List V} {H : Hp} {Q Q' : VK} {E E' : XK} (h : spM C np m vs H Q E) (hq : ∀ v H, Q v H → Q' v H) (he : ∀ c d H, E c d H → E' c d H) : spM C np m vs H Q' E' := by
  obtain ⟨hl, B, r, hh, us, w, ru, q⟩ := h
  refine ⟨hl, B, r, hh, us, w, ru, ?_⟩
  cases hx : m us hh with
  | none => rw [hx] at q; exact q
  | some x =>
    rw [hx] at q
    cases x with
    | ok u h' => exact fun B' r' H' v e w' z => hq _ _ (q B' r' H' v e w' z)
    | exc e h' => exact fun B' r' H' cls d e w' z => he _ _ _ (q B' r' H' cls d e w' z)
theorem fn_end {P : Program} {w : World} {K : PySem.W.Frag} {mg : Str → Option Value} {base : Heap} {k : Nat} {f : Addr} {fd : FuncData} {m : FM} {ps : List Str} (F : FnOk P w K mg base (L2.CX P w) k f fd ps (spM ⟨⟨K, mg⟩, j0⟩ 1 m))
    (hp : ps.length = 1) (hm : ∀ ns : List Int, ns.length ≤ 63 → (∀ z ∈ ns, Builtin.Int.intBits z ≤ 1048576) → m [.d (.scr ns)] [] = some (.ok (.d (.bl true)) [])) : FnOk P w K mg base (L2.CX P w) k f fd ps (spEnd K) :=
  ⟨fun vs H Q E h => by
    obtain ⟨a, ns, rfl, _⟩ := h
    exact hp.symm, fun A outer s H args us vs Q E hr e0 hb r h => by
    obtain ⟨a, ns, rfl, hO, hS, hl, hz, q⟩ := h
    exact F.run A outer s H args us _ Q E hr e0 hb r (spM_to (end_of hO hS (hm ns hl hz)) (fun v H' e => e ▸ q H') fun _ _ _ z => z.elim)⟩
theorem walk_PM {l : PySem.W.OpenLaw} {k : Nat} {q : Program} {loose : List Str} {XP : (Str → Option Value) → Heap → Prop} {YP : World → Heap → Prop} {d : DefRec} {K : Params → PySem.W.Frag}
    (hn : l.most = some 63) (hdf : d.params.defaults = []) (hr : Room k callerA) (hY : ∀ (w : World) (h : Heap), YP w h → (K w.params).In h)
    (F : ∀ (w : World) (mg : Str → Option Value) (fa : Addr) (h : Heap), (K w.params).In h → h.Ns mainGlobals mg → mg d.name = some (.ref fa) →
      ∃ fd : FuncData, (∀ (s : Shared) (u : Value), BindsTo s fd ⟨[u], []⟩ [("script", u)]) ∧ ∀ base : Heap, (K w.params).In base → base.Ns mainGlobals mg → FnOk l.prog w (K w.params) mg base (L2.CX l.prog w) k fa fd ["script"] (spEnd (K w.params))) :
    PySem.W.WalkO q loose XP YP l.row.toRowW d [] (fun f vs => PySem.call f vs) :=
  walk_ofB (K := K) (CX := fun w => L2.CX l.prog w) (sp := fun w => spEnd (K w.params)) hn (by decide) hdf hr hY F (fun w H a ns hl hz hO hS => ⟨a, ns, rfl, hO, hS, hl, hz, fun _ => rfl⟩) fun w H s e s' h => by
    obtain ⟨_, _, _, _, _, _, _, _, _, _, _, _, z⟩ := h
    exact z.elim
theorem exm_of {K : PySem.W.Frag} {C S : Addr} {b : Bool} (h1 : PySem.W.subIn K (.ref S) (.type "BaseException") = some true) (h2 : PySem.W.isClsIn K S = true) (h3 : PySem.W.typeIn K (.ref S) = some (.type "type")) (h4 : PySem.W.subIn K (.ref C) (.ref S) = some b) :
    PySem.W.exmOne K (.ref C) (.ref S) = some b := by
  have e1 : (PySem.W.subIn K (.ref S) (.type "BaseException") == some true) = true := by rw [h1] <;> rfl
  have e2 : ((PySem.W.clsIn K S).isSome && PySem.W.typeIn K (.ref S) == some (.type "type")) = true := by
    have h2' : (PySem.W.clsIn K S).isSome = true := h2
    rw [h2', h3] <;> rfl
  show (if (PySem.W.subIn K (.ref S) (.type "BaseException") == some true) = true then (if ((PySem.W.clsIn K S).isSome && PySem.W.typeIn K (.ref S) == some (.type "type")) = true then PySem.W.subIn K (.ref C) (.ref S) else none) else none) = some b
  rw [if_pos e1, if_pos e2]
  exact h4
/-- a mirror gives an answer, and Q holds of it -/
def OkM {α : Type} (f : M α) (δ : Sl) (h : Hea) (Q : α → Hea → Prop) : Prop := ∃ a h', f δ h = some (.ok a h') ∧ Q a h'
def OkS (s : S) (δ : Sl) (h : Hea) (Q : Out → Prop) : Prop := ∃ o, s δ h = some o ∧ Q o
theorem OkM.mk {α : Type} {f : M α} {δ : Sl} {h h' : Hea} {a : α} {Q : α → Hea → Prop} (e : f δ h = some (.ok a h')) (q : Q a h') : OkM f δ h Q := ⟨a, h', e, q⟩
theorem OkM.imp {α : Type} {f : M α} {δ : Sl} {h : Hea} {Q Q' : α → Hea → Prop} (o : OkM f δ h Q) (i : ∀ a h, Q a h → Q' a h) : OkM f δ h Q' := by
  obtain ⟨a, h', e, q⟩ := o
  exact ⟨a, h', e, i a h' q⟩
theorem okm_bnd {α β : Type} {f : M α} {k : α → M β} {δ : Sl} {h : Hea} {Q : β → Hea → Prop} (o : OkM f δ h fun a h' => OkM (k a) δ h' Q) : OkM (mbnd f k) δ h Q := by
  obtain ⟨a, h', e, b, h2, e2, q⟩ := o
  refine ⟨b, h2, ?_, q⟩
  unfold mbnd
  rw [e]
  exact e2
theorem oks_bnd {α : Type} {f : M α} {k : α → S} {δ : Sl} {h : Hea} {Q : Out → Prop} (o : OkM f δ h fun a h' => OkS (k a) δ h' Q) : OkS (sbnd f k) δ h Q := by
  obtain ⟨a, h', e, b, e2, q⟩ := o
  refine ⟨b, ?_, q⟩
  unfold sbnd
  rw [e]
  exact e2
theorem oks_seq {s t : S} {δ : Sl} {h : Hea} {Q : Out → Prop} (o : OkS s δ h fun x => match x with
    | .nx δ' h' => OkS t δ' h' Q
    | x => Q x) : OkS (sseq s t) δ h Q := by
  obtain ⟨x, e, q⟩ := o
  unfold OkS sseq
  rw [e]
  cases x with
  | nx δ' h' => exact q
  | rt u h' => exact ⟨_, rfl, q⟩
  | bk δ' h' => exact ⟨_, rfl, q⟩
  | ct δ' h' => exact ⟨_, rfl, q⟩
  | ex e δ' h' => exact ⟨_, rfl, q⟩
theorem oks_if {c : M Bool} {s t : S} {δ : Sl} {h : Hea} {Q : Out → Prop} (o : OkM c δ h fun b h' => (b = true → OkS s δ h' Q) ∧ (b = false → OkS t δ h' Q)) : OkS (sif c s t) δ h Q := by
  refine oks_bnd (o.imp fun b h' q => ?_)
  cases b with
  | true => exact q.1 rfl
  | false => exact q.2 rfl
theorem oks_for {f : M (List U)} {g : G} {b : S} {δ : Sl} {h : Hea} {Q : Out → Prop} (o : OkM f δ h fun xs h' => OkS (forL g b xs) δ h' Q) : OkS (sfor f g b) δ h Q := oks_bnd o
/-- a loop -/
theorem forL_rule {g : G} {b : S} {Q : Out → Prop} (I : List U → Sl → Hea → Prop)
    (step : ∀ x rest δ h, I (x :: rest) δ h → ∃ δ1 h1, g x δ h = some (δ1, h1) ∧ OkS b δ1 h1 fun o => match o with
      | .nx δ2 h2 => I rest δ2 h2
      | .ct δ2 h2 => I rest δ2 h2
      | .bk δ2 h2 => Q (.nx δ2 h2)
      | o => Q o)
    (done : ∀ δ h, I [] δ h → Q (.nx δ h)) : ∀ xs δ h, I xs δ h → OkS (forL g b xs) δ h Q
  | [], δ, h, i => ⟨_, rfl, done δ h i⟩
  | x :: rest, δ, h, i => by
    obtain ⟨δ1, h1, e1, o, e2, q⟩ := step x rest δ h i
    unfold OkS forL
    simp only [e1, e2]
    cases o with
    | nx δ2 h2 => exact forL_rule I step done rest δ2 h2 q
    | ct δ2 h2 => exact forL_rule I step done rest δ2 h2 q
    | bk δ2 h2 => exact ⟨_, rfl, q⟩
    | rt u h2 => exact ⟨_, rfl, q⟩
    | ex e δ2 h2 => exact ⟨_, rfl, q⟩
/-- a list made of a list, nothing changing -/
theorem lcL_map {g : G} {tt : M Bool} {te : M U} {δ : Sl} {h : Hea} (F : U → U) : ∀ xs : List U, (∀ x ∈ xs, ∃ δ1, g x δ h = some (δ1, h) ∧ tt δ1 h = some (.ok true h) ∧ te δ1 h = some (.ok (F x) h)) → lcL g tt te δ xs h = some (xs.map F, h)
  | [], _ => rfl
  | x :: xs, hx => by
    obtain ⟨δ1, e1, e2, e3⟩ := hx x (by simp)
    unfold lcL
    simp only [e1, e2, e3, lcL_map F xs fun y hy => hx y (by simp [hy])]
    rfl
/-- .., some left out -/
theorem lcL_filter {g : G} {tt : M Bool} {te : M U} {δ : Sl} {h : Hea} (p : U → Bool) (F : U → U) : ∀ xs : List U, (∀ x ∈ xs, ∃ δ1, g x δ h = some (δ1, h) ∧ tt δ1 h = some (.ok (p x) h) ∧ (p x = true → te δ1 h = some (.ok (F x) h))) →
    lcL g tt te δ xs h = some ((xs.filter p).map F, h)
  | [], _ => rfl
  | x :: xs, hx => by
    obtain ⟨δ1, e1, e2, e3⟩ := hx x (by simp)
    have ih := lcL_filter (h := h) (δ := δ) p F xs fun y hy => hx y (by simp [hy])
    unfold lcL
    cases hp : p x with
    | true =>
      rw [hp] at e2
      simp only [e1, e2, e3 hp, ih, List.filter_cons, hp, if_true]
      rfl
    | false =>
      rw [hp] at e2
      simp only [e1, e2, ih, List.filter_cons, hp]
      rfl
/-- .., what may change being kept by I -/
inductive Al2 {α β : Type} (P : α → β → Prop) : List α → List β → Prop
  | nil : Al2 P [] []
  | cons {a : α} {b : β} {as : List α} {bs : List β} : P a b → Al2 P as bs → Al2 P (a :: as) (b :: bs)
theorem lcL_rel {g : G} {tt : M Bool} {te : M U} {δ : Sl} {I : Hea → Prop} {P : U → U → Prop} : ∀ (xs : List U) (h : Hea), I h → (∀ x ∈ xs, ∀ h, I h → ∃ δ1 h1 y, g x δ h = some (δ1, h) ∧ tt δ1 h = some (.ok true h) ∧ te δ1 h = some (.ok y h1) ∧ I h1 ∧ P x y) →
    ∃ ys h', lcL g tt te δ xs h = some (ys, h') ∧ I h' ∧ Al2 P xs ys
  | [], h, i, _ => ⟨[], h, rfl, i, .nil⟩
  | x :: xs, h, i, hx => by
    obtain ⟨δ1, h1, y, e1, e2, e3, i1, p⟩ := hx x (by simp) h i
    obtain ⟨ys, h', e4, i2, a⟩ := lcL_rel xs h1 i1 fun z hz => hx z (by simp [hz])
    refine ⟨y :: ys, h', ?_, i2, .cons p a⟩
    unfold lcL
    simp only [e1, e2, e3, e4]
theorem allD_map : ∀ ds : List D, allD (ds.map .d) = some ds
  | [] => rfl
  | d :: ds => by
    show (match U.toD (.d d), allD (ds.map .d) with
      | some x, some xs => some (x :: xs)
      | _, _ => none) = _
    rw [allD_map ds]
    rfl
theorem szOk_of {n : Nat} (h : n ≤ 16777216) : szOk n = true := decide_eq_true h
/-- a call upon plain data -/
theorem callP_eq {np : Nat} {m : FM} {g : M (List U)} {δ : Sl} {h h' : Hea} {us : List U} {ds : List D} {x : D} {hh : Hea} (e : g δ h = some (.ok us h')) (hl : us.length = np) (ha : allD us = some ds) (hm : m us [] = some (.ok (.d x) hh)) : callP np m g δ h = some (.ok (.d x) h') := by
  unfold callP mbnd
  simp only [e]
  rw [if_pos hl]
  simp only [ha, hm]
  rfl
section
variable {δ : Sl} {h : Hea} {f g k : M U} {ga : M (List U)} {Q : U → Hea → Prop} {QL : List U → Hea → Prop} {QB : Bool → Hea → Prop} {i : Nat} {u x y : U} {d : D} {p q : D → D → Option D} {c c2 : M Bool} {us : List U}
theorem okm_ret {α : Type} {a : α} {Q : α → Hea → Prop} (z : Q a h) : OkM (mret a) δ h Q := ⟨a, h, rfl, z⟩
theorem okm_vr (e : δ[i]? = some (some u)) (z : Q u h) : OkM (vr i) δ h Q := ⟨u, h, by unfold vr; simp only [e], z⟩
theorem okm_cn (z : Q (.d d) h) : OkM (cn d) δ h Q := ⟨_, h, rfl, z⟩
def Op (p : D → D → Option D) (h : Hea) (x y : U) (Q : U → Hea → Prop) : Prop := ∃ a b c, view h x = some a ∧ view h y = some b ∧ p a b = some c ∧ Q (.d c) h
theorem okm_opE (z : Op p h x y Q) : OkM (opE p x y) δ h Q := by
  obtain ⟨a, b, c, e1, e2, e3, z⟩ := z
  exact ⟨.d c, h, by unfold opE; simp only [e1, e2, e3], z⟩
theorem okm_op2 (o : OkM f δ h fun x h1 => OkM g δ h1 fun y h2 => Op p h2 x y Q) : OkM (op2 p f g) δ h Q := okm_bnd (o.imp fun x h1 o => okm_bnd (o.imp fun y h2 z => okm_opE z))
theorem okm_tst (o : OkM f δ h fun x h1 => ∃ b, isB x = some b ∧ QB b h1) : OkM (tst f) δ h QB := okm_bnd (o.imp fun x h1 ⟨b, e, z⟩ => ⟨b, h1, by simp only [e], z⟩)
theorem okm_andT (o : OkM c δ h fun b h1 => (b = true → OkM c2 δ h1 QB) ∧ (b = false → QB false h1)) : OkM (andT c c2) δ h QB := okm_bnd (o.imp fun b h1 z => by
  cases b with
  | true => exact z.1 rfl
  | false => exact ⟨false, h1, rfl, z.2 rfl⟩)
theorem okm_orT (o : OkM c δ h fun b h1 => (b = true → QB true h1) ∧ (b = false → OkM c2 δ h1 QB)) : OkM (orT c c2) δ h QB := okm_bnd (o.imp fun b h1 z => by
  cases b with
  | true => exact ⟨true, h1, rfl, z.1 rfl⟩
  | false => exact z.2 rfl)
theorem okm_notT (o : OkM c δ h fun b h1 => QB (!b) h1) : OkM (notT c) δ h QB := okm_bnd (o.imp fun b h1 z => ⟨_, h1, rfl, z⟩)
theorem okm_andV (o : OkM f δ h fun x h1 => ∃ b, isB x = some b ∧ ((b = true → OkM g δ h1 Q) ∧ (b = false → Q (.d (.bl false)) h1))) : OkM (andV f g) δ h Q := okm_bnd ((okm_tst o).imp fun b h1 z => by
  cases b with
  | true => exact z.1 rfl
  | false => exact ⟨_, h1, rfl, z.2 rfl⟩)
theorem okm_orV (o : OkM f δ h fun x h1 => ∃ b, isB x = some b ∧ ((b = true → Q (.d (.bl true)) h1) ∧ (b = false → OkM g δ h1 Q))) : OkM (orV f g) δ h Q := okm_bnd ((okm_tst o).imp fun b h1 z => by
  cases b with
  | true => exact ⟨_, h1, rfl, z.1 rfl⟩
  | false => exact z.2 rfl)
theorem okm_notV (o : OkM f δ h fun x h1 => ∃ b, isB x = some b ∧ Q (.d (.bl !b)) h1) : OkM (notV f) δ h Q := okm_bnd ((okm_tst o).imp fun b h1 z => ⟨_, h1, rfl, z⟩)
theorem okm_ifE (o : OkM c δ h fun b h1 => (b = true → OkM f δ h1 Q) ∧ (b = false → OkM g δ h1 Q)) : OkM (ifE c f g) δ h Q := okm_bnd (o.imp fun b h1 z => by
  cases b with
  | true => exact z.1 rfl
  | false => exact z.2 rfl)
theorem okm_chain (o : OkM f δ h fun x h1 => OkM g δ h1 fun y h2 => Op p h2 x y fun z h3 => ∃ b, isB z = some b ∧ ((b = true → OkM k δ h3 fun w h4 => Op q h4 y w Q) ∧ (b = false → Q (.d (.bl false)) h3))) : OkM (chain p q f g k) δ h Q :=
  okm_bnd (o.imp fun x h1 o => okm_bnd (o.imp fun y h2 z => okm_bnd ((okm_opE z).imp fun w h3 ⟨b, e, z⟩ => by
    simp only [e]
    cases b with
    | true => exact okm_bnd ((z.1 rfl).imp fun w h4 z => okm_opE z)
    | false => exact okm_cn (z.2 rfl))))
theorem okm_mnil (z : QL [] h) : OkM mnil δ h QL := ⟨_, h, rfl, z⟩
theorem okm_mcons (o : OkM f δ h fun x h1 => OkM ga δ h1 fun xs h2 => QL (x :: xs) h2) : OkM (mcons f ga) δ h QL := okm_bnd (o.imp fun x h1 o => okm_bnd (o.imp fun xs h2 z => ⟨_, h2, rfl, z⟩))
theorem okm_tupE {ds : List D} (e : allD us = some ds) (hz : szOk us.length = true) (z : Q (.d (.tup ds)) h) : OkM (tupE us) δ h Q := ⟨_, h, by unfold tupE; rw [if_pos hz]; simp only [e], z⟩
theorem okm_tupL (e : allD us = none) (hz : szOk us.length = true) (z : Q (.tup us) h) : OkM (tupE us) δ h Q := ⟨_, h, by unfold tupE; rw [if_pos hz]; simp only [e], z⟩
theorem okm_lstE {ds : List D} (e : allD us = some ds) (hz : szOk us.length = true) (z : Q (.d (.lst ds)) h) : OkM (lstE us) δ h Q := ⟨_, h, by unfold lstE; rw [if_pos hz]; simp only [e], z⟩
theorem okm_lstN (hz : szOk us.length = true) (z : Q (.loc h.length) (h ++ [.lst us])) : OkM (lstN us) δ h Q := ⟨_, _, by unfold lstN; rw [if_pos hz]; rfl, z⟩
theorem okm_lstF {ds : List D} (e : allD us = some ds) (z : Q (.d (.lst ds)) h) : OkM (lstF us) δ h Q := ⟨_, h, by unfold lstF; simp only [e], z⟩
theorem okm_lstL (z : Q (.loc h.length) (h ++ [.lst us])) : OkM (lstL us) δ h Q := ⟨_, _, rfl, z⟩
def O1 (p : D → Option D) (h : Hea) (x : U) (Q : U → Hea → Prop) : Prop := ∃ a c, view h x = some a ∧ p a = some c ∧ Q (.d c) h
theorem okm_unE {p : D → Option D} (o : OkM f δ h fun x h1 => O1 p h1 x Q) : OkM (unE p f) δ h Q := okm_bnd (o.imp fun x h1 ⟨a, c, e1, e2, z⟩ => ⟨_, h1, by simp only [e1, e2], z⟩)
def Of (p : List D → Option D) (h : Hea) (us : List U) (Q : U → Hea → Prop) : Prop := ∃ ds c, viewS h us = some ds ∧ p ds = some c ∧ Q (.d c) h
theorem okm_fnE {p : List D → Option D} (o : OkM ga δ h fun us h1 => Of p h1 us Q) : OkM (fnE p ga) δ h Q := okm_bnd (o.imp fun x h1 ⟨a, c, e1, e2, z⟩ => ⟨_, h1, by simp only [e1, e2], z⟩)
theorem okm_lenE (o : OkM ga δ h fun us h1 => ∃ u c, us = [u] ∧ lenU h1 u = some c ∧ Q (.d c) h1) : OkM (lenE ga) δ h Q := okm_bnd (o.imp fun x h1 ⟨a, c, e1, e2, z⟩ => ⟨_, h1, by subst e1; simp only [e2], z⟩)
theorem okm_ixE (o : OkM f δ h fun x h1 => OkM g δ h1 fun y h2 => ∃ u, ixU h2 x y = some u ∧ Q u h2) : OkM (ixE f g) δ h Q := okm_bnd (o.imp fun x h1 o => okm_bnd (o.imp fun y h2 ⟨u, e, z⟩ => ⟨u, h2, by simp only [e], z⟩))
theorem okm_ptN {QO : Option Int → Hea → Prop} (z : QO none h) : OkM (ptE none) δ h QO := ⟨_, h, rfl, z⟩
theorem okm_ptS {QO : Option Int → Hea → Prop} (o : OkM f δ h fun x h1 => ∃ j, x = .d (.int j) ∧ QO (some j) h1) : OkM (ptE (some f)) δ h QO := okm_bnd (o.imp fun x h1 ⟨j, e, z⟩ => ⟨some j, h1, by subst e; rfl, z⟩)
theorem okm_slE {lo hi : Option (M U)} (o : OkM f δ h fun x h1 => OkM (ptE lo) δ h1 fun l h2 => OkM (ptE hi) δ h2 fun u h3 => O1 (pSl l u) h3 x Q) : OkM (slE f lo hi) δ h Q :=
  okm_bnd (o.imp fun x h1 o => okm_bnd (o.imp fun l h2 o => okm_bnd (o.imp fun u h3 ⟨a, c, e1, e2, z⟩ => ⟨_, h3, by simp only [e1, e2], z⟩)))
theorem okm_callP {np : Nat} {m : FM} (o : OkM ga δ h fun us h1 => us.length = np ∧ ∃ ds x hh, allD us = some ds ∧ m us [] = some (.ok (.d x) hh) ∧ Q (.d x) h1) : OkM (callP np m ga) δ h Q := by
  obtain ⟨us, h1, e, hl, ds, x, hh, e1, e2, z⟩ := o
  exact ⟨_, h1, callP_eq e hl e1 e2, z⟩
theorem okm_callM {np : Nat} {m : FM} (o : OkM ga δ h fun us h1 => us.length = np ∧ ∃ u h2, m us h1 = some (.ok u h2) ∧ Q u h2) : OkM (callM np m ga) δ h Q := okm_bnd (o.imp fun us h1 ⟨hl, u, h2, e, z⟩ => ⟨u, h2, by dsimp only; rw [if_pos hl]; exact e, z⟩)
theorem okm_bmE {T : String} {p : D → List D → Option D} (o : OkM f δ h fun x h1 => ∃ d, view h1 x = some d ∧ isT T d = true ∧ OkM ga δ h1 fun us h2 => ∃ d ds c, view h2 x = some d ∧ viewS h2 us = some ds ∧ p d ds = some c ∧ Q (.d c) h2) : OkM (bmE T p f ga) δ h Q :=
  okm_bnd (o.imp fun x h1 ⟨d, e1, e2, o⟩ => by
    unfold OkM
    simp only [e1, e2, if_true]
    exact okm_bnd (o.imp fun us h2 ⟨d, ds, c, e3, e4, e5, z⟩ => ⟨_, h2, by simp only [e3, e4, e5], z⟩))
theorem okm_spNE (o : OkM f δ h fun x h1 => ∃ a, view h1 x = some (.str a) ∧ OkM ga δ h1 fun us h2 => ∃ ds ys, viewS h2 us = some ds ∧ pSplit (.str a) ds = some (.lst ys) ∧ Q (.loc h2.length) (h2 ++ [.lst (ys.map .d)])) : OkM (spNE f ga) δ h Q :=
  okm_bnd (o.imp fun x h1 ⟨d, e1, o⟩ => by
    unfold OkM
    simp only [e1]
    exact okm_bnd (o.imp fun us h2 ⟨ds, ys, e4, e5, z⟩ => ⟨_, _, by simp only [e4, e5]; rfl, z⟩))
theorem okm_lmE {p : List U → List U → Option (U × List U)} (o : OkM f δ h fun x h1 => ∃ n xs0, x = .loc n ∧ h1[n]? = some (.lst xs0) ∧ OkM ga δ h1 fun us h2 => ∃ xs u ys, h2[n]? = some (.lst xs) ∧ p xs us = some (u, ys) ∧ Q u (h2.set n (.lst ys))) : OkM (lmE p f ga) δ h Q :=
  okm_bnd (o.imp fun x h1 ⟨n, xs0, e1, e2, o⟩ => by
    subst e1
    unfold OkM
    simp only [e2]
    exact okm_bnd (o.imp fun us h2 ⟨xs, u, ys, e4, e5, z⟩ => ⟨_, _, by simp only [e4, e5], z⟩))
theorem okm_isiE {cs : List Str} {an : Tg → Option Bool} (o : OkM f δ h fun u h1 => ∃ t b, tgU h1 u = some t ∧ tgIn cs t = true ∧ an t = some b ∧ Q (.d (.bl b)) h1) : OkM (isiE cs an f) δ h Q := okm_bnd (o.imp fun u h1 ⟨t, b, e1, e2, e3, z⟩ => ⟨_, h1, by simp only [e1, e2, e3, if_true], z⟩)
theorem okm_fz (o : OkM f δ h fun u h1 => OkM (fzE u) δ h1 Q) : OkM (fz f) δ h Q := okm_bnd o
theorem okm_fzL {n : Nat} {o : O} {d : D} (e1 : h[n]? = some o) (e2 : o.view = some d) (z : Q (.d d) (h.set n .gone)) : OkM (fzE (.loc n)) δ h Q := ⟨_, _, by unfold fzE; simp only [e1, e2], z⟩
theorem okm_fzD (z : Q (.d d) h) : OkM (fzE (.d d)) δ h Q := ⟨_, _, rfl, z⟩
theorem okm_itE {s : U → Option (List U)} (o : OkM f δ h fun u h1 => ∃ xs, s u = some xs ∧ QL xs h1) : OkM (itE s f) δ h QL := okm_bnd (o.imp fun u h1 ⟨xs, e, z⟩ => ⟨xs, h1, by simp only [e], z⟩)
theorem okm_itN {s : List U → Option (List U)} (o : OkM ga δ h fun u h1 => ∃ xs, s u = some xs ∧ QL xs h1) : OkM (itN s ga) δ h QL := okm_bnd (o.imp fun u h1 ⟨xs, e, z⟩ => ⟨xs, h1, by simp only [e], z⟩)
theorem okm_it1 {s : U → Option (List U)} (o : OkM ga δ h fun us h1 => ∃ u xs, us = [u] ∧ s u = some xs ∧ QL xs h1) : OkM (it1 s ga) δ h QL := okm_bnd (o.imp fun us h1 ⟨u, xs, e1, e, z⟩ => ⟨xs, h1, by subst e1; simp only [e], z⟩)
theorem okm_lcM {fL : M (List U)} {vs : List Nat} {gt : G} {tt : M Bool} {te : M U} {mk : List U → M U} (o : OkM fL δ h fun xs h1 => szOk xs.length = true ∧ ∃ ys h2, lcL gt tt te (wipeS δ vs) xs h1 = some (ys, h2) ∧ OkM (mk ys) δ h2 Q) : OkM (lcM fL vs gt tt te mk) δ h Q :=
  okm_bnd (o.imp fun xs h1 ⟨hz, ys, h2, e, o⟩ => by
    obtain ⟨a, h3, e3, z⟩ := o
    exact ⟨a, h3, by dsimp only; rw [if_pos hz]; simp only [e]; exact e3, z⟩)
variable {QS : Out → Prop} {s t : S}
theorem oks_snx (z : QS (.nx δ h)) : OkS snx δ h QS := ⟨_, rfl, z⟩
theorem oks_sret (o : OkM f δ h fun u h1 => QS (.rt u h1)) : OkS (sret f) δ h QS := oks_bnd (o.imp fun u h1 z => ⟨_, rfl, z⟩)
theorem oks_sexp (o : OkM f δ h fun u h1 => QS (.nx δ h1)) : OkS (sexp f) δ h QS := oks_bnd (o.imp fun u h1 z => ⟨_, rfl, z⟩)
theorem oks_set (o : OkM f δ h fun u h1 => QS (.nx (δ.set i (some u)) h1)) : OkS (sasg f (gnm i)) δ h QS := oks_bnd (o.imp fun u h1 z => ⟨_, rfl, z⟩)
theorem oks_asg {gt : G} (o : OkM f δ h fun u h1 => ∃ δ2 h2, gt u δ h1 = some (δ2, h2) ∧ QS (.nx δ2 h2)) : OkS (sasg f gt) δ h QS := oks_bnd (o.imp fun u h1 ⟨δ2, h2, e, z⟩ => ⟨_, by simp only [e], z⟩)
theorem oks_aug (o : OkM (vr i) δ h fun x h1 => OkM f δ h1 fun y h2 => Op p h2 x y fun z h3 => QS (.nx (δ.set i (some z)) h3)) : OkS (saug p i f) δ h QS := oks_bnd (o.imp fun x h1 o => oks_bnd (o.imp fun y h2 o => oks_bnd ((okm_opE o).imp fun z h3 q => ⟨_, rfl, q⟩)))
theorem oks_augS {fo fi : M U} (o : OkM fo δ h fun o h1 => OkM fi δ h1 fun i h2 => ∃ x, getU h2 o i = some x ∧ OkM f δ h2 fun y h3 => Op p h3 x y fun z h4 => ∃ h5, setU h4 o i z = some h5 ∧ QS (.nx δ h5)) : OkS (saugS p fo fi f) δ h QS :=
  oks_bnd (o.imp fun o h1 z => oks_bnd (z.imp fun i h2 ⟨x, e, z⟩ => oks_bnd ⟨x, h2, by simp only [e], oks_bnd (z.imp fun y h3 z => oks_bnd ((okm_opE z).imp fun w h4 ⟨h5, e5, z⟩ => ⟨_, by simp only [e5], z⟩))⟩))
theorem oks_raise {c : Str} {ns : List Str} (o : OkM ga δ h fun us h1 => ∃ ds, allD us = some ds ∧ ds.length = ns.length ∧ ns.length ≤ 1000 ∧ QS (.ex ⟨c, (ns.zip ds).reverse⟩ δ h1)) : OkS (sraise c ns ga) δ h QS :=
  oks_bnd (o.imp fun us h1 ⟨ds, e1, e2, e3, z⟩ => ⟨_, by simp only [e1]; rw [if_pos ⟨e2, e3⟩], z⟩)
end
/-- data of depth at most n without dicts and instances -/
inductive Pl : Nat → D → Prop
  | non {n : Nat} : Pl n .non
  | bl {n : Nat} (b : Bool) : Pl n (.bl b)
  | int {n : Nat} (i : Int) : Pl n (.int i)
  | str {n : Nat} {x : Str} (h : PyData.strOk x = true) : Pl n (.str x)
  | tup {n : Nat} {ds : List D} (h : ∀ d ∈ ds, Pl n d) : Pl (n + 1) (.tup ds)
  | lst {n : Nat} {ds : List D} (h : ∀ d ∈ ds, Pl n d) : Pl (n + 1) (.lst ds)
  | scr {n : Nat} (ns : List Int) : Pl (n + 2) (.scr ns)
theorem eqv_refl_ints : ∀ ns : List Int, PyData.eqvAll (ns.map PyData.int) (ns.map PyData.int) = true
  | [] => rfl
  | n :: ns => by
    show (PyData.eqv (.int n) (.int n) && PyData.eqvAll (ns.map PyData.int) (ns.map PyData.int)) = true
    rw [eqv_refl_ints ns]
    simp [PyData.eqv]
def GoodP (n : Nat) (p : PyData) : Prop := PyData.canLay0 p = true ∧ PyData.depth p ≤ n ∧ PyData.eqv p p = true
def GoodPs (n : Nat) (ps : List PyData) : Prop := PyData.canLayAll0 ps = true ∧ PyData.depthAll ps ≤ n ∧ PyData.eqvAll ps ps = true
theorem GoodPs.nil {n : Nat} : GoodPs n [] := ⟨rfl, Nat.zero_le _, rfl⟩
theorem GoodPs.cons {n : Nat} {p : PyData} {ps : List PyData} (a : GoodP n p) (b : GoodPs n ps) : GoodPs n (p :: ps) := by
  obtain ⟨a1, a2, a3⟩ := a
  obtain ⟨b1, b2, b3⟩ := b
  refine ⟨?_, ?_, ?_⟩
  · simp only [PyData.canLayAll0, a1, b1, Bool.and_self]
  · simp only [PyData.depthAll]
    omega
  · simp only [PyData.eqvAll, a3, b3, Bool.and_self]
theorem Pl.good : ∀ {n : Nat} {d : D}, Pl n d → ∃ p, toPy d = some p ∧ GoodP n p := by
  intro n d h
  induction h with
  | non => exact ⟨.none, rfl, by simp [PyData.canLay0], by simp [PyData.depth], by simp [PyData.eqv]⟩
  | bl b => exact ⟨.bool b, rfl, by simp [PyData.canLay0], by simp [PyData.depth], by simp [PyData.eqv]⟩
  | int i => exact ⟨.int i, rfl, by simp [PyData.canLay0], by simp [PyData.depth], by simp [PyData.eqv]⟩
  | str hx => exact ⟨.str _, rfl, by simpa [PyData.canLay0] using hx, by simp [PyData.depth], by simp [PyData.eqv]⟩
  | @tup n ds h ih =>
    have go : ∀ ds : List D, (∀ d ∈ ds, ∃ p, toPy d = some p ∧ GoodP n p) → ∃ ps, toPys ds = some ps ∧ GoodPs n ps := by
      intro ds
      induction ds with
      | nil => exact fun _ => ⟨[], rfl, .nil⟩
      | cons x xs ih2 =>
        intro hx
        obtain ⟨p, e1, g1⟩ := hx x (by simp)
        obtain ⟨ps, e2, g2⟩ := ih2 fun d hd => hx d (by simp [hd])
        exact ⟨p :: ps, by unfold toPys; simp only [e1, e2], GoodPs.cons g1 g2⟩
    obtain ⟨ps, e, g1, g2, g3⟩ := go ds ih
    refine ⟨.tuple ps, by unfold toPy; simp only [e], by simpa [PyData.canLay0] using g1, by simp only [PyData.depth]; omega, by simpa [PyData.eqv] using g3⟩
  | @lst n ds h ih =>
    have go : ∀ ds : List D, (∀ d ∈ ds, ∃ p, toPy d = some p ∧ GoodP n p) → ∃ ps, toPys ds = some ps ∧ GoodPs n ps := by
      intro ds
      induction ds with
      | nil => exact fun _ => ⟨[], rfl, .nil⟩
      | cons x xs ih2 =>
        intro hx
        obtain ⟨p, e1, g1⟩ := hx x (by simp)
        obtain ⟨ps, e2, g2⟩ := ih2 fun d hd => hx d (by simp [hd])
        exact ⟨p :: ps, by unfold toPys; simp only [e1, e2], GoodPs.cons g1 g2⟩
    obtain ⟨ps, e, g1, g2, g3⟩ := go ds ih
    refine ⟨.list ps, by unfold toPy; simp only [e], by simpa [PyData.canLay0] using g1, by simp only [PyData.depth]; omega, by simpa [PyData.eqv] using g3⟩
  | scr ns =>
    have h1 := PySem.W.shaped_ints ns
    refine ⟨.list (ns.map .int), rfl, SeqAt.canLay_of_shaped h1, ?_, ?_⟩
    · have := PySem.W.depthAll_ints ns
      simp only [PyData.depth]
      omega
    · simp only [PyData.eqv]
      exact eqv_refl_ints ns
theorem shaped_of {n : Nat} {p : PyData} (g : GoodP n p) (hn : n ≤ 64) : SeqAt.shaped p = true := by
  unfold SeqAt.shaped
  rw [g.1, Bool.true_and]
  exact decide_eq_true (by have := g.2.1; omega)
theorem toPy_scal {x : D} {p : PyData} (h : toPy x = some p) : eqS x x = true ∨ scalD x x = false := by
  cases x <;> first
    | exact .inr rfl
    | (left; simp [eqS])
    | (cases h)
theorem eqD_refl {n : Nat} {d : D} (h : Pl n d) (hn : n ≤ 64) : eqD d d = some true := by
  obtain ⟨p, e, g⟩ := h.good
  unfold eqD
  split
  · rename_i hs
    rcases toPy_scal e with q | q
    · rw [q]
    · rw [q] at hs
      cases hs
  · unfold eqP
    simp only [e]
    rw [shaped_of g hn]
    simp only [Bool.and_self, if_true]
    rw [g.2.2]
theorem pEq_refl {n : Nat} {d : D} (h : Pl n d) (hn : n ≤ 64) : pEq d d = some (.bl true) := by
  unfold pEq
  rw [eqD_refl h hn]
  rfl
theorem pNe_refl {n : Nat} {d : D} (h : Pl n d) (hn : n ≤ 64) : pNe d d = some (.bl false) := by
  unfold pNe
  rw [eqD_refl h hn]
  rfl
/-- .. with the empty list -/
theorem pNe_nil {n : Nat} {ds : List D} (h : Pl n (.lst ds)) (hn : n ≤ 64) : pNe (.lst ds) (.lst []) = some (.bl (!ds.isEmpty)) := by
  obtain ⟨p, e, g⟩ := h.good
  unfold toPy at e
  split at e
  · rename_i ys e2
    cases e
    unfold pNe eqD
    rw [if_neg (by exact Bool.false_ne_true)]
    unfold eqP
    have e3 : toPy (.lst ds) = some (.list ys) := by unfold toPy; simp only [e2]
    have e4 : toPy (.lst []) = some (.list []) := rfl
    simp only [e3, e4]
    rw [shaped_of g hn, show SeqAt.shaped (.list []) = true from rfl]
    simp only [Bool.and_self, if_true]
    cases ds with
    | nil =>
      cases e2
      rfl
    | cons x xs =>
      unfold toPys at e2
      split at e2
      · cases e2
        rfl
      · cases e2
  · cases e
theorem pNe_scr {ns : List Int} : pNe (.scr ns) (.lst []) = some (.bl (!ns.isEmpty)) := by
  unfold pNe eqD
  rw [if_neg (by exact Bool.false_ne_true)]
  unfold eqP
  have e4 : toPy (.lst []) = some (.list []) := rfl
  have e3 : toPy (.scr ns) = some (.list (ns.map .int)) := rfl
  simp only [e3, e4]
  rw [PySem.W.shaped_ints ns, show SeqAt.shaped (.list []) = true from rfl]
  simp only [Bool.and_self, if_true]
  cases ns with
  | nil => rfl
  | cons x xs => rfl
/-- what does not change may be taken for the same -/
theorem op_rfl {p : D → D → Option D} {h : Hea} {x y : U} {Q : U → Hea → Prop} {a b c : D} (e1 : view h x = some a) (e2 : view h y = some b) (e3 : p a b = some c) (z : Q (.d c) h) : Op p h x y Q := ⟨a, b, c, e1, e2, e3, z⟩
theorem o1_rfl {p : D → Option D} {h : Hea} {x : U} {Q : U → Hea → Prop} {a c : D} (e1 : view h x = some a) (e3 : p a = some c) (z : Q (.d c) h) : O1 p h x Q := ⟨a, c, e1, e3, z⟩
theorem of_rfl {p : List D → Option D} {h : Hea} {us : List U} {Q : U → Hea → Prop} {ds : List D} {c : D} (e1 : viewS h us = some ds) (e3 : p ds = some c) (z : Q (.d c) h) : Of p h us Q := ⟨ds, c, e1, e3, z⟩
theorem wp_t {A B : Prop} (a : A) : (true = true → A) ∧ (true = false → B) := ⟨fun _ => a, fun z => nomatch z⟩
theorem wp_f {A B : Prop} (b : B) : (false = true → A) ∧ (false = false → B) := ⟨fun z => (nomatch z), fun _ => b⟩
theorem wp_nt {A B : Prop} (b : B) : ((!true) = true → A) ∧ ((!true) = false → B) := ⟨fun z => (nomatch z), fun _ => b⟩
theorem wp_nf {A B : Prop} (a : A) : ((!false) = true → A) ∧ ((!false) = false → B) := ⟨fun _ => a, fun z => nomatch z⟩
theorem ex_t {x : U} {A B : Prop} (e : isB x = some true) (a : A) : ∃ b, isB x = some b ∧ ((b = true → A) ∧ (b = false → B)) := ⟨true, e, wp_t a⟩
theorem ex_f {x : U} {A B : Prop} (e : isB x = some false) (a : B) : ∃ b, isB x = some b ∧ ((b = true → A) ∧ (b = false → B)) := ⟨false, e, wp_f a⟩
theorem isT_and {T : String} {d : D} {B : Prop} (a : isT T d = true) (b : B) : isT T d = true ∧ B := ⟨a, b⟩
theorem ex_bm {p : D → List D → Option D} {h : Hea} {x : U} {us : List U} {Q : U → Hea → Prop} {d : D} {ds : List D} {c : D} (e1 : view h x = some d) (e2 : viewS h us = some ds) (e3 : p d ds = some c) (z : Q (.d c) h) : ∃ d ds c, view h x = some d ∧ viewS h us = some ds ∧ p d ds = some c ∧ Q (.d c) h := ⟨d, ds, c, e1, e2, e3, z⟩
theorem ex_and {α : Type} {P R : α → Prop} {w : α} (a : P w) (b : R w) : ∃ x, P x ∧ R x := ⟨w, a, b⟩
theorem ex_and2 {α β : Type} {P R : α → β → Prop} {v : α} {w : β} (a : P v w) (b : R v w) : ∃ x y, P x y ∧ R x y := ⟨v, w, a, b⟩
theorem ex_and3 {α β : Type} {P R T : α → β → Prop} {v : α} {w : β} (a : P v w) (c : T v w) (b : R v w) : ∃ x y, P x y ∧ T x y ∧ R x y := ⟨v, w, a, c, b⟩
theorem ex_and4 {α β : Type} {P R T V : α → β → Prop} {v : α} {w : β} (a : P v w) (c : T v w) (d : V v w) (b : R v w) : ∃ x y, P x y ∧ T x y ∧ V x y ∧ R x y := ⟨v, w, a, c, d, b⟩
/-- held back from the words -/
def Hd (p : Prop) : Prop := p
theorem hd {p : Prop} (h : p) : Hd p := h
theorem OkS.imp {s : S} {δ : Sl} {h : Hea} {Q Q' : Out → Prop} (o : OkS s δ h Q) (i : ∀ x, Q x → Q' x) : OkS s δ h Q' := by
  obtain ⟨x, e, q⟩ := o
  exact ⟨x, e, i x q⟩
/-- a statement, by what stands behind it -/
theorem oks_cut {s t : S} {δ : Sl} {h : Hea} {Q : Out → Prop} (P : Sl → Hea → Prop) (o : OkS s δ h fun x => ∃ δ' h', x = .nx δ' h' ∧ P δ' h') (k : ∀ δ' h', P δ' h' → OkS t δ' h' Q) : OkS (sseq s t) δ h Q := oks_seq (o.imp fun x ⟨δ', h', e, p⟩ => by
  subst e
  exact k δ' h' p)
theorem op_add {h : Hea} {i j : Int} {Q : U → Hea → Prop} (z : Q (.d (.int (i + j))) h) : Op pAdd h (.d (.int i)) (.d (.int j)) Q := ⟨_, _, _, rfl, rfl, rfl, z⟩
theorem op_mul {h : Hea} {i j : Int} {Q : U → Hea → Prop} (hb : i.natAbs.log2 + j.natAbs.log2 < 100000000) (z : Q (.d (.int (i * j))) h) : Op pMul h (.d (.int i)) (.d (.int j)) Q := ⟨_, _, _, rfl, rfl, if_pos (decide_eq_true hb), z⟩
theorem op_fdiv {h : Hea} {i j : Int} {Q : U → Hea → Prop} (hb : 0 < j ∧ j.natAbs.log2 < 9000) (z : Q (.d (.int (i / j))) h) : Op pFdiv h (.d (.int i)) (.d (.int j)) Q := ⟨_, _, _, rfl, rfl, if_pos (decide_eq_true hb), z⟩
theorem op_mod {h : Hea} {i j : Int} {Q : U → Hea → Prop} (hb : j ≠ 0) (z : Q (.d (.int (i.fmod j))) h) : Op pMod h (.d (.int i)) (.d (.int j)) Q := ⟨_, _, _, rfl, rfl, if_pos (decide_eq_true hb), z⟩
theorem log2_le {i : Int} {n : Nat} (h : i.natAbs < 2 ^ (n + 1)) : i.natAbs.log2 ≤ n := by
  by_cases h0 : i.natAbs = 0
  · rw [h0]
    exact Nat.zero_le _
  · have := (Nat.log2_lt h0).mpr h
    omega
theorem lt_of_log2 {i : Int} {n : Nat} (h : i.natAbs.log2 ≤ n) : i.natAbs < 2 ^ (n + 1) := by
  by_cases h0 : i.natAbs = 0
  · rw [h0]
    exact Nat.two_pow_pos _
  · exact (Nat.log2_lt h0).mp (by omega)
theorem log2_add {a b : Int} {k : Nat} (ha : a.natAbs.log2 ≤ k) (hb : b.natAbs.log2 ≤ k) : (a + b).natAbs.log2 ≤ k + 1 := by
  refine log2_le ?_
  have h1 := lt_of_log2 ha
  have h2 := lt_of_log2 hb
  have h3 := Int.natAbs_add_le a b
  have h4 : 2 ^ (k + 1 + 1) = 2 ^ (k + 1) + 2 ^ (k + 1) := by rw [Nat.pow_succ]; omega
  omega
theorem log2_small {i : Int} {k n : Nat} (h : i.natAbs < n) (hn : n ≤ 2 ^ (k + 1)) : i.natAbs.log2 ≤ k := log2_le (by omega)
theorem fmod_pos {i j : Int} (h : 0 < j) : 0 ≤ i.fmod j ∧ i.fmod j < j := ⟨Int.fmod_nonneg_of_pos i h, Int.fmod_lt_of_pos i h⟩
theorem fmod_log2 {i j : Int} (k : Nat) (h : 0 < j) (hj : j.natAbs ≤ 2 ^ (k + 1)) : (i.fmod j).natAbs.log2 ≤ k := by
  have := fmod_pos (i := i) h
  exact log2_small (n := j.natAbs) (by omega) hj
theorem mulb {i j : Int} {a b : Nat} (hi : i.natAbs.log2 ≤ a) (hj : j.natAbs.log2 ≤ b) (h : a + b < 100000000) : i.natAbs.log2 + j.natAbs.log2 < 100000000 := by omega
theorem log2_lit {i : Int} (k : Nat) (h : i.natAbs < 2 ^ (k + 1)) : i.natAbs.log2 ≤ k := log2_le h
theorem cutL_take {α : Type} (xs : List α) (k : Nat) : PM.cutL xs none (some (k : Int)) = xs.take k := by
  unfold PM.cutL
  rw [HT.sIx_nat, HT.sIx_none, List.drop_zero, Nat.sub_zero]
  by_cases h : k ≤ xs.length
  · rw [Nat.min_eq_left h]
  · rw [Nat.min_eq_right (by omega), List.take_length, List.take_of_length_le (by omega)]
theorem cutL_drop {α : Type} (xs : List α) (k : Nat) : PM.cutL xs (some (k : Int)) none = xs.drop k := by
  unfold PM.cutL
  rw [HT.sIx_nat, HT.sIx_none]
  by_cases h : k ≤ xs.length
  · rw [Nat.min_eq_left h, List.take_of_length_le (by rw [List.length_drop]; omega)]
  · rw [Nat.min_eq_right (by omega), List.drop_length, List.drop_of_length_le (by omega), List.take_nil]
theorem Al2.length {α β : Type} {P : α → β → Prop} : ∀ {as : List α} {bs : List β}, Al2 P as bs → as.length = bs.length
  | _, _, .nil => rfl
  | _, _, .cons _ b => congrArg (· + 1) b.length
theorem okm_eq {α : Type} {f : M α} {δ : Sl} {h h2 : Hea} {x : α} (o : OkM f δ h fun a h' => a = x ∧ h' = h2) : f δ h = some (.ok x h2) := by
  obtain ⟨a, h', e, rfl, rfl⟩ := o
  exact e
theorem callP_exc {np : Nat} {m : FM} {g : M (List U)} {δ : Sl} {h h' : Hea} {us : List U} {ds : List D} {x : Exn} {hh : Hea} (e : g δ h = some (.ok us h')) (hl : us.length = np) (ha : allD us = some ds) (hm : m us [] = some (.exc x hh)) : callP np m g δ h = some (.exc x h') := by
  unfold callP mbnd
  simp only [e]
  rw [if_pos hl]
  simp only [ha, hm]
  rfl
theorem ifE_t {c : M Bool} {f g : M U} {δ : Sl} {h h' : Hea} (e : c δ h = some (.ok true h')) : ifE c f g δ h = f δ h' := by
  unfold ifE mbnd
  simp only [e, if_true]
theorem ifE_f {c : M Bool} {f g : M U} {δ : Sl} {h h' : Hea} (e : c δ h = some (.ok false h')) : ifE c f g δ h = g δ h' := by
  unfold ifE mbnd
  simp only [e]
  rfl
theorem sasg_exc {f : M U} {g : G} {δ : Sl} {h h' : Hea} {x : Exn} (e : f δ h = some (.exc x h')) : sasg f g δ h = some (.ex x δ h') := by
  unfold sasg sbnd
  simp only [e]
theorem stry_ex {i : Nat} {ms : List (Str × Bool)} {body : S} {su : Exn → S} {δ δ' : Sl} {h h' : Hea} {x : Exn} {o : Option Out} (e : body δ h = some (.ex x δ' h')) (hm : ms.lookup x.c = some true) (hi : i < δ'.length) (ho : outI i (su x (δ'.set i none) h') = o) : stry i ms body su δ h = o := by
  unfold stry
  simp only [e, hm]
  rw [if_pos hi]
  exact ho
theorem sseq_rt {s t : S} {δ : Sl} {h h' : Hea} {u : U} (e : s δ h = some (.rt u h')) : sseq s t δ h = some (.rt u h') := by
  unfold sseq
  rw [e]
theorem fnM_keep {nn : Nat} {b : S} {us : List U} {h : Hea} {P : D → Hea → Prop} (o : OkS b (us.map some ++ List.replicate (nn - us.length) none) h fun o => ∃ x h', o = .rt (.d x) h' ∧ h'.length = h.length ∧ P x h') : ∃ x h', fnM nn b us h = some (.ok (.d x) h') ∧ h'.length = h.length ∧ P x h' := by
  obtain ⟨o, e, x, h', rfl, hl, p⟩ := o
  have ht : h'.take h.length = h' := by
    rw [← hl]
    exact List.take_length
  refine ⟨x, h', ?_, hl, p⟩
  unfold fnM
  simp only [e]
  unfold fin
  dsimp only
  rw [ht]
  split <;> rfl
theorem fnM_exc {nn : Nat} {b : S} {us : List U} {h : Hea} {x : Exn} (o : OkS b (us.map some ++ List.replicate (nn - us.length) none) h fun o => ∃ δ h', o = .ex x δ h') : ∃ h', fnM nn b us h = some (.exc x h') := by
  obtain ⟨o, e, δ, h', rfl⟩ := o
  unfold fnM
  simp only [e]
  unfold finX
  split
  · exact ⟨_, rfl⟩
  · exact ⟨_, rfl⟩
theorem fnM_pure {nn : Nat} {b : S} {us : List U} {h : Hea} {P : D → Prop} (o : OkS b (us.map some ++ List.replicate (nn - us.length) none) h fun o => ∃ x h', o = .rt (.d x) h' ∧ P x) : ∃ x h', fnM nn b us h = some (.ok (.d x) h') ∧ P x := by
  obtain ⟨o, e, x, h', rfl, p⟩ := o
  unfold fnM
  simp only [e]
  unfold fin
  dsimp only
  split
  · exact ⟨x, _, rfl, p⟩
  · exact ⟨x, _, rfl, p⟩
def topS (i : Nat) : Stmt := PySem.Challenge.pw_sameagain_k59_whole_run_texts.main.body.getD i (.Pass ⟨0, 0, 0, 0⟩)
def methS (i j : Nat) : Stmt := match topS i with
  | .ClassDef (body := b) .. => b.getD j (.Pass ⟨0, 0, 0, 0⟩)
  | _ => .Pass ⟨0, 0, 0, 0⟩
structure Facts (K : PySem.W.Frag) (mg : Str → Option Value) : Prop where
  f_is_name : ∃ (f : Addr) (fd : FuncData), Fun K "is_name" "is_name" (topS 1) f fd ∧ mg "is_name" = some (.ref f) ∧ Binds K fd ["value"] []
  f_got_text : ∃ (f : Addr) (fd : FuncData), Fun K "got_text" "got_text" (topS 8) f fd ∧ mg "got_text" = some (.ref f) ∧ Binds K fd ["got"] []
  f_write_run : ∃ (f : Addr) (fd : FuncData), Fun K "write_run" "write_run" (topS 9) f fd ∧ mg "write_run" = some (.ref f) ∧ Binds K fd ["run"] []
  f_write_log : ∃ (f : Addr) (fd : FuncData), Fun K "write_log" "write_log" (topS 10) f fd ∧ mg "write_log" = some (.ref f) ∧ Binds K fd ["log"] []
  f_is_small_number : ∃ (f : Addr) (fd : FuncData), Fun K "is_small_number" "is_small_number" (topS 11) f fd ∧ mg "is_small_number" = some (.ref f) ∧ Binds K fd ["word"] []
  f_read_rows : ∃ (f : Addr) (fd : FuncData), Fun K "read_rows" "read_rows" (topS 12) f fd ∧ mg "read_rows" = some (.ref f) ∧ Binds K fd ["text", "many"] []
  f_read_run : ∃ (f : Addr) (fd : FuncData), Fun K "read_run" "read_run" (topS 13) f fd ∧ mg "read_run" = some (.ref f) ∧ Binds K fd ["text"] []
  f_read_log : ∃ (f : Addr) (fd : FuncData), Fun K "read_log" "read_log" (topS 14) f fd ∧ mg "read_log" = some (.ref f) ∧ Binds K fd ["text"] []
  f__law_number : ∃ (f : Addr) (fd : FuncData), Fun K "_law_number" "_law_number" (topS 16) f fd ∧ mg "_law_number" = some (.ref f) ∧ Binds K fd ["script", "index"] []
  f__law_take : ∃ (f : Addr) (fd : FuncData), Fun K "_law_take" "_law_take" (topS 17) f fd ∧ mg "_law_take" = some (.ref f) ∧ Binds K fd ["draw", "many"] []
  f__law_pick : ∃ (f : Addr) (fd : FuncData), Fun K "_law_pick" "_law_pick" (topS 18) f fd ∧ mg "_law_pick" = some (.ref f) ∧ Binds K fd ["draw", "items"] []
  f__law_fault : ∃ (f : Addr) (fd : FuncData), Fun K "_law_fault" "_law_fault" (topS 19) f fd ∧ mg "_law_fault" = some (.ref f) ∧ Binds K fd ["text", "is_log"] []
  f__law_got : ∃ (f : Addr) (fd : FuncData), Fun K "_law_got" "_law_got" (topS 20) f fd ∧ mg "_law_got" = some (.ref f) ∧ Binds K fd ["draw"] []
  f_law : ∃ (f : Addr) (fd : FuncData), Fun K "law" "law" (topS 21) f fd ∧ mg "law" = some (.ref f) ∧ Binds K fd ["script"] []
  n_all : mg "all" = none
  n_enumerate : mg "enumerate" = none
  n_int : mg "int" = none
  n_isinstance : mg "isinstance" = none
  n_len : mg "len" = none
  n_range : mg "range" = none
  n_str : mg "str" = none
  n_tuple : mg "tuple" = none
  k_FIGURES : ∃ u, mg "FIGURES" = some u ∧ RelV (.str "0123456789") u
  x_BadText : ∃ (C fI : Addr) (fd : FuncData), mg "BadText" = some (.ref C) ∧ OexC K C ∧ PySem.W.findIn K (.ref C) "__init__" = some (some (.ref fI)) ∧ PySem.W.typeIn K (.ref fI) = some (.type "function") ∧ (∀ f ∈ (["line", "column"] : List Str), PySem.W.findIn K (.ref C) f = some none) ∧ Binds K fd ["self", "line", "column"] [] ∧ Fun K "__init__" "BadText.__init__" (methS 5 0) fI fd
  xm_BadText : XmAt K mg "BadText" [("BadText", true)]
  xf_BadText_column : XfAt K mg ["BadText"] "column"
  xf_BadText_line : XfAt K mg ["BadText"] "line"
theorem sc_is_name : FnScope ["value", "sign"] ["value"] (defScope (topS 1)) := ⟨rfl, rfl, rfl, by decide +kernel, rfl, by decide +kernel, by decide +kernel⟩
theorem sc_got_text : FnScope ["got"] ["got"] (defScope (topS 8)) := ⟨rfl, rfl, rfl, by decide +kernel, rfl, by decide +kernel, by decide +kernel⟩
theorem sc_write_run : FnScope ["run", "thread", "got"] ["run"] (defScope (topS 9)) := ⟨rfl, rfl, rfl, by decide +kernel, rfl, by decide +kernel, by decide +kernel⟩
theorem sc_write_log : FnScope ["log", "thread", "place", "got"] ["log"] (defScope (topS 10)) := ⟨rfl, rfl, rfl, by decide +kernel, rfl, by decide +kernel, by decide +kernel⟩
theorem sc_is_small_number : FnScope ["word", "sign"] ["word"] (defScope (topS 11)) := ⟨rfl, rfl, rfl, by decide +kernel, rfl, by decide +kernel, by decide +kernel⟩
theorem sc_read_rows : FnScope ["text", "many", "found", "lines", "at", "line", "words", "numbers", "place", "word", "is_right"] ["text", "many"] (defScope (topS 12)) := ⟨rfl, rfl, rfl, by decide +kernel, rfl, by decide +kernel, by decide +kernel⟩
theorem sc_read_run : FnScope ["text", "name", "numbers", "got"] ["text"] (defScope (topS 13)) := ⟨rfl, rfl, rfl, by decide +kernel, rfl, by decide +kernel, by decide +kernel⟩
theorem sc_read_log : FnScope ["text", "name", "numbers", "got"] ["text"] (defScope (topS 14)) := ⟨rfl, rfl, rfl, by decide +kernel, rfl, by decide +kernel, by decide +kernel⟩
theorem sc__law_number : FnScope ["script", "index", "rest", "step", "blend", "cell", "turn"] ["script", "index"] (defScope (topS 16)) := ⟨rfl, rfl, rfl, by decide +kernel, rfl, by decide +kernel, by decide +kernel⟩
theorem sc__law_take : FnScope ["draw", "many"] ["draw", "many"] (defScope (topS 17)) := ⟨rfl, rfl, rfl, by decide +kernel, rfl, by decide +kernel, by decide +kernel⟩
theorem sc__law_pick : FnScope ["draw", "items"] ["draw", "items"] (defScope (topS 18)) := ⟨rfl, rfl, rfl, by decide +kernel, rfl, by decide +kernel, by decide +kernel⟩
theorem sc__law_fault : FnScope ["text", "is_log", "bad", "told"] ["text", "is_log"] (defScope (topS 19)) := ⟨rfl, rfl, rfl, by decide +kernel, rfl, by decide +kernel, by decide +kernel⟩
theorem sc__law_got : FnScope ["draw"] ["draw"] (defScope (topS 20)) := ⟨rfl, rfl, rfl, by decide +kernel, rfl, by decide +kernel, by decide +kernel⟩
theorem sc_law : FnScope ["script", "draw", "names", "run", "log", "rows", "more", "told", "is_log", "text", "turn", "at", "words", "spot", "spoilt", "full", "long", "short", "thread", "got", "place", "row"] ["script"] (defScope (topS 21)) := ⟨rfl, rfl, rfl, by decide +kernel, rfl, by decide +kernel, by decide +kernel⟩
section
def b_is_name : S := (sret (andV (isiE [] (anB "str" []) (vr 0)) (andV (chain pLe pLe (cn (.int 1)) (lenE (mcons (vr 0) mnil)) (cn (.int 8))) (fnE pAll (mcons (lcM (itE itStr (vr 0)) [1] (gnm 1) (mret true) (chain pLe pLe (cn (.str "a")) (vr 1) (cn (.str "z"))) lstF) mnil)))))
def f_is_name : FM := fnM 2 b_is_name
def b_got_text : S := (sret (ifE (tst (op2 pIs (vr 0) (cn .non))) (cn (.str "")) (op2 pAdd (cn (.str " ")) (fnE pStr (mcons (vr 0) mnil)))))
def f_got_text : FM := fnM 1 b_got_text
def b_write_run : S := (sret (bmE "str" pJoin (cn (.str "")) (mcons (lcM (itE seqL (vr 0)) [1, 2] (gtup 2 (gcons (gnm 1) (gcons (gnm 2) gnil))) (mret true) (op2 pAdd (op2 pAdd (vr 1) (callP 1 f_got_text (mcons (vr 2) mnil))) (cn (.str "\n"))) lstF) mnil)))
def f_write_run : FM := fnM 3 b_write_run
def b_write_log : S := (sret (bmE "str" pJoin (cn (.str "")) (mcons (lcM (itE seqL (vr 0)) [1, 2, 3] (gtup 3 (gcons (gnm 1) (gcons (gnm 2) (gcons (gnm 3) gnil)))) (mret true) (op2 pAdd (op2 pAdd (op2 pAdd (op2 pAdd (vr 1) (cn (.str " "))) (fnE pStr (mcons (vr 2) mnil))) (callP 1 f_got_text (mcons (vr 3) mnil))) (cn (.str "\n"))) lstF) mnil)))
def f_write_log : FM := fnM 4 b_write_log
def b_is_small_number : S := (sseq (sif (orT (notT (tst (chain pLe pLe (cn (.int 1)) (lenE (mcons (vr 0) mnil)) (cn (.int 2))))) (notT (tst (fnE pAll (mcons (lcM (itE itStr (vr 0)) [1] (gnm 1) (mret true) (op2 pIn (vr 1) (cn (.str "0123456789"))) lstF) mnil))))) (sret (cn (.bl false))) snx)
 (sret (orV (op2 pEq (lenE (mcons (vr 0) mnil)) (cn (.int 1))) (op2 pNe (ixE (vr 0) (cn (.int 0))) (cn (.str "0"))))))
def f_is_small_number : FM := fnM 2 b_is_small_number
def b_read_rows : S := (sseq (sif (notT (tst (isiE [] (anB "str" []) (vr 0)))) (sraise "BadText" ["line", "column"] (mcons (cn (.int 0)) (mcons (cn (.int 0)) mnil))) snx)
 (sseq (sasg (mbnd mnil lstN) (gnm 2))
 (sseq (sasg (bmE "str" pSplit (vr 0) (mcons (cn (.str "\n")) mnil)) (gnm 3))
 (sseq (sfor (it1 enumL (mcons (slE (vr 3) none (some (unE pNeg (cn (.int 1))))) mnil)) (gtup 2 (gcons (gnm 4) (gcons (gnm 5) gnil))) (sseq (sasg (bmE "str" pSplit (vr 5) (mcons (cn (.str " ")) mnil)) (gnm 6))
 (sseq (sfor (it1 enumL (mcons (vr 6) mnil)) (gtup 2 (gcons (gnm 8) (gcons (gnm 9) gnil))) (sseq (sasg (ifE (tst (op2 pEq (vr 8) (cn (.int 0)))) (callP 1 f_is_name (mcons (vr 9) mnil)) (callP 1 f_is_small_number (mcons (vr 9) mnil))) (gnm 10))
 (sif (orT (notT (tst (vr 10))) (tst (op2 pGt (vr 8) (op2 pAdd (vr 1) (cn (.int 1)))))) (sraise "BadText" ["line", "column"] (mcons (op2 pAdd (vr 4) (cn (.int 1))) (mcons (op2 pAdd (vr 8) (cn (.int 1))) mnil))) snx)))
 (sseq (sif (tst (op2 pLt (lenE (mcons (vr 6) mnil)) (op2 pAdd (vr 1) (cn (.int 1))))) (sraise "BadText" ["line", "column"] (mcons (op2 pAdd (vr 4) (cn (.int 1))) (mcons (op2 pAdd (lenE (mcons (vr 6) mnil)) (cn (.int 1))) mnil))) snx)
 (sseq (sasg (lcM (itE seqL (slE (vr 6) (some (cn (.int 1))) none)) [9] (gnm 9) (mret true) (fnE pInt (mcons (vr 9) mnil)) lstF) (gnm 7))
 (sexp (lmE pAppend (vr 2) (mcons (mbnd (mcons (ixE (vr 6) (cn (.int 0))) (mcons (slE (vr 7) none (some (vr 1))) (mcons (ifE (tst (op2 pGt (lenE (mcons (vr 7) mnil)) (vr 1))) (ixE (vr 7) (vr 1)) (cn .non)) mnil))) tupE) mnil))))))))
 (sseq (sif (tst (op2 pNe (ixE (vr 3) (unE pNeg (cn (.int 1)))) (cn (.str "")))) (sraise "BadText" ["line", "column"] (mcons (lenE (mcons (vr 3) mnil)) (mcons (cn (.int 1)) mnil))) snx)
 (sret (fz (vr 2))))))))
def f_read_rows : FM := fnM 11 b_read_rows
def b_read_run : S := (sret (fnE pTuple (mcons (lcM (itE seqL (callP 2 f_read_rows (mcons (vr 0) (mcons (cn (.int 0)) mnil)))) [1, 2, 3] (gtup 3 (gcons (gnm 1) (gcons (gnm 2) (gcons (gnm 3) gnil)))) (mret true) (mbnd (mcons (vr 1) (mcons (vr 3) mnil)) tupE) lstF) mnil)))
def f_read_run : FM := fnM 4 b_read_run
def b_read_log : S := (sret (fnE pTuple (mcons (lcM (itE seqL (callP 2 f_read_rows (mcons (vr 0) (mcons (cn (.int 1)) mnil)))) [1, 2, 3] (gtup 3 (gcons (gnm 1) (gcons (gnm 2) (gcons (gnm 3) gnil)))) (mret true) (mbnd (mcons (vr 1) (mcons (ixE (vr 2) (cn (.int 0))) (mcons (vr 3) mnil))) tupE) lstF) mnil)))
def f_read_log : FM := fnM 4 b_read_log
def b__law_number : S := (sseq (sasg (ifE (tst (op2 pNe (vr 0) (mbnd mnil lstE))) (mbnd (mcons (ixE (vr 0) (op2 pMod (vr 1) (lenE (mcons (vr 0) mnil)))) (mcons (op2 pFdiv (vr 1) (lenE (mcons (vr 0) mnil))) mnil)) tupE) (mbnd (mcons (cn (.int 12345)) (mcons (cn (.int 0)) mnil)) tupE)) (gtup 2 (gcons (gnm 5) (gcons (gnm 6) gnil))))
 (sseq (sasg (ifE (tst (op2 pLt (vr 6) (cn (.int 60)))) (op2 pSub (vr 5) (op2 pPow (cn (.int 10)) (cn (.int 18)))) (cn (.int 0))) (gnm 2))
 (sseq (sfor (itN rngL1 (mcons (op2 pMod (fnE pInt (mcons (vr 6) mnil)) (cn (.int 60))) mnil)) (gnm 3) (sasg (op2 pFdiv (vr 2) (cn (.int 1009))) (gnm 2)))
 (sseq (sif (tst (op2 pGt (vr 2) (cn (.int 0)))) (sret (op2 pMod (fnE pInt (mcons (vr 2) mnil)) (cn (.int 1009)))) snx)
 (sseq (sasg (op2 pMod (op2 pAdd (op2 pMul (fnE pInt (mcons (op2 pAdd (vr 5) (op2 pMul (cn (.int 977)) (vr 1))) mnil)) (cn (.int 48271))) (op2 pMul (cn (.int 31)) (lenE (mcons (vr 0) mnil)))) (cn (.int 2147483647))) (gnm 4))
 (sseq (sasg (op2 pMod (op2 pAdd (op2 pMul (vr 4) (vr 4)) (op2 pMul (cn (.int 40503)) (vr 1))) (cn (.int 2147483629))) (gnm 4))
 (sret (fnE pInt (mcons (op2 pMod (op2 pAdd (op2 pMul (vr 4) (cn (.int 69621))) (op2 pFdiv (vr 4) (cn (.int 977)))) (cn (.int 2147483587))) mnil)))))))))
def f__law_number : FM := fnM 7 b__law_number
def b__law_take : S := (sseq (saugS pIadd (vr 0) (cn (.int 1)) (cn (.int 1)))
 (sret (op2 pMod (fnE pInt (mcons (callP 2 f__law_number (mcons (ixE (vr 0) (cn (.int 0))) (mcons (fnE pInt (mcons (ixE (vr 0) (cn (.int 1))) mnil)) mnil))) mnil)) (vr 1))))
def f__law_take : FM := fnM 2 b__law_take
def b__law_pick : S := (sret (ixE (vr 1) (callM 2 f__law_take (mcons (vr 0) (mcons (lenE (mcons (vr 1) mnil)) mnil)))))
def f__law_pick : FM := fnM 2 b__law_pick
def b__law_fault : S := (sseq (stry 2 [("BadText", true)] (sasg (ifE (tst (vr 1)) (callP 1 f_read_log (mcons (vr 0) mnil)) (callP 1 f_read_run (mcons (vr 0) mnil))) (gnm 3)) (fun e => (sret (mbnd (mcons (xfE ["BadText"] e "line") (mcons (xfE ["BadText"] e "column") mnil)) tupE))))
 (sret (cn .non)))
def f__law_fault : FM := fnM 4 b__law_fault
def b__law_got : S := (sret (callM 2 f__law_pick (mcons (vr 0) (mcons (mbnd (mcons (cn .non) (mcons (cn (.int 0)) (mcons (cn (.int 7)) (mcons (cn (.int 10)) (mcons (cn (.int 59)) mnil))))) lstE) mnil))))
def f__law_got : FM := fnM 1 b__law_got
def b_law : S := (sseq (sasg (mbnd (mcons (vr 0) (mcons (cn (.int 0)) mnil)) lstN) (gnm 1))
 (sseq (sasg (mbnd (mcons (cn (.str "t")) (mcons (cn (.str "abcdefgh")) (mcons (cn (.str "zz")) mnil))) lstE) (gnm 2))
 (sseq (sasg (lcM (itN rngL1 (mcons (callM 2 f__law_take (mcons (vr 1) (mcons (cn (.int 8)) mnil))) mnil)) [10] (gnm 10) (mret true) (mbnd (mcons (callM 2 f__law_pick (mcons (vr 1) (mcons (vr 2) mnil))) (mcons (callM 1 f__law_got (mcons (vr 1) mnil)) mnil)) tupE) lstF) (gnm 3))
 (sseq (sasg (lcM (itN rngL1 (mcons (callM 2 f__law_take (mcons (vr 1) (mcons (cn (.int 8)) mnil))) mnil)) [10] (gnm 10) (mret true) (mbnd (mcons (callM 2 f__law_pick (mcons (vr 1) (mcons (vr 2) mnil))) (mcons (callM 2 f__law_take (mcons (vr 1) (mcons (cn (.int 60)) mnil))) (mcons (callM 1 f__law_got (mcons (vr 1) mnil)) mnil))) tupE) lstF) (gnm 4))
 (sseq (sasg (lcM (itE seqL (vr 3)) [18, 19] (gtup 2 (gcons (gnm 18) (gcons (gnm 19) gnil))) (mret true) (bmE "str" pJoin (cn (.str " ")) (mcons (op2 pAdd (mbnd (mcons (vr 18) mnil) lstE) (ifE (tst (op2 pIs (vr 19) (cn .non))) (mbnd mnil lstE) (mbnd (mcons (fnE pStr (mcons (vr 19) mnil)) mnil) lstE))) mnil)) lstF) (gnm 5))
 (sseq (sasg (lcM (itE seqL (vr 4)) [18, 19, 20] (gtup 3 (gcons (gnm 18) (gcons (gnm 20) (gcons (gnm 19) gnil)))) (mret true) (bmE "str" pJoin (cn (.str " ")) (mcons (op2 pAdd (mbnd (mcons (vr 18) (mcons (fnE pStr (mcons (vr 20) mnil)) mnil)) lstE) (ifE (tst (op2 pIs (vr 19) (cn .non))) (mbnd mnil lstE) (mbnd (mcons (fnE pStr (mcons (vr 19) mnil)) mnil) lstE))) mnil)) lstF) (gnm 6))
 (sseq (sfor (itE seqT (mbnd (mcons (mbnd (mcons (vr 5) (mcons (vr 3) (mcons (cn (.bl false)) mnil))) tupE) (mcons (mbnd (mcons (vr 6) (mcons (vr 4) (mcons (cn (.bl true)) mnil))) tupE) mnil)) tupE)) (gtup 3 (gcons (gnm 5) (gcons (gnm 7) (gcons (gnm 8) gnil)))) (sseq (sasg (bmE "str" pJoin (cn (.str "")) (mcons (lcM (itE seqL (vr 5)) [21] (gnm 21) (mret true) (op2 pAdd (vr 21) (cn (.str "\n"))) lstF) mnil)) (gnm 9))
 (sseq (sif (orT (tst (op2 pNe (ifE (tst (vr 8)) (callP 1 f_write_log (mcons (vr 7) mnil)) (callP 1 f_write_run (mcons (vr 7) mnil))) (vr 9))) (tst (op2 pNe (ifE (tst (vr 8)) (callP 1 f_read_log (mcons (vr 9) mnil)) (callP 1 f_read_run (mcons (vr 9) mnil))) (fnE pTuple (mcons (vr 7) mnil))))) (sret (cn (.bl false))) snx)
 (sseq (sif (tst (op2 pNe (callP 2 f__law_fault (mcons (op2 pAdd (vr 9) (callM 2 f__law_pick (mcons (vr 1) (mcons (mbnd (mcons (cn (.str "x")) (mcons (cn (.str "x 1")) (mcons (cn (.str " ")) (mcons (cn (.str "?")) mnil)))) lstE) mnil)))) (mcons (vr 8) mnil))) (mbnd (mcons (op2 pAdd (lenE (mcons (vr 5) mnil)) (cn (.int 1))) (mcons (cn (.int 1)) mnil)) tupE))) (sret (cn (.bl false))) snx)
 (sif (tst (op2 pNe (vr 5) (mbnd mnil lstE))) (sseq (sasg (callM 2 f__law_take (mcons (vr 1) (mcons (lenE (mcons (vr 5) mnil)) mnil))) (gnm 11))
 (sseq (sasg (spNE (ixE (vr 5) (vr 11)) (mcons (cn (.str " ")) mnil)) (gnm 12))
 (sseq (sasg (callM 2 f__law_take (mcons (vr 1) (mcons (lenE (mcons (vr 12) mnil)) mnil))) (gnm 13))
 (sseq (sasg (callM 2 f__law_pick (mcons (vr 1) (mcons (op2 pAdd (mbnd (mcons (cn (.str "")) (mcons (cn (.str "A")) (mcons (cn (.str "-1")) (mcons (cn (.str "007")) (mcons (cn (.str "100")) (mcons (cn (.str "t1")) (mcons (cn (.str "abcdefghi")) mnil))))))) lstE) (ifE (tst (op2 pEq (vr 13) (cn (.int 0)))) (mbnd (mcons (cn (.str "5")) mnil) lstE) (mbnd (mcons (cn (.str "a")) (mcons (cn (.str "01")) mnil)) lstE))) mnil))) (gset (vr 12) (vr 13)))
 (sseq (sasg (bmE "str" pJoin (cn (.str "")) (mcons (lcM (itE seqL (op2 pAdd (op2 pAdd (slE (vr 5) none (some (vr 11))) (mbnd (mcons (bmE "str" pJoin (cn (.str " ")) (mcons (vr 12) mnil)) mnil) lstE)) (slE (vr 5) (some (op2 pAdd (vr 11) (cn (.int 1)))) none))) [21] (gnm 21) (mret true) (op2 pAdd (vr 21) (cn (.str "\n"))) lstF) mnil)) (gnm 14))
 (sseq (sif (orT (tst (op2 pNe (callP 2 f__law_fault (mcons (vr 14) (mcons (vr 8) mnil))) (mbnd (mcons (op2 pAdd (vr 11) (cn (.int 1))) (mcons (op2 pAdd (vr 13) (cn (.int 1))) mnil)) tupE))) (tst (op2 pNe (callP 2 f__law_fault (mcons (op2 pAdd (vr 14) (cn (.str "x"))) (mcons (vr 8) mnil))) (mbnd (mcons (op2 pAdd (vr 11) (cn (.int 1))) (mcons (op2 pAdd (vr 13) (cn (.int 1))) mnil)) tupE)))) (sret (cn (.bl false))) snx)
 (sseq (sasg (bmE "str" pSplit (ixE (vr 5) (vr 11)) (mcons (cn (.str " ")) mnil)) (gnm 15))
 (sseq (sasg (bmE "str" pJoin (cn (.str " ")) (mcons (op2 pAdd (slE (vr 15) none (some (cn (.int 1)))) (op2 pMul (mbnd (mcons (cn (.str "1")) mnil) lstE) (op2 pAdd (cn (.int 2)) (fnE pInt (mcons (vr 8) mnil))))) mnil)) (gnm 16))
 (sseq (sasg (bmE "str" pJoin (cn (.str "")) (mcons (lcM (itE seqL (op2 pAdd (op2 pAdd (slE (vr 5) none (some (vr 11))) (mbnd (mcons (ifE (tst (op2 pIs (vr 8) (cn (.bl false)))) (vr 16) (ixE (vr 15) (cn (.int 0)))) mnil) lstE)) (slE (vr 5) (some (op2 pAdd (vr 11) (cn (.int 1)))) none))) [21] (gnm 21) (mret true) (op2 pAdd (vr 21) (cn (.str "\n"))) lstF) mnil)) (gnm 17))
 (sif (tst (op2 pNe (callP 2 f__law_fault (mcons (vr 17) (mcons (vr 8) mnil))) (mbnd (mcons (op2 pAdd (vr 11) (cn (.int 1))) (mcons (ifE (tst (op2 pIs (vr 8) (cn (.bl false)))) (cn (.int 3)) (cn (.int 2))) mnil)) tupE))) (sret (cn (.bl false))) snx)))))))))) snx)))))
 (sret (andV (op2 pEq (callP 2 f__law_fault (mcons (cn .non) (mcons (cn (.bl false)) mnil))) (mbnd (mcons (cn (.int 0)) (mcons (cn (.int 0)) mnil)) tupE)) (andV (op2 pEq (callP 2 f__law_fault (mcons (cn (.int 5)) (mcons (cn (.bl true)) mnil))) (mbnd (mcons (cn (.int 0)) (mcons (cn (.int 0)) mnil)) tupE)) (andV (op2 pEq (callP 2 f__law_fault (mcons (cn (.str "t 1 2 3\n")) (mcons (cn (.bl true)) mnil))) (mbnd (mcons (cn (.int 1)) (mcons (cn (.int 4)) mnil)) tupE)) (op2 pEq (callP 1 f_read_run (mcons (cn (.str "")) mnil)) (mbnd mnil tupE)))))))))))))
def f_law : FM := fnM 22 b_law
end
section
variable {P : Program} {w : World} {K : PySem.W.Frag} {mg : Str → Option Value} {base : Heap}
theorem sc_BadText_init : FnScope ["self", "line", "column"] ["self", "line", "column"] (defScope (methS 5 0)) := ⟨rfl, rfl, rfl, by decide +kernel, rfl, by decide +kernel, by decide +kernel⟩
theorem at_exc_BadText (E : Facts K mg) : XcAt P w K mg base 1 "BadText" ["line", "column"] := by
  obtain ⟨C, fI, fd, h1, h2, h3, h4, h5, h6, h7⟩ := E.x_BadText
  refine ⟨C, fI, fd, ["self", "line", "column"], h1, h2, h3, h4, h5, h6, init2 h7 sc_BadText_init rfl rfl fun X hN hs => ?_⟩
  exact (pss_cons (ps_ost (pe_var (i := 0) (by rw [hN]; rfl) (by rw [hs]; exact Or.inl rfl)) (pe_var (i := 1) (by rw [hN]; rfl) (by rw [hs]; exact Or.inl rfl))) (pss_one (ps_ost (pe_var (i := 0) (by rw [hN]; rfl) (by rw [hs]; exact Or.inl rfl)) (pe_var (i := 2) (by rw [hN]; rfl) (by rw [hs]; exact Or.inl rfl)))))
theorem ok_is_name (E : Facts K mg) {f : Addr} {fd : FuncData} (F : Fun K "is_name" "is_name" (topS 1) f fd) : FnOk P w K mg base (L2.CX P w) 1 f fd ["value"] (spM ⟨⟨K, mg⟩, j0⟩ 1 f_is_name) := by
  have Sc := sc_is_name
  refine fn_ok F Sc fun cdv A outer s H EE hr tk po => ?_
  exact (rss_one (rs_ret (re_and (re_isiB [] (fun _ h => by cases h) (isiC_bt fun _ _ h => by cases h) E.n_isinstance E.n_str rfl (re_var 0)) (re_and (re_chain (op_leA) op2_le (op_leA) op2_le re_int (re_len E.n_len (ra_cons (re_var 0) ra_nil)) re_int) (re_one (re_bfn (cr_all rfl) fn_all E.n_all rfl (ra_cons (re_lc [("sign", 1)] mk_lstF rfl Sc.nd rfl (ri_str (re_var 0)) (by kernel_rfl) (fun _ _ _ _ _ => (rgc_name Sc.nd)) (fun _ _ _ _ _ => rts_nil) (fun _ _ _ _ _ => (re_chain (op_leA) op2_le (op_leA) op2_le re_str (re_var 1) re_str))) ra_nil)))))))
theorem at_is_name (E : Facts K mg) : FnAt P w K mg base 1 "is_name" 1 f_is_name := by
  obtain ⟨f, fd, F, hm, hb⟩ := E.f_is_name
  exact ⟨f, fd, ["value"], hm, F.kp, hb, ok_is_name E F⟩
theorem ok_got_text (E : Facts K mg) {f : Addr} {fd : FuncData} (F : Fun K "got_text" "got_text" (topS 8) f fd) : FnOk P w K mg base (L2.CX P w) 1 f fd ["got"] (spM ⟨⟨K, mg⟩, j0⟩ 1 f_got_text) := by
  have Sc := sc_got_text
  refine fn_ok F Sc fun cdv A outer s H EE hr tk po => ?_
  exact (rss_one (rs_ret (re_if (rt_cmp (op_isA) op2_is (re_var 0) re_non) re_str (re_op op_addAll op2_add re_str (re_bty call_strA fn_str E.n_str rfl (ra_cons (re_var 0) ra_nil))))))
theorem at_got_text (E : Facts K mg) : FnAt P w K mg base 1 "got_text" 1 f_got_text := by
  obtain ⟨f, fd, F, hm, hb⟩ := E.f_got_text
  exact ⟨f, fd, ["got"], hm, F.kp, hb, ok_got_text E F⟩
theorem ok_write_run (E : Facts K mg) {f : Addr} {fd : FuncData} (F : Fun K "write_run" "write_run" (topS 9) f fd) : FnOk P w K mg base (L2.CX P w) 2 f fd ["run"] (spM ⟨⟨K, mg⟩, j0⟩ 1 f_write_run) := by
  have Sc := sc_write_run
  refine fn_ok F Sc fun cdv A outer s H EE hr tk po => ?_
  exact (rss_one (rs_ret (re_bm PySem.F.plainAttrs_str PySem.F.slot_str_join PySem.F.type_str_join mt_join mt_joinC re_str (ra_cons (re_lc [("thread", 1), ("got", 2)] mk_lstF rfl Sc.nd rfl (ri_list (re_var 0)) (by kernel_rfl) (fun _ _ _ _ _ => (rgc_tup rfl (rgcs_cons (rgc_name Sc.nd) (rgcs_cons (rgc_name Sc.nd) rgcs_nil)))) (fun _ _ _ _ _ => rts_nil) (fun _ _ _ _ _ => (re_op op_addAll op2_add (re_op op_addAll op2_add (re_var 1) (re_callP (at_got_text E) (hr.mono (by decide)) takes0 (ra_cons (re_var 2) ra_nil))) re_str))) ra_nil))))
theorem at_write_run (E : Facts K mg) : FnAt P w K mg base 2 "write_run" 1 f_write_run := by
  obtain ⟨f, fd, F, hm, hb⟩ := E.f_write_run
  exact ⟨f, fd, ["run"], hm, F.kp, hb, ok_write_run E F⟩
theorem ok_write_log (E : Facts K mg) {f : Addr} {fd : FuncData} (F : Fun K "write_log" "write_log" (topS 10) f fd) : FnOk P w K mg base (L2.CX P w) 2 f fd ["log"] (spM ⟨⟨K, mg⟩, j0⟩ 1 f_write_log) := by
  have Sc := sc_write_log
  refine fn_ok F Sc fun cdv A outer s H EE hr tk po => ?_
  exact (rss_one (rs_ret (re_bm PySem.F.plainAttrs_str PySem.F.slot_str_join PySem.F.type_str_join mt_join mt_joinC re_str (ra_cons (re_lc [("thread", 1), ("place", 2), ("got", 3)] mk_lstF rfl Sc.nd rfl (ri_list (re_var 0)) (by kernel_rfl) (fun _ _ _ _ _ => (rgc_tup rfl (rgcs_cons (rgc_name Sc.nd) (rgcs_cons (rgc_name Sc.nd) (rgcs_cons (rgc_name Sc.nd) rgcs_nil))))) (fun _ _ _ _ _ => rts_nil) (fun _ _ _ _ _ => (re_op op_addAll op2_add (re_op op_addAll op2_add (re_op op_addAll op2_add (re_op op_addAll op2_add (re_var 1) re_str) (re_bty call_strA fn_str E.n_str rfl (ra_cons (re_var 2) ra_nil))) (re_callP (at_got_text E) (hr.mono (by decide)) takes0 (ra_cons (re_var 3) ra_nil))) re_str))) ra_nil))))
theorem at_write_log (E : Facts K mg) : FnAt P w K mg base 2 "write_log" 1 f_write_log := by
  obtain ⟨f, fd, F, hm, hb⟩ := E.f_write_log
  exact ⟨f, fd, ["log"], hm, F.kp, hb, ok_write_log E F⟩
theorem ok_is_small_number (E : Facts K mg) {f : Addr} {fd : FuncData} (F : Fun K "is_small_number" "is_small_number" (topS 11) f fd) : FnOk P w K mg base (L2.CX P w) 1 f fd ["word"] (spM ⟨⟨K, mg⟩, j0⟩ 1 f_is_small_number) := by
  obtain ⟨u_FIGURES, h_FIGURES, r_FIGURES⟩ := E.k_FIGURES
  have Sc := sc_is_small_number
  refine fn_ok F Sc fun cdv A outer s H EE hr tk po => ?_
  exact (rss_cons (rs_if (rt_w (rw_or (rt_not (rt_chain (op_leA) op2_le (op_leA) op2_le re_int (re_len E.n_len (ra_cons (re_var 0) ra_nil)) re_int)) (rw_or1 (rt_not (rt_val (re_bfn (cr_all rfl) fn_all E.n_all rfl (ra_cons (re_lc [("sign", 1)] mk_lstF rfl Sc.nd rfl (ri_str (re_var 0)) (by kernel_rfl) (fun _ _ _ _ _ => (rgc_name Sc.nd)) (fun _ _ _ _ _ => rts_nil) (fun _ _ _ _ _ => (re_cmp (op_inA (Room.u65 hr)) op2_in (re_var 1) (re_glob h_FIGURES r_FIGURES (fun _ _ _ => .str _))))) ra_nil))))))) (rss_one (rs_ret re_bl)) rss_nil)
 (rss_one (rs_ret (re_or (re_cmp (op_eqA hr.units) op2_eq (re_len E.n_len (ra_cons (re_var 0) ra_nil)) re_int) (re_one (re_cmp (op_neA hr.units) op2_ne (re_ix (re_var 0) re_int) re_str))))))
theorem at_is_small_number (E : Facts K mg) : FnAt P w K mg base 1 "is_small_number" 1 f_is_small_number := by
  obtain ⟨f, fd, F, hm, hb⟩ := E.f_is_small_number
  exact ⟨f, fd, ["word"], hm, F.kp, hb, ok_is_small_number E F⟩
theorem ok_read_rows (E : Facts K mg) {f : Addr} {fd : FuncData} (F : Fun K "read_rows" "read_rows" (topS 12) f fd) : FnOk P w K mg base (L2.CX P w) 3 f fd ["text", "many"] (spM ⟨⟨K, mg⟩, j0⟩ 2 f_read_rows) := by
  have Sc := sc_read_rows
  refine fn_ok F Sc fun cdv A outer s H EE hr tk po => ?_
  exact (rss_cons (rs_if (rt_not (rt_val (re_isiB [] (fun _ h => by cases h) (isiC_bt fun _ _ h => by cases h) E.n_isinstance E.n_str rfl (re_var 0)))) (rss_one (rs_raise (at_exc_BadText E) (hr.mono (by decide)) rfl tk (ra_cons re_int (ra_cons re_int ra_nil)))) rss_nil)
 (rss_cons (rs_set (i := 2) Sc.nd (re_lstN ra_nil))
 (rss_cons (rs_set (i := 3) Sc.nd (re_bm PySem.F.plainAttrs_str PySem.F.slot_str_split PySem.F.type_str_split mt_split mt_splitC (re_var 0) (ra_cons re_str ra_nil)))
 (rss_cons (rs_for po rfl (ri_enum E.n_enumerate (ra_cons (re_sl (re_var 3) rp_none (rp_some (re_neg re_int))) ra_nil)) (rg_tup rfl (rgs_cons (rg_name Sc.nd) (rgs_cons (rg_name Sc.nd) rgs_nil))) (rss_cons (rs_set (i := 6) Sc.nd (re_bm PySem.F.plainAttrs_str PySem.F.slot_str_split PySem.F.type_str_split mt_split mt_splitC (re_var 5) (ra_cons re_str ra_nil)))
 (rss_cons (rs_for po rfl (ri_enum E.n_enumerate (ra_cons (re_var 6) ra_nil)) (rg_tup rfl (rgs_cons (rg_name Sc.nd) (rgs_cons (rg_name Sc.nd) rgs_nil))) (rss_cons (rs_set (i := 10) Sc.nd (re_if (rt_cmp (op_eqA hr.units) op2_eq (re_var 8) re_int) (re_callP (at_is_name E) (hr.mono (by decide)) tk (ra_cons (re_var 9) ra_nil)) (re_callP (at_is_small_number E) (hr.mono (by decide)) tk (ra_cons (re_var 9) ra_nil))))
 (rss_one (rs_if (rt_w (rw_or (rt_not (rt_val (re_var 10))) (rw_or1 (rt_cmp (op_gtA) op2_gt (re_var 8) (re_op op_addAll op2_add (re_var 1) re_int))))) (rss_one (rs_raise (at_exc_BadText E) (hr.mono (by decide)) rfl tk (ra_cons (re_op op_addAll op2_add (re_var 4) re_int) (ra_cons (re_op op_addAll op2_add (re_var 8) re_int) ra_nil)))) rss_nil))))
 (rss_cons (rs_if (rt_cmp (op_ltA) op2_lt (re_len E.n_len (ra_cons (re_var 6) ra_nil)) (re_op op_addAll op2_add (re_var 1) re_int)) (rss_one (rs_raise (at_exc_BadText E) (hr.mono (by decide)) rfl tk (ra_cons (re_op op_addAll op2_add (re_var 4) re_int) (ra_cons (re_op op_addAll op2_add (re_len E.n_len (ra_cons (re_var 6) ra_nil)) re_int) ra_nil)))) rss_nil)
 (rss_cons (rs_setLc [("word", 9)] mk_lstF rfl Sc.nd rfl (ri_list (re_sl (re_var 6) (rp_some re_int) rp_none)) (by kernel_rfl) (fun _ _ _ _ _ => (rgc_name Sc.nd)) (fun _ _ _ _ _ => rts_nil) (fun _ _ _ _ _ => (re_bty call_intA fn_int E.n_int rfl (ra_cons (re_var 9) ra_nil))))
 (rss_one (rs_exp (re_lm PySem.F.slot_list_append PySem.F.type_list_append mt_append lm_append (re_var 2) (ra_cons (re_tup (ra_cons (re_ix (re_var 6) re_int) (ra_cons (re_sl (re_var 7) rp_none (rp_some (re_var 1))) (ra_cons (re_if (rt_cmp (op_gtA) op2_gt (re_len E.n_len (ra_cons (re_var 7) ra_nil)) (re_var 1)) (re_ix (re_var 7) (re_var 1)) re_non) ra_nil)))) ra_nil)))))))))
 (rss_cons (rs_if (rt_cmp (op_neA hr.units) op2_ne (re_ix (re_var 3) (re_neg re_int)) re_str) (rss_one (rs_raise (at_exc_BadText E) (hr.mono (by decide)) rfl tk (ra_cons (re_len E.n_len (ra_cons (re_var 3) ra_nil)) (ra_cons re_int ra_nil)))) rss_nil)
 (rss_one (rs_ret (re_fz (re_var 2)))))))))
theorem at_read_rows (E : Facts K mg) : FnAt P w K mg base 3 "read_rows" 2 f_read_rows := by
  obtain ⟨f, fd, F, hm, hb⟩ := E.f_read_rows
  exact ⟨f, fd, ["text", "many"], hm, F.kp, hb, ok_read_rows E F⟩
theorem ok_read_run (E : Facts K mg) {f : Addr} {fd : FuncData} (F : Fun K "read_run" "read_run" (topS 13) f fd) : FnOk P w K mg base (L2.CX P w) 4 f fd ["text"] (spM ⟨⟨K, mg⟩, j0⟩ 1 f_read_run) := by
  have Sc := sc_read_run
  refine fn_ok F Sc fun cdv A outer s H EE hr tk po => ?_
  exact (rss_one (rs_ret (re_bty call_tuple_of fn_tuple E.n_tuple rfl (ra_cons (re_lc [("name", 1), ("numbers", 2), ("got", 3)] mk_lstF rfl Sc.nd rfl (ri_list (re_callP (at_read_rows E) (hr.mono (by decide)) tk (ra_cons (re_var 0) (ra_cons re_int ra_nil)))) (by kernel_rfl) (fun _ _ _ _ _ => (rgc_tup rfl (rgcs_cons (rgc_name Sc.nd) (rgcs_cons (rgc_name Sc.nd) (rgcs_cons (rgc_name Sc.nd) rgcs_nil))))) (fun _ _ _ _ _ => rts_nil) (fun _ _ _ _ _ => (re_tup (ra_cons (re_var 1) (ra_cons (re_var 3) ra_nil))))) ra_nil))))
theorem at_read_run (E : Facts K mg) : FnAt P w K mg base 4 "read_run" 1 f_read_run := by
  obtain ⟨f, fd, F, hm, hb⟩ := E.f_read_run
  exact ⟨f, fd, ["text"], hm, F.kp, hb, ok_read_run E F⟩
theorem ok_read_log (E : Facts K mg) {f : Addr} {fd : FuncData} (F : Fun K "read_log" "read_log" (topS 14) f fd) : FnOk P w K mg base (L2.CX P w) 4 f fd ["text"] (spM ⟨⟨K, mg⟩, j0⟩ 1 f_read_log) := by
  have Sc := sc_read_log
  refine fn_ok F Sc fun cdv A outer s H EE hr tk po => ?_
  exact (rss_one (rs_ret (re_bty call_tuple_of fn_tuple E.n_tuple rfl (ra_cons (re_lc [("name", 1), ("numbers", 2), ("got", 3)] mk_lstF rfl Sc.nd rfl (ri_list (re_callP (at_read_rows E) (hr.mono (by decide)) tk (ra_cons (re_var 0) (ra_cons re_int ra_nil)))) (by kernel_rfl) (fun _ _ _ _ _ => (rgc_tup rfl (rgcs_cons (rgc_name Sc.nd) (rgcs_cons (rgc_name Sc.nd) (rgcs_cons (rgc_name Sc.nd) rgcs_nil))))) (fun _ _ _ _ _ => rts_nil) (fun _ _ _ _ _ => (re_tup (ra_cons (re_var 1) (ra_cons (re_ix (re_var 2) re_int) (ra_cons (re_var 3) ra_nil)))))) ra_nil))))
theorem at_read_log (E : Facts K mg) : FnAt P w K mg base 4 "read_log" 1 f_read_log := by
  obtain ⟨f, fd, F, hm, hb⟩ := E.f_read_log
  exact ⟨f, fd, ["text"], hm, F.kp, hb, ok_read_log E F⟩
theorem ok__law_number (E : Facts K mg) {f : Addr} {fd : FuncData} (F : Fun K "_law_number" "_law_number" (topS 16) f fd) : FnOk P w K mg base (L2.CX P w) 1 f fd ["script", "index"] (spM ⟨⟨K, mg⟩, j0⟩ 2 f__law_number) := by
  have Sc := sc__law_number
  refine fn_ok F Sc fun cdv A outer s H EE hr tk po => ?_
  exact (rss_cons (rs_asg (re_if (rt_cmp (op_neA hr.units) op2_ne (re_var 0) (re_lst ra_nil)) (re_tup (ra_cons (re_ix (re_var 0) (re_op op_modN op2_mod (re_var 1) (re_len E.n_len (ra_cons (re_var 0) ra_nil)))) (ra_cons (re_op op_fdivW op2_fdiv (re_var 1) (re_len E.n_len (ra_cons (re_var 0) ra_nil))) ra_nil))) (re_tup (ra_cons re_int (ra_cons re_int ra_nil)))) (rg_tup rfl (rgs_cons (rg_name Sc.nd) (rgs_cons (rg_name Sc.nd) rgs_nil))))
 (rss_cons (rs_set (i := 2) Sc.nd (re_if (rt_cmp (op_ltA) op2_lt (re_var 6) re_int) (re_op op_sub op2_sub (re_var 5) (re_op op_pow op2_pow re_int re_int)) re_int))
 (rss_cons (rs_for po rfl (ri_rng1 E.n_range (ra_cons (re_op op_modN op2_mod (re_bty call_intA fn_int E.n_int rfl (ra_cons (re_var 6) ra_nil)) re_int) ra_nil)) (rg_name Sc.nd) (rss_one (rs_set (i := 2) Sc.nd (re_op op_fdivW op2_fdiv (re_var 2) re_int))))
 (rss_cons (rs_if (rt_cmp (op_gtA) op2_gt (re_var 2) re_int) (rss_one (rs_ret (re_op op_modN op2_mod (re_bty call_intA fn_int E.n_int rfl (ra_cons (re_var 2) ra_nil)) re_int))) rss_nil)
 (rss_cons (rs_set (i := 4) Sc.nd (re_op op_modN op2_mod (re_op op_addAll op2_add (re_op op_mulAll op2_mul (re_bty call_intA fn_int E.n_int rfl (ra_cons (re_op op_addAll op2_add (re_var 5) (re_op op_mulAll op2_mul re_int (re_var 1))) ra_nil)) re_int) (re_op op_mulAll op2_mul re_int (re_len E.n_len (ra_cons (re_var 0) ra_nil)))) re_int))
 (rss_cons (rs_set (i := 4) Sc.nd (re_op op_modN op2_mod (re_op op_addAll op2_add (re_op op_mulAll op2_mul (re_var 4) (re_var 4)) (re_op op_mulAll op2_mul re_int (re_var 1))) re_int))
 (rss_one (rs_ret (re_bty call_intA fn_int E.n_int rfl (ra_cons (re_op op_modN op2_mod (re_op op_addAll op2_add (re_op op_mulAll op2_mul (re_var 4) re_int) (re_op op_fdivW op2_fdiv (re_var 4) re_int)) re_int) ra_nil))))))))))
theorem at__law_number (E : Facts K mg) : FnAt P w K mg base 1 "_law_number" 2 f__law_number := by
  obtain ⟨f, fd, F, hm, hb⟩ := E.f__law_number
  exact ⟨f, fd, ["script", "index"], hm, F.kp, hb, ok__law_number E F⟩
theorem ok__law_take (E : Facts K mg) {f : Addr} {fd : FuncData} (F : Fun K "_law_take" "_law_take" (topS 17) f fd) : FnOk P w K mg base (L2.CX P w) 2 f fd ["draw", "many"] (spM ⟨⟨K, mg⟩, j0⟩ 2 f__law_take) := by
  have Sc := sc__law_take
  refine fn_ok F Sc fun cdv A outer s H EE hr tk po => ?_
  exact (rss_cons (rs_augS iop_addA op2_iadd (re_var 0) re_int re_int)
 (rss_one (rs_ret (re_op op_modN op2_mod (re_bty call_intA fn_int E.n_int rfl (ra_cons (re_callP (at__law_number E) (hr.mono (by decide)) tk (ra_cons (re_ix (re_var 0) re_int) (ra_cons (re_bty call_intA fn_int E.n_int rfl (ra_cons (re_ix (re_var 0) re_int) ra_nil)) ra_nil))) ra_nil)) (re_var 1)))))
theorem at__law_take (E : Facts K mg) : FnAt P w K mg base 2 "_law_take" 2 f__law_take := by
  obtain ⟨f, fd, F, hm, hb⟩ := E.f__law_take
  exact ⟨f, fd, ["draw", "many"], hm, F.kp, hb, ok__law_take E F⟩
theorem ok__law_pick (E : Facts K mg) {f : Addr} {fd : FuncData} (F : Fun K "_law_pick" "_law_pick" (topS 18) f fd) : FnOk P w K mg base (L2.CX P w) 3 f fd ["draw", "items"] (spM ⟨⟨K, mg⟩, j0⟩ 2 f__law_pick) := by
  have Sc := sc__law_pick
  refine fn_ok F Sc fun cdv A outer s H EE hr tk po => ?_
  exact (rss_one (rs_ret (re_ix (re_var 1) (re_callM (at__law_take E) (hr.mono (by decide)) tk (ra_cons (re_var 0) (ra_cons (re_len E.n_len (ra_cons (re_var 1) ra_nil)) ra_nil))))))
theorem at__law_pick (E : Facts K mg) : FnAt P w K mg base 3 "_law_pick" 2 f__law_pick := by
  obtain ⟨f, fd, F, hm, hb⟩ := E.f__law_pick
  exact ⟨f, fd, ["draw", "items"], hm, F.kp, hb, ok__law_pick E F⟩
theorem ok__law_fault (E : Facts K mg) {f : Addr} {fd : FuncData} (F : Fun K "_law_fault" "_law_fault" (topS 19) f fd) : FnOk P w K mg base (L2.CX P w) 5 f fd ["text", "is_log"] (spM ⟨⟨K, mg⟩, j0⟩ 2 f__law_fault) := by
  have Sc := sc__law_fault
  refine fn_ok F Sc fun cdv A outer s H EE hr tk po => ?_
  exact (rss_cons (rs_try (i := 2) [("BadText", true)] E.xm_BadText tk Sc.nd (fun V pn xe tk2 po => (rss_one (rs_set (i := 3) Sc.nd (re_if (rt_val (re_var 1)) (re_callP (at_read_log E) (hr.mono (by decide)) tk2 (ra_cons (re_var 0) ra_nil)) (re_callP (at_read_run E) (hr.mono (by decide)) tk2 (ra_cons (re_var 0) ra_nil)))))) (fun a oe e cls d pn hz hfl => (rss_one (rs_ret (re_tup (ra_cons (re_xf ["BadText"] E.xf_BadText_line hz hfl) (ra_cons (re_xf ["BadText"] E.xf_BadText_column hz hfl) ra_nil)))))))
 (rss_one (rs_ret re_non)))
theorem at__law_fault (E : Facts K mg) : FnAt P w K mg base 5 "_law_fault" 2 f__law_fault := by
  obtain ⟨f, fd, F, hm, hb⟩ := E.f__law_fault
  exact ⟨f, fd, ["text", "is_log"], hm, F.kp, hb, ok__law_fault E F⟩
theorem ok__law_got (E : Facts K mg) {f : Addr} {fd : FuncData} (F : Fun K "_law_got" "_law_got" (topS 20) f fd) : FnOk P w K mg base (L2.CX P w) 4 f fd ["draw"] (spM ⟨⟨K, mg⟩, j0⟩ 1 f__law_got) := by
  have Sc := sc__law_got
  refine fn_ok F Sc fun cdv A outer s H EE hr tk po => ?_
  exact (rss_one (rs_ret (re_callM (at__law_pick E) (hr.mono (by decide)) tk (ra_cons (re_var 0) (ra_cons (re_lst (ra_cons re_non (ra_cons re_int (ra_cons re_int (ra_cons re_int (ra_cons re_int ra_nil)))))) ra_nil)))))
theorem at__law_got (E : Facts K mg) : FnAt P w K mg base 4 "_law_got" 1 f__law_got := by
  obtain ⟨f, fd, F, hm, hb⟩ := E.f__law_got
  exact ⟨f, fd, ["draw"], hm, F.kp, hb, ok__law_got E F⟩
theorem ok_law (E : Facts K mg) {f : Addr} {fd : FuncData} (F : Fun K "law" "law" (topS 21) f fd) : FnOk P w K mg base (L2.CX P w) 6 f fd ["script"] (spM ⟨⟨K, mg⟩, j0⟩ 1 f_law) := by
  have Sc := sc_law
  refine fn_ok F Sc fun cdv A outer s H EE hr tk po => ?_
  exact (rss_cons (rs_set (i := 1) Sc.nd (re_lstN (ra_cons (re_var 0) (ra_cons re_int ra_nil))))
 (rss_cons (rs_set (i := 2) Sc.nd (re_lst (ra_cons re_str (ra_cons re_str (ra_cons re_str ra_nil)))))
 (rss_cons (rs_setLc [("turn", 10)] mk_lstF rfl Sc.nd rfl (ri_rng1 E.n_range (ra_cons (re_callM (at__law_take E) (hr.mono (by decide)) tk (ra_cons (re_var 1) (ra_cons re_int ra_nil))) ra_nil)) (by kernel_rfl) (fun _ _ _ _ _ => (rgc_name Sc.nd)) (fun _ _ _ _ _ => rts_nil) (fun _ _ _ _ _ => (re_tup (ra_cons (re_callM (at__law_pick E) (hr.mono (by decide)) takes0 (ra_cons (re_var 1) (ra_cons (re_var 2) ra_nil))) (ra_cons (re_callM (at__law_got E) (hr.mono (by decide)) takes0 (ra_cons (re_var 1) ra_nil)) ra_nil)))))
 (rss_cons (rs_setLc [("turn", 10)] mk_lstF rfl Sc.nd rfl (ri_rng1 E.n_range (ra_cons (re_callM (at__law_take E) (hr.mono (by decide)) tk (ra_cons (re_var 1) (ra_cons re_int ra_nil))) ra_nil)) (by kernel_rfl) (fun _ _ _ _ _ => (rgc_name Sc.nd)) (fun _ _ _ _ _ => rts_nil) (fun _ _ _ _ _ => (re_tup (ra_cons (re_callM (at__law_pick E) (hr.mono (by decide)) takes0 (ra_cons (re_var 1) (ra_cons (re_var 2) ra_nil))) (ra_cons (re_callM (at__law_take E) (hr.mono (by decide)) takes0 (ra_cons (re_var 1) (ra_cons re_int ra_nil))) (ra_cons (re_callM (at__law_got E) (hr.mono (by decide)) takes0 (ra_cons (re_var 1) ra_nil)) ra_nil))))))
 (rss_cons (rs_setLc [("thread", 18), ("got", 19)] mk_lstF rfl Sc.nd rfl (ri_list (re_var 3)) (by kernel_rfl) (fun _ _ _ _ _ => (rgc_tup rfl (rgcs_cons (rgc_name Sc.nd) (rgcs_cons (rgc_name Sc.nd) rgcs_nil)))) (fun _ _ _ _ _ => rts_nil) (fun _ _ _ _ _ => (re_bm PySem.F.plainAttrs_str PySem.F.slot_str_join PySem.F.type_str_join mt_join mt_joinC re_str (ra_cons (re_op op_addAll op2_add (re_lst (ra_cons (re_var 18) ra_nil)) (re_if (rt_cmp (op_isA) op2_is (re_var 19) re_non) (re_lst ra_nil) (re_lst (ra_cons (re_bty call_strA fn_str E.n_str rfl (ra_cons (re_var 19) ra_nil)) ra_nil)))) ra_nil))))
 (rss_cons (rs_setLc [("thread", 18), ("got", 19), ("place", 20)] mk_lstF rfl Sc.nd rfl (ri_list (re_var 4)) (by kernel_rfl) (fun _ _ _ _ _ => (rgc_tup rfl (rgcs_cons (rgc_name Sc.nd) (rgcs_cons (rgc_name Sc.nd) (rgcs_cons (rgc_name Sc.nd) rgcs_nil))))) (fun _ _ _ _ _ => rts_nil) (fun _ _ _ _ _ => (re_bm PySem.F.plainAttrs_str PySem.F.slot_str_join PySem.F.type_str_join mt_join mt_joinC re_str (ra_cons (re_op op_addAll op2_add (re_lst (ra_cons (re_var 18) (ra_cons (re_bty call_strA fn_str E.n_str rfl (ra_cons (re_var 20) ra_nil)) ra_nil))) (re_if (rt_cmp (op_isA) op2_is (re_var 19) re_non) (re_lst ra_nil) (re_lst (ra_cons (re_bty call_strA fn_str E.n_str rfl (ra_cons (re_var 19) ra_nil)) ra_nil)))) ra_nil))))
 (rss_cons (rs_for po rfl (ri_tup (re_tup (ra_cons (re_tup (ra_cons (re_var 5) (ra_cons (re_var 3) (ra_cons re_bl ra_nil)))) (ra_cons (re_tup (ra_cons (re_var 6) (ra_cons (re_var 4) (ra_cons re_bl ra_nil)))) ra_nil)))) (rg_tup rfl (rgs_cons (rg_name Sc.nd) (rgs_cons (rg_name Sc.nd) (rgs_cons (rg_name Sc.nd) rgs_nil)))) (rss_cons (rs_set (i := 9) Sc.nd (re_bm PySem.F.plainAttrs_str PySem.F.slot_str_join PySem.F.type_str_join mt_join mt_joinC re_str (ra_cons (re_lc [("row", 21)] mk_lstF rfl Sc.nd rfl (ri_list (re_var 5)) (by kernel_rfl) (fun _ _ _ _ _ => (rgc_name Sc.nd)) (fun _ _ _ _ _ => rts_nil) (fun _ _ _ _ _ => (re_op op_addAll op2_add (re_var 21) re_str))) ra_nil)))
 (rss_cons (rs_if (rt_w (rw_or (rt_cmp (op_neA hr.units) op2_ne (re_if (rt_val (re_var 8)) (re_callP (at_write_log E) (hr.mono (by decide)) tk (ra_cons (re_var 7) ra_nil)) (re_callP (at_write_run E) (hr.mono (by decide)) tk (ra_cons (re_var 7) ra_nil))) (re_var 9)) (rw_or1 (rt_cmp (op_neA hr.units) op2_ne (re_if (rt_val (re_var 8)) (re_callP (at_read_log E) (hr.mono (by decide)) tk (ra_cons (re_var 9) ra_nil)) (re_callP (at_read_run E) (hr.mono (by decide)) tk (ra_cons (re_var 9) ra_nil))) (re_bty call_tuple_of fn_tuple E.n_tuple rfl (ra_cons (re_var 7) ra_nil)))))) (rss_one (rs_ret re_bl)) rss_nil)
 (rss_cons (rs_if (rt_cmp (op_neA hr.units) op2_ne (re_callP (at__law_fault E) (hr.mono (by decide)) tk (ra_cons (re_op op_addAll op2_add (re_var 9) (re_callM (at__law_pick E) (hr.mono (by decide)) tk (ra_cons (re_var 1) (ra_cons (re_lst (ra_cons re_str (ra_cons re_str (ra_cons re_str (ra_cons re_str ra_nil))))) ra_nil)))) (ra_cons (re_var 8) ra_nil))) (re_tup (ra_cons (re_op op_addAll op2_add (re_len E.n_len (ra_cons (re_var 5) ra_nil)) re_int) (ra_cons re_int ra_nil)))) (rss_one (rs_ret re_bl)) rss_nil)
 (rss_one (rs_if (rt_cmp (op_neA hr.units) op2_ne (re_var 5) (re_lst ra_nil)) (rss_cons (rs_set (i := 11) Sc.nd (re_callM (at__law_take E) (hr.mono (by decide)) tk (ra_cons (re_var 1) (ra_cons (re_len E.n_len (ra_cons (re_var 5) ra_nil)) ra_nil))))
 (rss_cons (rs_set (i := 12) Sc.nd (re_splitN (re_ix (re_var 5) (re_var 11)) (ra_cons re_str ra_nil)))
 (rss_cons (rs_set (i := 13) Sc.nd (re_callM (at__law_take E) (hr.mono (by decide)) tk (ra_cons (re_var 1) (ra_cons (re_len E.n_len (ra_cons (re_var 12) ra_nil)) ra_nil))))
 (rss_cons (rs_asg (re_callM (at__law_pick E) (hr.mono (by decide)) tk (ra_cons (re_var 1) (ra_cons (re_op op_addAll op2_add (re_lst (ra_cons re_str (ra_cons re_str (ra_cons re_str (ra_cons re_str (ra_cons re_str (ra_cons re_str (ra_cons re_str ra_nil)))))))) (re_if (rt_cmp (op_eqA hr.units) op2_eq (re_var 13) re_int) (re_lst (ra_cons re_str ra_nil)) (re_lst (ra_cons re_str (ra_cons re_str ra_nil))))) ra_nil))) (rg_set (re_var 12) (re_var 13)))
 (rss_cons (rs_set (i := 14) Sc.nd (re_bm PySem.F.plainAttrs_str PySem.F.slot_str_join PySem.F.type_str_join mt_join mt_joinC re_str (ra_cons (re_lc [("row", 21)] mk_lstF rfl Sc.nd rfl (ri_list (re_op op_addAll op2_add (re_op op_addAll op2_add (re_sl (re_var 5) rp_none (rp_some (re_var 11))) (re_lst (ra_cons (re_bm PySem.F.plainAttrs_str PySem.F.slot_str_join PySem.F.type_str_join mt_join mt_joinC re_str (ra_cons (re_var 12) ra_nil)) ra_nil))) (re_sl (re_var 5) (rp_some (re_op op_addAll op2_add (re_var 11) re_int)) rp_none))) (by kernel_rfl) (fun _ _ _ _ _ => (rgc_name Sc.nd)) (fun _ _ _ _ _ => rts_nil) (fun _ _ _ _ _ => (re_op op_addAll op2_add (re_var 21) re_str))) ra_nil)))
 (rss_cons (rs_if (rt_w (rw_or (rt_cmp (op_neA hr.units) op2_ne (re_callP (at__law_fault E) (hr.mono (by decide)) tk (ra_cons (re_var 14) (ra_cons (re_var 8) ra_nil))) (re_tup (ra_cons (re_op op_addAll op2_add (re_var 11) re_int) (ra_cons (re_op op_addAll op2_add (re_var 13) re_int) ra_nil)))) (rw_or1 (rt_cmp (op_neA hr.units) op2_ne (re_callP (at__law_fault E) (hr.mono (by decide)) tk (ra_cons (re_op op_addAll op2_add (re_var 14) re_str) (ra_cons (re_var 8) ra_nil))) (re_tup (ra_cons (re_op op_addAll op2_add (re_var 11) re_int) (ra_cons (re_op op_addAll op2_add (re_var 13) re_int) ra_nil))))))) (rss_one (rs_ret re_bl)) rss_nil)
 (rss_cons (rs_set (i := 15) Sc.nd (re_bm PySem.F.plainAttrs_str PySem.F.slot_str_split PySem.F.type_str_split mt_split mt_splitC (re_ix (re_var 5) (re_var 11)) (ra_cons re_str ra_nil)))
 (rss_cons (rs_set (i := 16) Sc.nd (re_bm PySem.F.plainAttrs_str PySem.F.slot_str_join PySem.F.type_str_join mt_join mt_joinC re_str (ra_cons (re_op op_addAll op2_add (re_sl (re_var 15) rp_none (rp_some re_int)) (re_op op_mulAll op2_mul (re_lst (ra_cons re_str ra_nil)) (re_op op_addAll op2_add re_int (re_bty call_intA fn_int E.n_int rfl (ra_cons (re_var 8) ra_nil))))) ra_nil)))
 (rss_cons (rs_set (i := 17) Sc.nd (re_bm PySem.F.plainAttrs_str PySem.F.slot_str_join PySem.F.type_str_join mt_join mt_joinC re_str (ra_cons (re_lc [("row", 21)] mk_lstF rfl Sc.nd rfl (ri_list (re_op op_addAll op2_add (re_op op_addAll op2_add (re_sl (re_var 5) rp_none (rp_some (re_var 11))) (re_lst (ra_cons (re_if (rt_cmp (op_isA) op2_is (re_var 8) re_bl) (re_var 16) (re_ix (re_var 15) re_int)) ra_nil))) (re_sl (re_var 5) (rp_some (re_op op_addAll op2_add (re_var 11) re_int)) rp_none))) (by kernel_rfl) (fun _ _ _ _ _ => (rgc_name Sc.nd)) (fun _ _ _ _ _ => rts_nil) (fun _ _ _ _ _ => (re_op op_addAll op2_add (re_var 21) re_str))) ra_nil)))
 (rss_one (rs_if (rt_cmp (op_neA hr.units) op2_ne (re_callP (at__law_fault E) (hr.mono (by decide)) tk (ra_cons (re_var 17) (ra_cons (re_var 8) ra_nil))) (re_tup (ra_cons (re_op op_addAll op2_add (re_var 11) re_int) (ra_cons (re_if (rt_cmp (op_isA) op2_is (re_var 8) re_bl) re_int re_int) ra_nil)))) (rss_one (rs_ret re_bl)) rss_nil))))))))))) rss_nil))))))
 (rss_one (rs_ret (re_and (re_cmp (op_eqA hr.units) op2_eq (re_callP (at__law_fault E) (hr.mono (by decide)) tk (ra_cons re_non (ra_cons re_bl ra_nil))) (re_tup (ra_cons re_int (ra_cons re_int ra_nil)))) (re_and (re_cmp (op_eqA hr.units) op2_eq (re_callP (at__law_fault E) (hr.mono (by decide)) tk (ra_cons re_int (ra_cons re_bl ra_nil))) (re_tup (ra_cons re_int (ra_cons re_int ra_nil)))) (re_and (re_cmp (op_eqA hr.units) op2_eq (re_callP (at__law_fault E) (hr.mono (by decide)) tk (ra_cons re_str (ra_cons re_bl ra_nil))) (re_tup (ra_cons re_int (ra_cons re_int ra_nil)))) (re_one (re_cmp (op_eqA hr.units) op2_eq (re_callP (at_read_run E) (hr.mono (by decide)) tk (ra_cons re_str ra_nil)) (re_tup ra_nil)))))))))))))))
theorem at_law (E : Facts K mg) : FnAt P w K mg base 6 "law" 1 f_law := by
  obtain ⟨f, fd, F, hm, hb⟩ := E.f_law
  exact ⟨f, fd, ["script"], hm, F.kp, hb, ok_law E F⟩
end
theorem bits_log {z : Int} (h : Builtin.Int.intBits z ≤ 1048576) : z.natAbs.log2 ≤ 1048576 := by
  unfold Builtin.Int.intBits at h
  split at h
  · rename_i hz
    have e : z = 0 := by simpa using hz
    subst e
    decide
  · omega
theorem number_ok (ns : List Int) (hl : ns.length ≤ 63) (hb : ∀ z ∈ ns, Builtin.Int.intBits z ≤ 1048576) (n : Nat) (hn : n ≤ 1000000000) : ∃ z : Int, 0 ≤ z ∧ ∃ hh, f__law_number [.d (.scr ns), .d (.int n)] [] = some (.ok (.d (.int z)) hh) := by
  have key : ∃ x h', fnM 7 b__law_number [.d (.scr ns), .d (.int n)] [] = some (.ok (.d x) h') ∧ Hd (∃ z : Int, 0 ≤ z ∧ x = .int z) := by
    refine fnM_pure ?_
    show OkS b__law_number [some (.d (.scr ns)), some (.d (.int n)), none, none, none, none, none] [] _
    unfold b__law_number
    refine oks_cut (fun δ h => h = [] ∧ Hd (∃ c t : Int, c.natAbs.log2 ≤ 1048576 ∧ 0 ≤ t ∧ δ = [some (.d (.scr ns)), some (.d (.int n)), none, none, none, some (.d (.int c)), some (.d (.int t))])) ?_ ?_
    · repeat (first
      | (with_reducible first | refine okm_ret ?_ | refine okm_cn ?_ | refine okm_op2 ?_ | refine okm_tst ?_ | refine okm_ifE ?_ | refine okm_mnil ?_ | refine okm_mcons ?_ | refine okm_notT ?_ | refine okm_notV ?_ | refine okm_chain ?_ | refine okm_andT ?_ | refine okm_orT ?_ | refine okm_andV ?_ | refine okm_orV ?_ | refine okm_unE ?_ | refine okm_fnE ?_ | refine okm_lenE ?_ | refine okm_ixE ?_ | refine okm_ptN ?_ | refine okm_ptS ?_ | refine okm_slE ?_ | refine okm_bmE ?_ | refine okm_isiE ?_ | refine okm_itE ?_ | refine okm_itN ?_ | refine okm_it1 ?_ | refine okm_lcM ?_ | refine okm_callP ?_ | refine okm_callM ?_ | refine okm_fz ?_ | refine okm_fzD ?_ | refine okm_lmE ?_ | refine okm_spNE ?_ | refine oks_seq ?_ | refine oks_if ?_ | refine oks_set ?_ | refine oks_asg ?_ | refine oks_sret ?_ | refine oks_sexp ?_ | refine oks_snx ?_ | refine oks_for ?_ | refine oks_aug ?_ | refine oks_augS ?_ | refine oks_raise ?_ | refine okm_bnd ?_)
      | ((with_reducible apply okm_vr); (· rfl))
      | ((with_reducible apply okm_tupE); (· rfl); (· rfl)) | ((with_reducible apply okm_lstE); (· rfl); (· rfl)) | ((with_reducible apply okm_lstN); (· rfl))
      | ((with_reducible apply op_rfl); (· rfl); (· rfl); (· rfl)) | ((with_reducible apply o1_rfl); (· rfl); (· rfl)) | ((with_reducible apply of_rfl); (· rfl); (· rfl))
      | (with_reducible refine wp_t ?_) | (with_reducible refine wp_f ?_) | (with_reducible refine wp_nt ?_) | (with_reducible refine wp_nf ?_)
      | ((with_reducible apply ex_t); (· rfl)) | ((with_reducible apply ex_f); (· rfl))
      | ((with_reducible apply ex_and4); (· rfl); (· rfl); (· rfl)) | ((with_reducible apply ex_and3); (· rfl); (· rfl)) | ((with_reducible apply ex_and2); (· rfl)) | ((with_reducible apply ex_and); (· rfl))
      | ((with_reducible apply isT_and); (· rfl)) | ((with_reducible apply ex_bm); (· rfl); (· rfl); (· rfl))
      | dsimp only)
      refine op_rfl rfl rfl pNe_scr ?_
      cases ns with
      | nil =>
        repeat (first
          | (with_reducible first | refine okm_ret ?_ | refine okm_cn ?_ | refine okm_op2 ?_ | refine okm_tst ?_ | refine okm_ifE ?_ | refine okm_mnil ?_ | refine okm_mcons ?_ | refine okm_notT ?_ | refine okm_notV ?_ | refine okm_chain ?_ | refine okm_andT ?_ | refine okm_orT ?_ | refine okm_andV ?_ | refine okm_orV ?_ | refine okm_unE ?_ | refine okm_fnE ?_ | refine okm_lenE ?_ | refine okm_ixE ?_ | refine okm_ptN ?_ | refine okm_ptS ?_ | refine okm_slE ?_ | refine okm_bmE ?_ | refine okm_isiE ?_ | refine okm_itE ?_ | refine okm_itN ?_ | refine okm_it1 ?_ | refine okm_lcM ?_ | refine okm_callP ?_ | refine okm_callM ?_ | refine okm_fz ?_ | refine okm_fzD ?_ | refine okm_lmE ?_ | refine okm_spNE ?_ | refine oks_seq ?_ | refine oks_if ?_ | refine oks_set ?_ | refine oks_asg ?_ | refine oks_sret ?_ | refine oks_sexp ?_ | refine oks_snx ?_ | refine oks_for ?_ | refine oks_aug ?_ | refine oks_augS ?_ | refine oks_raise ?_ | refine okm_bnd ?_)
          | ((with_reducible apply okm_vr); (· rfl))
          | ((with_reducible apply okm_tupE); (· rfl); (· rfl)) | ((with_reducible apply okm_lstE); (· rfl); (· rfl)) | ((with_reducible apply okm_lstN); (· rfl))
          | ((with_reducible apply op_rfl); (· rfl); (· rfl); (· rfl)) | ((with_reducible apply o1_rfl); (· rfl); (· rfl)) | ((with_reducible apply of_rfl); (· rfl); (· rfl))
          | (with_reducible refine wp_t ?_) | (with_reducible refine wp_f ?_) | (with_reducible refine wp_nt ?_) | (with_reducible refine wp_nf ?_)
          | ((with_reducible apply ex_t); (· rfl)) | ((with_reducible apply ex_f); (· rfl))
          | ((with_reducible apply ex_and4); (· rfl); (· rfl); (· rfl)) | ((with_reducible apply ex_and3); (· rfl); (· rfl)) | ((with_reducible apply ex_and2); (· rfl)) | ((with_reducible apply ex_and); (· rfl))
          | ((with_reducible apply isT_and); (· rfl)) | ((with_reducible apply ex_bm); (· rfl); (· rfl); (· rfl))
          | dsimp only)
        exact hd ⟨12345, 0, by decide, by decide, rfl⟩
      | cons x xs =>
        refine ⟨_, rfl, fun _ => ?_, fun z => by cases z⟩
        repeat (first
          | (with_reducible first | refine okm_ret ?_ | refine okm_cn ?_ | refine okm_op2 ?_ | refine okm_tst ?_ | refine okm_ifE ?_ | refine okm_mnil ?_ | refine okm_mcons ?_ | refine okm_notT ?_ | refine okm_notV ?_ | refine okm_chain ?_ | refine okm_andT ?_ | refine okm_orT ?_ | refine okm_andV ?_ | refine okm_orV ?_ | refine okm_unE ?_ | refine okm_fnE ?_ | refine okm_lenE ?_ | refine okm_ixE ?_ | refine okm_ptN ?_ | refine okm_ptS ?_ | refine okm_slE ?_ | refine okm_bmE ?_ | refine okm_isiE ?_ | refine okm_itE ?_ | refine okm_itN ?_ | refine okm_it1 ?_ | refine okm_lcM ?_ | refine okm_callP ?_ | refine okm_callM ?_ | refine okm_fz ?_ | refine okm_fzD ?_ | refine okm_lmE ?_ | refine okm_spNE ?_ | refine oks_seq ?_ | refine oks_if ?_ | refine oks_set ?_ | refine oks_asg ?_ | refine oks_sret ?_ | refine oks_sexp ?_ | refine oks_snx ?_ | refine oks_for ?_ | refine oks_aug ?_ | refine oks_augS ?_ | refine oks_raise ?_ | refine okm_bnd ?_)
          | ((with_reducible apply okm_vr); (· rfl))
          | ((with_reducible apply okm_tupE); (· rfl); (· rfl)) | ((with_reducible apply okm_lstE); (· rfl); (· rfl)) | ((with_reducible apply okm_lstN); (· rfl))
          | ((with_reducible apply op_rfl); (· rfl); (· rfl); (· rfl)) | ((with_reducible apply o1_rfl); (· rfl); (· rfl)) | ((with_reducible apply of_rfl); (· rfl); (· rfl))
          | (with_reducible refine wp_t ?_) | (with_reducible refine wp_f ?_) | (with_reducible refine wp_nt ?_) | (with_reducible refine wp_nf ?_)
          | ((with_reducible apply ex_t); (· rfl)) | ((with_reducible apply ex_f); (· rfl))
          | ((with_reducible apply ex_and4); (· rfl); (· rfl); (· rfl)) | ((with_reducible apply ex_and3); (· rfl); (· rfl)) | ((with_reducible apply ex_and2); (· rfl)) | ((with_reducible apply ex_and); (· rfl))
          | ((with_reducible apply isT_and); (· rfl)) | ((with_reducible apply ex_bm); (· rfl); (· rfl); (· rfl))
          | dsimp only)
        have hl : 0 < (((x :: xs).map D.int).length : Int) := by
          rw [List.length_map, List.length_cons]
          omega
        have h1 := fmod_pos (i := (n : Int)) hl
        have hi : ((n : Int).fmod (((x :: xs).map D.int).length : Int)).toNat < (x :: xs).length := by
          have h2 := h1.2
          have h3 : (((x :: xs).map D.int).length : Int) = ((x :: xs).length : Int) := by rw [List.length_map]
          omega
        have he : atI ((x :: xs).map D.int) ((n : Int).fmod (((x :: xs).map D.int).length : Int)) = some (.int ((x :: xs)[((n : Int).fmod (((x :: xs).map D.int).length : Int)).toNat])) := by
          have e := atI_nat (xs := (x :: xs).map D.int) (j := ((n : Int).fmod (((x :: xs).map D.int).length : Int)).toNat) (v := .int ((x :: xs)[((n : Int).fmod (((x :: xs).map D.int).length : Int)).toNat])) (by rw [List.getElem?_map, List.getElem?_eq_getElem hi]; rfl)
          rw [Int.toNat_of_nonneg h1.1] at e
          exact e
        refine ⟨_, congrArg (Option.map U.d) he, ?_⟩
        repeat (first
          | (with_reducible first | refine okm_ret ?_ | refine okm_cn ?_ | refine okm_op2 ?_ | refine okm_tst ?_ | refine okm_ifE ?_ | refine okm_mnil ?_ | refine okm_mcons ?_ | refine okm_notT ?_ | refine okm_notV ?_ | refine okm_chain ?_ | refine okm_andT ?_ | refine okm_orT ?_ | refine okm_andV ?_ | refine okm_orV ?_ | refine okm_unE ?_ | refine okm_fnE ?_ | refine okm_lenE ?_ | refine okm_ixE ?_ | refine okm_ptN ?_ | refine okm_ptS ?_ | refine okm_slE ?_ | refine okm_bmE ?_ | refine okm_isiE ?_ | refine okm_itE ?_ | refine okm_itN ?_ | refine okm_it1 ?_ | refine okm_lcM ?_ | refine okm_callP ?_ | refine okm_callM ?_ | refine okm_fz ?_ | refine okm_fzD ?_ | refine okm_lmE ?_ | refine okm_spNE ?_ | refine oks_seq ?_ | refine oks_if ?_ | refine oks_set ?_ | refine oks_asg ?_ | refine oks_sret ?_ | refine oks_sexp ?_ | refine oks_snx ?_ | refine oks_for ?_ | refine oks_aug ?_ | refine oks_augS ?_ | refine oks_raise ?_ | refine okm_bnd ?_)
          | ((with_reducible apply okm_vr); (· rfl))
          | ((with_reducible apply okm_tupE); (· rfl); (· rfl)) | ((with_reducible apply okm_lstE); (· rfl); (· rfl)) | ((with_reducible apply okm_lstN); (· rfl))
          | ((with_reducible apply op_rfl); (· rfl); (· rfl); (· rfl)) | ((with_reducible apply o1_rfl); (· rfl); (· rfl)) | ((with_reducible apply of_rfl); (· rfl); (· rfl))
          | (with_reducible refine wp_t ?_) | (with_reducible refine wp_f ?_) | (with_reducible refine wp_nt ?_) | (with_reducible refine wp_nf ?_)
          | ((with_reducible apply ex_t); (· rfl)) | ((with_reducible apply ex_f); (· rfl))
          | ((with_reducible apply ex_and4); (· rfl); (· rfl); (· rfl)) | ((with_reducible apply ex_and3); (· rfl); (· rfl)) | ((with_reducible apply ex_and2); (· rfl)) | ((with_reducible apply ex_and); (· rfl))
          | ((with_reducible apply isT_and); (· rfl)) | ((with_reducible apply ex_bm); (· rfl); (· rfl); (· rfl))
          | dsimp only)
        refine op_fdiv ⟨hl, ?_⟩ ?_
        · exact Nat.lt_of_le_of_lt (log2_small (n := 64) (k := 10) (by rw [List.length_map]; omega) (by decide)) (by decide)
        repeat (first
          | (with_reducible first | refine okm_ret ?_ | refine okm_cn ?_ | refine okm_op2 ?_ | refine okm_tst ?_ | refine okm_ifE ?_ | refine okm_mnil ?_ | refine okm_mcons ?_ | refine okm_notT ?_ | refine okm_notV ?_ | refine okm_chain ?_ | refine okm_andT ?_ | refine okm_orT ?_ | refine okm_andV ?_ | refine okm_orV ?_ | refine okm_unE ?_ | refine okm_fnE ?_ | refine okm_lenE ?_ | refine okm_ixE ?_ | refine okm_ptN ?_ | refine okm_ptS ?_ | refine okm_slE ?_ | refine okm_bmE ?_ | refine okm_isiE ?_ | refine okm_itE ?_ | refine okm_itN ?_ | refine okm_it1 ?_ | refine okm_lcM ?_ | refine okm_callP ?_ | refine okm_callM ?_ | refine okm_fz ?_ | refine okm_fzD ?_ | refine okm_lmE ?_ | refine okm_spNE ?_ | refine oks_seq ?_ | refine oks_if ?_ | refine oks_set ?_ | refine oks_asg ?_ | refine oks_sret ?_ | refine oks_sexp ?_ | refine oks_snx ?_ | refine oks_for ?_ | refine oks_aug ?_ | refine oks_augS ?_ | refine oks_raise ?_ | refine okm_bnd ?_)
          | ((with_reducible apply okm_vr); (· rfl))
          | ((with_reducible apply okm_tupE); (· rfl); (· rfl)) | ((with_reducible apply okm_lstE); (· rfl); (· rfl)) | ((with_reducible apply okm_lstN); (· rfl))
          | ((with_reducible apply op_rfl); (· rfl); (· rfl); (· rfl)) | ((with_reducible apply o1_rfl); (· rfl); (· rfl)) | ((with_reducible apply of_rfl); (· rfl); (· rfl))
          | (with_reducible refine wp_t ?_) | (with_reducible refine wp_f ?_) | (with_reducible refine wp_nt ?_) | (with_reducible refine wp_nf ?_)
          | ((with_reducible apply ex_t); (· rfl)) | ((with_reducible apply ex_f); (· rfl))
          | ((with_reducible apply ex_and4); (· rfl); (· rfl); (· rfl)) | ((with_reducible apply ex_and3); (· rfl); (· rfl)) | ((with_reducible apply ex_and2); (· rfl)) | ((with_reducible apply ex_and); (· rfl))
          | ((with_reducible apply isT_and); (· rfl)) | ((with_reducible apply ex_bm); (· rfl); (· rfl); (· rfl))
          | dsimp only)
        exact hd ⟨_, _, bits_log (hb _ (List.getElem_mem hi)), Int.ediv_nonneg (by omega) (by omega), rfl⟩
    · rintro δ h ⟨rfl, c, t, hc, ht, rfl⟩
      refine oks_cut (fun δ h => h = [] ∧ Hd (∃ r : Int, δ = [some (.d (.scr ns)), some (.d (.int n)), some (.d (.int r)), none, none, some (.d (.int c)), some (.d (.int t))])) ?_ ?_
      · repeat (first
        | (with_reducible first | refine okm_ret ?_ | refine okm_cn ?_ | refine okm_op2 ?_ | refine okm_tst ?_ | refine okm_ifE ?_ | refine okm_mnil ?_ | refine okm_mcons ?_ | refine okm_notT ?_ | refine okm_notV ?_ | refine okm_chain ?_ | refine okm_andT ?_ | refine okm_orT ?_ | refine okm_andV ?_ | refine okm_orV ?_ | refine okm_unE ?_ | refine okm_fnE ?_ | refine okm_lenE ?_ | refine okm_ixE ?_ | refine okm_ptN ?_ | refine okm_ptS ?_ | refine okm_slE ?_ | refine okm_bmE ?_ | refine okm_isiE ?_ | refine okm_itE ?_ | refine okm_itN ?_ | refine okm_it1 ?_ | refine okm_lcM ?_ | refine okm_callP ?_ | refine okm_callM ?_ | refine okm_fz ?_ | refine okm_fzD ?_ | refine okm_lmE ?_ | refine okm_spNE ?_ | refine oks_seq ?_ | refine oks_if ?_ | refine oks_set ?_ | refine oks_asg ?_ | refine oks_sret ?_ | refine oks_sexp ?_ | refine oks_snx ?_ | refine oks_for ?_ | refine oks_aug ?_ | refine oks_augS ?_ | refine oks_raise ?_ | refine okm_bnd ?_)
        | ((with_reducible apply okm_vr); (· rfl))
        | ((with_reducible apply okm_tupE); (· rfl); (· rfl)) | ((with_reducible apply okm_lstE); (· rfl); (· rfl)) | ((with_reducible apply okm_lstN); (· rfl))
        | ((with_reducible apply op_rfl); (· rfl); (· rfl); (· rfl)) | ((with_reducible apply o1_rfl); (· rfl); (· rfl)) | ((with_reducible apply of_rfl); (· rfl); (· rfl))
        | (with_reducible refine wp_t ?_) | (with_reducible refine wp_f ?_) | (with_reducible refine wp_nt ?_) | (with_reducible refine wp_nf ?_)
        | ((with_reducible apply ex_t); (· rfl)) | ((with_reducible apply ex_f); (· rfl))
        | ((with_reducible apply ex_and4); (· rfl); (· rfl); (· rfl)) | ((with_reducible apply ex_and3); (· rfl); (· rfl)) | ((with_reducible apply ex_and2); (· rfl)) | ((with_reducible apply ex_and); (· rfl))
        | ((with_reducible apply isT_and); (· rfl)) | ((with_reducible apply ex_bm); (· rfl); (· rfl); (· rfl))
        | dsimp only)
        refine ⟨fun _ => ?_, fun _ => ?_⟩
        · repeat (first
          | (with_reducible first | refine okm_ret ?_ | refine okm_cn ?_ | refine okm_op2 ?_ | refine okm_tst ?_ | refine okm_ifE ?_ | refine okm_mnil ?_ | refine okm_mcons ?_ | refine okm_notT ?_ | refine okm_notV ?_ | refine okm_chain ?_ | refine okm_andT ?_ | refine okm_orT ?_ | refine okm_andV ?_ | refine okm_orV ?_ | refine okm_unE ?_ | refine okm_fnE ?_ | refine okm_lenE ?_ | refine okm_ixE ?_ | refine okm_ptN ?_ | refine okm_ptS ?_ | refine okm_slE ?_ | refine okm_bmE ?_ | refine okm_isiE ?_ | refine okm_itE ?_ | refine okm_itN ?_ | refine okm_it1 ?_ | refine okm_lcM ?_ | refine okm_callP ?_ | refine okm_callM ?_ | refine okm_fz ?_ | refine okm_fzD ?_ | refine okm_lmE ?_ | refine okm_spNE ?_ | refine oks_seq ?_ | refine oks_if ?_ | refine oks_set ?_ | refine oks_asg ?_ | refine oks_sret ?_ | refine oks_sexp ?_ | refine oks_snx ?_ | refine oks_for ?_ | refine oks_aug ?_ | refine oks_augS ?_ | refine oks_raise ?_ | refine okm_bnd ?_)
          | ((with_reducible apply okm_vr); (· rfl))
          | ((with_reducible apply okm_tupE); (· rfl); (· rfl)) | ((with_reducible apply okm_lstE); (· rfl); (· rfl)) | ((with_reducible apply okm_lstN); (· rfl))
          | ((with_reducible apply op_rfl); (· rfl); (· rfl); (· rfl)) | ((with_reducible apply o1_rfl); (· rfl); (· rfl)) | ((with_reducible apply of_rfl); (· rfl); (· rfl))
          | (with_reducible refine wp_t ?_) | (with_reducible refine wp_f ?_) | (with_reducible refine wp_nt ?_) | (with_reducible refine wp_nf ?_)
          | ((with_reducible apply ex_t); (· rfl)) | ((with_reducible apply ex_f); (· rfl))
          | ((with_reducible apply ex_and4); (· rfl); (· rfl); (· rfl)) | ((with_reducible apply ex_and3); (· rfl); (· rfl)) | ((with_reducible apply ex_and2); (· rfl)) | ((with_reducible apply ex_and); (· rfl))
          | ((with_reducible apply isT_and); (· rfl)) | ((with_reducible apply ex_bm); (· rfl); (· rfl); (· rfl))
          | dsimp only)
          exact hd ⟨_, rfl⟩
        · repeat (first
          | (with_reducible first | refine okm_ret ?_ | refine okm_cn ?_ | refine okm_op2 ?_ | refine okm_tst ?_ | refine okm_ifE ?_ | refine okm_mnil ?_ | refine okm_mcons ?_ | refine okm_notT ?_ | refine okm_notV ?_ | refine okm_chain ?_ | refine okm_andT ?_ | refine okm_orT ?_ | refine okm_andV ?_ | refine okm_orV ?_ | refine okm_unE ?_ | refine okm_fnE ?_ | refine okm_lenE ?_ | refine okm_ixE ?_ | refine okm_ptN ?_ | refine okm_ptS ?_ | refine okm_slE ?_ | refine okm_bmE ?_ | refine okm_isiE ?_ | refine okm_itE ?_ | refine okm_itN ?_ | refine okm_it1 ?_ | refine okm_lcM ?_ | refine okm_callP ?_ | refine okm_callM ?_ | refine okm_fz ?_ | refine okm_fzD ?_ | refine okm_lmE ?_ | refine okm_spNE ?_ | refine oks_seq ?_ | refine oks_if ?_ | refine oks_set ?_ | refine oks_asg ?_ | refine oks_sret ?_ | refine oks_sexp ?_ | refine oks_snx ?_ | refine oks_for ?_ | refine oks_aug ?_ | refine oks_augS ?_ | refine oks_raise ?_ | refine okm_bnd ?_)
          | ((with_reducible apply okm_vr); (· rfl))
          | ((with_reducible apply okm_tupE); (· rfl); (· rfl)) | ((with_reducible apply okm_lstE); (· rfl); (· rfl)) | ((with_reducible apply okm_lstN); (· rfl))
          | ((with_reducible apply op_rfl); (· rfl); (· rfl); (· rfl)) | ((with_reducible apply o1_rfl); (· rfl); (· rfl)) | ((with_reducible apply of_rfl); (· rfl); (· rfl))
          | (with_reducible refine wp_t ?_) | (with_reducible refine wp_f ?_) | (with_reducible refine wp_nt ?_) | (with_reducible refine wp_nf ?_)
          | ((with_reducible apply ex_t); (· rfl)) | ((with_reducible apply ex_f); (· rfl))
          | ((with_reducible apply ex_and4); (· rfl); (· rfl); (· rfl)) | ((with_reducible apply ex_and3); (· rfl); (· rfl)) | ((with_reducible apply ex_and2); (· rfl)) | ((with_reducible apply ex_and); (· rfl))
          | ((with_reducible apply isT_and); (· rfl)) | ((with_reducible apply ex_bm); (· rfl); (· rfl); (· rfl))
          | dsimp only)
          exact hd ⟨_, rfl⟩
      · rintro δ h ⟨rfl, r, rfl⟩
        refine oks_cut (fun δ h => h = [] ∧ Hd (∃ (r : Int) (s : Option U), δ = [some (.d (.scr ns)), some (.d (.int n)), some (.d (.int r)), s, none, some (.d (.int c)), some (.d (.int t))])) ?_ ?_
        · repeat (first
          | (with_reducible first | refine okm_ret ?_ | refine okm_cn ?_ | refine okm_op2 ?_ | refine okm_tst ?_ | refine okm_ifE ?_ | refine okm_mnil ?_ | refine okm_mcons ?_ | refine okm_notT ?_ | refine okm_notV ?_ | refine okm_chain ?_ | refine okm_andT ?_ | refine okm_orT ?_ | refine okm_andV ?_ | refine okm_orV ?_ | refine okm_unE ?_ | refine okm_fnE ?_ | refine okm_lenE ?_ | refine okm_ixE ?_ | refine okm_ptN ?_ | refine okm_ptS ?_ | refine okm_slE ?_ | refine okm_bmE ?_ | refine okm_isiE ?_ | refine okm_itE ?_ | refine okm_itN ?_ | refine okm_it1 ?_ | refine okm_lcM ?_ | refine okm_callP ?_ | refine okm_callM ?_ | refine okm_fz ?_ | refine okm_fzD ?_ | refine okm_lmE ?_ | refine okm_spNE ?_ | refine oks_seq ?_ | refine oks_if ?_ | refine oks_set ?_ | refine oks_asg ?_ | refine oks_sret ?_ | refine oks_sexp ?_ | refine oks_snx ?_ | refine oks_for ?_ | refine oks_aug ?_ | refine oks_augS ?_ | refine oks_raise ?_ | refine okm_bnd ?_)
          | ((with_reducible apply okm_vr); (· rfl))
          | ((with_reducible apply okm_tupE); (· rfl); (· rfl)) | ((with_reducible apply okm_lstE); (· rfl); (· rfl)) | ((with_reducible apply okm_lstN); (· rfl))
          | ((with_reducible apply op_rfl); (· rfl); (· rfl); (· rfl)) | ((with_reducible apply o1_rfl); (· rfl); (· rfl)) | ((with_reducible apply of_rfl); (· rfl); (· rfl))
          | (with_reducible refine wp_t ?_) | (with_reducible refine wp_f ?_) | (with_reducible refine wp_nt ?_) | (with_reducible refine wp_nf ?_)
          | ((with_reducible apply ex_t); (· rfl)) | ((with_reducible apply ex_f); (· rfl))
          | ((with_reducible apply ex_and4); (· rfl); (· rfl); (· rfl)) | ((with_reducible apply ex_and3); (· rfl); (· rfl)) | ((with_reducible apply ex_and2); (· rfl)) | ((with_reducible apply ex_and); (· rfl))
          | ((with_reducible apply isT_and); (· rfl)) | ((with_reducible apply ex_bm); (· rfl); (· rfl); (· rfl))
          | dsimp only)
          have h1 := fmod_pos (i := t) (j := 60) (by decide)
          have h2 : rng62 (t.fmod 60) = true := decide_eq_true (by omega)
          refine ⟨_, if_pos h2, ?_⟩
          refine forL_rule (fun _ δ h => h = [] ∧ ∃ (r : Int) (s : Option U), δ = [some (.d (.scr ns)), some (.d (.int n)), some (.d (.int r)), s, none, some (.d (.int c)), some (.d (.int t))]) ?_ ?_ _ _ _ ⟨rfl, r, none, rfl⟩
          · rintro x rest δ h ⟨rfl, r, s, rfl⟩
            refine ⟨_, _, rfl, ?_⟩
            repeat (first
              | (with_reducible first | refine okm_ret ?_ | refine okm_cn ?_ | refine okm_op2 ?_ | refine okm_tst ?_ | refine okm_ifE ?_ | refine okm_mnil ?_ | refine okm_mcons ?_ | refine okm_notT ?_ | refine okm_notV ?_ | refine okm_chain ?_ | refine okm_andT ?_ | refine okm_orT ?_ | refine okm_andV ?_ | refine okm_orV ?_ | refine okm_unE ?_ | refine okm_fnE ?_ | refine okm_lenE ?_ | refine okm_ixE ?_ | refine okm_ptN ?_ | refine okm_ptS ?_ | refine okm_slE ?_ | refine okm_bmE ?_ | refine okm_isiE ?_ | refine okm_itE ?_ | refine okm_itN ?_ | refine okm_it1 ?_ | refine okm_lcM ?_ | refine okm_callP ?_ | refine okm_callM ?_ | refine okm_fz ?_ | refine okm_fzD ?_ | refine okm_lmE ?_ | refine okm_spNE ?_ | refine oks_seq ?_ | refine oks_if ?_ | refine oks_set ?_ | refine oks_asg ?_ | refine oks_sret ?_ | refine oks_sexp ?_ | refine oks_snx ?_ | refine oks_for ?_ | refine oks_aug ?_ | refine oks_augS ?_ | refine oks_raise ?_ | refine okm_bnd ?_)
              | ((with_reducible apply okm_vr); (· rfl))
              | ((with_reducible apply okm_tupE); (· rfl); (· rfl)) | ((with_reducible apply okm_lstE); (· rfl); (· rfl)) | ((with_reducible apply okm_lstN); (· rfl))
              | ((with_reducible apply op_rfl); (· rfl); (· rfl); (· rfl)) | ((with_reducible apply o1_rfl); (· rfl); (· rfl)) | ((with_reducible apply of_rfl); (· rfl); (· rfl))
              | (with_reducible refine wp_t ?_) | (with_reducible refine wp_f ?_) | (with_reducible refine wp_nt ?_) | (with_reducible refine wp_nf ?_)
              | ((with_reducible apply ex_t); (· rfl)) | ((with_reducible apply ex_f); (· rfl))
              | ((with_reducible apply ex_and4); (· rfl); (· rfl); (· rfl)) | ((with_reducible apply ex_and3); (· rfl); (· rfl)) | ((with_reducible apply ex_and2); (· rfl)) | ((with_reducible apply ex_and); (· rfl))
              | ((with_reducible apply isT_and); (· rfl)) | ((with_reducible apply ex_bm); (· rfl); (· rfl); (· rfl))
              | dsimp only)
            exact ⟨rfl, _, _, rfl⟩
          · rintro δ h ⟨rfl, r, s, rfl⟩
            exact ⟨_, _, rfl, rfl, r, s, rfl⟩
        · rintro δ h ⟨rfl, r, s, rfl⟩
          repeat (first
            | (with_reducible first | refine okm_ret ?_ | refine okm_cn ?_ | refine okm_op2 ?_ | refine okm_tst ?_ | refine okm_ifE ?_ | refine okm_mnil ?_ | refine okm_mcons ?_ | refine okm_notT ?_ | refine okm_notV ?_ | refine okm_chain ?_ | refine okm_andT ?_ | refine okm_orT ?_ | refine okm_andV ?_ | refine okm_orV ?_ | refine okm_unE ?_ | refine okm_fnE ?_ | refine okm_lenE ?_ | refine okm_ixE ?_ | refine okm_ptN ?_ | refine okm_ptS ?_ | refine okm_slE ?_ | refine okm_bmE ?_ | refine okm_isiE ?_ | refine okm_itE ?_ | refine okm_itN ?_ | refine okm_it1 ?_ | refine okm_lcM ?_ | refine okm_callP ?_ | refine okm_callM ?_ | refine okm_fz ?_ | refine okm_fzD ?_ | refine okm_lmE ?_ | refine okm_spNE ?_ | refine oks_seq ?_ | refine oks_if ?_ | refine oks_set ?_ | refine oks_asg ?_ | refine oks_sret ?_ | refine oks_sexp ?_ | refine oks_snx ?_ | refine oks_for ?_ | refine oks_aug ?_ | refine oks_augS ?_ | refine oks_raise ?_ | refine okm_bnd ?_)
            | ((with_reducible apply okm_vr); (· rfl))
            | ((with_reducible apply okm_tupE); (· rfl); (· rfl)) | ((with_reducible apply okm_lstE); (· rfl); (· rfl)) | ((with_reducible apply okm_lstN); (· rfl))
            | ((with_reducible apply op_rfl); (· rfl); (· rfl); (· rfl)) | ((with_reducible apply o1_rfl); (· rfl); (· rfl)) | ((with_reducible apply of_rfl); (· rfl); (· rfl))
            | (with_reducible refine wp_t ?_) | (with_reducible refine wp_f ?_) | (with_reducible refine wp_nt ?_) | (with_reducible refine wp_nf ?_)
            | ((with_reducible apply ex_t); (· rfl)) | ((with_reducible apply ex_f); (· rfl))
            | ((with_reducible apply ex_and4); (· rfl); (· rfl); (· rfl)) | ((with_reducible apply ex_and3); (· rfl); (· rfl)) | ((with_reducible apply ex_and2); (· rfl)) | ((with_reducible apply ex_and); (· rfl))
            | ((with_reducible apply isT_and); (· rfl)) | ((with_reducible apply ex_bm); (· rfl); (· rfl); (· rfl))
            | dsimp only)
          refine ⟨fun hr => ?_, fun hr => ?_⟩
          · repeat (first
            | (with_reducible first | refine okm_ret ?_ | refine okm_cn ?_ | refine okm_op2 ?_ | refine okm_tst ?_ | refine okm_ifE ?_ | refine okm_mnil ?_ | refine okm_mcons ?_ | refine okm_notT ?_ | refine okm_notV ?_ | refine okm_chain ?_ | refine okm_andT ?_ | refine okm_orT ?_ | refine okm_andV ?_ | refine okm_orV ?_ | refine okm_unE ?_ | refine okm_fnE ?_ | refine okm_lenE ?_ | refine okm_ixE ?_ | refine okm_ptN ?_ | refine okm_ptS ?_ | refine okm_slE ?_ | refine okm_bmE ?_ | refine okm_isiE ?_ | refine okm_itE ?_ | refine okm_itN ?_ | refine okm_it1 ?_ | refine okm_lcM ?_ | refine okm_callP ?_ | refine okm_callM ?_ | refine okm_fz ?_ | refine okm_fzD ?_ | refine okm_lmE ?_ | refine okm_spNE ?_ | refine oks_seq ?_ | refine oks_if ?_ | refine oks_set ?_ | refine oks_asg ?_ | refine oks_sret ?_ | refine oks_sexp ?_ | refine oks_snx ?_ | refine oks_for ?_ | refine oks_aug ?_ | refine oks_augS ?_ | refine oks_raise ?_ | refine okm_bnd ?_)
            | ((with_reducible apply okm_vr); (· rfl))
            | ((with_reducible apply okm_tupE); (· rfl); (· rfl)) | ((with_reducible apply okm_lstE); (· rfl); (· rfl)) | ((with_reducible apply okm_lstN); (· rfl))
            | ((with_reducible apply op_rfl); (· rfl); (· rfl); (· rfl)) | ((with_reducible apply o1_rfl); (· rfl); (· rfl)) | ((with_reducible apply of_rfl); (· rfl); (· rfl))
            | (with_reducible refine wp_t ?_) | (with_reducible refine wp_f ?_) | (with_reducible refine wp_nt ?_) | (with_reducible refine wp_nf ?_)
            | ((with_reducible apply ex_t); (· rfl)) | ((with_reducible apply ex_f); (· rfl))
            | ((with_reducible apply ex_and4); (· rfl); (· rfl); (· rfl)) | ((with_reducible apply ex_and3); (· rfl); (· rfl)) | ((with_reducible apply ex_and2); (· rfl)) | ((with_reducible apply ex_and); (· rfl))
            | ((with_reducible apply isT_and); (· rfl)) | ((with_reducible apply ex_bm); (· rfl); (· rfl); (· rfl))
            | dsimp only)
            exact hd ⟨_, (fmod_pos (i := r) (j := 1009) (by decide)).1, rfl⟩
          · repeat (first
            | (with_reducible first | refine okm_ret ?_ | refine okm_cn ?_ | refine okm_op2 ?_ | refine okm_tst ?_ | refine okm_ifE ?_ | refine okm_mnil ?_ | refine okm_mcons ?_ | refine okm_notT ?_ | refine okm_notV ?_ | refine okm_chain ?_ | refine okm_andT ?_ | refine okm_orT ?_ | refine okm_andV ?_ | refine okm_orV ?_ | refine okm_unE ?_ | refine okm_fnE ?_ | refine okm_lenE ?_ | refine okm_ixE ?_ | refine okm_ptN ?_ | refine okm_ptS ?_ | refine okm_slE ?_ | refine okm_bmE ?_ | refine okm_isiE ?_ | refine okm_itE ?_ | refine okm_itN ?_ | refine okm_it1 ?_ | refine okm_lcM ?_ | refine okm_callP ?_ | refine okm_callM ?_ | refine okm_fz ?_ | refine okm_fzD ?_ | refine okm_lmE ?_ | refine okm_spNE ?_ | refine oks_seq ?_ | refine oks_if ?_ | refine oks_set ?_ | refine oks_asg ?_ | refine oks_sret ?_ | refine oks_sexp ?_ | refine oks_snx ?_ | refine oks_for ?_ | refine oks_aug ?_ | refine oks_augS ?_ | refine oks_raise ?_ | refine okm_bnd ?_)
            | ((with_reducible apply okm_vr); (· rfl))
            | ((with_reducible apply okm_tupE); (· rfl); (· rfl)) | ((with_reducible apply okm_lstE); (· rfl); (· rfl)) | ((with_reducible apply okm_lstN); (· rfl))
            | ((with_reducible apply op_rfl); (· rfl); (· rfl); (· rfl)) | ((with_reducible apply o1_rfl); (· rfl); (· rfl)) | ((with_reducible apply of_rfl); (· rfl); (· rfl))
            | (with_reducible refine wp_t ?_) | (with_reducible refine wp_f ?_) | (with_reducible refine wp_nt ?_) | (with_reducible refine wp_nf ?_)
            | ((with_reducible apply ex_t); (· rfl)) | ((with_reducible apply ex_f); (· rfl))
            | ((with_reducible apply ex_and4); (· rfl); (· rfl); (· rfl)) | ((with_reducible apply ex_and3); (· rfl); (· rfl)) | ((with_reducible apply ex_and2); (· rfl)) | ((with_reducible apply ex_and); (· rfl))
            | ((with_reducible apply isT_and); (· rfl)) | ((with_reducible apply ex_bm); (· rfl); (· rfl); (· rfl))
            | dsimp only)
            have e1 : ((n : Int)).natAbs.log2 ≤ 30 := log2_small (n := 1000000001) (by omega) (by decide)
            refine op_mul (mulb (log2_lit 9 (by decide)) e1 (by decide)) ?_
            repeat (first
              | (with_reducible first | refine okm_ret ?_ | refine okm_cn ?_ | refine okm_op2 ?_ | refine okm_tst ?_ | refine okm_ifE ?_ | refine okm_mnil ?_ | refine okm_mcons ?_ | refine okm_notT ?_ | refine okm_notV ?_ | refine okm_chain ?_ | refine okm_andT ?_ | refine okm_orT ?_ | refine okm_andV ?_ | refine okm_orV ?_ | refine okm_unE ?_ | refine okm_fnE ?_ | refine okm_lenE ?_ | refine okm_ixE ?_ | refine okm_ptN ?_ | refine okm_ptS ?_ | refine okm_slE ?_ | refine okm_bmE ?_ | refine okm_isiE ?_ | refine okm_itE ?_ | refine okm_itN ?_ | refine okm_it1 ?_ | refine okm_lcM ?_ | refine okm_callP ?_ | refine okm_callM ?_ | refine okm_fz ?_ | refine okm_fzD ?_ | refine okm_lmE ?_ | refine okm_spNE ?_ | refine oks_seq ?_ | refine oks_if ?_ | refine oks_set ?_ | refine oks_asg ?_ | refine oks_sret ?_ | refine oks_sexp ?_ | refine oks_snx ?_ | refine oks_for ?_ | refine oks_aug ?_ | refine oks_augS ?_ | refine oks_raise ?_ | refine okm_bnd ?_)
              | ((with_reducible apply okm_vr); (· rfl))
              | ((with_reducible apply okm_tupE); (· rfl); (· rfl)) | ((with_reducible apply okm_lstE); (· rfl); (· rfl)) | ((with_reducible apply okm_lstN); (· rfl))
              | ((with_reducible apply op_rfl); (· rfl); (· rfl); (· rfl)) | ((with_reducible apply o1_rfl); (· rfl); (· rfl)) | ((with_reducible apply of_rfl); (· rfl); (· rfl))
              | (with_reducible refine wp_t ?_) | (with_reducible refine wp_f ?_) | (with_reducible refine wp_nt ?_) | (with_reducible refine wp_nf ?_)
              | ((with_reducible apply ex_t); (· rfl)) | ((with_reducible apply ex_f); (· rfl))
              | ((with_reducible apply ex_and4); (· rfl); (· rfl); (· rfl)) | ((with_reducible apply ex_and3); (· rfl); (· rfl)) | ((with_reducible apply ex_and2); (· rfl)) | ((with_reducible apply ex_and); (· rfl))
              | ((with_reducible apply isT_and); (· rfl)) | ((with_reducible apply ex_bm); (· rfl); (· rfl); (· rfl))
              | dsimp only)
            have g1 : (c + 977 * (n : Int)).natAbs.log2 ≤ 1048577 := log2_add hc (log2_small (n := 1000000000000) (k := 1048576) (by omega) (Nat.le_trans (by decide : 1000000000000 ≤ 2 ^ 40) (Nat.pow_le_pow_right (by decide) (by decide))))
            refine op_mul (mulb g1 (log2_lit 15 (by decide)) (by decide)) ?_
            repeat (first
              | (with_reducible first | refine okm_ret ?_ | refine okm_cn ?_ | refine okm_op2 ?_ | refine okm_tst ?_ | refine okm_ifE ?_ | refine okm_mnil ?_ | refine okm_mcons ?_ | refine okm_notT ?_ | refine okm_notV ?_ | refine okm_chain ?_ | refine okm_andT ?_ | refine okm_orT ?_ | refine okm_andV ?_ | refine okm_orV ?_ | refine okm_unE ?_ | refine okm_fnE ?_ | refine okm_lenE ?_ | refine okm_ixE ?_ | refine okm_ptN ?_ | refine okm_ptS ?_ | refine okm_slE ?_ | refine okm_bmE ?_ | refine okm_isiE ?_ | refine okm_itE ?_ | refine okm_itN ?_ | refine okm_it1 ?_ | refine okm_lcM ?_ | refine okm_callP ?_ | refine okm_callM ?_ | refine okm_fz ?_ | refine okm_fzD ?_ | refine okm_lmE ?_ | refine okm_spNE ?_ | refine oks_seq ?_ | refine oks_if ?_ | refine oks_set ?_ | refine oks_asg ?_ | refine oks_sret ?_ | refine oks_sexp ?_ | refine oks_snx ?_ | refine oks_for ?_ | refine oks_aug ?_ | refine oks_augS ?_ | refine oks_raise ?_ | refine okm_bnd ?_)
              | ((with_reducible apply okm_vr); (· rfl))
              | ((with_reducible apply okm_tupE); (· rfl); (· rfl)) | ((with_reducible apply okm_lstE); (· rfl); (· rfl)) | ((with_reducible apply okm_lstN); (· rfl))
              | ((with_reducible apply op_rfl); (· rfl); (· rfl); (· rfl)) | ((with_reducible apply o1_rfl); (· rfl); (· rfl)) | ((with_reducible apply of_rfl); (· rfl); (· rfl))
              | (with_reducible refine wp_t ?_) | (with_reducible refine wp_f ?_) | (with_reducible refine wp_nt ?_) | (with_reducible refine wp_nf ?_)
              | ((with_reducible apply ex_t); (· rfl)) | ((with_reducible apply ex_f); (· rfl))
              | ((with_reducible apply ex_and4); (· rfl); (· rfl); (· rfl)) | ((with_reducible apply ex_and3); (· rfl); (· rfl)) | ((with_reducible apply ex_and2); (· rfl)) | ((with_reducible apply ex_and); (· rfl))
              | ((with_reducible apply isT_and); (· rfl)) | ((with_reducible apply ex_bm); (· rfl); (· rfl); (· rfl))
              | dsimp only)
            have g2 : (((ns.map D.int).length : Nat) : Int).natAbs.log2 ≤ 10 := log2_small (n := 64) (by rw [List.length_map]; omega) (by decide)
            refine op_mul (mulb (log2_lit 4 (by decide)) g2 (by decide)) ?_
            repeat (first
              | (with_reducible first | refine okm_ret ?_ | refine okm_cn ?_ | refine okm_op2 ?_ | refine okm_tst ?_ | refine okm_ifE ?_ | refine okm_mnil ?_ | refine okm_mcons ?_ | refine okm_notT ?_ | refine okm_notV ?_ | refine okm_chain ?_ | refine okm_andT ?_ | refine okm_orT ?_ | refine okm_andV ?_ | refine okm_orV ?_ | refine okm_unE ?_ | refine okm_fnE ?_ | refine okm_lenE ?_ | refine okm_ixE ?_ | refine okm_ptN ?_ | refine okm_ptS ?_ | refine okm_slE ?_ | refine okm_bmE ?_ | refine okm_isiE ?_ | refine okm_itE ?_ | refine okm_itN ?_ | refine okm_it1 ?_ | refine okm_lcM ?_ | refine okm_callP ?_ | refine okm_callM ?_ | refine okm_fz ?_ | refine okm_fzD ?_ | refine okm_lmE ?_ | refine okm_spNE ?_ | refine oks_seq ?_ | refine oks_if ?_ | refine oks_set ?_ | refine oks_asg ?_ | refine oks_sret ?_ | refine oks_sexp ?_ | refine oks_snx ?_ | refine oks_for ?_ | refine oks_aug ?_ | refine oks_augS ?_ | refine oks_raise ?_ | refine okm_bnd ?_)
              | ((with_reducible apply okm_vr); (· rfl))
              | ((with_reducible apply okm_tupE); (· rfl); (· rfl)) | ((with_reducible apply okm_lstE); (· rfl); (· rfl)) | ((with_reducible apply okm_lstN); (· rfl))
              | ((with_reducible apply op_rfl); (· rfl); (· rfl); (· rfl)) | ((with_reducible apply o1_rfl); (· rfl); (· rfl)) | ((with_reducible apply of_rfl); (· rfl); (· rfl))
              | (with_reducible refine wp_t ?_) | (with_reducible refine wp_f ?_) | (with_reducible refine wp_nt ?_) | (with_reducible refine wp_nf ?_)
              | ((with_reducible apply ex_t); (· rfl)) | ((with_reducible apply ex_f); (· rfl))
              | ((with_reducible apply ex_and4); (· rfl); (· rfl); (· rfl)) | ((with_reducible apply ex_and3); (· rfl); (· rfl)) | ((with_reducible apply ex_and2); (· rfl)) | ((with_reducible apply ex_and); (· rfl))
              | ((with_reducible apply isT_and); (· rfl)) | ((with_reducible apply ex_bm); (· rfl); (· rfl); (· rfl))
              | dsimp only)
            refine op_mul (mulb (fmod_log2 30 (by decide) (by decide)) (fmod_log2 30 (by decide) (by decide)) (by decide)) ?_
            repeat (first
              | (with_reducible first | refine okm_ret ?_ | refine okm_cn ?_ | refine okm_op2 ?_ | refine okm_tst ?_ | refine okm_ifE ?_ | refine okm_mnil ?_ | refine okm_mcons ?_ | refine okm_notT ?_ | refine okm_notV ?_ | refine okm_chain ?_ | refine okm_andT ?_ | refine okm_orT ?_ | refine okm_andV ?_ | refine okm_orV ?_ | refine okm_unE ?_ | refine okm_fnE ?_ | refine okm_lenE ?_ | refine okm_ixE ?_ | refine okm_ptN ?_ | refine okm_ptS ?_ | refine okm_slE ?_ | refine okm_bmE ?_ | refine okm_isiE ?_ | refine okm_itE ?_ | refine okm_itN ?_ | refine okm_it1 ?_ | refine okm_lcM ?_ | refine okm_callP ?_ | refine okm_callM ?_ | refine okm_fz ?_ | refine okm_fzD ?_ | refine okm_lmE ?_ | refine okm_spNE ?_ | refine oks_seq ?_ | refine oks_if ?_ | refine oks_set ?_ | refine oks_asg ?_ | refine oks_sret ?_ | refine oks_sexp ?_ | refine oks_snx ?_ | refine oks_for ?_ | refine oks_aug ?_ | refine oks_augS ?_ | refine oks_raise ?_ | refine okm_bnd ?_)
              | ((with_reducible apply okm_vr); (· rfl))
              | ((with_reducible apply okm_tupE); (· rfl); (· rfl)) | ((with_reducible apply okm_lstE); (· rfl); (· rfl)) | ((with_reducible apply okm_lstN); (· rfl))
              | ((with_reducible apply op_rfl); (· rfl); (· rfl); (· rfl)) | ((with_reducible apply o1_rfl); (· rfl); (· rfl)) | ((with_reducible apply of_rfl); (· rfl); (· rfl))
              | (with_reducible refine wp_t ?_) | (with_reducible refine wp_f ?_) | (with_reducible refine wp_nt ?_) | (with_reducible refine wp_nf ?_)
              | ((with_reducible apply ex_t); (· rfl)) | ((with_reducible apply ex_f); (· rfl))
              | ((with_reducible apply ex_and4); (· rfl); (· rfl); (· rfl)) | ((with_reducible apply ex_and3); (· rfl); (· rfl)) | ((with_reducible apply ex_and2); (· rfl)) | ((with_reducible apply ex_and); (· rfl))
              | ((with_reducible apply isT_and); (· rfl)) | ((with_reducible apply ex_bm); (· rfl); (· rfl); (· rfl))
              | dsimp only)
            refine op_mul (mulb (log2_lit 15 (by decide)) e1 (by decide)) ?_
            repeat (first
              | (with_reducible first | refine okm_ret ?_ | refine okm_cn ?_ | refine okm_op2 ?_ | refine okm_tst ?_ | refine okm_ifE ?_ | refine okm_mnil ?_ | refine okm_mcons ?_ | refine okm_notT ?_ | refine okm_notV ?_ | refine okm_chain ?_ | refine okm_andT ?_ | refine okm_orT ?_ | refine okm_andV ?_ | refine okm_orV ?_ | refine okm_unE ?_ | refine okm_fnE ?_ | refine okm_lenE ?_ | refine okm_ixE ?_ | refine okm_ptN ?_ | refine okm_ptS ?_ | refine okm_slE ?_ | refine okm_bmE ?_ | refine okm_isiE ?_ | refine okm_itE ?_ | refine okm_itN ?_ | refine okm_it1 ?_ | refine okm_lcM ?_ | refine okm_callP ?_ | refine okm_callM ?_ | refine okm_fz ?_ | refine okm_fzD ?_ | refine okm_lmE ?_ | refine okm_spNE ?_ | refine oks_seq ?_ | refine oks_if ?_ | refine oks_set ?_ | refine oks_asg ?_ | refine oks_sret ?_ | refine oks_sexp ?_ | refine oks_snx ?_ | refine oks_for ?_ | refine oks_aug ?_ | refine oks_augS ?_ | refine oks_raise ?_ | refine okm_bnd ?_)
              | ((with_reducible apply okm_vr); (· rfl))
              | ((with_reducible apply okm_tupE); (· rfl); (· rfl)) | ((with_reducible apply okm_lstE); (· rfl); (· rfl)) | ((with_reducible apply okm_lstN); (· rfl))
              | ((with_reducible apply op_rfl); (· rfl); (· rfl); (· rfl)) | ((with_reducible apply o1_rfl); (· rfl); (· rfl)) | ((with_reducible apply of_rfl); (· rfl); (· rfl))
              | (with_reducible refine wp_t ?_) | (with_reducible refine wp_f ?_) | (with_reducible refine wp_nt ?_) | (with_reducible refine wp_nf ?_)
              | ((with_reducible apply ex_t); (· rfl)) | ((with_reducible apply ex_f); (· rfl))
              | ((with_reducible apply ex_and4); (· rfl); (· rfl); (· rfl)) | ((with_reducible apply ex_and3); (· rfl); (· rfl)) | ((with_reducible apply ex_and2); (· rfl)) | ((with_reducible apply ex_and); (· rfl))
              | ((with_reducible apply isT_and); (· rfl)) | ((with_reducible apply ex_bm); (· rfl); (· rfl); (· rfl))
              | dsimp only)
            refine op_mul (mulb (fmod_log2 30 (by decide) (by decide)) (log2_lit 16 (by decide)) (by decide)) ?_
            repeat (first
              | (with_reducible first | refine okm_ret ?_ | refine okm_cn ?_ | refine okm_op2 ?_ | refine okm_tst ?_ | refine okm_ifE ?_ | refine okm_mnil ?_ | refine okm_mcons ?_ | refine okm_notT ?_ | refine okm_notV ?_ | refine okm_chain ?_ | refine okm_andT ?_ | refine okm_orT ?_ | refine okm_andV ?_ | refine okm_orV ?_ | refine okm_unE ?_ | refine okm_fnE ?_ | refine okm_lenE ?_ | refine okm_ixE ?_ | refine okm_ptN ?_ | refine okm_ptS ?_ | refine okm_slE ?_ | refine okm_bmE ?_ | refine okm_isiE ?_ | refine okm_itE ?_ | refine okm_itN ?_ | refine okm_it1 ?_ | refine okm_lcM ?_ | refine okm_callP ?_ | refine okm_callM ?_ | refine okm_fz ?_ | refine okm_fzD ?_ | refine okm_lmE ?_ | refine okm_spNE ?_ | refine oks_seq ?_ | refine oks_if ?_ | refine oks_set ?_ | refine oks_asg ?_ | refine oks_sret ?_ | refine oks_sexp ?_ | refine oks_snx ?_ | refine oks_for ?_ | refine oks_aug ?_ | refine oks_augS ?_ | refine oks_raise ?_ | refine okm_bnd ?_)
              | ((with_reducible apply okm_vr); (· rfl))
              | ((with_reducible apply okm_tupE); (· rfl); (· rfl)) | ((with_reducible apply okm_lstE); (· rfl); (· rfl)) | ((with_reducible apply okm_lstN); (· rfl))
              | ((with_reducible apply op_rfl); (· rfl); (· rfl); (· rfl)) | ((with_reducible apply o1_rfl); (· rfl); (· rfl)) | ((with_reducible apply of_rfl); (· rfl); (· rfl))
              | (with_reducible refine wp_t ?_) | (with_reducible refine wp_f ?_) | (with_reducible refine wp_nt ?_) | (with_reducible refine wp_nf ?_)
              | ((with_reducible apply ex_t); (· rfl)) | ((with_reducible apply ex_f); (· rfl))
              | ((with_reducible apply ex_and4); (· rfl); (· rfl); (· rfl)) | ((with_reducible apply ex_and3); (· rfl); (· rfl)) | ((with_reducible apply ex_and2); (· rfl)) | ((with_reducible apply ex_and); (· rfl))
              | ((with_reducible apply isT_and); (· rfl)) | ((with_reducible apply ex_bm); (· rfl); (· rfl); (· rfl))
              | dsimp only)
            exact hd ⟨_, (fmod_pos (by decide)).1, rfl⟩
  obtain ⟨x, h', e, z, hz, rfl⟩ := key
  exact ⟨z, hz, h', e⟩
/-- where the draws stand: at the n-th one -/
def Dr (ns : List Int) (n : Nat) : O := .lst [.d (.scr ns), .d (.int n)]
theorem take_ok {ns : List Int} (hl : ns.length ≤ 63) (hb : ∀ z ∈ ns, Builtin.Int.intBits z ≤ 1048576) {n : Nat} (hn : n < 1000000000) {h : Hea} {k : Nat} (hk : h[k]? = some (Dr ns n)) {m : Int} (hm : 0 < m) :
    ∃ z : Int, 0 ≤ z ∧ z < m ∧ f__law_take [.loc k, .d (.int m)] h = some (.ok (.d (.int z)) (h.set k (Dr ns (n + 1)))) := by
  have hlt : k < h.length := (List.getElem?_eq_some_iff.mp hk).1
  have key : ∃ x h', fnM 2 b__law_take [.loc k, .d (.int m)] h = some (.ok (.d x) h') ∧ h'.length = h.length ∧ Hd (∃ z : Int, 0 ≤ z ∧ z < m ∧ x = .int z ∧ h' = h.set k (Dr ns (n + 1))) := by
    refine fnM_keep ?_
    show OkS b__law_take [some (.loc k), some (.d (.int m))] h _
    unfold b__law_take
    refine oks_cut (fun δ h' => δ = [some (.loc k), some (.d (.int m))] ∧ h' = h.set k (Dr ns (n + 1))) ?_ ?_
    · repeat (first
      | (with_reducible first | refine okm_ret ?_ | refine okm_cn ?_ | refine okm_op2 ?_ | refine okm_tst ?_ | refine okm_ifE ?_ | refine okm_mnil ?_ | refine okm_mcons ?_ | refine okm_notT ?_ | refine okm_notV ?_ | refine okm_chain ?_ | refine okm_andT ?_ | refine okm_orT ?_ | refine okm_andV ?_ | refine okm_orV ?_ | refine okm_unE ?_ | refine okm_fnE ?_ | refine okm_lenE ?_ | refine okm_ixE ?_ | refine okm_ptN ?_ | refine okm_ptS ?_ | refine okm_slE ?_ | refine okm_bmE ?_ | refine okm_isiE ?_ | refine okm_itE ?_ | refine okm_itN ?_ | refine okm_it1 ?_ | refine okm_lcM ?_ | refine okm_callP ?_ | refine okm_callM ?_ | refine okm_fz ?_ | refine okm_fzD ?_ | refine okm_lmE ?_ | refine okm_spNE ?_ | refine oks_seq ?_ | refine oks_if ?_ | refine oks_set ?_ | refine oks_asg ?_ | refine oks_sret ?_ | refine oks_sexp ?_ | refine oks_snx ?_ | refine oks_for ?_ | refine oks_aug ?_ | refine oks_augS ?_ | refine oks_raise ?_ | refine okm_bnd ?_)
      | ((with_reducible apply okm_vr); (· rfl))
      | ((with_reducible apply okm_tupE); (· rfl); (· rfl)) | ((with_reducible apply okm_lstE); (· rfl); (· rfl)) | ((with_reducible apply okm_lstN); (· rfl))
      | ((with_reducible apply op_rfl); (· rfl); (· rfl); (· rfl)) | ((with_reducible apply o1_rfl); (· rfl); (· rfl)) | ((with_reducible apply of_rfl); (· rfl); (· rfl))
      | (with_reducible refine wp_t ?_) | (with_reducible refine wp_f ?_) | (with_reducible refine wp_nt ?_) | (with_reducible refine wp_nf ?_)
      | ((with_reducible apply ex_t); (· rfl)) | ((with_reducible apply ex_f); (· rfl))
      | ((with_reducible apply ex_and4); (· rfl); (· rfl); (· rfl)) | ((with_reducible apply ex_and3); (· rfl); (· rfl)) | ((with_reducible apply ex_and2); (· rfl)) | ((with_reducible apply ex_and); (· rfl))
      | ((with_reducible apply isT_and); (· rfl)) | ((with_reducible apply ex_bm); (· rfl); (· rfl); (· rfl))
      | dsimp only)
      refine ⟨.d (.int n), by unfold getU; simp only [hk]; rfl, ?_⟩
      repeat (first
        | (with_reducible first | refine okm_ret ?_ | refine okm_cn ?_ | refine okm_op2 ?_ | refine okm_tst ?_ | refine okm_ifE ?_ | refine okm_mnil ?_ | refine okm_mcons ?_ | refine okm_notT ?_ | refine okm_notV ?_ | refine okm_chain ?_ | refine okm_andT ?_ | refine okm_orT ?_ | refine okm_andV ?_ | refine okm_orV ?_ | refine okm_unE ?_ | refine okm_fnE ?_ | refine okm_lenE ?_ | refine okm_ixE ?_ | refine okm_ptN ?_ | refine okm_ptS ?_ | refine okm_slE ?_ | refine okm_bmE ?_ | refine okm_isiE ?_ | refine okm_itE ?_ | refine okm_itN ?_ | refine okm_it1 ?_ | refine okm_lcM ?_ | refine okm_callP ?_ | refine okm_callM ?_ | refine okm_fz ?_ | refine okm_fzD ?_ | refine okm_lmE ?_ | refine okm_spNE ?_ | refine oks_seq ?_ | refine oks_if ?_ | refine oks_set ?_ | refine oks_asg ?_ | refine oks_sret ?_ | refine oks_sexp ?_ | refine oks_snx ?_ | refine oks_for ?_ | refine oks_aug ?_ | refine oks_augS ?_ | refine oks_raise ?_ | refine okm_bnd ?_)
        | ((with_reducible apply okm_vr); (· rfl))
        | ((with_reducible apply okm_tupE); (· rfl); (· rfl)) | ((with_reducible apply okm_lstE); (· rfl); (· rfl)) | ((with_reducible apply okm_lstN); (· rfl))
        | ((with_reducible apply op_rfl); (· rfl); (· rfl); (· rfl)) | ((with_reducible apply o1_rfl); (· rfl); (· rfl)) | ((with_reducible apply of_rfl); (· rfl); (· rfl))
        | (with_reducible refine wp_t ?_) | (with_reducible refine wp_f ?_) | (with_reducible refine wp_nt ?_) | (with_reducible refine wp_nf ?_)
        | ((with_reducible apply ex_t); (· rfl)) | ((with_reducible apply ex_f); (· rfl))
        | ((with_reducible apply ex_and4); (· rfl); (· rfl); (· rfl)) | ((with_reducible apply ex_and3); (· rfl); (· rfl)) | ((with_reducible apply ex_and2); (· rfl)) | ((with_reducible apply ex_and); (· rfl))
        | ((with_reducible apply isT_and); (· rfl)) | ((with_reducible apply ex_bm); (· rfl); (· rfl); (· rfl))
        | dsimp only)
      refine ⟨h.set k (Dr ns (n + 1)), by unfold setU; simp only [hk]; rfl, ?_⟩
      exact ⟨_, _, rfl, rfl, rfl⟩
    · rintro δ h' ⟨rfl, rfl⟩
      have hk2 : (h.set k (Dr ns (n + 1)))[k]? = some (Dr ns (n + 1)) := List.getElem?_set_self hlt
      repeat (first
        | (with_reducible first | refine okm_ret ?_ | refine okm_cn ?_ | refine okm_op2 ?_ | refine okm_tst ?_ | refine okm_ifE ?_ | refine okm_mnil ?_ | refine okm_mcons ?_ | refine okm_notT ?_ | refine okm_notV ?_ | refine okm_chain ?_ | refine okm_andT ?_ | refine okm_orT ?_ | refine okm_andV ?_ | refine okm_orV ?_ | refine okm_unE ?_ | refine okm_fnE ?_ | refine okm_lenE ?_ | refine okm_ixE ?_ | refine okm_ptN ?_ | refine okm_ptS ?_ | refine okm_slE ?_ | refine okm_bmE ?_ | refine okm_isiE ?_ | refine okm_itE ?_ | refine okm_itN ?_ | refine okm_it1 ?_ | refine okm_lcM ?_ | refine okm_callP ?_ | refine okm_callM ?_ | refine okm_fz ?_ | refine okm_fzD ?_ | refine okm_lmE ?_ | refine okm_spNE ?_ | refine oks_seq ?_ | refine oks_if ?_ | refine oks_set ?_ | refine oks_asg ?_ | refine oks_sret ?_ | refine oks_sexp ?_ | refine oks_snx ?_ | refine oks_for ?_ | refine oks_aug ?_ | refine oks_augS ?_ | refine oks_raise ?_ | refine okm_bnd ?_)
        | ((with_reducible apply okm_vr); (· rfl))
        | ((with_reducible apply okm_tupE); (· rfl); (· rfl)) | ((with_reducible apply okm_lstE); (· rfl); (· rfl)) | ((with_reducible apply okm_lstN); (· rfl))
        | ((with_reducible apply op_rfl); (· rfl); (· rfl); (· rfl)) | ((with_reducible apply o1_rfl); (· rfl); (· rfl)) | ((with_reducible apply of_rfl); (· rfl); (· rfl))
        | (with_reducible refine wp_t ?_) | (with_reducible refine wp_f ?_) | (with_reducible refine wp_nt ?_) | (with_reducible refine wp_nf ?_)
        | ((with_reducible apply ex_t); (· rfl)) | ((with_reducible apply ex_f); (· rfl))
        | ((with_reducible apply ex_and4); (· rfl); (· rfl); (· rfl)) | ((with_reducible apply ex_and3); (· rfl); (· rfl)) | ((with_reducible apply ex_and2); (· rfl)) | ((with_reducible apply ex_and); (· rfl))
        | ((with_reducible apply isT_and); (· rfl)) | ((with_reducible apply ex_bm); (· rfl); (· rfl); (· rfl))
        | dsimp only)
      refine ⟨.d (.scr ns), by unfold ixU; simp only [hk2]; rfl, ?_⟩
      repeat (first
        | (with_reducible first | refine okm_ret ?_ | refine okm_cn ?_ | refine okm_op2 ?_ | refine okm_tst ?_ | refine okm_ifE ?_ | refine okm_mnil ?_ | refine okm_mcons ?_ | refine okm_notT ?_ | refine okm_notV ?_ | refine okm_chain ?_ | refine okm_andT ?_ | refine okm_orT ?_ | refine okm_andV ?_ | refine okm_orV ?_ | refine okm_unE ?_ | refine okm_fnE ?_ | refine okm_lenE ?_ | refine okm_ixE ?_ | refine okm_ptN ?_ | refine okm_ptS ?_ | refine okm_slE ?_ | refine okm_bmE ?_ | refine okm_isiE ?_ | refine okm_itE ?_ | refine okm_itN ?_ | refine okm_it1 ?_ | refine okm_lcM ?_ | refine okm_callP ?_ | refine okm_callM ?_ | refine okm_fz ?_ | refine okm_fzD ?_ | refine okm_lmE ?_ | refine okm_spNE ?_ | refine oks_seq ?_ | refine oks_if ?_ | refine oks_set ?_ | refine oks_asg ?_ | refine oks_sret ?_ | refine oks_sexp ?_ | refine oks_snx ?_ | refine oks_for ?_ | refine oks_aug ?_ | refine oks_augS ?_ | refine oks_raise ?_ | refine okm_bnd ?_)
        | ((with_reducible apply okm_vr); (· rfl))
        | ((with_reducible apply okm_tupE); (· rfl); (· rfl)) | ((with_reducible apply okm_lstE); (· rfl); (· rfl)) | ((with_reducible apply okm_lstN); (· rfl))
        | ((with_reducible apply op_rfl); (· rfl); (· rfl); (· rfl)) | ((with_reducible apply o1_rfl); (· rfl); (· rfl)) | ((with_reducible apply of_rfl); (· rfl); (· rfl))
        | (with_reducible refine wp_t ?_) | (with_reducible refine wp_f ?_) | (with_reducible refine wp_nt ?_) | (with_reducible refine wp_nf ?_)
        | ((with_reducible apply ex_t); (· rfl)) | ((with_reducible apply ex_f); (· rfl))
        | ((with_reducible apply ex_and4); (· rfl); (· rfl); (· rfl)) | ((with_reducible apply ex_and3); (· rfl); (· rfl)) | ((with_reducible apply ex_and2); (· rfl)) | ((with_reducible apply ex_and); (· rfl))
        | ((with_reducible apply isT_and); (· rfl)) | ((with_reducible apply ex_bm); (· rfl); (· rfl); (· rfl))
        | dsimp only)
      refine ⟨.d (.int ((n + 1 : Nat) : Int)), by unfold ixU; simp only [hk2]; rfl, ?_⟩
      repeat (first
        | (with_reducible first | refine okm_ret ?_ | refine okm_cn ?_ | refine okm_op2 ?_ | refine okm_tst ?_ | refine okm_ifE ?_ | refine okm_mnil ?_ | refine okm_mcons ?_ | refine okm_notT ?_ | refine okm_notV ?_ | refine okm_chain ?_ | refine okm_andT ?_ | refine okm_orT ?_ | refine okm_andV ?_ | refine okm_orV ?_ | refine okm_unE ?_ | refine okm_fnE ?_ | refine okm_lenE ?_ | refine okm_ixE ?_ | refine okm_ptN ?_ | refine okm_ptS ?_ | refine okm_slE ?_ | refine okm_bmE ?_ | refine okm_isiE ?_ | refine okm_itE ?_ | refine okm_itN ?_ | refine okm_it1 ?_ | refine okm_lcM ?_ | refine okm_callP ?_ | refine okm_callM ?_ | refine okm_fz ?_ | refine okm_fzD ?_ | refine okm_lmE ?_ | refine okm_spNE ?_ | refine oks_seq ?_ | refine oks_if ?_ | refine oks_set ?_ | refine oks_asg ?_ | refine oks_sret ?_ | refine oks_sexp ?_ | refine oks_snx ?_ | refine oks_for ?_ | refine oks_aug ?_ | refine oks_augS ?_ | refine oks_raise ?_ | refine okm_bnd ?_)
        | ((with_reducible apply okm_vr); (· rfl))
        | ((with_reducible apply okm_tupE); (· rfl); (· rfl)) | ((with_reducible apply okm_lstE); (· rfl); (· rfl)) | ((with_reducible apply okm_lstN); (· rfl))
        | ((with_reducible apply op_rfl); (· rfl); (· rfl); (· rfl)) | ((with_reducible apply o1_rfl); (· rfl); (· rfl)) | ((with_reducible apply of_rfl); (· rfl); (· rfl))
        | (with_reducible refine wp_t ?_) | (with_reducible refine wp_f ?_) | (with_reducible refine wp_nt ?_) | (with_reducible refine wp_nf ?_)
        | ((with_reducible apply ex_t); (· rfl)) | ((with_reducible apply ex_f); (· rfl))
        | ((with_reducible apply ex_and4); (· rfl); (· rfl); (· rfl)) | ((with_reducible apply ex_and3); (· rfl); (· rfl)) | ((with_reducible apply ex_and2); (· rfl)) | ((with_reducible apply ex_and); (· rfl))
        | ((with_reducible apply isT_and); (· rfl)) | ((with_reducible apply ex_bm); (· rfl); (· rfl); (· rfl))
        | dsimp only)
      obtain ⟨z, hz, hh, e⟩ := number_ok ns hl hb (n + 1) (by omega)
      refine ⟨rfl, _, _, hh, rfl, e, ?_⟩
      repeat (first
        | (with_reducible first | refine okm_ret ?_ | refine okm_cn ?_ | refine okm_op2 ?_ | refine okm_tst ?_ | refine okm_ifE ?_ | refine okm_mnil ?_ | refine okm_mcons ?_ | refine okm_notT ?_ | refine okm_notV ?_ | refine okm_chain ?_ | refine okm_andT ?_ | refine okm_orT ?_ | refine okm_andV ?_ | refine okm_orV ?_ | refine okm_unE ?_ | refine okm_fnE ?_ | refine okm_lenE ?_ | refine okm_ixE ?_ | refine okm_ptN ?_ | refine okm_ptS ?_ | refine okm_slE ?_ | refine okm_bmE ?_ | refine okm_isiE ?_ | refine okm_itE ?_ | refine okm_itN ?_ | refine okm_it1 ?_ | refine okm_lcM ?_ | refine okm_callP ?_ | refine okm_callM ?_ | refine okm_fz ?_ | refine okm_fzD ?_ | refine okm_lmE ?_ | refine okm_spNE ?_ | refine oks_seq ?_ | refine oks_if ?_ | refine oks_set ?_ | refine oks_asg ?_ | refine oks_sret ?_ | refine oks_sexp ?_ | refine oks_snx ?_ | refine oks_for ?_ | refine oks_aug ?_ | refine oks_augS ?_ | refine oks_raise ?_ | refine okm_bnd ?_)
        | ((with_reducible apply okm_vr); (· rfl))
        | ((with_reducible apply okm_tupE); (· rfl); (· rfl)) | ((with_reducible apply okm_lstE); (· rfl); (· rfl)) | ((with_reducible apply okm_lstN); (· rfl))
        | ((with_reducible apply op_rfl); (· rfl); (· rfl); (· rfl)) | ((with_reducible apply o1_rfl); (· rfl); (· rfl)) | ((with_reducible apply of_rfl); (· rfl); (· rfl))
        | (with_reducible refine wp_t ?_) | (with_reducible refine wp_f ?_) | (with_reducible refine wp_nt ?_) | (with_reducible refine wp_nf ?_)
        | ((with_reducible apply ex_t); (· rfl)) | ((with_reducible apply ex_f); (· rfl))
        | ((with_reducible apply ex_and4); (· rfl); (· rfl); (· rfl)) | ((with_reducible apply ex_and3); (· rfl); (· rfl)) | ((with_reducible apply ex_and2); (· rfl)) | ((with_reducible apply ex_and); (· rfl))
        | ((with_reducible apply isT_and); (· rfl)) | ((with_reducible apply ex_bm); (· rfl); (· rfl); (· rfl))
        | dsimp only)
      refine op_mod (by omega) ?_
      repeat (first
        | (with_reducible first | refine okm_ret ?_ | refine okm_cn ?_ | refine okm_op2 ?_ | refine okm_tst ?_ | refine okm_ifE ?_ | refine okm_mnil ?_ | refine okm_mcons ?_ | refine okm_notT ?_ | refine okm_notV ?_ | refine okm_chain ?_ | refine okm_andT ?_ | refine okm_orT ?_ | refine okm_andV ?_ | refine okm_orV ?_ | refine okm_unE ?_ | refine okm_fnE ?_ | refine okm_lenE ?_ | refine okm_ixE ?_ | refine okm_ptN ?_ | refine okm_ptS ?_ | refine okm_slE ?_ | refine okm_bmE ?_ | refine okm_isiE ?_ | refine okm_itE ?_ | refine okm_itN ?_ | refine okm_it1 ?_ | refine okm_lcM ?_ | refine okm_callP ?_ | refine okm_callM ?_ | refine okm_fz ?_ | refine okm_fzD ?_ | refine okm_lmE ?_ | refine okm_spNE ?_ | refine oks_seq ?_ | refine oks_if ?_ | refine oks_set ?_ | refine oks_asg ?_ | refine oks_sret ?_ | refine oks_sexp ?_ | refine oks_snx ?_ | refine oks_for ?_ | refine oks_aug ?_ | refine oks_augS ?_ | refine oks_raise ?_ | refine okm_bnd ?_)
        | ((with_reducible apply okm_vr); (· rfl))
        | ((with_reducible apply okm_tupE); (· rfl); (· rfl)) | ((with_reducible apply okm_lstE); (· rfl); (· rfl)) | ((with_reducible apply okm_lstN); (· rfl))
        | ((with_reducible apply op_rfl); (· rfl); (· rfl); (· rfl)) | ((with_reducible apply o1_rfl); (· rfl); (· rfl)) | ((with_reducible apply of_rfl); (· rfl); (· rfl))
        | (with_reducible refine wp_t ?_) | (with_reducible refine wp_f ?_) | (with_reducible refine wp_nt ?_) | (with_reducible refine wp_nf ?_)
        | ((with_reducible apply ex_t); (· rfl)) | ((with_reducible apply ex_f); (· rfl))
        | ((with_reducible apply ex_and4); (· rfl); (· rfl); (· rfl)) | ((with_reducible apply ex_and3); (· rfl); (· rfl)) | ((with_reducible apply ex_and2); (· rfl)) | ((with_reducible apply ex_and); (· rfl))
        | ((with_reducible apply isT_and); (· rfl)) | ((with_reducible apply ex_bm); (· rfl); (· rfl); (· rfl))
        | dsimp only)
      refine ⟨by rw [List.length_set], hd ⟨_, (fmod_pos hm).1, (fmod_pos hm).2, rfl, rfl⟩⟩
  obtain ⟨x, h', e, hl', z, h1, h2, rfl, rfl⟩ := key
  exact ⟨z, h1, h2, e⟩
theorem pick_ok {ns : List Int} (hl : ns.length ≤ 63) (hb : ∀ z ∈ ns, Builtin.Int.intBits z ≤ 1048576) {n : Nat} (hn : n < 1000000000) {h : Hea} {k : Nat} (hk : h[k]? = some (Dr ns n)) {ds : List D} (hd0 : ds ≠ []) :
    ∃ d ∈ ds, f__law_pick [.loc k, .d (.lst ds)] h = some (.ok (.d d) (h.set k (Dr ns (n + 1)))) := by
  have hlen : 0 < (ds.length : Int) := by
    cases ds with
    | nil => exact absurd rfl hd0
    | cons _ _ => rw [List.length_cons]; omega
  obtain ⟨z, h1, h2, e⟩ := take_ok hl hb hn hk hlen
  have hi : z.toNat < ds.length := by omega
  have key : ∃ x h', fnM 2 b__law_pick [.loc k, .d (.lst ds)] h = some (.ok (.d x) h') ∧ h'.length = h.length ∧ Hd (x = ds[z.toNat] ∧ h' = h.set k (Dr ns (n + 1))) := by
    refine fnM_keep ?_
    show OkS b__law_pick [some (.loc k), some (.d (.lst ds))] h _
    unfold b__law_pick
    repeat (first
      | (with_reducible first | refine okm_ret ?_ | refine okm_cn ?_ | refine okm_op2 ?_ | refine okm_tst ?_ | refine okm_ifE ?_ | refine okm_mnil ?_ | refine okm_mcons ?_ | refine okm_notT ?_ | refine okm_notV ?_ | refine okm_chain ?_ | refine okm_andT ?_ | refine okm_orT ?_ | refine okm_andV ?_ | refine okm_orV ?_ | refine okm_unE ?_ | refine okm_fnE ?_ | refine okm_lenE ?_ | refine okm_ixE ?_ | refine okm_ptN ?_ | refine okm_ptS ?_ | refine okm_slE ?_ | refine okm_bmE ?_ | refine okm_isiE ?_ | refine okm_itE ?_ | refine okm_itN ?_ | refine okm_it1 ?_ | refine okm_lcM ?_ | refine okm_callP ?_ | refine okm_callM ?_ | refine okm_fz ?_ | refine okm_fzD ?_ | refine okm_lmE ?_ | refine okm_spNE ?_ | refine oks_seq ?_ | refine oks_if ?_ | refine oks_set ?_ | refine oks_asg ?_ | refine oks_sret ?_ | refine oks_sexp ?_ | refine oks_snx ?_ | refine oks_for ?_ | refine oks_aug ?_ | refine oks_augS ?_ | refine oks_raise ?_ | refine okm_bnd ?_)
      | ((with_reducible apply okm_vr); (· rfl))
      | ((with_reducible apply okm_tupE); (· rfl); (· rfl)) | ((with_reducible apply okm_lstE); (· rfl); (· rfl)) | ((with_reducible apply okm_lstN); (· rfl))
      | ((with_reducible apply op_rfl); (· rfl); (· rfl); (· rfl)) | ((with_reducible apply o1_rfl); (· rfl); (· rfl)) | ((with_reducible apply of_rfl); (· rfl); (· rfl))
      | (with_reducible refine wp_t ?_) | (with_reducible refine wp_f ?_) | (with_reducible refine wp_nt ?_) | (with_reducible refine wp_nf ?_)
      | ((with_reducible apply ex_t); (· rfl)) | ((with_reducible apply ex_f); (· rfl))
      | ((with_reducible apply ex_and4); (· rfl); (· rfl); (· rfl)) | ((with_reducible apply ex_and3); (· rfl); (· rfl)) | ((with_reducible apply ex_and2); (· rfl)) | ((with_reducible apply ex_and); (· rfl))
      | ((with_reducible apply isT_and); (· rfl)) | ((with_reducible apply ex_bm); (· rfl); (· rfl); (· rfl))
      | dsimp only)
    refine ⟨rfl, _, _, e, ?_⟩
    have he : atI ds z = some ds[z.toNat] := by
      have q := atI_nat (xs := ds) (j := z.toNat) (v := ds[z.toNat]) (List.getElem?_eq_getElem hi)
      rw [Int.toNat_of_nonneg h1] at q
      exact q
    refine ⟨_, congrArg (Option.map U.d) he, ?_⟩
    repeat (first
      | (with_reducible first | refine okm_ret ?_ | refine okm_cn ?_ | refine okm_op2 ?_ | refine okm_tst ?_ | refine okm_ifE ?_ | refine okm_mnil ?_ | refine okm_mcons ?_ | refine okm_notT ?_ | refine okm_notV ?_ | refine okm_chain ?_ | refine okm_andT ?_ | refine okm_orT ?_ | refine okm_andV ?_ | refine okm_orV ?_ | refine okm_unE ?_ | refine okm_fnE ?_ | refine okm_lenE ?_ | refine okm_ixE ?_ | refine okm_ptN ?_ | refine okm_ptS ?_ | refine okm_slE ?_ | refine okm_bmE ?_ | refine okm_isiE ?_ | refine okm_itE ?_ | refine okm_itN ?_ | refine okm_it1 ?_ | refine okm_lcM ?_ | refine okm_callP ?_ | refine okm_callM ?_ | refine okm_fz ?_ | refine okm_fzD ?_ | refine okm_lmE ?_ | refine okm_spNE ?_ | refine oks_seq ?_ | refine oks_if ?_ | refine oks_set ?_ | refine oks_asg ?_ | refine oks_sret ?_ | refine oks_sexp ?_ | refine oks_snx ?_ | refine oks_for ?_ | refine oks_aug ?_ | refine oks_augS ?_ | refine oks_raise ?_ | refine okm_bnd ?_)
      | ((with_reducible apply okm_vr); (· rfl))
      | ((with_reducible apply okm_tupE); (· rfl); (· rfl)) | ((with_reducible apply okm_lstE); (· rfl); (· rfl)) | ((with_reducible apply okm_lstN); (· rfl))
      | ((with_reducible apply op_rfl); (· rfl); (· rfl); (· rfl)) | ((with_reducible apply o1_rfl); (· rfl); (· rfl)) | ((with_reducible apply of_rfl); (· rfl); (· rfl))
      | (with_reducible refine wp_t ?_) | (with_reducible refine wp_f ?_) | (with_reducible refine wp_nt ?_) | (with_reducible refine wp_nf ?_)
      | ((with_reducible apply ex_t); (· rfl)) | ((with_reducible apply ex_f); (· rfl))
      | ((with_reducible apply ex_and4); (· rfl); (· rfl); (· rfl)) | ((with_reducible apply ex_and3); (· rfl); (· rfl)) | ((with_reducible apply ex_and2); (· rfl)) | ((with_reducible apply ex_and); (· rfl))
      | ((with_reducible apply isT_and); (· rfl)) | ((with_reducible apply ex_bm); (· rfl); (· rfl); (· rfl))
      | dsimp only)
    refine ⟨by rw [List.length_set], hd ⟨rfl, rfl⟩⟩
  obtain ⟨x, h', e, hl', rfl, rfl⟩ := key
  exact ⟨_, List.getElem_mem hi, e⟩
def WN (w : Str) (b : Bool) : Prop := ∃ hh, f_is_name [.d (.str w)] [] = some (.ok (.d (.bl b)) hh)
def WS (w : Str) (b : Bool) : Prop := ∃ hh, f_is_small_number [.d (.str w)] [] = some (.ok (.d (.bl b)) hh)
/-- what is_right is at a place -/
def WA (i : Nat) (w : Str) (b : Bool) : Prop := if i = 0 then WN w b else WS w b
def bdBad (a b : Int) : Exn := ⟨"BadText", [("column", .int b), ("line", .int a)]⟩
def inBody : S := (sseq (sasg (ifE (tst (op2 pEq (vr 8) (cn (.int 0)))) (callP 1 f_is_name (mcons (vr 9) mnil)) (callP 1 f_is_small_number (mcons (vr 9) mnil))) (gnm 10))
 (sif (orT (notT (tst (vr 10))) (tst (op2 pGt (vr 8) (op2 pAdd (vr 1) (cn (.int 1)))))) (sraise "BadText" ["line", "column"] (mcons (op2 pAdd (vr 4) (cn (.int 1))) (mcons (op2 pAdd (vr 8) (cn (.int 1))) mnil))) snx))
theorem in_first {t f l li wo nu r : Option U} {h : Hea} {m a : Int} {i : Nat} {w : Str} {b : Bool} (hw : WA i w b) {Q : Out → Prop} {s : S}
    (k : OkS s [t, some (.d (.int m)), f, l, some (.d (.int a)), li, wo, nu, some (.d (.int i)), some (.d (.str w)), some (.d (.bl b))] h Q) :
    OkS (sseq (sasg (ifE (tst (op2 pEq (vr 8) (cn (.int 0)))) (callP 1 f_is_name (mcons (vr 9) mnil)) (callP 1 f_is_small_number (mcons (vr 9) mnil))) (gnm 10)) s) [t, some (.d (.int m)), f, l, some (.d (.int a)), li, wo, nu, some (.d (.int i)), some (.d (.str w)), r] h Q := by
  repeat (first
    | (with_reducible first | refine okm_ret ?_ | refine okm_cn ?_ | refine okm_op2 ?_ | refine okm_tst ?_ | refine okm_ifE ?_ | refine okm_mnil ?_ | refine okm_mcons ?_ | refine okm_notT ?_ | refine okm_notV ?_ | refine okm_chain ?_ | refine okm_andT ?_ | refine okm_orT ?_ | refine okm_andV ?_ | refine okm_orV ?_ | refine okm_unE ?_ | refine okm_fnE ?_ | refine okm_lenE ?_ | refine okm_ixE ?_ | refine okm_ptN ?_ | refine okm_ptS ?_ | refine okm_slE ?_ | refine okm_bmE ?_ | refine okm_isiE ?_ | refine okm_itE ?_ | refine okm_itN ?_ | refine okm_it1 ?_ | refine okm_lcM ?_ | refine okm_callP ?_ | refine okm_callM ?_ | refine okm_fz ?_ | refine okm_fzD ?_ | refine okm_lmE ?_ | refine okm_spNE ?_ | refine oks_seq ?_ | refine oks_if ?_ | refine oks_set ?_ | refine oks_asg ?_ | refine oks_sret ?_ | refine oks_sexp ?_ | refine oks_snx ?_ | refine oks_for ?_ | refine oks_aug ?_ | refine oks_augS ?_ | refine oks_raise ?_ | refine okm_bnd ?_)
    | ((with_reducible apply okm_vr); (· rfl))
    | ((with_reducible apply okm_tupE); (· rfl); (· rfl)) | ((with_reducible apply okm_lstE); (· rfl); (· rfl)) | ((with_reducible apply okm_lstN); (· rfl))
    | ((with_reducible apply op_rfl); (· rfl); (· rfl); (· rfl)) | ((with_reducible apply o1_rfl); (· rfl); (· rfl)) | ((with_reducible apply of_rfl); (· rfl); (· rfl))
    | (with_reducible refine wp_t ?_) | (with_reducible refine wp_f ?_) | (with_reducible refine wp_nt ?_) | (with_reducible refine wp_nf ?_)
    | ((with_reducible apply ex_t); (· rfl)) | ((with_reducible apply ex_f); (· rfl))
    | ((with_reducible apply ex_and4); (· rfl); (· rfl); (· rfl)) | ((with_reducible apply ex_and3); (· rfl); (· rfl)) | ((with_reducible apply ex_and2); (· rfl)) | ((with_reducible apply ex_and); (· rfl))
    | ((with_reducible apply isT_and); (· rfl)) | ((with_reducible apply ex_bm); (· rfl); (· rfl); (· rfl))
    | dsimp only)
  refine ⟨fun e => ?_, fun e => ?_⟩
  · have e0 : i = 0 := by
      have := of_decide_eq_true e
      omega
    unfold WA at hw
    rw [if_pos e0] at hw
    obtain ⟨hh, e1⟩ := hw
    repeat (first
      | (with_reducible first | refine okm_ret ?_ | refine okm_cn ?_ | refine okm_op2 ?_ | refine okm_tst ?_ | refine okm_ifE ?_ | refine okm_mnil ?_ | refine okm_mcons ?_ | refine okm_notT ?_ | refine okm_notV ?_ | refine okm_chain ?_ | refine okm_andT ?_ | refine okm_orT ?_ | refine okm_andV ?_ | refine okm_orV ?_ | refine okm_unE ?_ | refine okm_fnE ?_ | refine okm_lenE ?_ | refine okm_ixE ?_ | refine okm_ptN ?_ | refine okm_ptS ?_ | refine okm_slE ?_ | refine okm_bmE ?_ | refine okm_isiE ?_ | refine okm_itE ?_ | refine okm_itN ?_ | refine okm_it1 ?_ | refine okm_lcM ?_ | refine okm_callP ?_ | refine okm_callM ?_ | refine okm_fz ?_ | refine okm_fzD ?_ | refine okm_lmE ?_ | refine okm_spNE ?_ | refine oks_seq ?_ | refine oks_if ?_ | refine oks_set ?_ | refine oks_asg ?_ | refine oks_sret ?_ | refine oks_sexp ?_ | refine oks_snx ?_ | refine oks_for ?_ | refine oks_aug ?_ | refine oks_augS ?_ | refine oks_raise ?_ | refine okm_bnd ?_)
      | ((with_reducible apply okm_vr); (· rfl))
      | ((with_reducible apply okm_tupE); (· rfl); (· rfl)) | ((with_reducible apply okm_lstE); (· rfl); (· rfl)) | ((with_reducible apply okm_lstN); (· rfl))
      | ((with_reducible apply op_rfl); (· rfl); (· rfl); (· rfl)) | ((with_reducible apply o1_rfl); (· rfl); (· rfl)) | ((with_reducible apply of_rfl); (· rfl); (· rfl))
      | (with_reducible refine wp_t ?_) | (with_reducible refine wp_f ?_) | (with_reducible refine wp_nt ?_) | (with_reducible refine wp_nf ?_)
      | ((with_reducible apply ex_t); (· rfl)) | ((with_reducible apply ex_f); (· rfl))
      | ((with_reducible apply ex_and4); (· rfl); (· rfl); (· rfl)) | ((with_reducible apply ex_and3); (· rfl); (· rfl)) | ((with_reducible apply ex_and2); (· rfl)) | ((with_reducible apply ex_and); (· rfl))
      | ((with_reducible apply isT_and); (· rfl)) | ((with_reducible apply ex_bm); (· rfl); (· rfl); (· rfl))
      | dsimp only)
    exact ⟨rfl, _, _, hh, rfl, e1, k⟩
  · have e0 : i ≠ 0 := by
      have := of_decide_eq_false e
      omega
    unfold WA at hw
    rw [if_neg e0] at hw
    obtain ⟨hh, e1⟩ := hw
    repeat (first
      | (with_reducible first | refine okm_ret ?_ | refine okm_cn ?_ | refine okm_op2 ?_ | refine okm_tst ?_ | refine okm_ifE ?_ | refine okm_mnil ?_ | refine okm_mcons ?_ | refine okm_notT ?_ | refine okm_notV ?_ | refine okm_chain ?_ | refine okm_andT ?_ | refine okm_orT ?_ | refine okm_andV ?_ | refine okm_orV ?_ | refine okm_unE ?_ | refine okm_fnE ?_ | refine okm_lenE ?_ | refine okm_ixE ?_ | refine okm_ptN ?_ | refine okm_ptS ?_ | refine okm_slE ?_ | refine okm_bmE ?_ | refine okm_isiE ?_ | refine okm_itE ?_ | refine okm_itN ?_ | refine okm_it1 ?_ | refine okm_lcM ?_ | refine okm_callP ?_ | refine okm_callM ?_ | refine okm_fz ?_ | refine okm_fzD ?_ | refine okm_lmE ?_ | refine okm_spNE ?_ | refine oks_seq ?_ | refine oks_if ?_ | refine oks_set ?_ | refine oks_asg ?_ | refine oks_sret ?_ | refine oks_sexp ?_ | refine oks_snx ?_ | refine oks_for ?_ | refine oks_aug ?_ | refine oks_augS ?_ | refine oks_raise ?_ | refine okm_bnd ?_)
      | ((with_reducible apply okm_vr); (· rfl))
      | ((with_reducible apply okm_tupE); (· rfl); (· rfl)) | ((with_reducible apply okm_lstE); (· rfl); (· rfl)) | ((with_reducible apply okm_lstN); (· rfl))
      | ((with_reducible apply op_rfl); (· rfl); (· rfl); (· rfl)) | ((with_reducible apply o1_rfl); (· rfl); (· rfl)) | ((with_reducible apply of_rfl); (· rfl); (· rfl))
      | (with_reducible refine wp_t ?_) | (with_reducible refine wp_f ?_) | (with_reducible refine wp_nt ?_) | (with_reducible refine wp_nf ?_)
      | ((with_reducible apply ex_t); (· rfl)) | ((with_reducible apply ex_f); (· rfl))
      | ((with_reducible apply ex_and4); (· rfl); (· rfl); (· rfl)) | ((with_reducible apply ex_and3); (· rfl); (· rfl)) | ((with_reducible apply ex_and2); (· rfl)) | ((with_reducible apply ex_and); (· rfl))
      | ((with_reducible apply isT_and); (· rfl)) | ((with_reducible apply ex_bm); (· rfl); (· rfl); (· rfl))
      | dsimp only)
    exact ⟨rfl, _, _, hh, rfl, e1, k⟩
theorem in_good {t f l li wo nu r : Option U} {h : Hea} {m a : Int} {i : Nat} {w : Str} (hw : WA i w true) (hi : (i : Int) ≤ m + 1) :
    OkS inBody [t, some (.d (.int m)), f, l, some (.d (.int a)), li, wo, nu, some (.d (.int i)), some (.d (.str w)), r] h fun o => o = .nx [t, some (.d (.int m)), f, l, some (.d (.int a)), li, wo, nu, some (.d (.int i)), some (.d (.str w)), some (.d (.bl true))] h := by
  refine in_first hw ?_
  repeat (first
    | (with_reducible first | refine okm_ret ?_ | refine okm_cn ?_ | refine okm_op2 ?_ | refine okm_tst ?_ | refine okm_ifE ?_ | refine okm_mnil ?_ | refine okm_mcons ?_ | refine okm_notT ?_ | refine okm_notV ?_ | refine okm_chain ?_ | refine okm_andT ?_ | refine okm_orT ?_ | refine okm_andV ?_ | refine okm_orV ?_ | refine okm_unE ?_ | refine okm_fnE ?_ | refine okm_lenE ?_ | refine okm_ixE ?_ | refine okm_ptN ?_ | refine okm_ptS ?_ | refine okm_slE ?_ | refine okm_bmE ?_ | refine okm_isiE ?_ | refine okm_itE ?_ | refine okm_itN ?_ | refine okm_it1 ?_ | refine okm_lcM ?_ | refine okm_callP ?_ | refine okm_callM ?_ | refine okm_fz ?_ | refine okm_fzD ?_ | refine okm_lmE ?_ | refine okm_spNE ?_ | refine oks_seq ?_ | refine oks_if ?_ | refine oks_set ?_ | refine oks_asg ?_ | refine oks_sret ?_ | refine oks_sexp ?_ | refine oks_snx ?_ | refine oks_for ?_ | refine oks_aug ?_ | refine oks_augS ?_ | refine oks_raise ?_ | refine okm_bnd ?_)
    | ((with_reducible apply okm_vr); (· rfl))
    | ((with_reducible apply okm_tupE); (· rfl); (· rfl)) | ((with_reducible apply okm_lstE); (· rfl); (· rfl)) | ((with_reducible apply okm_lstN); (· rfl))
    | ((with_reducible apply op_rfl); (· rfl); (· rfl); (· rfl)) | ((with_reducible apply o1_rfl); (· rfl); (· rfl)) | ((with_reducible apply of_rfl); (· rfl); (· rfl))
    | (with_reducible refine wp_t ?_) | (with_reducible refine wp_f ?_) | (with_reducible refine wp_nt ?_) | (with_reducible refine wp_nf ?_)
    | ((with_reducible apply ex_t); (· rfl)) | ((with_reducible apply ex_f); (· rfl))
    | ((with_reducible apply ex_and4); (· rfl); (· rfl); (· rfl)) | ((with_reducible apply ex_and3); (· rfl); (· rfl)) | ((with_reducible apply ex_and2); (· rfl)) | ((with_reducible apply ex_and); (· rfl))
    | ((with_reducible apply isT_and); (· rfl)) | ((with_reducible apply ex_bm); (· rfl); (· rfl); (· rfl))
    | dsimp only)
  refine ⟨fun z => ?_, fun z => ?_⟩
  · have := of_decide_eq_true z
    omega
  · repeat (first
    | (with_reducible first | refine okm_ret ?_ | refine okm_cn ?_ | refine okm_op2 ?_ | refine okm_tst ?_ | refine okm_ifE ?_ | refine okm_mnil ?_ | refine okm_mcons ?_ | refine okm_notT ?_ | refine okm_notV ?_ | refine okm_chain ?_ | refine okm_andT ?_ | refine okm_orT ?_ | refine okm_andV ?_ | refine okm_orV ?_ | refine okm_unE ?_ | refine okm_fnE ?_ | refine okm_lenE ?_ | refine okm_ixE ?_ | refine okm_ptN ?_ | refine okm_ptS ?_ | refine okm_slE ?_ | refine okm_bmE ?_ | refine okm_isiE ?_ | refine okm_itE ?_ | refine okm_itN ?_ | refine okm_it1 ?_ | refine okm_lcM ?_ | refine okm_callP ?_ | refine okm_callM ?_ | refine okm_fz ?_ | refine okm_fzD ?_ | refine okm_lmE ?_ | refine okm_spNE ?_ | refine oks_seq ?_ | refine oks_if ?_ | refine oks_set ?_ | refine oks_asg ?_ | refine oks_sret ?_ | refine oks_sexp ?_ | refine oks_snx ?_ | refine oks_for ?_ | refine oks_aug ?_ | refine oks_augS ?_ | refine oks_raise ?_ | refine okm_bnd ?_)
    | ((with_reducible apply okm_vr); (· rfl))
    | ((with_reducible apply okm_tupE); (· rfl); (· rfl)) | ((with_reducible apply okm_lstE); (· rfl); (· rfl)) | ((with_reducible apply okm_lstN); (· rfl))
    | ((with_reducible apply op_rfl); (· rfl); (· rfl); (· rfl)) | ((with_reducible apply o1_rfl); (· rfl); (· rfl)) | ((with_reducible apply of_rfl); (· rfl); (· rfl))
    | (with_reducible refine wp_t ?_) | (with_reducible refine wp_f ?_) | (with_reducible refine wp_nt ?_) | (with_reducible refine wp_nf ?_)
    | ((with_reducible apply ex_t); (· rfl)) | ((with_reducible apply ex_f); (· rfl))
    | ((with_reducible apply ex_and4); (· rfl); (· rfl); (· rfl)) | ((with_reducible apply ex_and3); (· rfl); (· rfl)) | ((with_reducible apply ex_and2); (· rfl)) | ((with_reducible apply ex_and); (· rfl))
    | ((with_reducible apply isT_and); (· rfl)) | ((with_reducible apply ex_bm); (· rfl); (· rfl); (· rfl))
    | dsimp only)
theorem in_bad {t f l li wo nu r : Option U} {h : Hea} {m a : Int} {i : Nat} {w : Str} {b : Bool} (hw : WA i w b) (hi : b = false ∨ m + 1 < i) :
    OkS inBody [t, some (.d (.int m)), f, l, some (.d (.int a)), li, wo, nu, some (.d (.int i)), some (.d (.str w)), r] h fun o => ∃ δ h', o = .ex (bdBad (a + 1) (i + 1)) δ h' := by
  refine in_first hw ?_
  cases b with
  | false =>
    repeat (first
      | (with_reducible first | refine okm_ret ?_ | refine okm_cn ?_ | refine okm_op2 ?_ | refine okm_tst ?_ | refine okm_ifE ?_ | refine okm_mnil ?_ | refine okm_mcons ?_ | refine okm_notT ?_ | refine okm_notV ?_ | refine okm_chain ?_ | refine okm_andT ?_ | refine okm_orT ?_ | refine okm_andV ?_ | refine okm_orV ?_ | refine okm_unE ?_ | refine okm_fnE ?_ | refine okm_lenE ?_ | refine okm_ixE ?_ | refine okm_ptN ?_ | refine okm_ptS ?_ | refine okm_slE ?_ | refine okm_bmE ?_ | refine okm_isiE ?_ | refine okm_itE ?_ | refine okm_itN ?_ | refine okm_it1 ?_ | refine okm_lcM ?_ | refine okm_callP ?_ | refine okm_callM ?_ | refine okm_fz ?_ | refine okm_fzD ?_ | refine okm_lmE ?_ | refine okm_spNE ?_ | refine oks_seq ?_ | refine oks_if ?_ | refine oks_set ?_ | refine oks_asg ?_ | refine oks_sret ?_ | refine oks_sexp ?_ | refine oks_snx ?_ | refine oks_for ?_ | refine oks_aug ?_ | refine oks_augS ?_ | refine oks_raise ?_ | refine okm_bnd ?_)
      | ((with_reducible apply okm_vr); (· rfl))
      | ((with_reducible apply okm_tupE); (· rfl); (· rfl)) | ((with_reducible apply okm_lstE); (· rfl); (· rfl)) | ((with_reducible apply okm_lstN); (· rfl))
      | ((with_reducible apply op_rfl); (· rfl); (· rfl); (· rfl)) | ((with_reducible apply o1_rfl); (· rfl); (· rfl)) | ((with_reducible apply of_rfl); (· rfl); (· rfl))
      | (with_reducible refine wp_t ?_) | (with_reducible refine wp_f ?_) | (with_reducible refine wp_nt ?_) | (with_reducible refine wp_nf ?_)
      | ((with_reducible apply ex_t); (· rfl)) | ((with_reducible apply ex_f); (· rfl))
      | ((with_reducible apply ex_and4); (· rfl); (· rfl); (· rfl)) | ((with_reducible apply ex_and3); (· rfl); (· rfl)) | ((with_reducible apply ex_and2); (· rfl)) | ((with_reducible apply ex_and); (· rfl))
      | ((with_reducible apply isT_and); (· rfl)) | ((with_reducible apply ex_bm); (· rfl); (· rfl); (· rfl))
      | dsimp only)
    exact ⟨rfl, by decide, _, _, rfl⟩
  | true =>
    have hi : m + 1 < i := by
      rcases hi with z | z
      · cases z
      · exact z
    repeat (first
      | (with_reducible first | refine okm_ret ?_ | refine okm_cn ?_ | refine okm_op2 ?_ | refine okm_tst ?_ | refine okm_ifE ?_ | refine okm_mnil ?_ | refine okm_mcons ?_ | refine okm_notT ?_ | refine okm_notV ?_ | refine okm_chain ?_ | refine okm_andT ?_ | refine okm_orT ?_ | refine okm_andV ?_ | refine okm_orV ?_ | refine okm_unE ?_ | refine okm_fnE ?_ | refine okm_lenE ?_ | refine okm_ixE ?_ | refine okm_ptN ?_ | refine okm_ptS ?_ | refine okm_slE ?_ | refine okm_bmE ?_ | refine okm_isiE ?_ | refine okm_itE ?_ | refine okm_itN ?_ | refine okm_it1 ?_ | refine okm_lcM ?_ | refine okm_callP ?_ | refine okm_callM ?_ | refine okm_fz ?_ | refine okm_fzD ?_ | refine okm_lmE ?_ | refine okm_spNE ?_ | refine oks_seq ?_ | refine oks_if ?_ | refine oks_set ?_ | refine oks_asg ?_ | refine oks_sret ?_ | refine oks_sexp ?_ | refine oks_snx ?_ | refine oks_for ?_ | refine oks_aug ?_ | refine oks_augS ?_ | refine oks_raise ?_ | refine okm_bnd ?_)
      | ((with_reducible apply okm_vr); (· rfl))
      | ((with_reducible apply okm_tupE); (· rfl); (· rfl)) | ((with_reducible apply okm_lstE); (· rfl); (· rfl)) | ((with_reducible apply okm_lstN); (· rfl))
      | ((with_reducible apply op_rfl); (· rfl); (· rfl); (· rfl)) | ((with_reducible apply o1_rfl); (· rfl); (· rfl)) | ((with_reducible apply of_rfl); (· rfl); (· rfl))
      | (with_reducible refine wp_t ?_) | (with_reducible refine wp_f ?_) | (with_reducible refine wp_nt ?_) | (with_reducible refine wp_nf ?_)
      | ((with_reducible apply ex_t); (· rfl)) | ((with_reducible apply ex_f); (· rfl))
      | ((with_reducible apply ex_and4); (· rfl); (· rfl); (· rfl)) | ((with_reducible apply ex_and3); (· rfl); (· rfl)) | ((with_reducible apply ex_and2); (· rfl)) | ((with_reducible apply ex_and); (· rfl))
      | ((with_reducible apply isT_and); (· rfl)) | ((with_reducible apply ex_bm); (· rfl); (· rfl); (· rfl))
      | dsimp only)
    refine ⟨fun z => ?_, fun z => ?_⟩
    · repeat (first
      | (with_reducible first | refine okm_ret ?_ | refine okm_cn ?_ | refine okm_op2 ?_ | refine okm_tst ?_ | refine okm_ifE ?_ | refine okm_mnil ?_ | refine okm_mcons ?_ | refine okm_notT ?_ | refine okm_notV ?_ | refine okm_chain ?_ | refine okm_andT ?_ | refine okm_orT ?_ | refine okm_andV ?_ | refine okm_orV ?_ | refine okm_unE ?_ | refine okm_fnE ?_ | refine okm_lenE ?_ | refine okm_ixE ?_ | refine okm_ptN ?_ | refine okm_ptS ?_ | refine okm_slE ?_ | refine okm_bmE ?_ | refine okm_isiE ?_ | refine okm_itE ?_ | refine okm_itN ?_ | refine okm_it1 ?_ | refine okm_lcM ?_ | refine okm_callP ?_ | refine okm_callM ?_ | refine okm_fz ?_ | refine okm_fzD ?_ | refine okm_lmE ?_ | refine okm_spNE ?_ | refine oks_seq ?_ | refine oks_if ?_ | refine oks_set ?_ | refine oks_asg ?_ | refine oks_sret ?_ | refine oks_sexp ?_ | refine oks_snx ?_ | refine oks_for ?_ | refine oks_aug ?_ | refine oks_augS ?_ | refine oks_raise ?_ | refine okm_bnd ?_)
      | ((with_reducible apply okm_vr); (· rfl))
      | ((with_reducible apply okm_tupE); (· rfl); (· rfl)) | ((with_reducible apply okm_lstE); (· rfl); (· rfl)) | ((with_reducible apply okm_lstN); (· rfl))
      | ((with_reducible apply op_rfl); (· rfl); (· rfl); (· rfl)) | ((with_reducible apply o1_rfl); (· rfl); (· rfl)) | ((with_reducible apply of_rfl); (· rfl); (· rfl))
      | (with_reducible refine wp_t ?_) | (with_reducible refine wp_f ?_) | (with_reducible refine wp_nt ?_) | (with_reducible refine wp_nf ?_)
      | ((with_reducible apply ex_t); (· rfl)) | ((with_reducible apply ex_f); (· rfl))
      | ((with_reducible apply ex_and4); (· rfl); (· rfl); (· rfl)) | ((with_reducible apply ex_and3); (· rfl); (· rfl)) | ((with_reducible apply ex_and2); (· rfl)) | ((with_reducible apply ex_and); (· rfl))
      | ((with_reducible apply isT_and); (· rfl)) | ((with_reducible apply ex_bm); (· rfl); (· rfl); (· rfl))
      | dsimp only)
      exact ⟨rfl, by decide, _, _, rfl⟩
    · have := of_decide_eq_false z
      omega
/-- the words of a row, one behind the other -/
def inTgt : G := gtup 2 (gcons (gnm 8) (gcons (gnm 9) gnil))
theorem in_loop {t f l li wo nu : Option U} {h : Hea} {m a : Int} : ∀ (ws : List Str) (i : Nat) (p w r : Option U), (∀ j w, ws[j]? = some w → WA (i + j) w true) → (i + ws.length : Int) ≤ m + 2 →
    OkS (forL inTgt inBody (enumD i (ws.map .str))) [t, some (.d (.int m)), f, l, some (.d (.int a)), li, wo, nu, p, w, r] h fun o => ∃ p w r, o = .nx [t, some (.d (.int m)), f, l, some (.d (.int a)), li, wo, nu, p, w, r] h
  | [], i, p, w, r, _, _ => ⟨_, rfl, p, w, r, rfl⟩
  | x :: ws, i, p, w, r, hw, hl => by
    have h0 := hw 0 x rfl
    rw [Nat.add_zero] at h0
    obtain ⟨o, e, rfl⟩ := in_good (t := t) (f := f) (l := l) (li := li) (wo := wo) (nu := nu) (r := r) (h := h) (m := m) (a := a) h0 (by rw [List.length_cons] at hl; omega)
    obtain ⟨o, e2, p', w', r', rfl⟩ := in_loop (t := t) (f := f) (l := l) (li := li) (wo := wo) (nu := nu) (h := h) (m := m) (a := a) ws (i + 1) (some (.d (.int i))) (some (.d (.str x))) (some (.d (.bl true))) (fun j w hj => by
      have := hw (j + 1) w (by simpa using hj)
      rw [show i + (j + 1) = i + 1 + j by omega] at this
      exact this) (by rw [List.length_cons] at hl; omega)
    refine ⟨_, ?_, p', w', r', rfl⟩
    show forL inTgt inBody (.d (.tup [.int i, .str x]) :: enumD (i + 1) (ws.map .str)) _ _ = _
    have eg : inTgt (.d (.tup [.int i, .str x])) [t, some (.d (.int m)), f, l, some (.d (.int a)), li, wo, nu, p, w, r] h = some ([t, some (.d (.int m)), f, l, some (.d (.int a)), li, wo, nu, some (.d (.int i)), some (.d (.str x)), r], h) := rfl
    unfold forL
    simp only [eg, e]
    exact e2
theorem in_stop {t f l li wo nu : Option U} {h : Hea} {m a : Int} : ∀ (pre : List Str) (x : Str) (post : List Str) (b : Bool) (i : Nat) (p w r : Option U), (∀ j w, pre[j]? = some w → WA (i + j) w true) → (i + pre.length : Int) ≤ m + 2 → WA (i + pre.length) x b → (b = false ∨ m + 1 < (i + pre.length : Nat)) →
    OkS (forL inTgt inBody (enumD i ((pre ++ x :: post).map .str))) [t, some (.d (.int m)), f, l, some (.d (.int a)), li, wo, nu, p, w, r] h fun o => ∃ δ h', o = .ex (bdBad (a + 1) ((i + pre.length : Nat) + 1)) δ h'
  | [], x, post, b, i, p, w, r, _, _, hx, hb => by
    obtain ⟨o, e, δ, h', rfl⟩ := in_bad (t := t) (f := f) (l := l) (li := li) (wo := wo) (nu := nu) (r := r) (h := h) (m := m) (a := a) hx hb
    refine ⟨_, ?_, δ, h', rfl⟩
    show forL inTgt inBody (.d (.tup [.int i, .str x]) :: enumD (i + 1) (post.map .str)) _ _ = _
    have eg : inTgt (.d (.tup [.int i, .str x])) [t, some (.d (.int m)), f, l, some (.d (.int a)), li, wo, nu, p, w, r] h = some ([t, some (.d (.int m)), f, l, some (.d (.int a)), li, wo, nu, some (.d (.int i)), some (.d (.str x)), r], h) := rfl
    unfold forL
    simp only [eg]
    have e' : inBody [t, some (.d (.int m)), f, l, some (.d (.int a)), li, wo, nu, some (.d (.int i)), some (.d (.str x)), r] h = _ := e
    simp only [e']
  | y :: pre, x, post, b, i, p, w, r, hw, hl, hx, hb => by
    have h0 := hw 0 y rfl
    rw [Nat.add_zero] at h0
    obtain ⟨o, e, rfl⟩ := in_good (t := t) (f := f) (l := l) (li := li) (wo := wo) (nu := nu) (r := r) (h := h) (m := m) (a := a) h0 (by rw [List.length_cons] at hl; omega)
    have hs : i + (y :: pre).length = i + 1 + pre.length := by rw [List.length_cons]; omega
    rw [hs] at hx hb
    obtain ⟨o, e2, δ, h', rfl⟩ := in_stop (t := t) (f := f) (l := l) (li := li) (wo := wo) (nu := nu) (h := h) (m := m) (a := a) pre x post b (i + 1) (some (.d (.int i))) (some (.d (.str y))) (some (.d (.bl true))) (fun j w hj => by
      have := hw (j + 1) w (by simpa using hj)
      rw [show i + (j + 1) = i + 1 + j by omega] at this
      exact this) (by rw [List.length_cons] at hl; omega) hx hb
    refine ⟨_, ?_, δ, h', by rw [hs]⟩
    show forL inTgt inBody (.d (.tup [.int i, .str y]) :: enumD (i + 1) ((pre ++ x :: post).map .str)) _ _ = _
    have eg : inTgt (.d (.tup [.int i, .str y])) [t, some (.d (.int m)), f, l, some (.d (.int a)), li, wo, nu, p, w, r] h = some ([t, some (.d (.int m)), f, l, some (.d (.int a)), li, wo, nu, some (.d (.int i)), some (.d (.str y)), r], h) := rfl
    unfold forL
    simp only [eg, e]
    exact e2
/-- a word's number -/
def NumW (w : Str) (k : Int) : Prop := len640 w = true ∧ intText? w = some k
theorem nums_lc {h : Hea} : ∀ {ws : List Str} {ks : List Int} {δ : Sl}, Al2 NumW ws ks → 9 < δ.length → lcL (gnm 9) (mret true) (fnE pInt (mcons (vr 9) mnil)) δ (ws.map fun w => .d (.str w)) h = some (ks.map fun k => .d (.int k), h)
  | _, _, δ, .nil, hd => rfl
  | w :: ws, k :: ks, δ, .cons a b, hd => by
    have ih := nums_lc (h := h) b hd
    have e : fnE pInt (mcons (vr 9) mnil) (δ.set 9 (some (.d (.str w)))) h = some (.ok (.d (.int k)) h) := by
      have e1 : (δ.set 9 (some (.d (.str w))))[9]? = some (some (U.d (.str w))) := List.getElem?_set_self hd
      have key : OkM (fnE pInt (mcons (vr 9) mnil)) (δ.set 9 (some (.d (.str w)))) h fun u h' => u = .d (.int k) ∧ h' = h := by
        refine okm_fnE (okm_mcons (okm_vr e1 (okm_mnil ?_)))
        exact ⟨[.str w], .int k, rfl, by show (if len640 w = true then (intText? w).map D.int else none) = _; rw [if_pos a.1, a.2]; rfl, rfl, rfl⟩
      obtain ⟨u, h', e, rfl, rfl⟩ := key
      exact e
    show lcL _ _ _ _ (.d (.str w) :: ws.map fun w => .d (.str w)) h = _
    unfold lcL
    simp only [gnm, mret, e, ih]
    rfl
/-- what is found of a row -/
def rowD (m : Nat) (w0 : Str) (ks : List Int) : D := .tup [.str w0, .lst ((ks.map D.int).take m), if (m : Int) < ks.length then .int (ks.getD m 0) else .non]
def outBody : S := (sseq (sasg (bmE "str" pSplit (vr 5) (mcons (cn (.str " ")) mnil)) (gnm 6))
 (sseq (sfor (it1 enumL (mcons (vr 6) mnil)) inTgt inBody)
 (sseq (sif (tst (op2 pLt (lenE (mcons (vr 6) mnil)) (op2 pAdd (vr 1) (cn (.int 1))))) (sraise "BadText" ["line", "column"] (mcons (op2 pAdd (vr 4) (cn (.int 1))) (mcons (op2 pAdd (lenE (mcons (vr 6) mnil)) (cn (.int 1))) mnil))) snx)
 (sseq (sasg (lcM (itE seqL (slE (vr 6) (some (cn (.int 1))) none)) [9] (gnm 9) (mret true) (fnE pInt (mcons (vr 9) mnil)) lstF) (gnm 7))
 (sexp (lmE pAppend (vr 2) (mcons (mbnd (mcons (ixE (vr 6) (cn (.int 0))) (mcons (slE (vr 7) none (some (vr 1))) (mcons (ifE (tst (op2 pGt (lenE (mcons (vr 7) mnil)) (vr 1))) (ixE (vr 7) (vr 1)) (cn .non)) mnil))) tupE) mnil)))))))
/-- a line that cuts into the words ws -/
def LnW (line : Str) (ws : List Str) : Prop := len2 line = true ∧ Txt.split line " " = ws
theorem ln_split {line : Str} {ws : List Str} (hl : LnW line ws) : pSplit (.str line) [.str " "] = some (.lst (ws.map .str)) := by
  show (if (!(Str.length " " == 0) && len2 line) = true then some (D.lst ((Txt.split line " ").map .str)) else none) = _
  rw [hl.1, hl.2]
  rfl
theorem out_good {t l wo nu p w r : Option U} {m : Nat} {a : Int} {line w0 : Str} {ws : List Str} {ks : List Int} {found : List U} (hl : LnW line (w0 :: ws)) (hw : ∀ j w, (w0 :: ws)[j]? = some w → WA j w true) (h1 : m ≤ ws.length) (h2 : ws.length ≤ m + 1) (hk : Al2 NumW ws ks) (hm : m ≤ 1) (hf : found.length < 1000) :
    OkS outBody [t, some (.d (.int m)), some (.loc 0), l, some (.d (.int a)), some (.d (.str line)), wo, nu, p, w, r] [.lst found] fun o => ∃ wo nu p w r, o = .nx [t, some (.d (.int m)), some (.loc 0), l, some (.d (.int a)), some (.d (.str line)), wo, nu, p, w, r] [.lst (found ++ [.d (rowD m w0 ks)])] := by
  have hkl := hk.length
  refine oks_cut (fun δ h => δ = [t, some (.d (.int m)), some (.loc 0), l, some (.d (.int a)), some (.d (.str line)), some (.d (.lst ((w0 :: ws).map .str))), nu, p, w, r] ∧ h = [.lst found]) ?_ ?_
  · repeat (first
    | (with_reducible first | refine okm_ret ?_ | refine okm_cn ?_ | refine okm_op2 ?_ | refine okm_tst ?_ | refine okm_ifE ?_ | refine okm_mnil ?_ | refine okm_mcons ?_ | refine okm_notT ?_ | refine okm_notV ?_ | refine okm_chain ?_ | refine okm_andT ?_ | refine okm_orT ?_ | refine okm_andV ?_ | refine okm_orV ?_ | refine okm_unE ?_ | refine okm_fnE ?_ | refine okm_lenE ?_ | refine okm_ixE ?_ | refine okm_ptN ?_ | refine okm_ptS ?_ | refine okm_slE ?_ | refine okm_bmE ?_ | refine okm_isiE ?_ | refine okm_itE ?_ | refine okm_itN ?_ | refine okm_it1 ?_ | refine okm_lcM ?_ | refine okm_callP ?_ | refine okm_callM ?_ | refine okm_fz ?_ | refine okm_fzD ?_ | refine okm_lmE ?_ | refine okm_spNE ?_ | refine oks_seq ?_ | refine oks_if ?_ | refine oks_set ?_ | refine oks_asg ?_ | refine oks_sret ?_ | refine oks_sexp ?_ | refine oks_snx ?_ | refine oks_for ?_ | refine oks_aug ?_ | refine oks_augS ?_ | refine oks_raise ?_ | refine okm_bnd ?_)
    | ((with_reducible apply okm_vr); (· rfl))
    | ((with_reducible apply okm_tupE); (· rfl); (· rfl)) | ((with_reducible apply okm_lstE); (· rfl); (· rfl)) | ((with_reducible apply okm_lstN); (· rfl))
    | ((with_reducible apply op_rfl); (· rfl); (· rfl); (· rfl)) | ((with_reducible apply o1_rfl); (· rfl); (· rfl)) | ((with_reducible apply of_rfl); (· rfl); (· rfl))
    | (with_reducible refine wp_t ?_) | (with_reducible refine wp_f ?_) | (with_reducible refine wp_nt ?_) | (with_reducible refine wp_nf ?_)
    | ((with_reducible apply ex_t); (· rfl)) | ((with_reducible apply ex_f); (· rfl))
    | ((with_reducible apply ex_and4); (· rfl); (· rfl); (· rfl)) | ((with_reducible apply ex_and3); (· rfl); (· rfl)) | ((with_reducible apply ex_and2); (· rfl)) | ((with_reducible apply ex_and); (· rfl))
    | ((with_reducible apply isT_and); (· rfl)) | ((with_reducible apply ex_bm); (· rfl); (· rfl); (· rfl))
    | dsimp only)
    exact ⟨_, _, _, rfl, rfl, ln_split hl, _, _, rfl, rfl, rfl⟩
  rintro δ h ⟨rfl, rfl⟩
  refine oks_cut (fun δ h => h = [.lst found] ∧ Hd (∃ p w r, δ = [t, some (.d (.int m)), some (.loc 0), l, some (.d (.int a)), some (.d (.str line)), some (.d (.lst ((w0 :: ws).map .str))), nu, p, w, r])) ?_ ?_
  · repeat (first
    | (with_reducible first | refine okm_ret ?_ | refine okm_cn ?_ | refine okm_op2 ?_ | refine okm_tst ?_ | refine okm_ifE ?_ | refine okm_mnil ?_ | refine okm_mcons ?_ | refine okm_notT ?_ | refine okm_notV ?_ | refine okm_chain ?_ | refine okm_andT ?_ | refine okm_orT ?_ | refine okm_andV ?_ | refine okm_orV ?_ | refine okm_unE ?_ | refine okm_fnE ?_ | refine okm_lenE ?_ | refine okm_ixE ?_ | refine okm_ptN ?_ | refine okm_ptS ?_ | refine okm_slE ?_ | refine okm_bmE ?_ | refine okm_isiE ?_ | refine okm_itE ?_ | refine okm_itN ?_ | refine okm_it1 ?_ | refine okm_lcM ?_ | refine okm_callP ?_ | refine okm_callM ?_ | refine okm_fz ?_ | refine okm_fzD ?_ | refine okm_lmE ?_ | refine okm_spNE ?_ | refine oks_seq ?_ | refine oks_if ?_ | refine oks_set ?_ | refine oks_asg ?_ | refine oks_sret ?_ | refine oks_sexp ?_ | refine oks_snx ?_ | refine oks_for ?_ | refine oks_aug ?_ | refine oks_augS ?_ | refine oks_raise ?_ | refine okm_bnd ?_)
    | ((with_reducible apply okm_vr); (· rfl))
    | ((with_reducible apply okm_tupE); (· rfl); (· rfl)) | ((with_reducible apply okm_lstE); (· rfl); (· rfl)) | ((with_reducible apply okm_lstN); (· rfl))
    | ((with_reducible apply op_rfl); (· rfl); (· rfl); (· rfl)) | ((with_reducible apply o1_rfl); (· rfl); (· rfl)) | ((with_reducible apply of_rfl); (· rfl); (· rfl))
    | (with_reducible refine wp_t ?_) | (with_reducible refine wp_f ?_) | (with_reducible refine wp_nt ?_) | (with_reducible refine wp_nf ?_)
    | ((with_reducible apply ex_t); (· rfl)) | ((with_reducible apply ex_f); (· rfl))
    | ((with_reducible apply ex_and4); (· rfl); (· rfl); (· rfl)) | ((with_reducible apply ex_and3); (· rfl); (· rfl)) | ((with_reducible apply ex_and2); (· rfl)) | ((with_reducible apply ex_and); (· rfl))
    | ((with_reducible apply isT_and); (· rfl)) | ((with_reducible apply ex_bm); (· rfl); (· rfl); (· rfl))
    | dsimp only)
    have q := in_loop (t := t) (f := some (.loc 0)) (l := l) (li := some (.d (.str line))) (wo := some (.d (.lst ((w0 :: ws).map .str)))) (nu := nu) (h := [.lst found]) (m := m) (a := a) (w0 :: ws) 0 p w r (fun j w hj => by
      rw [Nat.zero_add]
      exact hw j w hj) (by rw [List.length_cons]; omega)
    refine q.imp fun o ⟨p', w', r', e⟩ => ?_
    exact ⟨_, _, e, rfl, hd ⟨p', w', r', rfl⟩⟩
  rintro δ h ⟨rfl, p, w, r, rfl⟩
  refine oks_cut (fun δ h => δ = [t, some (.d (.int m)), some (.loc 0), l, some (.d (.int a)), some (.d (.str line)), some (.d (.lst ((w0 :: ws).map .str))), nu, p, w, r] ∧ h = [.lst found]) ?_ ?_
  · repeat (first
    | (with_reducible first | refine okm_ret ?_ | refine okm_cn ?_ | refine okm_op2 ?_ | refine okm_tst ?_ | refine okm_ifE ?_ | refine okm_mnil ?_ | refine okm_mcons ?_ | refine okm_notT ?_ | refine okm_notV ?_ | refine okm_chain ?_ | refine okm_andT ?_ | refine okm_orT ?_ | refine okm_andV ?_ | refine okm_orV ?_ | refine okm_unE ?_ | refine okm_fnE ?_ | refine okm_lenE ?_ | refine okm_ixE ?_ | refine okm_ptN ?_ | refine okm_ptS ?_ | refine okm_slE ?_ | refine okm_bmE ?_ | refine okm_isiE ?_ | refine okm_itE ?_ | refine okm_itN ?_ | refine okm_it1 ?_ | refine okm_lcM ?_ | refine okm_callP ?_ | refine okm_callM ?_ | refine okm_fz ?_ | refine okm_fzD ?_ | refine okm_lmE ?_ | refine okm_spNE ?_ | refine oks_seq ?_ | refine oks_if ?_ | refine oks_set ?_ | refine oks_asg ?_ | refine oks_sret ?_ | refine oks_sexp ?_ | refine oks_snx ?_ | refine oks_for ?_ | refine oks_aug ?_ | refine oks_augS ?_ | refine oks_raise ?_ | refine okm_bnd ?_)
    | ((with_reducible apply okm_vr); (· rfl))
    | ((with_reducible apply okm_tupE); (· rfl); (· rfl)) | ((with_reducible apply okm_lstE); (· rfl); (· rfl)) | ((with_reducible apply okm_lstN); (· rfl))
    | ((with_reducible apply op_rfl); (· rfl); (· rfl); (· rfl)) | ((with_reducible apply o1_rfl); (· rfl); (· rfl)) | ((with_reducible apply of_rfl); (· rfl); (· rfl))
    | (with_reducible refine wp_t ?_) | (with_reducible refine wp_f ?_) | (with_reducible refine wp_nt ?_) | (with_reducible refine wp_nf ?_)
    | ((with_reducible apply ex_t); (· rfl)) | ((with_reducible apply ex_f); (· rfl))
    | ((with_reducible apply ex_and4); (· rfl); (· rfl); (· rfl)) | ((with_reducible apply ex_and3); (· rfl); (· rfl)) | ((with_reducible apply ex_and2); (· rfl)) | ((with_reducible apply ex_and); (· rfl))
    | ((with_reducible apply isT_and); (· rfl)) | ((with_reducible apply ex_bm); (· rfl); (· rfl); (· rfl))
    | dsimp only)
    refine ⟨fun z => ?_, fun z => ?_⟩
    · have z := of_decide_eq_true z
      rw [List.length_map, List.length_cons] at z
      omega
    · repeat (first
      | (with_reducible first | refine okm_ret ?_ | refine okm_cn ?_ | refine okm_op2 ?_ | refine okm_tst ?_ | refine okm_ifE ?_ | refine okm_mnil ?_ | refine okm_mcons ?_ | refine okm_notT ?_ | refine okm_notV ?_ | refine okm_chain ?_ | refine okm_andT ?_ | refine okm_orT ?_ | refine okm_andV ?_ | refine okm_orV ?_ | refine okm_unE ?_ | refine okm_fnE ?_ | refine okm_lenE ?_ | refine okm_ixE ?_ | refine okm_ptN ?_ | refine okm_ptS ?_ | refine okm_slE ?_ | refine okm_bmE ?_ | refine okm_isiE ?_ | refine okm_itE ?_ | refine okm_itN ?_ | refine okm_it1 ?_ | refine okm_lcM ?_ | refine okm_callP ?_ | refine okm_callM ?_ | refine okm_fz ?_ | refine okm_fzD ?_ | refine okm_lmE ?_ | refine okm_spNE ?_ | refine oks_seq ?_ | refine oks_if ?_ | refine oks_set ?_ | refine oks_asg ?_ | refine oks_sret ?_ | refine oks_sexp ?_ | refine oks_snx ?_ | refine oks_for ?_ | refine oks_aug ?_ | refine oks_augS ?_ | refine oks_raise ?_ | refine okm_bnd ?_)
      | ((with_reducible apply okm_vr); (· rfl))
      | ((with_reducible apply okm_tupE); (· rfl); (· rfl)) | ((with_reducible apply okm_lstE); (· rfl); (· rfl)) | ((with_reducible apply okm_lstN); (· rfl))
      | ((with_reducible apply op_rfl); (· rfl); (· rfl); (· rfl)) | ((with_reducible apply o1_rfl); (· rfl); (· rfl)) | ((with_reducible apply of_rfl); (· rfl); (· rfl))
      | (with_reducible refine wp_t ?_) | (with_reducible refine wp_f ?_) | (with_reducible refine wp_nt ?_) | (with_reducible refine wp_nf ?_)
      | ((with_reducible apply ex_t); (· rfl)) | ((with_reducible apply ex_f); (· rfl))
      | ((with_reducible apply ex_and4); (· rfl); (· rfl); (· rfl)) | ((with_reducible apply ex_and3); (· rfl); (· rfl)) | ((with_reducible apply ex_and2); (· rfl)) | ((with_reducible apply ex_and); (· rfl))
      | ((with_reducible apply isT_and); (· rfl)) | ((with_reducible apply ex_bm); (· rfl); (· rfl); (· rfl))
      | dsimp only)
  rintro δ h ⟨rfl, rfl⟩
  refine oks_cut (fun δ h => δ = [t, some (.d (.int m)), some (.loc 0), l, some (.d (.int a)), some (.d (.str line)), some (.d (.lst ((w0 :: ws).map .str))), some (.d (.lst (ks.map .int))), p, w, r] ∧ h = [.lst found]) ?_ ?_
  · repeat (first
    | (with_reducible first | refine okm_ret ?_ | refine okm_cn ?_ | refine okm_op2 ?_ | refine okm_tst ?_ | refine okm_ifE ?_ | refine okm_mnil ?_ | refine okm_mcons ?_ | refine okm_notT ?_ | refine okm_notV ?_ | refine okm_chain ?_ | refine okm_andT ?_ | refine okm_orT ?_ | refine okm_andV ?_ | refine okm_orV ?_ | refine okm_unE ?_ | refine okm_fnE ?_ | refine okm_lenE ?_ | refine okm_ixE ?_ | refine okm_ptN ?_ | refine okm_ptS ?_ | refine okm_slE ?_ | refine okm_bmE ?_ | refine okm_isiE ?_ | refine okm_itE ?_ | refine okm_itN ?_ | refine okm_it1 ?_ | refine okm_lcM ?_ | refine okm_callP ?_ | refine okm_callM ?_ | refine okm_fz ?_ | refine okm_fzD ?_ | refine okm_lmE ?_ | refine okm_spNE ?_ | refine oks_seq ?_ | refine oks_if ?_ | refine oks_set ?_ | refine oks_asg ?_ | refine oks_sret ?_ | refine oks_sexp ?_ | refine oks_snx ?_ | refine oks_for ?_ | refine oks_aug ?_ | refine oks_augS ?_ | refine oks_raise ?_ | refine okm_bnd ?_)
    | ((with_reducible apply okm_vr); (· rfl))
    | ((with_reducible apply okm_tupE); (· rfl); (· rfl)) | ((with_reducible apply okm_lstE); (· rfl); (· rfl)) | ((with_reducible apply okm_lstN); (· rfl))
    | ((with_reducible apply op_rfl); (· rfl); (· rfl); (· rfl)) | ((with_reducible apply o1_rfl); (· rfl); (· rfl)) | ((with_reducible apply of_rfl); (· rfl); (· rfl))
    | (with_reducible refine wp_t ?_) | (with_reducible refine wp_f ?_) | (with_reducible refine wp_nt ?_) | (with_reducible refine wp_nf ?_)
    | ((with_reducible apply ex_t); (· rfl)) | ((with_reducible apply ex_f); (· rfl))
    | ((with_reducible apply ex_and4); (· rfl); (· rfl); (· rfl)) | ((with_reducible apply ex_and3); (· rfl); (· rfl)) | ((with_reducible apply ex_and2); (· rfl)) | ((with_reducible apply ex_and); (· rfl))
    | ((with_reducible apply isT_and); (· rfl)) | ((with_reducible apply ex_bm); (· rfl); (· rfl); (· rfl))
    | dsimp only)
    have ec : PM.cutL ((w0 :: ws).map D.str) (some 1) none = ws.map D.str := cutL_drop _ 1
    have em : ((ws.map D.str).map U.d) = ws.map fun w => U.d (.str w) := by rw [List.map_map]; rfl
    rw [ec, em]
    refine ⟨szOk_of (by rw [List.length_map]; omega), _, _, nums_lc hk ?_, ?_⟩
    · show 9 < 11
      decide
    have e2 : allD (ks.map fun k => U.d (.int k)) = some (ks.map .int) := by
      have := allD_map (ks.map D.int)
      rw [List.map_map] at this
      exact this
    refine okm_lstF e2 ?_
    exact ⟨_, _, rfl, rfl, rfl⟩
  rintro δ h ⟨rfl, rfl⟩
  have e0 : atI ((w0 :: ws).map D.str) (0 : Int) = some (.str w0) := atI_nat (j := 0) rfl
  have ect : PM.cutL (ks.map D.int) none (some (m : Int)) = (ks.map D.int).take m := cutL_take _ m
  have fin : ∀ {x : D}, x = (if (m : Int) < ks.length then .int (ks.getD m 0) else .non) →
      ∃ xs u ys, [O.lst found][0]? = some (.lst xs) ∧ pAppend xs [.d (.tup [.str w0, .lst (PM.cutL (ks.map D.int) none (some (m : Int))), x])] = some (u, ys) ∧ ∃ wo nu p_1 w_1 r_1, Out.nx [t, some (.d (.int m)), some (.loc 0), l, some (.d (.int a)), some (.d (.str line)), some (.d (.lst ((w0 :: ws).map .str))), some (.d (.lst (ks.map .int))), p, w, r] ([O.lst found].set 0 (O.lst ys)) = .nx [t, some (.d (.int m)), some (.loc 0), l, some (.d (.int a)), some (.d (.str line)), wo, nu, p_1, w_1, r_1] [.lst (found ++ [.d (rowD m w0 ks)])] := fun {x} hx => by
    refine ⟨found, .d .non, found ++ [.d (rowD m w0 ks)], rfl, ?_, _, _, _, _, _, rfl⟩
    have e : szOk (found.length + 1) = true := szOk_of (by omega)
    unfold pAppend
    dsimp only
    rw [if_pos e, ect, hx]
    rfl
  repeat (first
    | (with_reducible first | refine okm_ret ?_ | refine okm_cn ?_ | refine okm_op2 ?_ | refine okm_tst ?_ | refine okm_ifE ?_ | refine okm_mnil ?_ | refine okm_mcons ?_ | refine okm_notT ?_ | refine okm_notV ?_ | refine okm_chain ?_ | refine okm_andT ?_ | refine okm_orT ?_ | refine okm_andV ?_ | refine okm_orV ?_ | refine okm_unE ?_ | refine okm_fnE ?_ | refine okm_lenE ?_ | refine okm_ixE ?_ | refine okm_ptN ?_ | refine okm_ptS ?_ | refine okm_slE ?_ | refine okm_bmE ?_ | refine okm_isiE ?_ | refine okm_itE ?_ | refine okm_itN ?_ | refine okm_it1 ?_ | refine okm_lcM ?_ | refine okm_callP ?_ | refine okm_callM ?_ | refine okm_fz ?_ | refine okm_fzD ?_ | refine okm_lmE ?_ | refine okm_spNE ?_ | refine oks_seq ?_ | refine oks_if ?_ | refine oks_set ?_ | refine oks_asg ?_ | refine oks_sret ?_ | refine oks_sexp ?_ | refine oks_snx ?_ | refine oks_for ?_ | refine oks_aug ?_ | refine oks_augS ?_ | refine oks_raise ?_ | refine okm_bnd ?_)
    | ((with_reducible apply okm_vr); (· rfl))
    | ((with_reducible apply okm_tupE); (· rfl); (· rfl)) | ((with_reducible apply okm_lstE); (· rfl); (· rfl)) | ((with_reducible apply okm_lstN); (· rfl))
    | ((with_reducible apply op_rfl); (· rfl); (· rfl); (· rfl)) | ((with_reducible apply o1_rfl); (· rfl); (· rfl)) | ((with_reducible apply of_rfl); (· rfl); (· rfl))
    | (with_reducible refine wp_t ?_) | (with_reducible refine wp_f ?_) | (with_reducible refine wp_nt ?_) | (with_reducible refine wp_nf ?_)
    | ((with_reducible apply ex_t); (· rfl)) | ((with_reducible apply ex_f); (· rfl))
    | ((with_reducible apply ex_and4); (· rfl); (· rfl); (· rfl)) | ((with_reducible apply ex_and3); (· rfl); (· rfl)) | ((with_reducible apply ex_and2); (· rfl)) | ((with_reducible apply ex_and); (· rfl))
    | ((with_reducible apply isT_and); (· rfl)) | ((with_reducible apply ex_bm); (· rfl); (· rfl); (· rfl))
    | dsimp only)
  refine ⟨_, congrArg (Option.map U.d) e0, ?_⟩
  repeat (first
    | (with_reducible first | refine okm_ret ?_ | refine okm_cn ?_ | refine okm_op2 ?_ | refine okm_tst ?_ | refine okm_ifE ?_ | refine okm_mnil ?_ | refine okm_mcons ?_ | refine okm_notT ?_ | refine okm_notV ?_ | refine okm_chain ?_ | refine okm_andT ?_ | refine okm_orT ?_ | refine okm_andV ?_ | refine okm_orV ?_ | refine okm_unE ?_ | refine okm_fnE ?_ | refine okm_lenE ?_ | refine okm_ixE ?_ | refine okm_ptN ?_ | refine okm_ptS ?_ | refine okm_slE ?_ | refine okm_bmE ?_ | refine okm_isiE ?_ | refine okm_itE ?_ | refine okm_itN ?_ | refine okm_it1 ?_ | refine okm_lcM ?_ | refine okm_callP ?_ | refine okm_callM ?_ | refine okm_fz ?_ | refine okm_fzD ?_ | refine okm_lmE ?_ | refine okm_spNE ?_ | refine oks_seq ?_ | refine oks_if ?_ | refine oks_set ?_ | refine oks_asg ?_ | refine oks_sret ?_ | refine oks_sexp ?_ | refine oks_snx ?_ | refine oks_for ?_ | refine oks_aug ?_ | refine oks_augS ?_ | refine oks_raise ?_ | refine okm_bnd ?_)
    | ((with_reducible apply okm_vr); (· rfl))
    | ((with_reducible apply okm_tupE); (· rfl); (· rfl)) | ((with_reducible apply okm_lstE); (· rfl); (· rfl)) | ((with_reducible apply okm_lstN); (· rfl))
    | ((with_reducible apply op_rfl); (· rfl); (· rfl); (· rfl)) | ((with_reducible apply o1_rfl); (· rfl); (· rfl)) | ((with_reducible apply of_rfl); (· rfl); (· rfl))
    | (with_reducible refine wp_t ?_) | (with_reducible refine wp_f ?_) | (with_reducible refine wp_nt ?_) | (with_reducible refine wp_nf ?_)
    | ((with_reducible apply ex_t); (· rfl)) | ((with_reducible apply ex_f); (· rfl))
    | ((with_reducible apply ex_and4); (· rfl); (· rfl); (· rfl)) | ((with_reducible apply ex_and3); (· rfl); (· rfl)) | ((with_reducible apply ex_and2); (· rfl)) | ((with_reducible apply ex_and); (· rfl))
    | ((with_reducible apply isT_and); (· rfl)) | ((with_reducible apply ex_bm); (· rfl); (· rfl); (· rfl))
    | dsimp only)
  refine ⟨fun z => ?_, fun z => ?_⟩
  · have z := of_decide_eq_true z
    rw [List.length_map] at z
    have hmk : m < ks.length := by omega
    repeat (first
      | (with_reducible first | refine okm_ret ?_ | refine okm_cn ?_ | refine okm_op2 ?_ | refine okm_tst ?_ | refine okm_ifE ?_ | refine okm_mnil ?_ | refine okm_mcons ?_ | refine okm_notT ?_ | refine okm_notV ?_ | refine okm_chain ?_ | refine okm_andT ?_ | refine okm_orT ?_ | refine okm_andV ?_ | refine okm_orV ?_ | refine okm_unE ?_ | refine okm_fnE ?_ | refine okm_lenE ?_ | refine okm_ixE ?_ | refine okm_ptN ?_ | refine okm_ptS ?_ | refine okm_slE ?_ | refine okm_bmE ?_ | refine okm_isiE ?_ | refine okm_itE ?_ | refine okm_itN ?_ | refine okm_it1 ?_ | refine okm_lcM ?_ | refine okm_callP ?_ | refine okm_callM ?_ | refine okm_fz ?_ | refine okm_fzD ?_ | refine okm_lmE ?_ | refine okm_spNE ?_ | refine oks_seq ?_ | refine oks_if ?_ | refine oks_set ?_ | refine oks_asg ?_ | refine oks_sret ?_ | refine oks_sexp ?_ | refine oks_snx ?_ | refine oks_for ?_ | refine oks_aug ?_ | refine oks_augS ?_ | refine oks_raise ?_ | refine okm_bnd ?_)
      | ((with_reducible apply okm_vr); (· rfl))
      | ((with_reducible apply okm_tupE); (· rfl); (· rfl)) | ((with_reducible apply okm_lstE); (· rfl); (· rfl)) | ((with_reducible apply okm_lstN); (· rfl))
      | ((with_reducible apply op_rfl); (· rfl); (· rfl); (· rfl)) | ((with_reducible apply o1_rfl); (· rfl); (· rfl)) | ((with_reducible apply of_rfl); (· rfl); (· rfl))
      | (with_reducible refine wp_t ?_) | (with_reducible refine wp_f ?_) | (with_reducible refine wp_nt ?_) | (with_reducible refine wp_nf ?_)
      | ((with_reducible apply ex_t); (· rfl)) | ((with_reducible apply ex_f); (· rfl))
      | ((with_reducible apply ex_and4); (· rfl); (· rfl); (· rfl)) | ((with_reducible apply ex_and3); (· rfl); (· rfl)) | ((with_reducible apply ex_and2); (· rfl)) | ((with_reducible apply ex_and); (· rfl))
      | ((with_reducible apply isT_and); (· rfl)) | ((with_reducible apply ex_bm); (· rfl); (· rfl); (· rfl))
      | dsimp only)
    have e1 : atI (ks.map D.int) (m : Int) = some (.int (ks.getD m 0)) := atI_nat (j := m) (by rw [List.getElem?_map, List.getElem?_eq_getElem hmk, List.getD_eq_getElem?_getD, List.getElem?_eq_getElem hmk]; rfl)
    refine ⟨_, congrArg (Option.map U.d) e1, ?_⟩
    repeat (first
      | (with_reducible first | refine okm_ret ?_ | refine okm_cn ?_ | refine okm_op2 ?_ | refine okm_tst ?_ | refine okm_ifE ?_ | refine okm_mnil ?_ | refine okm_mcons ?_ | refine okm_notT ?_ | refine okm_notV ?_ | refine okm_chain ?_ | refine okm_andT ?_ | refine okm_orT ?_ | refine okm_andV ?_ | refine okm_orV ?_ | refine okm_unE ?_ | refine okm_fnE ?_ | refine okm_lenE ?_ | refine okm_ixE ?_ | refine okm_ptN ?_ | refine okm_ptS ?_ | refine okm_slE ?_ | refine okm_bmE ?_ | refine okm_isiE ?_ | refine okm_itE ?_ | refine okm_itN ?_ | refine okm_it1 ?_ | refine okm_lcM ?_ | refine okm_callP ?_ | refine okm_callM ?_ | refine okm_fz ?_ | refine okm_fzD ?_ | refine okm_lmE ?_ | refine okm_spNE ?_ | refine oks_seq ?_ | refine oks_if ?_ | refine oks_set ?_ | refine oks_asg ?_ | refine oks_sret ?_ | refine oks_sexp ?_ | refine oks_snx ?_ | refine oks_for ?_ | refine oks_aug ?_ | refine oks_augS ?_ | refine oks_raise ?_ | refine okm_bnd ?_)
      | ((with_reducible apply okm_vr); (· rfl))
      | ((with_reducible apply okm_tupE); (· rfl); (· rfl)) | ((with_reducible apply okm_lstE); (· rfl); (· rfl)) | ((with_reducible apply okm_lstN); (· rfl))
      | ((with_reducible apply op_rfl); (· rfl); (· rfl); (· rfl)) | ((with_reducible apply o1_rfl); (· rfl); (· rfl)) | ((with_reducible apply of_rfl); (· rfl); (· rfl))
      | (with_reducible refine wp_t ?_) | (with_reducible refine wp_f ?_) | (with_reducible refine wp_nt ?_) | (with_reducible refine wp_nf ?_)
      | ((with_reducible apply ex_t); (· rfl)) | ((with_reducible apply ex_f); (· rfl))
      | ((with_reducible apply ex_and4); (· rfl); (· rfl); (· rfl)) | ((with_reducible apply ex_and3); (· rfl); (· rfl)) | ((with_reducible apply ex_and2); (· rfl)) | ((with_reducible apply ex_and); (· rfl))
      | ((with_reducible apply isT_and); (· rfl)) | ((with_reducible apply ex_bm); (· rfl); (· rfl); (· rfl))
      | dsimp only)
    exact fin (by rw [if_pos z])
  · have z := of_decide_eq_false z
    rw [List.length_map] at z
    repeat (first
      | (with_reducible first | refine okm_ret ?_ | refine okm_cn ?_ | refine okm_op2 ?_ | refine okm_tst ?_ | refine okm_ifE ?_ | refine okm_mnil ?_ | refine okm_mcons ?_ | refine okm_notT ?_ | refine okm_notV ?_ | refine okm_chain ?_ | refine okm_andT ?_ | refine okm_orT ?_ | refine okm_andV ?_ | refine okm_orV ?_ | refine okm_unE ?_ | refine okm_fnE ?_ | refine okm_lenE ?_ | refine okm_ixE ?_ | refine okm_ptN ?_ | refine okm_ptS ?_ | refine okm_slE ?_ | refine okm_bmE ?_ | refine okm_isiE ?_ | refine okm_itE ?_ | refine okm_itN ?_ | refine okm_it1 ?_ | refine okm_lcM ?_ | refine okm_callP ?_ | refine okm_callM ?_ | refine okm_fz ?_ | refine okm_fzD ?_ | refine okm_lmE ?_ | refine okm_spNE ?_ | refine oks_seq ?_ | refine oks_if ?_ | refine oks_set ?_ | refine oks_asg ?_ | refine oks_sret ?_ | refine oks_sexp ?_ | refine oks_snx ?_ | refine oks_for ?_ | refine oks_aug ?_ | refine oks_augS ?_ | refine oks_raise ?_ | refine okm_bnd ?_)
      | ((with_reducible apply okm_vr); (· rfl))
      | ((with_reducible apply okm_tupE); (· rfl); (· rfl)) | ((with_reducible apply okm_lstE); (· rfl); (· rfl)) | ((with_reducible apply okm_lstN); (· rfl))
      | ((with_reducible apply op_rfl); (· rfl); (· rfl); (· rfl)) | ((with_reducible apply o1_rfl); (· rfl); (· rfl)) | ((with_reducible apply of_rfl); (· rfl); (· rfl))
      | (with_reducible refine wp_t ?_) | (with_reducible refine wp_f ?_) | (with_reducible refine wp_nt ?_) | (with_reducible refine wp_nf ?_)
      | ((with_reducible apply ex_t); (· rfl)) | ((with_reducible apply ex_f); (· rfl))
      | ((with_reducible apply ex_and4); (· rfl); (· rfl); (· rfl)) | ((with_reducible apply ex_and3); (· rfl); (· rfl)) | ((with_reducible apply ex_and2); (· rfl)) | ((with_reducible apply ex_and); (· rfl))
      | ((with_reducible apply isT_and); (· rfl)) | ((with_reducible apply ex_bm); (· rfl); (· rfl); (· rfl))
      | dsimp only)
    exact fin (by rw [if_neg z])
/-- a row that is not right: the place of the first fault -/
inductive BadAt (m : Nat) : List Str → Nat → Prop
  | word {pre : List Str} {x : Str} {post : List Str} {b : Bool} : (∀ j w, pre[j]? = some w → WA j w true) → pre.length ≤ m + 2 → WA pre.length x b → (b = false ∨ m + 1 < pre.length) → BadAt m (pre ++ x :: post) pre.length
  | short {ws : List Str} : (∀ j w, ws[j]? = some w → WA j w true) → ws.length < m + 1 → BadAt m ws ws.length
theorem out_bad {t l wo nu p w r : Option U} {m : Nat} {a : Int} {line : Str} {ws : List Str} {j : Nat} {found : List U} (hl : LnW line ws) (hb : BadAt m ws j) (hwl : ws.length ≤ 1000) :
    OkS outBody [t, some (.d (.int m)), some (.loc 0), l, some (.d (.int a)), some (.d (.str line)), wo, nu, p, w, r] [.lst found] fun o => ∃ δ h', o = .ex (bdBad (a + 1) ((j : Nat) + 1)) δ h' := by
  refine oks_cut (fun δ h => δ = [t, some (.d (.int m)), some (.loc 0), l, some (.d (.int a)), some (.d (.str line)), some (.d (.lst (ws.map .str))), nu, p, w, r] ∧ h = [.lst found]) ?_ ?_
  · repeat (first
    | (with_reducible first | refine okm_ret ?_ | refine okm_cn ?_ | refine okm_op2 ?_ | refine okm_tst ?_ | refine okm_ifE ?_ | refine okm_mnil ?_ | refine okm_mcons ?_ | refine okm_notT ?_ | refine okm_notV ?_ | refine okm_chain ?_ | refine okm_andT ?_ | refine okm_orT ?_ | refine okm_andV ?_ | refine okm_orV ?_ | refine okm_unE ?_ | refine okm_fnE ?_ | refine okm_lenE ?_ | refine okm_ixE ?_ | refine okm_ptN ?_ | refine okm_ptS ?_ | refine okm_slE ?_ | refine okm_bmE ?_ | refine okm_isiE ?_ | refine okm_itE ?_ | refine okm_itN ?_ | refine okm_it1 ?_ | refine okm_lcM ?_ | refine okm_callP ?_ | refine okm_callM ?_ | refine okm_fz ?_ | refine okm_fzD ?_ | refine okm_lmE ?_ | refine okm_spNE ?_ | refine oks_seq ?_ | refine oks_if ?_ | refine oks_set ?_ | refine oks_asg ?_ | refine oks_sret ?_ | refine oks_sexp ?_ | refine oks_snx ?_ | refine oks_for ?_ | refine oks_aug ?_ | refine oks_augS ?_ | refine oks_raise ?_ | refine okm_bnd ?_)
    | ((with_reducible apply okm_vr); (· rfl))
    | ((with_reducible apply okm_tupE); (· rfl); (· rfl)) | ((with_reducible apply okm_lstE); (· rfl); (· rfl)) | ((with_reducible apply okm_lstN); (· rfl))
    | ((with_reducible apply op_rfl); (· rfl); (· rfl); (· rfl)) | ((with_reducible apply o1_rfl); (· rfl); (· rfl)) | ((with_reducible apply of_rfl); (· rfl); (· rfl))
    | (with_reducible refine wp_t ?_) | (with_reducible refine wp_f ?_) | (with_reducible refine wp_nt ?_) | (with_reducible refine wp_nf ?_)
    | ((with_reducible apply ex_t); (· rfl)) | ((with_reducible apply ex_f); (· rfl))
    | ((with_reducible apply ex_and4); (· rfl); (· rfl); (· rfl)) | ((with_reducible apply ex_and3); (· rfl); (· rfl)) | ((with_reducible apply ex_and2); (· rfl)) | ((with_reducible apply ex_and); (· rfl))
    | ((with_reducible apply isT_and); (· rfl)) | ((with_reducible apply ex_bm); (· rfl); (· rfl); (· rfl))
    | dsimp only)
    exact ⟨_, _, _, rfl, rfl, ln_split hl, _, _, rfl, rfl, rfl⟩
  rintro δ h ⟨rfl, rfl⟩
  cases hb with
  | @word pre x post b h1 h2 h3 h4 =>
    repeat (first
      | (with_reducible first | refine okm_ret ?_ | refine okm_cn ?_ | refine okm_op2 ?_ | refine okm_tst ?_ | refine okm_ifE ?_ | refine okm_mnil ?_ | refine okm_mcons ?_ | refine okm_notT ?_ | refine okm_notV ?_ | refine okm_chain ?_ | refine okm_andT ?_ | refine okm_orT ?_ | refine okm_andV ?_ | refine okm_orV ?_ | refine okm_unE ?_ | refine okm_fnE ?_ | refine okm_lenE ?_ | refine okm_ixE ?_ | refine okm_ptN ?_ | refine okm_ptS ?_ | refine okm_slE ?_ | refine okm_bmE ?_ | refine okm_isiE ?_ | refine okm_itE ?_ | refine okm_itN ?_ | refine okm_it1 ?_ | refine okm_lcM ?_ | refine okm_callP ?_ | refine okm_callM ?_ | refine okm_fz ?_ | refine okm_fzD ?_ | refine okm_lmE ?_ | refine okm_spNE ?_ | refine oks_seq ?_ | refine oks_if ?_ | refine oks_set ?_ | refine oks_asg ?_ | refine oks_sret ?_ | refine oks_sexp ?_ | refine oks_snx ?_ | refine oks_for ?_ | refine oks_aug ?_ | refine oks_augS ?_ | refine oks_raise ?_ | refine okm_bnd ?_)
      | ((with_reducible apply okm_vr); (· rfl))
      | ((with_reducible apply okm_tupE); (· rfl); (· rfl)) | ((with_reducible apply okm_lstE); (· rfl); (· rfl)) | ((with_reducible apply okm_lstN); (· rfl))
      | ((with_reducible apply op_rfl); (· rfl); (· rfl); (· rfl)) | ((with_reducible apply o1_rfl); (· rfl); (· rfl)) | ((with_reducible apply of_rfl); (· rfl); (· rfl))
      | (with_reducible refine wp_t ?_) | (with_reducible refine wp_f ?_) | (with_reducible refine wp_nt ?_) | (with_reducible refine wp_nf ?_)
      | ((with_reducible apply ex_t); (· rfl)) | ((with_reducible apply ex_f); (· rfl))
      | ((with_reducible apply ex_and4); (· rfl); (· rfl); (· rfl)) | ((with_reducible apply ex_and3); (· rfl); (· rfl)) | ((with_reducible apply ex_and2); (· rfl)) | ((with_reducible apply ex_and); (· rfl))
      | ((with_reducible apply isT_and); (· rfl)) | ((with_reducible apply ex_bm); (· rfl); (· rfl); (· rfl))
      | dsimp only)
    have q := in_stop (t := t) (f := some (.loc 0)) (l := l) (li := some (.d (.str line))) (wo := some (.d (.lst ((pre ++ x :: post).map .str)))) (nu := nu) (h := [.lst found]) (m := m) (a := a) pre x post b 0 p w r (fun j w hj => by
      rw [Nat.zero_add]
      exact h1 j w hj) (by omega) (by rw [Nat.zero_add]; exact h3) (by
      rcases h4 with z | z
      · exact .inl z
      · exact .inr (by omega))
    rw [Nat.zero_add] at q
    refine q.imp fun o ⟨δ, h', e⟩ => ?_
    subst e
    exact ⟨_, _, rfl⟩
  | short h1 h2 =>
    refine oks_cut (fun δ h => h = [.lst found] ∧ Hd (∃ p w r, δ = [t, some (.d (.int m)), some (.loc 0), l, some (.d (.int a)), some (.d (.str line)), some (.d (.lst (ws.map .str))), nu, p, w, r])) ?_ ?_
    · repeat (first
      | (with_reducible first | refine okm_ret ?_ | refine okm_cn ?_ | refine okm_op2 ?_ | refine okm_tst ?_ | refine okm_ifE ?_ | refine okm_mnil ?_ | refine okm_mcons ?_ | refine okm_notT ?_ | refine okm_notV ?_ | refine okm_chain ?_ | refine okm_andT ?_ | refine okm_orT ?_ | refine okm_andV ?_ | refine okm_orV ?_ | refine okm_unE ?_ | refine okm_fnE ?_ | refine okm_lenE ?_ | refine okm_ixE ?_ | refine okm_ptN ?_ | refine okm_ptS ?_ | refine okm_slE ?_ | refine okm_bmE ?_ | refine okm_isiE ?_ | refine okm_itE ?_ | refine okm_itN ?_ | refine okm_it1 ?_ | refine okm_lcM ?_ | refine okm_callP ?_ | refine okm_callM ?_ | refine okm_fz ?_ | refine okm_fzD ?_ | refine okm_lmE ?_ | refine okm_spNE ?_ | refine oks_seq ?_ | refine oks_if ?_ | refine oks_set ?_ | refine oks_asg ?_ | refine oks_sret ?_ | refine oks_sexp ?_ | refine oks_snx ?_ | refine oks_for ?_ | refine oks_aug ?_ | refine oks_augS ?_ | refine oks_raise ?_ | refine okm_bnd ?_)
      | ((with_reducible apply okm_vr); (· rfl))
      | ((with_reducible apply okm_tupE); (· rfl); (· rfl)) | ((with_reducible apply okm_lstE); (· rfl); (· rfl)) | ((with_reducible apply okm_lstN); (· rfl))
      | ((with_reducible apply op_rfl); (· rfl); (· rfl); (· rfl)) | ((with_reducible apply o1_rfl); (· rfl); (· rfl)) | ((with_reducible apply of_rfl); (· rfl); (· rfl))
      | (with_reducible refine wp_t ?_) | (with_reducible refine wp_f ?_) | (with_reducible refine wp_nt ?_) | (with_reducible refine wp_nf ?_)
      | ((with_reducible apply ex_t); (· rfl)) | ((with_reducible apply ex_f); (· rfl))
      | ((with_reducible apply ex_and4); (· rfl); (· rfl); (· rfl)) | ((with_reducible apply ex_and3); (· rfl); (· rfl)) | ((with_reducible apply ex_and2); (· rfl)) | ((with_reducible apply ex_and); (· rfl))
      | ((with_reducible apply isT_and); (· rfl)) | ((with_reducible apply ex_bm); (· rfl); (· rfl); (· rfl))
      | dsimp only)
      have q := in_loop (t := t) (f := some (.loc 0)) (l := l) (li := some (.d (.str line))) (wo := some (.d (.lst (ws.map .str)))) (nu := nu) (h := [.lst found]) (m := m) (a := a) ws 0 p w r (fun j w hj => by
        rw [Nat.zero_add]
        exact h1 j w hj) (by omega)
      refine q.imp fun o ⟨p', w', r', e⟩ => ?_
      exact ⟨_, _, e, rfl, hd ⟨p', w', r', rfl⟩⟩
    rintro δ h ⟨rfl, p, w, r, rfl⟩
    repeat (first
      | (with_reducible first | refine okm_ret ?_ | refine okm_cn ?_ | refine okm_op2 ?_ | refine okm_tst ?_ | refine okm_ifE ?_ | refine okm_mnil ?_ | refine okm_mcons ?_ | refine okm_notT ?_ | refine okm_notV ?_ | refine okm_chain ?_ | refine okm_andT ?_ | refine okm_orT ?_ | refine okm_andV ?_ | refine okm_orV ?_ | refine okm_unE ?_ | refine okm_fnE ?_ | refine okm_lenE ?_ | refine okm_ixE ?_ | refine okm_ptN ?_ | refine okm_ptS ?_ | refine okm_slE ?_ | refine okm_bmE ?_ | refine okm_isiE ?_ | refine okm_itE ?_ | refine okm_itN ?_ | refine okm_it1 ?_ | refine okm_lcM ?_ | refine okm_callP ?_ | refine okm_callM ?_ | refine okm_fz ?_ | refine okm_fzD ?_ | refine okm_lmE ?_ | refine okm_spNE ?_ | refine oks_seq ?_ | refine oks_if ?_ | refine oks_set ?_ | refine oks_asg ?_ | refine oks_sret ?_ | refine oks_sexp ?_ | refine oks_snx ?_ | refine oks_for ?_ | refine oks_aug ?_ | refine oks_augS ?_ | refine oks_raise ?_ | refine okm_bnd ?_)
      | ((with_reducible apply okm_vr); (· rfl))
      | ((with_reducible apply okm_tupE); (· rfl); (· rfl)) | ((with_reducible apply okm_lstE); (· rfl); (· rfl)) | ((with_reducible apply okm_lstN); (· rfl))
      | ((with_reducible apply op_rfl); (· rfl); (· rfl); (· rfl)) | ((with_reducible apply o1_rfl); (· rfl); (· rfl)) | ((with_reducible apply of_rfl); (· rfl); (· rfl))
      | (with_reducible refine wp_t ?_) | (with_reducible refine wp_f ?_) | (with_reducible refine wp_nt ?_) | (with_reducible refine wp_nf ?_)
      | ((with_reducible apply ex_t); (· rfl)) | ((with_reducible apply ex_f); (· rfl))
      | ((with_reducible apply ex_and4); (· rfl); (· rfl); (· rfl)) | ((with_reducible apply ex_and3); (· rfl); (· rfl)) | ((with_reducible apply ex_and2); (· rfl)) | ((with_reducible apply ex_and); (· rfl))
      | ((with_reducible apply isT_and); (· rfl)) | ((with_reducible apply ex_bm); (· rfl); (· rfl); (· rfl))
      | dsimp only)
    refine ⟨fun z => ?_, fun z => ?_⟩
    · repeat (first
      | (with_reducible first | refine okm_ret ?_ | refine okm_cn ?_ | refine okm_op2 ?_ | refine okm_tst ?_ | refine okm_ifE ?_ | refine okm_mnil ?_ | refine okm_mcons ?_ | refine okm_notT ?_ | refine okm_notV ?_ | refine okm_chain ?_ | refine okm_andT ?_ | refine okm_orT ?_ | refine okm_andV ?_ | refine okm_orV ?_ | refine okm_unE ?_ | refine okm_fnE ?_ | refine okm_lenE ?_ | refine okm_ixE ?_ | refine okm_ptN ?_ | refine okm_ptS ?_ | refine okm_slE ?_ | refine okm_bmE ?_ | refine okm_isiE ?_ | refine okm_itE ?_ | refine okm_itN ?_ | refine okm_it1 ?_ | refine okm_lcM ?_ | refine okm_callP ?_ | refine okm_callM ?_ | refine okm_fz ?_ | refine okm_fzD ?_ | refine okm_lmE ?_ | refine okm_spNE ?_ | refine oks_seq ?_ | refine oks_if ?_ | refine oks_set ?_ | refine oks_asg ?_ | refine oks_sret ?_ | refine oks_sexp ?_ | refine oks_snx ?_ | refine oks_for ?_ | refine oks_aug ?_ | refine oks_augS ?_ | refine oks_raise ?_ | refine okm_bnd ?_)
      | ((with_reducible apply okm_vr); (· rfl))
      | ((with_reducible apply okm_tupE); (· rfl); (· rfl)) | ((with_reducible apply okm_lstE); (· rfl); (· rfl)) | ((with_reducible apply okm_lstN); (· rfl))
      | ((with_reducible apply op_rfl); (· rfl); (· rfl); (· rfl)) | ((with_reducible apply o1_rfl); (· rfl); (· rfl)) | ((with_reducible apply of_rfl); (· rfl); (· rfl))
      | (with_reducible refine wp_t ?_) | (with_reducible refine wp_f ?_) | (with_reducible refine wp_nt ?_) | (with_reducible refine wp_nf ?_)
      | ((with_reducible apply ex_t); (· rfl)) | ((with_reducible apply ex_f); (· rfl))
      | ((with_reducible apply ex_and4); (· rfl); (· rfl); (· rfl)) | ((with_reducible apply ex_and3); (· rfl); (· rfl)) | ((with_reducible apply ex_and2); (· rfl)) | ((with_reducible apply ex_and); (· rfl))
      | ((with_reducible apply isT_and); (· rfl)) | ((with_reducible apply ex_bm); (· rfl); (· rfl); (· rfl))
      | dsimp only)
      refine ⟨rfl, by decide, ?_⟩
      rw [List.length_map]
      exact ⟨_, _, rfl⟩
    · have z := of_decide_eq_false z
      rw [List.length_map] at z
      omega
def Good (m : Nat) (line : Str) (d : D) : Prop := ∃ w0 ws ks, LnW line (w0 :: ws) ∧ (∀ j w, (w0 :: ws)[j]? = some w → WA j w true) ∧ m ≤ ws.length ∧ ws.length ≤ m + 1 ∧ Al2 NumW ws ks ∧ d = rowD m w0 ks
def outTgt : G := gtup 2 (gcons (gnm 4) (gcons (gnm 5) gnil))
theorem out_tgt {t mm f l aa li wo nu p w r : Option U} {h : Hea} {i : Nat} {x : Str} : outTgt (.d (.tup [.int i, .str x])) [t, mm, f, l, aa, li, wo, nu, p, w, r] h = some ([t, mm, f, l, some (.d (.int i)), some (.d (.str x)), wo, nu, p, w, r], h) := rfl
theorem out_loop {t l : Option U} {m : Nat} (hm : m ≤ 1) : ∀ {lines : List Str} {ds : List D}, Al2 (Good m) lines ds → ∀ (i : Nat) (found : List U) (aa li wo nu p w r : Option U), found.length + lines.length < 1000 →
    OkS (forL outTgt outBody (enumD i (lines.map .str))) [t, some (.d (.int m)), some (.loc 0), l, aa, li, wo, nu, p, w, r] [.lst found] fun o => ∃ aa li wo nu p w r, o = .nx [t, some (.d (.int m)), some (.loc 0), l, aa, li, wo, nu, p, w, r] [.lst (found ++ ds.map .d)]
  | _, _, .nil, i, found, aa, li, wo, nu, p, w, r, _ => ⟨_, rfl, aa, li, wo, nu, p, w, r, by rw [List.map_nil, List.append_nil]⟩
  | x :: lines, d :: ds, .cons a b, i, found, aa, li, wo, nu, p, w, r, hl => by
    obtain ⟨w0, ws, ks, g1, g2, g3, g4, g5, rfl⟩ := a
    rw [List.length_cons] at hl
    obtain ⟨o, e, wo', nu', p', w', r', rfl⟩ := out_good (t := t) (l := l) (wo := wo) (nu := nu) (p := p) (w := w) (r := r) (a := (i : Int)) (found := found) g1 g2 g3 g4 g5 hm (by omega)
    obtain ⟨o, e2, q⟩ := out_loop (t := t) (l := l) hm b (i + 1) (found ++ [.d (rowD m w0 ks)]) (some (.d (.int i))) (some (.d (.str x))) wo' nu' p' w' r' (by rw [List.length_append, List.length_singleton]; omega)
    obtain ⟨aa, li, wo, nu, p, w, r, rfl⟩ := q
    refine ⟨_, ?_, aa, li, wo, nu, p, w, r, rfl⟩
    show forL outTgt outBody (.d (.tup [.int i, .str x]) :: enumD (i + 1) (lines.map .str)) _ _ = _
    unfold forL
    simp only [out_tgt, e]
    rw [e2]
    rw [List.map_cons, List.append_assoc]
    rfl
theorem out_stop {t l : Option U} {m : Nat} (hm : m ≤ 1) {bad : Str} {bws : List Str} {j : Nat} (hb1 : LnW bad bws) (hb2 : BadAt m bws j) (hb3 : bws.length ≤ 1000) : ∀ {pre : List Str} {ds : List D}, Al2 (Good m) pre ds → ∀ (post : List Str) (i : Nat) (found : List U) (aa li wo nu p w r : Option U), found.length + pre.length < 1000 →
    OkS (forL outTgt outBody (enumD i ((pre ++ bad :: post).map .str))) [t, some (.d (.int m)), some (.loc 0), l, aa, li, wo, nu, p, w, r] [.lst found] fun o => ∃ δ h, o = .ex (bdBad ((i + pre.length : Nat) + 1) ((j : Nat) + 1)) δ h
  | _, _, .nil, post, i, found, aa, li, wo, nu, p, w, r, _ => by
    obtain ⟨o, e, δ, h, rfl⟩ := out_bad (t := t) (l := l) (wo := wo) (nu := nu) (p := p) (w := w) (r := r) (a := (i : Int)) (found := found) hb1 hb2 hb3
    refine ⟨_, ?_, δ, h, rfl⟩
    show forL outTgt outBody (.d (.tup [.int i, .str bad]) :: enumD (i + 1) (post.map .str)) _ _ = _
    unfold forL
    simp only [out_tgt, e]
    rfl
  | x :: lines, d :: ds, .cons a b, post, i, found, aa, li, wo, nu, p, w, r, hl => by
    obtain ⟨w0, ws, ks, g1, g2, g3, g4, g5, rfl⟩ := a
    rw [List.length_cons] at hl
    obtain ⟨o, e, wo', nu', p', w', r', rfl⟩ := out_good (t := t) (l := l) (wo := wo) (nu := nu) (p := p) (w := w) (r := r) (a := (i : Int)) (found := found) g1 g2 g3 g4 g5 hm (by omega)
    obtain ⟨o, e2, δ, h, rfl⟩ := out_stop (t := t) (l := l) hm hb1 hb2 hb3 b post (i + 1) (found ++ [.d (rowD m w0 ks)]) (some (.d (.int i))) (some (.d (.str x))) wo' nu' p' w' r' (by rw [List.length_append, List.length_singleton]; omega)
    refine ⟨.ex (bdBad ((i + 1 + lines.length : Nat) + 1) ((j : Nat) + 1)) δ h, ?_, δ, h, by rw [List.length_cons, show i + 1 + lines.length = i + (lines.length + 1) by omega]⟩
    show forL outTgt outBody (.d (.tup [.int i, .str x]) :: enumD (i + 1) ((lines ++ bad :: post).map .str)) _ _ = _
    unfold forL
    simp only [out_tgt, e]
    rw [e2]
/-- a text that cuts into lines -/
def LnT (text : Str) (lines : List Str) : Prop := len2 text = true ∧ Txt.split text "\n" = lines
theorem lt_split {line : Str} {ws : List Str} (hl : LnT line ws) : pSplit (.str line) [.str "\n"] = some (.lst (ws.map .str)) := by
  show (if (!(Str.length "\n" == 0) && len2 line) = true then some (D.lst ((Txt.split line "\n").map .str)) else none) = _
  rw [hl.1, hl.2]
  rfl
theorem cut_last {rows : List D} {x : D} : PM.cutL (rows ++ [x]) none (some (-1)) = rows := by
  unfold PM.cutL
  rw [HT.sIx_none, List.drop_zero, Nat.sub_zero]
  have e : HT.sIx (rows ++ [x]).length (rows ++ [x]).length (some (-1)) = rows.length := by
    show (if (-1 : Int) < 0 then ((-1 : Int) + ((rows ++ [x]).length : Int)).toNat else min (-1 : Int).toNat (rows ++ [x]).length) = _
    rw [if_pos (by decide), List.length_append, List.length_singleton]
    omega
  rw [e, List.take_left']
  rfl
/-- the def up to its loop -/
theorem read_top {text : Str} {m : Nat} {rows : List Str} {tail : Str} (ht : LnT text (rows ++ [tail])) {Q : Out → Prop} 
    (k : OkS (forL outTgt outBody (enumD 0 (rows.map .str))) [some (.d (.str text)), some (.d (.int m)), some (.loc 0), some (.d (.lst ((rows ++ [tail]).map .str))), none, none, none, none, none, none, none] [.lst []] fun o => match o with
      | .nx δ' h' => OkS (sseq (sif (tst (op2 pNe (ixE (vr 3) (unE pNeg (cn (.int 1)))) (cn (.str "")))) (sraise "BadText" ["line", "column"] (mcons (lenE (mcons (vr 3) mnil)) (mcons (cn (.int 1)) mnil))) snx) (sret (fz (vr 2)))) δ' h' Q
      | o => Q o) :
    OkS b_read_rows [some (.d (.str text)), some (.d (.int m)), none, none, none, none, none, none, none, none, none] [] Q := by
  unfold b_read_rows
  refine oks_cut (fun δ h => δ = [some (.d (.str text)), some (.d (.int m)), none, none, none, none, none, none, none, none, none] ∧ h = []) ?_ ?_
  · repeat (first
    | (with_reducible first | refine okm_ret ?_ | refine okm_cn ?_ | refine okm_op2 ?_ | refine okm_tst ?_ | refine okm_ifE ?_ | refine okm_mnil ?_ | refine okm_mcons ?_ | refine okm_notT ?_ | refine okm_notV ?_ | refine okm_chain ?_ | refine okm_andT ?_ | refine okm_orT ?_ | refine okm_andV ?_ | refine okm_orV ?_ | refine okm_unE ?_ | refine okm_fnE ?_ | refine okm_lenE ?_ | refine okm_ixE ?_ | refine okm_ptN ?_ | refine okm_ptS ?_ | refine okm_slE ?_ | refine okm_bmE ?_ | refine okm_isiE ?_ | refine okm_itE ?_ | refine okm_itN ?_ | refine okm_it1 ?_ | refine okm_lcM ?_ | refine okm_callP ?_ | refine okm_callM ?_ | refine okm_fz ?_ | refine okm_fzD ?_ | refine okm_lmE ?_ | refine okm_spNE ?_ | refine oks_seq ?_ | refine oks_if ?_ | refine oks_set ?_ | refine oks_asg ?_ | refine oks_sret ?_ | refine oks_sexp ?_ | refine oks_snx ?_ | refine oks_for ?_ | refine oks_aug ?_ | refine oks_augS ?_ | refine oks_raise ?_ | refine okm_bnd ?_)
    | ((with_reducible apply okm_vr); (· rfl))
    | ((with_reducible apply okm_tupE); (· rfl); (· rfl)) | ((with_reducible apply okm_lstE); (· rfl); (· rfl)) | ((with_reducible apply okm_lstN); (· rfl))
    | ((with_reducible apply op_rfl); (· rfl); (· rfl); (· rfl)) | ((with_reducible apply o1_rfl); (· rfl); (· rfl)) | ((with_reducible apply of_rfl); (· rfl); (· rfl))
    | (with_reducible refine wp_t ?_) | (with_reducible refine wp_f ?_) | (with_reducible refine wp_nt ?_) | (with_reducible refine wp_nf ?_)
    | ((with_reducible apply ex_t); (· rfl)) | ((with_reducible apply ex_f); (· rfl))
    | ((with_reducible apply ex_and4); (· rfl); (· rfl); (· rfl)) | ((with_reducible apply ex_and3); (· rfl); (· rfl)) | ((with_reducible apply ex_and2); (· rfl)) | ((with_reducible apply ex_and); (· rfl))
    | ((with_reducible apply isT_and); (· rfl)) | ((with_reducible apply ex_bm); (· rfl); (· rfl); (· rfl))
    | dsimp only)
  rintro δ h ⟨rfl, rfl⟩
  refine oks_cut (fun δ h => δ = [some (.d (.str text)), some (.d (.int m)), some (.loc 0), none, none, none, none, none, none, none, none] ∧ h = [.lst []]) ?_ ?_
  · repeat (first
    | (with_reducible first | refine okm_ret ?_ | refine okm_cn ?_ | refine okm_op2 ?_ | refine okm_tst ?_ | refine okm_ifE ?_ | refine okm_mnil ?_ | refine okm_mcons ?_ | refine okm_notT ?_ | refine okm_notV ?_ | refine okm_chain ?_ | refine okm_andT ?_ | refine okm_orT ?_ | refine okm_andV ?_ | refine okm_orV ?_ | refine okm_unE ?_ | refine okm_fnE ?_ | refine okm_lenE ?_ | refine okm_ixE ?_ | refine okm_ptN ?_ | refine okm_ptS ?_ | refine okm_slE ?_ | refine okm_bmE ?_ | refine okm_isiE ?_ | refine okm_itE ?_ | refine okm_itN ?_ | refine okm_it1 ?_ | refine okm_lcM ?_ | refine okm_callP ?_ | refine okm_callM ?_ | refine okm_fz ?_ | refine okm_fzD ?_ | refine okm_lmE ?_ | refine okm_spNE ?_ | refine oks_seq ?_ | refine oks_if ?_ | refine oks_set ?_ | refine oks_asg ?_ | refine oks_sret ?_ | refine oks_sexp ?_ | refine oks_snx ?_ | refine oks_for ?_ | refine oks_aug ?_ | refine oks_augS ?_ | refine oks_raise ?_ | refine okm_bnd ?_)
    | ((with_reducible apply okm_vr); (· rfl))
    | ((with_reducible apply okm_tupE); (· rfl); (· rfl)) | ((with_reducible apply okm_lstE); (· rfl); (· rfl)) | ((with_reducible apply okm_lstN); (· rfl))
    | ((with_reducible apply op_rfl); (· rfl); (· rfl); (· rfl)) | ((with_reducible apply o1_rfl); (· rfl); (· rfl)) | ((with_reducible apply of_rfl); (· rfl); (· rfl))
    | (with_reducible refine wp_t ?_) | (with_reducible refine wp_f ?_) | (with_reducible refine wp_nt ?_) | (with_reducible refine wp_nf ?_)
    | ((with_reducible apply ex_t); (· rfl)) | ((with_reducible apply ex_f); (· rfl))
    | ((with_reducible apply ex_and4); (· rfl); (· rfl); (· rfl)) | ((with_reducible apply ex_and3); (· rfl); (· rfl)) | ((with_reducible apply ex_and2); (· rfl)) | ((with_reducible apply ex_and); (· rfl))
    | ((with_reducible apply isT_and); (· rfl)) | ((with_reducible apply ex_bm); (· rfl); (· rfl); (· rfl))
    | dsimp only)
    rfl
  rintro δ h ⟨rfl, rfl⟩
  refine oks_cut (fun δ h => δ = [some (.d (.str text)), some (.d (.int m)), some (.loc 0), some (.d (.lst ((rows ++ [tail]).map .str))), none, none, none, none, none, none, none] ∧ h = [.lst []]) ?_ ?_
  · repeat (first
    | (with_reducible first | refine okm_ret ?_ | refine okm_cn ?_ | refine okm_op2 ?_ | refine okm_tst ?_ | refine okm_ifE ?_ | refine okm_mnil ?_ | refine okm_mcons ?_ | refine okm_notT ?_ | refine okm_notV ?_ | refine okm_chain ?_ | refine okm_andT ?_ | refine okm_orT ?_ | refine okm_andV ?_ | refine okm_orV ?_ | refine okm_unE ?_ | refine okm_fnE ?_ | refine okm_lenE ?_ | refine okm_ixE ?_ | refine okm_ptN ?_ | refine okm_ptS ?_ | refine okm_slE ?_ | refine okm_bmE ?_ | refine okm_isiE ?_ | refine okm_itE ?_ | refine okm_itN ?_ | refine okm_it1 ?_ | refine okm_lcM ?_ | refine okm_callP ?_ | refine okm_callM ?_ | refine okm_fz ?_ | refine okm_fzD ?_ | refine okm_lmE ?_ | refine okm_spNE ?_ | refine oks_seq ?_ | refine oks_if ?_ | refine oks_set ?_ | refine oks_asg ?_ | refine oks_sret ?_ | refine oks_sexp ?_ | refine oks_snx ?_ | refine oks_for ?_ | refine oks_aug ?_ | refine oks_augS ?_ | refine oks_raise ?_ | refine okm_bnd ?_)
    | ((with_reducible apply okm_vr); (· rfl))
    | ((with_reducible apply okm_tupE); (· rfl); (· rfl)) | ((with_reducible apply okm_lstE); (· rfl); (· rfl)) | ((with_reducible apply okm_lstN); (· rfl))
    | ((with_reducible apply op_rfl); (· rfl); (· rfl); (· rfl)) | ((with_reducible apply o1_rfl); (· rfl); (· rfl)) | ((with_reducible apply of_rfl); (· rfl); (· rfl))
    | (with_reducible refine wp_t ?_) | (with_reducible refine wp_f ?_) | (with_reducible refine wp_nt ?_) | (with_reducible refine wp_nf ?_)
    | ((with_reducible apply ex_t); (· rfl)) | ((with_reducible apply ex_f); (· rfl))
    | ((with_reducible apply ex_and4); (· rfl); (· rfl); (· rfl)) | ((with_reducible apply ex_and3); (· rfl); (· rfl)) | ((with_reducible apply ex_and2); (· rfl)) | ((with_reducible apply ex_and); (· rfl))
    | ((with_reducible apply isT_and); (· rfl)) | ((with_reducible apply ex_bm); (· rfl); (· rfl); (· rfl))
    | dsimp only)
    exact ⟨_, _, _, rfl, rfl, lt_split ht, _, _, rfl, rfl, rfl⟩
  rintro δ h ⟨rfl, rfl⟩
  repeat (first
    | (with_reducible first | refine okm_ret ?_ | refine okm_cn ?_ | refine okm_op2 ?_ | refine okm_tst ?_ | refine okm_ifE ?_ | refine okm_mnil ?_ | refine okm_mcons ?_ | refine okm_notT ?_ | refine okm_notV ?_ | refine okm_chain ?_ | refine okm_andT ?_ | refine okm_orT ?_ | refine okm_andV ?_ | refine okm_orV ?_ | refine okm_unE ?_ | refine okm_fnE ?_ | refine okm_lenE ?_ | refine okm_ixE ?_ | refine okm_ptN ?_ | refine okm_ptS ?_ | refine okm_slE ?_ | refine okm_bmE ?_ | refine okm_isiE ?_ | refine okm_itE ?_ | refine okm_itN ?_ | refine okm_it1 ?_ | refine okm_lcM ?_ | refine okm_callP ?_ | refine okm_callM ?_ | refine okm_fz ?_ | refine okm_fzD ?_ | refine okm_lmE ?_ | refine okm_spNE ?_ | refine oks_seq ?_ | refine oks_if ?_ | refine oks_set ?_ | refine oks_asg ?_ | refine oks_sret ?_ | refine oks_sexp ?_ | refine oks_snx ?_ | refine oks_for ?_ | refine oks_aug ?_ | refine oks_augS ?_ | refine oks_raise ?_ | refine okm_bnd ?_)
    | ((with_reducible apply okm_vr); (· rfl))
    | ((with_reducible apply okm_tupE); (· rfl); (· rfl)) | ((with_reducible apply okm_lstE); (· rfl); (· rfl)) | ((with_reducible apply okm_lstN); (· rfl))
    | ((with_reducible apply op_rfl); (· rfl); (· rfl); (· rfl)) | ((with_reducible apply o1_rfl); (· rfl); (· rfl)) | ((with_reducible apply of_rfl); (· rfl); (· rfl))
    | (with_reducible refine wp_t ?_) | (with_reducible refine wp_f ?_) | (with_reducible refine wp_nt ?_) | (with_reducible refine wp_nf ?_)
    | ((with_reducible apply ex_t); (· rfl)) | ((with_reducible apply ex_f); (· rfl))
    | ((with_reducible apply ex_and4); (· rfl); (· rfl); (· rfl)) | ((with_reducible apply ex_and3); (· rfl); (· rfl)) | ((with_reducible apply ex_and2); (· rfl)) | ((with_reducible apply ex_and); (· rfl))
    | ((with_reducible apply isT_and); (· rfl)) | ((with_reducible apply ex_bm); (· rfl); (· rfl); (· rfl))
    | dsimp only)
  rw [show PM.cutL ((rows ++ [tail]).map D.str) none (some (-1)) = rows.map D.str by rw [List.map_append]; exact cut_last]
  exact k
theorem last_ix {rows : List D} {x : D} : atI (rows ++ [x]) (-1) = some x := atI_last rows x
theorem pNe_str {x y : Str} : pNe (.str x) (.str y) = some (.bl (!(x == y))) := rfl
theorem rows_good {text : Str} {m : Nat} {rows : List Str} {ds : List D} (hm : m ≤ 1) (ht : LnT text (rows ++ [("" : Str)])) (hg : Al2 (Good m) rows ds) (hl : rows.length < 1000) : ∃ hh, f_read_rows [.d (.str text), .d (.int m)] [] = some (.ok (.d (.lst ds)) hh) := by
  have key : ∃ x h', fnM 11 b_read_rows [.d (.str text), .d (.int m)] [] = some (.ok (.d x) h') ∧ x = .lst ds := by
    refine fnM_pure ?_
    show OkS b_read_rows [some (.d (.str text)), some (.d (.int m)), none, none, none, none, none, none, none, none, none] [] _
    refine read_top ht ?_
    have q := out_loop (t := some (.d (.str text))) (l := some (.d (.lst ((rows ++ [("" : Str)]).map .str)))) hm hg 0 [] none none none none none none none (by simpa using hl)
    refine q.imp fun o ⟨aa, li, wo, nu, p, w, r, e⟩ => ?_
    subst e
    have e1 : atI ((rows ++ [("" : Str)]).map D.str) (-1) = some (.str "") := by
      rw [List.map_append]
      exact last_ix
    repeat (first
      | (with_reducible first | refine okm_ret ?_ | refine okm_cn ?_ | refine okm_op2 ?_ | refine okm_tst ?_ | refine okm_ifE ?_ | refine okm_mnil ?_ | refine okm_mcons ?_ | refine okm_notT ?_ | refine okm_notV ?_ | refine okm_chain ?_ | refine okm_andT ?_ | refine okm_orT ?_ | refine okm_andV ?_ | refine okm_orV ?_ | refine okm_unE ?_ | refine okm_fnE ?_ | refine okm_lenE ?_ | refine okm_ixE ?_ | refine okm_ptN ?_ | refine okm_ptS ?_ | refine okm_slE ?_ | refine okm_bmE ?_ | refine okm_isiE ?_ | refine okm_itE ?_ | refine okm_itN ?_ | refine okm_it1 ?_ | refine okm_lcM ?_ | refine okm_callP ?_ | refine okm_callM ?_ | refine okm_fz ?_ | refine okm_fzD ?_ | refine okm_lmE ?_ | refine okm_spNE ?_ | refine oks_seq ?_ | refine oks_if ?_ | refine oks_set ?_ | refine oks_asg ?_ | refine oks_sret ?_ | refine oks_sexp ?_ | refine oks_snx ?_ | refine oks_for ?_ | refine oks_aug ?_ | refine oks_augS ?_ | refine oks_raise ?_ | refine okm_bnd ?_)
      | ((with_reducible apply okm_vr); (· rfl))
      | ((with_reducible apply okm_tupE); (· rfl); (· rfl)) | ((with_reducible apply okm_lstE); (· rfl); (· rfl)) | ((with_reducible apply okm_lstN); (· rfl))
      | ((with_reducible apply op_rfl); (· rfl); (· rfl); (· rfl)) | ((with_reducible apply o1_rfl); (· rfl); (· rfl)) | ((with_reducible apply of_rfl); (· rfl); (· rfl))
      | (with_reducible refine wp_t ?_) | (with_reducible refine wp_f ?_) | (with_reducible refine wp_nt ?_) | (with_reducible refine wp_nf ?_)
      | ((with_reducible apply ex_t); (· rfl)) | ((with_reducible apply ex_f); (· rfl))
      | ((with_reducible apply ex_and4); (· rfl); (· rfl); (· rfl)) | ((with_reducible apply ex_and3); (· rfl); (· rfl)) | ((with_reducible apply ex_and2); (· rfl)) | ((with_reducible apply ex_and); (· rfl))
      | ((with_reducible apply isT_and); (· rfl)) | ((with_reducible apply ex_bm); (· rfl); (· rfl); (· rfl))
      | dsimp only)
    refine ⟨_, congrArg (Option.map U.d) e1, ?_⟩
    repeat (first
      | (with_reducible first | refine okm_ret ?_ | refine okm_cn ?_ | refine okm_op2 ?_ | refine okm_tst ?_ | refine okm_ifE ?_ | refine okm_mnil ?_ | refine okm_mcons ?_ | refine okm_notT ?_ | refine okm_notV ?_ | refine okm_chain ?_ | refine okm_andT ?_ | refine okm_orT ?_ | refine okm_andV ?_ | refine okm_orV ?_ | refine okm_unE ?_ | refine okm_fnE ?_ | refine okm_lenE ?_ | refine okm_ixE ?_ | refine okm_ptN ?_ | refine okm_ptS ?_ | refine okm_slE ?_ | refine okm_bmE ?_ | refine okm_isiE ?_ | refine okm_itE ?_ | refine okm_itN ?_ | refine okm_it1 ?_ | refine okm_lcM ?_ | refine okm_callP ?_ | refine okm_callM ?_ | refine okm_fz ?_ | refine okm_fzD ?_ | refine okm_lmE ?_ | refine okm_spNE ?_ | refine oks_seq ?_ | refine oks_if ?_ | refine oks_set ?_ | refine oks_asg ?_ | refine oks_sret ?_ | refine oks_sexp ?_ | refine oks_snx ?_ | refine oks_for ?_ | refine oks_aug ?_ | refine oks_augS ?_ | refine oks_raise ?_ | refine okm_bnd ?_)
      | ((with_reducible apply okm_vr); (· rfl))
      | ((with_reducible apply okm_tupE); (· rfl); (· rfl)) | ((with_reducible apply okm_lstE); (· rfl); (· rfl)) | ((with_reducible apply okm_lstN); (· rfl))
      | ((with_reducible apply op_rfl); (· rfl); (· rfl); (· rfl)) | ((with_reducible apply o1_rfl); (· rfl); (· rfl)) | ((with_reducible apply of_rfl); (· rfl); (· rfl))
      | (with_reducible refine wp_t ?_) | (with_reducible refine wp_f ?_) | (with_reducible refine wp_nt ?_) | (with_reducible refine wp_nf ?_)
      | ((with_reducible apply ex_t); (· rfl)) | ((with_reducible apply ex_f); (· rfl))
      | ((with_reducible apply ex_and4); (· rfl); (· rfl); (· rfl)) | ((with_reducible apply ex_and3); (· rfl); (· rfl)) | ((with_reducible apply ex_and2); (· rfl)) | ((with_reducible apply ex_and); (· rfl))
      | ((with_reducible apply isT_and); (· rfl)) | ((with_reducible apply ex_bm); (· rfl); (· rfl); (· rfl))
      | dsimp only)
    have e2 : (O.lst ([] ++ ds.map U.d)).view = some (.lst ds) := by
      show (allD (ds.map U.d)).map D.lst = _
      rw [allD_map]
      rfl
    exact okm_fzL rfl e2 ⟨_, _, rfl, rfl⟩
  obtain ⟨x, h', e, rfl⟩ := key
  exact ⟨h', e⟩
theorem rows_tail {text tail : Str} {m : Nat} {rows : List Str} {ds : List D} (hm : m ≤ 1) (ht : LnT text (rows ++ [tail])) (htl : (tail == "") = false) (hg : Al2 (Good m) rows ds) (hl : rows.length < 1000) : ∃ hh, f_read_rows [.d (.str text), .d (.int m)] [] = some (.exc (bdBad ((rows.length + 1 : Nat) : Int) 1) hh) := by
  refine fnM_exc ?_
  show OkS b_read_rows [some (.d (.str text)), some (.d (.int m)), none, none, none, none, none, none, none, none, none] [] _
  refine read_top ht ?_
  have q := out_loop (t := some (.d (.str text))) (l := some (.d (.lst ((rows ++ [tail]).map .str)))) hm hg 0 [] none none none none none none none (by simpa using hl)
  refine q.imp fun o ⟨aa, li, wo, nu, p, w, r, e⟩ => ?_
  subst e
  have e1 : atI ((rows ++ [tail]).map D.str) (-1) = some (.str tail) := by
    rw [List.map_append]
    exact last_ix
  repeat (first
    | (with_reducible first | refine okm_ret ?_ | refine okm_cn ?_ | refine okm_op2 ?_ | refine okm_tst ?_ | refine okm_ifE ?_ | refine okm_mnil ?_ | refine okm_mcons ?_ | refine okm_notT ?_ | refine okm_notV ?_ | refine okm_chain ?_ | refine okm_andT ?_ | refine okm_orT ?_ | refine okm_andV ?_ | refine okm_orV ?_ | refine okm_unE ?_ | refine okm_fnE ?_ | refine okm_lenE ?_ | refine okm_ixE ?_ | refine okm_ptN ?_ | refine okm_ptS ?_ | refine okm_slE ?_ | refine okm_bmE ?_ | refine okm_isiE ?_ | refine okm_itE ?_ | refine okm_itN ?_ | refine okm_it1 ?_ | refine okm_lcM ?_ | refine okm_callP ?_ | refine okm_callM ?_ | refine okm_fz ?_ | refine okm_fzD ?_ | refine okm_lmE ?_ | refine okm_spNE ?_ | refine oks_seq ?_ | refine oks_if ?_ | refine oks_set ?_ | refine oks_asg ?_ | refine oks_sret ?_ | refine oks_sexp ?_ | refine oks_snx ?_ | refine oks_for ?_ | refine oks_aug ?_ | refine oks_augS ?_ | refine oks_raise ?_ | refine okm_bnd ?_)
    | ((with_reducible apply okm_vr); (· rfl))
    | ((with_reducible apply okm_tupE); (· rfl); (· rfl)) | ((with_reducible apply okm_lstE); (· rfl); (· rfl)) | ((with_reducible apply okm_lstN); (· rfl))
    | ((with_reducible apply op_rfl); (· rfl); (· rfl); (· rfl)) | ((with_reducible apply o1_rfl); (· rfl); (· rfl)) | ((with_reducible apply of_rfl); (· rfl); (· rfl))
    | (with_reducible refine wp_t ?_) | (with_reducible refine wp_f ?_) | (with_reducible refine wp_nt ?_) | (with_reducible refine wp_nf ?_)
    | ((with_reducible apply ex_t); (· rfl)) | ((with_reducible apply ex_f); (· rfl))
    | ((with_reducible apply ex_and4); (· rfl); (· rfl); (· rfl)) | ((with_reducible apply ex_and3); (· rfl); (· rfl)) | ((with_reducible apply ex_and2); (· rfl)) | ((with_reducible apply ex_and); (· rfl))
    | ((with_reducible apply isT_and); (· rfl)) | ((with_reducible apply ex_bm); (· rfl); (· rfl); (· rfl))
    | dsimp only)
  refine ⟨_, congrArg (Option.map U.d) e1, ?_⟩
  repeat (first
    | (with_reducible first | refine okm_ret ?_ | refine okm_cn ?_ | refine okm_op2 ?_ | refine okm_tst ?_ | refine okm_ifE ?_ | refine okm_mnil ?_ | refine okm_mcons ?_ | refine okm_notT ?_ | refine okm_notV ?_ | refine okm_chain ?_ | refine okm_andT ?_ | refine okm_orT ?_ | refine okm_andV ?_ | refine okm_orV ?_ | refine okm_unE ?_ | refine okm_fnE ?_ | refine okm_lenE ?_ | refine okm_ixE ?_ | refine okm_ptN ?_ | refine okm_ptS ?_ | refine okm_slE ?_ | refine okm_bmE ?_ | refine okm_isiE ?_ | refine okm_itE ?_ | refine okm_itN ?_ | refine okm_it1 ?_ | refine okm_lcM ?_ | refine okm_callP ?_ | refine okm_callM ?_ | refine okm_fz ?_ | refine okm_fzD ?_ | refine okm_lmE ?_ | refine okm_spNE ?_ | refine oks_seq ?_ | refine oks_if ?_ | refine oks_set ?_ | refine oks_asg ?_ | refine oks_sret ?_ | refine oks_sexp ?_ | refine oks_snx ?_ | refine oks_for ?_ | refine oks_aug ?_ | refine oks_augS ?_ | refine oks_raise ?_ | refine okm_bnd ?_)
    | ((with_reducible apply okm_vr); (· rfl))
    | ((with_reducible apply okm_tupE); (· rfl); (· rfl)) | ((with_reducible apply okm_lstE); (· rfl); (· rfl)) | ((with_reducible apply okm_lstN); (· rfl))
    | ((with_reducible apply op_rfl); (· rfl); (· rfl); (· rfl)) | ((with_reducible apply o1_rfl); (· rfl); (· rfl)) | ((with_reducible apply of_rfl); (· rfl); (· rfl))
    | (with_reducible refine wp_t ?_) | (with_reducible refine wp_f ?_) | (with_reducible refine wp_nt ?_) | (with_reducible refine wp_nf ?_)
    | ((with_reducible apply ex_t); (· rfl)) | ((with_reducible apply ex_f); (· rfl))
    | ((with_reducible apply ex_and4); (· rfl); (· rfl); (· rfl)) | ((with_reducible apply ex_and3); (· rfl); (· rfl)) | ((with_reducible apply ex_and2); (· rfl)) | ((with_reducible apply ex_and); (· rfl))
    | ((with_reducible apply isT_and); (· rfl)) | ((with_reducible apply ex_bm); (· rfl); (· rfl); (· rfl))
    | dsimp only)
  rw [show eqS (.str tail) (.str "") = false from htl]
  repeat (first
    | (with_reducible first | refine okm_ret ?_ | refine okm_cn ?_ | refine okm_op2 ?_ | refine okm_tst ?_ | refine okm_ifE ?_ | refine okm_mnil ?_ | refine okm_mcons ?_ | refine okm_notT ?_ | refine okm_notV ?_ | refine okm_chain ?_ | refine okm_andT ?_ | refine okm_orT ?_ | refine okm_andV ?_ | refine okm_orV ?_ | refine okm_unE ?_ | refine okm_fnE ?_ | refine okm_lenE ?_ | refine okm_ixE ?_ | refine okm_ptN ?_ | refine okm_ptS ?_ | refine okm_slE ?_ | refine okm_bmE ?_ | refine okm_isiE ?_ | refine okm_itE ?_ | refine okm_itN ?_ | refine okm_it1 ?_ | refine okm_lcM ?_ | refine okm_callP ?_ | refine okm_callM ?_ | refine okm_fz ?_ | refine okm_fzD ?_ | refine okm_lmE ?_ | refine okm_spNE ?_ | refine oks_seq ?_ | refine oks_if ?_ | refine oks_set ?_ | refine oks_asg ?_ | refine oks_sret ?_ | refine oks_sexp ?_ | refine oks_snx ?_ | refine oks_for ?_ | refine oks_aug ?_ | refine oks_augS ?_ | refine oks_raise ?_ | refine okm_bnd ?_)
    | ((with_reducible apply okm_vr); (· rfl))
    | ((with_reducible apply okm_tupE); (· rfl); (· rfl)) | ((with_reducible apply okm_lstE); (· rfl); (· rfl)) | ((with_reducible apply okm_lstN); (· rfl))
    | ((with_reducible apply op_rfl); (· rfl); (· rfl); (· rfl)) | ((with_reducible apply o1_rfl); (· rfl); (· rfl)) | ((with_reducible apply of_rfl); (· rfl); (· rfl))
    | (with_reducible refine wp_t ?_) | (with_reducible refine wp_f ?_) | (with_reducible refine wp_nt ?_) | (with_reducible refine wp_nf ?_)
    | ((with_reducible apply ex_t); (· rfl)) | ((with_reducible apply ex_f); (· rfl))
    | ((with_reducible apply ex_and4); (· rfl); (· rfl); (· rfl)) | ((with_reducible apply ex_and3); (· rfl); (· rfl)) | ((with_reducible apply ex_and2); (· rfl)) | ((with_reducible apply ex_and); (· rfl))
    | ((with_reducible apply isT_and); (· rfl)) | ((with_reducible apply ex_bm); (· rfl); (· rfl); (· rfl))
    | dsimp only)
  refine ⟨rfl, by decide, ?_⟩
  rw [List.length_map, List.length_append, List.length_singleton]
  exact ⟨_, _, rfl⟩
theorem rows_bad {text bad tail : Str} {m : Nat} {pre post : List Str} {ds : List D} {bws : List Str} {j : Nat} (hm : m ≤ 1) (ht : LnT text ((pre ++ bad :: post) ++ [tail])) (hb1 : LnW bad bws) (hb2 : BadAt m bws j) (hb3 : bws.length ≤ 1000) (hg : Al2 (Good m) pre ds) (hl : pre.length < 1000) :
    ∃ hh, f_read_rows [.d (.str text), .d (.int m)] [] = some (.exc (bdBad ((pre.length + 1 : Nat) : Int) ((j + 1 : Nat) : Int)) hh) := by
  refine fnM_exc ?_
  show OkS b_read_rows [some (.d (.str text)), some (.d (.int m)), none, none, none, none, none, none, none, none, none] [] _
  refine read_top ht ?_
  have q := out_stop (t := some (.d (.str text))) (l := some (.d (.lst (((pre ++ bad :: post) ++ [tail]).map .str)))) hm hb1 hb2 hb3 hg post 0 [] none none none none none none none (by simpa using hl)
  refine q.imp fun o ⟨δ, h, e⟩ => ?_
  subst e
  refine ⟨δ, h, ?_⟩
  rw [Nat.zero_add]
  rfl
def okB (b : Bool) (x : Option (R U)) : Bool := match x with
  | some (.ok (.d (.bl c)) _) => c == b
  | _ => false
theorem okB_ok {b : Bool} {x : Option (R U)} (h : okB b x = true) : ∃ hh, x = some (.ok (.d (.bl b)) hh) := by
  unfold okB at h
  split at h
  · rename_i c hh
    exact ⟨hh, by rw [eq_of_beq h]⟩
  · cases h
theorem wn_of {w : Str} {b : Bool} (h : okB b (f_is_name [.d (.str w)] []) = true) : WN w b := okB_ok h
theorem ws_of {w : Str} {b : Bool} (h : okB b (f_is_small_number [.d (.str w)] []) = true) : WS w b := okB_ok h
theorem num_str (n : Nat) : (Str.ofString (toString ((n : Nat) : Int))) = ⟨(TL.numL n).toArray⟩ := by
  rw [← TL.tl_num, TL.mk_tl]
theorem small_all : ((List.range 60).all fun n => okB true (f_is_small_number [.d (.str ⟨(TL.numL n).toArray⟩)] [])) = true := by kernel_rfl
theorem ws_num {n : Nat} (h : n < 60) : WS (Str.ofString (toString ((n : Nat) : Int))) true := by
  rw [num_str]
  exact ws_of (List.all_eq_true.mp small_all n (List.mem_range.mpr h))
theorem wn_names : (["t", "abcdefgh", "zz"] : List Str).all (fun w => okB true (f_is_name [.d (.str w)] [])) = true := by kernel_rfl
theorem wn_bad : (["", "A", "-1", "007", "100", "t1", "abcdefghi", "5"] : List Str).all (fun w => okB false (f_is_name [.d (.str w)] [])) = true := by kernel_rfl
theorem ws_bad : (["", "A", "-1", "007", "100", "t1", "abcdefghi", "a", "01"] : List Str).all (fun w => okB false (f_is_small_number [.d (.str w)] [])) = true := by kernel_rfl
theorem num_w {n : Nat} (h : n < 60) : NumW (Str.ofString (toString ((n : Nat) : Int))) n := by
  have hl : (TL.numL n).length ≤ 2 := TL.numL_len (by decide) (by omega)
  refine ⟨?_, TL.int_num (by omega)⟩
  unfold len640
  refine decide_eq_true ?_
  rw [TL.len_tl, TL.tl_num]
  omega
def numS (n : Nat) : Str := Str.ofString (toString ((n : Nat) : Int))
theorem numS_len {n : Nat} (h : n < 60) : (numS n).length ≤ 2 := by
  have hl : (TL.numL n).length ≤ 2 := TL.numL_len (by decide) (by omega)
  unfold numS
  rw [TL.len_tl, TL.tl_num]
  omega
/-- signs that stand neither for a blank nor for a line's end, few of them -/
def Word (w : Str) : Prop := 32 ∉ TL.tl w ∧ 10 ∉ TL.tl w ∧ w.length ≤ 9 ∧ ∀ c ∈ TL.tl w, c < 128
def wordB (w : Str) : Bool := !(TL.tl w).contains 32 && !(TL.tl w).contains 10 && decide (w.length ≤ 9) && (TL.tl w).all fun c => decide (c < 128)
theorem wordB_ok {w : Str} (h : wordB w = true) : Word w := by
  unfold wordB at h
  rw [Bool.and_eq_true, Bool.and_eq_true, Bool.and_eq_true] at h
  refine ⟨fun z => ?_, fun z => ?_, of_decide_eq_true h.1.2, fun c hc => of_decide_eq_true (List.all_eq_true.mp h.2 c hc)⟩
  · have := h.1.1.1
    rw [List.contains_iff_mem.mpr z] at this
    cases this
  · have := h.1.1.2
    rw [List.contains_iff_mem.mpr z] at this
    cases this
theorem word_num {n : Nat} (h : n < 60) : Word (numS n) := by
  have h1 := numS_len h
  refine ⟨?_, ?_, by omega, fun c hc => ?_⟩
  rotate_left
  rotate_left
  · unfold numS at hc
    rw [TL.tl_num] at hc
    have := TL.numL_digits _ c hc
    omega
  · unfold numS
    rw [TL.tl_num]
    exact TL.numL_free (.inl (by decide))
  · unfold numS
    rw [TL.tl_num]
    exact TL.numL_free (.inl (by decide))
theorem words_lit : (["t", "abcdefgh", "zz", "", "A", "-1", "007", "100", "t1", "abcdefghi", "5", "a", "01", "1"] : List Str).all wordB = true := by kernel_rfl
theorem joinL_len (S : List Nat) : ∀ ps : List (List Nat), (TL.joinL S ps).length ≤ (ps.map List.length).sum + ps.length * S.length
  | [] => Nat.zero_le _
  | [p] => by
    show p.length ≤ _
    simp
  | p :: q :: r => by
    have ih := joinL_len S (q :: r)
    show (p ++ (S ++ TL.joinL S (q :: r))).length ≤ _
    rw [List.length_append, List.length_append, List.map_cons, List.sum_cons, List.length_cons (a := p), Nat.succ_mul]
    omega
theorem joinL_mem {S : List Nat} {c : Nat} : ∀ {ps : List (List Nat)}, c ∈ TL.joinL S ps → c ∈ S ∨ ∃ p ∈ ps, c ∈ p
  | [], h => by cases h
  | [p], h => .inr ⟨p, by simp, h⟩
  | p :: q :: r, h => by
    have h' : c ∈ p ++ (S ++ TL.joinL S (q :: r)) := h
    rcases List.mem_append.mp h' with h' | h'
    · exact .inr ⟨p, by simp, h'⟩
    · rcases List.mem_append.mp h' with h' | h'
      · exact .inl h'
      · rcases joinL_mem h' with z | ⟨x, hx, z⟩
        · exact .inl z
        · exact .inr ⟨x, by simp only [List.mem_cons] at hx ⊢; exact .inr hx, z⟩
theorem sum_le {B : Nat} : ∀ {l : List Nat}, (∀ x ∈ l, x ≤ B) → l.sum ≤ l.length * B
  | [], _ => Nat.zero_le _
  | x :: l, h => by
    have ih := sum_le (l := l) fun y hy => h y (by simp [hy])
    have h1 := h x (by simp)
    rw [List.sum_cons, List.length_cons, Nat.succ_mul]
    omega
theorem tl_space : TL.tl (" " : Str) = 32 :: [] := rfl
theorem tl_nl : TL.tl ("\n" : Str) = 10 :: [] := rfl
theorem tl_empty : TL.tl ("" : Str) = [] := rfl
def rowS (ws : List Str) : Str := Txt.join " " ws
theorem tl_row (ws : List Str) : TL.tl (rowS ws) = TL.joinL [32] (ws.map TL.tl) := by
  unfold rowS
  rw [TL.join_eq, TL.tl_join, tl_space]
theorem row_len {ws : List Str} (hw : ∀ w ∈ ws, Word w) (hl : ws.length ≤ 5) : (rowS ws).length ≤ 50 := by
  have h1 := joinL_len [32] (ws.map TL.tl)
  have h2 : ((ws.map TL.tl).map List.length).sum ≤ ((ws.map TL.tl).map List.length).length * 9 := sum_le fun x hx => by
    obtain ⟨y, hy, rfl⟩ := List.mem_map.mp hx
    obtain ⟨w, h3, rfl⟩ := List.mem_map.mp hy
    rw [← TL.len_tl]
    exact (hw w h3).2.2.1
  rw [TL.len_tl, tl_row]
  simp only [List.length_map, List.length_singleton] at h1 h2
  omega
theorem row_nl {ws : List Str} (hw : ∀ w ∈ ws, Word w) : 10 ∉ TL.tl (rowS ws) := fun z => by
  rw [tl_row] at z
  rcases joinL_mem z with z | ⟨p, hp, z⟩
  · simp at z
  · obtain ⟨w, h3, rfl⟩ := List.mem_map.mp hp
    exact (hw w h3).2.1 z
theorem row_ln {ws : List Str} (h0 : ws ≠ []) (hw : ∀ w ∈ ws, Word w) (hl : ws.length ≤ 5) : LnW (rowS ws) ws := by
  have h1 := row_len hw hl
  refine ⟨decide_eq_true (by omega), ?_⟩
  exact TL.split_join tl_space (by decide +kernel) h0 fun p hp => (hw p hp).1
/-- a text of rows -/
def textS (rows : List Str) : Str := Txt.join "" (rows.map fun r => r ++ ("\n" : Str))
theorem joinL_nil : ∀ ps : List (List Nat), TL.joinL [] ps = ps.flatten
  | [] => rfl
  | [p] => by simp [TL.joinL]
  | p :: q :: r => by
    show p ++ ([] ++ TL.joinL [] (q :: r)) = _
    rw [joinL_nil (q :: r)]
    simp
theorem tl_text (rows : List Str) : TL.tl (textS rows) = (rows.map fun r => TL.tl r ++ [10]).flatten := by
  unfold textS
  rw [TL.join_eq, TL.tl_join, tl_empty, joinL_nil, List.map_map]
  congr 1
  apply List.map_congr_left
  intro r _
  show TL.tl (r ++ ("\n" : Str)) = _
  rw [TL.tl_append, tl_nl]
theorem joinL_end : ∀ (ps : List (List Nat)) (t : List Nat), TL.joinL [10] (ps ++ [t]) = (ps.map fun r => r ++ [10]).flatten ++ t
  | [], t => rfl
  | p :: ps, t => by
    have ih := joinL_end ps t
    cases ps with
    | nil =>
      show p ++ ([10] ++ t) = _
      simp
    | cons q r =>
      show p ++ ([10] ++ TL.joinL [10] (q :: (r ++ [t]))) = _
      rw [show q :: (r ++ [t]) = (q :: r) ++ [t] from rfl, ih]
      simp
theorem text_join (rows : List Str) (tail : Str) : textS rows ++ tail = Txt.join "\n" (rows ++ [tail]) := by
  refine TL.ext_tl ?_
  rw [TL.tl_append, tl_text, TL.join_eq, TL.tl_join, tl_nl, List.map_append, List.map_singleton, joinL_end, List.map_map]
  rfl
theorem text_len {rows : List Str} (hl : ∀ r ∈ rows, r.length ≤ 50) (hn : rows.length ≤ 20) : (textS rows).length ≤ 1020 := by
  rw [TL.len_tl, tl_text, List.length_flatten]
  have h : ((rows.map fun r => TL.tl r ++ [10]).map List.length).sum ≤ ((rows.map fun r => TL.tl r ++ [10]).map List.length).length * 51 := sum_le fun x hx => by
    obtain ⟨y, hy, rfl⟩ := List.mem_map.mp hx
    obtain ⟨r, hr, rfl⟩ := List.mem_map.mp hy
    have := hl r hr
    rw [List.length_append, List.length_singleton, ← TL.len_tl]
    omega
  simp only [List.length_map] at h
  omega
theorem text_ln {rows : List Str} {tail : Str} (hl : ∀ r ∈ rows, r.length ≤ 50) (hn : rows.length ≤ 20) (hf : ∀ r ∈ rows, 10 ∉ TL.tl r) (ht : 10 ∉ TL.tl tail) (htl : tail.length ≤ 10) : LnT (textS rows ++ tail) (rows ++ [tail]) := by
  have h1 := text_len hl hn
  refine ⟨decide_eq_true ?_, ?_⟩
  · rw [TL.len_tl, TL.tl_append, List.length_append, ← TL.len_tl, ← TL.len_tl]
    omega
  · rw [text_join]
    refine TL.split_join tl_nl (by decide +kernel) (by simp) fun p hp => ?_
    rcases List.mem_append.mp hp with hp | hp
    · exact hf p hp
    · rw [List.mem_singleton.mp hp]
      exact ht
theorem str_nil (x : Str) : x ++ ("" : Str) = x := TL.ext_tl (by rw [TL.tl_append, tl_empty, List.append_nil])
theorem strsD_map : ∀ ys : List Str, strsD (ys.map .str) = some ys
  | [] => rfl
  | y :: ys => by
    show (strsD (ys.map .str)).map (y :: ·) = _
    rw [strsD_map ys]
    rfl
theorem pJoin_lst {a : Str} {ys : List Str} (h : (ys.map Str.length).sum + ys.length * a.length ≤ 16777216) : pJoin (.str a) [.lst (ys.map .str)] = some (.str (Txt.join a ys)) := by
  show (match lsI (.lst (ys.map .str)) with
    | some ds => (match strsD ds with
      | some ys => if szOk ((ys.map Str.length).sum + ys.length * a.length) = true then some (D.str (Txt.join a ys)) else none
      | none => none)
    | none => none) = _
  show (match strsD (ys.map .str) with
      | some ys => if szOk ((ys.map Str.length).sum + ys.length * a.length) = true then some (D.str (Txt.join a ys)) else none
      | none => none) = _
  rw [strsD_map]
  exact if_pos (szOk_of h)
theorem join_row {ws : List Str} (hw : ∀ w ∈ ws, w.length ≤ 9) (hl : ws.length ≤ 5) : pJoin (.str " ") [.lst (ws.map .str)] = some (.str (rowS ws)) := by
  refine pJoin_lst ?_
  have h : (ws.map Str.length).sum ≤ (ws.map Str.length).length * 9 := sum_le fun x hx => by
    obtain ⟨w, h3, rfl⟩ := List.mem_map.mp hx
    exact hw w h3
  rw [List.length_map] at h
  have e : Str.length " " = 1 := rfl
  rw [e]
  omega
theorem join_text {rows : List Str} (hl : ∀ r ∈ rows, r.length ≤ 50) (hn : rows.length ≤ 20) : pJoin (.str "") [.lst ((rows.map fun r => r ++ ("\n" : Str)).map .str)] = some (.str (textS rows)) := by
  refine pJoin_lst ?_
  have h : ((rows.map fun r => r ++ ("\n" : Str)).map Str.length).sum ≤ ((rows.map fun r => r ++ ("\n" : Str)).map Str.length).length * 51 := sum_le fun x hx => by
    obtain ⟨w, h3, rfl⟩ := List.mem_map.mp hx
    obtain ⟨r, hr, rfl⟩ := List.mem_map.mp h3
    have := hl r hr
    show (r ++ ("\n" : Str)).length ≤ 51
    rw [TL.len_tl, TL.tl_append, tl_nl, List.length_append, ← TL.len_tl]
    simp
    omega
  rw [List.length_map] at h
  have e : Str.length "" = 0 := rfl
  rw [e]
  simp only [List.length_map] at h ⊢
  omega
theorem row_128 {ws : List Str} (hw : ∀ w ∈ ws, Word w) : ∀ c ∈ TL.tl (rowS ws), c < 128 := fun c z => by
  rw [tl_row] at z
  rcases joinL_mem z with z | ⟨p, hp, z⟩
  · rw [List.mem_singleton.mp z]
    decide
  · obtain ⟨w, h3, rfl⟩ := List.mem_map.mp hp
    exact (hw w h3).2.2.2 c z
theorem ok_128 {x : Str} (h : ∀ c ∈ TL.tl x, c < 128) : PyData.strOk x = true := by
  unfold PyData.strOk
  rw [Array.all_eq_true]
  intro i hi
  have := h x.cps[i] (Array.getElem_mem_toList hi)
  exact decide_eq_true (by omega)
abbrev Ent := Str × List Nat
def nameL : List Str := ["t", "abcdefgh", "zz"]
def OkE (m : Nat) (e : Ent) : Prop := e.1 ∈ nameL ∧ (∀ k ∈ e.2, k < 60) ∧ m ≤ e.2.length ∧ e.2.length ≤ m + 1
def eW (e : Ent) : List Str := e.1 :: e.2.map numS
def eRow (e : Ent) : Str := rowS (eW e)
def gotD (m : Nat) (e : Ent) : D := if m < e.2.length then .int (e.2.getD m 0 : Nat) else .non
def told (m : Nat) (e : Ent) : D := .tup ([.str e.1] ++ (e.2.take m).map (fun k => D.int (k : Nat)) ++ [gotD m e])
theorem name_wn {w : Str} (h : w ∈ nameL) : WN w true := wn_of (List.all_eq_true.mp wn_names w h)
theorem name_word {w : Str} (h : w ∈ nameL) : Word w := wordB_ok (List.all_eq_true.mp words_lit w (by
  unfold nameL at h
  simp only [List.mem_cons, List.mem_nil_iff, or_false] at h ⊢
  rcases h with h | h | h
  · exact .inl h
  · exact .inr (.inl h)
  · exact .inr (.inr (.inl h))))
theorem eW_word {m : Nat} {e : Ent} (h : OkE m e) : ∀ w ∈ eW e, Word w := fun w hw => by
  rcases List.mem_cons.mp hw with rfl | hw
  · exact name_word h.1
  · obtain ⟨k, hk, rfl⟩ := List.mem_map.mp hw
    exact word_num (h.2.1 k hk)
theorem eW_wa {m : Nat} {e : Ent} (h : OkE m e) : ∀ j w, (eW e)[j]? = some w → WA j w true := fun j w hj => by
  cases j with
  | zero =>
    cases hj
    unfold WA
    rw [if_pos rfl]
    exact name_wn h.1
  | succ j =>
    have hj' : (e.2.map numS)[j]? = some w := hj
    rw [List.getElem?_map] at hj'
    obtain ⟨k, hk, rfl⟩ := Option.map_eq_some_iff.mp hj'
    unfold WA
    rw [if_neg (by omega)]
    exact ws_num (h.2.1 k (List.mem_of_getElem? hk))
theorem eW_num : ∀ {ks : List Nat}, (∀ k ∈ ks, k < 60) → Al2 NumW (ks.map numS) (ks.map fun k : Nat => (k : Int))
  | [], _ => .nil
  | k :: ks, h => .cons (num_w (h k (by simp))) (eW_num fun y hy => h y (by simp [hy]))
theorem e_good {m : Nat} (hm : m ≤ 1) {e : Ent} (h : OkE m e) : Good m (eRow e) (rowD m e.1 (e.2.map fun k : Nat => (k : Int))) := by
  have hl := h.2.2.2
  refine ⟨e.1, e.2.map numS, _, row_ln (List.cons_ne_nil _ _) (eW_word h) ?_, eW_wa h, ?_, ?_, eW_num h.2.1, rfl⟩
  · show (e.2.map numS).length + 1 ≤ 5
    rw [List.length_map]
    omega
  · rw [List.length_map]
    exact h.2.2.1
  · rw [List.length_map]
    exact hl
theorem es_good {m : Nat} (hm : m ≤ 1) : ∀ {es : List Ent}, (∀ e ∈ es, OkE m e) → Al2 (Good m) (es.map eRow) (es.map fun e => rowD m e.1 (e.2.map fun k : Nat => (k : Int)))
  | [], _ => .nil
  | e :: es, h => .cons (e_good hm (h e (by simp))) (es_good hm fun y hy => h y (by simp [hy]))
theorem row_got (m : Nat) (e : Ent) : (if (m : Int) < (e.2.map fun k : Nat => (k : Int)).length then D.int ((e.2.map fun k : Nat => (k : Int)).getD m 0) else .non) = gotD m e := by
  unfold gotD
  rw [List.length_map]
  by_cases h : m < e.2.length
  · rw [if_pos h, if_pos (by omega)]
    rw [List.getD_eq_getElem?_getD, List.getD_eq_getElem?_getD, List.getElem?_map, List.getElem?_eq_getElem h]
    rfl
  · rw [if_neg h, if_neg (by omega)]
/-- what is read, made a row of entries -/
theorem run_lc {δ : Sl} {h : Hea} (hd : δ.length = 4) (es : List Ent) : lcL (gtup 3 (gcons (gnm 1) (gcons (gnm 2) (gcons (gnm 3) gnil)))) (mret true) (mbnd (mcons (vr 1) (mcons (vr 3) mnil)) tupE) δ ((es.map fun e => rowD 0 e.1 (e.2.map fun k : Nat => (k : Int))).map .d) h = some ((es.map fun e => .d (told 0 e)), h) := by
  obtain ⟨a, b, c, d, rfl⟩ : ∃ a b c d, δ = [a, b, c, d] := by
    match δ, hd with
    | [a, b, c, d], _ => exact ⟨a, b, c, d, rfl⟩
  induction es with
  | nil => rfl
  | cons e es ih =>
    rw [List.map_cons, List.map_cons, List.map_cons]
    unfold lcL
    have e1 : gtup 3 (gcons (gnm 1) (gcons (gnm 2) (gcons (gnm 3) gnil))) (.d (rowD 0 e.1 (e.2.map fun k : Nat => (k : Int)))) [a, b, c, d] h = some ([a, some (.d (.str e.1)), some (.d (.lst [])), some (.d (gotD 0 e))], h) := by
      unfold rowD
      rw [row_got]
      rfl
    have e2 : mbnd (mcons (vr 1) (mcons (vr 3) mnil)) tupE [a, some (.d (.str e.1)), some (.d (.lst [])), some (.d (gotD 0 e))] h = some (.ok (.d (told 0 e)) h) := rfl
    simp only [e1, e2, mret, ih]
theorem log_lc {δ : Sl} {h : Hea} (hd : δ.length = 4) : ∀ (es : List Ent), (∀ e ∈ es, OkE 1 e) → lcL (gtup 3 (gcons (gnm 1) (gcons (gnm 2) (gcons (gnm 3) gnil)))) (mret true) (mbnd (mcons (vr 1) (mcons (ixE (vr 2) (cn (.int 0))) (mcons (vr 3) mnil))) tupE) δ ((es.map fun e => rowD 1 e.1 (e.2.map fun k : Nat => (k : Int))).map .d) h = some ((es.map fun e => .d (told 1 e)), h)
  | [], _ => rfl
  | e :: es, ho => by
    have ih := log_lc hd (h := h) es fun y hy => ho y (by simp [hy])
    obtain ⟨a, b, c, d, rfl⟩ : ∃ a b c d, δ = [a, b, c, d] := by
      match δ, hd with
      | [a, b, c, d], _ => exact ⟨a, b, c, d, rfl⟩
    rw [List.map_cons, List.map_cons, List.map_cons]
    unfold lcL
    obtain ⟨t, ks⟩ := e
    have hk := (ho (t, ks) (by simp)).2.2.1
    obtain ⟨k, ks, rfl⟩ : ∃ k ks', ks = k :: ks' := by
      cases ks with
      | nil => simp at hk
      | cons k ks => exact ⟨k, ks, rfl⟩
    have e1 : gtup 3 (gcons (gnm 1) (gcons (gnm 2) (gcons (gnm 3) gnil))) (.d (rowD 1 t ((k :: ks).map fun k : Nat => (k : Int)))) [a, b, c, d] h = some ([a, some (.d (.str t)), some (.d (.lst [.int k])), some (.d (gotD 1 (t, k :: ks)))], h) := by
      unfold rowD
      rw [row_got 1 (t, k :: ks)]
      rfl
    have e2 : mbnd (mcons (vr 1) (mcons (ixE (vr 2) (cn (.int 0))) (mcons (vr 3) mnil))) tupE [a, some (.d (.str t)), some (.d (.lst [.int k])), some (.d (gotD 1 (t, k :: ks)))] h = some (.ok (.d (told 1 (t, k :: ks))) h) := rfl
    simp only [e1, e2, mret, ih]
def f_read (m : Nat) : FM := if m = 0 then f_read_run else f_read_log
theorem allD_es {m : Nat} (es : List Ent) : allD (es.map fun e => U.d (told m e)) = some (es.map (told m)) := by
  have := allD_map (es.map (told m))
  rw [List.map_map] at this
  exact this
theorem read_ok {m : Nat} (hm : m ≤ 1) {text : Str} {es : List Ent} (ho : ∀ e ∈ es, OkE m e) (hl : es.length < 1000) (ht : LnT text (es.map eRow ++ [("" : Str)])) : ∃ hh, f_read m [.d (.str text)] [] = some (.ok (.d (.tup (es.map (told m)))) hh) := by
  obtain ⟨hh, e⟩ := rows_good hm ht (es_good hm ho) (by rw [List.length_map]; exact hl)
  have hm2 : m = 0 ∨ m = 1 := by omega
  have hz : szOk ((es.map fun e => rowD m e.1 (e.2.map fun k : Nat => (k : Int))).map U.d).length = true := szOk_of (by simp; omega)
  rcases hm2 with rfl | rfl
  · have key : ∃ x h', fnM 4 b_read_run [.d (.str text)] [] = some (.ok (.d x) h') ∧ x = .tup (es.map (told 0)) := by
      refine fnM_pure ?_
      show OkS b_read_run [some (.d (.str text)), none, none, none] [] _
      unfold b_read_run
      repeat (first
        | (with_reducible first | refine okm_ret ?_ | refine okm_cn ?_ | refine okm_op2 ?_ | refine okm_tst ?_ | refine okm_ifE ?_ | refine okm_mnil ?_ | refine okm_mcons ?_ | refine okm_notT ?_ | refine okm_notV ?_ | refine okm_chain ?_ | refine okm_andT ?_ | refine okm_orT ?_ | refine okm_andV ?_ | refine okm_orV ?_ | refine okm_unE ?_ | refine okm_fnE ?_ | refine okm_lenE ?_ | refine okm_ixE ?_ | refine okm_ptN ?_ | refine okm_ptS ?_ | refine okm_slE ?_ | refine okm_bmE ?_ | refine okm_isiE ?_ | refine okm_itE ?_ | refine okm_itN ?_ | refine okm_it1 ?_ | refine okm_lcM ?_ | refine okm_callP ?_ | refine okm_callM ?_ | refine okm_fz ?_ | refine okm_fzD ?_ | refine okm_lmE ?_ | refine okm_spNE ?_ | refine oks_seq ?_ | refine oks_if ?_ | refine oks_set ?_ | refine oks_asg ?_ | refine oks_sret ?_ | refine oks_sexp ?_ | refine oks_snx ?_ | refine oks_for ?_ | refine oks_aug ?_ | refine oks_augS ?_ | refine oks_raise ?_ | refine okm_bnd ?_)
        | ((with_reducible apply okm_vr); (· rfl))
        | ((with_reducible apply okm_tupE); (· rfl); (· rfl)) | ((with_reducible apply okm_lstE); (· rfl); (· rfl)) | ((with_reducible apply okm_lstN); (· rfl))
        | ((with_reducible apply op_rfl); (· rfl); (· rfl); (· rfl)) | ((with_reducible apply o1_rfl); (· rfl); (· rfl)) | ((with_reducible apply of_rfl); (· rfl); (· rfl))
        | (with_reducible refine wp_t ?_) | (with_reducible refine wp_f ?_) | (with_reducible refine wp_nt ?_) | (with_reducible refine wp_nf ?_)
        | ((with_reducible apply ex_t); (· rfl)) | ((with_reducible apply ex_f); (· rfl))
        | ((with_reducible apply ex_and4); (· rfl); (· rfl); (· rfl)) | ((with_reducible apply ex_and3); (· rfl); (· rfl)) | ((with_reducible apply ex_and2); (· rfl)) | ((with_reducible apply ex_and); (· rfl))
        | ((with_reducible apply isT_and); (· rfl)) | ((with_reducible apply ex_bm); (· rfl); (· rfl); (· rfl))
        | dsimp only)
      refine ⟨rfl, _, _, hh, rfl, e, ?_⟩
      repeat (first
        | (with_reducible first | refine okm_ret ?_ | refine okm_cn ?_ | refine okm_op2 ?_ | refine okm_tst ?_ | refine okm_ifE ?_ | refine okm_mnil ?_ | refine okm_mcons ?_ | refine okm_notT ?_ | refine okm_notV ?_ | refine okm_chain ?_ | refine okm_andT ?_ | refine okm_orT ?_ | refine okm_andV ?_ | refine okm_orV ?_ | refine okm_unE ?_ | refine okm_fnE ?_ | refine okm_lenE ?_ | refine okm_ixE ?_ | refine okm_ptN ?_ | refine okm_ptS ?_ | refine okm_slE ?_ | refine okm_bmE ?_ | refine okm_isiE ?_ | refine okm_itE ?_ | refine okm_itN ?_ | refine okm_it1 ?_ | refine okm_lcM ?_ | refine okm_callP ?_ | refine okm_callM ?_ | refine okm_fz ?_ | refine okm_fzD ?_ | refine okm_lmE ?_ | refine okm_spNE ?_ | refine oks_seq ?_ | refine oks_if ?_ | refine oks_set ?_ | refine oks_asg ?_ | refine oks_sret ?_ | refine oks_sexp ?_ | refine oks_snx ?_ | refine oks_for ?_ | refine oks_aug ?_ | refine oks_augS ?_ | refine oks_raise ?_ | refine okm_bnd ?_)
        | ((with_reducible apply okm_vr); (· rfl))
        | ((with_reducible apply okm_tupE); (· rfl); (· rfl)) | ((with_reducible apply okm_lstE); (· rfl); (· rfl)) | ((with_reducible apply okm_lstN); (· rfl))
        | ((with_reducible apply op_rfl); (· rfl); (· rfl); (· rfl)) | ((with_reducible apply o1_rfl); (· rfl); (· rfl)) | ((with_reducible apply of_rfl); (· rfl); (· rfl))
        | (with_reducible refine wp_t ?_) | (with_reducible refine wp_f ?_) | (with_reducible refine wp_nt ?_) | (with_reducible refine wp_nf ?_)
        | ((with_reducible apply ex_t); (· rfl)) | ((with_reducible apply ex_f); (· rfl))
        | ((with_reducible apply ex_and4); (· rfl); (· rfl); (· rfl)) | ((with_reducible apply ex_and3); (· rfl); (· rfl)) | ((with_reducible apply ex_and2); (· rfl)) | ((with_reducible apply ex_and); (· rfl))
        | ((with_reducible apply isT_and); (· rfl)) | ((with_reducible apply ex_bm); (· rfl); (· rfl); (· rfl))
        | dsimp only)
      refine ⟨hz, _, _, run_lc rfl es, ?_⟩
      refine okm_lstF (allD_es es) ?_
      repeat (first
        | (with_reducible first | refine okm_ret ?_ | refine okm_cn ?_ | refine okm_op2 ?_ | refine okm_tst ?_ | refine okm_ifE ?_ | refine okm_mnil ?_ | refine okm_mcons ?_ | refine okm_notT ?_ | refine okm_notV ?_ | refine okm_chain ?_ | refine okm_andT ?_ | refine okm_orT ?_ | refine okm_andV ?_ | refine okm_orV ?_ | refine okm_unE ?_ | refine okm_fnE ?_ | refine okm_lenE ?_ | refine okm_ixE ?_ | refine okm_ptN ?_ | refine okm_ptS ?_ | refine okm_slE ?_ | refine okm_bmE ?_ | refine okm_isiE ?_ | refine okm_itE ?_ | refine okm_itN ?_ | refine okm_it1 ?_ | refine okm_lcM ?_ | refine okm_callP ?_ | refine okm_callM ?_ | refine okm_fz ?_ | refine okm_fzD ?_ | refine okm_lmE ?_ | refine okm_spNE ?_ | refine oks_seq ?_ | refine oks_if ?_ | refine oks_set ?_ | refine oks_asg ?_ | refine oks_sret ?_ | refine oks_sexp ?_ | refine oks_snx ?_ | refine oks_for ?_ | refine oks_aug ?_ | refine oks_augS ?_ | refine oks_raise ?_ | refine okm_bnd ?_)
        | ((with_reducible apply okm_vr); (· rfl))
        | ((with_reducible apply okm_tupE); (· rfl); (· rfl)) | ((with_reducible apply okm_lstE); (· rfl); (· rfl)) | ((with_reducible apply okm_lstN); (· rfl))
        | ((with_reducible apply op_rfl); (· rfl); (· rfl); (· rfl)) | ((with_reducible apply o1_rfl); (· rfl); (· rfl)) | ((with_reducible apply of_rfl); (· rfl); (· rfl))
        | (with_reducible refine wp_t ?_) | (with_reducible refine wp_f ?_) | (with_reducible refine wp_nt ?_) | (with_reducible refine wp_nf ?_)
        | ((with_reducible apply ex_t); (· rfl)) | ((with_reducible apply ex_f); (· rfl))
        | ((with_reducible apply ex_and4); (· rfl); (· rfl); (· rfl)) | ((with_reducible apply ex_and3); (· rfl); (· rfl)) | ((with_reducible apply ex_and2); (· rfl)) | ((with_reducible apply ex_and); (· rfl))
        | ((with_reducible apply isT_and); (· rfl)) | ((with_reducible apply ex_bm); (· rfl); (· rfl); (· rfl))
        | dsimp only)
    obtain ⟨x, h', e, rfl⟩ := key
    exact ⟨h', e⟩
  · have key : ∃ x h', fnM 4 b_read_log [.d (.str text)] [] = some (.ok (.d x) h') ∧ x = .tup (es.map (told 1)) := by
      refine fnM_pure ?_
      show OkS b_read_log [some (.d (.str text)), none, none, none] [] _
      unfold b_read_log
      repeat (first
        | (with_reducible first | refine okm_ret ?_ | refine okm_cn ?_ | refine okm_op2 ?_ | refine okm_tst ?_ | refine okm_ifE ?_ | refine okm_mnil ?_ | refine okm_mcons ?_ | refine okm_notT ?_ | refine okm_notV ?_ | refine okm_chain ?_ | refine okm_andT ?_ | refine okm_orT ?_ | refine okm_andV ?_ | refine okm_orV ?_ | refine okm_unE ?_ | refine okm_fnE ?_ | refine okm_lenE ?_ | refine okm_ixE ?_ | refine okm_ptN ?_ | refine okm_ptS ?_ | refine okm_slE ?_ | refine okm_bmE ?_ | refine okm_isiE ?_ | refine okm_itE ?_ | refine okm_itN ?_ | refine okm_it1 ?_ | refine okm_lcM ?_ | refine okm_callP ?_ | refine okm_callM ?_ | refine okm_fz ?_ | refine okm_fzD ?_ | refine okm_lmE ?_ | refine okm_spNE ?_ | refine oks_seq ?_ | refine oks_if ?_ | refine oks_set ?_ | refine oks_asg ?_ | refine oks_sret ?_ | refine oks_sexp ?_ | refine oks_snx ?_ | refine oks_for ?_ | refine oks_aug ?_ | refine oks_augS ?_ | refine oks_raise ?_ | refine okm_bnd ?_)
        | ((with_reducible apply okm_vr); (· rfl))
        | ((with_reducible apply okm_tupE); (· rfl); (· rfl)) | ((with_reducible apply okm_lstE); (· rfl); (· rfl)) | ((with_reducible apply okm_lstN); (· rfl))
        | ((with_reducible apply op_rfl); (· rfl); (· rfl); (· rfl)) | ((with_reducible apply o1_rfl); (· rfl); (· rfl)) | ((with_reducible apply of_rfl); (· rfl); (· rfl))
        | (with_reducible refine wp_t ?_) | (with_reducible refine wp_f ?_) | (with_reducible refine wp_nt ?_) | (with_reducible refine wp_nf ?_)
        | ((with_reducible apply ex_t); (· rfl)) | ((with_reducible apply ex_f); (· rfl))
        | ((with_reducible apply ex_and4); (· rfl); (· rfl); (· rfl)) | ((with_reducible apply ex_and3); (· rfl); (· rfl)) | ((with_reducible apply ex_and2); (· rfl)) | ((with_reducible apply ex_and); (· rfl))
        | ((with_reducible apply isT_and); (· rfl)) | ((with_reducible apply ex_bm); (· rfl); (· rfl); (· rfl))
        | dsimp only)
      refine ⟨rfl, _, _, hh, rfl, e, ?_⟩
      repeat (first
        | (with_reducible first | refine okm_ret ?_ | refine okm_cn ?_ | refine okm_op2 ?_ | refine okm_tst ?_ | refine okm_ifE ?_ | refine okm_mnil ?_ | refine okm_mcons ?_ | refine okm_notT ?_ | refine okm_notV ?_ | refine okm_chain ?_ | refine okm_andT ?_ | refine okm_orT ?_ | refine okm_andV ?_ | refine okm_orV ?_ | refine okm_unE ?_ | refine okm_fnE ?_ | refine okm_lenE ?_ | refine okm_ixE ?_ | refine okm_ptN ?_ | refine okm_ptS ?_ | refine okm_slE ?_ | refine okm_bmE ?_ | refine okm_isiE ?_ | refine okm_itE ?_ | refine okm_itN ?_ | refine okm_it1 ?_ | refine okm_lcM ?_ | refine okm_callP ?_ | refine okm_callM ?_ | refine okm_fz ?_ | refine okm_fzD ?_ | refine okm_lmE ?_ | refine okm_spNE ?_ | refine oks_seq ?_ | refine oks_if ?_ | refine oks_set ?_ | refine oks_asg ?_ | refine oks_sret ?_ | refine oks_sexp ?_ | refine oks_snx ?_ | refine oks_for ?_ | refine oks_aug ?_ | refine oks_augS ?_ | refine oks_raise ?_ | refine okm_bnd ?_)
        | ((with_reducible apply okm_vr); (· rfl))
        | ((with_reducible apply okm_tupE); (· rfl); (· rfl)) | ((with_reducible apply okm_lstE); (· rfl); (· rfl)) | ((with_reducible apply okm_lstN); (· rfl))
        | ((with_reducible apply op_rfl); (· rfl); (· rfl); (· rfl)) | ((with_reducible apply o1_rfl); (· rfl); (· rfl)) | ((with_reducible apply of_rfl); (· rfl); (· rfl))
        | (with_reducible refine wp_t ?_) | (with_reducible refine wp_f ?_) | (with_reducible refine wp_nt ?_) | (with_reducible refine wp_nf ?_)
        | ((with_reducible apply ex_t); (· rfl)) | ((with_reducible apply ex_f); (· rfl))
        | ((with_reducible apply ex_and4); (· rfl); (· rfl); (· rfl)) | ((with_reducible apply ex_and3); (· rfl); (· rfl)) | ((with_reducible apply ex_and2); (· rfl)) | ((with_reducible apply ex_and); (· rfl))
        | ((with_reducible apply isT_and); (· rfl)) | ((with_reducible apply ex_bm); (· rfl); (· rfl); (· rfl))
        | dsimp only)
      refine ⟨hz, _, _, log_lc rfl es ho, ?_⟩
      refine okm_lstF (allD_es es) ?_
      repeat (first
        | (with_reducible first | refine okm_ret ?_ | refine okm_cn ?_ | refine okm_op2 ?_ | refine okm_tst ?_ | refine okm_ifE ?_ | refine okm_mnil ?_ | refine okm_mcons ?_ | refine okm_notT ?_ | refine okm_notV ?_ | refine okm_chain ?_ | refine okm_andT ?_ | refine okm_orT ?_ | refine okm_andV ?_ | refine okm_orV ?_ | refine okm_unE ?_ | refine okm_fnE ?_ | refine okm_lenE ?_ | refine okm_ixE ?_ | refine okm_ptN ?_ | refine okm_ptS ?_ | refine okm_slE ?_ | refine okm_bmE ?_ | refine okm_isiE ?_ | refine okm_itE ?_ | refine okm_itN ?_ | refine okm_it1 ?_ | refine okm_lcM ?_ | refine okm_callP ?_ | refine okm_callM ?_ | refine okm_fz ?_ | refine okm_fzD ?_ | refine okm_lmE ?_ | refine okm_spNE ?_ | refine oks_seq ?_ | refine oks_if ?_ | refine oks_set ?_ | refine oks_asg ?_ | refine oks_sret ?_ | refine oks_sexp ?_ | refine oks_snx ?_ | refine oks_for ?_ | refine oks_aug ?_ | refine oks_augS ?_ | refine oks_raise ?_ | refine okm_bnd ?_)
        | ((with_reducible apply okm_vr); (· rfl))
        | ((with_reducible apply okm_tupE); (· rfl); (· rfl)) | ((with_reducible apply okm_lstE); (· rfl); (· rfl)) | ((with_reducible apply okm_lstN); (· rfl))
        | ((with_reducible apply op_rfl); (· rfl); (· rfl); (· rfl)) | ((with_reducible apply o1_rfl); (· rfl); (· rfl)) | ((with_reducible apply of_rfl); (· rfl); (· rfl))
        | (with_reducible refine wp_t ?_) | (with_reducible refine wp_f ?_) | (with_reducible refine wp_nt ?_) | (with_reducible refine wp_nf ?_)
        | ((with_reducible apply ex_t); (· rfl)) | ((with_reducible apply ex_f); (· rfl))
        | ((with_reducible apply ex_and4); (· rfl); (· rfl); (· rfl)) | ((with_reducible apply ex_and3); (· rfl); (· rfl)) | ((with_reducible apply ex_and2); (· rfl)) | ((with_reducible apply ex_and); (· rfl))
        | ((with_reducible apply isT_and); (· rfl)) | ((with_reducible apply ex_bm); (· rfl); (· rfl); (· rfl))
        | dsimp only)
    obtain ⟨x, h', e, rfl⟩ := key
    exact ⟨h', e⟩
theorem read_exc {m : Nat} (hm : m ≤ 1) {x : D} {e : Exn} (he : ∃ hh, f_read_rows [.d x, .d (.int m)] [] = some (.exc e hh)) : ∃ hh, f_read m [.d x] [] = some (.exc e hh) := by
  obtain ⟨hh, e⟩ := he
  have hm2 : m = 0 ∨ m = 1 := by omega
  rcases hm2 with rfl | rfl
  · refine fnM_exc ⟨.ex _ [some (.d x), none, none, none] [], ?_, _, _, rfl⟩
    show b_read_run [some (.d x), none, none, none] [] = _
    unfold b_read_run
    simp [sret, sbnd, fnE, mbnd, mcons, lcM, itE, callP, vr, cn, mret, mnil, allD, U.toD, pureR]
    rw [show f_read_rows [.d x, .d (.int 0)] [] = some (.exc _ hh) from e]
  · refine fnM_exc ⟨.ex _ [some (.d x), none, none, none] [], ?_, _, _, rfl⟩
    show b_read_log [some (.d x), none, none, none] [] = _
    unfold b_read_log
    simp [sret, sbnd, fnE, mbnd, mcons, lcM, itE, callP, vr, cn, mret, mnil, allD, U.toD, pureR]
    rw [show f_read_rows [.d x, .d (.int 1)] [] = some (.exc _ hh) from e]
theorem okm_eq2 {α : Type} {f : M α} {δ : Sl} {h h2 : Hea} {x : α} (o : OkM f δ h fun a h' => a = x ∧ h' = h2) : f δ h = some (.ok x h2) := by
  obtain ⟨a, h', e, rfl, rfl⟩ := o
  exact e
def gotS (m : Nat) (e : Ent) : Str := if m < e.2.length then " " ++ numS (e.2.getD m 0) else ""
theorem str_ok {n : Nat} (h : n < 60) : pStr [.int n] = some (.str (numS n)) := by
  show (if strOk (n : Int) = true then some (D.str (Str.ofString (toString (n : Int)))) else none) = _
  have e : strOk (n : Int) = true := decide_eq_true (Nat.lt_of_le_of_lt (log2_small (n := 60) (k := 10) (by omega) (by decide)) (by decide))
  rw [if_pos e]
  rfl
theorem got_ok {m : Nat} {e : Ent} (h : OkE m e) : ∃ hh, f_got_text [.d (gotD m e)] [] = some (.ok (.d (.str (gotS m e))) hh) := by
  have key : ∃ x h', fnM 1 b_got_text [.d (gotD m e)] [] = some (.ok (.d x) h') ∧ x = .str (gotS m e) := by
    refine fnM_pure ?_
    show OkS b_got_text [some (.d (gotD m e))] [] _
    unfold b_got_text gotD gotS
    by_cases hm : m < e.2.length
    · rw [if_pos hm, if_pos hm]
      have hk : e.2.getD m 0 < 60 := by
        rw [List.getD_eq_getElem?_getD, List.getElem?_eq_getElem hm]
        exact h.2.1 _ (List.getElem_mem hm)
      repeat (first
        | (with_reducible first | refine okm_ret ?_ | refine okm_cn ?_ | refine okm_op2 ?_ | refine okm_tst ?_ | refine okm_ifE ?_ | refine okm_mnil ?_ | refine okm_mcons ?_ | refine okm_notT ?_ | refine okm_notV ?_ | refine okm_chain ?_ | refine okm_andT ?_ | refine okm_orT ?_ | refine okm_andV ?_ | refine okm_orV ?_ | refine okm_unE ?_ | refine okm_fnE ?_ | refine okm_lenE ?_ | refine okm_ixE ?_ | refine okm_ptN ?_ | refine okm_ptS ?_ | refine okm_slE ?_ | refine okm_bmE ?_ | refine okm_isiE ?_ | refine okm_itE ?_ | refine okm_itN ?_ | refine okm_it1 ?_ | refine okm_lcM ?_ | refine okm_callP ?_ | refine okm_callM ?_ | refine okm_fz ?_ | refine okm_fzD ?_ | refine okm_lmE ?_ | refine okm_spNE ?_ | refine oks_seq ?_ | refine oks_if ?_ | refine oks_set ?_ | refine oks_asg ?_ | refine oks_sret ?_ | refine oks_sexp ?_ | refine oks_snx ?_ | refine oks_for ?_ | refine oks_aug ?_ | refine oks_augS ?_ | refine oks_raise ?_ | refine okm_bnd ?_)
        | ((with_reducible apply okm_vr); (· rfl))
        | ((with_reducible apply okm_tupE); (· rfl); (· rfl)) | ((with_reducible apply okm_lstE); (· rfl); (· rfl)) | ((with_reducible apply okm_lstN); (· rfl))
        | ((with_reducible apply op_rfl); (· rfl); (· rfl); (· rfl)) | ((with_reducible apply o1_rfl); (· rfl); (· rfl)) | ((with_reducible apply of_rfl); (· rfl); (· rfl))
        | (with_reducible refine wp_t ?_) | (with_reducible refine wp_f ?_) | (with_reducible refine wp_nt ?_) | (with_reducible refine wp_nf ?_)
        | ((with_reducible apply ex_t); (· rfl)) | ((with_reducible apply ex_f); (· rfl))
        | ((with_reducible apply ex_and4); (· rfl); (· rfl); (· rfl)) | ((with_reducible apply ex_and3); (· rfl); (· rfl)) | ((with_reducible apply ex_and2); (· rfl)) | ((with_reducible apply ex_and); (· rfl))
        | ((with_reducible apply isT_and); (· rfl)) | ((with_reducible apply ex_bm); (· rfl); (· rfl); (· rfl))
        | dsimp only)
      refine of_rfl rfl (str_ok hk) ?_
      have hz : szOk ((" " : Str).length + (numS (e.2.getD m 0)).length) = true := szOk_of (by
        have := numS_len hk
        have e1 : Str.length " " = 1 := rfl
        rw [e1]
        omega)
      refine op_rfl rfl rfl (if_pos hz) ?_
      repeat (first
        | (with_reducible first | refine okm_ret ?_ | refine okm_cn ?_ | refine okm_op2 ?_ | refine okm_tst ?_ | refine okm_ifE ?_ | refine okm_mnil ?_ | refine okm_mcons ?_ | refine okm_notT ?_ | refine okm_notV ?_ | refine okm_chain ?_ | refine okm_andT ?_ | refine okm_orT ?_ | refine okm_andV ?_ | refine okm_orV ?_ | refine okm_unE ?_ | refine okm_fnE ?_ | refine okm_lenE ?_ | refine okm_ixE ?_ | refine okm_ptN ?_ | refine okm_ptS ?_ | refine okm_slE ?_ | refine okm_bmE ?_ | refine okm_isiE ?_ | refine okm_itE ?_ | refine okm_itN ?_ | refine okm_it1 ?_ | refine okm_lcM ?_ | refine okm_callP ?_ | refine okm_callM ?_ | refine okm_fz ?_ | refine okm_fzD ?_ | refine okm_lmE ?_ | refine okm_spNE ?_ | refine oks_seq ?_ | refine oks_if ?_ | refine oks_set ?_ | refine oks_asg ?_ | refine oks_sret ?_ | refine oks_sexp ?_ | refine oks_snx ?_ | refine oks_for ?_ | refine oks_aug ?_ | refine oks_augS ?_ | refine oks_raise ?_ | refine okm_bnd ?_)
        | ((with_reducible apply okm_vr); (· rfl))
        | ((with_reducible apply okm_tupE); (· rfl); (· rfl)) | ((with_reducible apply okm_lstE); (· rfl); (· rfl)) | ((with_reducible apply okm_lstN); (· rfl))
        | ((with_reducible apply op_rfl); (· rfl); (· rfl); (· rfl)) | ((with_reducible apply o1_rfl); (· rfl); (· rfl)) | ((with_reducible apply of_rfl); (· rfl); (· rfl))
        | (with_reducible refine wp_t ?_) | (with_reducible refine wp_f ?_) | (with_reducible refine wp_nt ?_) | (with_reducible refine wp_nf ?_)
        | ((with_reducible apply ex_t); (· rfl)) | ((with_reducible apply ex_f); (· rfl))
        | ((with_reducible apply ex_and4); (· rfl); (· rfl); (· rfl)) | ((with_reducible apply ex_and3); (· rfl); (· rfl)) | ((with_reducible apply ex_and2); (· rfl)) | ((with_reducible apply ex_and); (· rfl))
        | ((with_reducible apply isT_and); (· rfl)) | ((with_reducible apply ex_bm); (· rfl); (· rfl); (· rfl))
        | dsimp only)
    · rw [if_neg hm, if_neg hm]
      repeat (first
        | (with_reducible first | refine okm_ret ?_ | refine okm_cn ?_ | refine okm_op2 ?_ | refine okm_tst ?_ | refine okm_ifE ?_ | refine okm_mnil ?_ | refine okm_mcons ?_ | refine okm_notT ?_ | refine okm_notV ?_ | refine okm_chain ?_ | refine okm_andT ?_ | refine okm_orT ?_ | refine okm_andV ?_ | refine okm_orV ?_ | refine okm_unE ?_ | refine okm_fnE ?_ | refine okm_lenE ?_ | refine okm_ixE ?_ | refine okm_ptN ?_ | refine okm_ptS ?_ | refine okm_slE ?_ | refine okm_bmE ?_ | refine okm_isiE ?_ | refine okm_itE ?_ | refine okm_itN ?_ | refine okm_it1 ?_ | refine okm_lcM ?_ | refine okm_callP ?_ | refine okm_callM ?_ | refine okm_fz ?_ | refine okm_fzD ?_ | refine okm_lmE ?_ | refine okm_spNE ?_ | refine oks_seq ?_ | refine oks_if ?_ | refine oks_set ?_ | refine oks_asg ?_ | refine oks_sret ?_ | refine oks_sexp ?_ | refine oks_snx ?_ | refine oks_for ?_ | refine oks_aug ?_ | refine oks_augS ?_ | refine oks_raise ?_ | refine okm_bnd ?_)
        | ((with_reducible apply okm_vr); (· rfl))
        | ((with_reducible apply okm_tupE); (· rfl); (· rfl)) | ((with_reducible apply okm_lstE); (· rfl); (· rfl)) | ((with_reducible apply okm_lstN); (· rfl))
        | ((with_reducible apply op_rfl); (· rfl); (· rfl); (· rfl)) | ((with_reducible apply o1_rfl); (· rfl); (· rfl)) | ((with_reducible apply of_rfl); (· rfl); (· rfl))
        | (with_reducible refine wp_t ?_) | (with_reducible refine wp_f ?_) | (with_reducible refine wp_nt ?_) | (with_reducible refine wp_nf ?_)
        | ((with_reducible apply ex_t); (· rfl)) | ((with_reducible apply ex_f); (· rfl))
        | ((with_reducible apply ex_and4); (· rfl); (· rfl); (· rfl)) | ((with_reducible apply ex_and3); (· rfl); (· rfl)) | ((with_reducible apply ex_and2); (· rfl)) | ((with_reducible apply ex_and); (· rfl))
        | ((with_reducible apply isT_and); (· rfl)) | ((with_reducible apply ex_bm); (· rfl); (· rfl); (· rfl))
        | dsimp only)
  obtain ⟨x, h', e, rfl⟩ := key
  exact ⟨h', e⟩
theorem cat_ok {x y : Str} (h : x.length + y.length ≤ 16777216) : pAdd (.str x) (.str y) = some (.str (x ++ y)) := if_pos (szOk_of h)
theorem gotS_len {m : Nat} {e : Ent} (h : OkE m e) : (gotS m e).length ≤ 3 := by
  unfold gotS
  split
  · rename_i hm
    have hk : e.2.getD m 0 < 60 := by
      rw [List.getD_eq_getElem?_getD, List.getElem?_eq_getElem hm]
      exact h.2.1 _ (List.getElem_mem hm)
    have := numS_len hk
    rw [TL.len_tl, TL.tl_append, List.length_append, ← TL.len_tl, ← TL.len_tl]
    have e1 : Str.length " " = 1 := rfl
    omega
  · exact Nat.zero_le _
theorem run_row {e : Ent} (h : OkE 0 e) : (e.1 ++ gotS 0 e) ++ ("\n" : Str) = eRow e ++ "\n" := by
  obtain ⟨t, ks⟩ := e
  have hl := h.2.2.2
  match ks, hl with
  | [], _ =>
    show (t ++ ("" : Str)) ++ ("\n" : Str) = rowS [t] ++ "\n"
    rw [str_nil]
    rfl
  | [k], _ =>
    show (t ++ ((" " : Str) ++ numS k)) ++ ("\n" : Str) = rowS [t, numS k] ++ "\n"
    refine TL.ext_tl ?_
    rw [TL.tl_append, TL.tl_append, TL.tl_append, TL.tl_append, tl_row]
    rfl
  | _ :: _ :: _, hl => simp at hl
theorem log_row {t : Str} {k : Nat} {ks : List Nat} (h : OkE 1 (t, k :: ks)) : (((t ++ (" " : Str)) ++ numS k) ++ gotS 1 (t, k :: ks)) ++ ("\n" : Str) = eRow (t, k :: ks) ++ "\n" := by
  have hl := h.2.2.2
  match ks, hl with
  | [], _ =>
    show (((t ++ (" " : Str)) ++ numS k) ++ ("" : Str)) ++ ("\n" : Str) = rowS [t, numS k] ++ "\n"
    rw [str_nil]
    refine TL.ext_tl ?_
    simp only [TL.tl_append, tl_row, List.map_cons, List.map_nil, TL.joinL, List.append_assoc]
    rfl
  | [k2], _ =>
    show (((t ++ (" " : Str)) ++ numS k) ++ ((" " : Str) ++ numS k2)) ++ ("\n" : Str) = rowS [t, numS k, numS k2] ++ "\n"
    refine TL.ext_tl ?_
    simp only [TL.tl_append, tl_row, List.map_cons, List.map_nil, TL.joinL, List.append_assoc]
    rfl
  | _ :: _ :: _, hl => simp at hl
def wrM (m : Nat) : FM := if m = 0 then f_write_run else f_write_log
theorem ent_len {m : Nat} {e : Ent} (h : OkE m e) : e.1.length ≤ 9 := (name_word h.1).2.2.1
theorem eRow_len {m : Nat} (hm : m ≤ 1) {e : Ent} (h : OkE m e) : (eRow e).length ≤ 50 := row_len (eW_word h) (by
  have := h.2.2.2
  show (e.2.map numS).length + 1 ≤ 5
  rw [List.length_map]
  omega)
theorem wr_lc0 {δ : Sl} {h : Hea} (hd : δ.length = 3) : ∀ es : List Ent, (∀ e ∈ es, OkE 0 e) → lcL (gtup 2 (gcons (gnm 1) (gcons (gnm 2) gnil))) (mret true) (op2 pAdd (op2 pAdd (vr 1) (callP 1 f_got_text (mcons (vr 2) mnil))) (cn (.str "\n"))) δ ((es.map (told 0)).map .d) h = some (((es.map fun e => eRow e ++ ("\n" : Str)).map .str).map .d, h)
  | [], _ => rfl
  | e :: es, ho => by
    have ih := wr_lc0 hd (h := h) es fun y hy => ho y (by simp [hy])
    have he := ho e (by simp)
    obtain ⟨a, b, c, rfl⟩ : ∃ a b c, δ = [a, b, c] := by
      match δ, hd with
      | [a, b, c], _ => exact ⟨a, b, c, rfl⟩
    obtain ⟨hh, eg⟩ := got_ok he
    have e1 : gtup 2 (gcons (gnm 1) (gcons (gnm 2) gnil)) (.d (told 0 e)) [a, b, c] h = some ([a, some (.d (.str e.1)), some (.d (gotD 0 e))], h) := rfl
    have e2 : op2 pAdd (op2 pAdd (vr 1) (callP 1 f_got_text (mcons (vr 2) mnil))) (cn (.str "\n")) [a, some (.d (.str e.1)), some (.d (gotD 0 e))] h = some (.ok (.d (.str (eRow e ++ ("\n" : Str)))) h) := by
      refine okm_eq2 ?_
      repeat (first
        | (with_reducible first | refine okm_ret ?_ | refine okm_cn ?_ | refine okm_op2 ?_ | refine okm_tst ?_ | refine okm_ifE ?_ | refine okm_mnil ?_ | refine okm_mcons ?_ | refine okm_notT ?_ | refine okm_notV ?_ | refine okm_chain ?_ | refine okm_andT ?_ | refine okm_orT ?_ | refine okm_andV ?_ | refine okm_orV ?_ | refine okm_unE ?_ | refine okm_fnE ?_ | refine okm_lenE ?_ | refine okm_ixE ?_ | refine okm_ptN ?_ | refine okm_ptS ?_ | refine okm_slE ?_ | refine okm_bmE ?_ | refine okm_isiE ?_ | refine okm_itE ?_ | refine okm_itN ?_ | refine okm_it1 ?_ | refine okm_lcM ?_ | refine okm_callP ?_ | refine okm_callM ?_ | refine okm_fz ?_ | refine okm_fzD ?_ | refine okm_lmE ?_ | refine okm_spNE ?_ | refine oks_seq ?_ | refine oks_if ?_ | refine oks_set ?_ | refine oks_asg ?_ | refine oks_sret ?_ | refine oks_sexp ?_ | refine oks_snx ?_ | refine oks_for ?_ | refine oks_aug ?_ | refine oks_augS ?_ | refine oks_raise ?_ | refine okm_bnd ?_)
        | ((with_reducible apply okm_vr); (· rfl))
        | ((with_reducible apply okm_tupE); (· rfl); (· rfl)) | ((with_reducible apply okm_lstE); (· rfl); (· rfl)) | ((with_reducible apply okm_lstN); (· rfl))
        | ((with_reducible apply op_rfl); (· rfl); (· rfl); (· rfl)) | ((with_reducible apply o1_rfl); (· rfl); (· rfl)) | ((with_reducible apply of_rfl); (· rfl); (· rfl))
        | (with_reducible refine wp_t ?_) | (with_reducible refine wp_f ?_) | (with_reducible refine wp_nt ?_) | (with_reducible refine wp_nf ?_)
        | ((with_reducible apply ex_t); (· rfl)) | ((with_reducible apply ex_f); (· rfl))
        | ((with_reducible apply ex_and4); (· rfl); (· rfl); (· rfl)) | ((with_reducible apply ex_and3); (· rfl); (· rfl)) | ((with_reducible apply ex_and2); (· rfl)) | ((with_reducible apply ex_and); (· rfl))
        | ((with_reducible apply isT_and); (· rfl)) | ((with_reducible apply ex_bm); (· rfl); (· rfl); (· rfl))
        | dsimp only)
      refine ⟨rfl, _, _, hh, rfl, eg, ?_⟩
      have h1 := ent_len he
      have h2 := gotS_len he
      refine op_rfl rfl rfl (cat_ok (by omega)) ?_
      repeat (first
        | (with_reducible first | refine okm_ret ?_ | refine okm_cn ?_ | refine okm_op2 ?_ | refine okm_tst ?_ | refine okm_ifE ?_ | refine okm_mnil ?_ | refine okm_mcons ?_ | refine okm_notT ?_ | refine okm_notV ?_ | refine okm_chain ?_ | refine okm_andT ?_ | refine okm_orT ?_ | refine okm_andV ?_ | refine okm_orV ?_ | refine okm_unE ?_ | refine okm_fnE ?_ | refine okm_lenE ?_ | refine okm_ixE ?_ | refine okm_ptN ?_ | refine okm_ptS ?_ | refine okm_slE ?_ | refine okm_bmE ?_ | refine okm_isiE ?_ | refine okm_itE ?_ | refine okm_itN ?_ | refine okm_it1 ?_ | refine okm_lcM ?_ | refine okm_callP ?_ | refine okm_callM ?_ | refine okm_fz ?_ | refine okm_fzD ?_ | refine okm_lmE ?_ | refine okm_spNE ?_ | refine oks_seq ?_ | refine oks_if ?_ | refine oks_set ?_ | refine oks_asg ?_ | refine oks_sret ?_ | refine oks_sexp ?_ | refine oks_snx ?_ | refine oks_for ?_ | refine oks_aug ?_ | refine oks_augS ?_ | refine oks_raise ?_ | refine okm_bnd ?_)
        | ((with_reducible apply okm_vr); (· rfl))
        | ((with_reducible apply okm_tupE); (· rfl); (· rfl)) | ((with_reducible apply okm_lstE); (· rfl); (· rfl)) | ((with_reducible apply okm_lstN); (· rfl))
        | ((with_reducible apply op_rfl); (· rfl); (· rfl); (· rfl)) | ((with_reducible apply o1_rfl); (· rfl); (· rfl)) | ((with_reducible apply of_rfl); (· rfl); (· rfl))
        | (with_reducible refine wp_t ?_) | (with_reducible refine wp_f ?_) | (with_reducible refine wp_nt ?_) | (with_reducible refine wp_nf ?_)
        | ((with_reducible apply ex_t); (· rfl)) | ((with_reducible apply ex_f); (· rfl))
        | ((with_reducible apply ex_and4); (· rfl); (· rfl); (· rfl)) | ((with_reducible apply ex_and3); (· rfl); (· rfl)) | ((with_reducible apply ex_and2); (· rfl)) | ((with_reducible apply ex_and); (· rfl))
        | ((with_reducible apply isT_and); (· rfl)) | ((with_reducible apply ex_bm); (· rfl); (· rfl); (· rfl))
        | dsimp only)
      refine op_rfl rfl rfl (cat_ok ?_) ?_
      · rw [TL.len_tl, TL.tl_append, List.length_append, ← TL.len_tl, ← TL.len_tl]
        have e1 : Str.length "\n" = 1 := rfl
        omega
      rw [run_row he]
      exact ⟨rfl, rfl⟩
    rw [List.map_cons, List.map_cons, List.map_cons, List.map_cons, List.map_cons]
    unfold lcL
    simp only [e1, e2, mret, ih]
theorem wr_lc1 {δ : Sl} {h : Hea} (hd : δ.length = 4) : ∀ es : List Ent, (∀ e ∈ es, OkE 1 e) → lcL (gtup 3 (gcons (gnm 1) (gcons (gnm 2) (gcons (gnm 3) gnil)))) (mret true) (op2 pAdd (op2 pAdd (op2 pAdd (op2 pAdd (vr 1) (cn (.str " "))) (fnE pStr (mcons (vr 2) mnil))) (callP 1 f_got_text (mcons (vr 3) mnil))) (cn (.str "\n"))) δ ((es.map (told 1)).map .d) h = some (((es.map fun e => eRow e ++ ("\n" : Str)).map .str).map .d, h)
  | [], _ => rfl
  | e :: es, ho => by
    have ih := wr_lc1 hd (h := h) es fun y hy => ho y (by simp [hy])
    have he := ho e (by simp)
    obtain ⟨a, b, c, d, rfl⟩ : ∃ a b c d, δ = [a, b, c, d] := by
      match δ, hd with
      | [a, b, c, d], _ => exact ⟨a, b, c, d, rfl⟩
    obtain ⟨hh, eg⟩ := got_ok he
    obtain ⟨t, ks⟩ := e
    have hk := he.2.2.1
    obtain ⟨k, ks, rfl⟩ : ∃ k ks', ks = k :: ks' := by
      cases ks with
      | nil => simp at hk
      | cons k ks => exact ⟨k, ks, rfl⟩
    have hk60 : k < 60 := he.2.1 k (by simp)
    have e1 : gtup 3 (gcons (gnm 1) (gcons (gnm 2) (gcons (gnm 3) gnil))) (.d (told 1 (t, k :: ks))) [a, b, c, d] h = some ([a, some (.d (.str t)), some (.d (.int k)), some (.d (gotD 1 (t, k :: ks)))], h) := rfl
    have e2 : op2 pAdd (op2 pAdd (op2 pAdd (op2 pAdd (vr 1) (cn (.str " "))) (fnE pStr (mcons (vr 2) mnil))) (callP 1 f_got_text (mcons (vr 3) mnil))) (cn (.str "\n")) [a, some (.d (.str t)), some (.d (.int k)), some (.d (gotD 1 (t, k :: ks)))] h = some (.ok (.d (.str (eRow (t, k :: ks) ++ ("\n" : Str)))) h) := by
      refine okm_eq2 ?_
      have h1 : t.length ≤ 9 := ent_len he
      have h2 := gotS_len he
      have h3 := numS_len hk60
      have es1 : Str.length " " = 1 := rfl
      have es2 : Str.length "\n" = 1 := rfl
      repeat (first
        | (with_reducible first | refine okm_ret ?_ | refine okm_cn ?_ | refine okm_op2 ?_ | refine okm_tst ?_ | refine okm_ifE ?_ | refine okm_mnil ?_ | refine okm_mcons ?_ | refine okm_notT ?_ | refine okm_notV ?_ | refine okm_chain ?_ | refine okm_andT ?_ | refine okm_orT ?_ | refine okm_andV ?_ | refine okm_orV ?_ | refine okm_unE ?_ | refine okm_fnE ?_ | refine okm_lenE ?_ | refine okm_ixE ?_ | refine okm_ptN ?_ | refine okm_ptS ?_ | refine okm_slE ?_ | refine okm_bmE ?_ | refine okm_isiE ?_ | refine okm_itE ?_ | refine okm_itN ?_ | refine okm_it1 ?_ | refine okm_lcM ?_ | refine okm_callP ?_ | refine okm_callM ?_ | refine okm_fz ?_ | refine okm_fzD ?_ | refine okm_lmE ?_ | refine okm_spNE ?_ | refine oks_seq ?_ | refine oks_if ?_ | refine oks_set ?_ | refine oks_asg ?_ | refine oks_sret ?_ | refine oks_sexp ?_ | refine oks_snx ?_ | refine oks_for ?_ | refine oks_aug ?_ | refine oks_augS ?_ | refine oks_raise ?_ | refine okm_bnd ?_)
        | ((with_reducible apply okm_vr); (· rfl))
        | ((with_reducible apply okm_tupE); (· rfl); (· rfl)) | ((with_reducible apply okm_lstE); (· rfl); (· rfl)) | ((with_reducible apply okm_lstN); (· rfl))
        | ((with_reducible apply op_rfl); (· rfl); (· rfl); (· rfl)) | ((with_reducible apply o1_rfl); (· rfl); (· rfl)) | ((with_reducible apply of_rfl); (· rfl); (· rfl))
        | (with_reducible refine wp_t ?_) | (with_reducible refine wp_f ?_) | (with_reducible refine wp_nt ?_) | (with_reducible refine wp_nf ?_)
        | ((with_reducible apply ex_t); (· rfl)) | ((with_reducible apply ex_f); (· rfl))
        | ((with_reducible apply ex_and4); (· rfl); (· rfl); (· rfl)) | ((with_reducible apply ex_and3); (· rfl); (· rfl)) | ((with_reducible apply ex_and2); (· rfl)) | ((with_reducible apply ex_and); (· rfl))
        | ((with_reducible apply isT_and); (· rfl)) | ((with_reducible apply ex_bm); (· rfl); (· rfl); (· rfl))
        | dsimp only)
      refine op_rfl rfl rfl (cat_ok (by omega)) ?_
      repeat (first
        | (with_reducible first | refine okm_ret ?_ | refine okm_cn ?_ | refine okm_op2 ?_ | refine okm_tst ?_ | refine okm_ifE ?_ | refine okm_mnil ?_ | refine okm_mcons ?_ | refine okm_notT ?_ | refine okm_notV ?_ | refine okm_chain ?_ | refine okm_andT ?_ | refine okm_orT ?_ | refine okm_andV ?_ | refine okm_orV ?_ | refine okm_unE ?_ | refine okm_fnE ?_ | refine okm_lenE ?_ | refine okm_ixE ?_ | refine okm_ptN ?_ | refine okm_ptS ?_ | refine okm_slE ?_ | refine okm_bmE ?_ | refine okm_isiE ?_ | refine okm_itE ?_ | refine okm_itN ?_ | refine okm_it1 ?_ | refine okm_lcM ?_ | refine okm_callP ?_ | refine okm_callM ?_ | refine okm_fz ?_ | refine okm_fzD ?_ | refine okm_lmE ?_ | refine okm_spNE ?_ | refine oks_seq ?_ | refine oks_if ?_ | refine oks_set ?_ | refine oks_asg ?_ | refine oks_sret ?_ | refine oks_sexp ?_ | refine oks_snx ?_ | refine oks_for ?_ | refine oks_aug ?_ | refine oks_augS ?_ | refine oks_raise ?_ | refine okm_bnd ?_)
        | ((with_reducible apply okm_vr); (· rfl))
        | ((with_reducible apply okm_tupE); (· rfl); (· rfl)) | ((with_reducible apply okm_lstE); (· rfl); (· rfl)) | ((with_reducible apply okm_lstN); (· rfl))
        | ((with_reducible apply op_rfl); (· rfl); (· rfl); (· rfl)) | ((with_reducible apply o1_rfl); (· rfl); (· rfl)) | ((with_reducible apply of_rfl); (· rfl); (· rfl))
        | (with_reducible refine wp_t ?_) | (with_reducible refine wp_f ?_) | (with_reducible refine wp_nt ?_) | (with_reducible refine wp_nf ?_)
        | ((with_reducible apply ex_t); (· rfl)) | ((with_reducible apply ex_f); (· rfl))
        | ((with_reducible apply ex_and4); (· rfl); (· rfl); (· rfl)) | ((with_reducible apply ex_and3); (· rfl); (· rfl)) | ((with_reducible apply ex_and2); (· rfl)) | ((with_reducible apply ex_and); (· rfl))
        | ((with_reducible apply isT_and); (· rfl)) | ((with_reducible apply ex_bm); (· rfl); (· rfl); (· rfl))
        | dsimp only)
      refine of_rfl rfl (str_ok hk60) ?_
      have l1 : (t ++ (" " : Str)).length ≤ 10 := by
        rw [TL.len_tl, TL.tl_append, List.length_append, ← TL.len_tl, ← TL.len_tl]
        omega
      refine op_rfl rfl rfl (cat_ok (by omega)) ?_
      repeat (first
        | (with_reducible first | refine okm_ret ?_ | refine okm_cn ?_ | refine okm_op2 ?_ | refine okm_tst ?_ | refine okm_ifE ?_ | refine okm_mnil ?_ | refine okm_mcons ?_ | refine okm_notT ?_ | refine okm_notV ?_ | refine okm_chain ?_ | refine okm_andT ?_ | refine okm_orT ?_ | refine okm_andV ?_ | refine okm_orV ?_ | refine okm_unE ?_ | refine okm_fnE ?_ | refine okm_lenE ?_ | refine okm_ixE ?_ | refine okm_ptN ?_ | refine okm_ptS ?_ | refine okm_slE ?_ | refine okm_bmE ?_ | refine okm_isiE ?_ | refine okm_itE ?_ | refine okm_itN ?_ | refine okm_it1 ?_ | refine okm_lcM ?_ | refine okm_callP ?_ | refine okm_callM ?_ | refine okm_fz ?_ | refine okm_fzD ?_ | refine okm_lmE ?_ | refine okm_spNE ?_ | refine oks_seq ?_ | refine oks_if ?_ | refine oks_set ?_ | refine oks_asg ?_ | refine oks_sret ?_ | refine oks_sexp ?_ | refine oks_snx ?_ | refine oks_for ?_ | refine oks_aug ?_ | refine oks_augS ?_ | refine oks_raise ?_ | refine okm_bnd ?_)
        | ((with_reducible apply okm_vr); (· rfl))
        | ((with_reducible apply okm_tupE); (· rfl); (· rfl)) | ((with_reducible apply okm_lstE); (· rfl); (· rfl)) | ((with_reducible apply okm_lstN); (· rfl))
        | ((with_reducible apply op_rfl); (· rfl); (· rfl); (· rfl)) | ((with_reducible apply o1_rfl); (· rfl); (· rfl)) | ((with_reducible apply of_rfl); (· rfl); (· rfl))
        | (with_reducible refine wp_t ?_) | (with_reducible refine wp_f ?_) | (with_reducible refine wp_nt ?_) | (with_reducible refine wp_nf ?_)
        | ((with_reducible apply ex_t); (· rfl)) | ((with_reducible apply ex_f); (· rfl))
        | ((with_reducible apply ex_and4); (· rfl); (· rfl); (· rfl)) | ((with_reducible apply ex_and3); (· rfl); (· rfl)) | ((with_reducible apply ex_and2); (· rfl)) | ((with_reducible apply ex_and); (· rfl))
        | ((with_reducible apply isT_and); (· rfl)) | ((with_reducible apply ex_bm); (· rfl); (· rfl); (· rfl))
        | dsimp only)
      refine ⟨rfl, _, _, hh, rfl, eg, ?_⟩
      have l2 : ((t ++ (" " : Str)) ++ numS k).length ≤ 12 := by
        rw [TL.len_tl, TL.tl_append, List.length_append, ← TL.len_tl, ← TL.len_tl]
        omega
      refine op_rfl rfl rfl (cat_ok (by omega)) ?_
      repeat (first
        | (with_reducible first | refine okm_ret ?_ | refine okm_cn ?_ | refine okm_op2 ?_ | refine okm_tst ?_ | refine okm_ifE ?_ | refine okm_mnil ?_ | refine okm_mcons ?_ | refine okm_notT ?_ | refine okm_notV ?_ | refine okm_chain ?_ | refine okm_andT ?_ | refine okm_orT ?_ | refine okm_andV ?_ | refine okm_orV ?_ | refine okm_unE ?_ | refine okm_fnE ?_ | refine okm_lenE ?_ | refine okm_ixE ?_ | refine okm_ptN ?_ | refine okm_ptS ?_ | refine okm_slE ?_ | refine okm_bmE ?_ | refine okm_isiE ?_ | refine okm_itE ?_ | refine okm_itN ?_ | refine okm_it1 ?_ | refine okm_lcM ?_ | refine okm_callP ?_ | refine okm_callM ?_ | refine okm_fz ?_ | refine okm_fzD ?_ | refine okm_lmE ?_ | refine okm_spNE ?_ | refine oks_seq ?_ | refine oks_if ?_ | refine oks_set ?_ | refine oks_asg ?_ | refine oks_sret ?_ | refine oks_sexp ?_ | refine oks_snx ?_ | refine oks_for ?_ | refine oks_aug ?_ | refine oks_augS ?_ | refine oks_raise ?_ | refine okm_bnd ?_)
        | ((with_reducible apply okm_vr); (· rfl))
        | ((with_reducible apply okm_tupE); (· rfl); (· rfl)) | ((with_reducible apply okm_lstE); (· rfl); (· rfl)) | ((with_reducible apply okm_lstN); (· rfl))
        | ((with_reducible apply op_rfl); (· rfl); (· rfl); (· rfl)) | ((with_reducible apply o1_rfl); (· rfl); (· rfl)) | ((with_reducible apply of_rfl); (· rfl); (· rfl))
        | (with_reducible refine wp_t ?_) | (with_reducible refine wp_f ?_) | (with_reducible refine wp_nt ?_) | (with_reducible refine wp_nf ?_)
        | ((with_reducible apply ex_t); (· rfl)) | ((with_reducible apply ex_f); (· rfl))
        | ((with_reducible apply ex_and4); (· rfl); (· rfl); (· rfl)) | ((with_reducible apply ex_and3); (· rfl); (· rfl)) | ((with_reducible apply ex_and2); (· rfl)) | ((with_reducible apply ex_and); (· rfl))
        | ((with_reducible apply isT_and); (· rfl)) | ((with_reducible apply ex_bm); (· rfl); (· rfl); (· rfl))
        | dsimp only)
      have l3 : (((t ++ (" " : Str)) ++ numS k) ++ gotS 1 (t, k :: ks)).length ≤ 15 := by
        rw [TL.len_tl, TL.tl_append, List.length_append, ← TL.len_tl, ← TL.len_tl]
        omega
      refine op_rfl rfl rfl (cat_ok (by omega)) ?_
      rw [log_row he]
      exact ⟨rfl, rfl⟩
    rw [List.map_cons, List.map_cons, List.map_cons, List.map_cons, List.map_cons]
    unfold lcL
    simp only [e1, e2, mret, ih]
theorem write_ok {m : Nat} (hm : m ≤ 1) {es : List Ent} (ho : ∀ e ∈ es, OkE m e) (hl : es.length ≤ 20) : ∃ hh, wrM m [.d (.lst (es.map (told m)))] [] = some (.ok (.d (.str (textS (es.map eRow)))) hh) := by
  have hm2 : m = 0 ∨ m = 1 := by omega
  have hz : szOk ((es.map (told m)).map U.d).length = true := szOk_of (by simp; omega)
  have hj : pJoin (.str "") [.lst ((es.map fun e => eRow e ++ ("\n" : Str)).map .str)] = some (.str (textS (es.map eRow))) := by
    have q := join_text (rows := es.map eRow) (fun r hr => by
      obtain ⟨e, he, rfl⟩ := List.mem_map.mp hr
      exact eRow_len hm (ho e he)) (by rw [List.length_map]; exact hl)
    rw [List.map_map (f := eRow)] at q
    exact q
  rcases hm2 with rfl | rfl
  · have key : ∃ x h', fnM 3 b_write_run [.d (.lst (es.map (told 0)))] [] = some (.ok (.d x) h') ∧ x = .str (textS (es.map eRow)) := by
      refine fnM_pure ?_
      show OkS b_write_run [some (.d (.lst (es.map (told 0)))), none, none] [] _
      unfold b_write_run
      repeat (first
        | (with_reducible first | refine okm_ret ?_ | refine okm_cn ?_ | refine okm_op2 ?_ | refine okm_tst ?_ | refine okm_ifE ?_ | refine okm_mnil ?_ | refine okm_mcons ?_ | refine okm_notT ?_ | refine okm_notV ?_ | refine okm_chain ?_ | refine okm_andT ?_ | refine okm_orT ?_ | refine okm_andV ?_ | refine okm_orV ?_ | refine okm_unE ?_ | refine okm_fnE ?_ | refine okm_lenE ?_ | refine okm_ixE ?_ | refine okm_ptN ?_ | refine okm_ptS ?_ | refine okm_slE ?_ | refine okm_bmE ?_ | refine okm_isiE ?_ | refine okm_itE ?_ | refine okm_itN ?_ | refine okm_it1 ?_ | refine okm_lcM ?_ | refine okm_callP ?_ | refine okm_callM ?_ | refine okm_fz ?_ | refine okm_fzD ?_ | refine okm_lmE ?_ | refine okm_spNE ?_ | refine oks_seq ?_ | refine oks_if ?_ | refine oks_set ?_ | refine oks_asg ?_ | refine oks_sret ?_ | refine oks_sexp ?_ | refine oks_snx ?_ | refine oks_for ?_ | refine oks_aug ?_ | refine oks_augS ?_ | refine oks_raise ?_ | refine okm_bnd ?_)
        | ((with_reducible apply okm_vr); (· rfl))
        | ((with_reducible apply okm_tupE); (· rfl); (· rfl)) | ((with_reducible apply okm_lstE); (· rfl); (· rfl)) | ((with_reducible apply okm_lstN); (· rfl))
        | ((with_reducible apply op_rfl); (· rfl); (· rfl); (· rfl)) | ((with_reducible apply o1_rfl); (· rfl); (· rfl)) | ((with_reducible apply of_rfl); (· rfl); (· rfl))
        | (with_reducible refine wp_t ?_) | (with_reducible refine wp_f ?_) | (with_reducible refine wp_nt ?_) | (with_reducible refine wp_nf ?_)
        | ((with_reducible apply ex_t); (· rfl)) | ((with_reducible apply ex_f); (· rfl))
        | ((with_reducible apply ex_and4); (· rfl); (· rfl); (· rfl)) | ((with_reducible apply ex_and3); (· rfl); (· rfl)) | ((with_reducible apply ex_and2); (· rfl)) | ((with_reducible apply ex_and); (· rfl))
        | ((with_reducible apply isT_and); (· rfl)) | ((with_reducible apply ex_bm); (· rfl); (· rfl); (· rfl))
        | dsimp only)
      refine ⟨hz, _, _, wr_lc0 rfl es ho, ?_⟩
      refine okm_lstF (allD_map _) ?_
      repeat (first
        | (with_reducible first | refine okm_ret ?_ | refine okm_cn ?_ | refine okm_op2 ?_ | refine okm_tst ?_ | refine okm_ifE ?_ | refine okm_mnil ?_ | refine okm_mcons ?_ | refine okm_notT ?_ | refine okm_notV ?_ | refine okm_chain ?_ | refine okm_andT ?_ | refine okm_orT ?_ | refine okm_andV ?_ | refine okm_orV ?_ | refine okm_unE ?_ | refine okm_fnE ?_ | refine okm_lenE ?_ | refine okm_ixE ?_ | refine okm_ptN ?_ | refine okm_ptS ?_ | refine okm_slE ?_ | refine okm_bmE ?_ | refine okm_isiE ?_ | refine okm_itE ?_ | refine okm_itN ?_ | refine okm_it1 ?_ | refine okm_lcM ?_ | refine okm_callP ?_ | refine okm_callM ?_ | refine okm_fz ?_ | refine okm_fzD ?_ | refine okm_lmE ?_ | refine okm_spNE ?_ | refine oks_seq ?_ | refine oks_if ?_ | refine oks_set ?_ | refine oks_asg ?_ | refine oks_sret ?_ | refine oks_sexp ?_ | refine oks_snx ?_ | refine oks_for ?_ | refine oks_aug ?_ | refine oks_augS ?_ | refine oks_raise ?_ | refine okm_bnd ?_)
        | ((with_reducible apply okm_vr); (· rfl))
        | ((with_reducible apply okm_tupE); (· rfl); (· rfl)) | ((with_reducible apply okm_lstE); (· rfl); (· rfl)) | ((with_reducible apply okm_lstN); (· rfl))
        | ((with_reducible apply op_rfl); (· rfl); (· rfl); (· rfl)) | ((with_reducible apply o1_rfl); (· rfl); (· rfl)) | ((with_reducible apply of_rfl); (· rfl); (· rfl))
        | (with_reducible refine wp_t ?_) | (with_reducible refine wp_f ?_) | (with_reducible refine wp_nt ?_) | (with_reducible refine wp_nf ?_)
        | ((with_reducible apply ex_t); (· rfl)) | ((with_reducible apply ex_f); (· rfl))
        | ((with_reducible apply ex_and4); (· rfl); (· rfl); (· rfl)) | ((with_reducible apply ex_and3); (· rfl); (· rfl)) | ((with_reducible apply ex_and2); (· rfl)) | ((with_reducible apply ex_and); (· rfl))
        | ((with_reducible apply isT_and); (· rfl)) | ((with_reducible apply ex_bm); (· rfl); (· rfl); (· rfl))
        | dsimp only)
      exact ⟨_, _, _, rfl, rfl, hj, _, _, rfl, rfl⟩
    obtain ⟨x, h', e, rfl⟩ := key
    exact ⟨h', e⟩
  · have key : ∃ x h', fnM 4 b_write_log [.d (.lst (es.map (told 1)))] [] = some (.ok (.d x) h') ∧ x = .str (textS (es.map eRow)) := by
      refine fnM_pure ?_
      show OkS b_write_log [some (.d (.lst (es.map (told 1)))), none, none, none] [] _
      unfold b_write_log
      repeat (first
        | (with_reducible first | refine okm_ret ?_ | refine okm_cn ?_ | refine okm_op2 ?_ | refine okm_tst ?_ | refine okm_ifE ?_ | refine okm_mnil ?_ | refine okm_mcons ?_ | refine okm_notT ?_ | refine okm_notV ?_ | refine okm_chain ?_ | refine okm_andT ?_ | refine okm_orT ?_ | refine okm_andV ?_ | refine okm_orV ?_ | refine okm_unE ?_ | refine okm_fnE ?_ | refine okm_lenE ?_ | refine okm_ixE ?_ | refine okm_ptN ?_ | refine okm_ptS ?_ | refine okm_slE ?_ | refine okm_bmE ?_ | refine okm_isiE ?_ | refine okm_itE ?_ | refine okm_itN ?_ | refine okm_it1 ?_ | refine okm_lcM ?_ | refine okm_callP ?_ | refine okm_callM ?_ | refine okm_fz ?_ | refine okm_fzD ?_ | refine okm_lmE ?_ | refine okm_spNE ?_ | refine oks_seq ?_ | refine oks_if ?_ | refine oks_set ?_ | refine oks_asg ?_ | refine oks_sret ?_ | refine oks_sexp ?_ | refine oks_snx ?_ | refine oks_for ?_ | refine oks_aug ?_ | refine oks_augS ?_ | refine oks_raise ?_ | refine okm_bnd ?_)
        | ((with_reducible apply okm_vr); (· rfl))
        | ((with_reducible apply okm_tupE); (· rfl); (· rfl)) | ((with_reducible apply okm_lstE); (· rfl); (· rfl)) | ((with_reducible apply okm_lstN); (· rfl))
        | ((with_reducible apply op_rfl); (· rfl); (· rfl); (· rfl)) | ((with_reducible apply o1_rfl); (· rfl); (· rfl)) | ((with_reducible apply of_rfl); (· rfl); (· rfl))
        | (with_reducible refine wp_t ?_) | (with_reducible refine wp_f ?_) | (with_reducible refine wp_nt ?_) | (with_reducible refine wp_nf ?_)
        | ((with_reducible apply ex_t); (· rfl)) | ((with_reducible apply ex_f); (· rfl))
        | ((with_reducible apply ex_and4); (· rfl); (· rfl); (· rfl)) | ((with_reducible apply ex_and3); (· rfl); (· rfl)) | ((with_reducible apply ex_and2); (· rfl)) | ((with_reducible apply ex_and); (· rfl))
        | ((with_reducible apply isT_and); (· rfl)) | ((with_reducible apply ex_bm); (· rfl); (· rfl); (· rfl))
        | dsimp only)
      refine ⟨hz, _, _, wr_lc1 rfl es ho, ?_⟩
      refine okm_lstF (allD_map _) ?_
      repeat (first
        | (with_reducible first | refine okm_ret ?_ | refine okm_cn ?_ | refine okm_op2 ?_ | refine okm_tst ?_ | refine okm_ifE ?_ | refine okm_mnil ?_ | refine okm_mcons ?_ | refine okm_notT ?_ | refine okm_notV ?_ | refine okm_chain ?_ | refine okm_andT ?_ | refine okm_orT ?_ | refine okm_andV ?_ | refine okm_orV ?_ | refine okm_unE ?_ | refine okm_fnE ?_ | refine okm_lenE ?_ | refine okm_ixE ?_ | refine okm_ptN ?_ | refine okm_ptS ?_ | refine okm_slE ?_ | refine okm_bmE ?_ | refine okm_isiE ?_ | refine okm_itE ?_ | refine okm_itN ?_ | refine okm_it1 ?_ | refine okm_lcM ?_ | refine okm_callP ?_ | refine okm_callM ?_ | refine okm_fz ?_ | refine okm_fzD ?_ | refine okm_lmE ?_ | refine okm_spNE ?_ | refine oks_seq ?_ | refine oks_if ?_ | refine oks_set ?_ | refine oks_asg ?_ | refine oks_sret ?_ | refine oks_sexp ?_ | refine oks_snx ?_ | refine oks_for ?_ | refine oks_aug ?_ | refine oks_augS ?_ | refine oks_raise ?_ | refine okm_bnd ?_)
        | ((with_reducible apply okm_vr); (· rfl))
        | ((with_reducible apply okm_tupE); (· rfl); (· rfl)) | ((with_reducible apply okm_lstE); (· rfl); (· rfl)) | ((with_reducible apply okm_lstN); (· rfl))
        | ((with_reducible apply op_rfl); (· rfl); (· rfl); (· rfl)) | ((with_reducible apply o1_rfl); (· rfl); (· rfl)) | ((with_reducible apply of_rfl); (· rfl); (· rfl))
        | (with_reducible refine wp_t ?_) | (with_reducible refine wp_f ?_) | (with_reducible refine wp_nt ?_) | (with_reducible refine wp_nf ?_)
        | ((with_reducible apply ex_t); (· rfl)) | ((with_reducible apply ex_f); (· rfl))
        | ((with_reducible apply ex_and4); (· rfl); (· rfl); (· rfl)) | ((with_reducible apply ex_and3); (· rfl); (· rfl)) | ((with_reducible apply ex_and2); (· rfl)) | ((with_reducible apply ex_and); (· rfl))
        | ((with_reducible apply isT_and); (· rfl)) | ((with_reducible apply ex_bm); (· rfl); (· rfl); (· rfl))
        | dsimp only)
      exact ⟨_, _, _, rfl, rfl, hj, _, _, rfl, rfl⟩
    obtain ⟨x, h', e, rfl⟩ := key
    exact ⟨h', e⟩
def lg (m : Nat) : Bool := m == 1
theorem fault_exc {m : Nat} (hm : m ≤ 1) {x : D} {a b : Int} (he : ∃ hh, f_read_rows [.d x, .d (.int m)] [] = some (.exc (bdBad a b) hh)) : ∃ hh, f__law_fault [.d x, .d (.bl (lg m))] [] = some (.ok (.d (.tup [.int a, .int b])) hh) := by
  obtain ⟨hh, e⟩ := read_exc hm he
  have hm2 : m = 0 ∨ m = 1 := by omega
  have key : ∃ y h', fnM 4 b__law_fault [.d x, .d (.bl (lg m))] [] = some (.ok (.d y) h') ∧ y = .tup [.int a, .int b] := by
    refine fnM_pure ?_
    show OkS b__law_fault [some (.d x), some (.d (.bl (lg m))), none, none] [] _
    refine ⟨.rt (.d (.tup [.int a, .int b])) [], ?_, _, _, rfl, rfl⟩
    unfold b__law_fault
    refine sseq_rt (stry_ex (x := bdBad a b) (δ' := [some (.d x), some (.d (.bl (lg m))), none, none]) (h' := []) (sasg_exc ?_) rfl (by show 2 < 4; decide) rfl)
    rcases hm2 with rfl | rfl
    · refine (ifE_f (h' := []) rfl).trans ?_
      exact callP_exc (us := [.d x]) rfl rfl rfl e
    · refine (ifE_t (h' := []) rfl).trans ?_
      exact callP_exc (us := [.d x]) rfl rfl rfl e
  obtain ⟨y, h', e, rfl⟩ := key
  exact ⟨h', e⟩
theorem catL_ok {xs ys : List D} (h : xs.length + ys.length ≤ 16777216) : pAdd (.lst xs) (.lst ys) = some (.lst (xs ++ ys)) := if_pos (szOk_of h)
def rows2 (es : List Ent) (i : Nat) (X : Str) : List Str := (es.take i).map eRow ++ X :: (es.drop (i + 1)).map eRow
theorem rows2_D (es : List Ent) (i : Nat) (X : Str) : (PM.cutL ((es.map eRow).map D.str) none (some (i : Int)) ++ [.str X]) ++ PM.cutL ((es.map eRow).map D.str) (some ((i : Int) + 1)) none = (rows2 es i X).map D.str := by
  rw [cutL_take, show (i : Int) + 1 = ((i + 1 : Nat) : Int) from rfl, cutL_drop]
  unfold rows2
  rw [List.map_append, List.map_cons, List.append_assoc, List.map_take, List.map_drop, List.map_take, List.map_drop]
  rfl
theorem rows2_len {m : Nat} (hm : m ≤ 1) {es : List Ent} (ho : ∀ e ∈ es, OkE m e) {i : Nat} {X : Str} (hX : X.length ≤ 50) : ∀ r ∈ rows2 es i X, r.length ≤ 50 := fun r hr => by
  rcases List.mem_append.mp hr with hr | hr
  · obtain ⟨e, he, rfl⟩ := List.mem_map.mp hr
    exact eRow_len hm (ho e (List.mem_of_mem_take he))
  · rcases List.mem_cons.mp hr with rfl | hr
    · exact hX
    · obtain ⟨e, he, rfl⟩ := List.mem_map.mp hr
      exact eRow_len hm (ho e (List.mem_of_mem_drop he))
theorem rows2_nl {m : Nat} {es : List Ent} (ho : ∀ e ∈ es, OkE m e) {i : Nat} {X : Str} (hX : 10 ∉ TL.tl X) : ∀ r ∈ rows2 es i X, 10 ∉ TL.tl r := fun r hr => by
  rcases List.mem_append.mp hr with hr | hr
  · obtain ⟨e, he, rfl⟩ := List.mem_map.mp hr
    exact row_nl (eW_word (ho e (List.mem_of_mem_take he)))
  · rcases List.mem_cons.mp hr with rfl | hr
    · exact hX
    · obtain ⟨e, he, rfl⟩ := List.mem_map.mp hr
      exact row_nl (eW_word (ho e (List.mem_of_mem_drop he)))
theorem rows2_ct {es : List Ent} {i : Nat} {X : Str} (hes : es.length ≤ 8) : (rows2 es i X).length ≤ 20 := by
  unfold rows2
  rw [List.length_append, List.length_map, List.length_cons, List.length_map, List.length_take, List.length_drop]
  omega
theorem spoil {m : Nat} (hm : m ≤ 1) {es : List Ent} (ho : ∀ e ∈ es, OkE m e) (hes : es.length ≤ 8) {i : Nat} (hi : i < es.length) {X : Str} (hX : X.length ≤ 50) (hXn : 10 ∉ TL.tl X) {ws : List Str} {j : Nat} (hln : LnW X ws) (hb : BadAt m ws j) (hwl : ws.length ≤ 1000) {tail : Str} (ht1 : 10 ∉ TL.tl tail) (ht2 : tail.length ≤ 10) :
    ∃ hh, f__law_fault [.d (.str (textS (rows2 es i X) ++ tail)), .d (.bl (lg m))] [] = some (.ok (.d (.tup [.int ((i : Nat) + 1), .int ((j : Nat) + 1)])) hh) := by
  have hT : LnT (textS (rows2 es i X) ++ tail) (((es.take i).map eRow ++ X :: (es.drop (i + 1)).map eRow) ++ [tail]) := text_ln (rows2_len hm ho hX) (rows2_ct hes) (rows2_nl ho hXn) ht1 ht2
  have hl : ((es.take i).map eRow).length = i := by
    rw [List.length_map, List.length_take]
    omega
  obtain ⟨hh, e⟩ := rows_bad hm hT hln hb hwl (es_good hm fun e he => ho e (List.mem_of_mem_take he)) (by rw [hl]; omega)
  rw [hl] at e
  exact fault_exc hm ⟨hh, e⟩
theorem bad_set {m : Nat} {ws : List Str} (hw : ∀ j w, ws[j]? = some w → WA j w true) (hl : ws.length ≤ m + 2) {j : Nat} (hj : j < ws.length) {bad : Str} (hb : WA j bad false) : BadAt m (ws.set j bad) j := by
  rw [List.set_eq_take_append_cons_drop, if_pos hj]
  have hl2 : (ws.take j).length = j := by
    rw [List.length_take]
    omega
  have q := BadAt.word (m := m) (pre := ws.take j) (x := bad) (post := ws.drop (j + 1)) (b := false) (fun k w hk => by
    rw [List.getElem?_take] at hk
    split at hk
    · exact hw k w hk
    · cases hk) (by omega) (by rw [hl2]; exact hb) (.inl rfl)
  rw [hl2] at q
  exact q
theorem set_word {ws : List Str} (hw : ∀ w ∈ ws, Word w) {j : Nat} {bad : Str} (hb : Word bad) : ∀ w ∈ ws.set j bad, Word w := fun w h => by
  rcases List.mem_or_eq_of_mem_set h with h | h
  · exact hw w h
  · rw [h]
    exact hb
theorem word_one : Word "1" := wordB_ok (List.all_eq_true.mp words_lit "1" (by simp))
theorem wn_t_one {b : Str} (j : Nat) (hj : j ≠ 0) : WA j "1" true := by
  unfold WA
  rw [if_neg hj]
  exact ws_num (n := 1) (by decide)
/-- the row that is too long, or too short -/
def odd (m : Nat) (t : Str) : List Str := if m = 0 then [t, "1", "1"] else [t]
theorem odd_bad {m : Nat} (hm : m ≤ 1) {t : Str} (ht : t ∈ nameL) : BadAt m (odd m t) (if m = 0 then 2 else 1) := by
  have h0 : WA 0 t true := by
    unfold WA
    rw [if_pos rfl]
    exact name_wn ht
  have hm2 : m = 0 ∨ m = 1 := by omega
  rcases hm2 with rfl | rfl
  · exact .word (pre := [t, "1"]) (x := "1") (post := []) (b := true) (fun k w hk => by
      match k, hk with
      | 0, hk => cases hk; exact h0
      | 1, hk => cases hk; exact wn_t_one (b := t) 1 (by decide)
      | k + 2, hk => simp at hk) (by simp) (wn_t_one (b := t) 2 (by decide)) (.inr (by simp))
  · exact .short (ws := [t]) (fun k w hk => by
      match k, hk with
      | 0, hk => cases hk; exact h0
      | k + 1, hk => simp at hk) (by simp)
theorem odd_word {m : Nat} {t : Str} (ht : t ∈ nameL) : ∀ w ∈ odd m t, Word w := fun w hw => by
  unfold odd at hw
  split at hw
  · simp only [List.mem_cons, List.mem_nil_iff, or_false] at hw
    rcases hw with rfl | rfl | rfl
    · exact name_word ht
    · exact word_one
    · exact word_one
  · rw [List.mem_singleton.mp hw]
    exact name_word ht
theorem odd_len {m : Nat} {t : Str} : (odd m t).length ≤ 3 ∧ odd m t ≠ [] := by
  unfold odd
  split <;> exact ⟨by simp, by simp⟩
theorem view_loc {h : Hea} {n : Nat} {us : List U} {ds : List D} (e : h[n]? = some (.lst us)) (ha : allD us = some ds) : view h (.loc n) = some (.lst ds) := by
  unfold view
  simp only [e]
  show (allD us).map D.lst = _
  rw [ha]
  rfl
theorem cutL_len {α : Type} (xs : List α) (lo hi : Option Int) : (PM.cutL xs lo hi).length ≤ xs.length := by
  unfold PM.cutL
  rw [List.length_take, List.length_drop]
  omega
theorem rowS_one (t : Str) : rowS [t] = t := by
  unfold rowS
  rw [TL.join_eq]
  rfl
theorem full_one (e : Ent) : PM.cutL ((eW e).map D.str) none (some 1) = [.str e.1] := by
  have q := cutL_take ((eW e).map D.str) 1
  exact q
theorem nl_lc {δ : Sl} {h : Hea} (hd : 21 < δ.length) : ∀ rows : List Str, (∀ r ∈ rows, r.length ≤ 50) → lcL (gnm 21) (mret true) (op2 pAdd (vr 21) (cn (.str "\n"))) δ ((rows.map .str).map .d) h = some (((rows.map fun r => r ++ ("\n" : Str)).map .str).map .d, h)
  | [], _ => rfl
  | r :: rows, ho => by
    have ih := nl_lc hd (h := h) rows fun y hy => ho y (by simp [hy])
    have hr := ho r (by simp)
    have e1 : (δ.set 21 (some (.d (.str r))))[21]? = some (some (U.d (.str r))) := List.getElem?_set_self hd
    have e2 : op2 pAdd (vr 21) (cn (.str "\n")) (δ.set 21 (some (.d (.str r)))) h = some (.ok (.d (.str (r ++ ("\n" : Str)))) h) := by
      refine okm_eq (okm_op2 (okm_vr e1 (okm_cn ?_)))
      have e3 : Str.length "\n" = 1 := rfl
      exact op_rfl rfl rfl (cat_ok (by omega)) ⟨rfl, rfl⟩
    rw [List.map_cons, List.map_cons, List.map_cons, List.map_cons, List.map_cons]
    unfold lcL
    simp only [gnm, e2, mret, ih]
theorem strOk_name {w : Str} (h : w ∈ nameL) : PyData.strOk w = true := ok_128 (name_word h).2.2.2
theorem told_pl {m : Nat} {e : Ent} (h : OkE m e) : Pl 1 (told m e) := by
  refine .tup fun d hd => ?_
  rcases List.mem_append.mp hd with hd | hd
  · rcases List.mem_append.mp hd with hd | hd
    · rw [List.mem_singleton.mp hd]
      exact .str (strOk_name h.1)
    · obtain ⟨k, _, rfl⟩ := List.mem_map.mp hd
      exact .int _
  · rw [List.mem_singleton.mp hd]
    unfold gotD
    split
    · exact .int _
    · exact .non
theorem tolds_pl {m : Nat} {es : List Ent} (ho : ∀ e ∈ es, OkE m e) : Pl 2 (.tup (es.map (told m))) := .tup fun d hd => by
  obtain ⟨e, he, rfl⟩ := List.mem_map.mp hd
  exact told_pl (ho e he)
theorem ints_pl {a b : Int} : Pl 1 (.tup [.int a, .int b]) := .tup fun d hd => by
  rcases List.mem_cons.mp hd with rfl | hd
  · exact .int _
  · rw [List.mem_singleton.mp hd]
    exact .int _
theorem rows_pl {m : Nat} {es : List Ent} (ho : ∀ e ∈ es, OkE m e) : Pl 1 (.lst ((es.map eRow).map .str)) := .lst fun d hd => by
  obtain ⟨r, hr, rfl⟩ := List.mem_map.mp hd
  obtain ⟨e, he, rfl⟩ := List.mem_map.mp hr
  exact .str (ok_128 (row_128 (eW_word (ho e he))))
theorem pNe_strT (x : Str) : pNe (.str x) (.str x) = some (.bl false) := by
  show some (D.bl (!(x == x))) = _
  rw [beq_self_eq_true]
  rfl
theorem dr_set {ns : List Int} {n : Nat} {h : Hea} (hk : h[0]? = some (Dr ns n)) (o : O) : (h.set 0 o)[0]? = some o := List.getElem?_set_self (List.getElem?_eq_some_iff.mp hk).1
def bodyS : S := (sseq (sasg (bmE "str" pJoin (cn (.str "")) (mcons (lcM (itE seqL (vr 5)) [21] (gnm 21) (mret true) (op2 pAdd (vr 21) (cn (.str "\n"))) lstF) mnil)) (gnm 9))
 (sseq (sif (orT (tst (op2 pNe (ifE (tst (vr 8)) (callP 1 f_write_log (mcons (vr 7) mnil)) (callP 1 f_write_run (mcons (vr 7) mnil))) (vr 9))) (tst (op2 pNe (ifE (tst (vr 8)) (callP 1 f_read_log (mcons (vr 9) mnil)) (callP 1 f_read_run (mcons (vr 9) mnil))) (fnE pTuple (mcons (vr 7) mnil))))) (sret (cn (.bl false))) snx)
 (sseq (sif (tst (op2 pNe (callP 2 f__law_fault (mcons (op2 pAdd (vr 9) (callM 2 f__law_pick (mcons (vr 1) (mcons (mbnd (mcons (cn (.str "x")) (mcons (cn (.str "x 1")) (mcons (cn (.str " ")) (mcons (cn (.str "?")) mnil)))) lstE) mnil)))) (mcons (vr 8) mnil))) (mbnd (mcons (op2 pAdd (lenE (mcons (vr 5) mnil)) (cn (.int 1))) (mcons (cn (.int 1)) mnil)) tupE))) (sret (cn (.bl false))) snx)
 (sif (tst (op2 pNe (vr 5) (mbnd mnil lstE))) (sseq (sasg (callM 2 f__law_take (mcons (vr 1) (mcons (lenE (mcons (vr 5) mnil)) mnil))) (gnm 11))
 (sseq (sasg (spNE (ixE (vr 5) (vr 11)) (mcons (cn (.str " ")) mnil)) (gnm 12))
 (sseq (sasg (callM 2 f__law_take (mcons (vr 1) (mcons (lenE (mcons (vr 12) mnil)) mnil))) (gnm 13))
 (sseq (sasg (callM 2 f__law_pick (mcons (vr 1) (mcons (op2 pAdd (mbnd (mcons (cn (.str "")) (mcons (cn (.str "A")) (mcons (cn (.str "-1")) (mcons (cn (.str "007")) (mcons (cn (.str "100")) (mcons (cn (.str "t1")) (mcons (cn (.str "abcdefghi")) mnil))))))) lstE) (ifE (tst (op2 pEq (vr 13) (cn (.int 0)))) (mbnd (mcons (cn (.str "5")) mnil) lstE) (mbnd (mcons (cn (.str "a")) (mcons (cn (.str "01")) mnil)) lstE))) mnil))) (gset (vr 12) (vr 13)))
 (sseq (sasg (bmE "str" pJoin (cn (.str "")) (mcons (lcM (itE seqL (op2 pAdd (op2 pAdd (slE (vr 5) none (some (vr 11))) (mbnd (mcons (bmE "str" pJoin (cn (.str " ")) (mcons (vr 12) mnil)) mnil) lstE)) (slE (vr 5) (some (op2 pAdd (vr 11) (cn (.int 1)))) none))) [21] (gnm 21) (mret true) (op2 pAdd (vr 21) (cn (.str "\n"))) lstF) mnil)) (gnm 14))
 (sseq (sif (orT (tst (op2 pNe (callP 2 f__law_fault (mcons (vr 14) (mcons (vr 8) mnil))) (mbnd (mcons (op2 pAdd (vr 11) (cn (.int 1))) (mcons (op2 pAdd (vr 13) (cn (.int 1))) mnil)) tupE))) (tst (op2 pNe (callP 2 f__law_fault (mcons (op2 pAdd (vr 14) (cn (.str "x"))) (mcons (vr 8) mnil))) (mbnd (mcons (op2 pAdd (vr 11) (cn (.int 1))) (mcons (op2 pAdd (vr 13) (cn (.int 1))) mnil)) tupE)))) (sret (cn (.bl false))) snx)
 (sseq (sasg (bmE "str" pSplit (ixE (vr 5) (vr 11)) (mcons (cn (.str " ")) mnil)) (gnm 15))
 (sseq (sasg (bmE "str" pJoin (cn (.str " ")) (mcons (op2 pAdd (slE (vr 15) none (some (cn (.int 1)))) (op2 pMul (mbnd (mcons (cn (.str "1")) mnil) lstE) (op2 pAdd (cn (.int 2)) (fnE pInt (mcons (vr 8) mnil))))) mnil)) (gnm 16))
 (sseq (sasg (bmE "str" pJoin (cn (.str "")) (mcons (lcM (itE seqL (op2 pAdd (op2 pAdd (slE (vr 5) none (some (vr 11))) (mbnd (mcons (ifE (tst (op2 pIs (vr 8) (cn (.bl false)))) (vr 16) (ixE (vr 15) (cn (.int 0)))) mnil) lstE)) (slE (vr 5) (some (op2 pAdd (vr 11) (cn (.int 1)))) none))) [21] (gnm 21) (mret true) (op2 pAdd (vr 21) (cn (.str "\n"))) lstF) mnil)) (gnm 17))
 (sif (tst (op2 pNe (callP 2 f__law_fault (mcons (vr 17) (mcons (vr 8) mnil))) (mbnd (mcons (op2 pAdd (vr 11) (cn (.int 1))) (mcons (ifE (tst (op2 pIs (vr 8) (cn (.bl false)))) (cn (.int 3)) (cn (.int 2))) mnil)) tupE))) (sret (cn (.bl false))) snx)))))))))) snx))))
theorem tail_ok {d : D} (h : d ∈ ([.str "x", .str "x 1", .str " ", .str "?"] : List D)) : ∃ t : Str, d = .str t ∧ 10 ∉ TL.tl t ∧ t.length ≤ 10 ∧ (t == "") = false := by
  simp only [List.mem_cons, List.mem_nil_iff, or_false] at h
  rcases h with rfl | rfl | rfl | rfl
  · exact ⟨"x", rfl, by decide +kernel, by decide +kernel, by decide +kernel⟩
  · exact ⟨"x 1", rfl, by decide +kernel, by decide +kernel, by decide +kernel⟩
  · exact ⟨" ", rfl, by decide +kernel, by decide +kernel, by decide +kernel⟩
  · exact ⟨"?", rfl, by decide +kernel, by decide +kernel, by decide +kernel⟩
theorem body_ok {ns : List Int} (hns : ns.length ≤ 63) (hb : ∀ z ∈ ns, Builtin.Int.intBits z ≤ 1048576) {m : Nat} (hm : m ≤ 1) {es : List Ent} (ho : ∀ e ∈ es, OkE m e) (hes : es.length ≤ 8) {n : Nat} (hn : n < 1000) {h : Hea} (hk : h[0]? = some (Dr ns n)) {x0 x2 x3 x4 x6 x9 x10 x11 x12 x13 x14 x15 x16 x17 x18 x19 x20 x21 : Option U} : OkS bodyS [x0, some (.loc 0), x2, x3, x4, some (.d (.lst ((es.map eRow).map .str))), x6, some (.d (.lst (es.map (told m)))), some (.d (.bl (lg m))), x9, x10, x11, x12, x13, x14, x15, x16, x17, x18, x19, x20, x21] h fun o => ∃ δ' h' n', o = .nx δ' h' ∧ h'[0]? = some (Dr ns n') ∧ n' ≤ n + 4 ∧ Hd (∃ y9 y10 y11 y12 y13 y14 y15 y16 y17 y18 y19 y20 y21, δ' = [x0, some (.loc 0), x2, x3, x4, some (.d (.lst ((es.map eRow).map .str))), x6, some (.d (.lst (es.map (told m)))), some (.d (.bl (lg m))), y9, y10, y11, y12, y13, y14, y15, y16, y17, y18, y19, y20, y21]) := by
  have hm2 : m = 0 ∨ m = 1 := by omega
  have hrl : ∀ r ∈ es.map eRow, r.length ≤ 50 := fun r hr => by
    obtain ⟨e, he, rfl⟩ := List.mem_map.mp hr
    exact eRow_len hm (ho e he)
  have hrn : ∀ r ∈ es.map eRow, 10 ∉ TL.tl r := fun r hr => by
    obtain ⟨e, he, rfl⟩ := List.mem_map.mp hr
    exact row_nl (eW_word (ho e he))
  have hr20 : (es.map eRow).length ≤ 20 := by rw [List.length_map]; omega
  unfold bodyS
  refine oks_cut (fun δ h' => δ = [x0, some (.loc 0), x2, x3, x4, some (.d (.lst ((es.map eRow).map .str))), x6, some (.d (.lst (es.map (told m)))), some (.d (.bl (lg m))), some (.d (.str (textS (es.map eRow)))), x10, x11, x12, x13, x14, x15, x16, x17, x18, x19, x20, x21] ∧ h = h') ?_ ?_
  · repeat (first
    | (with_reducible first | refine okm_ret ?_ | refine okm_cn ?_ | refine okm_op2 ?_ | refine okm_tst ?_ | refine okm_ifE ?_ | refine okm_mnil ?_ | refine okm_mcons ?_ | refine okm_notT ?_ | refine okm_notV ?_ | refine okm_chain ?_ | refine okm_andT ?_ | refine okm_orT ?_ | refine okm_andV ?_ | refine okm_orV ?_ | refine okm_unE ?_ | refine okm_fnE ?_ | refine okm_lenE ?_ | refine okm_ixE ?_ | refine okm_ptN ?_ | refine okm_ptS ?_ | refine okm_slE ?_ | refine okm_bmE ?_ | refine okm_isiE ?_ | refine okm_itE ?_ | refine okm_itN ?_ | refine okm_it1 ?_ | refine okm_lcM ?_ | refine okm_callP ?_ | refine okm_callM ?_ | refine okm_fz ?_ | refine okm_fzD ?_ | refine okm_lmE ?_ | refine okm_spNE ?_ | refine oks_seq ?_ | refine oks_if ?_ | refine oks_set ?_ | refine oks_asg ?_ | refine oks_sret ?_ | refine oks_sexp ?_ | refine oks_snx ?_ | refine oks_for ?_ | refine oks_aug ?_ | refine oks_augS ?_ | refine oks_raise ?_ | refine okm_bnd ?_)
    | ((with_reducible apply okm_vr); (· rfl))
    | ((with_reducible apply okm_tupE); (· rfl); (· rfl)) | ((with_reducible apply okm_lstE); (· rfl); (· rfl)) | ((with_reducible apply okm_lstN); (· rfl))
    | ((with_reducible apply op_rfl); (· rfl); (· rfl); (· rfl)) | ((with_reducible apply o1_rfl); (· rfl); (· rfl)) | ((with_reducible apply of_rfl); (· rfl); (· rfl))
    | (with_reducible refine wp_t ?_) | (with_reducible refine wp_f ?_) | (with_reducible refine wp_nt ?_) | (with_reducible refine wp_nf ?_)
    | ((with_reducible apply ex_t); (· rfl)) | ((with_reducible apply ex_f); (· rfl))
    | ((with_reducible apply ex_and4); (· rfl); (· rfl); (· rfl)) | ((with_reducible apply ex_and3); (· rfl); (· rfl)) | ((with_reducible apply ex_and2); (· rfl)) | ((with_reducible apply ex_and); (· rfl))
    | ((with_reducible apply isT_and); (· rfl)) | ((with_reducible apply ex_bm); (· rfl); (· rfl); (· rfl))
    | dsimp only)
    refine ⟨szOk_of (by simp; omega), _, _, nl_lc (by show 21 < 22; decide) _ hrl, okm_lstF (allD_map _) ?_⟩
    repeat (first
      | (with_reducible first | refine okm_ret ?_ | refine okm_cn ?_ | refine okm_op2 ?_ | refine okm_tst ?_ | refine okm_ifE ?_ | refine okm_mnil ?_ | refine okm_mcons ?_ | refine okm_notT ?_ | refine okm_notV ?_ | refine okm_chain ?_ | refine okm_andT ?_ | refine okm_orT ?_ | refine okm_andV ?_ | refine okm_orV ?_ | refine okm_unE ?_ | refine okm_fnE ?_ | refine okm_lenE ?_ | refine okm_ixE ?_ | refine okm_ptN ?_ | refine okm_ptS ?_ | refine okm_slE ?_ | refine okm_bmE ?_ | refine okm_isiE ?_ | refine okm_itE ?_ | refine okm_itN ?_ | refine okm_it1 ?_ | refine okm_lcM ?_ | refine okm_callP ?_ | refine okm_callM ?_ | refine okm_fz ?_ | refine okm_fzD ?_ | refine okm_lmE ?_ | refine okm_spNE ?_ | refine oks_seq ?_ | refine oks_if ?_ | refine oks_set ?_ | refine oks_asg ?_ | refine oks_sret ?_ | refine oks_sexp ?_ | refine oks_snx ?_ | refine oks_for ?_ | refine oks_aug ?_ | refine oks_augS ?_ | refine oks_raise ?_ | refine okm_bnd ?_)
      | ((with_reducible apply okm_vr); (· rfl))
      | ((with_reducible apply okm_tupE); (· rfl); (· rfl)) | ((with_reducible apply okm_lstE); (· rfl); (· rfl)) | ((with_reducible apply okm_lstN); (· rfl))
      | ((with_reducible apply op_rfl); (· rfl); (· rfl); (· rfl)) | ((with_reducible apply o1_rfl); (· rfl); (· rfl)) | ((with_reducible apply of_rfl); (· rfl); (· rfl))
      | (with_reducible refine wp_t ?_) | (with_reducible refine wp_f ?_) | (with_reducible refine wp_nt ?_) | (with_reducible refine wp_nf ?_)
      | ((with_reducible apply ex_t); (· rfl)) | ((with_reducible apply ex_f); (· rfl))
      | ((with_reducible apply ex_and4); (· rfl); (· rfl); (· rfl)) | ((with_reducible apply ex_and3); (· rfl); (· rfl)) | ((with_reducible apply ex_and2); (· rfl)) | ((with_reducible apply ex_and); (· rfl))
      | ((with_reducible apply isT_and); (· rfl)) | ((with_reducible apply ex_bm); (· rfl); (· rfl); (· rfl))
      | dsimp only)
    exact ⟨_, _, _, rfl, rfl, join_text hrl hr20, _, _, rfl, rfl, rfl⟩
  rintro δ h' ⟨rfl, rfl⟩
  refine oks_cut (fun δ h' => δ = [x0, some (.loc 0), x2, x3, x4, some (.d (.lst ((es.map eRow).map .str))), x6, some (.d (.lst (es.map (told m)))), some (.d (.bl (lg m))), some (.d (.str (textS (es.map eRow)))), x10, x11, x12, x13, x14, x15, x16, x17, x18, x19, x20, x21] ∧ h = h') ?_ ?_
  · obtain ⟨hh, ew⟩ := write_ok hm ho (by omega)
    obtain ⟨hh2, er⟩ := read_ok hm ho (by omega) (by
      have q := text_ln (tail := "") hrl hr20 hrn (by decide +kernel) (by decide +kernel)
      rw [str_nil] at q
      exact q)
    have hf : ∀ {f0 f1 : FM} {g : M (List U)} {us : List U} {ds : List D} {r : D} {hh : Hea} {δ : Sl} {Q : U → Hea → Prop}, δ[8]? = some (some (U.d (.bl (lg m)))) → g δ h = some (.ok us h) → us.length = 1 → allD us = some ds → (if m = 0 then f0 else f1) us [] = some (.ok (.d r) hh) → Q (.d r) h → OkM (ifE (tst (vr 8)) (callP 1 f1 g) (callP 1 f0 g)) δ h Q := by
      intro f0 f1 g us ds r hh δ Q h8 hg h1 h2 h3 q
      rcases hm2 with rfl | rfl
      · refine okm_ifE (okm_tst (okm_vr h8 ⟨false, rfl, wp_f ?_⟩))
        exact ⟨_, h, callP_eq hg h1 h2 h3, q⟩
      · refine okm_ifE (okm_tst (okm_vr h8 ⟨true, rfl, wp_t ?_⟩))
        exact ⟨_, h, callP_eq hg h1 h2 h3, q⟩
    refine oks_if (okm_orT (okm_tst (okm_op2 (hf rfl rfl rfl rfl ew ?_))))
    refine okm_vr rfl (op_rfl rfl rfl (pNe_strT _) ⟨false, rfl, wp_f ?_⟩)
    refine okm_tst (okm_op2 (hf rfl rfl rfl rfl er ?_))
    repeat (first
      | (with_reducible first | refine okm_ret ?_ | refine okm_cn ?_ | refine okm_op2 ?_ | refine okm_tst ?_ | refine okm_ifE ?_ | refine okm_mnil ?_ | refine okm_mcons ?_ | refine okm_notT ?_ | refine okm_notV ?_ | refine okm_chain ?_ | refine okm_andT ?_ | refine okm_orT ?_ | refine okm_andV ?_ | refine okm_orV ?_ | refine okm_unE ?_ | refine okm_fnE ?_ | refine okm_lenE ?_ | refine okm_ixE ?_ | refine okm_ptN ?_ | refine okm_ptS ?_ | refine okm_slE ?_ | refine okm_bmE ?_ | refine okm_isiE ?_ | refine okm_itE ?_ | refine okm_itN ?_ | refine okm_it1 ?_ | refine okm_lcM ?_ | refine okm_callP ?_ | refine okm_callM ?_ | refine okm_fz ?_ | refine okm_fzD ?_ | refine okm_lmE ?_ | refine okm_spNE ?_ | refine oks_seq ?_ | refine oks_if ?_ | refine oks_set ?_ | refine oks_asg ?_ | refine oks_sret ?_ | refine oks_sexp ?_ | refine oks_snx ?_ | refine oks_for ?_ | refine oks_aug ?_ | refine oks_augS ?_ | refine oks_raise ?_ | refine okm_bnd ?_)
      | ((with_reducible apply okm_vr); (· rfl))
      | ((with_reducible apply okm_tupE); (· rfl); (· rfl)) | ((with_reducible apply okm_lstE); (· rfl); (· rfl)) | ((with_reducible apply okm_lstN); (· rfl))
      | ((with_reducible apply op_rfl); (· rfl); (· rfl); (· rfl)) | ((with_reducible apply o1_rfl); (· rfl); (· rfl)) | ((with_reducible apply of_rfl); (· rfl); (· rfl))
      | (with_reducible refine wp_t ?_) | (with_reducible refine wp_f ?_) | (with_reducible refine wp_nt ?_) | (with_reducible refine wp_nf ?_)
      | ((with_reducible apply ex_t); (· rfl)) | ((with_reducible apply ex_f); (· rfl))
      | ((with_reducible apply ex_and4); (· rfl); (· rfl); (· rfl)) | ((with_reducible apply ex_and3); (· rfl); (· rfl)) | ((with_reducible apply ex_and2); (· rfl)) | ((with_reducible apply ex_and); (· rfl))
      | ((with_reducible apply isT_and); (· rfl)) | ((with_reducible apply ex_bm); (· rfl); (· rfl); (· rfl))
      | dsimp only)
    refine op_rfl rfl rfl (pNe_refl (tolds_pl ho) (by decide)) ?_
    repeat (first
      | (with_reducible first | refine okm_ret ?_ | refine okm_cn ?_ | refine okm_op2 ?_ | refine okm_tst ?_ | refine okm_ifE ?_ | refine okm_mnil ?_ | refine okm_mcons ?_ | refine okm_notT ?_ | refine okm_notV ?_ | refine okm_chain ?_ | refine okm_andT ?_ | refine okm_orT ?_ | refine okm_andV ?_ | refine okm_orV ?_ | refine okm_unE ?_ | refine okm_fnE ?_ | refine okm_lenE ?_ | refine okm_ixE ?_ | refine okm_ptN ?_ | refine okm_ptS ?_ | refine okm_slE ?_ | refine okm_bmE ?_ | refine okm_isiE ?_ | refine okm_itE ?_ | refine okm_itN ?_ | refine okm_it1 ?_ | refine okm_lcM ?_ | refine okm_callP ?_ | refine okm_callM ?_ | refine okm_fz ?_ | refine okm_fzD ?_ | refine okm_lmE ?_ | refine okm_spNE ?_ | refine oks_seq ?_ | refine oks_if ?_ | refine oks_set ?_ | refine oks_asg ?_ | refine oks_sret ?_ | refine oks_sexp ?_ | refine oks_snx ?_ | refine oks_for ?_ | refine oks_aug ?_ | refine oks_augS ?_ | refine oks_raise ?_ | refine okm_bnd ?_)
      | ((with_reducible apply okm_vr); (· rfl))
      | ((with_reducible apply okm_tupE); (· rfl); (· rfl)) | ((with_reducible apply okm_lstE); (· rfl); (· rfl)) | ((with_reducible apply okm_lstN); (· rfl))
      | ((with_reducible apply op_rfl); (· rfl); (· rfl); (· rfl)) | ((with_reducible apply o1_rfl); (· rfl); (· rfl)) | ((with_reducible apply of_rfl); (· rfl); (· rfl))
      | (with_reducible refine wp_t ?_) | (with_reducible refine wp_f ?_) | (with_reducible refine wp_nt ?_) | (with_reducible refine wp_nf ?_)
      | ((with_reducible apply ex_t); (· rfl)) | ((with_reducible apply ex_f); (· rfl))
      | ((with_reducible apply ex_and4); (· rfl); (· rfl); (· rfl)) | ((with_reducible apply ex_and3); (· rfl); (· rfl)) | ((with_reducible apply ex_and2); (· rfl)) | ((with_reducible apply ex_and); (· rfl))
      | ((with_reducible apply isT_and); (· rfl)) | ((with_reducible apply ex_bm); (· rfl); (· rfl); (· rfl))
      | dsimp only)
  rintro δ h' ⟨rfl, rfl⟩
  have hdr1 := dr_set hk (Dr ns (n + 1))
  refine oks_cut (fun δ h' => δ = [x0, some (.loc 0), x2, x3, x4, some (.d (.lst ((es.map eRow).map .str))), x6, some (.d (.lst (es.map (told m)))), some (.d (.bl (lg m))), some (.d (.str (textS (es.map eRow)))), x10, x11, x12, x13, x14, x15, x16, x17, x18, x19, x20, x21] ∧ h' = h.set 0 (Dr ns (n + 1))) ?_ ?_
  · repeat (first
    | (with_reducible first | refine okm_ret ?_ | refine okm_cn ?_ | refine okm_op2 ?_ | refine okm_tst ?_ | refine okm_ifE ?_ | refine okm_mnil ?_ | refine okm_mcons ?_ | refine okm_notT ?_ | refine okm_notV ?_ | refine okm_chain ?_ | refine okm_andT ?_ | refine okm_orT ?_ | refine okm_andV ?_ | refine okm_orV ?_ | refine okm_unE ?_ | refine okm_fnE ?_ | refine okm_lenE ?_ | refine okm_ixE ?_ | refine okm_ptN ?_ | refine okm_ptS ?_ | refine okm_slE ?_ | refine okm_bmE ?_ | refine okm_isiE ?_ | refine okm_itE ?_ | refine okm_itN ?_ | refine okm_it1 ?_ | refine okm_lcM ?_ | refine okm_callP ?_ | refine okm_callM ?_ | refine okm_fz ?_ | refine okm_fzD ?_ | refine okm_lmE ?_ | refine okm_spNE ?_ | refine oks_seq ?_ | refine oks_if ?_ | refine oks_set ?_ | refine oks_asg ?_ | refine oks_sret ?_ | refine oks_sexp ?_ | refine oks_snx ?_ | refine oks_for ?_ | refine oks_aug ?_ | refine oks_augS ?_ | refine oks_raise ?_ | refine okm_bnd ?_)
    | ((with_reducible apply okm_vr); (· rfl))
    | ((with_reducible apply okm_tupE); (· rfl); (· rfl)) | ((with_reducible apply okm_lstE); (· rfl); (· rfl)) | ((with_reducible apply okm_lstN); (· rfl))
    | ((with_reducible apply op_rfl); (· rfl); (· rfl); (· rfl)) | ((with_reducible apply o1_rfl); (· rfl); (· rfl)) | ((with_reducible apply of_rfl); (· rfl); (· rfl))
    | (with_reducible refine wp_t ?_) | (with_reducible refine wp_f ?_) | (with_reducible refine wp_nt ?_) | (with_reducible refine wp_nf ?_)
    | ((with_reducible apply ex_t); (· rfl)) | ((with_reducible apply ex_f); (· rfl))
    | ((with_reducible apply ex_and4); (· rfl); (· rfl); (· rfl)) | ((with_reducible apply ex_and3); (· rfl); (· rfl)) | ((with_reducible apply ex_and2); (· rfl)) | ((with_reducible apply ex_and); (· rfl))
    | ((with_reducible apply isT_and); (· rfl)) | ((with_reducible apply ex_bm); (· rfl); (· rfl); (· rfl))
    | dsimp only)
    obtain ⟨d, hd, e⟩ := pick_ok hns hb (by omega) hk (ds := [.str "x", .str "x 1", .str " ", .str "?"]) (by simp)
    obtain ⟨t, rfl, ht1, ht2, ht3⟩ := tail_ok hd
    refine ⟨rfl, _, _, e, ?_⟩
    refine op_rfl rfl rfl (cat_ok (by have := text_len hrl hr20; omega)) ?_
    repeat (first
      | (with_reducible first | refine okm_ret ?_ | refine okm_cn ?_ | refine okm_op2 ?_ | refine okm_tst ?_ | refine okm_ifE ?_ | refine okm_mnil ?_ | refine okm_mcons ?_ | refine okm_notT ?_ | refine okm_notV ?_ | refine okm_chain ?_ | refine okm_andT ?_ | refine okm_orT ?_ | refine okm_andV ?_ | refine okm_orV ?_ | refine okm_unE ?_ | refine okm_fnE ?_ | refine okm_lenE ?_ | refine okm_ixE ?_ | refine okm_ptN ?_ | refine okm_ptS ?_ | refine okm_slE ?_ | refine okm_bmE ?_ | refine okm_isiE ?_ | refine okm_itE ?_ | refine okm_itN ?_ | refine okm_it1 ?_ | refine okm_lcM ?_ | refine okm_callP ?_ | refine okm_callM ?_ | refine okm_fz ?_ | refine okm_fzD ?_ | refine okm_lmE ?_ | refine okm_spNE ?_ | refine oks_seq ?_ | refine oks_if ?_ | refine oks_set ?_ | refine oks_asg ?_ | refine oks_sret ?_ | refine oks_sexp ?_ | refine oks_snx ?_ | refine oks_for ?_ | refine oks_aug ?_ | refine oks_augS ?_ | refine oks_raise ?_ | refine okm_bnd ?_)
      | ((with_reducible apply okm_vr); (· rfl))
      | ((with_reducible apply okm_tupE); (· rfl); (· rfl)) | ((with_reducible apply okm_lstE); (· rfl); (· rfl)) | ((with_reducible apply okm_lstN); (· rfl))
      | ((with_reducible apply op_rfl); (· rfl); (· rfl); (· rfl)) | ((with_reducible apply o1_rfl); (· rfl); (· rfl)) | ((with_reducible apply of_rfl); (· rfl); (· rfl))
      | (with_reducible refine wp_t ?_) | (with_reducible refine wp_f ?_) | (with_reducible refine wp_nt ?_) | (with_reducible refine wp_nf ?_)
      | ((with_reducible apply ex_t); (· rfl)) | ((with_reducible apply ex_f); (· rfl))
      | ((with_reducible apply ex_and4); (· rfl); (· rfl); (· rfl)) | ((with_reducible apply ex_and3); (· rfl); (· rfl)) | ((with_reducible apply ex_and2); (· rfl)) | ((with_reducible apply ex_and); (· rfl))
      | ((with_reducible apply isT_and); (· rfl)) | ((with_reducible apply ex_bm); (· rfl); (· rfl); (· rfl))
      | dsimp only)
    obtain ⟨hh, er⟩ := rows_tail hm (text_ln hrl hr20 hrn ht1 ht2) ht3 (es_good hm ho) (by rw [List.length_map]; omega)
    obtain ⟨hh2, ef⟩ := fault_exc hm ⟨hh, er⟩
    refine ⟨rfl, _, _, hh2, rfl, ef, ?_⟩
    repeat (first
      | (with_reducible first | refine okm_ret ?_ | refine okm_cn ?_ | refine okm_op2 ?_ | refine okm_tst ?_ | refine okm_ifE ?_ | refine okm_mnil ?_ | refine okm_mcons ?_ | refine okm_notT ?_ | refine okm_notV ?_ | refine okm_chain ?_ | refine okm_andT ?_ | refine okm_orT ?_ | refine okm_andV ?_ | refine okm_orV ?_ | refine okm_unE ?_ | refine okm_fnE ?_ | refine okm_lenE ?_ | refine okm_ixE ?_ | refine okm_ptN ?_ | refine okm_ptS ?_ | refine okm_slE ?_ | refine okm_bmE ?_ | refine okm_isiE ?_ | refine okm_itE ?_ | refine okm_itN ?_ | refine okm_it1 ?_ | refine okm_lcM ?_ | refine okm_callP ?_ | refine okm_callM ?_ | refine okm_fz ?_ | refine okm_fzD ?_ | refine okm_lmE ?_ | refine okm_spNE ?_ | refine oks_seq ?_ | refine oks_if ?_ | refine oks_set ?_ | refine oks_asg ?_ | refine oks_sret ?_ | refine oks_sexp ?_ | refine oks_snx ?_ | refine oks_for ?_ | refine oks_aug ?_ | refine oks_augS ?_ | refine oks_raise ?_ | refine okm_bnd ?_)
      | ((with_reducible apply okm_vr); (· rfl))
      | ((with_reducible apply okm_tupE); (· rfl); (· rfl)) | ((with_reducible apply okm_lstE); (· rfl); (· rfl)) | ((with_reducible apply okm_lstN); (· rfl))
      | ((with_reducible apply op_rfl); (· rfl); (· rfl); (· rfl)) | ((with_reducible apply o1_rfl); (· rfl); (· rfl)) | ((with_reducible apply of_rfl); (· rfl); (· rfl))
      | (with_reducible refine wp_t ?_) | (with_reducible refine wp_f ?_) | (with_reducible refine wp_nt ?_) | (with_reducible refine wp_nf ?_)
      | ((with_reducible apply ex_t); (· rfl)) | ((with_reducible apply ex_f); (· rfl))
      | ((with_reducible apply ex_and4); (· rfl); (· rfl); (· rfl)) | ((with_reducible apply ex_and3); (· rfl); (· rfl)) | ((with_reducible apply ex_and2); (· rfl)) | ((with_reducible apply ex_and); (· rfl))
      | ((with_reducible apply isT_and); (· rfl)) | ((with_reducible apply ex_bm); (· rfl); (· rfl); (· rfl))
      | dsimp only)
    refine ⟨fun z => absurd z (by simp [PyData.eqv, PyData.eqvAll]), fun _ => ?_⟩
    repeat (first
      | (with_reducible first | refine okm_ret ?_ | refine okm_cn ?_ | refine okm_op2 ?_ | refine okm_tst ?_ | refine okm_ifE ?_ | refine okm_mnil ?_ | refine okm_mcons ?_ | refine okm_notT ?_ | refine okm_notV ?_ | refine okm_chain ?_ | refine okm_andT ?_ | refine okm_orT ?_ | refine okm_andV ?_ | refine okm_orV ?_ | refine okm_unE ?_ | refine okm_fnE ?_ | refine okm_lenE ?_ | refine okm_ixE ?_ | refine okm_ptN ?_ | refine okm_ptS ?_ | refine okm_slE ?_ | refine okm_bmE ?_ | refine okm_isiE ?_ | refine okm_itE ?_ | refine okm_itN ?_ | refine okm_it1 ?_ | refine okm_lcM ?_ | refine okm_callP ?_ | refine okm_callM ?_ | refine okm_fz ?_ | refine okm_fzD ?_ | refine okm_lmE ?_ | refine okm_spNE ?_ | refine oks_seq ?_ | refine oks_if ?_ | refine oks_set ?_ | refine oks_asg ?_ | refine oks_sret ?_ | refine oks_sexp ?_ | refine oks_snx ?_ | refine oks_for ?_ | refine oks_aug ?_ | refine oks_augS ?_ | refine oks_raise ?_ | refine okm_bnd ?_)
      | ((with_reducible apply okm_vr); (· rfl))
      | ((with_reducible apply okm_tupE); (· rfl); (· rfl)) | ((with_reducible apply okm_lstE); (· rfl); (· rfl)) | ((with_reducible apply okm_lstN); (· rfl))
      | ((with_reducible apply op_rfl); (· rfl); (· rfl); (· rfl)) | ((with_reducible apply o1_rfl); (· rfl); (· rfl)) | ((with_reducible apply of_rfl); (· rfl); (· rfl))
      | (with_reducible refine wp_t ?_) | (with_reducible refine wp_f ?_) | (with_reducible refine wp_nt ?_) | (with_reducible refine wp_nf ?_)
      | ((with_reducible apply ex_t); (· rfl)) | ((with_reducible apply ex_f); (· rfl))
      | ((with_reducible apply ex_and4); (· rfl); (· rfl); (· rfl)) | ((with_reducible apply ex_and3); (· rfl); (· rfl)) | ((with_reducible apply ex_and2); (· rfl)) | ((with_reducible apply ex_and); (· rfl))
      | ((with_reducible apply isT_and); (· rfl)) | ((with_reducible apply ex_bm); (· rfl); (· rfl); (· rfl))
      | dsimp only)
  rintro δ h' ⟨rfl, rfl⟩
  refine oks_if (okm_tst (okm_op2 (okm_vr rfl (okm_bnd (okm_mnil (okm_lstE rfl rfl ?_))))))
  refine op_rfl rfl rfl (pNe_nil (rows_pl ho) (by decide)) ⟨_, rfl, fun hne => ?_, fun _ => ⟨_, rfl, _, _, n + 1, rfl, hdr1, by omega, hd ⟨_, _, _, _, _, _, _, _, _, _, _, _, _, rfl⟩⟩⟩
  have hpos : 0 < es.length := by
    cases es with
    | nil => cases hne
    | cons _ _ => simp
  -- at
  refine oks_cut (fun δ h' => h' = (h.set 0 (Dr ns (n + 1))).set 0 (Dr ns (n + 1 + 1)) ∧ Hd (∃ i : Nat, i < es.length ∧ δ = [x0, some (.loc 0), x2, x3, x4, some (.d (.lst ((es.map eRow).map .str))), x6, some (.d (.lst (es.map (told m)))), some (.d (.bl (lg m))), some (.d (.str (textS (es.map eRow)))), x10, some (.d (.int (i : Nat))), x12, x13, x14, x15, x16, x17, x18, x19, x20, x21])) ?_ ?_
  · repeat (first
    | (with_reducible first | refine okm_ret ?_ | refine okm_cn ?_ | refine okm_op2 ?_ | refine okm_tst ?_ | refine okm_ifE ?_ | refine okm_mnil ?_ | refine okm_mcons ?_ | refine okm_notT ?_ | refine okm_notV ?_ | refine okm_chain ?_ | refine okm_andT ?_ | refine okm_orT ?_ | refine okm_andV ?_ | refine okm_orV ?_ | refine okm_unE ?_ | refine okm_fnE ?_ | refine okm_lenE ?_ | refine okm_ixE ?_ | refine okm_ptN ?_ | refine okm_ptS ?_ | refine okm_slE ?_ | refine okm_bmE ?_ | refine okm_isiE ?_ | refine okm_itE ?_ | refine okm_itN ?_ | refine okm_it1 ?_ | refine okm_lcM ?_ | refine okm_callP ?_ | refine okm_callM ?_ | refine okm_fz ?_ | refine okm_fzD ?_ | refine okm_lmE ?_ | refine okm_spNE ?_ | refine oks_seq ?_ | refine oks_if ?_ | refine oks_set ?_ | refine oks_asg ?_ | refine oks_sret ?_ | refine oks_sexp ?_ | refine oks_snx ?_ | refine oks_for ?_ | refine oks_aug ?_ | refine oks_augS ?_ | refine oks_raise ?_ | refine okm_bnd ?_)
    | ((with_reducible apply okm_vr); (· rfl))
    | ((with_reducible apply okm_tupE); (· rfl); (· rfl)) | ((with_reducible apply okm_lstE); (· rfl); (· rfl)) | ((with_reducible apply okm_lstN); (· rfl))
    | ((with_reducible apply op_rfl); (· rfl); (· rfl); (· rfl)) | ((with_reducible apply o1_rfl); (· rfl); (· rfl)) | ((with_reducible apply of_rfl); (· rfl); (· rfl))
    | (with_reducible refine wp_t ?_) | (with_reducible refine wp_f ?_) | (with_reducible refine wp_nt ?_) | (with_reducible refine wp_nf ?_)
    | ((with_reducible apply ex_t); (· rfl)) | ((with_reducible apply ex_f); (· rfl))
    | ((with_reducible apply ex_and4); (· rfl); (· rfl); (· rfl)) | ((with_reducible apply ex_and3); (· rfl); (· rfl)) | ((with_reducible apply ex_and2); (· rfl)) | ((with_reducible apply ex_and); (· rfl))
    | ((with_reducible apply isT_and); (· rfl)) | ((with_reducible apply ex_bm); (· rfl); (· rfl); (· rfl))
    | dsimp only)
    have hlen : 0 < ((((es.map eRow).map D.str).length : Nat) : Int) := by
      rw [List.length_map, List.length_map]
      omega
    obtain ⟨z, h1, h2, e⟩ := take_ok hns hb (by omega) hdr1 hlen
    refine ⟨rfl, _, _, e, ?_⟩
    rw [List.length_map, List.length_map] at h2
    refine ⟨_, _, rfl, rfl, hd ⟨z.toNat, by omega, ?_⟩⟩
    rw [Int.toNat_of_nonneg h1]
    rfl
  rintro δ h' ⟨rfl, i, hi, rfl⟩
  have hdr2 := dr_set hdr1 (Dr ns (n + 1 + 1))
  generalize hH2 : (h.set 0 (Dr ns (n + 1))).set 0 (Dr ns (n + 1 + 1)) = H2 at hdr2 ⊢
  have hL : 0 < H2.length := (List.getElem?_eq_some_iff.mp hdr2).1
  have heo := ho es[i] (List.getElem_mem hi)
  have hix : atI ((es.map eRow).map D.str) (i : Int) = some (.str (eRow es[i])) := atI_nat (j := i) (by rw [List.getElem?_map, List.getElem?_map, List.getElem?_eq_getElem hi]; rfl)
  have hlw : (eW es[i]).length ≤ 3 := by
    have := heo.2.2.2
    show (es[i].2.map numS).length + 1 ≤ 3
    rw [List.length_map]
    omega
  have hln : LnW (eRow es[i]) (eW es[i]) := row_ln (List.cons_ne_nil _ _) (eW_word heo) (by omega)
  -- words
  refine oks_cut (fun δ h' => δ = [x0, some (.loc 0), x2, x3, x4, some (.d (.lst ((es.map eRow).map .str))), x6, some (.d (.lst (es.map (told m)))), some (.d (.bl (lg m))), some (.d (.str (textS (es.map eRow)))), x10, some (.d (.int (i : Nat))), some (.loc H2.length), x13, x14, x15, x16, x17, x18, x19, x20, x21] ∧ H2 ++ [O.lst (((eW es[i]).map D.str).map U.d)] = h') ?_ ?_
  · repeat (first
    | (with_reducible first | refine okm_ret ?_ | refine okm_cn ?_ | refine okm_op2 ?_ | refine okm_tst ?_ | refine okm_ifE ?_ | refine okm_mnil ?_ | refine okm_mcons ?_ | refine okm_notT ?_ | refine okm_notV ?_ | refine okm_chain ?_ | refine okm_andT ?_ | refine okm_orT ?_ | refine okm_andV ?_ | refine okm_orV ?_ | refine okm_unE ?_ | refine okm_fnE ?_ | refine okm_lenE ?_ | refine okm_ixE ?_ | refine okm_ptN ?_ | refine okm_ptS ?_ | refine okm_slE ?_ | refine okm_bmE ?_ | refine okm_isiE ?_ | refine okm_itE ?_ | refine okm_itN ?_ | refine okm_it1 ?_ | refine okm_lcM ?_ | refine okm_callP ?_ | refine okm_callM ?_ | refine okm_fz ?_ | refine okm_fzD ?_ | refine okm_lmE ?_ | refine okm_spNE ?_ | refine oks_seq ?_ | refine oks_if ?_ | refine oks_set ?_ | refine oks_asg ?_ | refine oks_sret ?_ | refine oks_sexp ?_ | refine oks_snx ?_ | refine oks_for ?_ | refine oks_aug ?_ | refine oks_augS ?_ | refine oks_raise ?_ | refine okm_bnd ?_)
    | ((with_reducible apply okm_vr); (· rfl))
    | ((with_reducible apply okm_tupE); (· rfl); (· rfl)) | ((with_reducible apply okm_lstE); (· rfl); (· rfl)) | ((with_reducible apply okm_lstN); (· rfl))
    | ((with_reducible apply op_rfl); (· rfl); (· rfl); (· rfl)) | ((with_reducible apply o1_rfl); (· rfl); (· rfl)) | ((with_reducible apply of_rfl); (· rfl); (· rfl))
    | (with_reducible refine wp_t ?_) | (with_reducible refine wp_f ?_) | (with_reducible refine wp_nt ?_) | (with_reducible refine wp_nf ?_)
    | ((with_reducible apply ex_t); (· rfl)) | ((with_reducible apply ex_f); (· rfl))
    | ((with_reducible apply ex_and4); (· rfl); (· rfl); (· rfl)) | ((with_reducible apply ex_and3); (· rfl); (· rfl)) | ((with_reducible apply ex_and2); (· rfl)) | ((with_reducible apply ex_and); (· rfl))
    | ((with_reducible apply isT_and); (· rfl)) | ((with_reducible apply ex_bm); (· rfl); (· rfl); (· rfl))
    | dsimp only)
    refine ⟨_, congrArg (Option.map U.d) hix, ?_⟩
    refine ⟨_, rfl, ?_⟩
    repeat (first
      | (with_reducible first | refine okm_ret ?_ | refine okm_cn ?_ | refine okm_op2 ?_ | refine okm_tst ?_ | refine okm_ifE ?_ | refine okm_mnil ?_ | refine okm_mcons ?_ | refine okm_notT ?_ | refine okm_notV ?_ | refine okm_chain ?_ | refine okm_andT ?_ | refine okm_orT ?_ | refine okm_andV ?_ | refine okm_orV ?_ | refine okm_unE ?_ | refine okm_fnE ?_ | refine okm_lenE ?_ | refine okm_ixE ?_ | refine okm_ptN ?_ | refine okm_ptS ?_ | refine okm_slE ?_ | refine okm_bmE ?_ | refine okm_isiE ?_ | refine okm_itE ?_ | refine okm_itN ?_ | refine okm_it1 ?_ | refine okm_lcM ?_ | refine okm_callP ?_ | refine okm_callM ?_ | refine okm_fz ?_ | refine okm_fzD ?_ | refine okm_lmE ?_ | refine okm_spNE ?_ | refine oks_seq ?_ | refine oks_if ?_ | refine oks_set ?_ | refine oks_asg ?_ | refine oks_sret ?_ | refine oks_sexp ?_ | refine oks_snx ?_ | refine oks_for ?_ | refine oks_aug ?_ | refine oks_augS ?_ | refine oks_raise ?_ | refine okm_bnd ?_)
      | ((with_reducible apply okm_vr); (· rfl))
      | ((with_reducible apply okm_tupE); (· rfl); (· rfl)) | ((with_reducible apply okm_lstE); (· rfl); (· rfl)) | ((with_reducible apply okm_lstN); (· rfl))
      | ((with_reducible apply op_rfl); (· rfl); (· rfl); (· rfl)) | ((with_reducible apply o1_rfl); (· rfl); (· rfl)) | ((with_reducible apply of_rfl); (· rfl); (· rfl))
      | (with_reducible refine wp_t ?_) | (with_reducible refine wp_f ?_) | (with_reducible refine wp_nt ?_) | (with_reducible refine wp_nf ?_)
      | ((with_reducible apply ex_t); (· rfl)) | ((with_reducible apply ex_f); (· rfl))
      | ((with_reducible apply ex_and4); (· rfl); (· rfl); (· rfl)) | ((with_reducible apply ex_and3); (· rfl); (· rfl)) | ((with_reducible apply ex_and2); (· rfl)) | ((with_reducible apply ex_and); (· rfl))
      | ((with_reducible apply isT_and); (· rfl)) | ((with_reducible apply ex_bm); (· rfl); (· rfl); (· rfl))
      | dsimp only)
    exact ⟨ln_split hln, _, _, rfl, rfl, rfl⟩
  rintro δ h' ⟨rfl, rfl⟩
  have hdr3 : (H2 ++ [O.lst (((eW es[i]).map D.str).map U.d)])[0]? = some (Dr ns (n + 1 + 1)) := by
    rw [List.getElem?_append_left hL]
    exact hdr2
  have hwl : (H2 ++ [O.lst (((eW es[i]).map D.str).map U.d)])[H2.length]? = some (O.lst (((eW es[i]).map D.str).map U.d)) := by simp
  -- spot
  refine oks_cut (fun δ h' => h' = (H2 ++ [O.lst (((eW es[i]).map D.str).map U.d)]).set 0 (Dr ns (n + 1 + 1 + 1)) ∧ Hd (∃ j : Nat, j < (eW es[i]).length ∧ δ = [x0, some (.loc 0), x2, x3, x4, some (.d (.lst ((es.map eRow).map .str))), x6, some (.d (.lst (es.map (told m)))), some (.d (.bl (lg m))), some (.d (.str (textS (es.map eRow)))), x10, some (.d (.int (i : Nat))), some (.loc H2.length), some (.d (.int (j : Nat))), x14, x15, x16, x17, x18, x19, x20, x21])) ?_ ?_
  · repeat (first
    | (with_reducible first | refine okm_ret ?_ | refine okm_cn ?_ | refine okm_op2 ?_ | refine okm_tst ?_ | refine okm_ifE ?_ | refine okm_mnil ?_ | refine okm_mcons ?_ | refine okm_notT ?_ | refine okm_notV ?_ | refine okm_chain ?_ | refine okm_andT ?_ | refine okm_orT ?_ | refine okm_andV ?_ | refine okm_orV ?_ | refine okm_unE ?_ | refine okm_fnE ?_ | refine okm_lenE ?_ | refine okm_ixE ?_ | refine okm_ptN ?_ | refine okm_ptS ?_ | refine okm_slE ?_ | refine okm_bmE ?_ | refine okm_isiE ?_ | refine okm_itE ?_ | refine okm_itN ?_ | refine okm_it1 ?_ | refine okm_lcM ?_ | refine okm_callP ?_ | refine okm_callM ?_ | refine okm_fz ?_ | refine okm_fzD ?_ | refine okm_lmE ?_ | refine okm_spNE ?_ | refine oks_seq ?_ | refine oks_if ?_ | refine oks_set ?_ | refine oks_asg ?_ | refine oks_sret ?_ | refine oks_sexp ?_ | refine oks_snx ?_ | refine oks_for ?_ | refine oks_aug ?_ | refine oks_augS ?_ | refine oks_raise ?_ | refine okm_bnd ?_)
    | ((with_reducible apply okm_vr); (· rfl))
    | ((with_reducible apply okm_tupE); (· rfl); (· rfl)) | ((with_reducible apply okm_lstE); (· rfl); (· rfl)) | ((with_reducible apply okm_lstN); (· rfl))
    | ((with_reducible apply op_rfl); (· rfl); (· rfl); (· rfl)) | ((with_reducible apply o1_rfl); (· rfl); (· rfl)) | ((with_reducible apply of_rfl); (· rfl); (· rfl))
    | (with_reducible refine wp_t ?_) | (with_reducible refine wp_f ?_) | (with_reducible refine wp_nt ?_) | (with_reducible refine wp_nf ?_)
    | ((with_reducible apply ex_t); (· rfl)) | ((with_reducible apply ex_f); (· rfl))
    | ((with_reducible apply ex_and4); (· rfl); (· rfl); (· rfl)) | ((with_reducible apply ex_and3); (· rfl); (· rfl)) | ((with_reducible apply ex_and2); (· rfl)) | ((with_reducible apply ex_and); (· rfl))
    | ((with_reducible apply isT_and); (· rfl)) | ((with_reducible apply ex_bm); (· rfl); (· rfl); (· rfl))
    | dsimp only)
    refine ⟨by unfold lenU; simp only [hwl]; rfl, ?_⟩
    repeat (first
      | (with_reducible first | refine okm_ret ?_ | refine okm_cn ?_ | refine okm_op2 ?_ | refine okm_tst ?_ | refine okm_ifE ?_ | refine okm_mnil ?_ | refine okm_mcons ?_ | refine okm_notT ?_ | refine okm_notV ?_ | refine okm_chain ?_ | refine okm_andT ?_ | refine okm_orT ?_ | refine okm_andV ?_ | refine okm_orV ?_ | refine okm_unE ?_ | refine okm_fnE ?_ | refine okm_lenE ?_ | refine okm_ixE ?_ | refine okm_ptN ?_ | refine okm_ptS ?_ | refine okm_slE ?_ | refine okm_bmE ?_ | refine okm_isiE ?_ | refine okm_itE ?_ | refine okm_itN ?_ | refine okm_it1 ?_ | refine okm_lcM ?_ | refine okm_callP ?_ | refine okm_callM ?_ | refine okm_fz ?_ | refine okm_fzD ?_ | refine okm_lmE ?_ | refine okm_spNE ?_ | refine oks_seq ?_ | refine oks_if ?_ | refine oks_set ?_ | refine oks_asg ?_ | refine oks_sret ?_ | refine oks_sexp ?_ | refine oks_snx ?_ | refine oks_for ?_ | refine oks_aug ?_ | refine oks_augS ?_ | refine oks_raise ?_ | refine okm_bnd ?_)
      | ((with_reducible apply okm_vr); (· rfl))
      | ((with_reducible apply okm_tupE); (· rfl); (· rfl)) | ((with_reducible apply okm_lstE); (· rfl); (· rfl)) | ((with_reducible apply okm_lstN); (· rfl))
      | ((with_reducible apply op_rfl); (· rfl); (· rfl); (· rfl)) | ((with_reducible apply o1_rfl); (· rfl); (· rfl)) | ((with_reducible apply of_rfl); (· rfl); (· rfl))
      | (with_reducible refine wp_t ?_) | (with_reducible refine wp_f ?_) | (with_reducible refine wp_nt ?_) | (with_reducible refine wp_nf ?_)
      | ((with_reducible apply ex_t); (· rfl)) | ((with_reducible apply ex_f); (· rfl))
      | ((with_reducible apply ex_and4); (· rfl); (· rfl); (· rfl)) | ((with_reducible apply ex_and3); (· rfl); (· rfl)) | ((with_reducible apply ex_and2); (· rfl)) | ((with_reducible apply ex_and); (· rfl))
      | ((with_reducible apply isT_and); (· rfl)) | ((with_reducible apply ex_bm); (· rfl); (· rfl); (· rfl))
      | dsimp only)
    have hlen : 0 < (((((eW es[i]).map D.str).map U.d).length : Nat) : Int) := by
      rw [List.length_map, List.length_map]
      show 0 < ((((es[i].2.map numS).length + 1 : Nat)) : Int)
      omega
    obtain ⟨z, h1, h2, e⟩ := take_ok hns hb (by omega) hdr3 hlen
    refine ⟨rfl, _, _, e, ?_⟩
    rw [List.length_map, List.length_map] at h2
    refine ⟨_, _, rfl, rfl, hd ⟨z.toNat, by omega, ?_⟩⟩
    rw [Int.toNat_of_nonneg h1]
    rfl
  rintro δ h' ⟨rfl, j, hj, rfl⟩
  have hdr4 := dr_set hdr3 (Dr ns (n + 1 + 1 + 1))
  generalize hH4 : (H2 ++ [O.lst (((eW es[i]).map D.str).map U.d)]).set 0 (Dr ns (n + 1 + 1 + 1)) = H4 at hdr4 ⊢
  have hwl4 : H4[H2.length]? = some (O.lst (((eW es[i]).map D.str).map U.d)) := by
    rw [← hH4, List.getElem?_set_ne (by omega)]
    exact hwl
  -- words[spot] = ..
  refine oks_cut (fun δ h' => δ = [x0, some (.loc 0), x2, x3, x4, some (.d (.lst ((es.map eRow).map .str))), x6, some (.d (.lst (es.map (told m)))), some (.d (.bl (lg m))), some (.d (.str (textS (es.map eRow)))), x10, some (.d (.int (i : Nat))), some (.loc H2.length), some (.d (.int (j : Nat))), x14, x15, x16, x17, x18, x19, x20, x21] ∧ Hd (∃ bad : Str, Word bad ∧ WA j bad false ∧ h' = (H4.set 0 (Dr ns (n + 1 + 1 + 1 + 1))).set H2.length (.lst ((((eW es[i]).set j bad).map D.str).map U.d)))) ?_ ?_
  · refine oks_asg ?_
    have pick : ∀ {bads : List Str}, bads ≠ [] → (∀ w ∈ bads, Word w ∧ WA j w false) → ∃ u h1, f__law_pick [.loc 0, .d (.lst (bads.map .str))] H4 = some (.ok u h1) ∧ ∃ δ2 h2, gset (vr 12) (vr 13) u [x0, some (.loc 0), x2, x3, x4, some (.d (.lst ((es.map eRow).map .str))), x6, some (.d (.lst (es.map (told m)))), some (.d (.bl (lg m))), some (.d (.str (textS (es.map eRow)))), x10, some (.d (.int (i : Nat))), some (.loc H2.length), some (.d (.int (j : Nat))), x14, x15, x16, x17, x18, x19, x20, x21] h1 = some (δ2, h2) ∧ ∃ δ' h', Out.nx δ2 h2 = .nx δ' h' ∧ δ' = [x0, some (.loc 0), x2, x3, x4, some (.d (.lst ((es.map eRow).map .str))), x6, some (.d (.lst (es.map (told m)))), some (.d (.bl (lg m))), some (.d (.str (textS (es.map eRow)))), x10, some (.d (.int (i : Nat))), some (.loc H2.length), some (.d (.int (j : Nat))), x14, x15, x16, x17, x18, x19, x20, x21] ∧ Hd (∃ bad : Str, Word bad ∧ WA j bad false ∧ h' = (H4.set 0 (Dr ns (n + 1 + 1 + 1 + 1))).set H2.length (.lst ((((eW es[i]).set j bad).map D.str).map U.d))) := by
      intro bads hb0 hbs
      obtain ⟨d, hd1, e⟩ := pick_ok hns hb (by omega) hdr4 (ds := bads.map .str) (by simpa using hb0)
      obtain ⟨bad, hbad, rfl⟩ := List.mem_map.mp hd1
      obtain ⟨g1, g2⟩ := hbs bad hbad
      refine ⟨_, _, e, _, _, ?_, _, _, rfl, rfl, hd ⟨bad, g1, g2, rfl⟩⟩
      have hwl5 : (H4.set 0 (Dr ns (n + 1 + 1 + 1 + 1)))[H2.length]? = some (O.lst (((eW es[i]).map D.str).map U.d)) := by
        rw [List.getElem?_set_ne (by omega)]
        exact hwl4
      have hix2 : ixN ((((eW es[i]).map D.str).map U.d).length) (j : Int) = some j := by
        unfold ixN
        rw [List.length_map, List.length_map, if_pos (by omega), if_pos (by omega)]
        simp
      unfold gset
      have e12 : vr 12 [x0, some (.loc 0), x2, x3, x4, some (.d (.lst ((es.map eRow).map .str))), x6, some (.d (.lst (es.map (told m)))), some (.d (.bl (lg m))), some (.d (.str (textS (es.map eRow)))), x10, some (.d (.int (i : Nat))), some (.loc H2.length), some (.d (.int (j : Nat))), x14, x15, x16, x17, x18, x19, x20, x21] (H4.set 0 (Dr ns (n + 1 + 1 + 1 + 1))) = some (.ok (.loc H2.length) (H4.set 0 (Dr ns (n + 1 + 1 + 1 + 1)))) := rfl
      have e13 : vr 13 [x0, some (.loc 0), x2, x3, x4, some (.d (.lst ((es.map eRow).map .str))), x6, some (.d (.lst (es.map (told m)))), some (.d (.bl (lg m))), some (.d (.str (textS (es.map eRow)))), x10, some (.d (.int (i : Nat))), some (.loc H2.length), some (.d (.int (j : Nat))), x14, x15, x16, x17, x18, x19, x20, x21] (H4.set 0 (Dr ns (n + 1 + 1 + 1 + 1))) = some (.ok (.d (.int (j : Nat))) (H4.set 0 (Dr ns (n + 1 + 1 + 1 + 1)))) := rfl
      simp only [e12, e13]
      unfold setU
      simp only [hwl5, hix2]
      rw [show (((eW es[i]).map D.str).map U.d).set j (U.d (D.str bad)) = (((eW es[i]).set j bad).map D.str).map U.d by rw [List.map_set, List.map_set]]
    repeat (first
      | (with_reducible first | refine okm_ret ?_ | refine okm_cn ?_ | refine okm_op2 ?_ | refine okm_tst ?_ | refine okm_ifE ?_ | refine okm_mnil ?_ | refine okm_mcons ?_ | refine okm_notT ?_ | refine okm_notV ?_ | refine okm_chain ?_ | refine okm_andT ?_ | refine okm_orT ?_ | refine okm_andV ?_ | refine okm_orV ?_ | refine okm_unE ?_ | refine okm_fnE ?_ | refine okm_lenE ?_ | refine okm_ixE ?_ | refine okm_ptN ?_ | refine okm_ptS ?_ | refine okm_slE ?_ | refine okm_bmE ?_ | refine okm_isiE ?_ | refine okm_itE ?_ | refine okm_itN ?_ | refine okm_it1 ?_ | refine okm_lcM ?_ | refine okm_callP ?_ | refine okm_callM ?_ | refine okm_fz ?_ | refine okm_fzD ?_ | refine okm_lmE ?_ | refine okm_spNE ?_ | refine oks_seq ?_ | refine oks_if ?_ | refine oks_set ?_ | refine oks_asg ?_ | refine oks_sret ?_ | refine oks_sexp ?_ | refine oks_snx ?_ | refine oks_for ?_ | refine oks_aug ?_ | refine oks_augS ?_ | refine oks_raise ?_ | refine okm_bnd ?_)
      | ((with_reducible apply okm_vr); (· rfl))
      | ((with_reducible apply okm_tupE); (· rfl); (· rfl)) | ((with_reducible apply okm_lstE); (· rfl); (· rfl)) | ((with_reducible apply okm_lstN); (· rfl))
      | ((with_reducible apply op_rfl); (· rfl); (· rfl); (· rfl)) | ((with_reducible apply o1_rfl); (· rfl); (· rfl)) | ((with_reducible apply of_rfl); (· rfl); (· rfl))
      | (with_reducible refine wp_t ?_) | (with_reducible refine wp_f ?_) | (with_reducible refine wp_nt ?_) | (with_reducible refine wp_nf ?_)
      | ((with_reducible apply ex_t); (· rfl)) | ((with_reducible apply ex_f); (· rfl))
      | ((with_reducible apply ex_and4); (· rfl); (· rfl); (· rfl)) | ((with_reducible apply ex_and3); (· rfl); (· rfl)) | ((with_reducible apply ex_and2); (· rfl)) | ((with_reducible apply ex_and); (· rfl))
      | ((with_reducible apply isT_and); (· rfl)) | ((with_reducible apply ex_bm); (· rfl); (· rfl); (· rfl))
      | dsimp only)
    refine ⟨fun hz => ?_, fun hz => ?_⟩
    · have hj0 : j = 0 := by
        have := of_decide_eq_true hz
        omega
      repeat (first
        | (with_reducible first | refine okm_ret ?_ | refine okm_cn ?_ | refine okm_op2 ?_ | refine okm_tst ?_ | refine okm_ifE ?_ | refine okm_mnil ?_ | refine okm_mcons ?_ | refine okm_notT ?_ | refine okm_notV ?_ | refine okm_chain ?_ | refine okm_andT ?_ | refine okm_orT ?_ | refine okm_andV ?_ | refine okm_orV ?_ | refine okm_unE ?_ | refine okm_fnE ?_ | refine okm_lenE ?_ | refine okm_ixE ?_ | refine okm_ptN ?_ | refine okm_ptS ?_ | refine okm_slE ?_ | refine okm_bmE ?_ | refine okm_isiE ?_ | refine okm_itE ?_ | refine okm_itN ?_ | refine okm_it1 ?_ | refine okm_lcM ?_ | refine okm_callP ?_ | refine okm_callM ?_ | refine okm_fz ?_ | refine okm_fzD ?_ | refine okm_lmE ?_ | refine okm_spNE ?_ | refine oks_seq ?_ | refine oks_if ?_ | refine oks_set ?_ | refine oks_asg ?_ | refine oks_sret ?_ | refine oks_sexp ?_ | refine oks_snx ?_ | refine oks_for ?_ | refine oks_aug ?_ | refine oks_augS ?_ | refine oks_raise ?_ | refine okm_bnd ?_)
        | ((with_reducible apply okm_vr); (· rfl))
        | ((with_reducible apply okm_tupE); (· rfl); (· rfl)) | ((with_reducible apply okm_lstE); (· rfl); (· rfl)) | ((with_reducible apply okm_lstN); (· rfl))
        | ((with_reducible apply op_rfl); (· rfl); (· rfl); (· rfl)) | ((with_reducible apply o1_rfl); (· rfl); (· rfl)) | ((with_reducible apply of_rfl); (· rfl); (· rfl))
        | (with_reducible refine wp_t ?_) | (with_reducible refine wp_f ?_) | (with_reducible refine wp_nt ?_) | (with_reducible refine wp_nf ?_)
        | ((with_reducible apply ex_t); (· rfl)) | ((with_reducible apply ex_f); (· rfl))
        | ((with_reducible apply ex_and4); (· rfl); (· rfl); (· rfl)) | ((with_reducible apply ex_and3); (· rfl); (· rfl)) | ((with_reducible apply ex_and2); (· rfl)) | ((with_reducible apply ex_and); (· rfl))
        | ((with_reducible apply isT_and); (· rfl)) | ((with_reducible apply ex_bm); (· rfl); (· rfl); (· rfl))
        | dsimp only)
      refine ⟨rfl, ?_⟩
      refine pick (bads := ["", "A", "-1", "007", "100", "t1", "abcdefghi", "5"]) (by simp) fun w hw => ⟨?_, ?_⟩
      · refine wordB_ok (List.all_eq_true.mp words_lit w ?_)
        simp only [List.mem_cons, List.mem_nil_iff, or_false] at hw ⊢
        rcases hw with h | h | h | h | h | h | h | h <;> simp [h]
      · unfold WA
        rw [if_pos hj0]
        exact wn_of (List.all_eq_true.mp wn_bad w hw)
    · have hj0 : j ≠ 0 := by
        have := of_decide_eq_false hz
        omega
      repeat (first
        | (with_reducible first | refine okm_ret ?_ | refine okm_cn ?_ | refine okm_op2 ?_ | refine okm_tst ?_ | refine okm_ifE ?_ | refine okm_mnil ?_ | refine okm_mcons ?_ | refine okm_notT ?_ | refine okm_notV ?_ | refine okm_chain ?_ | refine okm_andT ?_ | refine okm_orT ?_ | refine okm_andV ?_ | refine okm_orV ?_ | refine okm_unE ?_ | refine okm_fnE ?_ | refine okm_lenE ?_ | refine okm_ixE ?_ | refine okm_ptN ?_ | refine okm_ptS ?_ | refine okm_slE ?_ | refine okm_bmE ?_ | refine okm_isiE ?_ | refine okm_itE ?_ | refine okm_itN ?_ | refine okm_it1 ?_ | refine okm_lcM ?_ | refine okm_callP ?_ | refine okm_callM ?_ | refine okm_fz ?_ | refine okm_fzD ?_ | refine okm_lmE ?_ | refine okm_spNE ?_ | refine oks_seq ?_ | refine oks_if ?_ | refine oks_set ?_ | refine oks_asg ?_ | refine oks_sret ?_ | refine oks_sexp ?_ | refine oks_snx ?_ | refine oks_for ?_ | refine oks_aug ?_ | refine oks_augS ?_ | refine oks_raise ?_ | refine okm_bnd ?_)
        | ((with_reducible apply okm_vr); (· rfl))
        | ((with_reducible apply okm_tupE); (· rfl); (· rfl)) | ((with_reducible apply okm_lstE); (· rfl); (· rfl)) | ((with_reducible apply okm_lstN); (· rfl))
        | ((with_reducible apply op_rfl); (· rfl); (· rfl); (· rfl)) | ((with_reducible apply o1_rfl); (· rfl); (· rfl)) | ((with_reducible apply of_rfl); (· rfl); (· rfl))
        | (with_reducible refine wp_t ?_) | (with_reducible refine wp_f ?_) | (with_reducible refine wp_nt ?_) | (with_reducible refine wp_nf ?_)
        | ((with_reducible apply ex_t); (· rfl)) | ((with_reducible apply ex_f); (· rfl))
        | ((with_reducible apply ex_and4); (· rfl); (· rfl); (· rfl)) | ((with_reducible apply ex_and3); (· rfl); (· rfl)) | ((with_reducible apply ex_and2); (· rfl)) | ((with_reducible apply ex_and); (· rfl))
        | ((with_reducible apply isT_and); (· rfl)) | ((with_reducible apply ex_bm); (· rfl); (· rfl); (· rfl))
        | dsimp only)
      refine ⟨rfl, ?_⟩
      refine pick (bads := ["", "A", "-1", "007", "100", "t1", "abcdefghi", "a", "01"]) (by simp) fun w hw => ⟨?_, ?_⟩
      · refine wordB_ok (List.all_eq_true.mp words_lit w ?_)
        simp only [List.mem_cons, List.mem_nil_iff, or_false] at hw ⊢
        rcases hw with h | h | h | h | h | h | h | h | h <;> simp [h]
      · unfold WA
        rw [if_neg hj0]
        exact ws_of (List.all_eq_true.mp ws_bad w hw)
  rintro δ h' ⟨rfl, bad, hbw, hba, rfl⟩
  have hdr5 : ((H4.set 0 (Dr ns (n + 1 + 1 + 1 + 1))).set H2.length (.lst ((((eW es[i]).set j bad).map D.str).map U.d)))[0]? = some (Dr ns (n + 1 + 1 + 1 + 1)) := by
    rw [List.getElem?_set_ne (by omega)]
    exact dr_set hdr4 _
  have hvw : view ((H4.set 0 (Dr ns (n + 1 + 1 + 1 + 1))).set H2.length (.lst ((((eW es[i]).set j bad).map D.str).map U.d))) (.loc H2.length) = some (.lst (((eW es[i]).set j bad).map D.str)) := by
    have hl2 : H2.length < (H4.set 0 (Dr ns (n + 1 + 1 + 1 + 1))).length := by
      rw [List.length_set]
      exact (List.getElem?_eq_some_iff.mp hwl4).1
    exact view_loc (List.getElem?_set_self hl2) (allD_map _)
  generalize hH6 : (H4.set 0 (Dr ns (n + 1 + 1 + 1 + 1))).set H2.length (.lst ((((eW es[i]).set j bad).map D.str).map U.d)) = H6 at hdr5 hvw ⊢
  have hsw := set_word (j := j) (eW_word heo) hbw
  have hsl : ((eW es[i]).set j bad).length ≤ 5 := by
    rw [List.length_set]
    omega
  have hX1 : (rowS ((eW es[i]).set j bad)).length ≤ 50 := row_len hsw hsl
  have hX2 : 10 ∉ TL.tl (rowS ((eW es[i]).set j bad)) := row_nl hsw
  have hXl : LnW (rowS ((eW es[i]).set j bad)) ((eW es[i]).set j bad) := row_ln (by
    intro z
    have := congrArg List.length z
    rw [List.length_set] at this
    simp [eW] at this) hsw hsl
  have hXb := bad_set (m := m) (eW_wa heo) (by have := heo.2.2.2; show (es[i].2.map numS).length + 1 ≤ m + 2; rw [List.length_map]; omega) hj hba
  have hj1 : pJoin (.str " ") [.lst (((eW es[i]).set j bad).map .str)] = some (.str (rowS ((eW es[i]).set j bad))) := join_row (fun w hw => (hsw w hw).2.2.1) hsl
  -- spoilt
  refine oks_cut (fun δ h' => δ = [x0, some (.loc 0), x2, x3, x4, some (.d (.lst ((es.map eRow).map .str))), x6, some (.d (.lst (es.map (told m)))), some (.d (.bl (lg m))), some (.d (.str (textS (es.map eRow)))), x10, some (.d (.int (i : Nat))), some (.loc H2.length), some (.d (.int (j : Nat))), some (.d (.str (textS (rows2 es i (rowS ((eW es[i]).set j bad)))))), x15, x16, x17, x18, x19, x20, x21] ∧ H6 = h') ?_ ?_
  · repeat (first
    | (with_reducible first | refine okm_ret ?_ | refine okm_cn ?_ | refine okm_op2 ?_ | refine okm_tst ?_ | refine okm_ifE ?_ | refine okm_mnil ?_ | refine okm_mcons ?_ | refine okm_notT ?_ | refine okm_notV ?_ | refine okm_chain ?_ | refine okm_andT ?_ | refine okm_orT ?_ | refine okm_andV ?_ | refine okm_orV ?_ | refine okm_unE ?_ | refine okm_fnE ?_ | refine okm_lenE ?_ | refine okm_ixE ?_ | refine okm_ptN ?_ | refine okm_ptS ?_ | refine okm_slE ?_ | refine okm_bmE ?_ | refine okm_isiE ?_ | refine okm_itE ?_ | refine okm_itN ?_ | refine okm_it1 ?_ | refine okm_lcM ?_ | refine okm_callP ?_ | refine okm_callM ?_ | refine okm_fz ?_ | refine okm_fzD ?_ | refine okm_lmE ?_ | refine okm_spNE ?_ | refine oks_seq ?_ | refine oks_if ?_ | refine oks_set ?_ | refine oks_asg ?_ | refine oks_sret ?_ | refine oks_sexp ?_ | refine oks_snx ?_ | refine oks_for ?_ | refine oks_aug ?_ | refine oks_augS ?_ | refine oks_raise ?_ | refine okm_bnd ?_)
    | ((with_reducible apply okm_vr); (· rfl))
    | ((with_reducible apply okm_tupE); (· rfl); (· rfl)) | ((with_reducible apply okm_lstE); (· rfl); (· rfl)) | ((with_reducible apply okm_lstN); (· rfl))
    | ((with_reducible apply op_rfl); (· rfl); (· rfl); (· rfl)) | ((with_reducible apply o1_rfl); (· rfl); (· rfl)) | ((with_reducible apply of_rfl); (· rfl); (· rfl))
    | (with_reducible refine wp_t ?_) | (with_reducible refine wp_f ?_) | (with_reducible refine wp_nt ?_) | (with_reducible refine wp_nf ?_)
    | ((with_reducible apply ex_t); (· rfl)) | ((with_reducible apply ex_f); (· rfl))
    | ((with_reducible apply ex_and4); (· rfl); (· rfl); (· rfl)) | ((with_reducible apply ex_and3); (· rfl); (· rfl)) | ((with_reducible apply ex_and2); (· rfl)) | ((with_reducible apply ex_and); (· rfl))
    | ((with_reducible apply isT_and); (· rfl)) | ((with_reducible apply ex_bm); (· rfl); (· rfl); (· rfl))
    | dsimp only)
    have hvs : viewS H6 [.loc H2.length] = some [.lst (((eW es[i]).set j bad).map D.str)] := by
      unfold viewS
      simp only [hvw]
      rfl
    refine ⟨_, _, _, rfl, hvs, hj1, ?_⟩
    repeat (first
      | (with_reducible first | refine okm_ret ?_ | refine okm_cn ?_ | refine okm_op2 ?_ | refine okm_tst ?_ | refine okm_ifE ?_ | refine okm_mnil ?_ | refine okm_mcons ?_ | refine okm_notT ?_ | refine okm_notV ?_ | refine okm_chain ?_ | refine okm_andT ?_ | refine okm_orT ?_ | refine okm_andV ?_ | refine okm_orV ?_ | refine okm_unE ?_ | refine okm_fnE ?_ | refine okm_lenE ?_ | refine okm_ixE ?_ | refine okm_ptN ?_ | refine okm_ptS ?_ | refine okm_slE ?_ | refine okm_bmE ?_ | refine okm_isiE ?_ | refine okm_itE ?_ | refine okm_itN ?_ | refine okm_it1 ?_ | refine okm_lcM ?_ | refine okm_callP ?_ | refine okm_callM ?_ | refine okm_fz ?_ | refine okm_fzD ?_ | refine okm_lmE ?_ | refine okm_spNE ?_ | refine oks_seq ?_ | refine oks_if ?_ | refine oks_set ?_ | refine oks_asg ?_ | refine oks_sret ?_ | refine oks_sexp ?_ | refine oks_snx ?_ | refine oks_for ?_ | refine oks_aug ?_ | refine oks_augS ?_ | refine oks_raise ?_ | refine okm_bnd ?_)
      | ((with_reducible apply okm_vr); (· rfl))
      | ((with_reducible apply okm_tupE); (· rfl); (· rfl)) | ((with_reducible apply okm_lstE); (· rfl); (· rfl)) | ((with_reducible apply okm_lstN); (· rfl))
      | ((with_reducible apply op_rfl); (· rfl); (· rfl); (· rfl)) | ((with_reducible apply o1_rfl); (· rfl); (· rfl)) | ((with_reducible apply of_rfl); (· rfl); (· rfl))
      | (with_reducible refine wp_t ?_) | (with_reducible refine wp_f ?_) | (with_reducible refine wp_nt ?_) | (with_reducible refine wp_nf ?_)
      | ((with_reducible apply ex_t); (· rfl)) | ((with_reducible apply ex_f); (· rfl))
      | ((with_reducible apply ex_and4); (· rfl); (· rfl); (· rfl)) | ((with_reducible apply ex_and3); (· rfl); (· rfl)) | ((with_reducible apply ex_and2); (· rfl)) | ((with_reducible apply ex_and); (· rfl))
      | ((with_reducible apply isT_and); (· rfl)) | ((with_reducible apply ex_bm); (· rfl); (· rfl); (· rfl))
      | dsimp only)
    have hc1 := cutL_len ((es.map eRow).map D.str) none (some (i : Int))
    have hc2 := cutL_len ((es.map eRow).map D.str) (some ((i : Int) + 1)) none
    rw [List.length_map, List.length_map] at hc1 hc2
    refine op_rfl rfl rfl (catL_ok (by rw [List.length_singleton]; omega)) ?_
    repeat (first
      | (with_reducible first | refine okm_ret ?_ | refine okm_cn ?_ | refine okm_op2 ?_ | refine okm_tst ?_ | refine okm_ifE ?_ | refine okm_mnil ?_ | refine okm_mcons ?_ | refine okm_notT ?_ | refine okm_notV ?_ | refine okm_chain ?_ | refine okm_andT ?_ | refine okm_orT ?_ | refine okm_andV ?_ | refine okm_orV ?_ | refine okm_unE ?_ | refine okm_fnE ?_ | refine okm_lenE ?_ | refine okm_ixE ?_ | refine okm_ptN ?_ | refine okm_ptS ?_ | refine okm_slE ?_ | refine okm_bmE ?_ | refine okm_isiE ?_ | refine okm_itE ?_ | refine okm_itN ?_ | refine okm_it1 ?_ | refine okm_lcM ?_ | refine okm_callP ?_ | refine okm_callM ?_ | refine okm_fz ?_ | refine okm_fzD ?_ | refine okm_lmE ?_ | refine okm_spNE ?_ | refine oks_seq ?_ | refine oks_if ?_ | refine oks_set ?_ | refine oks_asg ?_ | refine oks_sret ?_ | refine oks_sexp ?_ | refine oks_snx ?_ | refine oks_for ?_ | refine oks_aug ?_ | refine oks_augS ?_ | refine oks_raise ?_ | refine okm_bnd ?_)
      | ((with_reducible apply okm_vr); (· rfl))
      | ((with_reducible apply okm_tupE); (· rfl); (· rfl)) | ((with_reducible apply okm_lstE); (· rfl); (· rfl)) | ((with_reducible apply okm_lstN); (· rfl))
      | ((with_reducible apply op_rfl); (· rfl); (· rfl); (· rfl)) | ((with_reducible apply o1_rfl); (· rfl); (· rfl)) | ((with_reducible apply of_rfl); (· rfl); (· rfl))
      | (with_reducible refine wp_t ?_) | (with_reducible refine wp_f ?_) | (with_reducible refine wp_nt ?_) | (with_reducible refine wp_nf ?_)
      | ((with_reducible apply ex_t); (· rfl)) | ((with_reducible apply ex_f); (· rfl))
      | ((with_reducible apply ex_and4); (· rfl); (· rfl); (· rfl)) | ((with_reducible apply ex_and3); (· rfl); (· rfl)) | ((with_reducible apply ex_and2); (· rfl)) | ((with_reducible apply ex_and); (· rfl))
      | ((with_reducible apply isT_and); (· rfl)) | ((with_reducible apply ex_bm); (· rfl); (· rfl); (· rfl))
      | dsimp only)
    refine op_rfl rfl rfl (catL_ok (by rw [List.length_append, List.length_singleton]; omega)) ?_
    repeat (first
      | (with_reducible first | refine okm_ret ?_ | refine okm_cn ?_ | refine okm_op2 ?_ | refine okm_tst ?_ | refine okm_ifE ?_ | refine okm_mnil ?_ | refine okm_mcons ?_ | refine okm_notT ?_ | refine okm_notV ?_ | refine okm_chain ?_ | refine okm_andT ?_ | refine okm_orT ?_ | refine okm_andV ?_ | refine okm_orV ?_ | refine okm_unE ?_ | refine okm_fnE ?_ | refine okm_lenE ?_ | refine okm_ixE ?_ | refine okm_ptN ?_ | refine okm_ptS ?_ | refine okm_slE ?_ | refine okm_bmE ?_ | refine okm_isiE ?_ | refine okm_itE ?_ | refine okm_itN ?_ | refine okm_it1 ?_ | refine okm_lcM ?_ | refine okm_callP ?_ | refine okm_callM ?_ | refine okm_fz ?_ | refine okm_fzD ?_ | refine okm_lmE ?_ | refine okm_spNE ?_ | refine oks_seq ?_ | refine oks_if ?_ | refine oks_set ?_ | refine oks_asg ?_ | refine oks_sret ?_ | refine oks_sexp ?_ | refine oks_snx ?_ | refine oks_for ?_ | refine oks_aug ?_ | refine oks_augS ?_ | refine oks_raise ?_ | refine okm_bnd ?_)
      | ((with_reducible apply okm_vr); (· rfl))
      | ((with_reducible apply okm_tupE); (· rfl); (· rfl)) | ((with_reducible apply okm_lstE); (· rfl); (· rfl)) | ((with_reducible apply okm_lstN); (· rfl))
      | ((with_reducible apply op_rfl); (· rfl); (· rfl); (· rfl)) | ((with_reducible apply o1_rfl); (· rfl); (· rfl)) | ((with_reducible apply of_rfl); (· rfl); (· rfl))
      | (with_reducible refine wp_t ?_) | (with_reducible refine wp_f ?_) | (with_reducible refine wp_nt ?_) | (with_reducible refine wp_nf ?_)
      | ((with_reducible apply ex_t); (· rfl)) | ((with_reducible apply ex_f); (· rfl))
      | ((with_reducible apply ex_and4); (· rfl); (· rfl); (· rfl)) | ((with_reducible apply ex_and3); (· rfl); (· rfl)) | ((with_reducible apply ex_and2); (· rfl)) | ((with_reducible apply ex_and); (· rfl))
      | ((with_reducible apply isT_and); (· rfl)) | ((with_reducible apply ex_bm); (· rfl); (· rfl); (· rfl))
      | dsimp only)
    rw [rows2_D]
    refine ⟨szOk_of (by rw [List.length_map, List.length_map]; have := rows2_ct (i := i) (X := rowS ((eW es[i]).set j bad)) hes; omega), _, _, nl_lc (by show 21 < 22; decide) _ (rows2_len hm ho hX1), okm_lstF (allD_map _) ?_⟩
    repeat (first
      | (with_reducible first | refine okm_ret ?_ | refine okm_cn ?_ | refine okm_op2 ?_ | refine okm_tst ?_ | refine okm_ifE ?_ | refine okm_mnil ?_ | refine okm_mcons ?_ | refine okm_notT ?_ | refine okm_notV ?_ | refine okm_chain ?_ | refine okm_andT ?_ | refine okm_orT ?_ | refine okm_andV ?_ | refine okm_orV ?_ | refine okm_unE ?_ | refine okm_fnE ?_ | refine okm_lenE ?_ | refine okm_ixE ?_ | refine okm_ptN ?_ | refine okm_ptS ?_ | refine okm_slE ?_ | refine okm_bmE ?_ | refine okm_isiE ?_ | refine okm_itE ?_ | refine okm_itN ?_ | refine okm_it1 ?_ | refine okm_lcM ?_ | refine okm_callP ?_ | refine okm_callM ?_ | refine okm_fz ?_ | refine okm_fzD ?_ | refine okm_lmE ?_ | refine okm_spNE ?_ | refine oks_seq ?_ | refine oks_if ?_ | refine oks_set ?_ | refine oks_asg ?_ | refine oks_sret ?_ | refine oks_sexp ?_ | refine oks_snx ?_ | refine oks_for ?_ | refine oks_aug ?_ | refine oks_augS ?_ | refine oks_raise ?_ | refine okm_bnd ?_)
      | ((with_reducible apply okm_vr); (· rfl))
      | ((with_reducible apply okm_tupE); (· rfl); (· rfl)) | ((with_reducible apply okm_lstE); (· rfl); (· rfl)) | ((with_reducible apply okm_lstN); (· rfl))
      | ((with_reducible apply op_rfl); (· rfl); (· rfl); (· rfl)) | ((with_reducible apply o1_rfl); (· rfl); (· rfl)) | ((with_reducible apply of_rfl); (· rfl); (· rfl))
      | (with_reducible refine wp_t ?_) | (with_reducible refine wp_f ?_) | (with_reducible refine wp_nt ?_) | (with_reducible refine wp_nf ?_)
      | ((with_reducible apply ex_t); (· rfl)) | ((with_reducible apply ex_f); (· rfl))
      | ((with_reducible apply ex_and4); (· rfl); (· rfl); (· rfl)) | ((with_reducible apply ex_and3); (· rfl); (· rfl)) | ((with_reducible apply ex_and2); (· rfl)) | ((with_reducible apply ex_and); (· rfl))
      | ((with_reducible apply isT_and); (· rfl)) | ((with_reducible apply ex_bm); (· rfl); (· rfl); (· rfl))
      | dsimp only)
    exact ⟨_, _, _, rfl, rfl, join_text (rows2_len hm ho hX1) (rows2_ct hes), _, _, rfl, rfl, rfl⟩
  rintro δ h' ⟨rfl, rfl⟩
  have hint : ∀ {a b : Int} {A B : Prop}, B → ((!PyData.eqv (.tuple [.int a, .int b]) (.tuple [.int a, .int b])) = true → A) ∧ ((!PyData.eqv (.tuple [.int a, .int b]) (.tuple [.int a, .int b])) = false → B) := fun {a b A B} hB => ⟨fun z => absurd z (by simp [PyData.eqv, PyData.eqvAll]), fun _ => hB⟩
  refine oks_cut (fun δ h' => δ = [x0, some (.loc 0), x2, x3, x4, some (.d (.lst ((es.map eRow).map .str))), x6, some (.d (.lst (es.map (told m)))), some (.d (.bl (lg m))), some (.d (.str (textS (es.map eRow)))), x10, some (.d (.int (i : Nat))), some (.loc H2.length), some (.d (.int (j : Nat))), some (.d (.str (textS (rows2 es i (rowS ((eW es[i]).set j bad)))))), x15, x16, x17, x18, x19, x20, x21] ∧ H6 = h') ?_ ?_
  · obtain ⟨hh, ef⟩ := spoil hm ho hes hi hX1 hX2 hXl hXb (by omega) (tail := "") (by decide +kernel) (by decide +kernel)
    rw [str_nil] at ef
    obtain ⟨hh2, ef2⟩ := spoil hm ho hes hi hX1 hX2 hXl hXb (by omega) (tail := "x") (by decide +kernel) (by decide +kernel)
    have htl := text_len (rows2_len hm ho hX1 (i := i)) (rows2_ct hes)
    repeat (first
      | (with_reducible first | refine okm_ret ?_ | refine okm_cn ?_ | refine okm_op2 ?_ | refine okm_tst ?_ | refine okm_ifE ?_ | refine okm_mnil ?_ | refine okm_mcons ?_ | refine okm_notT ?_ | refine okm_notV ?_ | refine okm_chain ?_ | refine okm_andT ?_ | refine okm_orT ?_ | refine okm_andV ?_ | refine okm_orV ?_ | refine okm_unE ?_ | refine okm_fnE ?_ | refine okm_lenE ?_ | refine okm_ixE ?_ | refine okm_ptN ?_ | refine okm_ptS ?_ | refine okm_slE ?_ | refine okm_bmE ?_ | refine okm_isiE ?_ | refine okm_itE ?_ | refine okm_itN ?_ | refine okm_it1 ?_ | refine okm_lcM ?_ | refine okm_callP ?_ | refine okm_callM ?_ | refine okm_fz ?_ | refine okm_fzD ?_ | refine okm_lmE ?_ | refine okm_spNE ?_ | refine oks_seq ?_ | refine oks_if ?_ | refine oks_set ?_ | refine oks_asg ?_ | refine oks_sret ?_ | refine oks_sexp ?_ | refine oks_snx ?_ | refine oks_for ?_ | refine oks_aug ?_ | refine oks_augS ?_ | refine oks_raise ?_ | refine okm_bnd ?_)
      | ((with_reducible apply okm_vr); (· rfl))
      | ((with_reducible apply okm_tupE); (· rfl); (· rfl)) | ((with_reducible apply okm_lstE); (· rfl); (· rfl)) | ((with_reducible apply okm_lstN); (· rfl))
      | ((with_reducible apply op_rfl); (· rfl); (· rfl); (· rfl)) | ((with_reducible apply o1_rfl); (· rfl); (· rfl)) | ((with_reducible apply of_rfl); (· rfl); (· rfl))
      | (with_reducible refine wp_t ?_) | (with_reducible refine wp_f ?_) | (with_reducible refine wp_nt ?_) | (with_reducible refine wp_nf ?_)
      | ((with_reducible apply ex_t); (· rfl)) | ((with_reducible apply ex_f); (· rfl))
      | ((with_reducible apply ex_and4); (· rfl); (· rfl); (· rfl)) | ((with_reducible apply ex_and3); (· rfl); (· rfl)) | ((with_reducible apply ex_and2); (· rfl)) | ((with_reducible apply ex_and); (· rfl))
      | ((with_reducible apply isT_and); (· rfl)) | ((with_reducible apply ex_bm); (· rfl); (· rfl); (· rfl))
      | dsimp only)
    refine ⟨rfl, _, _, hh, rfl, ef, ?_⟩
    repeat (first
      | (with_reducible first | refine okm_ret ?_ | refine okm_cn ?_ | refine okm_op2 ?_ | refine okm_tst ?_ | refine okm_ifE ?_ | refine okm_mnil ?_ | refine okm_mcons ?_ | refine okm_notT ?_ | refine okm_notV ?_ | refine okm_chain ?_ | refine okm_andT ?_ | refine okm_orT ?_ | refine okm_andV ?_ | refine okm_orV ?_ | refine okm_unE ?_ | refine okm_fnE ?_ | refine okm_lenE ?_ | refine okm_ixE ?_ | refine okm_ptN ?_ | refine okm_ptS ?_ | refine okm_slE ?_ | refine okm_bmE ?_ | refine okm_isiE ?_ | refine okm_itE ?_ | refine okm_itN ?_ | refine okm_it1 ?_ | refine okm_lcM ?_ | refine okm_callP ?_ | refine okm_callM ?_ | refine okm_fz ?_ | refine okm_fzD ?_ | refine okm_lmE ?_ | refine okm_spNE ?_ | refine oks_seq ?_ | refine oks_if ?_ | refine oks_set ?_ | refine oks_asg ?_ | refine oks_sret ?_ | refine oks_sexp ?_ | refine oks_snx ?_ | refine oks_for ?_ | refine oks_aug ?_ | refine oks_augS ?_ | refine oks_raise ?_ | refine okm_bnd ?_)
      | ((with_reducible apply okm_vr); (· rfl))
      | ((with_reducible apply okm_tupE); (· rfl); (· rfl)) | ((with_reducible apply okm_lstE); (· rfl); (· rfl)) | ((with_reducible apply okm_lstN); (· rfl))
      | ((with_reducible apply op_rfl); (· rfl); (· rfl); (· rfl)) | ((with_reducible apply o1_rfl); (· rfl); (· rfl)) | ((with_reducible apply of_rfl); (· rfl); (· rfl))
      | (with_reducible refine wp_t ?_) | (with_reducible refine wp_f ?_) | (with_reducible refine wp_nt ?_) | (with_reducible refine wp_nf ?_)
      | ((with_reducible apply ex_t); (· rfl)) | ((with_reducible apply ex_f); (· rfl))
      | ((with_reducible apply ex_and4); (· rfl); (· rfl); (· rfl)) | ((with_reducible apply ex_and3); (· rfl); (· rfl)) | ((with_reducible apply ex_and2); (· rfl)) | ((with_reducible apply ex_and); (· rfl))
      | ((with_reducible apply isT_and); (· rfl)) | ((with_reducible apply ex_bm); (· rfl); (· rfl); (· rfl))
      | dsimp only)
    refine hint ?_
    repeat (first
      | (with_reducible first | refine okm_ret ?_ | refine okm_cn ?_ | refine okm_op2 ?_ | refine okm_tst ?_ | refine okm_ifE ?_ | refine okm_mnil ?_ | refine okm_mcons ?_ | refine okm_notT ?_ | refine okm_notV ?_ | refine okm_chain ?_ | refine okm_andT ?_ | refine okm_orT ?_ | refine okm_andV ?_ | refine okm_orV ?_ | refine okm_unE ?_ | refine okm_fnE ?_ | refine okm_lenE ?_ | refine okm_ixE ?_ | refine okm_ptN ?_ | refine okm_ptS ?_ | refine okm_slE ?_ | refine okm_bmE ?_ | refine okm_isiE ?_ | refine okm_itE ?_ | refine okm_itN ?_ | refine okm_it1 ?_ | refine okm_lcM ?_ | refine okm_callP ?_ | refine okm_callM ?_ | refine okm_fz ?_ | refine okm_fzD ?_ | refine okm_lmE ?_ | refine okm_spNE ?_ | refine oks_seq ?_ | refine oks_if ?_ | refine oks_set ?_ | refine oks_asg ?_ | refine oks_sret ?_ | refine oks_sexp ?_ | refine oks_snx ?_ | refine oks_for ?_ | refine oks_aug ?_ | refine oks_augS ?_ | refine oks_raise ?_ | refine okm_bnd ?_)
      | ((with_reducible apply okm_vr); (· rfl))
      | ((with_reducible apply okm_tupE); (· rfl); (· rfl)) | ((with_reducible apply okm_lstE); (· rfl); (· rfl)) | ((with_reducible apply okm_lstN); (· rfl))
      | ((with_reducible apply op_rfl); (· rfl); (· rfl); (· rfl)) | ((with_reducible apply o1_rfl); (· rfl); (· rfl)) | ((with_reducible apply of_rfl); (· rfl); (· rfl))
      | (with_reducible refine wp_t ?_) | (with_reducible refine wp_f ?_) | (with_reducible refine wp_nt ?_) | (with_reducible refine wp_nf ?_)
      | ((with_reducible apply ex_t); (· rfl)) | ((with_reducible apply ex_f); (· rfl))
      | ((with_reducible apply ex_and4); (· rfl); (· rfl); (· rfl)) | ((with_reducible apply ex_and3); (· rfl); (· rfl)) | ((with_reducible apply ex_and2); (· rfl)) | ((with_reducible apply ex_and); (· rfl))
      | ((with_reducible apply isT_and); (· rfl)) | ((with_reducible apply ex_bm); (· rfl); (· rfl); (· rfl))
      | dsimp only)
    refine op_rfl rfl rfl (cat_ok (by have e1 : Str.length "x" = 1 := rfl; omega)) ?_
    repeat (first
      | (with_reducible first | refine okm_ret ?_ | refine okm_cn ?_ | refine okm_op2 ?_ | refine okm_tst ?_ | refine okm_ifE ?_ | refine okm_mnil ?_ | refine okm_mcons ?_ | refine okm_notT ?_ | refine okm_notV ?_ | refine okm_chain ?_ | refine okm_andT ?_ | refine okm_orT ?_ | refine okm_andV ?_ | refine okm_orV ?_ | refine okm_unE ?_ | refine okm_fnE ?_ | refine okm_lenE ?_ | refine okm_ixE ?_ | refine okm_ptN ?_ | refine okm_ptS ?_ | refine okm_slE ?_ | refine okm_bmE ?_ | refine okm_isiE ?_ | refine okm_itE ?_ | refine okm_itN ?_ | refine okm_it1 ?_ | refine okm_lcM ?_ | refine okm_callP ?_ | refine okm_callM ?_ | refine okm_fz ?_ | refine okm_fzD ?_ | refine okm_lmE ?_ | refine okm_spNE ?_ | refine oks_seq ?_ | refine oks_if ?_ | refine oks_set ?_ | refine oks_asg ?_ | refine oks_sret ?_ | refine oks_sexp ?_ | refine oks_snx ?_ | refine oks_for ?_ | refine oks_aug ?_ | refine oks_augS ?_ | refine oks_raise ?_ | refine okm_bnd ?_)
      | ((with_reducible apply okm_vr); (· rfl))
      | ((with_reducible apply okm_tupE); (· rfl); (· rfl)) | ((with_reducible apply okm_lstE); (· rfl); (· rfl)) | ((with_reducible apply okm_lstN); (· rfl))
      | ((with_reducible apply op_rfl); (· rfl); (· rfl); (· rfl)) | ((with_reducible apply o1_rfl); (· rfl); (· rfl)) | ((with_reducible apply of_rfl); (· rfl); (· rfl))
      | (with_reducible refine wp_t ?_) | (with_reducible refine wp_f ?_) | (with_reducible refine wp_nt ?_) | (with_reducible refine wp_nf ?_)
      | ((with_reducible apply ex_t); (· rfl)) | ((with_reducible apply ex_f); (· rfl))
      | ((with_reducible apply ex_and4); (· rfl); (· rfl); (· rfl)) | ((with_reducible apply ex_and3); (· rfl); (· rfl)) | ((with_reducible apply ex_and2); (· rfl)) | ((with_reducible apply ex_and); (· rfl))
      | ((with_reducible apply isT_and); (· rfl)) | ((with_reducible apply ex_bm); (· rfl); (· rfl); (· rfl))
      | dsimp only)
    refine ⟨rfl, _, _, hh2, rfl, ef2, ?_⟩
    repeat (first
      | (with_reducible first | refine okm_ret ?_ | refine okm_cn ?_ | refine okm_op2 ?_ | refine okm_tst ?_ | refine okm_ifE ?_ | refine okm_mnil ?_ | refine okm_mcons ?_ | refine okm_notT ?_ | refine okm_notV ?_ | refine okm_chain ?_ | refine okm_andT ?_ | refine okm_orT ?_ | refine okm_andV ?_ | refine okm_orV ?_ | refine okm_unE ?_ | refine okm_fnE ?_ | refine okm_lenE ?_ | refine okm_ixE ?_ | refine okm_ptN ?_ | refine okm_ptS ?_ | refine okm_slE ?_ | refine okm_bmE ?_ | refine okm_isiE ?_ | refine okm_itE ?_ | refine okm_itN ?_ | refine okm_it1 ?_ | refine okm_lcM ?_ | refine okm_callP ?_ | refine okm_callM ?_ | refine okm_fz ?_ | refine okm_fzD ?_ | refine okm_lmE ?_ | refine okm_spNE ?_ | refine oks_seq ?_ | refine oks_if ?_ | refine oks_set ?_ | refine oks_asg ?_ | refine oks_sret ?_ | refine oks_sexp ?_ | refine oks_snx ?_ | refine oks_for ?_ | refine oks_aug ?_ | refine oks_augS ?_ | refine oks_raise ?_ | refine okm_bnd ?_)
      | ((with_reducible apply okm_vr); (· rfl))
      | ((with_reducible apply okm_tupE); (· rfl); (· rfl)) | ((with_reducible apply okm_lstE); (· rfl); (· rfl)) | ((with_reducible apply okm_lstN); (· rfl))
      | ((with_reducible apply op_rfl); (· rfl); (· rfl); (· rfl)) | ((with_reducible apply o1_rfl); (· rfl); (· rfl)) | ((with_reducible apply of_rfl); (· rfl); (· rfl))
      | (with_reducible refine wp_t ?_) | (with_reducible refine wp_f ?_) | (with_reducible refine wp_nt ?_) | (with_reducible refine wp_nf ?_)
      | ((with_reducible apply ex_t); (· rfl)) | ((with_reducible apply ex_f); (· rfl))
      | ((with_reducible apply ex_and4); (· rfl); (· rfl); (· rfl)) | ((with_reducible apply ex_and3); (· rfl); (· rfl)) | ((with_reducible apply ex_and2); (· rfl)) | ((with_reducible apply ex_and); (· rfl))
      | ((with_reducible apply isT_and); (· rfl)) | ((with_reducible apply ex_bm); (· rfl); (· rfl); (· rfl))
      | dsimp only)
    refine hint ?_
    repeat (first
      | (with_reducible first | refine okm_ret ?_ | refine okm_cn ?_ | refine okm_op2 ?_ | refine okm_tst ?_ | refine okm_ifE ?_ | refine okm_mnil ?_ | refine okm_mcons ?_ | refine okm_notT ?_ | refine okm_notV ?_ | refine okm_chain ?_ | refine okm_andT ?_ | refine okm_orT ?_ | refine okm_andV ?_ | refine okm_orV ?_ | refine okm_unE ?_ | refine okm_fnE ?_ | refine okm_lenE ?_ | refine okm_ixE ?_ | refine okm_ptN ?_ | refine okm_ptS ?_ | refine okm_slE ?_ | refine okm_bmE ?_ | refine okm_isiE ?_ | refine okm_itE ?_ | refine okm_itN ?_ | refine okm_it1 ?_ | refine okm_lcM ?_ | refine okm_callP ?_ | refine okm_callM ?_ | refine okm_fz ?_ | refine okm_fzD ?_ | refine okm_lmE ?_ | refine okm_spNE ?_ | refine oks_seq ?_ | refine oks_if ?_ | refine oks_set ?_ | refine oks_asg ?_ | refine oks_sret ?_ | refine oks_sexp ?_ | refine oks_snx ?_ | refine oks_for ?_ | refine oks_aug ?_ | refine oks_augS ?_ | refine oks_raise ?_ | refine okm_bnd ?_)
      | ((with_reducible apply okm_vr); (· rfl))
      | ((with_reducible apply okm_tupE); (· rfl); (· rfl)) | ((with_reducible apply okm_lstE); (· rfl); (· rfl)) | ((with_reducible apply okm_lstN); (· rfl))
      | ((with_reducible apply op_rfl); (· rfl); (· rfl); (· rfl)) | ((with_reducible apply o1_rfl); (· rfl); (· rfl)) | ((with_reducible apply of_rfl); (· rfl); (· rfl))
      | (with_reducible refine wp_t ?_) | (with_reducible refine wp_f ?_) | (with_reducible refine wp_nt ?_) | (with_reducible refine wp_nf ?_)
      | ((with_reducible apply ex_t); (· rfl)) | ((with_reducible apply ex_f); (· rfl))
      | ((with_reducible apply ex_and4); (· rfl); (· rfl); (· rfl)) | ((with_reducible apply ex_and3); (· rfl); (· rfl)) | ((with_reducible apply ex_and2); (· rfl)) | ((with_reducible apply ex_and); (· rfl))
      | ((with_reducible apply isT_and); (· rfl)) | ((with_reducible apply ex_bm); (· rfl); (· rfl); (· rfl))
      | dsimp only)
  rintro δ h' ⟨rfl, rfl⟩
  -- full
  refine oks_cut (fun δ h' => δ = [x0, some (.loc 0), x2, x3, x4, some (.d (.lst ((es.map eRow).map .str))), x6, some (.d (.lst (es.map (told m)))), some (.d (.bl (lg m))), some (.d (.str (textS (es.map eRow)))), x10, some (.d (.int (i : Nat))), some (.loc H2.length), some (.d (.int (j : Nat))), some (.d (.str (textS (rows2 es i (rowS ((eW es[i]).set j bad)))))), some (.d (.lst ((eW es[i]).map .str))), x16, x17, x18, x19, x20, x21] ∧ H6 = h') ?_ ?_
  · repeat (first
    | (with_reducible first | refine okm_ret ?_ | refine okm_cn ?_ | refine okm_op2 ?_ | refine okm_tst ?_ | refine okm_ifE ?_ | refine okm_mnil ?_ | refine okm_mcons ?_ | refine okm_notT ?_ | refine okm_notV ?_ | refine okm_chain ?_ | refine okm_andT ?_ | refine okm_orT ?_ | refine okm_andV ?_ | refine okm_orV ?_ | refine okm_unE ?_ | refine okm_fnE ?_ | refine okm_lenE ?_ | refine okm_ixE ?_ | refine okm_ptN ?_ | refine okm_ptS ?_ | refine okm_slE ?_ | refine okm_bmE ?_ | refine okm_isiE ?_ | refine okm_itE ?_ | refine okm_itN ?_ | refine okm_it1 ?_ | refine okm_lcM ?_ | refine okm_callP ?_ | refine okm_callM ?_ | refine okm_fz ?_ | refine okm_fzD ?_ | refine okm_lmE ?_ | refine okm_spNE ?_ | refine oks_seq ?_ | refine oks_if ?_ | refine oks_set ?_ | refine oks_asg ?_ | refine oks_sret ?_ | refine oks_sexp ?_ | refine oks_snx ?_ | refine oks_for ?_ | refine oks_aug ?_ | refine oks_augS ?_ | refine oks_raise ?_ | refine okm_bnd ?_)
    | ((with_reducible apply okm_vr); (· rfl))
    | ((with_reducible apply okm_tupE); (· rfl); (· rfl)) | ((with_reducible apply okm_lstE); (· rfl); (· rfl)) | ((with_reducible apply okm_lstN); (· rfl))
    | ((with_reducible apply op_rfl); (· rfl); (· rfl); (· rfl)) | ((with_reducible apply o1_rfl); (· rfl); (· rfl)) | ((with_reducible apply of_rfl); (· rfl); (· rfl))
    | (with_reducible refine wp_t ?_) | (with_reducible refine wp_f ?_) | (with_reducible refine wp_nt ?_) | (with_reducible refine wp_nf ?_)
    | ((with_reducible apply ex_t); (· rfl)) | ((with_reducible apply ex_f); (· rfl))
    | ((with_reducible apply ex_and4); (· rfl); (· rfl); (· rfl)) | ((with_reducible apply ex_and3); (· rfl); (· rfl)) | ((with_reducible apply ex_and2); (· rfl)) | ((with_reducible apply ex_and); (· rfl))
    | ((with_reducible apply isT_and); (· rfl)) | ((with_reducible apply ex_bm); (· rfl); (· rfl); (· rfl))
    | dsimp only)
    refine ⟨_, congrArg (Option.map U.d) hix, ?_⟩
    repeat (first
      | (with_reducible first | refine okm_ret ?_ | refine okm_cn ?_ | refine okm_op2 ?_ | refine okm_tst ?_ | refine okm_ifE ?_ | refine okm_mnil ?_ | refine okm_mcons ?_ | refine okm_notT ?_ | refine okm_notV ?_ | refine okm_chain ?_ | refine okm_andT ?_ | refine okm_orT ?_ | refine okm_andV ?_ | refine okm_orV ?_ | refine okm_unE ?_ | refine okm_fnE ?_ | refine okm_lenE ?_ | refine okm_ixE ?_ | refine okm_ptN ?_ | refine okm_ptS ?_ | refine okm_slE ?_ | refine okm_bmE ?_ | refine okm_isiE ?_ | refine okm_itE ?_ | refine okm_itN ?_ | refine okm_it1 ?_ | refine okm_lcM ?_ | refine okm_callP ?_ | refine okm_callM ?_ | refine okm_fz ?_ | refine okm_fzD ?_ | refine okm_lmE ?_ | refine okm_spNE ?_ | refine oks_seq ?_ | refine oks_if ?_ | refine oks_set ?_ | refine oks_asg ?_ | refine oks_sret ?_ | refine oks_sexp ?_ | refine oks_snx ?_ | refine oks_for ?_ | refine oks_aug ?_ | refine oks_augS ?_ | refine oks_raise ?_ | refine okm_bnd ?_)
      | ((with_reducible apply okm_vr); (· rfl))
      | ((with_reducible apply okm_tupE); (· rfl); (· rfl)) | ((with_reducible apply okm_lstE); (· rfl); (· rfl)) | ((with_reducible apply okm_lstN); (· rfl))
      | ((with_reducible apply op_rfl); (· rfl); (· rfl); (· rfl)) | ((with_reducible apply o1_rfl); (· rfl); (· rfl)) | ((with_reducible apply of_rfl); (· rfl); (· rfl))
      | (with_reducible refine wp_t ?_) | (with_reducible refine wp_f ?_) | (with_reducible refine wp_nt ?_) | (with_reducible refine wp_nf ?_)
      | ((with_reducible apply ex_t); (· rfl)) | ((with_reducible apply ex_f); (· rfl))
      | ((with_reducible apply ex_and4); (· rfl); (· rfl); (· rfl)) | ((with_reducible apply ex_and3); (· rfl); (· rfl)) | ((with_reducible apply ex_and2); (· rfl)) | ((with_reducible apply ex_and); (· rfl))
      | ((with_reducible apply isT_and); (· rfl)) | ((with_reducible apply ex_bm); (· rfl); (· rfl); (· rfl))
      | dsimp only)
    exact ⟨_, _, _, rfl, rfl, ln_split hln, _, _, rfl, rfl, rfl⟩
  rintro δ h' ⟨rfl, rfl⟩
  rcases hm2 with rfl | rfl
  · -- m = 0
    have hof := odd_word (m := 0) heo.1
    have hol := odd_len (m := 0) (t := es[i].1)
    have hY1 : (rowS (odd 0 es[i].1)).length ≤ 50 := row_len hof (by omega)
    have hY2 : 10 ∉ TL.tl (rowS (odd 0 es[i].1)) := row_nl hof
    have hYl : LnW (rowS (odd 0 es[i].1)) (odd 0 es[i].1) := row_ln hol.2 hof (by omega)
    have hYb := odd_bad (m := 0) hm heo.1
    have hrep : ∀ w ∈ es[i].1 :: List.replicate 2 ("1" : Str), Word w := fun w hw => by
      rcases List.mem_cons.mp hw with rfl | hw
      · exact name_word heo.1
      · rw [List.eq_of_mem_replicate hw]
        exact word_one
    have hj2 : pJoin (.str " ") [.lst ((es[i].1 :: List.replicate 2 ("1" : Str)).map .str)] = some (.str (rowS (es[i].1 :: List.replicate 2 ("1" : Str)))) := join_row (fun w hw => (hrep w hw).2.2.1) (by simp)
    refine oks_cut (fun δ h' => δ = [x0, some (.loc 0), x2, x3, x4, some (.d (.lst ((es.map eRow).map .str))), x6, some (.d (.lst (es.map (told 0)))), some (.d (.bl (lg 0))), some (.d (.str (textS (es.map eRow)))), x10, some (.d (.int (i : Nat))), some (.loc H2.length), some (.d (.int (j : Nat))), some (.d (.str (textS (rows2 es i (rowS ((eW es[i]).set j bad)))))), some (.d (.lst ((eW es[i]).map .str))), some (.d (.str (rowS (es[i].1 :: List.replicate 2 ("1" : Str))))), x17, x18, x19, x20, x21] ∧ H6 = h') ?_ ?_
    · repeat (first
      | (with_reducible first | refine okm_ret ?_ | refine okm_cn ?_ | refine okm_op2 ?_ | refine okm_tst ?_ | refine okm_ifE ?_ | refine okm_mnil ?_ | refine okm_mcons ?_ | refine okm_notT ?_ | refine okm_notV ?_ | refine okm_chain ?_ | refine okm_andT ?_ | refine okm_orT ?_ | refine okm_andV ?_ | refine okm_orV ?_ | refine okm_unE ?_ | refine okm_fnE ?_ | refine okm_lenE ?_ | refine okm_ixE ?_ | refine okm_ptN ?_ | refine okm_ptS ?_ | refine okm_slE ?_ | refine okm_bmE ?_ | refine okm_isiE ?_ | refine okm_itE ?_ | refine okm_itN ?_ | refine okm_it1 ?_ | refine okm_lcM ?_ | refine okm_callP ?_ | refine okm_callM ?_ | refine okm_fz ?_ | refine okm_fzD ?_ | refine okm_lmE ?_ | refine okm_spNE ?_ | refine oks_seq ?_ | refine oks_if ?_ | refine oks_set ?_ | refine oks_asg ?_ | refine oks_sret ?_ | refine oks_sexp ?_ | refine oks_snx ?_ | refine oks_for ?_ | refine oks_aug ?_ | refine oks_augS ?_ | refine oks_raise ?_ | refine okm_bnd ?_)
      | ((with_reducible apply okm_vr); (· rfl))
      | ((with_reducible apply okm_tupE); (· rfl); (· rfl)) | ((with_reducible apply okm_lstE); (· rfl); (· rfl)) | ((with_reducible apply okm_lstN); (· rfl))
      | ((with_reducible apply op_rfl); (· rfl); (· rfl); (· rfl)) | ((with_reducible apply o1_rfl); (· rfl); (· rfl)) | ((with_reducible apply of_rfl); (· rfl); (· rfl))
      | (with_reducible refine wp_t ?_) | (with_reducible refine wp_f ?_) | (with_reducible refine wp_nt ?_) | (with_reducible refine wp_nf ?_)
      | ((with_reducible apply ex_t); (· rfl)) | ((with_reducible apply ex_f); (· rfl))
      | ((with_reducible apply ex_and4); (· rfl); (· rfl); (· rfl)) | ((with_reducible apply ex_and3); (· rfl); (· rfl)) | ((with_reducible apply ex_and2); (· rfl)) | ((with_reducible apply ex_and); (· rfl))
      | ((with_reducible apply isT_and); (· rfl)) | ((with_reducible apply ex_bm); (· rfl); (· rfl); (· rfl))
      | dsimp only)
      rw [full_one]
      repeat (first
        | (with_reducible first | refine okm_ret ?_ | refine okm_cn ?_ | refine okm_op2 ?_ | refine okm_tst ?_ | refine okm_ifE ?_ | refine okm_mnil ?_ | refine okm_mcons ?_ | refine okm_notT ?_ | refine okm_notV ?_ | refine okm_chain ?_ | refine okm_andT ?_ | refine okm_orT ?_ | refine okm_andV ?_ | refine okm_orV ?_ | refine okm_unE ?_ | refine okm_fnE ?_ | refine okm_lenE ?_ | refine okm_ixE ?_ | refine okm_ptN ?_ | refine okm_ptS ?_ | refine okm_slE ?_ | refine okm_bmE ?_ | refine okm_isiE ?_ | refine okm_itE ?_ | refine okm_itN ?_ | refine okm_it1 ?_ | refine okm_lcM ?_ | refine okm_callP ?_ | refine okm_callM ?_ | refine okm_fz ?_ | refine okm_fzD ?_ | refine okm_lmE ?_ | refine okm_spNE ?_ | refine oks_seq ?_ | refine oks_if ?_ | refine oks_set ?_ | refine oks_asg ?_ | refine oks_sret ?_ | refine oks_sexp ?_ | refine oks_snx ?_ | refine oks_for ?_ | refine oks_aug ?_ | refine oks_augS ?_ | refine oks_raise ?_ | refine okm_bnd ?_)
        | ((with_reducible apply okm_vr); (· rfl))
        | ((with_reducible apply okm_tupE); (· rfl); (· rfl)) | ((with_reducible apply okm_lstE); (· rfl); (· rfl)) | ((with_reducible apply okm_lstN); (· rfl))
        | ((with_reducible apply op_rfl); (· rfl); (· rfl); (· rfl)) | ((with_reducible apply o1_rfl); (· rfl); (· rfl)) | ((with_reducible apply of_rfl); (· rfl); (· rfl))
        | (with_reducible refine wp_t ?_) | (with_reducible refine wp_f ?_) | (with_reducible refine wp_nt ?_) | (with_reducible refine wp_nf ?_)
        | ((with_reducible apply ex_t); (· rfl)) | ((with_reducible apply ex_f); (· rfl))
        | ((with_reducible apply ex_and4); (· rfl); (· rfl); (· rfl)) | ((with_reducible apply ex_and3); (· rfl); (· rfl)) | ((with_reducible apply ex_and2); (· rfl)) | ((with_reducible apply ex_and); (· rfl))
        | ((with_reducible apply isT_and); (· rfl)) | ((with_reducible apply ex_bm); (· rfl); (· rfl); (· rfl))
        | dsimp only)
      exact ⟨_, _, _, rfl, rfl, hj2, _, _, rfl, rfl, rfl⟩
    rintro δ h' ⟨rfl, rfl⟩
    have hc1 := cutL_len ((es.map eRow).map D.str) none (some (i : Int))
    have hc2 := cutL_len ((es.map eRow).map D.str) (some ((i : Int) + 1)) none
    rw [List.length_map, List.length_map] at hc1 hc2
    refine oks_cut (fun δ h' => δ = [x0, some (.loc 0), x2, x3, x4, some (.d (.lst ((es.map eRow).map .str))), x6, some (.d (.lst (es.map (told 0)))), some (.d (.bl (lg 0))), some (.d (.str (textS (es.map eRow)))), x10, some (.d (.int (i : Nat))), some (.loc H2.length), some (.d (.int (j : Nat))), some (.d (.str (textS (rows2 es i (rowS ((eW es[i]).set j bad)))))), some (.d (.lst ((eW es[i]).map .str))), some (.d (.str (rowS (es[i].1 :: List.replicate 2 ("1" : Str))))), some (.d (.str (textS (rows2 es i (rowS (odd 0 es[i].1)))))), x18, x19, x20, x21] ∧ H6 = h') ?_ ?_
    · repeat (first
      | (with_reducible first | refine okm_ret ?_ | refine okm_cn ?_ | refine okm_op2 ?_ | refine okm_tst ?_ | refine okm_ifE ?_ | refine okm_mnil ?_ | refine okm_mcons ?_ | refine okm_notT ?_ | refine okm_notV ?_ | refine okm_chain ?_ | refine okm_andT ?_ | refine okm_orT ?_ | refine okm_andV ?_ | refine okm_orV ?_ | refine okm_unE ?_ | refine okm_fnE ?_ | refine okm_lenE ?_ | refine okm_ixE ?_ | refine okm_ptN ?_ | refine okm_ptS ?_ | refine okm_slE ?_ | refine okm_bmE ?_ | refine okm_isiE ?_ | refine okm_itE ?_ | refine okm_itN ?_ | refine okm_it1 ?_ | refine okm_lcM ?_ | refine okm_callP ?_ | refine okm_callM ?_ | refine okm_fz ?_ | refine okm_fzD ?_ | refine okm_lmE ?_ | refine okm_spNE ?_ | refine oks_seq ?_ | refine oks_if ?_ | refine oks_set ?_ | refine oks_asg ?_ | refine oks_sret ?_ | refine oks_sexp ?_ | refine oks_snx ?_ | refine oks_for ?_ | refine oks_aug ?_ | refine oks_augS ?_ | refine oks_raise ?_ | refine okm_bnd ?_)
      | ((with_reducible apply okm_vr); (· rfl))
      | ((with_reducible apply okm_tupE); (· rfl); (· rfl)) | ((with_reducible apply okm_lstE); (· rfl); (· rfl)) | ((with_reducible apply okm_lstN); (· rfl))
      | ((with_reducible apply op_rfl); (· rfl); (· rfl); (· rfl)) | ((with_reducible apply o1_rfl); (· rfl); (· rfl)) | ((with_reducible apply of_rfl); (· rfl); (· rfl))
      | (with_reducible refine wp_t ?_) | (with_reducible refine wp_f ?_) | (with_reducible refine wp_nt ?_) | (with_reducible refine wp_nf ?_)
      | ((with_reducible apply ex_t); (· rfl)) | ((with_reducible apply ex_f); (· rfl))
      | ((with_reducible apply ex_and4); (· rfl); (· rfl); (· rfl)) | ((with_reducible apply ex_and3); (· rfl); (· rfl)) | ((with_reducible apply ex_and2); (· rfl)) | ((with_reducible apply ex_and); (· rfl))
      | ((with_reducible apply isT_and); (· rfl)) | ((with_reducible apply ex_bm); (· rfl); (· rfl); (· rfl))
      | dsimp only)
      refine op_rfl rfl rfl (catL_ok (by rw [List.length_singleton]; omega)) ?_
      repeat (first
        | (with_reducible first | refine okm_ret ?_ | refine okm_cn ?_ | refine okm_op2 ?_ | refine okm_tst ?_ | refine okm_ifE ?_ | refine okm_mnil ?_ | refine okm_mcons ?_ | refine okm_notT ?_ | refine okm_notV ?_ | refine okm_chain ?_ | refine okm_andT ?_ | refine okm_orT ?_ | refine okm_andV ?_ | refine okm_orV ?_ | refine okm_unE ?_ | refine okm_fnE ?_ | refine okm_lenE ?_ | refine okm_ixE ?_ | refine okm_ptN ?_ | refine okm_ptS ?_ | refine okm_slE ?_ | refine okm_bmE ?_ | refine okm_isiE ?_ | refine okm_itE ?_ | refine okm_itN ?_ | refine okm_it1 ?_ | refine okm_lcM ?_ | refine okm_callP ?_ | refine okm_callM ?_ | refine okm_fz ?_ | refine okm_fzD ?_ | refine okm_lmE ?_ | refine okm_spNE ?_ | refine oks_seq ?_ | refine oks_if ?_ | refine oks_set ?_ | refine oks_asg ?_ | refine oks_sret ?_ | refine oks_sexp ?_ | refine oks_snx ?_ | refine oks_for ?_ | refine oks_aug ?_ | refine oks_augS ?_ | refine oks_raise ?_ | refine okm_bnd ?_)
        | ((with_reducible apply okm_vr); (· rfl))
        | ((with_reducible apply okm_tupE); (· rfl); (· rfl)) | ((with_reducible apply okm_lstE); (· rfl); (· rfl)) | ((with_reducible apply okm_lstN); (· rfl))
        | ((with_reducible apply op_rfl); (· rfl); (· rfl); (· rfl)) | ((with_reducible apply o1_rfl); (· rfl); (· rfl)) | ((with_reducible apply of_rfl); (· rfl); (· rfl))
        | (with_reducible refine wp_t ?_) | (with_reducible refine wp_f ?_) | (with_reducible refine wp_nt ?_) | (with_reducible refine wp_nf ?_)
        | ((with_reducible apply ex_t); (· rfl)) | ((with_reducible apply ex_f); (· rfl))
        | ((with_reducible apply ex_and4); (· rfl); (· rfl); (· rfl)) | ((with_reducible apply ex_and3); (· rfl); (· rfl)) | ((with_reducible apply ex_and2); (· rfl)) | ((with_reducible apply ex_and); (· rfl))
        | ((with_reducible apply isT_and); (· rfl)) | ((with_reducible apply ex_bm); (· rfl); (· rfl); (· rfl))
        | dsimp only)
      refine op_rfl rfl rfl (catL_ok (by rw [List.length_append, List.length_singleton]; omega)) ?_
      repeat (first
        | (with_reducible first | refine okm_ret ?_ | refine okm_cn ?_ | refine okm_op2 ?_ | refine okm_tst ?_ | refine okm_ifE ?_ | refine okm_mnil ?_ | refine okm_mcons ?_ | refine okm_notT ?_ | refine okm_notV ?_ | refine okm_chain ?_ | refine okm_andT ?_ | refine okm_orT ?_ | refine okm_andV ?_ | refine okm_orV ?_ | refine okm_unE ?_ | refine okm_fnE ?_ | refine okm_lenE ?_ | refine okm_ixE ?_ | refine okm_ptN ?_ | refine okm_ptS ?_ | refine okm_slE ?_ | refine okm_bmE ?_ | refine okm_isiE ?_ | refine okm_itE ?_ | refine okm_itN ?_ | refine okm_it1 ?_ | refine okm_lcM ?_ | refine okm_callP ?_ | refine okm_callM ?_ | refine okm_fz ?_ | refine okm_fzD ?_ | refine okm_lmE ?_ | refine okm_spNE ?_ | refine oks_seq ?_ | refine oks_if ?_ | refine oks_set ?_ | refine oks_asg ?_ | refine oks_sret ?_ | refine oks_sexp ?_ | refine oks_snx ?_ | refine oks_for ?_ | refine oks_aug ?_ | refine oks_augS ?_ | refine oks_raise ?_ | refine okm_bnd ?_)
        | ((with_reducible apply okm_vr); (· rfl))
        | ((with_reducible apply okm_tupE); (· rfl); (· rfl)) | ((with_reducible apply okm_lstE); (· rfl); (· rfl)) | ((with_reducible apply okm_lstN); (· rfl))
        | ((with_reducible apply op_rfl); (· rfl); (· rfl); (· rfl)) | ((with_reducible apply o1_rfl); (· rfl); (· rfl)) | ((with_reducible apply of_rfl); (· rfl); (· rfl))
        | (with_reducible refine wp_t ?_) | (with_reducible refine wp_f ?_) | (with_reducible refine wp_nt ?_) | (with_reducible refine wp_nf ?_)
        | ((with_reducible apply ex_t); (· rfl)) | ((with_reducible apply ex_f); (· rfl))
        | ((with_reducible apply ex_and4); (· rfl); (· rfl); (· rfl)) | ((with_reducible apply ex_and3); (· rfl); (· rfl)) | ((with_reducible apply ex_and2); (· rfl)) | ((with_reducible apply ex_and); (· rfl))
        | ((with_reducible apply isT_and); (· rfl)) | ((with_reducible apply ex_bm); (· rfl); (· rfl); (· rfl))
        | dsimp only)
      rw [show rowS (es[i].1 :: List.replicate 2 ("1" : Str)) = rowS (odd 0 es[i].1) from rfl]
      rw [rows2_D]
      refine ⟨szOk_of (by rw [List.length_map, List.length_map]; have := rows2_ct (i := i) (X := rowS (odd 0 es[i].1)) hes; omega), _, _, nl_lc (by show 21 < 22; decide) _ (rows2_len hm ho hY1), okm_lstF (allD_map _) ?_⟩
      repeat (first
        | (with_reducible first | refine okm_ret ?_ | refine okm_cn ?_ | refine okm_op2 ?_ | refine okm_tst ?_ | refine okm_ifE ?_ | refine okm_mnil ?_ | refine okm_mcons ?_ | refine okm_notT ?_ | refine okm_notV ?_ | refine okm_chain ?_ | refine okm_andT ?_ | refine okm_orT ?_ | refine okm_andV ?_ | refine okm_orV ?_ | refine okm_unE ?_ | refine okm_fnE ?_ | refine okm_lenE ?_ | refine okm_ixE ?_ | refine okm_ptN ?_ | refine okm_ptS ?_ | refine okm_slE ?_ | refine okm_bmE ?_ | refine okm_isiE ?_ | refine okm_itE ?_ | refine okm_itN ?_ | refine okm_it1 ?_ | refine okm_lcM ?_ | refine okm_callP ?_ | refine okm_callM ?_ | refine okm_fz ?_ | refine okm_fzD ?_ | refine okm_lmE ?_ | refine okm_spNE ?_ | refine oks_seq ?_ | refine oks_if ?_ | refine oks_set ?_ | refine oks_asg ?_ | refine oks_sret ?_ | refine oks_sexp ?_ | refine oks_snx ?_ | refine oks_for ?_ | refine oks_aug ?_ | refine oks_augS ?_ | refine oks_raise ?_ | refine okm_bnd ?_)
        | ((with_reducible apply okm_vr); (· rfl))
        | ((with_reducible apply okm_tupE); (· rfl); (· rfl)) | ((with_reducible apply okm_lstE); (· rfl); (· rfl)) | ((with_reducible apply okm_lstN); (· rfl))
        | ((with_reducible apply op_rfl); (· rfl); (· rfl); (· rfl)) | ((with_reducible apply o1_rfl); (· rfl); (· rfl)) | ((with_reducible apply of_rfl); (· rfl); (· rfl))
        | (with_reducible refine wp_t ?_) | (with_reducible refine wp_f ?_) | (with_reducible refine wp_nt ?_) | (with_reducible refine wp_nf ?_)
        | ((with_reducible apply ex_t); (· rfl)) | ((with_reducible apply ex_f); (· rfl))
        | ((with_reducible apply ex_and4); (· rfl); (· rfl); (· rfl)) | ((with_reducible apply ex_and3); (· rfl); (· rfl)) | ((with_reducible apply ex_and2); (· rfl)) | ((with_reducible apply ex_and); (· rfl))
        | ((with_reducible apply isT_and); (· rfl)) | ((with_reducible apply ex_bm); (· rfl); (· rfl); (· rfl))
        | dsimp only)
      exact ⟨_, _, _, rfl, rfl, join_text (rows2_len hm ho hY1) (rows2_ct hes), _, _, rfl, rfl, rfl⟩
    rintro δ h' ⟨rfl, rfl⟩
    obtain ⟨hh, ef⟩ := spoil hm ho hes hi hY1 hY2 hYl hYb (by omega) (tail := "") (by decide +kernel) (by decide +kernel)
    rw [str_nil] at ef
    repeat (first
      | (with_reducible first | refine okm_ret ?_ | refine okm_cn ?_ | refine okm_op2 ?_ | refine okm_tst ?_ | refine okm_ifE ?_ | refine okm_mnil ?_ | refine okm_mcons ?_ | refine okm_notT ?_ | refine okm_notV ?_ | refine okm_chain ?_ | refine okm_andT ?_ | refine okm_orT ?_ | refine okm_andV ?_ | refine okm_orV ?_ | refine okm_unE ?_ | refine okm_fnE ?_ | refine okm_lenE ?_ | refine okm_ixE ?_ | refine okm_ptN ?_ | refine okm_ptS ?_ | refine okm_slE ?_ | refine okm_bmE ?_ | refine okm_isiE ?_ | refine okm_itE ?_ | refine okm_itN ?_ | refine okm_it1 ?_ | refine okm_lcM ?_ | refine okm_callP ?_ | refine okm_callM ?_ | refine okm_fz ?_ | refine okm_fzD ?_ | refine okm_lmE ?_ | refine okm_spNE ?_ | refine oks_seq ?_ | refine oks_if ?_ | refine oks_set ?_ | refine oks_asg ?_ | refine oks_sret ?_ | refine oks_sexp ?_ | refine oks_snx ?_ | refine oks_for ?_ | refine oks_aug ?_ | refine oks_augS ?_ | refine oks_raise ?_ | refine okm_bnd ?_)
      | ((with_reducible apply okm_vr); (· rfl))
      | ((with_reducible apply okm_tupE); (· rfl); (· rfl)) | ((with_reducible apply okm_lstE); (· rfl); (· rfl)) | ((with_reducible apply okm_lstN); (· rfl))
      | ((with_reducible apply op_rfl); (· rfl); (· rfl); (· rfl)) | ((with_reducible apply o1_rfl); (· rfl); (· rfl)) | ((with_reducible apply of_rfl); (· rfl); (· rfl))
      | (with_reducible refine wp_t ?_) | (with_reducible refine wp_f ?_) | (with_reducible refine wp_nt ?_) | (with_reducible refine wp_nf ?_)
      | ((with_reducible apply ex_t); (· rfl)) | ((with_reducible apply ex_f); (· rfl))
      | ((with_reducible apply ex_and4); (· rfl); (· rfl); (· rfl)) | ((with_reducible apply ex_and3); (· rfl); (· rfl)) | ((with_reducible apply ex_and2); (· rfl)) | ((with_reducible apply ex_and); (· rfl))
      | ((with_reducible apply isT_and); (· rfl)) | ((with_reducible apply ex_bm); (· rfl); (· rfl); (· rfl))
      | dsimp only)
    refine ⟨rfl, _, _, hh, rfl, ef, ?_⟩
    repeat (first
      | (with_reducible first | refine okm_ret ?_ | refine okm_cn ?_ | refine okm_op2 ?_ | refine okm_tst ?_ | refine okm_ifE ?_ | refine okm_mnil ?_ | refine okm_mcons ?_ | refine okm_notT ?_ | refine okm_notV ?_ | refine okm_chain ?_ | refine okm_andT ?_ | refine okm_orT ?_ | refine okm_andV ?_ | refine okm_orV ?_ | refine okm_unE ?_ | refine okm_fnE ?_ | refine okm_lenE ?_ | refine okm_ixE ?_ | refine okm_ptN ?_ | refine okm_ptS ?_ | refine okm_slE ?_ | refine okm_bmE ?_ | refine okm_isiE ?_ | refine okm_itE ?_ | refine okm_itN ?_ | refine okm_it1 ?_ | refine okm_lcM ?_ | refine okm_callP ?_ | refine okm_callM ?_ | refine okm_fz ?_ | refine okm_fzD ?_ | refine okm_lmE ?_ | refine okm_spNE ?_ | refine oks_seq ?_ | refine oks_if ?_ | refine oks_set ?_ | refine oks_asg ?_ | refine oks_sret ?_ | refine oks_sexp ?_ | refine oks_snx ?_ | refine oks_for ?_ | refine oks_aug ?_ | refine oks_augS ?_ | refine oks_raise ?_ | refine okm_bnd ?_)
      | ((with_reducible apply okm_vr); (· rfl))
      | ((with_reducible apply okm_tupE); (· rfl); (· rfl)) | ((with_reducible apply okm_lstE); (· rfl); (· rfl)) | ((with_reducible apply okm_lstN); (· rfl))
      | ((with_reducible apply op_rfl); (· rfl); (· rfl); (· rfl)) | ((with_reducible apply o1_rfl); (· rfl); (· rfl)) | ((with_reducible apply of_rfl); (· rfl); (· rfl))
      | (with_reducible refine wp_t ?_) | (with_reducible refine wp_f ?_) | (with_reducible refine wp_nt ?_) | (with_reducible refine wp_nf ?_)
      | ((with_reducible apply ex_t); (· rfl)) | ((with_reducible apply ex_f); (· rfl))
      | ((with_reducible apply ex_and4); (· rfl); (· rfl); (· rfl)) | ((with_reducible apply ex_and3); (· rfl); (· rfl)) | ((with_reducible apply ex_and2); (· rfl)) | ((with_reducible apply ex_and); (· rfl))
      | ((with_reducible apply isT_and); (· rfl)) | ((with_reducible apply ex_bm); (· rfl); (· rfl); (· rfl))
      | dsimp only)
    refine hint ?_
    repeat (first
      | (with_reducible first | refine okm_ret ?_ | refine okm_cn ?_ | refine okm_op2 ?_ | refine okm_tst ?_ | refine okm_ifE ?_ | refine okm_mnil ?_ | refine okm_mcons ?_ | refine okm_notT ?_ | refine okm_notV ?_ | refine okm_chain ?_ | refine okm_andT ?_ | refine okm_orT ?_ | refine okm_andV ?_ | refine okm_orV ?_ | refine okm_unE ?_ | refine okm_fnE ?_ | refine okm_lenE ?_ | refine okm_ixE ?_ | refine okm_ptN ?_ | refine okm_ptS ?_ | refine okm_slE ?_ | refine okm_bmE ?_ | refine okm_isiE ?_ | refine okm_itE ?_ | refine okm_itN ?_ | refine okm_it1 ?_ | refine okm_lcM ?_ | refine okm_callP ?_ | refine okm_callM ?_ | refine okm_fz ?_ | refine okm_fzD ?_ | refine okm_lmE ?_ | refine okm_spNE ?_ | refine oks_seq ?_ | refine oks_if ?_ | refine oks_set ?_ | refine oks_asg ?_ | refine oks_sret ?_ | refine oks_sexp ?_ | refine oks_snx ?_ | refine oks_for ?_ | refine oks_aug ?_ | refine oks_augS ?_ | refine oks_raise ?_ | refine okm_bnd ?_)
      | ((with_reducible apply okm_vr); (· rfl))
      | ((with_reducible apply okm_tupE); (· rfl); (· rfl)) | ((with_reducible apply okm_lstE); (· rfl); (· rfl)) | ((with_reducible apply okm_lstN); (· rfl))
      | ((with_reducible apply op_rfl); (· rfl); (· rfl); (· rfl)) | ((with_reducible apply o1_rfl); (· rfl); (· rfl)) | ((with_reducible apply of_rfl); (· rfl); (· rfl))
      | (with_reducible refine wp_t ?_) | (with_reducible refine wp_f ?_) | (with_reducible refine wp_nt ?_) | (with_reducible refine wp_nf ?_)
      | ((with_reducible apply ex_t); (· rfl)) | ((with_reducible apply ex_f); (· rfl))
      | ((with_reducible apply ex_and4); (· rfl); (· rfl); (· rfl)) | ((with_reducible apply ex_and3); (· rfl); (· rfl)) | ((with_reducible apply ex_and2); (· rfl)) | ((with_reducible apply ex_and); (· rfl))
      | ((with_reducible apply isT_and); (· rfl)) | ((with_reducible apply ex_bm); (· rfl); (· rfl); (· rfl))
      | dsimp only)
    exact ⟨_, _, n + 1 + 1 + 1 + 1, rfl, hdr5, by omega, hd ⟨_, _, _, _, _, _, _, _, _, _, _, _, _, rfl⟩⟩
  · -- m = 1
    have hof := odd_word (m := 1) heo.1
    have hol := odd_len (m := 1) (t := es[i].1)
    have hY1 : (rowS (odd 1 es[i].1)).length ≤ 50 := row_len hof (by omega)
    have hY2 : 10 ∉ TL.tl (rowS (odd 1 es[i].1)) := row_nl hof
    have hYl : LnW (rowS (odd 1 es[i].1)) (odd 1 es[i].1) := row_ln hol.2 hof (by omega)
    have hYb := odd_bad (m := 1) hm heo.1
    have hrep : ∀ w ∈ es[i].1 :: List.replicate 3 ("1" : Str), Word w := fun w hw => by
      rcases List.mem_cons.mp hw with rfl | hw
      · exact name_word heo.1
      · rw [List.eq_of_mem_replicate hw]
        exact word_one
    have hj2 : pJoin (.str " ") [.lst ((es[i].1 :: List.replicate 3 ("1" : Str)).map .str)] = some (.str (rowS (es[i].1 :: List.replicate 3 ("1" : Str)))) := join_row (fun w hw => (hrep w hw).2.2.1) (by simp)
    refine oks_cut (fun δ h' => δ = [x0, some (.loc 0), x2, x3, x4, some (.d (.lst ((es.map eRow).map .str))), x6, some (.d (.lst (es.map (told 1)))), some (.d (.bl (lg 1))), some (.d (.str (textS (es.map eRow)))), x10, some (.d (.int (i : Nat))), some (.loc H2.length), some (.d (.int (j : Nat))), some (.d (.str (textS (rows2 es i (rowS ((eW es[i]).set j bad)))))), some (.d (.lst ((eW es[i]).map .str))), some (.d (.str (rowS (es[i].1 :: List.replicate 3 ("1" : Str))))), x17, x18, x19, x20, x21] ∧ H6 = h') ?_ ?_
    · repeat (first
      | (with_reducible first | refine okm_ret ?_ | refine okm_cn ?_ | refine okm_op2 ?_ | refine okm_tst ?_ | refine okm_ifE ?_ | refine okm_mnil ?_ | refine okm_mcons ?_ | refine okm_notT ?_ | refine okm_notV ?_ | refine okm_chain ?_ | refine okm_andT ?_ | refine okm_orT ?_ | refine okm_andV ?_ | refine okm_orV ?_ | refine okm_unE ?_ | refine okm_fnE ?_ | refine okm_lenE ?_ | refine okm_ixE ?_ | refine okm_ptN ?_ | refine okm_ptS ?_ | refine okm_slE ?_ | refine okm_bmE ?_ | refine okm_isiE ?_ | refine okm_itE ?_ | refine okm_itN ?_ | refine okm_it1 ?_ | refine okm_lcM ?_ | refine okm_callP ?_ | refine okm_callM ?_ | refine okm_fz ?_ | refine okm_fzD ?_ | refine okm_lmE ?_ | refine okm_spNE ?_ | refine oks_seq ?_ | refine oks_if ?_ | refine oks_set ?_ | refine oks_asg ?_ | refine oks_sret ?_ | refine oks_sexp ?_ | refine oks_snx ?_ | refine oks_for ?_ | refine oks_aug ?_ | refine oks_augS ?_ | refine oks_raise ?_ | refine okm_bnd ?_)
      | ((with_reducible apply okm_vr); (· rfl))
      | ((with_reducible apply okm_tupE); (· rfl); (· rfl)) | ((with_reducible apply okm_lstE); (· rfl); (· rfl)) | ((with_reducible apply okm_lstN); (· rfl))
      | ((with_reducible apply op_rfl); (· rfl); (· rfl); (· rfl)) | ((with_reducible apply o1_rfl); (· rfl); (· rfl)) | ((with_reducible apply of_rfl); (· rfl); (· rfl))
      | (with_reducible refine wp_t ?_) | (with_reducible refine wp_f ?_) | (with_reducible refine wp_nt ?_) | (with_reducible refine wp_nf ?_)
      | ((with_reducible apply ex_t); (· rfl)) | ((with_reducible apply ex_f); (· rfl))
      | ((with_reducible apply ex_and4); (· rfl); (· rfl); (· rfl)) | ((with_reducible apply ex_and3); (· rfl); (· rfl)) | ((with_reducible apply ex_and2); (· rfl)) | ((with_reducible apply ex_and); (· rfl))
      | ((with_reducible apply isT_and); (· rfl)) | ((with_reducible apply ex_bm); (· rfl); (· rfl); (· rfl))
      | dsimp only)
      rw [full_one]
      repeat (first
        | (with_reducible first | refine okm_ret ?_ | refine okm_cn ?_ | refine okm_op2 ?_ | refine okm_tst ?_ | refine okm_ifE ?_ | refine okm_mnil ?_ | refine okm_mcons ?_ | refine okm_notT ?_ | refine okm_notV ?_ | refine okm_chain ?_ | refine okm_andT ?_ | refine okm_orT ?_ | refine okm_andV ?_ | refine okm_orV ?_ | refine okm_unE ?_ | refine okm_fnE ?_ | refine okm_lenE ?_ | refine okm_ixE ?_ | refine okm_ptN ?_ | refine okm_ptS ?_ | refine okm_slE ?_ | refine okm_bmE ?_ | refine okm_isiE ?_ | refine okm_itE ?_ | refine okm_itN ?_ | refine okm_it1 ?_ | refine okm_lcM ?_ | refine okm_callP ?_ | refine okm_callM ?_ | refine okm_fz ?_ | refine okm_fzD ?_ | refine okm_lmE ?_ | refine okm_spNE ?_ | refine oks_seq ?_ | refine oks_if ?_ | refine oks_set ?_ | refine oks_asg ?_ | refine oks_sret ?_ | refine oks_sexp ?_ | refine oks_snx ?_ | refine oks_for ?_ | refine oks_aug ?_ | refine oks_augS ?_ | refine oks_raise ?_ | refine okm_bnd ?_)
        | ((with_reducible apply okm_vr); (· rfl))
        | ((with_reducible apply okm_tupE); (· rfl); (· rfl)) | ((with_reducible apply okm_lstE); (· rfl); (· rfl)) | ((with_reducible apply okm_lstN); (· rfl))
        | ((with_reducible apply op_rfl); (· rfl); (· rfl); (· rfl)) | ((with_reducible apply o1_rfl); (· rfl); (· rfl)) | ((with_reducible apply of_rfl); (· rfl); (· rfl))
        | (with_reducible refine wp_t ?_) | (with_reducible refine wp_f ?_) | (with_reducible refine wp_nt ?_) | (with_reducible refine wp_nf ?_)
        | ((with_reducible apply ex_t); (· rfl)) | ((with_reducible apply ex_f); (· rfl))
        | ((with_reducible apply ex_and4); (· rfl); (· rfl); (· rfl)) | ((with_reducible apply ex_and3); (· rfl); (· rfl)) | ((with_reducible apply ex_and2); (· rfl)) | ((with_reducible apply ex_and); (· rfl))
        | ((with_reducible apply isT_and); (· rfl)) | ((with_reducible apply ex_bm); (· rfl); (· rfl); (· rfl))
        | dsimp only)
      exact ⟨_, _, _, rfl, rfl, hj2, _, _, rfl, rfl, rfl⟩
    rintro δ h' ⟨rfl, rfl⟩
    have hc1 := cutL_len ((es.map eRow).map D.str) none (some (i : Int))
    have hc2 := cutL_len ((es.map eRow).map D.str) (some ((i : Int) + 1)) none
    rw [List.length_map, List.length_map] at hc1 hc2
    refine oks_cut (fun δ h' => δ = [x0, some (.loc 0), x2, x3, x4, some (.d (.lst ((es.map eRow).map .str))), x6, some (.d (.lst (es.map (told 1)))), some (.d (.bl (lg 1))), some (.d (.str (textS (es.map eRow)))), x10, some (.d (.int (i : Nat))), some (.loc H2.length), some (.d (.int (j : Nat))), some (.d (.str (textS (rows2 es i (rowS ((eW es[i]).set j bad)))))), some (.d (.lst ((eW es[i]).map .str))), some (.d (.str (rowS (es[i].1 :: List.replicate 3 ("1" : Str))))), some (.d (.str (textS (rows2 es i (rowS (odd 1 es[i].1)))))), x18, x19, x20, x21] ∧ H6 = h') ?_ ?_
    · repeat (first
      | (with_reducible first | refine okm_ret ?_ | refine okm_cn ?_ | refine okm_op2 ?_ | refine okm_tst ?_ | refine okm_ifE ?_ | refine okm_mnil ?_ | refine okm_mcons ?_ | refine okm_notT ?_ | refine okm_notV ?_ | refine okm_chain ?_ | refine okm_andT ?_ | refine okm_orT ?_ | refine okm_andV ?_ | refine okm_orV ?_ | refine okm_unE ?_ | refine okm_fnE ?_ | refine okm_lenE ?_ | refine okm_ixE ?_ | refine okm_ptN ?_ | refine okm_ptS ?_ | refine okm_slE ?_ | refine okm_bmE ?_ | refine okm_isiE ?_ | refine okm_itE ?_ | refine okm_itN ?_ | refine okm_it1 ?_ | refine okm_lcM ?_ | refine okm_callP ?_ | refine okm_callM ?_ | refine okm_fz ?_ | refine okm_fzD ?_ | refine okm_lmE ?_ | refine okm_spNE ?_ | refine oks_seq ?_ | refine oks_if ?_ | refine oks_set ?_ | refine oks_asg ?_ | refine oks_sret ?_ | refine oks_sexp ?_ | refine oks_snx ?_ | refine oks_for ?_ | refine oks_aug ?_ | refine oks_augS ?_ | refine oks_raise ?_ | refine okm_bnd ?_)
      | ((with_reducible apply okm_vr); (· rfl))
      | ((with_reducible apply okm_tupE); (· rfl); (· rfl)) | ((with_reducible apply okm_lstE); (· rfl); (· rfl)) | ((with_reducible apply okm_lstN); (· rfl))
      | ((with_reducible apply op_rfl); (· rfl); (· rfl); (· rfl)) | ((with_reducible apply o1_rfl); (· rfl); (· rfl)) | ((with_reducible apply of_rfl); (· rfl); (· rfl))
      | (with_reducible refine wp_t ?_) | (with_reducible refine wp_f ?_) | (with_reducible refine wp_nt ?_) | (with_reducible refine wp_nf ?_)
      | ((with_reducible apply ex_t); (· rfl)) | ((with_reducible apply ex_f); (· rfl))
      | ((with_reducible apply ex_and4); (· rfl); (· rfl); (· rfl)) | ((with_reducible apply ex_and3); (· rfl); (· rfl)) | ((with_reducible apply ex_and2); (· rfl)) | ((with_reducible apply ex_and); (· rfl))
      | ((with_reducible apply isT_and); (· rfl)) | ((with_reducible apply ex_bm); (· rfl); (· rfl); (· rfl))
      | dsimp only)
      have e0 : atI ((eW es[i]).map D.str) (0 : Int) = some (.str es[i].1) := atI_nat (j := 0) rfl
      refine ⟨_, congrArg (Option.map U.d) e0, ?_⟩
      repeat (first
        | (with_reducible first | refine okm_ret ?_ | refine okm_cn ?_ | refine okm_op2 ?_ | refine okm_tst ?_ | refine okm_ifE ?_ | refine okm_mnil ?_ | refine okm_mcons ?_ | refine okm_notT ?_ | refine okm_notV ?_ | refine okm_chain ?_ | refine okm_andT ?_ | refine okm_orT ?_ | refine okm_andV ?_ | refine okm_orV ?_ | refine okm_unE ?_ | refine okm_fnE ?_ | refine okm_lenE ?_ | refine okm_ixE ?_ | refine okm_ptN ?_ | refine okm_ptS ?_ | refine okm_slE ?_ | refine okm_bmE ?_ | refine okm_isiE ?_ | refine okm_itE ?_ | refine okm_itN ?_ | refine okm_it1 ?_ | refine okm_lcM ?_ | refine okm_callP ?_ | refine okm_callM ?_ | refine okm_fz ?_ | refine okm_fzD ?_ | refine okm_lmE ?_ | refine okm_spNE ?_ | refine oks_seq ?_ | refine oks_if ?_ | refine oks_set ?_ | refine oks_asg ?_ | refine oks_sret ?_ | refine oks_sexp ?_ | refine oks_snx ?_ | refine oks_for ?_ | refine oks_aug ?_ | refine oks_augS ?_ | refine oks_raise ?_ | refine okm_bnd ?_)
        | ((with_reducible apply okm_vr); (· rfl))
        | ((with_reducible apply okm_tupE); (· rfl); (· rfl)) | ((with_reducible apply okm_lstE); (· rfl); (· rfl)) | ((with_reducible apply okm_lstN); (· rfl))
        | ((with_reducible apply op_rfl); (· rfl); (· rfl); (· rfl)) | ((with_reducible apply o1_rfl); (· rfl); (· rfl)) | ((with_reducible apply of_rfl); (· rfl); (· rfl))
        | (with_reducible refine wp_t ?_) | (with_reducible refine wp_f ?_) | (with_reducible refine wp_nt ?_) | (with_reducible refine wp_nf ?_)
        | ((with_reducible apply ex_t); (· rfl)) | ((with_reducible apply ex_f); (· rfl))
        | ((with_reducible apply ex_and4); (· rfl); (· rfl); (· rfl)) | ((with_reducible apply ex_and3); (· rfl); (· rfl)) | ((with_reducible apply ex_and2); (· rfl)) | ((with_reducible apply ex_and); (· rfl))
        | ((with_reducible apply isT_and); (· rfl)) | ((with_reducible apply ex_bm); (· rfl); (· rfl); (· rfl))
        | dsimp only)
      refine op_rfl rfl rfl (catL_ok (by rw [List.length_singleton]; omega)) ?_
      repeat (first
        | (with_reducible first | refine okm_ret ?_ | refine okm_cn ?_ | refine okm_op2 ?_ | refine okm_tst ?_ | refine okm_ifE ?_ | refine okm_mnil ?_ | refine okm_mcons ?_ | refine okm_notT ?_ | refine okm_notV ?_ | refine okm_chain ?_ | refine okm_andT ?_ | refine okm_orT ?_ | refine okm_andV ?_ | refine okm_orV ?_ | refine okm_unE ?_ | refine okm_fnE ?_ | refine okm_lenE ?_ | refine okm_ixE ?_ | refine okm_ptN ?_ | refine okm_ptS ?_ | refine okm_slE ?_ | refine okm_bmE ?_ | refine okm_isiE ?_ | refine okm_itE ?_ | refine okm_itN ?_ | refine okm_it1 ?_ | refine okm_lcM ?_ | refine okm_callP ?_ | refine okm_callM ?_ | refine okm_fz ?_ | refine okm_fzD ?_ | refine okm_lmE ?_ | refine okm_spNE ?_ | refine oks_seq ?_ | refine oks_if ?_ | refine oks_set ?_ | refine oks_asg ?_ | refine oks_sret ?_ | refine oks_sexp ?_ | refine oks_snx ?_ | refine oks_for ?_ | refine oks_aug ?_ | refine oks_augS ?_ | refine oks_raise ?_ | refine okm_bnd ?_)
        | ((with_reducible apply okm_vr); (· rfl))
        | ((with_reducible apply okm_tupE); (· rfl); (· rfl)) | ((with_reducible apply okm_lstE); (· rfl); (· rfl)) | ((with_reducible apply okm_lstN); (· rfl))
        | ((with_reducible apply op_rfl); (· rfl); (· rfl); (· rfl)) | ((with_reducible apply o1_rfl); (· rfl); (· rfl)) | ((with_reducible apply of_rfl); (· rfl); (· rfl))
        | (with_reducible refine wp_t ?_) | (with_reducible refine wp_f ?_) | (with_reducible refine wp_nt ?_) | (with_reducible refine wp_nf ?_)
        | ((with_reducible apply ex_t); (· rfl)) | ((with_reducible apply ex_f); (· rfl))
        | ((with_reducible apply ex_and4); (· rfl); (· rfl); (· rfl)) | ((with_reducible apply ex_and3); (· rfl); (· rfl)) | ((with_reducible apply ex_and2); (· rfl)) | ((with_reducible apply ex_and); (· rfl))
        | ((with_reducible apply isT_and); (· rfl)) | ((with_reducible apply ex_bm); (· rfl); (· rfl); (· rfl))
        | dsimp only)
      refine op_rfl rfl rfl (catL_ok (by rw [List.length_append, List.length_singleton]; omega)) ?_
      repeat (first
        | (with_reducible first | refine okm_ret ?_ | refine okm_cn ?_ | refine okm_op2 ?_ | refine okm_tst ?_ | refine okm_ifE ?_ | refine okm_mnil ?_ | refine okm_mcons ?_ | refine okm_notT ?_ | refine okm_notV ?_ | refine okm_chain ?_ | refine okm_andT ?_ | refine okm_orT ?_ | refine okm_andV ?_ | refine okm_orV ?_ | refine okm_unE ?_ | refine okm_fnE ?_ | refine okm_lenE ?_ | refine okm_ixE ?_ | refine okm_ptN ?_ | refine okm_ptS ?_ | refine okm_slE ?_ | refine okm_bmE ?_ | refine okm_isiE ?_ | refine okm_itE ?_ | refine okm_itN ?_ | refine okm_it1 ?_ | refine okm_lcM ?_ | refine okm_callP ?_ | refine okm_callM ?_ | refine okm_fz ?_ | refine okm_fzD ?_ | refine okm_lmE ?_ | refine okm_spNE ?_ | refine oks_seq ?_ | refine oks_if ?_ | refine oks_set ?_ | refine oks_asg ?_ | refine oks_sret ?_ | refine oks_sexp ?_ | refine oks_snx ?_ | refine oks_for ?_ | refine oks_aug ?_ | refine oks_augS ?_ | refine oks_raise ?_ | refine okm_bnd ?_)
        | ((with_reducible apply okm_vr); (· rfl))
        | ((with_reducible apply okm_tupE); (· rfl); (· rfl)) | ((with_reducible apply okm_lstE); (· rfl); (· rfl)) | ((with_reducible apply okm_lstN); (· rfl))
        | ((with_reducible apply op_rfl); (· rfl); (· rfl); (· rfl)) | ((with_reducible apply o1_rfl); (· rfl); (· rfl)) | ((with_reducible apply of_rfl); (· rfl); (· rfl))
        | (with_reducible refine wp_t ?_) | (with_reducible refine wp_f ?_) | (with_reducible refine wp_nt ?_) | (with_reducible refine wp_nf ?_)
        | ((with_reducible apply ex_t); (· rfl)) | ((with_reducible apply ex_f); (· rfl))
        | ((with_reducible apply ex_and4); (· rfl); (· rfl); (· rfl)) | ((with_reducible apply ex_and3); (· rfl); (· rfl)) | ((with_reducible apply ex_and2); (· rfl)) | ((with_reducible apply ex_and); (· rfl))
        | ((with_reducible apply isT_and); (· rfl)) | ((with_reducible apply ex_bm); (· rfl); (· rfl); (· rfl))
        | dsimp only)
      rw [show D.str es[i].1 = D.str (rowS (odd 1 es[i].1)) from congrArg D.str (rowS_one _).symm]
      rw [rows2_D]
      refine ⟨szOk_of (by rw [List.length_map, List.length_map]; have := rows2_ct (i := i) (X := rowS (odd 1 es[i].1)) hes; omega), _, _, nl_lc (by show 21 < 22; decide) _ (rows2_len hm ho hY1), okm_lstF (allD_map _) ?_⟩
      repeat (first
        | (with_reducible first | refine okm_ret ?_ | refine okm_cn ?_ | refine okm_op2 ?_ | refine okm_tst ?_ | refine okm_ifE ?_ | refine okm_mnil ?_ | refine okm_mcons ?_ | refine okm_notT ?_ | refine okm_notV ?_ | refine okm_chain ?_ | refine okm_andT ?_ | refine okm_orT ?_ | refine okm_andV ?_ | refine okm_orV ?_ | refine okm_unE ?_ | refine okm_fnE ?_ | refine okm_lenE ?_ | refine okm_ixE ?_ | refine okm_ptN ?_ | refine okm_ptS ?_ | refine okm_slE ?_ | refine okm_bmE ?_ | refine okm_isiE ?_ | refine okm_itE ?_ | refine okm_itN ?_ | refine okm_it1 ?_ | refine okm_lcM ?_ | refine okm_callP ?_ | refine okm_callM ?_ | refine okm_fz ?_ | refine okm_fzD ?_ | refine okm_lmE ?_ | refine okm_spNE ?_ | refine oks_seq ?_ | refine oks_if ?_ | refine oks_set ?_ | refine oks_asg ?_ | refine oks_sret ?_ | refine oks_sexp ?_ | refine oks_snx ?_ | refine oks_for ?_ | refine oks_aug ?_ | refine oks_augS ?_ | refine oks_raise ?_ | refine okm_bnd ?_)
        | ((with_reducible apply okm_vr); (· rfl))
        | ((with_reducible apply okm_tupE); (· rfl); (· rfl)) | ((with_reducible apply okm_lstE); (· rfl); (· rfl)) | ((with_reducible apply okm_lstN); (· rfl))
        | ((with_reducible apply op_rfl); (· rfl); (· rfl); (· rfl)) | ((with_reducible apply o1_rfl); (· rfl); (· rfl)) | ((with_reducible apply of_rfl); (· rfl); (· rfl))
        | (with_reducible refine wp_t ?_) | (with_reducible refine wp_f ?_) | (with_reducible refine wp_nt ?_) | (with_reducible refine wp_nf ?_)
        | ((with_reducible apply ex_t); (· rfl)) | ((with_reducible apply ex_f); (· rfl))
        | ((with_reducible apply ex_and4); (· rfl); (· rfl); (· rfl)) | ((with_reducible apply ex_and3); (· rfl); (· rfl)) | ((with_reducible apply ex_and2); (· rfl)) | ((with_reducible apply ex_and); (· rfl))
        | ((with_reducible apply isT_and); (· rfl)) | ((with_reducible apply ex_bm); (· rfl); (· rfl); (· rfl))
        | dsimp only)
      exact ⟨_, _, _, rfl, rfl, join_text (rows2_len hm ho hY1) (rows2_ct hes), _, _, rfl, rfl, rfl⟩
    rintro δ h' ⟨rfl, rfl⟩
    obtain ⟨hh, ef⟩ := spoil hm ho hes hi hY1 hY2 hYl hYb (by omega) (tail := "") (by decide +kernel) (by decide +kernel)
    rw [str_nil] at ef
    repeat (first
      | (with_reducible first | refine okm_ret ?_ | refine okm_cn ?_ | refine okm_op2 ?_ | refine okm_tst ?_ | refine okm_ifE ?_ | refine okm_mnil ?_ | refine okm_mcons ?_ | refine okm_notT ?_ | refine okm_notV ?_ | refine okm_chain ?_ | refine okm_andT ?_ | refine okm_orT ?_ | refine okm_andV ?_ | refine okm_orV ?_ | refine okm_unE ?_ | refine okm_fnE ?_ | refine okm_lenE ?_ | refine okm_ixE ?_ | refine okm_ptN ?_ | refine okm_ptS ?_ | refine okm_slE ?_ | refine okm_bmE ?_ | refine okm_isiE ?_ | refine okm_itE ?_ | refine okm_itN ?_ | refine okm_it1 ?_ | refine okm_lcM ?_ | refine okm_callP ?_ | refine okm_callM ?_ | refine okm_fz ?_ | refine okm_fzD ?_ | refine okm_lmE ?_ | refine okm_spNE ?_ | refine oks_seq ?_ | refine oks_if ?_ | refine oks_set ?_ | refine oks_asg ?_ | refine oks_sret ?_ | refine oks_sexp ?_ | refine oks_snx ?_ | refine oks_for ?_ | refine oks_aug ?_ | refine oks_augS ?_ | refine oks_raise ?_ | refine okm_bnd ?_)
      | ((with_reducible apply okm_vr); (· rfl))
      | ((with_reducible apply okm_tupE); (· rfl); (· rfl)) | ((with_reducible apply okm_lstE); (· rfl); (· rfl)) | ((with_reducible apply okm_lstN); (· rfl))
      | ((with_reducible apply op_rfl); (· rfl); (· rfl); (· rfl)) | ((with_reducible apply o1_rfl); (· rfl); (· rfl)) | ((with_reducible apply of_rfl); (· rfl); (· rfl))
      | (with_reducible refine wp_t ?_) | (with_reducible refine wp_f ?_) | (with_reducible refine wp_nt ?_) | (with_reducible refine wp_nf ?_)
      | ((with_reducible apply ex_t); (· rfl)) | ((with_reducible apply ex_f); (· rfl))
      | ((with_reducible apply ex_and4); (· rfl); (· rfl); (· rfl)) | ((with_reducible apply ex_and3); (· rfl); (· rfl)) | ((with_reducible apply ex_and2); (· rfl)) | ((with_reducible apply ex_and); (· rfl))
      | ((with_reducible apply isT_and); (· rfl)) | ((with_reducible apply ex_bm); (· rfl); (· rfl); (· rfl))
      | dsimp only)
    refine ⟨rfl, _, _, hh, rfl, ef, ?_⟩
    repeat (first
      | (with_reducible first | refine okm_ret ?_ | refine okm_cn ?_ | refine okm_op2 ?_ | refine okm_tst ?_ | refine okm_ifE ?_ | refine okm_mnil ?_ | refine okm_mcons ?_ | refine okm_notT ?_ | refine okm_notV ?_ | refine okm_chain ?_ | refine okm_andT ?_ | refine okm_orT ?_ | refine okm_andV ?_ | refine okm_orV ?_ | refine okm_unE ?_ | refine okm_fnE ?_ | refine okm_lenE ?_ | refine okm_ixE ?_ | refine okm_ptN ?_ | refine okm_ptS ?_ | refine okm_slE ?_ | refine okm_bmE ?_ | refine okm_isiE ?_ | refine okm_itE ?_ | refine okm_itN ?_ | refine okm_it1 ?_ | refine okm_lcM ?_ | refine okm_callP ?_ | refine okm_callM ?_ | refine okm_fz ?_ | refine okm_fzD ?_ | refine okm_lmE ?_ | refine okm_spNE ?_ | refine oks_seq ?_ | refine oks_if ?_ | refine oks_set ?_ | refine oks_asg ?_ | refine oks_sret ?_ | refine oks_sexp ?_ | refine oks_snx ?_ | refine oks_for ?_ | refine oks_aug ?_ | refine oks_augS ?_ | refine oks_raise ?_ | refine okm_bnd ?_)
      | ((with_reducible apply okm_vr); (· rfl))
      | ((with_reducible apply okm_tupE); (· rfl); (· rfl)) | ((with_reducible apply okm_lstE); (· rfl); (· rfl)) | ((with_reducible apply okm_lstN); (· rfl))
      | ((with_reducible apply op_rfl); (· rfl); (· rfl); (· rfl)) | ((with_reducible apply o1_rfl); (· rfl); (· rfl)) | ((with_reducible apply of_rfl); (· rfl); (· rfl))
      | (with_reducible refine wp_t ?_) | (with_reducible refine wp_f ?_) | (with_reducible refine wp_nt ?_) | (with_reducible refine wp_nf ?_)
      | ((with_reducible apply ex_t); (· rfl)) | ((with_reducible apply ex_f); (· rfl))
      | ((with_reducible apply ex_and4); (· rfl); (· rfl); (· rfl)) | ((with_reducible apply ex_and3); (· rfl); (· rfl)) | ((with_reducible apply ex_and2); (· rfl)) | ((with_reducible apply ex_and); (· rfl))
      | ((with_reducible apply isT_and); (· rfl)) | ((with_reducible apply ex_bm); (· rfl); (· rfl); (· rfl))
      | dsimp only)
    refine hint ?_
    repeat (first
      | (with_reducible first | refine okm_ret ?_ | refine okm_cn ?_ | refine okm_op2 ?_ | refine okm_tst ?_ | refine okm_ifE ?_ | refine okm_mnil ?_ | refine okm_mcons ?_ | refine okm_notT ?_ | refine okm_notV ?_ | refine okm_chain ?_ | refine okm_andT ?_ | refine okm_orT ?_ | refine okm_andV ?_ | refine okm_orV ?_ | refine okm_unE ?_ | refine okm_fnE ?_ | refine okm_lenE ?_ | refine okm_ixE ?_ | refine okm_ptN ?_ | refine okm_ptS ?_ | refine okm_slE ?_ | refine okm_bmE ?_ | refine okm_isiE ?_ | refine okm_itE ?_ | refine okm_itN ?_ | refine okm_it1 ?_ | refine okm_lcM ?_ | refine okm_callP ?_ | refine okm_callM ?_ | refine okm_fz ?_ | refine okm_fzD ?_ | refine okm_lmE ?_ | refine okm_spNE ?_ | refine oks_seq ?_ | refine oks_if ?_ | refine oks_set ?_ | refine oks_asg ?_ | refine oks_sret ?_ | refine oks_sexp ?_ | refine oks_snx ?_ | refine oks_for ?_ | refine oks_aug ?_ | refine oks_augS ?_ | refine oks_raise ?_ | refine okm_bnd ?_)
      | ((with_reducible apply okm_vr); (· rfl))
      | ((with_reducible apply okm_tupE); (· rfl); (· rfl)) | ((with_reducible apply okm_lstE); (· rfl); (· rfl)) | ((with_reducible apply okm_lstN); (· rfl))
      | ((with_reducible apply op_rfl); (· rfl); (· rfl); (· rfl)) | ((with_reducible apply o1_rfl); (· rfl); (· rfl)) | ((with_reducible apply of_rfl); (· rfl); (· rfl))
      | (with_reducible refine wp_t ?_) | (with_reducible refine wp_f ?_) | (with_reducible refine wp_nt ?_) | (with_reducible refine wp_nf ?_)
      | ((with_reducible apply ex_t); (· rfl)) | ((with_reducible apply ex_f); (· rfl))
      | ((with_reducible apply ex_and4); (· rfl); (· rfl); (· rfl)) | ((with_reducible apply ex_and3); (· rfl); (· rfl)) | ((with_reducible apply ex_and2); (· rfl)) | ((with_reducible apply ex_and); (· rfl))
      | ((with_reducible apply isT_and); (· rfl)) | ((with_reducible apply ex_bm); (· rfl); (· rfl); (· rfl))
      | dsimp only)
    exact ⟨_, _, n + 1 + 1 + 1 + 1, rfl, hdr5, by omega, hd ⟨_, _, _, _, _, _, _, _, _, _, _, _, _, rfl⟩⟩
theorem fnM_top2 {nn : Nat} {b : S} {us : List U} {P : D → Prop} (o : OkS b (us.map some ++ List.replicate (nn - us.length) none) [] fun o => ∃ x h', o = .rt (.d x) h' ∧ P x) : ∃ x, fnM nn b us [] = some (.ok (.d x) []) ∧ P x := by
  obtain ⟨o, e, x, h', rfl, p⟩ := o
  refine ⟨x, ?_, p⟩
  unfold fnM
  simp only [e]
  rfl
def gotL : List D := [.non, .int 0, .int 7, .int 10, .int 59]
theorem gotL_ok {d : D} (h : d ∈ gotL) : d = .non ∨ ∃ k : Nat, k < 60 ∧ d = .int k := by
  unfold gotL at h
  simp only [List.mem_cons, List.mem_nil_iff, or_false] at h
  rcases h with rfl | rfl | rfl | rfl | rfl
  · exact .inl rfl
  · exact .inr ⟨0, by decide, rfl⟩
  · exact .inr ⟨7, by decide, rfl⟩
  · exact .inr ⟨10, by decide, rfl⟩
  · exact .inr ⟨59, by decide, rfl⟩
theorem draw_got {ns : List Int} (hl : ns.length ≤ 63) (hb : ∀ z ∈ ns, Builtin.Int.intBits z ≤ 1048576) {n : Nat} (hn : n < 1000000) {h : Hea} (hk : h[0]? = some (Dr ns n)) :
    ∃ d ∈ gotL, f__law_got [.loc 0] h = some (.ok (.d d) (h.set 0 (Dr ns (n + 1)))) := by
  obtain ⟨d, hd1, e⟩ := pick_ok hl hb (by omega) hk (ds := gotL) (by simp [gotL])
  have key : ∃ x h', fnM 1 b__law_got [.loc 0] h = some (.ok (.d x) h') ∧ h'.length = h.length ∧ Hd (x = d ∧ h' = h.set 0 (Dr ns (n + 1))) := by
    refine fnM_keep ?_
    show OkS b__law_got [some (.loc 0)] h _
    unfold b__law_got
    repeat (first
      | (with_reducible first | refine okm_ret ?_ | refine okm_cn ?_ | refine okm_op2 ?_ | refine okm_tst ?_ | refine okm_ifE ?_ | refine okm_mnil ?_ | refine okm_mcons ?_ | refine okm_notT ?_ | refine okm_notV ?_ | refine okm_chain ?_ | refine okm_andT ?_ | refine okm_orT ?_ | refine okm_andV ?_ | refine okm_orV ?_ | refine okm_unE ?_ | refine okm_fnE ?_ | refine okm_lenE ?_ | refine okm_ixE ?_ | refine okm_ptN ?_ | refine okm_ptS ?_ | refine okm_slE ?_ | refine okm_bmE ?_ | refine okm_isiE ?_ | refine okm_itE ?_ | refine okm_itN ?_ | refine okm_it1 ?_ | refine okm_lcM ?_ | refine okm_callP ?_ | refine okm_callM ?_ | refine okm_fz ?_ | refine okm_fzD ?_ | refine okm_lmE ?_ | refine okm_spNE ?_ | refine oks_seq ?_ | refine oks_if ?_ | refine oks_set ?_ | refine oks_asg ?_ | refine oks_sret ?_ | refine oks_sexp ?_ | refine oks_snx ?_ | refine oks_for ?_ | refine oks_aug ?_ | refine oks_augS ?_ | refine oks_raise ?_ | refine okm_bnd ?_)
      | ((with_reducible apply okm_vr); (· rfl))
      | ((with_reducible apply okm_tupE); (· rfl); (· rfl)) | ((with_reducible apply okm_lstE); (· rfl); (· rfl)) | ((with_reducible apply okm_lstN); (· rfl))
      | ((with_reducible apply op_rfl); (· rfl); (· rfl); (· rfl)) | ((with_reducible apply o1_rfl); (· rfl); (· rfl)) | ((with_reducible apply of_rfl); (· rfl); (· rfl))
      | (with_reducible refine wp_t ?_) | (with_reducible refine wp_f ?_) | (with_reducible refine wp_nt ?_) | (with_reducible refine wp_nf ?_)
      | ((with_reducible apply ex_t); (· rfl)) | ((with_reducible apply ex_f); (· rfl))
      | ((with_reducible apply ex_and4); (· rfl); (· rfl); (· rfl)) | ((with_reducible apply ex_and3); (· rfl); (· rfl)) | ((with_reducible apply ex_and2); (· rfl)) | ((with_reducible apply ex_and); (· rfl))
      | ((with_reducible apply isT_and); (· rfl)) | ((with_reducible apply ex_bm); (· rfl); (· rfl); (· rfl))
      | dsimp only)
    refine ⟨rfl, _, _, e, ?_⟩
    refine ⟨_, _, rfl, by rw [List.length_set], hd ⟨rfl, rfl⟩⟩
  obtain ⟨x, h', e, hl', rfl, rfl⟩ := key
  exact ⟨_, hd1, e⟩
/-- the drawn run, the drawn log -/
theorem draw_run {ns : List Int} (hl : ns.length ≤ 63) (hb : ∀ z ∈ ns, Builtin.Int.intBits z ≤ 1048576) {δ : Sl} (h1 : (δ[1]? : Option (Option U)) = some (some (.loc 0))) (h2 : (δ[2]? : Option (Option U)) = some (some (.d (.lst (nameL.map .str))))) : ∀ (xs : List U) (n : Nat) (h : Hea), n + 2 * xs.length < 1000 → h[0]? = some (Dr ns n) →
    ∃ (es : List Ent) (h' : Hea), lcL (gnm 10) (mret true) (mbnd (mcons (callM 2 f__law_pick (mcons (vr 1) (mcons (vr 2) mnil))) (mcons (callM 1 f__law_got (mcons (vr 1) mnil)) mnil)) tupE) δ xs h = some ((es.map (told 0)).map .d, h') ∧ h'[0]? = some (Dr ns (n + 2 * xs.length)) ∧ (∀ e ∈ es, OkE 0 e) ∧ es.length = xs.length
  | [], n, h, _, hk => ⟨[], h, rfl, hk, by simp, rfl⟩
  | x :: xs, n, h, hn, hk => by
    rw [List.length_cons] at hn
    obtain ⟨d, hd1, e1⟩ := pick_ok hl hb (by omega) hk (ds := nameL.map .str) (by simp [nameL])
    obtain ⟨t, ht, rfl⟩ := List.mem_map.mp hd1
    have hk1 : (h.set 0 (Dr ns (n + 1)))[0]? = some (Dr ns (n + 1)) := List.getElem?_set_self (List.getElem?_eq_some_iff.mp hk).1
    obtain ⟨g, hg, e2⟩ := draw_got hl hb (by omega) hk1
    have hk2 : ((h.set 0 (Dr ns (n + 1))).set 0 (Dr ns (n + 1 + 1)))[0]? = some (Dr ns (n + 1 + 1)) := List.getElem?_set_self (List.getElem?_eq_some_iff.mp hk1).1
    obtain ⟨es, h', e3, i1, i2, i3⟩ := draw_run hl hb h1 h2 xs (n + 1 + 1) _ (by omega) hk2
    have g1 : (δ.set 10 (some x))[1]? = some (some (U.loc 0)) := by rw [List.getElem?_set_ne (by decide)]; exact h1
    have g2 : (δ.set 10 (some x))[2]? = some (some (U.d (.lst (nameL.map .str)))) := by rw [List.getElem?_set_ne (by decide)]; exact h2
    have te : mbnd (mcons (callM 2 f__law_pick (mcons (vr 1) (mcons (vr 2) mnil))) (mcons (callM 1 f__law_got (mcons (vr 1) mnil)) mnil)) tupE (δ.set 10 (some x)) h = some (.ok (.d (.tup [.str t, g])) ((h.set 0 (Dr ns (n + 1))).set 0 (Dr ns (n + 1 + 1)))) := by
      refine okm_eq2 (okm_bnd (okm_mcons (okm_callM (okm_mcons (okm_vr g1 (okm_mcons (okm_vr g2 (okm_mnil ⟨rfl, _, _, e1, ?_⟩))))))))
      refine okm_mcons (okm_callM (okm_mcons (okm_vr g1 (okm_mnil ⟨rfl, _, _, e2, ?_⟩))))
      exact okm_mnil (okm_tupE rfl rfl ⟨rfl, rfl⟩)
    have fin : ∀ ks : List Nat, (∀ k ∈ ks, k < 60) → ks.length ≤ 1 → told 0 (t, ks) = .tup [.str t, g] → ∃ (es : List Ent) (h' : Hea), lcL (gnm 10) (mret true) (mbnd (mcons (callM 2 f__law_pick (mcons (vr 1) (mcons (vr 2) mnil))) (mcons (callM 1 f__law_got (mcons (vr 1) mnil)) mnil)) tupE) δ (x :: xs) h = some ((es.map (told 0)).map .d, h') ∧ h'[0]? = some (Dr ns (n + 2 * (x :: xs).length)) ∧ (∀ e ∈ es, OkE 0 e) ∧ es.length = (x :: xs).length := fun ks hks hkl hto => by
      refine ⟨(t, ks) :: es, h', ?_, ?_, ?_, by rw [List.length_cons, i3, List.length_cons]⟩
      · unfold lcL
        simp only [gnm, mret, te, e3]
        rw [List.map_cons, List.map_cons, hto]
      · rw [i1, List.length_cons]
        congr 2
        omega
      · intro e he
        rcases List.mem_cons.mp he with rfl | he
        · exact ⟨ht, hks, Nat.zero_le _, hkl⟩
        · exact i2 e he
    rcases gotL_ok hg with rfl | ⟨k, hk60, rfl⟩
    · exact fin [] (by simp) (by simp) rfl
    · exact fin [k] (by simpa using hk60) (by simp) rfl
theorem draw_log {ns : List Int} (hl : ns.length ≤ 63) (hb : ∀ z ∈ ns, Builtin.Int.intBits z ≤ 1048576) {δ : Sl} (h1 : (δ[1]? : Option (Option U)) = some (some (.loc 0))) (h2 : (δ[2]? : Option (Option U)) = some (some (.d (.lst (nameL.map .str))))) : ∀ (xs : List U) (n : Nat) (h : Hea), n + 3 * xs.length < 1000 → h[0]? = some (Dr ns n) →
    ∃ (es : List Ent) (h' : Hea), lcL (gnm 10) (mret true) (mbnd (mcons (callM 2 f__law_pick (mcons (vr 1) (mcons (vr 2) mnil))) (mcons (callM 2 f__law_take (mcons (vr 1) (mcons (cn (.int 60)) mnil))) (mcons (callM 1 f__law_got (mcons (vr 1) mnil)) mnil))) tupE) δ xs h = some ((es.map (told 1)).map .d, h') ∧ h'[0]? = some (Dr ns (n + 3 * xs.length)) ∧ (∀ e ∈ es, OkE 1 e) ∧ es.length = xs.length
  | [], n, h, _, hk => ⟨[], h, rfl, hk, by simp, rfl⟩
  | x :: xs, n, h, hn, hk => by
    rw [List.length_cons] at hn
    obtain ⟨d, hd1, e1⟩ := pick_ok hl hb (by omega) hk (ds := nameL.map .str) (by simp [nameL])
    obtain ⟨t, ht, rfl⟩ := List.mem_map.mp hd1
    have hk1 : (h.set 0 (Dr ns (n + 1)))[0]? = some (Dr ns (n + 1)) := List.getElem?_set_self (List.getElem?_eq_some_iff.mp hk).1
    obtain ⟨z, z0, z60, ez⟩ := take_ok hl hb (by omega) hk1 (m := 60) (by decide)
    have hk2 : ((h.set 0 (Dr ns (n + 1))).set 0 (Dr ns (n + 1 + 1)))[0]? = some (Dr ns (n + 1 + 1)) := List.getElem?_set_self (List.getElem?_eq_some_iff.mp hk1).1
    obtain ⟨g, hg, e2⟩ := draw_got hl hb (by omega) hk2
    have hk3 : (((h.set 0 (Dr ns (n + 1))).set 0 (Dr ns (n + 1 + 1))).set 0 (Dr ns (n + 1 + 1 + 1)))[0]? = some (Dr ns (n + 1 + 1 + 1)) := List.getElem?_set_self (List.getElem?_eq_some_iff.mp hk2).1
    obtain ⟨es, h', e3, i1, i2, i3⟩ := draw_log hl hb h1 h2 xs (n + 1 + 1 + 1) _ (by omega) hk3
    have g1 : (δ.set 10 (some x))[1]? = some (some (U.loc 0)) := by rw [List.getElem?_set_ne (by decide)]; exact h1
    have g2 : (δ.set 10 (some x))[2]? = some (some (U.d (.lst (nameL.map .str)))) := by rw [List.getElem?_set_ne (by decide)]; exact h2
    have te : mbnd (mcons (callM 2 f__law_pick (mcons (vr 1) (mcons (vr 2) mnil))) (mcons (callM 2 f__law_take (mcons (vr 1) (mcons (cn (.int 60)) mnil))) (mcons (callM 1 f__law_got (mcons (vr 1) mnil)) mnil))) tupE (δ.set 10 (some x)) h = some (.ok (.d (.tup [.str t, .int z, g])) (((h.set 0 (Dr ns (n + 1))).set 0 (Dr ns (n + 1 + 1))).set 0 (Dr ns (n + 1 + 1 + 1)))) := by
      refine okm_eq2 (okm_bnd (okm_mcons (okm_callM (okm_mcons (okm_vr g1 (okm_mcons (okm_vr g2 (okm_mnil ⟨rfl, _, _, e1, ?_⟩))))))))
      refine okm_mcons (okm_callM (okm_mcons (okm_vr g1 (okm_mcons (okm_cn (okm_mnil ⟨rfl, _, _, ez, ?_⟩))))))
      refine okm_mcons (okm_callM (okm_mcons (okm_vr g1 (okm_mnil ⟨rfl, _, _, e2, ?_⟩))))
      exact okm_mnil (okm_tupE rfl rfl ⟨rfl, rfl⟩)
    have fin : ∀ ks : List Nat, (∀ k ∈ ks, k < 60) → ks.length ≤ 1 → told 1 (t, z.toNat :: ks) = .tup [.str t, .int z, g] → ∃ (es : List Ent) (h' : Hea), lcL (gnm 10) (mret true) (mbnd (mcons (callM 2 f__law_pick (mcons (vr 1) (mcons (vr 2) mnil))) (mcons (callM 2 f__law_take (mcons (vr 1) (mcons (cn (.int 60)) mnil))) (mcons (callM 1 f__law_got (mcons (vr 1) mnil)) mnil))) tupE) δ (x :: xs) h = some ((es.map (told 1)).map .d, h') ∧ h'[0]? = some (Dr ns (n + 3 * (x :: xs).length)) ∧ (∀ e ∈ es, OkE 1 e) ∧ es.length = (x :: xs).length := fun ks hks hkl hto => by
      refine ⟨(t, z.toNat :: ks) :: es, h', ?_, ?_, ?_, by rw [List.length_cons, i3, List.length_cons]⟩
      · unfold lcL
        simp only [gnm, mret, te, e3]
        rw [List.map_cons, List.map_cons, hto]
      · rw [i1, List.length_cons]
        congr 2
        omega
      · intro e he
        rcases List.mem_cons.mp he with rfl | he
        · refine ⟨ht, fun k hk => ?_, by simp, by simpa using hkl⟩
          rcases List.mem_cons.mp hk with rfl | hk
          · omega
          · exact hks k hk
        · exact i2 e he
    have hz : ((z.toNat : Nat) : Int) = z := Int.toNat_of_nonneg z0
    rcases gotL_ok hg with rfl | ⟨k, hk60, rfl⟩
    · exact fin [] (by simp) (by simp) (by show D.tup [.str t, .int ((z.toNat : Nat) : Int), .non] = _; rw [hz])
    · exact fin [k] (by simpa using hk60) (by simp) (by show D.tup [.str t, .int ((z.toNat : Nat) : Int), .int k] = _; rw [hz])
theorem join_row2 {m : Nat} (hm : m ≤ 1) {e : Ent} (h : OkE m e) : pJoin (.str " ") [.lst ((eW e).map .str)] = some (.str (eRow e)) := join_row (fun w hw => (eW_word h w hw).2.2.1) (by
  have := h.2.2.2
  show (e.2.map numS).length + 1 ≤ 5
  rw [List.length_map]
  omega)
theorem rows_lc0 {δ : Sl} {h : Hea} (hd : 21 < δ.length) : ∀ es : List Ent, (∀ e ∈ es, OkE 0 e) → lcL (gtup 2 (gcons (gnm 18) (gcons (gnm 19) gnil))) (mret true) (bmE "str" pJoin (cn (.str " ")) (mcons (op2 pAdd (mbnd (mcons (vr 18) mnil) lstE) (ifE (tst (op2 pIs (vr 19) (cn .non))) (mbnd mnil lstE) (mbnd (mcons (fnE pStr (mcons (vr 19) mnil)) mnil) lstE))) mnil)) δ ((es.map (told 0)).map .d) h = some (((es.map eRow).map .str).map .d, h)
  | [], _ => rfl
  | e :: es, ho => by
    have ih := rows_lc0 hd (h := h) es fun y hy => ho y (by simp [hy])
    have he := ho e (by simp)
    have e1 : gtup 2 (gcons (gnm 18) (gcons (gnm 19) gnil)) (.d (told 0 e)) δ h = some ((δ.set 18 (some (.d (.str e.1)))).set 19 (some (.d (gotD 0 e))), h) := rfl
    have g1 : ((δ.set 18 (some (.d (.str e.1)))).set 19 (some (.d (gotD 0 e))))[18]? = some (some (U.d (.str e.1))) := by
      rw [List.getElem?_set_ne (by decide), List.getElem?_set_self (by omega)]
    have g2 : ((δ.set 18 (some (.d (.str e.1)))).set 19 (some (.d (gotD 0 e))))[19]? = some (some (U.d (gotD 0 e))) := List.getElem?_set_self (by rw [List.length_set]; omega)
    have hj := join_row2 (by decide) he
    have e2 : bmE "str" pJoin (cn (.str " ")) (mcons (op2 pAdd (mbnd (mcons (vr 18) mnil) lstE) (ifE (tst (op2 pIs (vr 19) (cn .non))) (mbnd mnil lstE) (mbnd (mcons (fnE pStr (mcons (vr 19) mnil)) mnil) lstE))) mnil) ((δ.set 18 (some (.d (.str e.1)))).set 19 (some (.d (gotD 0 e)))) h = some (.ok (.d (.str (eRow e))) h) := by
      obtain ⟨t, ks⟩ := e
      have hl := he.2.2.2
      refine okm_eq2 (okm_bmE (okm_cn ⟨_, rfl, rfl, okm_mcons (okm_op2 (okm_bnd (okm_mcons (okm_vr g1 (okm_mnil (okm_lstE rfl rfl ?_))))))⟩))
      refine okm_ifE (okm_tst (okm_op2 (okm_vr g2 (okm_cn ?_))))
      match ks, hl, he, hj with
      | [], _, he, hj =>
        repeat (first
          | (with_reducible first | refine okm_ret ?_ | refine okm_cn ?_ | refine okm_op2 ?_ | refine okm_tst ?_ | refine okm_ifE ?_ | refine okm_mnil ?_ | refine okm_mcons ?_ | refine okm_notT ?_ | refine okm_notV ?_ | refine okm_chain ?_ | refine okm_andT ?_ | refine okm_orT ?_ | refine okm_andV ?_ | refine okm_orV ?_ | refine okm_unE ?_ | refine okm_fnE ?_ | refine okm_lenE ?_ | refine okm_ixE ?_ | refine okm_ptN ?_ | refine okm_ptS ?_ | refine okm_slE ?_ | refine okm_bmE ?_ | refine okm_isiE ?_ | refine okm_itE ?_ | refine okm_itN ?_ | refine okm_it1 ?_ | refine okm_lcM ?_ | refine okm_callP ?_ | refine okm_callM ?_ | refine okm_fz ?_ | refine okm_fzD ?_ | refine okm_lmE ?_ | refine okm_spNE ?_ | refine oks_seq ?_ | refine oks_if ?_ | refine oks_set ?_ | refine oks_asg ?_ | refine oks_sret ?_ | refine oks_sexp ?_ | refine oks_snx ?_ | refine oks_for ?_ | refine oks_aug ?_ | refine oks_augS ?_ | refine oks_raise ?_ | refine okm_bnd ?_)
          | ((with_reducible apply okm_vr); (· rfl))
          | ((with_reducible apply okm_tupE); (· rfl); (· rfl)) | ((with_reducible apply okm_lstE); (· rfl); (· rfl)) | ((with_reducible apply okm_lstN); (· rfl))
          | ((with_reducible apply op_rfl); (· rfl); (· rfl); (· rfl)) | ((with_reducible apply o1_rfl); (· rfl); (· rfl)) | ((with_reducible apply of_rfl); (· rfl); (· rfl))
          | (with_reducible refine wp_t ?_) | (with_reducible refine wp_f ?_) | (with_reducible refine wp_nt ?_) | (with_reducible refine wp_nf ?_)
          | ((with_reducible apply ex_t); (· rfl)) | ((with_reducible apply ex_f); (· rfl))
          | ((with_reducible apply ex_and4); (· rfl); (· rfl); (· rfl)) | ((with_reducible apply ex_and3); (· rfl); (· rfl)) | ((with_reducible apply ex_and2); (· rfl)) | ((with_reducible apply ex_and); (· rfl))
          | ((with_reducible apply isT_and); (· rfl)) | ((with_reducible apply ex_bm); (· rfl); (· rfl); (· rfl))
          | dsimp only)
        exact ⟨_, _, _, rfl, rfl, hj, rfl, rfl⟩
      | [k], _, he, hj =>
        have hk : k < 60 := he.2.1 k (by simp)
        refine op_rfl rfl rfl (c := .bl false) rfl ⟨_, rfl, wp_f ?_⟩
        refine okm_bnd (okm_mcons (okm_fnE (okm_mcons (okm_vr g2 (okm_mnil (of_rfl (ds := [.int k]) rfl (str_ok hk) ?_))))))
        repeat (first
          | (with_reducible first | refine okm_ret ?_ | refine okm_cn ?_ | refine okm_op2 ?_ | refine okm_tst ?_ | refine okm_ifE ?_ | refine okm_mnil ?_ | refine okm_mcons ?_ | refine okm_notT ?_ | refine okm_notV ?_ | refine okm_chain ?_ | refine okm_andT ?_ | refine okm_orT ?_ | refine okm_andV ?_ | refine okm_orV ?_ | refine okm_unE ?_ | refine okm_fnE ?_ | refine okm_lenE ?_ | refine okm_ixE ?_ | refine okm_ptN ?_ | refine okm_ptS ?_ | refine okm_slE ?_ | refine okm_bmE ?_ | refine okm_isiE ?_ | refine okm_itE ?_ | refine okm_itN ?_ | refine okm_it1 ?_ | refine okm_lcM ?_ | refine okm_callP ?_ | refine okm_callM ?_ | refine okm_fz ?_ | refine okm_fzD ?_ | refine okm_lmE ?_ | refine okm_spNE ?_ | refine oks_seq ?_ | refine oks_if ?_ | refine oks_set ?_ | refine oks_asg ?_ | refine oks_sret ?_ | refine oks_sexp ?_ | refine oks_snx ?_ | refine oks_for ?_ | refine oks_aug ?_ | refine oks_augS ?_ | refine oks_raise ?_ | refine okm_bnd ?_)
          | ((with_reducible apply okm_vr); (· rfl))
          | ((with_reducible apply okm_tupE); (· rfl); (· rfl)) | ((with_reducible apply okm_lstE); (· rfl); (· rfl)) | ((with_reducible apply okm_lstN); (· rfl))
          | ((with_reducible apply op_rfl); (· rfl); (· rfl); (· rfl)) | ((with_reducible apply o1_rfl); (· rfl); (· rfl)) | ((with_reducible apply of_rfl); (· rfl); (· rfl))
          | (with_reducible refine wp_t ?_) | (with_reducible refine wp_f ?_) | (with_reducible refine wp_nt ?_) | (with_reducible refine wp_nf ?_)
          | ((with_reducible apply ex_t); (· rfl)) | ((with_reducible apply ex_f); (· rfl))
          | ((with_reducible apply ex_and4); (· rfl); (· rfl); (· rfl)) | ((with_reducible apply ex_and3); (· rfl); (· rfl)) | ((with_reducible apply ex_and2); (· rfl)) | ((with_reducible apply ex_and); (· rfl))
          | ((with_reducible apply isT_and); (· rfl)) | ((with_reducible apply ex_bm); (· rfl); (· rfl); (· rfl))
          | dsimp only)
        exact ⟨_, _, _, rfl, rfl, hj, rfl, rfl⟩
      | _ :: _ :: _, hl, _, _ => simp at hl
    rw [List.map_cons, List.map_cons, List.map_cons, List.map_cons, List.map_cons]
    unfold lcL
    simp only [e1, e2, mret, ih]
theorem rows_lc1 {δ : Sl} {h : Hea} (hd : 21 < δ.length) : ∀ es : List Ent, (∀ e ∈ es, OkE 1 e) → lcL (gtup 3 (gcons (gnm 18) (gcons (gnm 20) (gcons (gnm 19) gnil)))) (mret true) (bmE "str" pJoin (cn (.str " ")) (mcons (op2 pAdd (mbnd (mcons (vr 18) (mcons (fnE pStr (mcons (vr 20) mnil)) mnil)) lstE) (ifE (tst (op2 pIs (vr 19) (cn .non))) (mbnd mnil lstE) (mbnd (mcons (fnE pStr (mcons (vr 19) mnil)) mnil) lstE))) mnil)) δ ((es.map (told 1)).map .d) h = some (((es.map eRow).map .str).map .d, h)
  | [], _ => rfl
  | (t, ks) :: es, ho => by
    have ih := rows_lc1 hd (h := h) es fun y hy => ho y (by simp [hy])
    have he := ho (t, ks) (by simp)
    have hk := he.2.2.1
    obtain ⟨k, ks, rfl⟩ : ∃ k ks', ks = k :: ks' := by
      cases ks with
      | nil => simp at hk
      | cons k ks => exact ⟨k, ks, rfl⟩
    have hk60 : k < 60 := he.2.1 k (by simp)
    have e1 : gtup 3 (gcons (gnm 18) (gcons (gnm 20) (gcons (gnm 19) gnil))) (.d (told 1 (t, k :: ks))) δ h = some (((δ.set 18 (some (.d (.str t)))).set 20 (some (.d (.int k)))).set 19 (some (.d (gotD 1 (t, k :: ks)))), h) := rfl
    have g1 : (((δ.set 18 (some (.d (.str t)))).set 20 (some (.d (.int k)))).set 19 (some (.d (gotD 1 (t, k :: ks)))))[18]? = some (some (U.d (.str t))) := by
      rw [List.getElem?_set_ne (by decide), List.getElem?_set_ne (by decide), List.getElem?_set_self (by omega)]
    have g3 : (((δ.set 18 (some (.d (.str t)))).set 20 (some (.d (.int k)))).set 19 (some (.d (gotD 1 (t, k :: ks)))))[20]? = some (some (U.d (.int k))) := by
      rw [List.getElem?_set_ne (by decide), List.getElem?_set_self (by rw [List.length_set]; omega)]
    have g2 : (((δ.set 18 (some (.d (.str t)))).set 20 (some (.d (.int k)))).set 19 (some (.d (gotD 1 (t, k :: ks)))))[19]? = some (some (U.d (gotD 1 (t, k :: ks)))) := List.getElem?_set_self (by rw [List.length_set, List.length_set]; omega)
    have hj := join_row2 (by decide) he
    have e2 : bmE "str" pJoin (cn (.str " ")) (mcons (op2 pAdd (mbnd (mcons (vr 18) (mcons (fnE pStr (mcons (vr 20) mnil)) mnil)) lstE) (ifE (tst (op2 pIs (vr 19) (cn .non))) (mbnd mnil lstE) (mbnd (mcons (fnE pStr (mcons (vr 19) mnil)) mnil) lstE))) mnil) (((δ.set 18 (some (.d (.str t)))).set 20 (some (.d (.int k)))).set 19 (some (.d (gotD 1 (t, k :: ks))))) h = some (.ok (.d (.str (eRow (t, k :: ks)))) h) := by
      have hl := he.2.2.2
      refine okm_eq2 (okm_bmE (okm_cn ⟨_, rfl, rfl, okm_mcons (okm_op2 (okm_bnd (okm_mcons (okm_vr g1 ?_))))⟩))
      refine okm_mcons (okm_fnE (okm_mcons (okm_vr g3 (okm_mnil (of_rfl (ds := [.int k]) rfl (str_ok hk60) (okm_mnil (okm_lstE rfl rfl ?_)))))))
      refine okm_ifE (okm_tst (okm_op2 (okm_vr g2 (okm_cn ?_))))
      match ks, hl, he, hj with
      | [], _, he, hj =>
        repeat (first
          | (with_reducible first | refine okm_ret ?_ | refine okm_cn ?_ | refine okm_op2 ?_ | refine okm_tst ?_ | refine okm_ifE ?_ | refine okm_mnil ?_ | refine okm_mcons ?_ | refine okm_notT ?_ | refine okm_notV ?_ | refine okm_chain ?_ | refine okm_andT ?_ | refine okm_orT ?_ | refine okm_andV ?_ | refine okm_orV ?_ | refine okm_unE ?_ | refine okm_fnE ?_ | refine okm_lenE ?_ | refine okm_ixE ?_ | refine okm_ptN ?_ | refine okm_ptS ?_ | refine okm_slE ?_ | refine okm_bmE ?_ | refine okm_isiE ?_ | refine okm_itE ?_ | refine okm_itN ?_ | refine okm_it1 ?_ | refine okm_lcM ?_ | refine okm_callP ?_ | refine okm_callM ?_ | refine okm_fz ?_ | refine okm_fzD ?_ | refine okm_lmE ?_ | refine okm_spNE ?_ | refine oks_seq ?_ | refine oks_if ?_ | refine oks_set ?_ | refine oks_asg ?_ | refine oks_sret ?_ | refine oks_sexp ?_ | refine oks_snx ?_ | refine oks_for ?_ | refine oks_aug ?_ | refine oks_augS ?_ | refine oks_raise ?_ | refine okm_bnd ?_)
          | ((with_reducible apply okm_vr); (· rfl))
          | ((with_reducible apply okm_tupE); (· rfl); (· rfl)) | ((with_reducible apply okm_lstE); (· rfl); (· rfl)) | ((with_reducible apply okm_lstN); (· rfl))
          | ((with_reducible apply op_rfl); (· rfl); (· rfl); (· rfl)) | ((with_reducible apply o1_rfl); (· rfl); (· rfl)) | ((with_reducible apply of_rfl); (· rfl); (· rfl))
          | (with_reducible refine wp_t ?_) | (with_reducible refine wp_f ?_) | (with_reducible refine wp_nt ?_) | (with_reducible refine wp_nf ?_)
          | ((with_reducible apply ex_t); (· rfl)) | ((with_reducible apply ex_f); (· rfl))
          | ((with_reducible apply ex_and4); (· rfl); (· rfl); (· rfl)) | ((with_reducible apply ex_and3); (· rfl); (· rfl)) | ((with_reducible apply ex_and2); (· rfl)) | ((with_reducible apply ex_and); (· rfl))
          | ((with_reducible apply isT_and); (· rfl)) | ((with_reducible apply ex_bm); (· rfl); (· rfl); (· rfl))
          | dsimp only)
        exact ⟨_, _, _, rfl, rfl, hj, rfl, rfl⟩
      | [k2], _, he, hj =>
        have hk2 : k2 < 60 := he.2.1 k2 (by simp)
        refine op_rfl rfl rfl (c := .bl false) rfl ⟨_, rfl, wp_f ?_⟩
        refine okm_bnd (okm_mcons (okm_fnE (okm_mcons (okm_vr g2 (okm_mnil (of_rfl (ds := [.int k2]) rfl (str_ok hk2) ?_))))))
        repeat (first
          | (with_reducible first | refine okm_ret ?_ | refine okm_cn ?_ | refine okm_op2 ?_ | refine okm_tst ?_ | refine okm_ifE ?_ | refine okm_mnil ?_ | refine okm_mcons ?_ | refine okm_notT ?_ | refine okm_notV ?_ | refine okm_chain ?_ | refine okm_andT ?_ | refine okm_orT ?_ | refine okm_andV ?_ | refine okm_orV ?_ | refine okm_unE ?_ | refine okm_fnE ?_ | refine okm_lenE ?_ | refine okm_ixE ?_ | refine okm_ptN ?_ | refine okm_ptS ?_ | refine okm_slE ?_ | refine okm_bmE ?_ | refine okm_isiE ?_ | refine okm_itE ?_ | refine okm_itN ?_ | refine okm_it1 ?_ | refine okm_lcM ?_ | refine okm_callP ?_ | refine okm_callM ?_ | refine okm_fz ?_ | refine okm_fzD ?_ | refine okm_lmE ?_ | refine okm_spNE ?_ | refine oks_seq ?_ | refine oks_if ?_ | refine oks_set ?_ | refine oks_asg ?_ | refine oks_sret ?_ | refine oks_sexp ?_ | refine oks_snx ?_ | refine oks_for ?_ | refine oks_aug ?_ | refine oks_augS ?_ | refine oks_raise ?_ | refine okm_bnd ?_)
          | ((with_reducible apply okm_vr); (· rfl))
          | ((with_reducible apply okm_tupE); (· rfl); (· rfl)) | ((with_reducible apply okm_lstE); (· rfl); (· rfl)) | ((with_reducible apply okm_lstN); (· rfl))
          | ((with_reducible apply op_rfl); (· rfl); (· rfl); (· rfl)) | ((with_reducible apply o1_rfl); (· rfl); (· rfl)) | ((with_reducible apply of_rfl); (· rfl); (· rfl))
          | (with_reducible refine wp_t ?_) | (with_reducible refine wp_f ?_) | (with_reducible refine wp_nt ?_) | (with_reducible refine wp_nf ?_)
          | ((with_reducible apply ex_t); (· rfl)) | ((with_reducible apply ex_f); (· rfl))
          | ((with_reducible apply ex_and4); (· rfl); (· rfl); (· rfl)) | ((with_reducible apply ex_and3); (· rfl); (· rfl)) | ((with_reducible apply ex_and2); (· rfl)) | ((with_reducible apply ex_and); (· rfl))
          | ((with_reducible apply isT_and); (· rfl)) | ((with_reducible apply ex_bm); (· rfl); (· rfl); (· rfl))
          | dsimp only)
        exact ⟨_, _, _, rfl, rfl, hj, rfl, rfl⟩
      | _ :: _ :: _, hl, _, _ => simp at hl
    rw [List.map_cons, List.map_cons, List.map_cons, List.map_cons, List.map_cons]
    unfold lcL
    simp only [e1, e2, mret, ih]
theorem lnt_lit : Txt.split ("t 1 2 3\n" : Str) "\n" = (["t 1 2 3", ""] : List Str) := by decide +kernel
theorem lnw_lit : Txt.split ("t 1 2 3" : Str) " " = (["t", "1", "2", "3"] : List Str) := by decide +kernel
theorem lnt_nil : Txt.split ("" : Str) "\n" = ([""] : List Str) := by decide +kernel
theorem rows_no {x : D} {m : Nat} (hx : ∃ s, tgD x = some (.bt s) ∧ kitB s "str" = some false) : ∃ hh, f_read_rows [.d x, .d (.int m)] [] = some (.exc (bdBad 0 0) hh) := by
  obtain ⟨s, h1, h2⟩ := hx
  refine fnM_exc ?_
  show OkS b_read_rows [some (.d x), some (.d (.int m)), none, none, none, none, none, none, none, none, none] [] _
  unfold b_read_rows
  refine oks_seq (oks_if (okm_notT (okm_tst (okm_isiE (okm_vr rfl ⟨_, _, h1, rfl, h2, false, rfl, ?_⟩)))))
  repeat (first
    | (with_reducible first | refine okm_ret ?_ | refine okm_cn ?_ | refine okm_op2 ?_ | refine okm_tst ?_ | refine okm_ifE ?_ | refine okm_mnil ?_ | refine okm_mcons ?_ | refine okm_notT ?_ | refine okm_notV ?_ | refine okm_chain ?_ | refine okm_andT ?_ | refine okm_orT ?_ | refine okm_andV ?_ | refine okm_orV ?_ | refine okm_unE ?_ | refine okm_fnE ?_ | refine okm_lenE ?_ | refine okm_ixE ?_ | refine okm_ptN ?_ | refine okm_ptS ?_ | refine okm_slE ?_ | refine okm_bmE ?_ | refine okm_isiE ?_ | refine okm_itE ?_ | refine okm_itN ?_ | refine okm_it1 ?_ | refine okm_lcM ?_ | refine okm_callP ?_ | refine okm_callM ?_ | refine okm_fz ?_ | refine okm_fzD ?_ | refine okm_lmE ?_ | refine okm_spNE ?_ | refine oks_seq ?_ | refine oks_if ?_ | refine oks_set ?_ | refine oks_asg ?_ | refine oks_sret ?_ | refine oks_sexp ?_ | refine oks_snx ?_ | refine oks_for ?_ | refine oks_aug ?_ | refine oks_augS ?_ | refine oks_raise ?_ | refine okm_bnd ?_)
    | ((with_reducible apply okm_vr); (· rfl))
    | ((with_reducible apply okm_tupE); (· rfl); (· rfl)) | ((with_reducible apply okm_lstE); (· rfl); (· rfl)) | ((with_reducible apply okm_lstN); (· rfl))
    | ((with_reducible apply op_rfl); (· rfl); (· rfl); (· rfl)) | ((with_reducible apply o1_rfl); (· rfl); (· rfl)) | ((with_reducible apply of_rfl); (· rfl); (· rfl))
    | (with_reducible refine wp_t ?_) | (with_reducible refine wp_f ?_) | (with_reducible refine wp_nt ?_) | (with_reducible refine wp_nf ?_)
    | ((with_reducible apply ex_t); (· rfl)) | ((with_reducible apply ex_f); (· rfl))
    | ((with_reducible apply ex_and4); (· rfl); (· rfl); (· rfl)) | ((with_reducible apply ex_and3); (· rfl); (· rfl)) | ((with_reducible apply ex_and2); (· rfl)) | ((with_reducible apply ex_and); (· rfl))
    | ((with_reducible apply isT_and); (· rfl)) | ((with_reducible apply ex_bm); (· rfl); (· rfl); (· rfl))
    | dsimp only)
  exact ⟨rfl, by decide, _, _, rfl⟩
theorem four_bad : BadAt 1 ["t", "1", "2", "3"] 3 := .word (pre := ["t", "1", "2"]) (x := "3") (post := []) (b := true) (fun k w hk => by
  match k, hk with
  | 0, hk => cases hk; unfold WA; rw [if_pos rfl]; exact name_wn (by simp [nameL])
  | 1, hk => cases hk; unfold WA; rw [if_neg (by decide)]; exact ws_num (n := 1) (by decide)
  | 2, hk => cases hk; unfold WA; rw [if_neg (by decide)]; exact ws_num (n := 2) (by decide)
  | k + 3, hk => simp at hk) (by simp) (by unfold WA; rw [if_neg (by decide)]; exact ws_num (n := 3) (by decide)) (.inr (by simp))
theorem forL_nx {g : G} {b : S} {x : U} {xs : List U} {δ δ1 δ2 : Sl} {h h1 h2 : Hea} (eg : g x δ h = some (δ1, h1)) (eb : b δ1 h1 = some (.nx δ2 h2)) : forL g b (x :: xs) δ h = forL g b xs δ2 h2 := by
  show (match g x δ h with
    | some (δ1, h1) => match b δ1 h1 with
      | some (.nx δ2 h2) => forL g b xs δ2 h2
      | some (.ct δ2 h2) => forL g b xs δ2 h2
      | some (.bk δ2 h2) => some (.nx δ2 h2)
      | o => o
    | none => none) = _
  simp only [eg, eb]
theorem rng_ok {z : Int} (h0 : 0 ≤ z) (h8 : z < 8) : rngL1 [.d (.int z)] = some (rngD 0 z.toNat) := if_pos (decide_eq_true (by omega))
theorem plain (ns : List Int) (hl : ns.length ≤ 63) (hb : ∀ z ∈ ns, Builtin.Int.intBits z ≤ 1048576) : f_law [.d (.scr ns)] [] = some (.ok (.d (.bl true)) []) := by
  have key : ∃ x, fnM 22 b_law [.d (.scr ns)] [] = some (.ok (.d x) []) ∧ x = .bl true := by
    refine fnM_top2 ?_
    show OkS b_law [some (.d (.scr ns)), none, none, none, none, none, none, none, none, none, none, none, none, none, none, none, none, none, none, none, none, none] [] _
    unfold b_law
    refine oks_cut (fun δ h => δ = [some (.d (.scr ns)), some (.loc 0), none, none, none, none, none, none, none, none, none, none, none, none, none, none, none, none, none, none, none, none] ∧ h = [Dr ns 0]) ?_ ?_
    · repeat (first
      | (with_reducible first | refine okm_ret ?_ | refine okm_cn ?_ | refine okm_op2 ?_ | refine okm_tst ?_ | refine okm_ifE ?_ | refine okm_mnil ?_ | refine okm_mcons ?_ | refine okm_notT ?_ | refine okm_notV ?_ | refine okm_chain ?_ | refine okm_andT ?_ | refine okm_orT ?_ | refine okm_andV ?_ | refine okm_orV ?_ | refine okm_unE ?_ | refine okm_fnE ?_ | refine okm_lenE ?_ | refine okm_ixE ?_ | refine okm_ptN ?_ | refine okm_ptS ?_ | refine okm_slE ?_ | refine okm_bmE ?_ | refine okm_isiE ?_ | refine okm_itE ?_ | refine okm_itN ?_ | refine okm_it1 ?_ | refine okm_lcM ?_ | refine okm_callP ?_ | refine okm_callM ?_ | refine okm_fz ?_ | refine okm_fzD ?_ | refine okm_lmE ?_ | refine okm_spNE ?_ | refine oks_seq ?_ | refine oks_if ?_ | refine oks_set ?_ | refine oks_asg ?_ | refine oks_sret ?_ | refine oks_sexp ?_ | refine oks_snx ?_ | refine oks_for ?_ | refine oks_aug ?_ | refine oks_augS ?_ | refine oks_raise ?_ | refine okm_bnd ?_)
      | ((with_reducible apply okm_vr); (· rfl))
      | ((with_reducible apply okm_tupE); (· rfl); (· rfl)) | ((with_reducible apply okm_lstE); (· rfl); (· rfl)) | ((with_reducible apply okm_lstN); (· rfl))
      | ((with_reducible apply op_rfl); (· rfl); (· rfl); (· rfl)) | ((with_reducible apply o1_rfl); (· rfl); (· rfl)) | ((with_reducible apply of_rfl); (· rfl); (· rfl))
      | (with_reducible refine wp_t ?_) | (with_reducible refine wp_f ?_) | (with_reducible refine wp_nt ?_) | (with_reducible refine wp_nf ?_)
      | ((with_reducible apply ex_t); (· rfl)) | ((with_reducible apply ex_f); (· rfl))
      | ((with_reducible apply ex_and4); (· rfl); (· rfl); (· rfl)) | ((with_reducible apply ex_and3); (· rfl); (· rfl)) | ((with_reducible apply ex_and2); (· rfl)) | ((with_reducible apply ex_and); (· rfl))
      | ((with_reducible apply isT_and); (· rfl)) | ((with_reducible apply ex_bm); (· rfl); (· rfl); (· rfl))
      | dsimp only)
      rfl
    rintro δ h ⟨rfl, rfl⟩
    refine oks_cut (fun δ h => δ = [some (.d (.scr ns)), some (.loc 0), some (.d (.lst (nameL.map .str))), none, none, none, none, none, none, none, none, none, none, none, none, none, none, none, none, none, none, none] ∧ h = [Dr ns 0]) ?_ ?_
    · repeat (first
      | (with_reducible first | refine okm_ret ?_ | refine okm_cn ?_ | refine okm_op2 ?_ | refine okm_tst ?_ | refine okm_ifE ?_ | refine okm_mnil ?_ | refine okm_mcons ?_ | refine okm_notT ?_ | refine okm_notV ?_ | refine okm_chain ?_ | refine okm_andT ?_ | refine okm_orT ?_ | refine okm_andV ?_ | refine okm_orV ?_ | refine okm_unE ?_ | refine okm_fnE ?_ | refine okm_lenE ?_ | refine okm_ixE ?_ | refine okm_ptN ?_ | refine okm_ptS ?_ | refine okm_slE ?_ | refine okm_bmE ?_ | refine okm_isiE ?_ | refine okm_itE ?_ | refine okm_itN ?_ | refine okm_it1 ?_ | refine okm_lcM ?_ | refine okm_callP ?_ | refine okm_callM ?_ | refine okm_fz ?_ | refine okm_fzD ?_ | refine okm_lmE ?_ | refine okm_spNE ?_ | refine oks_seq ?_ | refine oks_if ?_ | refine oks_set ?_ | refine oks_asg ?_ | refine oks_sret ?_ | refine oks_sexp ?_ | refine oks_snx ?_ | refine oks_for ?_ | refine oks_aug ?_ | refine oks_augS ?_ | refine oks_raise ?_ | refine okm_bnd ?_)
      | ((with_reducible apply okm_vr); (· rfl))
      | ((with_reducible apply okm_tupE); (· rfl); (· rfl)) | ((with_reducible apply okm_lstE); (· rfl); (· rfl)) | ((with_reducible apply okm_lstN); (· rfl))
      | ((with_reducible apply op_rfl); (· rfl); (· rfl); (· rfl)) | ((with_reducible apply o1_rfl); (· rfl); (· rfl)) | ((with_reducible apply of_rfl); (· rfl); (· rfl))
      | (with_reducible refine wp_t ?_) | (with_reducible refine wp_f ?_) | (with_reducible refine wp_nt ?_) | (with_reducible refine wp_nf ?_)
      | ((with_reducible apply ex_t); (· rfl)) | ((with_reducible apply ex_f); (· rfl))
      | ((with_reducible apply ex_and4); (· rfl); (· rfl); (· rfl)) | ((with_reducible apply ex_and3); (· rfl); (· rfl)) | ((with_reducible apply ex_and2); (· rfl)) | ((with_reducible apply ex_and); (· rfl))
      | ((with_reducible apply isT_and); (· rfl)) | ((with_reducible apply ex_bm); (· rfl); (· rfl); (· rfl))
      | dsimp only)
    rintro δ h ⟨rfl, rfl⟩
    refine oks_cut (fun δ h => Hd (∃ (es : List Ent) (n : Nat), (∀ e ∈ es, OkE 0 e) ∧ es.length ≤ 8 ∧ n < 100 ∧ h[0]? = some (Dr ns n) ∧ δ = [some (.d (.scr ns)), some (.loc 0), some (.d (.lst (nameL.map .str))), some (.d (.lst (es.map (told 0)))), none, none, none, none, none, none, none, none, none, none, none, none, none, none, none, none, none, none])) ?_ ?_
    · repeat (first
      | (with_reducible first | refine okm_ret ?_ | refine okm_cn ?_ | refine okm_op2 ?_ | refine okm_tst ?_ | refine okm_ifE ?_ | refine okm_mnil ?_ | refine okm_mcons ?_ | refine okm_notT ?_ | refine okm_notV ?_ | refine okm_chain ?_ | refine okm_andT ?_ | refine okm_orT ?_ | refine okm_andV ?_ | refine okm_orV ?_ | refine okm_unE ?_ | refine okm_fnE ?_ | refine okm_lenE ?_ | refine okm_ixE ?_ | refine okm_ptN ?_ | refine okm_ptS ?_ | refine okm_slE ?_ | refine okm_bmE ?_ | refine okm_isiE ?_ | refine okm_itE ?_ | refine okm_itN ?_ | refine okm_it1 ?_ | refine okm_lcM ?_ | refine okm_callP ?_ | refine okm_callM ?_ | refine okm_fz ?_ | refine okm_fzD ?_ | refine okm_lmE ?_ | refine okm_spNE ?_ | refine oks_seq ?_ | refine oks_if ?_ | refine oks_set ?_ | refine oks_asg ?_ | refine oks_sret ?_ | refine oks_sexp ?_ | refine oks_snx ?_ | refine oks_for ?_ | refine oks_aug ?_ | refine oks_augS ?_ | refine oks_raise ?_ | refine okm_bnd ?_)
      | ((with_reducible apply okm_vr); (· rfl))
      | ((with_reducible apply okm_tupE); (· rfl); (· rfl)) | ((with_reducible apply okm_lstE); (· rfl); (· rfl)) | ((with_reducible apply okm_lstN); (· rfl))
      | ((with_reducible apply op_rfl); (· rfl); (· rfl); (· rfl)) | ((with_reducible apply o1_rfl); (· rfl); (· rfl)) | ((with_reducible apply of_rfl); (· rfl); (· rfl))
      | (with_reducible refine wp_t ?_) | (with_reducible refine wp_f ?_) | (with_reducible refine wp_nt ?_) | (with_reducible refine wp_nf ?_)
      | ((with_reducible apply ex_t); (· rfl)) | ((with_reducible apply ex_f); (· rfl))
      | ((with_reducible apply ex_and4); (· rfl); (· rfl); (· rfl)) | ((with_reducible apply ex_and3); (· rfl); (· rfl)) | ((with_reducible apply ex_and2); (· rfl)) | ((with_reducible apply ex_and); (· rfl))
      | ((with_reducible apply isT_and); (· rfl)) | ((with_reducible apply ex_bm); (· rfl); (· rfl); (· rfl))
      | dsimp only)
      obtain ⟨z, z0, z8, ez⟩ := take_ok hl hb (n := 0) (by decide) (h := [Dr ns 0]) (k := 0) rfl (m := 8) (by decide)
      refine ⟨rfl, _, _, ez, ?_⟩
      refine okm_mnil ⟨_, rng_ok z0 z8, ?_⟩
      obtain ⟨es, h', e, i1, i2, i3⟩ := draw_run hl hb (δ := wipeS [some (.d (.scr ns)), some (.loc 0), some (.d (.lst (nameL.map .str))), none, none, none, none, none, none, none, none, none, none, none, none, none, none, none, none, none, none, none] [10]) rfl rfl (rngD 0 z.toNat) 1 ([Dr ns 0].set 0 (Dr ns (0 + 1))) (by rw [rngD_len]; omega) rfl
      rw [rngD_len] at i3
      refine ⟨szOk_of (by rw [rngD_len]; omega), _, _, e, okm_lstF (allD_map _) ?_⟩
      exact ⟨_, _, rfl, hd ⟨es, _, i2, by omega, by rw [rngD_len]; omega, i1, rfl⟩⟩
    rintro δ h ⟨es, n, ho, hes, hn, hk, rfl⟩
    refine oks_cut (fun δ h => Hd (∃ (fs : List Ent) (n : Nat), (∀ e ∈ fs, OkE 1 e) ∧ fs.length ≤ 8 ∧ n < 200 ∧ h[0]? = some (Dr ns n) ∧ δ = [some (.d (.scr ns)), some (.loc 0), some (.d (.lst (nameL.map .str))), some (.d (.lst (es.map (told 0)))), some (.d (.lst (fs.map (told 1)))), none, none, none, none, none, none, none, none, none, none, none, none, none, none, none, none, none])) ?_ ?_
    · repeat (first
      | (with_reducible first | refine okm_ret ?_ | refine okm_cn ?_ | refine okm_op2 ?_ | refine okm_tst ?_ | refine okm_ifE ?_ | refine okm_mnil ?_ | refine okm_mcons ?_ | refine okm_notT ?_ | refine okm_notV ?_ | refine okm_chain ?_ | refine okm_andT ?_ | refine okm_orT ?_ | refine okm_andV ?_ | refine okm_orV ?_ | refine okm_unE ?_ | refine okm_fnE ?_ | refine okm_lenE ?_ | refine okm_ixE ?_ | refine okm_ptN ?_ | refine okm_ptS ?_ | refine okm_slE ?_ | refine okm_bmE ?_ | refine okm_isiE ?_ | refine okm_itE ?_ | refine okm_itN ?_ | refine okm_it1 ?_ | refine okm_lcM ?_ | refine okm_callP ?_ | refine okm_callM ?_ | refine okm_fz ?_ | refine okm_fzD ?_ | refine okm_lmE ?_ | refine okm_spNE ?_ | refine oks_seq ?_ | refine oks_if ?_ | refine oks_set ?_ | refine oks_asg ?_ | refine oks_sret ?_ | refine oks_sexp ?_ | refine oks_snx ?_ | refine oks_for ?_ | refine oks_aug ?_ | refine oks_augS ?_ | refine oks_raise ?_ | refine okm_bnd ?_)
      | ((with_reducible apply okm_vr); (· rfl))
      | ((with_reducible apply okm_tupE); (· rfl); (· rfl)) | ((with_reducible apply okm_lstE); (· rfl); (· rfl)) | ((with_reducible apply okm_lstN); (· rfl))
      | ((with_reducible apply op_rfl); (· rfl); (· rfl); (· rfl)) | ((with_reducible apply o1_rfl); (· rfl); (· rfl)) | ((with_reducible apply of_rfl); (· rfl); (· rfl))
      | (with_reducible refine wp_t ?_) | (with_reducible refine wp_f ?_) | (with_reducible refine wp_nt ?_) | (with_reducible refine wp_nf ?_)
      | ((with_reducible apply ex_t); (· rfl)) | ((with_reducible apply ex_f); (· rfl))
      | ((with_reducible apply ex_and4); (· rfl); (· rfl); (· rfl)) | ((with_reducible apply ex_and3); (· rfl); (· rfl)) | ((with_reducible apply ex_and2); (· rfl)) | ((with_reducible apply ex_and); (· rfl))
      | ((with_reducible apply isT_and); (· rfl)) | ((with_reducible apply ex_bm); (· rfl); (· rfl); (· rfl))
      | dsimp only)
      obtain ⟨z, z0, z8, ez⟩ := take_ok hl hb (by omega) hk (m := 8) (by decide)
      refine ⟨rfl, _, _, ez, ?_⟩
      refine okm_mnil ⟨_, rng_ok z0 z8, ?_⟩
      obtain ⟨fs, h', e, i1, i2, i3⟩ := draw_log hl hb (δ := wipeS [some (.d (.scr ns)), some (.loc 0), some (.d (.lst (nameL.map .str))), some (.d (.lst (es.map (told 0)))), none, none, none, none, none, none, none, none, none, none, none, none, none, none, none, none, none, none] [10]) rfl rfl (rngD 0 z.toNat) (n + 1) (h.set 0 (Dr ns (n + 1))) (by rw [rngD_len]; omega) (dr_set hk _)
      rw [rngD_len] at i3
      refine ⟨szOk_of (by rw [rngD_len]; omega), _, _, e, okm_lstF (allD_map _) ?_⟩
      exact ⟨_, _, rfl, hd ⟨fs, _, i2, by omega, by rw [rngD_len]; omega, i1, rfl⟩⟩
    rintro δ h ⟨fs, n, hof, hfs, hn, hk, rfl⟩
    refine oks_cut (fun δ h' => δ = [some (.d (.scr ns)), some (.loc 0), some (.d (.lst (nameL.map .str))), some (.d (.lst (es.map (told 0)))), some (.d (.lst (fs.map (told 1)))), some (.d (.lst ((es.map eRow).map .str))), none, none, none, none, none, none, none, none, none, none, none, none, none, none, none, none] ∧ h = h') ?_ ?_
    · repeat (first
      | (with_reducible first | refine okm_ret ?_ | refine okm_cn ?_ | refine okm_op2 ?_ | refine okm_tst ?_ | refine okm_ifE ?_ | refine okm_mnil ?_ | refine okm_mcons ?_ | refine okm_notT ?_ | refine okm_notV ?_ | refine okm_chain ?_ | refine okm_andT ?_ | refine okm_orT ?_ | refine okm_andV ?_ | refine okm_orV ?_ | refine okm_unE ?_ | refine okm_fnE ?_ | refine okm_lenE ?_ | refine okm_ixE ?_ | refine okm_ptN ?_ | refine okm_ptS ?_ | refine okm_slE ?_ | refine okm_bmE ?_ | refine okm_isiE ?_ | refine okm_itE ?_ | refine okm_itN ?_ | refine okm_it1 ?_ | refine okm_lcM ?_ | refine okm_callP ?_ | refine okm_callM ?_ | refine okm_fz ?_ | refine okm_fzD ?_ | refine okm_lmE ?_ | refine okm_spNE ?_ | refine oks_seq ?_ | refine oks_if ?_ | refine oks_set ?_ | refine oks_asg ?_ | refine oks_sret ?_ | refine oks_sexp ?_ | refine oks_snx ?_ | refine oks_for ?_ | refine oks_aug ?_ | refine oks_augS ?_ | refine oks_raise ?_ | refine okm_bnd ?_)
      | ((with_reducible apply okm_vr); (· rfl))
      | ((with_reducible apply okm_tupE); (· rfl); (· rfl)) | ((with_reducible apply okm_lstE); (· rfl); (· rfl)) | ((with_reducible apply okm_lstN); (· rfl))
      | ((with_reducible apply op_rfl); (· rfl); (· rfl); (· rfl)) | ((with_reducible apply o1_rfl); (· rfl); (· rfl)) | ((with_reducible apply of_rfl); (· rfl); (· rfl))
      | (with_reducible refine wp_t ?_) | (with_reducible refine wp_f ?_) | (with_reducible refine wp_nt ?_) | (with_reducible refine wp_nf ?_)
      | ((with_reducible apply ex_t); (· rfl)) | ((with_reducible apply ex_f); (· rfl))
      | ((with_reducible apply ex_and4); (· rfl); (· rfl); (· rfl)) | ((with_reducible apply ex_and3); (· rfl); (· rfl)) | ((with_reducible apply ex_and2); (· rfl)) | ((with_reducible apply ex_and); (· rfl))
      | ((with_reducible apply isT_and); (· rfl)) | ((with_reducible apply ex_bm); (· rfl); (· rfl); (· rfl))
      | dsimp only)
      refine ⟨szOk_of (by simp; omega), _, _, rows_lc0 (by show 21 < 22; decide) es ho, okm_lstF (allD_map _) ?_⟩
      repeat (first
        | (with_reducible first | refine okm_ret ?_ | refine okm_cn ?_ | refine okm_op2 ?_ | refine okm_tst ?_ | refine okm_ifE ?_ | refine okm_mnil ?_ | refine okm_mcons ?_ | refine okm_notT ?_ | refine okm_notV ?_ | refine okm_chain ?_ | refine okm_andT ?_ | refine okm_orT ?_ | refine okm_andV ?_ | refine okm_orV ?_ | refine okm_unE ?_ | refine okm_fnE ?_ | refine okm_lenE ?_ | refine okm_ixE ?_ | refine okm_ptN ?_ | refine okm_ptS ?_ | refine okm_slE ?_ | refine okm_bmE ?_ | refine okm_isiE ?_ | refine okm_itE ?_ | refine okm_itN ?_ | refine okm_it1 ?_ | refine okm_lcM ?_ | refine okm_callP ?_ | refine okm_callM ?_ | refine okm_fz ?_ | refine okm_fzD ?_ | refine okm_lmE ?_ | refine okm_spNE ?_ | refine oks_seq ?_ | refine oks_if ?_ | refine oks_set ?_ | refine oks_asg ?_ | refine oks_sret ?_ | refine oks_sexp ?_ | refine oks_snx ?_ | refine oks_for ?_ | refine oks_aug ?_ | refine oks_augS ?_ | refine oks_raise ?_ | refine okm_bnd ?_)
        | ((with_reducible apply okm_vr); (· rfl))
        | ((with_reducible apply okm_tupE); (· rfl); (· rfl)) | ((with_reducible apply okm_lstE); (· rfl); (· rfl)) | ((with_reducible apply okm_lstN); (· rfl))
        | ((with_reducible apply op_rfl); (· rfl); (· rfl); (· rfl)) | ((with_reducible apply o1_rfl); (· rfl); (· rfl)) | ((with_reducible apply of_rfl); (· rfl); (· rfl))
        | (with_reducible refine wp_t ?_) | (with_reducible refine wp_f ?_) | (with_reducible refine wp_nt ?_) | (with_reducible refine wp_nf ?_)
        | ((with_reducible apply ex_t); (· rfl)) | ((with_reducible apply ex_f); (· rfl))
        | ((with_reducible apply ex_and4); (· rfl); (· rfl); (· rfl)) | ((with_reducible apply ex_and3); (· rfl); (· rfl)) | ((with_reducible apply ex_and2); (· rfl)) | ((with_reducible apply ex_and); (· rfl))
        | ((with_reducible apply isT_and); (· rfl)) | ((with_reducible apply ex_bm); (· rfl); (· rfl); (· rfl))
        | dsimp only)
    rintro δ h' ⟨rfl, rfl⟩
    refine oks_cut (fun δ h' => δ = [some (.d (.scr ns)), some (.loc 0), some (.d (.lst (nameL.map .str))), some (.d (.lst (es.map (told 0)))), some (.d (.lst (fs.map (told 1)))), some (.d (.lst ((es.map eRow).map .str))), some (.d (.lst ((fs.map eRow).map .str))), none, none, none, none, none, none, none, none, none, none, none, none, none, none, none] ∧ h = h') ?_ ?_
    · repeat (first
      | (with_reducible first | refine okm_ret ?_ | refine okm_cn ?_ | refine okm_op2 ?_ | refine okm_tst ?_ | refine okm_ifE ?_ | refine okm_mnil ?_ | refine okm_mcons ?_ | refine okm_notT ?_ | refine okm_notV ?_ | refine okm_chain ?_ | refine okm_andT ?_ | refine okm_orT ?_ | refine okm_andV ?_ | refine okm_orV ?_ | refine okm_unE ?_ | refine okm_fnE ?_ | refine okm_lenE ?_ | refine okm_ixE ?_ | refine okm_ptN ?_ | refine okm_ptS ?_ | refine okm_slE ?_ | refine okm_bmE ?_ | refine okm_isiE ?_ | refine okm_itE ?_ | refine okm_itN ?_ | refine okm_it1 ?_ | refine okm_lcM ?_ | refine okm_callP ?_ | refine okm_callM ?_ | refine okm_fz ?_ | refine okm_fzD ?_ | refine okm_lmE ?_ | refine okm_spNE ?_ | refine oks_seq ?_ | refine oks_if ?_ | refine oks_set ?_ | refine oks_asg ?_ | refine oks_sret ?_ | refine oks_sexp ?_ | refine oks_snx ?_ | refine oks_for ?_ | refine oks_aug ?_ | refine oks_augS ?_ | refine oks_raise ?_ | refine okm_bnd ?_)
      | ((with_reducible apply okm_vr); (· rfl))
      | ((with_reducible apply okm_tupE); (· rfl); (· rfl)) | ((with_reducible apply okm_lstE); (· rfl); (· rfl)) | ((with_reducible apply okm_lstN); (· rfl))
      | ((with_reducible apply op_rfl); (· rfl); (· rfl); (· rfl)) | ((with_reducible apply o1_rfl); (· rfl); (· rfl)) | ((with_reducible apply of_rfl); (· rfl); (· rfl))
      | (with_reducible refine wp_t ?_) | (with_reducible refine wp_f ?_) | (with_reducible refine wp_nt ?_) | (with_reducible refine wp_nf ?_)
      | ((with_reducible apply ex_t); (· rfl)) | ((with_reducible apply ex_f); (· rfl))
      | ((with_reducible apply ex_and4); (· rfl); (· rfl); (· rfl)) | ((with_reducible apply ex_and3); (· rfl); (· rfl)) | ((with_reducible apply ex_and2); (· rfl)) | ((with_reducible apply ex_and); (· rfl))
      | ((with_reducible apply isT_and); (· rfl)) | ((with_reducible apply ex_bm); (· rfl); (· rfl); (· rfl))
      | dsimp only)
      refine ⟨szOk_of (by simp; omega), _, _, rows_lc1 (by show 21 < 22; decide) fs hof, okm_lstF (allD_map _) ?_⟩
      repeat (first
        | (with_reducible first | refine okm_ret ?_ | refine okm_cn ?_ | refine okm_op2 ?_ | refine okm_tst ?_ | refine okm_ifE ?_ | refine okm_mnil ?_ | refine okm_mcons ?_ | refine okm_notT ?_ | refine okm_notV ?_ | refine okm_chain ?_ | refine okm_andT ?_ | refine okm_orT ?_ | refine okm_andV ?_ | refine okm_orV ?_ | refine okm_unE ?_ | refine okm_fnE ?_ | refine okm_lenE ?_ | refine okm_ixE ?_ | refine okm_ptN ?_ | refine okm_ptS ?_ | refine okm_slE ?_ | refine okm_bmE ?_ | refine okm_isiE ?_ | refine okm_itE ?_ | refine okm_itN ?_ | refine okm_it1 ?_ | refine okm_lcM ?_ | refine okm_callP ?_ | refine okm_callM ?_ | refine okm_fz ?_ | refine okm_fzD ?_ | refine okm_lmE ?_ | refine okm_spNE ?_ | refine oks_seq ?_ | refine oks_if ?_ | refine oks_set ?_ | refine oks_asg ?_ | refine oks_sret ?_ | refine oks_sexp ?_ | refine oks_snx ?_ | refine oks_for ?_ | refine oks_aug ?_ | refine oks_augS ?_ | refine oks_raise ?_ | refine okm_bnd ?_)
        | ((with_reducible apply okm_vr); (· rfl))
        | ((with_reducible apply okm_tupE); (· rfl); (· rfl)) | ((with_reducible apply okm_lstE); (· rfl); (· rfl)) | ((with_reducible apply okm_lstN); (· rfl))
        | ((with_reducible apply op_rfl); (· rfl); (· rfl); (· rfl)) | ((with_reducible apply o1_rfl); (· rfl); (· rfl)) | ((with_reducible apply of_rfl); (· rfl); (· rfl))
        | (with_reducible refine wp_t ?_) | (with_reducible refine wp_f ?_) | (with_reducible refine wp_nt ?_) | (with_reducible refine wp_nf ?_)
        | ((with_reducible apply ex_t); (· rfl)) | ((with_reducible apply ex_f); (· rfl))
        | ((with_reducible apply ex_and4); (· rfl); (· rfl); (· rfl)) | ((with_reducible apply ex_and3); (· rfl); (· rfl)) | ((with_reducible apply ex_and2); (· rfl)) | ((with_reducible apply ex_and); (· rfl))
        | ((with_reducible apply isT_and); (· rfl)) | ((with_reducible apply ex_bm); (· rfl); (· rfl); (· rfl))
        | dsimp only)
    rintro δ h' ⟨rfl, rfl⟩
    refine oks_cut (fun δ h' => True) ?_ ?_
    · repeat (first
      | (with_reducible first | refine okm_ret ?_ | refine okm_cn ?_ | refine okm_op2 ?_ | refine okm_tst ?_ | refine okm_ifE ?_ | refine okm_mnil ?_ | refine okm_mcons ?_ | refine okm_notT ?_ | refine okm_notV ?_ | refine okm_chain ?_ | refine okm_andT ?_ | refine okm_orT ?_ | refine okm_andV ?_ | refine okm_orV ?_ | refine okm_unE ?_ | refine okm_fnE ?_ | refine okm_lenE ?_ | refine okm_ixE ?_ | refine okm_ptN ?_ | refine okm_ptS ?_ | refine okm_slE ?_ | refine okm_bmE ?_ | refine okm_isiE ?_ | refine okm_itE ?_ | refine okm_itN ?_ | refine okm_it1 ?_ | refine okm_lcM ?_ | refine okm_callP ?_ | refine okm_callM ?_ | refine okm_fz ?_ | refine okm_fzD ?_ | refine okm_lmE ?_ | refine okm_spNE ?_ | refine oks_seq ?_ | refine oks_if ?_ | refine oks_set ?_ | refine oks_asg ?_ | refine oks_sret ?_ | refine oks_sexp ?_ | refine oks_snx ?_ | refine oks_for ?_ | refine oks_aug ?_ | refine oks_augS ?_ | refine oks_raise ?_ | refine okm_bnd ?_)
      | ((with_reducible apply okm_vr); (· rfl))
      | ((with_reducible apply okm_tupE); (· rfl); (· rfl)) | ((with_reducible apply okm_lstE); (· rfl); (· rfl)) | ((with_reducible apply okm_lstN); (· rfl))
      | ((with_reducible apply op_rfl); (· rfl); (· rfl); (· rfl)) | ((with_reducible apply o1_rfl); (· rfl); (· rfl)) | ((with_reducible apply of_rfl); (· rfl); (· rfl))
      | (with_reducible refine wp_t ?_) | (with_reducible refine wp_f ?_) | (with_reducible refine wp_nt ?_) | (with_reducible refine wp_nf ?_)
      | ((with_reducible apply ex_t); (· rfl)) | ((with_reducible apply ex_f); (· rfl))
      | ((with_reducible apply ex_and4); (· rfl); (· rfl); (· rfl)) | ((with_reducible apply ex_and3); (· rfl); (· rfl)) | ((with_reducible apply ex_and2); (· rfl)) | ((with_reducible apply ex_and); (· rfl))
      | ((with_reducible apply isT_and); (· rfl)) | ((with_reducible apply ex_bm); (· rfl); (· rfl); (· rfl))
      | dsimp only)
      obtain ⟨o1, e1, δ1, h1, n1, rfl, q1, q2, y9, y10, y11, y12, y13, y14, y15, y16, y17, y18, y19, y20, y21, rfl⟩ := body_ok hl hb (m := 0) (by decide) ho hes (n := n) (by omega) hk (x0 := some (.d (.scr ns))) (x2 := some (.d (.lst (nameL.map .str)))) (x3 := some (.d (.lst (es.map (told 0))))) (x4 := some (.d (.lst (fs.map (told 1))))) (x6 := some (.d (.lst ((fs.map eRow).map .str)))) (x9 := none) (x10 := none) (x11 := none) (x12 := none) (x13 := none) (x14 := none) (x15 := none) (x16 := none) (x17 := none) (x18 := none) (x19 := none) (x20 := none) (x21 := none)
      obtain ⟨o2, e2, δ2, h2, n2, rfl, q3, q4, _⟩ := body_ok hl hb (m := 1) (by decide) hof hfs (n := n1) (by omega) q1 (x0 := some (.d (.scr ns))) (x2 := some (.d (.lst (nameL.map .str)))) (x3 := some (.d (.lst (es.map (told 0))))) (x4 := some (.d (.lst (fs.map (told 1))))) (x6 := some (.d (.lst ((fs.map eRow).map .str)))) (x9 := y9) (x10 := y10) (x11 := y11) (x12 := y12) (x13 := y13) (x14 := y14) (x15 := y15) (x16 := y16) (x17 := y17) (x18 := y18) (x19 := y19) (x20 := y20) (x21 := y21)
      refine ⟨.nx δ2 h2, ?_, _, _, rfl, trivial⟩
      show forL (gtup 3 (gcons (gnm 5) (gcons (gnm 7) (gcons (gnm 8) gnil)))) bodyS [.d (.tup [.lst ((es.map eRow).map .str), .lst (es.map (told 0)), .bl false]), .d (.tup [.lst ((fs.map eRow).map .str), .lst (fs.map (told 1)), .bl true])] _ _ = _
      exact (forL_nx rfl e1).trans ((forL_nx rfl e2).trans rfl)
    rintro δ h' -
    have hint : ∀ {a b : Int} {A B : Prop}, A → ∃ c, isB (.d (.bl (PyData.eqv (.tuple [.int a, .int b]) (.tuple [.int a, .int b])))) = some c ∧ ((c = true → A) ∧ (c = false → B)) := fun {a b A B} hA => ⟨_, rfl, fun _ => hA, fun z => absurd z (by simp [PyData.eqv, PyData.eqvAll])⟩
    obtain ⟨hh1, f1⟩ := fault_exc (m := 0) (by decide) (rows_no (x := .non) (m := 0) ⟨_, rfl, by decide +kernel⟩)
    obtain ⟨hh2, f2⟩ := fault_exc (m := 1) (by decide) (rows_no (x := .int 5) (m := 1) ⟨_, rfl, by decide +kernel⟩)
    obtain ⟨hh3, f3⟩ := fault_exc (m := 1) (by decide) (rows_bad (m := 1) (text := "t 1 2 3\n") (bad := "t 1 2 3") (tail := "") (pre := []) (post := []) (by decide) ⟨by decide +kernel, lnt_lit⟩ ⟨by decide +kernel, lnw_lit⟩ four_bad (by decide) .nil (by decide))
    obtain ⟨hh4, f4⟩ := read_ok (m := 0) (by decide) (text := "") (es := []) (by simp) (by decide) ⟨by decide +kernel, lnt_nil⟩
    repeat (first
      | (with_reducible first | refine okm_ret ?_ | refine okm_cn ?_ | refine okm_op2 ?_ | refine okm_tst ?_ | refine okm_ifE ?_ | refine okm_mnil ?_ | refine okm_mcons ?_ | refine okm_notT ?_ | refine okm_notV ?_ | refine okm_chain ?_ | refine okm_andT ?_ | refine okm_orT ?_ | refine okm_andV ?_ | refine okm_orV ?_ | refine okm_unE ?_ | refine okm_fnE ?_ | refine okm_lenE ?_ | refine okm_ixE ?_ | refine okm_ptN ?_ | refine okm_ptS ?_ | refine okm_slE ?_ | refine okm_bmE ?_ | refine okm_isiE ?_ | refine okm_itE ?_ | refine okm_itN ?_ | refine okm_it1 ?_ | refine okm_lcM ?_ | refine okm_callP ?_ | refine okm_callM ?_ | refine okm_fz ?_ | refine okm_fzD ?_ | refine okm_lmE ?_ | refine okm_spNE ?_ | refine oks_seq ?_ | refine oks_if ?_ | refine oks_set ?_ | refine oks_asg ?_ | refine oks_sret ?_ | refine oks_sexp ?_ | refine oks_snx ?_ | refine oks_for ?_ | refine oks_aug ?_ | refine oks_augS ?_ | refine oks_raise ?_ | refine okm_bnd ?_)
      | ((with_reducible apply okm_vr); (· rfl))
      | ((with_reducible apply okm_tupE); (· rfl); (· rfl)) | ((with_reducible apply okm_lstE); (· rfl); (· rfl)) | ((with_reducible apply okm_lstN); (· rfl))
      | ((with_reducible apply op_rfl); (· rfl); (· rfl); (· rfl)) | ((with_reducible apply o1_rfl); (· rfl); (· rfl)) | ((with_reducible apply of_rfl); (· rfl); (· rfl))
      | (with_reducible refine wp_t ?_) | (with_reducible refine wp_f ?_) | (with_reducible refine wp_nt ?_) | (with_reducible refine wp_nf ?_)
      | ((with_reducible apply ex_t); (· rfl)) | ((with_reducible apply ex_f); (· rfl))
      | ((with_reducible apply ex_and4); (· rfl); (· rfl); (· rfl)) | ((with_reducible apply ex_and3); (· rfl); (· rfl)) | ((with_reducible apply ex_and2); (· rfl)) | ((with_reducible apply ex_and); (· rfl))
      | ((with_reducible apply isT_and); (· rfl)) | ((with_reducible apply ex_bm); (· rfl); (· rfl); (· rfl))
      | dsimp only)
    refine ⟨rfl, _, _, hh1, rfl, f1, ?_⟩
    repeat (first
      | (with_reducible first | refine okm_ret ?_ | refine okm_cn ?_ | refine okm_op2 ?_ | refine okm_tst ?_ | refine okm_ifE ?_ | refine okm_mnil ?_ | refine okm_mcons ?_ | refine okm_notT ?_ | refine okm_notV ?_ | refine okm_chain ?_ | refine okm_andT ?_ | refine okm_orT ?_ | refine okm_andV ?_ | refine okm_orV ?_ | refine okm_unE ?_ | refine okm_fnE ?_ | refine okm_lenE ?_ | refine okm_ixE ?_ | refine okm_ptN ?_ | refine okm_ptS ?_ | refine okm_slE ?_ | refine okm_bmE ?_ | refine okm_isiE ?_ | refine okm_itE ?_ | refine okm_itN ?_ | refine okm_it1 ?_ | refine okm_lcM ?_ | refine okm_callP ?_ | refine okm_callM ?_ | refine okm_fz ?_ | refine okm_fzD ?_ | refine okm_lmE ?_ | refine okm_spNE ?_ | refine oks_seq ?_ | refine oks_if ?_ | refine oks_set ?_ | refine oks_asg ?_ | refine oks_sret ?_ | refine oks_sexp ?_ | refine oks_snx ?_ | refine oks_for ?_ | refine oks_aug ?_ | refine oks_augS ?_ | refine oks_raise ?_ | refine okm_bnd ?_)
      | ((with_reducible apply okm_vr); (· rfl))
      | ((with_reducible apply okm_tupE); (· rfl); (· rfl)) | ((with_reducible apply okm_lstE); (· rfl); (· rfl)) | ((with_reducible apply okm_lstN); (· rfl))
      | ((with_reducible apply op_rfl); (· rfl); (· rfl); (· rfl)) | ((with_reducible apply o1_rfl); (· rfl); (· rfl)) | ((with_reducible apply of_rfl); (· rfl); (· rfl))
      | (with_reducible refine wp_t ?_) | (with_reducible refine wp_f ?_) | (with_reducible refine wp_nt ?_) | (with_reducible refine wp_nf ?_)
      | ((with_reducible apply ex_t); (· rfl)) | ((with_reducible apply ex_f); (· rfl))
      | ((with_reducible apply ex_and4); (· rfl); (· rfl); (· rfl)) | ((with_reducible apply ex_and3); (· rfl); (· rfl)) | ((with_reducible apply ex_and2); (· rfl)) | ((with_reducible apply ex_and); (· rfl))
      | ((with_reducible apply isT_and); (· rfl)) | ((with_reducible apply ex_bm); (· rfl); (· rfl); (· rfl))
      | dsimp only)
    refine ⟨rfl, _, _, hh2, rfl, f2, ?_⟩
    repeat (first
      | (with_reducible first | refine okm_ret ?_ | refine okm_cn ?_ | refine okm_op2 ?_ | refine okm_tst ?_ | refine okm_ifE ?_ | refine okm_mnil ?_ | refine okm_mcons ?_ | refine okm_notT ?_ | refine okm_notV ?_ | refine okm_chain ?_ | refine okm_andT ?_ | refine okm_orT ?_ | refine okm_andV ?_ | refine okm_orV ?_ | refine okm_unE ?_ | refine okm_fnE ?_ | refine okm_lenE ?_ | refine okm_ixE ?_ | refine okm_ptN ?_ | refine okm_ptS ?_ | refine okm_slE ?_ | refine okm_bmE ?_ | refine okm_isiE ?_ | refine okm_itE ?_ | refine okm_itN ?_ | refine okm_it1 ?_ | refine okm_lcM ?_ | refine okm_callP ?_ | refine okm_callM ?_ | refine okm_fz ?_ | refine okm_fzD ?_ | refine okm_lmE ?_ | refine okm_spNE ?_ | refine oks_seq ?_ | refine oks_if ?_ | refine oks_set ?_ | refine oks_asg ?_ | refine oks_sret ?_ | refine oks_sexp ?_ | refine oks_snx ?_ | refine oks_for ?_ | refine oks_aug ?_ | refine oks_augS ?_ | refine oks_raise ?_ | refine okm_bnd ?_)
      | ((with_reducible apply okm_vr); (· rfl))
      | ((with_reducible apply okm_tupE); (· rfl); (· rfl)) | ((with_reducible apply okm_lstE); (· rfl); (· rfl)) | ((with_reducible apply okm_lstN); (· rfl))
      | ((with_reducible apply op_rfl); (· rfl); (· rfl); (· rfl)) | ((with_reducible apply o1_rfl); (· rfl); (· rfl)) | ((with_reducible apply of_rfl); (· rfl); (· rfl))
      | (with_reducible refine wp_t ?_) | (with_reducible refine wp_f ?_) | (with_reducible refine wp_nt ?_) | (with_reducible refine wp_nf ?_)
      | ((with_reducible apply ex_t); (· rfl)) | ((with_reducible apply ex_f); (· rfl))
      | ((with_reducible apply ex_and4); (· rfl); (· rfl); (· rfl)) | ((with_reducible apply ex_and3); (· rfl); (· rfl)) | ((with_reducible apply ex_and2); (· rfl)) | ((with_reducible apply ex_and); (· rfl))
      | ((with_reducible apply isT_and); (· rfl)) | ((with_reducible apply ex_bm); (· rfl); (· rfl); (· rfl))
      | dsimp only)
    refine ⟨rfl, _, _, hh3, rfl, f3, ?_⟩
    repeat (first
      | (with_reducible first | refine okm_ret ?_ | refine okm_cn ?_ | refine okm_op2 ?_ | refine okm_tst ?_ | refine okm_ifE ?_ | refine okm_mnil ?_ | refine okm_mcons ?_ | refine okm_notT ?_ | refine okm_notV ?_ | refine okm_chain ?_ | refine okm_andT ?_ | refine okm_orT ?_ | refine okm_andV ?_ | refine okm_orV ?_ | refine okm_unE ?_ | refine okm_fnE ?_ | refine okm_lenE ?_ | refine okm_ixE ?_ | refine okm_ptN ?_ | refine okm_ptS ?_ | refine okm_slE ?_ | refine okm_bmE ?_ | refine okm_isiE ?_ | refine okm_itE ?_ | refine okm_itN ?_ | refine okm_it1 ?_ | refine okm_lcM ?_ | refine okm_callP ?_ | refine okm_callM ?_ | refine okm_fz ?_ | refine okm_fzD ?_ | refine okm_lmE ?_ | refine okm_spNE ?_ | refine oks_seq ?_ | refine oks_if ?_ | refine oks_set ?_ | refine oks_asg ?_ | refine oks_sret ?_ | refine oks_sexp ?_ | refine oks_snx ?_ | refine oks_for ?_ | refine oks_aug ?_ | refine oks_augS ?_ | refine oks_raise ?_ | refine okm_bnd ?_)
      | ((with_reducible apply okm_vr); (· rfl))
      | ((with_reducible apply okm_tupE); (· rfl); (· rfl)) | ((with_reducible apply okm_lstE); (· rfl); (· rfl)) | ((with_reducible apply okm_lstN); (· rfl))
      | ((with_reducible apply op_rfl); (· rfl); (· rfl); (· rfl)) | ((with_reducible apply o1_rfl); (· rfl); (· rfl)) | ((with_reducible apply of_rfl); (· rfl); (· rfl))
      | (with_reducible refine wp_t ?_) | (with_reducible refine wp_f ?_) | (with_reducible refine wp_nt ?_) | (with_reducible refine wp_nf ?_)
      | ((with_reducible apply ex_t); (· rfl)) | ((with_reducible apply ex_f); (· rfl))
      | ((with_reducible apply ex_and4); (· rfl); (· rfl); (· rfl)) | ((with_reducible apply ex_and3); (· rfl); (· rfl)) | ((with_reducible apply ex_and2); (· rfl)) | ((with_reducible apply ex_and); (· rfl))
      | ((with_reducible apply isT_and); (· rfl)) | ((with_reducible apply ex_bm); (· rfl); (· rfl); (· rfl))
      | dsimp only)
    refine ⟨rfl, _, _, hh4, rfl, f4, ?_⟩
    repeat (first
      | (with_reducible first | refine okm_ret ?_ | refine okm_cn ?_ | refine okm_op2 ?_ | refine okm_tst ?_ | refine okm_ifE ?_ | refine okm_mnil ?_ | refine okm_mcons ?_ | refine okm_notT ?_ | refine okm_notV ?_ | refine okm_chain ?_ | refine okm_andT ?_ | refine okm_orT ?_ | refine okm_andV ?_ | refine okm_orV ?_ | refine okm_unE ?_ | refine okm_fnE ?_ | refine okm_lenE ?_ | refine okm_ixE ?_ | refine okm_ptN ?_ | refine okm_ptS ?_ | refine okm_slE ?_ | refine okm_bmE ?_ | refine okm_isiE ?_ | refine okm_itE ?_ | refine okm_itN ?_ | refine okm_it1 ?_ | refine okm_lcM ?_ | refine okm_callP ?_ | refine okm_callM ?_ | refine okm_fz ?_ | refine okm_fzD ?_ | refine okm_lmE ?_ | refine okm_spNE ?_ | refine oks_seq ?_ | refine oks_if ?_ | refine oks_set ?_ | refine oks_asg ?_ | refine oks_sret ?_ | refine oks_sexp ?_ | refine oks_snx ?_ | refine oks_for ?_ | refine oks_aug ?_ | refine oks_augS ?_ | refine oks_raise ?_ | refine okm_bnd ?_)
      | ((with_reducible apply okm_vr); (· rfl))
      | ((with_reducible apply okm_tupE); (· rfl); (· rfl)) | ((with_reducible apply okm_lstE); (· rfl); (· rfl)) | ((with_reducible apply okm_lstN); (· rfl))
      | ((with_reducible apply op_rfl); (· rfl); (· rfl); (· rfl)) | ((with_reducible apply o1_rfl); (· rfl); (· rfl)) | ((with_reducible apply of_rfl); (· rfl); (· rfl))
      | (with_reducible refine wp_t ?_) | (with_reducible refine wp_f ?_) | (with_reducible refine wp_nt ?_) | (with_reducible refine wp_nf ?_)
      | ((with_reducible apply ex_t); (· rfl)) | ((with_reducible apply ex_f); (· rfl))
      | ((with_reducible apply ex_and4); (· rfl); (· rfl); (· rfl)) | ((with_reducible apply ex_and3); (· rfl); (· rfl)) | ((with_reducible apply ex_and2); (· rfl)) | ((with_reducible apply ex_and); (· rfl))
      | ((with_reducible apply isT_and); (· rfl)) | ((with_reducible apply ex_bm); (· rfl); (· rfl); (· rfl))
      | dsimp only)
    rfl
  obtain ⟨x, e, rfl⟩ := key
  exact e
theorem facts_mk {K : PySem.W.Frag} {h : Heap} {mg : Str → Option Value} {f_is_name f_got_text f_write_run f_write_log f_is_small_number f_read_rows f_read_run f_read_log f__law_number f__law_take f__law_pick f__law_fault f__law_got f_law C_BadText f_BadText_init : Addr} (X : K.In h) (G : h.Ns mainGlobals mg)
    {od_is_name an_is_name od_got_text an_got_text od_write_run an_write_run od_write_log an_write_log od_is_small_number an_is_small_number od_read_rows an_read_rows od_read_run an_read_run od_read_log an_read_log od__law_number an__law_number od__law_take an__law_take od__law_pick an__law_pick od__law_fault an__law_fault od__law_got an__law_got od_law an_law od_BadText_init an_BadText_init : Option Addr} {sl_is_name sl_got_text sl_write_run sl_write_log sl_is_small_number sl_read_rows sl_read_run sl_read_log sl__law_number sl__law_take sl__law_pick sl__law_fault sl__law_got sl_law sl_BadText_init : Array (Option Value)} {oc_is_name kV_is_name dc_is_name pm_is_name cd_is_name ct_is_name oc_got_text kV_got_text dc_got_text pm_got_text cd_got_text ct_got_text oc_write_run kV_write_run dc_write_run pm_write_run cd_write_run ct_write_run oc_write_log kV_write_log dc_write_log pm_write_log cd_write_log ct_write_log oc_is_small_number kV_is_small_number dc_is_small_number pm_is_small_number cd_is_small_number ct_is_small_number oc_read_rows kV_read_rows dc_read_rows pm_read_rows cd_read_rows ct_read_rows oc_read_run kV_read_run dc_read_run pm_read_run cd_read_run ct_read_run oc_read_log kV_read_log dc_read_log pm_read_log cd_read_log ct_read_log oc__law_number kV__law_number dc__law_number pm__law_number cd__law_number ct__law_number oc__law_take kV__law_take dc__law_take pm__law_take cd__law_take ct__law_take oc__law_pick kV__law_pick dc__law_pick pm__law_pick cd__law_pick ct__law_pick oc__law_fault kV__law_fault dc__law_fault pm__law_fault cd__law_fault ct__law_fault oc__law_got kV__law_got dc__law_got pm__law_got cd__law_got ct__law_got oc_law kV_law dc_law pm_law cd_law ct_law u_FIGURES oc_BadText_init kV_BadText_init dc_BadText_init pm_BadText_init cd_BadText_init ct_BadText_init : Value}
    {nm_BadText q_BadText : Str} {N_BadText : Addr} {bs_BadText bm_BadText sub_BadText : List Value} {sn_BadText : List Str} {ab_BadText : Bool} {col_BadText : Option Bool} {dd_BadText : Option Addr} {m0_BadText m1_BadText m2_BadText m3_BadText m5_BadText : Option Value}
    (a_is_name : PySem.W.nsIn K mainGlobals "is_name" = some (some (.ref f_is_name)))
    (l_is_name : K.lookup f_is_name = some ⟨oc_is_name, od_is_name, .func (PySem.W.fnOf "is_name" "is_name" (defArgs (topS 1)) (defBody (topS 1)) (defScope (topS 1)) .none kV_is_name dc_is_name pm_is_name an_is_name cd_is_name ct_is_name), sl_is_name⟩)
    (c_is_name : PySem.W.codeIn K cd_is_name "is_name" = true)
    (k_is_name : PySem.W.keepIn K (.ref f_is_name) = true)
    (a_got_text : PySem.W.nsIn K mainGlobals "got_text" = some (some (.ref f_got_text)))
    (l_got_text : K.lookup f_got_text = some ⟨oc_got_text, od_got_text, .func (PySem.W.fnOf "got_text" "got_text" (defArgs (topS 8)) (defBody (topS 8)) (defScope (topS 8)) .none kV_got_text dc_got_text pm_got_text an_got_text cd_got_text ct_got_text), sl_got_text⟩)
    (c_got_text : PySem.W.codeIn K cd_got_text "got_text" = true)
    (k_got_text : PySem.W.keepIn K (.ref f_got_text) = true)
    (a_write_run : PySem.W.nsIn K mainGlobals "write_run" = some (some (.ref f_write_run)))
    (l_write_run : K.lookup f_write_run = some ⟨oc_write_run, od_write_run, .func (PySem.W.fnOf "write_run" "write_run" (defArgs (topS 9)) (defBody (topS 9)) (defScope (topS 9)) .none kV_write_run dc_write_run pm_write_run an_write_run cd_write_run ct_write_run), sl_write_run⟩)
    (c_write_run : PySem.W.codeIn K cd_write_run "write_run" = true)
    (k_write_run : PySem.W.keepIn K (.ref f_write_run) = true)
    (a_write_log : PySem.W.nsIn K mainGlobals "write_log" = some (some (.ref f_write_log)))
    (l_write_log : K.lookup f_write_log = some ⟨oc_write_log, od_write_log, .func (PySem.W.fnOf "write_log" "write_log" (defArgs (topS 10)) (defBody (topS 10)) (defScope (topS 10)) .none kV_write_log dc_write_log pm_write_log an_write_log cd_write_log ct_write_log), sl_write_log⟩)
    (c_write_log : PySem.W.codeIn K cd_write_log "write_log" = true)
    (k_write_log : PySem.W.keepIn K (.ref f_write_log) = true)
    (a_is_small_number : PySem.W.nsIn K mainGlobals "is_small_number" = some (some (.ref f_is_small_number)))
    (l_is_small_number : K.lookup f_is_small_number = some ⟨oc_is_small_number, od_is_small_number, .func (PySem.W.fnOf "is_small_number" "is_small_number" (defArgs (topS 11)) (defBody (topS 11)) (defScope (topS 11)) .none kV_is_small_number dc_is_small_number pm_is_small_number an_is_small_number cd_is_small_number ct_is_small_number), sl_is_small_number⟩)
    (c_is_small_number : PySem.W.codeIn K cd_is_small_number "is_small_number" = true)
    (k_is_small_number : PySem.W.keepIn K (.ref f_is_small_number) = true)
    (a_read_rows : PySem.W.nsIn K mainGlobals "read_rows" = some (some (.ref f_read_rows)))
    (l_read_rows : K.lookup f_read_rows = some ⟨oc_read_rows, od_read_rows, .func (PySem.W.fnOf "read_rows" "read_rows" (defArgs (topS 12)) (defBody (topS 12)) (defScope (topS 12)) .none kV_read_rows dc_read_rows pm_read_rows an_read_rows cd_read_rows ct_read_rows), sl_read_rows⟩)
    (c_read_rows : PySem.W.codeIn K cd_read_rows "read_rows" = true)
    (k_read_rows : PySem.W.keepIn K (.ref f_read_rows) = true)
    (a_read_run : PySem.W.nsIn K mainGlobals "read_run" = some (some (.ref f_read_run)))
    (l_read_run : K.lookup f_read_run = some ⟨oc_read_run, od_read_run, .func (PySem.W.fnOf "read_run" "read_run" (defArgs (topS 13)) (defBody (topS 13)) (defScope (topS 13)) .none kV_read_run dc_read_run pm_read_run an_read_run cd_read_run ct_read_run), sl_read_run⟩)
    (c_read_run : PySem.W.codeIn K cd_read_run "read_run" = true)
    (k_read_run : PySem.W.keepIn K (.ref f_read_run) = true)
    (a_read_log : PySem.W.nsIn K mainGlobals "read_log" = some (some (.ref f_read_log)))
    (l_read_log : K.lookup f_read_log = some ⟨oc_read_log, od_read_log, .func (PySem.W.fnOf "read_log" "read_log" (defArgs (topS 14)) (defBody (topS 14)) (defScope (topS 14)) .none kV_read_log dc_read_log pm_read_log an_read_log cd_read_log ct_read_log), sl_read_log⟩)
    (c_read_log : PySem.W.codeIn K cd_read_log "read_log" = true)
    (k_read_log : PySem.W.keepIn K (.ref f_read_log) = true)
    (a__law_number : PySem.W.nsIn K mainGlobals "_law_number" = some (some (.ref f__law_number)))
    (l__law_number : K.lookup f__law_number = some ⟨oc__law_number, od__law_number, .func (PySem.W.fnOf "_law_number" "_law_number" (defArgs (topS 16)) (defBody (topS 16)) (defScope (topS 16)) .none kV__law_number dc__law_number pm__law_number an__law_number cd__law_number ct__law_number), sl__law_number⟩)
    (c__law_number : PySem.W.codeIn K cd__law_number "_law_number" = true)
    (k__law_number : PySem.W.keepIn K (.ref f__law_number) = true)
    (a__law_take : PySem.W.nsIn K mainGlobals "_law_take" = some (some (.ref f__law_take)))
    (l__law_take : K.lookup f__law_take = some ⟨oc__law_take, od__law_take, .func (PySem.W.fnOf "_law_take" "_law_take" (defArgs (topS 17)) (defBody (topS 17)) (defScope (topS 17)) .none kV__law_take dc__law_take pm__law_take an__law_take cd__law_take ct__law_take), sl__law_take⟩)
    (c__law_take : PySem.W.codeIn K cd__law_take "_law_take" = true)
    (k__law_take : PySem.W.keepIn K (.ref f__law_take) = true)
    (a__law_pick : PySem.W.nsIn K mainGlobals "_law_pick" = some (some (.ref f__law_pick)))
    (l__law_pick : K.lookup f__law_pick = some ⟨oc__law_pick, od__law_pick, .func (PySem.W.fnOf "_law_pick" "_law_pick" (defArgs (topS 18)) (defBody (topS 18)) (defScope (topS 18)) .none kV__law_pick dc__law_pick pm__law_pick an__law_pick cd__law_pick ct__law_pick), sl__law_pick⟩)
    (c__law_pick : PySem.W.codeIn K cd__law_pick "_law_pick" = true)
    (k__law_pick : PySem.W.keepIn K (.ref f__law_pick) = true)
    (a__law_fault : PySem.W.nsIn K mainGlobals "_law_fault" = some (some (.ref f__law_fault)))
    (l__law_fault : K.lookup f__law_fault = some ⟨oc__law_fault, od__law_fault, .func (PySem.W.fnOf "_law_fault" "_law_fault" (defArgs (topS 19)) (defBody (topS 19)) (defScope (topS 19)) .none kV__law_fault dc__law_fault pm__law_fault an__law_fault cd__law_fault ct__law_fault), sl__law_fault⟩)
    (c__law_fault : PySem.W.codeIn K cd__law_fault "_law_fault" = true)
    (k__law_fault : PySem.W.keepIn K (.ref f__law_fault) = true)
    (a__law_got : PySem.W.nsIn K mainGlobals "_law_got" = some (some (.ref f__law_got)))
    (l__law_got : K.lookup f__law_got = some ⟨oc__law_got, od__law_got, .func (PySem.W.fnOf "_law_got" "_law_got" (defArgs (topS 20)) (defBody (topS 20)) (defScope (topS 20)) .none kV__law_got dc__law_got pm__law_got an__law_got cd__law_got ct__law_got), sl__law_got⟩)
    (c__law_got : PySem.W.codeIn K cd__law_got "_law_got" = true)
    (k__law_got : PySem.W.keepIn K (.ref f__law_got) = true)
    (a_law : PySem.W.nsIn K mainGlobals "law" = some (some (.ref f_law)))
    (l_law : K.lookup f_law = some ⟨oc_law, od_law, .func (PySem.W.fnOf "law" "law" (defArgs (topS 21)) (defBody (topS 21)) (defScope (topS 21)) .none kV_law dc_law pm_law an_law cd_law ct_law), sl_law⟩)
    (c_law : PySem.W.codeIn K cd_law "law" = true)
    (k_law : PySem.W.keepIn K (.ref f_law) = true)
    (z_all : PySem.W.nsIn K mainGlobals "all" = some none)
    (z_enumerate : PySem.W.nsIn K mainGlobals "enumerate" = some none)
    (z_int : PySem.W.nsIn K mainGlobals "int" = some none)
    (z_isinstance : PySem.W.nsIn K mainGlobals "isinstance" = some none)
    (z_len : PySem.W.nsIn K mainGlobals "len" = some none)
    (z_range : PySem.W.nsIn K mainGlobals "range" = some none)
    (z_str : PySem.W.nsIn K mainGlobals "str" = some none)
    (z_tuple : PySem.W.nsIn K mainGlobals "tuple" = some none)
    (q_FIGURES : PySem.W.nsIn K mainGlobals "FIGURES" = some (some u_FIGURES))
    (r_FIGURES : RelV (.str "0123456789") u_FIGURES)
    (ac_BadText : PySem.W.nsIn K mainGlobals "BadText" = some (some (.ref C_BadText)))
    (eC_BadText : PySem.W.subIn K (.ref C_BadText) (.type "BaseException") = some true)
    (tC_BadText : PySem.W.typeIn K (.ref C_BadText) = some (.type "type"))
    (iC_BadText : PySem.W.isClsIn K C_BadText = true)
    (xL_BadText : K.lookup C_BadText = some (excClassObj nm_BadText q_BadText C_BadText N_BadText bs_BadText bm_BadText true sn_BadText sub_BadText ab_BadText col_BadText dd_BadText m0_BadText m1_BadText m2_BadText m3_BadText m5_BadText "ValueError.__new__"))
    (rv_BadText : PySem.HandSPX.refsVE bm_BadText = true)
    (sa_BadText : PySem.W.findIn K (.ref C_BadText) "__setattr__" = some (some (.builtin "object.__setattr__")))
    (kC_BadText : PySem.W.keepIn K (.ref C_BadText) = true)
    (in_BadText : PySem.W.findIn K (.ref C_BadText) "__init__" = some (some (.ref f_BadText_init)))
    (ti_BadText : PySem.W.typeIn K (.ref f_BadText_init) = some (.type "function"))
    (l_BadText_init : K.lookup f_BadText_init = some ⟨oc_BadText_init, od_BadText_init, .func (PySem.W.fnOf "__init__" "BadText.__init__" (defArgs (methS 5 0)) (defBody (methS 5 0)) (defScope (methS 5 0)) .none kV_BadText_init dc_BadText_init pm_BadText_init an_BadText_init cd_BadText_init ct_BadText_init), sl_BadText_init⟩)
    (c_BadText_init : PySem.W.codeIn K cd_BadText_init "BadText.__init__" = true)
    (k_BadText_init : PySem.W.keepIn K (.ref f_BadText_init) = true)
    (nf_BadText_line : PySem.W.findIn K (.ref C_BadText) "line" = some none)
    (nf_BadText_column : PySem.W.findIn K (.ref C_BadText) "column" = some none)
    (ga_BadText : PySem.W.findIn K (.ref C_BadText) "__getattribute__" = some (some (.builtin "BaseException.__getattribute__")))
    (gg_BadText : PySem.W.findIn K (.ref C_BadText) "__getattr__" = some none)
    (hd_BadText : PySem.W.hasDictIn K C_BadText = true)
    (sc_BadText_BadText : PySem.W.subIn K (.ref C_BadText) (.ref C_BadText) = some true)
    : Facts K mg where
  f_is_name := ⟨f_is_name, _, fun_mk (st := (topS 1)) l_is_name c_is_name k_is_name, PySem.W.mg_of X G a_is_name, (fun_mk (st := (topS 1)) l_is_name c_is_name k_is_name).binds (ps := ["value"]) fun _ _ _ _ _ _ us hl => match us, hl with | [_], _ => rfl⟩
  f_got_text := ⟨f_got_text, _, fun_mk (st := (topS 8)) l_got_text c_got_text k_got_text, PySem.W.mg_of X G a_got_text, (fun_mk (st := (topS 8)) l_got_text c_got_text k_got_text).binds (ps := ["got"]) fun _ _ _ _ _ _ us hl => match us, hl with | [_], _ => rfl⟩
  f_write_run := ⟨f_write_run, _, fun_mk (st := (topS 9)) l_write_run c_write_run k_write_run, PySem.W.mg_of X G a_write_run, (fun_mk (st := (topS 9)) l_write_run c_write_run k_write_run).binds (ps := ["run"]) fun _ _ _ _ _ _ us hl => match us, hl with | [_], _ => rfl⟩
  f_write_log := ⟨f_write_log, _, fun_mk (st := (topS 10)) l_write_log c_write_log k_write_log, PySem.W.mg_of X G a_write_log, (fun_mk (st := (topS 10)) l_write_log c_write_log k_write_log).binds (ps := ["log"]) fun _ _ _ _ _ _ us hl => match us, hl with | [_], _ => rfl⟩
  f_is_small_number := ⟨f_is_small_number, _, fun_mk (st := (topS 11)) l_is_small_number c_is_small_number k_is_small_number, PySem.W.mg_of X G a_is_small_number, (fun_mk (st := (topS 11)) l_is_small_number c_is_small_number k_is_small_number).binds (ps := ["word"]) fun _ _ _ _ _ _ us hl => match us, hl with | [_], _ => rfl⟩
  f_read_rows := ⟨f_read_rows, _, fun_mk (st := (topS 12)) l_read_rows c_read_rows k_read_rows, PySem.W.mg_of X G a_read_rows, (fun_mk (st := (topS 12)) l_read_rows c_read_rows k_read_rows).binds (ps := ["text", "many"]) fun _ _ _ _ _ _ us hl => match us, hl with | [_, _], _ => rfl⟩
  f_read_run := ⟨f_read_run, _, fun_mk (st := (topS 13)) l_read_run c_read_run k_read_run, PySem.W.mg_of X G a_read_run, (fun_mk (st := (topS 13)) l_read_run c_read_run k_read_run).binds (ps := ["text"]) fun _ _ _ _ _ _ us hl => match us, hl with | [_], _ => rfl⟩
  f_read_log := ⟨f_read_log, _, fun_mk (st := (topS 14)) l_read_log c_read_log k_read_log, PySem.W.mg_of X G a_read_log, (fun_mk (st := (topS 14)) l_read_log c_read_log k_read_log).binds (ps := ["text"]) fun _ _ _ _ _ _ us hl => match us, hl with | [_], _ => rfl⟩
  f__law_number := ⟨f__law_number, _, fun_mk (st := (topS 16)) l__law_number c__law_number k__law_number, PySem.W.mg_of X G a__law_number, (fun_mk (st := (topS 16)) l__law_number c__law_number k__law_number).binds (ps := ["script", "index"]) fun _ _ _ _ _ _ us hl => match us, hl with | [_, _], _ => rfl⟩
  f__law_take := ⟨f__law_take, _, fun_mk (st := (topS 17)) l__law_take c__law_take k__law_take, PySem.W.mg_of X G a__law_take, (fun_mk (st := (topS 17)) l__law_take c__law_take k__law_take).binds (ps := ["draw", "many"]) fun _ _ _ _ _ _ us hl => match us, hl with | [_, _], _ => rfl⟩
  f__law_pick := ⟨f__law_pick, _, fun_mk (st := (topS 18)) l__law_pick c__law_pick k__law_pick, PySem.W.mg_of X G a__law_pick, (fun_mk (st := (topS 18)) l__law_pick c__law_pick k__law_pick).binds (ps := ["draw", "items"]) fun _ _ _ _ _ _ us hl => match us, hl with | [_, _], _ => rfl⟩
  f__law_fault := ⟨f__law_fault, _, fun_mk (st := (topS 19)) l__law_fault c__law_fault k__law_fault, PySem.W.mg_of X G a__law_fault, (fun_mk (st := (topS 19)) l__law_fault c__law_fault k__law_fault).binds (ps := ["text", "is_log"]) fun _ _ _ _ _ _ us hl => match us, hl with | [_, _], _ => rfl⟩
  f__law_got := ⟨f__law_got, _, fun_mk (st := (topS 20)) l__law_got c__law_got k__law_got, PySem.W.mg_of X G a__law_got, (fun_mk (st := (topS 20)) l__law_got c__law_got k__law_got).binds (ps := ["draw"]) fun _ _ _ _ _ _ us hl => match us, hl with | [_], _ => rfl⟩
  f_law := ⟨f_law, _, fun_mk (st := (topS 21)) l_law c_law k_law, PySem.W.mg_of X G a_law, (fun_mk (st := (topS 21)) l_law c_law k_law).binds (ps := ["script"]) fun _ _ _ _ _ _ us hl => match us, hl with | [_], _ => rfl⟩
  n_all := PySem.W.mg_none_of X G z_all
  n_enumerate := PySem.W.mg_none_of X G z_enumerate
  n_int := PySem.W.mg_none_of X G z_int
  n_isinstance := PySem.W.mg_none_of X G z_isinstance
  n_len := PySem.W.mg_none_of X G z_len
  n_range := PySem.W.mg_none_of X G z_range
  n_str := PySem.W.mg_none_of X G z_str
  n_tuple := PySem.W.mg_none_of X G z_tuple
  k_FIGURES := ⟨_, PySem.W.mg_of X G q_FIGURES, r_FIGURES⟩
  x_BadText := ⟨C_BadText, f_BadText_init, _, PySem.W.mg_of X G ac_BadText, ⟨⟨_, _, _, _, _, _, _, _, _, _, _, _, _, _, _, xL_BadText, rv_BadText⟩, sa_BadText, eC_BadText, tC_BadText, kC_BadText⟩, in_BadText, ti_BadText, fun f hf => by
    rcases List.mem_cons.mp hf with rfl | hf
    · exact nf_BadText_line
    rcases List.mem_cons.mp hf with rfl | hf
    · exact nf_BadText_column
    exact absurd hf (by simp), (fun_mk (st := (methS 5 0)) l_BadText_init c_BadText_init k_BadText_init).binds (ps := ["self", "line", "column"]) fun _ _ _ _ _ _ us hl => match us, hl with | [_, _, _], _ => rfl, fun_mk (st := (methS 5 0)) l_BadText_init c_BadText_init k_BadText_init⟩
  xm_BadText := ⟨C_BadText, PySem.W.mg_of X G ac_BadText, fun c b hb C hC => by
    rw [List.lookup_cons] at hb
    split at hb
    · rename_i he
      have e1 := eq_of_beq he
      subst e1
      cases hb
      have e2 := hC.symm.trans (PySem.W.mg_of X G ac_BadText)
      cases e2
      exact exm_of eC_BadText iC_BadText tC_BadText sc_BadText_BadText
    cases hb⟩
  xf_BadText_column := fun c hc C hC => by
    rcases List.mem_cons.mp hc with rfl | hc
    · have e2 := hC.symm.trans (PySem.W.mg_of X G ac_BadText)
      cases e2
      exact ⟨⟨ga_BadText, gg_BadText, eC_BadText, hd_BadText⟩, nf_BadText_column⟩
    exact absurd hc (by simp)
  xf_BadText_line := fun c hc C hC => by
    rcases List.mem_cons.mp hc with rfl | hc
    · have e2 := hC.symm.trans (PySem.W.mg_of X G ac_BadText)
      cases e2
      exact ⟨⟨ga_BadText, gg_BadText, eC_BadText, hd_BadText⟩, nf_BadText_line⟩
    exact absurd hc (by simp)
theorem all_mk {l : PySem.W.OpenLaw} {w : World} {K : PySem.W.Frag} {mg : Str → Option Value} {fa : Addr} (hm : ∀ ns : List Int, ns.length ≤ 63 → (∀ z ∈ ns, Builtin.Int.intBits z ≤ 1048576) → f_law [.d (.scr ns)] [] = some (.ok (.d (.bl true)) [])) (E : Facts K mg) (hfa : mg "law" = some (.ref fa)) :
    ∃ fd : FuncData, (∀ (s : Shared) (v : Value), BindsTo s fd ⟨[v], []⟩ [("script", v)]) ∧ ∀ base : Heap, K.In base → base.Ns mainGlobals mg → FnOk l.prog w K mg base (L2.CX l.prog w) 6 fa fd ["script"] (spEnd K) := by
  obtain ⟨f, fd, F, h1, hb⟩ := E.f_law
  have e := h1.symm.trans hfa
  cases e
  refine ⟨fd, fun s v => ?_, fun base _ _ => ?_⟩
  · obtain ⟨oc, od, kV, doc, pm, an, cdv, ct, osl, rfl, lk, hcd⟩ := F.ex
    exact .of_eq rfl
  · exact fn_end (ok_law E F) rfl hm
end PM
open PySem PySem.W PyProof.Rows
set_option maxRecDepth 100000 in
set_option maxHeartbeats 0 in
theorem PySem.Challenge.cw_sameagain_k59_whole_run_texts_holds : PySem.Challenge.rw_sameagain_k59_whole_run_texts.Holds := by
  w_on; o_law; k_head; (case hw => w_witness2)
  k_fill
  refine PM.walk_PM (l := PySem.Challenge.rw_sameagain_k59_whole_run_texts) (k := 6) rfl rfl ⟨rfl, by decide, by decide⟩ (fun w h Y => PySem.W.kIn_of Y) ?F
  case F =>
    intro w mg fa h KX G hmg
    refine' PM.all_mk (fun ns hl hz => PM.plain ns hl hz) (PM.facts_mk KX G ?a_is_name ?l_is_name ?c_is_name ?k_is_name ?a_got_text ?l_got_text ?c_got_text ?k_got_text ?a_write_run ?l_write_run ?c_write_run ?k_write_run ?a_write_log ?l_write_log ?c_write_log ?k_write_log ?a_is_small_number ?l_is_small_number ?c_is_small_number ?k_is_small_number ?a_read_rows ?l_read_rows ?c_read_rows ?k_read_rows ?a_read_run ?l_read_run ?c_read_run ?k_read_run ?a_read_log ?l_read_log ?c_read_log ?k_read_log ?a__law_number ?l__law_number ?c__law_number ?k__law_number ?a__law_take ?l__law_take ?c__law_take ?k__law_take ?a__law_pick ?l__law_pick ?c__law_pick ?k__law_pick ?a__law_fault ?l__law_fault ?c__law_fault ?k__law_fault ?a__law_got ?l__law_got ?c__law_got ?k__law_got ?a_law ?l_law ?c_law ?k_law ?z_all ?z_enumerate ?z_int ?z_isinstance ?z_len ?z_range ?z_str ?z_tuple ?q_FIGURES ?r_FIGURES ?ac_BadText ?eC_BadText ?tC_BadText ?iC_BadText ?xL_BadText ?rv_BadText ?sa_BadText ?kC_BadText ?in_BadText ?ti_BadText ?l_BadText_init ?c_BadText_init ?k_BadText_init ?nf_BadText_line ?nf_BadText_column ?ga_BadText ?gg_BadText ?hd_BadText ?sc_BadText_BadText) hmg
    (case a_is_name => k_is)
    (case l_is_name => k_is)
    (case c_is_name => k_is)
    (case k_is_name => k_is)
    (case a_got_text => k_is)
    (case l_got_text => k_is)
    (case c_got_text => k_is)
    (case k_got_text => k_is)
    (case a_write_run => k_is)
    (case l_write_run => k_is)
    (case c_write_run => k_is)
    (case k_write_run => k_is)
    (case a_write_log => k_is)
    (case l_write_log => k_is)
    (case c_write_log => k_is)
    (case k_write_log => k_is)
    (case a_is_small_number => k_is)
    (case l_is_small_number => k_is)
    (case c_is_small_number => k_is)
    (case k_is_small_number => k_is)
    (case a_read_rows => k_is)
    (case l_read_rows => k_is)
    (case c_read_rows => k_is)
    (case k_read_rows => k_is)
    (case a_read_run => k_is)
    (case l_read_run => k_is)
    (case c_read_run => k_is)
    (case k_read_run => k_is)
    (case a_read_log => k_is)
    (case l_read_log => k_is)
    (case c_read_log => k_is)
    (case k_read_log => k_is)
    (case a__law_number => k_is)
    (case l__law_number => k_is)
    (case c__law_number => k_is)
    (case k__law_number => k_is)
    (case a__law_take => k_is)
    (case l__law_take => k_is)
    (case c__law_take => k_is)
    (case k__law_take => k_is)
    (case a__law_pick => k_is)
    (case l__law_pick => k_is)
    (case c__law_pick => k_is)
    (case k__law_pick => k_is)
    (case a__law_fault => k_is)
    (case l__law_fault => k_is)
    (case c__law_fault => k_is)
    (case k__law_fault => k_is)
    (case a__law_got => k_is)
    (case l__law_got => k_is)
    (case c__law_got => k_is)
    (case k__law_got => k_is)
    (case a_law => k_is)
    (case l_law => k_is)
    (case c_law => k_is)
    (case k_law => k_is)
    (case z_all => k_is)
    (case z_enumerate => k_is)
    (case z_int => k_is)
    (case z_isinstance => k_is)
    (case z_len => k_is)
    (case z_range => k_is)
    (case z_str => k_is)
    (case z_tuple => k_is)
    (case q_FIGURES => k_is)
    (case r_FIGURES => first | exact ⟨_, rfl⟩ | rfl)
    (case ac_BadText => k_is)
    (case eC_BadText => k_is)
    (case tC_BadText => k_is)
    (case iC_BadText => k_is)
    (case xL_BadText => k_is)
    (case rv_BadText => first | rfl | decide +kernel)
    (case sa_BadText => k_is)
    (case kC_BadText => k_is)
    (case in_BadText => k_is)
    (case ti_BadText => k_is)
    (case l_BadText_init => k_is)
    (case c_BadText_init => k_is)
    (case k_BadText_init => k_is)
    (case nf_BadText_line => k_is)
    (case nf_BadText_column => k_is)
    (case ga_BadText => k_is)
    (case gg_BadText => k_is)
    (case hd_BadText => k_is)
    (case sc_BadText_BadText => first | rfl | k_is)
