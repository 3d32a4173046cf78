import PyProof.Rows.All
import Wide.All
import OpenK.AllK
import Wide.FinOn
import HandS.ForMost
import HandS.Exc
import HandS.ExcOwn
import HandS.WordsExc
import HandS.Deep
import KE.KeyNested
import KE.KDictKeyed
import HandS.CallSlots
import HandS.Zip
import HandS.ExcInit
import HandS.ExcField
import HandS.TryOnly
import HandS.Wide
import HandS.IsInst
import HandS.TupAny
import HandS.Style
import KE.KDictDisplayH
import PyProof.DictRoadsH
import PyProof.Rows.TupTab
import HandS.Text
import HandS.RaiseMore
import HandS.TupLen
import HandS.WordsDict
import HandS.Small
import HandS.OwnEq
import HandS.EndBits
import KE.KEqNest
import PyProof.InstEq
import HandS.ForDict
import HandS.DictComp
import KE.KDictWalk
import KE.KDictCopyH
import HandS.More
import HandS.TupMul
import HandS.Conv
import KE.RegKIsAll
import PySem.Challenge.RW_sameagain_k63_whole_evidence_as_objects
set_option Elab.async false
set_option linter.all false
set_option maxRecDepth 100000
set_option maxHeartbeats 4000000
namespace PM
open PySem PySem.Spec PyProof.Rows L2
/-- plain data: what never changes -/
inductive D where
  | non | bl (b : Bool) | int (i : Int) | str (x : Str)
  | tup (xs : List D) | lst (xs : List D) | dct (kvs : List (D × D)) | ins (c : Str) (fs : List (Str × D)) | raw (v : V) | scr (ns : List Int)
  | ndct (kvs : List (D × D)) | fn (x : Str)
/-- a value: plain data, or the n-th of the objects that may change -/
inductive U where
  | d (x : D) | loc (n : Nat) | tup (xs : List U)
/-- an object that may change -/
inductive O where
  | lst (xs : List U) | dct (kvs : List (D × U)) | ins (c : Str) (fs : List (Str × U)) | gone | ndct (kvs : List (D × U)) | deq (us : List U)
abbrev Hea := List O
abbrev Sl := List (Option U)
structure Exn where
  c : Str
  fs : List (Str × D)
inductive R (α : Type) where
  | ok (a : α) (h : Hea)
  | exc (e : Exn) (h : Hea)
/-- an expression's mirror -/
def M (α : Type) := Sl → Hea → Option (R α)
inductive Out where
  | nx (s : Sl) (h : Hea) | rt (u : U) (h : Hea) | bk (s : Sl) (h : Hea) | ct (s : Sl) (h : Hea) | ex (e : Exn) (s : Sl) (h : Hea)
/-- a statement's mirror -/
def S := Sl → Hea → Option Out
abbrev Bd := Addr → Prop
structure Ct0 where
  K : PySem.W.Frag
  mg : Str → Option Value
  P : Program
  w : World
/-- keys that are tuples: the tuples that stand there, what is kept -/
abbrev NK := NestedKey × Addr × V
mutual
def nkD : D → Option NestedKey
  | .non => some .none
  | .bl b => some (.num (if b = true then 1 else 0))
  | .int i => some (.num i)
  | .str x => some (.text x)
  | .tup ds => match nkDs ds with
    | some ks => some (.tup ks)
    | none => none
  | _ => none
def nkDs : List D → Option (List NestedKey)
  | [] => some []
  | d :: ds => match nkD d, nkDs ds with
    | some k, some ks => some (k :: ks)
    | _, _ => none
end
/-- .. of a key of a dictionary: a tuple, not too deep -/
def nkT (d : D) : Option NestedKey := match d with
  | .tup ds => match nkDs ds with
    | some ks => if (NestedKey.tup ks).depth ≤ 8 then some (.tup ks) else none
    | none => none
  | _ => none
abbrev NEnt (P : Program) (w : World) (ys : List (NestedKey × Addr × Value)) (es : Array DictEntry) : Prop := es.toList = ys.map (entryOfKey (nestedKind P w))
/-- at a lies a dictionary of these keys -/
def dNφ (P : Program) (w : World) (a : Addr) (xs : List NK) (h : Heap) : Prop := xs.length ≤ sizeLine ∧ (a == sysModules) = false ∧ ∃ ys : List (NestedKey × Addr × Value), Paired (fun (p : NK) (q : NestedKey × Addr × Value) => p.1 = q.1 ∧ p.2.1 = q.2.1 ∧ RelV p.2.2 q.2.2) xs ys ∧
  (∃ o es ep, h.get? a = some o ∧ o.ExactDict ∧ o.data = .dict es ep ∧ NEnt P w ys es) ∧ (xs.map (·.1)).Nodup
def dN (P : Program) (w : World) (a : Addr) (xs : List NK) : HO := .ext (dNφ P w a xs)
/-- a deque -/
def dqφ (a : Addr) (vs : List V) (h : Heap) : Prop := vs.length ≤ sizeLine ∧ ∃ (n : Int) (us : List Value), Vals vs us ∧ h.get? a = some { cls := .type "collections.deque", dict := none, data := .fields (#[Value.none, rawInt n] ++ us.toArray), slots := #[] }
def dQ (a : Addr) (vs : List V) : HO := .ext (dqφ a vs)
def keyD : D → Option Key
  | .int i => some (.inl i)
  | .str x => some (.inr x)
  | _ => none
/-- a list that nobody changes -/
def Fr (B : Bd) (H : Hp) (a : Addr) (vs : List V) : Prop := ¬ B a ∧ H a = some (.lst vs)
/-- .., also one of the written part, or the law's own argument -/
def Frz (K : PySem.W.Frag) (B : Bd) (H : Hp) (a : Addr) (vs : List V) : Prop := (¬ B a ∧ Rd H a (.lst vs)) ∨ SqL K (fun _ => none) a vs
theorem Frz.seq {K : PySem.W.Frag} {B : Bd} {H : Hp} {a : Addr} {vs : List V} (h : Frz K B H a vs) : SqL K H a vs := by
  rcases h with ⟨_, h⟩ | h
  · exact .inl h
  · rcases h with h | h
    · rcases h with h | ⟨o, h⟩ <;> cases h
    · exact .inr h
theorem Fr.seq {K : PySem.W.Frag} {B : Bd} {H : Hp} {a : Addr} {vs : List V} (h : Fr B H a vs) : SqL K H a vs := SqL.of h.2
mutual
inductive RD (C : Ct0) (B : Bd) (H : Hp) : D → V → Prop
  | non : RD C B H .non .non
  | bl (b : Bool) : RD C B H (.bl b) (.bl b)
  | int (i : Int) : RD C B H (.int i) (.int i)
  | str (x : Str) : RD C B H (.str x) (.str x)
  | tup {a : Addr} {ds : List D} {vs : List V} : SqT C.K H a vs → RDs C B H ds vs → RD C B H (.tup ds) (.ref a)
  | lst {a : Addr} {ds : List D} {vs : List V} : Fr B H a vs → RDs C B H ds vs → RD C B H (.lst ds) (.ref a)
  | dct {a : Addr} {od : Obj} {ds : List (D × D)} {vs : List (Key × V)} : ¬ B a → H a = some (.frz od (.dK vs)) → RDk C B H ds vs → RD C B H (.dct ds) (.ref a)
  | ins {a Cd dx : Addr} {c : Str} {ds : List (Str × D)} {vs : List (Str × V)} : C.mg c = some (.ref Cd) → ¬ B a → H a = some (.ins Cd dx vs) → RDf C B H ds vs → RD C B H (.ins c ds) (.ref a)
  | raw (v : V) : RD C B H (.raw v) v
  | scr {a : Addr} {ns : List Int} : Frz C.K B H a (ns.map V.int) → RD C B H (.scr ns) (.ref a)
  | ndct {a : Addr} {od : Obj} {ds : List (D × D)} {xs : List NK} : ¬ B a → H a = some (.frz od (dN C.P C.w a xs)) → RDn C B H ds xs → RD C B H (.ndct ds) (.ref a)
  | fn {x : Str} {f : Addr} : C.mg x = some (.ref f) → RD C B H (.fn x) (.ref f)
inductive RDs (C : Ct0) (B : Bd) (H : Hp) : List D → List V → Prop
  | nil : RDs C B H [] []
  | cons {d : D} {v : V} {ds : List D} {vs : List V} : RD C B H d v → RDs C B H ds vs → RDs C B H (d :: ds) (v :: vs)
inductive RDk (C : Ct0) (B : Bd) (H : Hp) : List (D × D) → List (Key × V) → Prop
  | nil : RDk C B H [] []
  | cons {k : Key} {kd d : D} {v : V} {ds : List (D × D)} {vs : List (Key × V)} : keyD kd = some k → RD C B H d v → RDk C B H ds vs → RDk C B H ((kd, d) :: ds) ((k, v) :: vs)
inductive RDn (C : Ct0) (B : Bd) (H : Hp) : List (D × D) → List NK → Prop
  | nil : RDn C B H [] []
  | cons {k : NestedKey} {b : Addr} {kd d : D} {v : V} {ds : List (D × D)} {xs : List NK} : nkT kd = some k → RD C B H kd (.ref b) → RD C B H d v → RDn C B H ds xs → RDn C B H ((kd, d) :: ds) ((k, b, v) :: xs)
inductive RDf (C : Ct0) (B : Bd) (H : Hp) : List (Str × D) → List (Str × V) → Prop
  | nil : RDf C B H [] []
  | cons {f : Str} {d : D} {v : V} {ds : List (Str × D)} {vs : List (Str × V)} : RD C B H d v → RDf C B H ds vs → RDf C B H ((f, d) :: ds) ((f, v) :: vs)
end
/-- from one state to a later one: rho the addresses of what may change (none: no more), B all addresses that may not be taken for plain data -/
abbrev Rho := List (Option Addr)
def Lv (r : Rho) (a : Addr) : Prop := ∃ n : Nat, r[n]? = some (some a)
structure Ext (B : Bd) (r : Rho) (H : Hp) (B' : Bd) (r' : Rho) (H' : Hp) : Prop where
  rho : ∀ (n : Nat) x, r[n]? = some x → r'[n]? = some x ∨ r'[n]? = some none
  rnew : ∀ (n : Nat) a, r.length ≤ n → r'[n]? = some (some a) → H a = none
  keep : ∀ a o, ¬ Lv r a → H a = some o → H' a = some o
  bnew : ∀ a, B' a → B a ∨ H a = none
  bold : ∀ a, B a → ¬ Lv r a → B' a
  there : ∀ a o, H a = some o → ∃ o', H' a = some o'
  dom : ∀ a, B' a → ∃ o, H' a = some o
theorem rd_some {H : Hp} {a : Addr} {u : HO} (h : Rd H a u) : ∃ o, H a = some o := by
  rcases h with h | ⟨o, h⟩
  · exact ⟨_, h⟩
  · exact ⟨_, h⟩
theorem some_rd {H : Hp} {a : Addr} {o : HO} (h : H a = some o) : ∃ o', H a = some o' := ⟨o, h⟩
theorem Ext.refl {B : Bd} {r : Rho} {H : Hp} (dm : ∀ a, B a → ∃ o, H a = some o) : Ext B r H B r H :=
  { rho := fun _ _ h => .inl h
    rnew := fun n a h1 h2 => by
      rw [List.getElem?_eq_none_iff.mpr h1] at h2
      cases h2
    keep := fun _ _ _ h => h
    bnew := fun _ h => .inl h
    bold := fun _ h _ => h
    there := fun _ o h => ⟨o, h⟩
    dom := dm }
theorem Ext.lv {B B' : Bd} {r r' : Rho} {H H' : Hp} (e : Ext B r H B' r' H') {a : Addr} {o : HO} (ha : H a = some o) (h : Lv r' a) : Lv r a := by
  obtain ⟨n, hn⟩ := h
  by_cases hl : n < r.length
  · have hx : r[n]? = some r[n] := List.getElem?_eq_getElem hl
    rcases e.rho n _ hx with q | q
    · rw [hn] at q
      refine ⟨n, ?_⟩
      rw [hx]
      exact q.symm
    · rw [hn] at q; cases q
  · have := e.rnew n a (Nat.le_of_not_lt hl) hn
    rw [ha] at this; cases this
theorem Ext.trans {B B1 B2 : Bd} {r r1 r2 : Rho} {H H1 H2 : Hp} (dm : ∀ a, B a → ∃ o, H a = some o) (hl : r.length ≤ r1.length) (e : Ext B r H B1 r1 H1) (f : Ext B1 r1 H1 B2 r2 H2) : Ext B r H B2 r2 H2 where
  rho := fun n x h => by
    rcases e.rho n x h with q | q
    · exact f.rho n x q
    · rcases f.rho n _ q with q' | q' <;> exact .inr q'
  rnew := fun n a h1 h2 => by
    by_cases hl : n < r1.length
    · have hx : r1[n]? = some r1[n] := List.getElem?_eq_getElem hl
      rcases f.rho n _ hx with q | q
      · rw [h2] at q
        exact e.rnew n a h1 (by rw [hx]; exact q.symm)
      · rw [h2] at q; cases q
    · have z := f.rnew n a (Nat.le_of_not_lt hl) h2
      cases q : H a with
      | none => rfl
      | some o =>
        obtain ⟨o', z'⟩ := e.there a o q
        rw [z] at z'; cases z'
  keep := fun a o hn h => f.keep a o (fun z => hn (e.lv h z)) (e.keep a o hn h)
  bnew := fun a h => by
    rcases f.bnew a h with q | q
    · exact e.bnew a q
    · refine .inr ?_
      cases q' : H a with
      | none => rfl
      | some o =>
        obtain ⟨o', z'⟩ := e.there a o q'
        rw [q] at z'; cases z'
  bold := fun a h hn => by
    obtain ⟨o, ho⟩ := dm a h
    exact f.bold a (e.bold a h hn) fun z => hn (e.lv ho z)
  there := fun a o h => by
    obtain ⟨o', z⟩ := e.there a o h
    exact f.there a o' z
  dom := f.dom
section
variable {C : Ct0} {B B' : Bd} {r r' : Rho} {H H' : Hp}
theorem Ext.rd (e : Ext B r H B' r' H') {a : Addr} {u : HO} (hn : ¬ Lv r a) (h : Rd H a u) : Rd H' a u := by
  rcases h with h | ⟨o, h⟩
  · exact .inl (e.keep a _ hn h)
  · exact .inr ⟨o, e.keep a _ hn h⟩
theorem Ext.sqT {K : PySem.W.Frag} (e : Ext B r H B' r' H') (own : ∀ a, Lv r a → ∀ vs, ¬ Rd H a (.tup vs)) {a : Addr} {vs : List V} (h : SqT K H a vs) : SqT K H' a vs := by
  rcases h with h | h
  · exact .inl (e.rd (fun z => own a z _ h) h)
  · exact .inr h
theorem Ext.fr (e : Ext B r H B' r' H') (own : ∀ a, Lv r a → B a) {a : Addr} {vs : List V} (h : Fr B H a vs) : Fr B' H' a vs := by
  obtain ⟨nb, h⟩ := h
  refine ⟨fun z => ?_, e.keep a _ (fun z => nb (own a z)) h⟩
  rcases e.bnew a z with q | q
  · exact nb q
  · rw [h] at q; cases q
theorem Ext.frz {K : PySem.W.Frag} (e : Ext B r H B' r' H') (own : ∀ a, Lv r a → B a) {a : Addr} {vs : List V} (h : Frz K B H a vs) : Frz K B' H' a vs := by
  rcases h with ⟨nb, h⟩ | h
  · refine .inl ⟨fun z => ?_, e.rd (fun z => nb (own a z)) h⟩
    obtain ⟨o, ho⟩ := rd_some h
    rcases e.bnew a z with q | q
    · exact nb q
    · rw [ho] at q; cases q
  · exact .inr h
/-- what is known of the changing things: theirs are the addresses in B, and no tuple is among them -/
structure Own (B : Bd) (r : Rho) (H : Hp) : Prop where
  own : ∀ a, Lv r a → B a
  notup : ∀ a, B a → ∀ vs, ¬ Rd H a (.tup vs)
  dom : ∀ a, B a → ∃ o, H a = some o
theorem Own.lvt (w : Own B r H) : ∀ a, Lv r a → ∀ vs, ¬ Rd H a (.tup vs) := fun a h => w.notup a (w.own a h)
theorem nb_of (e : Ext B r H B' r' H') {a : Addr} (nb : ¬ B a) {o : HO} (h : H a = some o) : ¬ B' a := fun z => by
  rcases e.bnew a z with q | q
  · exact nb q
  · rw [h] at q; cases q
mutual
theorem RD.ext (e : Ext B r H B' r' H') (w : Own B r H) : ∀ {d : D} {v : V}, RD C B H d v → RD C B' H' d v
  | _, _, .non => .non
  | _, _, .bl b => .bl b
  | _, _, .int i => .int i
  | _, _, .str x => .str x
  | _, _, .tup h q => .tup (e.sqT w.lvt h) (RDs.ext e w q)
  | _, _, .lst h q => .lst (e.fr w.own h) (RDs.ext e w q)
  | _, _, .dct nb h q => .dct (nb_of e nb h) (e.keep _ _ (fun z => nb (w.own _ z)) h) (RDk.ext e w q)
  | _, _, .ins m nb h q => .ins m (nb_of e nb h) (e.keep _ _ (fun z => nb (w.own _ z)) h) (RDf.ext e w q)
  | _, _, .raw v => .raw v
  | _, _, .scr h => .scr (e.frz w.own h)
  | _, _, .ndct nb h q => .ndct (nb_of e nb h) (e.keep _ _ (fun z => nb (w.own _ z)) h) (RDn.ext e w q)
  | _, _, .fn h => .fn h
theorem RDs.ext (e : Ext B r H B' r' H') (w : Own B r H) : ∀ {d : List D} {v : List V}, RDs C B H d v → RDs C B' H' d v
  | _, _, .nil => .nil
  | _, _, .cons a b => .cons (RD.ext e w a) (RDs.ext e w b)
theorem RDk.ext (e : Ext B r H B' r' H') (w : Own B r H) : ∀ {d : List (D × D)} {v : List (Key × V)}, RDk C B H d v → RDk C B' H' d v
  | _, _, .nil => .nil
  | _, _, .cons k a b => .cons k (RD.ext e w a) (RDk.ext e w b)
theorem RDn.ext (e : Ext B r H B' r' H') (w : Own B r H) : ∀ {d : List (D × D)} {v : List NK}, RDn C B H d v → RDn C B' H' d v
  | _, _, .nil => .nil
  | _, _, .cons k c a b => .cons k (RD.ext e w c) (RD.ext e w a) (RDn.ext e w b)
theorem RDf.ext (e : Ext B r H B' r' H') (w : Own B r H) : ∀ {d : List (Str × D)} {v : List (Str × V)}, RDf C B H d v → RDf C B' H' d v
  | _, _, .nil => .nil
  | _, _, .cons a b => .cons (RD.ext e w a) (RDf.ext e w b)
end
end
/-- what is known of the exception in hand (in an except suite): the slot of its name, its address, what is true of it as long as nothing but what may change is changed -/
structure Jx where
  xi : Option (Nat × Addr)
  J : Ct0 → Bd → Hp → Prop
  st : ∀ C B r H B' r' H', Own B r H → Ext B r H B' r' H' → J C B H → J C B' H'
def j0 : Jx := ⟨none, fun _ _ _ => True, fun _ _ _ _ _ _ _ _ _ _ => True.intro⟩
structure Ct extends Ct0 where
  j : Jx
instance : Coe Ct Ct0 := ⟨Ct.toCt0⟩
section
variable {B B' : Bd} {r r' : Rho} {H H' : Hp}
theorem Ext.len (e : Ext B r H B' r' H') : r.length ≤ r'.length := by
  cases hn : r.length with
  | zero => exact Nat.zero_le _
  | succ n =>
    have hlt : n < r.length := by omega
    have hx : r[n]? = some r[n] := List.getElem?_eq_getElem hlt
    rcases e.rho n _ hx with q | q <;> exact Nat.succ_le_of_lt (List.getElem?_eq_some_iff.mp q).1
theorem Ext.tr {B1 B2 : Bd} {r1 r2 : Rho} {H1 H2 : Hp} (w : Own B r H) (e : Ext B r H B1 r1 H1) (f : Ext B1 r1 H1 B2 r2 H2) : Ext B r H B2 r2 H2 := Ext.trans w.dom e.len e f
mutual
inductive RU (C : Ct0) (B : Bd) (r : Rho) (H : Hp) : U → V → Prop
  | d {x : D} {v : V} : RD C B H x v → RU C B r H (.d x) v
  | loc {n : Nat} {a : Addr} : r[n]? = some (some a) → RU C B r H (.loc n) (.ref a)
  | gone {n : Nat} {v : V} : r[n]? = some none → RU C B r H (.loc n) v
  | tup {a : Addr} {us : List U} {vs : List V} : SqT C.K H a vs → RUs C B r H us vs → RU C B r H (.tup us) (.ref a)
inductive RUs (C : Ct0) (B : Bd) (r : Rho) (H : Hp) : List U → List V → Prop
  | nil : RUs C B r H [] []
  | cons {d : U} {v : V} {ds : List U} {vs : List V} : RU C B r H d v → RUs C B r H ds vs → RUs C B r H (d :: ds) (v :: vs)
end
inductive RUk (C : Ct0) (B : Bd) (r : Rho) (H : Hp) : List (D × U) → List (Key × V) → Prop
  | nil : RUk C B r H [] []
  | cons {k : Key} {kd : D} {d : U} {v : V} {ds : List (D × U)} {vs : List (Key × V)} : keyD kd = some k → RU C B r H d v → RUk C B r H ds vs → RUk C B r H ((kd, d) :: ds) ((k, v) :: vs)
inductive RUn (C : Ct0) (B : Bd) (r : Rho) (H : Hp) : List (D × U) → List NK → Prop
  | nil : RUn C B r H [] []
  | cons {k : NestedKey} {b : Addr} {kd : D} {d : U} {v : V} {ds : List (D × U)} {xs : List NK} : nkT kd = some k → RD C B H kd (.ref b) → RU C B r H d v → RUn C B r H ds xs → RUn C B r H ((kd, d) :: ds) ((k, b, v) :: xs)
inductive RUf (C : Ct0) (B : Bd) (r : Rho) (H : Hp) : List (Str × U) → List (Str × V) → Prop
  | nil : RUf C B r H [] []
  | cons {f : Str} {d : U} {v : V} {ds : List (Str × U)} {vs : List (Str × V)} : RU C B r H d v → RUf C B r H ds vs → RUf C B r H ((f, d) :: ds) ((f, v) :: vs)
mutual
theorem RU.ext {C : Ct0} (e : Ext B r H B' r' H') (w : Own B r H) : ∀ {d : U} {v : V}, RU C B r H d v → RU C B' r' H' d v
  | _, _, .d h => .d (h.ext e w)
  | _, _, .loc h => by
    rcases e.rho _ _ h with q | q
    · exact .loc q
    · exact .gone q
  | _, _, .gone h => by
    rcases e.rho _ _ h with q | q
    · exact .gone q
    · exact .gone q
  | _, _, .tup h q => .tup (e.sqT w.lvt h) (RUs.ext e w q)
theorem RUs.ext {C : Ct0} (e : Ext B r H B' r' H') (w : Own B r H) : ∀ {d : List U} {v : List V}, RUs C B r H d v → RUs C B' r' H' d v
  | _, _, .nil => .nil
  | _, _, .cons a b => .cons (RU.ext e w a) (RUs.ext e w b)
end
theorem RUk.ext {C : Ct0} (e : Ext B r H B' r' H') (w : Own B r H) : ∀ {d : List (D × U)} {v : List (Key × V)}, RUk C B r H d v → RUk C B' r' H' d v
  | _, _, .nil => .nil
  | _, _, .cons k a b => .cons k (RU.ext e w a) (RUk.ext e w b)
theorem RUn.ext {C : Ct0} (e : Ext B r H B' r' H') (w : Own B r H) : ∀ {d : List (D × U)} {v : List NK}, RUn C B r H d v → RUn C B' r' H' d v
  | _, _, .nil => .nil
  | _, _, .cons k c a b => .cons k (RD.ext e w c) (RU.ext e w a) (RUn.ext e w b)
theorem RUf.ext {C : Ct0} (e : Ext B r H B' r' H') (w : Own B r H) : ∀ {d : List (Str × U)} {v : List (Str × V)}, RUf C B r H d v → RUf C B' r' H' d v
  | _, _, .nil => .nil
  | _, _, .cons a b => .cons (RU.ext e w a) (RUf.ext e w b)
def RO (C : Ct0) (B : Bd) (r : Rho) (H : Hp) (a : Addr) : O → Prop
  | .lst us => ∃ vs, H a = some (.lst vs) ∧ RUs C B r H us vs
  | .dct kvs => ∃ vs, H a = some (.dK vs) ∧ RUk C B r H kvs vs
  | .ins c fs => ∃ Cd dx vs, C.mg c = some (.ref Cd) ∧ H a = some (.ins Cd dx vs) ∧ RUf C B r H fs vs
  | .gone => False
  | .ndct kvs => ∃ xs, H a = some (dN C.P C.w a xs) ∧ RUn C B r H kvs xs
  | .deq us => ∃ vs, H a = some (dQ a vs) ∧ RUs C B r H us vs
structure Wd (C : Ct) (B : Bd) (r : Rho) (H : Hp) (h : Hea) : Prop extends Own B r H where
  len : r.length = h.length
  obj : ∀ (n : Nat) a, r[n]? = some (some a) → ∃ o, h[n]? = some o ∧ RO C B r H a o
  gon : ∀ (n : Nat), r[n]? = some none → h[n]? = some .gone
  inj : ∀ (n m : Nat) a, r[n]? = some (some a) → r[m]? = some (some a) → n = m
  jx : C.j.J C.toCt0 B H
/-- an object as it stands, the state behind it having more that is new -/
theorem RO.ext {C : Ct0} (e : Ext B r H B' r' H') (w : Own B r H) {a : Addr} (hk : H' a = H a) : ∀ {o : O}, RO C B r H a o → RO C B' r' H' a o
  | .lst us, ⟨vs, h, q⟩ => ⟨vs, hk.trans h, q.ext e w⟩
  | .dct us, ⟨vs, h, q⟩ => ⟨vs, hk.trans h, q.ext e w⟩
  | .ins c us, ⟨Cd, dx, vs, m, h, q⟩ => ⟨Cd, dx, vs, m, hk.trans h, q.ext e w⟩
  | .gone, h => h.elim
  | .ndct us, ⟨xs, h, q⟩ => ⟨xs, hk.trans h, q.ext e w⟩
  | .deq us, ⟨vs, h, q⟩ => ⟨vs, hk.trans h, q.ext e w⟩
/-- more that is new, nothing else -/
structure Gr (B : Bd) (H : Hp) (B' : Bd) (H' : Hp) : Prop where
  keep : ∀ a o, H a = some o → H' a = some o
  bnew : ∀ a, B' a → B a ∨ H a = none
  bold : ∀ a, B a → B' a
  dom : ∀ a, B' a → ∃ o, H' a = some o
  notup : ∀ a, B' a → ∀ vs, ¬ Rd H' a (.tup vs)
theorem rd_keep {H H' : Hp} {a : Addr} {u : HO} (k : ∀ o, H a = some o → H' a = some o) (h : Rd H a u) : Rd H' a u := by
  rcases h with h | ⟨o, h⟩
  · exact .inl (k _ h)
  · exact .inr ⟨o, k _ h⟩
theorem rd_back {H H' : Hp} {a : Addr} {u : HO} {o : HO} (ho : H a = some o) (k : ∀ o, H a = some o → H' a = some o) (h : Rd H' a u) : Rd H a u := by
  have q := k _ ho
  rcases h with h | ⟨z, h⟩
  · rw [q] at h
    exact .inl (by rw [ho]; exact h)
  · rw [q] at h
    exact .inr ⟨z, by rw [ho]; exact h⟩
theorem Gr.ext (g : Gr B H B' H') : Ext B r H B' r H' where
  rho := fun _ _ h => .inl h
  rnew := fun n a h1 h2 => by
    rw [List.getElem?_eq_none_iff.mpr h1] at h2
    cases h2
  keep := fun a o _ h => g.keep a o h
  bnew := g.bnew
  bold := fun a h _ => g.bold a h
  there := fun a o h => ⟨o, g.keep a o h⟩
  dom := g.dom
theorem Gr.wd {C : Ct} {h : Hea} (g : Gr B H B' H') (w : Wd C B r H h) : Wd C B' r H' h where
  own := fun a z => g.bold a (w.own a z)
  notup := g.notup
  dom := g.dom
  len := w.len
  obj := fun n a hn => by
    obtain ⟨o, ho, q⟩ := w.obj n a hn
    refine ⟨o, ho, q.ext g.ext w.toOwn ?_⟩
    obtain ⟨x, hx⟩ := w.dom a (w.own a ⟨n, hn⟩)
    rw [hx]
    exact g.keep a x hx
  gon := w.gon
  inj := w.inj
  jx := C.j.st _ _ r _ _ r _ w.toOwn g.ext w.jx
theorem Own.gr (w : Own B r H) : Gr B H B H := ⟨fun _ _ h => h, fun _ h => .inl h, fun _ h => h, w.dom, w.notup⟩
/-- a new object that is not to change -/
theorem Own.new (w : Own B r H) {p : Addr} (hp : H p = none) (o : HO) : Gr B H B (upd H p o) where
  keep := fun a x h => by
    rw [upd_ne (ne_of_none h hp)]
    exact h
  bnew := fun _ h => .inl h
  bold := fun _ h => h
  dom := fun a h => by
    obtain ⟨x, hx⟩ := w.dom a h
    exact ⟨x, by rw [upd_ne (ne_of_none hx hp)]; exact hx⟩
  notup := fun a h vs z => by
    obtain ⟨x, hx⟩ := w.dom a h
    refine w.notup a h vs (rd_back hx (fun o ho => ?_) z)
    rw [upd_ne (ne_of_none ho hp)]
    exact ho
theorem Own.nb (w : Own B r H) {p : Addr} (hp : H p = none) : ¬ B p := fun z => by
  obtain ⟨x, hx⟩ := w.dom p z
  rw [hp] at hx; cases hx
/-- the state behind: what was not live is as it was -/
theorem Gr.trans {B1 B2 : Bd} {H1 H2 : Hp} (g : Gr B H B1 H1) (g2 : Gr B1 H1 B2 H2) : Gr B H B2 H2 :=
  { keep := fun a o h => g2.keep a o (g.keep a o h)
    bnew := fun a h => by
      rcases g2.bnew a h with q | q
      · exact g.bnew a q
      · refine .inr ?_
        cases z : H a with
        | none => rfl
        | some o =>
          have z2 := g2.keep a o (g.keep a o z)
          rw [g.keep a o z] at q
          cases q
    bold := fun a h => g2.bold a (g.bold a h)
    dom := g2.dom
    notup := g2.notup }
inductive RV (C : Ct0) (B : Bd) (H : Hp) : D → V → Prop
  | of {d : D} {v : V} : RD C B H d v → RV C B H d v
  | lst {a : Addr} {ds : List D} {vs : List V} : H a = some (.lst vs) → RDs C B H ds vs → RV C B H (.lst ds) (.ref a)
  | dct {a : Addr} {ds : List (D × D)} {vs : List (Key × V)} : Rd H a (.dK vs) → RDk C B H ds vs → RV C B H (.dct ds) (.ref a)
  | ins {a Cd dx : Addr} {c : Str} {ds : List (Str × D)} {vs : List (Str × V)} : C.mg c = some (.ref Cd) → H a = some (.ins Cd dx vs) → RDf C B H ds vs → RV C B H (.ins c ds) (.ref a)
  | ndct {a : Addr} {ds : List (D × D)} {xs : List NK} : Rd H a (dN C.P C.w a xs) → RDn C B H ds xs → RV C B H (.ndct ds) (.ref a)
def U.toD : U → Option D
  | .d x => some x
  | _ => none
def allD : List U → Option (List D)
  | [] => some []
  | u :: us => match u.toD, allD us with
    | some x, some xs => some (x :: xs)
    | _, _ => none
def allK : List (D × U) → Option (List (D × D))
  | [] => some []
  | (k, u) :: us => match u.toD, allK us with
    | some x, some xs => some ((k, x) :: xs)
    | _, _ => none
def allF : List (Str × U) → Option (List (Str × D))
  | [] => some []
  | (k, u) :: us => match u.toD, allF us with
    | some x, some xs => some ((k, x) :: xs)
    | _, _ => none
def O.view : O → Option D
  | .lst us => (allD us).map .lst
  | .dct us => (allK us).map .dct
  | .ins c us => (allF us).map (.ins c)
  | .gone => none
  | .ndct us => (allK us).map .ndct
  | .deq _ => none
def view (h : Hea) : U → Option D
  | .d x => some x
  | .loc n => match h[n]? with
    | some o => o.view
    | none => none
  | .tup us => (allD us).map .tup
section
variable {C : Ct} {h : Hea}
theorem toD_some {u : U} {d : D} (h : u.toD = some d) : u = .d d := by
  cases u with
  | d x => exact congrArg U.d (Option.some.inj h)
  | loc n => cases h
  | tup us => cases h
theorem RU.toD {u : U} {v : V} {d : D} (q : RU C B r H u v) (h : u.toD = some d) : RD C.toCt0 B H d v := by
  have e := toD_some h
  subst e
  cases q with
  | d q => exact q
theorem RUs.allD : ∀ {us : List U} {vs : List V} {ds : List D}, RUs C B r H us vs → allD us = some ds → RDs C.toCt0 B H ds vs
  | [], _, ds, .nil, h => by
    cases h
    exact .nil
  | u :: us, _, ds, .cons a b, h => by
    unfold PM.allD at h
    split at h
    · rename_i x xs e1 e2
      cases h
      exact .cons (a.toD e1) (RUs.allD b e2)
    · cases h
theorem RUk.allK : ∀ {us : List (D × U)} {vs : List (Key × V)} {ds : List (D × D)}, RUk C B r H us vs → allK us = some ds → RDk C.toCt0 B H ds vs
  | [], _, ds, .nil, h => by
    cases h
    exact .nil
  | (k, u) :: us, _, ds, .cons e a b, h => by
    unfold PM.allK at h
    split at h
    · rename_i x xs e1 e2
      cases h
      exact .cons e (a.toD e1) (RUk.allK b e2)
    · cases h
theorem RUn.allK : ∀ {us : List (D × U)} {vs : List NK} {ds : List (D × D)}, RUn C B r H us vs → PM.allK us = some ds → RDn C.toCt0 B H ds vs
  | [], _, ds, .nil, h => by
    cases h
    exact .nil
  | (k, u) :: us, _, ds, .cons e c a b, h => by
    unfold PM.allK at h
    split at h
    · rename_i x xs e1 e2
      cases h
      exact .cons e c (a.toD e1) (RUn.allK b e2)
    · cases h
theorem RUf.allF : ∀ {us : List (Str × U)} {vs : List (Str × V)} {ds : List (Str × D)}, RUf C B r H us vs → allF us = some ds → RDf C.toCt0 B H ds vs
  | [], _, ds, .nil, h => by
    cases h
    exact .nil
  | (k, u) :: us, _, ds, .cons a b, h => by
    unfold PM.allF at h
    split at h
    · rename_i x xs e1 e2
      cases h
      exact .cons (a.toD e1) (RUf.allF b e2)
    · cases h
theorem RO.view {a : Addr} : ∀ {o : O} {d : D}, RO C B r H a o → o.view = some d → RV C.toCt0 B H d (.ref a)
  | .lst us, d, ⟨vs, hH, q⟩, h => by
    change (allD us).map D.lst = some d at h
    cases e : allD us with
    | none => rw [e] at h; cases h
    | some xs =>
      rw [e] at h
      cases h
      exact .lst hH (q.allD e)
  | .dct us, d, ⟨vs, hH, q⟩, h => by
    change (allK us).map D.dct = some d at h
    cases e : allK us with
    | none => rw [e] at h; cases h
    | some xs =>
      rw [e] at h
      cases h
      exact .dct (.inl hH) (q.allK e)
  | .ins c us, d, ⟨Cd, dx, vs, m, hH, q⟩, h => by
    change (allF us).map (D.ins c) = some d at h
    cases e : allF us with
    | none => rw [e] at h; cases h
    | some xs =>
      rw [e] at h
      cases h
      exact .ins m hH (q.allF e)
  | .gone, _, h, _ => h.elim
  | .ndct us, d, ⟨xs, hH, q⟩, h => by
    change (allK us).map D.ndct = some d at h
    cases e : allK us with
    | none => rw [e] at h; cases h
    | some ys =>
      rw [e] at h
      cases h
      exact .ndct (.inl hH) (q.allK e)
  | .deq us, d, _, h => by cases h
theorem Wd.view (w : Wd C B r H h) {u : U} {v : V} {d : D} (q : RU C B r H u v) (e : view h u = some d) : RV C.toCt0 B H d v := by
  cases q with
  | d q =>
    cases e
    exact .of q
  | loc hn =>
    obtain ⟨o, ho, ro⟩ := w.obj _ _ hn
    unfold PM.view at e
    simp only [ho] at e
    exact ro.view e
  | gone hn =>
    unfold PM.view at e
    simp only [w.gon _ hn] at e
    cases e
  | tup hs qs =>
    rename_i us vs
    change (allD us).map D.tup = some d at e
    cases z : allD us with
    | none => rw [z] at e; cases e
    | some xs =>
      rw [z] at e
      cases e
      exact .of (.tup hs (qs.allD z))
end
end
/-- an exception as it lies: its class's address, its own dict -/
def RX (C : Ct0) (B : Bd) (H : Hp) (e : Exn) (cls : Value) (d : Option Addr) : Prop :=
  ∃ Cd, C.mg e.c = some (.ref Cd) ∧ cls = .ref Cd ∧ ((e.fs = [] ∧ d = none) ∨ ∃ dx fs, d = some dx ∧ ¬ B dx ∧ H dx = some (.xd fs) ∧ RDf C B H e.fs fs)
/-- what is wanted of an exception, and what is known of the one in hand -/
structure Wj where
  w : WX
  j : Jx
/-- what is wanted behind: Q of what Rel says the answer is, W of an exception -/
def EQ (C : Ct) (W : Wj) (σ : L2.St) {α β : Type} (B : Bd) (r : Rho) (H : Hp) (x : Option (R α)) (Rel : Bd → Rho → Hp → α → β → Prop) (Q : β → Hp → Prop) : Prop :=
  match x with
  | none => False
  | some (.ok a h') => ∀ B' r' H' v, Ext B r H B' r' H' → Wd C B' r' H' h' → Rel B' r' H' a v → Q v H'
  | some (.exc e h') => ∀ B' r' H' cls d, Ext B r H B' r' H' → Wd C B' r' H' h' → RX C.toCt0 B' H' e cls d → W.w cls d σ H'
structure SlR (C : Ct) (B : Bd) (r : Rho) (H : Hp) (σ : L2.St) (δ : Sl) : Prop where
  len : δ.length = σ.length
  at_ : ∀ (i : Nat) u, δ[i]? = some (some u) → ∃ v, σ[i]? = some (some v) ∧ RU C B r H u v
  xi : ∀ i a, C.j.xi = some (i, a) → σ[i]? = some (some (.ref a))
def tG (C : Ct) (W : Wj) {α β : Type} (Rel : Bd → Rho → Hp → α → β → Prop) (f : M α) : L2.St → Hp → (β → Hp → Prop) → Prop := fun σ H Q =>
  ∃ B r h δ, Wd C B r H h ∧ SlR C B r H σ δ ∧ EQ C W σ B r H (f δ h) Rel Q
def tI (C : Ct) (W : Wj) (f : M U) : TE := tG C W (RU C) f
def tA (C : Ct) (W : Wj) (f : M (List U)) : TA := tG C W (RUs C) f
def relB : Bd → Rho → Hp → Bool → Bool → Prop := fun _ _ _ a b => a = b
def tT (C : Ct) (W : Wj) (f : M Bool) : TT := tG C W relB f
abbrev ctX (X : Cx) (W : Wj) : Ct := ⟨⟨X.K, X.mg, X.prog, X.w⟩, W.j⟩
def RE (X : Cx) (W : Wj) (e : Expr) (f : M U) : Prop := PE X e (tI (ctX X W) W f)
def RA (X : Cx) (W : Wj) (es : List Expr) (f : M (List U)) : Prop := PA X es (tA (ctX X W) W f)
def RT (X : Cx) (W : Wj) (e : Expr) (f : M Bool) : Prop := PT X e (tT (ctX X W) W f)
def RW (X : Cx) (W : Wj) (e : Expr) (f : M Bool) : Prop := PW X e (tT (ctX X W) W f)
section
variable {X : Cx} {e : Expr}
theorem pe_imp {t t' : TE} (h : PE X e t) (i : ∀ σ H Q, t' σ H Q → t σ H Q) : PE X e t' := ⟨fun pins s σ H Q I q => h.run pins s σ H Q I (i _ _ _ q)⟩
theorem pt_imp {t t' : TT} (h : PT X e t) (i : ∀ σ H Q, t' σ H Q → t σ H Q) : PT X e t' := ⟨fun pins s σ H Q I q => h.run pins s σ H Q I (i _ _ _ q)⟩
theorem pw_imp {t t' : TT} (h : PW X e t) (i : ∀ σ H Q, t' σ H Q → t σ H Q) : PW X e t' := ⟨fun wh pins s σ H Q I q => h.run wh pins s σ H Q I (i _ _ _ q)⟩
theorem pa_imp {es : List Expr} {t t' : TA} (h : PA X es t) (i : ∀ σ H Q, t' σ H Q → t σ H Q) : PA X es t' := ⟨fun pos pins s σ H Q I q => h.run pos pins s σ H Q I (i _ _ _ q)⟩
theorem ps_imp {st : Stmt} {t t' : TS} (h : PS X st t) (i : ∀ D σ H, t' D σ H → t D σ H) : PS X st t' := ⟨fun pins s σ H D I q => h.run pins s σ H D I (i _ _ _ q)⟩
theorem pss_imp {st : List Stmt} {t t' : TS} (h : PSs X st t) (i : ∀ D σ H, t' D σ H → t D σ H) : PSs X st t' := ⟨fun pins s σ H D I q => h.run pins s σ H D I (i _ _ _ q)⟩
end
def mret {α : Type} (a : α) : M α := fun _ h => some (.ok a h)
def mbnd {α β : Type} (f : M α) (k : α → M β) : M β := fun δ h => match f δ h with
  | some (.ok a h') => k a δ h'
  | some (.exc e h') => some (.exc e h')
  | none => none
def mfail {α : Type} : M α := fun _ _ => none
section
variable {C : Ct} {W : Wj} {σ : L2.St} {B B' : Bd} {r r' : Rho} {H H' : Hp} {α β γ ε : Type} {h : Hea} {δ : Sl}
theorem EQ.shift {x : Option (R α)} {Rel : Bd → Rho → Hp → α → β → Prop} {Q : β → Hp → Prop} (w : Own B r H) (q : EQ C W σ B r H x Rel Q) (e : Ext B r H B' r' H') : EQ C W σ B' r' H' x Rel Q := by
  unfold EQ at *
  split
  · exact q.elim
  · intro B2 r2 H2 v e2
    exact q B2 r2 H2 v (e.tr w e2)
  · intro B2 r2 H2 cls d e2
    exact q B2 r2 H2 cls d (e.tr w e2)
theorem SlR.ext {C : Ct} (s : SlR C B r H σ δ) (e : Ext B r H B' r' H') (w : Own B r H) : SlR C B' r' H' σ δ :=
  ⟨s.len, fun i u hu => let ⟨v, h1, h2⟩ := s.at_ i u hu; ⟨v, h1, h2.ext e w⟩, s.xi⟩
/-- the first part, then the rest -/
theorem EQ.bnd {f : M α} {k : α → M γ} {Rel : Bd → Rho → Hp → α → β → Prop} {Rel2 : Bd → Rho → Hp → γ → ε → Prop} {Q : ε → Hp → Prop} {Q1 : β → Hp → Prop} (w : Wd C B r H h) (s : SlR C B r H σ δ)
    (q : EQ C W σ B r H (mbnd f k δ h) Rel2 Q)
    (n : ∀ a B' r' H' h' v, Ext B r H B' r' H' → Wd C B' r' H' h' → SlR C B' r' H' σ δ → Rel B' r' H' a v → EQ C W σ B' r' H' (k a δ h') Rel2 Q → Q1 v H') :
    EQ C W σ B r H (f δ h) Rel Q1 := by
  unfold mbnd at q
  cases hf : f δ h with
  | none => rw [hf] at q; exact q.elim
  | some x =>
    cases x with
    | ok a h' =>
      rw [hf] at q
      intro B' r' H' v e w' rel
      exact n a B' r' H' h' v e w' (s.ext e w.toOwn) rel (q.shift w.toOwn e)
    | exc e h' =>
      rw [hf] at q
      exact q
theorem EQ.ret {a : α} {v : β} {Rel : Bd → Rho → Hp → α → β → Prop} {Q : β → Hp → Prop} (w : Wd C B r H h) (q : EQ C W σ B r H (some (.ok a h)) Rel Q) (rel : Rel B r H a v) : Q v H :=
  q B r H v (Ext.refl w.dom) w rel
/-- an end with something new -/
theorem EQ.gr {a : α} {v : β} {Rel : Bd → Rho → Hp → α → β → Prop} {Q : β → Hp → Prop} (w : Wd C B r H h) (q : EQ C W σ B r H (some (.ok a h)) Rel Q) (g : Gr B H B' H') (rel : Rel B' r H' a v) : Q v H' :=
  q B' r H' v g.ext (g.wd w) rel
/-- a reading as an expression's: from the answer on -/
theorem tG.bnd {f : M α} {k : α → M γ} {Rel : Bd → Rho → Hp → α → β → Prop} {Rel2 : Bd → Rho → Hp → γ → ε → Prop} {Q : ε → Hp → Prop} {Q1 : β → Hp → Prop} (t : tG C W Rel2 (mbnd f k) σ H Q)
    (n : ∀ a B' r' H' h' δ v, Wd C B' r' H' h' → SlR C B' r' H' σ δ → Rel B' r' H' a v → EQ C W σ B' r' H' (k a δ h') Rel2 Q → Q1 v H') : tG C W Rel f σ H Q1 := by
  obtain ⟨B, r, h, δ, w, s, q⟩ := t
  exact ⟨B, r, h, δ, w, s, q.bnd w s fun a B' r' H' h' v _ w' s' rel q' => n a B' r' H' h' δ v w' s' rel q'⟩
end
def vr (i : Nat) : M U := fun δ h => match δ[i]? with
  | some (some u) => some (.ok u h)
  | _ => none
def cn (d : D) : M U := mret (.d d)
section
variable {X : Cx} {W : Wj} {pos : Pos}
theorem re_var (i : Nat) {x : Str} (hN : X.N[i]? = some x := by rfl) (hv : Vis X.env.scope x := by first | exact Or.inl rfl | exact Or.inr (Or.inl rfl) | exact Or.inr (Or.inr rfl)) (hd : (x == ("__debug__" : Str)) = false := by decide)
    (hcd : (x == ("__classdict__" : Str)) = false := by decide) : RE X W (.Name x pos) (vr i) := by
  refine pe_imp (pe_var hN hv hd hcd) fun σ H Q ⟨B, r, h, δ, w, s, q⟩ => ?_
  unfold vr at q
  split at q
  · rename_i u hu
    obtain ⟨v, h1, h2⟩ := s.at_ i u hu
    exact ⟨v, h1, EQ.ret w q h2⟩
  · exact q.elim
theorem re_cn {e : Expr} {v : V} {d : D} (hp : PE X e (tC v)) (hd : ∀ C B H, RD C B H d v) : RE X W e (cn d) := by
  refine pe_imp hp fun σ H Q ⟨B, r, h, δ, w, s, q⟩ => ?_
  exact EQ.ret w q (.d (hd _ _ _))
theorem re_int {i j} : RE X W (.Constant (.int i) j pos) (cn (.int i)) := re_cn pe_int fun _ _ _ => .int i
theorem re_bl {b j} : RE X W (.Constant (.bool b) j pos) (cn (.bl b)) := re_cn pe_bl fun _ _ _ => .bl b
theorem re_non {j} : RE X W (.Constant .none j pos) (cn .non) := re_cn pe_non fun _ _ _ => .non
theorem re_str {x j} : RE X W (.Constant (.str x) j pos) (cn (.str x)) := re_cn pe_str fun _ _ _ => .str x
/-- a class, a def as a value; a constant -/
theorem re_glob {x : Str} {v : V} {u : Value} {d : D} (hm : X.mg x = some u) (rl : RelV v u) (hd : ∀ C B H, RD C B H d v) (hg : Gl X x := by rfl) (hdb : (x == ("__debug__" : Str)) = false := by decide) : RE X W (.Name x pos) (cn d) := re_cn (pe_glob hg hm rl hdb) hd
end
def opE (p : D → D → Option D) (x y : U) : M U := fun _ h => match view h x, view h y with
  | some a, some b => match p a b with
    | some c => some (.ok (.d c) h)
    | none => none
  | _, _ => none
def op2 (p : D → D → Option D) (f g : M U) : M U := mbnd f fun x => mbnd g fun y => opE p x y
/-- a rule on values does what p says -/
def Op2 (C : Ct) (p : D → D → Option D) (rr : R2) : Prop := ∀ {B : Bd} {r : Rho} {H : Hp} {h : Hea} {x y : D} {v w : V} {c : D} {Q : VK}, Wd C B r H h → RV C.toCt0 B H x v → RV C.toCt0 B H y w → p x y = some c →
  (∀ B' H' u, Gr B H B' H' → RD C.toCt0 B' H' c u → Q u H') → rr v w H Q
section
variable {X : Cx} {W : Wj} {pos : Pos} {a b : Expr} {f g : M U} {p : D → D → Option D} {rr : R2}
theorem opE_end {C : Ct} {σ : L2.St} {B : Bd} {r : Rho} {H : Hp} {h : Hea} {δ : Sl} {x y : U} {v w : V} {Q : VK} (hr : Op2 C p rr) (wd : Wd C B r H h) (rx : RU C B r H x v) (ry : RU C B r H y w) (q : EQ C W σ B r H (opE p x y δ h) (RU C) Q) : rr v w H Q := by
  unfold opE at q
  split at q
  · rename_i xa ya e1 e2
    split at q
    · rename_i c e3
      exact hr wd (wd.view rx e1) (wd.view ry e2) e3 fun B' H' u gr rd => EQ.gr wd q gr (.d rd)
    · exact q.elim
  · exact q.elim
theorem t_op2 {C : Ct} {σ : L2.St} {H : Hp} {Q : VK} (hr : Op2 C p rr) (t : tI C W (op2 p f g) σ H Q) : tOp rr (tI C W f) (tI C W g) σ H Q := by
  refine tG.bnd t fun x B1 r1 H1 h1 δ v w1 s1 rx q1 => ?_
  exact ⟨B1, r1, h1, δ, w1, s1, q1.bnd w1 s1 fun y B2 r2 H2 h2 w' e2 w2 s2 ry q2 => opE_end hr w2 (rx.ext e2 w1.toOwn) ry q2⟩
theorem re_op {op : Operator} (ho : OpR X (binaryOp op) rr) (hr : Op2 (ctX X W) p rr) (ha : RE X W a f) (hb : RE X W b g) : RE X W (.BinOp a op b pos) (op2 p f g) :=
  pe_imp (pe_op ho ha hb) fun _ _ _ t => t_op2 hr t
theorem re_cmp {op : CmpOp} (ho : OpR X (compareOp op) rr) (hr : Op2 (ctX X W) p rr) (ha : RE X W a f) (hb : RE X W b g) (hm : behindInMarks op b = false := by first | exact nomark _ | rfl | with_unfolding_all rfl) : RE X W (.Compare a [op] [b] pos) (op2 p f g) :=
  pe_imp (pe_cmpR ho ha hb hm) fun _ _ _ t => t_op2 hr t
/-- a value that is a bool, as a test -/
def isB : U → Option Bool
  | .d (.bl b) => some b
  | _ => none
def tst (f : M U) : M Bool := mbnd f fun x _ h => match isB x with
  | some b => some (.ok b h)
  | none => none
theorem isB_some {x : U} {b : Bool} (h : isB x = some b) : x = .d (.bl b) := by
  unfold isB at h
  split at h
  · cases h; rfl
  · cases h
theorem t_tst {C : Ct} {σ : L2.St} {H : Hp} {Q : Bool → Hp → Prop} (t : tT C W (tst f) σ H Q) : tI C W f σ H fun x H' => ∃ k, x = .bl k ∧ Q k H' := by
  refine tG.bnd t fun x B1 r1 H1 h1 δ v w1 s1 rx q1 => ?_
  cases hb : isB x with
  | none => rw [hb] at q1; exact q1.elim
  | some k =>
    rw [hb] at q1
    have e := isB_some hb
    subst e
    cases rx with
    | d rx =>
      cases rx
      exact ⟨k, rfl, EQ.ret w1 q1 rfl⟩
theorem rt_cmp {op : CmpOp} (ho : OpR X (compareOp op) rr) (hr : Op2 (ctX X W) p rr) (ha : RE X W a f) (hb : RE X W b g) (hm : behindInMarks op b = false := by first | exact nomark _ | rfl | with_unfolding_all rfl) : RT X W (.Compare a [op] [b] pos) (tst (op2 p f g)) :=
  pt_imp (pt_cmpR ho ha hb hm) fun _ _ _ t => by
    obtain ⟨B, r, h, δ, w, s, q⟩ := t_tst t
    refine t_op2 hr ⟨B, r, h, δ, w, s, ?_⟩
    exact q
/-- any expression that gives a bool, as a test -/
theorem rt_val (ha : RE X W a f) (he : ∀ whole, isTrue a X.env whole = (do let v ← whole; standAt a.pos; holding [v] (truthy v)) := by intro _; rfl) : RT X W a (tst f) :=
  pt_imp (pt_val ha he) fun _ _ _ t => t_tst t
/-- and, or, not as tests -/
def andT (f g : M Bool) : M Bool := mbnd f fun x => if x = true then g else mret false
def orT (f g : M Bool) : M Bool := mbnd f fun x => if x = true then mret true else g
def notT (f : M Bool) : M Bool := mbnd f fun x => mret (!x)
variable {fT gT : M Bool} {rest : List Expr}
theorem rw_and1 (ha : RT X W a fT) : RW X W (.BoolOp .And [a] pos) fT := pw_and1 ha
theorem rw_or1 (ha : RT X W a fT) : RW X W (.BoolOp .Or [a] pos) fT := pw_or1 ha
theorem rw_and (ha : RT X W a fT) (hb : RW X W (.BoolOp .And (b :: rest) pos) gT) : RW X W (.BoolOp .And (a :: b :: rest) pos) (andT fT gT) :=
  pw_imp (pw_and ha hb) fun σ H Q t => tG.bnd t fun x B1 r1 H1 h1 δ v w1 s1 rx q1 => by
    cases rx
    cases x with
    | true => exact ⟨B1, r1, h1, δ, w1, s1, q1⟩
    | false => exact EQ.ret w1 q1 rfl
theorem rw_or (ha : RT X W a fT) (hb : RW X W (.BoolOp .Or (b :: rest) pos) gT) : RW X W (.BoolOp .Or (a :: b :: rest) pos) (orT fT gT) :=
  pw_imp (pw_or ha hb) fun σ H Q t => tG.bnd t fun x B1 r1 H1 h1 δ v w1 s1 rx q1 => by
    cases rx
    cases x with
    | false => exact ⟨B1, r1, h1, δ, w1, s1, q1⟩
    | true => exact EQ.ret w1 q1 rfl
theorem rt_w (h : RW X W a fT) : RT X W a fT := PW.pt h
theorem rt_not (ha : RT X W a fT) : RT X W (.UnaryOp .Not a pos) (notT fT) :=
  pt_imp (pt_not ha) fun σ H Q t => tG.bnd t fun x B1 r1 H1 h1 δ v w1 s1 rx q1 => by
    cases rx
    exact EQ.ret w1 q1 rfl
/-- .. as values: all but the last a bool -/
def andV (f g : M U) : M U := mbnd (tst f) fun x => if x = true then g else cn (.bl false)
def orV (f g : M U) : M U := mbnd (tst f) fun x => if x = true then cn (.bl true) else g
def notV (f : M U) : M U := mbnd (tst f) fun x => cn (.bl !x)
theorem re_one {op} (ha : RE X W a f) : RE X W (.BoolOp op [a] pos) f := pe_one ha
theorem re_and (ha : RE X W a f) (hb : RE X W (.BoolOp .And (b :: rest) pos) g) : RE X W (.BoolOp .And (a :: b :: rest) pos) (andV f g) :=
  pe_imp (pe_and ha hb) fun σ H Q t => t_tst (Q := fun c H1 => if c = true then tI (ctX X W) W g σ H1 Q else Q (.bl false) H1) (tG.bnd t fun x B1 r1 H1 h1 δ v w1 s1 rx q1 => by
    cases rx
    cases x with
    | true => exact ⟨B1, r1, h1, δ, w1, s1, q1⟩
    | false => exact EQ.ret w1 q1 (.d (.bl _)))
theorem re_or (ha : RE X W a f) (hb : RE X W (.BoolOp .Or (b :: rest) pos) g) : RE X W (.BoolOp .Or (a :: b :: rest) pos) (orV f g) :=
  pe_imp (pe_or ha hb) fun σ H Q t => t_tst (Q := fun c H1 => if c = true then Q (.bl true) H1 else tI (ctX X W) W g σ H1 Q) (tG.bnd t fun x B1 r1 H1 h1 δ v w1 s1 rx q1 => by
    cases rx
    cases x with
    | false => exact ⟨B1, r1, h1, δ, w1, s1, q1⟩
    | true => exact EQ.ret w1 q1 (.d (.bl _)))
theorem re_not (ha : RE X W a f) : RE X W (.UnaryOp .Not a pos) (notV f) :=
  pe_imp (pe_not ha) fun σ H Q t => t_tst (Q := fun c H1 => Q (.bl (!c)) H1) (tG.bnd t fun x B1 r1 H1 h1 δ v w1 s1 rx q1 => by
    cases rx
    exact EQ.ret w1 q1 (.d (.bl _)))
/-- a if t else b -/
def ifE (c : M Bool) (f g : M U) : M U := mbnd c fun x => if x = true then f else g
theorem re_if {c : Expr} (hc : RT X W c fT) (ha : RE X W a f) (hb : RE X W b g) : RE X W (.IfExp c a b pos) (ifE fT f g) :=
  pe_imp (pe_ifExp hc ha hb) fun σ H Q t => tG.bnd t fun x B1 r1 H1 h1 δ v w1 s1 rx q1 => by
    cases rx
    cases x with
    | true => exact ⟨B1, r1, h1, δ, w1, s1, q1⟩
    | false => exact ⟨B1, r1, h1, δ, w1, s1, q1⟩
/-- a op b op' c, two comparisons -/
def chain (p p' : D → D → Option D) (f g k : M U) : M U := mbnd f fun x => mbnd g fun y => mbnd (opE p x y) fun z => match isB z with
  | some true => mbnd k fun w => opE p' y w
  | some false => cn (.bl false)
  | none => mfail
theorem t_chain {C : Ct} {rr' : R2} {p' : D → D → Option D} {k : M U} {σ : L2.St} {H : Hp} {Q : VK} (hr : Op2 C p rr) (hr' : Op2 C p' rr') (t : tI C W (chain p p' f g k) σ H Q) : tChain rr rr' (tI C W f) (tI C W g) (tI C W k) σ H Q := by
  refine tG.bnd t fun x B1 r1 H1 h1 δ v w1 s1 rx q1 => ?_
  refine ⟨B1, r1, h1, δ, w1, s1, q1.bnd w1 s1 fun y B2 r2 H2 h2 w' e2 w2 s2 ry q2 => ?_⟩
  have q3 := q2.bnd (Rel := RU C) (Q1 := fun z H3 => ∃ k2, z = .bl k2 ∧ (if k2 = true then tI C W k σ H3 (fun w'' H4 => rr' w' w'' H4 Q) else Q (.bl false) H3)) w2 s2 fun z B3 r3 H3 h3 u e3 w3 s3 rz q3 => ?_
  · exact opE_end hr w2 (rx.ext e2 w1.toOwn) ry q3
  · cases hb : isB z with
    | none => rw [hb] at q3; exact q3.elim
    | some k2 =>
      rw [hb] at q3
      have e := isB_some hb
      subst e
      cases rz with
      | d rz =>
        cases rz
        refine ⟨k2, rfl, ?_⟩
        cases k2 with
        | false => exact EQ.ret w3 q3 (.d (.bl _))
        | true => exact ⟨B3, r3, h3, δ, w3, s3, q3.bnd w3 s3 fun y2 B4 r4 H4 h4 w'' e4 w4 s4 ry2 q4 => opE_end hr' w4 ((ry.ext e3 w2.toOwn).ext e4 w3.toOwn) ry2 q4⟩
theorem re_chain {c : Expr} {rr' : R2} {p' : D → D → Option D} {k : M U} {op op' : CmpOp} (ho : OpR X (compareOp op) rr) (hr : Op2 (ctX X W) p rr) (ho' : OpR X (compareOp op') rr') (hr' : Op2 (ctX X W) p' rr') (ha : RE X W a f) (hb : RE X W b g) (hc : RE X W c k)
    (hm : lastMarks [op, op'] [b, c] = false := by with_unfolding_all rfl) : RE X W (.Compare a [op, op'] [b, c] pos) (chain p p' f g k) :=
  pe_imp (pe_chain ho ho' ha hb hc hm) fun _ _ _ t => t_chain hr hr' t
theorem rt_chain {c : Expr} {rr' : R2} {p' : D → D → Option D} {k : M U} {op op' : CmpOp} (ho : OpR X (compareOp op) rr) (hr : Op2 (ctX X W) p rr) (ho' : OpR X (compareOp op') rr') (hr' : Op2 (ctX X W) p' rr') (ha : RE X W a f) (hb : RE X W b g) (hc : RE X W c k)
    (hm : lastMarks [op, op'] [b, c] = false := by with_unfolding_all rfl) : RT X W (.Compare a [op, op'] [b, c] pos) (tst (chain p p' f g k)) :=
  pt_imp (pt_chain ho ho' ha hb hc hm) fun _ _ _ t => by
    obtain ⟨B, r, h, δ, w, s, q⟩ := t_tst t
    exact t_chain hr hr' ⟨B, r, h, δ, w, s, q⟩
end
def mnil : M (List U) := mret []
def mcons (f : M U) (g : M (List U)) : M (List U) := mbnd f fun x => mbnd g fun xs => mret (x :: xs)
def szOk (n : Nat) : Bool := decide (n ≤ 16777216)
/-- a tuple of plain things -/
def tupE (us : List U) : M U := fun _ h => if szOk us.length = true then match allD us with
    | some ds => some (.ok (.d (.tup ds)) h)
    | none => some (.ok (.tup us) h)
  else none
def lstE (us : List U) : M U := fun _ h => if szOk us.length = true then match allD us with
    | some ds => some (.ok (.d (.lst ds)) h)
    | none => none
  else none
/-- a list that may change -/
def newE (o : O) : M U := fun _ h => some (.ok (.loc h.length) (h ++ [o]))
def lstN (us : List U) : M U := fun δ h => if szOk us.length = true then newE (.lst us) δ h else none
section
variable {X : Cx} {W : Wj} {pos : Pos} {e : Expr} {es : List Expr} {f : M U} {g : M (List U)}
theorem ra_nil : RA X W [] mnil := pa_imp pa_nil fun σ H Q ⟨B, r, h, δ, w, s, q⟩ => EQ.ret w q .nil
theorem ra_cons (ha : RE X W e f) (hr : RA X W es g) (hs : starEach (e :: es) X.env = (false, eval e X.env) :: starEach es X.env := by rfl) : RA X W (e :: es) (mcons f g) :=
  pa_imp (pa_cons ha hr hs) fun σ H Q t => tG.bnd t fun x B1 r1 H1 h1 δ v w1 s1 rx q1 => ⟨B1, r1, h1, δ, w1, s1, q1.bnd w1 s1 fun xs B2 r2 H2 h2 vs e2 w2 s2 rxs q2 => EQ.ret w2 q2 (.cons (rx.ext e2 w1.toOwn) rxs)⟩
theorem szOk_le {n : Nat} (h : szOk n = true) : n ≤ sizeLine := by
  have := of_decide_eq_true h
  rw [sizeLine_eq]
  exact this
theorem RUs.length {C : Ct} {B : Bd} {r : Rho} {H : Hp} : ∀ {us : List U} {vs : List V}, RUs C B r H us vs → us.length = vs.length
  | _, _, .nil => rfl
  | _, _, .cons _ b => congrArg (· + 1) (RUs.length b)
theorem RDs.length {C : Ct} {B : Bd} {H : Hp} : ∀ {us : List D} {vs : List V}, RDs C.toCt0 B H us vs → us.length = vs.length
  | _, _, .nil => rfl
  | _, _, .cons _ b => congrArg (· + 1) (RDs.length b)
theorem re_tup {k} (ha : RA X W es g) : RE X W (.Tuple es k pos) (mbnd g tupE) :=
  pe_imp (pe_tup ha) fun σ H Q t => tG.bnd t fun us B1 r1 H1 h1 δ vs w1 s1 rx q1 => by
    unfold tupE at q1
    split at q1
    · rename_i hz
      refine ⟨by rw [← rx.length]; exact szOk_le hz, fun p hp => ?_⟩
      have gr := w1.toOwn.new hp (.tup vs)
      split at q1
      · rename_i ds hd
        exact EQ.gr w1 q1 gr (.d (.tup (SqT.of upd_same) ((rx.allD hd).ext (gr.ext (r := r1)) w1.toOwn)))
      · exact EQ.gr w1 q1 gr (.tup (SqT.of upd_same) (rx.ext gr.ext w1.toOwn))
    · exact q1.elim
theorem re_lst (ha : RA X W es g) : RE X W (.List es pos) (mbnd g lstE) :=
  pe_imp (pe_lst ha) fun σ H Q t => tG.bnd t fun us B1 r1 H1 h1 δ vs w1 s1 rx q1 => by
    unfold lstE at q1
    split at q1
    · rename_i hz
      refine ⟨by rw [← rx.length]; exact szOk_le hz, fun p hp => ?_⟩
      have gr := w1.toOwn.new hp (.lst vs)
      split at q1
      · rename_i ds hd
        exact EQ.gr w1 q1 gr (.d (.lst ⟨w1.toOwn.nb hp, upd_same⟩ ((rx.allD hd).ext (gr.ext (r := r1)) w1.toOwn)))
      · exact q1.elim
    · exact q1.elim
/-- a new object at p that may change -/
theorem Wd.add {C : Ct} {B : Bd} {r : Rho} {H : Hp} {h : Hea} (w : Wd C B r H h) {p : Addr} (hp : H p = none) {x : HO} (nt : ∀ vs, ¬ Rd (upd H p x) p (.tup vs)) {o : O}
    (ro : Ext B r H (fun a => B a ∨ a = p) (r ++ [some p]) (upd H p x) → RO C (fun a => B a ∨ a = p) (r ++ [some p]) (upd H p x) p o) :
    Ext B r H (fun a => B a ∨ a = p) (r ++ [some p]) (upd H p x) ∧ Wd C (fun a => B a ∨ a = p) (r ++ [some p]) (upd H p x) (h ++ [o]) := by
  have kp : ∀ a u, H a = some u → upd H p x a = some u := fun a u z => by
    rw [upd_ne (ne_of_none z hp)]
    exact z
  have ex : Ext B r H (fun a => B a ∨ a = p) (r ++ [some p]) (upd H p x) :=
    { rho := fun n y z => .inl (by
        rw [List.getElem?_append_left (List.getElem?_eq_some_iff.mp z).1]
        exact z)
      rnew := fun n a hl z => by
        rw [List.getElem?_append_right hl] at z
        rw [List.getElem?_singleton] at z
        split at z
        · cases z
          exact hp
        · cases z
      keep := fun a u _ z => kp a u z
      bnew := fun a z => by
        rcases z with z | rfl
        · exact .inl z
        · exact .inr hp
      bold := fun a z _ => .inl z
      there := fun a u z => ⟨u, kp a u z⟩
      dom := fun a z => by
        rcases z with z | rfl
        · obtain ⟨u, hu⟩ := w.dom a z
          exact ⟨u, kp a u hu⟩
        · exact ⟨x, upd_same⟩ }
  refine ⟨ex, ?_⟩
  have old : ∀ (n : Nat) a, (r ++ [some p])[n]? = some (some a) → (r[n]? = some (some a) ∧ n < r.length) ∨ (n = r.length ∧ a = p) := fun n a z => by
    by_cases hl : n < r.length
    · rw [List.getElem?_append_left hl] at z
      exact .inl ⟨z, hl⟩
    · rw [List.getElem?_append_right (Nat.le_of_not_lt hl), List.getElem?_singleton] at z
      split at z
      · rename_i h0
        exact .inr ⟨by omega, (Option.some.inj (Option.some.inj z)).symm⟩
      · cases z
  have pne : ∀ (n : Nat), r[n]? ≠ some (some p) := fun n z => by
    obtain ⟨u, hu⟩ := w.dom p (w.own p ⟨n, z⟩)
    rw [hp] at hu
    cases hu
  exact { own := fun a ⟨n, z⟩ => by
            rcases old n a z with ⟨z, _⟩ | ⟨_, rfl⟩
            · exact .inl (w.own a ⟨n, z⟩)
            · exact .inr rfl
          notup := fun a z vs q => by
            rcases z with z | rfl
            · obtain ⟨u, hu⟩ := w.dom a z
              exact w.notup a z vs (rd_back hu (kp a) q)
            · exact nt vs q
          dom := ex.dom
          len := by simp [w.len]
          obj := fun n a z => by
            rcases old n a z with ⟨z, hl⟩ | ⟨rfl, rfl⟩
            · obtain ⟨u, hu, q⟩ := w.obj n a z
              refine ⟨u, ?_, q.ext ex w.toOwn ?_⟩
              · rw [List.getElem?_append_left (by rw [← w.len]; exact hl)]
                exact hu
              · obtain ⟨y, hy⟩ := w.dom a (w.own a ⟨n, z⟩)
                rw [hy]
                exact kp a y hy
            · refine ⟨o, ?_, ro ex⟩
              rw [w.len, List.getElem?_append_right (Nat.le_refl _)]
              simp
          gon := fun n z => by
            by_cases hl : n < r.length
            · rw [List.getElem?_append_left hl] at z
              rw [List.getElem?_append_left (by rw [← w.len]; exact hl)]
              exact w.gon n z
            · rw [List.getElem?_append_right (Nat.le_of_not_lt hl), List.getElem?_singleton] at z
              split at z
              · cases z
              · cases z
          inj := fun n m a z1 z2 => by
            rcases old n a z1 with ⟨y1, _⟩ | ⟨e1, f1⟩ <;> rcases old m a z2 with ⟨y2, _⟩ | ⟨e2, f2⟩
            · exact w.inj n m a y1 y2
            · subst f2
              exact absurd y1 (pne n)
            · subst f1
              exact absurd y2 (pne m)
            · omega
          jx := C.j.st _ _ _ _ _ _ _ w.toOwn ex w.jx }
theorem notup_lst {H : Hp} {p : Addr} {xs : List V} : ∀ vs, ¬ Rd (upd H p (.lst xs)) p (.tup vs) := fun vs z => by
  rcases z with z | ⟨o, z⟩ <;> (rw [upd_same] at z; cases z)
theorem re_lstN (ha : RA X W es g) : RE X W (.List es pos) (mbnd g lstN) :=
  pe_imp (pe_lst ha) fun σ H Q t => tG.bnd t fun us B1 r1 H1 h1 δ vs w1 s1 rx q1 => by
    unfold lstN at q1
    split at q1
    · rename_i hz
      refine ⟨by rw [← rx.length]; exact szOk_le hz, fun p hp => ?_⟩
      obtain ⟨ex, w2⟩ := w1.add (o := .lst us) hp (notup_lst (xs := vs)) fun ex => ⟨vs, upd_same, rx.ext ex w1.toOwn⟩
      exact q1 _ _ _ _ ex w2 (.loc (by rw [← w1.len]; simp))
    · exact q1.elim
end
/-- what is wanted behind a statement's mirror -/
def OQ (C : Ct) (W : Wj) (D : Ends) (B : Bd) (r : Rho) (H : Hp) (x : Option Out) : Prop :=
  match x with
  | none => False
  | some (.nx δ h) => ∀ B' r' H' σ', Ext B r H B' r' H' → Wd C B' r' H' h → SlR C B' r' H' σ' δ → D.nx σ' H'
  | some (.bk δ h) => ∀ B' r' H' σ', Ext B r H B' r' H' → Wd C B' r' H' h → SlR C B' r' H' σ' δ → D.bk σ' H'
  | some (.ct δ h) => ∀ B' r' H' σ', Ext B r H B' r' H' → Wd C B' r' H' h → SlR C B' r' H' σ' δ → D.ct σ' H'
  | some (.rt u h) => ∀ B' r' H' v, Ext B r H B' r' H' → Wd C B' r' H' h → RU C B' r' H' u v → D.rt v H'
  | some (.ex e δ h) => ∀ B' r' H' σ' cls d, Ext B r H B' r' H' → Wd C B' r' H' h → SlR C B' r' H' σ' δ → RX C.toCt0 B' H' e cls d → W.w cls d σ' H'
def tS (C : Ct) (W : Wj) (s : S) : TS := fun D σ H => ∃ B r h δ, Wd C B r H h ∧ SlR C B r H σ δ ∧ OQ C W D B r H (s δ h)
def RS (X : Cx) (W : Wj) (st : Stmt) (s : S) : Prop := PS X st (tS (ctX X W) W s)
def RSs (X : Cx) (W : Wj) (st : List Stmt) (s : S) : Prop := PSs X st (tS (ctX X W) W s)
/-- an expression, then a statement -/
def sbnd {α : Type} (f : M α) (k : α → S) : S := fun δ h => match f δ h with
  | some (.ok a h') => k a δ h'
  | some (.exc e h') => some (.ex e δ h')
  | none => none
def snx : S := fun δ h => some (.nx δ h)
def sseq (s t : S) : S := fun δ h => match s δ h with
  | some (.nx δ' h') => t δ' h'
  | x => x
def sret (f : M U) : S := sbnd f fun u _ h => some (.rt u h)
def sexp (f : M U) : S := sbnd f fun _ => snx
def sif (c : M Bool) (s t : S) : S := sbnd c fun b => if b = true then s else t
def sbk : S := fun δ h => some (.bk δ h)
def sct : S := fun δ h => some (.ct δ h)
section
variable {C : Ct} {W : Wj} {σ : L2.St} {B B' : Bd} {r r' : Rho} {H H' : Hp} {α β : Type} {h : Hea} {δ : Sl} {D : Ends}
theorem OQ.shift {x : Option Out} (w : Own B r H) (q : OQ C W D B r H x) (e : Ext B r H B' r' H') : OQ C W D B' r' H' x := by
  unfold OQ at *
  split
  · exact q.elim
  · exact fun B2 r2 H2 σ' e2 => q B2 r2 H2 σ' (e.tr w e2)
  · exact fun B2 r2 H2 σ' e2 => q B2 r2 H2 σ' (e.tr w e2)
  · exact fun B2 r2 H2 σ' e2 => q B2 r2 H2 σ' (e.tr w e2)
  · exact fun B2 r2 H2 v e2 => q B2 r2 H2 v (e.tr w e2)
  · exact fun B2 r2 H2 σ' cls d e2 => q B2 r2 H2 σ' cls d (e.tr w e2)
theorem OQ.bnd {f : M α} {k : α → S} {Rel : Bd → Rho → Hp → α → β → Prop} {Q1 : β → Hp → Prop} (w : Wd C B r H h) (s : SlR C B r H σ δ) (q : OQ C W D B r H (sbnd f k δ h))
    (n : ∀ a B' r' H' h' v, Ext B r H B' r' H' → Wd C B' r' H' h' → SlR C B' r' H' σ δ → Rel B' r' H' a v → OQ C W D B' r' H' (k a δ h') → Q1 v H') : EQ C W σ B r H (f δ h) Rel Q1 := by
  unfold sbnd at q
  cases hf : f δ h with
  | none => rw [hf] at q; exact q.elim
  | some x =>
    cases x with
    | ok a h' =>
      rw [hf] at q
      intro B' r' H' v e w' rel
      exact n a B' r' H' h' v e w' (s.ext e w.toOwn) rel (q.shift w.toOwn e)
    | exc e h' =>
      rw [hf] at q
      intro B' r' H' cls d ex w' rx
      exact q B' r' H' σ cls d ex w' (s.ext ex w.toOwn) rx
theorem tS.bnd {f : M α} {k : α → S} {Rel : Bd → Rho → Hp → α → β → Prop} {Q1 : β → Hp → Prop} (t : tS C W (sbnd f k) D σ H)
    (n : ∀ a B' r' H' h' δ v, Wd C B' r' H' h' → SlR C B' r' H' σ δ → Rel B' r' H' a v → OQ C W D B' r' H' (k a δ h') → Q1 v H') : tG C W Rel f σ H Q1 := by
  obtain ⟨B, r, h, δ, w, s, q⟩ := t
  exact ⟨B, r, h, δ, w, s, q.bnd w s fun a B' r' H' h' v _ w' s' rel q' => n a B' r' H' h' δ v w' s' rel q'⟩
theorem OQ.nx (w : Wd C B r H h) (s : SlR C B r H σ δ) (q : OQ C W D B r H (some (.nx δ h))) : D.nx σ H := q B r H σ (Ext.refl w.dom) w s
theorem OQ.gr (w : Wd C B r H h) (s : SlR C B r H σ δ) (q : OQ C W D B r H (some (.nx δ h))) (g : Gr B H B' H') : D.nx σ H' := q B' r H' σ g.ext (g.wd w) (s.ext g.ext w.toOwn)
/-- another wish for what follows -/
theorem OQ.to {D' : Ends} {x : Option Out} (q : OQ C W D B r H x)
    (nx : ∀ δ h, x = some (.nx δ h) → ∀ B' r' H' σ', Ext B r H B' r' H' → Wd C B' r' H' h → SlR C B' r' H' σ' δ → D'.nx σ' H')
    (bk : ∀ δ h, x = some (.bk δ h) → ∀ B' r' H' σ', Ext B r H B' r' H' → Wd C B' r' H' h → SlR C B' r' H' σ' δ → D'.bk σ' H')
    (ct : ∀ δ h, x = some (.ct δ h) → ∀ B' r' H' σ', Ext B r H B' r' H' → Wd C B' r' H' h → SlR C B' r' H' σ' δ → D'.ct σ' H')
    (rt : ∀ v H', D.rt v H' → D'.rt v H') : OQ C W D' B r H x := by
  cases x with
  | none => exact q
  | some o =>
    cases o with
    | nx δ h => exact nx δ h rfl
    | bk δ h => exact bk δ h rfl
    | ct δ h => exact ct δ h rfl
    | rt u h => exact fun B' r' H' v e w z => rt v H' (q B' r' H' v e w z)
    | ex e δ h => exact q
end
section
variable {X : Cx} {W : Wj} {pos : Pos} {st : Stmt} {rest : List Stmt} {s t : S} {e : Expr} {f : M U}
theorem rss_nil : RSs X W [] snx := pss_imp pss_nil fun D σ H ⟨B, r, h, δ, w, sl, q⟩ => OQ.nx w sl q
theorem rss_cons (h1 : RS X W st s) (h2 : RSs X W rest t) : RSs X W (st :: rest) (sseq s t) :=
  pss_imp (pss_cons h1 h2) fun D σ H ⟨B, r, h, δ, w, sl, q⟩ => by
    refine ⟨B, r, h, δ, w, sl, ?_⟩
    unfold sseq at q
    cases hs : s δ h with
    | none => rw [hs] at q; exact q
    | some o =>
      rw [hs] at q
      cases o with
      | nx δ' h' => exact fun B' r' H' σ' ex w' s' => ⟨B', r', h', δ', w', s', q.shift w.toOwn ex⟩
      | bk δ h => exact q
      | ct δ h => exact q
      | rt u h => exact q
      | ex e δ h => exact q
theorem rss_one (h1 : RS X W st s) : RSs X W [st] s := pss_one h1
theorem rs_pass : RS X W (.Pass pos) snx := ps_imp ps_pass fun D σ H ⟨B, r, h, δ, w, sl, q⟩ => OQ.nx w sl q
theorem rs_bk : RS X W (.Break pos) sbk := ps_imp ps_break fun D σ H ⟨B, r, h, δ, w, sl, q⟩ => q B r H σ (Ext.refl w.dom) w sl
theorem rs_ct : RS X W (.Continue pos) sct := ps_imp ps_continue fun D σ H ⟨B, r, h, δ, w, sl, q⟩ => q B r H σ (Ext.refl w.dom) w sl
theorem rs_exp (he : RE X W e f) (hs : swapsWith e none pos.line X.env = pure false := by rfl) : RS X W (.Expr e pos) (sexp f) :=
  ps_imp (ps_expr he hs) fun D σ H q => tS.bnd q fun a B r H1 h δ v w s ru q => OQ.nx w s q
theorem rs_ret (he : RE X W e f) : RS X W (.Return (some e) pos) (sret f) :=
  ps_imp (ps_ret he) fun D σ H q => tS.bnd q fun a B r H1 h δ v w s ru q => q B r H1 v (Ext.refl w.dom) w ru
theorem rs_retN : RS X W (.Return none pos) (sret (cn .non)) :=
  ps_imp ps_retN fun D σ H ⟨B, r, h, δ, w, s, q⟩ => q B r H .non (Ext.refl w.dom) w (.d .non)
theorem rs_if {c : Expr} {a b : List Stmt} {fT : M Bool} (hc : RT X W c fT) (ha : RSs X W a s) (hb : RSs X W b t) : RS X W (.If c a b pos) (sif fT s t) :=
  ps_imp (ps_if hc ha hb) fun D σ H q => tS.bnd q fun a B r H1 h δ v w sl ru q => by
    cases ru
    cases a with
    | true => exact ⟨B, r, h, δ, w, sl, q⟩
    | false => exact ⟨B, r, h, δ, w, sl, q⟩
end
def G := U → Sl → Hea → Option (Sl × Hea)
def GQ (C : Ct) (B : Bd) (r : Rho) (H : Hp) (x : Option (Sl × Hea)) (Q : L2.St → Hp → Prop) : Prop :=
  match x with
  | none => False
  | some (δ', h') => ∀ B' r' H' σ', Ext B r H B' r' H' → Wd C B' r' H' h' → SlR C B' r' H' σ' δ' → Q σ' H'
def tGt (C : Ct) (g : G) : TG := fun v σ H Q => ∃ B r h δ u, Wd C B r H h ∧ SlR C B r H σ δ ∧ RU C B r H u v ∧ GQ C B r H (g u δ h) Q
def tGts (C : Ct) (g : List U → Sl → Hea → Option (Sl × Hea)) : TGs := fun vs σ H Q => ∃ B r h δ us, Wd C B r H h ∧ SlR C B r H σ δ ∧ RUs C B r H us vs ∧ GQ C B r H (g us δ h) Q
def RG (X : Cx) (W : Wj) (tg : Expr) (g : G) : Prop := PG X tg (tGt (ctX X W) g)
def RGs (X : Cx) (W : Wj) (tg : List Expr) (g : List U → Sl → Hea → Option (Sl × Hea)) : Prop := PGs X tg (tGts (ctX X W) g)
section
variable {X : Cx} {W : Wj} {pos : Pos}
theorem pg_imp {e : Expr} {t t' : TG} (h : PG X e t) (i : ∀ v σ H Q, t' v σ H Q → t v σ H Q) : PG X e t' := ⟨fun pins s σ H v u Q I rv q => h.run pins s σ H v u Q I rv (i _ _ _ _ q)⟩
theorem pgs_imp {e : List Expr} {t t' : TGs} (h : PGs X e t) (i : ∀ v σ H Q, t' v σ H Q → t v σ H Q) : PGs X e t' := ⟨fun pins s σ H v u Q I rv q => h.run pins s σ H v u Q I rv (i _ _ _ _ q)⟩
theorem SlR.set {C : Ct} {B : Bd} {r : Rho} {H : Hp} {σ : L2.St} {δ : Sl} (s : SlR C B r H σ δ) {i : Nat} {u : U} {v : V} (hj : C.j.xi = none) (ru : RU C B r H u v) : SlR C B r H (σ.set i (some v)) (δ.set i (some u)) := by
  refine ⟨by simp [s.len], fun j u' hj => ?_, fun j a z => by rw [hj] at z; cases z⟩
  by_cases hij : i = j
  · subst hij
    by_cases hl : i < δ.length
    · rw [List.getElem?_set_self hl] at hj
      cases hj
      exact ⟨v, List.getElem?_set_self (by rw [← s.len]; exact hl), ru⟩
    · rw [List.getElem?_eq_none_iff.mpr (by simp; omega)] at hj
      cases hj
  · rw [List.getElem?_set_ne hij] at hj
    obtain ⟨v', h1, h2⟩ := s.at_ j u' hj
    exact ⟨v', by rw [List.getElem?_set_ne hij]; exact h1, h2⟩
def gnm (i : Nat) : G := fun u δ h => some (δ.set i (some u), h)
theorem rg_name {i : Nat} {x : Str} (hN : X.N.Nodup) (hj : W.j.xi = none := by rfl) (hi : X.N[i]? = some x := by rfl) (hx : Loc X.env.scope x := by first | exact Or.inl rfl | exact Or.inr rfl) (hf : X.fn x = true ∨ X.env.scope.names.lookup x = some .local := by first | exact .inl rfl | exact .inr rfl) : RG X W (.Name x pos) (gnm i) :=
  pg_imp (pg_name hN hi hx hf) fun v σ H Q ⟨B, r, h, δ, u, w, s, ru, q⟩ => q B r H _ (Ext.refl w.dom) w (s.set hj ru)
def gnil : List U → Sl → Hea → Option (Sl × Hea) := fun us δ h => match us with
  | [] => some (δ, h)
  | _ => none
def gcons (g : G) (k : List U → Sl → Hea → Option (Sl × Hea)) : List U → Sl → Hea → Option (Sl × Hea) := fun us δ h => match us with
  | u :: r => match g u δ h with
    | some (δ', h') => k r δ' h'
    | none => none
  | [] => none
theorem rgs_nil : RGs X W [] gnil := pgs_imp pgs_nil fun vs σ H Q ⟨B, r, h, δ, us, w, s, ru, q⟩ => by
  cases ru with
  | nil => exact ⟨rfl, q B r H _ (Ext.refl w.dom) w s⟩
  | cons _ _ => exact q.elim
theorem GQ.shift {C : Ct} {B B' : Bd} {r r' : Rho} {H H' : Hp} {x : Option (Sl × Hea)} {Q : L2.St → Hp → Prop} (w : Own B r H) (q : GQ C B r H x Q) (e : Ext B r H B' r' H') : GQ C B' r' H' x Q := by
  cases x with
  | none => exact q
  | some y => exact fun B2 r2 H2 σ' e2 => q B2 r2 H2 σ' (e.tr w e2)
theorem rgs_cons {e : Expr} {es : List Expr} {g : G} {k : List U → Sl → Hea → Option (Sl × Hea)} (h1 : RG X W e g) (h2 : RGs X W es k)
    (hs : (assignEach (e :: es) X.env).map (·.2) = assign e X.env :: (assignEach es X.env).map (·.2) := by rfl) : RGs X W (e :: es) (gcons g k) :=
  pgs_imp (pgs_cons h1 h2 hs) fun vs σ H Q ⟨B, r, h, δ, us, w, s, ru, q⟩ => by
    cases ru with
    | nil => exact q.elim
    | @cons u v us vs ra rb =>
      refine ⟨v, vs, rfl, B, r, h, δ, u, w, s, ra, ?_⟩
      change GQ (ctX X W) B r H (match g u δ h with | some (δ', h') => k us δ' h' | none => none) Q at q
      cases hg : g u δ h with
      | none => rw [hg] at q; exact q
      | some y =>
        rw [hg] at q
        exact fun B' r' H' σ' ex w' s' => ⟨B', r', y.2, y.1, us, w', s', rb.ext ex w.toOwn, q.shift w.toOwn ex⟩
/-- the items of a tuple -/
def tupU : U → Option (List U)
  | .d (.tup ds) => some (ds.map .d)
  | .tup us => some us
  | _ => none
theorem RDs.us {C : Ct0} {B : Bd} {r : Rho} {H : Hp} : ∀ {ds : List D} {vs : List V}, RDs C B H ds vs → RUs C B r H (ds.map .d) vs
  | _, _, .nil => .nil
  | _, _, .cons a b => .cons (.d a) (RDs.us b)
theorem tupU_ok {C : Ct} {B : Bd} {r : Rho} {H : Hp} {u : U} {v : V} {us : List U} (ru : RU C B r H u v) (h : tupU u = some us) : ∃ a vs, v = .ref a ∧ SqT C.K H a vs ∧ RUs C B r H us vs := by
  cases ru with
  | d rd =>
    cases rd with
    | tup hs q =>
      cases h
      exact ⟨_, _, rfl, hs, q.us⟩
    | _ => cases h
  | loc _ => cases h
  | gone _ => cases h
  | tup hs q =>
    cases h
    exact ⟨_, _, rfl, hs, q⟩
def gtup (n : Nat) (k : List U → Sl → Hea → Option (Sl × Hea)) : G := fun u δ h => match tupU u with
  | some us => if us.length = n then k us δ h else none
  | none => none
theorem rg_tup {es : List Expr} {k0 : Nat} {k : List U → Sl → Hea → Option (Sl × Hea)} {n : Nat} (hc : X.calm = true) (hs : RGs X W es k)
    (hn : (assignEach es X.env).length = n := by rfl) (hst : (assignEach es X.env).findIdx? (·.1) = none := by rfl) : RG X W (.Tuple es k0 pos) (gtup n k) :=
  pg_imp (pg_tup hc hs hn hst) fun v σ H Q ⟨B, r, h, δ, u, w, s, ru, q⟩ => by
    unfold gtup at q
    cases hu : tupU u with
    | none => rw [hu] at q; exact q.elim
    | some us =>
      simp only [hu] at q
      obtain ⟨a, vs, rfl, h1, h2⟩ := tupU_ok ru hu
      by_cases hl : us.length = n
      · rw [if_pos hl] at q
        exact ⟨a, vs, rfl, h1, h2.length.symm.trans hl, B, r, h, δ, us, w, s, h2, q⟩
      · rw [if_neg hl] at q
        exact q.elim
end
def sasg (f : M U) (g : G) : S := sbnd f fun u δ h => match g u δ h with
  | some (δ', h') => some (.nx δ' h')
  | none => none
section
variable {X : Cx} {W : Wj} {pos : Pos} {e tg : Expr} {f : M U} {g : G}
theorem gq_of {C : Ct} {D : Ends} {B : Bd} {r : Rho} {H : Hp} {x : Option (Sl × Hea)} (q : OQ C W D B r H (match x with | some (δ', h') => some (.nx δ' h') | none => none)) : GQ C B r H x D.nx := by
  cases x with
  | none => exact q
  | some y => exact q
theorem rs_asg (he : RE X W e f) (hg : RG X W tg g) (hs : swapsWithSole [tg] e pos.line X.env = pure false := by rfl) (hw : swappedStores [tg] e X.env = pure none := by rfl)
    (h1 : (assignEach [tg] X.env).map (·.2) = [assign tg X.env] := by rfl) : RS X W (.Assign [tg] e pos) (sasg f g) :=
  ps_imp (ps_asg he hg hs hw h1) fun D σ H q => tS.bnd q fun a B r H1 h δ v w s ru q => ⟨B, r, h, δ, a, w, s, ru, gq_of q⟩
theorem rs_set {i : Nat} {x : Str} {pos' : Pos} (hN : X.N.Nodup) (he : RE X W e f) (hj : W.j.xi = none := by rfl) (hi : X.N[i]? = some x := by rfl) (hx : Loc X.env.scope x := by first | exact Or.inl rfl | exact Or.inr rfl) (hs : swapsWith e (some (.Name x pos')) pos.line X.env = pure false := by rfl) (hf : X.fn x = true ∨ X.env.scope.names.lookup x = some .local := by first | exact .inl rfl | exact .inr rfl) :
    RS X W (.Assign [.Name x pos'] e pos) (sasg f (gnm i)) :=
  ps_imp (ps_set hN hi hx he hs hf) fun D σ H q => tS.bnd q fun a B r H1 h δ v w s ru q => OQ.nx w (s.set hj ru) q
/-- a, b = x, y, two plain local names -/
def spar (i j : Nat) (g : M (List U)) : S := sbnd g fun us δ h => match us with
  | [a, b] => some (.nx ((δ.set i (some a)).set j (some b)) h)
  | _ => none
theorem rs_par {i j : Nat} {x y : Str} {a b : Expr} {ga : M (List U)} {px py pt : Pos} {kt k2 pt2} (hc : X.calm = true) (hN : X.N.Nodup) (ha : RA X W [a, b] ga) (hjx : W.j.xi = none := by rfl) (hij : i ≠ j := by decide) (hi : X.N[i]? = some x := by rfl) (hj : X.N[j]? = some y := by rfl)
    (hx : X.env.scope.names.lookup x = some .local := by rfl) (hy : X.env.scope.names.lookup y = some .local := by rfl)
    (hw : swappedStores [.Tuple [.Name x px, .Name y py] kt pt] (.Tuple [a, b] k2 pt2) X.env = pure (some [x, y]) := by rfl)
    (hs : swapsWithSole [.Tuple [.Name x px, .Name y py] kt pt] (.Tuple [a, b] k2 pt2) pos.line X.env = pure false := by rfl) :
    RS X W (.Assign [.Tuple [.Name x px, .Name y py] kt pt] (.Tuple [a, b] k2 pt2) pos) (spar i j ga) :=
  ps_imp (ps_par hc hN hi hj hij hx hy ha hw hs) fun D σ H q => tS.bnd q fun us B r H1 h δ vs w s ru q => by
    cases ru with
    | nil => exact q.elim
    | cons r1 rr =>
      cases rr with
      | nil => exact q.elim
      | cons r2 rr =>
        cases rr with
        | nil => exact ⟨_, _, rfl, OQ.nx w ((s.set hjx r1).set hjx r2) q⟩
        | cons _ _ => exact q.elim
/-- name op= e -/
def saug (p : D → D → Option D) (i : Nat) (f : M U) : S := sbnd (vr i) fun x => sbnd f fun y => sbnd (opE p x y) fun z δ h => some (.nx (δ.set i (some z)) h)
def ipOk (C : Ct) (p : D → D → Option D) (ti : TIp) : Prop := Op2 C p ti
theorem rs_aug {i : Nat} {x : Str} {op : Operator} {p : D → D → Option D} {ti : TIp} {pos' : Pos} (ho : PIp X op ti) (hr : Op2 (ctX X W) p ti) (hN : X.N.Nodup) (he : RE X W e f) (hj : W.j.xi = none := by rfl) (hi : X.N[i]? = some x := by rfl) (hx : Loc X.env.scope x := by first | exact Or.inl rfl | exact Or.inr rfl) (hf : X.fn x = true ∨ X.env.scope.names.lookup x = some .local := by first | exact .inl rfl | exact .inr rfl) :
    RS X W (.AugAssign (.Name x pos') op e pos) (saug p i f) :=
  ps_imp (ps_aug hN hi hx he ho hf) fun D σ H ⟨B, r, h, δ, w, s, q⟩ => by
    unfold saug sbnd vr at q
    cases hu : δ[i]? with
    | none => rw [hu] at q; exact q.elim
    | some o =>
      cases o with
      | none => rw [hu] at q; exact q.elim
      | some x =>
        rw [hu] at q
        obtain ⟨v, h1, h2⟩ := s.at_ i x hu
        refine ⟨v, h1, B, r, h, δ, w, s, ?_⟩
        have q' : OQ (ctX X W) W D B r H ((sbnd f fun y => sbnd (opE p x y) fun z δ h => some (.nx (δ.set i (some z)) h)) δ h) := q
        refine q'.bnd w s fun y B2 r2 H2 h2' w' e2 w2 s2 ry q2 => ?_
        have q3 := q2.bnd (Rel := RU (ctX X W)) (Q1 := fun z H3 => D.nx (σ.set i (some z)) H3) w2 s2 fun z B3 r3 H3 h3 u e3 w3 s3 rz q3 => OQ.nx w3 (s3.set hj rz) q3
        exact opE_end hr w2 (h2.ext e2 w.toOwn) ry q3
end
/-- what is walked gives the values xs, one behind the other, whatever becomes of what may change -/
def Ylds (C : Ct) (B : Bd) (r : Rho) (H : Hp) (xs : List U) (J : It) : Prop :=
  ∀ B1 r1 H1 h1 (i : Nat), Ext B r H B1 r1 H1 → Wd C B1 r1 H1 h1 →
    (i < xs.length → J.go i H1 ∧ ∀ x H2, J.yld i H1 x H2 → ∃ B2, Gr B1 H1 B2 H2 ∧ ∃ u, xs[i]? = some u ∧ RU C B2 r1 H2 u x) ∧ (xs.length ≤ i → J.stop i H1)
def tII (C : Ct) (W : Wj) (f : M (List U)) : TI := fun σ H R => tG C W (Ylds C) f σ H R
def RI1 (X : Cx) (W : Wj) (tg it : Expr) (f : M (List U)) : Prop := PI X tg it (tII (ctX X W) W f)
def forL (g : G) (body : S) : List U → S
  | [] => snx
  | x :: xs => fun δ h => match g x δ h with
    | some (δ1, h1) => match body δ1 h1 with
      | some (.nx δ2 h2) => forL g body xs δ2 h2
      | some (.ct δ2 h2) => forL g body xs δ2 h2
      | some (.bk δ2 h2) => some (.nx δ2 h2)
      | o => o
    | none => none
def sfor (f : M (List U)) (g : G) (body : S) : S := sbnd f fun xs => forL g body xs
theorem pi_imp {X : Cx} {tg e : Expr} {t t' : TI} (h : PI X tg e t) (i : ∀ σ H Q, t' σ H Q → t σ H Q) : PI X tg e t' := ⟨fun pins s σ H Q I q => h.run pins s σ H Q I (i _ _ _ q)⟩
theorem rs_for {X : Cx} {W : Wj} {pos : Pos} {tg iter : Expr} {body : List Stmt} {f : M (List U)} {g : G} {b : S} (hp : PassesOwn (model X.prog X.w) X.A X.env X.xe) (hc : X.calm = true) (hi : RI1 X W tg iter f) (hg : RG X W tg g) (hb : RSs X W body b)
    (hs : ∀ x, foldedSetIterable iter X.env x = pure x := by intro _; rfl) : RS X W (.For tg iter body [] pos) (sfor f g b) :=
  ps_imp (ps_for hp hc hi hg hb hs) fun D σ H q => tS.bnd (Rel := Ylds (ctX X W)) q fun xs B r H1 h δ J w s rj q => by
    refine ⟨fun i m σ2 H2 => ∃ B2 r2 h2 δ2, Ext B r H1 B2 r2 H2 ∧ Wd (ctX X W) B2 r2 H2 h2 ∧ SlR (ctX X W) B2 r2 H2 σ2 δ2 ∧ m = xs.length - i ∧ i ≤ xs.length ∧ OQ (ctX X W) W D B2 r2 H2 (forL g b (xs.drop i) δ2 h2), ⟨xs.length, B, r, h, δ, Ext.refl w.dom, w, s, by simp, Nat.zero_le _, q⟩, ?_⟩
    rintro i m σ2 H2 ⟨B2, r2, h2, δ2, e2, w2, s2, rfl, hi, q2⟩
    obtain ⟨j1, j2⟩ := rj B2 r2 H2 h2 i e2 w2
    by_cases hlt : i < xs.length
    · obtain ⟨j3, j4⟩ := j1 hlt
      refine .inr ⟨j3, fun σ' H' => ∃ B2 r2 h2 δ2, Ext B r H1 B2 r2 H' ∧ Wd (ctX X W) B2 r2 H' h2 ∧ SlR (ctX X W) B2 r2 H' σ' δ2 ∧ OQ (ctX X W) W D B2 r2 H' (forL g b (xs.drop (i + 1)) δ2 h2), fun σ' H' ⟨B3, r3, h3, δ3, e3, w3, s3, q3⟩ => ⟨xs.length - (i + 1), by omega, B3, r3, h3, δ3, e3, w3, s3, rfl, hlt, q3⟩, fun x H3 y => ?_⟩
      obtain ⟨B3, g3, u, hu, ru⟩ := j4 x H3 y
      have w3 := g3.wd w2
      have e3 : Ext B2 r2 H2 B3 r2 H3 := g3.ext
      refine ⟨B3, r2, h2, δ2, u, w3, s2.ext e3 w2.toOwn, ru, ?_⟩
      have ed : xs.drop i = u :: xs.drop (i + 1) := by
        have hx : xs[i]? = some xs[i] := List.getElem?_eq_getElem hlt
        rw [hu] at hx
        rw [List.drop_eq_getElem_cons hlt, ← Option.some.inj hx]
      rw [ed] at q2
      have q3 := q2.shift w2.toOwn e3
      unfold forL at q3
      cases hg1 : g u δ2 h2 with
      | none => simp only [hg1] at q3; exact q3
      | some y1 =>
        simp only [hg1] at q3
        intro B4 r4 H4 σ4 e4 w4 s4
        refine ⟨B4, r4, y1.2, y1.1, w4, s4, ?_⟩
        have q4 := q3.shift w3.toOwn e4
        have e14 : Ext B r H1 B4 r4 H4 := e2.tr w.toOwn (e3.tr w2.toOwn e4)
        cases hb1 : b y1.1 y1.2 with
        | none => rw [hb1] at q4; exact q4
        | some o =>
          rw [hb1] at q4
          cases o with
          | nx δ5 h5 => exact fun B5 r5 H5 σ5 e5 w5 s5 => ⟨B5, r5, h5, δ5, e14.tr w.toOwn e5, w5, s5, q4.shift w4.toOwn e5⟩
          | ct δ5 h5 => exact fun B5 r5 H5 σ5 e5 w5 s5 => ⟨B5, r5, h5, δ5, e14.tr w.toOwn e5, w5, s5, q4.shift w4.toOwn e5⟩
          | bk δ5 h5 => exact q4
          | rt u h5 => exact q4
          | ex e δ5 h5 => exact q4
    · have hd : xs.drop i = [] := List.drop_eq_nil_of_le (Nat.le_of_not_lt hlt)
      rw [hd] at q2
      exact .inl ⟨j2 (Nat.le_of_not_lt hlt), OQ.nx w2 s2 q2⟩
/-- while, within n turns -/
def swhl (c : M Bool) (body : S) : Nat → S
  | 0 => fun _ _ => none
  | n + 1 => fun δ h => match c δ h with
    | some (.ok true h1) => match body δ h1 with
      | some (.nx δ2 h2) => swhl c body n δ2 h2
      | some (.ct δ2 h2) => swhl c body n δ2 h2
      | some (.bk δ2 h2) => some (.nx δ2 h2)
      | o => o
    | some (.ok false h1) => some (.nx δ h1)
    | some (.exc e h1) => some (.ex e δ h1)
    | none => none
theorem rs_while {X : Cx} {W : Wj} {pos : Pos} {c : Expr} {body : List Stmt} {fc : M Bool} {b : S} (n : Nat) (hp : PassesOwn (model X.prog X.w) X.A X.env X.xe) (hc : RT X W c fc) (hb : RSs X W body b) : RS X W (.While c body [] pos) (swhl fc b n) :=
  ps_imp (ps_while hp hc hb) fun D σ H ⟨B, r, h, δ, w, s, q⟩ => by
    refine ⟨fun m σ2 H2 => ∃ B2 r2 h2 δ2, Wd (ctX X W) B2 r2 H2 h2 ∧ SlR (ctX X W) B2 r2 H2 σ2 δ2 ∧ OQ (ctX X W) W D B2 r2 H2 (swhl fc b m δ2 h2), ⟨n, B, r, h, δ, w, s, q⟩, ?_⟩
    rintro m σ2 H2 ⟨B2, r2, h2, δ2, w2, s2, q2⟩
    cases m with
    | zero => exact q2.elim
    | succ m =>
      unfold swhl at q2
      refine ⟨B2, r2, h2, δ2, w2, s2, ?_⟩
      cases hf : fc δ2 h2 with
      | none => rw [hf] at q2; exact q2
      | some o =>
        rw [hf] at q2
        cases o with
        | exc e h1 => exact fun B' r' H' cls d ex w' rx => q2 B' r' H' σ2 cls d ex w' (s2.ext ex w2.toOwn) rx
        | ok a h1 =>
          intro B3 r3 H3 v e3 w3 rel
          cases rel
          have q3 := q2.shift w2.toOwn e3
          have s3 := s2.ext e3 w2.toOwn
          cases a with
          | false => exact OQ.nx w3 s3 q3
          | true =>
            refine ⟨fun σ' H' => ∃ B2 r2 h2 δ2, Wd (ctX X W) B2 r2 H' h2 ∧ SlR (ctX X W) B2 r2 H' σ' δ2 ∧ OQ (ctX X W) W D B2 r2 H' (swhl fc b m δ2 h2), fun σ' H' z => ⟨m, Nat.lt_succ_self m, z⟩, ?_⟩
            refine ⟨B3, r3, h1, δ2, w3, s3, ?_⟩
            dsimp only at q3
            cases hb1 : b δ2 h1 with
            | none => rw [hb1] at q3; exact q3
            | some o =>
              rw [hb1] at q3
              cases o with
              | nx δ5 h5 => exact fun B5 r5 H5 σ5 e5 w5 s5 => ⟨B5, r5, h5, δ5, w5, s5, q3.shift w3.toOwn e5⟩
              | ct δ5 h5 => exact fun B5 r5 H5 σ5 e5 w5 s5 => ⟨B5, r5, h5, δ5, w5, s5, q3.shift w3.toOwn e5⟩
              | bk δ5 h5 => exact q3
              | rt u h5 => exact q3
              | ex e δ5 h5 => exact q3
section
variable {C : Ct} {B B' : Bd} {r r' : Rho} {H H' : Hp} {h : Hea} {n : Nat} {a : Addr}
/-- another content at a live address -/
theorem Wd.put (w : Wd C B r H h) (hn : r[n]? = some (some a)) {x : HO} (nt : ∀ vs, ¬ Rd (upd H a x) a (.tup vs)) {o : O} (ro : Ext B r H B r (upd H a x) → RO C B r (upd H a x) a o) :
    Ext B r H B r (upd H a x) ∧ Wd C B r (upd H a x) (h.set n o) := by
  have lv : Lv r a := ⟨n, hn⟩
  have kp : ∀ b u, b ≠ a → H b = some u → upd H a x b = some u := fun b u hb z => by
    rw [upd_ne hb]
    exact z
  have ex : Ext B r H B r (upd H a x) :=
    { rho := fun _ _ z => .inl z
      rnew := fun m b h1 h2 => by
        rw [List.getElem?_eq_none_iff.mpr h1] at h2
        cases h2
      keep := fun b u nl z => kp b u (fun e => nl (e ▸ lv)) z
      bnew := fun _ z => .inl z
      bold := fun _ z _ => z
      there := fun b u z => by
        by_cases hb : b = a
        · subst hb
          exact ⟨x, upd_same⟩
        · exact ⟨u, kp b u hb z⟩
      dom := fun b z => by
        obtain ⟨u, hu⟩ := w.dom b z
        by_cases hb : b = a
        · subst hb
          exact ⟨x, upd_same⟩
        · exact ⟨u, kp b u hb hu⟩ }
  have hlen : n < h.length := by
    rw [← w.len]
    exact (List.getElem?_eq_some_iff.mp hn).1
  refine ⟨ex, { own := w.own, notup := fun b z vs q => ?_, dom := ex.dom, len := by rw [List.length_set]; exact w.len, obj := fun m b z => ?_, gon := fun m z => ?_, inj := w.inj, jx := C.j.st _ _ _ _ _ _ _ w.toOwn ex w.jx }⟩
  · by_cases hb : b = a
    · subst hb
      exact nt vs q
    · obtain ⟨u, hu⟩ := w.dom b z
      exact w.notup b z vs (rd_back hu (fun o ho => kp b o hb ho) q)
  · by_cases hm : n = m
    · subst hm
      rw [hn] at z
      cases z
      exact ⟨o, List.getElem?_set_self hlen, ro ex⟩
    · obtain ⟨u, hu, q⟩ := w.obj m b z
      refine ⟨u, by rw [List.getElem?_set_ne hm]; exact hu, q.ext ex w.toOwn ?_⟩
      exact upd_ne fun e => hm (w.inj n m a hn (e ▸ z))
  · have hm : n ≠ m := fun e => by
      subst e
      rw [hn] at z
      cases z
    rw [List.getElem?_set_ne hm]
    exact w.gon m z
/-- a dictionary -/
def Dcl (u : HO) : Prop := (∃ vs, u = .dK vs) ∨ ∃ φ, u = .ext φ
/-- the thing at a rests: a dict is locked for good -/
def Rest (H : Hp) (a : Addr) (H' : Hp) : Prop := (∀ b, b ≠ a → H' b = H b) ∧ ((H' a = H a ∧ ∀ u, Dcl u → H a ≠ some u) ∨ ∃ u o, Dcl u ∧ H a = some u ∧ H' a = some (.frz o u))
theorem Rest.same (rs : Rest H a H') {u : HO} (e : H a = some u) (ne : ¬ Dcl u) : H' a = some u := by
  rcases rs.2 with ⟨h, _⟩ | ⟨vs, o, d, h, _⟩
  · exact h.trans e
  · rw [h] at e
    cases e
    exact absurd d ne
theorem Rest.dc (rs : Rest H a H') {u : HO} (e : H a = some u) (d : Dcl u) : ∃ o, H' a = some (.frz o u) := by
  rcases rs.2 with ⟨h, n⟩ | ⟨vs, o, _, h, k⟩
  · exact absurd e (n u d)
  · rw [h] at e
    cases e
    exact ⟨o, k⟩
theorem Rest.dk (rs : Rest H a H') {vs : List (Key × V)} (e : H a = some (.dK vs)) : ∃ o, H' a = some (.frz o (.dK vs)) := rs.dc e (.inl ⟨_, rfl⟩)
theorem Rest.there (rs : Rest H a H') {b : Addr} {u : HO} (e : H b = some u) : ∃ u', H' b = some u' := by
  by_cases hb : b = a
  · subst hb
    rcases rs.2 with ⟨h, _⟩ | ⟨vs, o, _, h, k⟩
    · exact ⟨u, h.trans e⟩
    · exact ⟨_, k⟩
  · exact ⟨u, (rs.1 b hb).trans e⟩
theorem Rest.rfl (n : ∀ u, Dcl u → H a ≠ some u) : Rest H a H := ⟨fun _ _ => Eq.refl _, .inl ⟨Eq.refl _, n⟩⟩
/-- .. or: the lock is laid (pe_glk, ps_glk) -/
def Glk (H : Hp) (a : Addr) (P : Hp → Prop) : Prop := P H ∨ ∃ u, H a = some u ∧ Mut (some u) ∧ ∀ od, P (upd H a (.frz od u))
theorem Glk.of {P : Hp → Prop} (q : ∀ H', Rest H a H' → P H') : Glk H a P := by
  by_cases hd : ∃ u, Dcl u ∧ H a = some u
  · obtain ⟨u, d, e⟩ := hd
    refine .inr ⟨_, e, ?_, fun od => q _ ⟨fun b hb => upd_ne hb, .inr ⟨u, od, d, e, upd_same⟩⟩⟩
    rcases d with ⟨_, z⟩ | ⟨_, z⟩ <;> (subst z; trivial)
  · exact .inl (q H (Rest.rfl fun u d e => hd ⟨u, d, e⟩))
theorem ndc_lst {xs : List V} : ¬ Dcl (.lst xs) := fun z => by rcases z with ⟨_, z⟩ | ⟨_, z⟩ <;> cases z
theorem ndc_ins {C dx : Addr} {fs : List (Str × V)} : ¬ Dcl (.ins C dx fs) := fun z => by rcases z with ⟨_, z⟩ | ⟨_, z⟩ <;> cases z
theorem pe_glk {X : Cx} {e : Expr} {t : TE} (h : PE X e t) : PE X e (fun σ H Q => t σ H fun x H1 => Q x H1 ∨ ∃ a, x = .ref a ∧ Glk H1 a (Q x)) := by
  refine ⟨fun pins s σ H Q I hw => ?_⟩
  refine thn (h.run pins s σ _ _ I hw) fun v s1 ⟨x, H1, I1, r, q⟩ => ?_
  rcases q with q | ⟨a, _, q | ⟨u, hu, mu, q⟩⟩
  · exact ⟨x, H1, I1, r, q⟩
  · exact ⟨x, H1, I1, r, q⟩
  · obtain ⟨od, I2⟩ := I1.lock hu mu
    exact ⟨x, _, I2, r, q od⟩
theorem ps_glk {X : Cx} {st : Stmt} {t : TS} (h : PS X st t) : PS X st (fun D σ H => t D σ H ∨ ∃ a, Glk H a (t D σ)) := by
  refine ⟨fun pins s σ H D I hw => ?_⟩
  rcases hw with q | ⟨a, q | ⟨u, hu, mu, q⟩⟩
  · exact h.run pins s σ H D I q
  · exact h.run pins s σ H D I q
  · obtain ⟨od, I1⟩ := I.lock hu mu
    exact h.run pins s σ _ D I1 (q od)
/-- it is not to change from now on -/
theorem Wd.frz (w : Wd C B r H h) (hn : r[n]? = some (some a)) (rs : Rest H a H') :
    Ext B r H (fun b => B b ∧ b ≠ a) (r.set n none) H' ∧ Wd C (fun b => B b ∧ b ≠ a) (r.set n none) H' (h.set n .gone) := by
  have hl : n < r.length := (List.getElem?_eq_some_iff.mp hn).1
  have old : ∀ (m : Nat) b, (r.set n none)[m]? = some (some b) → r[m]? = some (some b) ∧ m ≠ n := fun m b z => by
    by_cases hm : n = m
    · subst hm
      rw [List.getElem?_set_self hl] at z
      cases z
    · rw [List.getElem?_set_ne hm] at z
      exact ⟨z, Ne.symm hm⟩
  have ex : Ext B r H (fun b => B b ∧ b ≠ a) (r.set n none) H' :=
    { rho := fun m x z => by
        by_cases hm : n = m
        · subst hm
          exact .inr (List.getElem?_set_self hl)
        · exact .inl (by rw [List.getElem?_set_ne hm]; exact z)
      rnew := fun m b h1 h2 => by
        rw [List.getElem?_eq_none_iff.mpr (by rw [List.length_set]; exact h1)] at h2
        cases h2
      keep := fun b _ nl z => (rs.1 b fun e => nl (e ▸ ⟨n, hn⟩)).trans z
      bnew := fun _ z => .inl z.1
      bold := fun b z nl => ⟨z, fun e => nl (e ▸ ⟨n, hn⟩)⟩
      there := fun _ u z => rs.there z
      dom := fun b z => let ⟨u, hu⟩ := w.dom b z.1; rs.there hu }
  have hlen : n < h.length := by
    rw [← w.len]
    exact hl
  refine ⟨ex, { own := fun b ⟨m, z⟩ => ?_, notup := fun b z vs q => w.notup b z.1 vs (by unfold Rd at q ⊢; rw [rs.1 b z.2] at q; exact q), dom := ex.dom, len := by rw [List.length_set, List.length_set]; exact w.len, obj := fun m b z => ?_, gon := fun m z => ?_, inj := fun m k b z1 z2 => w.inj m k b (old m b z1).1 (old k b z2).1, jx := C.j.st _ _ _ _ _ _ _ w.toOwn ex w.jx }⟩
  · obtain ⟨z, hm⟩ := old m b z
    exact ⟨w.own b ⟨m, z⟩, fun e => hm (w.inj m n a (e ▸ z) hn)⟩
  · obtain ⟨z, hm⟩ := old m b z
    obtain ⟨u, hu, q⟩ := w.obj m b z
    exact ⟨u, by rw [List.getElem?_set_ne (Ne.symm hm)]; exact hu, q.ext ex w.toOwn (rs.1 b fun e => hm (w.inj m n a (e ▸ z) hn))⟩
  · by_cases hm : n = m
    · subst hm
      exact List.getElem?_set_self hlen
    · rw [List.getElem?_set_ne hm] at z ⊢
      exact w.gon m z
theorem RO.rd (w : Wd C B r H h) (nb : ¬ B' a) (ex : Ext B r H B' r' H') (rs : Rest H a H') : ∀ {o : O} {d : D}, RO C B r H a o → o.view = some d → RD C.toCt0 B' H' d (.ref a)
  | .lst us, d, ⟨vs, hH, q⟩, e => by
    change (allD us).map D.lst = some d at e
    cases z : allD us with
    | none => rw [z] at e; cases e
    | some xs =>
      rw [z] at e
      cases e
      exact .lst ⟨nb, rs.same hH ndc_lst⟩ ((q.allD z).ext ex w.toOwn)
  | .dct us, d, ⟨vs, hH, q⟩, e => by
    change (allK us).map D.dct = some d at e
    cases z : allK us with
    | none => rw [z] at e; cases e
    | some xs =>
      rw [z] at e
      cases e
      exact (let ⟨_, k⟩ := rs.dk hH; .dct nb k ((q.allK z).ext ex w.toOwn))
  | .ins c us, d, ⟨Cd, dx, vs, m, hH, q⟩, e => by
    change (allF us).map (D.ins c) = some d at e
    cases z : allF us with
    | none => rw [z] at e; cases e
    | some xs =>
      rw [z] at e
      cases e
      exact .ins m nb (rs.same hH ndc_ins) ((q.allF z).ext ex w.toOwn)
  | .gone, _, q, _ => q.elim
  | .ndct us, d, ⟨ys, hH, q⟩, e => by
    change (allK us).map D.ndct = some d at e
    cases z : allK us with
    | none => rw [z] at e; cases e
    | some xs =>
      rw [z] at e
      cases e
      exact (let ⟨_, k⟩ := rs.dc hH (.inr ⟨_, rfl⟩); .ndct nb k ((q.allK z).ext ex w.toOwn))
  | .deq us, d, _, e => by cases e
end
def fzE (u : U) : M U := fun _ h => match u with
  | .d x => some (.ok (.d x) h)
  | .loc n => match h[n]? with
    | some o => match o.view with
      | some d => some (.ok (.d d) (h.set n .gone))
      | none => none
    | none => none
  | .tup us => match allD us with
    | some ds => some (.ok (.d (.tup ds)) h)
    | none => none
def fz (f : M U) : M U := mbnd f fzE
theorem t_fz {C : Ct} {W : Wj} {f : M U} {σ : L2.St} {H : Hp} {Q : VK} (t : tI C W (fz f) σ H Q) : tI C W f σ H (fun x H1 => Q x H1 ∨ ∃ a, x = .ref a ∧ Glk H1 a (Q x)) := by
  refine tG.bnd t fun u B r H1 h δ v w s ru q => ?_
  cases ru with
  | d rd => exact .inl (EQ.ret w q (.d rd))
  | @loc n a hn =>
    obtain ⟨o, ho, ro⟩ := w.obj n a hn
    unfold fzE at q
    simp only [ho] at q
    cases hv : o.view with
    | none => rw [hv] at q; exact q.elim
    | some d =>
      simp only [hv] at q
      refine .inr ⟨a, rfl, Glk.of fun H' rs => ?_⟩
      obtain ⟨ex, w'⟩ := w.frz hn rs
      exact q _ _ _ _ ex w' (.d (ro.rd w (fun z => z.2 rfl) ex rs hv))
  | @gone n v hn =>
    unfold fzE at q
    simp only [w.gon n hn] at q
    exact q.elim
  | @tup a us vs hs qs =>
    unfold fzE at q
    cases z : allD us with
    | none => simp only [z] at q; exact q.elim
    | some ds =>
      simp only [z] at q
      exact .inl (EQ.ret w q (.d (.tup hs (qs.allD z))))
theorem re_fz {X : Cx} {W : Wj} {e : Expr} {f : M U} (h : RE X W e f) : RE X W e (fz f) := pe_imp (pe_glk h) fun _ _ _ t => t_fz t
def FQ (C : Ct) (B : Bd) (r : Rho) (H : Hp) (x : Option (R U)) (Q : VK) (E : XK) : Prop :=
  match x with
  | none => False
  | some (.ok u h') => ∀ B' r' H' v, Ext B r H B' r' H' → Wd C B' r' H' h' → RU C B' r' H' u v → Q v H'
  | some (.exc e h') => ∀ B' r' H' cls d, Ext B r H B' r' H' → Wd C B' r' H' h' → RX C.toCt0 B' H' e cls d → E cls d H'
abbrev FM := List U → Hea → Option (R U)
def spM (C : Ct) (np : Nat) (m : FM) : Sp := fun vs H Q E => vs.length = np ∧ ∃ B r h us, Wd C B r H h ∧ RUs C B r H us vs ∧ FQ C B r H (m us h) Q E
mutual
def U.low (n : Nat) : U → Bool
  | .d _ => true
  | .loc m => decide (m < n)
  | .tup us => lowS n us
def lowS (n : Nat) : List U → Bool
  | [] => true
  | u :: us => u.low n && lowS n us
end
def lowK (n : Nat) : List (D × U) → Bool
  | [] => true
  | (_, u) :: us => u.low n && lowK n us
def lowF (n : Nat) : List (Str × U) → Bool
  | [] => true
  | (_, u) :: us => u.low n && lowF n us
def O.low (n : Nat) : O → Bool
  | .lst us => lowS n us
  | .dct us => lowK n us
  | .ins _ us => lowF n us
  | .gone => true
  | .ndct us => lowK n us
  | .deq us => lowS n us
def lowH (n : Nat) : Hea → Bool
  | [] => true
  | o :: h => o.low n && lowH n h
/-- what the def made and let go is forgotten -/
def fin (n : Nat) (u : U) (h : Hea) : Option (R U) := match u with
  | .d x => if lowH n (h.take n) = true then some (.ok (.d x) (h.take n)) else some (.ok (.d x) h)
  | u => some (.ok u h)
def finX (n : Nat) (e : Exn) (h : Hea) : Option (R U) := if lowH n (h.take n) = true then some (.exc e (h.take n)) else some (.exc e h)
/-- a def's mirror by its body's: nn the number of its names -/
def fnM (nn : Nat) (b : S) : FM := fun us h => match b (us.map some ++ List.replicate (nn - us.length) none) h with
  | some (.nx _ h') => fin h.length (.d .non) h'
  | some (.rt u h') => fin h.length u h'
  | some (.ex e _ h') => finX h.length e h'
  | _ => none
section
variable {C : Ct} {B B' : Bd} {r r' : Rho} {H H' : Hp} {h h' : Hea} {n : Nat}
mutual
theorem RU.cut (n : Nat) : ∀ {u : U} {v : V}, RU C B r H u v → u.low n = true → RU C B (r.take n) H u v
  | _, _, .d q, _ => .d q
  | _, _, .loc q, hb => .loc (by
      have hm := of_decide_eq_true hb
      rw [List.getElem?_take_of_lt hm]
      exact q)
  | _, _, .gone q, hb => .gone (by
      have hm := of_decide_eq_true hb
      rw [List.getElem?_take_of_lt hm]
      exact q)
  | _, _, .tup hs q, hb => .tup hs (RUs.cut n q hb)
theorem RUs.cut (n : Nat) : ∀ {us : List U} {vs : List V}, RUs C B r H us vs → lowS n us = true → RUs C B (r.take n) H us vs
  | _, _, .nil, _ => .nil
  | _, _, .cons a b, hb => by
    unfold lowS at hb
    rw [Bool.and_eq_true] at hb
    exact .cons (RU.cut n a hb.1) (RUs.cut n b hb.2)
end
theorem RUk.cut (n : Nat) : ∀ {us : List (D × U)} {vs : List (Key × V)}, RUk C B r H us vs → lowK n us = true → RUk C B (r.take n) H us vs
  | _, _, .nil, _ => .nil
  | _, _, .cons k a b, hb => by
    unfold lowK at hb
    rw [Bool.and_eq_true] at hb
    exact .cons k (RU.cut n a hb.1) (RUk.cut n b hb.2)
theorem RUn.cut (n : Nat) : ∀ {us : List (D × U)} {vs : List NK}, RUn C B r H us vs → lowK n us = true → RUn C B (r.take n) H us vs
  | _, _, .nil, _ => .nil
  | _, _, .cons k c a b, hb => by
    unfold lowK at hb
    rw [Bool.and_eq_true] at hb
    exact .cons k c (RU.cut n a hb.1) (RUn.cut n b hb.2)
theorem RUf.cut (n : Nat) : ∀ {us : List (Str × U)} {vs : List (Str × V)}, RUf C B r H us vs → lowF n us = true → RUf C B (r.take n) H us vs
  | _, _, .nil, _ => .nil
  | _, _, .cons a b, hb => by
    unfold lowF at hb
    rw [Bool.and_eq_true] at hb
    exact .cons (RU.cut n a hb.1) (RUf.cut n b hb.2)
theorem lowH_at : ∀ {h : Hea} {m : Nat} {o : O}, lowH n h = true → h[m]? = some o → o.low n = true
  | [], m, o, _, e => by simp at e
  | x :: h, 0, o, hb, e => by
    unfold lowH at hb
    rw [Bool.and_eq_true] at hb
    cases e
    exact hb.1
  | x :: h, m + 1, o, hb, e => by
    unfold lowH at hb
    rw [Bool.and_eq_true] at hb
    exact lowH_at hb.2 e
theorem RO.cut (n : Nat) {a : Addr} : ∀ {o : O}, RO C B r H a o → o.low n = true → RO C B (r.take n) H a o
  | .lst us, ⟨vs, hH, q⟩, hb => ⟨vs, hH, q.cut n hb⟩
  | .dct us, ⟨vs, hH, q⟩, hb => ⟨vs, hH, q.cut n hb⟩
  | .ins c us, ⟨Cd, dx, vs, m, hH, q⟩, hb => ⟨Cd, dx, vs, m, hH, q.cut n hb⟩
  | .gone, q, _ => q.elim
  | .ndct us, ⟨vs, hH, q⟩, hb => ⟨vs, hH, q.cut n hb⟩
  | .deq us, ⟨vs, hH, q⟩, hb => ⟨vs, hH, q.cut n hb⟩
theorem Wd.cut (w : Wd C B r H h) (hb : lowH n (h.take n) = true) : Wd C B (r.take n) H (h.take n) where
  own := fun a ⟨m, z⟩ => w.own a ⟨m, by
    rw [List.getElem?_take] at z
    split at z
    · exact z
    · cases z⟩
  notup := w.notup
  dom := w.dom
  len := by rw [List.length_take, List.length_take, w.len]
  obj := fun m a z => by
    rw [List.getElem?_take] at z
    split at z
    · rename_i hm
      obtain ⟨o, ho, q⟩ := w.obj m a z
      have e : (h.take n)[m]? = some o := by
        rw [List.getElem?_take_of_lt hm]
        exact ho
      exact ⟨o, e, q.cut n (lowH_at hb e)⟩
    · cases z
  gon := fun m z => by
    rw [List.getElem?_take] at z
    split at z
    · rename_i hm
      rw [List.getElem?_take_of_lt hm]
      exact w.gon m z
    · cases z
  inj := fun m k a z1 z2 => by
    rw [List.getElem?_take] at z1 z2
    split at z1
    · split at z2
      · exact w.inj m k a z1 z2
      · cases z2
    · cases z1
  jx := w.jx
theorem Ext.cut (e : Ext B r H B' r' H') : Ext B r H B' (r'.take r.length) H' where
  rho := fun m x z => by
    have hm : m < r.length := (List.getElem?_eq_some_iff.mp z).1
    rw [List.getElem?_take_of_lt hm]
    exact e.rho m x z
  rnew := fun m a h1 h2 => by
    rw [List.getElem?_take] at h2
    split at h2
    · omega
    · cases h2
  keep := e.keep
  bnew := e.bnew
  bold := e.bold
  there := e.there
  dom := e.dom
end
section
variable {P : Program} {w : World} {K : PySem.W.Frag} {mg : Str → Option Value} {base : Heap}
/-- THE RULE for a def -/
theorem fn_ok {x qual : Str} {st : Stmt} {f : Addr} {fd : FuncData} {N ps : List Str} {k : Nat} {b : S} (F : Fun K x qual st f fd) (Sc : FnScope N ps (defScope st))
    (hb : ∀ (cdv : Value) (A : Around) (outer : List Env) (s : Shared) (H : Hp) (E : XK), Room k (A.deeper (envOfC qual (defScope st) s.heap.objs.size f cdv)) →
      Takes (cxOf (L2.CX P w) P w K mg base N qual (defScope st) f cdv A outer s H E) (fun cls d _ H => E cls d H) →
      PassesOwn (model P w) (cxOf (L2.CX P w) P w K mg base N qual (defScope st) f cdv A outer s H E).A (cxOf (L2.CX P w) P w K mg base N qual (defScope st) f cdv A outer s H E).env (cxOf (L2.CX P w) P w K mg base N qual (defScope st) f cdv A outer s H E).xe →
      RSs (cxOf (L2.CX P w) P w K mg base N qual (defScope st) f cdv A outer s H E) ⟨fun cls d _ H => E cls d H, j0⟩ (defBody st) b) :
    FnOk P w K mg base (L2.CX P w) (k + 1) f fd ps (spM ⟨⟨K, mg, P, w⟩, j0⟩ ps.length (fnM N.length b)) := by
  refine F.okX Sc (fun vs H Q E h => h.1) (fun cdv A outer s H vs Q E hr h => ?_)
  obtain ⟨hl, B, r, hh, us, wd, ru, q⟩ := h
  refine ⟨_, hb cdv A outer s H E hr (takes_of rfl rfl rfl rfl) (passes_of rfl), B, r, hh, us.map some ++ List.replicate (N.length - us.length) none, wd, ⟨?_, fun i u hu => ?_, fun i a z => by cases z⟩, ?_⟩
  · have e := ru.length
    unfold L2.start
    simp only [List.length_append, List.length_map, List.length_replicate, e]
  · have e := ru.length
    have hi : i < us.length := by
      by_cases hi : i < us.length
      · exact hi
      · rw [List.getElem?_append_right (by simpa using hi)] at hu
        rw [List.getElem?_replicate] at hu
        split at hu <;> cases hu
    rw [List.getElem?_append_left (by simpa using hi), List.getElem?_map] at hu
    have hiv : i < vs.length := by rw [← e]; exact hi
    refine ⟨vs[i], ?_, ?_⟩
    · unfold L2.start
      rw [List.getElem?_append_left (by simpa using hiv), List.getElem?_map, List.getElem?_eq_getElem hiv]
      rfl
    · have go : ∀ {us : List U} {vs : List V} (i : Nat) {u v}, RUs ⟨K, mg, P, w⟩ B r H us vs → us[i]? = some u → vs[i]? = some v → RU ⟨K, mg, P, w⟩ B r H u v := by
        intro us vs i
        induction us generalizing vs i with
        | nil => intro u v _ h; simp at h
        | cons x xs ih =>
          intro u v hr h1 h2
          cases hr with
          | cons a b =>
            cases i with
            | zero => cases h1; cases h2; exact a
            | succ i => exact ih i b h1 h2
      rw [List.getElem?_eq_getElem hi] at hu
      cases hu
      exact go i ru (List.getElem?_eq_getElem hi) (List.getElem?_eq_getElem hiv)
  · unfold fnM at q
    have fz : ∀ {u : U} {h'' : Hea} {B' r' H' v}, FQ ⟨⟨K, mg, P, w⟩, j0⟩ B r H (fin hh.length u h'') Q E → Ext B r H B' r' H' → Wd ⟨⟨K, mg, P, w⟩, j0⟩ B' r' H' h'' → RU ⟨K, mg, P, w⟩ B' r' H' u v → Q v H' := by
      intro u h'' B' r' H' v q ex w' rv
      unfold fin at q
      split at q
      · split at q
        · rename_i hbl
          rw [← wd.len] at q hbl
          refine q B' _ H' v ex.cut (w'.cut hbl) ?_
          cases rv with
          | d rd => exact .d rd
        · exact q B' r' H' v ex w' rv
      · exact q B' r' H' v ex w' rv
    generalize hgo : b (us.map some ++ List.replicate (N.length - us.length) none) hh = o at q ⊢
    cases o with
    | none => exact q
    | some o =>
      cases o with
      | nx δ h' => exact fun B' r' H' σ' ex w' _ => fz q ex w' (.d .non)
      | rt u h' => exact fun B' r' H' v ex w' rv => fz q ex w' rv
      | bk δ h' => exact q.elim
      | ct δ h' => exact q.elim
      | ex e δ h' =>
        intro B' r' H' σ' cls d ex w' _ rx
        change FQ ⟨⟨K, mg, P, w⟩, j0⟩ B r H (finX hh.length e h') Q E at q
        unfold finX at q
        split at q
        · rename_i hbl
          rw [← wd.len] at q hbl
          exact q B' _ H' cls d ex.cut (w'.cut hbl) rx
        · exact q B' r' H' cls d ex w' rx
end
/-- a call upon plain data, that gives plain data -/
def pureR (x : Option (R U)) (h : Hea) : Option (R U) := match x with
  | some (.ok (.d d) _) => some (.ok (.d d) h)
  | some (.exc e _) => some (.exc e h)
  | _ => none
def viewS (h : Hea) : List U → Option (List D)
  | [] => some []
  | u :: us => match view h u, viewS h us with
    | some x, some xs => some (x :: xs)
    | _, _ => none
section
variable {C : Ct} {W : Wj} {σ : L2.St} {B B' : Bd} {r r' : Rho} {H H' : Hp} {h : Hea} {δ : Sl} {Q : VK}
/-- a state in which nothing is at hand to be changed -/
theorem Wd.bare (w : Wd C B r H h) : Wd C B [] H [] where
  own := fun a ⟨n, z⟩ => by simp at z
  notup := w.notup
  dom := w.dom
  len := rfl
  obj := fun n a z => by simp at z
  gon := fun n z => by simp at z
  inj := fun n m a z => by simp at z
  jx := w.jx
/-- back from there -/
theorem Ext.gr {h' : Hea} (e : Ext B [] H B' r' H') (w' : Wd C B' r' H' h') : Gr B H B' H' :=
  ⟨fun a o z => e.keep a o (fun ⟨n, q⟩ => by simp at q) z, e.bnew, fun a z => e.bold a z (fun ⟨n, q⟩ => by simp at q), w'.dom, w'.notup⟩
end
/-- in what Ext keeps, locks aside, everything is kept: H has no lock where it had none -/
theorem us_allD {us : List U} : ∀ {ds : List D}, allD us = some ds → us = ds.map .d := by
  induction us with
  | nil => intro ds h; cases h; rfl
  | cons u us ih =>
    intro ds h
    unfold allD at h
    split at h
    · rename_i x xs e1 e2
      cases h
      rw [toD_some e1, ih e2]
      rfl
    · cases h
section
variable {C : Ct} {W : Wj} {σ : L2.St} {B : Bd} {r : Rho} {H : Hp} {h : Hea} {δ : Sl} {Q : VK} {us : List U} {vs : List V} {ds : List D} {m : FM}
theorem RUs.bare {C' : Ct} (hc : C'.toCt0 = C.toCt0) (ru : RUs C B r H us vs) (e : PM.allD us = some ds) : RUs C' B [] H us vs := by
  have q := ru.allD e
  rw [us_allD e]
  rw [← hc] at q
  exact q.us
theorem Wd.bare0 {C' : Ct} (hj : C'.j = j0) (w : Wd C B r H h) : Wd C' B [] H [] where
  own := fun a ⟨n, z⟩ => by simp at z
  notup := w.notup
  dom := w.dom
  len := rfl
  obj := fun n a z => by simp at z
  gon := fun n z => by simp at z
  inj := fun n m a z => by simp at z
  jx := by rw [hj]; trivial
theorem pure_end {C' : Ct} (hc : C'.toCt0 = C.toCt0) {x : Option (R U)} (w : Wd C B r H h) (q : EQ C W σ B r H (pureR x h) (RU C) Q) : FQ C' B [] H x Q (WE W.w σ) := by
  cases x with
  | none => exact q
  | some o =>
    cases o with
    | ok u h' =>
      cases u with
      | d d =>
        intro B' r' H' v ex w' ru
        cases ru with
        | d rd =>
          rw [hc] at rd
          exact EQ.gr w q (ex.gr w') (.d rd)
      | loc n => exact q.elim
      | tup us => exact q.elim
    | exc e h' =>
      intro B' r' H' cls d ex w' rx
      have gr := ex.gr w'
      rw [hc] at rx
      exact q B' r H' cls d gr.ext (gr.wd w) rx
theorem call_end {x : Option (R U)} (q : EQ C W σ B r H x (RU C) Q) : FQ C B r H x Q (WE W.w σ) := by
  cases x with
  | none => exact q
  | some o =>
    cases o with
    | ok u h' => exact q
    | exc e h' => exact q
end
/-- the def that the module's name x holds keeps m -/
structure FnAt (P : Program) (w : World) (K : PySem.W.Frag) (mg : Str → Option Value) (base : Heap) (k : Nat) (x : Str) (np : Nat) (m : FM) : Prop where
  ex : ∃ (f : Addr) (fd : FuncData) (ps : List Str), mg x = some (.ref f) ∧ PySem.W.keepIn K (.ref f) = true ∧ Binds K fd ps [] ∧ FnOk P w K mg base (L2.CX P w) k f fd ps (spM ⟨⟨K, mg, P, w⟩, j0⟩ np m)
def callM (np : Nat) (m : FM) (g : M (List U)) : M U := mbnd g fun us _ h => if us.length = np then m us h else none
def callP (np : Nat) (m : FM) (g : M (List U)) : M U := mbnd g fun us _ h => if us.length = np then (match allD us with
  | some _ => pureR (m us []) h
  | none => none) else none
/-- a call upon things seen as they are now; the answer is no thing that could be one of them -/
def atomD : D → Bool
  | .non => true
  | .bl _ => true
  | .int _ => true
  | .str _ => true
  | _ => false
section
variable {X : Cx} {W : Wj} {k np : Nat} {x : Str} {m : FM} {p pos : Pos} {e : Expr} {es : List Expr} {g : M (List U)}
theorem re_callM (F : FnAt X.prog X.w X.K X.mg X.base k x np m) (hr : Room k X.A) (tk : Takes X W.w) (ha : RA X W (e :: es) g) (hj : W.j = j0 := by rfl) (hg : Gl X x := by rfl) (hdb : (x == ("__debug__" : Str)) = false := by decide)
    (he : starEach (e :: es) X.env = (false, eval e X.env) :: starEach es X.env := by rfl) (hpl : (backTo pos (starEach es X.env)).any (·.1) = false := by rfl) :
    RE X W (.Call (.Name x p) (e :: es) [] pos) (callM np m g) := by
  obtain ⟨f, fd, ps, hm, hk, hb, ok⟩ := F.ex
  refine pe_imp (pe_callS ok hr hg hm hk hb (passAt tk) ha hdb he hpl) fun σ H Q t => tG.bnd t fun us B r H1 h δ vs w s ru q => ?_
  by_cases hl : us.length = np
  · try dsimp only at q
    rw [if_pos hl] at q
    have ec : ctX X W = ⟨⟨X.K, X.mg, X.prog, X.w⟩, j0⟩ := by unfold ctX; rw [hj]
    rw [ec] at w ru q
    exact ⟨ru.length.symm.trans hl, B, r, h, us, w, ru, call_end q⟩
  · try dsimp only at q
    rw [if_neg hl] at q
    exact q.elim
theorem re_callP (F : FnAt X.prog X.w X.K X.mg X.base k x np m) (hr : Room k X.A) (tk : Takes X W.w) (ha : RA X W (e :: es) g) (hg : Gl X x := by rfl) (hdb : (x == ("__debug__" : Str)) = false := by decide)
    (he : starEach (e :: es) X.env = (false, eval e X.env) :: starEach es X.env := by rfl) (hpl : (backTo pos (starEach es X.env)).any (·.1) = false := by rfl) :
    RE X W (.Call (.Name x p) (e :: es) [] pos) (callP np m g) := by
  obtain ⟨f, fd, ps, hm, hk, hb, ok⟩ := F.ex
  refine pe_imp (pe_callS ok hr hg hm hk hb (passAt tk) ha hdb he hpl) fun σ H Q t => tG.bnd t fun us B r H1 h δ vs w s ru q => ?_
  by_cases hl : us.length = np
  · try dsimp only at q
    rw [if_pos hl] at q
    cases hd : allD us with
    | none => rw [hd] at q; exact q.elim
    | some ds =>
      rw [hd] at q
      exact ⟨ru.length.symm.trans hl, B, [], [], us, w.bare0 rfl, RUs.bare (C := ctX X W) rfl ru hd, pure_end (C := ctX X W) (C' := ⟨⟨X.K, X.mg, X.prog, X.w⟩, j0⟩) rfl w q⟩
  · try dsimp only at q
    rw [if_neg hl] at q
    exact q.elim
end
/-- the class of an instance, and whether it has a field so called -/
def insHas (c : Str) (n : Str) (h : Hea) : U → Option Bool
  | .d (.ins c' fs) => if c' = c then some (fs.any fun p => p.1 == n) else none
  | .loc l => match h[l]? with
    | some (.ins c' fs) => if c' = c then some (fs.any fun p => p.1 == n) else none
    | _ => none
  | _ => none
def fldOf (cs : List Str) (n : Str) (h : Hea) : U → Option U
  | .d (.ins c' fs) => if cs.contains c' = true then (fs.lookup n).map .d else none
  | .loc l => match h[l]? with
    | some (.ins c' fs) => if cs.contains c' = true then fs.lookup n else none
    | _ => none
  | _ => none
section
variable {C : Ct} {B : Bd} {r : Rho} {H : Hp} {h : Hea}
theorem RDf.look {C0 : Ct0} {n : Str} : ∀ {fs : List (Str × D)} {vs : List (Str × V)}, RDf C0 B H fs vs → ∀ {d}, fs.lookup n = some d → ∃ v, vs.lookup n = some v ∧ RD C0 B H d v
  | _, _, .nil, d, h => by simp at h
  | _, _, .cons (f := f) (ds := ds) (vs := vs) a b, d, h => by
    rw [List.lookup_cons] at h ⊢
    split at h
    · cases h
      exact ⟨_, rfl, a⟩
    · exact RDf.look b h
theorem RUf.look {n : Str} : ∀ {fs : List (Str × U)} {vs : List (Str × V)}, RUf C B r H fs vs → ∀ {d}, fs.lookup n = some d → ∃ v, vs.lookup n = some v ∧ RU C B r H d v
  | _, _, .nil, d, h => by simp at h
  | _, _, .cons (f := f) (ds := ds) (vs := vs) a b, d, h => by
    rw [List.lookup_cons] at h ⊢
    split at h
    · cases h
      exact ⟨_, rfl, a⟩
    · exact RUf.look b h
theorem RDf.none {C0 : Ct0} {n : Str} : ∀ {fs : List (Str × D)} {vs : List (Str × V)}, RDf C0 B H fs vs → (fs.any fun p => p.1 == n) = false → vs.lookup n = none
  | _, _, .nil, h => rfl
  | _, _, .cons (f := f) a b, h => by
    rw [List.any_cons, Bool.or_eq_false_iff] at h
    rw [List.lookup_cons]
    have e : (n == f) = false := by
      have q := h.1
      simp only [beq_eq_false_iff_ne, ne_eq] at q ⊢
      exact fun z => q z.symm
    rw [e]
    exact RDf.none b h.2
theorem RUf.none {n : Str} : ∀ {fs : List (Str × U)} {vs : List (Str × V)}, RUf C B r H fs vs → (fs.any fun p => p.1 == n) = false → vs.lookup n = none
  | _, _, .nil, h => rfl
  | _, _, .cons (f := f) a b, h => by
    rw [List.any_cons, Bool.or_eq_false_iff] at h
    rw [List.lookup_cons]
    have e : (n == f) = false := by
      have q := h.1
      simp only [beq_eq_false_iff_ne, ne_eq] at q ⊢
      exact fun z => q z.symm
    rw [e]
    exact RUf.none b h.2
theorem insHas_ok {c n : Str} {u : U} {v : V} (w : Wd C B r H h) (ru : RU C B r H u v) (e : insHas c n h u = some false) : ∃ a Cd dx fs, v = .ref a ∧ C.mg c = some (.ref Cd) ∧ H a = some (.ins Cd dx fs) ∧ fs.lookup n = none := by
  cases ru with
  | d rd =>
    cases rd with
    | ins m nb hH q =>
      unfold insHas at e
      dsimp only at e
      split at e
      · rename_i ec
        subst ec
        exact ⟨_, _, _, _, rfl, m, hH, q.none (Option.some.inj e)⟩
      · cases e
    | _ => cases e
  | @loc l a hl =>
    obtain ⟨o, ho, ro⟩ := w.obj l a hl
    unfold insHas at e
    dsimp only at e
    rw [ho] at e
    cases o with
    | ins c' fs =>
      dsimp only at e
      obtain ⟨Cd, dx, vs, m, hH, q⟩ := ro
      split at e
      · rename_i ec
        subst ec
        exact ⟨_, _, _, _, rfl, m, hH, q.none (Option.some.inj e)⟩
      · cases e
    | _ => cases e
  | @gone l v hl =>
    unfold insHas at e
    dsimp only at e
    rw [w.gon l hl] at e
    cases e
  | tup _ _ => cases e
theorem fldOf_ok {cs : List Str} {n : Str} {u x : U} {v : V} (w : Wd C B r H h) (ru : RU C B r H u v) (e : fldOf cs n h u = some x) : ∃ a c Cd dx fs y, v = .ref a ∧ c ∈ cs ∧ C.mg c = some (.ref Cd) ∧ H a = some (.ins Cd dx fs) ∧ fs.lookup n = some y ∧ RU C B r H x y := by
  cases ru with
  | d rd =>
    cases rd with
    | @ins a Cd dx c ds vs m nb hH q =>
      unfold fldOf at e
      dsimp only at e
      split at e
      · rename_i ec
        cases hf : ds.lookup n with
        | none => rw [hf] at e; cases e
        | some d =>
          rw [hf] at e
          cases e
          obtain ⟨y, h1, h2⟩ := q.look hf
          exact ⟨a, c, Cd, dx, vs, y, rfl, by simpa using ec, m, hH, h1, .d h2⟩
      · cases e
    | _ => cases e
  | @loc l a hl =>
    obtain ⟨o, ho, ro⟩ := w.obj l a hl
    unfold fldOf at e
    dsimp only at e
    rw [ho] at e
    cases o with
    | ins c' fs =>
      dsimp only at e
      obtain ⟨Cd, dx, vs, m, hH, q⟩ := ro
      split at e
      · rename_i ec
        obtain ⟨y, h1, h2⟩ := q.look e
        exact ⟨a, c', Cd, dx, vs, y, rfl, by simpa using ec, m, hH, h1, h2⟩
      · cases e
    | _ => cases e
  | @gone l v hl =>
    unfold fldOf at e
    dsimp only at e
    rw [w.gon l hl] at e
    cases e
  | tup _ _ => cases e
end
/-- e.n may be read of instances of the classes -/
def FldAt (K : PySem.W.Frag) (mg : Str → Option Value) (cs : List Str) (n : Str) : Prop := ∀ c ∈ cs, ∀ Cd, mg c = some (.ref Cd) → Cls K Cd ∧ NoAttr K Cd n
def fldE (cs : List Str) (n : Str) (f : M U) : M U := mbnd f fun u _ h => match fldOf cs n h u with
  | some x => some (.ok x h)
  | none => none
section
variable {X : Cx} {W : Wj} {pos : Pos} {e : Expr} {f : M U} {cs : List Str} {n : Str}
theorem re_fld (hF : FldAt X.K X.mg cs n) (he : RE X W e f) (hb : attributeBase e n X.env (eval e X.env) = eval e X.env := by rfl) : RE X W (.Attribute e n pos) (fldE cs n f) :=
  pe_imp (pe_fld he hb) fun σ H Q t => tG.bnd t fun u B r H1 h δ v w s ru q => by
    try dsimp only at q
    cases hx : fldOf cs n h u with
    | none => rw [hx] at q; exact q.elim
    | some x =>
      rw [hx] at q
      obtain ⟨a, c, Cd, dx, fs, y, e1, hc, m, hH, hl, ry⟩ := fldOf_ok w ru hx
      obtain ⟨k1, k2⟩ := hF c hc Cd m
      exact ⟨a, Cd, dx, fs, y, e1, hH, k1, k2, hl, EQ.ret w q ry⟩
end
/-- o.m(..), at the caller's slots -/
def tMethS (C : Addr) (m : Str) (sp : Sp) (E : L2.St → XK) (ta : TE) (t : TA) : TE := fun σ H Q => ta σ H fun x H1 => ∃ a dx fs, x = .ref a ∧ H1 a = some (.ins C dx fs) ∧ fs.lookup m = none ∧
  t σ H1 fun vs H2 => sp (x :: vs) H2 Q (E σ)
section
variable {X : Cx} {CX : CXT} {k : Nat} {f C : Addr} {fd : FuncData} {ps : List Str} {sp : Sp} {E : L2.St → XK} {m : Str} {pos apos : Pos} {e o : Expr} {es : List Expr} {ta : TE} {t : TA}
theorem pe_methS {pl : Sem Bool} (he : PE X o ta) (c : Cls X.K C) (hm : Meth X.K C m f) (F : FnOk X.prog X.w X.K X.mg X.base CX k f fd ps sp) (hr : Room k X.A) (hb : Binds X.K fd ps []) (hx : ∀ σ, PassesAt CX X σ (E σ)) (ha : PA X (e :: es) t)
    (hst : starEach (e :: es) X.env = (false, eval e X.env) :: starEach es X.env := by rfl) (hpl : (backTo pos (starEach es X.env)).any (·.1) = false := by rfl)
    (ht : eval (.Call (.Attribute o m apos) (e :: es) [] pos) X.env = (do
      let ov ← eval o X.env
      standAt apos.atName
      let (f, first) ← holding [ov] (getMethod ov m pl)
      callWith pos f first (backTo pos (starEach (e :: es) X.env)) (backToKw pos (keywordEach [] X.env))) := by rfl) :
    PE X (.Call (.Attribute o m apos) (e :: es) [] pos) (tMethS C m sp E ta t) := by
  refine ⟨fun pins s σ H Q I h => ?_⟩
  refine PySem.W.methodCall_KW (pl := pl) (thn (he.run pins s σ H _ I h) fun u s1 ⟨x, H1, I1, rx, a, dx, fs, ex, ea, l, q⟩ => ?_) ht
  subst ex
  obtain rfl : u = Value.ref a := rx
  refine getmeth_ok I1 ea c hm l ?_
  refine PySem.W.callWith_K (first := [.ref a]) (h₀ := X.base) I.ok.mod.kin hm.kp (thn (ha.run pos pins s1 σ H1 _ I1 q) fun us s2 ⟨vs, H2, I2, r, q2⟩ => ⟨I2.kIn, ?_⟩) hst hpl
  exact run_fnS (us := .ref a :: us) (vs := .ref a :: vs) F hr hb (hx σ) I2 (.cons rfl r) q2
theorem pe_methS0 {pl : Sem Bool} (he : PE X o ta) (c : Cls X.K C) (hm : Meth X.K C m f) (F : FnOk X.prog X.w X.K X.mg X.base CX k f fd ps sp) (hr : Room k X.A) (hb : Binds X.K fd ps []) (hx : ∀ σ, PassesAt CX X σ (E σ))
    (ht : eval (.Call (.Attribute o m apos) [] [] pos) X.env = (do
      let ov ← eval o X.env
      standAt apos.atName
      let (f, first) ← holding [ov] (getMethod ov m pl)
      callWith pos f first (backTo pos (starEach [] X.env)) (backToKw pos (keywordEach [] X.env))) := by rfl) :
    PE X (.Call (.Attribute o m apos) [] [] pos) (tMethS C m sp E ta tNil) := by
  refine ⟨fun pins s σ H Q I h => ?_⟩
  refine PySem.W.methodCall_KW (pl := pl) (thn (he.run pins s σ H _ I h) fun u s1 ⟨x, H1, I1, rx, a, dx, fs, ex, ea, l, q⟩ => ?_) ht
  subst ex
  obtain rfl : u = Value.ref a := rx
  refine getmeth_ok I1 ea c hm l ?_
  exact PySem.W.callWith_K0 (first := [.ref a]) I1.kIn hm.kp (run_fnS (us := [.ref a]) (vs := [.ref a]) F hr hb (hx σ) I1 (.cons rfl .nil) q)
end
/-- the method mn of the class c keeps m -/
structure MtAt (P : Program) (w : World) (K : PySem.W.Frag) (mg : Str → Option Value) (base : Heap) (k : Nat) (c mn : Str) (np : Nat) (m : FM) : Prop where
  ex : ∃ (C f : Addr) (fd : FuncData) (ps : List Str), mg c = some (.ref C) ∧ Cls K C ∧ Meth K C mn f ∧ Binds K fd ps [] ∧ FnOk P w K mg base (L2.CX P w) k f fd ps (spM ⟨⟨K, mg, P, w⟩, j0⟩ np m)
def methM (c mn : Str) (np : Nat) (m : FM) (fo : M U) (g : M (List U)) : M U := mbnd fo fun o δ h => if insHas c mn h o = some false then
  mbnd g (fun us _ h => if us.length + 1 = np then m (o :: us) h else none) δ h else none
def methP (c mn : Str) (np : Nat) (m : FM) (fo : M U) (g : M (List U)) : M U := mbnd fo fun o δ h => if insHas c mn h o = some false then
  mbnd g (fun us _ h => if us.length + 1 = np then (match allD (o :: us) with
    | some _ => pureR (m (o :: us) []) h
    | none => none) else none) δ h else none
section
variable {X : Cx} {W : Wj} {k np : Nat} {c mn : Str} {m : FM} {apos pos : Pos} {e o : Expr} {es : List Expr} {fo : M U} {g : M (List U)}
theorem t_meth {Cd : Addr} {f : Addr} {np : Nat} {σ : L2.St} {H : Hp} {Q : VK} (hm : X.mg c = some (.ref Cd)) (hj : W.j = j0) (t : tI (ctX X W) W (methM c mn np m fo g) σ H Q) : tMethS Cd mn (spM ⟨⟨X.K, X.mg, X.prog, X.w⟩, j0⟩ np m) (WE W.w) (tI (ctX X W) W fo) (tA (ctX X W) W g) σ H Q := by
  refine tG.bnd t fun u B r H1 h δ v w s ru q => ?_
  try dsimp only at q
  by_cases hi : insHas c mn h u = some false
  · rw [if_pos hi] at q
    obtain ⟨a, Cd', dx, fs, e1, m1, hH, hl⟩ := insHas_ok w ru hi
    have e2 : Cd' = Cd := by
      have z : X.mg c = some (.ref Cd') := m1
      rw [hm] at z
      cases z
      rfl
    subst e2
    refine ⟨a, dx, fs, e1, hH, hl, B, r, h, δ, w, s, q.bnd w s fun us B2 r2 H2 h2 vs e2 w2 s2 rus q2 => ?_⟩
    try dsimp only at q2
    by_cases hl : us.length + 1 = np
    · rw [if_pos hl] at q2
      have ec : ctX X W = ⟨⟨X.K, X.mg, X.prog, X.w⟩, j0⟩ := by unfold ctX; rw [hj]
      have ru2 := ru.ext e2 w.toOwn
      rw [ec] at w2 ru2 rus q2
      exact ⟨by rw [← hl, List.length_cons, rus.length], B2, r2, h2, _, w2, .cons ru2 rus, call_end q2⟩
    · rw [if_neg hl] at q2
      exact q2.elim
  · rw [if_neg hi] at q
    exact q.elim
theorem t_methP {Cd : Addr} {np : Nat} {σ : L2.St} {H : Hp} {Q : VK} (hm : X.mg c = some (.ref Cd)) (t : tI (ctX X W) W (methP c mn np m fo g) σ H Q) : tMethS Cd mn (spM ⟨⟨X.K, X.mg, X.prog, X.w⟩, j0⟩ np m) (WE W.w) (tI (ctX X W) W fo) (tA (ctX X W) W g) σ H Q := by
  refine tG.bnd t fun u B r H1 h δ v w s ru q => ?_
  try dsimp only at q
  by_cases hi : insHas c mn h u = some false
  · rw [if_pos hi] at q
    obtain ⟨a, Cd', dx, fs, e1, m1, hH, hl⟩ := insHas_ok w ru hi
    have e2 : Cd' = Cd := by
      have z : X.mg c = some (.ref Cd') := m1
      rw [hm] at z
      cases z
      rfl
    subst e2
    refine ⟨a, dx, fs, e1, hH, hl, B, r, h, δ, w, s, q.bnd w s fun us B2 r2 H2 h2 vs e2 w2 s2 rus q2 => ?_⟩
    try dsimp only at q2
    by_cases hl : us.length + 1 = np
    · rw [if_pos hl] at q2
      have ru2 := ru.ext e2 w.toOwn
      cases hd : allD (u :: us) with
      | none => rw [hd] at q2; exact q2.elim
      | some ds =>
        rw [hd] at q2
        exact ⟨by rw [← hl, List.length_cons, rus.length], B2, [], [], _, w2.bare0 rfl, RUs.bare (C := ctX X W) rfl (.cons ru2 rus) hd, pure_end (C := ctX X W) (C' := ⟨⟨X.K, X.mg, X.prog, X.w⟩, j0⟩) rfl w2 q2⟩
    · rw [if_neg hl] at q2
      exact q2.elim
  · rw [if_neg hi] at q
    exact q.elim
theorem re_methM {pl : Sem Bool} (F : MtAt X.prog X.w X.K X.mg X.base k c mn np m) (hr : Room k X.A) (tk : Takes X W.w) (ho : RE X W o fo) (ha : RA X W (e :: es) g) (hj : W.j = j0 := by rfl)
    (hst : starEach (e :: es) X.env = (false, eval e X.env) :: starEach es X.env := by rfl) (hpl : (backTo pos (starEach es X.env)).any (·.1) = false := by rfl)
    (ht : eval (.Call (.Attribute o mn apos) (e :: es) [] pos) X.env = (do
      let ov ← eval o X.env
      standAt apos.atName
      let (f, first) ← holding [ov] (getMethod ov mn pl)
      callWith pos f first (backTo pos (starEach (e :: es) X.env)) (backToKw pos (keywordEach [] X.env))) := by rfl) : RE X W (.Call (.Attribute o mn apos) (e :: es) [] pos) (methM c mn np m fo g) := by
  obtain ⟨Cd, f, fd, ps, hm, hc, hmt, hb, ok⟩ := F.ex
  exact pe_imp (pe_methS ho hc hmt ok hr hb (passAt tk) ha hst hpl ht) fun σ H Q t => t_meth (f := f) hm hj t
theorem re_methP {pl : Sem Bool} (F : MtAt X.prog X.w X.K X.mg X.base k c mn np m) (hr : Room k X.A) (tk : Takes X W.w) (ho : RE X W o fo) (ha : RA X W (e :: es) g)
    (hst : starEach (e :: es) X.env = (false, eval e X.env) :: starEach es X.env := by rfl) (hpl : (backTo pos (starEach es X.env)).any (·.1) = false := by rfl)
    (ht : eval (.Call (.Attribute o mn apos) (e :: es) [] pos) X.env = (do
      let ov ← eval o X.env
      standAt apos.atName
      let (f, first) ← holding [ov] (getMethod ov mn pl)
      callWith pos f first (backTo pos (starEach (e :: es) X.env)) (backToKw pos (keywordEach [] X.env))) := by rfl) : RE X W (.Call (.Attribute o mn apos) (e :: es) [] pos) (methP c mn np m fo g) := by
  obtain ⟨Cd, f, fd, ps, hm, hc, hmt, hb, ok⟩ := F.ex
  exact pe_imp (pe_methS ho hc hmt ok hr hb (passAt tk) ha hst hpl ht) fun σ H Q t => t_methP hm t
theorem t_nil {C : Ct} {σ : L2.St} {H : Hp} {Q : List V → Hp → Prop} (t : tA C W mnil σ H Q) : tNil σ H Q := by
  obtain ⟨B, r, h, δ, w, s, q⟩ := t
  exact EQ.ret w q .nil
theorem tG.imp {C : Ct} {α β : Type} {Rel : Bd → Rho → Hp → α → β → Prop} {f : M α} {σ : L2.St} {H : Hp} {Q Q' : β → Hp → Prop} (t : tG C W Rel f σ H Q) (i : ∀ b H, Q b H → Q' b H) : tG C W Rel f σ H Q' := by
  obtain ⟨B, r, h, δ, w, s, q⟩ := t
  refine ⟨B, r, h, δ, w, s, ?_⟩
  cases hx : f δ h with
  | none => rw [hx] at q; exact q
  | some o =>
    rw [hx] at q
    cases o with
    | ok a h' => exact fun B' r' H' v a b c => i _ _ (q B' r' H' v a b c)
    | exc e h' => exact q
theorem re_methM0 {pl : Sem Bool} (F : MtAt X.prog X.w X.K X.mg X.base k c mn np m) (hr : Room k X.A) (tk : Takes X W.w) (ho : RE X W o fo) (hj : W.j = j0 := by rfl)
    (ht : eval (.Call (.Attribute o mn apos) [] [] pos) X.env = (do
      let ov ← eval o X.env
      standAt apos.atName
      let (f, first) ← holding [ov] (getMethod ov mn pl)
      callWith pos f first (backTo pos (starEach [] X.env)) (backToKw pos (keywordEach [] X.env))) := by rfl) : RE X W (.Call (.Attribute o mn apos) [] [] pos) (methM c mn np m fo mnil) := by
  obtain ⟨Cd, f, fd, ps, hm, hc, hmt, hb, ok⟩ := F.ex
  refine pe_imp (pe_methS0 ho hc hmt ok hr hb (passAt tk) ht) fun σ H Q t => ?_
  exact tG.imp (t_meth (f := f) hm hj t) fun x H1 ⟨a, dx, fs, h1, h2, h3, h4⟩ => ⟨a, dx, fs, h1, h2, h3, t_nil h4⟩
theorem re_methP0 {pl : Sem Bool} (F : MtAt X.prog X.w X.K X.mg X.base k c mn np m) (hr : Room k X.A) (tk : Takes X W.w) (ho : RE X W o fo)
    (ht : eval (.Call (.Attribute o mn apos) [] [] pos) X.env = (do
      let ov ← eval o X.env
      standAt apos.atName
      let (f, first) ← holding [ov] (getMethod ov mn pl)
      callWith pos f first (backTo pos (starEach [] X.env)) (backToKw pos (keywordEach [] X.env))) := by rfl) : RE X W (.Call (.Attribute o mn apos) [] [] pos) (methP c mn np m fo mnil) := by
  obtain ⟨Cd, f, fd, ps, hm, hc, hmt, hb, ok⟩ := F.ex
  refine pe_imp (pe_methS0 ho hc hmt ok hr hb (passAt tk) ht) fun σ H Q t => ?_
  exact tG.imp (t_methP hm t) fun x H1 ⟨a, dx, fs, h1, h2, h3, h4⟩ => ⟨a, dx, fs, h1, h2, h3, t_nil h4⟩
end
def seqL : U → Option (List U)
  | .d (.lst ds) => some (ds.map .d)
  | _ => none
def seqT : U → Option (List U)
  | .d (.tup ds) => some (ds.map .d)
  | _ => none
def itE (s : U → Option (List U)) (f : M U) : M (List U) := mbnd f fun u _ h => match s u with
  | some xs => some (.ok xs h)
  | none => none
section
variable {C : Ct} {B : Bd} {r : Rho} {H : Hp} {h : Hea}
theorem RDs.at_ {C0 : Ct0} : ∀ {ds : List D} {vs : List V} (i : Nat) {v}, RDs C0 B H ds vs → vs[i]? = some v → ∃ d, ds[i]? = some d ∧ RD C0 B H d v
  | _, _, _, _, .nil, h => by simp at h
  | _, _, 0, _, .cons a b, h => by
    cases h
    exact ⟨_, rfl, a⟩
  | _, _, i + 1, _, .cons a b, h => by
    obtain ⟨d, h1, h2⟩ := RDs.at_ i b h
    exact ⟨d, by simpa using h1, h2⟩
theorem seqL_ok {u : U} {v : V} {xs : List U} (ru : RU C B r H u v) (e : seqL u = some xs) : ∃ a vs ds, v = .ref a ∧ Fr B H a vs ∧ RDs C.toCt0 B H ds vs ∧ xs = ds.map .d := by
  cases ru with
  | d rd =>
    cases rd with
    | lst hs q =>
      cases e
      exact ⟨_, _, _, rfl, hs, q, rfl⟩
    | _ => cases e
  | _ => cases e
theorem seqT_ok {u : U} {v : V} {xs : List U} (ru : RU C B r H u v) (e : seqT u = some xs) : ∃ a vs ds, v = .ref a ∧ SqT C.K H a vs ∧ RDs C.toCt0 B H ds vs ∧ xs = ds.map .d := by
  cases ru with
  | d rd =>
    cases rd with
    | tup hs q =>
      cases e
      exact ⟨_, _, _, rfl, hs, q, rfl⟩
    | _ => cases e
  | _ => cases e
theorem ylds_list {a : Addr} {vs : List V} {ds : List D} (w : Wd C B r H h) (hs : Fr B H a vs) (q : RDs C.toCt0 B H ds vs) : Ylds C B r H (ds.map .d) (Itl C.K a) := fun B1 r1 H1 h1 i e w1 => by
  have hs1 : SqL C.K H1 _ _ := (e.fr w.own hs).seq
  have q1 := q.ext e w.toOwn
  have hl : (ds.map U.d).length = vs.length := by rw [List.length_map, q.length]
  refine ⟨fun hi => ?_, fun hi => ⟨vs, hs1, by omega⟩⟩
  have hv : vs[i]? = some vs[i] := List.getElem?_eq_getElem (by omega)
  refine ⟨⟨vs, _, hs1, hv⟩, fun x H2 ⟨eH, y⟩ => ?_⟩
  subst eH
  obtain ⟨d, h1, h2⟩ := q1.at_ i (y vs hs1)
  exact ⟨B1, w1.toOwn.gr, .d d, by rw [List.getElem?_map, h1]; rfl, .d h2⟩
theorem ylds_tup {a : Addr} {vs : List V} {ds : List D} (w : Wd C B r H h) (hs : SqT C.K H a vs) (q : RDs C.toCt0 B H ds vs) : Ylds C B r H (ds.map .d) (Itt C.K a) := fun B1 r1 H1 h1 i e w1 => by
  have hs1 := e.sqT w.lvt hs
  have q1 := q.ext e w.toOwn
  have hl : (ds.map U.d).length = vs.length := by rw [List.length_map, q.length]
  refine ⟨fun hi => ?_, fun hi => ⟨vs, hs1, by omega⟩⟩
  have hv : vs[i]? = some vs[i] := List.getElem?_eq_getElem (by omega)
  refine ⟨⟨vs, _, hs1, hv⟩, fun x H2 ⟨eH, y⟩ => ?_⟩
  subst eH
  obtain ⟨d, h1, h2⟩ := q1.at_ i (y vs hs1)
  exact ⟨B1, w1.toOwn.gr, .d d, by rw [List.getElem?_map, h1]; rfl, .d h2⟩
/-- a new pair -/
theorem pair_new {B1 : Bd} {r1 : Rho} {H1 : Hp} {h1 : Hea} (w1 : Wd C B1 r1 H1 h1) {T : Addr} (hT : H1 T = none) {x y : V} {d e : D} (rx : RD C.toCt0 B1 H1 d x) (ry : RD C.toCt0 B1 H1 e y) :
    Gr B1 H1 B1 (upd H1 T (.tup [x, y])) ∧ RU C B1 r1 (upd H1 T (.tup [x, y])) (.d (.tup [d, e])) (.ref T) := by
  have g := w1.toOwn.new hT (.tup [x, y])
  exact ⟨g, .d (.tup (SqT.of upd_same) (.cons (rx.ext (g.ext (r := r1)) w1.toOwn) (.cons (ry.ext (g.ext (r := r1)) w1.toOwn) .nil)))⟩
def enumD : Nat → List D → List U
  | _, [] => []
  | i, d :: ds => .d (.tup [.int i, d]) :: enumD (i + 1) ds
theorem enumD_len : ∀ (i : Nat) (ds : List D), (enumD i ds).length = ds.length
  | _, [] => rfl
  | i, _ :: ds => congrArg (· + 1) (enumD_len (i + 1) ds)
theorem enumD_at : ∀ (i j : Nat) (ds : List D) {d : D}, ds[j]? = some d → (enumD i ds)[j]? = some (.d (.tup [.int ((i + j : Nat) : Int), d]))
  | _, _, [], _, h => by simp at h
  | i, 0, _ :: ds, d, h => by
    cases h
    rfl
  | i, j + 1, x :: ds, d, h => by
    have q := enumD_at (i + 1) j ds (d := d) (by simpa using h)
    have e : i + 1 + j = i + (j + 1) := by omega
    rw [e] at q
    simpa [enumD] using q
theorem ylds_enum {a : Addr} {vs : List V} {ds : List D} (w : Wd C B r H h) (hs : Fr B H a vs) (q : RDs C.toCt0 B H ds vs) : Ylds C B r H (enumD 0 ds) (Ite C.K a) := fun B1 r1 H1 h1 i e w1 => by
  have hs1 : SqL C.K H1 _ _ := (e.fr w.own hs).seq
  have q1 := q.ext e w.toOwn
  have hl : (enumD 0 ds).length = vs.length := by rw [enumD_len, q.length]
  refine ⟨fun hi => ?_, fun hi => ⟨vs, hs1, by omega⟩⟩
  have hv : vs[i]? = some vs[i] := List.getElem?_eq_getElem (by omega)
  refine ⟨⟨vs, _, hs1, hv⟩, fun x H2 ⟨T, x', ex, hT, eH, y⟩ => ?_⟩
  subst eH ex
  obtain ⟨d, h1, h2⟩ := q1.at_ i (y vs hs1)
  obtain ⟨g, ru⟩ := pair_new w1 hT (.int (i : Nat)) h2
  have z := enumD_at 0 i ds h1
  rw [Nat.zero_add] at z
  exact ⟨B1, g, _, z, ru⟩
def zipD : List D → List D → List U
  | d :: ds, e :: es => .d (.tup [d, e]) :: zipD ds es
  | _, _ => []
theorem zipD_len : ∀ (ds es : List D), (zipD ds es).length = min ds.length es.length
  | [], es => by simp [zipD]
  | _ :: _, [] => by simp [zipD]
  | _ :: ds, _ :: es => by
    show (zipD ds es).length + 1 = min (ds.length + 1) (es.length + 1)
    rw [zipD_len ds es]
    omega
theorem zipD_at : ∀ (j : Nat) (ds es : List D) {d e : D}, ds[j]? = some d → es[j]? = some e → (zipD ds es)[j]? = some (.d (.tup [d, e]))
  | _, [], _, _, _, h, _ => by simp at h
  | _, _ :: _, [], _, _, _, h => by simp at h
  | 0, _ :: _, _ :: _, _, _, h, k => by
    cases h
    cases k
    rfl
  | j + 1, _ :: ds, _ :: es, d, e, h, k => by
    have q := zipD_at j ds es (d := d) (e := e) (by simpa using h) (by simpa using k)
    simpa [zipD] using q
theorem ylds_zip {a b : Addr} {vs us : List V} {ds es : List D} (w : Wd C B r H h) (hs : Fr B H a vs) (q : RDs C.toCt0 B H ds vs) (hs' : Fr B H b us) (q' : RDs C.toCt0 B H es us) : Ylds C B r H (zipD ds es) (Itz C.K a b) := fun B1 r1 H1 h1 i e w1 => by
  have hs1 : SqL C.K H1 _ _ := (e.fr w.own hs).seq
  have q1 := q.ext e w.toOwn
  have hs2 : SqL C.K H1 _ _ := (e.fr w.own hs').seq
  have q2 := q'.ext e w.toOwn
  have hl : (zipD ds es).length = min vs.length us.length := by rw [zipD_len, q.length, q'.length]
  refine ⟨fun hi => ?_, fun hi => ⟨vs, us, hs1, hs2, by omega⟩⟩
  have hv : vs[i]? = some vs[i] := List.getElem?_eq_getElem (by omega)
  have hu : us[i]? = some us[i] := List.getElem?_eq_getElem (by omega)
  refine ⟨⟨vs, us, _, _, hs1, hs2, hv, hu⟩, fun x H2 ⟨T, x', y', ex, hT, eH, y, z⟩ => ?_⟩
  subst eH ex
  obtain ⟨d, h1, h2⟩ := q1.at_ i (y vs hs1)
  obtain ⟨d', h3, h4⟩ := q2.at_ i (z us hs2)
  obtain ⟨g, ru⟩ := pair_new w1 hT h2 h4
  exact ⟨B1, g, _, zipD_at i ds es h1 h3, ru⟩
theorem ylds_zipT {a b : Addr} {vs us : List V} {ds es : List D} (w : Wd C B r H h) (hs : SqT C.K H a vs) (q : RDs C.toCt0 B H ds vs) (hs' : SqT C.K H b us) (q' : RDs C.toCt0 B H es us) : Ylds C B r H (zipD ds es) (RZ.ItzT C.K a b) := fun B1 r1 H1 h1 i e w1 => by
  have hs1 := e.sqT w.lvt hs
  have q1 := q.ext e w.toOwn
  have hs2 := e.sqT w.lvt hs'
  have q2 := q'.ext e w.toOwn
  have hl : (zipD ds es).length = min vs.length us.length := by rw [zipD_len, q.length, q'.length]
  refine ⟨fun hi => ?_, fun hi => ⟨vs, us, hs1, hs2, by omega⟩⟩
  have hv : vs[i]? = some vs[i] := List.getElem?_eq_getElem (by omega)
  have hu : us[i]? = some us[i] := List.getElem?_eq_getElem (by omega)
  refine ⟨⟨vs, us, _, _, hs1, hs2, hv, hu⟩, fun x H2 ⟨T, x', y', ex, hT, eH, y, z⟩ => ?_⟩
  subst eH ex
  obtain ⟨d, h1, h2⟩ := q1.at_ i (y vs hs1)
  obtain ⟨d', h3, h4⟩ := q2.at_ i (z us hs2)
  obtain ⟨g, ru⟩ := pair_new w1 hT h2 h4
  exact ⟨B1, g, _, zipD_at i ds es h1 h3, ru⟩
def rngD (lo : Int) : Nat → List U
  | 0 => []
  | n + 1 => .d (.int lo) :: rngD (lo + 1) n
theorem rngD_len : ∀ (n : Nat) (lo : Int), (rngD lo n).length = n
  | 0, _ => rfl
  | n + 1, lo => congrArg (· + 1) (rngD_len n (lo + 1))
theorem rngD_at : ∀ (n : Nat) (lo : Int) (i : Nat), i < n → (rngD lo n)[i]? = some (.d (.int (lo + i)))
  | 0, _, _, h => absurd h (Nat.not_lt_zero _)
  | n + 1, lo, 0, _ => by simp [rngD]
  | n + 1, lo, i + 1, h => by
    have q := rngD_at n (lo + 1) i (by omega)
    have e : lo + 1 + (i : Int) = lo + ((i + 1 : Nat) : Int) := by omega
    rw [e] at q
    simpa [rngD] using q
theorem ylds_rng {lo : Int} {n : Nat} : Ylds C B r H (rngD lo n) (Itr lo n) := fun B1 r1 H1 h1 i e w1 => by
  refine ⟨fun hi => ?_, fun hi => by rw [rngD_len] at hi; exact hi⟩
  rw [rngD_len] at hi
  refine ⟨hi, fun x H2 ⟨eH, ex⟩ => ?_⟩
  subst eH ex
  exact ⟨B1, w1.toOwn.gr, _, rngD_at n lo i hi, .d (.int _)⟩
def strD (x : Str) : List U := x.cps.toList.map fun c => .d (.str ⟨#[c]⟩)
theorem ylds_str {x : Str} : Ylds C B r H (strD x) (Its x) := fun B1 r1 H1 h1 i e w1 => by
  have hl : (strD x).length = x.cps.size := by simp [strD]
  refine ⟨fun hi => ?_, fun hi => by rw [hl] at hi; exact hi⟩
  rw [hl] at hi
  refine ⟨hi, fun y H2 ⟨eH, c, hc, ey⟩ => ?_⟩
  subst eH ey
  refine ⟨B1, w1.toOwn.gr, .d (.str ⟨#[c]⟩), ?_, .d (.str _)⟩
  unfold strD
  rw [List.getElem?_map, Array.getElem?_toList, hc]
  rfl
end
def itStr : U → Option (List U)
  | .d (.str x) => some (strD x)
  | _ => none
def enumL : U → Option (List U)
  | .d (.lst ds) => some (enumD 0 ds)
  | _ => none
def it1 (s : U → Option (List U)) (g : M (List U)) : M (List U) := mbnd g fun us _ h => match us with
  | [u] => (match s u with
    | some xs => some (.ok xs h)
    | none => none)
  | _ => none
def zipL : List U → Option (List U)
  | [.d (.lst ds), .d (.lst es)] => some (zipD ds es)
  | [.d (.tup ds), .d (.tup es)] => some (zipD ds es)
  | _ => none
def itN (s : List U → Option (List U)) (g : M (List U)) : M (List U) := mbnd g fun us _ h => match s us with
  | some xs => some (.ok xs h)
  | none => none
def rng62 (i : Int) : Bool := decide (-4611686018427387904 ≤ i ∧ i < 4611686018427387904)
theorem rng62_ok {i : Int} (h : rng62 i = true) : -(2 ^ 62) ≤ i ∧ i < 2 ^ 62 := of_decide_eq_true h
def rngL1 : List U → Option (List U)
  | [.d (.int j)] => if rng62 j = true then some (rngD 0 j.toNat) else none
  | _ => none
def rngL2 : List U → Option (List U)
  | [.d (.int i), .d (.int j)] => if (rng62 i && rng62 j) = true then some (rngD i (j - i).toNat) else none
  | _ => none
theorem zipL_ok {us xs : List U} (h : zipL us = some xs) : (∃ ds es, us = [.d (.lst ds), .d (.lst es)] ∧ xs = zipD ds es) ∨ ∃ ds es, us = [.d (.tup ds), .d (.tup es)] ∧ xs = zipD ds es := by
  unfold zipL at h
  split at h
  · cases h
    exact .inl ⟨_, _, rfl, rfl⟩
  · cases h
    exact .inr ⟨_, _, rfl, rfl⟩
  · cases h
theorem rngL1_ok {us xs : List U} (h : rngL1 us = some xs) : ∃ j, us = [.d (.int j)] ∧ rng62 j = true ∧ xs = rngD 0 j.toNat := by
  unfold rngL1 at h
  split at h
  · split at h
    · rename_i hj
      cases h
      exact ⟨_, rfl, hj, rfl⟩
    · cases h
  · cases h
theorem rngL2_ok {us xs : List U} (h : rngL2 us = some xs) : ∃ i j, us = [.d (.int i), .d (.int j)] ∧ rng62 i = true ∧ rng62 j = true ∧ xs = rngD i (j - i).toNat := by
  unfold rngL2 at h
  split at h
  · split at h
    · rename_i hj
      cases h
      rw [Bool.and_eq_true] at hj
      exact ⟨_, _, rfl, hj.1, hj.2, rfl⟩
    · cases h
  · cases h
theorem RUs.one {C : Ct} {B : Bd} {r : Rho} {H : Hp} {u : U} {vs : List V} (h : RUs C B r H [u] vs) : ∃ v, vs = [v] ∧ RU C B r H u v := by
  cases h with
  | cons a b =>
    cases b
    exact ⟨_, rfl, a⟩
theorem RUs.two {C : Ct} {B : Bd} {r : Rho} {H : Hp} {u1 u2 : U} {vs : List V} (h : RUs C B r H [u1, u2] vs) : ∃ v1 v2, vs = [v1, v2] ∧ RU C B r H u1 v1 ∧ RU C B r H u2 v2 := by
  cases h with
  | cons a b =>
    obtain ⟨v, rfl, q⟩ := b.one
    exact ⟨_, _, rfl, a, q⟩
section
variable {X : Cx} {W : Wj} {tg e e2 : Expr} {p pos tpos : Pos} {elts : List Expr} {kk : Nat} {f : M U} {g : M (List U)}
theorem ri_list (he : RE X W e f) : RI1 X W tg e (itE seqL f) :=
  pi_imp (pi_list he) fun σ H R t => tG.bnd t fun u B r H1 h δ v w s ru q => by
    try dsimp only at q
    cases hx : seqL u with
    | none => rw [hx] at q; exact q.elim
    | some xs =>
      rw [hx] at q
      obtain ⟨a, vs, ds, e1, h1, h2, e2⟩ := seqL_ok ru hx
      subst e2
      exact ⟨a, e1, ⟨vs, h1.seq⟩, EQ.ret w q (ylds_list w h1 h2)⟩
theorem ri_tup (he : RE X W e f) : RI1 X W tg e (itE seqT f) :=
  pi_imp (pi_tup he) fun σ H R t => tG.bnd t fun u B r H1 h δ v w s ru q => by
    try dsimp only at q
    cases hx : seqT u with
    | none => rw [hx] at q; exact q.elim
    | some xs =>
      rw [hx] at q
      obtain ⟨a, vs, ds, e1, h1, h2, e2⟩ := seqT_ok ru hx
      subst e2
      exact ⟨a, e1, ⟨vs, h1⟩, EQ.ret w q (ylds_tup w h1 h2)⟩
theorem ri_str (he : RE X W e f) : RI1 X W tg e (itE itStr f) :=
  pi_imp (pi_str he) fun σ H R t => tG.bnd t fun u B r H1 h δ v w s ru q => by
    try dsimp only at q
    cases ru with
    | d rd =>
      cases rd with
      | str x => exact ⟨x, rfl, EQ.ret w q ylds_str⟩
      | _ => exact q.elim
    | _ => exact q.elim
theorem ri_enum (hm : X.mg "enumerate" = none) (ha : RA X W [e] g) (hg : Gl X "enumerate" := by rfl) (hs : starEach [e] X.env = [(false, eval e X.env)] := by rfl) :
    RI1 X W (.Tuple elts kk tpos) (.Call (.Name "enumerate" p) [e] [] pos) (it1 enumL g) :=
  pi_imp (pi_enum hg hm ha hs) fun σ H R t => tG.bnd t fun us B r H1 h δ vs w s ru q => by
    try dsimp only at q
    cases ru with
    | nil => exact q.elim
    | cons r1 rr =>
      cases rr with
      | cons _ _ => exact q.elim
      | nil =>
        cases r1 with
        | d rd =>
          cases rd with
          | lst hs q1 => exact ⟨_, _, rfl, hs.seq, EQ.ret w q (ylds_enum w hs q1)⟩
          | _ => exact q.elim
        | _ => exact q.elim
theorem ri_zip (hm : X.mg "zip" = none) (ha : RA X W [e, e2] g) (hg : Gl X "zip" := by rfl)
    (hs : starEach [e, e2] X.env = (false, eval e X.env) :: starEach [e2] X.env := by rfl) (hpl : (backTo pos (starEach [e2] X.env)).any (·.1) = false := by rfl) :
    RI1 X W (.Tuple elts kk tpos) (.Call (.Name "zip" p) [e, e2] [] pos) (itN zipL g) :=
  pi_imp (RZ.pi_zipA hg hm ha hs hpl) fun σ H R t => tG.bnd t fun us B r H1 h δ vs w s ru q => by
    try dsimp only at q
    cases hx : zipL us with
    | none => rw [hx] at q; exact q.elim
    | some xs =>
      rw [hx] at q
      rcases zipL_ok hx with ⟨ds, es, rfl, rfl⟩ | ⟨ds, es, rfl, rfl⟩
      · obtain ⟨v1, v2, rfl, r1, r2⟩ := ru.two
        cases r1 with
        | d rd => cases r2 with
          | d rd2 => cases rd with
            | lst hs q1 => cases rd2 with
              | lst hs2 q2 => exact ⟨_, _, _, _, rfl, .inl ⟨hs.seq, hs2.seq, EQ.ret w q (ylds_zip w hs q1 hs2 q2)⟩⟩
      · obtain ⟨v1, v2, rfl, r1, r2⟩ := ru.two
        cases r1 with
        | d rd => cases r2 with
          | d rd2 => cases rd with
            | tup hs q1 => cases rd2 with
              | tup hs2 q2 => exact ⟨_, _, _, _, rfl, .inr ⟨hs, hs2, EQ.ret w q (ylds_zipT w hs q1 hs2 q2)⟩⟩
theorem ri_rng1 (hm : X.mg "range" = none) (ha : RA X W [e] g) (hg : Gl X "range" := by rfl) (hs : starEach [e] X.env = [(false, eval e X.env)] := by rfl) : RI1 X W tg (.Call (.Name "range" p) [e] [] pos) (itN rngL1 g) :=
  pi_imp (pi_range1 hg hm ha hs) fun σ H R t => tG.bnd t fun us B r H1 h δ vs w s ru q => by
    try dsimp only at q
    cases hx : rngL1 us with
    | none => rw [hx] at q; exact q.elim
    | some xs =>
      rw [hx] at q
      obtain ⟨j, rfl, hj, rfl⟩ := rngL1_ok hx
      obtain ⟨v, rfl, r1⟩ := ru.one
      cases r1 with
      | d rd =>
        cases rd
        exact ⟨j, rfl, (rng62_ok hj).1, (rng62_ok hj).2, EQ.ret w q ylds_rng⟩
theorem ri_rng2 (hm : X.mg "range" = none) (ha : RA X W [e, e2] g) (hg : Gl X "range" := by rfl) (hs : starEach [e, e2] X.env = [(false, eval e X.env), (false, eval e2 X.env)] := by rfl) (hs2 : starEach [e2] X.env = [(false, eval e2 X.env)] := by rfl) :
    RI1 X W tg (.Call (.Name "range" p) [e, e2] [] pos) (itN rngL2 g) :=
  pi_imp (pi_range2 hg hm ha hs hs2) fun σ H R t => tG.bnd t fun us B r H1 h δ vs w s ru q => by
    try dsimp only at q
    cases hx : rngL2 us with
    | none => rw [hx] at q; exact q.elim
    | some xs =>
      rw [hx] at q
      obtain ⟨i, j, rfl, hi, hj, rfl⟩ := rngL2_ok hx
      obtain ⟨v1, v2, rfl, r1, r2⟩ := ru.two
      cases r1 with
      | d rd => cases r2 with
        | d rd2 =>
          cases rd
          cases rd2
          exact ⟨i, j, rfl, ⟨(rng62_ok hi).1, (rng62_ok hi).2, (rng62_ok hj).1, (rng62_ok hj).2⟩, EQ.ret w q ylds_rng⟩
end
def sfz (i : Nat) (s : S) : S := fun δ h => match δ[i]? with
  | some (some (.loc n)) => (match h[n]? with
    | some o => (match o.view with
      | some d => s (δ.set i (some (.d d))) (h.set n .gone)
      | none => none)
    | none => none)
  | _ => s δ h
theorem rs_fz {X : Cx} {W : Wj} {st : Stmt} {s : S} (i : Nat) (hs : RS X W st s) : RS X W st (sfz i s) :=
  ps_imp (ps_glk hs) fun D σ H ⟨B, r, h, δ, w, sl, q⟩ => by
    unfold sfz at q
    split at q
    · rename_i n hn
      obtain ⟨v, hv, ru⟩ := sl.at_ i _ hn
      split at q
      · rename_i o ho
        split at q
        · rename_i d hd
          cases ru with
          | @loc n a hr =>
            obtain ⟨o', ho', ro⟩ := w.obj n a hr
            rw [ho] at ho'
            cases ho'
            refine .inr ⟨a, Glk.of fun H' rs => ?_⟩
            obtain ⟨ex, w'⟩ := w.frz hr rs
            have rd := ro.rd w (B' := fun b => B b ∧ b ≠ a) (fun z => z.2 rfl) ex rs hd
            refine ⟨_, _, _, _, w', ⟨?_, fun j u hj => ?_, sl.xi⟩, q.shift w.toOwn ex⟩
            · rw [List.length_set]
              exact sl.len
            · by_cases hij : i = j
              · subst hij
                have hl : i < δ.length := (List.getElem?_eq_some_iff.mp hn).1
                rw [List.getElem?_set_self hl] at hj
                cases hj
                exact ⟨_, hv, .d rd⟩
              · rw [List.getElem?_set_ne hij] at hj
                obtain ⟨v', h1, h2⟩ := sl.at_ j u hj
                exact ⟨v', h1, h2.ext ex w.toOwn⟩
          | @gone n v hr =>
            rw [w.gon n hr] at ho
            cases ho
            cases hd
        · exact q.elim
      · exact q.elim
    · exact .inl ⟨B, r, h, δ, w, sl, q⟩
/- what reads as u in one state reads so in another one, if data and tuples do -/
mutual
theorem RU.map {C : Ct0} {B B' : Bd} {r : Rho} {H H' : Hp} (f : ∀ d v, RD C B H d v → RD C B' H' d v) (g : ∀ a vs, SqT C.K H a vs → SqT C.K H' a vs) : ∀ {u : U} {v : V}, RU C B r H u v → RU C B' r H' u v
  | _, _, .d h => .d (f _ _ h)
  | _, _, .loc h => .loc h
  | _, _, .gone h => .gone h
  | _, _, .tup h q => .tup (g _ _ h) (RUs.map f g q)
theorem RUs.map {C : Ct0} {B B' : Bd} {r : Rho} {H H' : Hp} (f : ∀ d v, RD C B H d v → RD C B' H' d v) (g : ∀ a vs, SqT C.K H a vs → SqT C.K H' a vs) : ∀ {u : List U} {v : List V}, RUs C B r H u v → RUs C B' r H' u v
  | _, _, .nil => .nil
  | _, _, .cons a b => .cons (RU.map f g a) (RUs.map f g b)
end
theorem RUk.map {C : Ct0} {B B' : Bd} {r : Rho} {H H' : Hp} (f : ∀ d v, RD C B H d v → RD C B' H' d v) (g : ∀ a vs, SqT C.K H a vs → SqT C.K H' a vs) : ∀ {u : List (D × U)} {v : List (Key × V)}, RUk C B r H u v → RUk C B' r H' u v
  | _, _, .nil => .nil
  | _, _, .cons k a b => .cons k (RU.map f g a) (RUk.map f g b)
theorem RUn.map {C : Ct0} {B B' : Bd} {r : Rho} {H H' : Hp} (f : ∀ d v, RD C B H d v → RD C B' H' d v) (g : ∀ a vs, SqT C.K H a vs → SqT C.K H' a vs) : ∀ {u : List (D × U)} {v : List NK}, RUn C B r H u v → RUn C B' r H' u v
  | _, _, .nil => .nil
  | _, _, .cons k c a b => .cons k (f _ _ c) (RU.map f g a) (RUn.map f g b)
theorem RUf.map {C : Ct0} {B B' : Bd} {r : Rho} {H H' : Hp} (f : ∀ d v, RD C B H d v → RD C B' H' d v) (g : ∀ a vs, SqT C.K H a vs → SqT C.K H' a vs) : ∀ {u : List (Str × U)} {v : List (Str × V)}, RUf C B r H u v → RUf C B' r H' u v
  | _, _, .nil => .nil
  | _, _, .cons a b => .cons (RU.map f g a) (RUf.map f g b)
theorem RO.map {C : Ct0} {B B' : Bd} {r : Rho} {H H' : Hp} (f : ∀ d v, RD C B H d v → RD C B' H' d v) (g : ∀ a vs, SqT C.K H a vs → SqT C.K H' a vs) {a : Addr} (hk : H' a = H a) : ∀ {o : O}, RO C B r H a o → RO C B' r H' a o
  | .lst us, ⟨vs, h, q⟩ => ⟨vs, hk.trans h, q.map f g⟩
  | .dct us, ⟨vs, h, q⟩ => ⟨vs, hk.trans h, q.map f g⟩
  | .ins c us, ⟨Cd, dx, vs, m, h, q⟩ => ⟨Cd, dx, vs, m, hk.trans h, q.map f g⟩
  | .gone, h => h.elim
  | .ndct us, ⟨vs, h, q⟩ => ⟨vs, hk.trans h, q.map f g⟩
  | .deq us, ⟨vs, h, q⟩ => ⟨vs, hk.trans h, q.map f g⟩
section
variable {C : Ct} {B : Bd} {r : Rho} {H : Hp} {h : Hea} {Dd : Addr}
theorem lv_app {a : Addr} (l : Lv (r ++ [some Dd]) a) : Lv r a ∨ a = Dd := by
  obtain ⟨n, hn⟩ := l
  by_cases hl : n < r.length
  · rw [List.getElem?_append_left hl] at hn
    exact .inl ⟨n, hn⟩
  · rw [List.getElem?_append_right (Nat.le_of_not_lt hl), List.getElem?_singleton] at hn
    split at hn
    · exact .inr (Option.some.inj (Option.some.inj hn)).symm
    · cases hn
theorem lv_last : Lv (r ++ [some Dd]) Dd := ⟨r.length, by simp⟩
theorem lv_old {a : Addr} (l : Lv r a) : Lv (r ++ [some Dd]) a := by
  obtain ⟨n, hn⟩ := l
  exact ⟨n, by rw [List.getElem?_append_left (List.getElem?_eq_some_iff.mp hn).1]; exact hn⟩
theorem Own.plus (w : Own B r H) (hD : B Dd) : Own B (r ++ [some Dd]) H :=
  ⟨fun a l => (lv_app l).elim (w.own a) fun e => e ▸ hD, w.notup, w.dom⟩
/-- a thing that is ours alone changes: nothing that is read at plain data knows of it -/
theorem Ext.own_put (w : Own B r H) (hD : B Dd) (x : HO) : Ext B (r ++ [some Dd]) H B (r ++ [some Dd]) (upd H Dd x) where
  rho := fun _ _ z => .inl z
  rnew := fun n a h1 h2 => by
    rw [List.getElem?_eq_none_iff.mpr h1] at h2
    cases h2
  keep := fun a o nl z => by
    rw [upd_ne (fun e => nl (by rw [e]; exact lv_last))]
    exact z
  bnew := fun _ z => .inl z
  bold := fun _ z _ => z
  there := fun a o z => by
    by_cases e : a = Dd
    · subst e
      exact ⟨x, upd_same⟩
    · exact ⟨o, by rw [upd_ne e]; exact z⟩
  dom := fun a z => by
    obtain ⟨o, ho⟩ := w.dom a z
    by_cases e : a = Dd
    · subst e
      exact ⟨x, upd_same⟩
    · exact ⟨o, by rw [upd_ne e]; exact ho⟩
theorem Wd.own_put (w : Wd C B r H h) (hD : B Dd) (nl : ¬ Lv r Dd) (xs : List V) :
    Wd C B r (upd H Dd (.lst xs)) h ∧ (∀ d v, RD C.toCt0 B H d v → RD C.toCt0 B (upd H Dd (.lst xs)) d v) ∧ (∀ a vs, SqT C.K H a vs → SqT C.K (upd H Dd (.lst xs)) a vs) := by
  have e := Ext.own_put w.toOwn hD (.lst xs)
  have wp := w.toOwn.plus hD
  have f : ∀ d v, RD C.toCt0 B H d v → RD C.toCt0 B (upd H Dd (.lst xs)) d v := fun d v q => q.ext e wp
  have g : ∀ a vs, SqT C.K H a vs → SqT C.K (upd H Dd (.lst xs)) a vs := fun a vs q => e.sqT wp.lvt q
  refine ⟨{ own := w.own, notup := fun a z vs q => ?_, dom := e.dom, len := w.len, obj := fun n a z => ?_, gon := w.gon, inj := w.inj, jx := C.j.st _ _ _ _ _ _ _ wp e w.jx }, f, g⟩
  · by_cases ea : a = Dd
    · subst ea
      exact notup_lst vs q
    · obtain ⟨o, ho⟩ := w.dom a z
      exact w.notup a z vs (rd_back ho (fun o' h' => by rw [upd_ne ea]; exact h') q)
  · obtain ⟨o, ho, ro⟩ := w.obj n a z
    exact ⟨o, ho, ro.map f g (upd_ne fun e => nl (e ▸ ⟨n, z⟩))⟩
/-- it is plain data from now on -/
theorem Ext.own_drop (w : Own B r H) (hD : B Dd) : Ext B (r ++ [some Dd]) H (fun b => B b ∧ b ≠ Dd) (r ++ [some Dd]) H where
  rho := fun _ _ z => .inl z
  rnew := fun n a h1 h2 => by
    rw [List.getElem?_eq_none_iff.mpr h1] at h2
    cases h2
  keep := fun _ _ _ z => z
  bnew := fun _ z => .inl z.1
  bold := fun a z nl => ⟨z, fun e => nl (by rw [e]; exact lv_last)⟩
  there := fun _ o z => ⟨o, z⟩
  dom := fun a z => w.dom a z.1
theorem Wd.own_drop (w : Wd C B r H h) (hD : B Dd) (nl : ¬ Lv r Dd) :
    Wd C (fun b => B b ∧ b ≠ Dd) r H h ∧ (∀ d v, RD C.toCt0 B H d v → RD C.toCt0 (fun b => B b ∧ b ≠ Dd) H d v) := by
  have e := Ext.own_drop w.toOwn hD
  have wp := w.toOwn.plus hD
  have f : ∀ d v, RD C.toCt0 B H d v → RD C.toCt0 (fun b => B b ∧ b ≠ Dd) H d v := fun d v q => q.ext e wp
  exact ⟨{ own := fun a l => ⟨w.own a l, fun e => nl (e ▸ l)⟩, notup := fun a z => w.notup a z.1, dom := e.dom, len := w.len, obj := fun n a z => by
            obtain ⟨o, ho, ro⟩ := w.obj n a z
            exact ⟨o, ho, ro.map f (fun _ _ q => q) rfl⟩
           gon := w.gon, inj := w.inj, jx := C.j.st _ _ _ _ _ _ _ wp e w.jx }, f⟩
end
def GQc (C : Ct) (ws : List Nat) (σ : L2.St) (B : Bd) (r : Rho) (H : Hp) (x : Option (Sl × Hea)) (Q : L2.St → Hp → Prop) : Prop :=
  match x with
  | none => False
  | some (δ', h') => ∀ B' r' H' σ', Ext B r H B' r' H' → Wd C B' r' H' h' → SlR C B' r' H' σ' δ' → wipe σ' ws = wipe σ ws → Q σ' H'
def tGc (C : Ct) (ws : List Nat) (g : G) : TG := fun v σ H Q => ∃ B r h δ u, Wd C B r H h ∧ SlR C B r H σ δ ∧ RU C B r H u v ∧ GQc C ws σ B r H (g u δ h) Q
def tGcs (C : Ct) (ws : List Nat) (g : List U → Sl → Hea → Option (Sl × Hea)) : TGs := fun vs σ H Q => ∃ B r h δ us, Wd C B r H h ∧ SlR C B r H σ δ ∧ RUs C B r H us vs ∧ GQc C ws σ B r H (g us δ h) Q
def RGc (X : Cx) (W : Wj) (ws : List Nat) (tg : Expr) (g : G) : Prop := PG X tg (tGc (ctX X W) ws g)
def RGcs (X : Cx) (W : Wj) (ws : List Nat) (tg : List Expr) (g : List U → Sl → Hea → Option (Sl × Hea)) : Prop := PGs X tg (tGcs (ctX X W) ws g)
theorem wipe_set : ∀ (ws : List Nat) (σ : L2.St) (i : Nat) (x : Option V), i ∈ ws → wipe (σ.set i x) ws = wipe σ ws
  | [], _, _, _, h => by cases h
  | w :: ws, σ, i, x, h => by
    show (wipe (σ.set i x) ws).set w none = (wipe σ ws).set w none
    by_cases hi : i ∈ ws
    · rw [wipe_set ws σ i x hi]
    · have e : i = w := by
        rcases List.mem_cons.mp h with z | z
        · exact z
        · exact absurd z hi
      subst e
      have go : ∀ (ws : List Nat) (σ : L2.St), i ∉ ws → wipe (σ.set i x) ws = (wipe σ ws).set i x := by
        intro ws
        induction ws with
        | nil => intro σ _; rfl
        | cons w ws ih =>
          intro σ hn
          show (wipe (σ.set i x) ws).set w none = ((wipe σ ws).set w none).set i x
          rw [ih σ (fun z => hn (List.mem_cons_of_mem _ z)), List.set_comm _ _ (fun e => hn (by rw [e]; exact List.mem_cons_self))]
      rw [go ws σ hi, List.set_set]
section
variable {X : Cx} {W : Wj} {pos : Pos} {ws : List Nat}
theorem rgc_name {i : Nat} {x : Str} (hN : X.N.Nodup) (hj : W.j.xi = none := by rfl) (hi : X.N[i]? = some x := by rfl) (hw : i ∈ ws := by decide) (hx : Loc X.env.scope x := by first | exact Or.inl rfl | exact Or.inr rfl) (hf : X.fn x = true ∨ X.env.scope.names.lookup x = some .local := by first | exact .inl rfl | exact .inr rfl) : RGc X W ws (.Name x pos) (gnm i) :=
  pg_imp (pg_name hN hi hx hf) fun v σ H Q ⟨B, r, h, δ, u, w, s, ru, q⟩ => q B r H _ (Ext.refl w.dom) w (s.set hj ru) (wipe_set ws σ i _ hw)
theorem rgcs_nil : RGcs X W ws [] gnil := pgs_imp pgs_nil fun vs σ H Q ⟨B, r, h, δ, us, w, s, ru, q⟩ => by
  cases ru with
  | nil => exact ⟨rfl, q B r H _ (Ext.refl w.dom) w s rfl⟩
  | cons _ _ => exact q.elim
theorem GQc.shift {C : Ct} {σ σ' : L2.St} {B B' : Bd} {r r' : Rho} {H H' : Hp} {x : Option (Sl × Hea)} {Q : L2.St → Hp → Prop} (w : Own B r H) (q : GQc C ws σ B r H x Q) (e : Ext B r H B' r' H') (hs : wipe σ' ws = wipe σ ws) : GQc C ws σ' B' r' H' x Q := by
  cases x with
  | none => exact q
  | some y => exact fun B2 r2 H2 σ2 e2 w2 s2 h2 => q B2 r2 H2 σ2 (e.tr w e2) w2 s2 (h2.trans hs)
theorem rgcs_cons {e : Expr} {es : List Expr} {g : G} {k : List U → Sl → Hea → Option (Sl × Hea)} (h1 : RGc X W ws e g) (h2 : RGcs X W ws es k)
    (hs : (assignEach (e :: es) X.env).map (·.2) = assign e X.env :: (assignEach es X.env).map (·.2) := by rfl) : RGcs X W ws (e :: es) (gcons g k) :=
  pgs_imp (pgs_cons h1 h2 hs) fun vs σ H Q ⟨B, r, h, δ, us, w, s, ru, q⟩ => by
    cases ru with
    | nil => exact q.elim
    | @cons u v us vs ra rb =>
      refine ⟨v, vs, rfl, B, r, h, δ, u, w, s, ra, ?_⟩
      change GQc (ctX X W) ws σ B r H (match g u δ h with | some (δ', h') => k us δ' h' | none => none) Q at q
      cases hg : g u δ h with
      | none => rw [hg] at q; exact q
      | some y =>
        rw [hg] at q
        exact fun B' r' H' σ' ex w' s' hs' => ⟨B', r', y.2, y.1, us, w', s', rb.ext ex w.toOwn, q.shift w.toOwn ex hs'⟩
theorem rgc_tup {es : List Expr} {k0 : Nat} {k : List U → Sl → Hea → Option (Sl × Hea)} {n : Nat} (hc : X.calm = true) (hs : RGcs X W ws es k)
    (hn : (assignEach es X.env).length = n := by rfl) (hst : (assignEach es X.env).findIdx? (·.1) = none := by rfl) : RGc X W ws (.Tuple es k0 pos) (gtup n k) :=
  pg_imp (pg_tup hc hs hn hst) fun v σ H Q ⟨B, r, h, δ, u, w, s, ru, q⟩ => by
    unfold gtup at q
    cases hu : tupU u with
    | none => rw [hu] at q; exact q.elim
    | some us =>
      simp only [hu] at q
      obtain ⟨a, vs, rfl, h1, h2⟩ := tupU_ok ru hu
      by_cases hl : us.length = n
      · rw [if_pos hl] at q
        exact ⟨a, vs, rfl, h1, h2.length.symm.trans hl, B, r, h, δ, us, w, s, h2, q⟩
      · rw [if_neg hl] at q
        exact q.elim
end
def wipeS (δ : Sl) : List Nat → Sl
  | [] => δ
  | v :: vs => (wipeS δ vs).set v none
def lcL (g : G) (tt : M Bool) (te : M U) (δ : Sl) : List U → Hea → Option (List U × Hea)
  | [], h => some ([], h)
  | x :: xs, h => match g x δ h with
    | some (δ1, h1) => (match tt δ1 h1 with
      | some (.ok true h2) => (match te δ1 h2 with
        | some (.ok y h3) => (match lcL g tt te δ xs h3 with
          | some (ys, h4) => some (y :: ys, h4)
          | none => none)
        | _ => none)
      | some (.ok false h2) => lcL g tt te δ xs h2
      | _ => none)
    | none => none
def lcM (f : M (List U)) (vs : List Nat) (g : G) (tt : M Bool) (te : M U) (mk : List U → M U) : M U := mbnd f fun xs δ h => if szOk xs.length = true then (match lcL g tt te (wipeS δ vs) xs h with
  | some (ys, h') => mk ys δ h'
  | none => none) else none
theorem SlR.wipe {C : Ct} {B : Bd} {r : Rho} {H : Hp} {σ : L2.St} {δ : Sl} (hj : C.j.xi = none) (s : SlR C B r H σ δ) : ∀ vs : List Nat, SlR C B r H (L2.wipe σ vs) (wipeS δ vs)
  | [] => s
  | v :: vs => by
    have q := SlR.wipe hj s vs
    refine ⟨by show ((wipeS δ vs).set v none).length = ((L2.wipe σ vs).set v none).length; simp [q.len], fun i u hi => ?_, fun j a z => by rw [hj] at z; cases z⟩
    change ((wipeS δ vs).set v none)[i]? = some (some u) at hi
    show ∃ x, ((L2.wipe σ vs).set v none)[i]? = some (some x) ∧ _
    by_cases hv : v = i
    · subst hv
      by_cases hl : v < (wipeS δ vs).length
      · rw [List.getElem?_set_self hl] at hi
        cases hi
      · rw [List.getElem?_eq_none_iff.mpr (by simp; omega)] at hi
        cases hi
    · rw [List.getElem?_set_ne hv] at hi ⊢
      exact q.at_ i u hi
theorem lcL_len {g : G} {tt : M Bool} {te : M U} {δ : Sl} : ∀ {xs : List U} {h h' : Hea} {ys : List U}, lcL g tt te δ xs h = some (ys, h') → ys.length ≤ xs.length
  | [], h, h', ys, e => by
    cases e
    exact Nat.le_refl _
  | x :: xs, h, h', ys, e => by
    unfold lcL at e
    split at e
    · split at e
      · split at e
        · split at e
          · rename_i e4
            cases e
            exact Nat.succ_le_succ (lcL_len e4)
          · cases e
        · cases e
      · exact Nat.le_succ_of_le (lcL_len e)
      · cases e
    · cases e
/-- how the list is handed on -/
def lstF (us : List U) : M U := fun _ h => match allD us with
  | some ds => some (.ok (.d (.lst ds)) h)
  | none => none
def lstL (us : List U) : M U := newE (.lst us)
def MkL (C : Ct) (mk : List U → M U) : Prop := ∀ {W : Wj} {σ : L2.St} {δ : Sl} {B0 : Bd} {r0 : Rho} {H0 : Hp} {B : Bd} {r : Rho} {H : Hp} {h : Hea} {us : List U} {vs : List V} {Dd : Addr} {Q : VK}, Ext B0 r0 H0 B r H → Own B0 r0 H0 → H0 Dd = none → Wd C B r H h → B Dd → ¬ Lv r Dd → H Dd = some (.lst vs) → RUs C B r H us vs →
  EQ C W σ B0 r0 H0 (mk us δ h) (RU C) Q → Q (.ref Dd) H
theorem mk_lstF {C : Ct} : MkL C lstF := by
  intro W σ δ B0 r0 H0 B r H h us vs Dd Q e w0 hn w hD nl hH ru q
  unfold lstF at q
  cases hd : allD us with
  | none => rw [hd] at q; exact q.elim
  | some ds =>
    rw [hd] at q
    obtain ⟨w', f⟩ := w.own_drop hD nl
    have rd : RDs C.toCt0 (fun b => B b ∧ b ≠ Dd) H ds vs := by
      have q0 := ru.allD hd
      have go : ∀ {ds : List D} {vs : List V}, RDs C.toCt0 B H ds vs → RDs C.toCt0 (fun b => B b ∧ b ≠ Dd) H ds vs := by
        intro ds
        induction ds with
        | nil => intro vs h; cases h; exact .nil
        | cons x xs ih =>
          intro vs h
          cases h with
          | cons a b => exact .cons (f _ _ a) (ih b)
      exact go q0
    refine q (fun b => B b ∧ b ≠ Dd) r H (.ref Dd) { rho := e.rho, rnew := e.rnew, keep := e.keep, bnew := fun a z => e.bnew a z.1, bold := fun a z nl' => ⟨e.bold a z nl', fun ea => ?_⟩, there := e.there, dom := w'.dom } w' (.d (.lst ⟨fun z => z.2 rfl, hH⟩ rd))
    subst ea
    obtain ⟨o, ho⟩ := w0.dom a z
    rw [hn] at ho
    cases ho
mutual
theorem RU.app {C : Ct0} {B : Bd} {r : Rho} {H : Hp} (x : Option Addr) : ∀ {u : U} {v : V}, RU C B r H u v → RU C B (r ++ [x]) H u v
  | _, _, .d h => .d h
  | _, _, .loc h => .loc (by rw [List.getElem?_append_left (List.getElem?_eq_some_iff.mp h).1]; exact h)
  | _, _, .gone h => .gone (by rw [List.getElem?_append_left (List.getElem?_eq_some_iff.mp h).1]; exact h)
  | _, _, .tup h q => .tup h (RUs.app x q)
theorem RUs.app {C : Ct0} {B : Bd} {r : Rho} {H : Hp} (x : Option Addr) : ∀ {u : List U} {v : List V}, RUs C B r H u v → RUs C B (r ++ [x]) H u v
  | _, _, .nil => .nil
  | _, _, .cons a b => .cons (RU.app x a) (RUs.app x b)
end
theorem RUk.app {C : Ct0} {B : Bd} {r : Rho} {H : Hp} (x : Option Addr) : ∀ {u : List (D × U)} {v : List (Key × V)}, RUk C B r H u v → RUk C B (r ++ [x]) H u v
  | _, _, .nil => .nil
  | _, _, .cons k a b => .cons k (RU.app x a) (RUk.app x b)
theorem RUn.app {C : Ct0} {B : Bd} {r : Rho} {H : Hp} (x : Option Addr) : ∀ {u : List (D × U)} {v : List NK}, RUn C B r H u v → RUn C B (r ++ [x]) H u v
  | _, _, .nil => .nil
  | _, _, .cons k c a b => .cons k c (RU.app x a) (RUn.app x b)
theorem RUf.app {C : Ct0} {B : Bd} {r : Rho} {H : Hp} (x : Option Addr) : ∀ {u : List (Str × U)} {v : List (Str × V)}, RUf C B r H u v → RUf C B (r ++ [x]) H u v
  | _, _, .nil => .nil
  | _, _, .cons a b => .cons (RU.app x a) (RUf.app x b)
theorem RO.app {C : Ct0} {B : Bd} {r : Rho} {H : Hp} (x : Option Addr) {a : Addr} : ∀ {o : O}, RO C B r H a o → RO C B (r ++ [x]) H a o
  | .lst us, ⟨vs, h, q⟩ => ⟨vs, h, q.app x⟩
  | .dct us, ⟨vs, h, q⟩ => ⟨vs, h, q.app x⟩
  | .ins c us, ⟨Cd, dx, vs, m, h, q⟩ => ⟨Cd, dx, vs, m, h, q.app x⟩
  | .gone, h => h.elim
  | .ndct us, ⟨vs, h, q⟩ => ⟨vs, h, q.app x⟩
  | .deq us, ⟨vs, h, q⟩ => ⟨vs, h, q.app x⟩
theorem mk_lstL {C : Ct} : MkL C lstL := by
  intro W σ δ B0 r0 H0 B r H h us vs Dd Q e w0 hn w hD nl hH ru q
  have old : ∀ (n : Nat) a, (r ++ [some Dd])[n]? = some (some a) → (r[n]? = some (some a)) ∨ (n = r.length ∧ a = Dd) := fun n a z => by
    by_cases hl : n < r.length
    · rw [List.getElem?_append_left hl] at z
      exact .inl z
    · rw [List.getElem?_append_right (Nat.le_of_not_lt hl), List.getElem?_singleton] at z
      split at z
      · exact .inr ⟨by omega, (Option.some.inj (Option.some.inj z)).symm⟩
      · cases z
  have ru' : RUs C B (r ++ [some Dd]) H us vs := ru.app _
  refine q B (r ++ [some Dd]) H (.ref Dd)
    { rho := fun n x z => by
        rcases e.rho n x z with y | y
        · exact .inl (by rw [List.getElem?_append_left (List.getElem?_eq_some_iff.mp y).1]; exact y)
        · exact .inr (by rw [List.getElem?_append_left (List.getElem?_eq_some_iff.mp y).1]; exact y)
      rnew := fun n a h1 h2 => by
        rcases old n a h2 with y | ⟨_, rfl⟩
        · exact e.rnew n a h1 y
        · exact hn
      keep := e.keep, bnew := e.bnew, bold := e.bold, there := e.there, dom := e.dom }
    { own := fun a l => (lv_app l).elim (w.own a) fun ea => ea ▸ hD
      notup := w.notup
      dom := w.dom
      len := by simp [w.len]
      obj := fun n a z => by
        rcases old n a z with y | ⟨rfl, rfl⟩
        · obtain ⟨o, ho, ro⟩ := w.obj n a y
          have hl : n < h.length := (List.getElem?_eq_some_iff.mp ho).1
          exact ⟨o, by rw [List.getElem?_append_left hl]; exact ho, ro.app _⟩
        · exact ⟨.lst us, by rw [w.len]; simp, vs, hH, ru'⟩
      gon := fun n z => by
        by_cases hl : n < r.length
        · rw [List.getElem?_append_left hl] at z
          rw [List.getElem?_append_left (by rw [← w.len]; exact hl)]
          exact w.gon n z
        · rw [List.getElem?_append_right (Nat.le_of_not_lt hl), List.getElem?_singleton] at z
          split at z
          · cases z
          · cases z
      inj := fun n m a z1 z2 => by
        rcases old n a z1 with y1 | ⟨e1, f1⟩ <;> rcases old m a z2 with y2 | ⟨e2, f2⟩
        · exact w.inj n m a y1 y2
        · subst f2
          exact absurd ⟨n, y1⟩ nl
        · subst f1
          exact absurd ⟨m, y2⟩ nl
        · omega
      jx := w.jx } (.loc (by rw [← w.len]; simp))
/-- a comprehension's reading -/
theorem t_lc {C : Ct} {W : Wj} {f : M (List U)} {vs : List Nat} {g : G} {tt : M Bool} {te : M U} {mk : List U → M U} {σ : L2.St} {H : Hp} {Q : VK} (hm : MkL C mk) (hj : C.j.xi = none) (W0 : Wj) (h0 : W0.w = fun _ _ _ _ => False)
    (t : tI C W (lcM f vs g tt te mk) σ H Q) : tLc (tII C W f) (tGc C vs g) (tT C W0 tt) (tI C W0 te) vs σ H Q := by
  refine tG.bnd (Rel := Ylds C) t fun xs B r H1 h δ J w s rj q => ?_
  intro Dd hD
  try dsimp only at q
  by_cases hz : szOk xs.length = true
  · rw [if_pos hz] at q
    cases hl : lcL g tt te (wipeS δ vs) xs h with
    | none => rw [hl] at q; exact q.elim
    | some res =>
      obtain ⟨ysF, hF⟩ := res
      simp only [hl] at q
      -- the state with the new list
      have gD : Gr B H1 (fun a => B a ∨ a = Dd) (upd H1 Dd (.lst [])) :=
        { keep := fun a o z => by
            rw [upd_ne (ne_of_none z hD)]
            exact z
          bnew := fun a z => by
            rcases z with z | rfl
            · exact .inl z
            · exact .inr hD
          bold := fun a z => .inl z
          dom := fun a z => by
            rcases z with z | rfl
            · obtain ⟨o, ho⟩ := w.dom a z
              exact ⟨o, by rw [upd_ne (ne_of_none ho hD)]; exact ho⟩
            · exact ⟨_, upd_same⟩
          notup := fun a z us y => by
            rcases z with z | rfl
            · obtain ⟨o, ho⟩ := w.dom a z
              exact w.notup a z us (rd_back ho (fun o' h' => by rw [upd_ne (ne_of_none h' hD)]; exact h') y)
            · exact notup_lst us y }
      have wD := gD.wd w
      have nlD : ¬ Lv r Dd := fun l => by
        obtain ⟨o, ho⟩ := w.dom Dd (w.own Dd l)
        rw [hD] at ho
        cases ho
      refine ⟨fun i m H2 => ∃ B2 r2 h2 done acc todo, Ext B r H1 B2 r2 H2 ∧ Wd C B2 r2 H2 h2 ∧ B2 Dd ∧ ¬ Lv r2 Dd ∧ H2 Dd = some (.lst acc) ∧ RUs C B2 r2 H2 done acc ∧ m = xs.length - i ∧ i ≤ xs.length ∧ done.length ≤ i ∧ ysF = done ++ todo ∧ lcL g tt te (wipeS δ vs) (xs.drop i) h2 = some (todo, hF),
        ⟨xs.length, _, r, h, [], [], ysF, gD.ext, wD, .inr rfl, nlD, upd_same, .nil, by simp, Nat.zero_le _, Nat.zero_le _, rfl, hl⟩, ?_⟩
      rintro i m H2 ⟨B2, r2, h2, done, acc, todo, e2, w2, bD, nl2, hH2, rdn, rfl, hi, hdl, hys, hlc⟩
      obtain ⟨j1, j2⟩ := rj B2 r2 H2 h2 i e2 w2
      have s2 : SlR C B2 r2 H2 (wipe σ vs) (wipeS δ vs) := (s.ext e2 w.toOwn).wipe hj vs
      by_cases hlt : i < xs.length
      · obtain ⟨j3, j4⟩ := j1 hlt
        have ed : xs.drop i = xs[i] :: xs.drop (i + 1) := List.drop_eq_getElem_cons hlt
        rw [ed] at hlc
        refine .inr ⟨j3, fun H' => ∃ B2 r2 h2 done acc todo, Ext B r H1 B2 r2 H' ∧ Wd C B2 r2 H' h2 ∧ B2 Dd ∧ ¬ Lv r2 Dd ∧ H' Dd = some (.lst acc) ∧ RUs C B2 r2 H' done acc ∧ done.length ≤ i + 1 ∧ ysF = done ++ todo ∧ lcL g tt te (wipeS δ vs) (xs.drop (i + 1)) h2 = some (todo, hF),
          fun H' ⟨B3, r3, h3, d3, a3, t3, e3, w3, b3, n3, hh3, rd3, l3, y3, c3⟩ => ⟨xs.length - (i + 1), by omega, B3, r3, h3, d3, a3, t3, e3, w3, b3, n3, hh3, rd3, rfl, hlt, l3, y3, c3⟩, fun x H3 y => ?_⟩
        obtain ⟨B3, g3, u, hu, ru⟩ := j4 x H3 y
        have eu : u = xs[i] := by
          rw [List.getElem?_eq_getElem hlt] at hu
          exact (Option.some.inj hu).symm
        subst eu
        have w3 := g3.wd w2
        have e3 : Ext B2 r2 H2 B3 r2 H3 := g3.ext
        -- what stays of the new list
        have step : ∀ {Ba Bb : Bd} {ra rb : Rho} {Ha Hb : Hp} {hb : Hea}, Ext Ba ra Ha Bb rb Hb → Wd C Bb rb Hb hb → Own Ba ra Ha → Ba Dd → ¬ Lv ra Dd → Ha Dd = some (.lst acc) → RUs C Ba ra Ha done acc → Bb Dd ∧ ¬ Lv rb Dd ∧ Hb Dd = some (.lst acc) ∧ RUs C Bb rb Hb done acc :=
          fun e w' o b n hh rr => ⟨e.bold Dd b n, fun l => n (e.lv hh l), e.keep Dd _ n hh, rr.ext e o⟩
        obtain ⟨b3, n3, hh3, rd3⟩ := step e3 w3 w2.toOwn bD nl2 hH2 rdn
        have s3 := s2.ext e3 w2.toOwn
        refine ⟨B3, r2, h2, wipeS δ vs, xs[i], w3, s3, ru, ?_⟩
        unfold lcL at hlc
        cases hg : g xs[i] (wipeS δ vs) h2 with
        | none => simp only [hg] at hlc; cases hlc
        | some y1 =>
          obtain ⟨δ1, h1⟩ := y1
          simp only [hg] at hlc
          intro B4 r4 H4 σ4 e4 w4 s4 hw4
          obtain ⟨b4, n4, hh4, rd4⟩ := step e4 w4 w3.toOwn b3 n3 hh3 rd3
          have hww : wipe (wipe σ vs) vs = wipe σ vs := by
            have go : ∀ (l m : List Nat) (σ : L2.St), (∀ v ∈ l, v ∈ m) → wipe (wipe σ m) l = wipe σ m := by
              intro l m σ hlm
              induction l with
              | nil => rfl
              | cons v l ih =>
                show (wipe (wipe σ m) l).set v none = wipe σ m
                rw [ih fun v h => hlm v (List.mem_cons_of_mem _ h)]
                have go2 : ∀ (m : List Nat), v ∈ m → (wipe σ m).set v none = wipe σ m := by
                  intro m
                  induction m with
                  | nil => intro h; cases h
                  | cons u m ih2 =>
                    intro hv
                    show ((wipe σ m).set u none).set v none = (wipe σ m).set u none
                    by_cases huv : u = v
                    · subst huv
                      rw [List.set_set]
                    · rw [List.set_comm _ _ huv]
                      rcases List.mem_cons.mp hv with z | z
                      · exact absurd z.symm huv
                      · rw [ih2 z]
                exact go2 m (hlm v List.mem_cons_self)
            exact go vs vs σ fun _ h => h
          refine ⟨hw4.trans hww, B4, r4, h1, δ1, w4, s4, ?_⟩
          have e14 : Ext B r H1 B4 r4 H4 := e2.tr w.toOwn (e3.tr w2.toOwn e4)
          cases ht : tt δ1 h1 with
          | none => simp only [ht] at hlc; cases hlc
          | some o =>
            cases o with
            | exc e h => simp only [ht] at hlc; cases hlc
            | ok b h5 =>
              intro B5 r5 H5 b' e5 w5 rel
              cases rel
              obtain ⟨b5, n5, hh5, rd5⟩ := step e5 w5 w4.toOwn b4 n4 hh4 rd4
              have s5 := s4.ext e5 w4.toOwn
              have e15 := e14.tr w.toOwn e5
              cases b with
              | false =>
                simp only [ht] at hlc
                exact ⟨B5, r5, h5, done, acc, todo, e15, w5, b5, n5, hh5, rd5, by omega, hys, hlc⟩
              | true =>
                simp only [ht] at hlc
                show tI C W0 te σ4 H5 _
                refine ⟨B5, r5, h5, δ1, w5, s5, ?_⟩
                cases hte : te δ1 h5 with
                | none => simp only [hte] at hlc; cases hlc
                | some o =>
                  cases o with
                  | exc e h => simp only [hte] at hlc; cases hlc
                  | ok y h6 =>
                    simp only [hte] at hlc
                    intro B6 r6 H6 v6 e6 w6 ry
                    obtain ⟨b6, n6, hh6, rd6⟩ := step e6 w6 w5.toOwn b5 n5 hh5 rd5
                    have hal : acc.length < sizeLine := by
                      rw [← rd6.length]
                      have := szOk_le hz
                      omega
                    refine ⟨acc, hh6, hal, ?_⟩
                    obtain ⟨w7, f7, g7⟩ := w6.own_put b6 n6 (acc ++ [v6])
                    cases hrest : lcL g tt te (wipeS δ vs) (xs.drop (i + 1)) h6 with
                    | none => simp only [hrest] at hlc; cases hlc
                    | some rs =>
                      obtain ⟨ys, h8⟩ := rs
                      simp only [hrest] at hlc
                      cases hlc
                      have e16 := e15.tr w.toOwn e6
                      have e17 : Ext B r H1 B6 r6 (upd H6 Dd (.lst (acc ++ [v6]))) :=
                        { rho := e16.rho
                          rnew := e16.rnew
                          keep := fun a o nl z => by
                            rw [upd_ne (ne_of_none z hD)]
                            exact e16.keep a o nl z
                          bnew := e16.bnew
                          bold := e16.bold
                          there := fun a o z => by
                            obtain ⟨o', z'⟩ := e16.there a o z
                            exact ⟨o', by rw [upd_ne (ne_of_none z hD)]; exact z'⟩
                          dom := w7.dom }
                      refine ⟨B6, r6, h6, done ++ [y], acc ++ [v6], ys, e17, w7, b6, n6, upd_same, ?_, by simp; omega, by rw [hys]; simp, hrest⟩
                      have go : ∀ {us : List U} {vs : List V}, RUs C B6 r6 (upd H6 Dd (.lst (acc ++ [v6]))) us vs → RU C B6 r6 (upd H6 Dd (.lst (acc ++ [v6]))) y v6 → RUs C B6 r6 (upd H6 Dd (.lst (acc ++ [v6]))) (us ++ [y]) (vs ++ [v6]) := by
                        intro us
                        induction us with
                        | nil => intro vs h k; cases h; exact .cons k .nil
                        | cons x xs ih => intro vs h k; cases h with | cons a b => exact .cons a (ih b k)
                      exact go (rd6.map f7 g7) (ry.map f7 g7)
      · have hd : xs.drop i = [] := List.drop_eq_nil_of_le (Nat.le_of_not_lt hlt)
        rw [hd] at hlc
        cases hlc
        refine .inl ⟨j2 (Nat.le_of_not_lt hlt), ?_⟩
        rw [List.append_nil] at hys
        subst hys
        exact hm e2 w.toOwn hD w2 bD nl2 hH2 rdn q
  · rw [if_neg hz] at q
    exact q.elim
/-- no exception is let out (in a comprehension's block, in an except suite) -/
def Wj.no (W : Wj) : Wj := ⟨fun _ _ _ _ => False, W.j⟩
def RTs (X : Cx) (W : Wj) (ifs : List Expr) (f : M Bool) : Prop := PTs X ifs (tT (ctX X W) W f)
theorem pts_imp {X : Cx} {es : List Expr} {t t' : TT} (h : PTs X es t) (i : ∀ σ H Q, t' σ H Q → t σ H Q) : PTs X es t' := ⟨fun pins s σ H Q I q => h.run pins s σ H Q I (i _ _ _ q)⟩
theorem rts_nil {X : Cx} {W : Wj} : RTs X W [] (mret true) := pts_imp pts_nil fun σ H Q ⟨B, r, h, δ, w, s, q⟩ => EQ.ret w q rfl
theorem rts_one {X : Cx} {W : Wj} {c : Expr} {f : M Bool} (h : RT X W c f) : RTs X W [c] f := pts_one h
section
variable {X : Cx} {W : Wj} {elt tg iter : Expr} {ifs : List Expr} {scope : Scope} {own : List (Str × Nat)} {pos spos py : Pos} {f : M (List U)} {g : G} {tt : M Bool} {te : M U} {mk : List U → M U}
theorem re_lc (own : List (Str × Nat)) (hm : MkL (ctX X W) mk) (hc : X.calm = true) (hN : X.N.Nodup) (hj : W.j.xi = none) (hi : RI1 X W tg iter f) (ok : blkC X.N X.env.scope scope own = true)
    (hg : ∀ (s : Shared) (H : Hp) (C : Addr) (cl : List (Str × Addr)) (fp : List Addr), RGc (X.blk s H scope (compEnvC scope cl C X.env) fp) W.no (own.map fun p : Str × Nat => p.2) tg g)
    (ht : ∀ (s : Shared) (H : Hp) (C : Addr) (cl : List (Str × Addr)) (fp : List Addr), RTs (X.blk s H scope (compEnvC scope cl C X.env) fp) W.no ifs tt)
    (he : ∀ (s : Shared) (H : Hp) (C : Addr) (cl : List (Str × Addr)) (fp : List Addr), RE (X.blk s H scope (compEnvC scope cl C X.env) fp) W.no elt te) (hs : ∀ x, foldedSetIterable iter X.env x = pure x := by intro _; rfl) :
    RE X W (.ListComp elt [⟨tg, iter, ifs, 0⟩] scope pos) (lcM f (own.map fun p : Str × Nat => p.2) g tt te mk) :=
  pe_imp (pe_lc (g := tGc (ctX X W) (own.map fun p : Str × Nat => p.2) g) (tt := tT (ctX X W) W.no tt) (te := tI (ctX X W) W.no te) hc hN hi (blkOk_by ok) hg ht he hs) fun σ H Q t => t_lc hm hj W.no rfl t
theorem rs_setLc {i : Nat} {y : Str} (own : List (Str × Nat)) (hm : MkL (ctX X W) mk) (hc : X.calm = true) (hN : X.N.Nodup) (hj : W.j.xi = none) (hi : RI1 X W tg iter f) (ok : blkC X.N X.env.scope scope own = true)
    (hg : ∀ (s : Shared) (H : Hp) (C : Addr) (cl : List (Str × Addr)) (fp : List Addr), RGc (X.blk s H scope (compEnvC scope cl C X.env) fp) W.no (own.map fun p : Str × Nat => p.2) tg g)
    (ht : ∀ (s : Shared) (H : Hp) (C : Addr) (cl : List (Str × Addr)) (fp : List Addr), RTs (X.blk s H scope (compEnvC scope cl C X.env) fp) W.no ifs tt)
    (he : ∀ (s : Shared) (H : Hp) (C : Addr) (cl : List (Str × Addr)) (fp : List Addr), RE (X.blk s H scope (compEnvC scope cl C X.env) fp) W.no elt te)
    (hy : X.N[i]? = some y := by rfl) (hyl : X.env.scope.names.lookup y = some .local := by rfl) (hsw : swapsWith (.ListComp elt [⟨tg, iter, ifs, 0⟩] scope pos) (some (.Name y py)) spos.line X.env = pure true := by exact sw_true rfl rfl rfl (by decide +kernel)) (hs : ∀ x, foldedSetIterable iter X.env x = pure x := by intro _; rfl) :
    RS X W (.Assign [.Name y py] (.ListComp elt [⟨tg, iter, ifs, 0⟩] scope pos) spos) (sasg (lcM f (own.map fun p : Str × Nat => p.2) g tt te mk) (gnm i)) :=
  ps_imp (ps_setLc (g := tGc (ctX X W) (own.map fun p : Str × Nat => p.2) g) (tt := tT (ctX X W) W.no tt) (te := tI (ctX X W) W.no te) hc hN hy hyl hsw hi (blkOk_by ok) hg ht he hs) fun D σ H t => by
    have z : tI (ctX X W) W (lcM f (own.map fun p : Str × Nat => p.2) g tt te mk) σ H (fun v H1 => gName i v σ H1 D.nx) := tS.bnd t fun a B r H1 h δ v w s ru q => OQ.nx w (s.set hj ru) q
    exact t_lc hm hj W.no rfl z
end
/-- __init__ of such a class: its fields from its arguments, in their order -/
def spI (K : PySem.W.Frag) (names : List Str) : Sp := fun vs H Q E => ∃ (a C : Addr) (ys : List V), vs = .ref a :: ys ∧ ys.length = names.length ∧ OexC K C ∧ (∀ f ∈ names, PySem.W.findIn K (.ref C) f = some none) ∧ H a = some (exo a C none) ∧
  ∀ (dx : Addr) (H' : Hp), H dx = none → dx ≠ a → (∀ b, b ≠ a → b ≠ dx → H' b = H b) → H' a = some (exo a C (some dx)) → H' dx = some (exd dx (names.zip ys).reverse) → Q .non H'
section
variable {P : Program} {w : World} {K : PySem.W.Frag} {mg : Str → Option Value} {base : Heap}
theorem init1 {qual : Str} {st : Stmt} {f : Addr} {fd : FuncData} {n1 : Str} {N ps : List Str} {k : Nat} (F : Fun K "__init__" qual st f fd) (S : FnScope N ps (defScope st)) (hp : ps.length = 2) (hN : N.length = 2)
    (hb : ∀ X : Cx, X.N = N → X.env.scope = defScope st → PSs X (defBody st) (tOst X.K n1 (tVar 0) (tVar 1))) : FnOk P w K mg base (L2.CX P w) (k + 1) f fd ps (spI K [n1]) := by
  refine F.okX S (fun vs H Q E h => ?_) (fun cdv A outer s H vs Q E hr h => ⟨_, hb _ rfl rfl, ?_⟩)
  · obtain ⟨a, C, ys, rfl, hl, _⟩ := h
    simp [hl, hp]
  · obtain ⟨a, C, ys, rfl, hl, hO, hn, ha, q⟩ := h
    obtain ⟨y, rfl⟩ : ∃ y, ys = [y] := by
      match ys, hl with
      | [y], _ => exact ⟨y, rfl⟩
    refine ⟨y, by simp [L2.start], .ref a, by simp [L2.start], a, C, rfl, hO, hn n1 (by simp), .inl ⟨ha, fun dx hdx hne => ?_⟩⟩
    refine q dx _ hdx hne (fun b h1 h2 => ?_) upd_same ?_
    · rw [upd_ne h1, upd_ne h2]
    · rw [upd_ne hne, upd_same]
      rfl
theorem init2 {qual : Str} {st : Stmt} {f : Addr} {fd : FuncData} {n1 n2 : Str} {N ps : List Str} {k : Nat} (F : Fun K "__init__" qual st f fd) (S : FnScope N ps (defScope st)) (hp : ps.length = 3) (hN : N.length = 3)
    (hb : ∀ X : Cx, X.N = N → X.env.scope = defScope st → PSs X (defBody st) (tSeq (tOst X.K n1 (tVar 0) (tVar 1)) (tOst X.K n2 (tVar 0) (tVar 2)))) : FnOk P w K mg base (L2.CX P w) (k + 1) f fd ps (spI K [n1, n2]) := by
  refine F.okX S (fun vs H Q E h => ?_) (fun cdv A outer s H vs Q E hr h => ⟨_, hb _ rfl rfl, ?_⟩)
  · obtain ⟨a, C, ys, rfl, hl, _⟩ := h
    simp [hl, hp]
  · obtain ⟨a, C, ys, rfl, hl, hO, hn, ha, q⟩ := h
    obtain ⟨y, z, rfl⟩ : ∃ y z, ys = [y, z] := by
      match ys, hl with
      | [y, z], _ => exact ⟨y, z, rfl⟩
    refine ⟨y, by simp [L2.start], .ref a, by simp [L2.start], a, C, rfl, hO, hn n1 (by simp), .inl ⟨ha, fun dx hdx hne => ?_⟩⟩
    refine ⟨z, by simp [L2.start], .ref a, by simp [L2.start], a, C, rfl, hO, hn n2 (by simp), .inr ⟨dx, [(n1, y)], upd_same, by rw [upd_ne hne, upd_same], by simp, ?_⟩⟩
    refine q dx _ hdx hne (fun b h1 h2 => ?_) ?_ ?_
    · rw [upd_ne h2, upd_ne h1, upd_ne h2]
    · rw [upd_ne hne.symm, upd_same]
    · rw [upd_same]
      rfl
end
/-- an exception class that the module's name c holds, with its fields -/
structure XcAt (P : Program) (w : World) (K : PySem.W.Frag) (mg : Str → Option Value) (base : Heap) (k : Nat) (c : Str) (names : List Str) : Prop where
  ex : ∃ (C fI : Addr) (fd : FuncData) (ps : List Str), mg c = some (.ref C) ∧ OexC K C ∧ PySem.W.findIn K (.ref C) "__init__" = some (some (.ref fI)) ∧ PySem.W.typeIn K (.ref fI) = some (.type "function") ∧ (∀ f ∈ names, PySem.W.findIn K (.ref C) f = some none) ∧
    Binds K fd ps [] ∧ FnOk P w K mg base (L2.CX P w) k fI fd ps (spI K names)
def sraise (c : Str) (names : List Str) (g : M (List U)) : S := sbnd g fun us δ h => match allD us with
  | some ds => if ds.length = names.length ∧ names.length ≤ 1000 then some (.ex ⟨c, (names.zip ds).reverse⟩ δ h) else none
  | none => none
theorem RDf.app {C0 : Ct0} {B : Bd} {H : Hp} {f : Str} {d : D} {v : V} : ∀ {fs : List (Str × D)} {vs : List (Str × V)}, RDf C0 B H fs vs → RD C0 B H d v → RDf C0 B H (fs ++ [(f, d)]) (vs ++ [(f, v)])
  | _, _, .nil, h => .cons h .nil
  | _, _, .cons a b, h => .cons a (RDf.app b h)
theorem RDf.rev {C0 : Ct0} {B : Bd} {H : Hp} : ∀ {fs : List (Str × D)} {vs : List (Str × V)}, RDf C0 B H fs vs → RDf C0 B H fs.reverse vs.reverse
  | _, _, .nil => .nil
  | _, _, .cons a b => by
    rw [List.reverse_cons, List.reverse_cons]
    exact (RDf.rev b).app a
theorem RDs.zip {C0 : Ct0} {B : Bd} {H : Hp} : ∀ {ns : List Str} {ds : List D} {vs : List V}, RDs C0 B H ds vs → RDf C0 B H (ns.zip ds) (ns.zip vs)
  | [], _, _, _ => by simpa using RDf.nil
  | _ :: _, _, _, .nil => by simpa using RDf.nil
  | n :: ns, _, _, .cons a b => .cons a (RDs.zip b)
section
variable {X : Cx} {W : Wj} {k : Nat} {c : Str} {names : List Str} {g : M (List U)} {e : Expr} {es : List Expr} {p pos rpos : Pos}
theorem rs_raise (F : XcAt X.prog X.w X.K X.mg X.base k c names) (hr : Room (k + 1) X.A) (hc : X.calm = true) (tk : Takes X W.w) (ha : RA X W (e :: es) g) (hg : Gl X c := by rfl)
    (hdb : (c == ("__debug__" : Str)) = false := by decide) (he : starEach (e :: es) X.env = (false, eval e X.env) :: starEach es X.env := by rfl) (hpl : (backTo pos (starEach es X.env)).any (·.1) = false := by rfl) :
    RS X W (.Raise (some (.Call (.Name c p) (e :: es) [] pos)) none rpos) (sraise c names g) := by
  obtain ⟨C, fI, fd, ps, hm, hO, iC, tI, hn, hb, ok⟩ := F.ex
  refine ps_imp (ps_raise hc tk (pmk_oex hO iC tI ok hr hb .nil passL hg hm ha hdb he hpl)) fun D σ H t => ?_
  refine tS.bnd t fun us B r H1 h δ vs w s ru q => ?_
  try dsimp only at q
  cases hd : allD us with
  | none => rw [hd] at q; exact q.elim
  | some ds =>
    simp only [hd] at q
    by_cases hl : ds.length = names.length ∧ names.length ≤ 1000
    · rw [if_pos hl] at q
      have rd := ru.allD hd
      have hvl : vs.length = names.length := by rw [← rd.length, hl.1]
      refine ⟨by omega, fun a ha0 => ⟨a, C, vs ++ [], rfl, by simpa using hvl, hO, hn, upd_same, fun dx H' hdx hne hk h1 h2 => ⟨rfl, dx, _, h1, h2, ?_, ?_⟩⟩⟩
      · rw [upd_ne hne] at hdx
        exact hdx
      · rw [upd_ne hne] at hdx
        have hH : ∀ b o, H1 b = some o → upd (del H' a) dx (.xd (names.zip (vs ++ [])).reverse) b = some o := fun b o z => by
          have n1 : b ≠ dx := ne_of_none z hdx
          have n2 : b ≠ a := ne_of_none z ha0
          rw [upd_ne n1, del_ne n2, hk b n2 n1, upd_ne n2]
          exact z
        have gr : Gr B H1 B (upd (del H' a) dx (.xd (names.zip (vs ++ [])).reverse)) :=
          { keep := hH
            bnew := fun _ z => .inl z
            bold := fun _ z => z
            dom := fun b z => by
              obtain ⟨o, ho⟩ := w.dom b z
              exact ⟨o, hH b o ho⟩
            notup := fun b z us y => by
              obtain ⟨o, ho⟩ := w.dom b z
              exact w.notup b z us (rd_back ho (hH b) y) }
        refine q B r _ σ (.ref C) (some dx) gr.ext (gr.wd w) (s.ext gr.ext w.toOwn) ⟨C, hm, rfl, .inr ⟨dx, _, rfl, w.toOwn.nb hdx, upd_same, ?_⟩⟩
        have z := ((RDs.zip (ns := names) rd).rev).ext (gr.ext (r := r)) w.toOwn
        rw [List.append_nil] at z ⊢
        exact z
    · rw [if_neg hl] at q
      exact q.elim
end
theorem RX.st {C : Ct0} {e : Exn} {cls : Value} {d : Option Addr} {B B' : Bd} {r r' : Rho} {H H' : Hp} (w : Own B r H) (ex : Ext B r H B' r' H') (h : RX C B H e cls d) : RX C B' H' e cls d := by
  obtain ⟨Cd, h1, h2, h3⟩ := h
  refine ⟨Cd, h1, h2, ?_⟩
  rcases h3 with h3 | ⟨dx, fs, h4, h5, h6, h7⟩
  · exact .inl h3
  · exact .inr ⟨dx, fs, h4, nb_of ex h5 h6, ex.keep dx _ (fun l => h5 (w.own dx l)) h6, h7.ext ex w⟩
def outI (i : Nat) : Option Out → Option Out
  | some (.nx δ h) => some (.nx (δ.set i none) h)
  | some (.bk δ h) => some (.bk (δ.set i none) h)
  | some (.ct δ h) => some (.ct (δ.set i none) h)
  | some (.rt u h) => some (.rt u h)
  | _ => none
/-- ms: which classes the clause takes -/
def stry (i : Nat) (ms : List (Str × Bool)) (body : S) (suite : Exn → S) : S := fun δ h => match body δ h with
  | some (.ex e δ' h') => (match ms.lookup e.c with
    | some true => if i < δ'.length then outI i (suite e (δ'.set i none) h') else none
    | some false => some (.ex e δ' h')
    | none => none)
  | o => o
def XmAt (K : PySem.W.Frag) (mg : Str → Option Value) (x : Str) (ms : List (Str × Bool)) : Prop := ∃ Cx, mg x = some (.ref Cx) ∧ ∀ c b, ms.lookup c = some b → ∀ C, mg c = some (.ref C) → PySem.W.exmOne K (.ref C) (.ref Cx) = some b
theorem Wd.toJ {C C' : Ct} {B : Bd} {r : Rho} {H : Hp} {h : Hea} (hc : C.toCt0 = C'.toCt0) (w : Wd C B r H h) (hj : C'.j.J C'.toCt0 B H) : Wd C' B r H h :=
  { own := w.own, notup := w.notup, dom := w.dom, len := w.len, obj := fun n a z => by
      obtain ⟨o, ho, ro⟩ := w.obj n a z
      exact ⟨o, ho, by rw [← hc]; exact ro⟩
    gon := w.gon, inj := w.inj, jx := hj }
def jS (a : Addr) (i : Nat) (e : Exn) (cls : Value) (d : Option Addr) : Jx := ⟨some (i, a), fun C B H => RX C B H e cls d, fun _ _ _ _ _ _ _ w ex h => RX.st w ex h⟩
/-- what the clause's suite asks, for an exception of the class cls, its dict d, at a -/
def tSu (C0 : Ct0) (i : Nat) (su : Exn → S) (a : Addr) (cls : Value) (d : Option Addr) : TS := fun D σ H => ∃ e, tS ⟨C0, jS a i e cls d⟩ ⟨fun _ _ _ _ => False, jS a i e cls d⟩ (su e) D σ H
theorem SlR.unset {C C' : Ct} {B : Bd} {r : Rho} {H : Hp} {σ : L2.St} {δ : Sl} {i : Nat} {x : Option V} (hc : C.toCt0 = C'.toCt0) (s : SlR C B r H σ δ) (hx : ∀ j a, C'.j.xi = some (j, a) → (σ.set i x)[j]? = some (some (.ref a))) : SlR C' B r H (σ.set i x) (δ.set i none) := by
  refine ⟨by simp [s.len], fun j u hj => ?_, hx⟩
  by_cases hij : i = j
  · subst hij
    by_cases hl : i < δ.length
    · rw [List.getElem?_set_self hl] at hj
      cases hj
    · rw [List.getElem?_eq_none_iff.mpr (by simp; omega)] at hj
      cases hj
  · rw [List.getElem?_set_ne hij] at hj ⊢
    obtain ⟨v, h1, h2⟩ := s.at_ j u hj
    exact ⟨v, h1, by rw [← hc]; exact h2⟩
section
variable {X : Cx} {W : Wj} {x n : Str} {i : Nat} {body suite : List Stmt} {b₀ : Stmt} {np pos pos' : Pos} {b : S} {su : Exn → S}
theorem rs_try (ms : List (Str × Bool)) (hxm : XmAt X.K X.mg x ms) (tk : Takes X W.w) (hN : X.N.Nodup)
    (hb : ∀ (V : WX) (pn : List (Addr × Obj)) (xe : Value → Shared → Prop), Takes (X.tr pn xe) V → PassesOwn (model X.prog X.w) X.A X.env xe → RSs (X.tr pn xe) ⟨V, j0⟩ body b)
    (hsu : ∀ (a : Addr) (oe : Obj) (e : Exn) (cls : Value) (d : Option Addr) (pn : List (Addr × Obj)), Zc cls d oe → (∃ vs, oe.data = .fields vs) → RSs (X.suite a ((a, oe) :: pn)) ⟨fun _ _ _ _ => False, jS a i e cls d⟩ (b₀ :: suite) (su e))
    (hj : W.j = j0 := by rfl) (hi : X.N[i]? = some n := by rfl) (hln : X.env.kindOf n = some .local := by rfl) (hg : Gl X x := by rfl) (hdb : (x == ("__debug__" : Str)) = false := by decide) (hs : X.stack = X.env :: X.outer := by rfl) (hf : X.env.frame = some X.env.locals := by rfl) :
    RS X W (.Try body [.ExceptHandler (some (.Name x np)) (some n) (b₀ :: suite) pos'] [] [] pos) (stry i ms b su) := by
  obtain ⟨Cx, hcx, hms⟩ := hxm
  have ec : ctX X W = ⟨⟨X.K, X.mg, X.prog, X.w⟩, j0⟩ := by unfold ctX; rw [hj]
  refine ps_imp (ps_try_as (c := .ref Cx) (tb := fun V => tS ⟨⟨X.K, X.mg, X.prog, X.w⟩, j0⟩ ⟨V, j0⟩ b) (ts := tSu ⟨X.K, X.mg, X.prog, X.w⟩ i su) (Wout := W.w) hs hf hN hi hln ⟨hg, hdb, .inl hcx⟩ tk (fun V pn xe t p => hb V pn xe t p) (fun a oe cls d pn hz hfl => ?_)) fun D σ H t => ?_
  · refine ⟨fun pins s σ H D I t => ?_⟩
    obtain ⟨e, t⟩ := t
    exact (hsu a oe e cls d pn hz hfl).run pins s σ H D I t
  · obtain ⟨B, r, h, δ, w, sl, q⟩ := t
    rw [ec] at w sl q
    refine ⟨B, r, h, δ, w, sl, ?_⟩
    unfold stry at q
    cases hb1 : b δ h with
    | none => rw [hb1] at q; exact q
    | some o =>
      rw [hb1] at q
      cases o with
      | nx δ' h' => exact q
      | bk δ' h' => exact q
      | ct δ' h' => exact q
      | rt u h' => exact q
      | ex e δ' h' =>
        intro B' r' H' σ' cls d ex w' s' rx
        obtain ⟨Cd, m1, m2, m3⟩ := id rx
        subst m2
        cases hl : ms.lookup e.c with
        | none => simp only [hl] at q; exact q.elim
        | some bb =>
          refine ⟨bb, hms e.c bb hl Cd m1, fun hbt => ?_, fun hbf => ?_⟩
          · subst hbt
            simp only [hl] at q
            by_cases hil : i < δ'.length
            · rw [if_pos hil] at q
              intro a ha
              have q' := q.shift w.toOwn ex
              refine ⟨e, B', r', h', δ'.set i none, Wd.toJ (C := ⟨⟨X.K, X.mg, X.prog, X.w⟩, j0⟩) (C' := ⟨⟨X.K, X.mg, X.prog, X.w⟩, jS a i e (.ref Cd) d⟩) rfl w' rx, SlR.unset (C := ⟨⟨X.K, X.mg, X.prog, X.w⟩, j0⟩) (C' := ⟨⟨X.K, X.mg, X.prog, X.w⟩, jS a i e (.ref Cd) d⟩) rfl s' (fun j a' z => ?_), ?_⟩
              · cases z
                exact List.getElem?_set_self (by rw [← s'.len]; exact hil)
              · have back : ∀ {B5 : Bd} {r5 : Rho} {H5 : Hp} {σ5 : L2.St} {δ5 : Sl}, SlR ⟨⟨X.K, X.mg, X.prog, X.w⟩, jS a i e (.ref Cd) d⟩ B5 r5 H5 σ5 δ5 → SlR ⟨⟨X.K, X.mg, X.prog, X.w⟩, j0⟩ B5 r5 H5 (σ5.set i none) (δ5.set i none) := fun s5 => SlR.unset (C := ⟨⟨X.K, X.mg, X.prog, X.w⟩, jS a i e (.ref Cd) d⟩) (C' := ⟨⟨X.K, X.mg, X.prog, X.w⟩, j0⟩) rfl s5 (fun j a z => by cases z)
                cases hsr : su e (δ'.set i none) h' with
                | none => rw [hsr] at q'; exact q'
                | some o2 =>
                  rw [hsr] at q'
                  cases o2 with
                  | nx δ5 h5 => exact fun B5 r5 H5 σ5 e5 w5 s5 => q' B5 r5 H5 _ e5 (Wd.toJ (C := ⟨⟨X.K, X.mg, X.prog, X.w⟩, jS a i e (.ref Cd) d⟩) (C' := ⟨⟨X.K, X.mg, X.prog, X.w⟩, j0⟩) rfl w5 trivial) (back s5)
                  | bk δ5 h5 => exact fun B5 r5 H5 σ5 e5 w5 s5 => q' B5 r5 H5 _ e5 (Wd.toJ (C := ⟨⟨X.K, X.mg, X.prog, X.w⟩, jS a i e (.ref Cd) d⟩) (C' := ⟨⟨X.K, X.mg, X.prog, X.w⟩, j0⟩) rfl w5 trivial) (back s5)
                  | ct δ5 h5 => exact fun B5 r5 H5 σ5 e5 w5 s5 => q' B5 r5 H5 _ e5 (Wd.toJ (C := ⟨⟨X.K, X.mg, X.prog, X.w⟩, jS a i e (.ref Cd) d⟩) (C' := ⟨⟨X.K, X.mg, X.prog, X.w⟩, j0⟩) rfl w5 trivial) (back s5)
                  | rt u h5 => exact fun B5 r5 H5 v e5 w5 ru => q' B5 r5 H5 v e5 (Wd.toJ (C := ⟨⟨X.K, X.mg, X.prog, X.w⟩, jS a i e (.ref Cd) d⟩) (C' := ⟨⟨X.K, X.mg, X.prog, X.w⟩, j0⟩) rfl w5 trivial) ru
                  | ex e2 δ5 h5 => exact q'.elim
            · rw [if_neg hil] at q
              exact q.elim
          · subst hbf
            simp only [hl] at q
            exact q B' r' H' σ' (.ref Cd) d ex w' s' rx
end
def XfAt (K : PySem.W.Frag) (mg : Str → Option Value) (cs : List Str) (f : Str) : Prop := ∀ c ∈ cs, ∀ C, mg c = some (.ref C) → XfC K C ∧ PySem.W.findIn K (.ref C) f = some none
def xfE (cs : List Str) (e : Exn) (f : Str) : M U := fun _ h => if cs.contains e.c = true then (match e.fs.lookup f with
  | some d => some (.ok (.d d) h)
  | none => none) else none
theorem re_xf {X : Cx} {a : Addr} {oe : Obj} {e : Exn} {cls : Value} {d : Option Addr} {pn : List (Addr × Obj)} {i : Nat} {n f : Str} {np pos : Pos} {w : WX} (cs : List Str) (T : XfAt X.K X.mg cs f) (hz : Zc cls d oe) (hf : ∃ vs, oe.data = .fields vs)
    (hN : X.N[i]? = some n := by rfl) (hv : Vis X.env.scope n := by first | exact Or.inl rfl | exact Or.inr (Or.inl rfl) | exact Or.inr (Or.inr rfl)) (hd : (n == ("__debug__" : Str)) = false := by decide) (hcd : (n == ("__classdict__" : Str)) = false := by decide)
    (hb : attributeBase (.Name n np) f X.env (eval (.Name n np) X.env) = eval (.Name n np) X.env := by rfl) : RE (X.suite a ((a, oe) :: pn)) ⟨w, jS a i e cls d⟩ (.Attribute (.Name n np) f pos) (xfE cs e f) := by
  refine ⟨fun pins s σ H Q I t => ?_⟩
  obtain ⟨B, r, h, δ, wd, sl, q⟩ := t
  have rx : RX ⟨X.K, X.mg, X.prog, X.w⟩ B H e cls d := wd.jx
  obtain ⟨Cd, m1, m2, m3⟩ := rx
  unfold xfE at q
  by_cases hc : cs.contains e.c = true
  · rw [if_pos hc] at q
    cases hl : e.fs.lookup f with
    | none => rw [hl] at q; exact q.elim
    | some x =>
      rw [hl] at q
      obtain ⟨T1, T2⟩ := T e.c (by simpa using hc) Cd m1
      subst m2
      rcases m3 with ⟨m4, _⟩ | ⟨dx, fs, m4, m5, m6, m7⟩
      · rw [m4] at hl
        cases hl
      · obtain ⟨v, hv1, hv2⟩ := m7.look hl
        refine (pe_xf (C := Cd) T1 T2 hz hf (pe_var hN hv hd hcd) hb).run pins s σ H Q I ⟨.ref a, sl.xi i a rfl, rfl, rfl, dx, fs, v, m4, m6, hv1, EQ.ret wd q (.d hv2)⟩
  · rw [if_neg hc] at q
    exact q.elim
theorem OpR.or {X : Cx} {f : Value → Value → Sem Value} {r r' : R2} (h : OpR X f r) (h' : OpR X f r') : OpR X f (fun x y H Q => r x y H Q ∨ r' x y H Q) := by
  intro pins s σ H x y v u Q I rx ry q
  rcases q with q | q
  · exact h pins s σ H x y v u Q I rx ry q
  · exact h' pins s σ H x y v u Q I rx ry q
/- inversions of what is seen -/
section
variable {C : Ct0} {B : Bd} {H : Hp} {v : V}
theorem RV.intI {i : Int} (h : RV C B H (.int i) v) : v = .int i := by
  cases h with
  | of h => cases h; rfl
theorem RV.blI {b : Bool} (h : RV C B H (.bl b) v) : v = .bl b := by
  cases h with
  | of h => cases h; rfl
theorem RV.strI {x : Str} (h : RV C B H (.str x) v) : v = .str x := by
  cases h with
  | of h => cases h; rfl
theorem RV.nonI (h : RV C B H .non v) : v = .non := by
  cases h with
  | of h => cases h; rfl
theorem RV.tupI {xs : List D} (h : RV C B H (.tup xs) v) : ∃ a vs, v = .ref a ∧ SqT C.K H a vs ∧ RDs C B H xs vs ∧ RD C B H (.tup xs) v := by
  cases h with
  | of h =>
    cases h with
    | tup hs q => exact ⟨_, _, rfl, hs, q, .tup hs q⟩
theorem RV.lstI {xs : List D} (h : RV C B H (.lst xs) v) : ∃ a vs, v = .ref a ∧ H a = some (.lst vs) ∧ RDs C B H xs vs := by
  cases h with
  | of h =>
    cases h with
    | lst hs q => exact ⟨_, _, rfl, hs.2, q⟩
  | lst hs q => exact ⟨_, _, rfl, hs, q⟩
theorem RV.scrI {xs : List Int} (h : RV C B H (.scr xs) v) : ∃ a, v = .ref a ∧ SqL C.K H a (xs.map V.int) := by
  cases h with
  | of h =>
    cases h with
    | scr hs => exact ⟨_, rfl, hs.seq⟩
theorem RDs.get {ds : List D} {vs : List V} {i : Nat} {d : D} (h : RDs C B H ds vs) (e : ds[i]? = some d) : ∃ v, vs[i]? = some v ∧ RD C B H d v := by
  induction ds generalizing vs i with
  | nil => simp at e
  | cons x xs ih =>
    cases h with
    | cons a b =>
      cases i with
      | zero =>
        cases e
        exact ⟨_, rfl, a⟩
      | succ i =>
        obtain ⟨v, h1, h2⟩ := ih b (i := i) (by simpa using e)
        exact ⟨v, by simpa using h1, h2⟩
theorem RDs.append {ds es : List D} {vs us : List V} (h : RDs C B H ds vs) (k : RDs C B H es us) : RDs C B H (ds ++ es) (vs ++ us) := by
  induction ds generalizing vs with
  | nil => cases h; exact k
  | cons x xs ih =>
    cases h with
    | cons a b => exact .cons a (ih b)
theorem RDs.take {ds : List D} {vs : List V} (n : Nat) (h : RDs C B H ds vs) : RDs C B H (ds.take n) (vs.take n) := by
  induction ds generalizing vs n with
  | nil => cases h; simpa using RDs.nil
  | cons x xs ih =>
    cases h with
    | cons a b =>
      cases n with
      | zero => exact .nil
      | succ n => exact .cons a (ih n b)
theorem RDs.drop {ds : List D} {vs : List V} (n : Nat) (h : RDs C B H ds vs) : RDs C B H (ds.drop n) (vs.drop n) := by
  induction ds generalizing vs n with
  | nil => cases h; simpa using RDs.nil
  | cons x xs ih =>
    cases h with
    | cons a b =>
      cases n with
      | zero => exact .cons a b
      | succ n => exact ih n b
theorem RDs.strs {ys : List Str} : RDs C B H (ys.map D.str) (ys.map V.str) := by
  induction ys with
  | nil => exact .nil
  | cons y ys ih => exact .cons (.str y) ih
theorem RDs.rep {ds : List D} {vs : List V} (h : RDs C B H ds vs) : ∀ n : Nat, RDs C B H (List.replicate n ds).flatten (List.replicate n vs).flatten
  | 0 => .nil
  | n + 1 => by
    rw [List.replicate_succ, List.replicate_succ, List.flatten_cons, List.flatten_cons]
    exact h.append (RDs.rep h n)
end
def liI (p : Int → Int → Option D) : D → D → Option D
  | .int i, .int j => p i j
  | _, _ => none
theorem liI_ok {p : Int → Int → Option D} {x y c : D} (h : liI p x y = some c) : ∃ i j, x = .int i ∧ y = .int j ∧ p i j = some c := by
  unfold liI at h
  split at h
  · exact ⟨_, _, rfl, rfl, h⟩
  · cases h
theorem op2_int0 {C : Ct} {g : Int → Int → V} {d : Int → Int → D} (hd : ∀ i j B H, RD C B H (d i j) (g i j)) : Op2 C (liI fun i j => some (d i j)) (rI0 g) := by
  intro B r H h x y v w c Q wd rx ry e q
  obtain ⟨i, j, rfl, rfl, e⟩ := liI_ok e
  cases e
  exact ⟨i, j, rx.intI, ry.intI, q B H _ wd.toOwn.gr (hd i j B H)⟩
theorem op2_intC {C : Ct} {g : Int → Int → V} {d : Int → Int → D} {K : Int → Int → Prop} {b : Int → Int → Bool} (hb : ∀ i j, b i j = true → K i j) (hd : ∀ i j B H, RD C B H (d i j) (g i j)) : Op2 C (liI fun i j => if b i j = true then some (d i j) else none) (rI K g) := by
  intro B r H h x y v w c Q wd rx ry e q
  obtain ⟨i, j, e1, e2, e3⟩ := liI_ok e
  subst e1 e2
  clear e
  split at e3
  · rename_i hk
    cases e3
    exact ⟨i, j, rx.intI, ry.intI, hb i j hk, q B H _ wd.toOwn.gr (hd i j B H)⟩
  · cases e3
def pAddI : D → D → Option D := liI fun i j => some (.int (i + j))
def pSub : D → D → Option D := liI fun i j => some (.int (i - j))
def pMulI : D → D → Option D := liI fun i j => if decide (i.natAbs.log2 + j.natAbs.log2 < 100000000) = true then some (.int (i * j)) else none
def pFdiv : D → D → Option D := liI fun i j => if decide (0 < j ∧ j.natAbs.log2 < 9000) = true then some (.int (i / j)) else none
def pMod : D → D → Option D := liI fun i j => if decide (j ≠ 0) = true then some (.int (i.fmod j)) else none
def pPow : D → D → Option D := liI fun i j => if decide (0 ≤ j ∧ j ≤ 1000000 ∧ i.natAbs < 2 ^ 64) = true then some (.int (i ^ j.toNat)) else none
def pLtI : D → D → Option D := liI fun i j => some (.bl (decide (i < j)))
def pLeI : D → D → Option D := liI fun i j => some (.bl (decide (i ≤ j)))
def pGtI : D → D → Option D := liI fun i j => some (.bl (decide (j < i)))
def pGeI : D → D → Option D := liI fun i j => some (.bl (decide (j ≤ i)))
theorem mul_ok {i j : Int} (h : i.natAbs.log2 + j.natAbs.log2 < 100000000) : IntMulOk i j := by
  have b : ∀ x : Int, Builtin.Int.intBits x ≤ x.natAbs.log2 + 1 := fun x => by
    unfold Builtin.Int.intBits
    split <;> omega
  have h1 := b i
  have h2 := b j
  have e : bitsLine = 134217728 := by decide
  unfold IntMulOk
  intro z
  rw [Bool.and_eq_true] at z
  have z2 := z.2
  unfold Builtin.Int.intTooBig at z2
  have z3 := of_decide_eq_true z2
  rw [e] at z3
  omega
theorem op_mulX {X : Cx} : OpR X (binaryOp .Mult) (rI (fun i j => i.natAbs.log2 + j.natAbs.log2 < 100000000) fun i j => .int (i * j)) := opI fun _ _ _ _ _ _ _ hc q => mul_int q (mul_ok hc)
def pAdd : D → D → Option D
  | .int i, .int j => some (.int (i + j))
  | .str x, .str y => if szOk (x.length + y.length) = true then some (.str (x ++ y)) else none
  | .lst xs, .lst ys => if szOk (xs.length + ys.length) = true then some (.lst (xs ++ ys)) else none
  | .tup xs, .tup ys => if szOk (xs.length + ys.length) = true then some (.tup (xs ++ ys)) else none
  | _, _ => none
def rAddS : R2 := fun x y H Q => ∃ i j, x = .str i ∧ y = .str j ∧ i.length + j.length ≤ sizeLine ∧ Q (.str (i ++ j)) H
def rAddAll (K : PySem.W.Frag) : R2 := fun x y H Q => (rI0 fun i j => .int (i + j)) x y H Q ∨ rAddS x y H Q ∨ rCat x y H Q ∨ rCatA K x y H Q
theorem op_addAll {X : Cx} : OpR X (binaryOp .Add) (rAddAll X.K) := OpR.or op_add (OpR.or op_add_str (OpR.or op_cat op_catA))
theorem op2_add {C : Ct} : Op2 C pAdd (rAddAll C.K) := by
  intro B r H h x y v w c Q wd rx ry e q
  unfold pAdd at e
  split at e
  · cases e
    exact .inl ⟨_, _, rx.intI, ry.intI, q B H _ wd.toOwn.gr (.int _)⟩
  · split at e
    · rename_i hz
      cases e
      exact .inr (.inl ⟨_, _, rx.strI, ry.strI, szOk_le hz, q B H _ wd.toOwn.gr (.str _)⟩)
    · cases e
  · split at e
    · rename_i hz
      cases e
      obtain ⟨a, vs, rfl, h1, h2⟩ := rx.lstI
      obtain ⟨b, us, rfl, h3, h4⟩ := ry.lstI
      refine .inr (.inr (.inl ⟨a, b, vs, us, rfl, rfl, h1, h3, by rw [← h2.length, ← h4.length]; exact szOk_le hz, fun p hp => ?_⟩))
      have g := wd.toOwn.new hp (.lst (vs ++ us))
      exact q _ _ _ g (.lst ⟨wd.toOwn.nb hp, upd_same⟩ ((h2.append h4).ext (g.ext (r := r)) wd.toOwn))
    · cases e
  · split at e
    · rename_i xs ys hz
      cases e
      obtain ⟨a, vs, rfl, h1, h2, h5⟩ := rx.tupI
      obtain ⟨b, us, rfl, h3, h4, h6⟩ := ry.tupI
      refine .inr (.inr (.inr ⟨a, b, vs, us, rfl, rfl, h1, h3, by rw [← h2.length, ← h4.length]; exact szOk_le hz, fun e => ?_, fun e1 e2 => ?_, fun e1 e2 p hp => ?_⟩))
      · subst e
        cases h2
        exact q B H _ wd.toOwn.gr h6
      · subst e2
        cases h4
        rw [List.append_nil] at q
        exact q B H _ wd.toOwn.gr h5
      · have g := wd.toOwn.new hp (.tup (vs ++ us))
        exact q _ _ _ g (.tup (SqT.of upd_same) ((h2.append h4).ext (g.ext (r := r)) wd.toOwn))
    · cases e
  · cases e
def rep63 (n : Nat) (k : Int) : Bool := decide (-9223372036854775808 ≤ k ∧ k < 9223372036854775808 ∧ n * k.toNat ≤ 16777216)
def pMul : D → D → Option D
  | .int i, .int j => if decide (i.natAbs.log2 + j.natAbs.log2 < 100000000) = true then some (.int (i * j)) else none
  | .lst xs, .int k => if rep63 xs.length k = true then some (.lst (List.replicate k.toNat xs).flatten) else none
  | _, _ => none
def rMulAll : R2 := fun x y H Q => (rI (fun i j => i.natAbs.log2 + j.natAbs.log2 < 100000000) fun i j => .int (i * j)) x y H Q ∨ rRep x y H Q
theorem op_mulAll {X : Cx} : OpR X (binaryOp .Mult) rMulAll := OpR.or op_mulX op_rep
theorem op2_mul {C : Ct} : Op2 C pMul rMulAll := by
  intro B r H h x y v w c Q wd rx ry e q
  unfold pMul at e
  split at e
  · split at e
    · rename_i hz
      cases e
      exact .inl ⟨_, _, rx.intI, ry.intI, of_decide_eq_true hz, q B H _ wd.toOwn.gr (.int _)⟩
    · cases e
  · split at e
    · rename_i xs k hz
      cases e
      obtain ⟨a, vs, rfl, h1, h2⟩ := rx.lstI
      obtain ⟨z1, z2, z3⟩ := of_decide_eq_true hz
      refine .inr ⟨a, k, vs, rfl, ry.intI, h1, by omega, by omega, by rw [← h2.length, sizeLine_eq]; exact z3, fun p hp => ?_⟩
      have g := wd.toOwn.new hp (.lst (List.replicate k.toNat vs).flatten)
      exact q _ _ _ g (.lst ⟨wd.toOwn.nb hp, upd_same⟩ ((h2.rep _).ext (g.ext (r := r)) wd.toOwn))
    · cases e
  · cases e
def strLt (x y : Str) : Bool := decide (x.cps.toList < y.cps.toList)
def pLt : D → D → Option D
  | .int i, .int j => some (.bl (decide (i < j)))
  | .str x, .str y => some (.bl (strLt x y))
  | _, _ => none
def pLe : D → D → Option D
  | .int i, .int j => some (.bl (decide (i ≤ j)))
  | .str x, .str y => some (.bl (!strLt y x))
  | _, _ => none
def pGt : D → D → Option D
  | .int i, .int j => some (.bl (decide (j < i)))
  | .str x, .str y => some (.bl (strLt y x))
  | _, _ => none
def pGe : D → D → Option D
  | .int i, .int j => some (.bl (decide (j ≤ i)))
  | .str x, .str y => some (.bl (!strLt x y))
  | _, _ => none
def rBoth (g : Int → Int → V) (k : Str → Str → V) : R2 := fun x y H Q => (rI0 g) x y H Q ∨ ∃ i j, x = .str i ∧ y = .str j ∧ Q (k i j) H
theorem op_ltA {X : Cx} : OpR X (compareOp .Lt) (rBoth (fun i j => .bl (decide (i < j))) fun i j => .bl (strLt i j)) := OpR.or op_lt op_lt_str
theorem op_leA {X : Cx} : OpR X (compareOp .LtE) (rBoth (fun i j => .bl (decide (i ≤ j))) fun i j => .bl (!strLt j i)) := OpR.or op_le op_le_str
theorem op_gtA {X : Cx} : OpR X (compareOp .Gt) (rBoth (fun i j => .bl (decide (j < i))) fun i j => .bl (strLt j i)) := OpR.or op_gt op_gt_str
theorem op_geA {X : Cx} : OpR X (compareOp .GtE) (rBoth (fun i j => .bl (decide (j ≤ i))) fun i j => .bl (!strLt i j)) := OpR.or op_ge op_ge_str
theorem op2_lt {C : Ct} : Op2 C pLt (rBoth (fun i j => .bl (decide (i < j))) fun i j => .bl (strLt i j)) := by
  intro B r H h x y v w c Q wd rx ry e q
  unfold pLt at e
  split at e
  · cases e
    exact .inl ⟨_, _, rx.intI, ry.intI, q B H _ wd.toOwn.gr (.bl _)⟩
  · cases e
    exact .inr ⟨_, _, rx.strI, ry.strI, q B H _ wd.toOwn.gr (.bl _)⟩
  · cases e
theorem op2_le {C : Ct} : Op2 C pLe (rBoth (fun i j => .bl (decide (i ≤ j))) fun i j => .bl (!strLt j i)) := by
  intro B r H h x y v w c Q wd rx ry e q
  unfold pLe at e
  split at e
  · cases e
    exact .inl ⟨_, _, rx.intI, ry.intI, q B H _ wd.toOwn.gr (.bl _)⟩
  · cases e
    exact .inr ⟨_, _, rx.strI, ry.strI, q B H _ wd.toOwn.gr (.bl _)⟩
  · cases e
theorem op2_gt {C : Ct} : Op2 C pGt (rBoth (fun i j => .bl (decide (j < i))) fun i j => .bl (strLt j i)) := by
  intro B r H h x y v w c Q wd rx ry e q
  unfold pGt at e
  split at e
  · cases e
    exact .inl ⟨_, _, rx.intI, ry.intI, q B H _ wd.toOwn.gr (.bl _)⟩
  · cases e
    exact .inr ⟨_, _, rx.strI, ry.strI, q B H _ wd.toOwn.gr (.bl _)⟩
  · cases e
theorem op2_ge {C : Ct} : Op2 C pGe (rBoth (fun i j => .bl (decide (j ≤ i))) fun i j => .bl (!strLt i j)) := by
  intro B r H h x y v w c Q wd rx ry e q
  unfold pGe at e
  split at e
  · cases e
    exact .inl ⟨_, _, rx.intI, ry.intI, q B H _ wd.toOwn.gr (.bl _)⟩
  · cases e
    exact .inr ⟨_, _, rx.strI, ry.strI, q B H _ wd.toOwn.gr (.bl _)⟩
  · cases e
/- plain data without dicts and instances, as the library's -/
mutual
def toPy : D → Option PyData
  | .non => some .none
  | .bl b => some (.bool b)
  | .int i => some (.int i)
  | .str x => some (.str x)
  | .tup xs => match toPys xs with
    | some ys => some (.tuple ys)
    | none => none
  | .lst xs => match toPys xs with
    | some ys => some (.list ys)
    | none => none
  | .scr ns => some (.list (ns.map .int))
  | _ => none
def toPys : List D → Option (List PyData)
  | [] => some []
  | x :: xs => match toPy x, toPys xs with
    | some y, some ys => some (y :: ys)
    | _, _ => none
end
mutual
theorem RD.dp {C : Ct0} {B : Bd} {H : Hp} : ∀ {d : D} {v : V} {p : PyData}, RD C B H d v → toPy d = some p → Dp C.K H v p
  | .non, _, p, h, e => by cases h; cases e; exact .non
  | .bl b, _, p, h, e => by cases h; cases e; exact .bl b
  | .int i, _, p, h, e => by cases h; cases e; exact .int i
  | .str x, _, p, h, e => by cases h; cases e; exact .str x
  | .tup xs, _, p, h, e => by
    cases h with
    | tup hs q =>
      unfold toPy at e
      split at e
      · rename_i ys e2
        cases e
        exact .tup hs (RDs.dp q e2)
      · cases e
  | .lst xs, _, p, h, e => by
    cases h with
    | lst hs q =>
      unfold toPy at e
      split at e
      · rename_i ys e2
        cases e
        exact .lst hs.seq (RDs.dp q e2)
      · cases e
  | .scr ns, _, p, h, e => by
    cases h with
    | scr hs =>
      cases e
      refine .lst hs.seq ?_
      have go : ∀ ns : List Int, DpAll C.K H (ns.map V.int) (ns.map PyData.int) := fun ns => by
        induction ns with
        | nil => exact .nil
        | cons n ns ih => exact .cons (.int n) ih
      exact go ns
  | .dct _, _, _, _, e => by cases e
  | .ins _ _, _, _, _, e => by cases e
  | .raw _, _, _, _, e => by cases e
  | .ndct _, _, _, _, e => by cases e
  | .fn _, _, _, _, e => by cases e
theorem RDs.dp {C : Ct0} {B : Bd} {H : Hp} : ∀ {d : List D} {v : List V} {p : List PyData}, RDs C B H d v → toPys d = some p → DpAll C.K H v p
  | [], _, p, h, e => by cases h; cases e; exact .nil
  | x :: xs, _, p, h, e => by
    cases h with
    | cons a b =>
      unfold toPys at e
      split at e
      · rename_i y ys e1 e2
        cases e
        exact .cons (RD.dp a e1) (RDs.dp b e2)
      · cases e
end
theorem RV.dp {C : Ct0} {B : Bd} {H : Hp} {d : D} {v : V} {p : PyData} (h : RV C B H d v) (e : toPy d = some p) : Dp C.K H v p := by
  cases h with
  | of h => exact h.dp e
  | lst hs q =>
    unfold toPy at e
    split at e
    · rename_i ys e2
      cases e
      exact .lst (SqL.of hs) (q.dp e2)
    · cases e
  | dct _ _ => cases e
  | ins _ _ _ => cases e
  | ndct _ _ => cases e
/-- the scalars that == tells apart as such -/
def scalD : D → D → Bool
  | .non, .non => true | .non, .int _ => true | .int _, .non => true | .non, .bl _ => true | .bl _, .non => true | .non, .str _ => true | .str _, .non => true
  | .int _, .int _ => true | .bl _, .bl _ => true | .str _, .str _ => true
  | .int _, .str _ => true | .str _, .int _ => true | .bl _, .str _ => true | .str _, .bl _ => true
  | _, _ => false
def eqS : D → D → Bool
  | .non, .non => true
  | .int i, .int j => i == j
  | .bl i, .bl j => i == j
  | .str i, .str j => i == j
  | _, _ => false
def eqP (x y : D) : Option Bool := match toPy x, toPy y with
  | some a, some b => if (SeqAt.shaped a && SeqAt.shaped b) = true then some (PyData.eqv a b) else none
  | _, _ => none
def eqD (x y : D) : Option Bool := if scalD x y = true then some (eqS x y) else eqP x y
def pEq (x y : D) : Option D := (eqD x y).map .bl
def pNe (x y : D) : Option D := (eqD x y).map fun b => .bl (!b)
theorem dec_or {p q : Prop} [Decidable p] [Decidable q] (h : p ↔ q) : decide p = decide q := decide_eq_decide.mpr h
theorem scal_ok {C : Ct0} {B : Bd} {H : Hp} {x y : D} {v w : V} (rx : RV C B H x v) (ry : RV C B H y w) (h : scalD x y = true) : scal v w = true ∧ decide (v = w) = eqS x y := by
  cases x <;> cases y <;> first
    | (exact absurd h Bool.false_ne_true)
    | ((first | (have e1 := rx.nonI) | (have e1 := rx.blI) | (have e1 := rx.intI) | (have e1 := rx.strI)) <;> (first | (have e2 := ry.nonI) | (have e2 := ry.blI) | (have e2 := ry.intI) | (have e2 := ry.strI)) <;>
      (subst e1 e2; refine ⟨rfl, ?_⟩; first | exact dec_int | exact dec_bl | exact dec_str | exact decide_eq_false (fun z => nomatch z) | exact decide_eq_true rfl))
theorem op_eqA {X : Cx} (hu : X.A.units + 64 < cLine) : OpR X (compareOp .Eq) (fun x y H Q => rEq x y H Q ∨ rEqD X.K x y H Q) := OpR.or op_eq (op_eqD hu)
theorem op_neA {X : Cx} (hu : X.A.units + 64 < cLine) : OpR X (compareOp .NotEq) (fun x y H Q => rNe x y H Q ∨ rNeD X.K x y H Q) := OpR.or op_ne (op_neD hu)
theorem op2_eq {C : Ct} : Op2 C pEq (fun x y H Q => rEq x y H Q ∨ rEqD C.K x y H Q) := by
  intro B r H h x y v w c Q wd rx ry e q
  unfold pEq eqD at e
  split at e
  · rename_i hs
    cases e
    obtain ⟨h1, h2⟩ := scal_ok rx ry hs
    exact .inl ⟨h1, by rw [h2]; exact q B H _ wd.toOwn.gr (.bl _)⟩
  · unfold eqP at e
    split at e
    · rename_i a b e1 e2
      split at e
      · rename_i hsh
        cases e
        rw [Bool.and_eq_true] at hsh
        exact .inr ⟨a, b, rx.dp e1, ry.dp e2, hsh.1, hsh.2, q B H _ wd.toOwn.gr (.bl _)⟩
      · cases e
    · cases e
theorem op2_ne {C : Ct} : Op2 C pNe (fun x y H Q => rNe x y H Q ∨ rNeD C.K x y H Q) := by
  intro B r H h x y v w c Q wd rx ry e q
  unfold pNe eqD at e
  split at e
  · rename_i hs
    cases e
    obtain ⟨h1, h2⟩ := scal_ok rx ry hs
    exact .inl ⟨h1, by rw [h2]; exact q B H _ wd.toOwn.gr (.bl _)⟩
  · unfold eqP at e
    split at e
    · rename_i a b e1 e2
      split at e
      · rename_i hsh
        cases e
        rw [Bool.and_eq_true] at hsh
        exact .inr ⟨a, b, rx.dp e1, ry.dp e2, hsh.1, hsh.2, q B H _ wd.toOwn.gr (.bl _)⟩
      · cases e
    · cases e
/-- is, is not: None, bools -/
def isNB : D → Bool
  | .raw _ => false
  | _ => true
def pIs : D → D → Option D
  | .bl a, .bl b => some (.bl (decide (a = b)))
  | .raw _, .non => none
  | .non, .non => some (.bl true)
  | _, .non => some (.bl false)
  | _, _ => none
def pIsNot : D → D → Option D
  | .bl a, .bl b => some (.bl (!decide (a = b)))
  | .raw _, .non => none
  | .non, .non => some (.bl false)
  | _, .non => some (.bl true)
  | _, _ => none
theorem RV.nn {C : Ct0} {B : Bd} {H : Hp} {x : D} {v : V} (rx : RV C B H x v) (h1 : x ≠ .non) (h2 : ∀ z, x ≠ .raw z) : v ≠ .non := by
  cases rx with
  | of h =>
    cases h with
    | non => exact absurd rfl h1
    | raw z => exact absurd rfl (h2 _)
    | _ => exact fun z => nomatch z
  | _ => exact fun z => nomatch z
theorem op_isA {X : Cx} : OpR X (compareOp .Is) (fun x y H Q => (y = .non ∧ Q (.bl (decide (x = .non))) H) ∨ rIsB x y H Q) := OpR.or op_isN op_isBl
theorem op_notA {X : Cx} : OpR X (compareOp .IsNot) (fun x y H Q => (y = .non ∧ Q (.bl (!decide (x = .non))) H) ∨ rNotB x y H Q) := OpR.or op_notN op_notBl
theorem op2_is {C : Ct} : Op2 C pIs (fun x y H Q => (y = .non ∧ Q (.bl (decide (x = .non))) H) ∨ rIsB x y H Q) := by
  intro B r H h x y v w c Q wd rx ry e q
  unfold pIs at e
  split at e
  · cases e
    exact .inr ⟨_, _, rx.blI, ry.blI, q B H _ wd.toOwn.gr (.bl _)⟩
  · cases e
  · cases e
    have e1 := rx.nonI
    subst e1
    exact .inl ⟨ry.nonI, q B H _ wd.toOwn.gr (.bl true)⟩
  · rename_i h1 h2
    cases e
    have e1 : v ≠ .non := rx.nn h2 (fun z => h1 z)
    exact .inl ⟨ry.nonI, by rw [decide_eq_false e1]; exact q B H _ wd.toOwn.gr (.bl false)⟩
  · cases e
theorem op2_isNot {C : Ct} : Op2 C pIsNot (fun x y H Q => (y = .non ∧ Q (.bl (!decide (x = .non))) H) ∨ rNotB x y H Q) := by
  intro B r H h x y v w c Q wd rx ry e q
  unfold pIsNot at e
  split at e
  · cases e
    exact .inr ⟨_, _, rx.blI, ry.blI, q B H _ wd.toOwn.gr (.bl _)⟩
  · cases e
  · cases e
    have e1 := rx.nonI
    subst e1
    exact .inl ⟨ry.nonI, q B H _ wd.toOwn.gr (.bl false)⟩
  · rename_i h1 h2
    cases e
    have e1 : v ≠ .non := rx.nn h2 (fun z => h1 z)
    exact .inl ⟨ry.nonI, by rw [decide_eq_false e1]; exact q B H _ wd.toOwn.gr (.bl true)⟩
  · cases e
mutual
inductive NkV (K : PySem.W.Frag) (H : Hp) : NestedKey → V → Prop
  | non : NkV K H .none .non
  | bl (b : Bool) : NkV K H (.num (if b = true then 1 else 0)) (.bl b)
  | int (i : Int) : NkV K H (.num i) (.int i)
  | str (x : Str) : NkV K H (.text x) (.str x)
  | tup {a : Addr} {vs : List V} {ks : List NestedKey} : SqT K H a vs → NkVs K H ks vs → NkV K H (.tup ks) (.ref a)
inductive NkVs (K : PySem.W.Frag) (H : Hp) : List NestedKey → List V → Prop
  | nil : NkVs K H [] []
  | cons {k : NestedKey} {v : V} {ks : List NestedKey} {vs : List V} : NkV K H k v → NkVs K H ks vs → NkVs K H (k :: ks) (v :: vs)
end
section
variable {X : Cx} {pins : List (Addr × Obj)} {σ : L2.St} {H : Hp} {s : Shared}
mutual
theorem nk_is (I : Inv X pins σ H s) : ∀ {k : NestedKey} {v : V} {u : Value}, NkV X.K H k v → RelV v u → NestedIs s.heap k u
  | _, _, u, .non, r => by
    cases (show u = Value.none from r)
    exact .none
  | _, _, u, .bl b, r => by
    cases (show u = Value.bool b from r)
    exact .bool rfl
  | _, _, u, .int i, r => by
    obtain ⟨t, e⟩ := (show ∃ t, u = Value.int i t from r)
    subst e
    exact .int _ _
  | _, _, u, .str x, r => by
    obtain ⟨t, e⟩ := (show ∃ t, u = Value.str x t from r)
    subst e
    exact .text _ _
  | _, _, u, .tup (a := a) h q, r => by
    cases (show u = Value.ref a from r)
    obtain ⟨its, rv, ⟨o, h1, h2, n, h3⟩, _⟩ := I.tuple h
    exact .tup h1 h2 h3 (nks_are I q rv)
theorem nks_are (I : Inv X pins σ H s) : ∀ {k : List NestedKey} {v : List V} {u : List Value}, NkVs X.K H k v → Vals v u → NestedAll s.heap k u
  | _, _, _, .nil, r => by
    cases r
    exact .nil
  | _, _, _, .cons a b, r => by
    cases r with
    | cons r1 r2 => exact .cons (nk_is I a r1) (nks_are I b r2)
end
end
section
variable {C0 : Ct0} {B : Bd} {H : Hp}
mutual
theorem RD.nk : ∀ {d : D} {v : V} {k : NestedKey}, RD C0 B H d v → nkD d = some k → NkV C0.K H k v
  | .non, _, k, h, e => by cases h; cases e; exact .non
  | .bl b, _, k, h, e => by cases h; cases e; exact .bl b
  | .int i, _, k, h, e => by cases h; cases e; exact .int i
  | .str x, _, k, h, e => by cases h; cases e; exact .str x
  | .tup ds, _, k, h, e => by
    cases h with
    | tup hs q =>
      unfold nkD at e
      split at e
      · rename_i ks e2
        cases e
        exact .tup hs (RDs.nks q e2)
      · cases e
  | .lst _, _, _, _, e => by cases e
  | .dct _, _, _, _, e => by cases e
  | .ins _ _, _, _, _, e => by cases e
  | .raw _, _, _, _, e => by cases e
  | .scr _, _, _, _, e => by cases e
  | .ndct _, _, _, _, e => by cases e
  | .fn _, _, _, _, e => by cases e
theorem RDs.nks : ∀ {d : List D} {v : List V} {k : List NestedKey}, RDs C0 B H d v → nkDs d = some k → NkVs C0.K H k v
  | [], _, k, h, e => by cases h; cases e; exact .nil
  | x :: xs, _, k, h, e => by
    cases h with
    | cons a b =>
      unfold nkDs at e
      split at e
      · rename_i y ys e1 e2
        cases e
        exact .cons (RD.nk a e1) (RDs.nks b e2)
      · cases e
end
theorem nkT_some {d : D} {k : NestedKey} (e : nkT d = some k) : nkD d = some k ∧ k.depth ≤ 8 ∧ ∃ ds, d = .tup ds := by
  unfold nkT at e
  split at e
  · rename_i ds
    split at e
    · rename_i ks e2
      split at e
      · rename_i hd
        cases e
        exact ⟨by unfold nkD; rw [e2], hd, _, rfl⟩
      · cases e
    · cases e
  · cases e
/-- the value is a key -/
def KyV (K : PySem.W.Frag) (H : Hp) (k : NestedKey) (y : V) : Prop := NkV K H k y ∧ k.depth ≤ 8 ∧ ∃ b, y = .ref b
theorem RD.ky {d : D} {v : V} {k : NestedKey} (h : RD C0 B H d v) (e : nkT d = some k) : KyV C0.K H k v := by
  obtain ⟨e1, e2, ds, rfl⟩ := nkT_some e
  refine ⟨h.nk e1, e2, ?_⟩
  cases h with
  | tup hs q => exact ⟨_, rfl⟩
end
def KsOk (K : PySem.W.Frag) (H : Hp) (xs : List NK) : Prop := ∀ p ∈ xs, KyV K H p.1 (.ref p.2.1)
def lkN (xs : List NK) (k : NestedKey) : Option V := (xs.find? fun p => decide (p.1 = k)).map (·.2.2)
theorem lkN_nil {k : NestedKey} : lkN [] k = none := rfl
theorem lkN_pos {p : NK} {r : List NK} {k : NestedKey} (e : p.1 = k) : lkN (p :: r) k = some p.2.2 := by simp [lkN, List.find?_cons, e]
theorem lkN_neg {p : NK} {r : List NK} {k : NestedKey} (e : ¬ p.1 = k) : lkN (p :: r) k = lkN r k := by simp [lkN, List.find?_cons, e]
/-- in its place, or at the end -/
def putN (xs : List NK) (k : NestedKey) (b : Addr) (v : V) : List NK := match lkN xs k with
  | some _ => xs.map fun p => if p.1 = k then (p.1, p.2.1, v) else p
  | none => xs ++ [(k, b, v)]
abbrev NPr (xs : List NK) (ys : List (NestedKey × Addr × Value)) : Prop := Paired (fun (p : NK) (q : NestedKey × Addr × Value) => p.1 = q.1 ∧ p.2.1 = q.2.1 ∧ RelV p.2.2 q.2.2) xs ys
theorem NPr.look {xs : List NK} {ys : List (NestedKey × Addr × Value)} (r : NPr xs ys) (k : NestedKey) : RelO (lkN xs k) ((atKey ys k).map (·.2)) := by
  induction r with
  | nil => exact True.intro
  | @cons p q ps qs h t ih =>
    obtain ⟨h1, h2, h3⟩ := h
    by_cases e : p.1 = k
    · have e' : q.1 = k := h1.symm.trans e
      have b : atKey (q :: qs) k = some q.2 := by simp [atKey, List.find?_cons, e']
      rw [lkN_pos e, b]
      exact h3
    · have e' : ¬ q.1 = k := fun z => e (h1.trans z)
      have b : atKey (q :: qs) k = atKey qs k := by simp [atKey, List.find?_cons, e']
      rw [lkN_neg e, b]
      exact ih
theorem NPr.isSome {xs : List NK} {ys : List (NestedKey × Addr × Value)} (r : NPr xs ys) (k : NestedKey) : (lkN xs k).isSome = (atKey ys k).isSome := by
  have z := (r.look k).isSome_eq
  rw [Option.isSome_map] at z
  exact z
theorem NPr.put {xs : List NK} {ys : List (NestedKey × Addr × Value)} (r : NPr xs ys) (k : NestedKey) (b : Addr) {v : V} {u : Value} (rv : RelV v u) : NPr (putN xs k b v) (storedH ys k b u) := by
  have e := r.isSome k
  unfold putN storedH
  cases hl : lkN xs k with
  | some x =>
    rw [hl] at e
    rw [if_pos (by rw [← e]; rfl)]
    clear e hl
    induction r with
    | nil => exact .nil
    | @cons p q ps qs h t ih =>
      rw [List.map_cons, List.map_cons]
      refine .cons ?_ ih
      obtain ⟨h1, h2, h3⟩ := h
      unfold putAt
      by_cases e : p.1 = k
      · rw [if_pos e, if_pos (h1.symm.trans e)]
        exact ⟨h1, h2, rv⟩
      · rw [if_neg e, if_neg fun z => e (h1.trans z)]
        exact ⟨h1, h2, h3⟩
  | none =>
    rw [hl] at e
    rw [if_neg (by rw [← e]; exact Bool.false_ne_true)]
    exact Paired.snoc r ⟨rfl, rfl, rv⟩
theorem NPr.keys {xs : List NK} {ys : List (NestedKey × Addr × Value)} (r : NPr xs ys) : xs.map (·.1) = ys.map (·.1) := by
  induction r with
  | nil => rfl
  | cons h t ih => rw [List.map_cons, List.map_cons, ih, h.1]
theorem NPr.at_ {xs : List NK} {ys : List (NestedKey × Addr × Value)} (r : NPr xs ys) : ∀ y ∈ ys, ∃ x ∈ xs, x.1 = y.1 ∧ x.2.1 = y.2.1 := by
  induction r with
  | nil => intro y h; cases h
  | @cons p q ps qs h t ih =>
    intro y hy
    rcases List.mem_cons.mp hy with rfl | hy
    · exact ⟨p, List.mem_cons_self, h.1, h.2.1⟩
    · obtain ⟨x, hx, e⟩ := ih y hy
      exact ⟨x, List.mem_cons_of_mem _ hx, e⟩
theorem putN_len (xs : List NK) (k : NestedKey) (b : Addr) (v : V) : (putN xs k b v).length ≤ xs.length + 1 := by
  unfold putN
  split <;> simp
section
variable {X : Cx} {pins : List (Addr × Obj)} {σ : L2.St} {H : Hp} {s : Shared} {a : Addr}
theorem dn_of {xs : List NK} (I : Inv X pins σ H s) (e : Rd H a (dN X.prog X.w a xs)) (ks : KsOk X.K H xs) :
    xs.length ≤ sizeLine ∧ (a == sysModules) = false ∧ ∃ ys, NPr xs ys ∧ s.heap.DictOfH (nestedKind X.prog X.w) a ys := by
  obtain ⟨h1, h2, ys, pr, ⟨o, es, ep, g1, g2, g3, g4⟩, nd⟩ := (show ObjOk X.prog X.w H s.heap a (dN X.prog X.w a xs) from e.ok I.hok).1
  refine ⟨h1, h2, ys, pr, o, es, ep, g1, g2, g3, g4, fun y hy => ?_, by rw [← NPr.keys pr]; exact nd⟩
  obtain ⟨x, hx, e1, e2⟩ := NPr.at_ pr y hy
  obtain ⟨k1, k2, _⟩ := ks x hx
  rw [← e1, ← e2]
  exact ⟨nk_is I k1 rfl, k2⟩
theorem ky_is {k : NestedKey} {b : Addr} (I : Inv X pins σ H s) (h : KyV X.K H k (.ref b)) : (nestedKind X.prog X.w).is s.heap k b := ⟨nk_is I h.1 rfl, h.2.1⟩
/-- the dictionary anew, behind a store -/
theorem dn_new {xs' : List NK} {ys' : List (NestedKey × Addr × Value)} {h' : Heap} {H' : Hp} (z : xs'.length ≤ sizeLine) (hd : (a == sysModules) = false) (pr : NPr xs' ys') (dd : h'.DictOfH (nestedKind X.prog X.w) a ys') : ObjOk X.prog X.w H' h' a (dN X.prog X.w a xs') := by
  obtain ⟨o, es, ep, g1, g2, g3, g4, _, nd⟩ := dd
  refine ⟨⟨z, hd, ys', pr, ⟨o, es, ep, g1, g2, g3, g4⟩, by rw [pr.keys]; exact nd⟩, ⟨o, g1⟩, fun h1 h2 p q => ?_⟩
  obtain ⟨z1, z2, ys, p1, ⟨o, es, ep, g1, g2, g3, g4⟩, nd⟩ := p
  exact ⟨z1, z2, ys, p1, ⟨o, es, ep, q o g1, g2, g3, g4⟩, nd⟩
end
/-- what a holds at y -/
def DGetN (P : Program) (w : World) (K : PySem.W.Frag) (H : Hp) (a : Addr) (y : V) (o : Option V) : Prop := ∃ xs k, Rd H a (dN P w a xs) ∧ KsOk K H xs ∧ KyV K H k y ∧ o = lkN xs k
def DPutN (P : Program) (w : World) (K : PySem.W.Frag) (H : Hp) (a : Addr) (y v : V) (H' : Hp) : Prop := ∃ xs k b, H a = some (dN P w a xs) ∧ KsOk K H xs ∧ KyV K H k y ∧ y = .ref b ∧ xs.length < sizeLine ∧ H' = upd H a (dN P w a (putN xs k b v))
def DGetY (P : Program) (w : World) (K : PySem.W.Frag) (H : Hp) (a : Addr) (y : V) (o : Option V) : Prop := DGet H a y o ∨ DGetN P w K H a y o
def DPutY (P : Program) (w : World) (K : PySem.W.Frag) (H : Hp) (a : Addr) (y v : V) (H' : Hp) : Prop := DPut H a y v H' ∨ DPutN P w K H a y v H'
section
variable {X : Cx} {pins : List (Addr × Obj)} {σ : L2.St} {H : Hp} {s : Shared} {a : Addr} {y v d : V} {u r : Value} {o : Option V} {A : Around} {E : Value → Shared → Prop}
theorem room_nk (hu : A.units + 9 < cLine) : (nestedKind X.prog X.w).room A.in1 := by
  show A.units + 1 + 8 < cLine
  omega
theorem dy_getItem {Q : Value → Shared → Prop} (hu : A.units + 9 < cLine) (I : Inv X pins σ H s) (g : DGetY X.prog X.w X.K H a y (some v)) (ry : RelV y u) (h : ∀ w' s', Inv X pins σ H s' → RelV v w' → Q w' s') : wpAny (model X.prog X.w) A (getItem (.ref a) u) Q E s := by
  rcases g with g | ⟨xs, k, e, ks, ky, l⟩
  · exact d_getItem (by omega) I g ry h
  · obtain ⟨b, rfl⟩ := ky.2.2
    cases (show u = Value.ref b from ry)
    obtain ⟨z, hd, ys, pr, dd⟩ := dn_of I e ks
    obtain ⟨w', hw, rw'⟩ := RelO.some_of (v := v) (o := (atKey ys k).map (·.2)) (by rw [l]; exact pr.look k)
    obtain ⟨p, hp, hp2⟩ := Option.map_eq_some_iff.mp hw
    refine wpAny_getItem_heap (room_nk hu) (ky_is I ky) dd hp ?_
    rw [hp2]
    exact h w' _ (I.tok _) rw'
theorem dy_in {Q : Value → Shared → Prop} (hu : A.units + 9 < cLine) (I : Inv X pins σ H s) (g : DGetY X.prog X.w X.K H a y o) (ry : RelV y u) (h : ∀ s', Inv X pins σ H s' → Q (.bool o.isSome) s') : wpAny (model X.prog X.w) A (compareOp .In u (.ref a)) Q E s := by
  rcases g with g | ⟨xs, k, e, ks, ky, l⟩
  · exact d_in (by omega) I g ry h
  · obtain ⟨b, rfl⟩ := ky.2.2
    cases (show u = Value.ref b from ry)
    obtain ⟨z, hd, ys, pr, dd⟩ := dn_of I e ks
    refine wpAny_in_heap (room_nk hu) (ky_is I ky) hd dd ?_
    rw [← pr.isSome, ← l]
    exact h _ (I.tok _)
theorem dy_notIn {Q : Value → Shared → Prop} (hu : A.units + 9 < cLine) (I : Inv X pins σ H s) (g : DGetY X.prog X.w X.K H a y o) (ry : RelV y u) (h : ∀ s', Inv X pins σ H s' → Q (.bool (!o.isSome)) s') : wpAny (model X.prog X.w) A (compareOp .NotIn u (.ref a)) Q E s := by
  rcases g with g | ⟨xs, k, e, ks, ky, l⟩
  · exact d_notIn (by omega) I g ry h
  · obtain ⟨b, rfl⟩ := ky.2.2
    cases (show u = Value.ref b from ry)
    obtain ⟨z, hd, ys, pr, dd⟩ := dn_of I e ks
    refine wpAny_notIn_heap (room_nk hu) (ky_is I ky) hd dd ?_
    rw [← pr.isSome, ← l]
    exact h _ (I.tok _)
theorem dy_write {xs' : List NK} {ys' : List (NestedKey × Addr × Value)} {h' : Heap} {t' : Nat} (I : Inv X pins σ H s) (mu : Mut (H a)) (hs : Heap.SameBut a s.heap h') (z : xs'.length ≤ sizeLine) (hd : (a == sysModules) = false) (pr : NPr xs' ys') (dd : h'.DictOfH (nestedKind X.prog X.w) a ys') :
    Inv X pins σ (upd H a (dN X.prog X.w a xs')) { s with heap := h', toks := t' } :=
  d_write I mu hs (let ⟨q, _, _, hq, _⟩ := dd; ⟨q, hq⟩) (dn_new z hd pr dd)
theorem dy_setItem {H' : Hp} {Q : Unit → Shared → Prop} (hu : A.units + 9 < cLine) (I : Inv X pins σ H s) (g : DPutY X.prog X.w X.K H a y v H') (ry : RelV y u) (rv : RelV v r) (h : ∀ s', Inv X pins σ H' s' → Q () s') : wpAny (model X.prog X.w) A (setItem (.ref a) u r) Q E s := by
  rcases g with g | ⟨xs, k, b, e, ks, ky, rfl, hl, rfl⟩
  · exact d_setItem (by omega) I g ry rv h
  · cases (show u = Value.ref b from ry)
    obtain ⟨z, hd, ys, pr, dd⟩ := dn_of I (.inl e) ks
    refine wpAny_setItem_heap (hsz := by rw [← Paired.length pr]; exact z) (room_nk hu) (ky_is I ky) dd fun h' dd' hs => h _ ?_
    exact dy_write I (by rw [e]; exact True.intro) hs (by have := putN_len xs k b v; omega) hd (pr.put k b rv) dd'
/-- .. within a comprehension -/
theorem dy_dictSet {xs : List NK} {k : NestedKey} {b : Addr} {Q : Unit → Shared → Prop} (hu : A.units + 8 < cLine) (I : Inv X pins σ H s) (e : H a = some (dN X.prog X.w a xs)) (ks : KsOk X.K H xs) (ky : KyV X.K H k (.ref b)) (hl : xs.length < sizeLine) (rv : RelV v r)
    (h : ∀ s', Inv X pins σ (upd H a (dN X.prog X.w a (putN xs k b v))) s' → Q () s') : wpAny (model X.prog X.w) A (dictSet a (.ref b) r) Q E s := by
  obtain ⟨z, hd, ys, pr, dd⟩ := dn_of I (.inl e) ks
  refine wpAny_dictSet_heap (hsz := by rw [← Paired.length pr]; exact z) (show (nestedKind X.prog X.w).room A from hu) (ky_is I ky) dd fun h' dd' hs => h _ ?_
  exact dy_write I (by rw [e]; exact True.intro) hs (by have := putN_len xs k b v; omega) hd (pr.put k b rv) dd'
theorem dy_type (I : Inv X pins σ H s) (g : DGetY X.prog X.w X.K H a y o) : s.TypeIs (.ref a) "dict" := by
  rcases g with g | ⟨xs, k, e, ks, ky, l⟩
  · exact dict_typeIs I g
  · obtain ⟨_, _, ys, _, dd⟩ := dn_of I e ks
    exact dd.typeIs
theorem dy_get1 {Q : Value → Shared → Prop} (hu : A.units + 9 < cLine) (I : Inv X pins σ H s) (g : DGetY X.prog X.w X.K H a y o) (ry : RelV y u) (h : ∀ w' s', Inv X pins σ H s' → RelV (o.getD .non) w' → Q w' s') : wpAny (model X.prog X.w) A (call (.builtin "dict.get") [.ref a, u]) Q E s := by
  rcases g with g | ⟨xs, k, e, ks, ky, l⟩
  · exact d_get1 (by omega) I g ry h
  · obtain ⟨b, rfl⟩ := ky.2.2
    cases (show u = Value.ref b from ry)
    obtain ⟨z, hd, ys, pr, dd⟩ := dn_of I e ks
    refine call_meetsIn PySem.F.slot_dict_get dd.typeIs PySem.F.entry_dict_get (PySem.F.args_dict_get_2 _ _) (meetsH_dict_get (nestedKind X.prog X.w) a b hd) ⟨room_nk hu, k, ys, ky_is I ky, dd, h _ _ (I.tok _) ?_⟩
    rw [l]
    exact (pr.look k).getD rfl
theorem dy_get2 {Q : Value → Shared → Prop} (hu : A.units + 9 < cLine) (I : Inv X pins σ H s) (g : DGetY X.prog X.w X.K H a y o) (ry : RelV y u) (rd : RelV d r) (h : ∀ w' s', Inv X pins σ H s' → RelV (o.getD d) w' → Q w' s') : wpAny (model X.prog X.w) A (call (.builtin "dict.get") [.ref a, u, r]) Q E s := by
  rcases g with g | ⟨xs, k, e, ks, ky, l⟩
  · exact d_get2 (by omega) I g ry rd h
  · obtain ⟨b, rfl⟩ := ky.2.2
    cases (show u = Value.ref b from ry)
    obtain ⟨z, hd, ys, pr, dd⟩ := dn_of I e ks
    refine call_meetsIn PySem.F.slot_dict_get dd.typeIs PySem.F.entry_dict_get (PySem.F.args_dict_get_3 _ _ _) (meetsH_dict_get_default (nestedKind X.prog X.w) a b hd r) ⟨room_nk hu, k, ys, ky_is I ky, dd, h _ _ (I.tok _) ?_⟩
    rw [l]
    exact (pr.look k).getD rd
/-- d.setdefault(y, v), keys tuples -/
theorem dy_setdefault {Q : Value → Shared → Prop} {xs : List NK} {k : NestedKey} {b : Addr} (hu : A.units + 9 < cLine) (I : Inv X pins σ H s) (e : H a = some (dN X.prog X.w a xs)) (ks : KsOk X.K H xs) (ky : KyV X.K H k (.ref b)) (hl : xs.length < sizeLine) (rv : RelV v r)
    (h1 : ∀ x, lkN xs k = some x → ∀ w' s', Inv X pins σ H s' → RelV x w' → Q w' s') (h2 : lkN xs k = none → ∀ w' s', Inv X pins σ (upd H a (dN X.prog X.w a (putN xs k b v))) s' → RelV v w' → Q w' s') : wpAny (model X.prog X.w) A (call (.builtin "dict.setdefault") [.ref a, .ref b, r]) Q E s := by
  obtain ⟨z, hd, ys, pr, dd⟩ := dn_of I (.inl e) ks
  refine call_setdefault_heap (hsz := by rw [← Paired.length pr]; exact z) (room_nk hu) (ky_is I ky) hd dd (fun p hp => ?_) fun hn h' dd' hs => ?_
  · have z := pr.look k
    rw [hp] at z
    cases hx : lkN xs k with
    | none => rw [hx] at z; exact z.elim
    | some x =>
      rw [hx] at z
      exact h1 x hx _ _ (I.tok _) z
  · have z0 := pr.look k
    rw [hn] at z0
    cases hx : lkN xs k with
    | some x => rw [hx] at z0; exact z0.elim
    | none => exact h2 hx _ _ (dy_write I (by rw [e]; exact True.intro) hs (by have := putN_len xs k b v; omega) hd (pr.put k b rv) dd') rv
end
section
variable {X : Cx}
theorem ix_dictY (hu : X.A.units + 9 < cLine) : IxR X (fun x y H Q => ∃ a v, x = .ref a ∧ DGetY X.prog X.w X.K H a y (some v) ∧ Q v H) := by
  intro value slice pins s σ H x y v u Q I rx ry h hs
  obtain ⟨a, v0, rfl, g, q⟩ := h
  cases rx
  exact tail_any (dy_type I g) PySem.slot_dict_getitem.lookup (dy_getItem hu I g ry fun w' s' I' rw' => ⟨v0, H, I', rw', q⟩) hs
theorem get_dictY (hu : X.A.units + 9 < cLine) : PGet X (fun x y H Q => ∃ a v, x = .ref a ∧ DGetY X.prog X.w X.K H a y (some v) ∧ Q v H) := by
  intro pins s σ H x y v u Q I rx ry h
  obtain ⟨a, v0, rfl, g, q⟩ := h
  cases rx
  exact dy_getItem hu I g ry fun w' s' I' rw' => ⟨v0, H, I', rw', q⟩
def rSetY (P : Program) (w : World) (K : PySem.W.Frag) : TSet := fun o i v H Q => ∃ a H', o = .ref a ∧ DPutY P w K H a i v H' ∧ Q H'
theorem set_dictY (hu : X.A.units + 9 < cLine) : PSet X (rSetY X.prog X.w X.K) := by
  intro pins s σ H o i v ov iv u Q I ro ri rv h
  obtain ⟨a, H', rfl, g, q⟩ := h
  cases ro
  exact dy_setItem hu I g ri rv fun s' I' => ⟨H', I', q⟩
theorem op_in_dictY (hu : X.A.units + 9 < cLine) : OpR X (compareOp .In) (fun x y H Q => ∃ a o, y = .ref a ∧ DGetY X.prog X.w X.K H a x o ∧ Q (.bl o.isSome) H) := by
  intro pins s σ H x y v u Q I rx ry h
  obtain ⟨a, o, rfl, g, q⟩ := h
  cases ry
  exact dy_in hu I g rx fun s' I' => ⟨.bl o.isSome, H, I', rfl, q⟩
theorem op_notIn_dictY (hu : X.A.units + 9 < cLine) : OpR X (compareOp .NotIn) (fun x y H Q => ∃ a o, y = .ref a ∧ DGetY X.prog X.w X.K H a x o ∧ Q (.bl (!o.isSome)) H) := by
  intro pins s σ H x y v u Q I rx ry h
  obtain ⟨a, o, rfl, g, q⟩ := h
  cases ry
  exact dy_notIn hu I g rx fun s' I' => ⟨.bl (!o.isSome), H, I', rfl, q⟩
end
section
variable {C : Ct} {B : Bd} {r : Rho} {H : Hp}
theorem RDn.ks : ∀ {ds : List (D × D)} {xs : List NK}, RDn C.toCt0 B H ds xs → KsOk C.K H xs
  | _, _, .nil => fun p h => by cases h
  | _, _, .cons e c a b => fun p h => by
    rcases List.mem_cons.mp h with rfl | h
    · exact c.ky e
    · exact RDn.ks b p h
theorem RUn.ks : ∀ {ds : List (D × U)} {xs : List NK}, RUn C B r H ds xs → KsOk C.K H xs
  | _, _, .nil => fun p h => by cases h
  | _, _, .cons e c a b => fun p h => by
    rcases List.mem_cons.mp h with rfl | h
    · exact c.ky e
    · exact RUn.ks b p h
theorem RDn.length : ∀ {ds : List (D × D)} {xs : List NK}, RDn C.toCt0 B H ds xs → ds.length = xs.length
  | _, _, .nil => rfl
  | _, _, .cons _ _ _ b => congrArg (· + 1) (RDn.length b)
theorem RUn.length : ∀ {ds : List (D × U)} {xs : List NK}, RUn C B r H ds xs → ds.length = xs.length
  | _, _, .nil => rfl
  | _, _, .cons _ _ _ b => congrArg (· + 1) (RUn.length b)
end
/- two keys the same, by their parts -/
mutual
def nkeq : D → D → Bool
  | .non, .non => true
  | .bl a, .bl b => a == b
  | .bl a, .int j => (if a = true then 1 else 0) == j
  | .int i, .bl b => i == (if b = true then 1 else 0)
  | .int i, .int j => i == j
  | .str x, .str y => x == y
  | .tup xs, .tup ys => nkeqs xs ys
  | _, _ => false
def nkeqs : List D → List D → Bool
  | [], [] => true
  | x :: xs, y :: ys => nkeq x y && nkeqs xs ys
  | _, _ => false
end
theorem num_inj {i j : Int} : (NestedKey.num i = NestedKey.num j) ↔ i = j := ⟨fun h => by cases h; rfl, fun h => by rw [h]⟩
mutual
theorem nkeq_ok : ∀ {a b : D} {k l : NestedKey}, nkD a = some k → nkD b = some l → (nkeq a b = true ↔ k = l)
  | .non, b, k, l, h1, h2 => by
    cases h1
    cases b <;> first | (cases h2; unfold nkeq; simp) | (unfold nkD at h2; split at h2 <;> cases h2; unfold nkeq; simp) | cases h2
  | .bl a, b, k, l, h1, h2 => by
    cases h1
    cases b <;> first | (cases h2; unfold nkeq; simp) | (unfold nkD at h2; split at h2 <;> cases h2; unfold nkeq; simp) | cases h2
    rename_i b
    cases a <;> cases b <;> simp
  | .int i, b, k, l, h1, h2 => by
    cases h1
    cases b <;> first | (cases h2; unfold nkeq; simp) | (unfold nkD at h2; split at h2 <;> cases h2; unfold nkeq; simp) | cases h2
  | .str x, b, k, l, h1, h2 => by
    cases h1
    cases b <;> first | (cases h2; unfold nkeq; simp) | (unfold nkD at h2; split at h2 <;> cases h2; unfold nkeq; simp) | cases h2
  | .tup xs, b, k, l, h1, h2 => by
    unfold nkD at h1
    split at h1
    · rename_i ks e1
      cases h1
      cases b with
      | tup ys =>
        unfold nkD at h2
        split at h2
        · rename_i ls e2
          cases h2
          unfold nkeq
          rw [nkeqs_ok e1 e2]
          exact ⟨fun h => by rw [h], fun h => by cases h; rfl⟩
        · cases h2
      | _ => cases h2 <;> (unfold nkeq; simp)
    · cases h1
  | .lst _, _, _, _, h, _ => by cases h
  | .dct _, _, _, _, h, _ => by cases h
  | .ins _ _, _, _, _, h, _ => by cases h
  | .raw _, _, _, _, h, _ => by cases h
  | .scr _, _, _, _, h, _ => by cases h
  | .ndct _, _, _, _, h, _ => by cases h
  | .fn _, _, _, _, h, _ => by cases h
theorem nkeqs_ok : ∀ {a b : List D} {k l : List NestedKey}, nkDs a = some k → nkDs b = some l → (nkeqs a b = true ↔ k = l)
  | [], [], _, _, h1, h2 => by cases h1; cases h2; simp [nkeqs]
  | [], y :: ys, _, _, h1, h2 => by
    cases h1
    unfold nkDs at h2
    split at h2 <;> cases h2
    unfold nkeqs
    simp
  | x :: xs, [], _, _, h1, h2 => by
    cases h2
    unfold nkDs at h1
    split at h1 <;> cases h1
    unfold nkeqs
    simp
  | x :: xs, y :: ys, _, _, h1, h2 => by
    unfold nkDs at h1 h2
    split at h1
    · rename_i k1 ks1 e1 e2
      cases h1
      split at h2
      · rename_i k2 ks2 e3 e4
        cases h2
        unfold nkeqs
        rw [Bool.and_eq_true, nkeq_ok e1 e3, nkeqs_ok e2 e4]
        exact ⟨fun ⟨a, b⟩ => by rw [a, b], fun h => by cases h; exact ⟨rfl, rfl⟩⟩
      · cases h2
    · cases h1
end
def lookN {α : Type} (kvs : List (D × α)) (k : D) : Option α := match kvs with
  | [] => none
  | (a, x) :: r => if nkeq a k = true then some x else lookN r k
theorem nkeq_nkT {a b : D} {k l : NestedKey} (h1 : nkT a = some k) (h2 : nkT b = some l) : nkeq a b = true ↔ k = l := nkeq_ok (nkT_some h1).1 (nkT_some h2).1
section
variable {C : Ct} {B : Bd} {r : Rho} {H : Hp}
theorem RDn.look : ∀ {ds : List (D × D)} {xs : List NK} {k : D} {key : NestedKey}, RDn C.toCt0 B H ds xs → nkT k = some key → (∀ d, lookN ds k = some d → ∃ v, lkN xs key = some v ∧ RD C.toCt0 B H d v) ∧ (lookN ds k = none → lkN xs key = none)
  | _, _, k, key, .nil, hk => ⟨fun d h => (by cases h), fun _ => rfl⟩
  | _, _, k, key, .cons (k := k2) (kd := kd) e c a b, hk => by
    have ih := RDn.look b hk
    unfold lookN
    by_cases h : k2 = key
    · rw [if_pos ((nkeq_nkT e hk).mpr h), lkN_pos h]
      refine ⟨fun d h => ?_, fun h => by cases h⟩
      cases h
      exact ⟨_, rfl, a⟩
    · rw [if_neg (fun z => h ((nkeq_nkT e hk).mp z)), lkN_neg h]
      exact ih
theorem RUn.look : ∀ {ds : List (D × U)} {xs : List NK} {k : D} {key : NestedKey}, RUn C B r H ds xs → nkT k = some key → (∀ d, lookN ds k = some d → ∃ v, lkN xs key = some v ∧ RU C B r H d v) ∧ (lookN ds k = none → lkN xs key = none)
  | _, _, k, key, .nil, hk => ⟨fun d h => (by cases h), fun _ => rfl⟩
  | _, _, k, key, .cons (k := k2) (kd := kd) e c a b, hk => by
    have ih := RUn.look b hk
    unfold lookN
    by_cases h : k2 = key
    · rw [if_pos ((nkeq_nkT e hk).mpr h), lkN_pos h]
      refine ⟨fun d h => ?_, fun h => by cases h⟩
      cases h
      exact ⟨_, rfl, a⟩
    · rw [if_neg (fun z => h ((nkeq_nkT e hk).mp z)), lkN_neg h]
      exact ih
/-- d[k] = u -/
def putNU (kvs : List (D × U)) (k : D) (u : U) : List (D × U) := match lookN kvs k with
  | some _ => kvs.map fun p => if nkeq p.1 k = true then (p.1, u) else p
  | none => kvs ++ [(k, u)]
theorem RUn.putN {k : D} {key : NestedKey} {b : Addr} {u : U} {v : V} (ek : nkT k = some key) (rk : RD C.toCt0 B H k (.ref b)) (ru : RU C B r H u v) {ds : List (D × U)} {xs : List NK} (q : RUn C B r H ds xs) : RUn C B r H (putNU ds k u) (PM.putN xs key b v) := by
  obtain ⟨h1, h2⟩ := q.look ek
  unfold putNU PM.putN
  cases hl : lookN ds k with
  | some x =>
    obtain ⟨w, hw, _⟩ := h1 x hl
    rw [hw]
    clear hw h1 h2 hl
    try dsimp only
    induction q with
    | nil => exact .nil
    | @cons k2 b2 kd d v2 ds xs e c a q ih =>
      rw [List.map_cons, List.map_cons]
      by_cases h : k2 = key
      · rw [if_pos ((nkeq_nkT e ek).mpr h), if_pos h]
        exact .cons e c ru ih
      · rw [if_neg (fun z => h ((nkeq_nkT e ek).mp z)), if_neg h]
        exact .cons e c a ih
  | none =>
    rw [h2 hl]
    clear h1 h2 hl
    try dsimp only
    induction q with
    | nil => exact .cons ek rk ru .nil
    | cons e c a q ih => exact .cons e c a ih
end
theorem notup_dN {P : Program} {w : World} {H : Hp} {p : Addr} {xs : List NK} : ∀ vs, ¬ Rd (upd H p (dN P w p xs)) p (.tup vs) := fun vs z => by
  rcases z with z | ⟨o, z⟩ <;> (rw [upd_same] at z; cases z)
section
variable {C : Ct} {B : Bd} {r : Rho} {H : Hp} {h : Hea}
theorem RUs.at_ : ∀ {us : List U} {vs : List V} {i : Nat} {u : U}, RUs C B r H us vs → us[i]? = some u → ∃ v, vs[i]? = some v ∧ RU C B r H u v
  | _, _, i, u, .nil, e => by simp at e
  | _, _, 0, u, .cons a b, e => by
    cases e
    exact ⟨_, rfl, a⟩
  | _, _, i + 1, u, .cons a b, e => by
    obtain ⟨v, h1, h2⟩ := RUs.at_ b (i := i) (by simpa using e)
    exact ⟨v, by simpa using h1, h2⟩
theorem RUs.set_ : ∀ {us : List U} {vs : List V} (i : Nat) {u : U} {v : V}, RUs C B r H us vs → RU C B r H u v → RUs C B r H (us.set i u) (vs.set i v)
  | _, _, _, _, _, .nil, _ => .nil
  | _, _, 0, u, v, .cons a b, q => .cons q b
  | _, _, i + 1, u, v, .cons a b, q => .cons a (RUs.set_ i b q)
theorem RUs.app2 : ∀ {us ws : List U} {vs xs : List V}, RUs C B r H us vs → RUs C B r H ws xs → RUs C B r H (us ++ ws) (vs ++ xs)
  | _, _, _, _, .nil, q => q
  | _, _, _, _, .cons a b, q => .cons a (RUs.app2 b q)
theorem RUs.rev : ∀ {us : List U} {vs : List V}, RUs C B r H us vs → RUs C B r H us.reverse vs.reverse
  | _, _, .nil => .nil
  | _, _, .cons a b => by
    rw [List.reverse_cons, List.reverse_cons]
    exact (RUs.rev b).app2 (.cons a .nil)
theorem RUs.dropL : ∀ {us : List U} {vs : List V}, RUs C B r H us vs → RUs C B r H us.dropLast vs.dropLast
  | _, _, .nil => .nil
  | _, _, .cons a .nil => .nil
  | _, _, .cons a (.cons b c) => by
    rw [List.dropLast_cons₂, List.dropLast_cons₂]
    exact .cons a (RUs.dropL (.cons b c))
theorem RUs.era : ∀ {us : List U} {vs : List V} (i : Nat), RUs C B r H us vs → RUs C B r H (us.eraseIdx i) (vs.eraseIdx i)
  | _, _, _, .nil => .nil
  | _, _, 0, .cons a b => b
  | _, _, i + 1, .cons a b => .cons a (RUs.era i b)
theorem RUs.len {us : List U} {vs : List V} (q : RUs C B r H us vs) : us.length = vs.length := q.length
theorem atI_len {α β : Type} {xs : List α} {ys : List β} {i : Int} {x : α} (hl : xs.length = ys.length) (h : atI xs i = some x) : ∃ j : Nat, xs[j]? = some x ∧ ∀ y, ys[j]? = some y → atI ys i = some y := by
  unfold atI at *
  rw [← hl]
  cases e : ixN xs.length i with
  | none => rw [e] at h; cases h
  | some j =>
    rw [e] at h
    exact ⟨j, h, fun y hy => hy⟩
theorem RUs.atI_ {us : List U} {vs : List V} {i : Int} {u : U} (q : RUs C B r H us vs) (e : atI us i = some u) : ∃ v, atI vs i = some v ∧ RU C B r H u v := by
  obtain ⟨j, h1, h2⟩ := atI_len q.length e
  obtain ⟨v, h3, h4⟩ := q.at_ h1
  exact ⟨v, h2 v h3, h4⟩
theorem RDs.atI_ {us : List D} {vs : List V} {i : Int} {u : D} (q : RDs C.toCt0 B H us vs) (e : atI us i = some u) : ∃ v, atI vs i = some v ∧ RD C.toCt0 B H u v := by
  obtain ⟨j, h1, h2⟩ := atI_len q.length e
  obtain ⟨v, h3, h4⟩ := RDs.get q h1
  exact ⟨v, h2 v h3, h4⟩
end
/-- the items of a list -/
def lsI : D → Option (List D)
  | .lst ds => some ds
  | .scr ns => some (ns.map .int)
  | _ => none
theorem RDs.ints {C : Ct0} {B : Bd} {H : Hp} : ∀ {ns : List Int}, RDs C B H (ns.map D.int) (ns.map V.int)
  | [] => .nil
  | n :: ns => .cons (.int n) RDs.ints
theorem RV.items {C : Ct0} {B : Bd} {H : Hp} {x : D} {v : V} {ds : List D} (q : RV C B H x v) (e : lsI x = some ds) : ∃ a vs, v = .ref a ∧ SqL C.K H a vs ∧ RDs C B H ds vs := by
  cases x with
  | lst xs =>
    cases e
    obtain ⟨a, vs, rfl, h1, h2⟩ := q.lstI
    exact ⟨a, vs, rfl, SqL.of h1, h2⟩
  | scr ns =>
    cases e
    obtain ⟨a, rfl, h1⟩ := q.scrI
    exact ⟨a, _, rfl, h1, RDs.ints⟩
  | _ => cases e
def keq (a b : D) : Bool := decide (keyD a = keyD b)
def lookK {α : Type} (kvs : List (D × α)) (k : D) : Option α := match kvs with
  | [] => none
  | (a, x) :: r => if keq a k = true then some x else lookK r k
theorem keq_true {a b : D} {x : Key} (e : keyD a = some x) (e' : keyD b = some x) : keq a b = true := by
  unfold keq
  rw [e, e']
  exact decide_eq_true rfl
theorem keq_false {a b : D} {x y : Key} (e : keyD a = some x) (e' : keyD b = some y) (h : x ≠ y) : keq a b = false := by
  unfold keq
  rw [e, e']
  exact decide_eq_false fun z => h (Option.some.inj z)
theorem lookK_pos {α : Type} {a k : D} {x : α} {r : List (D × α)} (h : keq a k = true) : lookK ((a, x) :: r) k = some x := by
  unfold lookK
  exact if_pos h
theorem lookK_neg {α : Type} {a k : D} {x : α} {r : List (D × α)} (h : keq a k = false) : lookK ((a, x) :: r) k = lookK r k := by
  rw [lookK]
  exact if_neg (by rw [h]; exact Bool.false_ne_true)
section
variable {C : Ct} {B : Bd} {r : Rho} {H : Hp}
theorem RDk.look : ∀ {ds : List (D × D)} {vs : List (Key × V)} {k : D} {key : Key}, RDk C.toCt0 B H ds vs → keyD k = some key → (∀ d, lookK ds k = some d → ∃ v, valV vs key = some v ∧ RD C.toCt0 B H d v) ∧ (lookK ds k = none → valV vs key = none)
  | _, _, k, key, .nil, hk => ⟨fun d h => (by cases h), fun _ => rfl⟩
  | _, _, k, key, .cons (k := k2) (kd := kd) (d := d0) (v := v0) (ds := ds) (vs := vs) e a b, hk => by
    have ih := RDk.look b hk
    by_cases h : k2 = key
    · subst h
      rw [lookK_pos (keq_true e hk)]
      refine ⟨fun d h => ?_, fun h => by cases h⟩
      cases h
      exact ⟨_, valV_pos rfl, a⟩
    · rw [lookK_neg (keq_false e hk h), valV_neg h]
      exact ih
theorem RUk.look : ∀ {ds : List (D × U)} {vs : List (Key × V)} {k : D} {key : Key}, RUk C B r H ds vs → keyD k = some key → (∀ d, lookK ds k = some d → ∃ v, valV vs key = some v ∧ RU C B r H d v) ∧ (lookK ds k = none → valV vs key = none)
  | _, _, k, key, .nil, hk => ⟨fun d h => (by cases h), fun _ => rfl⟩
  | _, _, k, key, .cons (k := k2) (kd := kd) (d := d0) (v := v0) (ds := ds) (vs := vs) e a b, hk => by
    have ih := RUk.look b hk
    by_cases h : k2 = key
    · subst h
      rw [lookK_pos (keq_true e hk)]
      refine ⟨fun d h => ?_, fun h => by cases h⟩
      cases h
      exact ⟨_, valV_pos rfl, a⟩
    · rw [lookK_neg (keq_false e hk h), valV_neg h]
      exact ih
theorem RD.key {k : D} {v : V} {key : Key} (q : RD C.toCt0 B H k v) (e : keyD k = some key) : v = kV key := by
  unfold keyD at e
  split at e
  · cases e
    cases q
    rfl
  · cases e
    cases q
    rfl
  · cases e
theorem RV.key {k : D} {v : V} {key : Key} (q : RV C.toCt0 B H k v) (e : keyD k = some key) : v = kV key := by
  unfold keyD at e
  split at e
  · cases e
    rw [q.intI]
    rfl
  · cases e
    rw [q.strI]
    rfl
  · cases e
theorem RUk.put {k : D} {key : Key} {u : U} {v : V} (ek : keyD k = some key) (ru : RU C B r H u v) : ∀ {ds : List (D × U)} {vs : List (Key × V)}, RUk C B r H ds vs → RUk C B r H ((ds.map fun p => if keq p.1 k = true then (p.1, u) else p)) (vs.map fun p => if p.1 = key then (p.1, v) else p)
  | _, _, .nil => .nil
  | _, _, .cons (k := k2) (kd := kd) e a b => by
    have ih := RUk.put ek ru b
    rw [List.map_cons, List.map_cons]
    by_cases h : k2 = key
    · subst h
      have t : keq kd k = true := keq_true e ek
      rw [if_pos t, if_pos rfl]
      exact .cons e ru ih
    · have t : ¬ keq kd k = true := by rw [keq_false e ek h]; exact Bool.false_ne_true
      rw [if_neg t, if_neg h]
      exact .cons e a ih
theorem RUk.snoc {k : D} {key : Key} {u : U} {v : V} (ek : keyD k = some key) (ru : RU C B r H u v) : ∀ {ds : List (D × U)} {vs : List (Key × V)}, RUk C B r H ds vs → RUk C B r H (ds ++ [(k, u)]) (vs ++ [(key, v)])
  | _, _, .nil => .cons ek ru .nil
  | _, _, .cons e a b => .cons e a (RUk.snoc ek ru b)
/-- d[k] = u -/
def putKU (kvs : List (D × U)) (k : D) (u : U) : List (D × U) := match lookK kvs k with
  | some _ => kvs.map fun p => if keq p.1 k = true then (p.1, u) else p
  | none => kvs ++ [(k, u)]
theorem RUk.putK {k : D} {key : Key} {u : U} {v : V} (ek : keyD k = some key) (ru : RU C B r H u v) {ds : List (D × U)} {vs : List (Key × V)} (q : RUk C B r H ds vs) : RUk C B r H (putKU ds k u) (L2.putK vs key v) := by
  obtain ⟨h1, h2⟩ := q.look ek
  unfold putKU L2.putK
  cases hl : lookK ds k with
  | some x =>
    obtain ⟨w, hw, _⟩ := h1 x hl
    rw [if_pos (by rw [valV_any, hw]; rfl)]
    exact q.put ek ru
  | none =>
    rw [if_neg (by rw [valV_any, h2 hl]; exact Bool.false_ne_true)]
    exact q.snoc ek ru
end
def rIxA (P : Program) (w : World) (K : PySem.W.Frag) : R2 := fun x y H Q => rIx K x y H Q ∨ ∃ a v, x = .ref a ∧ DGetY P w K H a y (some v) ∧ Q v H
def pIx : D → D → Option D
  | .dct kvs, k => match keyD k with
    | some _ => lookK kvs k
    | none => none
  | .ndct kvs, k => match nkT k with
    | some _ => lookN kvs k
    | none => none
  | .tup ds, .int i => atI ds i
  | .str z, .int i => if szOk z.length = true then (match atI z.cps.toList i with
    | some c => some (.str ⟨#[c]⟩)
    | none => none) else none
  | x, .int i => match lsI x with
    | some ds => atI ds i
    | none => none
  | _, _ => none
def ixU (h : Hea) : U → U → Option U
  | .d x, .d i => (pIx x i).map .d
  | .loc n, .d k => match h[n]? with
    | some (.lst us) => (match k with
      | .int i => atI us i
      | _ => none)
    | some (.dct kvs) => (match keyD k with
      | some _ => lookK kvs k
      | none => none)
    | some (.ndct kvs) => (match nkT k with
      | some _ => lookN kvs k
      | none => none)
    | _ => none
  | .tup us, .d (.int k) => atI us k
  | _, _ => none
def ixE (f g : M U) : M U := mbnd f fun x => mbnd g fun y _ h => match ixU h x y with
  | some u => some (.ok u h)
  | none => none
theorem ixU_ok {C : Ct} {B : Bd} {r : Rho} {H : Hp} {h : Hea} {x y u : U} {v w : V} {Q : VK} (wd : Wd C B r H h) (rx : RU C B r H x v) (ry : RU C B r H y w) (e : ixU h x y = some u) (q : ∀ z, RU C B r H u z → Q z H) : rIxA C.P C.w C.K v w H Q := by
  unfold ixU at e
  split at e
  · rename_i x i
    cases hp : pIx x i with
    | none => rw [hp] at e; cases e
    | some c =>
      rw [hp] at e
      cases e
      cases rx with
      | d rx => cases ry with
        | d ry =>
          unfold pIx at hp
          split at hp
          · rename_i kvs k
            split at hp
            · rename_i key hk
              cases rx with
              | dct nb hs qs =>
                obtain ⟨z, h1, h2⟩ := (RDk.look qs hk).1 c hp
                exact .inr ⟨_, z, rfl, .inl (.inl ⟨_, key, .inr ⟨_, hs⟩, ry.key hk, h1.symm⟩), q z (.d h2)⟩
            · cases hp
          · rename_i kvs k
            split at hp
            · rename_i key hk
              cases rx with
              | ndct nb hs qs =>
                obtain ⟨z, h1, h2⟩ := (RDn.look qs hk).1 c hp
                exact .inr ⟨_, z, rfl, .inr ⟨_, key, .inr ⟨_, hs⟩, qs.ks, ry.ky hk, h1.symm⟩, q z (.d h2)⟩
            · cases hp
          · rename_i ds k
            cases rx with
            | tup hs qs =>
              cases ry
              obtain ⟨z, h1, h2⟩ := qs.atI_ hp
              exact .inl (.inr (.inl ⟨_, _, k, z, rfl, rfl, hs, h1, q z (.d h2)⟩))
          · rename_i z k
            split at hp
            · rename_i hz
              split at hp
              · rename_i c' hc
                cases hp
                cases rx
                cases ry
                exact .inl (.inr (.inr ⟨z, k, c', rfl, rfl, szOk_le hz, hc, q _ (.d (.str _))⟩))
              · cases hp
            · cases hp
          · split at hp
            · rename_i k _ _ _ _ _ ds hds
              cases ry
              obtain ⟨a, vs, rfl, h1, h2⟩ := (RV.of rx).items hds
              obtain ⟨z, h3, h4⟩ := h2.atI_ hp
              exact .inl (.inl ⟨a, vs, k, z, rfl, rfl, h1, h3, q z (.d h4)⟩)
            · cases hp
          · cases hp
  · rename_i n k
    cases rx with
    | loc hn =>
      obtain ⟨o, h1, ro⟩ := wd.obj _ _ hn
      cases ry with
      | d ry =>
        split at e
        · rename_i us ho
          rw [ho] at h1
          cases h1
          split at e
          · rename_i i
            cases ry
            obtain ⟨vs, h2, h3⟩ := ro
            obtain ⟨z, h4, h5⟩ := h3.atI_ e
            exact .inl (.inl ⟨_, vs, i, z, rfl, rfl, SqL.of h2, h4, q z h5⟩)
          · cases e
        · rename_i kvs ho
          rw [ho] at h1
          cases h1
          split at e
          · rename_i key hk
            obtain ⟨vs, h2, h3⟩ := ro
            obtain ⟨z, h4, h5⟩ := (h3.look hk).1 u e
            exact .inr ⟨_, z, rfl, .inl (.inl ⟨_, key, .inl h2, ry.key hk, h4.symm⟩), q z h5⟩
          · cases e
        · rename_i kvs ho
          rw [ho] at h1
          cases h1
          split at e
          · rename_i key hk
            obtain ⟨vs, h2, h3⟩ := ro
            obtain ⟨z, h4, h5⟩ := (h3.look hk).1 u e
            exact .inr ⟨_, z, rfl, .inr ⟨_, key, .inl h2, h3.ks, ry.ky hk, h4.symm⟩, q z h5⟩
          · cases e
        · cases e
    | gone hn =>
      simp only [wd.gon _ hn] at e
      cases e
  · rename_i us k
    cases ry with
    | d ry =>
      cases ry
      cases rx with
      | tup hs qs =>
        obtain ⟨z, h4, h5⟩ := qs.atI_ e
        exact .inl (.inr (.inl ⟨_, _, k, z, rfl, rfl, hs, h4, q z h5⟩))
  · cases e
section
variable {X : Cx} {W : Wj} {pos p2 : Pos} {a b : Expr} {f g : M U}
theorem re_ix (hu : X.A.units + 65 < cLine) (ha : RE X W a f) (hb : RE X W b g) (hs : PlainIx b := by intro _ _; rfl) : RE X W (.Subscript a b pos) (ixE f g) :=
  pe_imp (pe_ix (IxR.or ix_seq (ix_dictY (by omega))) ha hb hs) fun σ H Q t => by
    refine tG.bnd t fun x B1 r1 H1 h1 δ v w1 s1 rx q1 => ?_
    refine ⟨B1, r1, h1, δ, w1, s1, q1.bnd w1 s1 fun y B2 r2 H2 h2 w' e2 w2 s2 ry q2 => ?_⟩
    try dsimp only at q2
    cases hx : ixU h2 x y with
    | none => rw [hx] at q2; exact q2.elim
    | some u =>
      rw [hx] at q2
      exact ixU_ok w2 (rx.ext e2 w1.toOwn) ry hx fun z rz => EQ.ret w2 q2 rz
end
def cutL {α : Type} (xs : List α) (lo hi : Option Int) : List α := (xs.drop (HT.sIx xs.length 0 lo)).take (HT.sIx xs.length xs.length hi - HT.sIx xs.length 0 lo)
theorem RDs.cutL {C : Ct} {B : Bd} {H : Hp} {ds : List D} {vs : List V} (q : RDs C.toCt0 B H ds vs) (lo hi : Option Int) : RDs C.toCt0 B H (PM.cutL ds lo hi) (cutV vs lo hi) := by
  unfold PM.cutL cutV
  rw [← q.length]
  exact (q.drop _).take _
def pSl (lo hi : Option Int) : D → Option D
  | .tup ds => some (.tup (cutL ds lo hi))
  | .str z => if szOk z.length = true then some (.str (cutS z lo hi)) else none
  | x => match lsI x with
    | some ds => some (.lst (cutL ds lo hi))
    | none => none
/-- a bound that stands there, or none -/
def ptE : Option (M U) → M (Option Int)
  | none => mret none
  | some f => mbnd f fun x _ h => match x with
    | .d (.int i) => some (.ok (some i) h)
    | _ => none
def slE (f : M U) (lo hi : Option (M U)) : M U := mbnd f fun x => mbnd (ptE lo) fun l => mbnd (ptE hi) fun u _ h => match view h x with
  | some d => (match pSl l u d with
    | some c => some (.ok (.d c) h)
    | none => none)
  | none => none
def relO : Bd → Rho → Hp → Option Int → Option Int → Prop := fun _ _ _ a b => a = b
def RP (X : Cx) (W : Wj) (e : Option Expr) (f : Option (M U)) : Prop := PO X e (fun σ H Q => tG (ctX X W) W relO (ptE f) σ H Q)
section
variable {X : Cx} {W : Wj} {pos p2 : Pos} {a : Expr} {f : M U} {lo hi : Option Expr} {fl fu : Option (M U)}
theorem po_imp {e : Option Expr} {t t' : TO} (h : PO X e t) (i : ∀ σ H Q, t' σ H Q → t σ H Q) : PO X e t' := ⟨fun pins s σ H Q I q => h.run pins s σ H Q I (i _ _ _ q)⟩
theorem rp_none : RP X W none none := po_imp po_none fun σ H Q ⟨B, r, h, δ, w, s, q⟩ => EQ.ret w q rfl
theorem rp_some (ha : RE X W a f) : RP X W (some a) (some f) := po_imp (po_some ha) fun σ H Q t => by
  refine tG.bnd (f := f) t fun x B1 r1 H1 h1 δ v w1 s1 rx q1 => ?_
  split at q1
  · cases rx with
    | d rx =>
      cases rx
      exact ⟨_, rfl, EQ.ret w1 q1 rfl⟩
  · exact q1.elim
theorem re_sl (ha : RE X W a f) (hl : RP X W lo fl) (hu : RP X W hi fu) : RE X W (.Subscript a (.Slice lo hi none p2) pos) (slE f fl fu) :=
  pe_imp (pe_slice (L2.SlR.or sl_list (L2.SlR.or sl_tupA sl_str)) ha hl hu) fun σ H Q t => by
    refine tG.bnd t fun x B1 r1 H1 h1 δ v w1 s1 rx q1 => ?_
    refine ⟨B1, r1, h1, δ, w1, s1, q1.bnd w1 s1 fun l B2 r2 H2 h2 l' e2 w2 s2 rl q2 => ?_⟩
    refine ⟨B2, r2, h2, δ, w2, s2, q2.bnd w2 s2 fun u B3 r3 H3 h3 u' e3 w3 s3 ru q3 => ?_⟩
    cases rl
    cases ru
    try dsimp only at q3
    have rx := (rx.ext e2 w1.toOwn).ext e3 w2.toOwn
    split at q3
    · rename_i d hv
      split at q3
      · rename_i c hp
        have rv := w3.view rx hv
        unfold pSl at hp
        split at hp
        · rename_i ds
          cases hp
          obtain ⟨a, vs, rfl, h4, h5, h6⟩ := rv.tupI
          refine .inr (.inl ⟨a, vs, rfl, h4, fun hw => ?_, fun hw p hp => ?_⟩)
          · have e : cutL ds l u = ds := by
              unfold cutL
              rw [← h5.length] at hw
              rw [hw.1, hw.2, List.drop_zero, Nat.sub_zero, List.take_length]
            rw [e] at q3
            exact EQ.ret w3 q3 (.d h6)
          · have g := w3.toOwn.new hp (.tup (cutV vs l u))
            exact EQ.gr w3 q3 g (.d (.tup (SqT.of upd_same) ((h5.cutL l u).ext (g.ext (r := r3)) w3.toOwn)))
        · rename_i z
          split at hp
          · rename_i hz
            cases hp
            exact .inr (.inr ⟨z, rv.strI, szOk_le hz, EQ.ret w3 q3 (.d (.str _))⟩)
          · cases hp
        · split at hp
          · rename_i ds hds
            cases hp
            obtain ⟨a, vs, rfl, h4, h5⟩ := rv.items hds
            refine .inl ⟨a, vs, rfl, h4, fun p hp => ?_⟩
            have g := w3.toOwn.new hp (.lst (cutV vs l u))
            exact EQ.gr w3 q3 g (.d (.lst ⟨w3.toOwn.nb hp, upd_same⟩ ((h5.cutL l u).ext (g.ext (r := r3)) w3.toOwn)))
          · cases hp
      · exact q3.elim
    · exact q3.elim
end
def unE (p : D → Option D) (f : M U) : M U := mbnd f fun x _ h => match view h x with
  | some d => (match p d with
    | some c => some (.ok (.d c) h)
    | none => none)
  | none => none
def pNeg : D → Option D
  | .int i => some (.int (-i))
  | _ => none
theorem re_neg {X : Cx} {W : Wj} {pos : Pos} {a : Expr} {f : M U} (ha : RE X W a f) : RE X W (.UnaryOp .USub a pos) (unE pNeg f) :=
  pe_imp (pe_un un_neg ha) fun σ H Q t => tG.bnd t fun x B r H1 h δ v w s rx q => by
    try dsimp only at q
    split at q
    · rename_i d hv
      split at q
      · rename_i c hp
        unfold pNeg at hp
        split at hp
        · cases hp
          exact ⟨_, (w.view rx hv).intI, EQ.ret w q (.d (.int _))⟩
        · cases hp
      · exact q.elim
    · exact q.elim
inductive RVs (C : Ct0) (B : Bd) (H : Hp) : List D → List V → Prop
  | nil : RVs C B H [] []
  | cons {d : D} {v : V} {ds : List D} {vs : List V} : RV C B H d v → RVs C B H ds vs → RVs C B H (d :: ds) (v :: vs)
theorem Wd.viewS {C : Ct} {B : Bd} {r : Rho} {H : Hp} {h : Hea} (w : Wd C B r H h) : ∀ {us : List U} {vs : List V} {ds : List D}, RUs C B r H us vs → viewS h us = some ds → RVs C.toCt0 B H ds vs
  | [], _, ds, .nil, e => by
    cases e
    exact .nil
  | u :: us, _, ds, .cons a b, e => by
    unfold PM.viewS at e
    split at e
    · rename_i x xs e1 e2
      cases e
      exact .cons (w.view a e1) (w.viewS b e2)
    · cases e
/-- a rule of calls does what p says -/
def FnC (C : Ct) (p : List D → Option D) (rr : List V → Hp → VK → Prop) : Prop := ∀ {B : Bd} {r : Rho} {H : Hp} {h : Hea} {ds : List D} {vs : List V} {c : D} {Q : VK}, Wd C B r H h → RVs C.toCt0 B H ds vs → p ds = some c →
  (∀ B' H' u, Gr B H B' H' → RD C.toCt0 B' H' c u → Q u H') → rr vs H Q
def fnE (p : List D → Option D) (g : M (List U)) : M U := mbnd g fun us _ h => match viewS h us with
  | some ds => (match p ds with
    | some c => some (.ok (.d c) h)
    | none => none)
  | none => none
theorem FnC.or {C : Ct} {p : List D → Option D} {r1 r2 : List V → Hp → VK → Prop} (h : FnC C p r1) : FnC C p (fun vs H Q => r1 vs H Q ∨ r2 vs H Q) := fun w q e k => .inl (h w q e k)
theorem callR_or {X : Cx} {f : Value} {r1 r2 : List V → Hp → VK → Prop} (h1 : CallR X f r1) (h2 : CallR X f r2) : CallR X f (fun vs H Q => r1 vs H Q ∨ r2 vs H Q) := by
  intro pins s σ H xs us Q I r q
  rcases q with q | q
  · exact h1 pins s σ H xs us Q I r q
  · exact h2 pins s σ H xs us Q I r q
theorem RVs.one {C : Ct0} {B : Bd} {H : Hp} {d : D} {vs : List V} (q : RVs C B H [d] vs) : ∃ v, vs = [v] ∧ RV C B H d v := by
  cases q with
  | cons a b =>
    cases b
    exact ⟨_, rfl, a⟩
theorem RVs.two {C : Ct0} {B : Bd} {H : Hp} {d e : D} {vs : List V} (q : RVs C B H [d, e] vs) : ∃ v w, vs = [v, w] ∧ RV C B H d v ∧ RV C B H e w := by
  cases q with
  | cons a b =>
    obtain ⟨w, rfl, c⟩ := b.one
    exact ⟨_, w, rfl, a, c⟩
theorem RVs.nilI {C : Ct0} {B : Bd} {H : Hp} {vs : List V} (q : RVs C B H [] vs) : vs = [] := by
  cases q
  rfl
section
variable {X : Cx} {W : Wj} {pos p : Pos} {x : Str} {e : Expr} {es : List Expr} {g : M (List U)} {pp : List D → Option D} {rr : List V → Hp → VK → Prop} {id T : String}
theorem t_fn {C : Ct} {σ : L2.St} {H : Hp} {Q : VK} (hr : FnC C pp rr) (t : tI C W (fnE pp g) σ H Q) : tCB rr (tA C W g) σ H Q := by
  refine tG.bnd t fun us B r H1 h δ vs w s ru q => ?_
  try dsimp only at q
  split at q
  · rename_i ds hv
    split at q
    · rename_i c hp
      exact hr w (w.viewS ru hv) hp fun B' H' u gr rd => EQ.gr w q gr (.d rd)
    · exact q.elim
  · exact q.elim
theorem re_bfn (hc : CallR X (.builtin id) rr) (hr : FnC (ctX X W) pp rr) (hm : X.mg x = none) (hv : bootBuiltins x = some (.builtin id)) (ha : RA X W (e :: es) g) (hg : Gl X x := by rfl) (hn : x ≠ "__name__" := by decide) (hdb : (x == ("__debug__" : Str)) = false := by decide)
    (he : starEach (e :: es) X.env = (false, eval e X.env) :: starEach es X.env := by rfl) (hpl : (backTo pos (starEach es X.env)).any (·.1) = false := by rfl) : RE X W (.Call (.Name x p) (e :: es) [] pos) (fnE pp g) :=
  pe_imp (pe_callB hc hg hm hv ha hn hdb he hpl) fun _ _ _ t => t_fn hr t
theorem re_bty (hc : CallR X (.type T) rr) (hr : FnC (ctX X W) pp rr) (hm : X.mg x = none) (hv : bootBuiltins x = some (.type T)) (ha : RA X W (e :: es) g) (hg : Gl X x := by rfl) (hn : x ≠ "__name__" := by decide) (hdb : (x == ("__debug__" : Str)) = false := by decide)
    (he : starEach (e :: es) X.env = (false, eval e X.env) :: starEach es X.env := by rfl) (hpl : (backTo pos (starEach es X.env)).any (·.1) = false := by rfl) : RE X W (.Call (.Name x p) (e :: es) [] pos) (fnE pp g) :=
  pe_imp (pe_callTy hc hg hm hv ha hn hdb he hpl) fun _ _ _ t => t_fn hr t
/-- a built-in type as a value -/
theorem re_ty {x : Str} {T : String} (hm : X.mg x = none) (hv : bootBuiltins x = some (.type T)) (hg : Gl X x := by rfl) (hn : x ≠ "__name__" := by decide) (hd : (x == ("__debug__" : Str)) = false := by decide) : RE X W (.Name x pos) (cn (.raw (.ty T))) :=
  re_cn (pe_bltn (v := .ty T) hg hm hv rfl hn hd) fun _ _ _ => .raw _
end
def pLen : List D → Option D
  | [.str z] => if szOk z.length = true then some (.int z.length) else none
  | [.tup ds] => some (.int ds.length)
  | [.dct ds] => some (.int ds.length)
  | [.ndct ds] => some (.int ds.length)
  | [x] => match lsI x with
    | some ds => some (.int ds.length)
    | none => none
  | _ => none
theorem call_lenR {X : Cx} : CallR X (.builtin "len") (fun xs H Q => ∃ a kvs, xs = [V.ref a] ∧ Rd H a (.dK kvs) ∧ Q (.int kvs.length) H) := by
  intro pins s σ H xs us Q I r h
  obtain ⟨a, kvs, rfl, ha, q⟩ := h
  obtain ⟨u, rfl, ru⟩ := vals1 r
  cases ru
  exact d_len I ha fun t s' I' => ⟨.int kvs.length, H, I', ⟨t, rfl⟩, q⟩
theorem RDk.length {C : Ct0} {B : Bd} {H : Hp} : ∀ {us : List (D × D)} {vs : List (Key × V)}, RDk C B H us vs → us.length = vs.length
  | _, _, .nil => rfl
  | _, _, .cons _ _ b => congrArg (· + 1) (RDk.length b)
theorem RV.dctI {C : Ct0} {B : Bd} {H : Hp} {ds : List (D × D)} {v : V} (h : RV C B H (.dct ds) v) : ∃ a vs, v = .ref a ∧ Rd H a (.dK vs) ∧ RDk C B H ds vs := by
  cases h with
  | of h =>
    cases h with
    | dct nb hs q => exact ⟨_, _, rfl, .inr ⟨_, hs⟩, q⟩
  | dct hs q => exact ⟨_, _, rfl, hs, q⟩
theorem call_lenN {X : Cx} : CallR X (.builtin "len") (fun vs H Q => ∃ a xs, vs = [V.ref a] ∧ Rd H a (dN X.prog X.w a xs) ∧ KsOk X.K H xs ∧ Q (.int xs.length) H) := by
  intro pins s σ H vs us Q I r h
  obtain ⟨a, xs, rfl, ha, hk, q⟩ := h
  obtain ⟨u, rfl, ru⟩ := vals1 r
  cases ru
  obtain ⟨z, hd, ys, pr, dd⟩ := dn_of I ha hk
  have hl : ys.length = xs.length := (Paired.length pr).symm
  obtain ⟨es, ep, hr, hs, _⟩ := dd.raw
  refine PyProof.Rows.call_len_slot (n := ys.length) dd.typeIs F.slot_dict_len (fun Q' hq => call_len_raw hd hr (by rw [hs]; exact hq)) (by omega) (by rw [sizeLine_eq] at z; omega) ?_
  rw [hl]
  exact ⟨.int xs.length, H, I.tok _, ⟨_, rfl⟩, q⟩
theorem RV.ndctI {C : Ct0} {B : Bd} {H : Hp} {ds : List (D × D)} {v : V} (h : RV C B H (.ndct ds) v) : ∃ a xs, v = .ref a ∧ Rd H a (dN C.P C.w a xs) ∧ RDn C B H ds xs := by
  cases h with
  | of h =>
    cases h with
    | ndct nb hs q => exact ⟨_, _, rfl, .inr ⟨_, hs⟩, q⟩
  | ndct hs q => exact ⟨_, _, rfl, hs, q⟩
def rLenA (P : Program) (w : World) (K : PySem.W.Frag) : List V → Hp → VK → Prop := fun vs H Q => ((∃ x n, vs = [x] ∧ LenV K x H n ∧ Q (.int n) H) ∨ ∃ a kvs, vs = [V.ref a] ∧ Rd H a (.dK kvs) ∧ Q (.int kvs.length) H) ∨ ∃ a xs, vs = [V.ref a] ∧ Rd H a (dN P w a xs) ∧ KsOk K H xs ∧ Q (.int xs.length) H
theorem call_lenA {X : Cx} : CallR X (.builtin "len") (rLenA X.prog X.w X.K) := callR_or (callR_or call_len call_lenR) call_lenN
theorem fn_len {C : Ct} : FnC C pLen (rLenA C.P C.w C.K) := by
  intro B r H h ds vs c Q w rv e q
  unfold pLen at e
  split at e
  · split at e
    · rename_i z hz
      cases e
      obtain ⟨v, rfl, r1⟩ := rv.one
      have e1 := r1.strI
      subst e1
      exact .inl (.inl ⟨_, _, rfl, ⟨szOk_le hz, rfl⟩, q _ _ _ w.toOwn.gr (.int _)⟩)
    · cases e
  · cases e
    obtain ⟨v, rfl, r1⟩ := rv.one
    obtain ⟨a, vs, rfl, h1, h2, _⟩ := r1.tupI
    rw [h2.length] at q
    exact .inl (.inl ⟨_, _, rfl, .inr ⟨_, h1, rfl⟩, q _ _ _ w.toOwn.gr (.int _)⟩)
  · cases e
    obtain ⟨v, rfl, r1⟩ := rv.one
    obtain ⟨a, vs, rfl, h1, h2⟩ := r1.dctI
    rw [h2.length] at q
    exact .inl (.inr ⟨_, _, rfl, h1, q _ _ _ w.toOwn.gr (.int _)⟩)
  · cases e
    obtain ⟨v, rfl, r1⟩ := rv.one
    obtain ⟨a, xs, rfl, h1, h2⟩ := r1.ndctI
    rw [h2.length] at q
    exact .inr ⟨_, _, rfl, h1, h2.ks, q _ _ _ w.toOwn.gr (.int _)⟩
  · split at e
    · rename_i ds hds
      cases e
      obtain ⟨v, rfl, r1⟩ := rv.one
      obtain ⟨a, vs, rfl, h1, h2⟩ := r1.items hds
      rw [h2.length] at q
      exact .inl (.inl ⟨_, _, rfl, .inl ⟨_, h1, rfl⟩, q _ _ _ w.toOwn.gr (.int _)⟩)
    · cases e
  · cases e
/-- len, also of what may change and holds such -/
def lenU (h : Hea) (u : U) : Option D := match u with
  | .loc n => match h[n]? with
    | some (.lst us) => some (.int us.length)
    | some (.dct us) => some (.int us.length)
    | some (.ndct us) => some (.int us.length)
    | _ => none
  | .tup us => some (.int us.length)
  | .d x => pLen [x]
def lenE (g : M (List U)) : M U := mbnd g fun us _ h => match us with
  | [u] => (match lenU h u with
    | some c => some (.ok (.d c) h)
    | none => none)
  | _ => none
theorem RUk.length {C : Ct} {B : Bd} {r : Rho} {H : Hp} : ∀ {us : List (D × U)} {vs : List (Key × V)}, RUk C B r H us vs → us.length = vs.length
  | _, _, .nil => rfl
  | _, _, .cons _ _ b => congrArg (· + 1) (RUk.length b)
theorem lenU_ok {C : Ct} {B : Bd} {r : Rho} {H : Hp} {h : Hea} {u : U} {v : V} {c : D} {Q : VK} (w : Wd C B r H h) (ru : RU C B r H u v) (e : lenU h u = some c) (q : ∀ B' H' z, Gr B H B' H' → RD C.toCt0 B' H' c z → Q z H') : rLenA C.P C.w C.K [v] H Q := by
  unfold lenU at e
  split at e
  · rename_i n
    cases ru with
    | loc hn =>
      obtain ⟨o, h1, ro⟩ := w.obj _ _ hn
      split at e
      · rename_i us ho
        rw [ho] at h1
        cases h1
        cases e
        obtain ⟨vs, h2, h3⟩ := ro
        rw [h3.length] at q
        exact .inl (.inl ⟨_, _, rfl, .inl ⟨_, SqL.of h2, rfl⟩, q _ _ _ w.toOwn.gr (.int _)⟩)
      · rename_i us ho
        rw [ho] at h1
        cases h1
        cases e
        obtain ⟨vs, h2, h3⟩ := ro
        rw [h3.length] at q
        exact .inl (.inr ⟨_, _, rfl, .inl h2, q _ _ _ w.toOwn.gr (.int _)⟩)
      · rename_i us ho
        rw [ho] at h1
        cases h1
        cases e
        obtain ⟨vs, h2, h3⟩ := ro
        rw [h3.length] at q
        exact .inr ⟨_, _, rfl, .inl h2, h3.ks, q _ _ _ w.toOwn.gr (.int _)⟩
      · cases e
    | gone hn =>
      simp only [w.gon _ hn] at e
      cases e
  · cases e
    cases ru with
    | tup hs qs =>
      rw [qs.length] at q
      exact .inl (.inl ⟨_, _, rfl, .inr ⟨_, hs, rfl⟩, q _ _ _ w.toOwn.gr (.int _)⟩)
  · cases ru with
    | d rd => exact fn_len (r := r) (h := h) w (.cons (.of rd) .nil) e q
section
variable {X : Cx} {W : Wj} {pos p : Pos} {e : Expr} {g : M (List U)}
theorem re_len (hm : X.mg "len" = none) (ha : RA X W [e] g) (hg : Gl X "len" := by rfl) (he : starEach [e] X.env = (false, eval e X.env) :: starEach [] X.env := by rfl) : RE X W (.Call (.Name "len" p) [e] [] pos) (lenE g) :=
  pe_imp (pe_callB call_lenA hg hm rfl ha (he := he)) fun σ H Q t => tG.bnd t fun us B r H1 h δ vs w s ru q => by
    try dsimp only at q
    split at q
    · rename_i u
      split at q
      · rename_i c hc
        obtain ⟨v, rfl, r1⟩ := ru.one
        exact lenU_ok w r1 hc fun B' H' z gr rd => EQ.gr w q gr (.d rd)
      · exact q.elim
    · exact q.elim
end
def strOk (i : Int) : Bool := decide (i.natAbs.log2 < 1920)
def pStr : List D → Option D
  | [.int i] => if strOk i = true then some (.str (toString i)) else none
  | [.str a] => some (.str a)
  | _ => none
def rStr : List V → Hp → VK → Prop := fun xs H Q => (∃ i, xs = [.int i] ∧ i.natAbs.log2 < 1920 ∧ Q (.str (toString i)) H) ∨ ∃ a, xs = [.str a] ∧ Q (.str a) H
theorem call_strA {X : Cx} : CallR X (.type "str") rStr := callR_or call_str_int SkE.call_str_str
theorem fn_str {C : Ct} : FnC C pStr rStr := by
  intro B r H h ds vs c Q w rv e q
  unfold pStr at e
  split at e
  · split at e
    · rename_i i hz
      cases e
      obtain ⟨v, rfl, r1⟩ := rv.one
      have e1 := r1.intI
      subst e1
      exact .inl ⟨_, rfl, of_decide_eq_true hz, q _ _ _ w.toOwn.gr (.str _)⟩
    · cases e
  · cases e
    obtain ⟨v, rfl, r1⟩ := rv.one
    have e1 := r1.strI
    subst e1
    exact .inr ⟨_, rfl, q _ _ _ w.toOwn.gr (.str _)⟩
  · cases e
def len640 (a : Str) : Bool := decide (a.length ≤ 640)
def pInt : List D → Option D
  | [.int i] => some (.int i)
  | [.bl k] => some (.int (if k then 1 else 0))
  | [.str a] => if len640 a = true then (intText? a).map .int else none
  | _ => none
def rInt : List V → Hp → VK → Prop := fun xs H Q => ((∃ i, xs = [.int i] ∧ Q (.int i) H) ∨ ∃ k, xs = [.bl k] ∧ Q (.int (if k then 1 else 0)) H) ∨ ∃ a n, xs = [.str a] ∧ PySem.intText? a = some n ∧ a.length ≤ 640 ∧ Q (.int n) H
theorem call_intA {X : Cx} : CallR X (.type "int") rInt := callR_or call_int1 call_int_str
theorem fn_int {C : Ct} : FnC C pInt rInt := by
  intro B r H h ds vs c Q w rv e q
  unfold pInt at e
  split at e
  · cases e
    obtain ⟨v, rfl, r1⟩ := rv.one
    have e1 := r1.intI
    subst e1
    exact .inl (.inl ⟨_, rfl, q _ _ _ w.toOwn.gr (.int _)⟩)
  · cases e
    obtain ⟨v, rfl, r1⟩ := rv.one
    have e1 := r1.blI
    subst e1
    exact .inl (.inr ⟨_, rfl, q _ _ _ w.toOwn.gr (.int _)⟩)
  · split at e
    · rename_i a hz
      obtain ⟨v, rfl, r1⟩ := rv.one
      have e1 := r1.strI
      subst e1
      obtain ⟨n, hn, hc⟩ := Option.map_eq_some_iff.mp e
      subst hc
      exact .inr ⟨_, n, rfl, hn, of_decide_eq_true hz, q _ _ _ w.toOwn.gr (.int _)⟩
    · cases e
  · cases e
def pBool : List D → Option D
  | [.int i] => some (.bl (i != 0))
  | [.bl k] => some (.bl k)
  | _ => none
theorem fn_bool {C : Ct} : FnC C pBool (fun xs H Q => (∃ i, xs = [.int i] ∧ Q (.bl (i != 0)) H) ∨ ∃ k, xs = [.bl k] ∧ Q (.bl k) H) := by
  intro B r H h ds vs c Q w rv e q
  unfold pBool at e
  split at e
  · cases e
    obtain ⟨v, rfl, r1⟩ := rv.one
    have e1 := r1.intI
    subst e1
    exact .inl ⟨_, rfl, q _ _ _ w.toOwn.gr (.bl _)⟩
  · cases e
    obtain ⟨v, rfl, r1⟩ := rv.one
    have e1 := r1.blI
    subst e1
    exact .inr ⟨_, rfl, q _ _ _ w.toOwn.gr (.bl _)⟩
  · cases e
def pAbs : List D → Option D
  | [.int i] => some (.int (if i < 0 then -i else i))
  | _ => none
theorem fn_abs {C : Ct} : FnC C pAbs (fun xs H Q => ∃ i, xs = [.int i] ∧ Q (.int (if i < 0 then -i else i)) H) := by
  intro B r H h ds vs c Q w rv e q
  unfold pAbs at e
  split at e
  · cases e
    obtain ⟨v, rfl, r1⟩ := rv.one
    have e1 := r1.intI
    subst e1
    exact ⟨_, rfl, q _ _ _ w.toOwn.gr (.int _)⟩
  · cases e
/-- items that are all of one kind -/
def blsD : List D → Option (List Bool)
  | [] => some []
  | .bl b :: r => (blsD r).map (b :: ·)
  | _ => none
def intsD : List D → Option (List Int)
  | [] => some []
  | .int b :: r => (intsD r).map (b :: ·)
  | _ => none
def strsD : List D → Option (List Str)
  | [] => some []
  | .str b :: r => (strsD r).map (b :: ·)
  | _ => none
section
variable {C : Ct0} {B : Bd} {H : Hp}
theorem RDs.bls : ∀ {ds : List D} {vs : List V} {bs : List Bool}, RDs C B H ds vs → blsD ds = some bs → vs = bs.map V.bl
  | [], _, _, .nil, e => by cases e; rfl
  | d :: ds, _, bs, .cons a b, e => by
    unfold blsD at e
    split at e
    · rename_i h0; cases h0
    · rename_i x r h0
      cases h0
      obtain ⟨n, hn, hc⟩ := Option.map_eq_some_iff.mp e
      subst hc
      cases a
      rw [RDs.bls b hn]
      rfl
    · cases e
theorem RDs.intsI : ∀ {ds : List D} {vs : List V} {bs : List Int}, RDs C B H ds vs → intsD ds = some bs → vs = bs.map V.int
  | [], _, _, .nil, e => by cases e; rfl
  | d :: ds, _, bs, .cons a b, e => by
    unfold intsD at e
    split at e
    · rename_i h0; cases h0
    · rename_i x r h0
      cases h0
      obtain ⟨n, hn, hc⟩ := Option.map_eq_some_iff.mp e
      subst hc
      cases a
      rw [RDs.intsI b hn]
      rfl
    · cases e
theorem RDs.strsI : ∀ {ds : List D} {vs : List V} {bs : List Str}, RDs C B H ds vs → strsD ds = some bs → vs = bs.map V.str
  | [], _, _, .nil, e => by cases e; rfl
  | d :: ds, _, bs, .cons a b, e => by
    unfold strsD at e
    split at e
    · rename_i h0; cases h0
    · rename_i x r h0
      cases h0
      obtain ⟨n, hn, hc⟩ := Option.map_eq_some_iff.mp e
      subst hc
      cases a
      rw [RDs.strsI b hn]
      rfl
    · cases e
end
def pAll : List D → Option D
  | [x] => match lsI x with
    | some ds => (blsD ds).map fun bs => .bl (bs.all id)
    | none => none
  | _ => none
def pAny : List D → Option D
  | [x] => match lsI x with
    | some ds => (blsD ds).map fun bs => .bl (bs.any id)
    | none => none
  | _ => none
def pSum : List D → Option D
  | [x] => match lsI x with
    | some ds => (intsD ds).map fun bs => .int bs.sum
    | none => none
  | _ => none
theorem fn_all {C : Ct} : FnC C pAll (rAll C.K) := by
  intro B r H h ds vs c Q w rv e q
  unfold pAll at e
  split at e
  · split at e
    · rename_i x ds hds
      obtain ⟨v, rfl, r1⟩ := rv.one
      obtain ⟨bs, hb, hc⟩ := Option.map_eq_some_iff.mp e
      subst hc
      obtain ⟨a, vs, rfl, h1, h2⟩ := r1.items hds
      rw [h2.bls hb] at h1
      exact ⟨a, bs, rfl, h1, q _ _ _ w.toOwn.gr (.bl _)⟩
    · cases e
  · cases e
theorem fn_any {C : Ct} : FnC C pAny (rAny C.K) := by
  intro B r H h ds vs c Q w rv e q
  unfold pAny at e
  split at e
  · split at e
    · rename_i x ds hds
      obtain ⟨v, rfl, r1⟩ := rv.one
      obtain ⟨bs, hb, hc⟩ := Option.map_eq_some_iff.mp e
      subst hc
      obtain ⟨a, vs, rfl, h1, h2⟩ := r1.items hds
      rw [h2.bls hb] at h1
      exact ⟨a, bs, rfl, h1, q _ _ _ w.toOwn.gr (.bl _)⟩
    · cases e
  · cases e
theorem fn_sum {C : Ct} : FnC C pSum (rSum C.K) := by
  intro B r H h ds vs c Q w rv e q
  unfold pSum at e
  split at e
  · split at e
    · rename_i x ds hds
      obtain ⟨v, rfl, r1⟩ := rv.one
      obtain ⟨bs, hb, hc⟩ := Option.map_eq_some_iff.mp e
      subst hc
      obtain ⟨a, vs, rfl, h1, h2⟩ := r1.items hds
      rw [h2.intsI hb] at h1
      exact ⟨a, bs, rfl, h1, q _ _ _ w.toOwn.gr (.int _)⟩
    · cases e
  · cases e
def pMin : List D → Option D
  | [.int i, .int j] => some (.int (if j < i then j else i))
  | _ => none
def pMax : List D → Option D
  | [.int i, .int j] => some (.int (if j > i then j else i))
  | _ => none
theorem fn_min {C : Ct} : FnC C pMin (fun xs H Q => ∃ i j, xs = [.int i, .int j] ∧ Q (.int (if j < i then j else i)) H) := by
  intro B r H h ds vs c Q w rv e q
  unfold pMin at e
  split at e
  · cases e
    obtain ⟨v, u, rfl, r1, r2⟩ := rv.two
    have e1 := r1.intI
    have e2 := r2.intI
    subst e1 e2
    exact ⟨_, _, rfl, q _ _ _ w.toOwn.gr (.int _)⟩
  · cases e
theorem fn_max {C : Ct} : FnC C pMax (fun xs H Q => ∃ i j, xs = [.int i, .int j] ∧ Q (.int (if j > i then j else i)) H) := by
  intro B r H h ds vs c Q w rv e q
  unfold pMax at e
  split at e
  · cases e
    obtain ⟨v, u, rfl, r1, r2⟩ := rv.two
    have e1 := r1.intI
    have e2 := r2.intI
    subst e1 e2
    exact ⟨_, _, rfl, q _ _ _ w.toOwn.gr (.int _)⟩
  · cases e
/-- list(x): the new one is not to change; tuple(x) -/
def pList : List D → Option D
  | [.tup ds] => some (.lst ds)
  | [x] => (lsI x).map .lst
  | _ => none
def pTuple : List D → Option D
  | [.tup ds] => some (.tup ds)
  | [x] => (lsI x).map .tup
  | _ => none
theorem fn_list {C : Ct} : FnC C pList (fun xs H Q => ∃ p ys, xs = [.ref p] ∧ (SqL C.K H p ys ∨ SqT C.K H p ys) ∧ ∀ l, H l = none → Q (.ref l) (upd H l (.lst ys))) := by
  intro B r H h ds vs c Q w rv e q
  unfold pList at e
  split at e
  · cases e
    obtain ⟨v, rfl, r1⟩ := rv.one
    obtain ⟨a, vs, rfl, h1, h2, _⟩ := r1.tupI
    refine ⟨a, vs, rfl, .inr h1, fun p hp => ?_⟩
    have g := w.toOwn.new hp (.lst vs)
    exact q _ _ _ g (.lst ⟨w.toOwn.nb hp, upd_same⟩ (h2.ext (g.ext (r := r)) w.toOwn))
  · obtain ⟨v, rfl, r1⟩ := rv.one
    obtain ⟨ds, hd, hc⟩ := Option.map_eq_some_iff.mp e
    subst hc
    obtain ⟨a, vs, rfl, h1, h2⟩ := r1.items hd
    refine ⟨a, vs, rfl, .inl h1, fun p hp => ?_⟩
    have g := w.toOwn.new hp (.lst vs)
    exact q _ _ _ g (.lst ⟨w.toOwn.nb hp, upd_same⟩ (h2.ext (g.ext (r := r)) w.toOwn))
  · cases e
theorem fn_tuple {C : Ct} : FnC C pTuple (fun xs H Q => ∃ p ys, xs = [.ref p] ∧ ((SqL C.K H p ys ∧ ∀ l, H l = none → Q (.ref l) (upd H l (.tup ys))) ∨ (SqT C.K H p ys ∧ Q (.ref p) H))) := by
  intro B r H h ds vs c Q w rv e q
  unfold pTuple at e
  split at e
  · cases e
    obtain ⟨v, rfl, r1⟩ := rv.one
    obtain ⟨a, vs, rfl, h1, h2, h3⟩ := r1.tupI
    exact ⟨a, vs, rfl, .inr ⟨h1, q _ _ _ w.toOwn.gr h3⟩⟩
  · obtain ⟨v, rfl, r1⟩ := rv.one
    obtain ⟨ds, hd, hc⟩ := Option.map_eq_some_iff.mp e
    subst hc
    obtain ⟨a, vs, rfl, h1, h2⟩ := r1.items hd
    refine ⟨a, vs, rfl, .inl ⟨h1, fun p hp => ?_⟩⟩
    have g := w.toOwn.new hp (.tup vs)
    exact q _ _ _ g (.tup (SqT.of upd_same) (h2.ext (g.ext (r := r)) w.toOwn))
  · cases e
/-- list(x), to be changed -/
def lstOfN (g : M (List U)) : M U := mbnd g fun us _ h => match viewS h us with
  | some ds => (match pList ds with
    | some (.lst xs) => newE (.lst (xs.map .d)) [] h
    | _ => none)
  | none => none
theorem pList_lst {ds : List D} {c : D} (h : pList ds = some c) : ∃ xs, c = .lst xs := by
  unfold pList at h
  split at h
  · cases h
    exact ⟨_, rfl⟩
  · obtain ⟨ds, hd, hc⟩ := Option.map_eq_some_iff.mp h
    exact ⟨_, hc.symm⟩
  · cases h
section
variable {X : Cx} {W : Wj} {pos p : Pos} {e : Expr} {g : M (List U)}
theorem re_listN (hm : X.mg "list" = none) (ha : RA X W [e] g) (hg : Gl X "list" := by rfl) (he : starEach [e] X.env = (false, eval e X.env) :: starEach [] X.env := by rfl) : RE X W (.Call (.Name "list" p) [e] [] pos) (lstOfN g) :=
  pe_imp (pe_callTy call_list_of hg hm rfl ha (he := he)) fun σ H Q t => tG.bnd t fun us B r H1 h δ vs w s ru q => by
    try dsimp only at q
    split at q
    · rename_i ds hv
      split at q
      · rename_i xs hp
        have rv := w.viewS ru hv
        have fin : ∀ {a : Addr} {ys : List V}, RDs (ctX X W).toCt0 B H1 xs ys → ∀ l, H1 l = none → Q (.ref l) (upd H1 l (.lst ys)) := fun {a ys} h2 l hl => by
          obtain ⟨ex, w2⟩ := w.add (o := .lst (xs.map .d)) hl (notup_lst (xs := ys)) fun ex => ⟨ys, upd_same, (h2.ext ex w.toOwn).us⟩
          exact q _ _ _ _ ex w2 (.loc (by rw [← w.len]; simp))
        unfold pList at hp
        split at hp
        · cases hp
          obtain ⟨v, rfl, r1⟩ := rv.one
          obtain ⟨a, vs, rfl, h1, h2, _⟩ := r1.tupI
          exact ⟨a, vs, rfl, .inr h1, fin (a := a) h2⟩
        · obtain ⟨v, rfl, r1⟩ := rv.one
          obtain ⟨ds, hd, hc⟩ := Option.map_eq_some_iff.mp hp
          cases hc
          obtain ⟨a, vs, rfl, h1, h2⟩ := r1.items hd
          exact ⟨a, vs, rfl, .inl h1, fin (a := a) h2⟩
        · cases hp
      · exact q.elim
    · exact q.elim
end
def inStr (x z : Str) : Bool := match x.cps.toList with
  | [c] => decide (c ∈ z.cps.toList)
  | _ => !(Builtin.Str.occurrences z x 0 z.length 1).isEmpty
def inB : D → D → Option Bool
  | .str x, .str z => some (inStr x z)
  | x, .dct kvs => match keyD x with
    | some _ => some (lookK kvs x).isSome
    | none => none
  | x, .ndct kvs => match nkT x with
    | some _ => some (lookN kvs x).isSome
    | none => none
  | x, y => match toPy x, toPy y with
    | some d, some (.list ds) => if (SeqAt.shaped d && SeqAt.shaped (.list ds)) = true then some (ds.any fun z => PyData.eqv z d) else none
    | some d, some (.tuple ds) => if (SeqAt.shaped d && SeqAt.shaped (.tuple ds)) = true then some (ds.any fun z => PyData.eqv z d) else none
    | _, _ => none
/-- .., also in what may change -/
def inU (h : Hea) (x y : U) : Option Bool := match y with
  | .loc n => match h[n]? with
    | some (.dct kvs) => match x with
      | .d k => match keyD k with
        | some _ => some (lookK kvs k).isSome
        | none => none
      | _ => none
    | some (.ndct kvs) => match x with
      | .d k => match nkT k with
        | some _ => some (lookN kvs k).isSome
        | none => none
      | _ => none
    | some (.lst us) => match allD us, view h x with
      | some ds, some k => inB k (.lst ds)
      | _, _ => none
    | _ => none
  | y => match view h x, view h y with
    | some a, some b => inB a b
    | _, _ => none
def inE (neg : Bool) (f g : M U) : M U := mbnd f fun x => mbnd g fun y _ h => match inU h x y with
  | some b => some (.ok (.d (.bl (b != neg))) h)
  | none => none
def pIn (x y : D) : Option D := (inB x y).map .bl
def pNotIn (x y : D) : Option D := (inB x y).map fun b => .bl (!b)
theorem one_sign {x : Str} {c : Nat} (h : x.cps.toList = [c]) : x = ⟨#[c]⟩ := by
  obtain ⟨⟨l⟩⟩ := x
  dsimp only at h
  subst h
  rfl
def InC (P : Program) (w : World) (K : PySem.W.Frag) (H : Hp) (v w' : V) (b : Bool) : Prop := (∃ i j, v = .str i ∧ w' = .str j ∧ ((!(Builtin.Str.occurrences j i 0 j.length 1).isEmpty) = b)) ∨ (∃ a o, w' = .ref a ∧ DGetY P w K H a v o ∧ o.isSome = b) ∨
  (∃ d ds, Dp K H v d ∧ Dp K H w' (.list ds) ∧ SeqAt.shaped d = true ∧ SeqAt.shaped (.list ds) = true ∧ (ds.any fun z => PyData.eqv z d) = b) ∨ ∃ d ds, Dp K H v d ∧ Dp K H w' (.tuple ds) ∧ SeqAt.shaped d = true ∧ SeqAt.shaped (.tuple ds) = true ∧ (ds.any fun z => PyData.eqv z d) = b
theorem inB_ok {C : Ct} {B : Bd} {H : Hp} {x y : D} {v w : V} {b : Bool} (rx : RV C.toCt0 B H x v) (ry : RV C.toCt0 B H y w) (e : inB x y = some b) : InC C.P C.w C.K H v w b := by
  unfold inB at e
  split at e
  · cases e
    refine .inl ⟨_, _, rx.strI, ry.strI, ?_⟩
    unfold inStr
    split
    · rename_i c hc
      rw [one_sign hc]
      exact PySem.StrLaws.found_one _ c
    · rfl
  · split at e
    · rename_i kvs _ key hk
      cases e
      obtain ⟨a, vs, rfl, h1, h2⟩ := ry.dctI
      obtain ⟨q1, q2⟩ := RDk.look h2 hk
      refine .inr (.inl ⟨a, valV vs key, rfl, .inl (.inl ⟨_, key, h1, rx.key hk, rfl⟩), ?_⟩)
      cases hl : lookK kvs x with
      | none => rw [q2 hl]; rfl
      | some d =>
        obtain ⟨z, hz, _⟩ := q1 d hl
        rw [hz]
        rfl
    · cases e
  · split at e
    · rename_i kvs _ key hk
      cases e
      obtain ⟨a, vs, rfl, h1, h2⟩ := ry.ndctI
      obtain ⟨q1, q2⟩ := RDn.look h2 hk
      have rk : RD C.toCt0 B H x v := by
        obtain ⟨_, _, ds, rfl⟩ := nkT_some hk
        obtain ⟨a, vs, rfl, h4, h5, h6⟩ := rx.tupI
        exact h6
      refine .inr (.inl ⟨a, lkN vs key, rfl, .inr ⟨_, key, h1, h2.ks, rk.ky hk, rfl⟩, ?_⟩)
      cases hl : lookN kvs x with
      | none => rw [q2 hl]; rfl
      | some d =>
        obtain ⟨z, hz, _⟩ := q1 d hl
        rw [hz]
        rfl
    · cases e
  · split at e
    · rename_i d ds h1 h2
      split at e
      · rename_i hsh
        cases e
        rw [Bool.and_eq_true] at hsh
        exact .inr (.inr (.inl ⟨d, ds, rx.dp h1, ry.dp h2, hsh.1, hsh.2, rfl⟩))
      · cases e
    · rename_i d ds h1 h2
      split at e
      · rename_i hsh
        cases e
        rw [Bool.and_eq_true] at hsh
        exact .inr (.inr (.inr ⟨d, ds, rx.dp h1, ry.dp h2, hsh.1, hsh.2, rfl⟩))
      · cases e
    · cases e
theorem inU_ok {C : Ct} {B : Bd} {r : Rho} {H : Hp} {h : Hea} {x y : U} {v w : V} {b : Bool} (wd : Wd C B r H h) (rx : RU C B r H x v) (ry : RU C B r H y w) (e : inU h x y = some b) : InC C.P C.w C.K H v w b := by
  unfold inU at e
  split at e
  · rename_i n
    cases ry with
    | gone hn =>
      simp only [wd.gon _ hn] at e
      cases e
    | loc hn =>
      obtain ⟨o, h1, ro⟩ := wd.obj _ _ hn
      split at e
      · rename_i kvs ho
        rw [ho] at h1
        cases h1
        obtain ⟨vs, h2, h3⟩ := ro
        split at e
        · rename_i k
          split at e
          · rename_i key hk
            cases e
            cases rx with
            | d rx =>
              obtain ⟨q1, q2⟩ := h3.look hk
              refine .inr (.inl ⟨_, valV vs key, rfl, .inl (.inl ⟨_, key, .inl h2, rx.key hk, rfl⟩), ?_⟩)
              cases hl : lookK kvs k with
              | none => rw [q2 hl]; rfl
              | some d =>
                obtain ⟨z, hz, _⟩ := q1 d hl
                rw [hz]
                rfl
          · cases e
        · cases e
      · rename_i kvs ho
        rw [ho] at h1
        cases h1
        obtain ⟨vs, h2, h3⟩ := ro
        split at e
        · rename_i k
          split at e
          · rename_i key hk
            cases e
            cases rx with
            | d rx =>
              obtain ⟨q1, q2⟩ := h3.look hk
              refine .inr (.inl ⟨_, lkN vs key, rfl, .inr ⟨_, key, .inl h2, h3.ks, rx.ky hk, rfl⟩, ?_⟩)
              cases hl : lookN kvs k with
              | none => rw [q2 hl]; rfl
              | some d =>
                obtain ⟨z, hz, _⟩ := q1 d hl
                rw [hz]
                rfl
          · cases e
        · cases e
      · rename_i us ho
        rw [ho] at h1
        cases h1
        obtain ⟨vs, h2, h3⟩ := ro
        split at e
        · rename_i ds k h4 h5
          exact inB_ok (wd.view rx h5) (.lst h2 (h3.allD h4)) e
        · cases e
      · cases e
  · split at e
    · rename_i a b' h4 h5
      exact inB_ok (wd.view rx h4) (wd.view ry h5) e
    · cases e
def rInT (K : PySem.W.Frag) (neg : Bool) : R2 := fun x y H Q => ∃ d ds, Dp K H x d ∧ Dp K H y (.tuple ds) ∧ SeqAt.shaped d = true ∧ SeqAt.shaped (.tuple ds) = true ∧ Q (.bl ((ds.any fun z => PyData.eqv z d) != neg)) H
theorem shaped_tup {ds : List PyData} (h : SeqAt.shaped (.tuple ds) = true) : PyData.canLayAll0 ds = true := by
  have z := SeqAt.canLay_of_shaped h
  simpa [PyData.canLay0] using z
theorem room_tup {X : Cx} {d : PyData} {ds : List PyData} (h : SeqAt.shaped d = true) (hu : X.A.units + 65 < cLine) : X.A.units + 1 + min (PyData.depthAll ds) d.depth < cLine := by
  have h1 := SeqAt.depth_of_shaped h
  have h2 : min (PyData.depthAll ds) d.depth ≤ d.depth := Nat.min_le_right _ _
  omega
theorem op_inT {X : Cx} (hu : X.A.units + 65 < cLine) : OpR X (compareOp .In) (rInT X.K false) := by
  intro pins s σ H x y v u Q I rx ry h
  obtain ⟨d, ds, hd, he, sd, se, q⟩ := h
  obtain ⟨as, r1⟩ := Dp.reads I d x v hd rx
  obtain ⟨bs, r2⟩ := Dp.reads I (.tuple ds) y u he ry
  refine SeqAt.in_tuple_reads r2 r1 (shaped_tup se) (SeqAt.canLay_of_shaped sd) (room_tup sd hu) ⟨.bl (ds.any fun z => PyData.eqv z d), H, I, rfl, ?_⟩
  rw [Bool.bne_false] at q
  exact q
theorem op_notInT {X : Cx} (hu : X.A.units + 65 < cLine) : OpR X (compareOp .NotIn) (rInT X.K true) := by
  intro pins s σ H x y v u Q I rx ry h
  obtain ⟨d, ds, hd, he, sd, se, q⟩ := h
  obtain ⟨as, r1⟩ := Dp.reads I d x v hd rx
  obtain ⟨bs, r2⟩ := Dp.reads I (.tuple ds) y u he ry
  refine SeqAt.notIn_tuple_reads r2 r1 (shaped_tup se) (SeqAt.canLay_of_shaped sd) (room_tup sd hu) ⟨.bl (!(ds.any fun z => PyData.eqv z d)), H, I, rfl, ?_⟩
  rw [Bool.bne_true] at q
  exact q
def rInAll (P : Program) (w : World) (K : PySem.W.Frag) : R2 := fun x y H Q => (∃ i j, x = .str i ∧ y = .str j ∧ Q (.bl (!(Builtin.Str.occurrences j i 0 j.length 1).isEmpty)) H) ∨ (∃ a o, y = .ref a ∧ DGetY P w K H a x o ∧ Q (.bl o.isSome) H) ∨ rInD K x y H Q ∨ rInT K false x y H Q
def rNotInAll (P : Program) (w : World) (K : PySem.W.Frag) : R2 := fun x y H Q => (∃ i j, x = .str i ∧ y = .str j ∧ Q (.bl (!(!(Builtin.Str.occurrences j i 0 j.length 1).isEmpty))) H) ∨ (∃ a o, y = .ref a ∧ DGetY P w K H a x o ∧ Q (.bl (!o.isSome)) H) ∨ rNotInD K x y H Q ∨ rInT K true x y H Q
theorem op_inA {X : Cx} (hu : X.A.units + 65 < cLine) : OpR X (compareOp .In) (rInAll X.prog X.w X.K) := OpR.or op_in_str (OpR.or (op_in_dictY (by omega)) (OpR.or (op_inD hu) (op_inT hu)))
theorem op_notInA {X : Cx} (hu : X.A.units + 65 < cLine) : OpR X (compareOp .NotIn) (rNotInAll X.prog X.w X.K) := OpR.or op_notin_str (OpR.or (op_notIn_dictY (by omega)) (OpR.or (op_notInD hu) (op_notInT hu)))
theorem inC_in {P : Program} {w' : World} {K : PySem.W.Frag} {H : Hp} {v w : V} {b : Bool} {Q : VK} (h : InC P w' K H v w b) (q : Q (.bl (b != false)) H) : rInAll P w' K v w H Q := by
  rw [Bool.bne_false] at q
  rcases h with ⟨i, j, rfl, rfl, e⟩ | ⟨a, o, rfl, g, e⟩ | ⟨d, ds, h1, h2, h3, h4, e⟩ | ⟨d, ds, h1, h2, h3, h4, e⟩
  · exact .inl ⟨i, j, rfl, rfl, by rw [e]; exact q⟩
  · exact .inr (.inl ⟨a, o, rfl, g, by rw [e]; exact q⟩)
  · exact .inr (.inr (.inl ⟨d, ds, h1, h2, h3, h4, by rw [e]; exact q⟩))
  · exact .inr (.inr (.inr ⟨d, ds, h1, h2, h3, h4, by rw [e, Bool.bne_false]; exact q⟩))
theorem inC_notIn {P : Program} {w' : World} {K : PySem.W.Frag} {H : Hp} {v w : V} {b : Bool} {Q : VK} (h : InC P w' K H v w b) (q : Q (.bl (b != true)) H) : rNotInAll P w' K v w H Q := by
  rw [Bool.bne_true] at q
  rcases h with ⟨i, j, rfl, rfl, e⟩ | ⟨a, o, rfl, g, e⟩ | ⟨d, ds, h1, h2, h3, h4, e⟩ | ⟨d, ds, h1, h2, h3, h4, e⟩
  · exact .inl ⟨i, j, rfl, rfl, by rw [e]; exact q⟩
  · exact .inr (.inl ⟨a, o, rfl, g, by rw [e]; exact q⟩)
  · exact .inr (.inr (.inl ⟨d, ds, h1, h2, h3, h4, by rw [e]; exact q⟩))
  · exact .inr (.inr (.inr ⟨d, ds, h1, h2, h3, h4, by rw [e, Bool.bne_true]; exact q⟩))
theorem op2_in {C : Ct} : Op2 C pIn (rInAll C.P C.w C.K) := by
  intro B r H h x y v w c Q wd rx ry e q
  obtain ⟨b, hb, hc⟩ := Option.map_eq_some_iff.mp e
  subst hc
  exact inC_in (inB_ok rx ry hb) (by rw [Bool.bne_false]; exact q B H _ wd.toOwn.gr (.bl _))
theorem op2_notIn {C : Ct} : Op2 C pNotIn (rNotInAll C.P C.w C.K) := by
  intro B r H h x y v w c Q wd rx ry e q
  obtain ⟨b, hb, hc⟩ := Option.map_eq_some_iff.mp e
  subst hc
  exact inC_notIn (inB_ok rx ry hb) (by rw [Bool.bne_true]; exact q B H _ wd.toOwn.gr (.bl _))
section
variable {X : Cx} {W : Wj} {pos : Pos} {a b : Expr} {f g : M U}
theorem t_in {C : Ct} {σ : L2.St} {H : Hp} {Q : VK} {neg : Bool} {rr : R2} (hr : ∀ {H : Hp} {v w : V} {b : Bool} {Q : VK}, InC C.P C.w C.K H v w b → Q (.bl (b != neg)) H → rr v w H Q) (t : tI C W (inE neg f g) σ H Q) : tOp rr (tI C W f) (tI C W g) σ H Q := by
  refine tG.bnd t fun x B1 r1 H1 h1 δ v w1 s1 rx q1 => ?_
  refine ⟨B1, r1, h1, δ, w1, s1, q1.bnd w1 s1 fun y B2 r2 H2 h2 w' e2 w2 s2 ry q2 => ?_⟩
  try dsimp only at q2
  split at q2
  · rename_i b hb
    exact hr (inU_ok w2 (rx.ext e2 w1.toOwn) ry hb) (EQ.ret w2 q2 (.d (.bl _)))
  · exact q2.elim
theorem re_in (hu : X.A.units + 65 < cLine) (ha : RE X W a f) (hb : RE X W b g) (hm : behindInMarks .In b = false := by first | exact nomark _ | rfl | with_unfolding_all rfl) : RE X W (.Compare a [.In] [b] pos) (inE false f g) :=
  pe_imp (pe_cmpR (op_inA hu) ha hb hm) fun _ _ _ t => t_in inC_in t
theorem re_notIn (hu : X.A.units + 65 < cLine) (ha : RE X W a f) (hb : RE X W b g) (hm : behindInMarks .NotIn b = false := by first | exact nomark _ | rfl | with_unfolding_all rfl) : RE X W (.Compare a [.NotIn] [b] pos) (inE true f g) :=
  pe_imp (pe_cmpR (op_notInA hu) ha hb hm) fun _ _ _ t => t_in inC_notIn t
theorem rt_in (hu : X.A.units + 65 < cLine) (ha : RE X W a f) (hb : RE X W b g) (hm : behindInMarks .In b = false := by first | exact nomark _ | rfl | with_unfolding_all rfl) : RT X W (.Compare a [.In] [b] pos) (tst (inE false f g)) :=
  pt_imp (pt_cmpR (op_inA hu) ha hb hm) fun _ _ _ t => by
    obtain ⟨B, r, h, δ, w, s, q⟩ := t_tst t
    exact t_in inC_in ⟨B, r, h, δ, w, s, q⟩
theorem rt_notIn (hu : X.A.units + 65 < cLine) (ha : RE X W a f) (hb : RE X W b g) (hm : behindInMarks .NotIn b = false := by first | exact nomark _ | rfl | with_unfolding_all rfl) : RT X W (.Compare a [.NotIn] [b] pos) (tst (inE true f g)) :=
  pt_imp (pt_cmpR (op_notInA hu) ha hb hm) fun _ _ _ t => by
    obtain ⟨B, r, h, δ, w, s, q⟩ := t_tst t
    exact t_in inC_notIn ⟨B, r, h, δ, w, s, q⟩
end
def MtC (C : Ct) (T : String) (p : D → List D → Option D) (rr : V → List V → Hp → VK → Prop) : Prop := ∀ {B : Bd} {r : Rho} {H : Hp} {h : Hea} {x : D} {v : V} {ds : List D} {vs : List V} {c : D} {Q : VK}, Wd C B r H h → RV C.toCt0 B H x v → RVs C.toCt0 B H ds vs → p x ds = some c →
  (∀ B' H' u, Gr B H B' H' → RD C.toCt0 B' H' c u → Q u H') → rr v vs H Q
/-- what kind the receiver must be of -/
def isT (T : String) : D → Bool
  | .str _ => T == "str"
  | .lst _ => T == "list"
  | .scr _ => T == "list"
  | _ => false
theorem isT_ok {C : Ct} {B : Bd} {H : Hp} {T : String} {x : D} {v : V} (rx : RV C.toCt0 B H x v) (h : isT T x = true) : tyV C.K T v H := by
  unfold isT at h
  split at h
  · rw [rx.strI]
    exact eq_of_beq h
  · obtain ⟨a, vs, rfl, h1, _⟩ := rx.lstI
    exact .inl ⟨eq_of_beq h, vs, SqL.of h1⟩
  · obtain ⟨a, rfl, h1⟩ := rx.scrI
    exact .inl ⟨eq_of_beq h, _, h1⟩
  · cases h
def bmE (T : String) (p : D → List D → Option D) (f : M U) (g : M (List U)) : M U := mbnd f fun x δ h => match view h x with
  | some d => if isT T d = true then mbnd g (fun us _ h => match view h x, viewS h us with
    | some d, some ds => (match p d ds with
      | some c => some (.ok (.d c) h)
      | none => none)
    | _, _ => none) δ h else none
  | none => none
def bm0E (T : String) (p : D → List D → Option D) (f : M U) : M U := mbnd f fun x _ h => match view h x with
  | some d => if isT T d = true then (match p d [] with
      | some c => some (.ok (.d c) h)
      | none => none) else none
  | none => none
section
variable {X : Cx} {W : Wj} {apos cpos : Pos} {o e : Expr} {es : List Expr} {f : M U} {g : M (List U)} {pp : D → List D → Option D} {rr : V → List V → Hp → VK → Prop} {T id : String} {name : Str}
theorem re_bm (pa : PlainAttrs T) (slot : Slot T name id) (hty : typeOf (.builtin id) = pure (.type "method_descriptor")) (hm : MtR X id rr) (hr : MtC (ctX X W) T pp rr) (ho : RE X W o f) (ha : RA X W (e :: es) g)
    (hbase : attributeBase o name X.env (eval o X.env) = eval o X.env := by rfl)
    (hfew : ((backTo cpos (starEach (e :: es) X.env)).all (fun x => !x.1) && (backToKw cpos (keywordEach [] X.env)).all (fun x => x.1.isSome)
      && decide ((e :: es).length + ([] : List Keyword).length + (if ([] : List Keyword).isEmpty then 0 else 1) < 30)) = true := by rfl)
    (hline : (apos.endLine == cpos.line) = true := by rfl) (hs : starEach (e :: es) X.env = (false, eval e X.env) :: starEach es X.env := by rfl) (hplain : (backTo cpos (starEach es X.env)).any (·.1) = false := by rfl) :
    RE X W (.Call (.Attribute o name apos) (e :: es) [] cpos) (bmE T pp f g) :=
  pe_imp (pe_bm pa slot hty hm ho ha hbase hfew hline hs hplain) fun σ H Q t => tG.bnd t fun x B r H1 h δ v w s rx q => by
    try dsimp only at q
    split at q
    · rename_i d hv
      split at q
      · rename_i ht
        refine ⟨isT_ok (w.view rx hv) ht, B, r, h, δ, w, s, q.bnd w s fun us B2 r2 H2 h2 vs e2 w2 s2 rus q2 => ?_⟩
        try dsimp only at q2
        split at q2
        · rename_i d2 ds hv2 hvs
          split at q2
          · rename_i c hp
            exact hr w2 (w2.view (rx.ext e2 w.toOwn) hv2) (w2.viewS rus hvs) hp fun B' H' u gr rd => EQ.gr w2 q2 gr (.d rd)
          · exact q2.elim
        · exact q2.elim
      · exact q.elim
    · exact q.elim
theorem re_bm0 (pa : PlainAttrs T) (slot : Slot T name id) (hty : typeOf (.builtin id) = pure (.type "method_descriptor")) (hm : MtR X id rr) (hr : MtC (ctX X W) T pp rr) (ho : RE X W o f)
    (hbase : attributeBase o name X.env (eval o X.env) = eval o X.env := by rfl) (hline : (apos.endLine == cpos.line) = true := by rfl) : RE X W (.Call (.Attribute o name apos) [] [] cpos) (bm0E T pp f) :=
  pe_imp (pe_bm0 pa slot hty hm ho hbase hline) fun σ H Q t => tG.bnd t fun x B r H1 h δ v w s rx q => by
    try dsimp only at q
    split at q
    · rename_i d hv
      split at q
      · rename_i ht
        split at q
        · rename_i c hp
          exact ⟨isT_ok (w.view rx hv) ht, hr w (w.view rx hv) .nil hp fun B' H' u gr rd => EQ.gr w q gr (.d rd)⟩
        · exact q.elim
      · exact q.elim
    · exact q.elim
end
def len2 (a : Str) : Bool := decide (a.length + 2 ≤ 16777216)
def pSplit : D → List D → Option D
  | .str a, [.str b] => if (!(b.length == 0) && len2 a) = true then some (.lst ((Txt.split a b).map .str)) else none
  | _, _ => none
theorem mt_splitC {C : Ct} : MtC C "str" pSplit (fun x xs H Q => ∃ a b, x = .str a ∧ xs = [.str b] ∧ (b.length == 0) = false ∧ a.length + 2 ≤ sizeLine ∧ rNewStrs (Txt.split a b) H Q) := by
  intro B r H h x v ds vs c Q w rx rv e q
  unfold pSplit at e
  split at e
  · split at e
    · rename_i a b hz
      cases e
      rw [Bool.and_eq_true] at hz
      obtain ⟨u, rfl, r1⟩ := rv.one
      refine ⟨_, _, rx.strI, by rw [r1.strI], by simpa using hz.1, by rw [sizeLine_eq]; exact of_decide_eq_true hz.2, fun p hp => ?_⟩
      have g := w.toOwn.new hp (.lst ((Txt.split a b).map V.str))
      exact q _ _ _ g (.lst ⟨w.toOwn.nb hp, upd_same⟩ RDs.strs)
    · cases e
  · cases e
def pJoin : D → List D → Option D
  | .str a, [.tup ds] => match strsD ds with
    | some ys => if szOk ((ys.map (·.length)).sum + ys.length * a.length) = true then some (.str (Txt.join a ys)) else none
    | none => none
  | .str a, [x] => match lsI x with
    | some ds => (match strsD ds with
      | some ys => if szOk ((ys.map (·.length)).sum + ys.length * a.length) = true then some (.str (Txt.join a ys)) else none
      | none => none)
    | none => none
  | _, _ => none
theorem mt_joinC {C : Ct} : MtC C "str" pJoin (fun x xs H Q => ∃ a p, ∃ ys : List Str, x = .str a ∧ xs = [.ref p] ∧ (SqL C.K H p (ys.map V.str) ∨ SqT C.K H p (ys.map V.str)) ∧ (ys.map (·.length)).sum + ys.length * a.length ≤ 16777216 ∧ Q (.str (Txt.join a ys)) H) := by
  intro B r H h x v ds vs c Q w rx rv e q
  unfold pJoin at e
  split at e
  · split at e
    · rename_i ys hy
      split at e
      · rename_i hz
        cases e
        obtain ⟨u, rfl, r1⟩ := rv.one
        obtain ⟨a, vs, rfl, h1, h2, _⟩ := r1.tupI
        rw [h2.strsI hy] at h1
        exact ⟨_, a, ys, rx.strI, rfl, .inr h1, of_decide_eq_true hz, q _ _ _ w.toOwn.gr (.str _)⟩
      · cases e
    · cases e
  · split at e
    · rename_i ds hd
      split at e
      · rename_i ys hy
        split at e
        · rename_i hz
          cases e
          obtain ⟨u, rfl, r1⟩ := rv.one
          obtain ⟨a, vs, rfl, h1, h2⟩ := r1.items hd
          rw [h2.strsI hy] at h1
          exact ⟨_, a, ys, rx.strI, rfl, .inl h1, of_decide_eq_true hz, q _ _ _ w.toOwn.gr (.str _)⟩
        · cases e
      · cases e
    · cases e
  · cases e
inductive Tg where
  | bt (s : String) | own (c : Str)
def tgD : D → Option Tg
  | .non => some (.bt "NoneType")
  | .bl _ => some (.bt "bool")
  | .int _ => some (.bt "int")
  | .str _ => some (.bt "str")
  | .tup _ => some (.bt "tuple")
  | .lst _ => some (.bt "list")
  | .scr _ => some (.bt "list")
  | .dct _ => some (.bt "dict")
  | .ins c _ => some (.own c)
  | .raw _ => none
  | .ndct _ => some (.bt "dict")
  | .fn _ => none
def tgU (h : Hea) : U → Option Tg
  | .d x => tgD x
  | .tup _ => some (.bt "tuple")
  | .loc n => match h[n]? with
    | some (.lst _) => some (.bt "list")
    | some (.dct _) => some (.bt "dict")
    | some (.ndct _) => some (.bt "dict")
    | some (.ins c _) => some (.own c)
    | _ => none
/-- what isinstance needs of own classes: their instances' type, by name -/
structure InsF (K : PySem.W.Frag) (C : Addr) : Prop where
  cl : Cls K C
  ha : PySem.W.findIn K (.ref C) "__class__" = some (some (.builtin "object.__class__"))
  hn : PySem.W.specialIn K (.builtin "object.__class__") "__get__" = some (some (.builtin "getset_descriptor.__get__"))
  htk : PySem.W.takesIn K (.builtin "object.__class__") = some true
  hm : PySem.W.mroIn K C (.type "object") = some true
def TgOk (mg : Str → Option Value) (t : Tg) (v : Value) : Prop := match t with
  | .bt s => v = .type s
  | .own c => ∃ Cd, mg c = some (.ref Cd) ∧ v = .ref Cd
def OwnsOk (K : PySem.W.Frag) (mg : Str → Option Value) (cs : List Str) : Prop := ∀ c ∈ cs, ∀ Cd, mg c = some (.ref Cd) → InsF K Cd
def tgIn (cs : List Str) : Tg → Bool
  | .bt _ => true
  | .own c => cs.contains c
theorem tup_ty {K : PySem.W.Frag} {H : Hp} {a : Addr} {vs : List V} (h : SqT K H a vs) : TyX K H (.ref a) (.type "tuple") := by
  rcases h with h | h
  · rcases h with h | ⟨o, h⟩
    · exact .base (.tup h)
    · exact .fTuple h
  · obtain ⟨o, its, n, h1, h2, _⟩ := h
    exact .kTuple h1 h2
theorem lst_ty {K : PySem.W.Frag} {H : Hp} {a : Addr} {vs : List V} (h : SqL K H a vs) : TyX K H (.ref a) (.type "list") := by
  rcases h with h | h
  · rcases h with h | ⟨o, h⟩
    · exact .base (.lst h)
    · exact .base (.frz h)
  · obtain ⟨o, its, n, h1, h2, _⟩ := h
    exact .kList h1 h2
theorem dct_ty {K : PySem.W.Frag} {H : Hp} {a : Addr} {vs : List (Key × V)} (h : Rd H a (.dK vs)) : TyX K H (.ref a) (.type "dict") := by
  rcases h with h | ⟨o, h⟩
  · exact .base (.dK h)
  · exact .fDict h
/-- .. a dictionary with tuples as keys, too -/
def TyY (K : PySem.W.Frag) (P : Program) (w : World) (H : Hp) (x : V) (t : Value) : Prop := TyX K H x t ∨ t = .type "dict" ∧ ∃ a xs, x = .ref a ∧ Rd H a (dN P w a xs)
theorem tgD_ok {C : Ct0} {B : Bd} {H : Hp} {cs : List Str} (ho : OwnsOk C.K C.mg cs) {x : D} {v : V} {t : Tg} (rx : RD C B H x v) (e : tgD x = some t) (hi : tgIn cs t = true) : ∃ y, TyY C.K C.P C.w H v y ∧ TgOk C.mg t y := by
  cases rx with
  | non => cases e; exact ⟨_, .inl (.base .non), rfl⟩
  | bl b => cases e; exact ⟨_, .inl (.base (.bl b)), rfl⟩
  | int b => cases e; exact ⟨_, .inl (.base (.int b)), rfl⟩
  | str b => cases e; exact ⟨_, .inl (.base (.str b)), rfl⟩
  | tup hs q => cases e; exact ⟨_, .inl (tup_ty hs), rfl⟩
  | lst hs q => cases e; exact ⟨_, .inl (lst_ty hs.seq), rfl⟩
  | dct nb hs q => cases e; exact ⟨_, .inl (dct_ty (.inr ⟨_, hs⟩)), rfl⟩
  | ins m nb hs q =>
    cases e
    have z := ho _ (by simpa [tgIn] using hi) _ m
    exact ⟨_, .inl (.base (.ins hs z.cl z.ha z.hn z.htk z.hm)), _, m, rfl⟩
  | raw v => cases e
  | scr hs => cases e; exact ⟨_, .inl (lst_ty hs.seq), rfl⟩
  | ndct nb hs q => cases e; exact ⟨_, .inr ⟨rfl, _, _, rfl, .inr ⟨_, hs⟩⟩, rfl⟩
  | fn h => cases e
theorem tgU_ok {C : Ct} {B : Bd} {r : Rho} {H : Hp} {h : Hea} {cs : List Str} (ho : OwnsOk C.K C.mg cs) (w : Wd C B r H h) {u : U} {v : V} {t : Tg} (ru : RU C B r H u v) (e : tgU h u = some t) (hi : tgIn cs t = true) : ∃ y, TyY C.K C.P C.w H v y ∧ TgOk C.mg t y := by
  cases ru with
  | d rd => exact tgD_ok ho rd e hi
  | tup hs q => cases e; exact ⟨_, .inl (tup_ty hs), rfl⟩
  | gone hn =>
    unfold tgU at e
    simp only [w.gon _ hn] at e
    cases e
  | loc hn =>
    obtain ⟨o, h1, ro⟩ := w.obj _ _ hn
    unfold tgU at e
    simp only [h1] at e
    cases o with
    | lst us =>
      cases e
      obtain ⟨vs, h2, _⟩ := ro
      exact ⟨_, .inl (.base (.lst h2)), rfl⟩
    | dct us =>
      cases e
      obtain ⟨vs, h2, _⟩ := ro
      exact ⟨_, .inl (.base (.dK h2)), rfl⟩
    | ins c us =>
      cases e
      obtain ⟨Cd, dx, vs, m, h2, _⟩ := ro
      have z := ho _ (by simpa [tgIn] using hi) _ m
      exact ⟨_, .inl (.base (.ins h2 z.cl z.ha z.hn z.htk z.hm)), _, m, rfl⟩
    | gone => cases e
    | ndct us =>
      cases e
      obtain ⟨vs, h2, _⟩ := ro
      exact ⟨_, .inr ⟨rfl, _, _, rfl, .inl h2⟩, rfl⟩
    | deq us => cases e
/-- what is answered, by the tags -/
def isiE (cs : List Str) (an : Tg → Option Bool) (f : M U) : M U := mbnd f fun u _ h => match tgU h u with
  | some t => if tgIn cs t = true then (match an t with
    | some b => some (.ok (.d (.bl b)) h)
    | none => none) else none
  | none => none
/-- the class c (a value of the text) answers an -/
def IsiC (K : PySem.W.Frag) (mg : Str → Option Value) (c : Value) (an : Tg → Option Bool) : Prop := ∀ t b v, an t = some b → TgOk mg t v → PySem.W.kitOne K v c = some b
def anB (T : String) (cs : List (Str × Bool)) : Tg → Option Bool
  | .bt s => kitB s T
  | .own c => cs.lookup c
theorem isiC_bt {K : PySem.W.Frag} {mg : Str → Option Value} {T : String} {cs : List (Str × Bool)} (h : ∀ c b, cs.lookup c = some b → ∀ Cd, mg c = some (.ref Cd) → PySem.W.kitOne K (.ref Cd) (.type T) = some b) : IsiC K mg (.type T) (anB T cs) := by
  intro t b v e ok
  cases t with
  | bt s =>
    cases ok
    exact kit_ty e
  | own c =>
    obtain ⟨Cd, m, rfl⟩ := ok
    exact h c b e Cd m
theorem dN_is {P : Program} {w : World} {H : Hp} {h : Heap} {a : Addr} {xs : List NK} (ok : HOk P w H h) (e : Rd H a (dN P w a xs)) : dNφ P w a xs h := (show ObjOk P w H h a (dN P w a xs) from e.ok ok).1
theorem kit_ofY {X : Cx} {pins : List (Addr × Obj)} {σ : L2.St} {H : Hp} {s : Shared} {x : V} {u t : Value} (I : Inv X pins σ H s) (rx : RelV x u) (ty : TyY X.K X.prog X.w H x t) : ∃ P : Heap → Prop, PySem.W.KitX X.K u t P ∧ P s.heap ∧ u ≠ .builtin "__main__.__loader__#opaque" := by
  rcases ty with ty | ⟨rfl, a, xs, rfl, hr⟩
  · exact kit_of I rx ty
  · cases (show u = Value.ref a from rx)
    obtain ⟨_, _, _, _, ⟨o, es, ep, h1, h2, _⟩, _⟩ := dN_is I.hok hr
    exact ⟨_, PySem.W.kitx_dict, ⟨o, h1, h2.1⟩, fun z => nomatch z⟩
def rIsiY (K : PySem.W.Frag) (P : Program) (w : World) : List V → Hp → VK → Prop := fun xs H Q => ∃ x c t u b, xs = [x, c] ∧ ClsV c u ∧ TyY K P w H x t ∧ PySem.W.kitOne K t u = some b ∧ Q (.bl b) H
theorem call_isiY {X : Cx} : CallR X (.builtin "isinstance") (rIsiY X.K X.prog X.w) := by
  intro pins s σ H xs us Q I r h
  obtain ⟨x, c, t, u, b, rfl, k, ty, e, q⟩ := h
  obtain ⟨u1, u2, rfl, r1, r2⟩ := vals2 r
  have e2 := k.eq r2
  subst e2
  obtain ⟨P, Z, p, hx⟩ := kit_ofY I r1 ty
  exact PySem.W.kia_one Z I.kIn p e hx fun tk => ⟨.bl b, H, I.tok tk, rfl, q⟩
def rIsiYT (K : PySem.W.Frag) (P : Program) (w : World) : List V → Hp → VK → Prop := fun xs H Q => ∃ x tp cs t us b, xs = [x, .ref tp] ∧ H tp = some (.tup cs) ∧ Paired ClsV cs us ∧ TyY K P w H x t ∧ PySem.W.kitAny K t us = some b ∧ Q (.bl b) H
theorem call_isiYT {X : Cx} : CallR X (.builtin "isinstance") (rIsiYT X.K X.prog X.w) := by
  intro pins s σ H xs us Q I r h
  obtain ⟨x, tp, cs, t, ws, b, rfl, hT, k, ty, e, q⟩ := h
  obtain ⟨u1, u2, rfl, r1, r2⟩ := vals2 r
  have e4 : u2 = Value.ref tp := r2
  subst e4
  obtain ⟨P, Z, p, hx⟩ := kit_ofY I r1 ty
  obtain ⟨_, its, rv, o, h1, h2, n, h3⟩ := (show ObjOk X.prog X.w H s.heap tp (.tup cs) from I.hok tp _ hT)
  have e3 := ClsV.all k rv
  subst e3
  cases o
  simp only at h2 h3
  subst h2 h3
  exact PySem.W.kia_tup Z I.kIn p h1 e hx fun tk => ⟨.bl b, H, I.tok tk, rfl, q⟩
section
variable {X : Cx} {W : Wj} {pos p p2 : Pos} {e : Expr} {f : M U} {cs : List Str} {an : Tg → Option Bool} {x : Str}
theorem t_isi {C : Ct} {σ : L2.St} {H : Hp} {Q : VK} {cv : V} {c : Value} (hk : ClsV cv c) (ho : OwnsOk C.K C.mg cs) (hi : IsiC C.K C.mg c an) (t : tI C W (isiE cs an f) σ H Q) : tCB (rIsiY C.K C.P C.w) (tCons (tI C W f) (tCons (tC cv) tNil)) σ H Q := by
  refine tG.bnd t fun u B r H1 h δ v w s ru q => ?_
  try dsimp only at q
  split at q
  · rename_i tg htg
    split at q
    · rename_i hin
      split at q
      · rename_i b hb
        obtain ⟨y, h1, h2⟩ := tgU_ok ho w ru htg hin
        exact ⟨v, cv, y, c, b, rfl, hk, h1, hi _ _ _ hb h2, EQ.ret w q (.d (.bl b))⟩
      · exact q.elim
    · exact q.elim
  · exact q.elim
theorem re_isiB {T : String} (tb : List (Str × Bool)) (ho : OwnsOk X.K X.mg cs) (hi : IsiC X.K X.mg (.type T) (anB T tb)) (hm : X.mg "isinstance" = none) (hmT : X.mg x = none) (hvT : bootBuiltins x = some (.type T)) (he : RE X W e f) (hg : Gl X "isinstance" := by rfl) (hgT : Gl X x := by rfl)
    (hn : x ≠ "__name__" := by decide) (hd : (x == ("__debug__" : Str)) = false := by decide) (hs : starEach [e, .Name x p2] X.env = (false, eval e X.env) :: starEach [.Name x p2] X.env := by rfl)
    (hs2 : starEach [.Name x p2] X.env = (false, eval (.Name x p2) X.env) :: starEach [] X.env := by rfl) (hpl : (backTo pos (starEach [.Name x p2] X.env)).any (·.1) = false := by rfl) :
    RE X W (.Call (.Name "isinstance" p) [e, .Name x p2] [] pos) (isiE cs (anB T tb) f) :=
  pe_imp (pe_callB call_isiY hg hm rfl (pa_cons he (pa_cons (pe_bltn (v := .ty T) hgT hmT hvT rfl hn hd) pa_nil hs2) hs) (he := hs) (hpl := hpl)) fun _ _ _ t => t_isi (.ty T) ho hi t
/-- .. a tuple of classes -/
def PCs (X : Cx) (es : List Expr) (cs : List V) (us : List Value) : Prop := PA X es (fun _ H Q => Q cs H) ∧ Paired ClsV cs us
theorem pcs_nil : PCs X [] [] [] := ⟨pa_imp pa_nil fun _ _ _ q => q, .nil⟩
theorem pcs_bt {T : String} {es : List Expr} {cv : List V} {us : List Value} (hm : X.mg x = none) (hv : bootBuiltins x = some (.type T)) (h : PCs X es cv us) (hg : Gl X x := by rfl) (hn : x ≠ "__name__" := by decide) (hd : (x == ("__debug__" : Str)) = false := by decide)
    (hs : starEach (.Name x p2 :: es) X.env = (false, eval (.Name x p2) X.env) :: starEach es X.env := by rfl) : PCs X (.Name x p2 :: es) (.ty T :: cv) (.type T :: us) :=
  ⟨pa_imp (pa_cons (pe_bltn (v := .ty T) hg hm hv rfl hn hd) h.1 hs) fun _ _ _ q => q, .cons (.ty T) h.2⟩
theorem pcs_own {Cd : Addr} {es : List Expr} {cv : List V} {us : List Value} (hm : X.mg x = some (.ref Cd)) (h : PCs X es cv us) (hg : Gl X x := by rfl) (hd : (x == ("__debug__" : Str)) = false := by decide)
    (hs : starEach (.Name x p2 :: es) X.env = (false, eval (.Name x p2) X.env) :: starEach es X.env := by rfl) : PCs X (.Name x p2 :: es) (.ref Cd :: cv) (.ref Cd :: us) :=
  ⟨pa_imp (pa_cons (pe_glob (v := .ref Cd) hg hm rfl hd) h.1 hs) fun _ _ _ q => q, .cons (.own Cd) h.2⟩
def IsiT (K : PySem.W.Frag) (mg : Str → Option Value) (us : List Value) (an : Tg → Option Bool) : Prop := ∀ t b v, an t = some b → TgOk mg t v → PySem.W.kitAny K v us = some b
theorem t_isiT {C : Ct} {σ : L2.St} {H : Hp} {Q : VK} {cv : List V} {us : List Value} (hl : cv.length ≤ 8) (hk : Paired ClsV cv us) (ho : OwnsOk C.K C.mg cs) (hi : IsiT C.K C.mg us an) (t : tI C W (isiE cs an f) σ H Q) : tCB (rIsiYT C.K C.P C.w) (tCons (tI C W f) (tCons (tTup (fun _ H Q => Q cv H)) tNil)) σ H Q := by
  refine tG.bnd t fun u B r H1 h δ v w s ru q => ?_
  try dsimp only at q
  split at q
  · rename_i tg htg
    split at q
    · rename_i hin
      split at q
      · rename_i b hb
        obtain ⟨y, h1, h2⟩ := tgU_ok ho w ru htg hin
        refine ⟨by rw [sizeLine_eq]; omega, fun p hp => ?_⟩
        have gr := w.toOwn.new hp (.tup cv)
        have ty : TyY C.K C.P C.w (upd H1 p (.tup cv)) v y := by
          obtain ⟨y2, h3, h4⟩ := tgU_ok ho (gr.wd w) (ru.ext (gr.ext (r := r)) w.toOwn) htg hin
          have e : y2 = y := by
            cases tg with
            | bt s =>
              have e1 : y2 = .type s := h4
              have e2 : y = .type s := h2
              rw [e1, e2]
            | own c =>
              obtain ⟨C1, m1, e1⟩ := h4
              obtain ⟨C2, m2, e2⟩ := h2
              rw [m1] at m2
              cases m2
              rw [e1, e2]
          rw [← e]
          exact h3
        exact ⟨v, p, cv, y, us, b, rfl, upd_same, hk, ty, hi _ _ _ hb h2, EQ.gr w q gr (.d (.bl b))⟩
      · exact q.elim
    · exact q.elim
  · exact q.elim
theorem re_isiT {es : List Expr} {kk : Nat} {tpos : Pos} {cv : List V} {us : List Value} (hc : PCs X es cv us) (hl : cv.length ≤ 8) (ho : OwnsOk X.K X.mg cs) (hi : IsiT X.K X.mg us an) (hm : X.mg "isinstance" = none) (he : RE X W e f) (hg : Gl X "isinstance" := by rfl)
    (hs : starEach [e, .Tuple es kk tpos] X.env = (false, eval e X.env) :: starEach [.Tuple es kk tpos] X.env := by rfl)
    (hs2 : starEach [.Tuple es kk tpos] X.env = (false, eval (.Tuple es kk tpos) X.env) :: starEach [] X.env := by rfl) (hpl : (backTo pos (starEach [.Tuple es kk tpos] X.env)).any (·.1) = false := by rfl) :
    RE X W (.Call (.Name "isinstance" p) [e, .Tuple es kk tpos] [] pos) (isiE cs an f) :=
  pe_imp (pe_callB call_isiYT hg hm rfl (pa_cons he (pa_cons (pe_tup hc.1) pa_nil hs2) hs) (he := hs) (hpl := hpl)) fun _ _ _ t => t_isiT hl hc.2 ho hi t
/-- the classes in a row, by one after another -/
def anOr (a b : Tg → Option Bool) : Tg → Option Bool := fun t => match a t with
  | some true => some true
  | some false => b t
  | none => none
def anNo : Tg → Option Bool := fun _ => some false
theorem isiT_nil {K : PySem.W.Frag} {mg : Str → Option Value} : IsiT K mg [] anNo := fun t b v e _ => by
  cases e
  exact kitAny_nil
theorem isiT_cons {K : PySem.W.Frag} {mg : Str → Option Value} {c : Value} {us : List Value} {a b : Tg → Option Bool} (h : IsiC K mg c a) (hr : IsiT K mg us b) : IsiT K mg (c :: us) (anOr a b) := fun t r v e ok => by
  unfold anOr at e
  cases ha : a t with
  | none => rw [ha] at e; cases e
  | some x =>
    rw [ha] at e
    cases x with
    | true =>
      cases e
      exact kitAny_cons (h t true v ha ok) (fun z => nomatch z) fun _ => rfl
    | false => exact kitAny_cons (h t false v ha ok) (fun _ => hr t r v e ok) fun z => nomatch z
/-- .. an own class of the module -/
theorem re_isiO {Cd : Addr} (ho : OwnsOk X.K X.mg cs) (hm : X.mg "isinstance" = none) (hmC : X.mg x = some (.ref Cd)) (hi : IsiC X.K X.mg (.ref Cd) an) (he : RE X W e f) (hg : Gl X "isinstance" := by rfl) (hgT : Gl X x := by rfl)
    (hd : (x == ("__debug__" : Str)) = false := by decide) (hs : starEach [e, .Name x p2] X.env = (false, eval e X.env) :: starEach [.Name x p2] X.env := by rfl)
    (hs2 : starEach [.Name x p2] X.env = (false, eval (.Name x p2) X.env) :: starEach [] X.env := by rfl) (hpl : (backTo pos (starEach [.Name x p2] X.env)).any (·.1) = false := by rfl) :
    RE X W (.Call (.Name "isinstance" p) [e, .Name x p2] [] pos) (isiE cs an f) :=
  pe_imp (pe_callB call_isiY hg hm rfl (pa_cons he (pa_cons (pe_glob (v := .ref Cd) hgT hmC rfl hd) pa_nil hs2) hs) (he := hs) (hpl := hpl)) fun _ _ _ t => t_isi (.own Cd) ho hi t
end
/-- the list's items, by what f gives from them and the arguments -/
def lmE (p : List U → List U → Option (U × List U)) (f : M U) (g : M (List U)) : M U := mbnd f fun x δ h => match x with
  | .loc n => (match h[n]? with
    | some (.lst _) => mbnd g (fun us _ h => match h[n]? with
      | some (.lst xs) => (match p xs us with
        | some (u, ys) => some (.ok u (h.set n (.lst ys)))
        | none => none)
      | _ => none) δ h
    | _ => none)
  | _ => none
def LmC (C : Ct) (p : List U → List U → Option (U × List U)) (rr : V → List V → Hp → VK → Prop) : Prop := ∀ {B : Bd} {r : Rho} {H : Hp} {xs us ys : List U} {u : U} {vs ws : List V} {a : Addr} {Q : VK}, p xs us = some (u, ys) → H a = some (.lst vs) → RUs C B r H xs vs → RUs C B r H us ws →
  (∀ ys' v, RUs C B r H ys ys' → RU C B r H u v → Q v (upd H a (.lst ys'))) → rr (.ref a) ws H Q
theorem lm_end {C : Ct} {W : Wj} {σ : L2.St} {B : Bd} {r : Rho} {H : Hp} {h : Hea} {p : List U → List U → Option (U × List U)} {rr : V → List V → Hp → VK → Prop} {us xs ys : List U} {u : U} {vs : List V} {n : Nat} {a : Addr} {Q : VK} (hr : LmC C p rr) (w : Wd C B r H h) (hn : r[n]? = some (some a))
    (ho : h[n]? = some (.lst xs)) (hp : p xs us = some (u, ys)) (ru : RUs C B r H us vs) (q : EQ C W σ B r H (some (.ok u (h.set n (.lst ys)))) (RU C) Q) : rr (.ref a) vs H Q := by
  obtain ⟨o, h1, ro⟩ := w.obj n a hn
  rw [ho] at h1
  cases h1
  obtain ⟨xs', h2, h3⟩ := ro
  refine hr hp h2 h3 ru fun ys' v r1 r2 => ?_
  obtain ⟨ex, w2⟩ := w.put hn (notup_lst (xs := ys')) (o := .lst ys) fun ex => ⟨ys', upd_same, r1.ext ex w.toOwn⟩
  exact q _ _ _ _ ex w2 (r2.ext ex w.toOwn)
section
variable {X : Cx} {W : Wj} {apos cpos : Pos} {o e : Expr} {es : List Expr} {f : M U} {g : M (List U)} {pp : List U → List U → Option (U × List U)} {rr : V → List V → Hp → VK → Prop} {id : String} {name : Str}
theorem t_lm {C : Ct} {σ : L2.St} {H : Hp} {Q : VK} (hr : LmC C pp rr) (t : tI C W (lmE pp f g) σ H Q) : tBM C.K "list" rr (tI C W f) (tA C W g) σ H Q := by
  refine tG.bnd t fun x B r H1 h δ v w s rx q => ?_
  try dsimp only at q
  split at q
  · rename_i n
    split at q
    · rename_i xs0 ho0
      cases rx with
      | @loc n a hn =>
        obtain ⟨o, h1, ro⟩ := w.obj n a hn
        rw [ho0] at h1
        cases h1
        obtain ⟨vs, h2, h3⟩ := ro
        refine ⟨.inl ⟨rfl, vs, SqL.of h2⟩, B, r, h, δ, w, s, q.bnd w s fun us B2 r2 H2 h2 ws e2 w2 s2 rus q2 => ?_⟩
        try dsimp only at q2
        split at q2
        · rename_i xs ho
          split at q2
          · rename_i u ys hp
            rcases e2.rho n _ hn with hn2 | hn2
            · exact lm_end hr w2 hn2 ho hp rus q2
            · rw [w2.gon n hn2] at ho
              cases ho
          · exact q2.elim
        · exact q2.elim
      | gone hn =>
        rw [w.gon _ hn] at ho0
        cases ho0
    · exact q.elim
  · exact q.elim
theorem re_lm (slot : Slot "list" name id) (hty : typeOf (.builtin id) = pure (.type "method_descriptor")) (hm : MtR X id rr) (hr : LmC (ctX X W) pp rr) (ho : RE X W o f) (ha : RA X W (e :: es) g)
    (hbase : attributeBase o name X.env (eval o X.env) = eval o X.env := by rfl)
    (hfew : ((backTo cpos (starEach (e :: es) X.env)).all (fun x => !x.1) && (backToKw cpos (keywordEach [] X.env)).all (fun x => x.1.isSome)
      && decide ((e :: es).length + ([] : List Keyword).length + (if ([] : List Keyword).isEmpty then 0 else 1) < 30)) = true := by rfl)
    (hline : (apos.endLine == cpos.line) = true := by rfl) (hs : starEach (e :: es) X.env = (false, eval e X.env) :: starEach es X.env := by rfl) (hplain : (backTo cpos (starEach es X.env)).any (·.1) = false := by rfl) :
    RE X W (.Call (.Attribute o name apos) (e :: es) [] cpos) (lmE pp f g) :=
  pe_imp (pe_bm PySem.F.plainAttrs_list slot hty hm ho ha hbase hfew hline hs hplain) fun _ _ _ t => t_lm hr t
theorem re_lm0 (slot : Slot "list" name id) (hty : typeOf (.builtin id) = pure (.type "method_descriptor")) (hm : MtR X id rr) (hr : LmC (ctX X W) pp rr) (ho : RE X W o f)
    (hbase : attributeBase o name X.env (eval o X.env) = eval o X.env := by rfl) (hline : (apos.endLine == cpos.line) = true := by rfl) : RE X W (.Call (.Attribute o name apos) [] [] cpos) (lmE pp f mnil) :=
  pe_imp (pe_bm0 PySem.F.plainAttrs_list slot hty hm ho hbase hline) fun σ H Q t => by
    have q := t_lm hr t
    obtain ⟨B, r, h, δ, w, s, q⟩ := q
    refine ⟨B, r, h, δ, w, s, ?_⟩
    cases hf : f δ h with
    | none => rw [hf] at q; exact q
    | some y =>
      rw [hf] at q
      cases y with
      | exc ex h2 => exact q
      | ok u h2 =>
        intro B' r' H' v ex w' ru
        obtain ⟨z1, z2⟩ := q B' r' H' v ex w' ru
        refine ⟨z1, ?_⟩
        obtain ⟨B3, r3, h3, δ3, w3, s3, q3⟩ := z2
        exact EQ.ret w3 q3 .nil
end
def pAppend : List U → List U → Option (U × List U)
  | xs, [u] => if szOk (xs.length + 1) = true then some (.d .non, xs ++ [u]) else none
  | _, _ => none
theorem lm_append {C : Ct} : LmC C pAppend rAppend := by
  intro B r H xs us ys u vs ws a Q e hH rx ru q
  unfold pAppend at e
  split at e
  · split at e
    · rename_i hz
      cases e
      obtain ⟨v, rfl, r1⟩ := ru.one
      have := szOk_le hz
      exact ⟨a, vs, v, rfl, rfl, hH, by rw [← rx.length]; omega, q _ _ (rx.app2 (.cons r1 .nil)) (.d .non)⟩
    · cases e
  · cases e
def pPop : List U → List U → Option (U × List U)
  | xs, [] => match xs[xs.length - 1]? with
    | some u => some (u, xs.dropLast)
    | none => none
  | _, _ => none
theorem lm_pop {C : Ct} : LmC C pPop rPop := by
  intro B r H xs us ys u vs ws a Q e hH rx ru q
  unfold pPop at e
  split at e
  · split at e
    · rename_i u' hu
      cases e
      cases ru
      obtain ⟨v, h1, h2⟩ := rx.at_ hu
      rw [rx.length] at h1
      exact ⟨a, vs, v, rfl, rfl, hH, h1, q _ _ rx.dropL h2⟩
    · cases e
  · cases e
def pPopAt : List U → List U → Option (U × List U)
  | xs, [.d (.int i)] => if rng62 i = true then (match seqIndex? i xs.length with
    | some k => (match xs[k]? with
      | some u => some (u, xs.eraseIdx k)
      | none => none)
    | none => none) else none
  | _, _ => none
theorem lm_popAt {C : Ct} : LmC C pPopAt rPopAt := by
  intro B r H xs us ys u vs ws a Q e hH rx ru q
  unfold pPopAt at e
  split at e
  · rename_i i
    split at e
    · rename_i hi
      split at e
      · rename_i k hk
        split at e
        · rename_i u' hu
          cases e
          obtain ⟨v1, rfl, r1⟩ := ru.one
          cases r1 with
          | d r1 =>
            cases r1
            obtain ⟨v, h1, h2⟩ := rx.at_ hu
            have h6 := rng62_ok hi
            exact ⟨a, vs, i, k, v, rfl, rfl, hH, by omega, by omega, by rw [← rx.length]; exact hk, h1, q _ _ (rx.era k) h2⟩
        · cases e
      · cases e
    · cases e
  · cases e
def pReverse : List U → List U → Option (U × List U)
  | xs, [] => some (.d .non, xs.reverse)
  | _, _ => none
theorem lm_reverse {C : Ct} : LmC C pReverse rReverse := by
  intro B r H xs us ys u vs ws a Q e hH rx ru q
  unfold pReverse at e
  split at e
  · cases e
    cases ru
    exact ⟨a, vs, rfl, rfl, hH, q _ _ rx.rev (.d .non)⟩
  · cases e
theorem PSet.or {X : Cx} {t t' : TSet} (a : PSet X t) (b : PSet X t') : PSet X (fun o i v H Q => t o i v H Q ∨ t' o i v H Q) := by
  intro pins s σ H o i v ov iv u Q I ro ri rv h
  rcases h with h | h
  · exact a pins s σ H o i v ov iv u Q I ro ri rv h
  · exact b pins s σ H o i v ov iv u Q I ro ri rv h
def rSetA (P : Program) (w : World) (K : PySem.W.Frag) : TSet := fun o i v H Q => rSetL o i v H Q ∨ rSetY P w K o i v H Q
theorem notup_dK {H : Hp} {p : Addr} {xs : List (Key × V)} : ∀ vs, ¬ Rd (upd H p (.dK xs)) p (.tup vs) := fun vs z => by
  rcases z with z | ⟨o, z⟩ <;> (rw [upd_same] at z; cases z)
def setU (h : Hea) (o i v : U) : Option Hea := match o with
  | .loc n => match i with
    | .d k => match h[n]? with
      | some (.lst us) => match k with
        | .int k => match ixN us.length k with
          | some j => some (h.set n (.lst (us.set j v)))
          | none => none
        | _ => none
      | some (.dct kvs) => match keyD k with
        | some _ => if szOk (kvs.length + 1) = true then some (h.set n (.dct (putKU kvs k v))) else none
        | none => none
      | some (.ndct kvs) => match nkT k with
        | some _ => if szOk (kvs.length + 1) = true then some (h.set n (.ndct (putNU kvs k v))) else none
        | none => none
      | _ => none
    | _ => none
  | _ => none
def gset (fo fi : M U) : G := fun v δ h => match fo δ h with
  | some (.ok o h1) => (match fi δ h1 with
    | some (.ok i h2) => (match setU h2 o i v with
      | some h3 => some (δ, h3)
      | none => none)
    | _ => none)
  | _ => none
section
variable {C : Ct} {B : Bd} {r : Rho} {H : Hp} {h : Hea}
theorem setU_ok {o i v : U} {ov iv vv : V} {h2 : Hea} {Q : Hp → Prop} (w : Wd C B r H h) (ro : RU C B r H o ov) (ri : RU C B r H i iv) (rv : RU C B r H v vv) (e : setU h o i v = some h2)
    (q : ∀ H', Ext B r H B r H' → Wd C B r H' h2 → Q H') : rSetA C.P C.w C.K ov iv vv H Q := by
  unfold setU at e
  split at e
  · rename_i n
    split at e
    · rename_i k
      cases ri with
      | d ri =>
        cases ro with
        | gone hn =>
          simp only [w.gon _ hn] at e
          cases e
        | loc hn =>
          obtain ⟨x, h1, rx⟩ := w.obj _ _ hn
          split at e
          · rename_i us ho
            rw [ho] at h1
            cases h1
            obtain ⟨vs, h3, h4⟩ := rx
            split at e
            · rename_i k
              split at e
              · rename_i j hj
                cases e
                cases ri
                obtain ⟨ex, w2⟩ := w.put hn (notup_lst (xs := vs.set j vv)) (o := .lst (us.set j v)) fun ex => ⟨vs.set j vv, upd_same, (h4.set_ j rv).ext ex w.toOwn⟩
                exact .inl ⟨_, vs, k, j, rfl, rfl, h3, by rw [← h4.length]; exact hj, q _ ex w2⟩
              · cases e
            · cases e
          · rename_i kvs ho
            rw [ho] at h1
            cases h1
            obtain ⟨vs, h3, h4⟩ := rx
            split at e
            · rename_i key hk
              split at e
              · rename_i hz
                cases e
                obtain ⟨ex, w2⟩ := w.put hn (notup_dK (xs := L2.putK vs key vv)) (o := .dct (putKU kvs k v)) fun ex => ⟨L2.putK vs key vv, upd_same, (h4.putK hk rv).ext ex w.toOwn⟩
                refine .inr ⟨_, _, rfl, ?_, q _ ex w2⟩
                rw [ri.key hk]
                exact .inl (DPut.k h3 (by rw [← h4.length]; exact szOk_le hz))
              · cases e
            · cases e
          · rename_i kvs ho
            rw [ho] at h1
            cases h1
            obtain ⟨vs, h3, h4⟩ := rx
            split at e
            · rename_i key hk
              split at e
              · rename_i hz
                cases e
                obtain ⟨b, rfl⟩ := (ri.ky hk).2.2
                obtain ⟨ex, w2⟩ := w.put hn (notup_dN (P := C.P) (w := C.w) (xs := PM.putN vs key b vv)) (o := .ndct (putNU kvs k v)) fun ex => ⟨PM.putN vs key b vv, upd_same, (h4.putN hk ri rv).ext ex w.toOwn⟩
                exact .inr ⟨_, _, rfl, .inr ⟨vs, key, b, h3, h4.ks, ri.ky hk, rfl, by rw [← h4.length]; exact szOk_le hz, rfl⟩, q _ ex w2⟩
              · cases e
            · cases e
          · cases e
    · cases e
  · cases e
end
section
variable {X : Cx} {W : Wj} {pos : Pos} {o i : Expr} {fo fi : M U}
theorem rg_set (hu : X.A.units + 65 < cLine) (ho : RE X W o fo) (hi : RE X W i fi) (ha : ∀ v, assign (.Subscript o i pos) X.env v = (do
      let ov ← holding [v] (eval o X.env)
      let iv ← holding [v, ov] (eval i X.env)
      standAt pos
      holding [v, ov, iv] (setItem ov iv v)
      release [v, ov, iv] []) := by intro _; rfl) : RG X W (.Subscript o i pos) (gset fo fi) :=
  pg_imp (pg_sub ho hi (PSet.or set_list (set_dictY (by omega))) ha) fun v σ H Q ⟨B, r, h, δ, u, w, s, ru, q⟩ => by
    unfold gset at q
    refine ⟨B, r, h, δ, w, s, ?_⟩
    cases h1 : fo δ h with
    | none => rw [h1] at q; exact q.elim
    | some x =>
      cases x with
      | exc e h' => rw [h1] at q; exact q.elim
      | ok o1 ha1 =>
        rw [h1] at q
        intro B1 r1 H1 v1 e1 w1 rv1
        refine ⟨B1, r1, ha1, δ, w1, s.ext e1 w.toOwn, ?_⟩
        dsimp only at q
        cases h2 : fi δ ha1 with
        | none => rw [h2] at q; exact q.elim
        | some x =>
          cases x with
          | exc e h' => rw [h2] at q; exact q.elim
          | ok i1 ha2 =>
            rw [h2] at q
            dsimp only at q
            intro B2 r2 H2 v2 e2 w2 rv2
            cases h3 : setU ha2 o1 i1 u with
            | none => rw [h3] at q; exact q.elim
            | some ha3 =>
              rw [h3] at q
              have s2 := (s.ext e1 w.toOwn).ext e2 w1.toOwn
              refine setU_ok w2 (rv1.ext e2 w1.toOwn) rv2 ((ru.ext e1 w.toOwn).ext e2 w1.toOwn) h3 fun H' ex w3 => ?_
              exact q _ _ _ _ ((e1.tr w.toOwn e2).tr w.toOwn ex) w3 (s2.ext ex w2.toOwn)
end
theorem get_list {X : Cx} : PGet X (rIxL X.K) := by
  intro pins s σ H x y v u Q I rx ry h
  obtain ⟨p, xs, i, z, rfl, rfl, hq, he, q⟩ := h
  cases rx
  obtain ⟨t, rfl⟩ := ry
  obtain ⟨its, r, pl, hz⟩ := I.list hq
  obtain ⟨j, h1, h2, h3, h4, h5⟩ := atI_get he
  obtain ⟨w, ew, rw'⟩ := r.get h2
  have hl := r.length
  have hn := line63
  have fin : EP X pins σ Q w s := ⟨z, H, I, rw', q⟩
  by_cases h0 : 0 ≤ i
  · have hj : i.toNat = j := by
      rw [seqIndex_of h0 h5] at h1
      exact Option.some.inj h1
    exact wpAny_getItem_list pl.isList h0 (by omega) (by rw [hj]; simpa using ew) fin
  · have hj : (i + (its.toArray.size : Int)).toNat = j := by
      rw [seqIndex_neg (by omega) h4] at h1
      rw [List.size_toArray, ← hl]
      exact Option.some.inj h1
    exact wpAny_getItem_list_neg pl.isList (by omega) (by rw [List.size_toArray] <;> omega) (by omega) (by rw [hj]; simpa using ew) fin
theorem PGet.or {X : Cx} {t t' : V → V → Hp → VK → Prop} (a : PGet X t) (b : PGet X t') : PGet X (fun x y H Q => t x y H Q ∨ t' x y H Q) := by
  intro pins s σ H x y v u Q I rx ry h
  rcases h with h | h
  · exact a pins s σ H x y v u Q I rx ry h
  · exact b pins s σ H x y v u Q I rx ry h
def rGetA (P : Program) (w : World) (K : PySem.W.Frag) : R2 := fun x y H Q => rIxL K x y H Q ∨ ∃ a v, x = .ref a ∧ DGetY P w K H a y (some v) ∧ Q v H
def getU (h : Hea) : U → U → Option U
  | .loc n, .d k => match h[n]? with
    | some (.lst us) => match k with
      | .int k => atI us k
      | _ => none
    | some (.dct kvs) => match keyD k with
      | some _ => lookK kvs k
      | none => none
    | some (.ndct kvs) => match nkT k with
      | some _ => lookN kvs k
      | none => none
    | _ => none
  | _, _ => none
def saugS (p : D → D → Option D) (fo fi f : M U) : S := sbnd fo fun o => sbnd fi fun i => sbnd (fun _ h => match getU h o i with
  | some x => some (.ok x h)
  | none => none) fun x => sbnd f fun y => sbnd (opE p x y) fun z δ h => match setU h o i z with
    | some h' => some (.nx δ h')
    | none => none
theorem getU_ok {C : Ct} {B : Bd} {r : Rho} {H : Hp} {h : Hea} {x y u : U} {v w : V} {Q : VK} (wd : Wd C B r H h) (rx : RU C B r H x v) (ry : RU C B r H y w) (e : getU h x y = some u) (q : ∀ z, RU C B r H u z → Q z H) : rGetA C.P C.w C.K v w H Q := by
  unfold getU at e
  split at e
  · rename_i n k
    cases ry with
    | d ry =>
      cases rx with
      | gone hn =>
        simp only [wd.gon _ hn] at e
        cases e
      | loc hn =>
        obtain ⟨o, h1, ro⟩ := wd.obj _ _ hn
        split at e
        · rename_i us ho
          rw [ho] at h1
          cases h1
          obtain ⟨vs, h2, h3⟩ := ro
          split at e
          · rename_i k
            cases ry
            obtain ⟨z, h4, h5⟩ := h3.atI_ e
            exact .inl ⟨_, vs, k, z, rfl, rfl, SqL.of h2, h4, q z h5⟩
          · cases e
        · rename_i kvs ho
          rw [ho] at h1
          cases h1
          obtain ⟨vs, h2, h3⟩ := ro
          split at e
          · rename_i key hk
            obtain ⟨z, h4, h5⟩ := (h3.look hk).1 u e
            exact .inr ⟨_, z, rfl, .inl (.inl ⟨_, key, .inl h2, ry.key hk, h4.symm⟩), q z h5⟩
          · cases e
        · rename_i kvs ho
          rw [ho] at h1
          cases h1
          obtain ⟨vs, h2, h3⟩ := ro
          split at e
          · rename_i key hk
            obtain ⟨z, h4, h5⟩ := (h3.look hk).1 u e
            exact .inr ⟨_, z, rfl, .inr ⟨_, key, .inl h2, h3.ks, ry.ky hk, h4.symm⟩, q z h5⟩
          · cases e
        · cases e
  · cases e
theorem rs_augS {X : Cx} {W : Wj} {pos tpos : Pos} {o i e : Expr} {fo fi f : M U} {op : Operator} {p : D → D → Option D} {ti : TIp} (hu : X.A.units + 65 < cLine) (hp : PIp X op ti) (hr : Op2 (ctX X W) p ti) (ho : RE X W o fo) (hi : RE X W i fi) (he : RE X W e f)
    (ha : ∀ ov iv new, augStore i ov iv new = (do holding [new, ov, iv] (setItem ov iv new); release [new, ov, iv] []; pure .next) := by intros; rfl) : RS X W (.AugAssign (.Subscript o i tpos) op e pos) (saugS p fo fi f) :=
  ps_imp (ps_augS ho hi (PGet.or get_list (get_dictY (by omega))) he hp (PSet.or set_list (set_dictY (by omega))) ha) fun D σ H t => by
    refine tS.bnd t fun o1 B1 r1 H1 h1 δ v1 w1 s1 ro1 q1 => ?_
    refine ⟨B1, r1, h1, δ, w1, s1, q1.bnd w1 s1 fun i1 B2 r2 H2 h2 v2 e2 w2 s2 ri2 q2 => ?_⟩
    have ro2 := ro1.ext e2 w1.toOwn
    cases hx : getU h2 o1 i1 with
    | none =>
      unfold sbnd at q2
      simp only [hx] at q2
      exact q2.elim
    | some x =>
      have q3 : OQ (ctX X W) W D B2 r2 H2 ((sbnd f fun y => sbnd (opE p x y) fun z δ h => match setU h o1 i1 z with
        | some h' => some (.nx δ h')
        | none => none) δ h2) := by
        unfold sbnd at q2 ⊢
        simp only [hx] at q2
        exact q2
      refine getU_ok w2 ro2 ri2 hx fun z rz => ?_
      refine ⟨B2, r2, h2, δ, w2, s2, q3.bnd w2 s2 fun y B3 r3 H3 h3 v3 e3 w3 s3 ry q4 => ?_⟩
      refine opE_end hr w3 (rz.ext e3 w2.toOwn) ry (q4.bnd w3 s3 fun z4 B4 r4 H4 h4 v4 e4 w4 s4 rz4 q5 => ?_)
      try dsimp only at q5
      cases hs : setU h4 o1 i1 z4 with
      | none => rw [hs] at q5; exact q5.elim
      | some h5 =>
        rw [hs] at q5
        refine setU_ok w4 ((ro2.ext e3 w2.toOwn).ext e4 w3.toOwn) ((ri2.ext e3 w2.toOwn).ext e4 w3.toOwn) rz4 hs fun H' ex w5 => ?_
        exact q5 _ _ _ _ ex w5 (s4.ext ex w4.toOwn)
theorem op2_sub {C : Ct} : Op2 C pSub (rI0 fun i j => .int (i - j)) := op2_int0 fun _ _ _ _ => .int _
theorem op2_fdiv {C : Ct} : Op2 C pFdiv (rI CDivW fun i j => .int (i / j)) := op2_intC (b := fun i j => decide (0 < j ∧ j.natAbs.log2 < 9000)) (fun _ _ h => of_decide_eq_true h) fun _ _ _ _ => .int _
theorem op2_mod {C : Ct} : Op2 C pMod (rI (fun _ j => j ≠ 0) fun i j => .int (i.fmod j)) := op2_intC (b := fun i j => decide (j ≠ 0)) (fun _ _ h => of_decide_eq_true h) fun _ _ _ _ => .int _
theorem op2_pow {C : Ct} : Op2 C pPow (rI CPow fun i j => .int (i ^ j.toNat)) := op2_intC (b := fun i j => decide (0 ≤ j ∧ j ≤ 1000000 ∧ i.natAbs < 2 ^ 64)) (fun _ _ h => of_decide_eq_true h) fun _ _ _ _ => .int _
theorem Room.u65 {k : Nat} {A : Around} (r : Room k A) : A.units + 65 < cLine := by
  have := r.un
  omega
/-- += of ints and texts -/
theorem iop_addA {X : Cx} : OpR X (inplaceOp .Add) (fun x y H Q => (rI0 fun i j => .int (i + j)) x y H Q ∨ rAddS x y H Q) := OpR.or iop_add iop_add_str
def pIadd : D → D → Option D
  | .int i, .int j => some (.int (i + j))
  | .str x, .str y => if szOk (x.length + y.length) = true then some (.str (x ++ y)) else none
  | _, _ => none
theorem op2_iadd {C : Ct} : Op2 C pIadd (fun x y H Q => (rI0 fun i j => .int (i + j)) x y H Q ∨ rAddS x y H Q) := by
  intro B r H h x y v w c Q wd rx ry e q
  unfold pIadd at e
  split at e
  · cases e
    exact .inl ⟨_, _, rx.intI, ry.intI, q B H _ wd.toOwn.gr (.int _)⟩
  · split at e
    · rename_i hz
      cases e
      exact .inr ⟨_, _, rx.strI, ry.strI, szOk_le hz, q B H _ wd.toOwn.gr (.str _)⟩
    · cases e
  · cases e
/-- x.split(sep), to be changed -/
def spNE (f : M U) (g : M (List U)) : M U := mbnd f fun x δ h => match view h x with
  | some (.str a) => mbnd g (fun us _ h => match viewS h us with
    | some ds => (match pSplit (.str a) ds with
      | some (.lst ys) => newE (.lst (ys.map .d)) [] h
      | _ => none)
    | none => none) δ h
  | _ => none
section
variable {X : Cx} {W : Wj} {apos cpos : Pos} {o e : Expr} {es : List Expr} {f : M U} {g : M (List U)}
theorem re_splitN (ho : RE X W o f) (ha : RA X W (e :: es) g)
    (hbase : attributeBase o "split" X.env (eval o X.env) = eval o X.env := by rfl)
    (hfew : ((backTo cpos (starEach (e :: es) X.env)).all (fun x => !x.1) && (backToKw cpos (keywordEach [] X.env)).all (fun x => x.1.isSome)
      && decide ((e :: es).length + ([] : List Keyword).length + (if ([] : List Keyword).isEmpty then 0 else 1) < 30)) = true := by rfl)
    (hline : (apos.endLine == cpos.line) = true := by rfl) (hs : starEach (e :: es) X.env = (false, eval e X.env) :: starEach es X.env := by rfl) (hplain : (backTo cpos (starEach es X.env)).any (·.1) = false := by rfl) :
    RE X W (.Call (.Attribute o "split" apos) (e :: es) [] cpos) (spNE f g) :=
  pe_imp (pe_bm PySem.F.plainAttrs_str PySem.F.slot_str_split PySem.F.type_str_split mt_split ho ha hbase hfew hline hs hplain) fun σ H Q t => tG.bnd t fun x B r H1 h δ v w s rx q => by
    try dsimp only at q
    split at q
    · rename_i a hv
      have e1 := (w.view rx hv).strI
      subst e1
      refine ⟨rfl, B, r, h, δ, w, s, q.bnd w s fun us B2 r2 H2 h2 vs e2 w2 s2 rus q2 => ?_⟩
      try dsimp only at q2
      split at q2
      · rename_i ds hvs
        split at q2
        · rename_i ys hp
          have rv := w2.viewS rus hvs
          unfold pSplit at hp
          split at hp
          · rename_i a' b ea
            cases ea
            split at hp
            · rename_i hz
              cases hp
              rw [Bool.and_eq_true] at hz
              obtain ⟨u, rfl, r1⟩ := rv.one
              refine ⟨a, b, rfl, by rw [r1.strI], by simpa using hz.1, by rw [sizeLine_eq]; exact of_decide_eq_true hz.2, fun l hl => ?_⟩
              obtain ⟨ex, w3⟩ := w2.add (o := .lst (((Txt.split a b).map D.str).map .d)) hl (notup_lst (xs := (Txt.split a b).map V.str)) fun ex => ⟨_, upd_same, RDs.us RDs.strs⟩
              exact q2 _ _ _ _ ex w3 (.loc (by rw [← w2.len]; simp))
            · cases hp
          · cases hp
        · exact q2.elim
      · exact q2.elim
    · exact q.elim
end
theorem end_of {K : PySem.W.Frag} {mg : Str → Option Value} {m : FM} {H : Hp} {a : Addr} {ns : List Int} (hO : Only H) (hS : SqL K H a (ns.map V.int))
    (hm : m [.d (.scr ns)] [] = some (.ok (.d (.bl true)) [])) : spM ⟨⟨K, mg, P, w⟩, j0⟩ 1 m [.ref a] H (fun v _ => v = .bl true) fun _ _ _ => False := by
  have nl : ∀ b vs, H b ≠ some (.lst vs) := fun b vs z => by
    rcases hO b with q | ⟨o, xs, q⟩ <;> (rw [z] at q; cases q)
  have fr : Frz K (fun _ => False) H a (ns.map V.int) := by
    rcases hS with h | h
    · exact .inl ⟨fun z => z, h⟩
    · exact .inr (.inr h)
  refine ⟨rfl, fun _ => False, [], [], [.d (.scr ns)], ⟨⟨fun a ⟨n, z⟩ => by simp at z, fun a z => z.elim, fun a z => z.elim⟩, rfl, fun n a z => by simp at z, fun n z => by simp at z, fun n m a z => by simp at z, trivial⟩, .cons (.d (.scr fr)) .nil, ?_⟩
  rw [hm]
  intro B' r' H' v ex w' ru
  cases ru with
  | d rd =>
    cases rd
    rfl
def spEnd (K : PySem.W.Frag) : Sp := fun vs H Q _ => ∃ (a : Addr) (ns : List Int), vs = [.ref a] ∧ Only H ∧ SqL K H a (ns.map V.int) ∧ ns.length ≤ 63 ∧ (∀ z ∈ ns, Builtin.Int.intBits z ≤ 1048576) ∧ ∀ H', Q (.bl true) H'
theorem spM_to {C : Ct} {np : Nat} {m : FM} {vs : List V} {H : Hp} {Q Q' : VK} {E E' : XK} (h : spM C np m vs H Q E) (hq : ∀ v H, Q v H → Q' v H) (he : ∀ c d H, E c d H → E' c d H) : spM C np m vs H Q' E' := by
  obtain ⟨hl, B, r, hh, us, w, ru, q⟩ := h
  refine ⟨hl, B, r, hh, us, w, ru, ?_⟩
  cases hx : m us hh with
  | none => rw [hx] at q; exact q
  | some x =>
    rw [hx] at q
    cases x with
    | ok u h' => exact fun B' r' H' v e w' z => hq _ _ (q B' r' H' v e w' z)
    | exc e h' => exact fun B' r' H' cls d e w' z => he _ _ _ (q B' r' H' cls d e w' z)
theorem fn_end {P : Program} {w : World} {K : PySem.W.Frag} {mg : Str → Option Value} {base : Heap} {k : Nat} {f : Addr} {fd : FuncData} {m : FM} {ps : List Str} (F : FnOk P w K mg base (L2.CX P w) k f fd ps (spM ⟨⟨K, mg, P, w⟩, j0⟩ 1 m))
    (hp : ps.length = 1) (hm : ∀ ns : List Int, ns.length ≤ 63 → (∀ z ∈ ns, Builtin.Int.intBits z ≤ 1048576) → m [.d (.scr ns)] [] = some (.ok (.d (.bl true)) [])) : FnOk P w K mg base (L2.CX P w) k f fd ps (spEnd K) :=
  ⟨fun vs H Q E h => by
    obtain ⟨a, ns, rfl, _⟩ := h
    exact hp.symm, fun A outer s H args us vs Q E hr e0 hb r h => by
    obtain ⟨a, ns, rfl, hO, hS, hl, hz, q⟩ := h
    exact F.run A outer s H args us _ Q E hr e0 hb r (spM_to (end_of hO hS (hm ns hl hz)) (fun v H' e => e ▸ q H') fun _ _ _ z => z.elim)⟩
theorem walk_PM {l : PySem.W.OpenLaw} {k : Nat} {q : Program} {loose : List Str} {XP : (Str → Option Value) → Heap → Prop} {YP : World → Heap → Prop} {d : DefRec} {K : Params → PySem.W.Frag}
    (hn : l.most = some 63) (hdf : d.params.defaults = []) (hr : Room k callerA) (hY : ∀ (w : World) (h : Heap), YP w h → (K w.params).In h)
    (F : ∀ (w : World) (mg : Str → Option Value) (fa : Addr) (h : Heap), (K w.params).In h → h.Ns mainGlobals mg → mg d.name = some (.ref fa) →
      ∃ fd : FuncData, (∀ (s : Shared) (u : Value), BindsTo s fd ⟨[u], []⟩ [("script", u)]) ∧ ∀ base : Heap, (K w.params).In base → base.Ns mainGlobals mg → FnOk l.prog w (K w.params) mg base (L2.CX l.prog w) k fa fd ["script"] (spEnd (K w.params))) :
    PySem.W.WalkO q loose XP YP l.row.toRowW d [] (fun f vs => PySem.call f vs) :=
  walk_ofB (K := K) (CX := fun w => L2.CX l.prog w) (sp := fun w => spEnd (K w.params)) hn (by decide) hdf hr hY F (fun w H a ns hl hz hO hS => ⟨a, ns, rfl, hO, hS, hl, hz, fun _ => rfl⟩) fun w H s e s' h => by
    obtain ⟨_, _, _, _, _, _, _, _, _, _, _, _, z⟩ := h
    exact z.elim
theorem exm_of {K : PySem.W.Frag} {C S : Addr} {b : Bool} (h1 : PySem.W.subIn K (.ref S) (.type "BaseException") = some true) (h2 : PySem.W.isClsIn K S = true) (h3 : PySem.W.typeIn K (.ref S) = some (.type "type")) (h4 : PySem.W.subIn K (.ref C) (.ref S) = some b) :
    PySem.W.exmOne K (.ref C) (.ref S) = some b := by
  have e1 : (PySem.W.subIn K (.ref S) (.type "BaseException") == some true) = true := by rw [h1] <;> rfl
  have e2 : ((PySem.W.clsIn K S).isSome && PySem.W.typeIn K (.ref S) == some (.type "type")) = true := by
    have h2' : (PySem.W.clsIn K S).isSome = true := h2
    rw [h2', h3] <;> rfl
  show (if (PySem.W.subIn K (.ref S) (.type "BaseException") == some true) = true then (if ((PySem.W.clsIn K S).isSome && PySem.W.typeIn K (.ref S) == some (.type "type")) = true then PySem.W.subIn K (.ref C) (.ref S) else none) else none) = some b
  rw [if_pos e1, if_pos e2]
  exact h4
def tMakeS (C : Addr) (sp : Sp) (E : L2.St → XK) (t : TA) : TE := fun σ H Q => t σ H fun vs H1 => ∀ x dx, H1 x = none → H1 dx = none → dx ≠ x → sp (.ref x :: vs) (upd (upd H1 dx (.own x)) x (.ins C dx [])) (fun v H2 => v = .non ∧ Q (.ref x) H2) (E σ)
section
variable {X : Cx} {CX : CXT} {k : Nat} {f C : Addr} {fd : FuncData} {ps : List Str} {sp : Sp} {E : L2.St → XK} {x : Str} {p pos : Pos} {e : Expr} {es : List Expr} {t : TA}
theorem run_makeS {pins : List (Addr × Obj)} {σ : L2.St} {H : Hp} {s : Shared} {Q : VK} {us : List Value} {vs : List V} (M : Mk X.K C f) (F : FnOk X.prog X.w X.K X.mg X.base CX k f fd ps sp) (hr : Room (k + 1) X.A) (hb : Binds X.K fd ps []) (hx : PassesAt CX X σ (E σ))
    (I : Inv X pins σ H s) (r : Vals vs us) (h : ∀ x dx, H x = none → H dx = none → dx ≠ x → sp (.ref x :: vs) (upd (upd H dx (.own x)) x (.ins C dx [])) (fun v H2 => v = .non ∧ Q (.ref x) H2) (E σ)) :
    wpAny (model X.prog X.w) X.A (call (.ref C) us) (EP X pins σ Q) X.xe s := by
  have hq := h (s.heap.objs.size + 1) s.heap.objs.size (I.hok.fresh (Nat.le_succ _)) (I.hok.fresh (Nat.le_refl _)) (Nat.ne_of_lt (Nat.lt_succ_self _))
  have I2 := Inv.made (C := C) I
  have r2 : Vals (V.ref (s.heap.objs.size + 1) :: vs) (Value.ref (s.heap.objs.size + 1) :: us) := .cons rfl r
  have hl : (Value.ref (s.heap.objs.size + 1) :: us).length = ps.length := by
    have e := r2.length
    rw [F.len _ _ _ _ hq] at e
    exact e.symm
  have b := hb _ (Value.ref (s.heap.objs.size + 1) :: us) I2.kIn (by rw [List.append_nil]; exact hl)
  rw [List.append_nil] at b
  refine wpAny_call (make_map (f := f) I.kIn M.makes M.init (beq_iff_eq.mp M.fn) (codeAny_mono (F.run _ X.stack _ _ ⟨Value.ref (s.heap.objs.size + 1) :: us, []⟩ (Value.ref (s.heap.objs.size + 1) :: us) _ _ (E σ) (hr.make C us [])
    (I2.env0.make C us []) b r2 hq) fun r s' hq' => ?_))
  cases r with
  | error e => exact hx pins _ _ e s' I2 hq'
  | ok fl =>
    cases fl with
    | ret u =>
      obtain ⟨v, H', I3, rv, ev, q3⟩ := I2.after hq'
      subst ev
      exact ⟨rv, ⟨V.ref (s.heap.objs.size + 1), H', I3, rfl, q3⟩⟩
    | next => exact False.elim hq'
    | brk => exact False.elim hq'
    | cont => exact False.elim hq'
theorem pe_makeS (M : Mk X.K C f) (F : FnOk X.prog X.w X.K X.mg X.base CX k f fd ps sp) (hr : Room (k + 1) X.A) (hg : Gl X x) (hm : X.mg x = some (.ref C)) (hb : Binds X.K fd ps []) (hx : ∀ σ, PassesAt CX X σ (E σ))
    (ha : PA X (e :: es) t) (hdb : (x == ("__debug__" : Str)) = false := by decide) (he : starEach (e :: es) X.env = (false, eval e X.env) :: starEach es X.env := by rfl) (hpl : (backTo pos (starEach es X.env)).any (·.1) = false := by rfl) :
    PE X (.Call (.Name x p) (e :: es) [] pos) (tMakeS C sp E t) := by
  refine ⟨fun pins s σ H Q I h => ?_⟩
  refine wpAny_Call_Name_kw (ld_glob I hg hm ?_ hdb)
  refine PySem.W.callWith_K (h₀ := X.base) I.ok.mod.kin M.kp (thn (ha.run pos pins s σ H _ I h) fun us s1 ⟨vs, H1, I1, r, q⟩ => ⟨I1.kIn, ?_⟩) he hpl
  exact run_makeS M F hr hb (hx σ) I1 r q
end
/-- the class that the module's name c holds is made by m -/
structure MkAt (P : Program) (w : World) (K : PySem.W.Frag) (mg : Str → Option Value) (base : Heap) (k : Nat) (c : Str) (np : Nat) (m : FM) : Prop where
  ex : ∃ (C f : Addr) (fd : FuncData) (ps : List Str), mg c = some (.ref C) ∧ Mk K C f ∧ Binds K fd ps [] ∧ FnOk P w K mg base (L2.CX P w) k f fd ps (spM ⟨⟨K, mg, P, w⟩, j0⟩ np m)
/-- what the maker leaves, made plain data -/
def madeD (h : Hea) : Option (R U) → Option (R U)
  | some (.ok (.d .non) (.ins c us :: _)) => match (O.ins c us).view with
    | some d => some (.ok (.d d) h)
    | none => none
  | some (.exc e _) => some (.exc e h)
  | _ => none
def makeP (c : Str) (np : Nat) (m : FM) (g : M (List U)) : M U := mbnd g fun us _ h => if us.length + 1 = np then (match allD us with
  | some _ => madeD h (m (.loc 0 :: us) [.ins c []])
  | none => none) else none
theorem notup_ins {H : Hp} {p C dx : Addr} {fs : List (Str × V)} : ∀ vs, ¬ Rd (upd H p (.ins C dx fs)) p (.tup vs) := fun vs z => by
  rcases z with z | ⟨o, z⟩ <;> (rw [upd_same] at z; cases z)
section
variable {X : Cx} {W : Wj} {k np : Nat} {c : Str} {m : FM} {p pos : Pos} {e : Expr} {es : List Expr} {g : M (List U)}
theorem re_makeP (F : MkAt X.prog X.w X.K X.mg X.base k c np m) (hr : Room (k + 1) X.A) (tk : Takes X W.w) (ha : RA X W (e :: es) g) (hg : Gl X c := by rfl) (hdb : (c == ("__debug__" : Str)) = false := by decide)
    (he : starEach (e :: es) X.env = (false, eval e X.env) :: starEach es X.env := by rfl) (hpl : (backTo pos (starEach es X.env)).any (·.1) = false := by rfl) :
    RE X W (.Call (.Name c p) (e :: es) [] pos) (makeP c np m g) := by
  obtain ⟨C, f, fd, ps, hm, hM, hb, ok⟩ := F.ex
  refine pe_imp (pe_makeS (E := WE W.w) hM ok hr hg hm hb (passAt tk) ha hdb he hpl) fun σ H Q t => tG.bnd t fun us B r H1 h δ vs w s ru q => ?_
  try dsimp only at q
  by_cases hl : us.length + 1 = np
  · rw [if_pos hl] at q
    cases hd : allD us with
    | none => rw [hd] at q; exact q.elim
    | some ds =>
      rw [hd] at q
      try dsimp only at q
      intro x dx nx nd ne
      have g1 : Gr B H1 B (upd H1 dx (.own x)) := w.toOwn.new nd (.own x)
      have w1 := (g1.wd w).bare0 (C' := ⟨⟨X.K, X.mg, X.prog, X.w⟩, j0⟩) rfl
      have nx1 : upd H1 dx (.own x) x = none := by
        rw [upd_ne (Ne.symm ne)]
        exact nx
      obtain ⟨ex, w2⟩ := w1.add (o := .ins c []) nx1 (notup_ins (fs := [])) fun ex => ⟨C, dx, [], hm, upd_same, .nil⟩
      have rd2 : RUs ⟨X.K, X.mg, X.prog, X.w⟩ (fun a => B a ∨ a = x) [some x] (upd (upd H1 dx (.own x)) x (.ins C dx [])) us vs := by
        rw [us_allD hd]
        exact (((ru.allD hd).ext (g1.ext (r := r)) w.toOwn).ext ex w1.toOwn).us
      refine ⟨by show vs.length + 1 = np; rw [← ru.length]; exact hl, fun a => B a ∨ a = x, [some x], [.ins c []], .loc 0 :: us, w2, .cons (.loc rfl) rd2, ?_⟩
      have k2 : ∀ a o, H1 a = some o → upd (upd H1 dx (.own x)) x (.ins C dx []) a = some o := fun a o z => by
        rw [upd_ne (ne_of_none z nx), upd_ne (ne_of_none z nd)]
        exact z
      have nx2 : ∀ a, upd (upd H1 dx (.own x)) x (.ins C dx []) a = none → H1 a = none := fun a z => by
        cases h0 : H1 a with
        | none => rfl
        | some o => rw [k2 a o h0] at z; cases z
      have nlv : ∀ a o, H1 a = some o → ¬ Lv [some x] a := fun a o z ⟨n, l⟩ => by
        rw [List.getElem?_singleton] at l
        split at l
        · cases l
          rw [nx] at z
          cases z
        · cases l
      have grow : ∀ {B' : Bd} {r' : Rho} {H' : Hp} {h' : Hea}, Ext (fun a => B a ∨ a = x) [some x] (upd (upd H1 dx (.own x)) x (.ins C dx [])) B' r' H' → Wd ⟨⟨X.K, X.mg, X.prog, X.w⟩, j0⟩ B' r' H' h' → Gr B H1 B' H' := fun {B' r' H' h'} e2 w' =>
        { keep := fun a o z => e2.keep a o (nlv a o z) (k2 a o z)
          bnew := fun a z => by
            rcases e2.bnew a z with (q | rfl) | q
            · exact .inl q
            · exact .inr nx
            · exact .inr (nx2 a q)
          bold := fun a z => by
            obtain ⟨o, ho⟩ := w.dom a z
            exact e2.bold a (.inl z) (nlv a o ho)
          dom := w'.dom
          notup := w'.notup }
      cases hr2 : m (.loc 0 :: us) [.ins c []] with
      | none => rw [hr2] at q; exact q.elim
      | some o =>
        rw [hr2] at q
        cases o with
        | exc ex2 h2 =>
          intro B' r' H' cls d e2 w' rx
          have gr := grow e2 w'
          exact q B' r H' cls d gr.ext (gr.wd w) rx
        | ok u h2 =>
          intro B' r' H' v e2 w' rv
          cases u with
          | loc n => exact q.elim
          | tup us => exact q.elim
          | d x0 =>
            cases x0 with
            | non =>
              cases rv with
              | d rv =>
                cases rv
                refine ⟨rfl, ?_⟩
                cases h2 with
                | nil => exact q.elim
                | cons o h2 =>
                  obtain ⟨cn, us2, rfl⟩ : ∃ c us, o = O.ins c us := by
                    cases o with
                    | ins c us => exact ⟨_, _, rfl⟩
                    | _ => exact q.elim
                  change EQ (ctX X W) W σ B r H1 (match (O.ins cn us2).view with
                    | some d => some (.ok (.d d) h)
                    | none => none) (RU (ctX X W)) Q at q
                  cases hv : (O.ins cn us2).view with
                  | none => rw [hv] at q; exact q.elim
                  | some d =>
                    rw [hv] at q
                    rcases e2.rho 0 _ rfl with hn | hn
                    · obtain ⟨o', ho', ro⟩ := w'.obj 0 x hn
                      cases ho'
                      have rs : Rest H' x H' := Rest.rfl fun u d z => by
                        obtain ⟨_, _, _, _, hH, _⟩ := ro
                        rw [hH] at z
                        cases z
                        exact ndc_ins d
                      obtain ⟨ex3, w3⟩ := w'.frz hn rs
                      have rd := ro.rd w' (B' := fun b => B' b ∧ b ≠ x) (fun z => z.2 rfl) ex3 rs hv
                      have gr := grow e2 w'
                      refine EQ.gr w q (B' := fun b => B' b ∧ b ≠ x) ⟨gr.keep, fun a z => gr.bnew a z.1, fun a z => ⟨gr.bold a z, fun ea => ?_⟩, fun a z => gr.dom a z.1, fun a z => gr.notup a z.1⟩ (.d rd)
                      subst ea
                      obtain ⟨o2, ho2⟩ := w.dom a z
                      rw [nx] at ho2
                      cases ho2
                    · have := w'.gon 0 hn
                      cases this
            | _ => exact q.elim
  · rw [if_neg hl] at q
    exact q.elim
end
def putU (f : Str) (v : U) : List (Str × U) → List (Str × U)
  | [] => [(f, v)]
  | (g, x) :: r => if g = f then (g, v) :: r else (g, x) :: putU f v r
theorem RUf.put {C : Ct} {B : Bd} {r : Rho} {H : Hp} {f : Str} {u : U} {v : V} (ru : RU C B r H u v) : ∀ {fs : List (Str × U)} {vs : List (Str × V)}, RUf C B r H fs vs → RUf C B r H (putU f u fs) (putF f v vs)
  | _, _, .nil => .cons ru .nil
  | _, _, .cons (f := g) (ds := ds) (vs := vs) a b => by
    unfold putU putF
    by_cases hg : g = f
    · rw [if_pos hg, if_pos hg]
      exact .cons ru b
    · rw [if_neg hg, if_neg hg]
      exact .cons a (RUf.put ru b)
theorem RUf.length {C : Ct} {B : Bd} {r : Rho} {H : Hp} : ∀ {fs : List (Str × U)} {vs : List (Str × V)}, RUf C B r H fs vs → fs.length = vs.length
  | _, _, .nil => rfl
  | _, _, .cons _ b => congrArg (· + 1) (RUf.length b)
def fldS (cs : List Str) (n : Str) (h : Hea) (o v : U) : Option Hea := match o with
  | .loc l => match h[l]? with
    | some (.ins c fs) => if cs.contains c = true ∧ fs.length < 1000 then some (h.set l (.ins c (putU n v fs))) else none
    | _ => none
  | _ => none
def sfld (cs : List Str) (n : Str) (fo fv : M U) : S := sbnd fv fun v => sbnd fo fun o δ h => match fldS cs n h o v with
  | some h' => some (.nx δ h')
  | none => none
theorem rs_fld {X : Cx} {W : Wj} {pos pos' : Pos} {o v : Expr} {fo fv : M U} {cs : List Str} {n : Str} (hF : FldAt X.K X.mg cs n) (ho : RE X W o fo) (hv : RE X W v fv) (hs : swapsWith v (some (.Attribute o n pos')) pos.line X.env = pure false := by rfl) : RS X W (.Assign [.Attribute o n pos'] v pos) (sfld cs n fo fv) :=
  ps_imp (ps_fld ho hv hs) fun D σ H t => by
    refine tS.bnd t fun v1 B1 r1 H1 h1 δ y w1 s1 rv q1 => ?_
    refine ⟨B1, r1, h1, δ, w1, s1, q1.bnd w1 s1 fun o1 B2 r2 H2 h2 x e2 w2 s2 ro q2 => ?_⟩
    try dsimp only at q2
    have rv2 := rv.ext e2 w1.toOwn
    cases hf : fldS cs n h2 o1 v1 with
    | none => rw [hf] at q2; exact q2.elim
    | some h3 =>
      rw [hf] at q2
      unfold fldS at hf
      split at hf
      · rename_i l
        split at hf
        · rename_i c fs hl
          split at hf
          · rename_i hc
            cases hf
            cases ro with
            | @loc _ a hn =>
              obtain ⟨ob, h4, ro⟩ := w2.obj l a hn
              rw [hl] at h4
              cases h4
              obtain ⟨Cd, dx, vs, m, hH, rf⟩ := ro
              obtain ⟨k1, k2⟩ := hF c (by simpa using hc.1) Cd m
              refine ⟨a, Cd, dx, vs, rfl, hH, k1, k2, by rw [← rf.length]; exact hc.2, ?_⟩
              obtain ⟨ex, w3⟩ := w2.put hn (notup_ins (C := Cd) (dx := dx) (fs := putF n y vs)) (o := .ins c (putU n v1 fs)) fun ex => ⟨Cd, dx, _, m, upd_same, (rf.put rv2).ext ex w2.toOwn⟩
              exact q2 _ _ _ _ ex w3 (s2.ext ex w2.toOwn)
            | gone hn =>
              rw [w2.gon _ hn] at hl
              cases hl
          · cases hf
        · cases hf
      · cases hf
section
open PySem.SeqAt (EqIn EqAt rcIn_tuples)
open PySem.W (KeqHitsIn)
section
variable {prog : Program} {w : World} {K : Type} [DecidableEq K] {knd : HeapKind prog w K} {A : Around} {E : Value → Shared → Prop} {s : Shared}
/-- the walk over the first dict's entries; r: what is left says -/
theorem nd_pairs {nm : String} {a b : Addr} {xa xb : List (K × Addr × Value)} {r : Bool} {Q : Bool → Shared → Prop} (hu : knd.room A) (ha : (a == sysModules) = false) (hb : (b == sysModules) = false)
    (da : s.heap.DictOfH knd a xa) (db : s.heap.DictOfH knd b xb) (hits : xa.length = xb.length → KeqHitsIn prog w A s (pairsH xb) (pairsH xa) r) (h : Q (xa.length == xb.length && r) s) :
    wpAny (model prog w) A (Builtin.Dict.samePairs nm a b) Q E s := by
  obtain ⟨oa, ea, ep, ga, _, ta, la, ia, _⟩ := da
  obtain ⟨ob, eb, ep', gb, _, tb, lb, ib, nb⟩ := db
  have za : ea.size = xa.length := size_of_entries la
  have zb : eb.size = xb.length := size_of_entries lb
  unfold Builtin.Dict.samePairs Builtin.Dict.showsAll
  rw [if_neg (show ¬ (a == sysModules) = true by rw [ha]; exact Bool.false_ne_true), if_neg (show ¬ (b == sysModules) = true by rw [hb]; exact Bool.false_ne_true)]
  refine wpAny_bind (wpAny_pure (wpAny_bind (wpAny_pure ?_)))
  refine wpAny_bind (wpAny_dictEntries ga ta ?_)
  dsimp only
  refine wpAny_bind (wpAny_dictEntries gb tb ?_)
  by_cases hz : xa.length = xb.length
  · have hq : Q r s := by
      rw [show (xa.length == xb.length) = true from beq_iff_eq.mpr hz, Bool.true_and] at h
      exact h
    rw [if_neg (by rw [za, zb, hz]; simp)]
    refine wpAny_bind (wpAny_dictEpoch ga ta (wpAny_bind ?_))
    rw [Std.Legacy.Range.forIn_eq_forIn_range']
    simp only [Std.Legacy.Range.size, Nat.sub_zero, Nat.add_sub_cancel, Nat.div_one]
    rw [za]
    refine wpAny_forIn_list _ (fun rest q s' => s' = s ∧ q = (none, ()) ∧ ∃ n ys, rest = List.range' n ys.length ∧ xa.drop n = ys ∧ KeqHitsIn prog w A s (pairsH xb) (pairsH ys) r) _ ?_ ?_ _ _ ⟨rfl, rfl, 0, xa, rfl, rfl, hits hz⟩
    · rintro i rest q s' ⟨rfl, rfl, n, ys, hr, hd, hk⟩
      cases ys with
      | nil => cases hr
      | cons p ys =>
        obtain ⟨k, pa, v⟩ := p
        rw [List.length_cons, List.range'_succ] at hr
        injection hr with hi hr
        subst hi
        have gx : xa[i]? = some (k, pa, v) := by
          have z := List.getElem?_drop (xs := xa) (i := i) (j := 0)
          rw [hd] at z
          simpa using z.symm
        have ge : ea[i]? = some (entryOfKey knd (k, pa, v)) := by rw [entry_at la i, gx]; rfl
        have isk := ia _ (List.mem_of_getElem? gx)
        refine wpAny_bind (wpAny_dictEntries ga ta ?_)
        rw [ge]
        show wpAny _ _ (holding [Value.ref pa, v] _ >>= _) _ _ _
        refine wpAny_bind (wpAny_holding (wpAny_bind (wpAny_dictFind_heap hu isk gb tb lb ib nb (fun hn => ?_) fun j y hj => ?_)))
        · have zn : PySem.valueAt (pairsH xb) k = none := by rw [valueAt_pairsH, atKey_none_of_get hn]; rfl
          rcases hk.inv with ⟨_, er⟩ | ⟨_, _, _, hy, _⟩
          · subst er
            refine wpAny_pure ?_
            show wpAny _ _ (if (!false) = true then _ else _) _ _ _
            rw [if_pos (by decide)]
            exact wpAny_pure (wpAny_pure hq)
          · rw [zn] at hy
            cases hy
        · have zy : PySem.valueAt (pairsH xb) k = some y.2 := by rw [valueAt_pairsH, atKey_of_get nb hj]; rfl
          have gj : eb[j]? = some (entryOfKey knd (k, y)) := by rw [entry_at lb j, hj]; rfl
          refine wpAny_bind (wpAny_dictEntries gb tb ?_)
          rw [gj]
          rcases hk.inv with ⟨hn, _⟩ | ⟨y', e, b', hy, he, hrr, er⟩
          · rw [zy] at hn
            cases hn
          · rw [zy] at hy
            cases hy
            subst er
            refine wpAny_holding (he _ _ ?_)
            cases e with
            | false =>
              rw [Bool.false_and] at hq
              show wpAny _ _ (if (!false) = true then _ else _) _ _ _
              rw [if_pos (by decide)]
              exact wpAny_pure (wpAny_pure hq)
            | true =>
              show wpAny _ _ (if (!true) = true then _ else _) _ _ _
              rw [if_neg (by decide)]
              refine wpAny_bind (wpAny_dictEpoch ga ta ?_)
              rw [if_neg (by simp)]
              refine wpAny_pure ⟨rfl, rfl, i + 1, ys, hr, ?_, by rw [Bool.true_and]; exact hrr⟩
              rw [← List.drop_drop, hd]
              rfl
    · rintro q s' ⟨rfl, rfl, n, ys, hr, hd, hk⟩
      cases ys with
      | cons p ys =>
        rw [List.length_cons, List.range'_succ] at hr
        cases hr
      | nil =>
        cases hk
        exact wpAny_pure hq
  · rw [if_pos (by rw [za, zb]; simpa using hz)]
    rw [show (xa.length == xb.length) = false from beq_eq_false_iff_ne.mpr hz, Bool.false_and] at h
    exact wpAny_bind (wpAny_rule (wpAny_pure h))
theorem nd_eq {a b : Addr} {xa xb : List (K × Addr × Value)} {r : Bool} {Q : Value → Shared → Prop} (hr : knd.room A.in1) (hu : A.units < cLine) (ha : (a == sysModules) = false) (hb : (b == sysModules) = false)
    (da : s.heap.DictOfH knd a xa) (db : s.heap.DictOfH knd b xb) (hits : xa.length = xb.length → KeqHitsIn prog w A.in1 s (pairsH xb) (pairsH xa) r) (h : Q (.bool (xa.length == xb.length && r)) s) :
    wpAny (model prog w) A (richCompare .Eq (.ref a) (.ref b)) Q E s := by
  refine wpAny_richCompare_same_room (op := .Eq) da.typeIs db.typeIs PySem.F.slot_dict_eq (wpAny_call_entry PySem.F.slot_dict_eq da.typeIs PySem.F.entry_dict_eq ?_ (PySem.F.args_dict_eq_2 _ _)) hu
  show wpAny _ _ (Builtin.Dict.dictSlotArgs "__eq__" ⟨[.ref a, .ref b], []⟩ >>= _) _ _ s
  refine wpAny_bind ?_
  unfold Builtin.Dict.dictSlotArgs
  refine wpAny_bind (wpAny_notOrdered_dict da.typeIs (wpAny_pure ?_))
  refine wpAny_bind (wpAny_isInstance (T := "dict") db.typeIs PySem.F.sub_dict_dict ?_)
  simp only [Bool.not_true, Bool.false_eq_true, if_false]
  refine wpAny_bind (wpAny_pure (wpAny_bind (wpAny_pure (wpAny_bind (nd_pairs hr ha hb da db hits (wpAny_pure ⟨_, rfl, (fun x => nomatch x), ?_⟩))))))
  simpa using h
end
def eqQ (x y : D) : Option Bool := match toPy x, toPy y with
  | some a, some b => if (a.canLay0 && b.canLay0 && decide (a.depth ≤ 32)) = true then some (PyData.eqv a b) else none
  | _, _ => none
def eqE : List (D × D) → List (D × D) → Option Bool
  | [], _ => some true
  | (k, d) :: r, db => match lookN db k with
    | none => some false
    | some d' => match eqQ d d', eqE r db with
      | some e, some b => some (e && b)
      | _, _ => none
def eqN (da db : List (D × D)) : Option Bool := (eqE da db).map fun r => da.length == db.length && r
def eqI (x y : D) : Option Bool := match x, y with
  | .ndct da, .ndct db => eqN da db
  | x, y => eqQ x y
def eqIs : List D → List D → Option Bool
  | x :: xs, y :: ys => match eqI x y, eqIs xs ys with
    | some a, some b => some (a && b)
    | _, _ => none
  | [], [] => some true
  | _, _ => some false
def eqT (x y : D) : Option Bool := match x, y with
  | .ndct da, .ndct db => eqN da db
  | .tup xs, .tup ys => eqIs xs ys
  | _, _ => none
section
variable {X : Cx} {pins : List (Addr × Obj)} {σ : L2.St} {H : Hp} {s : Shared} {B : Bd} {A : Around}
abbrev cx0 (X : Cx) : Ct0 := ⟨X.K, X.mg, X.prog, X.w⟩
theorem eqQ_in (I : Inv X pins σ H s) {x y : D} {v v' : V} {u u' : Value} {b : Bool} (rx : RD (cx0 X) B H x v) (ry : RD (cx0 X) B H y v') (ru : RelV v u) (ru' : RelV v' u') (e : eqQ x y = some b) (hu : A.units + 32 < cLine) :
    EqIn X.prog X.w A s u u' b := by
  unfold eqQ at e
  split at e
  · rename_i p q e1 e2
    split at e
    · rename_i hc
      cases e
      simp only [Bool.and_eq_true, decide_eq_true_eq] at hc
      obtain ⟨as, r1⟩ := Dp.reads I p v u (rx.dp e1) ru
      obtain ⟨bs, r2⟩ := Dp.reads I q v' u' (ry.dp e2) ru'
      exact (SeqAt.eqAt_reads p q A s u u' as bs r1 r2 hc.1.1 hc.1.2 (by have := Nat.min_le_left p.depth q.depth; omega)).inModel X.prog X.w
    · cases e
  · cases e
theorem eqQ_same (I : Inv X pins σ H s) {x y : D} {v v' : V} {u : Value} {b : Bool} (rx : RD (cx0 X) B H x v) (ry : RD (cx0 X) B H y v') (ru : RelV v u) (ru' : RelV v' u) (e : eqQ x y = some b) : b = true := by
  unfold eqQ at e
  split at e
  · rename_i p q e1 e2
    split at e
    · rename_i hc
      cases e
      simp only [Bool.and_eq_true, decide_eq_true_eq] at hc
      obtain ⟨as, r1⟩ := Dp.reads I p v u (rx.dp e1) ru
      obtain ⟨bs, r2⟩ := Dp.reads I q v' u (ry.dp e2) ru'
      have z := SeqAt.Reads.unique p q u as bs hc.1.1 r1 r2
      subst z
      exact SeqAt.eqv_refl p hc.1.1
    · cases e
  · cases e
theorem RDs.length0 {C0 : Ct0} : ∀ {ds : List D} {xs : List V}, RDs C0 B H ds xs → ds.length = xs.length
  | _, _, .nil => rfl
  | _, _, .cons _ b => congrArg (· + 1) (RDs.length0 b)
theorem RDn.length0 {C0 : Ct0} : ∀ {ds : List (D × D)} {xs : List NK}, RDn C0 B H ds xs → ds.length = xs.length
  | _, _, .nil => rfl
  | _, _, .cons _ _ _ b => congrArg (· + 1) (RDn.length0 b)
theorem ndKs : ∀ {ds : List (D × D)} {xs : List NK}, RDn (cx0 X) B H ds xs → KsOk X.K H xs
  | _, _, .nil => fun p h => by cases h
  | _, _, .cons e c a b => fun p h => by
    rcases List.mem_cons.mp h with rfl | h
    · exact c.ky e
    · exact ndKs b p h
theorem nd_hits (I : Inv X pins σ H s) (hu : A.units + 32 < cLine) {db : List (D × D)} {xb : List NK} {yb : List (NestedKey × Addr × Value)} (qb : RDn (cx0 X) B H db xb) (pb : NPr xb yb) :
    ∀ {da : List (D × D)} {xa : List NK} {ya : List (NestedKey × Addr × Value)} {r : Bool}, RDn (cx0 X) B H da xa → NPr xa ya → eqE da db = some r → KeqHitsIn X.prog X.w A s (pairsH yb) (pairsH ya) r
  | _, _, _, r, .nil, .nil, e => by cases e; exact .nil
  | _, _, _, r, .cons (k := k) (kd := kd) (d := d) (v := v) ek c a q, .cons (b := y) (l₂ := ys) h t, e => by
    obtain ⟨h1, h2, h3⟩ := h
    dsimp only at h1 h2 h3
    obtain ⟨yk, yb1, yv⟩ := y
    dsimp only at h1 h2 h3
    subst h1
    have lk := RDn.look (C := ⟨cx0 X, j0⟩) qb ek
    have rl := pb.look k
    have hv := valueAt_pairsH yb k
    unfold eqE at e
    show KeqHitsIn X.prog X.w A s (pairsH yb) ((k, yv) :: pairsH ys) r
    cases hl : lookN db kd with
    | none =>
      rw [hl] at e
      cases e
      have z := lk.2 hl
      rw [z] at rl
      cases za : (atKey yb k).map (·.2) with
      | none => exact .miss (by rw [hv, za])
      | some _ => rw [za] at rl; exact rl.elim
    | some d' =>
      rw [hl] at e
      dsimp only at e
      obtain ⟨v', z, rd'⟩ := lk.1 d' hl
      rw [z] at rl
      split at e
      · rename_i e1 b1 q1 q2
        cases e
        cases za : (atKey yb k).map (·.2) with
        | none => rw [za] at rl; exact rl.elim
        | some u' =>
          rw [za] at rl
          exact .hit (by rw [hv, za]) (eqQ_in I a rd' h3 rl q1 hu) (nd_hits I hu qb pb q t q2)
      · cases e
theorem nd_same (I : Inv X pins σ H s) {db : List (D × D)} {xb : List NK} {yb : List (NestedKey × Addr × Value)} (qb : RDn (cx0 X) B H db xb) (pb : NPr xb yb) : ∀ {da : List (D × D)} {xa : List NK} {ya : List (NestedKey × Addr × Value)} {r : Bool}, RDn (cx0 X) B H da xa → NPr xa ya →
    (∀ p ∈ ya, atKey yb p.1 = some p.2) → eqE da db = some r → r = true
  | _, _, _, r, .nil, .nil, _, e => by cases e; rfl
  | _, _, _, r, .cons (k := k) (kd := kd) (d := d) (v := v) ek c a q, .cons (b := y) (l₂ := ys) h t, hm, e => by
    obtain ⟨h1, h2, h3⟩ := h
    dsimp only at h1 h2 h3
    obtain ⟨yk, yb1, yv⟩ := y
    dsimp only at h1 h2 h3
    subst h1
    have lk := RDn.look (C := ⟨cx0 X, j0⟩) qb ek
    have z := hm _ List.mem_cons_self
    dsimp only at z
    have rl := pb.look k
    rw [z] at rl
    unfold eqE at e
    cases hl : lookN db kd with
    | none =>
      have z2 := lk.2 hl
      rw [z2] at rl
      exact rl.elim
    | some d' =>
      rw [hl] at e
      dsimp only at e
      obtain ⟨v', z2, rd'⟩ := lk.1 d' hl
      rw [z2] at rl
      split at e
      · rename_i e1 b1 q1 q2
        cases e
        rw [eqQ_same I a rd' h3 rl q1, nd_same I qb pb q t (fun p hp => hm p (List.mem_cons_of_mem _ hp)) q2]
        rfl
      · cases e
theorem dictH_inj {prog : Program} {w : World} {K : Type} [DecidableEq K] {knd : HeapKind prog w K} {h : Heap} {d : Addr} {xs ys : List (K × Addr × Value)} (a : h.DictOfH knd d xs) (b : h.DictOfH knd d ys) : xs = ys := by
  obtain ⟨o, es, ep, g, _, t, l, i, nd⟩ := a
  obtain ⟨o', es', ep', g', _, t', l', i', nd'⟩ := b
  clear nd nd'
  rw [g] at g'
  cases g'
  rw [t] at t'
  cases t'
  rw [l] at l'
  clear l g t
  induction xs generalizing ys with
  | nil =>
    cases ys with
    | nil => rfl
    | cons _ _ => cases l'
  | cons x xs ih =>
    cases ys with
    | nil => cases l'
    | cons y ys =>
      rw [List.map_cons, List.map_cons] at l'
      injection l' with e1 e2
      obtain ⟨k, p, v⟩ := x
      obtain ⟨k', p', v'⟩ := y
      unfold entryOfKey at e1
      injection e1 with _ e3 e4
      injection e3 with e3
      dsimp only at e3 e4
      subst e3 e4
      have ek : k = k' := knd.inj (i _ List.mem_cons_self) (i' _ List.mem_cons_self)
      subst ek
      rw [ih (fun x hx => i x (List.mem_cons_of_mem _ hx)) (fun x hx => i' x (List.mem_cons_of_mem _ hx)) e2]
/-- two dictionaries with tuple keys -/
theorem eqN_rc (I : Inv X pins σ H s) {da db : List (D × D)} {xa xb : List NK} {a b : Addr} {r : Bool} {E : Value → Shared → Prop} {Q : Value → Shared → Prop} (ha : Rd H a (dN X.prog X.w a xa)) (hb : Rd H b (dN X.prog X.w b xb))
    (qa : RDn (cx0 X) B H da xa) (qb : RDn (cx0 X) B H db xb) (e : eqN da db = some r) (hu : A.units + 34 < cLine) (q : Q (.bool r) s) : wpAny (model X.prog X.w) A (richCompare .Eq (.ref a) (.ref b)) Q E s := by
  obtain ⟨_, sa, ya, pa, oa⟩ := dn_of I ha (ndKs qa)
  obtain ⟨_, sb, yb, pb, ob⟩ := dn_of I hb (ndKs qb)
  unfold eqN at e
  obtain ⟨r1, e1, e2⟩ := Option.map_eq_some_iff.mp e
  have la : da.length = ya.length := by
    rw [← Paired.length pa]
    exact qa.length0
  have lb : db.length = yb.length := by
    rw [← Paired.length pb]
    exact qb.length0
  refine nd_eq (r := r1) (show (nestedKind X.prog X.w).room A.in1 from by show A.units + 1 + 8 < cLine; omega) (by omega) sa sb oa ob (fun _ => nd_hits I (show A.units + 1 + 32 < cLine by omega) qb pb qa pa e1) ?_
  rw [← la, ← lb, e2]
  exact q
theorem eqI_in (I : Inv X pins σ H s) {x y : D} {v v' : V} {u u' : Value} {b : Bool} (rx : RD (cx0 X) B H x v) (ry : RD (cx0 X) B H y v') (ru : RelV v u) (ru' : RelV v' u') (e : eqI x y = some b) (hu : A.units + 34 < cLine) :
    EqIn X.prog X.w A s u u' b := by
  unfold eqI at e
  split at e
  · rename_i da db
    cases rx with
    | @ndct a oa _ xa nba ha qa =>
      cases ry with
      | @ndct a' ob _ xb nbb hb qb =>
        obtain rfl : u = Value.ref a := ru
        obtain rfl : u' = Value.ref a' := ru'
        by_cases h : a = a'
        · subst h
          obtain ⟨_, _, ya, pa, oa⟩ := dn_of I (.inr ⟨_, ha⟩) (ndKs qa)
          obtain ⟨_, _, yb, pb, ob⟩ := dn_of I (.inr ⟨_, hb⟩) (ndKs qb)
          have hy := dictH_inj oa ob
          subst hy
          unfold eqN at e
          obtain ⟨r1, e1, e2⟩ := Option.map_eq_some_iff.mp e
          have hnd : (ya.map (·.1)).Nodup := by
            obtain ⟨_, _, _, _, _, _, _, _, z⟩ := oa
            exact z
          have hr := nd_same I qb pb qa pa (fun p hp => by
            obtain ⟨i, hi⟩ := List.getElem?_of_mem hp
            exact atKey_of_get hnd hi) e1
          rw [hr, qa.length0, qb.length0, Paired.length pa, Paired.length pb] at e2
          rw [← e2, beq_self_eq_true]
          exact (SeqAt.EqAt.same _).inModel X.prog X.w
        · exact SeqAt.EqIn.of_refs h fun E Q hq => eqN_rc I (.inr ⟨_, ha⟩) (.inr ⟨_, hb⟩) qa qb e hu hq
  · exact eqQ_in I rx ry ru ru' e (by omega)
def eqJ (xs ys : List D) (j : Nat) : Bool := match xs[j]?, ys[j]? with
  | some x, some y => (eqI x y).getD false
  | _, _ => false
theorem eqIs_all : ∀ {xs ys : List D} {b : Bool}, eqIs xs ys = some b → b = ((List.range (min xs.length ys.length)).all (eqJ xs ys) && xs.length == ys.length)
  | [], [], b, e => by cases e; rfl
  | [], y :: ys, b, e => by cases e; simp
  | x :: xs, [], b, e => by cases e; simp
  | x :: xs, y :: ys, b, e => by
    unfold eqIs at e
    split at e
    · rename_i a c e1 e2
      cases e
      have ih := eqIs_all e2
      rw [ih]
      have h0 : eqJ (x :: xs) (y :: ys) 0 = a := by simp [eqJ, e1]
      have hs : (fun j => eqJ (x :: xs) (y :: ys) (j + 1)) = eqJ xs ys := by
        funext j
        simp [eqJ]
      rw [List.length_cons, List.length_cons, Nat.succ_min_succ, List.range_succ_eq_map, List.all_cons, h0, List.all_map]
      have hc : ((xs.length + 1 == ys.length + 1)) = (xs.length == ys.length) := by simp
      rw [hc, Bool.and_assoc]
      congr 2
    · cases e
theorem eqIs_at : ∀ {xs ys : List D} {b : Bool} {j : Nat} {x y : D}, eqIs xs ys = some b → xs[j]? = some x → ys[j]? = some y → eqI x y = some (eqJ xs ys j)
  | [], _, b, j, x, y, e, h1, h2 => by simp at h1
  | _ :: _, [], b, j, x, y, e, h1, h2 => by simp at h2
  | x0 :: xs, y0 :: ys, b, 0, x, y, e, h1, h2 => by
    cases h1
    cases h2
    unfold eqIs at e
    split at e
    · rename_i a c e1 e2
      simp [eqJ, e1]
    · cases e
  | x0 :: xs, y0 :: ys, b, j + 1, x, y, e, h1, h2 => by
    unfold eqIs at e
    split at e
    · rename_i a c e1 e2
      have z := eqIs_at (j := j) (x := x) (y := y) e2 (by simpa using h1) (by simpa using h2)
      rw [z]
      simp [eqJ]
    · cases e
theorem items_in (I : Inv X pins σ H s) {xs ys : List D} {vs ws : List V} {its its2 : List Value} {b : Bool} (qx : RDs (cx0 X) B H xs vs) (qy : RDs (cx0 X) B H ys ws) (r : Vals vs its) (r2 : Vals ws its2) (e : eqIs xs ys = some b) (hu : A.units + 34 < cLine) :
    ∀ j (h1 : j < its.toArray.size) (h2 : j < its2.toArray.size), EqIn X.prog X.w A s its.toArray[j] its2.toArray[j] (eqJ xs ys j) := fun j h1 h2 => by
  have g1 : its[j]? = some its.toArray[j] := by
    have h1' : j < its.length := by simpa using h1
    rw [List.getElem?_eq_getElem h1'] <;> simp
  have g2 : its2[j]? = some its2.toArray[j] := by
    have h2' : j < its2.length := by simpa using h2
    rw [List.getElem?_eq_getElem h2'] <;> simp
  have lx : j < vs.length := by rw [r.length]; simpa using h1
  have ly : j < ws.length := by rw [r2.length]; simpa using h2
  have kx : vs[j]? = some vs[j] := List.getElem?_eq_getElem lx
  have ky : ws[j]? = some ws[j] := List.getElem?_eq_getElem ly
  obtain ⟨u, hu1, ru⟩ := r.get kx
  obtain ⟨u', hu2, ru'⟩ := r2.get ky
  rw [g1] at hu1
  rw [g2] at hu2
  cases hu1
  cases hu2
  obtain ⟨d, hd, rd⟩ := qx.at_ j kx
  obtain ⟨d', hd', rd'⟩ := qy.at_ j ky
  exact eqI_in I rd rd' ru ru' (eqIs_at e hd hd') hu
theorem tuple_ne_of (l b : Addr) (xs ys : Array Value) (n n2 : Nat) (dd dd2 : Option Addr) (sl sl2 : Array (Option Value)) (e : Nat → Bool) {prog : Program} {w : World} {R : Result → Shared → Prop} (h1 : s.heap.get? l = some { cls := .type "tuple", dict := dd, data := .seq xs n, slots := sl })
    (h2 : s.heap.get? b = some { cls := .type "tuple", dict := dd2, data := .seq ys n2, slots := sl2 }) (he : ∀ j (h1 : j < xs.size) (h2 : j < ys.size), EqIn prog w A.in1 s xs[j] ys[j] (e j))
    (q : R (.ok (.ret (.bool (!((List.range (min xs.size ys.size)).all e && xs.size == ys.size))))) s) : wpAny (model prog w) A.in1 (Builtin.«tuple.__ne__» ⟨[.ref l, .ref b], []⟩) (GQ.FinOf prog w A R) (fun e s' => R (.error e) s') s := by
  have f2 := PySem.AutoSeq1.sub_tuple_tuple
  obtain ⟨zl, hz⟩ : ∃ zl, zl = xs.toList.zip ys.toList := ⟨_, rfl⟩
  have len : zl.length = min xs.size ys.size := by rw [hz]; simp
  have item : ∀ i (h : i < zl.length), ∃ (k1 : i < xs.size) (k2 : i < ys.size), zl[i] = (xs[i], ys[i]) := fun i h => by
    have k : i < min xs.size ys.size := len ▸ h
    have k1 : i < xs.size := by have := Nat.min_le_left xs.size ys.size; omega
    have k2 : i < ys.size := by have := Nat.min_le_right xs.size ys.size; omega
    refine ⟨k1, k2, ?_⟩
    subst hz
    simp
  have q0 := q
  obtain ⟨hp, g, d, tk, os⟩ := s
  wp_walk using PySem.AutoSeq1.wpAny_loadPart' h1, PySem.AutoSeq1.wpAny_loadPart' h2, wpAny_forIn_list _ (fun rest b s' => b.1 = none ∧ s' = ⟨hp, g, d, tk, os⟩ ∧ ∃ i, rest = zl.drop i ∧ i ≤ zl.length ∧ ∀ j, j < i → e j = true) _
  case turn =>
    rintro ⟨y, x⟩ rest b1 s' ⟨hb, rfl, i, hr, hi, ht⟩
    have hlt : i < zl.length := by
      rcases Nat.lt_or_ge i zl.length with h | h
      · exact h
      · rw [List.drop_of_length_le h] at hr
        cases hr
    obtain ⟨k1, k2, ez⟩ := item i hlt
    rw [List.drop_eq_getElem_cons hlt, ez] at hr
    injection hr with e1 e2
    injection e1 with e3 e4
    subst e3 e4
    refine wpAny_bind (he i k1 k2 _ _ ?_)
    cases hy : e i with
    | true =>
      wp_walk
      refine ⟨rfl, rfl, i + 1, e2, hlt, fun j hj => ?_⟩
      rcases Nat.lt_succ_iff_lt_or_eq.mp hj with h | rfl
      · exact ht j h
      · exact hy
    | false =>
      have z : (List.range (min xs.size ys.size)).all e = false := List.all_eq_false.mpr ⟨i, List.mem_range.mpr (len ▸ hlt), by rw [hy]; exact Bool.false_ne_true⟩
      rw [z] at q0
      wp_walk
      simpa using q0
  case fin =>
    rintro ⟨b1, b2⟩ s' ⟨hb, rfl, i, hr, hi, ht⟩
    simp only at hb
    subst hb
    have hge : zl.length ≤ i := by
      rcases Nat.lt_or_ge i zl.length with h | h
      · rw [List.drop_eq_getElem_cons h] at hr
        cases hr
      · exact h
    have z : (List.range (min xs.size ys.size)).all e = true := List.all_eq_true.mpr fun j hj => ht j (Nat.lt_of_lt_of_le (List.mem_range.mp hj) (len ▸ hge))
    rw [z] at q0
    wp_walk
    simpa [Builtin.Tuple.tupleCompareSizes, bne] using q0
  case h => exact ⟨rfl, rfl, 0, by rw [hz]; rfl, Nat.zero_le _, fun j hj => absurd hj (Nat.not_lt_zero _)⟩
theorem tup_ne {l b : Addr} {xs ys : Array Value} {e : Nat → Bool} {E Q : Value → Shared → Prop} (h1 : s.heap.IsTuple l xs) (h2 : s.heap.IsTuple b ys) (hu : A.units < cLine) (he : ∀ j (h1 : j < xs.size) (h2 : j < ys.size), EqIn X.prog X.w A.in1 s xs[j] ys[j] (e j))
    (q : Q (.bool (!((List.range (min xs.size ys.size)).all e && xs.size == ys.size))) s) : wpAny (model X.prog X.w) A (richCompare .NotEq (.ref l) (.ref b)) Q E s := by
  obtain ⟨⟨c1, d1, t1, z1⟩, g1, k1, n1, m1⟩ := id h1
  obtain ⟨⟨c2, d2, t2, z2⟩, g2, k2, n2, m2⟩ := id h2
  simp only at k1 m1 k2 m2
  subst k1 m1 k2 m2
  exact wpAny_richCompare_same_room (T := "tuple") (op := .NotEq) ⟨_, g1, rfl⟩ ⟨_, g2, rfl⟩ PySem.F.slot_tuple_ne (GQ.call_here PySem.F.slot_tuple_ne ⟨_, g1, rfl⟩ PySem.F.entry_tuple_ne (PySem.F.args_tuple_ne_2 _ _)
    (tuple_ne_of l b xs ys n1 n2 d1 d2 z1 z2 e g1 g2 he ⟨(fun x => nomatch x), q⟩)) hu
end
theorem RV.nd0 {C0 : Ct0} {B : Bd} {H : Hp} {ds : List (D × D)} {v : V} (h : RV C0 B H (.ndct ds) v) : ∃ a xs, v = .ref a ∧ Rd H a (dN C0.P C0.w a xs) ∧ RDn C0 B H ds xs := by
  cases h with
  | of h => cases h with
    | ndct nb hH q => exact ⟨_, _, rfl, .inr ⟨_, hH⟩, q⟩
  | ndct hH q => exact ⟨_, _, rfl, hH, q⟩
theorem RV.tup0 {C0 : Ct0} {B : Bd} {H : Hp} {ds : List D} {v : V} (h : RV C0 B H (.tup ds) v) : RD C0 B H (.tup ds) v := by
  cases h with
  | of h => exact h
def isTup : D → Bool
  | .tup _ => true
  | _ => false
def rEqT (C : Ct0) (neg : Bool) : R2 := fun x y H Q => ∃ B dx dy b, RV C B H dx x ∧ RV C B H dy y ∧ eqT dx dy = some b ∧ (neg = true → (isTup dx && isTup dy) = true) ∧ Q (.bl (xor neg b)) H
theorem op_eqT {X : Cx} (hu : X.A.units + 65 < cLine) : OpR X (compareOp .Eq) (rEqT (cx0 X) false) := by
  intro pins s σ H x y v u Q I rx ry ⟨B, dx, dy, b, qx, qy, e, _, q⟩
  rw [Bool.false_xor] at q
  show wpAny (model X.prog X.w) X.A (richCompare .Eq v u) (EP X pins σ Q) X.xe s
  unfold eqT at e
  split at e
  · obtain ⟨a, xa, rfl, ha, qa⟩ := qx.nd0
    obtain ⟨a', xb, rfl, hb, qb⟩ := qy.nd0
    obtain rfl : v = _ := rx
    obtain rfl : u = _ := ry
    exact eqN_rc I ha hb qa qb e (by omega) ⟨.bl b, H, I, rfl, q⟩
  · cases qx.tup0 with
    | tup hs qs =>
      cases qy.tup0 with
      | tup hs2 qs2 =>
        obtain rfl : v = _ := rx
        obtain rfl : u = _ := ry
        obtain ⟨its, r, e1, z⟩ := I.tuple hs
        obtain ⟨its2, r2, e2, z2⟩ := I.tuple hs2
        refine rcIn_tuples e1 e2 (by omega) (items_in I qs qs2 r r2 e (show X.A.units + 1 + 34 < cLine by omega)) ⟨.bl b, H, I, ?_, q⟩
        show Value.bool _ = Value.bool b
        rw [eqIs_all e, qs.length0, qs2.length0, r.length, r2.length]
        simp
  · cases e
theorem op_neT {X : Cx} (hu : X.A.units + 65 < cLine) : OpR X (compareOp .NotEq) (rEqT (cx0 X) true) := by
  intro pins s σ H x y v u Q I rx ry ⟨B, dx, dy, b, qx, qy, e, nt, q⟩
  have nt := nt rfl
  rw [Bool.true_xor] at q
  show wpAny (model X.prog X.w) X.A (richCompare .NotEq v u) (EP X pins σ Q) X.xe s
  cases dx with
  | tup xs =>
    cases dy with
    | tup ys =>
      have e : eqIs xs ys = some b := e
      cases qx.tup0 with
      | tup hs qs =>
        cases qy.tup0 with
        | tup hs2 qs2 =>
          obtain rfl : v = _ := rx
          obtain rfl : u = _ := ry
          obtain ⟨its, r, e1, z⟩ := I.tuple hs
          obtain ⟨its2, r2, e2, z2⟩ := I.tuple hs2
          refine tup_ne e1 e2 (by omega) (items_in I qs qs2 r r2 e (show X.A.units + 1 + 34 < cLine by omega)) ⟨.bl (!b), H, I, ?_, q⟩
          show Value.bool _ = Value.bool (!b)
          rw [eqIs_all e, qs.length0, qs2.length0, r.length, r2.length]
          simp
    | _ => exact absurd nt (by simp [isTup])
  | _ => exact absurd nt (by simp [isTup])
def pEqT (x y : D) : Option D := (eqT x y).map .bl
def pNeT (x y : D) : Option D := if (isTup x && isTup y) = true then (eqT x y).map fun b => .bl (!b) else none
theorem op2_eqT {C : Ct} : Op2 C pEqT (rEqT C.toCt0 false) := by
  intro B r H h x y v w c Q wd rx ry e q
  obtain ⟨b, e1, rfl⟩ := Option.map_eq_some_iff.mp e
  exact ⟨B, x, y, b, rx, ry, e1, (fun z => nomatch z), by rw [Bool.false_xor]; exact q B H _ wd.toOwn.gr (.bl b)⟩
theorem op2_neT {C : Ct} : Op2 C pNeT (rEqT C.toCt0 true) := by
  intro B r H h x y v w c Q wd rx ry e q
  unfold pNeT at e
  split at e
  · rename_i ht
    obtain ⟨b, e1, rfl⟩ := Option.map_eq_some_iff.mp e
    exact ⟨B, x, y, b, rx, ry, e1, fun _ => ht, by rw [Bool.true_xor]; exact q B H _ wd.toOwn.gr (.bl (!b))⟩
  · cases e
/-- the one or the other -/
def pOr (p p' : D → D → Option D) (x y : D) : Option D := match p x y with
  | some c => some c
  | none => p' x y
theorem op2_or {C : Ct} {p p' : D → D → Option D} {rr rr' : R2} (a : Op2 C p rr) (b : Op2 C p' rr') : Op2 C (pOr p p') (fun x y H Q => rr x y H Q ∨ rr' x y H Q) := by
  intro B r H h x y v w c Q wd rx ry e q
  unfold pOr at e
  split at e
  · rename_i e1
    cases e
    exact .inl (a wd rx ry e1 q)
  · exact .inr (b wd rx ry e q)
end
section
variable {X : Cx} {k np : Nat} {f : Addr} {fd : FuncData} {ps : List Str} {m : FM}
abbrev cxj (X : Cx) : Ct := ⟨cx0 X, j0⟩
theorem call_data (F : FnOk X.prog X.w X.K X.mg X.base (L2.CX X.prog X.w) k f fd ps (spM (cxj X) np m)) (hb : Binds X.K fd ps []) {A : Around} (sb : Sub X k A) {pins : List (Addr × Obj)} {σ : L2.St} {H : Hp} {s : Shared} (I : Inv X pins σ H s)
    {B : Bd} (w : Wd (cxj X) B [] H []) {ds : List D} {vs : List V} {us : List Value} (rv : RDs (cx0 X) B H ds vs) (ru : Vals vs us) {d : D} (hl : ds.length = np) (hm : m (ds.map .d) [] = some (.ok (.d d) [])) :
    wpAny (model X.prog X.w) A (call (.ref f) us) (fun v s' => ∃ x B' H', Inv X pins σ H' s' ∧ RelV x v ∧ Gr B H B' H' ∧ RD (cx0 X) B' H' d x) X.xe s := by
  have hsp : spM (cxj X) np m vs H (fun v H' => ∃ B', Gr B H B' H' ∧ RD (cx0 X) B' H' d v) E0 := by
    refine ⟨by rw [← rv.length0]; exact hl, B, [], [], ds.map .d, w, rv.us, ?_⟩
    rw [hm]
    intro B' r' H' v ex w' ru'
    cases ru' with
    | d rd => exact ⟨B', ex.gr w', rd⟩
  have e0 : Env0 X.prog X.w X.K X.mg X.base A X.stack s H := by
    have e := I.env0
    exact ⟨by rw [sb.fr]; exact e.frames, e.mod, e.bs, e.bsz, e.funs, e.frf, e.hok, e.bare⟩
  have hlp := F.len _ _ _ _ hsp
  refine wpAny_call (codeAny_mono (F.run A X.stack s H ⟨us, []⟩ us vs _ E0 sb.room e0 (by
    have := hb s us I.kIn (by rw [List.append_nil, ← ru.length]; exact hlp)
    rw [List.append_nil] at this
    exact this) ru hsp) fun r s' hq => ?_)
  cases r with
  | error e => exact passL pins σ H s e s' I hq
  | ok fl =>
    cases fl with
    | ret w =>
      obtain ⟨z, H', I', rz, B', g, rd⟩ := I.after hq
      exact ⟨z, B', H', I', rz, g, rd⟩
    | next => exact False.elim hq
    | brk => exact False.elim hq
    | cont => exact False.elim hq
end
def ownTy (tb : List (Str × FM)) : D → Bool
  | .non => true
  | .tup _ => true
  | .ins c _ => (tb.lookup c).isSome
  | _ => false
def pOwn (tb : List (Str × FM)) (x y : D) : Option Bool := match x with
  | .ins c _ => (match tb.lookup c with
    | some m => if ownTy tb y = true then (match m [.d x, .d y] [] with
      | some (.ok (.d (.bl b)) []) => some b
      | _ => none) else none
    | none => none)
  | _ => none
/-- what the text has of the classes' == -/
structure OwnEqs (P : Program) (w : World) (K : PySem.W.Frag) (mg : Str → Option Value) (base : Heap) (k : Nat) (tb : List (Str × FM)) : Prop where
  own : ∀ c m, tb.lookup c = some m → ∀ C, mg c = some (.ref C) → ∃ (f : Addr) (fd : FuncData) (ps : List Str), PySem.W.findIn K (.ref C) "__eq__" = some (some (.ref f)) ∧ PySem.W.isFn K (.ref f) = true ∧ Binds K fd ps [] ∧
    FnOk P w K mg base (L2.CX P w) k f fd ps (spM ⟨⟨K, mg, P, w⟩, j0⟩ 2 m) ∧ PySem.W.findIn K (.ref C) "__ne__" = some (some (.builtin "object.__ne__")) ∧ PySem.W.subIn K (.ref C) (.type "object") = some true
  nf : ∀ c m, tb.lookup c = some m → ∀ C, mg c = some (.ref C) → PySem.W.notFirst K C (.type "tuple") = true ∧ PySem.W.notFirst K C (.type "NoneType") = true ∧
    ∀ c' m', tb.lookup c' = some m' → ∀ C', mg c' = some (.ref C') → PySem.W.notFirst K C (.ref C') = true
def rOwn (X : Cx) (tb : List (Str × FM)) (neg : Bool) : R2 := fun x y H Q => ∃ B dx dy b, Wd (cxj X) B [] H [] ∧ RD (cx0 X) B H dx x ∧ RD (cx0 X) B H dy y ∧ pOwn tb dx dy = some b ∧ ∀ B' H', Gr B H B' H' → Q (.bl (xor neg b)) H'
section
variable {prog : Program} {w : World} {A : Around} {E : Value → Shared → Prop} {s : Shared} {K : PySem.W.Frag} {x C L f : Addr} {h₀ : Heap} {m : Str → Option Value} {ox : Obj} {od : Option Obj} {b tb : Value}
open PySem.W in
theorem bound_ne {M : Model} {args : List Value} {Q : Option Value → Shared → Prop} (X : K.In s.heap) (I : InstAt s.heap x ox C od) (hs : findIn K (.ref C) "__ne__" = some (some (.builtin "object.__ne__")))
    (h : wpAny M A (call (.builtin "object.__ne__") (.ref x :: args)) (fun v => Q (some v)) E s) : wpAny M A (callSpecialIfBound? (.ref x) "__ne__" args) Q E s := by
  simp only [callSpecialIfBound?, bindSpecialIfBound?]
  refine wpAny_holding (wpAny_bind (wpAny_bind (wpAny_bind (I.type.here ((looks_findIn X hs).here ?_)))))
  simp only [PySem.F.cmp_object.ne.bind]
  refine wpAny_bind (wpAny_askSetting (wpAny_ite ?_))
  have fin : wpAny M A (call (.builtin "object.__ne__") ([.ref x] ++ args) >>= fun v => pure (some v)) Q E s := wpAny_bind (wpAny_mono h (fun v s' h' => wpAny_pure h') fun _ _ h' => h')
  split
  · exact wpAny_bind (wpAny_pure (wpAny_pure fin))
  · exact wpAny_tryCatch (wpAny_bind (wpAny_pure (wpAny_pure fin)))
open PySem.W in
theorem ne_own {Q : Value → Shared → Prop} (hu : A.units + 1 < cLine) (X : K.In s.heap) (I : InstAt s.heap x ox C od) (hb : Looks (model prog w) s.heap (typeOf b) tb) (hn : notFirst K C tb = true)
    (hne : findIn K (.ref C) "__ne__" = some (some (.builtin "object.__ne__"))) (hob : subIn K (.ref C) (.type "object") = some true) (hs : findIn K (.ref C) "__eq__" = some (some (.ref f))) (hf : isFn K (.ref f) = true)
    (h : wpAny (model prog w) A.in1 (call (.ref f) [.ref x, b]) (fun v s' => ∃ r, v = .bool r ∧ Q (.bool (!r)) s') E s) : wpAny (model prog w) A (richCompare .NotEq (.ref x) b) Q E s := by
  have one : wpAny (model prog w) A (tryCompare (.ref x) "__ne__" b) (fun r s' => ∃ v, r = some v ∧ Q v s') E s := by
    unfold tryCompare
    refine wpAny_bind (bound_ne X I hne ?_)
    refine wpAny_call (codeAny_call_builtin PySem.F.cmp_object.ne.plain PySem.F.cmpEntry_ne (check_slot PySem.F.cmpKind_ne PySem.F.cmpSplit_ne (I.type.andThen (looks_subIn X hob)) (PySem.F.cmpArgs_ne _ _) ?_))
    unfold Builtin.«object.__ne__»
    show wpAny _ _ (cRoomFor "comparison" [Value.ref x, b] >>= _) _ _ _
    refine wpAny_bind (wpAny_cRoomFor (show A.units + 1 < cLine from hu) ?_)
    refine wpAny_bind (ifBound_K X I hs hf (wpAny_mono h (fun v s' hv => ?_) fun _ _ e => e))
    obtain ⟨r, rfl, q⟩ := hv
    refine wpAny_bind (wpAny_truthy_bool ?_)
    refine wpAny_pure ?_
    exact wpAny_pure ⟨_, rfl, q⟩
  unfold richCompare
  simp only [oneThing_ref]
  refine wpAny_holding (wpAny_bind (wpAny_cRoomFor (by omega) ?_))
  refine wpAny_bind (I.type.here (wpAny_bind (hb.here ?_)))
  split
  · rename_i q
    have e : subIn K tb (.ref C) = some false := by
      rcases Bool.or_eq_true_iff.mp hn with e | e
      · rw [beq_iff_eq.mp e] at q; simp at q
      · exact beq_iff_eq.mp e
    refine wpAny_bind ((looks_subIn X e).here ?_)
    simp only [Bool.false_eq_true, if_false]
    refine wpAny_bind (wpAny_mono one (fun r s' z => ?_) fun _ _ e => e)
    obtain ⟨v, rfl, hq⟩ := z
    exact wpAny_pure hq
  · refine wpAny_bind (wpAny_pure ?_)
    simp only [Bool.false_eq_true, if_false]
    refine wpAny_bind (wpAny_mono one (fun r s' z => ?_) fun _ _ e => e)
    obtain ⟨v, rfl, hq⟩ := z
    exact wpAny_pure hq
end
theorem pOwn_some {tb : List (Str × FM)} {x y : D} {b : Bool} (e : pOwn tb x y = some b) : ∃ c fs m, x = .ins c fs ∧ tb.lookup c = some m ∧ ownTy tb y = true ∧ m [.d x, .d y] [] = some (.ok (.d (.bl b)) []) := by
  unfold pOwn at e
  split at e
  · rename_i c fs
    split at e
    · rename_i m hm
      split at e
      · rename_i ht
        split at e
        · rename_i b' hb
          cases e
          exact ⟨c, fs, m, rfl, hm, ht, hb⟩
        · cases e
      · cases e
    · cases e
  · cases e
section
variable {X : Cx} {k : Nat} {tb : List (Str × FM)}
theorem own_ty (T : OwnEqs X.prog X.w X.K X.mg X.base k tb) {c : Str} {m : FM} (hc : tb.lookup c = some m) {C : Addr} (hC : X.mg c = some (.ref C)) {pins : List (Addr × Obj)} {σ : L2.St} {H : Hp} {s : Shared} (I : Inv X pins σ H s) {B : Bd} {y : D} {w : V} {u : Value} (qy : RD (cx0 X) B H y w) (ry : RelV w u)
    (ht : ownTy tb y = true) : ∃ tv, PySem.W.Looks (model X.prog X.w) s.heap (typeOf u) tv ∧ PySem.W.notFirst X.K C tv = true := by
  obtain ⟨n1, n2, n3⟩ := T.nf c m hc C hC
  cases qy with
  | non =>
    obtain rfl : u = Value.none := ry
    exact ⟨_, PySem.W.Looks.of_pure rfl, n2⟩
  | tup hs q =>
    obtain rfl : u = _ := ry
    obtain ⟨its, r, ⟨o, ho, hcl, _⟩, z⟩ := I.tuple hs
    exact ⟨_, hcl ▸ (PySem.W.Looks.ld ho).andThen .now, n1⟩
  | @ins a Cd dx c' ds vs hm nb hH q =>
    obtain rfl : u = _ := ry
    obtain ⟨mA, J, _⟩ := ins_get I.hok hH
    obtain ⟨od, J, _⟩ := J.look
    unfold ownTy at ht
    obtain ⟨m', hm'⟩ := Option.isSome_iff_exists.mp ht
    exact ⟨_, J.type, n3 c' m' hm' Cd hm⟩
  | _ => cases ht
theorem op_ownEq (T : OwnEqs X.prog X.w X.K X.mg X.base k tb) (hr : Room (k + 1) X.A) : OpR X (compareOp .Eq) (rOwn X tb false) := by
  intro pins s σ H x y v u Q I rx ry ⟨B, dx, dy, b, w, qx, qy, e, q⟩
  obtain ⟨c, fs, m, rfl, hl, ht, hm⟩ := pOwn_some e
  have qx0 := qx
  cases qx with
  | @ins a Cd dx c' ds vs hmC nb hH qf =>
    obtain rfl : v = Value.ref a := rx
    obtain ⟨f, fd, ps, h1, h2, h3, h4, h5, h6⟩ := T.own c m hl Cd hmC
    obtain ⟨tv, lk, nf⟩ := own_ty T hl hmC I qy ry ht
    obtain ⟨mA, J, _⟩ := ins_get I.hok hH
    obtain ⟨od, J, _⟩ := J.look
    obtain ⟨mm, hF⟩ := I.fr
    refine PySem.W.cmp_K (op := .Eq) (tb := tv) hr.units0 hF I.ok.mod.kin J lk nf h1 h2 ?_
    refine wpAny_mono (call_data h4 h3 (A := X.A) ⟨hr.mono (Nat.le_succ k), rfl⟩ I w (.cons qx0 (.cons qy .nil)) (.cons (show RelV (V.ref a) (Value.ref a) from rfl) (.cons ry .nil)) rfl hm) (fun r s' ⟨z, B', H', I', rz, g, rd⟩ => ?_) fun _ _ z => z
    cases rd
    obtain rfl : r = Value.bool b := rz
    exact ⟨.bl b, H', I', rfl, by rw [Bool.false_xor] at q; exact q B' H' g⟩
theorem op_ownNe (T : OwnEqs X.prog X.w X.K X.mg X.base k tb) (hr : Room (k + 1) X.A) : OpR X (compareOp .NotEq) (rOwn X tb true) := by
  intro pins s σ H x y v u Q I rx ry ⟨B, dx, dy, b, w, qx, qy, e, q⟩
  obtain ⟨c, fs, m, rfl, hl, ht, hm⟩ := pOwn_some e
  have qx0 := qx
  cases qx with
  | @ins a Cd dx c' ds vs hmC nb hH qf =>
    obtain rfl : v = Value.ref a := rx
    obtain ⟨f, fd, ps, h1, h2, h3, h4, h5, h6⟩ := T.own c m hl Cd hmC
    obtain ⟨tv, lk, nf⟩ := own_ty T hl hmC I qy ry ht
    obtain ⟨mA, J, _⟩ := ins_get I.hok hH
    obtain ⟨od, J, _⟩ := J.look
    refine ne_own (tb := tv) (by have := Room.u65 hr; omega) I.kIn J lk nf h5 h6 h1 h2 ?_
    refine wpAny_mono (call_data h4 h3 (A := X.A.in1) (Sub.in1 ⟨hr, rfl⟩) I w (.cons qx0 (.cons qy .nil)) (.cons (show RelV (V.ref a) (Value.ref a) from rfl) (.cons ry .nil)) rfl hm) (fun r s' ⟨z, B', H', I', rz, g, rd⟩ => ?_) fun _ _ z => z
    cases rd
    obtain rfl : r = Value.bool b := rz
    exact ⟨b, rfl, .bl (!b), H', I', rfl, by rw [Bool.true_xor] at q; exact q B' H' g⟩
end
/-- .. as an expression: of two that are data -/
def ownE (tb : List (Str × FM)) (neg : Bool) (f g : M U) : M U := mbnd f fun x => mbnd g fun y _ h => match x, y with
  | .d dx, .d dy => (match pOwn tb dx dy with
    | some b => some (.ok (.d (.bl (xor neg b))) h)
    | none => none)
  | _, _ => none
theorem t_own {X : Cx} {W : Wj} {tb : List (Str × FM)} {neg : Bool} {f g : M U} {σ : L2.St} {H : Hp} {Q : VK} (t : tI (ctX X W) W (ownE tb neg f g) σ H Q) : tOp (rOwn X tb neg) (tI (ctX X W) W f) (tI (ctX X W) W g) σ H Q := by
  refine tG.bnd t fun x B1 r1 H1 h1 δ v w1 s1 rx q1 => ?_
  refine ⟨B1, r1, h1, δ, w1, s1, q1.bnd w1 s1 fun y B2 r2 H2 h2 w' e2 w2 s2 ry q2 => ?_⟩
  have rx2 := rx.ext e2 w1.toOwn
  try dsimp only at q2
  split at q2
  · rename_i dx dy
    cases hp : pOwn tb dx dy with
    | none => rw [hp] at q2; exact q2.elim
    | some b =>
      rw [hp] at q2
      cases rx2 with
      | d rx2 =>
        cases ry with
        | d ry => exact ⟨B2, dx, dy, b, w2.bare0 rfl, rx2, ry, hp, fun B' H' g => EQ.gr w2 q2 g (.d (.bl _))⟩
  · exact q2.elim
section
variable {X : Cx} {W : Wj} {pos : Pos} {a b : Expr} {f g : M U} {k : Nat} {tb : List (Str × FM)}
theorem re_own (T : OwnEqs X.prog X.w X.K X.mg X.base k tb) (hr : Room (k + 1) X.A) (ha : RE X W a f) (hb : RE X W b g) : RE X W (.Compare a [.Eq] [b] pos) (ownE tb false f g) :=
  pe_imp (pe_cmpR (op_ownEq T hr) ha hb (nomark _)) fun _ _ _ t => t_own t
theorem re_ownN (T : OwnEqs X.prog X.w X.K X.mg X.base k tb) (hr : Room (k + 1) X.A) (ha : RE X W a f) (hb : RE X W b g) : RE X W (.Compare a [.NotEq] [b] pos) (ownE tb true f g) :=
  pe_imp (pe_cmpR (op_ownNe T hr) ha hb (nomark _)) fun _ _ _ t => t_own t
theorem rt_own (T : OwnEqs X.prog X.w X.K X.mg X.base k tb) (hr : Room (k + 1) X.A) (ha : RE X W a f) (hb : RE X W b g) : RT X W (.Compare a [.Eq] [b] pos) (tst (ownE tb false f g)) :=
  pt_imp (pt_cmpR (op_ownEq T hr) ha hb (nomark _)) fun _ _ _ t => t_own (t_tst t)
theorem rt_ownN (T : OwnEqs X.prog X.w X.K X.mg X.base k tb) (hr : Room (k + 1) X.A) (ha : RE X W a f) (hb : RE X W b g) : RT X W (.Compare a [.NotEq] [b] pos) (tst (ownE tb true f g)) :=
  pt_imp (pt_cmpR (op_ownNe T hr) ha hb (nomark _)) fun _ _ _ t => t_own (t_tst t)
end
structure OwnBools (P : Program) (w : World) (K : PySem.W.Frag) (mg : Str → Option Value) (base : Heap) (k : Nat) (tb : List (Str × FM)) : Prop where
  own : ∀ c m, tb.lookup c = some m → ∀ C, mg c = some (.ref C) → ∃ (f : Addr) (fd : FuncData) (ps : List Str), PySem.W.findIn K (.ref C) "__bool__" = some (some (.ref f)) ∧ PySem.W.isFn K (.ref f) = true ∧ Binds K fd ps [] ∧
    FnOk P w K mg base (L2.CX P w) k f fd ps (spM ⟨⟨K, mg, P, w⟩, j0⟩ 1 m)
def pBoolO (tb : List (Str × FM)) (x : D) : Option Bool := match x with
  | .ins c _ => (match tb.lookup c with
    | some m => (match m [.d x] [] with
      | some (.ok (.d (.bl b)) []) => some b
      | _ => none)
    | none => none)
  | _ => none
theorem pBoolO_some {tb : List (Str × FM)} {x : D} {b : Bool} (e : pBoolO tb x = some b) : ∃ c fs m, x = .ins c fs ∧ tb.lookup c = some m ∧ m [.d x] [] = some (.ok (.d (.bl b)) []) := by
  unfold pBoolO at e
  split at e
  · rename_i c fs
    split at e
    · rename_i m hm
      split at e
      · rename_i b' hb
        cases e
        exact ⟨c, fs, m, rfl, hm, hb⟩
      · cases e
    · cases e
  · cases e
section
variable {prog : Program} {w : World} {A : Around} {E : Value → Shared → Prop} {s : Shared}
theorem call_bool_own {x : Value} {Q : Value → Shared → Prop} (h : wpAny (model prog w) A.in1.in1 (truthy x) (fun r s' => Q (.bool r) s') E s) : wpAny (model prog w) A (call (.type "bool") [x]) Q E s := by
  refine callType_newIn PySem.F.called_bool PySem.F.newNe_bool (PySem.F.typeCall_bool_1 x) (PySem.F.newCall_bool_1 x) (fun obj => PySem.F.args_object_init_2 obj x) PySem.F.entry_bool_new
    (S := fun A R s => wpAny (model prog w) A.in1 (truthy x) (fun r s' => R (.ok (.ret (.bool r))) s') (fun e s' => R (.error e) s') s) (MeetsIn.of_wp fun A R s hs => ?_) (wpAny_mono h (fun r s' q => ⟨rfl, q⟩) fun _ _ z => z)
  have f1 := PySem.F.conv_sub_bool
  obtain ⟨hp, g, d, tk, os⟩ := s
  repeat (any_goals (first | assumption | (with_reducible refine wpAny_mono hs (fun r s' q => ?_) (fun _ _ z => z)) | wp_step))
  all_goals first | exact ⟨_, rfl, q⟩ | exact q | skip
end
theorem call_boolO {X : Cx} {k : Nat} {tb : List (Str × FM)} (T : OwnBools X.prog X.w X.K X.mg X.base k tb) (hr : Room (k + 2) X.A) : CallR X (.type "bool") (fun xs H Q => ∃ B x dx b, xs = [x] ∧ Wd (cxj X) B [] H [] ∧ RD (cx0 X) B H dx x ∧ pBoolO tb dx = some b ∧ ∀ B' H', Gr B H B' H' → Q (.bl b) H') := by
  intro pins s σ H xs us Q I r ⟨B, x, dx, b, e1, w, qx, e, q⟩
  subst e1
  obtain ⟨c, fs, m, rfl, hl, hm⟩ := pBoolO_some e
  have qx0 := qx
  cases qx with
  | @ins a Cd dx c' ds vs hmC nb hH qf =>
    obtain rfl := Vals.ref1 r
    obtain ⟨f, fd, ps, h1, h2, h3, h4⟩ := T.own c m hl Cd hmC
    obtain ⟨mA, J, _⟩ := ins_get I.hok hH
    obtain ⟨od, J, _⟩ := J.look
    obtain ⟨mm, hF⟩ := I.fr
    refine call_bool_own (PySem.W.truthy_K hF I.ok.mod.kin J h1 h2 ?_)
    refine wpAny_mono (call_data h4 h3 (A := X.A.in1.in1) (Sub.in1 (Sub.in1 (n := k + 1) ⟨hr, rfl⟩)) I w (.cons qx0 .nil) (.cons (show RelV (V.ref a) (Value.ref a) from rfl) .nil) rfl hm) (fun r s' ⟨z, B', H', I', rz, g, rd⟩ => ?_) fun _ _ z => z
    cases rd
    obtain rfl : r = Value.bool b := rz
    exact ⟨.bl b, H', I', rfl, q B' H' g⟩
def boolOE (tb : List (Str × FM)) (f : M (List U)) : M U := mbnd f fun us _ h => match us with
  | [.d dx] => (match pBoolO tb dx with
    | some b => some (.ok (.d (.bl b)) h)
    | none => none)
  | _ => none
section
variable {X : Cx} {W : Wj} {pos p : Pos} {e : Expr} {g : M (List U)} {k : Nat} {tb : List (Str × FM)}
theorem re_boolO (T : OwnBools X.prog X.w X.K X.mg X.base k tb) (hr : Room (k + 2) X.A) (hm : X.mg "bool" = none) (ha : RA X W [e] g) (hg : Gl X "bool" := by rfl)
    (he : starEach [e] X.env = (false, eval e X.env) :: starEach [] X.env := by rfl) (hpl : (backTo pos (starEach [] X.env)).any (·.1) = false := by rfl) : RE X W (.Call (.Name "bool" p) [e] [] pos) (boolOE tb g) :=
  pe_imp (pe_callTy (call_boolO T hr) hg hm rfl ha (by decide) (by decide) he hpl) fun σ H Q t => tG.bnd t fun us B r H1 h δ vs w s ru q => by
    try dsimp only at q
    split at q
    · rename_i dx
      cases hp : pBoolO tb dx with
      | none => rw [hp] at q; exact q.elim
      | some b =>
        rw [hp] at q
        obtain ⟨v, rfl, r1⟩ := ru.one
        cases r1 with
        | d r1 => exact ⟨B, v, dx, b, rfl, w.bare0 rfl, r1, hp, fun B' H' g => EQ.gr w q g (.d (.bl _))⟩
    · exact q.elim
end
def madeL (n : Nat) : Option (R U) → Option (R U)
  | some (.ok (.d .non) h) => (match h[n]? with
    | some (.ins _ _) => some (.ok (.loc n) h)
    | _ => none)
  | _ => none
def makeM (c : Str) (np : Nat) (m : FM) (g : M (List U)) : M U := mbnd g fun us _ h => if us.length + 1 = np then madeL h.length (m (.loc h.length :: us) (h ++ [.ins c []])) else none
theorem madeL_some {n : Nat} {x : Option (R U)} {y : R U} (e : madeL n x = some y) : ∃ h c us, x = some (.ok (.d .non) h) ∧ h[n]? = some (.ins c us) ∧ y = .ok (.loc n) h := by
  unfold madeL at e
  split at e
  · split at e
    · rename_i h c us hc
      cases e
      exact ⟨_, _, _, rfl, hc, rfl⟩
    · cases e
  · cases e
section
variable {X : Cx} {W : Wj} {k np : Nat} {c : Str} {m : FM} {p pos : Pos} {e : Expr} {es : List Expr} {g : M (List U)}
theorem re_makeM (F : MkAt X.prog X.w X.K X.mg X.base k c np m) (hr : Room (k + 1) X.A) (tk : Takes X W.w) (ha : RA X W (e :: es) g) (hj : W.j = j0 := by rfl) (hg : Gl X c := by rfl) (hdb : (c == ("__debug__" : Str)) = false := by decide)
    (he : starEach (e :: es) X.env = (false, eval e X.env) :: starEach es X.env := by rfl) (hpl : (backTo pos (starEach es X.env)).any (·.1) = false := by rfl) :
    RE X W (.Call (.Name c p) (e :: es) [] pos) (makeM c np m g) := by
  obtain ⟨C, f, fd, ps, hm, hM, hb, ok⟩ := F.ex
  have ec : ctX X W = ⟨⟨X.K, X.mg, X.prog, X.w⟩, j0⟩ := by unfold ctX; rw [hj]
  refine pe_imp (pe_makeS (E := WE W.w) hM ok hr hg hm hb (passAt tk) ha hdb he hpl) fun σ H Q t => tG.bnd t fun us B r H1 h δ vs w s ru q => ?_
  try dsimp only at q
  rw [ec] at w ru q
  by_cases hl : us.length + 1 = np
  · rw [if_pos hl] at q
    intro x dx nx nd ne
    have g1 : Gr B H1 B (upd H1 dx (.own x)) := w.toOwn.new nd (.own x)
    have w1 := g1.wd w
    have nx1 : upd H1 dx (.own x) x = none := by
      rw [upd_ne (Ne.symm ne)]
      exact nx
    obtain ⟨ex, w2⟩ := w1.add (o := .ins c []) nx1 (notup_ins (fs := [])) fun ex => ⟨C, dx, [], hm, upd_same, .nil⟩
    have ex1 : Ext B r H1 _ _ _ := (g1.ext (r := r)).tr w.toOwn ex
    have ru2 := ru.ext ex1 w.toOwn
    refine ⟨by show vs.length + 1 = np; rw [← ru.length]; exact hl, _, _, _, .loc h.length :: us, w2, .cons (.loc (by rw [← w.len]; simp)) ru2, ?_⟩
    cases hx : madeL h.length (m (.loc h.length :: us) (h ++ [.ins c []])) with
    | none => rw [hx] at q; exact q.elim
    | some y =>
      rw [hx] at q
      obtain ⟨h2, c2, us2, e1, e2, rfl⟩ := madeL_some hx
      rw [e1]
      intro B' r' H' v e3 w' rv
      cases rv with
      | d rv =>
        cases rv
        refine ⟨rfl, q B' r' H' _ (ex1.tr w.toOwn e3) w' (.loc ?_)⟩
        have hn : (r ++ [some x])[h.length]? = some (some x) := by rw [← w.len]; simp
        rcases e3.rho _ _ hn with z | z
        · exact z
        · have := w'.gon _ z
          rw [e2] at this
          cases this
  · rw [if_neg hl] at q
    exact q.elim
end
mutual
def flD : D → Bool
  | .non => true
  | .bl _ => true
  | .int _ => true
  | .str _ => true
  | .tup xs => flDs xs
  | _ => false
def flDs : List D → Bool
  | [] => true
  | x :: xs => flD x && flDs xs
end
section
variable {C : Ct0} {B B' : Bd} {H H' : Hp}
mutual
theorem RD.fl (k : ∀ a vs, SqT C.K H a vs → SqT C.K H' a vs) : ∀ {d : D} {v : V}, RD C B H d v → flD d = true → RD C B' H' d v
  | .non, _, h, _ => by cases h; exact .non
  | .bl b, _, h, _ => by cases h; exact .bl b
  | .int i, _, h, _ => by cases h; exact .int i
  | .str x, _, h, _ => by cases h; exact .str x
  | .tup xs, _, h, e => by
    cases h with
    | tup hs q => exact .tup (k _ _ hs) (RDs.fl k q e)
  | .lst _, _, _, e => by cases e
  | .dct _, _, _, e => by cases e
  | .ins _ _, _, _, e => by cases e
  | .raw _, _, _, e => by cases e
  | .scr _, _, _, e => by cases e
  | .ndct _, _, _, e => by cases e
  | .fn _, _, _, e => by cases e
theorem RDs.fl (k : ∀ a vs, SqT C.K H a vs → SqT C.K H' a vs) : ∀ {d : List D} {v : List V}, RDs C B H d v → flDs d = true → RDs C B' H' d v
  | [], _, h, _ => by cases h; exact .nil
  | x :: xs, _, h, e => by
    cases h with
    | cons a b =>
      unfold flDs at e
      rw [Bool.and_eq_true] at e
      exact .cons (RD.fl k a e.1) (RDs.fl k b e.2)
end
end
def flU : U → Bool
  | .d x => flD x
  | _ => false
def flO : O → Bool
  | .lst us => us.all flU
  | .ndct kvs => kvs.all fun p => flD p.1 && flU p.2
  | _ => false
section
variable {C : Ct} {B B' : Bd} {r r' : Rho} {H H' : Hp}
theorem RU.fl (k : ∀ a vs, SqT C.K H a vs → SqT C.K H' a vs) {u : U} {v : V} (h : RU C B r H u v) (e : flU u = true) : RU C B' r' H' u v := by
  cases h with
  | d h => exact .d (h.fl k e)
  | _ => cases e
theorem RUs.fl (k : ∀ a vs, SqT C.K H a vs → SqT C.K H' a vs) : ∀ {u : List U} {v : List V}, RUs C B r H u v → u.all flU = true → RUs C B' r' H' u v
  | _, _, .nil, _ => .nil
  | _, _, .cons a b, e => by
    rw [List.all_cons, Bool.and_eq_true] at e
    exact .cons (a.fl k e.1) (RUs.fl k b e.2)
theorem RUn.fl (k : ∀ a vs, SqT C.K H a vs → SqT C.K H' a vs) : ∀ {u : List (D × U)} {v : List NK}, RUn C B r H u v → (u.all fun p => flD p.1 && flU p.2) = true → RUn C B' r' H' u v
  | _, _, .nil, _ => .nil
  | _, _, .cons e1 c a b, e => by
    rw [List.all_cons, Bool.and_eq_true, Bool.and_eq_true] at e
    exact .cons e1 (c.fl k e.1.1) (a.fl k e.1.2) (RUn.fl k b e.2)
theorem RO.fl (k : ∀ a vs, SqT C.K H a vs → SqT C.K H' a vs) {a : Addr} (hk : H' a = H a) : ∀ {o : O}, RO C B r H a o → flO o = true → RO C B' r' H' a o
  | .lst us, ⟨vs, h, q⟩, e => ⟨vs, hk.trans h, q.fl k e⟩
  | .ndct us, ⟨vs, h, q⟩, e => ⟨vs, hk.trans h, q.fl k e⟩
  | .dct _, _, e => by cases e
  | .ins _ _, _, e => by cases e
  | .gone, _, e => by cases e
  | .deq _, _, e => by cases e
theorem RO.nt {a : Addr} : ∀ {o : O}, RO C B r H a o → flO o = true → ∀ vs, ¬ Rd H a (.tup vs)
  | .lst us, ⟨vs, h, q⟩, e, ws, z => by rcases z with z | ⟨_, z⟩ <;> (rw [h] at z; cases z)
  | .ndct us, ⟨vs, h, q⟩, e, ws, z => by rcases z with z | ⟨_, z⟩ <;> (rw [h] at z; cases z)
  | .dct _, _, e, _, _ => by cases e
  | .ins _ _, _, e, _, _ => by cases e
  | .gone, _, e, _, _ => by cases e
  | .deq _, _, e, _, _ => by cases e
end
def lk1 (h : Hea) (k : Nat) (u : U) : Option D := match u with
  | .d x => some x
  | .loc n => match h[n]? with
    | some (.lst us) => (allD us).map .lst
    | some (.ndct kvs) => if n = k then (allK kvs).map .ndct else none
    | _ => none
  | .tup us => (allD us).map .tup
def lks (h : Hea) (k : Nat) : List U → Option (List D)
  | [] => some []
  | u :: us => match lk1 h k u, lks h k us with
    | some x, some xs => some (x :: xs)
    | _, _ => none
def lkD (h : Hea) (k : Nat) (u : U) : Option D := match u with
  | .loc n => match h[n]? with
    | some (.lst us) => (lks h k us).map .lst
    | _ => lk1 h k u
  | u => lk1 h k u
def lkS (h : Hea) (k : Nat) (δ : Sl) : Sl := δ.map fun o => match o with
  | some u => (lkD h k u).map U.d
  | none => none
/-- the bare state -/
def Bb (B : Bd) (r : Rho) : Bd := fun b => B b ∧ ¬ Lv r b
section
variable {C : Ct} {B : Bd} {r : Rho} {H Hl : Hp} {h : Hea} {k : Nat}
/-- what is there, is so when locked -/
structure Lkd (C : Ct) (B : Bd) (r : Rho) (H Hl : Hp) (h : Hea) (k : Nat) : Prop where
  off : ∀ b o, ¬ Lv r b → H b = some o → Hl b = some o
  thr : ∀ b o, H b = some o → ∃ o', Hl b = some o'
  lst : ∀ b vs, H b = some (.lst vs) → Hl b = some (.lst vs)
  dic : ∀ n a kvs, n = k → h[n]? = some (.ndct kvs) → r[n]? = some (some a) → ∀ xs, H a = some (dN C.P C.w a xs) → ∃ od, Hl a = some (.frz od (dN C.P C.w a xs))
theorem Lkd.ext (L : Lkd C B r H Hl h k) (w : Wd C B r H h) : Ext B r H (Bb B r) (r.map fun _ => none) Hl where
  rho := fun n x z => .inr (by rw [List.getElem?_map, z]; rfl)
  rnew := fun n a h1 h2 => by
    rw [List.getElem?_map] at h2
    cases z : r[n]? with
    | none => rw [z] at h2; cases h2
    | some _ => rw [z] at h2; cases h2
  keep := fun b o nl z => L.off b o nl z
  bnew := fun b z => .inl z.1
  bold := fun b z nl => ⟨z, nl⟩
  there := L.thr
  dom := fun b z => by
    obtain ⟨o, ho⟩ := w.dom b z.1
    exact L.thr b o ho
theorem Lkd.wd (L : Lkd C B r H Hl h k) (w : Wd C B r H h) : Wd C (Bb B r) [] Hl [] where
  own := fun a ⟨n, z⟩ => by simp at z
  notup := fun b z vs y => by
    obtain ⟨o, ho⟩ := w.dom b z.1
    have z1 := L.off b o z.2 ho
    refine w.notup b z.1 vs ?_
    unfold Rd at y ⊢
    rw [z1] at y
    rw [ho]
    exact y
  dom := (L.ext w).dom
  len := rfl
  obj := fun n a z => by simp at z
  gon := fun n z => by simp at z
  inj := fun n m a z => by simp at z
  jx := C.j.st _ _ _ _ _ _ _ w.toOwn (L.ext w) w.jx
theorem Lkd.rd (L : Lkd C B r H Hl h k) (w : Wd C B r H h) {x : D} {v : V} (q : RD C.toCt0 B H x v) : RD C.toCt0 (Bb B r) Hl x v := q.ext (L.ext w) w.toOwn
theorem Lkd.nb {n : Nat} {a : Addr} (hn : r[n]? = some (some a)) : ¬ Bb B r a := fun z => z.2 ⟨n, hn⟩
theorem Lkd.n (L : Lkd C B r H Hl h k) (w : Wd C B r H h) : ∀ {ds : List (D × D)} {xs : List NK}, RDn C.toCt0 B H ds xs → RDn C.toCt0 (Bb B r) Hl ds xs := fun q => q.ext (L.ext w) w.toOwn
theorem Lkd.v1 (L : Lkd C B r H Hl h k) (w : Wd C B r H h) {u : U} {v : V} {d : D} (q : RU C B r H u v) (e : lk1 h k u = some d) : RD C.toCt0 (Bb B r) Hl d v := by
  cases q with
  | d q => cases e; exact L.rd w q
  | @loc n a hn =>
    obtain ⟨o, ho, ro⟩ := w.obj _ _ hn
    unfold lk1 at e
    simp only [ho] at e
    cases o with
    | lst us =>
      obtain ⟨vs, hH, qs⟩ := ro
      obtain ⟨ds, h1, rfl⟩ := Option.map_eq_some_iff.mp e
      exact .lst ⟨Lkd.nb hn, L.lst _ _ hH⟩ ((qs.allD h1).ext (L.ext w) w.toOwn)
    | ndct kvs =>
      obtain ⟨xs, hH, qs⟩ := ro
      dsimp only at e
      split at e
      · rename_i hk
        obtain ⟨ds, h1, rfl⟩ := Option.map_eq_some_iff.mp e
        obtain ⟨od, hl⟩ := L.dic n a kvs hk ho hn xs hH
        exact .ndct (Lkd.nb hn) hl (L.n w (qs.allK h1))
      · cases e
    | _ => cases e
  | @gone n v hn =>
    unfold lk1 at e
    simp only [w.gon n hn] at e
    cases e
  | tup hs qs =>
    obtain ⟨ds, h1, rfl⟩ := Option.map_eq_some_iff.mp (show (allD _).map D.tup = some d from e)
    exact L.rd w (.tup hs (qs.allD h1))
theorem Lkd.vs (L : Lkd C B r H Hl h k) (w : Wd C B r H h) : ∀ {us : List U} {vs : List V} {ds : List D}, RUs C B r H us vs → lks h k us = some ds → RDs C.toCt0 (Bb B r) Hl ds vs
  | _, _, _, .nil, e => by cases e; exact .nil
  | _, _, _, .cons a b, e => by
    unfold lks at e
    split at e
    · rename_i x xs e1 e2
      cases e
      exact .cons (L.v1 w a e1) (Lkd.vs L w b e2)
    · cases e
theorem Lkd.v (L : Lkd C B r H Hl h k) (w : Wd C B r H h) {u : U} {v : V} {d : D} (q : RU C B r H u v) (e : lkD h k u = some d) : RD C.toCt0 (Bb B r) Hl d v := by
  cases q with
  | d q => exact L.v1 w (.d q) e
  | @loc n a hn =>
    obtain ⟨o, ho, ro⟩ := id (w.obj _ _ hn)
    unfold lkD at e
    simp only [ho] at e
    cases o with
    | lst us =>
      obtain ⟨vs, hH, qs⟩ := ro
      obtain ⟨ds, h1, rfl⟩ := Option.map_eq_some_iff.mp e
      exact .lst ⟨Lkd.nb hn, L.lst _ _ hH⟩ (L.vs w qs h1)
    | _ => exact L.v1 w (.loc hn) e
  | @gone n v hn =>
    unfold lkD at e
    simp only [w.gon n hn] at e
    exact L.v1 w (.gone hn) e
  | tup hs qs => exact L.v1 w (.tup hs qs) e
theorem Lkd.sl (L : Lkd C B r H Hl h k) (w : Wd C B r H h) {σ : L2.St} {δ : Sl} (s : SlR C B r H σ δ) : SlR C (Bb B r) [] Hl σ (lkS h k δ) := by
  refine ⟨by unfold lkS; rw [List.length_map]; exact s.len, fun i u hu => ?_, s.xi⟩
  unfold lkS at hu
  rw [List.getElem?_map] at hu
  cases hx : δ[i]? with
  | none => rw [hx] at hu; cases hu
  | some o =>
    rw [hx] at hu
    cases o with
    | none => cases hu
    | some u0 =>
      obtain ⟨v, h1, h2⟩ := s.at_ i u0 hx
      have z : (lkD h k u0).map U.d = some u := Option.some.inj hu
      obtain ⟨d, h3, rfl⟩ := Option.map_eq_some_iff.mp z
      exact ⟨v, h1, .d (L.v w h2 h3)⟩
/-- .. and back, with one new thing -/
theorem Lkd.back (L : Lkd C B r H Hl h k) (w : Wd C B r H h) {B1 : Bd} {r1 : Rho} {H1 H2 : Hp} {o : O} {v : V} (ex : Ext (Bb B r) [] Hl B1 r1 H1) (w1 : Wd C B1 r1 H1 [o]) (rv : RU C B1 r1 H1 (.loc 0) v) (fl : flO o = true)
    (k1 : ∀ b, Lv r b → H2 b = H b) (k2 : ∀ b o, ¬ Lv r b → H1 b = some o → H2 b = some o) (k3 : ∀ b vs, SqT C.K H1 b vs → SqT C.K H2 b vs) :
    ∃ B2 r2, Ext B r H B2 r2 H2 ∧ Wd C B2 r2 H2 (h ++ [o]) ∧ RU C B2 r2 H2 (.loc h.length) v := by
  cases rv with
  | gone hn =>
    have := w1.gon 0 hn
    cases o <;> first | (cases fl) | (cases this)
  | @loc _ p hn =>
    obtain ⟨o', ho', ro⟩ := w1.obj 0 p hn
    cases ho'
    have hlp : Hl p = none := ex.rnew 0 p (Nat.le_refl _) hn
    have hp : H p = none := by
      cases z : H p with
      | none => rfl
      | some o' =>
        obtain ⟨o2, z2⟩ := L.thr p o' z
        rw [hlp] at z2
        cases z2
    have nlp : ¬ Lv r p := fun ⟨n, z⟩ => by
      obtain ⟨x, hx⟩ := w.dom p (w.own p ⟨n, z⟩)
      rw [hp] at hx
      cases hx
    have hp1 : ∃ x, H1 p = some x := w1.dom p (w1.own p ⟨0, hn⟩)
    have hp2 : H2 p = H1 p := by
      obtain ⟨x, hx⟩ := hp1
      rw [hx]
      exact k2 p x nlp hx
    have nl0 : ∀ b, ¬ Lv ([] : Rho) b := fun b ⟨n, z⟩ => by simp at z
    have kp : ∀ b o, H b = some o → H2 b = some o := fun b o z => by
      by_cases hb : Lv r b
      · rw [k1 b hb]
        exact z
      · exact k2 b o hb (ex.keep b o (nl0 b) (L.off b o hb z))
    have e2 : Ext B r H (fun b => B b ∨ b = p) (r ++ [some p]) H2 :=
      { rho := fun n x z => .inl (by rw [List.getElem?_append_left (List.getElem?_eq_some_iff.mp z).1]; exact z)
        rnew := fun n a h1 h2 => by
          rw [List.getElem?_append_right h1] at h2
          cases hx : n - r.length with
          | zero => rw [hx] at h2; cases h2; exact hp
          | succ m => rw [hx] at h2; simp at h2
        keep := fun b o _ z => kp b o z
        bnew := fun b z => by
          rcases z with z | rfl
          · exact .inl z
          · exact .inr hp
        bold := fun b z _ => .inl z
        there := fun b o z => ⟨o, kp b o z⟩
        dom := fun b z => by
          rcases z with z | rfl
          · obtain ⟨x, hx⟩ := w.dom b z
            exact ⟨x, kp b x hx⟩
          · obtain ⟨x, hx⟩ := hp1
            exact ⟨x, hp2.trans hx⟩ }
    have new : ∀ n a, (r ++ [some p])[n]? = some (some a) → (r[n]? = some (some a)) ∨ (n = r.length ∧ a = p) := fun n a z => by
      by_cases hl : n < r.length
      · rw [List.getElem?_append_left hl] at z
        exact .inl z
      · rw [List.getElem?_append_right (Nat.le_of_not_lt hl)] at z
        cases hx : n - r.length with
        | zero =>
          rw [hx] at z
          cases z
          exact .inr ⟨by omega, rfl⟩
        | succ m => rw [hx] at z; simp at z
    refine ⟨_, _, e2, { own := fun a ⟨n, z⟩ => ?_, notup := fun b z vs y => ?_, dom := e2.dom, len := by simp [w.len], obj := fun n a z => ?_, gon := fun n z => ?_, inj := fun n m a z1 z2 => ?_, jx := C.j.st _ _ _ _ _ _ _ w.toOwn e2 w.jx }, .loc (by rw [← w.len]; simp)⟩
    · rcases new n a z with z | ⟨_, rfl⟩
      · exact .inl (w.own a ⟨n, z⟩)
      · exact .inr rfl
    · rcases z with z | rfl
      · obtain ⟨x, hx⟩ := w.dom b z
        exact w.notup b z vs (rd_back hx (fun o ho => kp b o ho) y)
      · refine ro.nt fl vs ?_
        unfold Rd at y ⊢
        rw [hp2] at y
        exact y
    · rcases new n a z with z | ⟨rfl, rfl⟩
      · obtain ⟨o2, h2, q⟩ := w.obj n a z
        exact ⟨o2, by rw [List.getElem?_append_left (List.getElem?_eq_some_iff.mp h2).1]; exact h2, q.ext e2 w.toOwn (k1 a ⟨n, z⟩)⟩
      · exact ⟨o, by rw [w.len]; simp, ro.fl k3 hp2 fl⟩
    · by_cases hl : n < r.length
      · rw [List.getElem?_append_left hl] at z
        rw [List.getElem?_append_left (by rw [← w.len]; exact hl)]
        exact w.gon n z
      · rw [List.getElem?_append_right (Nat.le_of_not_lt hl)] at z
        cases hx : n - r.length with
        | zero => rw [hx] at z; cases z
        | succ m => rw [hx] at z; simp at z
    · have ne : ∀ n, r[n]? = some (some p) → False := fun n z => nlp ⟨n, z⟩
      rcases new n a z1 with y1 | ⟨rfl, rfl⟩ <;> rcases new m _ z2 with y2 | ⟨rfl, y3⟩
      · exact w.inj n m a y1 y2
      · subst y3; exact (ne _ y1).elim
      · exact (ne _ y2).elim
      · rfl
end
def lkK (sel : Sl → Hea → Option Nat) (δ : Sl) (h : Hea) : Nat := match sel δ h with
  | some n => (match h[n]? with
    | some (.ndct _) => n
    | _ => h.length)
  | none => h.length
def lkR (h : Hea) : Option (R U) → Option (R U)
  | some (.ok (.loc 0) [o]) => if flO o = true then some (.ok (.loc h.length) (h ++ [o])) else none
  | _ => none
def lkE (sel : Sl → Hea → Option Nat) (f : M U) : M U := fun δ h => lkR h (f (lkS h (lkK sel δ h) δ) [])
/-- the dict that a name holds; that stands in a list that a name holds -/
def selV (i : Nat) : Sl → Hea → Option Nat := fun δ _ => match δ[i]? with
  | some (some (.loc n)) => some n
  | _ => none
def selI (i j : Nat) : Sl → Hea → Option Nat := fun δ h => match δ[i]? with
  | some (some (.loc n)) => (match h[n]? with
    | some (.lst us) => (match us[j]? with
      | some (.loc m) => some m
      | _ => none)
    | _ => none)
  | _ => none
theorem lkR_some {h : Hea} {x : Option (R U)} {y : R U} (e : lkR h x = some y) : ∃ o, x = some (.ok (.loc 0) [o]) ∧ flO o = true ∧ y = .ok (.loc h.length) (h ++ [o]) := by
  unfold lkR at e
  split at e
  · split at e
    · rename_i hf
      cases e
      exact ⟨_, rfl, hf, rfl⟩
    · cases e
  · cases e
theorem pe_or {X : Cx} {e : Expr} {t t' : TE} (a : PE X e t) (b : PE X e t') : PE X e (fun σ H Q => t σ H Q ∨ t' σ H Q) := ⟨fun pins s σ H Q I q => q.elim (a.run pins s σ H Q I) (b.run pins s σ H Q I)⟩
theorem re_lk {X : Cx} {W : Wj} {e : Expr} {f : M U} (sel : Sl → Hea → Option Nat) (he : RE X W e f) : RE X W e (lkE sel f) := by
  refine pe_imp (pe_or he (pe_lock he)) fun σ H Q ⟨B, r, h, δ, w, s, q⟩ => ?_
  have go : ∀ {Hl : Hp} {k : Nat} {Q' : VK} (L : Lkd (ctX X W) B r H Hl h k), lkK sel δ h = k → (∀ B1 r1 H1 o v, Ext (Bb B r) [] Hl B1 r1 H1 → Wd (ctX X W) B1 r1 H1 [o] → RU (ctX X W) B1 r1 H1 (.loc 0) v → flO o = true →
      (∀ B2 r2 H2, Ext B r H B2 r2 H2 → Wd (ctX X W) B2 r2 H2 (h ++ [o]) → RU (ctX X W) B2 r2 H2 (.loc h.length) v → Q v H2) → Q' v H1) → tI (ctX X W) W f σ Hl Q' := fun {Hl k Q'} L hk n => by
    subst hk
    refine ⟨Bb B r, [], [], _, L.wd w, L.sl w s, ?_⟩
    unfold lkE at q
    cases hx : lkR h (f (lkS h (lkK sel δ h) δ) []) with
    | none => rw [hx] at q; exact q.elim
    | some y =>
      rw [hx] at q
      obtain ⟨o, e1, fl, rfl⟩ := lkR_some hx
      rw [e1]
      intro B1 r1 H1 v ex w1 rv
      exact n B1 r1 H1 o v ex w1 rv fl fun B2 r2 H2 e2 w2 ru => q B2 r2 H2 v e2 w2 ru
  have nl0 : ∀ b, ¬ Lv ([] : Rho) b := fun b ⟨n, z⟩ => by simp at z
  have none_ : lkK sel δ h = h.length → tI (ctX X W) W f σ H Q := fun hk => by
    have L : Lkd (ctX X W) B r H H h h.length := ⟨fun _ _ _ z => z, fun _ o z => ⟨o, z⟩, fun _ _ z => z, fun n a kvs e z => by
      subst e
      simp at z⟩
    refine go L hk fun B1 r1 H1 o v ex w1 rv fl n => ?_
    obtain ⟨B2, r2, e2, w2, ru⟩ := L.back w ex w1 rv fl (H2 := H1) (fun b ⟨m, z⟩ => by
      obtain ⟨x, hx⟩ := w.dom b (w.own b ⟨m, z⟩)
      rw [hx]
      exact ex.keep b x (nl0 b) hx) (fun _ _ _ z => z) fun _ _ z => z
    exact n B2 r2 H1 e2 w2 ru
  cases hs : sel δ h with
  | none => exact .inl (none_ (by unfold lkK; rw [hs]))
  | some n =>
    cases ho : h[n]? with
    | none => exact .inl (none_ (by unfold lkK; rw [hs]; simp only [ho]))
    | some ob =>
      cases ob with
      | ndct kvs =>
        have hk : lkK sel δ h = n := by unfold lkK; rw [hs]; simp only [ho]
        have hl : n < r.length := by rw [w.len]; exact (List.getElem?_eq_some_iff.mp ho).1
        have hr : r[n]? = some r[n] := List.getElem?_eq_getElem hl
        cases hx : r[n] with
        | none =>
          rw [hx] at hr
          have := w.gon n hr
          rw [ho] at this
          cases this
        | some a =>
          rw [hx] at hr
          obtain ⟨o2, h2, ro⟩ := w.obj n a hr
          rw [ho] at h2
          cases h2
          obtain ⟨xs, hH, qs⟩ := ro
          refine .inr ⟨a, _, hH, trivial, fun od => ?_⟩
          have lva : Lv r a := ⟨n, hr⟩
          have L : Lkd (ctX X W) B r H (upd H a (.frz od (dN X.prog X.w a xs))) h n :=
            { off := fun b o nl z => by
                have hb : b ≠ a := fun e => nl (by rw [e]; exact lva)
                rw [upd_ne hb]
                exact z
              thr := fun b o z => by
                by_cases hb : b = a
                · subst hb
                  exact ⟨_, upd_same⟩
                · exact ⟨o, by rw [upd_ne hb]; exact z⟩
              lst := fun b vs z => by
                have hb : b ≠ a := fun e => by
                  rw [e, hH] at z
                  cases z
                rw [upd_ne hb]
                exact z
              dic := fun m a' kvs' e z1 z2 xs' z3 => by
                subst e
                rw [hr] at z2
                cases z2
                rw [hH] at z3
                refine ⟨od, ?_⟩
                rw [upd_same]
                exact congrArg (fun z => z.map (HO.frz od)) z3 }
          refine go L hk fun B1 r1 H1 o v ex w1 rv fl n => ?_
          have ha : H1 a = some (.frz od (dN X.prog X.w a xs)) := ex.keep a _ (nl0 a) upd_same
          refine ⟨ha, ?_⟩
          obtain ⟨B2, r2, e2, w2, ru⟩ := L.back w ex w1 rv fl (H2 := upd H1 a (dN X.prog X.w a xs)) (fun b hb => by
            by_cases e : b = a
            · subst e
              rw [upd_same]
              exact hH.symm
            · obtain ⟨m, z⟩ := hb
              obtain ⟨x, hx⟩ := w.dom b (w.own b ⟨m, z⟩)
              rw [upd_ne e, hx]
              exact ex.keep b x (nl0 b) (by rw [upd_ne e]; exact hx)) (fun b o nl z => by
            have hb : b ≠ a := fun e => nl (by rw [e]; exact lva)
            rw [upd_ne hb]
            exact z) (fun b vs z => by
            rcases z with z | z
            · by_cases e : b = a
              · subst e
                rcases z with z | ⟨_, z⟩ <;> (rw [ha] at z; cases z)
              · refine .inl ?_
                unfold Rd at z ⊢
                rw [upd_ne e]
                exact z
            · exact .inr z)
          exact n B2 r2 _ e2 w2 ru
      | lst _ => exact .inl (none_ (by unfold lkK; rw [hs]; simp only [ho]))
      | dct _ => exact .inl (none_ (by unfold lkK; rw [hs]; simp only [ho]))
      | ins _ _ => exact .inl (none_ (by unfold lkK; rw [hs]; simp only [ho]))
      | gone => exact .inl (none_ (by unfold lkK; rw [hs]; simp only [ho]))
      | deq _ => exact .inl (none_ (by unfold lkK; rw [hs]; simp only [ho]))
theorem RUs.get2 {C : Ct0} {B : Bd} {r : Rho} {H : Hp} : ∀ {us : List U} {vs : List V} {i : Nat} {v : V}, RUs C B r H us vs → vs[i]? = some v → ∃ u, us[i]? = some u ∧ RU C B r H u v
  | _, _, _, _, .nil, h => by simp at h
  | _, _, 0, _, .cons a _, h => by
    cases h
    exact ⟨_, rfl, a⟩
  | _, _, i + 1, _, .cons _ b, h => by
    obtain ⟨d, h1, h2⟩ := RUs.get2 (i := i) b (by simpa using h)
    exact ⟨d, by simpa using h1, h2⟩
def forLL (g : G) (body : S) (n : Nat) : Nat → Nat → S
  | 0, _ => fun _ _ => none
  | f + 1, i => fun δ h => match h[n]? with
    | some (.lst us) => (match us[i]? with
      | some x => (match g x δ h with
        | some (δ1, h1) => (match body δ1 h1 with
          | some (.nx δ2 h2) => forLL g body n f (i + 1) δ2 h2
          | some (.ct δ2 h2) => forLL g body n f (i + 1) δ2 h2
          | some (.bk δ2 h2) => some (.nx δ2 h2)
          | o => o)
        | none => none)
      | none => some (.nx δ h))
    | _ => none
def sforLL (fuel : Nat) (f : M U) (g : G) (body : S) : S := sbnd f fun u => match u with
  | .loc n => forLL g body n fuel 0
  | _ => fun _ _ => none
theorem rs_forLL {X : Cx} {W : Wj} {pos : Pos} {tg iter : Expr} {body : List Stmt} {f : M U} {g : G} {b : S} (fuel : Nat) (hp : PassesOwn (model X.prog X.w) X.A X.env X.xe) (hc : X.calm = true) (hi : RE X W iter f) (hg : RG X W tg g) (hb : RSs X W body b)
    (hs : ∀ x, foldedSetIterable iter X.env x = pure x := by intro _; rfl) : RS X W (.For tg iter body [] pos) (sforLL fuel f g b) :=
  ps_imp (ps_for hp hc (pi_list hi) hg hb hs) fun D σ H q => tS.bnd q fun u B r H1 h δ v w s ru q => by
    cases ru with
    | @loc n a hn =>
      have see : ∀ {B2 : Bd} {r2 : Rho} {H2 : Hp} {h2 : Hea} {us : List U}, Ext B r H1 B2 r2 H2 → Wd (ctX X W) B2 r2 H2 h2 → h2[n]? = some (.lst us) → ∃ vs, H2 a = some (.lst vs) ∧ RUs (ctX X W) B2 r2 H2 us vs := fun e2 w2 hu => by
        rcases e2.rho n _ hn with z | z
        · obtain ⟨o, ho, ro⟩ := w2.obj n a z
          rw [hu] at ho
          cases ho
          exact ro
        · have := w2.gon n z
          rw [hu] at this
          cases this
      have first : ∃ us, h[n]? = some (.lst us) := by
        dsimp only at q
        cases fuel with
        | zero => exact q.elim
        | succ f =>
          unfold forLL at q
          split at q
          · rename_i us hu
            exact ⟨us, hu⟩
          · exact q.elim
      obtain ⟨us0, hu0⟩ := first
      obtain ⟨vs0, hv0, _⟩ := see (Ext.refl w.dom) w hu0
      refine ⟨a, rfl, ⟨vs0, SqL.of hv0⟩, fun i m σ2 H2 => ∃ B2 r2 h2 δ2, Ext B r H1 B2 r2 H2 ∧ Wd (ctX X W) B2 r2 H2 h2 ∧ SlR (ctX X W) B2 r2 H2 σ2 δ2 ∧ OQ (ctX X W) W D B2 r2 H2 (forLL g b n m i δ2 h2), ⟨fuel, B, r, h, δ, Ext.refl w.dom, w, s, q⟩, ?_⟩
      rintro i m σ2 H2 ⟨B2, r2, h2, δ2, e2, w2, s2, q2⟩
      cases m with
      | zero => exact q2.elim
      | succ m =>
        unfold forLL at q2
        split at q2
        · rename_i us hu
          obtain ⟨vs, hv, qs⟩ := see e2 w2 hu
          split at q2
          · rename_i x hx
            have hxl : i < us.length := (List.getElem?_eq_some_iff.mp hx).1
            have hil : i < vs.length := by rw [← qs.length]; exact hxl
            have hvl : vs[i]? = some vs[i] := List.getElem?_eq_getElem hil
            refine .inr ⟨⟨vs, _, SqL.of hv, hvl⟩, fun σ' H' => ∃ B2 r2 h2 δ2, Ext B r H1 B2 r2 H' ∧ Wd (ctX X W) B2 r2 H' h2 ∧ SlR (ctX X W) B2 r2 H' σ' δ2 ∧ OQ (ctX X W) W D B2 r2 H' (forLL g b n m (i + 1) δ2 h2), fun σ' H' ⟨B3, r3, h3, δ3, e3, w3, s3, q3⟩ => ⟨m, Nat.lt_succ_self m, B3, r3, h3, δ3, e3, w3, s3, q3⟩, fun y H3 ⟨eH, ey⟩ => ?_⟩
            subst eH
            obtain ⟨u', hu', ru'⟩ := qs.get2 (ey vs (SqL.of hv))
            rw [hx] at hu'
            cases hu'
            refine ⟨B2, r2, h2, δ2, x, w2, s2, ru', ?_⟩
            cases hg1 : g x δ2 h2 with
            | none => simp only [hg1] at q2; exact q2
            | some y1 =>
              simp only [hg1] at q2
              intro B4 r4 H4 σ4 e4 w4 s4
              refine ⟨B4, r4, y1.2, y1.1, w4, s4, ?_⟩
              have q4 := q2.shift w2.toOwn e4
              have e14 : Ext B r H1 B4 r4 H4 := e2.tr w.toOwn e4
              cases hb1 : b y1.1 y1.2 with
              | none => rw [hb1] at q4; exact q4
              | some o =>
                rw [hb1] at q4
                cases o with
                | nx δ5 h5 => exact fun B5 r5 H5 σ5 e5 w5 s5 => ⟨B5, r5, h5, δ5, e14.tr w.toOwn e5, w5, s5, q4.shift w4.toOwn e5⟩
                | ct δ5 h5 => exact fun B5 r5 H5 σ5 e5 w5 s5 => ⟨B5, r5, h5, δ5, e14.tr w.toOwn e5, w5, s5, q4.shift w4.toOwn e5⟩
                | bk δ5 h5 => exact q4
                | rt u h5 => exact q4
                | ex e δ5 h5 => exact q4
          · rename_i hx
            exact .inl ⟨⟨vs, SqL.of hv, by rw [← qs.length]; exact List.getElem?_eq_none_iff.mp hx⟩, OQ.nx w2 s2 q2⟩
        · exact q2.elim
    | d _ => exact q.elim
    | gone hn =>
      dsimp only at q
      cases fuel with
      | zero => exact q.elim
      | succ f =>
        unfold forLL at q
        simp only [w.gon _ hn] at q
        exact q.elim
    | tup _ _ => exact q.elim
def isDU (h : Hea) : U → Bool
  | .d (.dct _) => true
  | .d (.ndct _) => true
  | .loc n => match h[n]? with
    | some (.dct _) => true
    | some (.ndct _) => true
    | _ => false
  | _ => false
def dgetU (h : Hea) (x y : U) : Option (Option U) := match y with
  | .d k => match x with
    | .d (.dct kvs) => match keyD k with
      | some _ => some ((lookK kvs k).map .d)
      | none => none
    | .d (.ndct kvs) => match nkT k with
      | some _ => some ((lookN kvs k).map .d)
      | none => none
    | .loc n => match h[n]? with
      | some (.dct kvs) => match keyD k with
        | some _ => some (lookK kvs k)
        | none => none
      | some (.ndct kvs) => match nkT k with
        | some _ => some (lookN kvs k)
        | none => none
      | _ => none
    | _ => none
  | _ => none
def dget1 (f g : M U) : M U := mbnd f fun x δ h => if isDU h x = true then mbnd g (fun y _ h => match dgetU h x y with
    | some o => some (.ok (o.getD (.d .non)) h)
    | none => none) δ h else none
def dget2 (f g k : M U) : M U := mbnd f fun x δ h => if isDU h x = true then mbnd g (fun y => mbnd k fun z _ h => match dgetU h x y with
    | some o => some (.ok (o.getD z) h)
    | none => none) δ h else none
/-- a is a dict, whatever its keys -/
def IsDY (P : Program) (w : World) (K : PySem.W.Frag) (H : Hp) (a : Addr) : Prop := IsD H a ∨ ∃ xs, Rd H a (dN P w a xs) ∧ KsOk K H xs
theorem isDY_at {X : Cx} {pins : List (Addr × Obj)} {σ : L2.St} {H : Hp} {s : Shared} {a : Addr} (I : Inv X pins σ H s) (d : IsDY X.prog X.w X.K H a) :
    s.TypeIs (.ref a) "dict" ∧ (∀ b, Value.ref a = .ref b → ∃ ob, s.heap.get? b = some ob ∧ ob.dict = none) ∧ (a == sysModules) = false := by
  rcases d with d | ⟨xs, e, ks⟩
  · exact isD_at I d
  · obtain ⟨_, hd, ys, _, dd⟩ := dn_of I e ks
    refine ⟨dd.typeIs, fun b q => ?_, hd⟩
    cases q
    obtain ⟨ob, _, _, h1, h2, _⟩ := dd
    exact ⟨ob, h1, h2.2.1⟩
def tDGetY1 (P : Program) (w : World) (K : PySem.W.Frag) (td ty : TE) : TE := fun σ H Q => td σ H fun x H1 => ∃ a, x = .ref a ∧ IsDY P w K H1 a ∧ ty σ H1 fun y H2 => ∃ o, DGetY P w K H2 a y o ∧ Q (o.getD .non) H2
def tDGetY2 (P : Program) (w : World) (K : PySem.W.Frag) (td ty tx : TE) : TE := fun σ H Q => td σ H fun x H1 => ∃ a, x = .ref a ∧ IsDY P w K H1 a ∧ ty σ H1 fun y H2 => tx σ H2 fun z H3 => ∃ o, DGetY P w K H3 a y o ∧ Q (o.getD z) H3
section
variable {X : Cx} {o e f : Expr} {apos cpos : Pos} {td ty tx : TE}
theorem pe_dgetY1 (hu : X.A.units + 9 < cLine) (ho : PE X o td) (he : PE X e ty) (m : M1 X o "get" apos e cpos) : PE X (.Call (.Attribute o "get" apos) [e] [] cpos) (tDGetY1 X.prog X.w X.K td ty) := by
  refine ⟨fun pins s σ H Q I h => wpAny_Call_method m.base m.few m.line PySem.F.plainAttrs_dict PySem.F.slot_dict_get PySem.F.type_dict_get (thn (ho.run pins s σ H _ I h) fun u s1 ⟨x, H1, I1, rx, a, ex, d, q1⟩ => ?_)⟩
  subst ex
  cases (show u = Value.ref a from rx)
  obtain ⟨t1, t2, _⟩ := isDY_at I1 d
  refine ⟨t1, t2, ?_⟩
  rw [m.trees]
  exact Calls.callWith_builtin rfl (Calls.evalArgs_plain (Calls.spliced_cons (thn (he.run pins s1 σ H1 _ I1 q1) fun iv s2 ⟨y, H2, I2, ry, ov, g, q2⟩ => Calls.spliced_nil (dy_get1 hu I2 g ry fun w' s3 I3 rw' => ⟨_, H2, I3, rw', q2⟩))))
theorem pe_dgetY2 (hu : X.A.units + 9 < cLine) (ho : PE X o td) (he : PE X e ty) (hf : PE X f tx) (m : M2 X o "get" apos e f cpos) : PE X (.Call (.Attribute o "get" apos) [e, f] [] cpos) (tDGetY2 X.prog X.w X.K td ty tx) := by
  refine ⟨fun pins s σ H Q I h => wpAny_Call_method m.base m.few m.line PySem.F.plainAttrs_dict PySem.F.slot_dict_get PySem.F.type_dict_get (thn (ho.run pins s σ H _ I h) fun u s1 ⟨x, H1, I1, rx, a, ex, d, q1⟩ => ?_)⟩
  subst ex
  cases (show u = Value.ref a from rx)
  obtain ⟨t1, t2, _⟩ := isDY_at I1 d
  refine ⟨t1, t2, ?_⟩
  rw [m.trees]
  exact Calls.callWith_builtin rfl (Calls.evalArgs_plain (Calls.spliced_cons (thn (he.run pins s1 σ H1 _ I1 q1) fun iv s2 ⟨y, H2, I2, ry, q2⟩ => Calls.spliced_cons (thn (hf.run pins s2 σ H2 _ I2 q2) fun fv s3 ⟨z, H3, I3, rz, ov, g, q3⟩ => Calls.spliced_nil (dy_get2 hu I3 g ry rz fun w' s4 I4 rw' => ⟨_, H3, I4, rw', q3⟩)))))
end
section
variable {C : Ct} {B : Bd} {r : Rho} {H : Hp} {h : Hea} {x y : U} {v w : V}
theorem isDU_ok (wd : Wd C B r H h) (rx : RU C B r H x v) (e : isDU h x = true) : ∃ a, v = .ref a ∧ IsDY C.P C.w C.K H a := by
  unfold isDU at e
  split at e
  · cases rx with
    | d rx =>
      cases rx with
      | dct nb hs qs => exact ⟨_, rfl, .inl (.inl ⟨_, .inr ⟨_, hs⟩⟩)⟩
  · cases rx with
    | d rx =>
      cases rx with
      | ndct nb hs qs => exact ⟨_, rfl, .inr ⟨_, .inr ⟨_, hs⟩, qs.ks⟩⟩
  · rename_i n
    cases rx with
    | gone hn =>
      simp only [wd.gon _ hn] at e
      cases e
    | loc hn =>
      obtain ⟨o, h1, ro⟩ := wd.obj _ _ hn
      split at e
      · rename_i kvs ho
        rw [ho] at h1
        cases h1
        obtain ⟨vs, h2, h3⟩ := ro
        exact ⟨_, rfl, .inl (.inl ⟨_, .inl h2⟩)⟩
      · rename_i kvs ho
        rw [ho] at h1
        cases h1
        obtain ⟨vs, h2, h3⟩ := ro
        exact ⟨_, rfl, .inr ⟨_, .inl h2, h3.ks⟩⟩
      · cases e
  · cases e
theorem getD_rel {ou : Option U} {ov : Option V} (h1 : ∀ d, ou = some d → ∃ v, ov = some v ∧ RU C B r H d v) (h2 : ou = none → ov = none) : ∀ u z, RU C B r H u z → RU C B r H (ou.getD u) (ov.getD z) := fun u z rz => by
  cases ou with
  | none => rw [h2 rfl]; exact rz
  | some d =>
    obtain ⟨z1, hz, rd⟩ := h1 d rfl
    rw [hz]
    exact rd
theorem dgetU_ok {o : Option U} (wd : Wd C B r H h) (rx : RU C B r H x v) (ry : RU C B r H y w) (e : dgetU h x y = some o) :
    ∃ a ov, v = .ref a ∧ DGetY C.P C.w C.K H a w ov ∧ ∀ u z, RU C B r H u z → RU C B r H (o.getD u) (ov.getD z) := by
  unfold dgetU at e
  split at e
  · rename_i k
    cases ry with
    | d ry =>
      split at e
      · rename_i kvs
        split at e
        · rename_i key hk
          cases e
          cases rx with
          | d rx =>
            cases rx with
            | dct nb hs qs =>
              obtain ⟨q1, q2⟩ := RDk.look qs hk
              refine ⟨_, valV _ key, rfl, .inl (.inl ⟨_, key, .inr ⟨_, hs⟩, ry.key hk, rfl⟩), getD_rel (fun d hd => ?_) fun hd => q2 (Option.map_eq_none_iff.mp hd)⟩
              obtain ⟨d0, hd0, rfl⟩ := Option.map_eq_some_iff.mp hd
              obtain ⟨z1, hz, rd⟩ := q1 d0 hd0
              exact ⟨z1, hz, .d rd⟩
        · cases e
      · rename_i kvs
        split at e
        · rename_i key hk
          cases e
          cases rx with
          | d rx =>
            cases rx with
            | ndct nb hs qs =>
              obtain ⟨q1, q2⟩ := RDn.look qs hk
              refine ⟨_, lkN _ key, rfl, .inr ⟨_, key, .inr ⟨_, hs⟩, qs.ks, ry.ky hk, rfl⟩, getD_rel (fun d hd => ?_) fun hd => q2 (Option.map_eq_none_iff.mp hd)⟩
              obtain ⟨d0, hd0, rfl⟩ := Option.map_eq_some_iff.mp hd
              obtain ⟨z1, hz, rd⟩ := q1 d0 hd0
              exact ⟨z1, hz, .d rd⟩
        · cases e
      · rename_i n
        cases rx with
        | gone hn =>
          simp only [wd.gon _ hn] at e
          cases e
        | loc hn =>
          obtain ⟨o, h1, ro⟩ := wd.obj _ _ hn
          split at e
          · rename_i kvs ho
            rw [ho] at h1
            cases h1
            split at e
            · rename_i key hk
              cases e
              obtain ⟨vs, h2, h3⟩ := ro
              obtain ⟨q1, q2⟩ := h3.look hk
              exact ⟨_, valV vs key, rfl, .inl (.inl ⟨_, key, .inl h2, ry.key hk, rfl⟩), getD_rel q1 q2⟩
            · cases e
          · rename_i kvs ho
            rw [ho] at h1
            cases h1
            split at e
            · rename_i key hk
              cases e
              obtain ⟨vs, h2, h3⟩ := ro
              obtain ⟨q1, q2⟩ := h3.look hk
              exact ⟨_, lkN vs key, rfl, .inr ⟨_, key, .inl h2, h3.ks, ry.ky hk, rfl⟩, getD_rel q1 q2⟩
            · cases e
          · cases e
      · cases e
  · cases e
end
section
variable {X : Cx} {W : Wj} {apos pos : Pos} {a b c : Expr} {f g k : M U}
theorem re_dget1 (hu : X.A.units + 65 < cLine) (ha : RE X W a f) (hb : RE X W b g) (m : M1 X a "get" apos b pos := by exact ⟨rfl, rfl, rfl, rfl⟩) : RE X W (.Call (.Attribute a "get" apos) [b] [] pos) (dget1 f g) :=
  pe_imp (pe_dgetY1 (by omega) ha hb m) fun σ H Q t => by
    refine tG.bnd t fun x B1 r1 H1 h1 δ v w1 s1 rx q1 => ?_
    try dsimp only at q1
    split at q1
    · rename_i hd
      obtain ⟨a, rfl, d⟩ := isDU_ok w1 rx hd
      refine ⟨a, rfl, d, B1, r1, h1, δ, w1, s1, q1.bnd w1 s1 fun y B2 r2 H2 h2 w' e2 w2 s2 ry q2 => ?_⟩
      try dsimp only at q2
      split at q2
      · rename_i o ho
        obtain ⟨a', ov, e, g, rel⟩ := dgetU_ok w2 (rx.ext e2 w1.toOwn) ry ho
        cases e
        exact ⟨ov, g, EQ.ret w2 q2 (rel _ _ (.d .non))⟩
      · exact q2.elim
    · exact q1.elim
theorem re_dget2 (hu : X.A.units + 65 < cLine) (ha : RE X W a f) (hb : RE X W b g) (hc : RE X W c k) (m : M2 X a "get" apos b c pos := by exact ⟨rfl, rfl, rfl, rfl⟩) : RE X W (.Call (.Attribute a "get" apos) [b, c] [] pos) (dget2 f g k) :=
  pe_imp (pe_dgetY2 (by omega) ha hb hc m) fun σ H Q t => by
    refine tG.bnd t fun x B1 r1 H1 h1 δ v w1 s1 rx q1 => ?_
    try dsimp only at q1
    split at q1
    · rename_i hd
      obtain ⟨a, rfl, d⟩ := isDU_ok w1 rx hd
      refine ⟨a, rfl, d, B1, r1, h1, δ, w1, s1, q1.bnd w1 s1 fun y B2 r2 H2 h2 w' e2 w2 s2 ry q2 => ?_⟩
      refine ⟨B2, r2, h2, δ, w2, s2, q2.bnd w2 s2 fun z B3 r3 H3 h3 w4 e3 w3 s3 rz q3 => ?_⟩
      try dsimp only at q3
      split at q3
      · rename_i o ho
        obtain ⟨a', ov, e, g, rel⟩ := dgetU_ok w3 ((rx.ext e2 w1.toOwn).ext e3 w2.toOwn) (ry.ext e3 w2.toOwn) ho
        cases e
        exact ⟨ov, g, EQ.ret w3 q3 (rel _ _ rz)⟩
      · exact q3.elim
    · exact q1.elim
def dsetd (f g k : M U) : M U := mbnd f fun x δ h => if isDU h x = true then mbnd g (fun y => mbnd k fun z _ h => match x, y with
    | .loc n, .d kd => (match h[n]? with
      | some (.ndct kvs) => (match nkT kd with
        | some _ => (match lookN kvs kd with
          | some u => if szOk (kvs.length + 1) = true then some (.ok u h) else none
          | none => if szOk (kvs.length + 1) = true then some (.ok z (h.set n (.ndct (putNU kvs kd z)))) else none)
        | none => none)
      | _ => none)
    | _, _ => none) δ h else none
def tDSet (P : Program) (w : World) (K : PySem.W.Frag) (td ty tx : TE) : TE := fun σ H Q => td σ H fun x H1 => ∃ a, x = .ref a ∧ IsDY P w K H1 a ∧ ty σ H1 fun y H2 => tx σ H2 fun z H3 => ∃ xs k b, H3 a = some (dN P w a xs) ∧ KsOk K H3 xs ∧ KyV K H3 k y ∧ y = .ref b ∧ xs.length < sizeLine ∧
  (∀ v, lkN xs k = some v → Q v H3) ∧ (lkN xs k = none → Q z (upd H3 a (dN P w a (putN xs k b z))))
theorem pe_dsetd {o e f : Expr} {td ty tx : TE} {cpos : Pos} (hu : X.A.units + 9 < cLine) (ho : PE X o td) (he : PE X e ty) (hf : PE X f tx) (m : M2 X o "setdefault" apos e f cpos) : PE X (.Call (.Attribute o "setdefault" apos) [e, f] [] cpos) (tDSet X.prog X.w X.K td ty tx) := by
  refine ⟨fun pins s σ H Q I h => wpAny_Call_method m.base m.few m.line PySem.F.plainAttrs_dict PySem.F.slot_dict_setdefault PySem.F.type_dict_setdefault (thn (ho.run pins s σ H _ I h) fun u s1 ⟨x, H1, I1, rx, a, ex, d, q1⟩ => ?_)⟩
  subst ex
  cases (show u = Value.ref a from rx)
  obtain ⟨t1, t2, _⟩ := isDY_at I1 d
  refine ⟨t1, t2, ?_⟩
  rw [m.trees]
  refine Calls.callWith_builtin rfl (Calls.evalArgs_plain (Calls.spliced_cons (thn (he.run pins s1 σ H1 _ I1 q1) fun iv s2 ⟨y, H2, I2, ry, q2⟩ => Calls.spliced_cons (thn (hf.run pins s2 σ H2 _ I2 q2) fun fv s3 ⟨z, H3, I3, rz, xs, k, b, h1, h2, h3, h4, h5, h6, h7⟩ => Calls.spliced_nil ?_))))
  subst h4
  cases (show iv = Value.ref b from ry)
  exact dy_setdefault hu I3 h1 h2 h3 h5 rz (fun v hv w' s' I' rw' => ⟨v, H3, I', rw', h6 v hv⟩) fun hn w' s' I' rw' => ⟨z, _, I', rw', h7 hn⟩
theorem re_dsetd (hu : X.A.units + 65 < cLine) (ha : RE X W a f) (hb : RE X W b g) (hc : RE X W c k) (m : M2 X a "setdefault" apos b c pos := by exact ⟨rfl, rfl, rfl, rfl⟩) : RE X W (.Call (.Attribute a "setdefault" apos) [b, c] [] pos) (dsetd f g k) :=
  pe_imp (pe_dsetd (by omega) ha hb hc m) fun σ H Q t => by
    refine tG.bnd t fun x B1 r1 H1 h1 δ v w1 s1 rx q1 => ?_
    try dsimp only at q1
    split at q1
    · rename_i hd
      obtain ⟨a, rfl, d⟩ := isDU_ok w1 rx hd
      refine ⟨a, rfl, d, B1, r1, h1, δ, w1, s1, q1.bnd w1 s1 fun y B2 r2 H2 h2 w' e2 w2 s2 ry q2 => ?_⟩
      refine ⟨B2, r2, h2, δ, w2, s2, q2.bnd w2 s2 fun z B3 r3 H3 h3 w4 e3 w3 s3 rz q3 => ?_⟩
      have rx3 := (rx.ext e2 w1.toOwn).ext e3 w2.toOwn
      have ry3 := ry.ext e3 w2.toOwn
      try dsimp only at q3
      split at q3
      · rename_i n kd
        cases ry3 with
        | d rk =>
          cases rx3 with
          | gone hn =>
            simp only [w3.gon _ hn] at q3
            exact q3.elim
          | loc hn =>
            obtain ⟨o, h4, ro⟩ := w3.obj _ _ hn
            split at q3
            · rename_i kvs ho
              rw [ho] at h4
              cases h4
              obtain ⟨xs, h5, h6⟩ := ro
              split at q3
              · rename_i key hk
                obtain ⟨q4, q5⟩ := h6.look hk
                obtain ⟨bb, eb⟩ := (rk.ky hk).2.2
                subst eb
                cases hl : lookN kvs kd with
                | some u =>
                  rw [hl] at q3
                  try dsimp only at q3
                  obtain ⟨vv, hv, rv⟩ := q4 u hl
                  split at q3
                  · rename_i hz
                    refine ⟨xs, key, bb, h5, h6.ks, rk.ky hk, rfl, by rw [← h6.length]; exact szOk_le hz, fun v' hv' => ?_, fun hn' => ?_⟩
                    · rw [hv] at hv'
                      cases hv'
                      exact EQ.ret w3 q3 rv
                    · rw [hv] at hn'
                      cases hn'
                  · exact q3.elim
                | none =>
                  rw [hl] at q3
                  try dsimp only at q3
                  split at q3
                  · rename_i hz
                    obtain ⟨ex, w5⟩ := w3.put hn (notup_dN (P := (ctX X W).P) (w := (ctX X W).w) (xs := PM.putN xs key bb w4)) (o := .ndct (putNU kvs kd z)) fun ex => ⟨_, upd_same, (h6.putN hk rk rz).ext ex w3.toOwn⟩
                    refine ⟨xs, key, bb, h5, h6.ks, rk.ky hk, rfl, by rw [← h6.length]; exact szOk_le hz, (fun v' hv' => by rw [q5 hl] at hv'; cases hv'), fun _ => ?_⟩
                    exact q3 _ _ _ _ ex w5 (rz.ext ex w3.toOwn)
                  · exact q3.elim
              · exact q3.elim
            · exact q3.elim
      · exact q3.elim
    · exact q1.elim
/-- {}, its keys to be tuples -/
theorem re_dnewN : RE X W (.Dict [] [] pos) (newE (.ndct [])) := by
  have h1 : PE X (.Dict [] [] pos) (fun _ H Q => ∀ p, H p = none → Q (.ref p) (upd H p (dN X.prog X.w p []))) := by
    refine ⟨fun pins s σ H Q I h => ?_⟩
    refine thn ((pe_dnewK (X := X) (pos := pos)).run pins s σ H (fun x H1 => ∃ p, H p = none ∧ x = .ref p ∧ H1 = upd H p (.dK [])) I fun p hp => ⟨p, hp, rfl, rfl⟩) fun v s1 ⟨x, H1, I1, rx, p, hp, ex, eH⟩ => ?_
    subst ex eH
    obtain ⟨z, hd, vs, rel, dd⟩ := dk_of I1.hok upd_same
    cases rel
    have dd' : s1.heap.DictOfH (nestedKind X.prog X.w) p [] := by
      obtain ⟨o, es, ep, g1, g2, g3, g4⟩ := dd
      have hes : es.toList = [] := by
        have l := g4.2.1.length
        simpa using l
      exact ⟨o, es, ep, g1, g2, g3, hes, (fun x hx => nomatch hx), List.nodup_nil⟩
    have I2 := dy_write (xs' := []) (t' := s1.toks) I1 (by rw [upd_same]; exact True.intro) (Heap.SameBut.refl p s1.heap) (Nat.zero_le _) hd .nil dd'
    rw [upd_upd] at I2
    exact ⟨_, _, I2, rx, h p hp⟩
  exact pe_imp h1 fun σ H Q ⟨B, r, h, δ, w, s, q⟩ => fun p hp => by
    obtain ⟨ex, w2⟩ := w.add (o := .ndct []) hp (notup_dN (P := (ctX X W).P) (w := (ctX X W).w) (xs := [])) fun ex => ⟨[], upd_same, .nil⟩
    exact q _ _ _ _ ex w2 (.loc (by rw [← w.len]; simp))
/-- {} -/
theorem re_dnew : RE X W (.Dict [] [] pos) (newE (.dct [])) :=
  pe_imp pe_dnewK fun σ H Q ⟨B, r, h, δ, w, s, q⟩ => fun p hp => by
    obtain ⟨ex, w2⟩ := w.add (o := .dct []) hp (notup_dK (xs := [])) fun ex => ⟨[], upd_same, .nil⟩
    exact q _ _ _ _ ex w2 (.loc (by rw [← w.len]; simp))
end
section
variable {C : Ct} {B : Bd} {r : Rho} {H : Hp} {h : Hea}
theorem keyD_rd {C0 : Ct0} {kd : D} {k : Key} (e : keyD kd = some k) : RD C0 B H kd (kV k) := by
  unfold keyD at e
  split at e
  · cases e
    exact .int _
  · cases e
    exact .str _
  · cases e
theorem RDk.at_ {C0 : Ct0} : ∀ {ds : List (D × D)} {vs : List (Key × V)} (i : Nat) {k : Key} {v : V}, RDk C0 B H ds vs → vs[i]? = some (k, v) → ∃ kd d, ds[i]? = some (kd, d) ∧ keyD kd = some k ∧ RD C0 B H d v
  | _, _, _, _, _, .nil, h => by simp at h
  | _, _, 0, _, _, .cons e a b, h => by
    cases h
    exact ⟨_, _, rfl, e, a⟩
  | _, _, i + 1, _, _, .cons e a b, h => by
    obtain ⟨kd, d, h1, h2⟩ := RDk.at_ i b (by simpa using h)
    exact ⟨kd, d, by simpa using h1, h2⟩
def seqDk : U → Option (List U)
  | .d (.dct kvs) => some (kvs.map fun p => .d p.1)
  | _ => none
def seqDv : U → Option (List U)
  | .d (.dct kvs) => some (kvs.map fun p => .d p.2)
  | _ => none
def seqDi : U → Option (List U)
  | .d (.dct kvs) => some (kvs.map fun p => .d (.tup [p.1, p.2]))
  | _ => none
variable {a : Addr} {od : Obj} {vs : List (Key × V)} {ds : List (D × D)}
theorem ylds_keys (w : Wd C B r H h) (nb : ¬ B a) (hs : H a = some (.frz od (.dK vs))) (q : RDk C.toCt0 B H ds vs) : Ylds C B r H (ds.map fun p => .d p.1) (Itk a od vs) := fun B1 r1 H1 h1 i e w1 => by
  have hs1 : H1 a = _ := e.keep _ _ (fun z => nb (w.own _ z)) hs
  have q1 := RDk.ext e w.toOwn q
  have hl : (ds.map fun p => U.d p.1).length = vs.length := by rw [List.length_map, q.length]
  refine ⟨fun hi => ⟨⟨hs1, by omega⟩, fun x H2 ⟨eH, k, v, y, ex⟩ => ?_⟩, fun hi => ⟨hs1, by omega⟩⟩
  subst eH ex
  obtain ⟨kd, d, h1, h2, h3⟩ := q1.at_ i y
  exact ⟨B1, w1.toOwn.gr, .d kd, by rw [List.getElem?_map, h1]; rfl, .d (keyD_rd h2)⟩
theorem ylds_vals (w : Wd C B r H h) (nb : ¬ B a) (hs : H a = some (.frz od (.dK vs))) (q : RDk C.toCt0 B H ds vs) : Ylds C B r H (ds.map fun p => .d p.2) (Itd a od vs) := fun B1 r1 H1 h1 i e w1 => by
  have hs1 : H1 a = _ := e.keep _ _ (fun z => nb (w.own _ z)) hs
  have q1 := RDk.ext e w.toOwn q
  have hl : (ds.map fun p => U.d p.2).length = vs.length := by rw [List.length_map, q.length]
  refine ⟨fun hi => ⟨⟨hs1, by omega⟩, fun x H2 ⟨eH, k, y⟩ => ?_⟩, fun hi => ⟨hs1, by omega⟩⟩
  subst eH
  obtain ⟨kd, d, h1, h2, h3⟩ := q1.at_ i y
  exact ⟨B1, w1.toOwn.gr, .d d, by rw [List.getElem?_map, h1]; rfl, .d h3⟩
theorem ylds_items (w : Wd C B r H h) (nb : ¬ B a) (hs : H a = some (.frz od (.dK vs))) (q : RDk C.toCt0 B H ds vs) : Ylds C B r H (ds.map fun p => .d (.tup [p.1, p.2])) (Iti a od vs) := fun B1 r1 H1 h1 i e w1 => by
  have hs1 : H1 a = _ := e.keep _ _ (fun z => nb (w.own _ z)) hs
  have q1 := RDk.ext e w.toOwn q
  have hl : (ds.map fun p => U.d (.tup [p.1, p.2])).length = vs.length := by rw [List.length_map, q.length]
  refine ⟨fun hi => ⟨⟨hs1, by omega⟩, fun x H2 ⟨T, k, v, y, ex, hT, eH⟩ => ?_⟩, fun hi => ⟨hs1, by omega⟩⟩
  subst eH ex
  obtain ⟨kd, d, h1, h2, h3⟩ := q1.at_ i y
  obtain ⟨g, ru⟩ := pair_new w1 hT (keyD_rd h2) h3
  exact ⟨B1, g, _, by rw [List.getElem?_map, h1]; rfl, ru⟩
end
section
variable {X : Cx} {W : Wj} {tg e : Expr} {f : M U} {apos pos tpos : Pos} {elts : List Expr} {kk : Nat}
theorem dct_of {C : Ct} {B : Bd} {r : Rho} {H : Hp} {u : U} {v : V} {ds : List (D × D)} (ru : RU C B r H u v) (e : u = .d (.dct ds)) : ∃ a od vs, v = .ref a ∧ ¬ B a ∧ H a = some (.frz od (.dK vs)) ∧ RDk C.toCt0 B H ds vs := by
  subst e
  cases ru with
  | d rd =>
    cases rd with
    | dct nb hs q => exact ⟨_, _, _, rfl, nb, hs, q⟩
theorem ri_keys (he : RE X W e f) : RI1 X W tg e (itE seqDk f) :=
  pi_imp (pi_keys he) fun σ H R t => tG.bnd t fun u B r H1 h δ v w s ru q => by
    try dsimp only at q
    unfold seqDk at q
    split at q
    · rename_i xs hx
      split at hx
      · cases hx
        obtain ⟨a, od, vs, rfl, nb, hs, qq⟩ := dct_of ru rfl
        exact ⟨a, od, rfl, .inl ⟨vs, hs, EQ.ret w q (ylds_keys w nb hs qq)⟩⟩
      · cases hx
    · exact q.elim
theorem ri_keysM (he : RE X W e f) (hbase : attributeBase e "keys" X.env (eval e X.env) = eval e X.env := by rfl) (hline : (apos.endLine == pos.line) = true := by rfl) : RI1 X W tg (.Call (.Attribute e "keys" apos) [] [] pos) (itE seqDk f) :=
  pi_imp (pi_keysM he hbase hline) fun σ H R t => tG.bnd t fun u B r H1 h δ v w s ru q => by
    try dsimp only at q
    unfold seqDk at q
    split at q
    · rename_i xs hx
      split at hx
      · cases hx
        obtain ⟨a, od, vs, rfl, nb, hs, qq⟩ := dct_of ru rfl
        exact ⟨a, od, vs, rfl, hs, EQ.ret w q (ylds_keys w nb hs qq)⟩
      · cases hx
    · exact q.elim
theorem ri_values (he : RE X W e f) (hbase : attributeBase e "values" X.env (eval e X.env) = eval e X.env := by rfl) (hline : (apos.endLine == pos.line) = true := by rfl) : RI1 X W tg (.Call (.Attribute e "values" apos) [] [] pos) (itE seqDv f) :=
  pi_imp (pi_values he hbase hline) fun σ H R t => tG.bnd t fun u B r H1 h δ v w s ru q => by
    try dsimp only at q
    unfold seqDv at q
    split at q
    · rename_i xs hx
      split at hx
      · cases hx
        obtain ⟨a, od, vs, rfl, nb, hs, qq⟩ := dct_of ru rfl
        exact ⟨a, od, vs, rfl, hs, EQ.ret w q (ylds_vals w nb hs qq)⟩
      · cases hx
    · exact q.elim
theorem ri_items (he : RE X W e f) (hbase : attributeBase e "items" X.env (eval e X.env) = eval e X.env := by rfl) (hline : (apos.endLine == pos.line) = true := by rfl) : RI1 X W (.Tuple elts kk tpos) (.Call (.Attribute e "items" apos) [] [] pos) (itE seqDi f) :=
  pi_imp (pi_items he hbase hline) fun σ H R t => tG.bnd t fun u B r H1 h δ v w s ru q => by
    try dsimp only at q
    unfold seqDi at q
    split at q
    · rename_i xs hx
      split at hx
      · cases hx
        obtain ⟨a, od, vs, rfl, nb, hs, qq⟩ := dct_of ru rfl
        exact ⟨a, od, vs, rfl, hs, EQ.ret w q (ylds_items w nb hs qq)⟩
      · cases hx
    · exact q.elim
end
section
variable {C : Ct} {B : Bd} {r : Rho} {H : Hp} {h : Hea} {Dd : Addr}
theorem Wd.own_putX (w : Wd C B r H h) (hD : B Dd) (nl : ¬ Lv r Dd) (x : HO) (nt : ∀ vs, ¬ Rd (upd H Dd x) Dd (.tup vs)) :
    Wd C B r (upd H Dd x) h ∧ (∀ d v, RD C.toCt0 B H d v → RD C.toCt0 B (upd H Dd x) d v) ∧ (∀ a vs, SqT C.K H a vs → SqT C.K (upd H Dd x) a vs) := by
  have e := Ext.own_put w.toOwn hD x
  have wp := w.toOwn.plus hD
  have f : ∀ d v, RD C.toCt0 B H d v → RD C.toCt0 B (upd H Dd x) d v := fun d v q => q.ext e wp
  have g : ∀ a vs, SqT C.K H a vs → SqT C.K (upd H Dd x) a vs := fun a vs q => e.sqT wp.lvt q
  refine ⟨{ own := w.own, notup := fun a z vs q => ?_, dom := e.dom, len := w.len, obj := fun n a z => ?_, gon := w.gon, inj := w.inj, jx := C.j.st _ _ _ _ _ _ _ wp e w.jx }, f, g⟩
  · by_cases ea : a = Dd
    · subst ea
      exact nt vs q
    · obtain ⟨o, ho⟩ := w.dom a z
      exact w.notup a z vs (rd_back ho (fun o' h' => by rw [upd_ne ea]; exact h') q)
  · obtain ⟨o, ho, ro⟩ := w.obj n a z
    exact ⟨o, ho, ro.map f g (upd_ne fun e => nl (e ▸ ⟨n, z⟩))⟩
/-- a thing of one's own, made and filled by now, is handed on as one that may change -/
theorem mk_obj {W : Wj} {σ : L2.St} {δ : Sl} {B0 : Bd} {r0 : Rho} {H0 : Hp} {o : O} {Q : VK} (e : Ext B0 r0 H0 B r H) (hn : H0 Dd = none) (w : Wd C B r H h) (hD : B Dd) (nl : ¬ Lv r Dd)
    (ro : RO C B (r ++ [some Dd]) H Dd o) (q : EQ C W σ B0 r0 H0 (newE o δ h) (RU C) Q) : Q (.ref Dd) H := by
  have old : ∀ (n : Nat) a, (r ++ [some Dd])[n]? = some (some a) → (r[n]? = some (some a)) ∨ (n = r.length ∧ a = Dd) := fun n a z => by
    by_cases hl : n < r.length
    · rw [List.getElem?_append_left hl] at z
      exact .inl z
    · rw [List.getElem?_append_right (Nat.le_of_not_lt hl), List.getElem?_singleton] at z
      split at z
      · exact .inr ⟨by omega, (Option.some.inj (Option.some.inj z)).symm⟩
      · cases z
  refine q B (r ++ [some Dd]) H (.ref Dd)
    { rho := fun n x z => by
        rcases e.rho n x z with y | y
        · exact .inl (by rw [List.getElem?_append_left (List.getElem?_eq_some_iff.mp y).1]; exact y)
        · exact .inr (by rw [List.getElem?_append_left (List.getElem?_eq_some_iff.mp y).1]; exact y)
      rnew := fun n a h1 h2 => by
        rcases old n a h2 with y | ⟨_, rfl⟩
        · exact e.rnew n a h1 y
        · exact hn
      keep := e.keep, bnew := e.bnew, bold := e.bold, there := e.there, dom := e.dom }
    { own := fun a l => (lv_app l).elim (w.own a) fun ea => ea ▸ hD
      notup := w.notup
      dom := w.dom
      len := by simp [w.len]
      obj := fun n a z => by
        rcases old n a z with y | ⟨rfl, rfl⟩
        · obtain ⟨o, ho, ro⟩ := w.obj n a y
          have hl : n < h.length := (List.getElem?_eq_some_iff.mp ho).1
          exact ⟨o, by rw [List.getElem?_append_left hl]; exact ho, ro.app _⟩
        · exact ⟨o, by rw [w.len]; simp, ro⟩
      gon := fun n z => by
        by_cases hl : n < r.length
        · rw [List.getElem?_append_left hl] at z
          rw [List.getElem?_append_left (by rw [← w.len]; exact hl)]
          exact w.gon n z
        · rw [List.getElem?_append_right (Nat.le_of_not_lt hl), List.getElem?_singleton] at z
          split at z
          · cases z
          · cases z
      inj := fun n m a z1 z2 => by
        rcases old n a z1 with y1 | ⟨e1, f1⟩ <;> rcases old m a z2 with y2 | ⟨e2, f2⟩
        · exact w.inj n m a y1 y2
        · subst f2
          exact absurd ⟨n, y1⟩ nl
        · subst f1
          exact absurd ⟨m, y2⟩ nl
        · omega
      jx := w.jx } (.loc (by rw [← w.len]; simp))
/-- .. that is filled now -/
theorem mk_put {W : Wj} {σ : L2.St} {δ : Sl} {B0 : Bd} {r0 : Rho} {H0 : Hp} {o : O} {x : HO} {Q : VK} (e : Ext B0 r0 H0 B r H) (hn : H0 Dd = none) (w : Wd C B r H h) (hD : B Dd) (nl : ¬ Lv r Dd)
    (nt : ∀ vs, ¬ Rd (upd H Dd x) Dd (.tup vs))
    (ro : (∀ d v, RD C.toCt0 B H d v → RD C.toCt0 B (upd H Dd x) d v) → (∀ a vs, SqT C.K H a vs → SqT C.K (upd H Dd x) a vs) → RO C B r (upd H Dd x) Dd o) (q : EQ C W σ B0 r0 H0 (newE o δ h) (RU C) Q) : Q (.ref Dd) (upd H Dd x) := by
  obtain ⟨w7, f, g⟩ := w.own_putX hD nl x nt
  refine mk_obj (e := { rho := e.rho, rnew := e.rnew, keep := fun a o nl z => ?_, bnew := e.bnew, bold := e.bold, there := fun a o z => ?_, dom := w7.dom }) hn w7 hD nl ((ro f g).app _) q
  · rw [upd_ne (ne_of_none z hn)]
    exact e.keep a o nl z
  · obtain ⟨o', z'⟩ := e.there a o z
    exact ⟨o', by rw [upd_ne (ne_of_none z hn)]; exact z'⟩
/-- the state with a new thing of one's own -/
theorem Gr.made (w : Wd C B r H h) (hD : H Dd = none) {x : HO} (nt : ∀ vs, ¬ Rd (upd H Dd x) Dd (.tup vs)) : Gr B H (fun a => B a ∨ a = Dd) (upd H Dd x) :=
  { keep := fun a o z => by
      rw [upd_ne (ne_of_none z hD)]
      exact z
    bnew := fun a z => by
      rcases z with z | rfl
      · exact .inl z
      · exact .inr hD
    bold := fun a z => .inl z
    dom := fun a z => by
      rcases z with z | rfl
      · obtain ⟨o, ho⟩ := w.dom a z
        exact ⟨o, by rw [upd_ne (ne_of_none ho hD)]; exact ho⟩
      · exact ⟨_, upd_same⟩
    notup := fun a z us y => by
      rcases z with z | rfl
      · obtain ⟨o, ho⟩ := w.dom a z
        exact w.notup a z us (rd_back ho (fun o' h' => by rw [upd_ne (ne_of_none h' hD)]; exact h') y)
      · exact nt us y }
theorem Wd.nlv (w : Wd C B r H h) (hD : H Dd = none) : ¬ Lv r Dd := fun l => by
  obtain ⟨o, ho⟩ := w.dom Dd (w.own Dd l)
  rw [hD] at ho
  cases ho
def mergeU (kvs more : List (D × U)) : List (D × U) := more.foldl (fun acc p => putKU acc p.1 p.2) kvs
theorem RUk.merge : ∀ {us : List (D × U)} {vs : List (Key × V)} {ks : List (D × U)} {kvs : List (Key × V)}, RUk C B r H us vs → RUk C B r H ks kvs → RUk C B r H (mergeU ks us) (mergeK kvs vs)
  | _, _, _, _, .nil, q => q
  | _, _, _, _, .cons e a b, q => by
    have z := RUk.merge b (q.putK e a)
    exact z
end
def pnil : M (List (D × U)) := mret []
def pcons (f g : M U) (k : M (List (D × U))) : M (List (D × U)) := mbnd f fun x => mbnd g fun y => mbnd k fun r _ h => match x with
  | .d kd => match keyD kd with
    | some _ => some (.ok ((kd, y) :: r) h)
    | none => none
  | _ => none
def dispE (g : M (List (D × U))) : M U := mbnd g fun ps δ h => if ps.length ≤ 15 then newE (.dct (mergeU [] ps)) δ h else none
def RPs (X : Cx) (W : Wj) (pos : Pos) (keys : List (Option Expr)) (values : List Expr) (g : M (List (D × U))) : Prop :=
  ∃ trs, PPs X pos keys values trs ∧ ∀ σ H Q, tG (ctX X W) W (RUk (ctX X W)) g σ H (fun kvs H => Q (kvs.map (fun kv => (kV kv.1, kv.2))) H) → tPairs trs σ H Q
section
variable {X : Cx} {W : Wj} {pos : Pos} {k v : Expr} {keys : List (Option Expr)} {values : List Expr} {f g : M U} {m : M (List (D × U))}
theorem rp_nil : RPs X W pos [] [] pnil := ⟨[], pps_nil, fun σ H Q ⟨B, r, h, δ, w, s, q⟩ => by
  unfold pnil mret at q
  have z := EQ.ret (v := ([] : List (Key × V))) w q .nil
  exact z⟩
theorem rp_cons (hk : RE X W k f) (hv : RE X W v g) (hr : RPs X W pos keys values m) : RPs X W pos (some k :: keys) (v :: values) (pcons f g m) := by
  obtain ⟨trs, pp, im⟩ := hr
  refine ⟨_, pps_cons hk hv pp, fun σ H Q t => ?_⟩
  refine tG.bnd t fun x B1 r1 H1 h1 δ xv w1 s1 rx q1 => ?_
  refine ⟨B1, r1, h1, δ, w1, s1, q1.bnd w1 s1 fun y B2 r2 H2 h2 yv e2 w2 s2 ry q2 => ?_⟩
  refine im _ _ _ ⟨B2, r2, h2, δ, w2, s2, q2.bnd w2 s2 fun ps B3 r3 H3 h3 kvs e3 w3 s3 rel q3 => ?_⟩
  have rx3 := (rx.ext e2 w1.toOwn).ext e3 w2.toOwn
  try dsimp only at q3
  split at q3
  · rename_i kd
    split at q3
    · rename_i key hk
      have q4 := EQ.ret (v := (key, yv) :: kvs) w3 q3 (.cons hk (ry.ext e3 w2.toOwn) rel)
      cases rx3 with
      | d rx3 =>
        rw [rx3.key hk]
        exact q4
    · exact q3.elim
  · exact q3.elim
theorem re_disp (hr : RPs X W pos keys values m) (hall : keys.all (·.isSome) = true := by rfl) (hl : keys.length = values.length := by rfl) (h0 : keys ≠ [] := by intro h; cases h) (h15 : keys.length ≤ 15 := by decide) :
    RE X W (.Dict keys values pos) (dispE m) := by
  obtain ⟨trs, pp, im⟩ := hr
  refine pe_imp (pe_disp pp hall hl h0 h15) fun σ H Q ⟨B, r, h, δ, w, s, q⟩ p hp => ?_
  have gD := Gr.made w hp (notup_dK (H := H) (p := p) (xs := []))
  have nlD := w.nlv hp
  refine im _ _ _ ⟨_, r, h, δ, gD.wd w, s.ext gD.ext w.toOwn, ?_⟩
  unfold dispE mbnd at q
  cases hm : m δ h with
  | none => rw [hm] at q; exact q.elim
  | some x =>
    rw [hm] at q
    cases x with
    | exc ex h2 => exact EQ.shift w.toOwn q gD.ext
    | ok ps h2 =>
      intro B2 r2 H2 kvs e2 w2 rel
      try dsimp only at q
      have hH : H2 p = some (.dK []) := e2.keep p _ nlD upd_same
      have e12 := gD.ext.tr w.toOwn e2
      split at q
      · rename_i hz
        refine ⟨hH, kvs, rfl, by rw [← rel.length]; exact hz, ?_⟩
        exact mk_put (o := .dct (mergeU [] ps)) (e := e12) hp w2 (e2.bold p (.inr rfl) nlD) (fun l => nlD (e2.lv upd_same l)) notup_dK (fun f g => ⟨_, upd_same, (RUk.merge rel .nil).map f g⟩) q
      · exact q.elim
end
def dcL (g : G) (tt : M Bool) (tk tv : M U) (δ : Sl) : List U → Hea → Option (List (D × U) × Hea)
  | [], h => some ([], h)
  | x :: xs, h => match g x δ h with
    | some (δ1, h1) => (match tt δ1 h1 with
      | some (.ok true h2) => (match tk δ1 h2 with
        | some (.ok (.d kd) h3) => (match keyD kd with
          | some _ => (match tv δ1 h3 with
            | some (.ok y h4) => (match dcL g tt tk tv δ xs h4 with
              | some (ys, h5) => some ((kd, y) :: ys, h5)
              | none => none)
            | _ => none)
          | none => none)
        | _ => none)
      | some (.ok false h2) => dcL g tt tk tv δ xs h2
      | _ => none)
    | none => none
def dcM (f : M (List U)) (vs : List Nat) (g : G) (tt : M Bool) (tk tv : M U) : M U := mbnd f fun xs δ h => if szOk xs.length = true then (match dcL g tt tk tv (wipeS δ vs) xs h with
  | some (ys, h') => newE (.dct (mergeU [] ys)) δ h'
  | none => none) else none
theorem RUk.snoc1 {C : Ct} {B : Bd} {r : Rho} {H : Hp} {kd : D} {k : Key} {y : U} {v : V} (e : keyD kd = some k) (ry : RU C B r H y v) : ∀ {us : List (D × U)} {vs : List (Key × V)}, RUk C B r H us vs → RUk C B r H (us ++ [(kd, y)]) (vs ++ [(k, v)])
  | _, _, .nil => .cons e ry .nil
  | _, _, .cons e2 a b => .cons e2 a (RUk.snoc1 e ry b)
theorem mergeK_snoc (vs : List (Key × V)) (k : Key) (v : V) : mergeK [] (vs ++ [(k, v)]) = putK (mergeK [] vs) k v := by
  unfold mergeK
  rw [List.foldl_append]
  rfl
/-- a comprehension's reading -/
theorem t_dc {C : Ct} {W : Wj} {f : M (List U)} {vs : List Nat} {g : G} {tt : M Bool} {tk tv : M U} {σ : L2.St} {H : Hp} {Q : VK} (hj : C.j.xi = none) (W0 : Wj) (h0 : W0.w = fun _ _ _ _ => False)
    (t : tI C W (dcM f vs g tt tk tv) σ H Q) : tDc (tII C W f) (tGc C vs g) (tT C W0 tt) (tI C W0 tk) (tI C W0 tv) vs σ H Q := by
  refine tG.bnd (Rel := Ylds C) t fun xs B r H1 h δ J w s rj q => ?_
  intro Dd hD
  try dsimp only at q
  by_cases hz : szOk xs.length = true
  · rw [if_pos hz] at q
    cases hl : dcL g tt tk tv (wipeS δ vs) xs h with
    | none => rw [hl] at q; exact q.elim
    | some res =>
      obtain ⟨ysF, hF⟩ := res
      simp only [hl] at q
      -- the state with the new list
      have gD := Gr.made w hD (notup_dK (H := H1) (p := Dd) (xs := []))
      have wD := gD.wd w
      have nlD : ¬ Lv r Dd := fun l => by
        obtain ⟨o, ho⟩ := w.dom Dd (w.own Dd l)
        rw [hD] at ho
        cases ho
      refine ⟨fun i m H2 => ∃ B2 r2 h2 done acc todo, Ext B r H1 B2 r2 H2 ∧ Wd C B2 r2 H2 h2 ∧ B2 Dd ∧ ¬ Lv r2 Dd ∧ H2 Dd = some (.dK (mergeK [] acc)) ∧ RUk C B2 r2 H2 done acc ∧ m = xs.length - i ∧ i ≤ xs.length ∧ done.length ≤ i ∧ ysF = done ++ todo ∧ dcL g tt tk tv (wipeS δ vs) (xs.drop i) h2 = some (todo, hF),
        ⟨xs.length, _, r, h, [], [], ysF, gD.ext, wD, .inr rfl, nlD, upd_same, .nil, by simp, Nat.zero_le _, Nat.zero_le _, rfl, hl⟩, ?_⟩
      rintro i m H2 ⟨B2, r2, h2, done, acc, todo, e2, w2, bD, nl2, hH2, rdn, rfl, hi, hdl, hys, hlc⟩
      obtain ⟨j1, j2⟩ := rj B2 r2 H2 h2 i e2 w2
      have s2 : SlR C B2 r2 H2 (wipe σ vs) (wipeS δ vs) := (s.ext e2 w.toOwn).wipe hj vs
      by_cases hlt : i < xs.length
      · obtain ⟨j3, j4⟩ := j1 hlt
        have ed : xs.drop i = xs[i] :: xs.drop (i + 1) := List.drop_eq_getElem_cons hlt
        rw [ed] at hlc
        refine .inr ⟨j3, fun H' => ∃ B2 r2 h2 done acc todo, Ext B r H1 B2 r2 H' ∧ Wd C B2 r2 H' h2 ∧ B2 Dd ∧ ¬ Lv r2 Dd ∧ H' Dd = some (.dK (mergeK [] acc)) ∧ RUk C B2 r2 H' done acc ∧ done.length ≤ i + 1 ∧ ysF = done ++ todo ∧ dcL g tt tk tv (wipeS δ vs) (xs.drop (i + 1)) h2 = some (todo, hF),
          fun H' ⟨B3, r3, h3, d3, a3, t3, e3, w3, b3, n3, hh3, rd3, l3, y3, c3⟩ => ⟨xs.length - (i + 1), by omega, B3, r3, h3, d3, a3, t3, e3, w3, b3, n3, hh3, rd3, rfl, hlt, l3, y3, c3⟩, fun x H3 y => ?_⟩
        obtain ⟨B3, g3, u, hu, ru⟩ := j4 x H3 y
        have eu : u = xs[i] := by
          rw [List.getElem?_eq_getElem hlt] at hu
          exact (Option.some.inj hu).symm
        subst eu
        have w3 := g3.wd w2
        have e3 : Ext B2 r2 H2 B3 r2 H3 := g3.ext
        -- what stays of the new list
        have step : ∀ {Ba Bb : Bd} {ra rb : Rho} {Ha Hb : Hp} {hb : Hea}, Ext Ba ra Ha Bb rb Hb → Wd C Bb rb Hb hb → Own Ba ra Ha → Ba Dd → ¬ Lv ra Dd → Ha Dd = some (.dK (mergeK [] acc)) → RUk C Ba ra Ha done acc → Bb Dd ∧ ¬ Lv rb Dd ∧ Hb Dd = some (.dK (mergeK [] acc)) ∧ RUk C Bb rb Hb done acc :=
          fun e w' o b n hh rr => ⟨e.bold Dd b n, fun l => n (e.lv hh l), e.keep Dd _ n hh, RUk.ext e o rr⟩
        obtain ⟨b3, n3, hh3, rd3⟩ := step e3 w3 w2.toOwn bD nl2 hH2 rdn
        have s3 := s2.ext e3 w2.toOwn
        refine ⟨B3, r2, h2, wipeS δ vs, xs[i], w3, s3, ru, ?_⟩
        unfold dcL at hlc
        cases hg : g xs[i] (wipeS δ vs) h2 with
        | none => simp only [hg] at hlc; cases hlc
        | some y1 =>
          obtain ⟨δ1, h1⟩ := y1
          simp only [hg] at hlc
          intro B4 r4 H4 σ4 e4 w4 s4 hw4
          obtain ⟨b4, n4, hh4, rd4⟩ := step e4 w4 w3.toOwn b3 n3 hh3 rd3
          have hww : wipe (wipe σ vs) vs = wipe σ vs := by
            have go : ∀ (l m : List Nat) (σ : L2.St), (∀ v ∈ l, v ∈ m) → wipe (wipe σ m) l = wipe σ m := by
              intro l m σ hlm
              induction l with
              | nil => rfl
              | cons v l ih =>
                show (wipe (wipe σ m) l).set v none = wipe σ m
                rw [ih fun v h => hlm v (List.mem_cons_of_mem _ h)]
                have go2 : ∀ (m : List Nat), v ∈ m → (wipe σ m).set v none = wipe σ m := by
                  intro m
                  induction m with
                  | nil => intro h; cases h
                  | cons u m ih2 =>
                    intro hv
                    show ((wipe σ m).set u none).set v none = (wipe σ m).set u none
                    by_cases huv : u = v
                    · subst huv
                      rw [List.set_set]
                    · rw [List.set_comm _ _ huv]
                      rcases List.mem_cons.mp hv with z | z
                      · exact absurd z.symm huv
                      · rw [ih2 z]
                exact go2 m (hlm v List.mem_cons_self)
            exact go vs vs σ fun _ h => h
          refine ⟨hw4.trans hww, B4, r4, h1, δ1, w4, s4, ?_⟩
          have e14 : Ext B r H1 B4 r4 H4 := e2.tr w.toOwn (e3.tr w2.toOwn e4)
          cases ht : tt δ1 h1 with
          | none => simp only [ht] at hlc; cases hlc
          | some o =>
            cases o with
            | exc e h => simp only [ht] at hlc; cases hlc
            | ok b h5 =>
              intro B5 r5 H5 b' e5 w5 rel
              cases rel
              obtain ⟨b5, n5, hh5, rd5⟩ := step e5 w5 w4.toOwn b4 n4 hh4 rd4
              have s5 := s4.ext e5 w4.toOwn
              have e15 := e14.tr w.toOwn e5
              cases b with
              | false =>
                simp only [ht] at hlc
                exact ⟨B5, r5, h5, done, acc, todo, e15, w5, b5, n5, hh5, rd5, by omega, hys, hlc⟩
              | true =>
                simp only [ht] at hlc
                show tI C W0 tk σ4 H5 _
                refine ⟨B5, r5, h5, δ1, w5, s5, ?_⟩
                cases htk : tk δ1 h5 with
                | none => simp only [htk] at hlc; cases hlc
                | some o =>
                  cases o with
                  | exc e h => simp only [htk] at hlc; cases hlc
                  | ok ku h6 =>
                    simp only [htk] at hlc
                    cases ku with
                    | loc n => cases hlc
                    | tup us => cases hlc
                    | d kd =>
                      try dsimp only at hlc
                      cases hkd : keyD kd with
                      | none => simp only [hkd] at hlc; cases hlc
                      | some key =>
                        simp only [hkd] at hlc
                        intro B6 r6 H6 kv6 e6 w6 rk6
                        obtain ⟨b6, n6, hh6, rd6⟩ := step e6 w6 w5.toOwn b5 n5 hh5 rd5
                        have s6 := s5.ext e6 w5.toOwn
                        have e16 := e15.tr w.toOwn e6
                        have ek : kv6 = kV key := by
                          cases rk6 with
                          | d rk6 => exact rk6.key hkd
                        show tI C W0 tv σ4 H6 _
                        refine ⟨B6, r6, h6, δ1, w6, s6, ?_⟩
                        cases htv : tv δ1 h6 with
                        | none => simp only [htv] at hlc; cases hlc
                        | some o =>
                          cases o with
                          | exc e h => simp only [htv] at hlc; cases hlc
                          | ok y h7 =>
                            simp only [htv] at hlc
                            intro B7 r7 H7 v7 e7 w7 ry
                            obtain ⟨b7, n7, hh7, rd7⟩ := step e7 w7 w6.toOwn b6 n6 hh6 rd6
                            have e17 := e16.tr w.toOwn e7
                            have hal : (mergeK [] acc).length < sizeLine := by
                              have h1 := length_mergeK acc []
                              rw [← rd7.length, List.length_nil] at h1
                              have := szOk_le hz
                              omega
                            refine ⟨mergeK [] acc, key, ek, hh7, hal, ?_⟩
                            obtain ⟨w8, f8, g8⟩ := w7.own_putX b7 n7 (.dK (putK (mergeK [] acc) key v7)) notup_dK
                            cases hrest : dcL g tt tk tv (wipeS δ vs) (xs.drop (i + 1)) h7 with
                            | none => simp only [hrest] at hlc; cases hlc
                            | some rs =>
                              obtain ⟨ys, h8⟩ := rs
                              simp only [hrest] at hlc
                              cases hlc
                              have e18 : Ext B r H1 B7 r7 (upd H7 Dd (.dK (putK (mergeK [] acc) key v7))) :=
                                { rho := e17.rho
                                  rnew := e17.rnew
                                  keep := fun a o nl z => by
                                    rw [upd_ne (ne_of_none z hD)]
                                    exact e17.keep a o nl z
                                  bnew := e17.bnew
                                  bold := e17.bold
                                  there := fun a o z => by
                                    obtain ⟨o', z'⟩ := e17.there a o z
                                    exact ⟨o', by rw [upd_ne (ne_of_none z hD)]; exact z'⟩
                                  dom := w8.dom }
                              exact ⟨B7, r7, h7, done ++ [(kd, y)], acc ++ [(key, v7)], ys, e18, w8, b7, n7, by rw [mergeK_snoc]; exact upd_same, RUk.snoc1 hkd (ry.map f8 g8) (rd7.map f8 g8), by simp; omega, by rw [hys]; simp, hrest⟩
      · have hd : xs.drop i = [] := List.drop_eq_nil_of_le (Nat.le_of_not_lt hlt)
        rw [hd] at hlc
        cases hlc
        refine .inl ⟨j2 (Nat.le_of_not_lt hlt), ?_⟩
        rw [List.append_nil] at hys
        subst hys
        exact mk_obj (o := .dct (mergeU [] ysF)) (e := e2) hD w2 bD nl2 ⟨_, hH2, (RUk.merge rdn .nil).app _⟩ q
  · rw [if_neg hz] at q
    exact q.elim
section
variable {X : Cx} {W : Wj} {kx vx tg iter : Expr} {ifs : List Expr} {scope : Scope} {own : List (Str × Nat)} {pos : Pos} {f : M (List U)} {g : G} {tt : M Bool} {tk tv : M U}
theorem re_dc (own : List (Str × Nat)) (hc : X.calm = true) (hN : X.N.Nodup) (hj : W.j.xi = none) (hi : RI1 X W tg iter f) (ok : blkC X.N X.env.scope scope own = true)
    (hg : ∀ (s : Shared) (H : Hp) (C : Addr) (cl : List (Str × Addr)) (fp : List Addr), RGc (X.blk s H scope (compEnvC scope cl C X.env) fp) W.no (own.map fun p : Str × Nat => p.2) tg g)
    (ht : ∀ (s : Shared) (H : Hp) (C : Addr) (cl : List (Str × Addr)) (fp : List Addr), RTs (X.blk s H scope (compEnvC scope cl C X.env) fp) W.no ifs tt)
    (hk : ∀ (s : Shared) (H : Hp) (C : Addr) (cl : List (Str × Addr)) (fp : List Addr), RE (X.blk s H scope (compEnvC scope cl C X.env) fp) W.no kx tk)
    (he : ∀ (s : Shared) (H : Hp) (C : Addr) (cl : List (Str × Addr)) (fp : List Addr), RE (X.blk s H scope (compEnvC scope cl C X.env) fp) W.no vx tv) (hs : ∀ x, foldedSetIterable iter X.env x = pure x := by intro _; rfl) :
    RE X W (.DictComp kx vx [⟨tg, iter, ifs, 0⟩] scope pos) (dcM f (own.map fun p : Str × Nat => p.2) g tt tk tv) :=
  pe_imp (pe_dc (g := tGc (ctX X W) (own.map fun p : Str × Nat => p.2) g) (tt := tT (ctX X W) W.no tt) (tk := tI (ctX X W) W.no tk) (tv := tI (ctX X W) W.no tv) hc hN hi (blkOk_by ok) hg ht hk he hs) fun σ H Q t => t_dc hj W.no rfl t
end
section
variable {X : Cx} {pins : List (Addr × Obj)} {σ : L2.St} {H : Hp} {s : Shared} {d : Addr} {o : Obj}
theorem npr_get {xs : List NK} {ys : List (NestedKey × Addr × Value)} (r : NPr xs ys) : ∀ {i : Nat} {k : NestedKey} {b : Addr} {v : V}, xs[i]? = some (k, b, v) → ∃ u, ys[i]? = some (k, b, u) ∧ RelV v u := by
  induction r with
  | nil => intro i k b v e; simp at e
  | @cons p q ps qs h t ih =>
    intro i k b v e
    cases i with
    | zero =>
      simp only [List.getElem?_cons_zero, Option.some.injEq] at e
      subst e
      obtain ⟨h1, h2, h3⟩ := h
      obtain ⟨q1, q2, q3⟩ := q
      dsimp only at h1 h2
      subst h1 h2
      exact ⟨q3, rfl, h3⟩
    | succ j =>
      simp only [List.getElem?_cons_succ] at e ⊢
      exact ih e
/-- a locked one, as its object lies -/
theorem Inv.frzN {xs : List NK} (I : Inv X pins σ H s) (h : H d = some (.frz o (dN X.prog X.w d xs))) :
    (d == sysModules) = false ∧ ∃ (es : Array DictEntry) (ep : Nat), o.data = .dict es ep ∧ s.heap.DictRaw d es ep ∧ es.size = xs.length ∧
      ∀ (i : Nat) (k : NestedKey) (b : Addr) (v : V), xs[i]? = some (k, b, v) → ∃ (hi : i < es.size) (u : Value), es[i].key = .ref b ∧ es[i].val = u ∧ RelV v u := by
  obtain ⟨hd, ⟨z, hs, ys, pr, ⟨o', es, ep, g1, g2, g3, g4⟩, nd⟩, _⟩ := (show ObjOk X.prog X.w H s.heap d (.frz o (dN X.prog X.w d xs)) from I.hok d _ h)
  rw [hd] at g1
  cases g1
  have hsz : es.size = ys.length := size_of_entries g4
  refine ⟨hs, es, ep, g3, ⟨o, hd, g2, g3⟩, by rw [hsz]; exact (Paired.length pr).symm, fun i k b v e => ?_⟩
  obtain ⟨u, hu, ru⟩ := npr_get pr e
  have z := entry_at g4 i
  rw [hu, Option.map_some] at z
  obtain ⟨hi, hen⟩ := Array.getElem?_eq_some_iff.mp z
  exact ⟨hi, u, by rw [hen]; rfl, by rw [hen]; rfl, ru⟩
end
/-- its keys, its values, its pairs, in their order -/
def ItNk (P : Program) (w : World) (d : Addr) (o : Obj) (xs : List NK) : It :=
  ⟨fun i H => H d = some (.frz o (dN P w d xs)) ∧ i < xs.length, fun i H x H' => H' = H ∧ ∃ k b v, xs[i]? = some (k, b, v) ∧ x = .ref b, fun i H => H d = some (.frz o (dN P w d xs)) ∧ xs.length ≤ i⟩
def ItNv (P : Program) (w : World) (d : Addr) (o : Obj) (xs : List NK) : It :=
  ⟨fun i H => H d = some (.frz o (dN P w d xs)) ∧ i < xs.length, fun i H x H' => H' = H ∧ ∃ k b, xs[i]? = some (k, b, x), fun i H => H d = some (.frz o (dN P w d xs)) ∧ xs.length ≤ i⟩
def ItNi (P : Program) (w : World) (d : Addr) (o : Obj) (xs : List NK) : It :=
  ⟨fun i H => H d = some (.frz o (dN P w d xs)) ∧ i < xs.length, fun i H x H' => ∃ T k b v, xs[i]? = some (k, b, v) ∧ x = .ref T ∧ H T = none ∧ H' = upd H T (.tup [.ref b, v]), fun i H => H d = some (.frz o (dN P w d xs)) ∧ xs.length ≤ i⟩
section
variable {P : Program} {w : World} {K : PySem.W.Frag} {tg : Expr} {d : Addr} {o : Obj} {es : Array DictEntry} {ep : Nat} {xs : List NK}
theorem es_same {es' : Array DictEntry} {ep' : Nat} (h : o.data = .dict es ep) (h' : o.data = .dict es' ep') : es' = es ∧ ep' = ep := by
  rw [h] at h'
  cases h'
  exact ⟨rfl, rfl⟩
theorem turn_Nk (it : Addr) (hod : o.data = .dict es ep) (hl : es.size = xs.length) : Turn P w K tg (ItNk P w d o xs) [it] it (fun i h => h.IsKeyIter it d i es.size ep) where
  mem := by simp
  obj := fun i h st b hb => by
    obtain rfl : b = it := by simpa using hb
    obtain ⟨oi, e, c, dd⟩ := st
    exact ⟨oi, e, fun v z => by rw [dd] at z; cases z⟩
  keep := fun i h h' st k => st.at fun oi e => k it (by simp) oi e
  item := by
    intro X hP hw hK hc i pins s σ H E I hf st hg
    subst hP hw hK
    obtain ⟨hd, hi⟩ := hg
    obtain ⟨f0, f1, f2, f3, f4, f5⟩ := hf it (by simp)
    obtain ⟨hs, es', ep', hdt, raw, hsz, ent⟩ := Inv.frzN I hd
    obtain ⟨rfl, rfl⟩ := es_same hod hdt
    obtain ⟨⟨k, b, v⟩, hkv⟩ : ∃ p, xs[i]? = some p := ⟨xs[i], List.getElem?_eq_getElem hi⟩
    obtain ⟨hi2, u, hkey, hval, ru⟩ := ent i k b v hkv
    refine wpAny_pyNext_keys_item_raw st raw hi2 fun h' st' sb => ?_
    have I1 : Inv X pins σ H { s with heap := h' } := I.turned (t' := s.toks) (fun b ob hb e => (sb.2 b hb).trans e) f0 f1 f3 f4 f5
    obtain ⟨oi, e, c, dd⟩ := id st'
    exact ⟨_, rfl, go_of (s := { s with heap := h' }) e c dd (by decide) ⟨.ref b, H, I1, hkey, ⟨rfl, k, b, v, hkv, rfl⟩, st', fun b hb => (hf b hb).1⟩⟩
  done := by
    intro X hP hw hK hc i pins s σ H E I hf st hg
    subst hP hw hK
    obtain ⟨hd, hi⟩ := hg
    obtain ⟨f0, f1, f2, f3, f4, f5⟩ := hf it (by simp)
    obtain ⟨hs, es', ep', hdt, raw, hsz, ent⟩ := Inv.frzN I hd
    obtain ⟨rfl, rfl⟩ := es_same hod hdt
    exact wpAny_pyNext_keys_end_raw (I.ok.hd hc) st raw (by omega) fun h' eb => ⟨rfl, I.turned (t' := s.toks) (fun b ob hb e => eb b ob hb e) f0 f1 f3 f4 f5⟩
  self := fun A i s Q E st h => wpAny_pyIter_keyiter st h
theorem turn_Nv (it : Addr) (hod : o.data = .dict es ep) (hl : es.size = xs.length) : Turn P w K tg (ItNv P w d o xs) [it] it (fun i h => h.IsValIter it d i es.size ep) where
  mem := by simp
  obj := fun i h st b hb => by
    obtain rfl : b = it := by simpa using hb
    obtain ⟨oi, e, c, dd⟩ := st
    exact ⟨oi, e, fun v z => by rw [dd] at z; cases z⟩
  keep := fun i h h' st k => st.at fun oi e => k it (by simp) oi e
  item := by
    intro X hP hw hK hc i pins s σ H E I hf st hg
    subst hP hw hK
    obtain ⟨hd, hi⟩ := hg
    obtain ⟨f0, f1, f2, f3, f4, f5⟩ := hf it (by simp)
    obtain ⟨hs, es', ep', hdt, raw, hsz, ent⟩ := Inv.frzN I hd
    obtain ⟨rfl, rfl⟩ := es_same hod hdt
    obtain ⟨⟨k, b, v⟩, hkv⟩ : ∃ p, xs[i]? = some p := ⟨xs[i], List.getElem?_eq_getElem hi⟩
    obtain ⟨hi2, u, hkey, hval, ru⟩ := ent i k b v hkv
    refine wpAny_pyNext_values_item_raw st raw hi2 fun h' st' sb => ?_
    have I1 : Inv X pins σ H { s with heap := h' } := I.turned (t' := s.toks) (fun b ob hb e => (sb.2 b hb).trans e) f0 f1 f3 f4 f5
    obtain ⟨oi, e, c, dd⟩ := id st'
    exact ⟨_, rfl, go_of (s := { s with heap := h' }) e c dd (by decide) ⟨v, H, I1, by rw [hval]; exact ru, ⟨rfl, k, b, hkv⟩, st', fun b hb => (hf b hb).1⟩⟩
  done := by
    intro X hP hw hK hc i pins s σ H E I hf st hg
    subst hP hw hK
    obtain ⟨hd, hi⟩ := hg
    obtain ⟨f0, f1, f2, f3, f4, f5⟩ := hf it (by simp)
    obtain ⟨hs, es', ep', hdt, raw, hsz, ent⟩ := Inv.frzN I hd
    obtain ⟨rfl, rfl⟩ := es_same hod hdt
    exact wpAny_pyNext_values_end_raw (I.ok.hd hc) st raw (by omega) fun h' eb => ⟨rfl, I.turned (t' := s.toks) (fun b ob hb e => eb b ob hb e) f0 f1 f3 f4 f5⟩
  self := fun A i s Q E st h => wpAny_pyIter_valiter st h
theorem turn_Ni {elts : List Expr} {kk : Nat} {tpos : Pos} (it : Addr) (hod : o.data = .dict es ep) (hl : es.size = xs.length) :
    Turn P w K (.Tuple elts kk tpos) (ItNi P w d o xs) [it] it (fun i h => ∃ ok ov, IsItemIter h it d i es.size ep ok ov) where
  mem := by simp
  obj := fun i h st b hb => by
    obtain rfl : b = it := by simpa using hb
    obtain ⟨ok, ov, e⟩ := st
    exact ⟨_, e, fun v z => nomatch z⟩
  keep := fun i h h' st k => let ⟨ok, ov, e⟩ := st; ⟨ok, ov, k it (by simp) _ e⟩
  item := by
    intro X hP hw hK hc i pins s σ H E I hf st hg
    subst hP hw hK
    obtain ⟨hd, hi⟩ := hg
    obtain ⟨hs, es', ep', hdt, raw, hsz, ent⟩ := Inv.frzN I hd
    obtain ⟨rfl, rfl⟩ := es_same hod hdt
    obtain ⟨⟨k, b, v⟩, hkv⟩ : ∃ p, xs[i]? = some p := ⟨xs[i], List.getElem?_eq_getElem hi⟩
    obtain ⟨hi2, u, hkey, hval, ru⟩ := ent i k b v hkv
    obtain ⟨ok, ov, he⟩ := st
    have hlt : it < s.heap.objs.size := Heap.lt_size he
    refine wpAny_pyNext_items_item_raw he raw hi2 fun h' ho hT hz hk => ?_
    refine ⟨_, rfl, wpAny_letOwnedTupleGo_items (s := { s with heap := h' }) ho fun h2 he2 sb => ?_⟩
    have hT2 : h2.get? s.heap.objs.size = some { cls := .type "tuple", data := .seq #[.ref b, u] } := by
      rw [hkey, hval] at hT
      exact (sb.2 _ (Nat.ne_of_gt hlt)).trans hT
    have new : ObjOk X.prog X.w (upd H s.heap.objs.size (.tup [.ref b, v])) h2 s.heap.objs.size (.tup [.ref b, v]) :=
      ⟨by show 2 ≤ sizeLine; decide, [.ref b, u], .cons rfl (.cons ru .nil), ⟨_, hT2, rfl, _, rfl⟩⟩
    have I1 : Inv X pins σ (upd H s.heap.objs.size (.tup [.ref b, v])) { s with heap := h2 } :=
      I.turnedNew (t' := s.toks) (ch := [it]) (fun b ob hb e => (sb.2 b (by simpa using hb)).trans (hk b ob (by simpa using hb) e)) hf (Nat.le_refl _) new
    refine ⟨.ref s.heap.objs.size, _, I1, rfl, ⟨_, k, b, v, hkv, rfl, I.hok.fresh (Nat.le_refl _), rfl⟩, ⟨_, _, he2⟩, fun c hc => ?_⟩
    obtain rfl : c = it := by simpa using hc
    rw [upd_ne (Nat.ne_of_lt hlt)]
    exact (hf c (by simp)).1
  done := by
    intro X hP hw hK hc i pins s σ H E I hf st hg
    subst hP hw hK
    obtain ⟨hd, hi⟩ := hg
    obtain ⟨f0, f1, f2, f3, f4, f5⟩ := hf it (by simp)
    obtain ⟨hs, es', ep', hdt, raw, hsz, ent⟩ := Inv.frzN I hd
    obtain ⟨rfl, rfl⟩ := es_same hod hdt
    obtain ⟨ok, ov, he⟩ := st
    exact wpAny_pyNext_items_end_raw (I.ok.hd hc) he raw (by omega) fun h' eb => ⟨rfl, I.turned (t' := s.toks) (fun b ob hb e => eb b ob hb e) f0 f1 f3 f4 f5⟩
  self := fun A i s Q E st h => let ⟨_, _, e⟩ := st; PySem.W.kcp_self e h
end
def iNk (P : Program) (w : World) (td : TE) : TI := fun σ H R => td σ H fun x H1 => ∃ d o xs, x = .ref d ∧ H1 d = some (.frz o (dN P w d xs)) ∧ R (ItNk P w d o xs) H1
def iNv (P : Program) (w : World) (td : TE) : TI := fun σ H R => td σ H fun x H1 => ∃ d o xs, x = .ref d ∧ H1 d = some (.frz o (dN P w d xs)) ∧ R (ItNv P w d o xs) H1
def iNi (P : Program) (w : World) (td : TE) : TI := fun σ H R => td σ H fun x H1 => ∃ d o xs, x = .ref d ∧ H1 d = some (.frz o (dN P w d xs)) ∧ R (ItNi P w d o xs) H1
theorem raw_noDict {h : Heap} {d : Addr} {es : Array DictEntry} {ep : Nat} (raw : h.DictRaw d es ep) : ∀ b, Value.ref d = .ref b → ∃ ob, h.get? b = some ob ∧ ob.dict = none := fun b q => by
  cases q
  obtain ⟨o, ho, hc, _⟩ := raw
  exact ⟨o, ho, hc.2.1⟩
section
variable {X : Cx} {tg e : Expr} {td : TE} {apos cpos : Pos}
theorem pi_Nk (he : PE X e td) : PI X tg e (iNk X.prog X.w td) := by
  refine ⟨fun pins s σ H R I h => thn (he.run pins s σ H _ I h) fun u s1 ⟨x, H1, I1, rx, d, o, xs, ex, hd, q⟩ => ?_⟩
  subst ex
  cases (show u = Value.ref d from rx)
  obtain ⟨hs, es, ep, hdt, raw, hsz, ent⟩ := Inv.frzN I1 hd
  exact wpAny_pyIter_dict_raw hs raw (pi_one (tk := s1.toks) I1 _ (turn_Nk _ hdt hsz) ⟨_, Heap.get?_push_size _ rfl, rfl, rfl⟩ q)
theorem pi_Nv (he : PE X e td) (hbase : attributeBase e "values" X.env (eval e X.env) = eval e X.env := by rfl) (hline : (apos.endLine == cpos.line) = true := by rfl) : PI X tg (.Call (.Attribute e "values" apos) [] [] cpos) (iNv X.prog X.w td) := by
  refine ⟨fun pins s σ H R I h => wpAny_Call_method (T := "dict") (id := "dict.values") hbase rfl hline F.plainAttrs_dict F.slot_dict_values F.type_dict_values (thn (he.run pins s σ H _ I h) fun u s1 ⟨x, H1, I1, rx, d, o, xs, ex, hd, q⟩ => ?_)⟩
  subst ex
  cases (show u = Value.ref d from rx)
  obtain ⟨hs, es, ep, hdt, raw, hsz, ent⟩ := Inv.frzN I1 hd
  refine ⟨raw.typeIs, raw_noDict raw, ?_⟩
  have I2 : Inv X pins σ H1 { s1 with heap := s1.heap.push { cls := .type "dict_values", data := .fields #[.ref d] } } := I1.kept (t' := s1.toks) fun b ob q => Heap.get?_push_of_some _ q
  have fin : wpAny (model X.prog X.w) X.A (pyIter (.ref s1.heap.objs.size)) (PIE X pins σ tg R) X.xe { s1 with heap := s1.heap.push { cls := .type "dict_values", data := .fields #[.ref d] } } :=
    wpAny_pyIter_values_raw (d := d) ⟨_, Heap.get?_push_size _ rfl, rfl, rfl⟩ (raw.at fun ob q => Heap.get?_push_of_some _ q) (pi_one (tk := s1.toks) I2 _ (turn_Nv _ hdt hsz) ⟨_, Heap.get?_push_size _ rfl, rfl, rfl⟩ q)
  show wpAny _ _ (callWith cpos (.builtin "dict.values") [.ref d] [] []) _ X.xe s1
  exact method_meetsIn F.slot_dict_values F.entry_dict_values rfl (PySem.evalArgs_none ⟨rfl, raw.typeIs, F.args_dict_values_1 _, _, meets_dict_values_raw d hs, ⟨es, ep, raw⟩, fin⟩)
theorem pi_Nkm (he : PE X e td) (hbase : attributeBase e "keys" X.env (eval e X.env) = eval e X.env := by rfl) (hline : (apos.endLine == cpos.line) = true := by rfl) : PI X tg (.Call (.Attribute e "keys" apos) [] [] cpos) (iNk X.prog X.w td) := by
  refine ⟨fun pins s σ H R I h => wpAny_Call_method (T := "dict") (id := "dict.keys") hbase rfl hline F.plainAttrs_dict F.slot_dict_keys F.type_dict_keys (thn (he.run pins s σ H _ I h) fun u s1 ⟨x, H1, I1, rx, d, o, xs, ex, hd, q⟩ => ?_)⟩
  subst ex
  cases (show u = Value.ref d from rx)
  obtain ⟨hs, es, ep, hdt, raw, hsz, ent⟩ := Inv.frzN I1 hd
  refine ⟨raw.typeIs, raw_noDict raw, ?_⟩
  have I2 : Inv X pins σ H1 { s1 with heap := s1.heap.push { cls := .type "dict_keys", data := .fields #[.ref d] } } := I1.kept (t' := s1.toks) fun b ob q => Heap.get?_push_of_some _ q
  have fin : wpAny (model X.prog X.w) X.A (pyIter (.ref s1.heap.objs.size)) (PIE X pins σ tg R) X.xe { s1 with heap := s1.heap.push { cls := .type "dict_keys", data := .fields #[.ref d] } } :=
    wpAny_pyIter_keys_raw (d := d) ⟨_, Heap.get?_push_size _ rfl, rfl, rfl⟩ (raw.at fun ob q => Heap.get?_push_of_some _ q) (pi_one (tk := s1.toks) I2 _ (turn_Nk _ hdt hsz) ⟨_, Heap.get?_push_size _ rfl, rfl, rfl⟩ q)
  show wpAny _ _ (callWith cpos (.builtin "dict.keys") [.ref d] [] []) _ X.xe s1
  exact method_meetsIn F.slot_dict_keys F.entry_dict_keys rfl (PySem.evalArgs_none ⟨rfl, raw.typeIs, F.args_dict_keys_1 _, _, meets_dict_keys_raw d hs, ⟨es, ep, raw⟩, fin⟩)
theorem pi_Ni {elts : List Expr} {kk : Nat} {tpos : Pos} (he : PE X e td) (hbase : attributeBase e "items" X.env (eval e X.env) = eval e X.env := by rfl) (hline : (apos.endLine == cpos.line) = true := by rfl) :
    PI X (.Tuple elts kk tpos) (.Call (.Attribute e "items" apos) [] [] cpos) (iNi X.prog X.w td) := by
  refine ⟨fun pins s σ H R I h => wpAny_Call_method (T := "dict") (id := "dict.items") hbase rfl hline F.plainAttrs_dict F.slot_dict_items F.type_dict_items (thn (he.run pins s σ H _ I h) fun u s1 ⟨x, H1, I1, rx, d, o, xs, ex, hd, q⟩ => ?_)⟩
  subst ex
  cases (show u = Value.ref d from rx)
  obtain ⟨hs, es, ep, hdt, raw, hsz, ent⟩ := Inv.frzN I1 hd
  refine ⟨raw.typeIs, raw_noDict raw, ?_⟩
  have I2 : Inv X pins σ H1 { s1 with heap := s1.heap.push { cls := .type "dict_items", data := .fields #[.ref d] } } := I1.kept (t' := s1.toks) fun b ob q => Heap.get?_push_of_some _ q
  have fin : wpAny (model X.prog X.w) X.A (pyIter (.ref s1.heap.objs.size)) (PIE X pins σ (.Tuple elts kk tpos) R) X.xe { s1 with heap := s1.heap.push { cls := .type "dict_items", data := .fields #[.ref d] } } :=
    wpAny_pyIter_items_raw (d := d) ⟨_, Heap.get?_push_size _ rfl, rfl, rfl⟩ (raw.at fun ob q => Heap.get?_push_of_some _ q) (pi_one (tk := s1.toks) I2 _ (turn_Ni _ hdt hsz) ⟨.none, .none, Heap.get?_push_size _ rfl⟩ q)
  show wpAny _ _ (callWith cpos (.builtin "dict.items") [.ref d] [] []) _ X.xe s1
  exact method_meetsIn F.slot_dict_items F.entry_dict_items rfl (PySem.evalArgs_none ⟨rfl, raw.typeIs, F.args_dict_items_1 _, _, meets_dict_items_raw d hs, ⟨es, ep, raw⟩, fin⟩)
end
def seqNk : U → Option (List U)
  | .d (.ndct kvs) => some (kvs.map fun p => .d p.1)
  | _ => none
def seqNv : U → Option (List U)
  | .d (.ndct kvs) => some (kvs.map fun p => .d p.2)
  | _ => none
def seqNi : U → Option (List U)
  | .d (.ndct kvs) => some (kvs.map fun p => .d (.tup [p.1, p.2]))
  | _ => none
section
variable {C : Ct} {B : Bd} {r : Rho} {H : Hp} {h : Hea} {a : Addr} {od : Obj} {xs : List NK} {ds : List (D × D)}
theorem RDn.at_ {C0 : Ct0} : ∀ {ds : List (D × D)} {xs : List NK} (i : Nat) {k : NestedKey} {b : Addr} {v : V}, RDn C0 B H ds xs → xs[i]? = some (k, b, v) → ∃ kd d, ds[i]? = some (kd, d) ∧ RD C0 B H kd (.ref b) ∧ RD C0 B H d v
  | _, _, _, _, _, _, .nil, h => by simp at h
  | _, _, 0, _, _, _, .cons e c a b, h => by
    cases h
    exact ⟨_, _, rfl, c, a⟩
  | _, _, i + 1, _, _, _, .cons e c a b, h => by
    obtain ⟨kd, d, h1, h2⟩ := RDn.at_ i b (by simpa using h)
    exact ⟨kd, d, by simpa using h1, h2⟩
theorem ylds_Nk (w : Wd C B r H h) (nb : ¬ B a) (hs : H a = some (.frz od (dN C.P C.w a xs))) (q : RDn C.toCt0 B H ds xs) : Ylds C B r H (ds.map fun p => .d p.1) (ItNk C.P C.w a od xs) := fun B1 r1 H1 h1 i e w1 => by
  have hs1 : H1 a = _ := e.keep _ _ (fun z => nb (w.own _ z)) hs
  have q1 := RDn.ext e w.toOwn q
  have hl : (ds.map fun p => U.d p.1).length = xs.length := by rw [List.length_map, q.length]
  refine ⟨fun hi => ⟨⟨hs1, by omega⟩, fun x H2 ⟨eH, k, b, v, y, ex⟩ => ?_⟩, fun hi => ⟨hs1, by omega⟩⟩
  subst eH ex
  obtain ⟨kd, d, h1, h2, h3⟩ := q1.at_ i y
  exact ⟨B1, w1.toOwn.gr, .d kd, by rw [List.getElem?_map, h1]; rfl, .d h2⟩
theorem ylds_Nv (w : Wd C B r H h) (nb : ¬ B a) (hs : H a = some (.frz od (dN C.P C.w a xs))) (q : RDn C.toCt0 B H ds xs) : Ylds C B r H (ds.map fun p => .d p.2) (ItNv C.P C.w a od xs) := fun B1 r1 H1 h1 i e w1 => by
  have hs1 : H1 a = _ := e.keep _ _ (fun z => nb (w.own _ z)) hs
  have q1 := RDn.ext e w.toOwn q
  have hl : (ds.map fun p => U.d p.2).length = xs.length := by rw [List.length_map, q.length]
  refine ⟨fun hi => ⟨⟨hs1, by omega⟩, fun x H2 ⟨eH, k, b, y⟩ => ?_⟩, fun hi => ⟨hs1, by omega⟩⟩
  subst eH
  obtain ⟨kd, d, h1, h2, h3⟩ := q1.at_ i y
  exact ⟨B1, w1.toOwn.gr, .d d, by rw [List.getElem?_map, h1]; rfl, .d h3⟩
theorem ylds_Ni (w : Wd C B r H h) (nb : ¬ B a) (hs : H a = some (.frz od (dN C.P C.w a xs))) (q : RDn C.toCt0 B H ds xs) : Ylds C B r H (ds.map fun p => .d (.tup [p.1, p.2])) (ItNi C.P C.w a od xs) := fun B1 r1 H1 h1 i e w1 => by
  have hs1 : H1 a = _ := e.keep _ _ (fun z => nb (w.own _ z)) hs
  have q1 := RDn.ext e w.toOwn q
  have hl : (ds.map fun p => U.d (.tup [p.1, p.2])).length = xs.length := by rw [List.length_map, q.length]
  refine ⟨fun hi => ⟨⟨hs1, by omega⟩, fun x H2 ⟨T, k, b, v, y, ex, hT, eH⟩ => ?_⟩, fun hi => ⟨hs1, by omega⟩⟩
  subst eH ex
  obtain ⟨kd, d, h1, h2, h3⟩ := q1.at_ i y
  obtain ⟨g, ru⟩ := pair_new w1 hT h2 h3
  exact ⟨B1, g, _, by rw [List.getElem?_map, h1]; rfl, ru⟩
theorem ndct_of {u : U} {v : V} (ru : RU C B r H u v) (e : u = .d (.ndct ds)) : ∃ a od xs, v = .ref a ∧ ¬ B a ∧ H a = some (.frz od (dN C.P C.w a xs)) ∧ RDn C.toCt0 B H ds xs := by
  subst e
  cases ru with
  | d rd =>
    cases rd with
    | ndct nb hs q => exact ⟨_, _, _, rfl, nb, hs, q⟩
end
section
variable {X : Cx} {W : Wj} {tg e : Expr} {f : M U} {apos pos tpos : Pos} {elts : List Expr} {kk : Nat}
theorem ri_Nk (he : RE X W e f) : RI1 X W tg e (itE seqNk f) :=
  pi_imp (pi_Nk he) fun σ H R t => tG.bnd t fun u B r H1 h δ v w s ru q => by
    try dsimp only at q
    unfold seqNk at q
    split at q
    · rename_i xs hx
      split at hx
      · cases hx
        obtain ⟨a, od, vs, rfl, nb, hs, qq⟩ := ndct_of ru rfl
        exact ⟨a, od, vs, rfl, hs, EQ.ret w q (ylds_Nk w nb hs qq)⟩
      · cases hx
    · exact q.elim
theorem ri_Nkm (he : RE X W e f) (hbase : attributeBase e "keys" X.env (eval e X.env) = eval e X.env := by rfl) (hline : (apos.endLine == pos.line) = true := by rfl) : RI1 X W tg (.Call (.Attribute e "keys" apos) [] [] pos) (itE seqNk f) :=
  pi_imp (pi_Nkm he hbase hline) fun σ H R t => tG.bnd t fun u B r H1 h δ v w s ru q => by
    try dsimp only at q
    unfold seqNk at q
    split at q
    · rename_i xs hx
      split at hx
      · cases hx
        obtain ⟨a, od, vs, rfl, nb, hs, qq⟩ := ndct_of ru rfl
        exact ⟨a, od, vs, rfl, hs, EQ.ret w q (ylds_Nk w nb hs qq)⟩
      · cases hx
    · exact q.elim
theorem ri_Nv (he : RE X W e f) (hbase : attributeBase e "values" X.env (eval e X.env) = eval e X.env := by rfl) (hline : (apos.endLine == pos.line) = true := by rfl) : RI1 X W tg (.Call (.Attribute e "values" apos) [] [] pos) (itE seqNv f) :=
  pi_imp (pi_Nv he hbase hline) fun σ H R t => tG.bnd t fun u B r H1 h δ v w s ru q => by
    try dsimp only at q
    unfold seqNv at q
    split at q
    · rename_i xs hx
      split at hx
      · cases hx
        obtain ⟨a, od, vs, rfl, nb, hs, qq⟩ := ndct_of ru rfl
        exact ⟨a, od, vs, rfl, hs, EQ.ret w q (ylds_Nv w nb hs qq)⟩
      · cases hx
    · exact q.elim
theorem ri_Ni (he : RE X W e f) (hbase : attributeBase e "items" X.env (eval e X.env) = eval e X.env := by rfl) (hline : (apos.endLine == pos.line) = true := by rfl) : RI1 X W (.Tuple elts kk tpos) (.Call (.Attribute e "items" apos) [] [] pos) (itE seqNi f) :=
  pi_imp (pi_Ni he hbase hline) fun σ H R t => tG.bnd t fun u B r H1 h δ v w s ru q => by
    try dsimp only at q
    unfold seqNi at q
    split at q
    · rename_i xs hx
      split at hx
      · cases hx
        obtain ⟨a, od, vs, rfl, nb, hs, qq⟩ := ndct_of ru rfl
        exact ⟨a, od, vs, rfl, hs, EQ.ret w q (ylds_Ni w nb hs qq)⟩
      · cases hx
    · exact q.elim
end
def mergeN (xs more : List NK) : List NK := more.foldl (fun acc p => putN acc p.1 p.2.1 p.2.2) xs
theorem mergeN_snoc (vs : List NK) (p : NK) : mergeN [] (vs ++ [p]) = putN (mergeN [] vs) p.1 p.2.1 p.2.2 := by
  unfold mergeN
  rw [List.foldl_append]
  rfl
theorem mergeN_len : ∀ (more xs : List NK), (mergeN xs more).length ≤ xs.length + more.length
  | [], xs => Nat.le_refl _
  | p :: r, xs => by
    have h1 := mergeN_len r (putN xs p.1 p.2.1 p.2.2)
    have h2 := putN_len xs p.1 p.2.1 p.2.2
    show (mergeN (putN xs p.1 p.2.1 p.2.2) r).length ≤ _
    rw [List.length_cons]
    omega
theorem NPr.merge : ∀ {ms : List NK} {ns : List (NestedKey × Addr × Value)} {xs : List NK} {ys : List (NestedKey × Addr × Value)}, NPr ms ns → NPr xs ys → NPr (mergeN xs ms) (storedAllH ys ns) := by
  intro ms ns xs ys r
  induction r generalizing xs ys with
  | nil => intro q; exact q
  | @cons p q ps qs h t ih =>
    intro r0
    obtain ⟨h1, h2, h3⟩ := h
    have e := NPr.put r0 p.1 p.2.1 h3
    rw [h1, h2] at e
    have z := ih e
    show NPr (mergeN (putN xs p.1 p.2.1 p.2.2) ps) (storedAllH (storedH ys q.1 q.2.1 q.2.2) qs)
    rw [h1, h2]
    exact z
theorem carriesN {X : Cx} {pins : List (Addr × Obj)} {σ : L2.St} {H : Hp} {s : Shared} (I : Inv X pins σ H s) : ∀ {ks : List NK} {ws : List (Value × Value)}, (∀ p ∈ ks, KyV X.K H p.1 (.ref p.2.1)) → VV (ks.map fun p => (V.ref p.2.1, p.2.2)) ws → ∃ rs, CarriesH (nestedKind X.prog X.w) s.heap ws rs ∧ NPr ks rs
  | [], _, _, r => by
    rw [List.map_nil] at r
    cases r
    exact ⟨[], True.intro, .nil⟩
  | p :: ks, _, hk, r => by
    rw [List.map_cons] at r
    cases r with
    | @cons a b as bs h t =>
      obtain ⟨rs, c, q⟩ := carriesN I (fun x hx => hk x (List.mem_cons_of_mem _ hx)) t
      obtain ⟨b1, b2⟩ := b
      obtain ⟨h1, h2⟩ := h
      cases (show b1 = Value.ref p.2.1 from h1)
      exact ⟨(p.1, p.2.1, b2) :: rs, ⟨rfl, rfl, ky_is I (hk p List.mem_cons_self), c⟩, .cons ⟨rfl, rfl, h2⟩ q⟩
def tDispN (P : Program) (w : World) (K : PySem.W.Frag) (trs : List (TE × TE)) : TE := fun σ H Q => ∀ p, H p = none → tPairs trs σ (upd H p (dN P w p [])) fun ps H2 => H2 p = some (dN P w p []) ∧
  ∃ ks : List NK, ps = ks.map (fun q => (V.ref q.2.1, q.2.2)) ∧ (∀ q ∈ ks, KyV K H2 q.1 (.ref q.2.1)) ∧ ks.length ≤ 15 ∧ Q (.ref p) (upd H2 p (dN P w p (mergeN [] ks)))
theorem dn_empty {X : Cx} {H' : Hp} (h : Heap) (hb : sysModules < h.objs.size) : ObjOk X.prog X.w H' (h.push { cls := .type "dict", data := .dict #[] }) h.objs.size (dN X.prog X.w h.objs.size []) :=
  dn_new (xs' := []) (ys' := []) (Nat.zero_le _) (beq_eq_false_iff_ne.mpr (Ne.symm (Nat.ne_of_lt hb))) .nil (Heap.DictOfH.new h)
theorem pe_dispN {X : Cx} {pos : Pos} {keys : List (Option Expr)} {values : List Expr} {trs : List (TE × TE)} (hu : X.A.units + 8 < cLine) (h : PPs X pos keys values trs) (hall : keys.all (·.isSome) = true) (hl : keys.length = values.length) (h0 : keys ≠ [])
    (h15 : keys.length ≤ 15) : PE X (.Dict keys values pos) (tDispN X.prog X.w X.K trs) := by
  refine ⟨fun pins s σ H Q I q => ?_⟩
  have hn := I.hok.fresh (Nat.le_refl s.heap.objs.size)
  have I1 := I.laid (a := s.heap.objs.size) (o := dN X.prog X.w s.heap.objs.size []) (h' := s.heap.push { cls := .type "dict", data := .dict #[] }) (t' := s.toks) (fun _ _ q => Heap.get?_push_of_some _ q) (Nat.le_refl _) (dn_empty s.heap I.big)
  have hpl := pairTrees_length keys values X.env pos hall hl
  have hp0 : pairTrees keys values X.env pos ≠ [] := fun e => by
    rw [e] at hpl
    exact h0 (List.length_eq_zero_iff.mp hpl.symm)
  rw [arm_eval_Dict, zip_pairTrees keys values X.env pos hall hl, dictDisplay_pairs _ hp0 (by omega)]
  refine wpAny_bind (wpAny_standAt (wpAny_bind (wpAny_subDictH (knd := nestedKind X.prog X.w) hu (by omega) (thn (h.run pins _ σ _ _ I1 (q _ hn)) fun ws s2 ⟨ps, H2, I2, rel, e, ks, ep, hk, lk, q2⟩ => ?_))))
  subst ep
  obtain ⟨rs, c, rk⟩ := carriesN I2 hk rel
  obtain ⟨z, hd, ys0, r0, dd⟩ := dn_of I2 (.inl e) (fun p hp => by cases hp)
  cases r0
  refine ⟨rs, c, dd, fun h' tk dd' hs => wpAny_pure ⟨.ref s.heap.objs.size, _, ?_, rfl, q2⟩⟩
  have hz : (mergeN [] ks).length ≤ sizeLine := by
    have h1 := mergeN_len ks []
    rw [List.length_nil] at h1
    rw [sizeLine_eq]
    omega
  exact dy_write I2 (by rw [e]; exact True.intro) hs hz hd (NPr.merge rk .nil) dd'
def mergeNU (kvs more : List (D × U)) : List (D × U) := more.foldl (fun acc p => putNU acc p.1 p.2) kvs
section
variable {C : Ct} {B : Bd} {r : Rho} {H : Hp}
theorem RUn.merge : ∀ {us : List (D × U)} {vs : List NK} {ks : List (D × U)} {kvs : List NK}, RUn C B r H us vs → RUn C B r H ks kvs → RUn C B r H (mergeNU ks us) (mergeN kvs vs)
  | _, _, _, _, .nil, q => q
  | _, _, _, _, .cons e c a b, q => by
    have z := RUn.merge b (q.putN e c a)
    exact z
end
def npnil : M (List (D × U)) := mret []
def npcons (f g : M U) (k : M (List (D × U))) : M (List (D × U)) := mbnd f fun x => mbnd g fun y => mbnd k fun r _ h => match x with
  | .d kd => match nkT kd with
    | some _ => some (.ok ((kd, y) :: r) h)
    | none => none
  | _ => none
def dispNE (g : M (List (D × U))) : M U := mbnd g fun ps δ h => if ps.length ≤ 15 then newE (.ndct (mergeNU [] ps)) δ h else none
def RNs (X : Cx) (W : Wj) (pos : Pos) (keys : List (Option Expr)) (values : List Expr) (g : M (List (D × U))) : Prop :=
  ∃ trs, PPs X pos keys values trs ∧ ∀ σ H Q, tG (ctX X W) W (RUn (ctX X W)) g σ H (fun ks H => Q (ks.map (fun q => (V.ref q.2.1, q.2.2))) H) → tPairs trs σ H Q
section
variable {X : Cx} {W : Wj} {pos : Pos} {k v : Expr} {keys : List (Option Expr)} {values : List Expr} {f g : M U} {m : M (List (D × U))}
theorem rn_nil : RNs X W pos [] [] npnil := ⟨[], pps_nil, fun σ H Q ⟨B, r, h, δ, w, s, q⟩ => by
  unfold npnil mret at q
  have z := EQ.ret (v := ([] : List NK)) w q .nil
  exact z⟩
theorem rn_cons (hk : RE X W k f) (hv : RE X W v g) (hr : RNs X W pos keys values m) : RNs X W pos (some k :: keys) (v :: values) (npcons f g m) := by
  obtain ⟨trs, pp, im⟩ := hr
  refine ⟨_, pps_cons hk hv pp, fun σ H Q t => ?_⟩
  refine tG.bnd t fun x B1 r1 H1 h1 δ xv w1 s1 rx q1 => ?_
  refine ⟨B1, r1, h1, δ, w1, s1, q1.bnd w1 s1 fun y B2 r2 H2 h2 yv e2 w2 s2 ry q2 => ?_⟩
  refine im _ _ _ ⟨B2, r2, h2, δ, w2, s2, q2.bnd w2 s2 fun ps B3 r3 H3 h3 kvs e3 w3 s3 rel q3 => ?_⟩
  have rx3 := (rx.ext e2 w1.toOwn).ext e3 w2.toOwn
  try dsimp only at q3
  split at q3
  · rename_i kd
    split at q3
    · rename_i key hk
      cases rx3 with
      | d rx3 =>
        obtain ⟨b, rfl⟩ := (rx3.ky hk).2.2
        exact EQ.ret (v := (key, b, yv) :: kvs) w3 q3 (.cons hk rx3 (ry.ext e3 w2.toOwn) rel)
    · exact q3.elim
  · exact q3.elim
theorem re_dispN (hu : X.A.units + 65 < cLine) (hr : RNs X W pos keys values m) (hall : keys.all (·.isSome) = true := by rfl) (hl : keys.length = values.length := by rfl) (h0 : keys ≠ [] := by intro h; cases h) (h15 : keys.length ≤ 15 := by decide) :
    RE X W (.Dict keys values pos) (dispNE m) := by
  obtain ⟨trs, pp, im⟩ := hr
  refine pe_imp (pe_dispN (by omega) pp hall hl h0 h15) fun σ H Q ⟨B, r, h, δ, w, s, q⟩ p hp => ?_
  have gD := Gr.made w hp (notup_dN (P := X.prog) (w := X.w) (H := H) (p := p) (xs := []))
  have nlD := w.nlv hp
  refine im _ _ _ ⟨_, r, h, δ, gD.wd w, s.ext gD.ext w.toOwn, ?_⟩
  unfold dispNE mbnd at q
  cases hm : m δ h with
  | none => rw [hm] at q; exact q.elim
  | some x =>
    rw [hm] at q
    cases x with
    | exc ex h2 => exact EQ.shift w.toOwn q gD.ext
    | ok ps h2 =>
      intro B2 r2 H2 kvs e2 w2 rel
      try dsimp only at q
      have hH : H2 p = some (dN X.prog X.w p []) := e2.keep p _ nlD upd_same
      have e12 := gD.ext.tr w.toOwn e2
      split at q
      · rename_i hz
        refine ⟨hH, kvs, rfl, rel.ks, by rw [← rel.length]; exact hz, ?_⟩
        exact mk_put (o := .ndct (mergeNU [] ps)) (e := e12) hp w2 (e2.bold p (.inr rfl) nlD) (fun l => nlD (e2.lv upd_same l)) notup_dN (fun f g => ⟨_, upd_same, (RUn.merge rel .nil).map f g⟩) q
      · exact q.elim
end
section
variable {X : Cx}
/-- {k: v for target in iter if ..}, the keys tuples: D the new dict -/
def tDcN (P : Program) (w : World) (K : PySem.W.Frag) (wi : TI) (g : TG) (tt : TT) (tk tv : TE) (vs : List Nat) : TE := fun σ H Q => wi σ H fun J H1 => ∀ D, H1 D = none → ∃ W : Nat → Nat → Hp → Prop, (∃ m, W 0 m (upd H1 D (dN P w D []))) ∧ ∀ i m H, W i m H →
  (J.stop i H ∧ Q (.ref D) H) ∨ (J.go i H ∧ ∃ Nx : Hp → Prop, (∀ H', Nx H' → ∃ m', m' < m ∧ W (i + 1) m' H') ∧ ∀ x H', J.yld i H x H' → g x (wipe σ vs) H' fun σ2 H2 => wipe σ2 vs = wipe σ vs ∧ tt σ2 H2 fun b H3 =>
    if b = true then tk σ2 H3 fun y H4 => tv σ2 H4 fun z H5 => ∃ xs k q, y = .ref q ∧ KyV K H5 k (.ref q) ∧ H5 D = some (dN P w D xs) ∧ KsOk K H5 xs ∧ xs.length < sizeLine ∧ Nx (upd H5 D (dN P w D (putN xs k q z))) else Nx H3)
abbrev CeX (X : Cx) (s : Shared) (H : Hp) (scope : Scope) (C : Addr) (cl : List (Str × Addr)) (fp : List Addr) : Cx := X.blk s H scope (compEnvC scope cl C X.env) fp
theorem dcN_core {pins : List (Addr × Obj)} {s : Shared} {σ : L2.St} {H : Hp} {Q : VK} {kx vx tg iter : Expr} {ifs : List Expr} {scope : Scope} {own : List (Str × Nat)} {pos pos' : Pos} {wi : TI} {g : TG} {tt : TT} {tk tv : TE} {use : Option (Value → Sem Unit)} {Qf : Value → Shared → Prop}
    (hu : X.A.units + 8 < cLine) (hc : X.calm = true) (hN : X.N.Nodup) (I : Inv X pins σ H s) (hi : PI X tg iter wi) (ok : BlkOk X.N X.env.scope scope own)
    (hg : ∀ s H C cl fp, PG (CeX X s H scope C cl fp) tg g) (ht : ∀ s H C cl fp, PTs (CeX X s H scope C cl fp) ifs tt) (hk : ∀ s H C cl fp, PE (CeX X s H scope C cl fp) kx tk) (he : ∀ s H C cl fp, PE (CeX X s H scope C cl fp) vx tv)
    (hs : ∀ x, foldedSetIterable iter X.env x = pure x) (h : tDcN X.prog X.w X.K wi g tt tk tv (own.map (·.2)) σ H Q)
    (fin : ∀ D C s' m H', Inv X pins σ H' s' → Q (.ref D) H' → s'.heap.Ns C m → FpOk X pins H' C → compPost (model X.prog X.w) X.A X.xe use Qf (.ref D) C (.ok .next) s') :
    wpAny (model X.prog X.w) X.A (comprehension (.DictComp kx vx [⟨tg, iter, ifs, 0⟩] scope pos) scope X.env pos' newDict false (eval iter X.env) use) Qf X.xe s := by
  have frees : ∀ y ∈ scope.names, y.2 = .free → ∃ c, X.env.cells.lookup y.1 = some c := fun y hy e => (ok.free y hy e).elim (fun k => I.ok.has _ (.inl k)) fun k => I.ok.has _ (.inr k)
  refine wpAny_comprehension_free (use := use) rfl hs (closure_ok frees) ok.kind (fun y hy e => by rw [ok.uniq y hy, e]) (thn (hi.run pins s σ H _ I h) fun xv s1 hx => thn hx fun itv s2 ⟨it, fp, tn, J, H2, e, I2, T, st2, f2, q⟩ => ?_)
  subst e
  refine wpAny_newObj_type (newEnv_comp ?_)
  generalize hD : s2.heap.objs.size = Dd
  have hDn : H2 Dd = none := I2.hok.fresh (Nat.le_of_eq hD)
  obtain ⟨W, ⟨m0, w0⟩, turn⟩ := q Dd hDn
  generalize hs3 : ({ s2 with heap := s2.heap.push { cls := .type "dict", data := .dict #[] } } : Shared) = s3
  have h3 : s3.heap = s2.heap.push { cls := .type "dict", data := .dict #[] } := by rw [← hs3]
  have I3 : Inv X pins σ (upd H2 Dd (dN X.prog X.w Dd [])) s3 := by
    rw [← hs3]
    refine I2.laid (t' := s2.toks) (fun b o e => Heap.get?_push_of_some _ e) (Nat.le_of_eq hD) ?_
    subst hD
    exact dn_empty s2.heap I2.big
  have f3 : ∀ b ∈ fp, FpOk X pins (upd H2 Dd (dN X.prog X.w Dd [])) b ∧ b < s3.heap.objs.size := fun b hb => by
    obtain ⟨o, eo, _⟩ := T.obj _ _ st2 b hb
    have hlt := Heap.lt_size eo
    refine ⟨⟨?_, (f2 b hb).2⟩, by rw [h3, Heap.size_push]; exact Nat.lt_succ_of_lt hlt⟩
    rw [upd_ne (by rw [← hD]; exact Nat.ne_of_lt hlt)]
    exact (f2 b hb).1
  have st3 : tn 0 s3.heap := T.keep _ _ _ st2 fun b _ o e => by rw [h3]; exact Heap.get?_push_of_some _ e
  have I4 := block_start I3 ok hN f3
  generalize hH3 : upd H2 Dd (dN X.prog X.w Dd []) = H3 at I3 I4 f3 w0
  have nfp : ∀ b ∈ fp, H3 b = none := fun b hb => (f3 b hb).1.1
  generalize hcl : cellsFrom (s3.heap.objs.size + 1) scope.names (cloFrom X.env.cells scope.names []) = cl at I4 ⊢
  have pg : PG (X.blk s3 H3 scope (compEnvC scope cl s3.heap.objs.size X.env) fp) tg g := hg s3 H3 s3.heap.objs.size cl fp
  have pt : PTs (X.blk s3 H3 scope (compEnvC scope cl s3.heap.objs.size X.env) fp) ifs tt := ht s3 H3 s3.heap.objs.size cl fp
  have pk : PE (X.blk s3 H3 scope (compEnvC scope cl s3.heap.objs.size X.env) fp) kx tk := hk s3 H3 s3.heap.objs.size cl fp
  have pv : PE (X.blk s3 H3 scope (compEnvC scope cl s3.heap.objs.size X.env) fp) vx tv := he s3 H3 s3.heap.objs.size cl fp
  show codeAny _ _ (.compStart (.DictComp kx vx [⟨tg, iter, ifs, 0⟩] scope pos) 0 (.ref it) (.ref Dd) (compEnvC scope cl s3.heap.objs.size X.env)) (compPost (model X.prog X.w) X.A X.xe use Qf (.ref Dd) s3.heap.objs.size) { s3 with heap := pushCells (s3.heap.push { cls := .type "dict", data := .dict #[] }) scope.names }
  generalize hce : compEnvC scope cl s3.heap.objs.size X.env = ce at I4 pg pt pk pv ⊢
  have cL : ce.locals = s3.heap.objs.size := by subst hce; rfl
  generalize hs4 : ({ s3 with heap := pushCells (s3.heap.push { cls := .type "dict", data := .dict #[] }) scope.names } : Shared) = s4 at I4 ⊢
  have st4 : tn 0 s4.heap := T.keep _ _ _ st3 fun b _ o e => by rw [← hs4]; exact pushCells_keeps _ _ _ _ (Heap.get?_push_of_some _ e)
  have stat : ∀ {σ' : L2.St} {H' : Hp} {s' : Shared}, Inv (X.blk s3 H3 scope ce fp) [] σ' H' s' → (∀ b ∈ fp, H' b = none) → ∀ b ∈ fp, FpOk (X.blk s3 H3 scope ce fp) [] H' b := fun {σ' H' s'} J' hn b hb =>
    ⟨hn b hb, (J'.ok.exf b hb).1, J'.ok.exfs b hb, .inl hb, fun x c e => (J'.ok.exf b hb).2 x c e, fun p hp => absurd (show p ∈ ([] : List (Addr × Obj)) ++ [] from hp) (by simp)⟩
  have loop : codeAny (model X.prog X.w) X.A (.compLoop (.DictComp kx vx [⟨tg, iter, ifs, 0⟩] scope pos) 0 (.ref it) (.ref Dd) ce) (compPost (model X.prog X.w) X.A X.xe use Qf (.ref Dd) s3.heap.objs.size) s4 := by
    refine compLoop_anyD (fun n s' => ∃ i H', Inv (X.blk s3 H3 scope ce fp) [] (wipe σ (own.map (·.2))) H' s' ∧ tn i s'.heap ∧ (∀ b ∈ fp, H' b = none) ∧ W i n H') ?_ m0 ⟨0, H3, I4, st4, nfp, w0⟩
    rintro n s5 ⟨i, H5, I5, st5, n5, w5⟩
    rcases turn i n H5 w5 with ⟨stop, qq⟩ | ⟨go, Nx, hNx, step⟩
    · refine thnF (T.done (X.blk s3 H3 scope ce fp) rfl rfl rfl hc i [] s5 _ H5 (fun _ _ => False) I5 (stat I5 n5) st5 stop) fun r s6 ⟨hr, I6⟩ => ?_
      subst hr
      have I7 : Inv X pins σ H5 s6 := I3.call' (ch := fp) I6.os I6.base I6.hok I6.bare fun b hb => ⟨(f3 b hb).1.2.2.2.1, (f3 b hb).1.2.1, (f3 b hb).1.2.2.2.2.1, (f3 b hb).1.2.2.2.2.2⟩
      have nC : H5 s3.heap.objs.size = none := by
        have z : H5 ce.locals = none := I6.free
        rw [cL] at z
        exact z
      obtain ⟨m, hn, _⟩ := I6.loc
      have hn : s6.heap.Ns ce.locals m := hn
      rw [cL] at hn
      exact fin Dd s3.heap.objs.size s6 m H5 I7 qq hn (I3.fpOk (Nat.le_refl _) nC)
    · refine thnF (T.item (X.blk s3 H3 scope ce fp) rfl rfl rfl hc i [] s5 _ H5 (fun _ _ => False) I5 (stat I5 n5) st5 go) fun r s6 ⟨u, hr, h6⟩ => ?_
      subst hr
      refine thnF h6 fun _ s7 ⟨x, H7, I7, r7, y7, st7, n7⟩ => ?_
      have I7p := I7.pinned (stat I7 n7) (T.obj _ _ st7)
      refine thnF (pg.run _ s7 _ H7 x u _ I7p r7 (step x H7 y7)) fun _ s8 ⟨σ8, H8, I8, hw8, q8⟩ => ?_
      refine thnF (pt.run _ s8 σ8 H8 _ I8 q8) fun b s9 ⟨H9, I9, q9⟩ => ?_
      have back : ∀ {s' : Shared} {H' : Hp}, Inv (X.blk s3 H3 scope ce fp) ([] ++ pinsAt fp s7.heap) σ8 H' s' → Nx H' → ∃ m, m < n ∧ ∃ i H', Inv (X.blk s3 H3 scope ce fp) [] (wipe σ (own.map (·.2))) H' s' ∧ tn i s'.heap ∧ (∀ b ∈ fp, H' b = none) ∧ W i m H' := fun {s' H'} J' nx => by
        obtain ⟨m', hm, w'⟩ := hNx H' nx
        have pin' : ∀ b ∈ fp, ∀ o, s7.heap.get? b = some o → s'.heap.get? b = some o ∧ H' b = none := fun b hb o e =>
          let z := J'.pin (b, o) (List.mem_append_right _ (List.mem_append_right _ (mem_pinsAt hb e)))
          ⟨z.1, z.2.1⟩
        have hl : (wipe σ (own.map (·.2))).length = σ8.length := by rw [← hw8, wipe_length]
        refine ⟨m', hm, i + 1, H', (J'.unpinned (pins := [])).weak hl (fun j v e => ?_), T.keep _ _ _ st7 fun b hb o e => (pin' b hb o e).1, fun b hb => ?_, w'⟩
        · rw [← hw8] at e
          exact (wipe_some e).1
        · obtain ⟨o, e, _⟩ := T.obj _ _ st7 b hb
          exact (pin' b hb o e).2
      cases b with
      | false =>
        simp only [Bool.false_eq_true, if_false] at q9 ⊢
        exact back I9 q9
      | true =>
        simp only [if_true] at q9 ⊢
        refine thnF (pk.run _ s9 σ8 H9 _ I9 q9) fun z s10 ⟨yk, H10, I10, r10, q10⟩ => ?_
        refine thnF (pv.run _ s10 σ8 H10 _ I10 q10) fun z2 s11 ⟨yv, H11, I11, r11, xs, k, qa, ek, ky, hD11, ks, hz11, nx⟩ => ?_
        subst ek
        cases (show z = Value.ref qa from r10)
        exact dy_dictSet (X := X.blk s3 H3 scope ce fp) hu I11 hD11 ks ky hz11 r11 fun s12 I12 => back I12 nx
  exact codeAny_compStart_dict loop (T.self X.A 0 _ _ _ st4 loop)
theorem pe_dcN {kx vx tg iter : Expr} {ifs : List Expr} {scope : Scope} {own : List (Str × Nat)} {pos : Pos} {wi : TI} {g : TG} {tt : TT} {tk tv : TE} (hu : X.A.units + 8 < cLine) (hc : X.calm = true) (hN : X.N.Nodup) (hi : PI X tg iter wi) (ok : BlkOk X.N X.env.scope scope own)
    (hg : ∀ s H C cl fp, PG (CeX X s H scope C cl fp) tg g) (ht : ∀ s H C cl fp, PTs (CeX X s H scope C cl fp) ifs tt) (hk : ∀ s H C cl fp, PE (CeX X s H scope C cl fp) kx tk) (he : ∀ s H C cl fp, PE (CeX X s H scope C cl fp) vx tv)
    (hs : ∀ x, foldedSetIterable iter X.env x = pure x := by intro _; rfl) : PE X (.DictComp kx vx [⟨tg, iter, ifs, 0⟩] scope pos) (tDcN X.prog X.w X.K wi g tt tk tv (own.map (·.2))) := by
  refine ⟨fun pins s σ H Q I h => ?_⟩
  rw [arm_eval_DictComp]
  refine dcN_core hu hc hN I hi ok hg ht hk he hs h fun D C s' m H' I' q hn f => ⟨m, hn, fun h2 sb => ?_⟩
  obtain ⟨f0, f1, f2, f3, f4, f5⟩ := f
  exact ⟨.ref D, H', I'.turned (t' := s'.toks) (fun b o hb e => (sb.2 b hb).trans e) f0 f1 f3 f4 f5, rfl, q⟩
end
def dcLN (g : G) (tt : M Bool) (tk tv : M U) (δ : Sl) : List U → Hea → Option (List (D × U) × Hea)
  | [], h => some ([], h)
  | x :: xs, h => match g x δ h with
    | some (δ1, h1) => (match tt δ1 h1 with
      | some (.ok true h2) => (match tk δ1 h2 with
        | some (.ok (.d kd) h3) => (match nkT kd with
          | some _ => (match tv δ1 h3 with
            | some (.ok y h4) => (match dcLN g tt tk tv δ xs h4 with
              | some (ys, h5) => some ((kd, y) :: ys, h5)
              | none => none)
            | _ => none)
          | none => none)
        | _ => none)
      | some (.ok false h2) => dcLN g tt tk tv δ xs h2
      | _ => none)
    | none => none
def dcMN (f : M (List U)) (vs : List Nat) (g : G) (tt : M Bool) (tk tv : M U) : M U := mbnd f fun xs δ h => if szOk xs.length = true then (match dcLN g tt tk tv (wipeS δ vs) xs h with
  | some (ys, h') => newE (.ndct (mergeNU [] ys)) δ h'
  | none => none) else none
theorem RUn.snoc1 {C : Ct} {B : Bd} {r : Rho} {H : Hp} {kd : D} {k : NestedKey} {b : Addr} {y : U} {v : V} (e : nkT kd = some k) (c : RD C.toCt0 B H kd (.ref b)) (ry : RU C B r H y v) : ∀ {us : List (D × U)} {vs : List NK}, RUn C B r H us vs → RUn C B r H (us ++ [(kd, y)]) (vs ++ [(k, b, v)])
  | _, _, .nil => .cons e c ry .nil
  | _, _, .cons e2 c2 a b => .cons e2 c2 a (RUn.snoc1 e c ry b)
/-- a comprehension's reading -/
theorem t_dcN {C : Ct} {W : Wj} {f : M (List U)} {vs : List Nat} {g : G} {tt : M Bool} {tk tv : M U} {σ : L2.St} {H : Hp} {Q : VK} (hj : C.j.xi = none) (W0 : Wj) (h0 : W0.w = fun _ _ _ _ => False)
    (t : tI C W (dcMN f vs g tt tk tv) σ H Q) : tDcN C.P C.w C.K (tII C W f) (tGc C vs g) (tT C W0 tt) (tI C W0 tk) (tI C W0 tv) vs σ H Q := by
  refine tG.bnd (Rel := Ylds C) t fun xs B r H1 h δ J w s rj q => ?_
  intro Dd hD
  try dsimp only at q
  by_cases hz : szOk xs.length = true
  · rw [if_pos hz] at q
    cases hl : dcLN g tt tk tv (wipeS δ vs) xs h with
    | none => rw [hl] at q; exact q.elim
    | some res =>
      obtain ⟨ysF, hF⟩ := res
      simp only [hl] at q
      -- the state with the new list
      have gD := Gr.made w hD (notup_dN (P := C.P) (w := C.w) (H := H1) (p := Dd) (xs := []))
      have wD := gD.wd w
      have nlD : ¬ Lv r Dd := fun l => by
        obtain ⟨o, ho⟩ := w.dom Dd (w.own Dd l)
        rw [hD] at ho
        cases ho
      refine ⟨fun i m H2 => ∃ B2 r2 h2 done acc todo, Ext B r H1 B2 r2 H2 ∧ Wd C B2 r2 H2 h2 ∧ B2 Dd ∧ ¬ Lv r2 Dd ∧ H2 Dd = some (dN C.P C.w Dd (mergeN [] acc)) ∧ RUn C B2 r2 H2 done acc ∧ m = xs.length - i ∧ i ≤ xs.length ∧ done.length ≤ i ∧ ysF = done ++ todo ∧ dcLN g tt tk tv (wipeS δ vs) (xs.drop i) h2 = some (todo, hF),
        ⟨xs.length, _, r, h, [], [], ysF, gD.ext, wD, .inr rfl, nlD, upd_same, .nil, by simp, Nat.zero_le _, Nat.zero_le _, rfl, hl⟩, ?_⟩
      rintro i m H2 ⟨B2, r2, h2, done, acc, todo, e2, w2, bD, nl2, hH2, rdn, rfl, hi, hdl, hys, hlc⟩
      obtain ⟨j1, j2⟩ := rj B2 r2 H2 h2 i e2 w2
      have s2 : SlR C B2 r2 H2 (wipe σ vs) (wipeS δ vs) := (s.ext e2 w.toOwn).wipe hj vs
      by_cases hlt : i < xs.length
      · obtain ⟨j3, j4⟩ := j1 hlt
        have ed : xs.drop i = xs[i] :: xs.drop (i + 1) := List.drop_eq_getElem_cons hlt
        rw [ed] at hlc
        refine .inr ⟨j3, fun H' => ∃ B2 r2 h2 done acc todo, Ext B r H1 B2 r2 H' ∧ Wd C B2 r2 H' h2 ∧ B2 Dd ∧ ¬ Lv r2 Dd ∧ H' Dd = some (dN C.P C.w Dd (mergeN [] acc)) ∧ RUn C B2 r2 H' done acc ∧ done.length ≤ i + 1 ∧ ysF = done ++ todo ∧ dcLN g tt tk tv (wipeS δ vs) (xs.drop (i + 1)) h2 = some (todo, hF),
          fun H' ⟨B3, r3, h3, d3, a3, t3, e3, w3, b3, n3, hh3, rd3, l3, y3, c3⟩ => ⟨xs.length - (i + 1), by omega, B3, r3, h3, d3, a3, t3, e3, w3, b3, n3, hh3, rd3, rfl, hlt, l3, y3, c3⟩, fun x H3 y => ?_⟩
        obtain ⟨B3, g3, u, hu, ru⟩ := j4 x H3 y
        have eu : u = xs[i] := by
          rw [List.getElem?_eq_getElem hlt] at hu
          exact (Option.some.inj hu).symm
        subst eu
        have w3 := g3.wd w2
        have e3 : Ext B2 r2 H2 B3 r2 H3 := g3.ext
        -- what stays of the new list
        have step : ∀ {Ba Bb : Bd} {ra rb : Rho} {Ha Hb : Hp} {hb : Hea}, Ext Ba ra Ha Bb rb Hb → Wd C Bb rb Hb hb → Own Ba ra Ha → Ba Dd → ¬ Lv ra Dd → Ha Dd = some (dN C.P C.w Dd (mergeN [] acc)) → RUn C Ba ra Ha done acc → Bb Dd ∧ ¬ Lv rb Dd ∧ Hb Dd = some (dN C.P C.w Dd (mergeN [] acc)) ∧ RUn C Bb rb Hb done acc :=
          fun e w' o b n hh rr => ⟨e.bold Dd b n, fun l => n (e.lv hh l), e.keep Dd _ n hh, RUn.ext e o rr⟩
        obtain ⟨b3, n3, hh3, rd3⟩ := step e3 w3 w2.toOwn bD nl2 hH2 rdn
        have s3 := s2.ext e3 w2.toOwn
        refine ⟨B3, r2, h2, wipeS δ vs, xs[i], w3, s3, ru, ?_⟩
        unfold dcLN at hlc
        cases hg : g xs[i] (wipeS δ vs) h2 with
        | none => simp only [hg] at hlc; cases hlc
        | some y1 =>
          obtain ⟨δ1, h1⟩ := y1
          simp only [hg] at hlc
          intro B4 r4 H4 σ4 e4 w4 s4 hw4
          obtain ⟨b4, n4, hh4, rd4⟩ := step e4 w4 w3.toOwn b3 n3 hh3 rd3
          have hww : wipe (wipe σ vs) vs = wipe σ vs := by
            have go : ∀ (l m : List Nat) (σ : L2.St), (∀ v ∈ l, v ∈ m) → wipe (wipe σ m) l = wipe σ m := by
              intro l m σ hlm
              induction l with
              | nil => rfl
              | cons v l ih =>
                show (wipe (wipe σ m) l).set v none = wipe σ m
                rw [ih fun v h => hlm v (List.mem_cons_of_mem _ h)]
                have go2 : ∀ (m : List Nat), v ∈ m → (wipe σ m).set v none = wipe σ m := by
                  intro m
                  induction m with
                  | nil => intro h; cases h
                  | cons u m ih2 =>
                    intro hv
                    show ((wipe σ m).set u none).set v none = (wipe σ m).set u none
                    by_cases huv : u = v
                    · subst huv
                      rw [List.set_set]
                    · rw [List.set_comm _ _ huv]
                      rcases List.mem_cons.mp hv with z | z
                      · exact absurd z.symm huv
                      · rw [ih2 z]
                exact go2 m (hlm v List.mem_cons_self)
            exact go vs vs σ fun _ h => h
          refine ⟨hw4.trans hww, B4, r4, h1, δ1, w4, s4, ?_⟩
          have e14 : Ext B r H1 B4 r4 H4 := e2.tr w.toOwn (e3.tr w2.toOwn e4)
          cases ht : tt δ1 h1 with
          | none => simp only [ht] at hlc; cases hlc
          | some o =>
            cases o with
            | exc e h => simp only [ht] at hlc; cases hlc
            | ok b h5 =>
              intro B5 r5 H5 b' e5 w5 rel
              cases rel
              obtain ⟨b5, n5, hh5, rd5⟩ := step e5 w5 w4.toOwn b4 n4 hh4 rd4
              have s5 := s4.ext e5 w4.toOwn
              have e15 := e14.tr w.toOwn e5
              cases b with
              | false =>
                simp only [ht] at hlc
                exact ⟨B5, r5, h5, done, acc, todo, e15, w5, b5, n5, hh5, rd5, by omega, hys, hlc⟩
              | true =>
                simp only [ht] at hlc
                show tI C W0 tk σ4 H5 _
                refine ⟨B5, r5, h5, δ1, w5, s5, ?_⟩
                cases htk : tk δ1 h5 with
                | none => simp only [htk] at hlc; cases hlc
                | some o =>
                  cases o with
                  | exc e h => simp only [htk] at hlc; cases hlc
                  | ok ku h6 =>
                    simp only [htk] at hlc
                    cases ku with
                    | loc n => cases hlc
                    | tup us => cases hlc
                    | d kd =>
                      try dsimp only at hlc
                      cases hkd : nkT kd with
                      | none => simp only [hkd] at hlc; cases hlc
                      | some key =>
                        simp only [hkd] at hlc
                        intro B6 r6 H6 kv6 e6 w6 rk6
                        obtain ⟨b6, n6, hh6, rd6⟩ := step e6 w6 w5.toOwn b5 n5 hh5 rd5
                        have s6 := s5.ext e6 w5.toOwn
                        have e16 := e15.tr w.toOwn e6
                        obtain ⟨qa, eqa⟩ : ∃ b, kv6 = .ref b := by
                          cases rk6 with
                          | d rk6 => exact (rk6.ky hkd).2.2
                        subst eqa
                        show tI C W0 tv σ4 H6 _
                        refine ⟨B6, r6, h6, δ1, w6, s6, ?_⟩
                        cases htv : tv δ1 h6 with
                        | none => simp only [htv] at hlc; cases hlc
                        | some o =>
                          cases o with
                          | exc e h => simp only [htv] at hlc; cases hlc
                          | ok y h7 =>
                            simp only [htv] at hlc
                            intro B7 r7 H7 v7 e7 w7 ry
                            obtain ⟨b7, n7, hh7, rd7⟩ := step e7 w7 w6.toOwn b6 n6 hh6 rd6
                            have e17 := e16.tr w.toOwn e7
                            have hal : (mergeN [] acc).length < sizeLine := by
                              have h1 := mergeN_len acc []
                              rw [← rd7.length, List.length_nil] at h1
                              have := szOk_le hz
                              omega
                            have rk7 : RD C.toCt0 B7 H7 kd (.ref qa) := by
                              cases rk6 with
                              | d rk6 => exact rk6.ext e7 w6.toOwn
                            have ks7 : KsOk C.K H7 (mergeN [] acc) := (RUn.merge rd7 (.nil (C := C.toCt0))).ks
                            refine ⟨mergeN [] acc, key, qa, rfl, rk7.ky hkd, hh7, ks7, hal, ?_⟩
                            obtain ⟨w8, f8, g8⟩ := w7.own_putX b7 n7 (dN C.P C.w Dd (putN (mergeN [] acc) key qa v7)) notup_dN
                            cases hrest : dcLN g tt tk tv (wipeS δ vs) (xs.drop (i + 1)) h7 with
                            | none => simp only [hrest] at hlc; cases hlc
                            | some rs =>
                              obtain ⟨ys, h8⟩ := rs
                              simp only [hrest] at hlc
                              cases hlc
                              have e18 : Ext B r H1 B7 r7 (upd H7 Dd (dN C.P C.w Dd (putN (mergeN [] acc) key qa v7))) :=
                                { rho := e17.rho
                                  rnew := e17.rnew
                                  keep := fun a o nl z => by
                                    rw [upd_ne (ne_of_none z hD)]
                                    exact e17.keep a o nl z
                                  bnew := e17.bnew
                                  bold := e17.bold
                                  there := fun a o z => by
                                    obtain ⟨o', z'⟩ := e17.there a o z
                                    exact ⟨o', by rw [upd_ne (ne_of_none z hD)]; exact z'⟩
                                  dom := w8.dom }
                              exact ⟨B7, r7, h7, done ++ [(kd, y)], acc ++ [(key, qa, v7)], ys, e18, w8, b7, n7, by rw [mergeN_snoc]; exact upd_same, RUn.snoc1 hkd (f8 _ _ rk7) (ry.map f8 g8) (rd7.map f8 g8), by simp; omega, by rw [hys]; simp, hrest⟩
      · have hd : xs.drop i = [] := List.drop_eq_nil_of_le (Nat.le_of_not_lt hlt)
        rw [hd] at hlc
        cases hlc
        refine .inl ⟨j2 (Nat.le_of_not_lt hlt), ?_⟩
        rw [List.append_nil] at hys
        subst hys
        exact mk_obj (o := .ndct (mergeNU [] ysF)) (e := e2) hD w2 bD nl2 ⟨_, hH2, (RUn.merge rdn .nil).app _⟩ q
  · rw [if_neg hz] at q
    exact q.elim
section
variable {X : Cx} {W : Wj} {kx vx tg iter : Expr} {ifs : List Expr} {scope : Scope} {own : List (Str × Nat)} {pos : Pos} {f : M (List U)} {g : G} {tt : M Bool} {tk tv : M U}
theorem re_dcN (hu : X.A.units + 65 < cLine) (own : List (Str × Nat)) (hc : X.calm = true) (hN : X.N.Nodup) (hj : W.j.xi = none) (hi : RI1 X W tg iter f) (ok : blkC X.N X.env.scope scope own = true)
    (hg : ∀ (s : Shared) (H : Hp) (C : Addr) (cl : List (Str × Addr)) (fp : List Addr), RGc (X.blk s H scope (compEnvC scope cl C X.env) fp) W.no (own.map fun p : Str × Nat => p.2) tg g)
    (ht : ∀ (s : Shared) (H : Hp) (C : Addr) (cl : List (Str × Addr)) (fp : List Addr), RTs (X.blk s H scope (compEnvC scope cl C X.env) fp) W.no ifs tt)
    (hk : ∀ (s : Shared) (H : Hp) (C : Addr) (cl : List (Str × Addr)) (fp : List Addr), RE (X.blk s H scope (compEnvC scope cl C X.env) fp) W.no kx tk)
    (he : ∀ (s : Shared) (H : Hp) (C : Addr) (cl : List (Str × Addr)) (fp : List Addr), RE (X.blk s H scope (compEnvC scope cl C X.env) fp) W.no vx tv) (hs : ∀ x, foldedSetIterable iter X.env x = pure x := by intro _; rfl) :
    RE X W (.DictComp kx vx [⟨tg, iter, ifs, 0⟩] scope pos) (dcMN f (own.map fun p : Str × Nat => p.2) g tt tk tv) :=
  pe_imp (pe_dcN (g := tGc (ctX X W) (own.map fun p : Str × Nat => p.2) g) (tt := tT (ctX X W) W.no tt) (tk := tI (ctX X W) W.no tk) (tv := tI (ctX X W) W.no tv) (by omega) hc hN hi (blkOk_by ok) hg ht hk he hs) fun σ H Q t => t_dcN hj W.no rfl t
end
def FnN (C : Ct) (p : List D → Option O) (rr : List V → Hp → VK → Prop) : Prop := ∀ {B : Bd} {r : Rho} {H : Hp} {h : Hea} {ds : List D} {vs : List V} {o : O} {Q : VK}, Wd C B r H h → RVs C.toCt0 B H ds vs → p ds = some o →
  (∀ P x, H P = none → (∀ vs, ¬ Rd (upd H P x) P (.tup vs)) → (∀ B' r' H', Ext B r H B' r' H' → H' P = some x → RO C B' r' H' P o) → Q (.ref P) (upd H P x)) → rr vs H Q
def fnN (p : List D → Option O) (g : M (List U)) : M U := mbnd g fun us δ h => match viewS h us with
  | some ds => (match p ds with
    | some o => newE o δ h
    | none => none)
  | none => none
section
variable {X : Cx} {W : Wj} {pos p : Pos} {x : Str} {e : Expr} {es : List Expr} {g : M (List U)} {pp : List D → Option O} {rr : List V → Hp → VK → Prop} {id T : String}
theorem t_fnN {C : Ct} {σ : L2.St} {H : Hp} {Q : VK} (hr : FnN C pp rr) (t : tI C W (fnN pp g) σ H Q) : tCB rr (tA C W g) σ H Q := by
  refine tG.bnd t fun us B r H1 h δ vs w s ru q => ?_
  try dsimp only at q
  split at q
  · rename_i ds hv
    split at q
    · rename_i o hp
      refine hr w (w.viewS ru hv) hp fun P x hP nt ro => ?_
      obtain ⟨ex, w2⟩ := w.add (o := o) hP nt fun ex => ro _ _ _ ex upd_same
      exact q _ _ _ _ ex w2 (.loc (by rw [← w.len]; simp))
    · exact q.elim
  · exact q.elim
theorem re_btyN (hc : CallR X (.type T) rr) (hr : FnN (ctX X W) pp rr) (hm : X.mg x = none) (hv : bootBuiltins x = some (.type T)) (ha : RA X W (e :: es) g) (hg : Gl X x := by rfl) (hn : x ≠ "__name__" := by decide) (hdb : (x == ("__debug__" : Str)) = false := by decide)
    (he : starEach (e :: es) X.env = (false, eval e X.env) :: starEach es X.env := by rfl) (hpl : (backTo pos (starEach es X.env)).any (·.1) = false := by rfl) : RE X W (.Call (.Name x p) (e :: es) [] pos) (fnN pp g) :=
  pe_imp (pe_callTy hc hg hm hv ha hn hdb he hpl) fun _ _ _ t => t_fnN hr t
end
def prsD : List D → Option (List (D × U))
  | [] => some []
  | .tup [k, v] :: ds => match keyD k, prsD ds with
    | some _, some r => some ((k, .d v) :: r)
    | _, _ => none
  | _ => none
def pDict : List D → Option O
  | [.lst ds] => (prsD ds).map fun r => .dct (mergeU [] r)
  | [.dct kvs] => some (.dct (kvs.map fun p => (p.1, .d p.2)))
  | _ => none
section
variable {C : Ct} {B : Bd} {r : Rho} {H : Hp} {h : Hea}
theorem RDk.us : ∀ {ds : List (D × D)} {vs : List (Key × V)}, RDk C.toCt0 B H ds vs → RUk C B r H (ds.map fun p => (p.1, .d p.2)) vs
  | _, _, .nil => .nil
  | _, _, .cons e a b => .cons e (.d a) (RDk.us b)
theorem prsD_ok : ∀ {ds : List D} {vs : List V} {ks : List (D × U)}, RDs C.toCt0 B H ds vs → prsD ds = some ks → ∃ (ps : List Addr) (kvs : List (Key × V)), vs = ps.map V.ref ∧ Paired (fun p kv => SqT C.K H p [kV kv.1, kv.2]) ps kvs ∧ RUk C B r H ks kvs
  | [], _, ks, .nil, e => by
    cases e
    exact ⟨[], [], rfl, .nil, .nil⟩
  | d :: ds, _, ks, .cons a b, e => by
    unfold prsD at e
    split at e
    · rename_i z
      cases z
    · rename_i k v ds2 eq
      cases eq
      split at e
      · rename_i key r1 hk hr
        cases e
        obtain ⟨ps, kvs, rfl, h1, h2⟩ := prsD_ok b hr
        cases a with
        | tup hs qs =>
          cases qs with
          | cons q1 qs =>
            cases qs with
            | cons q2 qs =>
              cases qs
              rw [q1.key hk] at hs
              exact ⟨_ :: ps, (key, _) :: kvs, rfl, .cons hs h1, .cons hk (.d q2) h2⟩
      · cases e
    · cases e
theorem fn_dict : FnN C pDict (fun vs H Q => (∃ (a : Addr) (ps : List Addr) (kvs : List (Key × V)), vs = [.ref a] ∧ SqL C.K H a (ps.map V.ref) ∧ Paired (fun p kv => SqT C.K H p [kV kv.1, kv.2]) ps kvs ∧
    ∀ p, H p = none → Q (.ref p) (upd H p (.dK (mergeK [] kvs)))) ∨ ∃ (a : Addr) (kvs : List (Key × V)), vs = [.ref a] ∧ Rd H a (.dK kvs) ∧ ∀ p, H p = none → Q (.ref p) (upd H p (.dK kvs))) := by
  intro B r H h ds vs o Q w rv e q
  unfold pDict at e
  split at e
  · rename_i ds
    obtain ⟨ks, hks, hc⟩ := Option.map_eq_some_iff.mp e
    subst hc
    obtain ⟨v, rfl, r1⟩ := rv.one
    obtain ⟨a, vs, rfl, h1, h2⟩ := r1.items rfl
    obtain ⟨ps, kvs, rfl, h3, h4⟩ := prsD_ok (r := r) h2 hks
    refine .inl ⟨a, ps, kvs, rfl, h1, h3, fun p hp => q p _ hp notup_dK fun B' r' H' ex hx => ⟨_, hx, RUk.merge (RUk.ext ex w.toOwn h4) .nil⟩⟩
  · rename_i kvs
    cases e
    obtain ⟨v, rfl, r1⟩ := rv.one
    obtain ⟨a, vs, rfl, h1, h2⟩ := r1.dctI
    refine .inr ⟨a, vs, rfl, h1, fun p hp => q p _ hp notup_dK fun B' r' H' ex hx => ⟨_, hx, RUk.ext ex w.toOwn (RDk.us h2)⟩⟩
  · cases e
end
section
variable {X : Cx} {W : Wj} {pos p : Pos} {e : Expr} {g : M (List U)}
theorem re_dictN (hc : X.calm = true) (hm : X.mg "dict" = none) (ha : RA X W [e] g) (hg : Gl X "dict" := by rfl)
    (he : starEach [e] X.env = (false, eval e X.env) :: starEach [] X.env := by rfl) (hpl : (backTo pos (starEach [] X.env)).any (·.1) = false := by rfl) : RE X W (.Call (.Name "dict" p) [e] [] pos) (fnN pDict g) :=
  re_btyN (callR_or (call_dictP hc) call_dictD) fn_dict hm rfl ha hg (by decide) (by decide) he hpl
end
theorem pi_or {X : Cx} {tg e : Expr} {t t' : TI} (a : PI X tg e t) (b : PI X tg e t') : PI X tg e (fun σ H Q => t σ H Q ∨ t' σ H Q) := ⟨fun pins s σ H Q I q => q.elim (a.run pins s σ H Q I) (b.run pins s σ H Q I)⟩
def orS (s s' : U → Option (List U)) (u : U) : Option (List U) := match s u with
  | some x => some x
  | none => s' u
theorem ri_or {X : Cx} {W : Wj} {tg e : Expr} {f : M U} {s s' : U → Option (List U)} (a : RI1 X W tg e (itE s f)) (b : RI1 X W tg e (itE s' f)) : RI1 X W tg e (itE (orS s s') f) :=
  pi_imp (pi_or a b) fun σ H Q ⟨B, r, h, δ, w, sl, q⟩ => by
    unfold itE mbnd at q
    cases hf : f δ h with
    | none => rw [hf] at q; exact q.elim
    | some y =>
      cases y with
      | exc e h' => exact .inl ⟨B, r, h, δ, w, sl, by unfold itE mbnd; rw [hf] at q ⊢; exact q⟩
      | ok u h' =>
        rw [hf] at q
        dsimp only at q
        unfold orS at q
        cases hs : s u with
        | none => exact .inr ⟨B, r, h, δ, w, sl, by unfold itE mbnd; rw [hf]; dsimp only; rw [hs] at q; exact q⟩
        | some xs => exact .inl ⟨B, r, h, δ, w, sl, by unfold itE mbnd; rw [hf]; dsimp only; rw [hs] at q ⊢; exact q⟩
theorem tuple_mulA (l : Addr) (items : Array Value) (n : Nat) (dd : Option Addr) (sl : Array (Option Value)) (x : Int) (u : Tok) (c0 : (decide (x < -(2 ^ 63)) || decide (x ≥ 2 ^ 63)) = false) (c1 : (items.isEmpty || x == 1) = true) :
    Meets (Builtin.«tuple.__mul__» ⟨[.ref l, .int x u], []⟩) (fun _ R s => s.heap.get? l = some { cls := .type "tuple", dict := dd, data := .seq items n, slots := sl } ∧ R (.ok (.ret (Value.ref l))) s) :=
  .of_wp fun prog w A R s h => by
    obtain ⟨hp, g, d, tk, os⟩ := s
    obtain ⟨hl, h⟩ := h
    have f1 := AutoSeq1.idx_int
    wp_walk using PySem.AutoSeq1.wpAny_loadPart' hl
    repeat (first
      | (refine wpAny_ite_false (decide_eq_false (by rw [c0]; exact Bool.false_ne_true)) ?_; wp_walk using PySem.AutoSeq1.wpAny_loadPart' hl)
      | (refine wpAny_ite_true (by rw [c1]) ?_; wp_walk using PySem.AutoSeq1.wpAny_loadPart' hl))
    exact ⟨_, rfl, h⟩
theorem tuple_mulZ (l : Addr) (items : Array Value) (n : Nat) (dd : Option Addr) (sl : Array (Option Value)) (x : Int) (u : Tok) (c0 : (decide (x < -(2 ^ 63)) || decide (x ≥ 2 ^ 63)) = false) (c1 : (items.isEmpty || x == 1) = false) (c2 : (decide (x ≤ 0) || items.isEmpty) = true) :
    Meets (Builtin.«tuple.__mul__» ⟨[.ref l, .int x u], []⟩) (fun _ R s => s.heap.get? l = some { cls := .type "tuple", dict := dd, data := .seq items n, slots := sl } ∧
      R (.ok (.ret (Value.ref s.heap.objs.size))) { s with heap := s.heap.push { cls := Value.type "tuple", data := Data.seq #[] }, toks := s.toks }) :=
  .of_wp fun prog w A R s h => by
    obtain ⟨hp, g, d, tk, os⟩ := s
    obtain ⟨hl, h⟩ := h
    have f1 := AutoSeq1.idx_int
    wp_walk using PySem.AutoSeq1.wpAny_loadPart' hl
    repeat (first
      | (refine wpAny_ite_false (decide_eq_false (by rw [c0]; exact Bool.false_ne_true)) ?_; wp_walk using PySem.AutoSeq1.wpAny_loadPart' hl)
      | (refine wpAny_ite_false (decide_eq_false (by rw [c1]; exact Bool.false_ne_true)) ?_; wp_walk using PySem.AutoSeq1.wpAny_loadPart' hl)
      | (refine wpAny_ite_true (by rw [c2]) ?_; wp_walk using PySem.AutoSeq1.wpAny_loadPart' hl))
    exact ⟨_, rfl, h⟩
def rRep01 (K : PySem.W.Frag) : R2 := fun x y H Q => ∃ l k xs, x = .ref l ∧ y = .int k ∧ SqT K H l xs ∧ xs ≠ [] ∧ -1000 ≤ k ∧ ((k = 1 ∧ Q (.ref l) H) ∨ (k ≤ 0 ∧ ∀ p, H p = none → Q (.ref p) (upd H p (.tup []))))
theorem op_rep01 {X : Cx} : OpR X (binaryOp .Mult) (rRep01 X.K) := by
  intro pins s σ H x y v u Q I rx ry h
  obtain ⟨l, k, xs, rfl, rfl, hT, hne, hk, q⟩ := h
  obtain rfl : v = _ := rx
  obtain ⟨t, rfl⟩ := ry
  obtain ⟨its, r, ⟨⟨cls, dd, data, sl⟩, ho, hc, n, hd⟩, hs⟩ := I.tuple hT
  simp only at hc hd
  subst hc hd
  have hn : its ≠ [] := fun e => hne (by
    have hle := r.length
    rw [e] at hle
    exact List.eq_nil_of_length_eq_zero hle)
  have hi : its.toArray.isEmpty = false := by
    cases its with
    | nil => exact absurd rfl hn
    | cons a b => rfl
  have c0 : (decide (k < -(2 ^ 63)) || decide (k ≥ 2 ^ 63)) = false := by
    rcases q with q | q <;> (rw [decide_eq_false (by omega), decide_eq_false (by omega)] <;> rfl)
  rcases q with ⟨hk1, q⟩ | ⟨hk0, q⟩
  · refine wpAny_binaryOp_repeat_ref (T := "tuple") (U := "int") (by decide) ⟨_, ho, rfl⟩ (fun s' => typeIs_int s' k t) noFill_tuple_mul PySem.F.fills_int_mul PySem.F.slot_int_rmul repeat_tuple PySem.F.slot_int_index.lookup
      (call_meets PySem.F.slot_int_rmul (typeIs_int s k t) PySem.F.entry_int_rmul (PySem.F.args_int_rmul_2 _ _) (int_rmul_tuple k t l its.toArray n dd sl)
        ⟨ho, rfl, ⟨_, ho, rfl⟩, call_meets PySem.F.slot_tuple_mul ⟨_, ho, rfl⟩ PySem.F.entry_tuple_mul (PySem.F.args_tuple_mul_2 _ _) (tuple_mulA l its.toArray n dd sl k t c0 (by rw [hk1]; simp)) ⟨ho, ?_⟩⟩)
    exact ⟨.ref l, H, I, rfl, q⟩
  · refine wpAny_binaryOp_repeat_ref (T := "tuple") (U := "int") (by decide) ⟨_, ho, rfl⟩ (fun s' => typeIs_int s' k t) noFill_tuple_mul PySem.F.fills_int_mul PySem.F.slot_int_rmul repeat_tuple PySem.F.slot_int_index.lookup
      (call_meets PySem.F.slot_int_rmul (typeIs_int s k t) PySem.F.entry_int_rmul (PySem.F.args_int_rmul_2 _ _) (int_rmul_tuple k t l its.toArray n dd sl)
        ⟨ho, rfl, ⟨_, ho, rfl⟩, call_meets PySem.F.slot_tuple_mul ⟨_, ho, rfl⟩ PySem.F.entry_tuple_mul (PySem.F.args_tuple_mul_2 _ _) (tuple_mulZ l its.toArray n dd sl k t c0 (by rw [hi, Bool.false_or]; exact beq_eq_false_iff_ne.mpr (by omega)) (by rw [decide_eq_true hk0]; rfl)) ⟨ho, ?_⟩⟩)
    refine ⟨.ref s.heap.objs.size, _, I.laid (t' := s.toks) (o := .tup []) (fun b ob q => Heap.get?_push_of_some _ q) (Nat.le_refl _) ?_, rfl, q _ (I.hok.fresh (Nat.le_refl _))⟩
    exact ⟨Nat.zero_le _, [], .nil, IsTup.new _ _⟩
/-- a tuple so many times -/
def pMulT : D → D → Option D
  | .tup ds, .int k => if ds.isEmpty = true then none else if k = 1 then some (.tup ds) else if -1000 ≤ k ∧ k ≤ 0 then some (.tup []) else if 2 ≤ k ∧ k ≤ 1000 ∧ ds.length ≤ 1000 then some (.tup (List.replicate k.toNat ds).flatten) else none
  | _, _ => none
theorem op2_mulT {C : Ct} : Op2 C pMulT (fun x y H Q => rRep01 C.K x y H Q ∨ rRepT C.K x y H Q) := by
  intro B r H h x y v w c Q wd rx ry e q
  unfold pMulT at e
  split at e
  · rename_i ds k
    have e2 := ry.intI
    subst e2
    obtain ⟨a, vs, rfl, hs, qs, rd⟩ := rx.tupI
    split at e
    · cases e
    · rename_i hne
      have hvs : vs ≠ [] := fun z => by
        subst z
        cases qs
        exact hne rfl
      split at e
      · rename_i h1
        cases e
        exact .inl ⟨a, k, vs, rfl, rfl, hs, hvs, by omega, .inl ⟨h1, q B H _ wd.toOwn.gr rd⟩⟩
      · split at e
        · rename_i h0
          cases e
          exact .inl ⟨a, k, vs, rfl, rfl, hs, hvs, by omega, .inr ⟨h0.2, fun p hp => q B _ _ (wd.toOwn.new hp _) (.tup (SqT.of upd_same) .nil)⟩⟩
        · split at e
          · rename_i h2
            cases e
            refine .inr ⟨a, k, vs, rfl, rfl, hs, hvs, h2.1, h2.2.1, by rw [← qs.length0]; exact h2.2.2, fun p hp => ?_⟩
            have g := wd.toOwn.new hp (.tup (List.replicate k.toNat vs).flatten)
            exact q B _ _ g (.tup (SqT.of upd_same) ((qs.rep k.toNat).ext (g.ext (r := r)) wd.toOwn))
          · cases e
  · cases e
theorem op_mulT {X : Cx} : OpR X (binaryOp .Mult) (fun x y H Q => rRep01 X.K x y H Q ∨ rRepT X.K x y H Q) := OpR.or op_rep01 op_repT
theorem pairsN_of {X : Cx} {pins : List (Addr × Obj)} {σ : L2.St} {H : Hp} {s : Shared} (I : Inv X pins σ H s) : ∀ {ps : List Addr} {ks : List NK}, Paired (fun p (k : NK) => SqT X.K H p [.ref k.2.1, k.2.2] ∧ KyV X.K H k.1 (.ref k.2.1)) ps ks →
    ∃ ys : List (NestedKey × Addr × Value), NPr ks ys ∧ ys.length = ps.length ∧ (∀ (j : Nat) y, ys[j]? = some y → ∃ b : Addr, ps[j]? = some b ∧ IsTup s.heap b #[.ref y.2.1, y.2.2]) ∧ ∀ y ∈ ys, (nestedKind X.prog X.w).is s.heap y.1 y.2.1
  | _, _, .nil => ⟨[], .nil, rfl, (fun j q e => by simp at e), fun y h => by cases h⟩
  | _, _, .cons (a := p) (b := k) h t => by
    obtain ⟨ys, r, hl, hp, hk⟩ := pairsN_of I t
    obtain ⟨its, rv, ht, _⟩ := I.tuple h.1
    obtain ⟨u, y, ei, ru, ry⟩ := vals2 rv
    subst ei
    obtain rfl : u = Value.ref k.2.1 := ru
    refine ⟨(k.1, k.2.1, y) :: ys, .cons ⟨rfl, rfl, ry⟩ r, by rw [List.length_cons, List.length_cons, hl], fun j q e => ?_, fun q hq => ?_⟩
    · cases j with
      | zero =>
        have e' : (k.1, k.2.1, y) = q := Option.some.inj e
        subst e'
        exact ⟨p, rfl, ht⟩
      | succ j =>
        obtain ⟨b, e1, e2⟩ := hp j q (by simpa using e)
        exact ⟨b, by simpa using e1, e2⟩
    · rcases List.mem_cons.mp hq with rfl | hq
      · exact ky_is I h.2
      · exact hk q hq
theorem call_dictNP {X : Cx} (hcalm : X.calm = true) (hu : X.A.units + 10 < cLine) : CallR X (.type "dict") (fun xs H Q => ∃ (a : Addr) (ps : List Addr) (ks : List NK), xs = [.ref a] ∧ SqL X.K H a (ps.map V.ref) ∧
    Paired (fun p (k : NK) => SqT X.K H p [.ref k.2.1, k.2.2] ∧ KyV X.K H k.1 (.ref k.2.1)) ps ks ∧ ∀ p, H p = none → Q (.ref p) (upd H p (dN X.prog X.w p (mergeN [] ks)))) := by
  intro pins s σ H xs us Q I r ⟨a, ps, ks, ex, hq, hp, q⟩
  subst ex
  obtain ⟨u, eu, rx⟩ := vals1 r
  subst eu
  obtain rfl : u = _ := rx
  obtain ⟨its, rv, pl, hz⟩ := I.list hq
  have ei := refs_at rv
  subst ei
  rw [List.length_map] at hz
  obtain ⟨ys, npr, hl, hpr, his⟩ := pairsN_of I hp
  obtain ⟨o, n, ho, hc, hd, hdat⟩ := pl
  have hfr : s.heap.get? s.heap.objs.size = none := by
    cases z : s.heap.get? s.heap.objs.size with
    | none => rfl
    | some o => exact absurd (Heap.lt_size z) (Nat.lt_irrefl _)
  refine call_dict_pairsH (knd := nestedKind X.prog X.w) (ps := ys) (PairArg.list a (ps.map Value.ref).toArray (fun j => (ps[j]?).getD 0) (ys.map fun y => (Value.ref y.2.1, y.2.2))) (I.ok.hd hcalm) (show X.A.units + 1 + 1 + 8 < cLine by omega) ⟨⟨o, n, ho, hc, hd, hdat⟩, ?_, fun j k v e => ?_⟩ ⟨by simp, fun j k v e => ?_⟩ (fun h' hk x hx => ?_) (by rw [List.length_map, hl]; exact hz) fun h' tk hd' hk => ?_
  · simp [hl]
  · rw [List.getElem?_map] at e
    obtain ⟨y, e1, e2⟩ := Option.map_eq_some_iff.mp e
    cases e2
    obtain ⟨b, e3, e4⟩ := hpr j y e1
    dsimp only
    rw [e3]
    exact ⟨by simp [e3], .inl e4⟩
  · have e : (ys.map fun y => (Value.ref y.2.1, y.2.2))[j]? = some (k, v) := e
    rw [List.getElem?_map] at e
    obtain ⟨y, e1, e2⟩ := Option.map_eq_some_iff.mp e
    cases e2
    exact ⟨y.1, y.2.1, e1, rfl⟩
  · refine nestedKind_stays.stays (fun b o vs n e _ => hk b o (fun z => ?_) (by simp) e) (his x hx)
    rw [z, hfr] at e
    cases e
  · have hlen : (mergeN [] ks).length ≤ sizeLine := by
      refine Nat.le_trans (mergeN_len ks []) ?_
      rw [List.length_nil, Nat.zero_add, Paired.length npr, hl]
      exact hz
    exact ⟨.ref s.heap.objs.size, _, I.laid (t' := tk) (fun b ob e => hk b ob (by simp) e) (Nat.le_refl _) (dn_new hlen (beq_eq_false_iff_ne.mpr (Ne.symm (Nat.ne_of_lt I.big))) (NPr.merge npr .nil) hd'), rfl, q _ (I.hok.fresh (Nat.le_refl _))⟩
def prsN : List D → Option (List (D × U))
  | [] => some []
  | .tup [k, v] :: ds => match nkT k, prsN ds with
    | some _, some r => some ((k, .d v) :: r)
    | _, _ => none
  | _ => none
def pDictN : List D → Option O
  | [.lst ds] => (prsN ds).map fun r => .ndct (mergeNU [] r)
  | _ => none
section
variable {C : Ct} {B : Bd} {r : Rho} {H : Hp} {h : Hea}
theorem prsN_ok : ∀ {ds : List D} {vs : List V} {us : List (D × U)}, RDs C.toCt0 B H ds vs → prsN ds = some us → ∃ (ps : List Addr) (ks : List NK), vs = ps.map V.ref ∧ Paired (fun p (k : NK) => SqT C.K H p [.ref k.2.1, k.2.2] ∧ KyV C.K H k.1 (.ref k.2.1)) ps ks ∧ RUn C B r H us ks
  | [], _, us, .nil, e => by
    cases e
    exact ⟨[], [], rfl, .nil, .nil⟩
  | d :: ds, _, us, .cons a b, e => by
    unfold prsN at e
    split at e
    · rename_i z
      cases z
    · rename_i k v ds2 eq
      cases eq
      split at e
      · rename_i key r1 hk hr
        cases e
        obtain ⟨ps, ks, rfl, h1, h2⟩ := prsN_ok b hr
        cases a with
        | tup hs qs =>
          cases qs with
          | cons q1 qs =>
            cases qs with
            | cons q2 qs =>
              cases qs
              have ky := q1.ky hk
              obtain ⟨bb, rfl⟩ := ky.2.2
              exact ⟨_ :: ps, (key, bb, _) :: ks, rfl, .cons ⟨hs, ky⟩ h1, .cons hk q1 (.d q2) h2⟩
      · cases e
    · cases e
theorem fn_dictN : FnN C pDictN (fun xs H Q => ∃ (a : Addr) (ps : List Addr) (ks : List NK), xs = [.ref a] ∧ SqL C.K H a (ps.map V.ref) ∧
    Paired (fun p (k : NK) => SqT C.K H p [.ref k.2.1, k.2.2] ∧ KyV C.K H k.1 (.ref k.2.1)) ps ks ∧ ∀ p, H p = none → Q (.ref p) (upd H p (dN C.P C.w p (mergeN [] ks)))) := by
  intro B r H h ds vs o Q w rv e q
  unfold pDictN at e
  split at e
  · rename_i ds
    obtain ⟨us, hks, hc⟩ := Option.map_eq_some_iff.mp e
    subst hc
    obtain ⟨v, rfl, r1⟩ := rv.one
    obtain ⟨a, vs, rfl, h1, h2⟩ := r1.items rfl
    obtain ⟨ps, ks, rfl, h3, h4⟩ := prsN_ok (r := r) h2 hks
    exact ⟨a, ps, ks, rfl, h1, h3, fun p hp => q p _ hp notup_dN fun B' r' H' ex hx => ⟨_, hx, RUn.merge (h4.ext ex w.toOwn) .nil⟩⟩
  · cases e
end
theorem re_dictNN {X : Cx} {W : Wj} {pos p : Pos} {e : Expr} {g : M (List U)} (hu : X.A.units + 65 < cLine) (hc : X.calm = true) (hm : X.mg "dict" = none) (ha : RA X W [e] g) (hg : Gl X "dict" := by rfl)
    (he : starEach [e] X.env = (false, eval e X.env) :: starEach [] X.env := by rfl) (hpl : (backTo pos (starEach [] X.env)).any (·.1) = false := by rfl) : RE X W (.Call (.Name "dict" p) [e] [] pos) (fnN pDictN g) :=
  re_btyN (call_dictNP hc (by omega)) fn_dictN hm rfl ha hg (by decide) (by decide) he hpl
def anO (bs : List (String × Bool)) (cs : List (Str × Bool)) : Tg → Option Bool
  | .bt s => bs.lookup s
  | .own c => cs.lookup c
theorem isiC_own {K : PySem.W.Frag} {mg : Str → Option Value} {C : Addr} {bs : List (String × Bool)} {cs : List (Str × Bool)} (h1 : ∀ s b, bs.lookup s = some b → PySem.W.kitOne K (.type s) (.ref C) = some b)
    (h2 : ∀ c b, cs.lookup c = some b → ∀ C', mg c = some (.ref C') → PySem.W.kitOne K (.ref C') (.ref C) = some b) : IsiC K mg (.ref C) (anO bs cs) := by
  intro t b v e ok
  cases t with
  | bt s =>
    obtain rfl : v = .type s := ok
    exact h1 s b e
  | own c =>
    obtain ⟨Cd, m, rfl⟩ := ok
    exact h2 c b e Cd m
theorem lookup_mem {α : Type} : ∀ {tb : List (Str × α)} {c : Str} {m : α}, tb.lookup c = some m → c ∈ tb.map (·.1)
  | [], c, m, h => by cases h
  | (c', m') :: tb, c, m, h => by
    rw [List.lookup_cons] at h
    split at h
    · rename_i he
      rw [eq_of_beq he]
      exact List.mem_cons_self
    · exact List.mem_cons_of_mem _ (lookup_mem h)
def lowO (n : Nat) (o : Option U) : Option U := match o with
  | some u => if u.low n = true then some u else none
  | none => none
/-- the suite, then no more than there was -/
def scut (b : S) : S := fun δ h => match b δ h with
  | some (.nx δ' h') => if lowH h.length (h'.take h.length) = true then some (.nx (δ'.map (lowO h.length)) (h'.take h.length)) else some (.nx δ' h')
  | o => o
theorem SlR.low {C : Ct} {B : Bd} {r : Rho} {H : Hp} {σ : L2.St} {δ : Sl} (n : Nat) (s : SlR C B r H σ δ) : SlR C B (r.take n) H σ (δ.map (lowO n)) := by
  refine ⟨by rw [List.length_map]; exact s.len, fun i u hu => ?_, s.xi⟩
  rw [List.getElem?_map] at hu
  cases hx : δ[i]? with
  | none => rw [hx] at hu; cases hu
  | some o =>
    rw [hx] at hu
    cases o with
    | none => cases hu
    | some u0 =>
      have z : lowO n (some u0) = some u := Option.some.inj hu
      unfold lowO at z
      dsimp only at z
      split at z
      · rename_i hl
        have e : u0 = u := Option.some.inj z
        subst e
        obtain ⟨v, h1, h2⟩ := s.at_ i _ hx
        exact ⟨v, h1, h2.cut n hl⟩
      · cases z
theorem rss_cut {X : Cx} {W : Wj} {body : List Stmt} {b : S} (h : RSs X W body b) : RSs X W body (scut b) := by
  refine pss_imp h fun D σ H ⟨B, r, h, δ, w, s, q⟩ => ⟨B, r, h, δ, w, s, ?_⟩
  unfold scut at q
  cases hb : b δ h with
  | none => rw [hb] at q; exact q
  | some o =>
    rw [hb] at q
    cases o with
    | nx δ' h' =>
      dsimp only at q
      split at q
      · rename_i hl
        intro B' r' H' σ' ex w' s'
        have e1 := ex.cut
        rw [w.len] at e1
        exact q B' _ H' σ' e1 (w'.cut hl) (s'.low h.length)
      · exact q
    | rt u h' => exact q
    | bk δ' h' => exact q
    | ct δ' h' => exact q
    | ex e δ' h' => exact q
mutual
def U.av (k : Nat) : U → Bool
  | .d _ => true
  | .loc m => !(m == k)
  | .tup us => avS k us
def avS (k : Nat) : List U → Bool
  | [] => true
  | u :: us => u.av k && avS k us
end
def avK (k : Nat) : List (D × U) → Bool
  | [] => true
  | (_, u) :: us => u.av k && avK k us
def avF (k : Nat) : List (Str × U) → Bool
  | [] => true
  | (_, u) :: us => u.av k && avF k us
def O.av (k : Nat) : O → Bool
  | .lst us => avS k us
  | .dct us => avK k us
  | .ins _ us => avF k us
  | .gone => true
  | .ndct us => avK k us
  | .deq us => avS k us
def avO (k : Nat) (o : Option U) : Option U := match o with
  | some u => if u.av k = true then some u else none
  | none => none
def mskR (k : Nat) (o : O) : Option (R U) → Option (R U)
  | some (.ok u h) => if (u.av k && h.all (O.av k)) = true then some (.ok u (h.set k o)) else none
  | _ => none
/-- the k-th thing set aside -/
def mskE (k : Nat) (f : M U) : M U := fun δ h => match h[k]? with
  | some .gone => none
  | some o => mskR k o (f (δ.map (avO k)) (h.set k .gone))
  | none => none
section
variable {C : Ct0} {B : Bd} {r r' : Rho} {H : Hp} {k : Nat}
mutual
theorem RU.av (l : ∀ (n : Nat) x, n ≠ k → r[n]? = some x → r'[n]? = some x) (hk : ∀ a, r[k]? ≠ some (some a)) : ∀ {u : U} {v : V}, RU C B r H u v → u.av k = true → RU C B r' H u v
  | _, _, .d q, _ => .d q
  | _, _, .loc (n := n) q, e => by
    by_cases h : n = k
    · subst h
      exact absurd q (hk _)
    · exact .loc (l n _ h q)
  | _, _, .gone (n := n) q, e => by
    have h : n ≠ k := fun z => by
      subst z
      simp [U.av] at e
    exact .gone (l n _ h q)
  | _, _, .tup hs q, e => .tup hs (RUs.av l hk q e)
theorem RUs.av (l : ∀ (n : Nat) x, n ≠ k → r[n]? = some x → r'[n]? = some x) (hk : ∀ a, r[k]? ≠ some (some a)) : ∀ {u : List U} {v : List V}, RUs C B r H u v → avS k u = true → RUs C B r' H u v
  | _, _, .nil, _ => .nil
  | _, _, .cons a b, e => by
    unfold avS at e
    rw [Bool.and_eq_true] at e
    exact .cons (RU.av l hk a e.1) (RUs.av l hk b e.2)
end
theorem RUk.av (l : ∀ (n : Nat) x, n ≠ k → r[n]? = some x → r'[n]? = some x) (hk : ∀ a, r[k]? ≠ some (some a)) : ∀ {u : List (D × U)} {v : List (Key × V)}, RUk C B r H u v → avK k u = true → RUk C B r' H u v
  | _, _, .nil, _ => .nil
  | _, _, .cons e1 a b, e => by
    unfold avK at e
    rw [Bool.and_eq_true] at e
    exact .cons e1 (RU.av l hk a e.1) (RUk.av l hk b e.2)
theorem RUn.av (l : ∀ (n : Nat) x, n ≠ k → r[n]? = some x → r'[n]? = some x) (hk : ∀ a, r[k]? ≠ some (some a)) : ∀ {u : List (D × U)} {v : List NK}, RUn C B r H u v → avK k u = true → RUn C B r' H u v
  | _, _, .nil, _ => .nil
  | _, _, .cons e1 c a b, e => by
    unfold avK at e
    rw [Bool.and_eq_true] at e
    exact .cons e1 c (RU.av l hk a e.1) (RUn.av l hk b e.2)
theorem RUf.av (l : ∀ (n : Nat) x, n ≠ k → r[n]? = some x → r'[n]? = some x) (hk : ∀ a, r[k]? ≠ some (some a)) : ∀ {u : List (Str × U)} {v : List (Str × V)}, RUf C B r H u v → avF k u = true → RUf C B r' H u v
  | _, _, .nil, _ => .nil
  | _, _, .cons a b, e => by
    unfold avF at e
    rw [Bool.and_eq_true] at e
    exact .cons (RU.av l hk a e.1) (RUf.av l hk b e.2)
theorem RO.av (l : ∀ (n : Nat) x, n ≠ k → r[n]? = some x → r'[n]? = some x) (hk : ∀ a, r[k]? ≠ some (some a)) {a : Addr} : ∀ {o : O}, RO C B r H a o → o.av k = true → RO C B r' H a o
  | .lst us, ⟨vs, h, q⟩, e => ⟨vs, h, q.av l hk e⟩
  | .dct us, ⟨vs, h, q⟩, e => ⟨vs, h, q.av l hk e⟩
  | .ins c us, ⟨Cd, dx, vs, m, h, q⟩, e => ⟨Cd, dx, vs, m, h, q.av l hk e⟩
  | .gone, h, _ => h.elim
  | .ndct us, ⟨vs, h, q⟩, e => ⟨vs, h, q.av l hk e⟩
  | .deq us, ⟨vs, h, q⟩, e => ⟨vs, h, q.av l hk e⟩
end
theorem mskR_some {k : Nat} {o : O} {x : Option (R U)} {y : R U} (e : mskR k o x = some y) : ∃ u h, x = some (.ok u h) ∧ u.av k = true ∧ h.all (O.av k) = true ∧ y = .ok u (h.set k o) := by
  unfold mskR at e
  split at e
  · split at e
    · rename_i hc
      rw [Bool.and_eq_true] at hc
      cases e
      exact ⟨_, _, rfl, hc.1, hc.2, rfl⟩
    · cases e
  · cases e
theorem re_msk {X : Cx} {W : Wj} {e : Expr} {f : M U} (k : Nat) (he : RE X W e f) : RE X W e (mskE k f) := by
  refine pe_imp he fun σ H Q ⟨B, r, h, δ, w, s, q⟩ => ?_
  unfold mskE at q
  cases ho : h[k]? with
  | none => rw [ho] at q; exact q.elim
  | some o =>
    have q1 : EQ (ctX X W) W σ B r H (mskR k o (f (δ.map (avO k)) (h.set k .gone))) (RU (ctX X W)) Q ∧ o ≠ .gone := by
      rw [ho] at q
      cases o with
      | gone => exact q.elim
      | _ => exact ⟨q, fun z => by cases z⟩
    obtain ⟨q1, og⟩ := q1
    have hkl : k < h.length := (List.getElem?_eq_some_iff.mp ho).1
    have hkr : k < r.length := by rw [w.len]; exact hkl
    have hr0 : r[k]? = some r[k] := List.getElem?_eq_getElem hkr
    cases hx : r[k] with
    | none =>
      rw [hx] at hr0
      have := w.gon k hr0
      rw [ho] at this
      exact (og (Option.some.inj this)).elim
    | some a =>
      rw [hx] at hr0
      have lv0 : ∀ b, Lv (r.set k none) b → Lv r b ∧ b ≠ a := fun b ⟨n, z⟩ => by
        by_cases hn : k = n
        · subst hn
          rw [List.getElem?_set_self hkr] at z
          cases z
        · rw [List.getElem?_set_ne hn] at z
          refine ⟨⟨n, z⟩, fun eb => ?_⟩
          subst eb
          exact hn (w.inj k n b hr0 z)
      have ex0 : Ext B r H B (r.set k none) H :=
        { rho := fun n x z => by
            by_cases hn : k = n
            · subst hn
              exact .inr (List.getElem?_set_self hkr)
            · exact .inl (by rw [List.getElem?_set_ne hn]; exact z)
          rnew := fun n b h1 h2 => by
            rw [List.getElem?_eq_none_iff.mpr (by rw [List.length_set]; exact h1)] at h2
            cases h2
          keep := fun _ _ _ z => z
          bnew := fun _ z => .inl z
          bold := fun _ z _ => z
          there := fun b o z => ⟨o, z⟩
          dom := w.dom }
      have w0 : Wd (ctX X W) B (r.set k none) H (h.set k .gone) :=
        { own := fun b z => w.own b (lv0 b z).1
          notup := w.notup
          dom := w.dom
          len := by rw [List.length_set, List.length_set]; exact w.len
          obj := fun n b z => by
            by_cases hn : k = n
            · subst hn
              rw [List.getElem?_set_self hkr] at z
              cases z
            · rw [List.getElem?_set_ne hn] at z
              obtain ⟨o2, h2, ro⟩ := w.obj n b z
              exact ⟨o2, by rw [List.getElem?_set_ne hn]; exact h2, ro.ext ex0 w.toOwn rfl⟩
          gon := fun n z => by
            by_cases hn : k = n
            · subst hn
              exact List.getElem?_set_self hkl
            · rw [List.getElem?_set_ne hn] at z ⊢
              exact w.gon n z
          inj := fun n m b z1 z2 => by
            by_cases hn : k = n
            · subst hn
              rw [List.getElem?_set_self hkr] at z1
              cases z1
            · by_cases hm : k = m
              · subst hm
                rw [List.getElem?_set_self hkr] at z2
                cases z2
              · rw [List.getElem?_set_ne hn] at z1
                rw [List.getElem?_set_ne hm] at z2
                exact w.inj n m b z1 z2
          jx := w.jx }
      have s0 : SlR (ctX X W) B (r.set k none) H σ (δ.map (avO k)) := by
        refine ⟨by rw [List.length_map]; exact s.len, fun i u hu => ?_, s.xi⟩
        rw [List.getElem?_map] at hu
        cases hx : δ[i]? with
        | none => rw [hx] at hu; cases hu
        | some o =>
          rw [hx] at hu
          cases o with
          | none => cases hu
          | some u0 =>
            have z : avO k (some u0) = some u := Option.some.inj hu
            unfold avO at z
            dsimp only at z
            split at z
            · have e : u0 = u := Option.some.inj z
              subst e
              obtain ⟨v, h1, h2⟩ := s.at_ i _ hx
              exact ⟨v, h1, h2.ext ex0 w.toOwn⟩
            · cases z
      refine ⟨B, _, _, _, w0, s0, ?_⟩
      cases hm : mskR k o (f (δ.map (avO k)) (h.set k .gone)) with
      | none => rw [hm] at q1; exact q1.elim
      | some y =>
        rw [hm] at q1
        obtain ⟨u, h1, e1, a1, a2, rfl⟩ := mskR_some hm
        rw [e1]
        intro B1 r1 H1 v ex w1 ru
        have hk1 : r1[k]? = some none := by
          rcases ex.rho k none (List.getElem?_set_self hkr) with z | z <;> exact z
        have hk1l : k < r1.length := (List.getElem?_eq_some_iff.mp hk1).1
        have hk1h : k < h1.length := by rw [← w1.len]; exact hk1l
        have na : ¬ Lv (r.set k none) a := fun z => (lv0 a z).2 rfl
        obtain ⟨ha0, hha⟩ := w.dom a (w.own a ⟨k, hr0⟩)
        have hHa : H1 a = H a := by
          rw [hha]
          exact ex.keep a _ na hha
        have ba : B1 a := ex.bold a (w.own a ⟨k, hr0⟩) na
        have old : ∀ n b, n ≠ k → (r1.set k (some a))[n]? = some (some b) → r1[n]? = some (some b) := fun n b hn z => by
          rw [List.getElem?_set_ne (Ne.symm hn)] at z
          exact z
        have ex2 : Ext B r H B1 (r1.set k (some a)) H1 :=
          { rho := fun n x z => by
              by_cases hn : k = n
              · subst hn
                rw [hr0] at z
                cases z
                exact .inl (List.getElem?_set_self hk1l)
              · rw [List.getElem?_set_ne hn]
                exact ex.rho n x (by rw [List.getElem?_set_ne hn]; exact z)
            rnew := fun n b h1 h2 => ex.rnew n b (by rw [List.length_set]; exact h1) (old n b (by omega) h2)
            keep := fun b o nl z => ex.keep b o (fun l => nl (lv0 b l).1) z
            bnew := ex.bnew
            bold := fun b z nl => ex.bold b z fun l => nl (lv0 b l).1
            there := ex.there
            dom := ex.dom }
        have nw : ∀ m, m ≠ k → r1[m]? = some (some a) → False := fun m hm z => by
          by_cases hl : m < r.length
          · have z0 : (r.set k none)[m]? = some r[m] := by
              rw [List.getElem?_set_ne (Ne.symm hm)]
              exact List.getElem?_eq_getElem hl
            rcases ex.rho m _ z0 with y | y
            · rw [z] at y
              have y2 : r[m]? = some (some a) := by
                rw [List.getElem?_eq_getElem hl]
                exact y.symm
              exact hm (w.inj m k a y2 hr0)
            · rw [z] at y
              cases y
          · have y := ex.rnew m a (by rw [List.length_set]; exact Nat.le_of_not_lt hl) z
            rw [hha] at y
            cases y
        have lift : ∀ (n : Nat) x, n ≠ k → r1[n]? = some x → (r1.set k (some a))[n]? = some x := fun n x hn z => by
          rw [List.getElem?_set_ne (Ne.symm hn)]
          exact z
        have nk : ∀ b, r1[k]? ≠ some (some b) := fun b z => by
          rw [hk1] at z
          cases z
        refine q1 B1 _ H1 v ex2 { own := fun b ⟨n, z⟩ => ?_, notup := w1.notup, dom := w1.dom, len := by rw [List.length_set, List.length_set]; exact w1.len, obj := fun n b z => ?_, gon := fun n z => ?_, inj := fun n m b z1 z2 => ?_, jx := w1.jx } (ru.av lift nk a1)
        · by_cases hn : n = k
          · subst hn
            rw [List.getElem?_set_self hk1l] at z
            cases z
            exact ba
          · exact w1.own b ⟨n, old n b hn z⟩
        · by_cases hn : n = k
          · subst hn
            rw [List.getElem?_set_self hk1l] at z
            cases z
            obtain ⟨o2, h2, ro⟩ := w.obj n a hr0
            rw [ho] at h2
            cases h2
            exact ⟨o, List.getElem?_set_self hk1h, ro.ext ex2 w.toOwn hHa⟩
          · obtain ⟨o2, h2, ro⟩ := w1.obj n b (old n b hn z)
            exact ⟨o2, by rw [List.getElem?_set_ne (Ne.symm hn)]; exact h2, ro.av lift nk (List.all_eq_true.mp a2 o2 (List.mem_of_getElem? h2))⟩
        · by_cases hn : n = k
          · subst hn
            rw [List.getElem?_set_self hk1l] at z
            cases z
          · rw [List.getElem?_set_ne (Ne.symm hn)] at z ⊢
            exact w1.gon n z
        · by_cases hn : n = k
          · subst hn
            rw [List.getElem?_set_self hk1l] at z1
            cases z1
            by_cases hm : m = n
            · exact hm.symm
            · exact (nw m hm (old m _ hm z2)).elim
          · by_cases hm : m = k
            · subst hm
              rw [List.getElem?_set_self hk1l] at z2
              cases z2
              exact (nw n hn (old n _ hn z1)).elim
            · exact w1.inj n m b (old n b hn z1) (old m b hm z2)
def leS (a b : Str) : Prop := a.cps.toList ≤ b.cps.toList
theorem leS_of {a b : Str} (h : ltCps b.cps.toList a.cps.toList = false) : leS a b := by
  rw [ltCps_eq] at h
  exact List.not_lt.mp (of_decide_eq_false h)
theorem leS_trans {a b c : Str} (h : leS a b) (k : leS b c) : leS a c := List.le_trans h k
theorem leS_antisymm {a b : Str} (h : leS a b) (k : leS b a) : a = b := by
  have e : a.cps.toList = b.cps.toList := List.le_antisymm h k
  cases a with
  | mk a =>
    cases b with
    | mk b => exact congrArg Str.mk (Array.toList_inj.mp e)
theorem rising_pw : ∀ {l : List Str} {p : Str}, risingS p l = true → (p :: l).Pairwise leS
  | [], _, _ => List.pairwise_singleton ..
  | x :: r, p, h => by
    have h' : (!ltCps x.cps.toList p.cps.toList && risingS x r) = true := h
    rw [Bool.and_eq_true, Bool.not_eq_true'] at h'
    have ih := rising_pw h'.2
    refine List.pairwise_cons.mpr ⟨fun y hy => ?_, ih⟩
    have h1 := leS_of h'.1
    rcases List.mem_cons.mp hy with e | e
    · rw [e]; exact h1
    · exact leS_trans h1 (List.rel_of_pairwise_cons ih e)
theorem sortedS_pw : ∀ {l : List Str}, sortedS l = true → l.Pairwise leS
  | [], _ => List.Pairwise.nil
  | _ :: _, h => rising_pw h
def insS (x : Str) : List Str → List Str
  | [] => [x]
  | y :: ys => if ltCps y.cps.toList x.cps.toList = true then y :: insS x ys else x :: y :: ys
def sortS : List Str → List Str
  | [] => []
  | x :: xs => insS x (sortS xs)
theorem perm_pw_unique {α : Type} {R : α → α → Prop} (anti : ∀ a b, R a b → R b a → a = b) : ∀ {l m : List α}, l.Perm m → l.Pairwise R → m.Pairwise R → l = m
  | [], m, p, _, _ => (List.nil_perm.mp p).symm
  | a :: l, m, p, h, k => by
    cases m with
    | nil => exact absurd p (by simp)
    | cons b m =>
      have e : a = b := by
        have h1 : a ∈ b :: m := p.mem_iff.mp List.mem_cons_self
        have h2 : b ∈ a :: l := p.mem_iff.mpr List.mem_cons_self
        rcases List.mem_cons.mp h1 with z | z
        · exact z
        · rcases List.mem_cons.mp h2 with y | y
          · exact y.symm
          · exact anti a b (List.rel_of_pairwise_cons h y) (List.rel_of_pairwise_cons k z)
      subst e
      rw [perm_pw_unique anti ((List.perm_cons a).mp p) (List.pairwise_cons.mp h).2 (List.pairwise_cons.mp k).2]
theorem insS_perm (x : Str) : ∀ l : List Str, (insS x l).Perm (x :: l)
  | [] => List.Perm.refl _
  | y :: ys => by
    unfold insS
    split
    · exact ((insS_perm x ys).cons y).trans (List.Perm.swap x y ys)
    · exact List.Perm.refl _
theorem sortS_perm : ∀ l : List Str, (sortS l).Perm l
  | [] => List.Perm.refl _
  | x :: xs => (insS_perm x _).trans ((sortS_perm xs).cons x)
theorem insS_pw (x : Str) : ∀ {l : List Str}, l.Pairwise leS → (insS x l).Pairwise leS
  | [], _ => List.pairwise_singleton ..
  | y :: ys, h => by
    unfold insS
    split
    · rename_i hlt
      have hyx : leS y x := by
        rw [ltCps_eq] at hlt
        exact List.le_of_lt (of_decide_eq_true hlt)
      refine List.pairwise_cons.mpr ⟨fun z hz => ?_, insS_pw x (List.pairwise_cons.mp h).2⟩
      rcases List.mem_cons.mp ((insS_perm x ys).mem_iff.mp hz) with e | e
      · rw [e]; exact hyx
      · exact List.rel_of_pairwise_cons h e
    · rename_i hlt
      have hxy : leS x y := leS_of (by simpa using hlt)
      refine List.pairwise_cons.mpr ⟨fun z hz => ?_, h⟩
      rcases List.mem_cons.mp hz with e | e
      · rw [e]; exact hxy
      · exact leS_trans hxy (List.rel_of_pairwise_cons h e)
theorem sortS_pw : ∀ l : List Str, (sortS l).Pairwise leS
  | [] => List.Pairwise.nil
  | x :: xs => insS_pw x (sortS_pw xs)
theorem sortS_eq {l m : List Str} (p : m.Perm l) (h : sortedS m = true) : m = sortS l :=
  perm_pw_unique (fun _ _ => leS_antisymm) (p.trans (sortS_perm l).symm) (sortedS_pw h) (sortS_pw l)
def txtsD : List D → Option (List Str)
  | [] => some []
  | .str x :: ds => (txtsD ds).map fun xs => x :: xs
  | _ => none
def pSorted : List D → Option D
  | [.lst ds] => match txtsD ds with
    | some xs => if xs.length < 64 then some (.lst ((sortS xs).map .str)) else none
    | none => none
  | [.dct kvs] => match txtsD (kvs.map Prod.fst) with
    | some xs => if xs.length < 64 then some (.lst ((sortS xs).map .str)) else none
    | none => none
  | _ => none
section
variable {C : Ct} {B : Bd} {r : Rho} {H : Hp}
theorem txtsD_rd : ∀ {ds : List D} {vs : List V} {xs : List Str}, RDs C.toCt0 B H ds vs → txtsD ds = some xs → vs = xs.map V.str
  | [], _, xs, .nil, e => by
    cases e
    rfl
  | d :: ds, _, xs, .cons a b, e => by
    unfold txtsD at e
    split at e
    · rename_i z
      cases z
    · rename_i x ds2 eq
      cases eq
      obtain ⟨ys, h1, h2⟩ := Option.map_eq_some_iff.mp e
      subst h2
      cases a
      rw [txtsD_rd b h1]
      rfl
    · cases e
theorem txtsD_keys : ∀ {ds : List (D × D)} {vs : List (Key × V)} {xs : List Str}, RDk C.toCt0 B H ds vs → txtsD (ds.map Prod.fst) = some xs → vs.map (·.1) = xs.map Sum.inr
  | _, _, xs, .nil, e => by
    cases e
    rfl
  | _, _, xs, .cons (kd := kd) (k := k) hk a b, e => by
    rw [List.map_cons] at e
    unfold txtsD at e
    split at e
    · rename_i z
      cases z
    · rename_i x ds2 eq
      cases eq
      obtain ⟨ys, h1, h2⟩ := Option.map_eq_some_iff.mp e
      subst h2
      have hk' : some (Sum.inr x) = some k := hk
      rw [List.map_cons, List.map_cons, txtsD_keys b h1]
      cases hk'
      rfl
    · cases e
theorem rds_strs {C0 : Ct0} : ∀ (ys : List Str), RDs C0 B H (ys.map .str) (ys.map V.str)
  | [] => .nil
  | y :: ys => .cons (.str y) (rds_strs ys)
def rSortA (K : PySem.W.Frag) : List V → Hp → VK → Prop := fun xs H Q => rSortedS K xs H Q ∨ ∃ (a : Addr) (kvs : List (Key × V)) (ks : List Str), xs = [.ref a] ∧ Rd H a (.dK kvs) ∧ kvs.map (·.1) = ks.map Sum.inr ∧ ks.length < 64 ∧
    ∀ ys p, ys.Perm ks → sortedS ys = true → H p = none → Q (.ref p) (upd H p (.lst (ys.map V.str)))
theorem cr_sortA {X : Cx} (hc : X.calm = true) : CallR X (.builtin "sorted") (rSortA X.K) := callR_or cr_sortedS (call_sortedD hc)
theorem fn_sorted : FnC C pSorted (rSortA C.K) := by
  intro B r H h ds vs c Q w rv e q
  have fin : ∀ {xs : List Str} {ys : List Str} {p : Addr}, c = .lst ((sortS xs).map .str) → ys.Perm xs → sortedS ys = true → H p = none → Q (.ref p) (upd H p (.lst (ys.map V.str))) := fun {xs ys p} ec pm so hp => by
    have g := w.toOwn.new hp (.lst (ys.map V.str))
    refine q _ _ _ g ?_
    rw [ec, ← sortS_eq pm so]
    exact .lst ⟨w.toOwn.nb hp, upd_same⟩ (rds_strs ys)
  unfold pSorted at e
  split at e
  · rename_i ds
    split at e
    · rename_i xs hx
      split at e
      · rename_i hl
        cases e
        obtain ⟨v, rfl, r1⟩ := rv.one
        obtain ⟨a, vs, rfl, h1, h2⟩ := r1.items rfl
        rw [txtsD_rd h2 hx] at h1
        exact .inl ⟨a, xs, rfl, h1, hl, fun ys p pm so hp => fin rfl pm so hp⟩
      · cases e
    · cases e
  · rename_i kvs
    split at e
    · rename_i xs hx
      split at e
      · rename_i hl
        cases e
        obtain ⟨v, rfl, r1⟩ := rv.one
        obtain ⟨a, vs, rfl, h1, h2⟩ := r1.dctI
        exact .inr ⟨a, vs, xs, rfl, h1, txtsD_keys h2 hx, hl, fun ys p pm so hp => fin rfl pm so hp⟩
      · cases e
    · cases e
  · cases e
end
def spar3 (i j l : Nat) (g : M (List U)) : S := sbnd g fun us δ h => match us with
  | [a, b, c] => some (.nx (((δ.set i (some a)).set j (some b)).set l (some c)) h)
  | _ => none
theorem rs_par3 {X : Cx} {W : Wj} {pos : Pos} {i j l : Nat} {x y z : Str} {a b c : Expr} {ga : M (List U)} {px py pz pt : Pos} {kt k2 pt2} (hc : X.calm = true) (hN : X.N.Nodup) (ha : RA X W [a, b, c] ga) (hjx : W.j.xi = none := by rfl) (hij : i ≠ j := by decide) (hil : i ≠ l := by decide) (hjl : j ≠ l := by decide)
    (hi : X.N[i]? = some x := by rfl) (hj : X.N[j]? = some y := by rfl) (hl : X.N[l]? = some z := by rfl)
    (hx : X.env.scope.names.lookup x = some .local := by rfl) (hy : X.env.scope.names.lookup y = some .local := by rfl) (hz : X.env.scope.names.lookup z = some .local := by rfl)
    (hw : swappedStores [.Tuple [.Name x px, .Name y py, .Name z pz] kt pt] (.Tuple [a, b, c] k2 pt2) X.env = pure (some [x, y, z]) := by rfl)
    (hs : swapsWithSole [.Tuple [.Name x px, .Name y py, .Name z pz] kt pt] (.Tuple [a, b, c] k2 pt2) pos.line X.env = pure false := by rfl) :
    RS X W (.Assign [.Tuple [.Name x px, .Name y py, .Name z pz] kt pt] (.Tuple [a, b, c] k2 pt2) pos) (spar3 i j l ga) :=
  ps_imp (ps_par3 hc hN hi hj hl hij hil hjl hx hy hz ha hw hs) fun D σ H q => tS.bnd q fun us B r H1 h δ vs w s ru q => by
    cases ru with
    | nil => exact q.elim
    | cons r1 rr =>
      cases rr with
      | nil => exact q.elim
      | cons r2 rr =>
        cases rr with
        | nil => exact q.elim
        | cons r3 rr =>
          cases rr with
          | nil => exact ⟨_, _, _, rfl, OQ.nx w (((s.set hjx r1).set hjx r2).set hjx r3) q⟩
          | cons _ _ => exact q.elim
instance (a b : Int) : Decidable (RgOk a b) := by unfold RgOk; infer_instance
def rgDs (a b : Int) : List D := (List.range (b - a).toNat).map fun i => .int (a + (i : Nat))
theorem rgDs_rd {C0 : Ct0} {B : Bd} {H : Hp} (a b : Int) : RDs C0 B H (rgDs a b) (rgV a b) := by
  unfold rgDs rgV
  have go : ∀ l : List Nat, RDs C0 B H (l.map fun i : Nat => D.int (a + (i : Nat))) (l.map fun i : Nat => V.int (a + (i : Nat))) := by
    intro l
    induction l with
    | nil => exact .nil
    | cons x xs ih => exact .cons (.int _) ih
  exact go _
def lrgE (f g : M U) : M U := mbnd f fun x => mbnd g fun y _ h => match x, y with
  | .d (.int i), .d (.int j) => if RgOk i j then some (.ok (.d (.lst (rgDs i j))) h) else none
  | _, _ => none
section
variable {X : Cx} {W : Wj} {pos p p2 pos2 : Pos} {a b : Expr} {f g : M U}
theorem re_lrg2 (hc : X.calm = true) (hm : X.mg "list" = none) (hmr : X.mg "range" = none) (ha : RE X W a f) (hb : RE X W b g) (hg : Gl X "list" := by rfl) (hgr : Gl X "range" := by rfl)
    (na : starEach [.Call (.Name "range" p2) [a, b] [] pos2] X.env = (false, eval (.Call (.Name "range" p2) [a, b] [] pos2) X.env) :: starEach [] X.env := by rfl)
    (na1 : starEach [a, b] X.env = (false, eval a X.env) :: starEach [b] X.env := by rfl) (na2 : starEach [b] X.env = (false, eval b X.env) :: starEach [] X.env := by rfl) (hp : (backTo pos2 (starEach [b] X.env)).any (·.1) = false := by rfl) :
    RE X W (.Call (.Name "list" p) [.Call (.Name "range" p2) [a, b] [] pos2] [] pos) (lrgE f g) :=
  pe_imp (pe_listRg hc hg hm (prg_2 hgr hmr ha hb na1 na2 hp) na) fun σ H Q t => by
    refine tG.bnd t fun x B1 r1 H1 h1 δ v w1 s1 rx q1 => ?_
    refine ⟨B1, r1, h1, δ, w1, s1, q1.bnd w1 s1 fun y B2 r2 H2 h2 v2 e2 w2 s2 ry q2 => ?_⟩
    have rx2 := rx.ext e2 w1.toOwn
    try dsimp only at q2
    split at q2
    · rename_i i j
      split at q2
      · rename_i hr
        cases rx2 with
        | d rx2 =>
          cases ry with
          | d ry =>
            cases rx2
            cases ry
            refine ⟨i, j, rfl, rfl, hr, fun q hq => ?_⟩
            have g := w2.toOwn.new hq (.lst (rgV i j))
            exact EQ.gr w2 q2 g (.d (.lst ⟨w2.toOwn.nb hq, upd_same⟩ (rgDs_rd i j)))
      · exact q2.elim
    · exact q2.elim
end
/-- a mirror gives an answer, and Q holds of it -/
def OkM {α : Type} (f : M α) (δ : Sl) (h : Hea) (Q : α → Hea → Prop) : Prop := ∃ a h', f δ h = some (.ok a h') ∧ Q a h'
def OkS (s : S) (δ : Sl) (h : Hea) (Q : Out → Prop) : Prop := ∃ o, s δ h = some o ∧ Q o
theorem OkM.mk {α : Type} {f : M α} {δ : Sl} {h h' : Hea} {a : α} {Q : α → Hea → Prop} (e : f δ h = some (.ok a h')) (q : Q a h') : OkM f δ h Q := ⟨a, h', e, q⟩
theorem OkM.imp {α : Type} {f : M α} {δ : Sl} {h : Hea} {Q Q' : α → Hea → Prop} (o : OkM f δ h Q) (i : ∀ a h, Q a h → Q' a h) : OkM f δ h Q' := by
  obtain ⟨a, h', e, q⟩ := o
  exact ⟨a, h', e, i a h' q⟩
theorem okm_bnd {α β : Type} {f : M α} {k : α → M β} {δ : Sl} {h : Hea} {Q : β → Hea → Prop} (o : OkM f δ h fun a h' => OkM (k a) δ h' Q) : OkM (mbnd f k) δ h Q := by
  obtain ⟨a, h', e, b, h2, e2, q⟩ := o
  refine ⟨b, h2, ?_, q⟩
  unfold mbnd
  rw [e]
  exact e2
theorem oks_bnd {α : Type} {f : M α} {k : α → S} {δ : Sl} {h : Hea} {Q : Out → Prop} (o : OkM f δ h fun a h' => OkS (k a) δ h' Q) : OkS (sbnd f k) δ h Q := by
  obtain ⟨a, h', e, b, e2, q⟩ := o
  refine ⟨b, ?_, q⟩
  unfold sbnd
  rw [e]
  exact e2
theorem oks_seq {s t : S} {δ : Sl} {h : Hea} {Q : Out → Prop} (o : OkS s δ h fun x => match x with
    | .nx δ' h' => OkS t δ' h' Q
    | x => Q x) : OkS (sseq s t) δ h Q := by
  obtain ⟨x, e, q⟩ := o
  unfold OkS sseq
  rw [e]
  cases x with
  | nx δ' h' => exact q
  | rt u h' => exact ⟨_, rfl, q⟩
  | bk δ' h' => exact ⟨_, rfl, q⟩
  | ct δ' h' => exact ⟨_, rfl, q⟩
  | ex e δ' h' => exact ⟨_, rfl, q⟩
theorem oks_if {c : M Bool} {s t : S} {δ : Sl} {h : Hea} {Q : Out → Prop} (o : OkM c δ h fun b h' => (b = true → OkS s δ h' Q) ∧ (b = false → OkS t δ h' Q)) : OkS (sif c s t) δ h Q := by
  refine oks_bnd (o.imp fun b h' q => ?_)
  cases b with
  | true => exact q.1 rfl
  | false => exact q.2 rfl
theorem oks_for {f : M (List U)} {g : G} {b : S} {δ : Sl} {h : Hea} {Q : Out → Prop} (o : OkM f δ h fun xs h' => OkS (forL g b xs) δ h' Q) : OkS (sfor f g b) δ h Q := oks_bnd o
/-- a loop -/
theorem forL_rule {g : G} {b : S} {Q : Out → Prop} (I : List U → Sl → Hea → Prop)
    (step : ∀ x rest δ h, I (x :: rest) δ h → ∃ δ1 h1, g x δ h = some (δ1, h1) ∧ OkS b δ1 h1 fun o => match o with
      | .nx δ2 h2 => I rest δ2 h2
      | .ct δ2 h2 => I rest δ2 h2
      | .bk δ2 h2 => Q (.nx δ2 h2)
      | o => Q o)
    (done : ∀ δ h, I [] δ h → Q (.nx δ h)) : ∀ xs δ h, I xs δ h → OkS (forL g b xs) δ h Q
  | [], δ, h, i => ⟨_, rfl, done δ h i⟩
  | x :: rest, δ, h, i => by
    obtain ⟨δ1, h1, e1, o, e2, q⟩ := step x rest δ h i
    unfold OkS forL
    simp only [e1, e2]
    cases o with
    | nx δ2 h2 => exact forL_rule I step done rest δ2 h2 q
    | ct δ2 h2 => exact forL_rule I step done rest δ2 h2 q
    | bk δ2 h2 => exact ⟨_, rfl, q⟩
    | rt u h2 => exact ⟨_, rfl, q⟩
    | ex e δ2 h2 => exact ⟨_, rfl, q⟩
/-- a list made of a list, nothing changing -/
theorem lcL_map {g : G} {tt : M Bool} {te : M U} {δ : Sl} {h : Hea} (F : U → U) : ∀ xs : List U, (∀ x ∈ xs, ∃ δ1, g x δ h = some (δ1, h) ∧ tt δ1 h = some (.ok true h) ∧ te δ1 h = some (.ok (F x) h)) → lcL g tt te δ xs h = some (xs.map F, h)
  | [], _ => rfl
  | x :: xs, hx => by
    obtain ⟨δ1, e1, e2, e3⟩ := hx x (by simp)
    unfold lcL
    simp only [e1, e2, e3, lcL_map F xs fun y hy => hx y (by simp [hy])]
    rfl
/-- .., some left out -/
theorem lcL_filter {g : G} {tt : M Bool} {te : M U} {δ : Sl} {h : Hea} (p : U → Bool) (F : U → U) : ∀ xs : List U, (∀ x ∈ xs, ∃ δ1, g x δ h = some (δ1, h) ∧ tt δ1 h = some (.ok (p x) h) ∧ (p x = true → te δ1 h = some (.ok (F x) h))) →
    lcL g tt te δ xs h = some ((xs.filter p).map F, h)
  | [], _ => rfl
  | x :: xs, hx => by
    obtain ⟨δ1, e1, e2, e3⟩ := hx x (by simp)
    have ih := lcL_filter (h := h) (δ := δ) p F xs fun y hy => hx y (by simp [hy])
    unfold lcL
    cases hp : p x with
    | true =>
      rw [hp] at e2
      simp only [e1, e2, e3 hp, ih, List.filter_cons, hp, if_true]
      rfl
    | false =>
      rw [hp] at e2
      simp only [e1, e2, ih, List.filter_cons, hp]
      rfl
/-- .., what may change being kept by I -/
inductive Al2 {α β : Type} (P : α → β → Prop) : List α → List β → Prop
  | nil : Al2 P [] []
  | cons {a : α} {b : β} {as : List α} {bs : List β} : P a b → Al2 P as bs → Al2 P (a :: as) (b :: bs)
theorem lcL_rel {g : G} {tt : M Bool} {te : M U} {δ : Sl} {I : Hea → Prop} {P : U → U → Prop} : ∀ (xs : List U) (h : Hea), I h → (∀ x ∈ xs, ∀ h, I h → ∃ δ1 h1 y, g x δ h = some (δ1, h) ∧ tt δ1 h = some (.ok true h) ∧ te δ1 h = some (.ok y h1) ∧ I h1 ∧ P x y) →
    ∃ ys h', lcL g tt te δ xs h = some (ys, h') ∧ I h' ∧ Al2 P xs ys
  | [], h, i, _ => ⟨[], h, rfl, i, .nil⟩
  | x :: xs, h, i, hx => by
    obtain ⟨δ1, h1, y, e1, e2, e3, i1, p⟩ := hx x (by simp) h i
    obtain ⟨ys, h', e4, i2, a⟩ := lcL_rel xs h1 i1 fun z hz => hx z (by simp [hz])
    refine ⟨y :: ys, h', ?_, i2, .cons p a⟩
    unfold lcL
    simp only [e1, e2, e3, e4]
theorem allD_map : ∀ ds : List D, allD (ds.map .d) = some ds
  | [] => rfl
  | d :: ds => by
    show (match U.toD (.d d), allD (ds.map .d) with
      | some x, some xs => some (x :: xs)
      | _, _ => none) = _
    rw [allD_map ds]
    rfl
theorem szOk_of {n : Nat} (h : n ≤ 16777216) : szOk n = true := decide_eq_true h
/-- a call upon plain data -/
theorem callP_eq {np : Nat} {m : FM} {g : M (List U)} {δ : Sl} {h h' : Hea} {us : List U} {ds : List D} {x : D} {hh : Hea} (e : g δ h = some (.ok us h')) (hl : us.length = np) (ha : allD us = some ds) (hm : m us [] = some (.ok (.d x) hh)) : callP np m g δ h = some (.ok (.d x) h') := by
  unfold callP mbnd
  simp only [e]
  rw [if_pos hl]
  simp only [ha, hm]
  rfl
section
variable {δ : Sl} {h : Hea} {f g k : M U} {ga : M (List U)} {Q : U → Hea → Prop} {QL : List U → Hea → Prop} {QB : Bool → Hea → Prop} {i : Nat} {u x y : U} {d : D} {p q : D → D → Option D} {c c2 : M Bool} {us : List U}
theorem okm_ret {α : Type} {a : α} {Q : α → Hea → Prop} (z : Q a h) : OkM (mret a) δ h Q := ⟨a, h, rfl, z⟩
theorem okm_vr (e : δ[i]? = some (some u)) (z : Q u h) : OkM (vr i) δ h Q := ⟨u, h, by unfold vr; simp only [e], z⟩
theorem okm_cn (z : Q (.d d) h) : OkM (cn d) δ h Q := ⟨_, h, rfl, z⟩
def Op (p : D → D → Option D) (h : Hea) (x y : U) (Q : U → Hea → Prop) : Prop := ∃ a b c, view h x = some a ∧ view h y = some b ∧ p a b = some c ∧ Q (.d c) h
theorem okm_opE (z : Op p h x y Q) : OkM (opE p x y) δ h Q := by
  obtain ⟨a, b, c, e1, e2, e3, z⟩ := z
  exact ⟨.d c, h, by unfold opE; simp only [e1, e2, e3], z⟩
theorem okm_op2 (o : OkM f δ h fun x h1 => OkM g δ h1 fun y h2 => Op p h2 x y Q) : OkM (op2 p f g) δ h Q := okm_bnd (o.imp fun x h1 o => okm_bnd (o.imp fun y h2 z => okm_opE z))
theorem okm_tst (o : OkM f δ h fun x h1 => ∃ b, isB x = some b ∧ QB b h1) : OkM (tst f) δ h QB := okm_bnd (o.imp fun x h1 ⟨b, e, z⟩ => ⟨b, h1, by simp only [e], z⟩)
theorem okm_andT (o : OkM c δ h fun b h1 => (b = true → OkM c2 δ h1 QB) ∧ (b = false → QB false h1)) : OkM (andT c c2) δ h QB := okm_bnd (o.imp fun b h1 z => by
  cases b with
  | true => exact z.1 rfl
  | false => exact ⟨false, h1, rfl, z.2 rfl⟩)
theorem okm_orT (o : OkM c δ h fun b h1 => (b = true → QB true h1) ∧ (b = false → OkM c2 δ h1 QB)) : OkM (orT c c2) δ h QB := okm_bnd (o.imp fun b h1 z => by
  cases b with
  | true => exact ⟨true, h1, rfl, z.1 rfl⟩
  | false => exact z.2 rfl)
theorem okm_notT (o : OkM c δ h fun b h1 => QB (!b) h1) : OkM (notT c) δ h QB := okm_bnd (o.imp fun b h1 z => ⟨_, h1, rfl, z⟩)
theorem okm_andV (o : OkM f δ h fun x h1 => ∃ b, isB x = some b ∧ ((b = true → OkM g δ h1 Q) ∧ (b = false → Q (.d (.bl false)) h1))) : OkM (andV f g) δ h Q := okm_bnd ((okm_tst o).imp fun b h1 z => by
  cases b with
  | true => exact z.1 rfl
  | false => exact ⟨_, h1, rfl, z.2 rfl⟩)
theorem okm_orV (o : OkM f δ h fun x h1 => ∃ b, isB x = some b ∧ ((b = true → Q (.d (.bl true)) h1) ∧ (b = false → OkM g δ h1 Q))) : OkM (orV f g) δ h Q := okm_bnd ((okm_tst o).imp fun b h1 z => by
  cases b with
  | true => exact ⟨_, h1, rfl, z.1 rfl⟩
  | false => exact z.2 rfl)
theorem okm_notV (o : OkM f δ h fun x h1 => ∃ b, isB x = some b ∧ Q (.d (.bl !b)) h1) : OkM (notV f) δ h Q := okm_bnd ((okm_tst o).imp fun b h1 z => ⟨_, h1, rfl, z⟩)
theorem okm_ifE (o : OkM c δ h fun b h1 => (b = true → OkM f δ h1 Q) ∧ (b = false → OkM g δ h1 Q)) : OkM (ifE c f g) δ h Q := okm_bnd (o.imp fun b h1 z => by
  cases b with
  | true => exact z.1 rfl
  | false => exact z.2 rfl)
theorem okm_chain (o : OkM f δ h fun x h1 => OkM g δ h1 fun y h2 => Op p h2 x y fun z h3 => ∃ b, isB z = some b ∧ ((b = true → OkM k δ h3 fun w h4 => Op q h4 y w Q) ∧ (b = false → Q (.d (.bl false)) h3))) : OkM (chain p q f g k) δ h Q :=
  okm_bnd (o.imp fun x h1 o => okm_bnd (o.imp fun y h2 z => okm_bnd ((okm_opE z).imp fun w h3 ⟨b, e, z⟩ => by
    simp only [e]
    cases b with
    | true => exact okm_bnd ((z.1 rfl).imp fun w h4 z => okm_opE z)
    | false => exact okm_cn (z.2 rfl))))
theorem okm_mnil (z : QL [] h) : OkM mnil δ h QL := ⟨_, h, rfl, z⟩
theorem okm_mcons (o : OkM f δ h fun x h1 => OkM ga δ h1 fun xs h2 => QL (x :: xs) h2) : OkM (mcons f ga) δ h QL := okm_bnd (o.imp fun x h1 o => okm_bnd (o.imp fun xs h2 z => ⟨_, h2, rfl, z⟩))
theorem okm_tupE {ds : List D} (e : allD us = some ds) (hz : szOk us.length = true) (z : Q (.d (.tup ds)) h) : OkM (tupE us) δ h Q := ⟨_, h, by unfold tupE; rw [if_pos hz]; simp only [e], z⟩
theorem okm_tupL (e : allD us = none) (hz : szOk us.length = true) (z : Q (.tup us) h) : OkM (tupE us) δ h Q := ⟨_, h, by unfold tupE; rw [if_pos hz]; simp only [e], z⟩
theorem okm_lstE {ds : List D} (e : allD us = some ds) (hz : szOk us.length = true) (z : Q (.d (.lst ds)) h) : OkM (lstE us) δ h Q := ⟨_, h, by unfold lstE; rw [if_pos hz]; simp only [e], z⟩
theorem okm_lstN (hz : szOk us.length = true) (z : Q (.loc h.length) (h ++ [.lst us])) : OkM (lstN us) δ h Q := ⟨_, _, by unfold lstN; rw [if_pos hz]; rfl, z⟩
theorem okm_lstF {ds : List D} (e : allD us = some ds) (z : Q (.d (.lst ds)) h) : OkM (lstF us) δ h Q := ⟨_, h, by unfold lstF; simp only [e], z⟩
theorem okm_lstL (z : Q (.loc h.length) (h ++ [.lst us])) : OkM (lstL us) δ h Q := ⟨_, _, rfl, z⟩
def O1 (p : D → Option D) (h : Hea) (x : U) (Q : U → Hea → Prop) : Prop := ∃ a c, view h x = some a ∧ p a = some c ∧ Q (.d c) h
theorem okm_unE {p : D → Option D} (o : OkM f δ h fun x h1 => O1 p h1 x Q) : OkM (unE p f) δ h Q := okm_bnd (o.imp fun x h1 ⟨a, c, e1, e2, z⟩ => ⟨_, h1, by simp only [e1, e2], z⟩)
def Of (p : List D → Option D) (h : Hea) (us : List U) (Q : U → Hea → Prop) : Prop := ∃ ds c, viewS h us = some ds ∧ p ds = some c ∧ Q (.d c) h
theorem okm_fnE {p : List D → Option D} (o : OkM ga δ h fun us h1 => Of p h1 us Q) : OkM (fnE p ga) δ h Q := okm_bnd (o.imp fun x h1 ⟨a, c, e1, e2, z⟩ => ⟨_, h1, by simp only [e1, e2], z⟩)
theorem okm_lenE (o : OkM ga δ h fun us h1 => ∃ u c, us = [u] ∧ lenU h1 u = some c ∧ Q (.d c) h1) : OkM (lenE ga) δ h Q := okm_bnd (o.imp fun x h1 ⟨a, c, e1, e2, z⟩ => ⟨_, h1, by subst e1; simp only [e2], z⟩)
theorem okm_ixE (o : OkM f δ h fun x h1 => OkM g δ h1 fun y h2 => ∃ u, ixU h2 x y = some u ∧ Q u h2) : OkM (ixE f g) δ h Q := okm_bnd (o.imp fun x h1 o => okm_bnd (o.imp fun y h2 ⟨u, e, z⟩ => ⟨u, h2, by simp only [e], z⟩))
theorem okm_ptN {QO : Option Int → Hea → Prop} (z : QO none h) : OkM (ptE none) δ h QO := ⟨_, h, rfl, z⟩
theorem okm_ptS {QO : Option Int → Hea → Prop} (o : OkM f δ h fun x h1 => ∃ j, x = .d (.int j) ∧ QO (some j) h1) : OkM (ptE (some f)) δ h QO := okm_bnd (o.imp fun x h1 ⟨j, e, z⟩ => ⟨some j, h1, by subst e; rfl, z⟩)
theorem okm_slE {lo hi : Option (M U)} (o : OkM f δ h fun x h1 => OkM (ptE lo) δ h1 fun l h2 => OkM (ptE hi) δ h2 fun u h3 => O1 (pSl l u) h3 x Q) : OkM (slE f lo hi) δ h Q :=
  okm_bnd (o.imp fun x h1 o => okm_bnd (o.imp fun l h2 o => okm_bnd (o.imp fun u h3 ⟨a, c, e1, e2, z⟩ => ⟨_, h3, by simp only [e1, e2], z⟩)))
theorem okm_callP {np : Nat} {m : FM} (o : OkM ga δ h fun us h1 => us.length = np ∧ ∃ ds x hh, allD us = some ds ∧ m us [] = some (.ok (.d x) hh) ∧ Q (.d x) h1) : OkM (callP np m ga) δ h Q := by
  obtain ⟨us, h1, e, hl, ds, x, hh, e1, e2, z⟩ := o
  exact ⟨_, h1, callP_eq e hl e1 e2, z⟩
theorem okm_callM {np : Nat} {m : FM} (o : OkM ga δ h fun us h1 => us.length = np ∧ ∃ u h2, m us h1 = some (.ok u h2) ∧ Q u h2) : OkM (callM np m ga) δ h Q := okm_bnd (o.imp fun us h1 ⟨hl, u, h2, e, z⟩ => ⟨u, h2, by dsimp only; rw [if_pos hl]; exact e, z⟩)
theorem okm_bmE {T : String} {p : D → List D → Option D} (o : OkM f δ h fun x h1 => ∃ d, view h1 x = some d ∧ isT T d = true ∧ OkM ga δ h1 fun us h2 => ∃ d ds c, view h2 x = some d ∧ viewS h2 us = some ds ∧ p d ds = some c ∧ Q (.d c) h2) : OkM (bmE T p f ga) δ h Q :=
  okm_bnd (o.imp fun x h1 ⟨d, e1, e2, o⟩ => by
    unfold OkM
    simp only [e1, e2, if_true]
    exact okm_bnd (o.imp fun us h2 ⟨d, ds, c, e3, e4, e5, z⟩ => ⟨_, h2, by simp only [e3, e4, e5], z⟩))
theorem okm_spNE (o : OkM f δ h fun x h1 => ∃ a, view h1 x = some (.str a) ∧ OkM ga δ h1 fun us h2 => ∃ ds ys, viewS h2 us = some ds ∧ pSplit (.str a) ds = some (.lst ys) ∧ Q (.loc h2.length) (h2 ++ [.lst (ys.map .d)])) : OkM (spNE f ga) δ h Q :=
  okm_bnd (o.imp fun x h1 ⟨d, e1, o⟩ => by
    unfold OkM
    simp only [e1]
    exact okm_bnd (o.imp fun us h2 ⟨ds, ys, e4, e5, z⟩ => ⟨_, _, by simp only [e4, e5]; rfl, z⟩))
theorem okm_lmE {p : List U → List U → Option (U × List U)} (o : OkM f δ h fun x h1 => ∃ n xs0, x = .loc n ∧ h1[n]? = some (.lst xs0) ∧ OkM ga δ h1 fun us h2 => ∃ xs u ys, h2[n]? = some (.lst xs) ∧ p xs us = some (u, ys) ∧ Q u (h2.set n (.lst ys))) : OkM (lmE p f ga) δ h Q :=
  okm_bnd (o.imp fun x h1 ⟨n, xs0, e1, e2, o⟩ => by
    subst e1
    unfold OkM
    simp only [e2]
    exact okm_bnd (o.imp fun us h2 ⟨xs, u, ys, e4, e5, z⟩ => ⟨_, _, by simp only [e4, e5], z⟩))
theorem okm_isiE {cs : List Str} {an : Tg → Option Bool} (o : OkM f δ h fun u h1 => ∃ t b, tgU h1 u = some t ∧ tgIn cs t = true ∧ an t = some b ∧ Q (.d (.bl b)) h1) : OkM (isiE cs an f) δ h Q := okm_bnd (o.imp fun u h1 ⟨t, b, e1, e2, e3, z⟩ => ⟨_, h1, by simp only [e1, e2, e3, if_true], z⟩)
theorem okm_fz (o : OkM f δ h fun u h1 => OkM (fzE u) δ h1 Q) : OkM (fz f) δ h Q := okm_bnd o
theorem okm_fzL {n : Nat} {o : O} {d : D} (e1 : h[n]? = some o) (e2 : o.view = some d) (z : Q (.d d) (h.set n .gone)) : OkM (fzE (.loc n)) δ h Q := ⟨_, _, by unfold fzE; simp only [e1, e2], z⟩
theorem okm_fzD (z : Q (.d d) h) : OkM (fzE (.d d)) δ h Q := ⟨_, _, rfl, z⟩
theorem okm_itE {s : U → Option (List U)} (o : OkM f δ h fun u h1 => ∃ xs, s u = some xs ∧ QL xs h1) : OkM (itE s f) δ h QL := okm_bnd (o.imp fun u h1 ⟨xs, e, z⟩ => ⟨xs, h1, by simp only [e], z⟩)
theorem okm_itN {s : List U → Option (List U)} (o : OkM ga δ h fun u h1 => ∃ xs, s u = some xs ∧ QL xs h1) : OkM (itN s ga) δ h QL := okm_bnd (o.imp fun u h1 ⟨xs, e, z⟩ => ⟨xs, h1, by simp only [e], z⟩)
theorem okm_it1 {s : U → Option (List U)} (o : OkM ga δ h fun us h1 => ∃ u xs, us = [u] ∧ s u = some xs ∧ QL xs h1) : OkM (it1 s ga) δ h QL := okm_bnd (o.imp fun us h1 ⟨u, xs, e1, e, z⟩ => ⟨xs, h1, by subst e1; simp only [e], z⟩)
theorem okm_lcM {fL : M (List U)} {vs : List Nat} {gt : G} {tt : M Bool} {te : M U} {mk : List U → M U} (o : OkM fL δ h fun xs h1 => szOk xs.length = true ∧ ∃ ys h2, lcL gt tt te (wipeS δ vs) xs h1 = some (ys, h2) ∧ OkM (mk ys) δ h2 Q) : OkM (lcM fL vs gt tt te mk) δ h Q :=
  okm_bnd (o.imp fun xs h1 ⟨hz, ys, h2, e, o⟩ => by
    obtain ⟨a, h3, e3, z⟩ := o
    exact ⟨a, h3, by dsimp only; rw [if_pos hz]; simp only [e]; exact e3, z⟩)
variable {QS : Out → Prop} {s t : S}
theorem oks_snx (z : QS (.nx δ h)) : OkS snx δ h QS := ⟨_, rfl, z⟩
theorem oks_sret (o : OkM f δ h fun u h1 => QS (.rt u h1)) : OkS (sret f) δ h QS := oks_bnd (o.imp fun u h1 z => ⟨_, rfl, z⟩)
theorem oks_sexp (o : OkM f δ h fun u h1 => QS (.nx δ h1)) : OkS (sexp f) δ h QS := oks_bnd (o.imp fun u h1 z => ⟨_, rfl, z⟩)
theorem oks_set (o : OkM f δ h fun u h1 => QS (.nx (δ.set i (some u)) h1)) : OkS (sasg f (gnm i)) δ h QS := oks_bnd (o.imp fun u h1 z => ⟨_, rfl, z⟩)
theorem oks_asg {gt : G} (o : OkM f δ h fun u h1 => ∃ δ2 h2, gt u δ h1 = some (δ2, h2) ∧ QS (.nx δ2 h2)) : OkS (sasg f gt) δ h QS := oks_bnd (o.imp fun u h1 ⟨δ2, h2, e, z⟩ => ⟨_, by simp only [e], z⟩)
theorem oks_aug (o : OkM (vr i) δ h fun x h1 => OkM f δ h1 fun y h2 => Op p h2 x y fun z h3 => QS (.nx (δ.set i (some z)) h3)) : OkS (saug p i f) δ h QS := oks_bnd (o.imp fun x h1 o => oks_bnd (o.imp fun y h2 o => oks_bnd ((okm_opE o).imp fun z h3 q => ⟨_, rfl, q⟩)))
theorem oks_augS {fo fi : M U} (o : OkM fo δ h fun o h1 => OkM fi δ h1 fun i h2 => ∃ x, getU h2 o i = some x ∧ OkM f δ h2 fun y h3 => Op p h3 x y fun z h4 => ∃ h5, setU h4 o i z = some h5 ∧ QS (.nx δ h5)) : OkS (saugS p fo fi f) δ h QS :=
  oks_bnd (o.imp fun o h1 z => oks_bnd (z.imp fun i h2 ⟨x, e, z⟩ => oks_bnd ⟨x, h2, by simp only [e], oks_bnd (z.imp fun y h3 z => oks_bnd ((okm_opE z).imp fun w h4 ⟨h5, e5, z⟩ => ⟨_, by simp only [e5], z⟩))⟩))
theorem oks_raise {c : Str} {ns : List Str} (o : OkM ga δ h fun us h1 => ∃ ds, allD us = some ds ∧ ds.length = ns.length ∧ ns.length ≤ 1000 ∧ QS (.ex ⟨c, (ns.zip ds).reverse⟩ δ h1)) : OkS (sraise c ns ga) δ h QS :=
  oks_bnd (o.imp fun us h1 ⟨ds, e1, e2, e3, z⟩ => ⟨_, by simp only [e1]; rw [if_pos ⟨e2, e3⟩], z⟩)
end
/-- data of depth at most n without dicts and instances -/
inductive Pl : Nat → D → Prop
  | non {n : Nat} : Pl n .non
  | bl {n : Nat} (b : Bool) : Pl n (.bl b)
  | int {n : Nat} (i : Int) : Pl n (.int i)
  | str {n : Nat} {x : Str} (h : PyData.strOk x = true) : Pl n (.str x)
  | tup {n : Nat} {ds : List D} (h : ∀ d ∈ ds, Pl n d) : Pl (n + 1) (.tup ds)
  | lst {n : Nat} {ds : List D} (h : ∀ d ∈ ds, Pl n d) : Pl (n + 1) (.lst ds)
  | scr {n : Nat} (ns : List Int) : Pl (n + 2) (.scr ns)
theorem eqv_refl_ints : ∀ ns : List Int, PyData.eqvAll (ns.map PyData.int) (ns.map PyData.int) = true
  | [] => rfl
  | n :: ns => by
    show (PyData.eqv (.int n) (.int n) && PyData.eqvAll (ns.map PyData.int) (ns.map PyData.int)) = true
    rw [eqv_refl_ints ns]
    simp [PyData.eqv]
def GoodP (n : Nat) (p : PyData) : Prop := PyData.canLay0 p = true ∧ PyData.depth p ≤ n ∧ PyData.eqv p p = true
def GoodPs (n : Nat) (ps : List PyData) : Prop := PyData.canLayAll0 ps = true ∧ PyData.depthAll ps ≤ n ∧ PyData.eqvAll ps ps = true
theorem GoodPs.nil {n : Nat} : GoodPs n [] := ⟨rfl, Nat.zero_le _, rfl⟩
theorem GoodPs.cons {n : Nat} {p : PyData} {ps : List PyData} (a : GoodP n p) (b : GoodPs n ps) : GoodPs n (p :: ps) := by
  obtain ⟨a1, a2, a3⟩ := a
  obtain ⟨b1, b2, b3⟩ := b
  refine ⟨?_, ?_, ?_⟩
  · simp only [PyData.canLayAll0, a1, b1, Bool.and_self]
  · simp only [PyData.depthAll]
    omega
  · simp only [PyData.eqvAll, a3, b3, Bool.and_self]
theorem Pl.good : ∀ {n : Nat} {d : D}, Pl n d → ∃ p, toPy d = some p ∧ GoodP n p := by
  intro n d h
  induction h with
  | non => exact ⟨.none, rfl, by simp [PyData.canLay0], by simp [PyData.depth], by simp [PyData.eqv]⟩
  | bl b => exact ⟨.bool b, rfl, by simp [PyData.canLay0], by simp [PyData.depth], by simp [PyData.eqv]⟩
  | int i => exact ⟨.int i, rfl, by simp [PyData.canLay0], by simp [PyData.depth], by simp [PyData.eqv]⟩
  | str hx => exact ⟨.str _, rfl, by simpa [PyData.canLay0] using hx, by simp [PyData.depth], by simp [PyData.eqv]⟩
  | @tup n ds h ih =>
    have go : ∀ ds : List D, (∀ d ∈ ds, ∃ p, toPy d = some p ∧ GoodP n p) → ∃ ps, toPys ds = some ps ∧ GoodPs n ps := by
      intro ds
      induction ds with
      | nil => exact fun _ => ⟨[], rfl, .nil⟩
      | cons x xs ih2 =>
        intro hx
        obtain ⟨p, e1, g1⟩ := hx x (by simp)
        obtain ⟨ps, e2, g2⟩ := ih2 fun d hd => hx d (by simp [hd])
        exact ⟨p :: ps, by unfold toPys; simp only [e1, e2], GoodPs.cons g1 g2⟩
    obtain ⟨ps, e, g1, g2, g3⟩ := go ds ih
    refine ⟨.tuple ps, by unfold toPy; simp only [e], by simpa [PyData.canLay0] using g1, by simp only [PyData.depth]; omega, by simpa [PyData.eqv] using g3⟩
  | @lst n ds h ih =>
    have go : ∀ ds : List D, (∀ d ∈ ds, ∃ p, toPy d = some p ∧ GoodP n p) → ∃ ps, toPys ds = some ps ∧ GoodPs n ps := by
      intro ds
      induction ds with
      | nil => exact fun _ => ⟨[], rfl, .nil⟩
      | cons x xs ih2 =>
        intro hx
        obtain ⟨p, e1, g1⟩ := hx x (by simp)
        obtain ⟨ps, e2, g2⟩ := ih2 fun d hd => hx d (by simp [hd])
        exact ⟨p :: ps, by unfold toPys; simp only [e1, e2], GoodPs.cons g1 g2⟩
    obtain ⟨ps, e, g1, g2, g3⟩ := go ds ih
    refine ⟨.list ps, by unfold toPy; simp only [e], by simpa [PyData.canLay0] using g1, by simp only [PyData.depth]; omega, by simpa [PyData.eqv] using g3⟩
  | scr ns =>
    have h1 := PySem.W.shaped_ints ns
    refine ⟨.list (ns.map .int), rfl, SeqAt.canLay_of_shaped h1, ?_, ?_⟩
    · have := PySem.W.depthAll_ints ns
      simp only [PyData.depth]
      omega
    · simp only [PyData.eqv]
      exact eqv_refl_ints ns
theorem shaped_of {n : Nat} {p : PyData} (g : GoodP n p) (hn : n ≤ 64) : SeqAt.shaped p = true := by
  unfold SeqAt.shaped
  rw [g.1, Bool.true_and]
  exact decide_eq_true (by have := g.2.1; omega)
theorem toPy_scal {x : D} {p : PyData} (h : toPy x = some p) : eqS x x = true ∨ scalD x x = false := by
  cases x <;> first
    | exact .inr rfl
    | (left; simp [eqS])
    | (cases h)
theorem eqD_refl {n : Nat} {d : D} (h : Pl n d) (hn : n ≤ 64) : eqD d d = some true := by
  obtain ⟨p, e, g⟩ := h.good
  unfold eqD
  split
  · rename_i hs
    rcases toPy_scal e with q | q
    · rw [q]
    · rw [q] at hs
      cases hs
  · unfold eqP
    simp only [e]
    rw [shaped_of g hn]
    simp only [Bool.and_self, if_true]
    rw [g.2.2]
theorem pEq_refl {n : Nat} {d : D} (h : Pl n d) (hn : n ≤ 64) : pEq d d = some (.bl true) := by
  unfold pEq
  rw [eqD_refl h hn]
  rfl
theorem pNe_refl {n : Nat} {d : D} (h : Pl n d) (hn : n ≤ 64) : pNe d d = some (.bl false) := by
  unfold pNe
  rw [eqD_refl h hn]
  rfl
/-- .. with the empty list -/
theorem pNe_nil {n : Nat} {ds : List D} (h : Pl n (.lst ds)) (hn : n ≤ 64) : pNe (.lst ds) (.lst []) = some (.bl (!ds.isEmpty)) := by
  obtain ⟨p, e, g⟩ := h.good
  unfold toPy at e
  split at e
  · rename_i ys e2
    cases e
    unfold pNe eqD
    rw [if_neg (by exact Bool.false_ne_true)]
    unfold eqP
    have e3 : toPy (.lst ds) = some (.list ys) := by unfold toPy; simp only [e2]
    have e4 : toPy (.lst []) = some (.list []) := rfl
    simp only [e3, e4]
    rw [shaped_of g hn, show SeqAt.shaped (.list []) = true from rfl]
    simp only [Bool.and_self, if_true]
    cases ds with
    | nil =>
      cases e2
      rfl
    | cons x xs =>
      unfold toPys at e2
      split at e2
      · cases e2
        rfl
      · cases e2
  · cases e
theorem pNe_scr {ns : List Int} : pNe (.scr ns) (.lst []) = some (.bl (!ns.isEmpty)) := by
  unfold pNe eqD
  rw [if_neg (by exact Bool.false_ne_true)]
  unfold eqP
  have e4 : toPy (.lst []) = some (.list []) := rfl
  have e3 : toPy (.scr ns) = some (.list (ns.map .int)) := rfl
  simp only [e3, e4]
  rw [PySem.W.shaped_ints ns, show SeqAt.shaped (.list []) = true from rfl]
  simp only [Bool.and_self, if_true]
  cases ns with
  | nil => rfl
  | cons x xs => rfl
/-- what does not change may be taken for the same -/
theorem op_rfl {p : D → D → Option D} {h : Hea} {x y : U} {Q : U → Hea → Prop} {a b c : D} (e1 : view h x = some a) (e2 : view h y = some b) (e3 : p a b = some c) (z : Q (.d c) h) : Op p h x y Q := ⟨a, b, c, e1, e2, e3, z⟩
theorem o1_rfl {p : D → Option D} {h : Hea} {x : U} {Q : U → Hea → Prop} {a c : D} (e1 : view h x = some a) (e3 : p a = some c) (z : Q (.d c) h) : O1 p h x Q := ⟨a, c, e1, e3, z⟩
theorem of_rfl {p : List D → Option D} {h : Hea} {us : List U} {Q : U → Hea → Prop} {ds : List D} {c : D} (e1 : viewS h us = some ds) (e3 : p ds = some c) (z : Q (.d c) h) : Of p h us Q := ⟨ds, c, e1, e3, z⟩
theorem wp_t {A B : Prop} (a : A) : (true = true → A) ∧ (true = false → B) := ⟨fun _ => a, fun z => nomatch z⟩
theorem wp_f {A B : Prop} (b : B) : (false = true → A) ∧ (false = false → B) := ⟨fun z => (nomatch z), fun _ => b⟩
theorem wp_nt {A B : Prop} (b : B) : ((!true) = true → A) ∧ ((!true) = false → B) := ⟨fun z => (nomatch z), fun _ => b⟩
theorem wp_nf {A B : Prop} (a : A) : ((!false) = true → A) ∧ ((!false) = false → B) := ⟨fun _ => a, fun z => nomatch z⟩
theorem ex_t {x : U} {A B : Prop} (e : isB x = some true) (a : A) : ∃ b, isB x = some b ∧ ((b = true → A) ∧ (b = false → B)) := ⟨true, e, wp_t a⟩
theorem ex_f {x : U} {A B : Prop} (e : isB x = some false) (a : B) : ∃ b, isB x = some b ∧ ((b = true → A) ∧ (b = false → B)) := ⟨false, e, wp_f a⟩
theorem isT_and {T : String} {d : D} {B : Prop} (a : isT T d = true) (b : B) : isT T d = true ∧ B := ⟨a, b⟩
theorem ex_bm {p : D → List D → Option D} {h : Hea} {x : U} {us : List U} {Q : U → Hea → Prop} {d : D} {ds : List D} {c : D} (e1 : view h x = some d) (e2 : viewS h us = some ds) (e3 : p d ds = some c) (z : Q (.d c) h) : ∃ d ds c, view h x = some d ∧ viewS h us = some ds ∧ p d ds = some c ∧ Q (.d c) h := ⟨d, ds, c, e1, e2, e3, z⟩
theorem ex_and {α : Type} {P R : α → Prop} {w : α} (a : P w) (b : R w) : ∃ x, P x ∧ R x := ⟨w, a, b⟩
theorem ex_and2 {α β : Type} {P R : α → β → Prop} {v : α} {w : β} (a : P v w) (b : R v w) : ∃ x y, P x y ∧ R x y := ⟨v, w, a, b⟩
theorem ex_and3 {α β : Type} {P R T : α → β → Prop} {v : α} {w : β} (a : P v w) (c : T v w) (b : R v w) : ∃ x y, P x y ∧ T x y ∧ R x y := ⟨v, w, a, c, b⟩
theorem ex_and4 {α β : Type} {P R T V : α → β → Prop} {v : α} {w : β} (a : P v w) (c : T v w) (d : V v w) (b : R v w) : ∃ x y, P x y ∧ T x y ∧ V x y ∧ R x y := ⟨v, w, a, c, d, b⟩
/-- held back from the words -/
def Hd (p : Prop) : Prop := p
theorem hd {p : Prop} (h : p) : Hd p := h
theorem OkS.imp {s : S} {δ : Sl} {h : Hea} {Q Q' : Out → Prop} (o : OkS s δ h Q) (i : ∀ x, Q x → Q' x) : OkS s δ h Q' := by
  obtain ⟨x, e, q⟩ := o
  exact ⟨x, e, i x q⟩
/-- a statement, by what stands behind it -/
theorem oks_cut {s t : S} {δ : Sl} {h : Hea} {Q : Out → Prop} (P : Sl → Hea → Prop) (o : OkS s δ h fun x => ∃ δ' h', x = .nx δ' h' ∧ P δ' h') (k : ∀ δ' h', P δ' h' → OkS t δ' h' Q) : OkS (sseq s t) δ h Q := oks_seq (o.imp fun x ⟨δ', h', e, p⟩ => by
  subst e
  exact k δ' h' p)
theorem op_add {h : Hea} {i j : Int} {Q : U → Hea → Prop} (z : Q (.d (.int (i + j))) h) : Op pAdd h (.d (.int i)) (.d (.int j)) Q := ⟨_, _, _, rfl, rfl, rfl, z⟩
theorem op_mul {h : Hea} {i j : Int} {Q : U → Hea → Prop} (hb : i.natAbs.log2 + j.natAbs.log2 < 100000000) (z : Q (.d (.int (i * j))) h) : Op pMul h (.d (.int i)) (.d (.int j)) Q := ⟨_, _, _, rfl, rfl, if_pos (decide_eq_true hb), z⟩
theorem op_fdiv {h : Hea} {i j : Int} {Q : U → Hea → Prop} (hb : 0 < j ∧ j.natAbs.log2 < 9000) (z : Q (.d (.int (i / j))) h) : Op pFdiv h (.d (.int i)) (.d (.int j)) Q := ⟨_, _, _, rfl, rfl, if_pos (decide_eq_true hb), z⟩
theorem op_mod {h : Hea} {i j : Int} {Q : U → Hea → Prop} (hb : j ≠ 0) (z : Q (.d (.int (i.fmod j))) h) : Op pMod h (.d (.int i)) (.d (.int j)) Q := ⟨_, _, _, rfl, rfl, if_pos (decide_eq_true hb), z⟩
theorem log2_le {i : Int} {n : Nat} (h : i.natAbs < 2 ^ (n + 1)) : i.natAbs.log2 ≤ n := by
  by_cases h0 : i.natAbs = 0
  · rw [h0]
    exact Nat.zero_le _
  · have := (Nat.log2_lt h0).mpr h
    omega
theorem lt_of_log2 {i : Int} {n : Nat} (h : i.natAbs.log2 ≤ n) : i.natAbs < 2 ^ (n + 1) := by
  by_cases h0 : i.natAbs = 0
  · rw [h0]
    exact Nat.two_pow_pos _
  · exact (Nat.log2_lt h0).mp (by omega)
theorem log2_add {a b : Int} {k : Nat} (ha : a.natAbs.log2 ≤ k) (hb : b.natAbs.log2 ≤ k) : (a + b).natAbs.log2 ≤ k + 1 := by
  refine log2_le ?_
  have h1 := lt_of_log2 ha
  have h2 := lt_of_log2 hb
  have h3 := Int.natAbs_add_le a b
  have h4 : 2 ^ (k + 1 + 1) = 2 ^ (k + 1) + 2 ^ (k + 1) := by rw [Nat.pow_succ]; omega
  omega
theorem log2_small {i : Int} {k n : Nat} (h : i.natAbs < n) (hn : n ≤ 2 ^ (k + 1)) : i.natAbs.log2 ≤ k := log2_le (by omega)
theorem fmod_pos {i j : Int} (h : 0 < j) : 0 ≤ i.fmod j ∧ i.fmod j < j := ⟨Int.fmod_nonneg_of_pos i h, Int.fmod_lt_of_pos i h⟩
theorem fmod_log2 {i j : Int} (k : Nat) (h : 0 < j) (hj : j.natAbs ≤ 2 ^ (k + 1)) : (i.fmod j).natAbs.log2 ≤ k := by
  have := fmod_pos (i := i) h
  exact log2_small (n := j.natAbs) (by omega) hj
theorem mulb {i j : Int} {a b : Nat} (hi : i.natAbs.log2 ≤ a) (hj : j.natAbs.log2 ≤ b) (h : a + b < 100000000) : i.natAbs.log2 + j.natAbs.log2 < 100000000 := by omega
theorem log2_lit {i : Int} (k : Nat) (h : i.natAbs < 2 ^ (k + 1)) : i.natAbs.log2 ≤ k := log2_le h
theorem cutL_take {α : Type} (xs : List α) (k : Nat) : PM.cutL xs none (some (k : Int)) = xs.take k := by
  unfold PM.cutL
  rw [HT.sIx_nat, HT.sIx_none, List.drop_zero, Nat.sub_zero]
  by_cases h : k ≤ xs.length
  · rw [Nat.min_eq_left h]
  · rw [Nat.min_eq_right (by omega), List.take_length, List.take_of_length_le (by omega)]
theorem cutL_drop {α : Type} (xs : List α) (k : Nat) : PM.cutL xs (some (k : Int)) none = xs.drop k := by
  unfold PM.cutL
  rw [HT.sIx_nat, HT.sIx_none]
  by_cases h : k ≤ xs.length
  · rw [Nat.min_eq_left h, List.take_of_length_le (by rw [List.length_drop]; omega)]
  · rw [Nat.min_eq_right (by omega), List.drop_length, List.drop_of_length_le (by omega), List.take_nil]
theorem Al2.length {α β : Type} {P : α → β → Prop} : ∀ {as : List α} {bs : List β}, Al2 P as bs → as.length = bs.length
  | _, _, .nil => rfl
  | _, _, .cons _ b => congrArg (· + 1) b.length
theorem okm_eq {α : Type} {f : M α} {δ : Sl} {h h2 : Hea} {x : α} (o : OkM f δ h fun a h' => a = x ∧ h' = h2) : f δ h = some (.ok x h2) := by
  obtain ⟨a, h', e, rfl, rfl⟩ := o
  exact e
theorem callP_exc {np : Nat} {m : FM} {g : M (List U)} {δ : Sl} {h h' : Hea} {us : List U} {ds : List D} {x : Exn} {hh : Hea} (e : g δ h = some (.ok us h')) (hl : us.length = np) (ha : allD us = some ds) (hm : m us [] = some (.exc x hh)) : callP np m g δ h = some (.exc x h') := by
  unfold callP mbnd
  simp only [e]
  rw [if_pos hl]
  simp only [ha, hm]
  rfl
theorem ifE_t {c : M Bool} {f g : M U} {δ : Sl} {h h' : Hea} (e : c δ h = some (.ok true h')) : ifE c f g δ h = f δ h' := by
  unfold ifE mbnd
  simp only [e, if_true]
theorem ifE_f {c : M Bool} {f g : M U} {δ : Sl} {h h' : Hea} (e : c δ h = some (.ok false h')) : ifE c f g δ h = g δ h' := by
  unfold ifE mbnd
  simp only [e]
  rfl
theorem sasg_exc {f : M U} {g : G} {δ : Sl} {h h' : Hea} {x : Exn} (e : f δ h = some (.exc x h')) : sasg f g δ h = some (.ex x δ h') := by
  unfold sasg sbnd
  simp only [e]
theorem stry_ex {i : Nat} {ms : List (Str × Bool)} {body : S} {su : Exn → S} {δ δ' : Sl} {h h' : Hea} {x : Exn} {o : Option Out} (e : body δ h = some (.ex x δ' h')) (hm : ms.lookup x.c = some true) (hi : i < δ'.length) (ho : outI i (su x (δ'.set i none) h') = o) : stry i ms body su δ h = o := by
  unfold stry
  simp only [e, hm]
  rw [if_pos hi]
  exact ho
theorem sseq_rt {s t : S} {δ : Sl} {h h' : Hea} {u : U} (e : s δ h = some (.rt u h')) : sseq s t δ h = some (.rt u h') := by
  unfold sseq
  rw [e]
theorem fnM_keep {nn : Nat} {b : S} {us : List U} {h : Hea} {P : D → Hea → Prop} (o : OkS b (us.map some ++ List.replicate (nn - us.length) none) h fun o => ∃ x h', o = .rt (.d x) h' ∧ h'.length = h.length ∧ P x h') : ∃ x h', fnM nn b us h = some (.ok (.d x) h') ∧ h'.length = h.length ∧ P x h' := by
  obtain ⟨o, e, x, h', rfl, hl, p⟩ := o
  have ht : h'.take h.length = h' := by
    rw [← hl]
    exact List.take_length
  refine ⟨x, h', ?_, hl, p⟩
  unfold fnM
  simp only [e]
  unfold fin
  dsimp only
  rw [ht]
  split <;> rfl
theorem fnM_exc {nn : Nat} {b : S} {us : List U} {h : Hea} {x : Exn} (o : OkS b (us.map some ++ List.replicate (nn - us.length) none) h fun o => ∃ δ h', o = .ex x δ h') : ∃ h', fnM nn b us h = some (.exc x h') := by
  obtain ⟨o, e, δ, h', rfl⟩ := o
  unfold fnM
  simp only [e]
  unfold finX
  split
  · exact ⟨_, rfl⟩
  · exact ⟨_, rfl⟩
theorem fnM_top {nn : Nat} {b : S} {us : List U} {P : D → Prop} (o : OkS b (us.map some ++ List.replicate (nn - us.length) none) [] fun o => ∃ x h', o = .rt (.d x) h' ∧ P x) : ∃ x, fnM nn b us [] = some (.ok (.d x) []) ∧ P x := by
  obtain ⟨o, e, x, h', rfl, p⟩ := o
  refine ⟨x, ?_, p⟩
  unfold fnM
  simp only [e]
  rfl
theorem fnM_pure {nn : Nat} {b : S} {us : List U} {h : Hea} {P : D → Prop} (o : OkS b (us.map some ++ List.replicate (nn - us.length) none) h fun o => ∃ x h', o = .rt (.d x) h' ∧ P x) : ∃ x h', fnM nn b us h = some (.ok (.d x) h') ∧ P x := by
  obtain ⟨o, e, x, h', rfl, p⟩ := o
  unfold fnM
  simp only [e]
  unfold fin
  dsimp only
  split
  · exact ⟨x, _, rfl, p⟩
  · exact ⟨x, _, rfl, p⟩
def topS (i : Nat) : Stmt := PySem.Challenge.pw_sameagain_k63_whole_evidence_as_objects.main.body.getD i (.Pass ⟨0, 0, 0, 0⟩)
def methS (i j : Nat) : Stmt := match topS i with
  | .ClassDef (body := b) .. => b.getD j (.Pass ⟨0, 0, 0, 0⟩)
  | _ => .Pass ⟨0, 0, 0, 0⟩
structure Facts (K : PySem.W.Frag) (mg : Str → Option Value) : Prop where
  f_Settled___init__ : ∃ (C f : Addr) (fd : FuncData), mg "Settled" = some (.ref C) ∧ (Mk K C f) ∧ Fun K "__init__" "Settled.__init__" (methS 2 0) f fd ∧ Binds K fd ["self", "ways"] []
  f_Settled___eq__ : ∃ (C f : Addr) (fd : FuncData), mg "Settled" = some (.ref C) ∧ (PySem.W.findIn K (.ref C) "__eq__" = some (some (.ref f)) ∧ PySem.W.isFn K (.ref f) = true ∧ PySem.W.findIn K (.ref C) "__ne__" = some (some (.builtin "object.__ne__")) ∧ PySem.W.subIn K (.ref C) (.type "object") = some true) ∧ Fun K "__eq__" "Settled.__eq__" (methS 2 1) f fd ∧ Binds K fd ["self", "other"] []
  f_Settled___bool__ : ∃ (C f : Addr) (fd : FuncData), mg "Settled" = some (.ref C) ∧ (PySem.W.findIn K (.ref C) "__bool__" = some (some (.ref f)) ∧ PySem.W.isFn K (.ref f) = true) ∧ Fun K "__bool__" "Settled.__bool__" (methS 2 2) f fd ∧ Binds K fd ["self"] []
  f_Turned___init__ : ∃ (C f : Addr) (fd : FuncData), mg "Turned" = some (.ref C) ∧ (Mk K C f) ∧ Fun K "__init__" "Turned.__init__" (methS 3 0) f fd ∧ Binds K fd ["self", "order", "pair"] []
  f_Turned___eq__ : ∃ (C f : Addr) (fd : FuncData), mg "Turned" = some (.ref C) ∧ (PySem.W.findIn K (.ref C) "__eq__" = some (some (.ref f)) ∧ PySem.W.isFn K (.ref f) = true ∧ PySem.W.findIn K (.ref C) "__ne__" = some (some (.builtin "object.__ne__")) ∧ PySem.W.subIn K (.ref C) (.type "object") = some true) ∧ Fun K "__eq__" "Turned.__eq__" (methS 3 1) f fd ∧ Binds K fd ["self", "other"] []
  f_Turned___bool__ : ∃ (C f : Addr) (fd : FuncData), mg "Turned" = some (.ref C) ∧ (PySem.W.findIn K (.ref C) "__bool__" = some (some (.ref f)) ∧ PySem.W.isFn K (.ref f) = true) ∧ Fun K "__bool__" "Turned.__bool__" (methS 3 2) f fd ∧ Binds K fd ["self"] []
  f_LeastEdges___init__ : ∃ (C f : Addr) (fd : FuncData), mg "LeastEdges" = some (.ref C) ∧ (Mk K C f) ∧ Fun K "__init__" "LeastEdges.__init__" (methS 4 0) f fd ∧ Binds K fd ["self", "edges", "turned"] []
  f_LeastEdges___eq__ : ∃ (C f : Addr) (fd : FuncData), mg "LeastEdges" = some (.ref C) ∧ (PySem.W.findIn K (.ref C) "__eq__" = some (some (.ref f)) ∧ PySem.W.isFn K (.ref f) = true ∧ PySem.W.findIn K (.ref C) "__ne__" = some (some (.builtin "object.__ne__")) ∧ PySem.W.subIn K (.ref C) (.type "object") = some true) ∧ Fun K "__eq__" "LeastEdges.__eq__" (methS 4 1) f fd ∧ Binds K fd ["self", "other"] []
  f_Fails___init__ : ∃ (C f : Addr) (fd : FuncData), mg "Fails" = some (.ref C) ∧ (Mk K C f) ∧ Fun K "__init__" "Fails.__init__" (methS 6 0) f fd ∧ Binds K fd ["self", "run", "layers"] []
  f_Fails___eq__ : ∃ (C f : Addr) (fd : FuncData), mg "Fails" = some (.ref C) ∧ (PySem.W.findIn K (.ref C) "__eq__" = some (some (.ref f)) ∧ PySem.W.isFn K (.ref f) = true ∧ PySem.W.findIn K (.ref C) "__ne__" = some (some (.builtin "object.__ne__")) ∧ PySem.W.subIn K (.ref C) (.type "object") = some true) ∧ Fun K "__eq__" "Fails.__eq__" (methS 6 1) f fd ∧ Binds K fd ["self", "other"] []
  f_Fails___bool__ : ∃ (C f : Addr) (fd : FuncData), mg "Fails" = some (.ref C) ∧ (PySem.W.findIn K (.ref C) "__bool__" = some (some (.ref f)) ∧ PySem.W.isFn K (.ref f) = true) ∧ Fun K "__bool__" "Fails.__bool__" (methS 6 2) f fd ∧ Binds K fd ["self"] []
  f_NeverFails___init__ : ∃ (C f : Addr) (fd : FuncData), mg "NeverFails" = some (.ref C) ∧ (Mk K C f) ∧ Fun K "__init__" "NeverFails.__init__" (methS 7 0) f fd ∧ Binds K fd ["self", "told"] []
  f_NeverFails___eq__ : ∃ (C f : Addr) (fd : FuncData), mg "NeverFails" = some (.ref C) ∧ (PySem.W.findIn K (.ref C) "__eq__" = some (some (.ref f)) ∧ PySem.W.isFn K (.ref f) = true ∧ PySem.W.findIn K (.ref C) "__ne__" = some (some (.builtin "object.__ne__")) ∧ PySem.W.subIn K (.ref C) (.type "object") = some true) ∧ Fun K "__eq__" "NeverFails.__eq__" (methS 7 1) f fd ∧ Binds K fd ["self", "other"] []
  f_NeverFails___bool__ : ∃ (C f : Addr) (fd : FuncData), mg "NeverFails" = some (.ref C) ∧ (PySem.W.findIn K (.ref C) "__bool__" = some (some (.ref f)) ∧ PySem.W.isFn K (.ref f) = true) ∧ Fun K "__bool__" "NeverFails.__bool__" (methS 7 2) f fd ∧ Binds K fd ["self"] []
  f__law_number : ∃ (f : Addr) (fd : FuncData), Fun K "_law_number" "_law_number" (topS 9) f fd ∧ mg "_law_number" = some (.ref f) ∧ Binds K fd ["script", "index"] []
  f__law_take : ∃ (f : Addr) (fd : FuncData), Fun K "_law_take" "_law_take" (topS 10) f fd ∧ mg "_law_take" = some (.ref f) ∧ Binds K fd ["draw", "many"] []
  f__law_made : ∃ (f : Addr) (fd : FuncData), Fun K "_law_made" "_law_made" (topS 11) f fd ∧ mg "_law_made" = some (.ref f) ∧ Binds K fd ["draw", "kind"] []
  f__law_told : ∃ (f : Addr) (fd : FuncData), Fun K "_law_told" "_law_told" (topS 12) f fd ∧ mg "_law_told" = some (.ref f) ∧ Binds K fd ["one"] []
  f__law_due : ∃ (f : Addr) (fd : FuncData), Fun K "_law_due" "_law_due" (topS 13) f fd ∧ mg "_law_due" = some (.ref f) ∧ Binds K fd ["kind", "parts"] []
  f_law : ∃ (f : Addr) (fd : FuncData), Fun K "law" "law" (topS 14) f fd ∧ mg "law" = some (.ref f) ∧ Binds K fd ["script"] []
  n_bool : mg "bool" = none
  n_dict : mg "dict" = none
  n_int : mg "int" = none
  n_isinstance : mg "isinstance" = none
  n_len : mg "len" = none
  n_list : mg "list" = none
  n_range : mg "range" = none
  n_tuple : mg "tuple" = none
  cl_Settled : ∃ C : Addr, mg "Settled" = some (.ref C) ∧ InsF K C
  cl_Turned : ∃ C : Addr, mg "Turned" = some (.ref C) ∧ InsF K C
  cl_LeastEdges : ∃ C : Addr, mg "LeastEdges" = some (.ref C) ∧ InsF K C
  cl_Fails : ∃ C : Addr, mg "Fails" = some (.ref C) ∧ InsF K C
  cl_NeverFails : ∃ C : Addr, mg "NeverFails" = some (.ref C) ∧ InsF K C
  is_Fails : ∃ C : Addr, mg "Fails" = some (.ref C) ∧ IsiC K mg (.ref C) (anO [("tuple", false), ("NoneType", false)] [("Settled", false), ("Turned", false), ("LeastEdges", false), ("Fails", true), ("NeverFails", false)])
  is_LeastEdges : ∃ C : Addr, mg "LeastEdges" = some (.ref C) ∧ IsiC K mg (.ref C) (anO [("tuple", false), ("NoneType", false)] [("Settled", false), ("Turned", false), ("LeastEdges", true), ("Fails", false), ("NeverFails", false)])
  is_NeverFails : ∃ C : Addr, mg "NeverFails" = some (.ref C) ∧ IsiC K mg (.ref C) (anO [("tuple", false), ("NoneType", false)] [("Settled", false), ("Turned", false), ("LeastEdges", false), ("Fails", false), ("NeverFails", true)])
  is_Settled : ∃ C : Addr, mg "Settled" = some (.ref C) ∧ IsiC K mg (.ref C) (anO [("tuple", false), ("NoneType", false)] [("Settled", true), ("Turned", false), ("LeastEdges", false), ("Fails", false), ("NeverFails", false)])
  is_Turned : ∃ C : Addr, mg "Turned" = some (.ref C) ∧ IsiC K mg (.ref C) (anO [("tuple", false), ("NoneType", false)] [("Settled", false), ("Turned", true), ("LeastEdges", false), ("Fails", false), ("NeverFails", false)])
  fl_edges : FldAt K mg ["LeastEdges"] "edges"
  fl_layers : FldAt K mg ["Fails"] "layers"
  fl_order : FldAt K mg ["Turned"] "order"
  fl_pair : FldAt K mg ["Turned"] "pair"
  fl_run : FldAt K mg ["Fails"] "run"
  fl_standings : FldAt K mg ["NeverFails"] "standings"
  fl_turned : FldAt K mg ["LeastEdges"] "turned"
  fl_ways : FldAt K mg ["Settled"] "ways"
  nf_Settled : ∀ C, mg "Settled" = some (.ref C) → PySem.W.notFirst K C (.type "tuple") = true ∧ PySem.W.notFirst K C (.type "NoneType") = true ∧ ∀ c' ∈ (["Settled", "Turned", "LeastEdges", "Fails", "NeverFails"] : List Str), ∀ C', mg c' = some (.ref C') → PySem.W.notFirst K C (.ref C') = true
  nf_Turned : ∀ C, mg "Turned" = some (.ref C) → PySem.W.notFirst K C (.type "tuple") = true ∧ PySem.W.notFirst K C (.type "NoneType") = true ∧ ∀ c' ∈ (["Settled", "Turned", "LeastEdges", "Fails", "NeverFails"] : List Str), ∀ C', mg c' = some (.ref C') → PySem.W.notFirst K C (.ref C') = true
  nf_LeastEdges : ∀ C, mg "LeastEdges" = some (.ref C) → PySem.W.notFirst K C (.type "tuple") = true ∧ PySem.W.notFirst K C (.type "NoneType") = true ∧ ∀ c' ∈ (["Settled", "Turned", "LeastEdges", "Fails", "NeverFails"] : List Str), ∀ C', mg c' = some (.ref C') → PySem.W.notFirst K C (.ref C') = true
  nf_Fails : ∀ C, mg "Fails" = some (.ref C) → PySem.W.notFirst K C (.type "tuple") = true ∧ PySem.W.notFirst K C (.type "NoneType") = true ∧ ∀ c' ∈ (["Settled", "Turned", "LeastEdges", "Fails", "NeverFails"] : List Str), ∀ C', mg c' = some (.ref C') → PySem.W.notFirst K C (.ref C') = true
  nf_NeverFails : ∀ C, mg "NeverFails" = some (.ref C) → PySem.W.notFirst K C (.type "tuple") = true ∧ PySem.W.notFirst K C (.type "NoneType") = true ∧ ∀ c' ∈ (["Settled", "Turned", "LeastEdges", "Fails", "NeverFails"] : List Str), ∀ C', mg c' = some (.ref C') → PySem.W.notFirst K C (.ref C') = true
theorem sc_Settled___init__ : FnScope ["self", "ways", "pair", "way"] ["self", "ways"] (defScope (methS 2 0)) := ⟨rfl, rfl, rfl, by decide +kernel, rfl, by decide +kernel, by decide +kernel⟩
theorem sc_Settled___eq__ : FnScope ["self", "other"] ["self", "other"] (defScope (methS 2 1)) := ⟨rfl, rfl, rfl, by decide +kernel, rfl, by decide +kernel, by decide +kernel⟩
theorem sc_Settled___bool__ : FnScope ["self"] ["self"] (defScope (methS 2 2)) := ⟨rfl, rfl, rfl, by decide +kernel, rfl, by decide +kernel, by decide +kernel⟩
theorem sc_Turned___init__ : FnScope ["self", "order", "pair"] ["self", "order", "pair"] (defScope (methS 3 0)) := ⟨rfl, rfl, rfl, by decide +kernel, rfl, by decide +kernel, by decide +kernel⟩
theorem sc_Turned___eq__ : FnScope ["self", "other"] ["self", "other"] (defScope (methS 3 1)) := ⟨rfl, rfl, rfl, by decide +kernel, rfl, by decide +kernel, by decide +kernel⟩
theorem sc_Turned___bool__ : FnScope ["self"] ["self"] (defScope (methS 3 2)) := ⟨rfl, rfl, rfl, by decide +kernel, rfl, by decide +kernel, by decide +kernel⟩
theorem sc_LeastEdges___init__ : FnScope ["self", "edges", "turned", "pair", "order"] ["self", "edges", "turned"] (defScope (methS 4 0)) := ⟨rfl, rfl, rfl, by decide +kernel, rfl, by decide +kernel, by decide +kernel⟩
theorem sc_LeastEdges___eq__ : FnScope ["self", "other"] ["self", "other"] (defScope (methS 4 1)) := ⟨rfl, rfl, rfl, by decide +kernel, rfl, by decide +kernel, by decide +kernel⟩
theorem sc_Fails___init__ : FnScope ["self", "run", "layers", "layer"] ["self", "run", "layers"] (defScope (methS 6 0)) := ⟨rfl, rfl, rfl, by decide +kernel, rfl, by decide +kernel, by decide +kernel⟩
theorem sc_Fails___eq__ : FnScope ["self", "other"] ["self", "other"] (defScope (methS 6 1)) := ⟨rfl, rfl, rfl, by decide +kernel, rfl, by decide +kernel, by decide +kernel⟩
theorem sc_Fails___bool__ : FnScope ["self"] ["self"] (defScope (methS 6 2)) := ⟨rfl, rfl, rfl, by decide +kernel, rfl, by decide +kernel, by decide +kernel⟩
theorem sc_NeverFails___init__ : FnScope ["self", "told"] ["self", "told"] (defScope (methS 7 0)) := ⟨rfl, rfl, rfl, by decide +kernel, rfl, by decide +kernel, by decide +kernel⟩
theorem sc_NeverFails___eq__ : FnScope ["self", "other"] ["self", "other"] (defScope (methS 7 1)) := ⟨rfl, rfl, rfl, by decide +kernel, rfl, by decide +kernel, by decide +kernel⟩
theorem sc_NeverFails___bool__ : FnScope ["self"] ["self"] (defScope (methS 7 2)) := ⟨rfl, rfl, rfl, by decide +kernel, rfl, by decide +kernel, by decide +kernel⟩
theorem sc__law_number : FnScope ["script", "index", "rest", "step", "blend", "cell", "turn"] ["script", "index"] (defScope (topS 9)) := ⟨rfl, rfl, rfl, by decide +kernel, rfl, by decide +kernel, by decide +kernel⟩
theorem sc__law_take : FnScope ["draw", "many"] ["draw", "many"] (defScope (topS 10)) := ⟨rfl, rfl, rfl, by decide +kernel, rfl, by decide +kernel, by decide +kernel⟩
theorem sc__law_made : FnScope ["draw", "kind", "parts", "order", "pair", "one"] ["draw", "kind"] (defScope (topS 11)) := ⟨rfl, rfl, rfl, by decide +kernel, rfl, by decide +kernel, by decide +kernel⟩
theorem sc__law_told : FnScope ["one"] ["one"] (defScope (topS 12)) := ⟨rfl, rfl, rfl, by decide +kernel, rfl, by decide +kernel, by decide +kernel⟩
theorem sc__law_due : FnScope ["kind", "parts", "layer", "pair", "way"] ["kind", "parts"] (defScope (topS 13)) := ⟨rfl, rfl, rfl, by decide +kernel, rfl, by decide +kernel, by decide +kernel⟩
theorem sc_law : FnScope ["script", "draw", "rows", "turn", "kind", "due", "part", "one", "parts", "other", "late", "two"] ["script"] (defScope (topS 14)) := ⟨rfl, rfl, rfl, by decide +kernel, rfl, by decide +kernel, by decide +kernel⟩
section
def isiCs : List Str := ["Settled", "Turned", "LeastEdges", "Fails", "NeverFails"]
def b_Settled___init__ : S := (sfld ["Settled"] "ways" (vr 0) (fz (lkE (selV 1) (dcMN (itE seqNi (vr 1)) [2, 3] (gtup 2 (gcons (gnm 2) (gcons (gnm 3) gnil))) (mret true) (vr 2) (fnE pTuple (mcons (vr 3) mnil))))))
def f_Settled___init__ : FM := fnM 4 b_Settled___init__
def b_Settled___eq__ : S := (sret (andV (isiE isiCs (anO [("tuple", false), ("NoneType", false)] [("Settled", true), ("Turned", false), ("LeastEdges", false), ("Fails", false), ("NeverFails", false)]) (vr 1)) (op2 (pOr pEq pEqT) (fldE ["Settled"] "ways" (vr 0)) (fldE ["Settled"] "ways" (vr 1)))))
def f_Settled___eq__ : FM := fnM 2 b_Settled___eq__
def b_Settled___bool__ : S := (sret (cn (.bl true)))
def f_Settled___bool__ : FM := fnM 1 b_Settled___bool__
def b_Turned___init__ : S := (sseq (sfld ["Turned"] "order" (vr 0) (fnE pTuple (mcons (vr 1) mnil)))
 (sfld ["Turned"] "pair" (vr 0) (vr 2)))
def f_Turned___init__ : FM := fnM 3 b_Turned___init__
def b_Turned___eq__ : S := (sret (andV (isiE isiCs (anO [("tuple", false), ("NoneType", false)] [("Settled", false), ("Turned", true), ("LeastEdges", false), ("Fails", false), ("NeverFails", false)]) (vr 1)) (op2 (pOr pEq pEqT) (mbnd (mcons (fldE ["Turned"] "order" (vr 0)) (mcons (fldE ["Turned"] "pair" (vr 0)) mnil)) tupE) (mbnd (mcons (fldE ["Turned"] "order" (vr 1)) (mcons (fldE ["Turned"] "pair" (vr 1)) mnil)) tupE))))
def f_Turned___eq__ : FM := fnM 2 b_Turned___eq__
def b_Turned___bool__ : S := (sret (cn (.bl false)))
def f_Turned___bool__ : FM := fnM 1 b_Turned___bool__
def b_LeastEdges___init__ : S := (sseq (sfld ["LeastEdges"] "edges" (vr 0) (fnE pTuple (mcons (vr 1) mnil)))
 (sfld ["LeastEdges"] "turned" (vr 0) (fz (lkE (selV 2) (dcMN (itE seqNi (vr 2)) [3, 4] (gtup 2 (gcons (gnm 3) (gcons (gnm 4) gnil))) (mret true) (vr 3) (fnE pTuple (mcons (vr 4) mnil)))))))
def f_LeastEdges___init__ : FM := fnM 5 b_LeastEdges___init__
def b_LeastEdges___eq__ : S := (sret (andV (isiE isiCs (anO [("tuple", false), ("NoneType", false)] [("Settled", false), ("Turned", false), ("LeastEdges", true), ("Fails", false), ("NeverFails", false)]) (vr 1)) (op2 (pOr pEq pEqT) (mbnd (mcons (fldE ["LeastEdges"] "edges" (vr 0)) (mcons (fldE ["LeastEdges"] "turned" (vr 0)) mnil)) tupE) (mbnd (mcons (fldE ["LeastEdges"] "edges" (vr 1)) (mcons (fldE ["LeastEdges"] "turned" (vr 1)) mnil)) tupE))))
def f_LeastEdges___eq__ : FM := fnM 2 b_LeastEdges___eq__
def b_Fails___init__ : S := (sseq (sfld ["Fails"] "run" (vr 0) (fnE pTuple (mcons (vr 1) mnil)))
 (sfld ["Fails"] "layers" (vr 0) (fnE pTuple (mcons (fz (lkE (selV 2) (lcM (itE (orS seqL seqT) (vr 2)) [3] (gnm 3) (mret true) (fnE pTuple (mcons (vr 3) mnil)) lstL))) mnil))))
def f_Fails___init__ : FM := fnM 4 b_Fails___init__
def b_Fails___eq__ : S := (sret (andV (isiE isiCs (anO [("tuple", false), ("NoneType", false)] [("Settled", false), ("Turned", false), ("LeastEdges", false), ("Fails", true), ("NeverFails", false)]) (vr 1)) (op2 (pOr pEq pEqT) (mbnd (mcons (fldE ["Fails"] "run" (vr 0)) (mcons (fldE ["Fails"] "layers" (vr 0)) mnil)) tupE) (mbnd (mcons (fldE ["Fails"] "run" (vr 1)) (mcons (fldE ["Fails"] "layers" (vr 1)) mnil)) tupE))))
def f_Fails___eq__ : FM := fnM 2 b_Fails___eq__
def b_Fails___bool__ : S := (sret (cn (.bl true)))
def f_Fails___bool__ : FM := fnM 1 b_Fails___bool__
def b_NeverFails___init__ : S := (sfld ["NeverFails"] "standings" (vr 0) (fnE pTuple (mcons (vr 1) mnil)))
def f_NeverFails___init__ : FM := fnM 2 b_NeverFails___init__
def b_NeverFails___eq__ : S := (sret (andV (isiE isiCs (anO [("tuple", false), ("NoneType", false)] [("Settled", false), ("Turned", false), ("LeastEdges", false), ("Fails", false), ("NeverFails", true)]) (vr 1)) (op2 (pOr pEq pEqT) (fldE ["NeverFails"] "standings" (vr 0)) (fldE ["NeverFails"] "standings" (vr 1)))))
def f_NeverFails___eq__ : FM := fnM 2 b_NeverFails___eq__
def b_NeverFails___bool__ : S := (sret (cn (.bl false)))
def f_NeverFails___bool__ : FM := fnM 1 b_NeverFails___bool__
def ownTb : List (Str × FM) := [("Settled", f_Settled___eq__), ("Turned", f_Turned___eq__), ("LeastEdges", f_LeastEdges___eq__), ("Fails", f_Fails___eq__), ("NeverFails", f_NeverFails___eq__)]
def boolTb : List (Str × FM) := [("Settled", f_Settled___bool__), ("Turned", f_Turned___bool__), ("Fails", f_Fails___bool__), ("NeverFails", f_NeverFails___bool__)]
def b__law_number : S := (sseq (sasg (ifE (tst (op2 pNe (vr 0) (mbnd mnil lstE))) (mbnd (mcons (ixE (vr 0) (op2 pMod (vr 1) (lenE (mcons (vr 0) mnil)))) (mcons (op2 pFdiv (vr 1) (lenE (mcons (vr 0) mnil))) mnil)) tupE) (mbnd (mcons (cn (.int 12345)) (mcons (cn (.int 0)) mnil)) tupE)) (gtup 2 (gcons (gnm 5) (gcons (gnm 6) gnil))))
 (sseq (sasg (ifE (tst (op2 pLt (vr 6) (cn (.int 60)))) (op2 pSub (vr 5) (op2 pPow (cn (.int 10)) (cn (.int 18)))) (cn (.int 0))) (gnm 2))
 (sseq (sfor (itN rngL1 (mcons (op2 pMod (fnE pInt (mcons (vr 6) mnil)) (cn (.int 60))) mnil)) (gnm 3) (sasg (op2 pFdiv (vr 2) (cn (.int 1009))) (gnm 2)))
 (sseq (sif (tst (op2 pGt (vr 2) (cn (.int 0)))) (sret (op2 pMod (fnE pInt (mcons (vr 2) mnil)) (cn (.int 1009)))) snx)
 (sseq (sasg (op2 pMod (op2 pAdd (op2 pMul (fnE pInt (mcons (op2 pAdd (vr 5) (op2 pMul (cn (.int 977)) (vr 1))) mnil)) (cn (.int 48271))) (op2 pMul (cn (.int 31)) (lenE (mcons (vr 0) mnil)))) (cn (.int 2147483647))) (gnm 4))
 (sseq (sasg (op2 pMod (op2 pAdd (op2 pMul (vr 4) (vr 4)) (op2 pMul (cn (.int 40503)) (vr 1))) (cn (.int 2147483629))) (gnm 4))
 (sret (fnE pInt (mcons (op2 pMod (op2 pAdd (op2 pMul (vr 4) (cn (.int 69621))) (op2 pFdiv (vr 4) (cn (.int 977)))) (cn (.int 2147483587))) mnil)))))))))
def f__law_number : FM := fnM 7 b__law_number
def b__law_take : S := (sseq (saugS pIadd (vr 0) (cn (.int 1)) (cn (.int 1)))
 (sret (op2 pMod (fnE pInt (mcons (callP 2 f__law_number (mcons (ixE (vr 0) (cn (.int 0))) (mcons (fnE pInt (mcons (ixE (vr 0) (cn (.int 1))) mnil)) mnil))) mnil)) (vr 1))))
def f__law_take : FM := fnM 2 b__law_take
def b__law_made : S := (sseq (spar 3 4 (mcons (lcM (itN rngL1 (mcons (callM 2 f__law_take (mcons (vr 0) (mcons (cn (.int 3)) mnil))) mnil)) [5] (gnm 5) (mret true) (callM 2 f__law_take (mcons (vr 0) (mcons (cn (.int 3)) mnil))) lstL) (mcons (mbnd (mcons (callM 2 f__law_take (mcons (vr 0) (mcons (cn (.int 2)) mnil))) (mcons (cn (.int 2)) mnil)) tupE) mnil)))
 (sseq (sif (tst (op2 (pOr pEq pEqT) (vr 1) (cn (.int 0)))) (sseq (sasg (mbnd (mcons (dispNE (npcons (vr 4) (fnE pTuple (mcons (vr 3) mnil)) npnil)) mnil) lstN) (gnm 2))
 (sret (mbnd (mcons (vr 2) (mcons (fz (makeM "Settled" 2 f_Settled___init__ (mcons (ixE (vr 2) (cn (.int 0))) mnil))) mnil)) tupE))) snx)
 (sseq (sif (tst (op2 (pOr pEq pEqT) (vr 1) (cn (.int 1)))) (sseq (sasg (mbnd (mcons (vr 3) (mcons (vr 4) mnil)) lstN) (gnm 2))
 (sret (mbnd (mcons (vr 2) (mcons (fz (makeM "Turned" 3 f_Turned___init__ (mcons (ixE (vr 2) (cn (.int 0))) (mcons (ixE (vr 2) (cn (.int 1))) mnil)))) mnil)) tupE))) snx)
 (sseq (sif (tst (op2 (pOr pEq pEqT) (vr 1) (cn (.int 2)))) (sseq (sasg (mbnd (mcons (op2 pMulT (mbnd (mcons (vr 4) mnil) tupE) (callM 2 f__law_take (mcons (vr 0) (mcons (cn (.int 3)) mnil)))) (mcons (dispNE (npcons (vr 4) (fnE pTuple (mcons (vr 3) mnil)) npnil)) mnil)) lstN) (gnm 2))
 (sret (mbnd (mcons (vr 2) (mcons (fz (makeM "LeastEdges" 3 f_LeastEdges___init__ (mcons (ixE (vr 2) (cn (.int 0))) (mcons (ixE (vr 2) (cn (.int 1))) mnil)))) mnil)) tupE))) snx)
 (sseq (sif (tst (op2 (pOr pEq pEqT) (vr 1) (cn (.int 3)))) (sseq (sasg (mbnd (mcons (lkE (selV 3) (lcM (itE seqL (vr 3)) [5] (gnm 5) (mret true) (mbnd (mcons (cn (.str "t")) (mcons (vr 5) mnil)) tupE) lstL)) (mcons (mbnd (mcons (fnE pTuple (mcons (fz (lkE (selV 3) (lcM (itE seqL (vr 3)) [5] (gnm 5) (mret true) (mbnd (mcons (mbnd (mcons (mbnd (mcons (cn (.int 0)) mnil) tupE) (mcons (vr 5) mnil)) tupE) (mcons (cn (.str "t")) mnil)) tupE) lstL))) mnil)) mnil) lstN) mnil)) lstN) (gnm 2))
 (sret (mbnd (mcons (vr 2) (mcons (fz (makeM "Fails" 3 f_Fails___init__ (mcons (ixE (vr 2) (cn (.int 0))) (mcons (ixE (vr 2) (cn (.int 1))) mnil)))) mnil)) tupE))) snx)
 (sseq (sasg (mbnd (mcons (lkE (selV 3) (lcM (itE seqL (vr 3)) [5] (gnm 5) (mret true) (mbnd (mcons (mbnd (mcons (vr 5) mnil) tupE) (mcons (mbnd mnil tupE) mnil)) tupE) lstL)) mnil) lstN) (gnm 2))
 (sret (mbnd (mcons (vr 2) (mcons (fz (makeM "NeverFails" 2 f_NeverFails___init__ (mcons (ixE (vr 2) (cn (.int 0))) mnil))) mnil)) tupE))))))))
def f__law_made : FM := fnM 6 b__law_made
def b__law_told : S := (sseq (sif (tst (isiE isiCs (anO [("tuple", false), ("NoneType", false)] [("Settled", true), ("Turned", false), ("LeastEdges", false), ("Fails", false), ("NeverFails", false)]) (vr 0))) (sret (mbnd (mcons (fldE ["Settled"] "ways" (vr 0)) mnil) tupE)) snx)
 (sseq (sif (tst (isiE isiCs (anO [("tuple", false), ("NoneType", false)] [("Settled", false), ("Turned", true), ("LeastEdges", false), ("Fails", false), ("NeverFails", false)]) (vr 0))) (sret (mbnd (mcons (fldE ["Turned"] "order" (vr 0)) (mcons (fldE ["Turned"] "pair" (vr 0)) mnil)) tupE)) snx)
 (sseq (sif (tst (isiE isiCs (anO [("tuple", false), ("NoneType", false)] [("Settled", false), ("Turned", false), ("LeastEdges", true), ("Fails", false), ("NeverFails", false)]) (vr 0))) (sret (mbnd (mcons (fldE ["LeastEdges"] "edges" (vr 0)) (mcons (fldE ["LeastEdges"] "turned" (vr 0)) mnil)) tupE)) snx)
 (sret (ifE (tst (isiE isiCs (anO [("tuple", false), ("NoneType", false)] [("Settled", false), ("Turned", false), ("LeastEdges", false), ("Fails", true), ("NeverFails", false)]) (vr 0))) (mbnd (mcons (fldE ["Fails"] "run" (vr 0)) (mcons (fldE ["Fails"] "layers" (vr 0)) mnil)) tupE) (mbnd (mcons (fldE ["NeverFails"] "standings" (vr 0)) mnil) tupE))))))
def f__law_told : FM := fnM 1 b__law_told
def b__law_due : S := (sseq (sif (tst (op2 (pOr pEq pEqT) (vr 0) (cn (.int 0)))) (sret (mbnd (mcons (fz (fnN pDictN (mcons (fz (lkE (selI 1 0) (lcM (itE seqNi (ixE (vr 1) (cn (.int 0)))) [3, 4] (gtup 2 (gcons (gnm 3) (gcons (gnm 4) gnil))) (mret true) (mbnd (mcons (vr 3) (mcons (fnE pTuple (mcons (vr 4) mnil)) mnil)) tupE) lstL))) mnil))) mnil) tupE)) snx)
 (sseq (sif (tst (op2 (pOr pEq pEqT) (vr 0) (cn (.int 1)))) (sret (mbnd (mcons (fnE pTuple (mcons (ixE (vr 1) (cn (.int 0))) mnil)) (mcons (ixE (vr 1) (cn (.int 1))) mnil)) tupE)) snx)
 (sseq (sif (tst (op2 (pOr pEq pEqT) (vr 0) (cn (.int 2)))) (sret (mbnd (mcons (fnE pTuple (mcons (ixE (vr 1) (cn (.int 0))) mnil)) (mcons (fz (fnN pDictN (mcons (fz (lkE (selI 1 1) (lcM (itE seqNi (ixE (vr 1) (cn (.int 1)))) [3, 4] (gtup 2 (gcons (gnm 3) (gcons (gnm 4) gnil))) (mret true) (mbnd (mcons (vr 3) (mcons (fnE pTuple (mcons (vr 4) mnil)) mnil)) tupE) lstL))) mnil))) mnil)) tupE)) snx)
 (sseq (sif (tst (op2 (pOr pEq pEqT) (vr 0) (cn (.int 3)))) (sret (mbnd (mcons (fnE pTuple (mcons (ixE (vr 1) (cn (.int 0))) mnil)) (mcons (fnE pTuple (mcons (fz (lkE (selI 1 1) (lcM (itE seqL (ixE (vr 1) (cn (.int 1)))) [2] (gnm 2) (mret true) (fnE pTuple (mcons (vr 2) mnil)) lstL))) mnil)) mnil)) tupE)) snx)
 (sret (mbnd (mcons (fnE pTuple (mcons (ixE (vr 1) (cn (.int 0))) mnil)) mnil) tupE))))))
def f__law_due : FM := fnM 5 b__law_due
def b_law_body : S := (sseq (sasg (callM 2 f__law_take (mcons (vr 1) (mcons (cn (.int 5)) mnil))) (gnm 4))
 (sseq (sasg (mskE 1 (callM 2 f__law_made (mcons (vr 1) (mcons (vr 4) mnil)))) (gtup 2 (gcons (gnm 8) (gcons (gnm 7) gnil))))
 (sseq (sasg (mskE 1 (callM 2 f__law_due (mcons (vr 4) (mcons (vr 8) mnil)))) (gnm 5))
 (sseq (sif (tst (op2 (pOr pNe pNeT) (callP 1 f__law_told (mcons (vr 7) mnil)) (vr 5))) (sret (cn (.bl false))) snx)
 (sseq (sforLL 3 (vr 8) (gnm 6) (sif (tst (isiE [] (anB "list" []) (vr 6))) (sexp (lmE pAppend (vr 6) (mcons (cn (.str "late")) mnil))) (sif (tst (isiE [] (anB "dict" []) (vr 6))) (sasg (mbnd (mcons (cn (.int 1)) mnil) tupE) (gset (vr 6) (mbnd (mcons (cn (.str "late")) (mcons (cn (.int 0)) mnil)) tupE))) snx)))
 (sseq (sif (orT (tst (op2 (pOr pNe pNeT) (callP 1 f__law_told (mcons (vr 7) mnil)) (vr 5))) (orT (tst (ownE ownTb false (vr 7) (vr 5))) (tst (ownE ownTb false (vr 7) (cn .non))))) (sret (cn (.bl false))) snx)
 (sexp (lmE pAppend (vr 2) (mcons (mbnd (mcons (vr 4) (mcons (vr 5) (mcons (vr 7) mnil))) tupE) mnil)))))))))
def b_law : S := (sseq (sasg (mbnd (mcons (vr 0) (mcons (cn (.int 0)) mnil)) lstN) (gnm 1))
 (sseq (sasg (mbnd mnil lstN) (gnm 2))
 (sseq (sfor (itN rngL1 (mcons (cn (.int 8)) mnil)) (gnm 3) (scut b_law_body))
 (sseq (sfz 2 (sfor (itE seqL (vr 2)) (gtup 3 (gcons (gnm 4) (gcons (gnm 5) (gcons (gnm 7) gnil)))) (sfor (itE seqL (vr 2)) (gtup 3 (gcons (gnm 9) (gcons (gnm 10) (gcons (gnm 11) gnil)))) (sif (orT (tst (op2 (pOr pNe pNeT) (ownE ownTb false (vr 7) (vr 11)) (andV (op2 (pOr pEq pEqT) (vr 4) (vr 9)) (op2 (pOr pEq pEqT) (vr 5) (vr 10))))) (tst (op2 (pOr pNe pNeT) (ownE ownTb true (vr 7) (vr 11)) (orV (op2 (pOr pNe pNeT) (vr 4) (vr 9)) (op2 (pOr pNe pNeT) (vr 5) (vr 10)))))) (sret (cn (.bl false))) snx))))
 (sret (op2 (pOr pEq pEqT) (lcM (itE seqT (mbnd (mcons (fz (makeM "Settled" 2 f_Settled___init__ (mcons (fz (newE (.ndct []))) mnil))) (mcons (fz (makeM "Turned" 3 f_Turned___init__ (mcons (mbnd mnil tupE) (mcons (mbnd (mcons (cn (.int 0)) (mcons (cn (.int 1)) mnil)) tupE) mnil)))) (mcons (fz (makeM "Fails" 3 f_Fails___init__ (mcons (mbnd mnil tupE) (mcons (mbnd mnil tupE) mnil)))) (mcons (fz (makeM "NeverFails" 2 f_NeverFails___init__ (mcons (mbnd mnil tupE) mnil))) mnil)))) tupE)) [7] (gnm 7) (mret true) (boolOE boolTb (mcons (vr 7) mnil)) lstF) (mbnd (mcons (cn (.bl true)) (mcons (cn (.bl false)) (mcons (cn (.bl true)) (mcons (cn (.bl false)) mnil)))) lstE)))))))
def f_law : FM := fnM 12 b_law
end
section
variable {P : Program} {w : World} {K : PySem.W.Frag} {mg : Str → Option Value} {base : Heap}
theorem owns_ok (E : Facts K mg) : OwnsOk K mg isiCs := fun c hc Cd hC => by
  rcases List.mem_cons.mp hc with rfl | hc
  · obtain ⟨C, hm, hi⟩ := E.cl_Settled
    have e := hC.symm.trans hm
    cases e
    exact hi
  rcases List.mem_cons.mp hc with rfl | hc
  · obtain ⟨C, hm, hi⟩ := E.cl_Turned
    have e := hC.symm.trans hm
    cases e
    exact hi
  rcases List.mem_cons.mp hc with rfl | hc
  · obtain ⟨C, hm, hi⟩ := E.cl_LeastEdges
    have e := hC.symm.trans hm
    cases e
    exact hi
  rcases List.mem_cons.mp hc with rfl | hc
  · obtain ⟨C, hm, hi⟩ := E.cl_Fails
    have e := hC.symm.trans hm
    cases e
    exact hi
  rcases List.mem_cons.mp hc with rfl | hc
  · obtain ⟨C, hm, hi⟩ := E.cl_NeverFails
    have e := hC.symm.trans hm
    cases e
    exact hi
  exact absurd hc (by simp)
theorem ok_Settled___init__ (E : Facts K mg) {f : Addr} {fd : FuncData} (F : Fun K "__init__" "Settled.__init__" (methS 2 0) f fd) : FnOk P w K mg base (L2.CX P w) 1 f fd ["self", "ways"] (spM ⟨⟨K, mg, P, w⟩, j0⟩ 2 f_Settled___init__) := by
  have Sc := sc_Settled___init__
  refine fn_ok F Sc fun cdv A outer s H EE hr tk po => ?_
  exact (rss_one (rs_fld E.fl_ways (re_var 0) (re_fz (re_lk (selV 1) (re_dcN (Room.u65 hr) [("pair", 2), ("way", 3)] rfl Sc.nd rfl (ri_Ni (re_var 1)) (by kernel_rfl) (fun _ _ _ _ _ => (rgc_tup rfl (rgcs_cons (rgc_name Sc.nd) (rgcs_cons (rgc_name Sc.nd) rgcs_nil)))) (fun _ _ _ _ _ => rts_nil) (fun _ _ _ _ _ => (re_var 2)) (fun _ _ _ _ _ => (re_bty call_tuple_of fn_tuple E.n_tuple rfl (ra_cons (re_var 3) ra_nil))))))))
theorem mk_Settled (E : Facts K mg) : MkAt P w K mg base 1 "Settled" 2 f_Settled___init__ := by
  obtain ⟨C, f, fd, hm, hx, F, hb⟩ := E.f_Settled___init__
  exact ⟨C, f, fd, _, hm, hx, hb, ok_Settled___init__ E F⟩
theorem ok_Settled___eq__ (E : Facts K mg) {f : Addr} {fd : FuncData} (F : Fun K "__eq__" "Settled.__eq__" (methS 2 1) f fd) : FnOk P w K mg base (L2.CX P w) 1 f fd ["self", "other"] (spM ⟨⟨K, mg, P, w⟩, j0⟩ 2 f_Settled___eq__) := by
  have Sc := sc_Settled___eq__
  refine fn_ok F Sc fun cdv A outer s H EE hr tk po => ?_
  exact (rss_one (rs_ret (re_and (by obtain ⟨C, hmC, hi⟩ := E.is_Settled; exact re_isiO (owns_ok E) E.n_isinstance hmC hi (re_var 1)) (re_one (re_cmp (OpR.or (op_eqA hr.units) (op_eqT (Room.u65 hr))) (op2_or op2_eq op2_eqT) (re_fld E.fl_ways (re_var 0)) (re_fld E.fl_ways (re_var 1)))))))
theorem ok_Settled___bool__ (E : Facts K mg) {f : Addr} {fd : FuncData} (F : Fun K "__bool__" "Settled.__bool__" (methS 2 2) f fd) : FnOk P w K mg base (L2.CX P w) 1 f fd ["self"] (spM ⟨⟨K, mg, P, w⟩, j0⟩ 1 f_Settled___bool__) := by
  have Sc := sc_Settled___bool__
  refine fn_ok F Sc fun cdv A outer s H EE hr tk po => ?_
  exact (rss_one (rs_ret re_bl))
theorem ok_Turned___init__ (E : Facts K mg) {f : Addr} {fd : FuncData} (F : Fun K "__init__" "Turned.__init__" (methS 3 0) f fd) : FnOk P w K mg base (L2.CX P w) 1 f fd ["self", "order", "pair"] (spM ⟨⟨K, mg, P, w⟩, j0⟩ 3 f_Turned___init__) := by
  have Sc := sc_Turned___init__
  refine fn_ok F Sc fun cdv A outer s H EE hr tk po => ?_
  exact (rss_cons (rs_fld E.fl_order (re_var 0) (re_bty call_tuple_of fn_tuple E.n_tuple rfl (ra_cons (re_var 1) ra_nil)))
 (rss_one (rs_fld E.fl_pair (re_var 0) (re_var 2))))
theorem mk_Turned (E : Facts K mg) : MkAt P w K mg base 1 "Turned" 3 f_Turned___init__ := by
  obtain ⟨C, f, fd, hm, hx, F, hb⟩ := E.f_Turned___init__
  exact ⟨C, f, fd, _, hm, hx, hb, ok_Turned___init__ E F⟩
theorem ok_Turned___eq__ (E : Facts K mg) {f : Addr} {fd : FuncData} (F : Fun K "__eq__" "Turned.__eq__" (methS 3 1) f fd) : FnOk P w K mg base (L2.CX P w) 1 f fd ["self", "other"] (spM ⟨⟨K, mg, P, w⟩, j0⟩ 2 f_Turned___eq__) := by
  have Sc := sc_Turned___eq__
  refine fn_ok F Sc fun cdv A outer s H EE hr tk po => ?_
  exact (rss_one (rs_ret (re_and (by obtain ⟨C, hmC, hi⟩ := E.is_Turned; exact re_isiO (owns_ok E) E.n_isinstance hmC hi (re_var 1)) (re_one (re_cmp (OpR.or (op_eqA hr.units) (op_eqT (Room.u65 hr))) (op2_or op2_eq op2_eqT) (re_tup (ra_cons (re_fld E.fl_order (re_var 0)) (ra_cons (re_fld E.fl_pair (re_var 0)) ra_nil))) (re_tup (ra_cons (re_fld E.fl_order (re_var 1)) (ra_cons (re_fld E.fl_pair (re_var 1)) ra_nil))))))))
theorem ok_Turned___bool__ (E : Facts K mg) {f : Addr} {fd : FuncData} (F : Fun K "__bool__" "Turned.__bool__" (methS 3 2) f fd) : FnOk P w K mg base (L2.CX P w) 1 f fd ["self"] (spM ⟨⟨K, mg, P, w⟩, j0⟩ 1 f_Turned___bool__) := by
  have Sc := sc_Turned___bool__
  refine fn_ok F Sc fun cdv A outer s H EE hr tk po => ?_
  exact (rss_one (rs_ret re_bl))
theorem ok_LeastEdges___init__ (E : Facts K mg) {f : Addr} {fd : FuncData} (F : Fun K "__init__" "LeastEdges.__init__" (methS 4 0) f fd) : FnOk P w K mg base (L2.CX P w) 1 f fd ["self", "edges", "turned"] (spM ⟨⟨K, mg, P, w⟩, j0⟩ 3 f_LeastEdges___init__) := by
  have Sc := sc_LeastEdges___init__
  refine fn_ok F Sc fun cdv A outer s H EE hr tk po => ?_
  exact (rss_cons (rs_fld E.fl_edges (re_var 0) (re_bty call_tuple_of fn_tuple E.n_tuple rfl (ra_cons (re_var 1) ra_nil)))
 (rss_one (rs_fld E.fl_turned (re_var 0) (re_fz (re_lk (selV 2) (re_dcN (Room.u65 hr) [("pair", 3), ("order", 4)] rfl Sc.nd rfl (ri_Ni (re_var 2)) (by kernel_rfl) (fun _ _ _ _ _ => (rgc_tup rfl (rgcs_cons (rgc_name Sc.nd) (rgcs_cons (rgc_name Sc.nd) rgcs_nil)))) (fun _ _ _ _ _ => rts_nil) (fun _ _ _ _ _ => (re_var 3)) (fun _ _ _ _ _ => (re_bty call_tuple_of fn_tuple E.n_tuple rfl (ra_cons (re_var 4) ra_nil)))))))))
theorem mk_LeastEdges (E : Facts K mg) : MkAt P w K mg base 1 "LeastEdges" 3 f_LeastEdges___init__ := by
  obtain ⟨C, f, fd, hm, hx, F, hb⟩ := E.f_LeastEdges___init__
  exact ⟨C, f, fd, _, hm, hx, hb, ok_LeastEdges___init__ E F⟩
theorem ok_LeastEdges___eq__ (E : Facts K mg) {f : Addr} {fd : FuncData} (F : Fun K "__eq__" "LeastEdges.__eq__" (methS 4 1) f fd) : FnOk P w K mg base (L2.CX P w) 1 f fd ["self", "other"] (spM ⟨⟨K, mg, P, w⟩, j0⟩ 2 f_LeastEdges___eq__) := by
  have Sc := sc_LeastEdges___eq__
  refine fn_ok F Sc fun cdv A outer s H EE hr tk po => ?_
  exact (rss_one (rs_ret (re_and (by obtain ⟨C, hmC, hi⟩ := E.is_LeastEdges; exact re_isiO (owns_ok E) E.n_isinstance hmC hi (re_var 1)) (re_one (re_cmp (OpR.or (op_eqA hr.units) (op_eqT (Room.u65 hr))) (op2_or op2_eq op2_eqT) (re_tup (ra_cons (re_fld E.fl_edges (re_var 0)) (ra_cons (re_fld E.fl_turned (re_var 0)) ra_nil))) (re_tup (ra_cons (re_fld E.fl_edges (re_var 1)) (ra_cons (re_fld E.fl_turned (re_var 1)) ra_nil))))))))
theorem ok_Fails___init__ (E : Facts K mg) {f : Addr} {fd : FuncData} (F : Fun K "__init__" "Fails.__init__" (methS 6 0) f fd) : FnOk P w K mg base (L2.CX P w) 1 f fd ["self", "run", "layers"] (spM ⟨⟨K, mg, P, w⟩, j0⟩ 3 f_Fails___init__) := by
  have Sc := sc_Fails___init__
  refine fn_ok F Sc fun cdv A outer s H EE hr tk po => ?_
  exact (rss_cons (rs_fld E.fl_run (re_var 0) (re_bty call_tuple_of fn_tuple E.n_tuple rfl (ra_cons (re_var 1) ra_nil)))
 (rss_one (rs_fld E.fl_layers (re_var 0) (re_bty call_tuple_of fn_tuple E.n_tuple rfl (ra_cons (re_fz (re_lk (selV 2) (re_lc [("layer", 3)] mk_lstL rfl Sc.nd rfl (ri_or (ri_list (re_var 2)) (ri_tup (re_var 2))) (by kernel_rfl) (fun _ _ _ _ _ => (rgc_name Sc.nd)) (fun _ _ _ _ _ => rts_nil) (fun _ _ _ _ _ => (re_bty call_tuple_of fn_tuple E.n_tuple rfl (ra_cons (re_var 3) ra_nil)))))) ra_nil)))))
theorem mk_Fails (E : Facts K mg) : MkAt P w K mg base 1 "Fails" 3 f_Fails___init__ := by
  obtain ⟨C, f, fd, hm, hx, F, hb⟩ := E.f_Fails___init__
  exact ⟨C, f, fd, _, hm, hx, hb, ok_Fails___init__ E F⟩
theorem ok_Fails___eq__ (E : Facts K mg) {f : Addr} {fd : FuncData} (F : Fun K "__eq__" "Fails.__eq__" (methS 6 1) f fd) : FnOk P w K mg base (L2.CX P w) 1 f fd ["self", "other"] (spM ⟨⟨K, mg, P, w⟩, j0⟩ 2 f_Fails___eq__) := by
  have Sc := sc_Fails___eq__
  refine fn_ok F Sc fun cdv A outer s H EE hr tk po => ?_
  exact (rss_one (rs_ret (re_and (by obtain ⟨C, hmC, hi⟩ := E.is_Fails; exact re_isiO (owns_ok E) E.n_isinstance hmC hi (re_var 1)) (re_one (re_cmp (OpR.or (op_eqA hr.units) (op_eqT (Room.u65 hr))) (op2_or op2_eq op2_eqT) (re_tup (ra_cons (re_fld E.fl_run (re_var 0)) (ra_cons (re_fld E.fl_layers (re_var 0)) ra_nil))) (re_tup (ra_cons (re_fld E.fl_run (re_var 1)) (ra_cons (re_fld E.fl_layers (re_var 1)) ra_nil))))))))
theorem ok_Fails___bool__ (E : Facts K mg) {f : Addr} {fd : FuncData} (F : Fun K "__bool__" "Fails.__bool__" (methS 6 2) f fd) : FnOk P w K mg base (L2.CX P w) 1 f fd ["self"] (spM ⟨⟨K, mg, P, w⟩, j0⟩ 1 f_Fails___bool__) := by
  have Sc := sc_Fails___bool__
  refine fn_ok F Sc fun cdv A outer s H EE hr tk po => ?_
  exact (rss_one (rs_ret re_bl))
theorem ok_NeverFails___init__ (E : Facts K mg) {f : Addr} {fd : FuncData} (F : Fun K "__init__" "NeverFails.__init__" (methS 7 0) f fd) : FnOk P w K mg base (L2.CX P w) 1 f fd ["self", "told"] (spM ⟨⟨K, mg, P, w⟩, j0⟩ 2 f_NeverFails___init__) := by
  have Sc := sc_NeverFails___init__
  refine fn_ok F Sc fun cdv A outer s H EE hr tk po => ?_
  exact (rss_one (rs_fld E.fl_standings (re_var 0) (re_bty call_tuple_of fn_tuple E.n_tuple rfl (ra_cons (re_var 1) ra_nil))))
theorem mk_NeverFails (E : Facts K mg) : MkAt P w K mg base 1 "NeverFails" 2 f_NeverFails___init__ := by
  obtain ⟨C, f, fd, hm, hx, F, hb⟩ := E.f_NeverFails___init__
  exact ⟨C, f, fd, _, hm, hx, hb, ok_NeverFails___init__ E F⟩
theorem ok_NeverFails___eq__ (E : Facts K mg) {f : Addr} {fd : FuncData} (F : Fun K "__eq__" "NeverFails.__eq__" (methS 7 1) f fd) : FnOk P w K mg base (L2.CX P w) 1 f fd ["self", "other"] (spM ⟨⟨K, mg, P, w⟩, j0⟩ 2 f_NeverFails___eq__) := by
  have Sc := sc_NeverFails___eq__
  refine fn_ok F Sc fun cdv A outer s H EE hr tk po => ?_
  exact (rss_one (rs_ret (re_and (by obtain ⟨C, hmC, hi⟩ := E.is_NeverFails; exact re_isiO (owns_ok E) E.n_isinstance hmC hi (re_var 1)) (re_one (re_cmp (OpR.or (op_eqA hr.units) (op_eqT (Room.u65 hr))) (op2_or op2_eq op2_eqT) (re_fld E.fl_standings (re_var 0)) (re_fld E.fl_standings (re_var 1)))))))
theorem ok_NeverFails___bool__ (E : Facts K mg) {f : Addr} {fd : FuncData} (F : Fun K "__bool__" "NeverFails.__bool__" (methS 7 2) f fd) : FnOk P w K mg base (L2.CX P w) 1 f fd ["self"] (spM ⟨⟨K, mg, P, w⟩, j0⟩ 1 f_NeverFails___bool__) := by
  have Sc := sc_NeverFails___bool__
  refine fn_ok F Sc fun cdv A outer s H EE hr tk po => ?_
  exact (rss_one (rs_ret re_bl))
theorem own_eqs (E : Facts K mg) : OwnEqs P w K mg base 1 ownTb where
  own := fun c m hl C hC => by
    unfold ownTb at hl
    rw [List.lookup_cons] at hl
    split at hl
    · rename_i he
      have e1 := eq_of_beq he
      subst e1
      cases hl
      obtain ⟨C2, f, fd, hm, hx, F, hb⟩ := E.f_Settled___eq__
      have e2 := hC.symm.trans hm
      cases e2
      exact ⟨f, fd, _, hx.1, hx.2.1, hb, ok_Settled___eq__ E F, hx.2.2.1, hx.2.2.2⟩
    rw [List.lookup_cons] at hl
    split at hl
    · rename_i he
      have e1 := eq_of_beq he
      subst e1
      cases hl
      obtain ⟨C2, f, fd, hm, hx, F, hb⟩ := E.f_Turned___eq__
      have e2 := hC.symm.trans hm
      cases e2
      exact ⟨f, fd, _, hx.1, hx.2.1, hb, ok_Turned___eq__ E F, hx.2.2.1, hx.2.2.2⟩
    rw [List.lookup_cons] at hl
    split at hl
    · rename_i he
      have e1 := eq_of_beq he
      subst e1
      cases hl
      obtain ⟨C2, f, fd, hm, hx, F, hb⟩ := E.f_LeastEdges___eq__
      have e2 := hC.symm.trans hm
      cases e2
      exact ⟨f, fd, _, hx.1, hx.2.1, hb, ok_LeastEdges___eq__ E F, hx.2.2.1, hx.2.2.2⟩
    rw [List.lookup_cons] at hl
    split at hl
    · rename_i he
      have e1 := eq_of_beq he
      subst e1
      cases hl
      obtain ⟨C2, f, fd, hm, hx, F, hb⟩ := E.f_Fails___eq__
      have e2 := hC.symm.trans hm
      cases e2
      exact ⟨f, fd, _, hx.1, hx.2.1, hb, ok_Fails___eq__ E F, hx.2.2.1, hx.2.2.2⟩
    rw [List.lookup_cons] at hl
    split at hl
    · rename_i he
      have e1 := eq_of_beq he
      subst e1
      cases hl
      obtain ⟨C2, f, fd, hm, hx, F, hb⟩ := E.f_NeverFails___eq__
      have e2 := hC.symm.trans hm
      cases e2
      exact ⟨f, fd, _, hx.1, hx.2.1, hb, ok_NeverFails___eq__ E F, hx.2.2.1, hx.2.2.2⟩
    cases hl
  nf := fun c m hl C hC => by
    unfold ownTb at hl
    rw [List.lookup_cons] at hl
    split at hl
    · rename_i he
      have e1 := eq_of_beq he
      subst e1
      obtain ⟨n1, n2, n3⟩ := E.nf_Settled C hC
      exact ⟨n1, n2, fun c2 m2 hl2 C2 hC2 => n3 c2 (lookup_mem (tb := ownTb) hl2) C2 hC2⟩
    rw [List.lookup_cons] at hl
    split at hl
    · rename_i he
      have e1 := eq_of_beq he
      subst e1
      obtain ⟨n1, n2, n3⟩ := E.nf_Turned C hC
      exact ⟨n1, n2, fun c2 m2 hl2 C2 hC2 => n3 c2 (lookup_mem (tb := ownTb) hl2) C2 hC2⟩
    rw [List.lookup_cons] at hl
    split at hl
    · rename_i he
      have e1 := eq_of_beq he
      subst e1
      obtain ⟨n1, n2, n3⟩ := E.nf_LeastEdges C hC
      exact ⟨n1, n2, fun c2 m2 hl2 C2 hC2 => n3 c2 (lookup_mem (tb := ownTb) hl2) C2 hC2⟩
    rw [List.lookup_cons] at hl
    split at hl
    · rename_i he
      have e1 := eq_of_beq he
      subst e1
      obtain ⟨n1, n2, n3⟩ := E.nf_Fails C hC
      exact ⟨n1, n2, fun c2 m2 hl2 C2 hC2 => n3 c2 (lookup_mem (tb := ownTb) hl2) C2 hC2⟩
    rw [List.lookup_cons] at hl
    split at hl
    · rename_i he
      have e1 := eq_of_beq he
      subst e1
      obtain ⟨n1, n2, n3⟩ := E.nf_NeverFails C hC
      exact ⟨n1, n2, fun c2 m2 hl2 C2 hC2 => n3 c2 (lookup_mem (tb := ownTb) hl2) C2 hC2⟩
    cases hl
theorem own_bools (E : Facts K mg) : OwnBools P w K mg base 1 boolTb where
  own := fun c m hl C hC => by
    unfold boolTb at hl
    rw [List.lookup_cons] at hl
    split at hl
    · rename_i he
      have e1 := eq_of_beq he
      subst e1
      cases hl
      obtain ⟨C2, f, fd, hm, hx, F, hb⟩ := E.f_Settled___bool__
      have e2 := hC.symm.trans hm
      cases e2
      exact ⟨f, fd, _, hx.1, hx.2, hb, ok_Settled___bool__ E F⟩
    rw [List.lookup_cons] at hl
    split at hl
    · rename_i he
      have e1 := eq_of_beq he
      subst e1
      cases hl
      obtain ⟨C2, f, fd, hm, hx, F, hb⟩ := E.f_Turned___bool__
      have e2 := hC.symm.trans hm
      cases e2
      exact ⟨f, fd, _, hx.1, hx.2, hb, ok_Turned___bool__ E F⟩
    rw [List.lookup_cons] at hl
    split at hl
    · rename_i he
      have e1 := eq_of_beq he
      subst e1
      cases hl
      obtain ⟨C2, f, fd, hm, hx, F, hb⟩ := E.f_Fails___bool__
      have e2 := hC.symm.trans hm
      cases e2
      exact ⟨f, fd, _, hx.1, hx.2, hb, ok_Fails___bool__ E F⟩
    rw [List.lookup_cons] at hl
    split at hl
    · rename_i he
      have e1 := eq_of_beq he
      subst e1
      cases hl
      obtain ⟨C2, f, fd, hm, hx, F, hb⟩ := E.f_NeverFails___bool__
      have e2 := hC.symm.trans hm
      cases e2
      exact ⟨f, fd, _, hx.1, hx.2, hb, ok_NeverFails___bool__ E F⟩
    cases hl
theorem ok__law_number (E : Facts K mg) {f : Addr} {fd : FuncData} (F : Fun K "_law_number" "_law_number" (topS 9) f fd) : FnOk P w K mg base (L2.CX P w) 1 f fd ["script", "index"] (spM ⟨⟨K, mg, P, w⟩, j0⟩ 2 f__law_number) := by
  have Sc := sc__law_number
  refine fn_ok F Sc fun cdv A outer s H EE hr tk po => ?_
  exact (rss_cons (rs_asg (re_if (rt_cmp (op_neA hr.units) op2_ne (re_var 0) (re_lst ra_nil)) (re_tup (ra_cons (re_ix (Room.u65 hr) (re_var 0) (re_op op_modN op2_mod (re_var 1) (re_len E.n_len (ra_cons (re_var 0) ra_nil)))) (ra_cons (re_op op_fdivW op2_fdiv (re_var 1) (re_len E.n_len (ra_cons (re_var 0) ra_nil))) ra_nil))) (re_tup (ra_cons re_int (ra_cons re_int ra_nil)))) (rg_tup rfl (rgs_cons (rg_name Sc.nd) (rgs_cons (rg_name Sc.nd) rgs_nil))))
 (rss_cons (rs_set (i := 2) Sc.nd (re_if (rt_cmp (op_ltA) op2_lt (re_var 6) re_int) (re_op op_sub op2_sub (re_var 5) (re_op op_pow op2_pow re_int re_int)) re_int))
 (rss_cons (rs_for po rfl (ri_rng1 E.n_range (ra_cons (re_op op_modN op2_mod (re_bty call_intA fn_int E.n_int rfl (ra_cons (re_var 6) ra_nil)) re_int) ra_nil)) (rg_name Sc.nd) (rss_one (rs_set (i := 2) Sc.nd (re_op op_fdivW op2_fdiv (re_var 2) re_int))))
 (rss_cons (rs_if (rt_cmp (op_gtA) op2_gt (re_var 2) re_int) (rss_one (rs_ret (re_op op_modN op2_mod (re_bty call_intA fn_int E.n_int rfl (ra_cons (re_var 2) ra_nil)) re_int))) rss_nil)
 (rss_cons (rs_set (i := 4) Sc.nd (re_op op_modN op2_mod (re_op op_addAll op2_add (re_op op_mulAll op2_mul (re_bty call_intA fn_int E.n_int rfl (ra_cons (re_op op_addAll op2_add (re_var 5) (re_op op_mulAll op2_mul re_int (re_var 1))) ra_nil)) re_int) (re_op op_mulAll op2_mul re_int (re_len E.n_len (ra_cons (re_var 0) ra_nil)))) re_int))
 (rss_cons (rs_set (i := 4) Sc.nd (re_op op_modN op2_mod (re_op op_addAll op2_add (re_op op_mulAll op2_mul (re_var 4) (re_var 4)) (re_op op_mulAll op2_mul re_int (re_var 1))) re_int))
 (rss_one (rs_ret (re_bty call_intA fn_int E.n_int rfl (ra_cons (re_op op_modN op2_mod (re_op op_addAll op2_add (re_op op_mulAll op2_mul (re_var 4) re_int) (re_op op_fdivW op2_fdiv (re_var 4) re_int)) re_int) ra_nil))))))))))
theorem at__law_number (E : Facts K mg) : FnAt P w K mg base 1 "_law_number" 2 f__law_number := by
  obtain ⟨f, fd, F, hm, hb⟩ := E.f__law_number
  exact ⟨f, fd, ["script", "index"], hm, F.kp, hb, ok__law_number E F⟩
theorem ok__law_take (E : Facts K mg) {f : Addr} {fd : FuncData} (F : Fun K "_law_take" "_law_take" (topS 10) f fd) : FnOk P w K mg base (L2.CX P w) 2 f fd ["draw", "many"] (spM ⟨⟨K, mg, P, w⟩, j0⟩ 2 f__law_take) := by
  have Sc := sc__law_take
  refine fn_ok F Sc fun cdv A outer s H EE hr tk po => ?_
  exact (rss_cons (rs_augS (Room.u65 hr) iop_addA op2_iadd (re_var 0) re_int re_int)
 (rss_one (rs_ret (re_op op_modN op2_mod (re_bty call_intA fn_int E.n_int rfl (ra_cons (re_callP (at__law_number E) (hr.mono (by decide)) tk (ra_cons (re_ix (Room.u65 hr) (re_var 0) re_int) (ra_cons (re_bty call_intA fn_int E.n_int rfl (ra_cons (re_ix (Room.u65 hr) (re_var 0) re_int) ra_nil)) ra_nil))) ra_nil)) (re_var 1)))))
theorem at__law_take (E : Facts K mg) : FnAt P w K mg base 2 "_law_take" 2 f__law_take := by
  obtain ⟨f, fd, F, hm, hb⟩ := E.f__law_take
  exact ⟨f, fd, ["draw", "many"], hm, F.kp, hb, ok__law_take E F⟩
theorem ok__law_made (E : Facts K mg) {f : Addr} {fd : FuncData} (F : Fun K "_law_made" "_law_made" (topS 11) f fd) : FnOk P w K mg base (L2.CX P w) 3 f fd ["draw", "kind"] (spM ⟨⟨K, mg, P, w⟩, j0⟩ 2 f__law_made) := by
  have Sc := sc__law_made
  refine fn_ok F Sc fun cdv A outer s H EE hr tk po => ?_
  exact (rss_cons (rs_par (i := 3) (j := 4) rfl Sc.nd (ra_cons (re_lc [("one", 5)] mk_lstL rfl Sc.nd rfl (ri_rng1 E.n_range (ra_cons (re_callM (at__law_take E) (hr.mono (by decide)) tk (ra_cons (re_var 0) (ra_cons re_int ra_nil))) ra_nil)) (by kernel_rfl) (fun _ _ _ _ _ => (rgc_name Sc.nd)) (fun _ _ _ _ _ => rts_nil) (fun _ _ _ _ _ => (re_callM (at__law_take E) (hr.mono (by decide)) takes0 (ra_cons (re_var 0) (ra_cons re_int ra_nil))))) (ra_cons (re_tup (ra_cons (re_callM (at__law_take E) (hr.mono (by decide)) tk (ra_cons (re_var 0) (ra_cons re_int ra_nil))) (ra_cons re_int ra_nil))) ra_nil)))
 (rss_cons (rs_if (rt_cmp (OpR.or (op_eqA hr.units) (op_eqT (Room.u65 hr))) (op2_or op2_eq op2_eqT) (re_var 1) re_int) (rss_cons (rs_set (i := 2) Sc.nd (re_lstN (ra_cons (re_dispN (Room.u65 hr) (rn_cons (re_var 4) (re_bty call_tuple_of fn_tuple E.n_tuple rfl (ra_cons (re_var 3) ra_nil)) rn_nil)) ra_nil)))
 (rss_one (rs_ret (re_tup (ra_cons (re_var 2) (ra_cons (re_fz (re_makeM (mk_Settled E) (hr.mono (by decide)) tk (ra_cons (re_ix (Room.u65 hr) (re_var 2) re_int) ra_nil))) ra_nil)))))) rss_nil)
 (rss_cons (rs_if (rt_cmp (OpR.or (op_eqA hr.units) (op_eqT (Room.u65 hr))) (op2_or op2_eq op2_eqT) (re_var 1) re_int) (rss_cons (rs_set (i := 2) Sc.nd (re_lstN (ra_cons (re_var 3) (ra_cons (re_var 4) ra_nil))))
 (rss_one (rs_ret (re_tup (ra_cons (re_var 2) (ra_cons (re_fz (re_makeM (mk_Turned E) (hr.mono (by decide)) tk (ra_cons (re_ix (Room.u65 hr) (re_var 2) re_int) (ra_cons (re_ix (Room.u65 hr) (re_var 2) re_int) ra_nil)))) ra_nil)))))) rss_nil)
 (rss_cons (rs_if (rt_cmp (OpR.or (op_eqA hr.units) (op_eqT (Room.u65 hr))) (op2_or op2_eq op2_eqT) (re_var 1) re_int) (rss_cons (rs_set (i := 2) Sc.nd (re_lstN (ra_cons (re_op op_mulT op2_mulT (re_tup (ra_cons (re_var 4) ra_nil)) (re_callM (at__law_take E) (hr.mono (by decide)) tk (ra_cons (re_var 0) (ra_cons re_int ra_nil)))) (ra_cons (re_dispN (Room.u65 hr) (rn_cons (re_var 4) (re_bty call_tuple_of fn_tuple E.n_tuple rfl (ra_cons (re_var 3) ra_nil)) rn_nil)) ra_nil))))
 (rss_one (rs_ret (re_tup (ra_cons (re_var 2) (ra_cons (re_fz (re_makeM (mk_LeastEdges E) (hr.mono (by decide)) tk (ra_cons (re_ix (Room.u65 hr) (re_var 2) re_int) (ra_cons (re_ix (Room.u65 hr) (re_var 2) re_int) ra_nil)))) ra_nil)))))) rss_nil)
 (rss_cons (rs_if (rt_cmp (OpR.or (op_eqA hr.units) (op_eqT (Room.u65 hr))) (op2_or op2_eq op2_eqT) (re_var 1) re_int) (rss_cons (rs_set (i := 2) Sc.nd (re_lstN (ra_cons (re_lk (selV 3) (re_lc [("one", 5)] mk_lstL rfl Sc.nd rfl (ri_list (re_var 3)) (by kernel_rfl) (fun _ _ _ _ _ => (rgc_name Sc.nd)) (fun _ _ _ _ _ => rts_nil) (fun _ _ _ _ _ => (re_tup (ra_cons re_str (ra_cons (re_var 5) ra_nil)))))) (ra_cons (re_lstN (ra_cons (re_bty call_tuple_of fn_tuple E.n_tuple rfl (ra_cons (re_fz (re_lk (selV 3) (re_lc [("one", 5)] mk_lstL rfl Sc.nd rfl (ri_list (re_var 3)) (by kernel_rfl) (fun _ _ _ _ _ => (rgc_name Sc.nd)) (fun _ _ _ _ _ => rts_nil) (fun _ _ _ _ _ => (re_tup (ra_cons (re_tup (ra_cons (re_tup (ra_cons re_int ra_nil)) (ra_cons (re_var 5) ra_nil))) (ra_cons re_str ra_nil))))))) ra_nil)) ra_nil)) ra_nil))))
 (rss_one (rs_ret (re_tup (ra_cons (re_var 2) (ra_cons (re_fz (re_makeM (mk_Fails E) (hr.mono (by decide)) tk (ra_cons (re_ix (Room.u65 hr) (re_var 2) re_int) (ra_cons (re_ix (Room.u65 hr) (re_var 2) re_int) ra_nil)))) ra_nil)))))) rss_nil)
 (rss_cons (rs_set (i := 2) Sc.nd (re_lstN (ra_cons (re_lk (selV 3) (re_lc [("one", 5)] mk_lstL rfl Sc.nd rfl (ri_list (re_var 3)) (by kernel_rfl) (fun _ _ _ _ _ => (rgc_name Sc.nd)) (fun _ _ _ _ _ => rts_nil) (fun _ _ _ _ _ => (re_tup (ra_cons (re_tup (ra_cons (re_var 5) ra_nil)) (ra_cons (re_tup ra_nil) ra_nil)))))) ra_nil)))
 (rss_one (rs_ret (re_tup (ra_cons (re_var 2) (ra_cons (re_fz (re_makeM (mk_NeverFails E) (hr.mono (by decide)) tk (ra_cons (re_ix (Room.u65 hr) (re_var 2) re_int) ra_nil))) ra_nil)))))))))))
theorem at__law_made (E : Facts K mg) : FnAt P w K mg base 3 "_law_made" 2 f__law_made := by
  obtain ⟨f, fd, F, hm, hb⟩ := E.f__law_made
  exact ⟨f, fd, ["draw", "kind"], hm, F.kp, hb, ok__law_made E F⟩
theorem ok__law_told (E : Facts K mg) {f : Addr} {fd : FuncData} (F : Fun K "_law_told" "_law_told" (topS 12) f fd) : FnOk P w K mg base (L2.CX P w) 1 f fd ["one"] (spM ⟨⟨K, mg, P, w⟩, j0⟩ 1 f__law_told) := by
  have Sc := sc__law_told
  refine fn_ok F Sc fun cdv A outer s H EE hr tk po => ?_
  exact (rss_cons (rs_if (rt_val (by obtain ⟨C, hmC, hi⟩ := E.is_Settled; exact re_isiO (owns_ok E) E.n_isinstance hmC hi (re_var 0))) (rss_one (rs_ret (re_tup (ra_cons (re_fld E.fl_ways (re_var 0)) ra_nil)))) rss_nil)
 (rss_cons (rs_if (rt_val (by obtain ⟨C, hmC, hi⟩ := E.is_Turned; exact re_isiO (owns_ok E) E.n_isinstance hmC hi (re_var 0))) (rss_one (rs_ret (re_tup (ra_cons (re_fld E.fl_order (re_var 0)) (ra_cons (re_fld E.fl_pair (re_var 0)) ra_nil))))) rss_nil)
 (rss_cons (rs_if (rt_val (by obtain ⟨C, hmC, hi⟩ := E.is_LeastEdges; exact re_isiO (owns_ok E) E.n_isinstance hmC hi (re_var 0))) (rss_one (rs_ret (re_tup (ra_cons (re_fld E.fl_edges (re_var 0)) (ra_cons (re_fld E.fl_turned (re_var 0)) ra_nil))))) rss_nil)
 (rss_one (rs_ret (re_if (rt_val (by obtain ⟨C, hmC, hi⟩ := E.is_Fails; exact re_isiO (owns_ok E) E.n_isinstance hmC hi (re_var 0))) (re_tup (ra_cons (re_fld E.fl_run (re_var 0)) (ra_cons (re_fld E.fl_layers (re_var 0)) ra_nil))) (re_tup (ra_cons (re_fld E.fl_standings (re_var 0)) ra_nil))))))))
theorem at__law_told (E : Facts K mg) : FnAt P w K mg base 1 "_law_told" 1 f__law_told := by
  obtain ⟨f, fd, F, hm, hb⟩ := E.f__law_told
  exact ⟨f, fd, ["one"], hm, F.kp, hb, ok__law_told E F⟩
theorem ok__law_due (E : Facts K mg) {f : Addr} {fd : FuncData} (F : Fun K "_law_due" "_law_due" (topS 13) f fd) : FnOk P w K mg base (L2.CX P w) 1 f fd ["kind", "parts"] (spM ⟨⟨K, mg, P, w⟩, j0⟩ 2 f__law_due) := by
  have Sc := sc__law_due
  refine fn_ok F Sc fun cdv A outer s H EE hr tk po => ?_
  exact (rss_cons (rs_if (rt_cmp (OpR.or (op_eqA hr.units) (op_eqT (Room.u65 hr))) (op2_or op2_eq op2_eqT) (re_var 0) re_int) (rss_one (rs_ret (re_tup (ra_cons (re_fz (re_dictNN (Room.u65 hr) rfl E.n_dict (ra_cons (re_fz (re_lk (selI 1 0) (re_lc [("pair", 3), ("way", 4)] mk_lstL rfl Sc.nd rfl (ri_Ni (re_ix (Room.u65 hr) (re_var 1) re_int)) (by kernel_rfl) (fun _ _ _ _ _ => (rgc_tup rfl (rgcs_cons (rgc_name Sc.nd) (rgcs_cons (rgc_name Sc.nd) rgcs_nil)))) (fun _ _ _ _ _ => rts_nil) (fun _ _ _ _ _ => (re_tup (ra_cons (re_var 3) (ra_cons (re_bty call_tuple_of fn_tuple E.n_tuple rfl (ra_cons (re_var 4) ra_nil)) ra_nil))))))) ra_nil))) ra_nil)))) rss_nil)
 (rss_cons (rs_if (rt_cmp (OpR.or (op_eqA hr.units) (op_eqT (Room.u65 hr))) (op2_or op2_eq op2_eqT) (re_var 0) re_int) (rss_one (rs_ret (re_tup (ra_cons (re_bty call_tuple_of fn_tuple E.n_tuple rfl (ra_cons (re_ix (Room.u65 hr) (re_var 1) re_int) ra_nil)) (ra_cons (re_ix (Room.u65 hr) (re_var 1) re_int) ra_nil))))) rss_nil)
 (rss_cons (rs_if (rt_cmp (OpR.or (op_eqA hr.units) (op_eqT (Room.u65 hr))) (op2_or op2_eq op2_eqT) (re_var 0) re_int) (rss_one (rs_ret (re_tup (ra_cons (re_bty call_tuple_of fn_tuple E.n_tuple rfl (ra_cons (re_ix (Room.u65 hr) (re_var 1) re_int) ra_nil)) (ra_cons (re_fz (re_dictNN (Room.u65 hr) rfl E.n_dict (ra_cons (re_fz (re_lk (selI 1 1) (re_lc [("pair", 3), ("way", 4)] mk_lstL rfl Sc.nd rfl (ri_Ni (re_ix (Room.u65 hr) (re_var 1) re_int)) (by kernel_rfl) (fun _ _ _ _ _ => (rgc_tup rfl (rgcs_cons (rgc_name Sc.nd) (rgcs_cons (rgc_name Sc.nd) rgcs_nil)))) (fun _ _ _ _ _ => rts_nil) (fun _ _ _ _ _ => (re_tup (ra_cons (re_var 3) (ra_cons (re_bty call_tuple_of fn_tuple E.n_tuple rfl (ra_cons (re_var 4) ra_nil)) ra_nil))))))) ra_nil))) ra_nil))))) rss_nil)
 (rss_cons (rs_if (rt_cmp (OpR.or (op_eqA hr.units) (op_eqT (Room.u65 hr))) (op2_or op2_eq op2_eqT) (re_var 0) re_int) (rss_one (rs_ret (re_tup (ra_cons (re_bty call_tuple_of fn_tuple E.n_tuple rfl (ra_cons (re_ix (Room.u65 hr) (re_var 1) re_int) ra_nil)) (ra_cons (re_bty call_tuple_of fn_tuple E.n_tuple rfl (ra_cons (re_fz (re_lk (selI 1 1) (re_lc [("layer", 2)] mk_lstL rfl Sc.nd rfl (ri_list (re_ix (Room.u65 hr) (re_var 1) re_int)) (by kernel_rfl) (fun _ _ _ _ _ => (rgc_name Sc.nd)) (fun _ _ _ _ _ => rts_nil) (fun _ _ _ _ _ => (re_bty call_tuple_of fn_tuple E.n_tuple rfl (ra_cons (re_var 2) ra_nil)))))) ra_nil)) ra_nil))))) rss_nil)
 (rss_one (rs_ret (re_tup (ra_cons (re_bty call_tuple_of fn_tuple E.n_tuple rfl (ra_cons (re_ix (Room.u65 hr) (re_var 1) re_int) ra_nil)) ra_nil))))))))
theorem at__law_due (E : Facts K mg) : FnAt P w K mg base 1 "_law_due" 2 f__law_due := by
  obtain ⟨f, fd, F, hm, hb⟩ := E.f__law_due
  exact ⟨f, fd, ["kind", "parts"], hm, F.kp, hb, ok__law_due E F⟩
theorem ok_law (E : Facts K mg) {f : Addr} {fd : FuncData} (F : Fun K "law" "law" (topS 14) f fd) : FnOk P w K mg base (L2.CX P w) 4 f fd ["script"] (spM ⟨⟨K, mg, P, w⟩, j0⟩ 1 f_law) := by
  have Sc := sc_law
  refine fn_ok F Sc fun cdv A outer s H EE hr tk po => ?_
  exact (rss_cons (rs_set (i := 1) Sc.nd (re_lstN (ra_cons (re_var 0) (ra_cons re_int ra_nil))))
 (rss_cons (rs_set (i := 2) Sc.nd (re_lstN ra_nil))
 (rss_cons (rs_for po rfl (ri_rng1 E.n_range (ra_cons re_int ra_nil)) (rg_name Sc.nd) (rss_cut (rss_cons (rs_set (i := 4) Sc.nd (re_callM (at__law_take E) (hr.mono (by decide)) tk (ra_cons (re_var 1) (ra_cons re_int ra_nil))))
 (rss_cons (rs_asg (re_msk 1 (re_callM (at__law_made E) (hr.mono (by decide)) tk (ra_cons (re_var 1) (ra_cons (re_var 4) ra_nil)))) (rg_tup rfl (rgs_cons (rg_name Sc.nd) (rgs_cons (rg_name Sc.nd) rgs_nil))))
 (rss_cons (rs_set (i := 5) Sc.nd (re_msk 1 (re_callM (at__law_due E) (hr.mono (by decide)) tk (ra_cons (re_var 4) (ra_cons (re_var 8) ra_nil)))))
 (rss_cons (rs_if (rt_cmp (OpR.or (op_neA hr.units) (op_neT (Room.u65 hr))) (op2_or op2_ne op2_neT) (re_callP (at__law_told E) (hr.mono (by decide)) tk (ra_cons (re_var 7) ra_nil)) (re_var 5)) (rss_one (rs_ret re_bl)) rss_nil)
 (rss_cons (rs_forLL 3 po rfl (re_var 8) (rg_name Sc.nd) (rss_one (rs_if (rt_val (re_isiB [] (fun _ h => by cases h) (isiC_bt fun _ _ h => by cases h) E.n_isinstance E.n_list rfl (re_var 6))) (rss_one (rs_exp (re_lm PySem.F.slot_list_append PySem.F.type_list_append mt_append lm_append (re_var 6) (ra_cons re_str ra_nil)))) (rss_one (rs_if (rt_val (re_isiB [] (fun _ h => by cases h) (isiC_bt fun _ _ h => by cases h) E.n_isinstance E.n_dict rfl (re_var 6))) (rss_one (rs_asg (re_tup (ra_cons re_int ra_nil)) (rg_set (Room.u65 hr) (re_var 6) (re_tup (ra_cons re_str (ra_cons re_int ra_nil)))))) rss_nil)))))
 (rss_cons (rs_if (rt_w (rw_or (rt_cmp (OpR.or (op_neA hr.units) (op_neT (Room.u65 hr))) (op2_or op2_ne op2_neT) (re_callP (at__law_told E) (hr.mono (by decide)) tk (ra_cons (re_var 7) ra_nil)) (re_var 5)) (rw_or (rt_own (own_eqs E) (hr.mono (by decide)) (re_var 7) (re_var 5)) (rw_or1 (rt_own (own_eqs E) (hr.mono (by decide)) (re_var 7) re_non))))) (rss_one (rs_ret re_bl)) rss_nil)
 (rss_one (rs_exp (re_lm PySem.F.slot_list_append PySem.F.type_list_append mt_append lm_append (re_var 2) (ra_cons (re_tup (ra_cons (re_var 4) (ra_cons (re_var 5) (ra_cons (re_var 7) ra_nil)))) ra_nil))))))))))))
 (rss_cons (rs_fz 2 (rs_for po rfl (ri_list (re_var 2)) (rg_tup rfl (rgs_cons (rg_name Sc.nd) (rgs_cons (rg_name Sc.nd) (rgs_cons (rg_name Sc.nd) rgs_nil)))) (rss_one (rs_for po rfl (ri_list (re_var 2)) (rg_tup rfl (rgs_cons (rg_name Sc.nd) (rgs_cons (rg_name Sc.nd) (rgs_cons (rg_name Sc.nd) rgs_nil)))) (rss_one (rs_if (rt_w (rw_or (rt_cmp (OpR.or (op_neA hr.units) (op_neT (Room.u65 hr))) (op2_or op2_ne op2_neT) (re_own (own_eqs E) (hr.mono (by decide)) (re_var 7) (re_var 11)) (re_and (re_cmp (OpR.or (op_eqA hr.units) (op_eqT (Room.u65 hr))) (op2_or op2_eq op2_eqT) (re_var 4) (re_var 9)) (re_one (re_cmp (OpR.or (op_eqA hr.units) (op_eqT (Room.u65 hr))) (op2_or op2_eq op2_eqT) (re_var 5) (re_var 10))))) (rw_or1 (rt_cmp (OpR.or (op_neA hr.units) (op_neT (Room.u65 hr))) (op2_or op2_ne op2_neT) (re_ownN (own_eqs E) (hr.mono (by decide)) (re_var 7) (re_var 11)) (re_or (re_cmp (OpR.or (op_neA hr.units) (op_neT (Room.u65 hr))) (op2_or op2_ne op2_neT) (re_var 4) (re_var 9)) (re_one (re_cmp (OpR.or (op_neA hr.units) (op_neT (Room.u65 hr))) (op2_or op2_ne op2_neT) (re_var 5) (re_var 10)))))))) (rss_one (rs_ret re_bl)) rss_nil))))))
 (rss_one (rs_ret (re_cmp (OpR.or (op_eqA hr.units) (op_eqT (Room.u65 hr))) (op2_or op2_eq op2_eqT) (re_lc [("one", 7)] mk_lstF rfl Sc.nd rfl (ri_tup (re_tup (ra_cons (re_fz (re_makeM (mk_Settled E) (hr.mono (by decide)) tk (ra_cons (re_fz re_dnewN) ra_nil))) (ra_cons (re_fz (re_makeM (mk_Turned E) (hr.mono (by decide)) tk (ra_cons (re_tup ra_nil) (ra_cons (re_tup (ra_cons re_int (ra_cons re_int ra_nil))) ra_nil)))) (ra_cons (re_fz (re_makeM (mk_Fails E) (hr.mono (by decide)) tk (ra_cons (re_tup ra_nil) (ra_cons (re_tup ra_nil) ra_nil)))) (ra_cons (re_fz (re_makeM (mk_NeverFails E) (hr.mono (by decide)) tk (ra_cons (re_tup ra_nil) ra_nil))) ra_nil)))))) (by kernel_rfl) (fun _ _ _ _ _ => (rgc_name Sc.nd)) (fun _ _ _ _ _ => rts_nil) (fun _ _ _ _ _ => (re_boolO (own_bools E) (hr.mono (by decide)) E.n_bool (ra_cons (re_var 7) ra_nil)))) (re_lst (ra_cons re_bl (ra_cons re_bl (ra_cons re_bl (ra_cons re_bl ra_nil))))))))))))
theorem at_law (E : Facts K mg) : FnAt P w K mg base 4 "law" 1 f_law := by
  obtain ⟨f, fd, F, hm, hb⟩ := E.f_law
  exact ⟨f, fd, ["script"], hm, F.kp, hb, ok_law E F⟩
end
theorem bits_log {z : Int} (h : Builtin.Int.intBits z ≤ 1048576) : z.natAbs.log2 ≤ 1048576 := by
  unfold Builtin.Int.intBits at h
  split at h
  · rename_i hz
    have e : z = 0 := by simpa using hz
    subst e
    decide
  · omega
theorem number_ok (ns : List Int) (hl : ns.length ≤ 63) (hb : ∀ z ∈ ns, Builtin.Int.intBits z ≤ 1048576) (n : Nat) (hn : n ≤ 1000000000) : ∃ z : Int, 0 ≤ z ∧ ∃ hh, f__law_number [.d (.scr ns), .d (.int n)] [] = some (.ok (.d (.int z)) hh) := by
  have key : ∃ x h', fnM 7 b__law_number [.d (.scr ns), .d (.int n)] [] = some (.ok (.d x) h') ∧ Hd (∃ z : Int, 0 ≤ z ∧ x = .int z) := by
    refine fnM_pure ?_
    show OkS b__law_number [some (.d (.scr ns)), some (.d (.int n)), none, none, none, none, none] [] _
    unfold b__law_number
    refine oks_cut (fun δ h => h = [] ∧ Hd (∃ c t : Int, c.natAbs.log2 ≤ 1048576 ∧ 0 ≤ t ∧ δ = [some (.d (.scr ns)), some (.d (.int n)), none, none, none, some (.d (.int c)), some (.d (.int t))])) ?_ ?_
    · repeat (first
      | (with_reducible first | refine okm_ret ?_ | refine okm_cn ?_ | refine okm_op2 ?_ | refine okm_tst ?_ | refine okm_ifE ?_ | refine okm_mnil ?_ | refine okm_mcons ?_ | refine okm_notT ?_ | refine okm_notV ?_ | refine okm_chain ?_ | refine okm_andT ?_ | refine okm_orT ?_ | refine okm_andV ?_ | refine okm_orV ?_ | refine okm_unE ?_ | refine okm_fnE ?_ | refine okm_lenE ?_ | refine okm_ixE ?_ | refine okm_ptN ?_ | refine okm_ptS ?_ | refine okm_slE ?_ | refine okm_bmE ?_ | refine okm_isiE ?_ | refine okm_itE ?_ | refine okm_itN ?_ | refine okm_it1 ?_ | refine okm_lcM ?_ | refine okm_callP ?_ | refine okm_callM ?_ | refine okm_fz ?_ | refine okm_fzD ?_ | refine okm_lmE ?_ | refine okm_spNE ?_ | refine oks_seq ?_ | refine oks_if ?_ | refine oks_set ?_ | refine oks_asg ?_ | refine oks_sret ?_ | refine oks_sexp ?_ | refine oks_snx ?_ | refine oks_for ?_ | refine oks_aug ?_ | refine oks_augS ?_ | refine oks_raise ?_ | refine okm_bnd ?_)
      | ((with_reducible apply okm_vr); (· rfl))
      | ((with_reducible apply okm_tupE); (· rfl); (· rfl)) | ((with_reducible apply okm_lstE); (· rfl); (· rfl)) | ((with_reducible apply okm_lstN); (· rfl))
      | ((with_reducible apply op_rfl); (· rfl); (· rfl); (· rfl)) | ((with_reducible apply o1_rfl); (· rfl); (· rfl)) | ((with_reducible apply of_rfl); (· rfl); (· rfl))
      | (with_reducible refine wp_t ?_) | (with_reducible refine wp_f ?_) | (with_reducible refine wp_nt ?_) | (with_reducible refine wp_nf ?_)
      | ((with_reducible apply ex_t); (· rfl)) | ((with_reducible apply ex_f); (· rfl))
      | ((with_reducible apply ex_and4); (· rfl); (· rfl); (· rfl)) | ((with_reducible apply ex_and3); (· rfl); (· rfl)) | ((with_reducible apply ex_and2); (· rfl)) | ((with_reducible apply ex_and); (· rfl))
      | ((with_reducible apply isT_and); (· rfl)) | ((with_reducible apply ex_bm); (· rfl); (· rfl); (· rfl))
      | dsimp only)
      refine op_rfl rfl rfl pNe_scr ?_
      cases ns with
      | nil =>
        repeat (first
          | (with_reducible first | refine okm_ret ?_ | refine okm_cn ?_ | refine okm_op2 ?_ | refine okm_tst ?_ | refine okm_ifE ?_ | refine okm_mnil ?_ | refine okm_mcons ?_ | refine okm_notT ?_ | refine okm_notV ?_ | refine okm_chain ?_ | refine okm_andT ?_ | refine okm_orT ?_ | refine okm_andV ?_ | refine okm_orV ?_ | refine okm_unE ?_ | refine okm_fnE ?_ | refine okm_lenE ?_ | refine okm_ixE ?_ | refine okm_ptN ?_ | refine okm_ptS ?_ | refine okm_slE ?_ | refine okm_bmE ?_ | refine okm_isiE ?_ | refine okm_itE ?_ | refine okm_itN ?_ | refine okm_it1 ?_ | refine okm_lcM ?_ | refine okm_callP ?_ | refine okm_callM ?_ | refine okm_fz ?_ | refine okm_fzD ?_ | refine okm_lmE ?_ | refine okm_spNE ?_ | refine oks_seq ?_ | refine oks_if ?_ | refine oks_set ?_ | refine oks_asg ?_ | refine oks_sret ?_ | refine oks_sexp ?_ | refine oks_snx ?_ | refine oks_for ?_ | refine oks_aug ?_ | refine oks_augS ?_ | refine oks_raise ?_ | refine okm_bnd ?_)
          | ((with_reducible apply okm_vr); (· rfl))
          | ((with_reducible apply okm_tupE); (· rfl); (· rfl)) | ((with_reducible apply okm_lstE); (· rfl); (· rfl)) | ((with_reducible apply okm_lstN); (· rfl))
          | ((with_reducible apply op_rfl); (· rfl); (· rfl); (· rfl)) | ((with_reducible apply o1_rfl); (· rfl); (· rfl)) | ((with_reducible apply of_rfl); (· rfl); (· rfl))
          | (with_reducible refine wp_t ?_) | (with_reducible refine wp_f ?_) | (with_reducible refine wp_nt ?_) | (with_reducible refine wp_nf ?_)
          | ((with_reducible apply ex_t); (· rfl)) | ((with_reducible apply ex_f); (· rfl))
          | ((with_reducible apply ex_and4); (· rfl); (· rfl); (· rfl)) | ((with_reducible apply ex_and3); (· rfl); (· rfl)) | ((with_reducible apply ex_and2); (· rfl)) | ((with_reducible apply ex_and); (· rfl))
          | ((with_reducible apply isT_and); (· rfl)) | ((with_reducible apply ex_bm); (· rfl); (· rfl); (· rfl))
          | dsimp only)
        exact hd ⟨12345, 0, by decide, by decide, rfl⟩
      | cons x xs =>
        refine ⟨_, rfl, fun _ => ?_, fun z => by cases z⟩
        repeat (first
          | (with_reducible first | refine okm_ret ?_ | refine okm_cn ?_ | refine okm_op2 ?_ | refine okm_tst ?_ | refine okm_ifE ?_ | refine okm_mnil ?_ | refine okm_mcons ?_ | refine okm_notT ?_ | refine okm_notV ?_ | refine okm_chain ?_ | refine okm_andT ?_ | refine okm_orT ?_ | refine okm_andV ?_ | refine okm_orV ?_ | refine okm_unE ?_ | refine okm_fnE ?_ | refine okm_lenE ?_ | refine okm_ixE ?_ | refine okm_ptN ?_ | refine okm_ptS ?_ | refine okm_slE ?_ | refine okm_bmE ?_ | refine okm_isiE ?_ | refine okm_itE ?_ | refine okm_itN ?_ | refine okm_it1 ?_ | refine okm_lcM ?_ | refine okm_callP ?_ | refine okm_callM ?_ | refine okm_fz ?_ | refine okm_fzD ?_ | refine okm_lmE ?_ | refine okm_spNE ?_ | refine oks_seq ?_ | refine oks_if ?_ | refine oks_set ?_ | refine oks_asg ?_ | refine oks_sret ?_ | refine oks_sexp ?_ | refine oks_snx ?_ | refine oks_for ?_ | refine oks_aug ?_ | refine oks_augS ?_ | refine oks_raise ?_ | refine okm_bnd ?_)
          | ((with_reducible apply okm_vr); (· rfl))
          | ((with_reducible apply okm_tupE); (· rfl); (· rfl)) | ((with_reducible apply okm_lstE); (· rfl); (· rfl)) | ((with_reducible apply okm_lstN); (· rfl))
          | ((with_reducible apply op_rfl); (· rfl); (· rfl); (· rfl)) | ((with_reducible apply o1_rfl); (· rfl); (· rfl)) | ((with_reducible apply of_rfl); (· rfl); (· rfl))
          | (with_reducible refine wp_t ?_) | (with_reducible refine wp_f ?_) | (with_reducible refine wp_nt ?_) | (with_reducible refine wp_nf ?_)
          | ((with_reducible apply ex_t); (· rfl)) | ((with_reducible apply ex_f); (· rfl))
          | ((with_reducible apply ex_and4); (· rfl); (· rfl); (· rfl)) | ((with_reducible apply ex_and3); (· rfl); (· rfl)) | ((with_reducible apply ex_and2); (· rfl)) | ((with_reducible apply ex_and); (· rfl))
          | ((with_reducible apply isT_and); (· rfl)) | ((with_reducible apply ex_bm); (· rfl); (· rfl); (· rfl))
          | dsimp only)
        have hl : 0 < (((x :: xs).map D.int).length : Int) := by
          rw [List.length_map, List.length_cons]
          omega
        have h1 := fmod_pos (i := (n : Int)) hl
        have hi : ((n : Int).fmod (((x :: xs).map D.int).length : Int)).toNat < (x :: xs).length := by
          have h2 := h1.2
          have h3 : (((x :: xs).map D.int).length : Int) = ((x :: xs).length : Int) := by rw [List.length_map]
          omega
        have he : atI ((x :: xs).map D.int) ((n : Int).fmod (((x :: xs).map D.int).length : Int)) = some (.int ((x :: xs)[((n : Int).fmod (((x :: xs).map D.int).length : Int)).toNat])) := by
          have e := atI_nat (xs := (x :: xs).map D.int) (j := ((n : Int).fmod (((x :: xs).map D.int).length : Int)).toNat) (v := .int ((x :: xs)[((n : Int).fmod (((x :: xs).map D.int).length : Int)).toNat])) (by rw [List.getElem?_map, List.getElem?_eq_getElem hi]; rfl)
          rw [Int.toNat_of_nonneg h1.1] at e
          exact e
        refine ⟨_, congrArg (Option.map U.d) he, ?_⟩
        repeat (first
          | (with_reducible first | refine okm_ret ?_ | refine okm_cn ?_ | refine okm_op2 ?_ | refine okm_tst ?_ | refine okm_ifE ?_ | refine okm_mnil ?_ | refine okm_mcons ?_ | refine okm_notT ?_ | refine okm_notV ?_ | refine okm_chain ?_ | refine okm_andT ?_ | refine okm_orT ?_ | refine okm_andV ?_ | refine okm_orV ?_ | refine okm_unE ?_ | refine okm_fnE ?_ | refine okm_lenE ?_ | refine okm_ixE ?_ | refine okm_ptN ?_ | refine okm_ptS ?_ | refine okm_slE ?_ | refine okm_bmE ?_ | refine okm_isiE ?_ | refine okm_itE ?_ | refine okm_itN ?_ | refine okm_it1 ?_ | refine okm_lcM ?_ | refine okm_callP ?_ | refine okm_callM ?_ | refine okm_fz ?_ | refine okm_fzD ?_ | refine okm_lmE ?_ | refine okm_spNE ?_ | refine oks_seq ?_ | refine oks_if ?_ | refine oks_set ?_ | refine oks_asg ?_ | refine oks_sret ?_ | refine oks_sexp ?_ | refine oks_snx ?_ | refine oks_for ?_ | refine oks_aug ?_ | refine oks_augS ?_ | refine oks_raise ?_ | refine okm_bnd ?_)
          | ((with_reducible apply okm_vr); (· rfl))
          | ((with_reducible apply okm_tupE); (· rfl); (· rfl)) | ((with_reducible apply okm_lstE); (· rfl); (· rfl)) | ((with_reducible apply okm_lstN); (· rfl))
          | ((with_reducible apply op_rfl); (· rfl); (· rfl); (· rfl)) | ((with_reducible apply o1_rfl); (· rfl); (· rfl)) | ((with_reducible apply of_rfl); (· rfl); (· rfl))
          | (with_reducible refine wp_t ?_) | (with_reducible refine wp_f ?_) | (with_reducible refine wp_nt ?_) | (with_reducible refine wp_nf ?_)
          | ((with_reducible apply ex_t); (· rfl)) | ((with_reducible apply ex_f); (· rfl))
          | ((with_reducible apply ex_and4); (· rfl); (· rfl); (· rfl)) | ((with_reducible apply ex_and3); (· rfl); (· rfl)) | ((with_reducible apply ex_and2); (· rfl)) | ((with_reducible apply ex_and); (· rfl))
          | ((with_reducible apply isT_and); (· rfl)) | ((with_reducible apply ex_bm); (· rfl); (· rfl); (· rfl))
          | dsimp only)
        refine op_fdiv ⟨hl, ?_⟩ ?_
        · exact Nat.lt_of_le_of_lt (log2_small (n := 64) (k := 10) (by rw [List.length_map]; omega) (by decide)) (by decide)
        repeat (first
          | (with_reducible first | refine okm_ret ?_ | refine okm_cn ?_ | refine okm_op2 ?_ | refine okm_tst ?_ | refine okm_ifE ?_ | refine okm_mnil ?_ | refine okm_mcons ?_ | refine okm_notT ?_ | refine okm_notV ?_ | refine okm_chain ?_ | refine okm_andT ?_ | refine okm_orT ?_ | refine okm_andV ?_ | refine okm_orV ?_ | refine okm_unE ?_ | refine okm_fnE ?_ | refine okm_lenE ?_ | refine okm_ixE ?_ | refine okm_ptN ?_ | refine okm_ptS ?_ | refine okm_slE ?_ | refine okm_bmE ?_ | refine okm_isiE ?_ | refine okm_itE ?_ | refine okm_itN ?_ | refine okm_it1 ?_ | refine okm_lcM ?_ | refine okm_callP ?_ | refine okm_callM ?_ | refine okm_fz ?_ | refine okm_fzD ?_ | refine okm_lmE ?_ | refine okm_spNE ?_ | refine oks_seq ?_ | refine oks_if ?_ | refine oks_set ?_ | refine oks_asg ?_ | refine oks_sret ?_ | refine oks_sexp ?_ | refine oks_snx ?_ | refine oks_for ?_ | refine oks_aug ?_ | refine oks_augS ?_ | refine oks_raise ?_ | refine okm_bnd ?_)
          | ((with_reducible apply okm_vr); (· rfl))
          | ((with_reducible apply okm_tupE); (· rfl); (· rfl)) | ((with_reducible apply okm_lstE); (· rfl); (· rfl)) | ((with_reducible apply okm_lstN); (· rfl))
          | ((with_reducible apply op_rfl); (· rfl); (· rfl); (· rfl)) | ((with_reducible apply o1_rfl); (· rfl); (· rfl)) | ((with_reducible apply of_rfl); (· rfl); (· rfl))
          | (with_reducible refine wp_t ?_) | (with_reducible refine wp_f ?_) | (with_reducible refine wp_nt ?_) | (with_reducible refine wp_nf ?_)
          | ((with_reducible apply ex_t); (· rfl)) | ((with_reducible apply ex_f); (· rfl))
          | ((with_reducible apply ex_and4); (· rfl); (· rfl); (· rfl)) | ((with_reducible apply ex_and3); (· rfl); (· rfl)) | ((with_reducible apply ex_and2); (· rfl)) | ((with_reducible apply ex_and); (· rfl))
          | ((with_reducible apply isT_and); (· rfl)) | ((with_reducible apply ex_bm); (· rfl); (· rfl); (· rfl))
          | dsimp only)
        exact hd ⟨_, _, bits_log (hb _ (List.getElem_mem hi)), Int.ediv_nonneg (by omega) (by omega), rfl⟩
    · rintro δ h ⟨rfl, c, t, hc, ht, rfl⟩
      refine oks_cut (fun δ h => h = [] ∧ Hd (∃ r : Int, δ = [some (.d (.scr ns)), some (.d (.int n)), some (.d (.int r)), none, none, some (.d (.int c)), some (.d (.int t))])) ?_ ?_
      · repeat (first
        | (with_reducible first | refine okm_ret ?_ | refine okm_cn ?_ | refine okm_op2 ?_ | refine okm_tst ?_ | refine okm_ifE ?_ | refine okm_mnil ?_ | refine okm_mcons ?_ | refine okm_notT ?_ | refine okm_notV ?_ | refine okm_chain ?_ | refine okm_andT ?_ | refine okm_orT ?_ | refine okm_andV ?_ | refine okm_orV ?_ | refine okm_unE ?_ | refine okm_fnE ?_ | refine okm_lenE ?_ | refine okm_ixE ?_ | refine okm_ptN ?_ | refine okm_ptS ?_ | refine okm_slE ?_ | refine okm_bmE ?_ | refine okm_isiE ?_ | refine okm_itE ?_ | refine okm_itN ?_ | refine okm_it1 ?_ | refine okm_lcM ?_ | refine okm_callP ?_ | refine okm_callM ?_ | refine okm_fz ?_ | refine okm_fzD ?_ | refine okm_lmE ?_ | refine okm_spNE ?_ | refine oks_seq ?_ | refine oks_if ?_ | refine oks_set ?_ | refine oks_asg ?_ | refine oks_sret ?_ | refine oks_sexp ?_ | refine oks_snx ?_ | refine oks_for ?_ | refine oks_aug ?_ | refine oks_augS ?_ | refine oks_raise ?_ | refine okm_bnd ?_)
        | ((with_reducible apply okm_vr); (· rfl))
        | ((with_reducible apply okm_tupE); (· rfl); (· rfl)) | ((with_reducible apply okm_lstE); (· rfl); (· rfl)) | ((with_reducible apply okm_lstN); (· rfl))
        | ((with_reducible apply op_rfl); (· rfl); (· rfl); (· rfl)) | ((with_reducible apply o1_rfl); (· rfl); (· rfl)) | ((with_reducible apply of_rfl); (· rfl); (· rfl))
        | (with_reducible refine wp_t ?_) | (with_reducible refine wp_f ?_) | (with_reducible refine wp_nt ?_) | (with_reducible refine wp_nf ?_)
        | ((with_reducible apply ex_t); (· rfl)) | ((with_reducible apply ex_f); (· rfl))
        | ((with_reducible apply ex_and4); (· rfl); (· rfl); (· rfl)) | ((with_reducible apply ex_and3); (· rfl); (· rfl)) | ((with_reducible apply ex_and2); (· rfl)) | ((with_reducible apply ex_and); (· rfl))
        | ((with_reducible apply isT_and); (· rfl)) | ((with_reducible apply ex_bm); (· rfl); (· rfl); (· rfl))
        | dsimp only)
        refine ⟨fun _ => ?_, fun _ => ?_⟩
        · repeat (first
          | (with_reducible first | refine okm_ret ?_ | refine okm_cn ?_ | refine okm_op2 ?_ | refine okm_tst ?_ | refine okm_ifE ?_ | refine okm_mnil ?_ | refine okm_mcons ?_ | refine okm_notT ?_ | refine okm_notV ?_ | refine okm_chain ?_ | refine okm_andT ?_ | refine okm_orT ?_ | refine okm_andV ?_ | refine okm_orV ?_ | refine okm_unE ?_ | refine okm_fnE ?_ | refine okm_lenE ?_ | refine okm_ixE ?_ | refine okm_ptN ?_ | refine okm_ptS ?_ | refine okm_slE ?_ | refine okm_bmE ?_ | refine okm_isiE ?_ | refine okm_itE ?_ | refine okm_itN ?_ | refine okm_it1 ?_ | refine okm_lcM ?_ | refine okm_callP ?_ | refine okm_callM ?_ | refine okm_fz ?_ | refine okm_fzD ?_ | refine okm_lmE ?_ | refine okm_spNE ?_ | refine oks_seq ?_ | refine oks_if ?_ | refine oks_set ?_ | refine oks_asg ?_ | refine oks_sret ?_ | refine oks_sexp ?_ | refine oks_snx ?_ | refine oks_for ?_ | refine oks_aug ?_ | refine oks_augS ?_ | refine oks_raise ?_ | refine okm_bnd ?_)
          | ((with_reducible apply okm_vr); (· rfl))
          | ((with_reducible apply okm_tupE); (· rfl); (· rfl)) | ((with_reducible apply okm_lstE); (· rfl); (· rfl)) | ((with_reducible apply okm_lstN); (· rfl))
          | ((with_reducible apply op_rfl); (· rfl); (· rfl); (· rfl)) | ((with_reducible apply o1_rfl); (· rfl); (· rfl)) | ((with_reducible apply of_rfl); (· rfl); (· rfl))
          | (with_reducible refine wp_t ?_) | (with_reducible refine wp_f ?_) | (with_reducible refine wp_nt ?_) | (with_reducible refine wp_nf ?_)
          | ((with_reducible apply ex_t); (· rfl)) | ((with_reducible apply ex_f); (· rfl))
          | ((with_reducible apply ex_and4); (· rfl); (· rfl); (· rfl)) | ((with_reducible apply ex_and3); (· rfl); (· rfl)) | ((with_reducible apply ex_and2); (· rfl)) | ((with_reducible apply ex_and); (· rfl))
          | ((with_reducible apply isT_and); (· rfl)) | ((with_reducible apply ex_bm); (· rfl); (· rfl); (· rfl))
          | dsimp only)
          exact hd ⟨_, rfl⟩
        · repeat (first
          | (with_reducible first | refine okm_ret ?_ | refine okm_cn ?_ | refine okm_op2 ?_ | refine okm_tst ?_ | refine okm_ifE ?_ | refine okm_mnil ?_ | refine okm_mcons ?_ | refine okm_notT ?_ | refine okm_notV ?_ | refine okm_chain ?_ | refine okm_andT ?_ | refine okm_orT ?_ | refine okm_andV ?_ | refine okm_orV ?_ | refine okm_unE ?_ | refine okm_fnE ?_ | refine okm_lenE ?_ | refine okm_ixE ?_ | refine okm_ptN ?_ | refine okm_ptS ?_ | refine okm_slE ?_ | refine okm_bmE ?_ | refine okm_isiE ?_ | refine okm_itE ?_ | refine okm_itN ?_ | refine okm_it1 ?_ | refine okm_lcM ?_ | refine okm_callP ?_ | refine okm_callM ?_ | refine okm_fz ?_ | refine okm_fzD ?_ | refine okm_lmE ?_ | refine okm_spNE ?_ | refine oks_seq ?_ | refine oks_if ?_ | refine oks_set ?_ | refine oks_asg ?_ | refine oks_sret ?_ | refine oks_sexp ?_ | refine oks_snx ?_ | refine oks_for ?_ | refine oks_aug ?_ | refine oks_augS ?_ | refine oks_raise ?_ | refine okm_bnd ?_)
          | ((with_reducible apply okm_vr); (· rfl))
          | ((with_reducible apply okm_tupE); (· rfl); (· rfl)) | ((with_reducible apply okm_lstE); (· rfl); (· rfl)) | ((with_reducible apply okm_lstN); (· rfl))
          | ((with_reducible apply op_rfl); (· rfl); (· rfl); (· rfl)) | ((with_reducible apply o1_rfl); (· rfl); (· rfl)) | ((with_reducible apply of_rfl); (· rfl); (· rfl))
          | (with_reducible refine wp_t ?_) | (with_reducible refine wp_f ?_) | (with_reducible refine wp_nt ?_) | (with_reducible refine wp_nf ?_)
          | ((with_reducible apply ex_t); (· rfl)) | ((with_reducible apply ex_f); (· rfl))
          | ((with_reducible apply ex_and4); (· rfl); (· rfl); (· rfl)) | ((with_reducible apply ex_and3); (· rfl); (· rfl)) | ((with_reducible apply ex_and2); (· rfl)) | ((with_reducible apply ex_and); (· rfl))
          | ((with_reducible apply isT_and); (· rfl)) | ((with_reducible apply ex_bm); (· rfl); (· rfl); (· rfl))
          | dsimp only)
          exact hd ⟨_, rfl⟩
      · rintro δ h ⟨rfl, r, rfl⟩
        refine oks_cut (fun δ h => h = [] ∧ Hd (∃ (r : Int) (s : Option U), δ = [some (.d (.scr ns)), some (.d (.int n)), some (.d (.int r)), s, none, some (.d (.int c)), some (.d (.int t))])) ?_ ?_
        · repeat (first
          | (with_reducible first | refine okm_ret ?_ | refine okm_cn ?_ | refine okm_op2 ?_ | refine okm_tst ?_ | refine okm_ifE ?_ | refine okm_mnil ?_ | refine okm_mcons ?_ | refine okm_notT ?_ | refine okm_notV ?_ | refine okm_chain ?_ | refine okm_andT ?_ | refine okm_orT ?_ | refine okm_andV ?_ | refine okm_orV ?_ | refine okm_unE ?_ | refine okm_fnE ?_ | refine okm_lenE ?_ | refine okm_ixE ?_ | refine okm_ptN ?_ | refine okm_ptS ?_ | refine okm_slE ?_ | refine okm_bmE ?_ | refine okm_isiE ?_ | refine okm_itE ?_ | refine okm_itN ?_ | refine okm_it1 ?_ | refine okm_lcM ?_ | refine okm_callP ?_ | refine okm_callM ?_ | refine okm_fz ?_ | refine okm_fzD ?_ | refine okm_lmE ?_ | refine okm_spNE ?_ | refine oks_seq ?_ | refine oks_if ?_ | refine oks_set ?_ | refine oks_asg ?_ | refine oks_sret ?_ | refine oks_sexp ?_ | refine oks_snx ?_ | refine oks_for ?_ | refine oks_aug ?_ | refine oks_augS ?_ | refine oks_raise ?_ | refine okm_bnd ?_)
          | ((with_reducible apply okm_vr); (· rfl))
          | ((with_reducible apply okm_tupE); (· rfl); (· rfl)) | ((with_reducible apply okm_lstE); (· rfl); (· rfl)) | ((with_reducible apply okm_lstN); (· rfl))
          | ((with_reducible apply op_rfl); (· rfl); (· rfl); (· rfl)) | ((with_reducible apply o1_rfl); (· rfl); (· rfl)) | ((with_reducible apply of_rfl); (· rfl); (· rfl))
          | (with_reducible refine wp_t ?_) | (with_reducible refine wp_f ?_) | (with_reducible refine wp_nt ?_) | (with_reducible refine wp_nf ?_)
          | ((with_reducible apply ex_t); (· rfl)) | ((with_reducible apply ex_f); (· rfl))
          | ((with_reducible apply ex_and4); (· rfl); (· rfl); (· rfl)) | ((with_reducible apply ex_and3); (· rfl); (· rfl)) | ((with_reducible apply ex_and2); (· rfl)) | ((with_reducible apply ex_and); (· rfl))
          | ((with_reducible apply isT_and); (· rfl)) | ((with_reducible apply ex_bm); (· rfl); (· rfl); (· rfl))
          | dsimp only)
          have h1 := fmod_pos (i := t) (j := 60) (by decide)
          have h2 : rng62 (t.fmod 60) = true := decide_eq_true (by omega)
          refine ⟨_, if_pos h2, ?_⟩
          refine forL_rule (fun _ δ h => h = [] ∧ ∃ (r : Int) (s : Option U), δ = [some (.d (.scr ns)), some (.d (.int n)), some (.d (.int r)), s, none, some (.d (.int c)), some (.d (.int t))]) ?_ ?_ _ _ _ ⟨rfl, r, none, rfl⟩
          · rintro x rest δ h ⟨rfl, r, s, rfl⟩
            refine ⟨_, _, rfl, ?_⟩
            repeat (first
              | (with_reducible first | refine okm_ret ?_ | refine okm_cn ?_ | refine okm_op2 ?_ | refine okm_tst ?_ | refine okm_ifE ?_ | refine okm_mnil ?_ | refine okm_mcons ?_ | refine okm_notT ?_ | refine okm_notV ?_ | refine okm_chain ?_ | refine okm_andT ?_ | refine okm_orT ?_ | refine okm_andV ?_ | refine okm_orV ?_ | refine okm_unE ?_ | refine okm_fnE ?_ | refine okm_lenE ?_ | refine okm_ixE ?_ | refine okm_ptN ?_ | refine okm_ptS ?_ | refine okm_slE ?_ | refine okm_bmE ?_ | refine okm_isiE ?_ | refine okm_itE ?_ | refine okm_itN ?_ | refine okm_it1 ?_ | refine okm_lcM ?_ | refine okm_callP ?_ | refine okm_callM ?_ | refine okm_fz ?_ | refine okm_fzD ?_ | refine okm_lmE ?_ | refine okm_spNE ?_ | refine oks_seq ?_ | refine oks_if ?_ | refine oks_set ?_ | refine oks_asg ?_ | refine oks_sret ?_ | refine oks_sexp ?_ | refine oks_snx ?_ | refine oks_for ?_ | refine oks_aug ?_ | refine oks_augS ?_ | refine oks_raise ?_ | refine okm_bnd ?_)
              | ((with_reducible apply okm_vr); (· rfl))
              | ((with_reducible apply okm_tupE); (· rfl); (· rfl)) | ((with_reducible apply okm_lstE); (· rfl); (· rfl)) | ((with_reducible apply okm_lstN); (· rfl))
              | ((with_reducible apply op_rfl); (· rfl); (· rfl); (· rfl)) | ((with_reducible apply o1_rfl); (· rfl); (· rfl)) | ((with_reducible apply of_rfl); (· rfl); (· rfl))
              | (with_reducible refine wp_t ?_) | (with_reducible refine wp_f ?_) | (with_reducible refine wp_nt ?_) | (with_reducible refine wp_nf ?_)
              | ((with_reducible apply ex_t); (· rfl)) | ((with_reducible apply ex_f); (· rfl))
              | ((with_reducible apply ex_and4); (· rfl); (· rfl); (· rfl)) | ((with_reducible apply ex_and3); (· rfl); (· rfl)) | ((with_reducible apply ex_and2); (· rfl)) | ((with_reducible apply ex_and); (· rfl))
              | ((with_reducible apply isT_and); (· rfl)) | ((with_reducible apply ex_bm); (· rfl); (· rfl); (· rfl))
              | dsimp only)
            exact ⟨rfl, _, _, rfl⟩
          · rintro δ h ⟨rfl, r, s, rfl⟩
            exact ⟨_, _, rfl, rfl, r, s, rfl⟩
        · rintro δ h ⟨rfl, r, s, rfl⟩
          repeat (first
            | (with_reducible first | refine okm_ret ?_ | refine okm_cn ?_ | refine okm_op2 ?_ | refine okm_tst ?_ | refine okm_ifE ?_ | refine okm_mnil ?_ | refine okm_mcons ?_ | refine okm_notT ?_ | refine okm_notV ?_ | refine okm_chain ?_ | refine okm_andT ?_ | refine okm_orT ?_ | refine okm_andV ?_ | refine okm_orV ?_ | refine okm_unE ?_ | refine okm_fnE ?_ | refine okm_lenE ?_ | refine okm_ixE ?_ | refine okm_ptN ?_ | refine okm_ptS ?_ | refine okm_slE ?_ | refine okm_bmE ?_ | refine okm_isiE ?_ | refine okm_itE ?_ | refine okm_itN ?_ | refine okm_it1 ?_ | refine okm_lcM ?_ | refine okm_callP ?_ | refine okm_callM ?_ | refine okm_fz ?_ | refine okm_fzD ?_ | refine okm_lmE ?_ | refine okm_spNE ?_ | refine oks_seq ?_ | refine oks_if ?_ | refine oks_set ?_ | refine oks_asg ?_ | refine oks_sret ?_ | refine oks_sexp ?_ | refine oks_snx ?_ | refine oks_for ?_ | refine oks_aug ?_ | refine oks_augS ?_ | refine oks_raise ?_ | refine okm_bnd ?_)
            | ((with_reducible apply okm_vr); (· rfl))
            | ((with_reducible apply okm_tupE); (· rfl); (· rfl)) | ((with_reducible apply okm_lstE); (· rfl); (· rfl)) | ((with_reducible apply okm_lstN); (· rfl))
            | ((with_reducible apply op_rfl); (· rfl); (· rfl); (· rfl)) | ((with_reducible apply o1_rfl); (· rfl); (· rfl)) | ((with_reducible apply of_rfl); (· rfl); (· rfl))
            | (with_reducible refine wp_t ?_) | (with_reducible refine wp_f ?_) | (with_reducible refine wp_nt ?_) | (with_reducible refine wp_nf ?_)
            | ((with_reducible apply ex_t); (· rfl)) | ((with_reducible apply ex_f); (· rfl))
            | ((with_reducible apply ex_and4); (· rfl); (· rfl); (· rfl)) | ((with_reducible apply ex_and3); (· rfl); (· rfl)) | ((with_reducible apply ex_and2); (· rfl)) | ((with_reducible apply ex_and); (· rfl))
            | ((with_reducible apply isT_and); (· rfl)) | ((with_reducible apply ex_bm); (· rfl); (· rfl); (· rfl))
            | dsimp only)
          refine ⟨fun hr => ?_, fun hr => ?_⟩
          · repeat (first
            | (with_reducible first | refine okm_ret ?_ | refine okm_cn ?_ | refine okm_op2 ?_ | refine okm_tst ?_ | refine okm_ifE ?_ | refine okm_mnil ?_ | refine okm_mcons ?_ | refine okm_notT ?_ | refine okm_notV ?_ | refine okm_chain ?_ | refine okm_andT ?_ | refine okm_orT ?_ | refine okm_andV ?_ | refine okm_orV ?_ | refine okm_unE ?_ | refine okm_fnE ?_ | refine okm_lenE ?_ | refine okm_ixE ?_ | refine okm_ptN ?_ | refine okm_ptS ?_ | refine okm_slE ?_ | refine okm_bmE ?_ | refine okm_isiE ?_ | refine okm_itE ?_ | refine okm_itN ?_ | refine okm_it1 ?_ | refine okm_lcM ?_ | refine okm_callP ?_ | refine okm_callM ?_ | refine okm_fz ?_ | refine okm_fzD ?_ | refine okm_lmE ?_ | refine okm_spNE ?_ | refine oks_seq ?_ | refine oks_if ?_ | refine oks_set ?_ | refine oks_asg ?_ | refine oks_sret ?_ | refine oks_sexp ?_ | refine oks_snx ?_ | refine oks_for ?_ | refine oks_aug ?_ | refine oks_augS ?_ | refine oks_raise ?_ | refine okm_bnd ?_)
            | ((with_reducible apply okm_vr); (· rfl))
            | ((with_reducible apply okm_tupE); (· rfl); (· rfl)) | ((with_reducible apply okm_lstE); (· rfl); (· rfl)) | ((with_reducible apply okm_lstN); (· rfl))
            | ((with_reducible apply op_rfl); (· rfl); (· rfl); (· rfl)) | ((with_reducible apply o1_rfl); (· rfl); (· rfl)) | ((with_reducible apply of_rfl); (· rfl); (· rfl))
            | (with_reducible refine wp_t ?_) | (with_reducible refine wp_f ?_) | (with_reducible refine wp_nt ?_) | (with_reducible refine wp_nf ?_)
            | ((with_reducible apply ex_t); (· rfl)) | ((with_reducible apply ex_f); (· rfl))
            | ((with_reducible apply ex_and4); (· rfl); (· rfl); (· rfl)) | ((with_reducible apply ex_and3); (· rfl); (· rfl)) | ((with_reducible apply ex_and2); (· rfl)) | ((with_reducible apply ex_and); (· rfl))
            | ((with_reducible apply isT_and); (· rfl)) | ((with_reducible apply ex_bm); (· rfl); (· rfl); (· rfl))
            | dsimp only)
            exact hd ⟨_, (fmod_pos (i := r) (j := 1009) (by decide)).1, rfl⟩
          · repeat (first
            | (with_reducible first | refine okm_ret ?_ | refine okm_cn ?_ | refine okm_op2 ?_ | refine okm_tst ?_ | refine okm_ifE ?_ | refine okm_mnil ?_ | refine okm_mcons ?_ | refine okm_notT ?_ | refine okm_notV ?_ | refine okm_chain ?_ | refine okm_andT ?_ | refine okm_orT ?_ | refine okm_andV ?_ | refine okm_orV ?_ | refine okm_unE ?_ | refine okm_fnE ?_ | refine okm_lenE ?_ | refine okm_ixE ?_ | refine okm_ptN ?_ | refine okm_ptS ?_ | refine okm_slE ?_ | refine okm_bmE ?_ | refine okm_isiE ?_ | refine okm_itE ?_ | refine okm_itN ?_ | refine okm_it1 ?_ | refine okm_lcM ?_ | refine okm_callP ?_ | refine okm_callM ?_ | refine okm_fz ?_ | refine okm_fzD ?_ | refine okm_lmE ?_ | refine okm_spNE ?_ | refine oks_seq ?_ | refine oks_if ?_ | refine oks_set ?_ | refine oks_asg ?_ | refine oks_sret ?_ | refine oks_sexp ?_ | refine oks_snx ?_ | refine oks_for ?_ | refine oks_aug ?_ | refine oks_augS ?_ | refine oks_raise ?_ | refine okm_bnd ?_)
            | ((with_reducible apply okm_vr); (· rfl))
            | ((with_reducible apply okm_tupE); (· rfl); (· rfl)) | ((with_reducible apply okm_lstE); (· rfl); (· rfl)) | ((with_reducible apply okm_lstN); (· rfl))
            | ((with_reducible apply op_rfl); (· rfl); (· rfl); (· rfl)) | ((with_reducible apply o1_rfl); (· rfl); (· rfl)) | ((with_reducible apply of_rfl); (· rfl); (· rfl))
            | (with_reducible refine wp_t ?_) | (with_reducible refine wp_f ?_) | (with_reducible refine wp_nt ?_) | (with_reducible refine wp_nf ?_)
            | ((with_reducible apply ex_t); (· rfl)) | ((with_reducible apply ex_f); (· rfl))
            | ((with_reducible apply ex_and4); (· rfl); (· rfl); (· rfl)) | ((with_reducible apply ex_and3); (· rfl); (· rfl)) | ((with_reducible apply ex_and2); (· rfl)) | ((with_reducible apply ex_and); (· rfl))
            | ((with_reducible apply isT_and); (· rfl)) | ((with_reducible apply ex_bm); (· rfl); (· rfl); (· rfl))
            | dsimp only)
            have e1 : ((n : Int)).natAbs.log2 ≤ 30 := log2_small (n := 1000000001) (by omega) (by decide)
            refine op_mul (mulb (log2_lit 9 (by decide)) e1 (by decide)) ?_
            repeat (first
              | (with_reducible first | refine okm_ret ?_ | refine okm_cn ?_ | refine okm_op2 ?_ | refine okm_tst ?_ | refine okm_ifE ?_ | refine okm_mnil ?_ | refine okm_mcons ?_ | refine okm_notT ?_ | refine okm_notV ?_ | refine okm_chain ?_ | refine okm_andT ?_ | refine okm_orT ?_ | refine okm_andV ?_ | refine okm_orV ?_ | refine okm_unE ?_ | refine okm_fnE ?_ | refine okm_lenE ?_ | refine okm_ixE ?_ | refine okm_ptN ?_ | refine okm_ptS ?_ | refine okm_slE ?_ | refine okm_bmE ?_ | refine okm_isiE ?_ | refine okm_itE ?_ | refine okm_itN ?_ | refine okm_it1 ?_ | refine okm_lcM ?_ | refine okm_callP ?_ | refine okm_callM ?_ | refine okm_fz ?_ | refine okm_fzD ?_ | refine okm_lmE ?_ | refine okm_spNE ?_ | refine oks_seq ?_ | refine oks_if ?_ | refine oks_set ?_ | refine oks_asg ?_ | refine oks_sret ?_ | refine oks_sexp ?_ | refine oks_snx ?_ | refine oks_for ?_ | refine oks_aug ?_ | refine oks_augS ?_ | refine oks_raise ?_ | refine okm_bnd ?_)
              | ((with_reducible apply okm_vr); (· rfl))
              | ((with_reducible apply okm_tupE); (· rfl); (· rfl)) | ((with_reducible apply okm_lstE); (· rfl); (· rfl)) | ((with_reducible apply okm_lstN); (· rfl))
              | ((with_reducible apply op_rfl); (· rfl); (· rfl); (· rfl)) | ((with_reducible apply o1_rfl); (· rfl); (· rfl)) | ((with_reducible apply of_rfl); (· rfl); (· rfl))
              | (with_reducible refine wp_t ?_) | (with_reducible refine wp_f ?_) | (with_reducible refine wp_nt ?_) | (with_reducible refine wp_nf ?_)
              | ((with_reducible apply ex_t); (· rfl)) | ((with_reducible apply ex_f); (· rfl))
              | ((with_reducible apply ex_and4); (· rfl); (· rfl); (· rfl)) | ((with_reducible apply ex_and3); (· rfl); (· rfl)) | ((with_reducible apply ex_and2); (· rfl)) | ((with_reducible apply ex_and); (· rfl))
              | ((with_reducible apply isT_and); (· rfl)) | ((with_reducible apply ex_bm); (· rfl); (· rfl); (· rfl))
              | dsimp only)
            have g1 : (c + 977 * (n : Int)).natAbs.log2 ≤ 1048577 := log2_add hc (log2_small (n := 1000000000000) (k := 1048576) (by omega) (Nat.le_trans (by decide : 1000000000000 ≤ 2 ^ 40) (Nat.pow_le_pow_right (by decide) (by decide))))
            refine op_mul (mulb g1 (log2_lit 15 (by decide)) (by decide)) ?_
            repeat (first
              | (with_reducible first | refine okm_ret ?_ | refine okm_cn ?_ | refine okm_op2 ?_ | refine okm_tst ?_ | refine okm_ifE ?_ | refine okm_mnil ?_ | refine okm_mcons ?_ | refine okm_notT ?_ | refine okm_notV ?_ | refine okm_chain ?_ | refine okm_andT ?_ | refine okm_orT ?_ | refine okm_andV ?_ | refine okm_orV ?_ | refine okm_unE ?_ | refine okm_fnE ?_ | refine okm_lenE ?_ | refine okm_ixE ?_ | refine okm_ptN ?_ | refine okm_ptS ?_ | refine okm_slE ?_ | refine okm_bmE ?_ | refine okm_isiE ?_ | refine okm_itE ?_ | refine okm_itN ?_ | refine okm_it1 ?_ | refine okm_lcM ?_ | refine okm_callP ?_ | refine okm_callM ?_ | refine okm_fz ?_ | refine okm_fzD ?_ | refine okm_lmE ?_ | refine okm_spNE ?_ | refine oks_seq ?_ | refine oks_if ?_ | refine oks_set ?_ | refine oks_asg ?_ | refine oks_sret ?_ | refine oks_sexp ?_ | refine oks_snx ?_ | refine oks_for ?_ | refine oks_aug ?_ | refine oks_augS ?_ | refine oks_raise ?_ | refine okm_bnd ?_)
              | ((with_reducible apply okm_vr); (· rfl))
              | ((with_reducible apply okm_tupE); (· rfl); (· rfl)) | ((with_reducible apply okm_lstE); (· rfl); (· rfl)) | ((with_reducible apply okm_lstN); (· rfl))
              | ((with_reducible apply op_rfl); (· rfl); (· rfl); (· rfl)) | ((with_reducible apply o1_rfl); (· rfl); (· rfl)) | ((with_reducible apply of_rfl); (· rfl); (· rfl))
              | (with_reducible refine wp_t ?_) | (with_reducible refine wp_f ?_) | (with_reducible refine wp_nt ?_) | (with_reducible refine wp_nf ?_)
              | ((with_reducible apply ex_t); (· rfl)) | ((with_reducible apply ex_f); (· rfl))
              | ((with_reducible apply ex_and4); (· rfl); (· rfl); (· rfl)) | ((with_reducible apply ex_and3); (· rfl); (· rfl)) | ((with_reducible apply ex_and2); (· rfl)) | ((with_reducible apply ex_and); (· rfl))
              | ((with_reducible apply isT_and); (· rfl)) | ((with_reducible apply ex_bm); (· rfl); (· rfl); (· rfl))
              | dsimp only)
            have g2 : (((ns.map D.int).length : Nat) : Int).natAbs.log2 ≤ 10 := log2_small (n := 64) (by rw [List.length_map]; omega) (by decide)
            refine op_mul (mulb (log2_lit 4 (by decide)) g2 (by decide)) ?_
            repeat (first
              | (with_reducible first | refine okm_ret ?_ | refine okm_cn ?_ | refine okm_op2 ?_ | refine okm_tst ?_ | refine okm_ifE ?_ | refine okm_mnil ?_ | refine okm_mcons ?_ | refine okm_notT ?_ | refine okm_notV ?_ | refine okm_chain ?_ | refine okm_andT ?_ | refine okm_orT ?_ | refine okm_andV ?_ | refine okm_orV ?_ | refine okm_unE ?_ | refine okm_fnE ?_ | refine okm_lenE ?_ | refine okm_ixE ?_ | refine okm_ptN ?_ | refine okm_ptS ?_ | refine okm_slE ?_ | refine okm_bmE ?_ | refine okm_isiE ?_ | refine okm_itE ?_ | refine okm_itN ?_ | refine okm_it1 ?_ | refine okm_lcM ?_ | refine okm_callP ?_ | refine okm_callM ?_ | refine okm_fz ?_ | refine okm_fzD ?_ | refine okm_lmE ?_ | refine okm_spNE ?_ | refine oks_seq ?_ | refine oks_if ?_ | refine oks_set ?_ | refine oks_asg ?_ | refine oks_sret ?_ | refine oks_sexp ?_ | refine oks_snx ?_ | refine oks_for ?_ | refine oks_aug ?_ | refine oks_augS ?_ | refine oks_raise ?_ | refine okm_bnd ?_)
              | ((with_reducible apply okm_vr); (· rfl))
              | ((with_reducible apply okm_tupE); (· rfl); (· rfl)) | ((with_reducible apply okm_lstE); (· rfl); (· rfl)) | ((with_reducible apply okm_lstN); (· rfl))
              | ((with_reducible apply op_rfl); (· rfl); (· rfl); (· rfl)) | ((with_reducible apply o1_rfl); (· rfl); (· rfl)) | ((with_reducible apply of_rfl); (· rfl); (· rfl))
              | (with_reducible refine wp_t ?_) | (with_reducible refine wp_f ?_) | (with_reducible refine wp_nt ?_) | (with_reducible refine wp_nf ?_)
              | ((with_reducible apply ex_t); (· rfl)) | ((with_reducible apply ex_f); (· rfl))
              | ((with_reducible apply ex_and4); (· rfl); (· rfl); (· rfl)) | ((with_reducible apply ex_and3); (· rfl); (· rfl)) | ((with_reducible apply ex_and2); (· rfl)) | ((with_reducible apply ex_and); (· rfl))
              | ((with_reducible apply isT_and); (· rfl)) | ((with_reducible apply ex_bm); (· rfl); (· rfl); (· rfl))
              | dsimp only)
            refine op_mul (mulb (fmod_log2 30 (by decide) (by decide)) (fmod_log2 30 (by decide) (by decide)) (by decide)) ?_
            repeat (first
              | (with_reducible first | refine okm_ret ?_ | refine okm_cn ?_ | refine okm_op2 ?_ | refine okm_tst ?_ | refine okm_ifE ?_ | refine okm_mnil ?_ | refine okm_mcons ?_ | refine okm_notT ?_ | refine okm_notV ?_ | refine okm_chain ?_ | refine okm_andT ?_ | refine okm_orT ?_ | refine okm_andV ?_ | refine okm_orV ?_ | refine okm_unE ?_ | refine okm_fnE ?_ | refine okm_lenE ?_ | refine okm_ixE ?_ | refine okm_ptN ?_ | refine okm_ptS ?_ | refine okm_slE ?_ | refine okm_bmE ?_ | refine okm_isiE ?_ | refine okm_itE ?_ | refine okm_itN ?_ | refine okm_it1 ?_ | refine okm_lcM ?_ | refine okm_callP ?_ | refine okm_callM ?_ | refine okm_fz ?_ | refine okm_fzD ?_ | refine okm_lmE ?_ | refine okm_spNE ?_ | refine oks_seq ?_ | refine oks_if ?_ | refine oks_set ?_ | refine oks_asg ?_ | refine oks_sret ?_ | refine oks_sexp ?_ | refine oks_snx ?_ | refine oks_for ?_ | refine oks_aug ?_ | refine oks_augS ?_ | refine oks_raise ?_ | refine okm_bnd ?_)
              | ((with_reducible apply okm_vr); (· rfl))
              | ((with_reducible apply okm_tupE); (· rfl); (· rfl)) | ((with_reducible apply okm_lstE); (· rfl); (· rfl)) | ((with_reducible apply okm_lstN); (· rfl))
              | ((with_reducible apply op_rfl); (· rfl); (· rfl); (· rfl)) | ((with_reducible apply o1_rfl); (· rfl); (· rfl)) | ((with_reducible apply of_rfl); (· rfl); (· rfl))
              | (with_reducible refine wp_t ?_) | (with_reducible refine wp_f ?_) | (with_reducible refine wp_nt ?_) | (with_reducible refine wp_nf ?_)
              | ((with_reducible apply ex_t); (· rfl)) | ((with_reducible apply ex_f); (· rfl))
              | ((with_reducible apply ex_and4); (· rfl); (· rfl); (· rfl)) | ((with_reducible apply ex_and3); (· rfl); (· rfl)) | ((with_reducible apply ex_and2); (· rfl)) | ((with_reducible apply ex_and); (· rfl))
              | ((with_reducible apply isT_and); (· rfl)) | ((with_reducible apply ex_bm); (· rfl); (· rfl); (· rfl))
              | dsimp only)
            refine op_mul (mulb (log2_lit 15 (by decide)) e1 (by decide)) ?_
            repeat (first
              | (with_reducible first | refine okm_ret ?_ | refine okm_cn ?_ | refine okm_op2 ?_ | refine okm_tst ?_ | refine okm_ifE ?_ | refine okm_mnil ?_ | refine okm_mcons ?_ | refine okm_notT ?_ | refine okm_notV ?_ | refine okm_chain ?_ | refine okm_andT ?_ | refine okm_orT ?_ | refine okm_andV ?_ | refine okm_orV ?_ | refine okm_unE ?_ | refine okm_fnE ?_ | refine okm_lenE ?_ | refine okm_ixE ?_ | refine okm_ptN ?_ | refine okm_ptS ?_ | refine okm_slE ?_ | refine okm_bmE ?_ | refine okm_isiE ?_ | refine okm_itE ?_ | refine okm_itN ?_ | refine okm_it1 ?_ | refine okm_lcM ?_ | refine okm_callP ?_ | refine okm_callM ?_ | refine okm_fz ?_ | refine okm_fzD ?_ | refine okm_lmE ?_ | refine okm_spNE ?_ | refine oks_seq ?_ | refine oks_if ?_ | refine oks_set ?_ | refine oks_asg ?_ | refine oks_sret ?_ | refine oks_sexp ?_ | refine oks_snx ?_ | refine oks_for ?_ | refine oks_aug ?_ | refine oks_augS ?_ | refine oks_raise ?_ | refine okm_bnd ?_)
              | ((with_reducible apply okm_vr); (· rfl))
              | ((with_reducible apply okm_tupE); (· rfl); (· rfl)) | ((with_reducible apply okm_lstE); (· rfl); (· rfl)) | ((with_reducible apply okm_lstN); (· rfl))
              | ((with_reducible apply op_rfl); (· rfl); (· rfl); (· rfl)) | ((with_reducible apply o1_rfl); (· rfl); (· rfl)) | ((with_reducible apply of_rfl); (· rfl); (· rfl))
              | (with_reducible refine wp_t ?_) | (with_reducible refine wp_f ?_) | (with_reducible refine wp_nt ?_) | (with_reducible refine wp_nf ?_)
              | ((with_reducible apply ex_t); (· rfl)) | ((with_reducible apply ex_f); (· rfl))
              | ((with_reducible apply ex_and4); (· rfl); (· rfl); (· rfl)) | ((with_reducible apply ex_and3); (· rfl); (· rfl)) | ((with_reducible apply ex_and2); (· rfl)) | ((with_reducible apply ex_and); (· rfl))
              | ((with_reducible apply isT_and); (· rfl)) | ((with_reducible apply ex_bm); (· rfl); (· rfl); (· rfl))
              | dsimp only)
            refine op_mul (mulb (fmod_log2 30 (by decide) (by decide)) (log2_lit 16 (by decide)) (by decide)) ?_
            repeat (first
              | (with_reducible first | refine okm_ret ?_ | refine okm_cn ?_ | refine okm_op2 ?_ | refine okm_tst ?_ | refine okm_ifE ?_ | refine okm_mnil ?_ | refine okm_mcons ?_ | refine okm_notT ?_ | refine okm_notV ?_ | refine okm_chain ?_ | refine okm_andT ?_ | refine okm_orT ?_ | refine okm_andV ?_ | refine okm_orV ?_ | refine okm_unE ?_ | refine okm_fnE ?_ | refine okm_lenE ?_ | refine okm_ixE ?_ | refine okm_ptN ?_ | refine okm_ptS ?_ | refine okm_slE ?_ | refine okm_bmE ?_ | refine okm_isiE ?_ | refine okm_itE ?_ | refine okm_itN ?_ | refine okm_it1 ?_ | refine okm_lcM ?_ | refine okm_callP ?_ | refine okm_callM ?_ | refine okm_fz ?_ | refine okm_fzD ?_ | refine okm_lmE ?_ | refine okm_spNE ?_ | refine oks_seq ?_ | refine oks_if ?_ | refine oks_set ?_ | refine oks_asg ?_ | refine oks_sret ?_ | refine oks_sexp ?_ | refine oks_snx ?_ | refine oks_for ?_ | refine oks_aug ?_ | refine oks_augS ?_ | refine oks_raise ?_ | refine okm_bnd ?_)
              | ((with_reducible apply okm_vr); (· rfl))
              | ((with_reducible apply okm_tupE); (· rfl); (· rfl)) | ((with_reducible apply okm_lstE); (· rfl); (· rfl)) | ((with_reducible apply okm_lstN); (· rfl))
              | ((with_reducible apply op_rfl); (· rfl); (· rfl); (· rfl)) | ((with_reducible apply o1_rfl); (· rfl); (· rfl)) | ((with_reducible apply of_rfl); (· rfl); (· rfl))
              | (with_reducible refine wp_t ?_) | (with_reducible refine wp_f ?_) | (with_reducible refine wp_nt ?_) | (with_reducible refine wp_nf ?_)
              | ((with_reducible apply ex_t); (· rfl)) | ((with_reducible apply ex_f); (· rfl))
              | ((with_reducible apply ex_and4); (· rfl); (· rfl); (· rfl)) | ((with_reducible apply ex_and3); (· rfl); (· rfl)) | ((with_reducible apply ex_and2); (· rfl)) | ((with_reducible apply ex_and); (· rfl))
              | ((with_reducible apply isT_and); (· rfl)) | ((with_reducible apply ex_bm); (· rfl); (· rfl); (· rfl))
              | dsimp only)
            exact hd ⟨_, (fmod_pos (by decide)).1, rfl⟩
  obtain ⟨x, h', e, z, hz, rfl⟩ := key
  exact ⟨z, hz, h', e⟩
/-- where the draws stand: at the n-th one -/
def Dr (ns : List Int) (n : Nat) : O := .lst [.d (.scr ns), .d (.int n)]
theorem take_ok {ns : List Int} (hl : ns.length ≤ 63) (hb : ∀ z ∈ ns, Builtin.Int.intBits z ≤ 1048576) {n : Nat} (hn : n < 1000000000) {h : Hea} {k : Nat} (hk : h[k]? = some (Dr ns n)) {m : Int} (hm : 0 < m) :
    ∃ z : Int, 0 ≤ z ∧ z < m ∧ f__law_take [.loc k, .d (.int m)] h = some (.ok (.d (.int z)) (h.set k (Dr ns (n + 1)))) := by
  have hlt : k < h.length := (List.getElem?_eq_some_iff.mp hk).1
  have key : ∃ x h', fnM 2 b__law_take [.loc k, .d (.int m)] h = some (.ok (.d x) h') ∧ h'.length = h.length ∧ Hd (∃ z : Int, 0 ≤ z ∧ z < m ∧ x = .int z ∧ h' = h.set k (Dr ns (n + 1))) := by
    refine fnM_keep ?_
    show OkS b__law_take [some (.loc k), some (.d (.int m))] h _
    unfold b__law_take
    refine oks_cut (fun δ h' => δ = [some (.loc k), some (.d (.int m))] ∧ h' = h.set k (Dr ns (n + 1))) ?_ ?_
    · repeat (first
      | (with_reducible first | refine okm_ret ?_ | refine okm_cn ?_ | refine okm_op2 ?_ | refine okm_tst ?_ | refine okm_ifE ?_ | refine okm_mnil ?_ | refine okm_mcons ?_ | refine okm_notT ?_ | refine okm_notV ?_ | refine okm_chain ?_ | refine okm_andT ?_ | refine okm_orT ?_ | refine okm_andV ?_ | refine okm_orV ?_ | refine okm_unE ?_ | refine okm_fnE ?_ | refine okm_lenE ?_ | refine okm_ixE ?_ | refine okm_ptN ?_ | refine okm_ptS ?_ | refine okm_slE ?_ | refine okm_bmE ?_ | refine okm_isiE ?_ | refine okm_itE ?_ | refine okm_itN ?_ | refine okm_it1 ?_ | refine okm_lcM ?_ | refine okm_callP ?_ | refine okm_callM ?_ | refine okm_fz ?_ | refine okm_fzD ?_ | refine okm_lmE ?_ | refine okm_spNE ?_ | refine oks_seq ?_ | refine oks_if ?_ | refine oks_set ?_ | refine oks_asg ?_ | refine oks_sret ?_ | refine oks_sexp ?_ | refine oks_snx ?_ | refine oks_for ?_ | refine oks_aug ?_ | refine oks_augS ?_ | refine oks_raise ?_ | refine okm_bnd ?_)
      | ((with_reducible apply okm_vr); (· rfl))
      | ((with_reducible apply okm_tupE); (· rfl); (· rfl)) | ((with_reducible apply okm_lstE); (· rfl); (· rfl)) | ((with_reducible apply okm_lstN); (· rfl))
      | ((with_reducible apply op_rfl); (· rfl); (· rfl); (· rfl)) | ((with_reducible apply o1_rfl); (· rfl); (· rfl)) | ((with_reducible apply of_rfl); (· rfl); (· rfl))
      | (with_reducible refine wp_t ?_) | (with_reducible refine wp_f ?_) | (with_reducible refine wp_nt ?_) | (with_reducible refine wp_nf ?_)
      | ((with_reducible apply ex_t); (· rfl)) | ((with_reducible apply ex_f); (· rfl))
      | ((with_reducible apply ex_and4); (· rfl); (· rfl); (· rfl)) | ((with_reducible apply ex_and3); (· rfl); (· rfl)) | ((with_reducible apply ex_and2); (· rfl)) | ((with_reducible apply ex_and); (· rfl))
      | ((with_reducible apply isT_and); (· rfl)) | ((with_reducible apply ex_bm); (· rfl); (· rfl); (· rfl))
      | dsimp only)
      refine ⟨.d (.int n), by unfold getU; simp only [hk]; rfl, ?_⟩
      repeat (first
        | (with_reducible first | refine okm_ret ?_ | refine okm_cn ?_ | refine okm_op2 ?_ | refine okm_tst ?_ | refine okm_ifE ?_ | refine okm_mnil ?_ | refine okm_mcons ?_ | refine okm_notT ?_ | refine okm_notV ?_ | refine okm_chain ?_ | refine okm_andT ?_ | refine okm_orT ?_ | refine okm_andV ?_ | refine okm_orV ?_ | refine okm_unE ?_ | refine okm_fnE ?_ | refine okm_lenE ?_ | refine okm_ixE ?_ | refine okm_ptN ?_ | refine okm_ptS ?_ | refine okm_slE ?_ | refine okm_bmE ?_ | refine okm_isiE ?_ | refine okm_itE ?_ | refine okm_itN ?_ | refine okm_it1 ?_ | refine okm_lcM ?_ | refine okm_callP ?_ | refine okm_callM ?_ | refine okm_fz ?_ | refine okm_fzD ?_ | refine okm_lmE ?_ | refine okm_spNE ?_ | refine oks_seq ?_ | refine oks_if ?_ | refine oks_set ?_ | refine oks_asg ?_ | refine oks_sret ?_ | refine oks_sexp ?_ | refine oks_snx ?_ | refine oks_for ?_ | refine oks_aug ?_ | refine oks_augS ?_ | refine oks_raise ?_ | refine okm_bnd ?_)
        | ((with_reducible apply okm_vr); (· rfl))
        | ((with_reducible apply okm_tupE); (· rfl); (· rfl)) | ((with_reducible apply okm_lstE); (· rfl); (· rfl)) | ((with_reducible apply okm_lstN); (· rfl))
        | ((with_reducible apply op_rfl); (· rfl); (· rfl); (· rfl)) | ((with_reducible apply o1_rfl); (· rfl); (· rfl)) | ((with_reducible apply of_rfl); (· rfl); (· rfl))
        | (with_reducible refine wp_t ?_) | (with_reducible refine wp_f ?_) | (with_reducible refine wp_nt ?_) | (with_reducible refine wp_nf ?_)
        | ((with_reducible apply ex_t); (· rfl)) | ((with_reducible apply ex_f); (· rfl))
        | ((with_reducible apply ex_and4); (· rfl); (· rfl); (· rfl)) | ((with_reducible apply ex_and3); (· rfl); (· rfl)) | ((with_reducible apply ex_and2); (· rfl)) | ((with_reducible apply ex_and); (· rfl))
        | ((with_reducible apply isT_and); (· rfl)) | ((with_reducible apply ex_bm); (· rfl); (· rfl); (· rfl))
        | dsimp only)
      refine ⟨h.set k (Dr ns (n + 1)), by unfold setU; simp only [hk]; rfl, ?_⟩
      exact ⟨_, _, rfl, rfl, rfl⟩
    · rintro δ h' ⟨rfl, rfl⟩
      have hk2 : (h.set k (Dr ns (n + 1)))[k]? = some (Dr ns (n + 1)) := List.getElem?_set_self hlt
      repeat (first
        | (with_reducible first | refine okm_ret ?_ | refine okm_cn ?_ | refine okm_op2 ?_ | refine okm_tst ?_ | refine okm_ifE ?_ | refine okm_mnil ?_ | refine okm_mcons ?_ | refine okm_notT ?_ | refine okm_notV ?_ | refine okm_chain ?_ | refine okm_andT ?_ | refine okm_orT ?_ | refine okm_andV ?_ | refine okm_orV ?_ | refine okm_unE ?_ | refine okm_fnE ?_ | refine okm_lenE ?_ | refine okm_ixE ?_ | refine okm_ptN ?_ | refine okm_ptS ?_ | refine okm_slE ?_ | refine okm_bmE ?_ | refine okm_isiE ?_ | refine okm_itE ?_ | refine okm_itN ?_ | refine okm_it1 ?_ | refine okm_lcM ?_ | refine okm_callP ?_ | refine okm_callM ?_ | refine okm_fz ?_ | refine okm_fzD ?_ | refine okm_lmE ?_ | refine okm_spNE ?_ | refine oks_seq ?_ | refine oks_if ?_ | refine oks_set ?_ | refine oks_asg ?_ | refine oks_sret ?_ | refine oks_sexp ?_ | refine oks_snx ?_ | refine oks_for ?_ | refine oks_aug ?_ | refine oks_augS ?_ | refine oks_raise ?_ | refine okm_bnd ?_)
        | ((with_reducible apply okm_vr); (· rfl))
        | ((with_reducible apply okm_tupE); (· rfl); (· rfl)) | ((with_reducible apply okm_lstE); (· rfl); (· rfl)) | ((with_reducible apply okm_lstN); (· rfl))
        | ((with_reducible apply op_rfl); (· rfl); (· rfl); (· rfl)) | ((with_reducible apply o1_rfl); (· rfl); (· rfl)) | ((with_reducible apply of_rfl); (· rfl); (· rfl))
        | (with_reducible refine wp_t ?_) | (with_reducible refine wp_f ?_) | (with_reducible refine wp_nt ?_) | (with_reducible refine wp_nf ?_)
        | ((with_reducible apply ex_t); (· rfl)) | ((with_reducible apply ex_f); (· rfl))
        | ((with_reducible apply ex_and4); (· rfl); (· rfl); (· rfl)) | ((with_reducible apply ex_and3); (· rfl); (· rfl)) | ((with_reducible apply ex_and2); (· rfl)) | ((with_reducible apply ex_and); (· rfl))
        | ((with_reducible apply isT_and); (· rfl)) | ((with_reducible apply ex_bm); (· rfl); (· rfl); (· rfl))
        | dsimp only)
      refine ⟨.d (.scr ns), by unfold ixU; simp only [hk2]; rfl, ?_⟩
      repeat (first
        | (with_reducible first | refine okm_ret ?_ | refine okm_cn ?_ | refine okm_op2 ?_ | refine okm_tst ?_ | refine okm_ifE ?_ | refine okm_mnil ?_ | refine okm_mcons ?_ | refine okm_notT ?_ | refine okm_notV ?_ | refine okm_chain ?_ | refine okm_andT ?_ | refine okm_orT ?_ | refine okm_andV ?_ | refine okm_orV ?_ | refine okm_unE ?_ | refine okm_fnE ?_ | refine okm_lenE ?_ | refine okm_ixE ?_ | refine okm_ptN ?_ | refine okm_ptS ?_ | refine okm_slE ?_ | refine okm_bmE ?_ | refine okm_isiE ?_ | refine okm_itE ?_ | refine okm_itN ?_ | refine okm_it1 ?_ | refine okm_lcM ?_ | refine okm_callP ?_ | refine okm_callM ?_ | refine okm_fz ?_ | refine okm_fzD ?_ | refine okm_lmE ?_ | refine okm_spNE ?_ | refine oks_seq ?_ | refine oks_if ?_ | refine oks_set ?_ | refine oks_asg ?_ | refine oks_sret ?_ | refine oks_sexp ?_ | refine oks_snx ?_ | refine oks_for ?_ | refine oks_aug ?_ | refine oks_augS ?_ | refine oks_raise ?_ | refine okm_bnd ?_)
        | ((with_reducible apply okm_vr); (· rfl))
        | ((with_reducible apply okm_tupE); (· rfl); (· rfl)) | ((with_reducible apply okm_lstE); (· rfl); (· rfl)) | ((with_reducible apply okm_lstN); (· rfl))
        | ((with_reducible apply op_rfl); (· rfl); (· rfl); (· rfl)) | ((with_reducible apply o1_rfl); (· rfl); (· rfl)) | ((with_reducible apply of_rfl); (· rfl); (· rfl))
        | (with_reducible refine wp_t ?_) | (with_reducible refine wp_f ?_) | (with_reducible refine wp_nt ?_) | (with_reducible refine wp_nf ?_)
        | ((with_reducible apply ex_t); (· rfl)) | ((with_reducible apply ex_f); (· rfl))
        | ((with_reducible apply ex_and4); (· rfl); (· rfl); (· rfl)) | ((with_reducible apply ex_and3); (· rfl); (· rfl)) | ((with_reducible apply ex_and2); (· rfl)) | ((with_reducible apply ex_and); (· rfl))
        | ((with_reducible apply isT_and); (· rfl)) | ((with_reducible apply ex_bm); (· rfl); (· rfl); (· rfl))
        | dsimp only)
      refine ⟨.d (.int ((n + 1 : Nat) : Int)), by unfold ixU; simp only [hk2]; rfl, ?_⟩
      repeat (first
        | (with_reducible first | refine okm_ret ?_ | refine okm_cn ?_ | refine okm_op2 ?_ | refine okm_tst ?_ | refine okm_ifE ?_ | refine okm_mnil ?_ | refine okm_mcons ?_ | refine okm_notT ?_ | refine okm_notV ?_ | refine okm_chain ?_ | refine okm_andT ?_ | refine okm_orT ?_ | refine okm_andV ?_ | refine okm_orV ?_ | refine okm_unE ?_ | refine okm_fnE ?_ | refine okm_lenE ?_ | refine okm_ixE ?_ | refine okm_ptN ?_ | refine okm_ptS ?_ | refine okm_slE ?_ | refine okm_bmE ?_ | refine okm_isiE ?_ | refine okm_itE ?_ | refine okm_itN ?_ | refine okm_it1 ?_ | refine okm_lcM ?_ | refine okm_callP ?_ | refine okm_callM ?_ | refine okm_fz ?_ | refine okm_fzD ?_ | refine okm_lmE ?_ | refine okm_spNE ?_ | refine oks_seq ?_ | refine oks_if ?_ | refine oks_set ?_ | refine oks_asg ?_ | refine oks_sret ?_ | refine oks_sexp ?_ | refine oks_snx ?_ | refine oks_for ?_ | refine oks_aug ?_ | refine oks_augS ?_ | refine oks_raise ?_ | refine okm_bnd ?_)
        | ((with_reducible apply okm_vr); (· rfl))
        | ((with_reducible apply okm_tupE); (· rfl); (· rfl)) | ((with_reducible apply okm_lstE); (· rfl); (· rfl)) | ((with_reducible apply okm_lstN); (· rfl))
        | ((with_reducible apply op_rfl); (· rfl); (· rfl); (· rfl)) | ((with_reducible apply o1_rfl); (· rfl); (· rfl)) | ((with_reducible apply of_rfl); (· rfl); (· rfl))
        | (with_reducible refine wp_t ?_) | (with_reducible refine wp_f ?_) | (with_reducible refine wp_nt ?_) | (with_reducible refine wp_nf ?_)
        | ((with_reducible apply ex_t); (· rfl)) | ((with_reducible apply ex_f); (· rfl))
        | ((with_reducible apply ex_and4); (· rfl); (· rfl); (· rfl)) | ((with_reducible apply ex_and3); (· rfl); (· rfl)) | ((with_reducible apply ex_and2); (· rfl)) | ((with_reducible apply ex_and); (· rfl))
        | ((with_reducible apply isT_and); (· rfl)) | ((with_reducible apply ex_bm); (· rfl); (· rfl); (· rfl))
        | dsimp only)
      obtain ⟨z, hz, hh, e⟩ := number_ok ns hl hb (n + 1) (by omega)
      refine ⟨rfl, _, _, hh, rfl, e, ?_⟩
      repeat (first
        | (with_reducible first | refine okm_ret ?_ | refine okm_cn ?_ | refine okm_op2 ?_ | refine okm_tst ?_ | refine okm_ifE ?_ | refine okm_mnil ?_ | refine okm_mcons ?_ | refine okm_notT ?_ | refine okm_notV ?_ | refine okm_chain ?_ | refine okm_andT ?_ | refine okm_orT ?_ | refine okm_andV ?_ | refine okm_orV ?_ | refine okm_unE ?_ | refine okm_fnE ?_ | refine okm_lenE ?_ | refine okm_ixE ?_ | refine okm_ptN ?_ | refine okm_ptS ?_ | refine okm_slE ?_ | refine okm_bmE ?_ | refine okm_isiE ?_ | refine okm_itE ?_ | refine okm_itN ?_ | refine okm_it1 ?_ | refine okm_lcM ?_ | refine okm_callP ?_ | refine okm_callM ?_ | refine okm_fz ?_ | refine okm_fzD ?_ | refine okm_lmE ?_ | refine okm_spNE ?_ | refine oks_seq ?_ | refine oks_if ?_ | refine oks_set ?_ | refine oks_asg ?_ | refine oks_sret ?_ | refine oks_sexp ?_ | refine oks_snx ?_ | refine oks_for ?_ | refine oks_aug ?_ | refine oks_augS ?_ | refine oks_raise ?_ | refine okm_bnd ?_)
        | ((with_reducible apply okm_vr); (· rfl))
        | ((with_reducible apply okm_tupE); (· rfl); (· rfl)) | ((with_reducible apply okm_lstE); (· rfl); (· rfl)) | ((with_reducible apply okm_lstN); (· rfl))
        | ((with_reducible apply op_rfl); (· rfl); (· rfl); (· rfl)) | ((with_reducible apply o1_rfl); (· rfl); (· rfl)) | ((with_reducible apply of_rfl); (· rfl); (· rfl))
        | (with_reducible refine wp_t ?_) | (with_reducible refine wp_f ?_) | (with_reducible refine wp_nt ?_) | (with_reducible refine wp_nf ?_)
        | ((with_reducible apply ex_t); (· rfl)) | ((with_reducible apply ex_f); (· rfl))
        | ((with_reducible apply ex_and4); (· rfl); (· rfl); (· rfl)) | ((with_reducible apply ex_and3); (· rfl); (· rfl)) | ((with_reducible apply ex_and2); (· rfl)) | ((with_reducible apply ex_and); (· rfl))
        | ((with_reducible apply isT_and); (· rfl)) | ((with_reducible apply ex_bm); (· rfl); (· rfl); (· rfl))
        | dsimp only)
      refine op_mod (by omega) ?_
      repeat (first
        | (with_reducible first | refine okm_ret ?_ | refine okm_cn ?_ | refine okm_op2 ?_ | refine okm_tst ?_ | refine okm_ifE ?_ | refine okm_mnil ?_ | refine okm_mcons ?_ | refine okm_notT ?_ | refine okm_notV ?_ | refine okm_chain ?_ | refine okm_andT ?_ | refine okm_orT ?_ | refine okm_andV ?_ | refine okm_orV ?_ | refine okm_unE ?_ | refine okm_fnE ?_ | refine okm_lenE ?_ | refine okm_ixE ?_ | refine okm_ptN ?_ | refine okm_ptS ?_ | refine okm_slE ?_ | refine okm_bmE ?_ | refine okm_isiE ?_ | refine okm_itE ?_ | refine okm_itN ?_ | refine okm_it1 ?_ | refine okm_lcM ?_ | refine okm_callP ?_ | refine okm_callM ?_ | refine okm_fz ?_ | refine okm_fzD ?_ | refine okm_lmE ?_ | refine okm_spNE ?_ | refine oks_seq ?_ | refine oks_if ?_ | refine oks_set ?_ | refine oks_asg ?_ | refine oks_sret ?_ | refine oks_sexp ?_ | refine oks_snx ?_ | refine oks_for ?_ | refine oks_aug ?_ | refine oks_augS ?_ | refine oks_raise ?_ | refine okm_bnd ?_)
        | ((with_reducible apply okm_vr); (· rfl))
        | ((with_reducible apply okm_tupE); (· rfl); (· rfl)) | ((with_reducible apply okm_lstE); (· rfl); (· rfl)) | ((with_reducible apply okm_lstN); (· rfl))
        | ((with_reducible apply op_rfl); (· rfl); (· rfl); (· rfl)) | ((with_reducible apply o1_rfl); (· rfl); (· rfl)) | ((with_reducible apply of_rfl); (· rfl); (· rfl))
        | (with_reducible refine wp_t ?_) | (with_reducible refine wp_f ?_) | (with_reducible refine wp_nt ?_) | (with_reducible refine wp_nf ?_)
        | ((with_reducible apply ex_t); (· rfl)) | ((with_reducible apply ex_f); (· rfl))
        | ((with_reducible apply ex_and4); (· rfl); (· rfl); (· rfl)) | ((with_reducible apply ex_and3); (· rfl); (· rfl)) | ((with_reducible apply ex_and2); (· rfl)) | ((with_reducible apply ex_and); (· rfl))
        | ((with_reducible apply isT_and); (· rfl)) | ((with_reducible apply ex_bm); (· rfl); (· rfl); (· rfl))
        | dsimp only)
      refine ⟨by rw [List.length_set], hd ⟨_, (fmod_pos hm).1, (fmod_pos hm).2, rfl, rfl⟩⟩
  obtain ⟨x, h', e, hl', z, h1, h2, rfl, rfl⟩ := key
  exact ⟨z, h1, h2, e⟩
def ordM : M U := (lcM (itN rngL1 (mcons (callM 2 f__law_take (mcons (vr 0) (mcons (cn (.int 3)) mnil))) mnil)) [5] (gnm 5) (mret true) (callM 2 f__law_take (mcons (vr 0) (mcons (cn (.int 3)) mnil))) lstL)
def pairM : M U := (mbnd (mcons (callM 2 f__law_take (mcons (vr 0) (mcons (cn (.int 2)) mnil))) (mcons (cn (.int 2)) mnil)) tupE)
def restM : S := (sseq (sif (tst (op2 (pOr pEq pEqT) (vr 1) (cn (.int 0)))) (sseq (sasg (mbnd (mcons (dispNE (npcons (vr 4) (fnE pTuple (mcons (vr 3) mnil)) npnil)) mnil) lstN) (gnm 2))
 (sret (mbnd (mcons (vr 2) (mcons (fz (makeM "Settled" 2 f_Settled___init__ (mcons (ixE (vr 2) (cn (.int 0))) mnil))) mnil)) tupE))) snx)
 (sseq (sif (tst (op2 (pOr pEq pEqT) (vr 1) (cn (.int 1)))) (sseq (sasg (mbnd (mcons (vr 3) (mcons (vr 4) mnil)) lstN) (gnm 2))
 (sret (mbnd (mcons (vr 2) (mcons (fz (makeM "Turned" 3 f_Turned___init__ (mcons (ixE (vr 2) (cn (.int 0))) (mcons (ixE (vr 2) (cn (.int 1))) mnil)))) mnil)) tupE))) snx)
 (sseq (sif (tst (op2 (pOr pEq pEqT) (vr 1) (cn (.int 2)))) (sseq (sasg (mbnd (mcons (op2 pMulT (mbnd (mcons (vr 4) mnil) tupE) (callM 2 f__law_take (mcons (vr 0) (mcons (cn (.int 3)) mnil)))) (mcons (dispNE (npcons (vr 4) (fnE pTuple (mcons (vr 3) mnil)) npnil)) mnil)) lstN) (gnm 2))
 (sret (mbnd (mcons (vr 2) (mcons (fz (makeM "LeastEdges" 3 f_LeastEdges___init__ (mcons (ixE (vr 2) (cn (.int 0))) (mcons (ixE (vr 2) (cn (.int 1))) mnil)))) mnil)) tupE))) snx)
 (sseq (sif (tst (op2 (pOr pEq pEqT) (vr 1) (cn (.int 3)))) (sseq (sasg (mbnd (mcons (lkE (selV 3) (lcM (itE seqL (vr 3)) [5] (gnm 5) (mret true) (mbnd (mcons (cn (.str "t")) (mcons (vr 5) mnil)) tupE) lstL)) (mcons (mbnd (mcons (fnE pTuple (mcons (fz (lkE (selV 3) (lcM (itE seqL (vr 3)) [5] (gnm 5) (mret true) (mbnd (mcons (mbnd (mcons (mbnd (mcons (cn (.int 0)) mnil) tupE) (mcons (vr 5) mnil)) tupE) (mcons (cn (.str "t")) mnil)) tupE) lstL))) mnil)) mnil) lstN) mnil)) lstN) (gnm 2))
 (sret (mbnd (mcons (vr 2) (mcons (fz (makeM "Fails" 3 f_Fails___init__ (mcons (ixE (vr 2) (cn (.int 0))) (mcons (ixE (vr 2) (cn (.int 1))) mnil)))) mnil)) tupE))) snx)
 (sseq (sasg (mbnd (mcons (lkE (selV 3) (lcM (itE seqL (vr 3)) [5] (gnm 5) (mret true) (mbnd (mcons (mbnd (mcons (vr 5) mnil) tupE) (mcons (mbnd mnil tupE) mnil)) tupE) lstL)) mnil) lstN) (gnm 2))
 (sret (mbnd (mcons (vr 2) (mcons (fz (makeM "NeverFails" 2 f_NeverFails___init__ (mcons (ixE (vr 2) (cn (.int 0))) mnil))) mnil)) tupE)))))))
theorem made_is : b__law_made = sseq (spar 3 4 (mcons ordM (mcons pairM mnil))) restM := rfl
def cut0 : S := (sif (tst (op2 (pOr pEq pEqT) (vr 1) (cn (.int 0)))) (sseq (sasg (mbnd (mcons (dispNE (npcons (vr 4) (fnE pTuple (mcons (vr 3) mnil)) npnil)) mnil) lstN) (gnm 2))
 (sret (mbnd (mcons (vr 2) (mcons (fz (makeM "Settled" 2 f_Settled___init__ (mcons (ixE (vr 2) (cn (.int 0))) mnil))) mnil)) tupE))) snx)
def cut1 : S := (sif (tst (op2 (pOr pEq pEqT) (vr 1) (cn (.int 1)))) (sseq (sasg (mbnd (mcons (vr 3) (mcons (vr 4) mnil)) lstN) (gnm 2))
 (sret (mbnd (mcons (vr 2) (mcons (fz (makeM "Turned" 3 f_Turned___init__ (mcons (ixE (vr 2) (cn (.int 0))) (mcons (ixE (vr 2) (cn (.int 1))) mnil)))) mnil)) tupE))) snx)
def cut2 : M Bool := (tst (op2 (pOr pEq pEqT) (vr 1) (cn (.int 2))))
def ret2 : S := (sret (mbnd (mcons (vr 2) (mcons (fz (makeM "LeastEdges" 3 f_LeastEdges___init__ (mcons (ixE (vr 2) (cn (.int 0))) (mcons (ixE (vr 2) (cn (.int 1))) mnil)))) mnil)) tupE))
def mul2 : M U := (op2 pMulT (mbnd (mcons (vr 4) mnil) tupE) (callM 2 f__law_take (mcons (vr 0) (mcons (cn (.int 3)) mnil))))
def dis2 : M U := (dispNE (npcons (vr 4) (fnE pTuple (mcons (vr 3) mnil)) npnil))
def els2 : S := (sseq (sif (tst (op2 (pOr pEq pEqT) (vr 1) (cn (.int 3)))) (sseq (sasg (mbnd (mcons (lkE (selV 3) (lcM (itE seqL (vr 3)) [5] (gnm 5) (mret true) (mbnd (mcons (cn (.str "t")) (mcons (vr 5) mnil)) tupE) lstL)) (mcons (mbnd (mcons (fnE pTuple (mcons (fz (lkE (selV 3) (lcM (itE seqL (vr 3)) [5] (gnm 5) (mret true) (mbnd (mcons (mbnd (mcons (mbnd (mcons (cn (.int 0)) mnil) tupE) (mcons (vr 5) mnil)) tupE) (mcons (cn (.str "t")) mnil)) tupE) lstL))) mnil)) mnil) lstN) mnil)) lstN) (gnm 2))
 (sret (mbnd (mcons (vr 2) (mcons (fz (makeM "Fails" 3 f_Fails___init__ (mcons (ixE (vr 2) (cn (.int 0))) (mcons (ixE (vr 2) (cn (.int 1))) mnil)))) mnil)) tupE))) snx)
 (sseq (sasg (mbnd (mcons (lkE (selV 3) (lcM (itE seqL (vr 3)) [5] (gnm 5) (mret true) (mbnd (mcons (mbnd (mcons (vr 5) mnil) tupE) (mcons (mbnd mnil tupE) mnil)) tupE) lstL)) mnil) lstN) (gnm 2))
 (sret (mbnd (mcons (vr 2) (mcons (fz (makeM "NeverFails" 2 f_NeverFails___init__ (mcons (ixE (vr 2) (cn (.int 0))) mnil))) mnil)) tupE))))
theorem rest_is : restM = sseq cut0 (sseq cut1 (sseq (sif cut2 (sseq (sasg (mbnd (mcons mul2 (mcons dis2 mnil)) lstN) (gnm 2)) ret2) snx) els2)) := rfl
def tup2 : M U := (mbnd (mcons (vr 4) mnil) tupE)
theorem mul_is : mul2 = op2 pMulT tup2 (callM 2 f__law_take (mcons (vr 0) (mcons (cn (.int 3)) mnil))) := rfl
def made1 : M U := (mskE 1 (callM 2 f__law_made (mcons (vr 1) (mcons (vr 4) mnil))))
def made2 : G := (gtup 2 (gcons (gnm 8) (gcons (gnm 7) gnil)))
def tailB : S := (sseq (sasg (mskE 1 (callM 2 f__law_due (mcons (vr 4) (mcons (vr 8) mnil)))) (gnm 5))
 (sseq (sif (tst (op2 (pOr pNe pNeT) (callP 1 f__law_told (mcons (vr 7) mnil)) (vr 5))) (sret (cn (.bl false))) snx)
 (sseq (sforLL 3 (vr 8) (gnm 6) (sif (tst (isiE [] (anB "list" []) (vr 6))) (sexp (lmE pAppend (vr 6) (mcons (cn (.str "late")) mnil))) (sif (tst (isiE [] (anB "dict" []) (vr 6))) (sasg (mbnd (mcons (cn (.int 1)) mnil) tupE) (gset (vr 6) (mbnd (mcons (cn (.str "late")) (mcons (cn (.int 0)) mnil)) tupE))) snx)))
 (sseq (sif (orT (tst (op2 (pOr pNe pNeT) (callP 1 f__law_told (mcons (vr 7) mnil)) (vr 5))) (orT (tst (ownE ownTb false (vr 7) (vr 5))) (tst (ownE ownTb false (vr 7) (cn .non))))) (sret (cn (.bl false))) snx)
 (sexp (lmE pAppend (vr 2) (mcons (mbnd (mcons (vr 4) (mcons (vr 5) (mcons (vr 7) mnil))) tupE) mnil)))))))
theorem body_is : b_law_body = sseq (sasg (callM 2 f__law_take (mcons (vr 1) (mcons (cn (.int 5)) mnil))) (gnm 4)) (sseq (sasg made1 made2) tailB) := rfl
def rows3 : S := (sfz 2 (sfor (itE seqL (vr 2)) (gtup 3 (gcons (gnm 4) (gcons (gnm 5) (gcons (gnm 7) gnil)))) (sfor (itE seqL (vr 2)) (gtup 3 (gcons (gnm 9) (gcons (gnm 10) (gcons (gnm 11) gnil)))) (sif (orT (tst (op2 (pOr pNe pNeT) (ownE ownTb false (vr 7) (vr 11)) (andV (op2 (pOr pEq pEqT) (vr 4) (vr 9)) (op2 (pOr pEq pEqT) (vr 5) (vr 10))))) (tst (op2 (pOr pNe pNeT) (ownE ownTb true (vr 7) (vr 11)) (orV (op2 (pOr pNe pNeT) (vr 4) (vr 9)) (op2 (pOr pNe pNeT) (vr 5) (vr 10)))))) (sret (cn (.bl false))) snx))))
def end4 : S := (sret (op2 (pOr pEq pEqT) (lcM (itE seqT (mbnd (mcons (fz (makeM "Settled" 2 f_Settled___init__ (mcons (fz (newE (.ndct []))) mnil))) (mcons (fz (makeM "Turned" 3 f_Turned___init__ (mcons (mbnd mnil tupE) (mcons (mbnd (mcons (cn (.int 0)) (mcons (cn (.int 1)) mnil)) tupE) mnil)))) (mcons (fz (makeM "Fails" 3 f_Fails___init__ (mcons (mbnd mnil tupE) (mcons (mbnd mnil tupE) mnil)))) (mcons (fz (makeM "NeverFails" 2 f_NeverFails___init__ (mcons (mbnd mnil tupE) mnil))) mnil)))) tupE)) [7] (gnm 7) (mret true) (boolOE boolTb (mcons (vr 7) mnil)) lstF) (mbnd (mcons (cn (.bl true)) (mcons (cn (.bl false)) (mcons (cn (.bl true)) (mcons (cn (.bl false)) mnil)))) lstE)))
theorem law_is : b_law = sseq (sasg (mbnd (mcons (vr 0) (mcons (cn (.int 0)) mnil)) lstN) (gnm 1)) (sseq (sasg (mbnd mnil lstN) (gnm 2)) (sseq (sfor (itN rngL1 (mcons (cn (.int 8)) mnil)) (gnm 3) (scut b_law_body)) (sseq rows3 end4))) := rfl
def app5 : S := (sexp (lmE pAppend (vr 2) (mcons (mbnd (mcons (vr 4) (mcons (vr 5) (mcons (vr 7) mnil))) tupE) mnil)))
def tl0 : S := (sasg (mskE 1 (callM 2 f__law_due (mcons (vr 4) (mcons (vr 8) mnil)))) (gnm 5))
def tl1 : S := (sif (tst (op2 (pOr pNe pNeT) (callP 1 f__law_told (mcons (vr 7) mnil)) (vr 5))) (sret (cn (.bl false))) snx)
def tl2 : S := (sforLL 3 (vr 8) (gnm 6) (sif (tst (isiE [] (anB "list" []) (vr 6))) (sexp (lmE pAppend (vr 6) (mcons (cn (.str "late")) mnil))) (sif (tst (isiE [] (anB "dict" []) (vr 6))) (sasg (mbnd (mcons (cn (.int 1)) mnil) tupE) (gset (vr 6) (mbnd (mcons (cn (.str "late")) (mcons (cn (.int 0)) mnil)) tupE))) snx)))
def tl3 : S := (sif (orT (tst (op2 (pOr pNe pNeT) (callP 1 f__law_told (mcons (vr 7) mnil)) (vr 5))) (orT (tst (ownE ownTb false (vr 7) (vr 5))) (tst (ownE ownTb false (vr 7) (cn .non))))) (sret (cn (.bl false))) snx)
theorem tail_is : tailB = (sseq tl0 (sseq tl1 (sseq tl2 (sseq tl3 app5)))) := rfl
def tailC : S := (sseq tl0 (sseq tl1 (sseq tl2 (sseq tl3 snx))))
def innB : M Bool := (orT (tst (op2 (pOr pNe pNeT) (ownE ownTb false (vr 7) (vr 11)) (andV (op2 (pOr pEq pEqT) (vr 4) (vr 9)) (op2 (pOr pEq pEqT) (vr 5) (vr 10))))) (tst (op2 (pOr pNe pNeT) (ownE ownTb true (vr 7) (vr 11)) (orV (op2 (pOr pNe pNeT) (vr 4) (vr 9)) (op2 (pOr pNe pNeT) (vr 5) (vr 10))))))
def in2G : G := (gtup 3 (gcons (gnm 9) (gcons (gnm 10) (gcons (gnm 11) gnil))))
def in1G : G := (gtup 3 (gcons (gnm 4) (gcons (gnm 5) (gcons (gnm 7) gnil))))
theorem rows_is : rows3 = sfz 2 (sfor (itE seqL (vr 2)) in1G (sfor (itE seqL (vr 2)) in2G (sif innB (sret (cn (.bl false))) snx))) := rfl
theorem inn_is : innB = orT (tst (op2 (pOr pNe pNeT) (ownE ownTb false (vr 7) (vr 11)) (andV (op2 (pOr pEq pEqT) (vr 4) (vr 9)) (op2 (pOr pEq pEqT) (vr 5) (vr 10))))) (tst (op2 (pOr pNe pNeT) (ownE ownTb true (vr 7) (vr 11)) (orV (op2 (pOr pNe pNeT) (vr 4) (vr 9)) (op2 (pOr pNe pNeT) (vr 5) (vr 10))))) := rfl
def ordsI : List (List Int) := [[], [0], [1], [2], [0, 0], [0, 1], [0, 2], [1, 0], [1, 1], [1, 2], [2, 0], [2, 1], [2, 2]]
theorem lcL_cons {g : G} {tt : M Bool} {te : M U} {δ δ1 : Sl} {x y : U} {xs ys : List U} {h h1 h2 : Hea} (e1 : g x δ h = some (δ1, h)) (e2 : tt δ1 h = some (.ok true h)) (e3 : te δ1 h = some (.ok y h1)) (e4 : lcL g tt te δ xs h1 = some (ys, h2)) : lcL g tt te δ (x :: xs) h = some (y :: ys, h2) := by
  unfold lcL
  simp only [e1, e2, e3, e4]
theorem mbnd_eq {α β : Type} {f : M α} {k : α → M β} {δ : Sl} {h h1 : Hea} {a : α} (e : f δ h = some (.ok a h1)) : mbnd f k δ h = k a δ h1 := by
  unfold mbnd
  rw [e]
theorem mcons_eq {f : M U} {g : M (List U)} {δ : Sl} {h h1 h2 : Hea} {x : U} {xs : List U} (e1 : f δ h = some (.ok x h1)) (e2 : g δ h1 = some (.ok xs h2)) : mcons f g δ h = some (.ok (x :: xs) h2) :=
  (mbnd_eq e1).trans (mbnd_eq e2)
theorem itN_eq {s : List U → Option (List U)} {g : M (List U)} {δ : Sl} {h h1 : Hea} {us xs : List U} (e1 : g δ h = some (.ok us h1)) (e2 : s us = some xs) : itN s g δ h = some (.ok xs h1) := by
  refine (mbnd_eq e1).trans ?_
  simp only [e2]
theorem lcM_eq {f : M (List U)} {vs : List Nat} {g : G} {tt : M Bool} {te : M U} {mk : List U → M U} {δ : Sl} {h h1 h2 h3 : Hea} {xs ys : List U} {u : U} (e1 : f δ h = some (.ok xs h1)) (hz : szOk xs.length = true) (e2 : lcL g tt te (wipeS δ vs) xs h1 = some (ys, h2))
    (e3 : mk ys δ h2 = some (.ok u h3)) : lcM f vs g tt te mk δ h = some (.ok u h3) := by
  refine (mbnd_eq e1).trans ?_
  rw [if_pos hz]
  simp only [e2]
  exact e3
theorem in3 {z : Int} (h1 : 0 ≤ z) (h2 : z < 3) : z = 0 ∨ z = 1 ∨ z = 2 := by omega
theorem in2 {z : Int} (h1 : 0 ≤ z) (h2 : z < 2) : z = 0 ∨ z = 1 := by omega
section
variable {ns : List Int} (hl : ns.length ≤ 63) (hb : ∀ z ∈ ns, Builtin.Int.intBits z ≤ 1048576)
include hl hb
/-- the draws, where all but they is set aside -/
theorem takeE {n : Nat} (hn : n < 1000000000) {m : Int} (hm : 0 < m) {δ : Sl} (h0 : δ[0]? = some (some (.loc 0))) (rest : Hea) : ∃ z : Int, 0 ≤ z ∧ z < m ∧ callM 2 f__law_take (mcons (vr 0) (mcons (cn (.int m)) mnil)) δ (Dr ns n :: .gone :: rest) = some (.ok (.d (.int z)) (Dr ns (n + 1) :: .gone :: rest)) := by
  obtain ⟨z, h1, h2, e⟩ := take_ok hl hb hn (h := Dr ns n :: .gone :: rest) (k := 0) rfl hm
  refine ⟨z, h1, h2, ?_⟩
  unfold callM
  have e0 : vr 0 δ (Dr ns n :: .gone :: rest) = some (.ok (.loc 0) (Dr ns n :: .gone :: rest)) := by
    unfold vr
    simp only [h0]
  have e1 : mcons (vr 0) (mcons (cn (.int m)) mnil) δ (Dr ns n :: .gone :: rest) = some (.ok [.loc 0, .d (.int m)] (Dr ns n :: .gone :: rest)) := mcons_eq e0 rfl
  exact (mbnd_eq e1).trans e
omit hl hb in
theorem ordM_eq {δ : Sl} {h h1 h2 : Hea} {l : Int} {us : List U} (e1 : callM 2 f__law_take (mcons (vr 0) (mcons (cn (.int 3)) mnil)) δ h = some (.ok (.d (.int l)) h1)) (h0 : 0 ≤ l) (h3 : l < 3)
    (e2 : lcL (gnm 5) (mret true) (callM 2 f__law_take (mcons (vr 0) (mcons (cn (.int 3)) mnil))) (wipeS δ [5]) (rngD 0 l.toNat) h1 = some (us, h2)) : ordM δ h = some (.ok (.loc h2.length) (h2 ++ [.lst us])) := by
  have hz : szOk (rngD 0 l.toNat).length = true := szOk_of (by rw [rngD_len]; omega)
  have hr : rng62 l = true := decide_eq_true (by omega)
  exact lcM_eq (itN_eq (mcons_eq e1 rfl) (show rngL1 [.d (.int l)] = some (rngD 0 l.toNat) from if_pos hr)) hz e2 rfl
theorem ordM_ok {n : Nat} (hn : n < 900000000) {δ : Sl} (h0 : δ[0]? = some (some (.loc 0))) (h5 : (wipeS δ [5])[0]? = some (some (.loc 0))) (hw : ∀ u, ((wipeS δ [5]).set 5 (some u))[0]? = some (some (.loc 0))) :
    ∃ (os : List Int) (n' : Nat), os ∈ ordsI ∧ n' ≤ n + 3 ∧ ordM δ [Dr ns n, .gone] = some (.ok (.loc 2) [Dr ns n', .gone, .lst (os.map fun o => .d (.int o))]) := by
  obtain ⟨l, l1, l2, e1⟩ := takeE hl hb (n := n) (by omega) (m := 3) (by decide) h0 []
  rcases in3 l1 l2 with rfl | rfl | rfl
  · exact ⟨[], n + 1, by decide, by omega, ordM_eq e1 (by decide) (by decide) rfl⟩
  · obtain ⟨o, o1, o2, e2⟩ := takeE hl hb (n := n + 1) (by omega) (m := 3) (by decide) (hw (.d (.int 0))) []
    refine ⟨[o], n + 1 + 1, ?_, by omega, ordM_eq e1 (by decide) (by decide) (lcL_cons (δ1 := (wipeS δ [5]).set 5 (some (.d (.int 0)))) rfl rfl e2 rfl)⟩
    rcases in3 o1 o2 with rfl | rfl | rfl <;> decide
  · obtain ⟨o, o1, o2, e2⟩ := takeE hl hb (n := n + 1) (by omega) (m := 3) (by decide) (hw (.d (.int 0))) []
    obtain ⟨p, p1, p2, e3⟩ := takeE hl hb (n := n + 1 + 1) (by omega) (m := 3) (by decide) (hw (.d (.int 1))) []
    refine ⟨[o, p], n + 1 + 1 + 1, ?_, by omega, ordM_eq e1 (by decide) (by decide) (lcL_cons (δ1 := (wipeS δ [5]).set 5 (some (.d (.int 0)))) rfl rfl e2 (lcL_cons (δ1 := (wipeS δ [5]).set 5 (some (.d (.int 1)))) rfl rfl e3 rfl))⟩
    rcases in3 o1 o2 with rfl | rfl | rfl <;> rcases in3 p1 p2 with rfl | rfl | rfl <;> decide
/-- where the draws for a piece are done -/
def dM (k : Int) (a : Int) : Sl := [some (.loc 0), some (.d (.int k)), none, some (.loc 2), some (.d (.tup [.int a, .int 2])), none]
def lO (os : List Int) : O := .lst (os.map fun o => .d (.int o))
theorem first_ok {n : Nat} (hn : n < 900000000) {k : Int} : ∃ (os : List Int) (a : Int) (n' : Nat), os ∈ ordsI ∧ (a = 0 ∨ a = 1) ∧ n' ≤ n + 4 ∧
    f__law_made [.loc 0, .d (.int k)] [Dr ns n, .gone] = (match restM (dM k a) [Dr ns n', .gone, lO os] with
      | some (.nx _ h') => fin 2 (.d .non) h'
      | some (.rt u h') => fin 2 u h'
      | some (.ex e _ h') => finX 2 e h'
      | _ => none) := by
  obtain ⟨os, n1, o1, o2, e1⟩ := ordM_ok hl hb hn (δ := [some (.loc 0), some (.d (.int k)), none, none, none, none]) rfl rfl (fun _ => rfl)
  obtain ⟨a, a1, a2, e2⟩ := takeE hl hb (n := n1) (by omega) (m := 2) (by decide) (δ := [some (.loc 0), some (.d (.int k)), none, none, none, none]) rfl [lO os]
  refine ⟨os, a, n1 + 1, o1, in2 a1 a2, by omega, ?_⟩
  have e3 : pairM [some (.loc 0), some (.d (.int k)), none, none, none, none] [Dr ns n1, .gone, lO os] = some (.ok (.d (.tup [.int a, .int 2])) [Dr ns (n1 + 1), .gone, lO os]) := (mbnd_eq (mcons_eq e2 rfl)).trans rfl
  have e4 : b__law_made [some (.loc 0), some (.d (.int k)), none, none, none, none] [Dr ns n, .gone] = restM (dM k a) [Dr ns (n1 + 1), .gone, lO os] := by
    rw [made_is]
    have e5 : spar 3 4 (mcons ordM (mcons pairM mnil)) [some (.loc 0), some (.d (.int k)), none, none, none, none] [Dr ns n, .gone] = some (.nx (dM k a) [Dr ns (n1 + 1), .gone, lO os]) := by
      unfold spar sbnd
      rw [mcons_eq e1 (mcons_eq e3 rfl)]
      rfl
    unfold sseq
    rw [e5]
  show (match b__law_made [some (.loc 0), some (.d (.int k)), none, none, none, none] [Dr ns n, .gone] with
      | some (.nx _ h') => fin 2 (.d .non) h'
      | some (.rt u h') => fin 2 u h'
      | some (.ex e _ h') => finX 2 e h'
      | _ => none) = _
  rw [e4]
end
/-- a piece of evidence, as it is made -/
def resM : Option Out → Option (U × Hea)
  | some (.rt u (_ :: _ :: h)) => some (u, h)
  | _ => none
def outM (k a : Int) (os : List Int) : U × Hea := (resM (restM (dM k a) [.gone, .gone, lO os])).getD (.d .non, [])
theorem try1 (ns : List Int) (n : Nat) : restM (dM 0 1) [Dr ns n, .gone, lO [1, 2]] = some (.rt (outM 0 1 [1, 2]).1 (Dr ns n :: .gone :: (outM 0 1 [1, 2]).2)) := by kernel_rfl
def pD (a : Int) : D := .tup [.int a, .int 2]
def oD (os : List Int) : D := .tup (os.map .int)
def t2 (a t : Int) (os : List Int) : Hea := [lO os, .ndct [(pD a, .d (oD os))], .lst [.d (.tup (List.replicate t.toNat (pD a))), .loc 3]]
def d2 (a : Int) : Sl := [some (.loc 0), some (.d (.int 2)), some (.loc 4), some (.loc 2), some (.d (pD a)), none]
def out2 (a t : Int) (os : List Int) : U × Hea := (resM (ret2 (d2 a) (.gone :: .gone :: t2 a t os))).getD (.d .non, [])
def outE (k a t : Int) (os : List Int) : U × Hea := if k = 2 then out2 a t os else outM k a os
def fin2 : Option Out → Option (R U)
  | some (.nx _ h') => fin 2 (.d .non) h'
  | some (.rt u h') => fin 2 u h'
  | some (.ex e _ h') => finX 2 e h'
  | _ => none
def mem13 (P : List Int → Prop) (h : P [] ∧ P [0] ∧ P [1] ∧ P [2] ∧ P [0, 0] ∧ P [0, 1] ∧ P [0, 2] ∧ P [1, 0] ∧ P [1, 1] ∧ P [1, 2] ∧ P [2, 0] ∧ P [2, 1] ∧ P [2, 2]) (os : List Int) (m : os ∈ ordsI) : P os := by
  obtain ⟨h0, h1, h2, h3, h4, h5, h6, h7, h8, h9, h10, h11, h12⟩ := h
  unfold ordsI at m
  simp only [List.mem_cons, List.not_mem_nil, or_false] at m
  rcases m with rfl | rfl | rfl | rfl | rfl | rfl | rfl | rfl | rfl | rfl | rfl | rfl | rfl <;> assumption
def RestOk (k : Int) (os : List Int) : Prop := ∀ (ns : List Int) (n : Nat) (a : Int), a = 0 ∨ a = 1 → fin2 (restM (dM k a) [Dr ns n, .gone, lO os]) = some (.ok (outM k a os).1 (Dr ns n :: .gone :: (outM k a os).2))
theorem rest0 : ∀ os, os ∈ ordsI → RestOk 0 os := mem13 (RestOk 0) (by
  refine ⟨?_, ?_, ?_, ?_, ?_, ?_, ?_, ?_, ?_, ?_, ?_, ?_, ?_⟩ <;> (intro ns n a ha; rcases ha with rfl | rfl <;> kernel_rfl))
theorem rest1 : ∀ os, os ∈ ordsI → RestOk 1 os := mem13 (RestOk 1) (by
  refine ⟨?_, ?_, ?_, ?_, ?_, ?_, ?_, ?_, ?_, ?_, ?_, ?_, ?_⟩ <;> (intro ns n a ha; rcases ha with rfl | rfl <;> kernel_rfl))
theorem rest3 : ∀ os, os ∈ ordsI → RestOk 3 os := mem13 (RestOk 3) (by
  refine ⟨?_, ?_, ?_, ?_, ?_, ?_, ?_, ?_, ?_, ?_, ?_, ?_, ?_⟩ <;> (intro ns n a ha; rcases ha with rfl | rfl <;> kernel_rfl))
theorem rest4 : ∀ os, os ∈ ordsI → RestOk 4 os := mem13 (RestOk 4) (by
  refine ⟨?_, ?_, ?_, ?_, ?_, ?_, ?_, ?_, ?_, ?_, ?_, ?_, ?_⟩ <;> (intro ns n a ha; rcases ha with rfl | rfl <;> kernel_rfl))
theorem sseq_eq {s t : S} {δ δ1 : Sl} {h h1 : Hea} (e : s δ h = some (.nx δ1 h1)) : sseq s t δ h = t δ1 h1 := by
  unfold sseq
  rw [e]
theorem sseq_no {s t : S} {δ : Sl} {h : Hea} (hn : ∀ δ1 h1, s δ h ≠ some (.nx δ1 h1)) : sseq s t δ h = s δ h := by
  unfold sseq
  split
  · rename_i e
    exact absurd e (hn _ _)
  · rfl
theorem sbnd_eq {α : Type} {f : M α} {k : α → S} {δ : Sl} {h h1 : Hea} {a : α} (e : f δ h = some (.ok a h1)) : sbnd f k δ h = k a δ h1 := by
  unfold sbnd
  rw [e]
def RestOk2 (os : List Int) : Prop := ∀ (ns : List Int) (n n1 : Nat) (a t : Int), a = 0 ∨ a = 1 → t = 0 ∨ t = 1 ∨ t = 2 →
  opE pMulT (.d (.tup [pD a])) (.d (.int t)) (dM 2 a) [Dr ns n1, .gone, lO os] = some (.ok (.d (.tup (List.replicate t.toNat (pD a)))) [Dr ns n1, .gone, lO os]) ∧
  mcons dis2 mnil (dM 2 a) [Dr ns n1, .gone, lO os] = some (.ok [.loc 3] [Dr ns n1, .gone, lO os, .ndct [(pD a, .d (oD os))]]) ∧
  fin2 (ret2 (d2 a) (Dr ns n1 :: .gone :: t2 a t os)) = some (.ok (out2 a t os).1 (Dr ns n1 :: .gone :: (out2 a t os).2))
theorem rest2 : ∀ os, os ∈ ordsI → RestOk2 os := mem13 RestOk2 (by
  refine ⟨?_, ?_, ?_, ?_, ?_, ?_, ?_, ?_, ?_, ?_, ?_, ?_, ?_⟩ <;> (intro ns n n1 a t ha ht; rcases ha with rfl | rfl <;> rcases ht with rfl | rfl | rfl <;> exact ⟨by kernel_rfl, by kernel_rfl, by kernel_rfl⟩))
theorem cut0_2 (a : Int) (h : Hea) : cut0 (dM 2 a) h = some (.nx (dM 2 a) h) := by kernel_rfl
theorem cut1_2 (a : Int) (h : Hea) : cut1 (dM 2 a) h = some (.nx (dM 2 a) h) := by kernel_rfl
theorem cut2_2 (a : Int) (h : Hea) : cut2 (dM 2 a) h = some (.ok true h) := by kernel_rfl
theorem tup2_2 (a : Int) (h : Hea) : tup2 (dM 2 a) h = some (.ok (.d (.tup [pD a])) h) := by kernel_rfl
theorem ret2_nx {δ δ1 : Sl} {h h1 : Hea} (e : ret2 δ h = some (.nx δ1 h1)) : False := by
  unfold ret2 sret sbnd at e
  split at e <;> cases e
section
variable {ns : List Int} (hl : ns.length ≤ 63) (hb : ∀ z ∈ ns, Builtin.Int.intBits z ≤ 1048576)
include hl hb
theorem kind2 {n : Nat} (hn : n < 1000000000) {a : Int} (ha : a = 0 ∨ a = 1) {os : List Int} (ho : os ∈ ordsI) : ∃ t : Int, (t = 0 ∨ t = 1 ∨ t = 2) ∧ fin2 (restM (dM 2 a) [Dr ns n, .gone, lO os]) = some (.ok (out2 a t os).1 (Dr ns (n + 1) :: .gone :: (out2 a t os).2)) := by
  obtain ⟨t, h1, h3, e⟩ := takeE hl hb hn (m := 3) (by decide) (δ := dM 2 a) rfl [lO os]
  obtain ⟨r1, r2, r3⟩ := rest2 os ho ns n (n + 1) a t ha (in3 h1 h3)
  refine ⟨t, in3 h1 h3, ?_⟩
  have m1 : mul2 (dM 2 a) [Dr ns n, .gone, lO os] = some (.ok (.d (.tup (List.replicate t.toNat (pD a)))) [Dr ns (n + 1), .gone, lO os]) := by
    rw [mul_is]
    exact (mbnd_eq (tup2_2 a _)).trans ((mbnd_eq e).trans r1)
  have m2 : mbnd (mcons mul2 (mcons dis2 mnil)) lstN (dM 2 a) [Dr ns n, .gone, lO os] = some (.ok (.loc 4) (Dr ns (n + 1) :: .gone :: t2 a t os)) := (mbnd_eq (mcons_eq m1 r2)).trans rfl
  have m3 : sasg (mbnd (mcons mul2 (mcons dis2 mnil)) lstN) (gnm 2) (dM 2 a) [Dr ns n, .gone, lO os] = some (.nx (d2 a) (Dr ns (n + 1) :: .gone :: t2 a t os)) := (sbnd_eq m2).trans rfl
  have m4 : sif cut2 (sseq (sasg (mbnd (mcons mul2 (mcons dis2 mnil)) lstN) (gnm 2)) ret2) snx (dM 2 a) [Dr ns n, .gone, lO os] = ret2 (d2 a) (Dr ns (n + 1) :: .gone :: t2 a t os) := (sbnd_eq (cut2_2 a _)).trans (sseq_eq m3)
  rw [rest_is, sseq_eq (cut0_2 a _), sseq_eq (cut1_2 a _)]
  rw [sseq_no (fun δ1 h1 z => ret2_nx (m4.symm.trans z)), m4]
  exact r3
theorem made_ok {n : Nat} (hn : n < 900000000) {k : Int} (h0 : 0 ≤ k) (h5 : k < 5) : ∃ (os : List Int) (a t : Int) (n' : Nat), os ∈ ordsI ∧ (a = 0 ∨ a = 1) ∧ (t = 0 ∨ t = 1 ∨ t = 2) ∧ (k = 2 ∨ t = 0) ∧ n' ≤ n + 5 ∧
    f__law_made [.loc 0, .d (.int k)] [Dr ns n, .gone] = some (.ok (outE k a t os).1 (Dr ns n' :: .gone :: (outE k a t os).2)) := by
  obtain ⟨os, a, n', ho, ha, hn', e⟩ := first_ok hl hb hn (k := k)
  have e2 : f__law_made [.loc 0, .d (.int k)] [Dr ns n, .gone] = fin2 (restM (dM k a) [Dr ns n', .gone, lO os]) := by
    rw [e]
    unfold fin2
    rfl
  by_cases hk : k = 2
  · subst hk
    obtain ⟨t, ht, e3⟩ := kind2 hl hb (n := n') (by omega) ha ho
    exact ⟨os, a, t, n' + 1, ho, ha, ht, .inl rfl, by omega, e2.trans e3⟩
  · refine ⟨os, a, 0, n', ho, ha, .inl rfl, .inr rfl, by omega, e2.trans ?_⟩
    have hE : outE k a 0 os = outM k a os := if_neg hk
    rw [hE]
    have hc : k = 0 ∨ k = 1 ∨ k = 3 ∨ k = 4 := by omega
    rcases hc with rfl | rfl | rfl | rfl
    · exact rest0 os ho ns n' a ha
    · exact rest1 os ho ns n' a ha
    · exact rest3 os ho ns n' a ha
    · exact rest4 os ho ns n' a ha
end
def runD (os : List Int) : D := .tup (os.map fun o => .tup [.str "t", .int o])
def layD (os : List Int) : D := .tup [.tup (os.map fun o => .tup [.tup [.tup [.int 0], .int o], .str "t"])]
def stD (os : List Int) : D := .tup (os.map fun o => .tup [.tup [.int o], .tup []])
def edD (a t : Int) : D := .tup (List.replicate t.toNat (pD a))
def wD (a : Int) (os : List Int) : List (D × D) := [(pD a, oD os)]
def dueD (k a t : Int) (os : List Int) : D :=
  if k = 0 then .tup [.ndct (wD a os)] else if k = 1 then .tup [oD os, pD a] else if k = 2 then .tup [edD a t, .ndct (wD a os)] else if k = 3 then .tup [runD os, layD os] else .tup [stD os]
def insD (k a t : Int) (os : List Int) : D :=
  if k = 0 then .ins "Settled" [("ways", .ndct (wD a os))] else if k = 1 then .ins "Turned" [("order", oD os), ("pair", pD a)] else if k = 2 then .ins "LeastEdges" [("edges", edD a t), ("turned", .ndct (wD a os))]
  else if k = 3 then .ins "Fails" [("run", runD os), ("layers", layD os)] else .ins "NeverFails" [("standings", stD os)]
def rowD (k a t : Int) (os : List Int) : D := .tup [.int k, dueD k a t os, insD k a t os]
def post : Option Out → Option (Sl × Hea)
  | some (.nx δ h) => some (δ.map (lowO 2), h.take 2)
  | _ => none
def put2 (u : U) : S := fun δ h => match made2 u δ h with
  | some (δ', h') => some (.nx δ' h')
  | none => none
def partX (k a : Int) : Option U := if k = 1 then some (.d (pD a)) else none
def slX (ns : List Int) (tu k a t : Int) (os : List Int) : Sl := [some (.d (.scr ns)), some (.loc 0), some (.loc 1), some (.d (.int tu)), some (.d (.int k)), some (.d (dueD k a t os)), partX k a, some (.d (insD k a t os)), none, none, none, none]
def TailOk (k t : Int) (os : List Int) : Prop := ∀ (ns : List Int) (n : Nat) (rows : List U) (tu a : Int) (s5 s6 s7 s8 : Option U), a = 0 ∨ a = 1 →
  mskR 1 (.lst rows) (some (.ok (outE k a t os).1 (Dr ns n :: .gone :: (outE k a t os).2))) = some (.ok (outE k a t os).1 (Dr ns n :: .lst rows :: (outE k a t os).2)) ∧
  post (sseq (put2 (outE k a t os).1) tailC [some (.d (.scr ns)), some (.loc 0), some (.loc 1), some (.d (.int tu)), some (.d (.int k)), s5, s6, s7, s8, none, none, none] (Dr ns n :: .lst rows :: (outE k a t os).2)) =
    some (slX ns tu k a t os, [Dr ns n, .lst rows])
theorem tail0 : ∀ os, os ∈ ordsI → TailOk 0 0 os := mem13 (TailOk 0 0) (by
  refine ⟨?_, ?_, ?_, ?_, ?_, ?_, ?_, ?_, ?_, ?_, ?_, ?_, ?_⟩ <;> (intro ns n rows tu a s5 s6 s7 s8 ha; rcases ha with rfl | rfl <;> exact ⟨by kernel_rfl, by kernel_rfl⟩))
theorem tail1 : ∀ os, os ∈ ordsI → TailOk 1 0 os := mem13 (TailOk 1 0) (by
  refine ⟨?_, ?_, ?_, ?_, ?_, ?_, ?_, ?_, ?_, ?_, ?_, ?_, ?_⟩ <;> (intro ns n rows tu a s5 s6 s7 s8 ha; rcases ha with rfl | rfl <;> exact ⟨by kernel_rfl, by kernel_rfl⟩))
theorem tail3 : ∀ os, os ∈ ordsI → TailOk 3 0 os := mem13 (TailOk 3 0) (by
  refine ⟨?_, ?_, ?_, ?_, ?_, ?_, ?_, ?_, ?_, ?_, ?_, ?_, ?_⟩ <;> (intro ns n rows tu a s5 s6 s7 s8 ha; rcases ha with rfl | rfl <;> exact ⟨by kernel_rfl, by kernel_rfl⟩))
theorem tail4 : ∀ os, os ∈ ordsI → TailOk 4 0 os := mem13 (TailOk 4 0) (by
  refine ⟨?_, ?_, ?_, ?_, ?_, ?_, ?_, ?_, ?_, ?_, ?_, ?_, ?_⟩ <;> (intro ns n rows tu a s5 s6 s7 s8 ha; rcases ha with rfl | rfl <;> exact ⟨by kernel_rfl, by kernel_rfl⟩))
theorem tail2 {t : Int} (ht : t = 0 ∨ t = 1 ∨ t = 2) : ∀ os, os ∈ ordsI → TailOk 2 t os := mem13 (TailOk 2 t) (by
  rcases ht with rfl | rfl | rfl <;> refine ⟨?_, ?_, ?_, ?_, ?_, ?_, ?_, ?_, ?_, ?_, ?_, ?_, ?_⟩ <;> (intro ns n rows tu a s5 s6 s7 s8 ha; rcases ha with rfl | rfl <;> exact ⟨by kernel_rfl, by kernel_rfl⟩))
def sameB (i i' d d' : D) : Bool := match pOwn ownTb i i', pOr pEq pEqT d d', pOr pNe pNeT d d' with
  | some b, some (.bl b1), some (.bl b2) => b == b1 && b2 == !b
  | _, _, _ => false
def as2 : List Int := [0, 1]
def ts3 : List Int := [0, 1, 2]
def allB (p : Int → List Int → Bool) : Bool := as2.all fun a => ordsI.all fun os => p a os
theorem allB_at {p : Int → List Int → Bool} (h : allB p = true) {a : Int} (ha : a = 0 ∨ a = 1) {os : List Int} (ho : os ∈ ordsI) : p a os = true := by
  have z := List.all_eq_true.mp h a (by rcases ha with rfl | rfl <;> decide)
  exact List.all_eq_true.mp z os ho
theorem same0 : (allB fun a os => allB fun a' os' => sameB (insD 0 a 0 os) (insD 0 a' 0 os') (dueD 0 a 0 os) (dueD 0 a' 0 os')) = true := by kernel_rfl
theorem same1 : (allB fun a os => allB fun a' os' => sameB (insD 1 a 0 os) (insD 1 a' 0 os') (dueD 1 a 0 os) (dueD 1 a' 0 os')) = true := by kernel_rfl
theorem same2 : (ts3.all fun t => ts3.all fun t' => allB fun a os => allB fun a' os' => sameB (insD 2 a t os) (insD 2 a' t' os') (dueD 2 a t os) (dueD 2 a' t' os')) = true := by kernel_rfl
theorem same3 : (ordsI.all fun os => ordsI.all fun os' => sameB (insD 3 0 0 os) (insD 3 0 0 os') (dueD 3 0 0 os) (dueD 3 0 0 os')) = true := by kernel_rfl
theorem same4 : (ordsI.all fun os => ordsI.all fun os' => sameB (insD 4 0 0 os) (insD 4 0 0 os') (dueD 4 0 0 os) (dueD 4 0 0 os')) = true := by kernel_rfl
theorem sameB_at {i i' d d' : D} (h : sameB i i' d d' = true) : ∃ b, pOwn ownTb i i' = some b ∧ pOr pEq pEqT d d' = some (.bl b) ∧ pOr pNe pNeT d d' = some (.bl !b) := by
  unfold sameB at h
  split at h
  · rename_i b b1 b2 e1 e2 e3
    rw [Bool.and_eq_true, beq_iff_eq, beq_iff_eq] at h
    obtain ⟨rfl, rfl⟩ := h
    exact ⟨_, e1, e2, e3⟩
  · cases h
/-- what is drawn for a row -/
structure RowP (k a t : Int) (os : List Int) : Prop where
  k0 : 0 ≤ k
  k5 : k < 5
  a2 : a = 0 ∨ a = 1
  t3 : t = 0 ∨ t = 1 ∨ t = 2
  kt : k = 2 ∨ t = 0
  os13 : os ∈ ordsI
def Row (r : D) : Prop := ∃ k a t os, RowP k a t os ∧ r = rowD k a t os
theorem pair_same {k a t a' t' : Int} {os os' : List Int} (p : RowP k a t os) (q : RowP k a' t' os') : ∃ b, pOwn ownTb (insD k a t os) (insD k a' t' os') = some b ∧ pOr pEq pEqT (dueD k a t os) (dueD k a' t' os') = some (.bl b) ∧
    pOr pNe pNeT (dueD k a t os) (dueD k a' t' os') = some (.bl !b) := by
  refine sameB_at ?_
  have t0 : ∀ {t : Int}, t = 0 ∨ t = 1 ∨ t = 2 → t ∈ ts3 := fun h => by rcases h with rfl | rfl | rfl <;> decide
  have hc : k = 2 ∨ k = 0 ∨ k = 1 ∨ k = 3 ∨ k = 4 := by have := p.k0; have := p.k5; omega
  rcases hc with rfl | rfl | rfl | rfl | rfl
  · exact allB_at (allB_at (List.all_eq_true.mp (List.all_eq_true.mp same2 t (t0 p.t3)) t' (t0 q.t3)) p.a2 p.os13) q.a2 q.os13
  · obtain rfl : t = 0 := p.kt.resolve_left (by decide)
    obtain rfl : t' = 0 := q.kt.resolve_left (by decide)
    exact allB_at (allB_at same0 p.a2 p.os13) q.a2 q.os13
  · obtain rfl : t = 0 := p.kt.resolve_left (by decide)
    obtain rfl : t' = 0 := q.kt.resolve_left (by decide)
    exact allB_at (allB_at same1 p.a2 p.os13) q.a2 q.os13
  · exact List.all_eq_true.mp (List.all_eq_true.mp same3 os p.os13) os' q.os13
  · exact List.all_eq_true.mp (List.all_eq_true.mp same4 os p.os13) os' q.os13
def nameK (k : Int) : Str := if k = 0 then "Settled" else if k = 1 then "Turned" else if k = 2 then "LeastEdges" else if k = 3 then "Fails" else "NeverFails"
theorem ins_is (k a t : Int) (os : List Int) : ∃ fs, insD k a t os = .ins (nameK k) fs := by
  unfold insD nameK
  split
  · exact ⟨_, rfl⟩
  · split
    · exact ⟨_, rfl⟩
    · split
      · exact ⟨_, rfl⟩
      · split <;> exact ⟨_, rfl⟩
theorem own_diff {k k' : Int} (h0 : 0 ≤ k) (h5 : k < 5) (h0' : 0 ≤ k') (h5' : k' < 5) (ne : k ≠ k') (fs gs : List (Str × D)) : pOwn ownTb (.ins (nameK k) fs) (.ins (nameK k') gs) = some false := by
  have hc : k = 0 ∨ k = 1 ∨ k = 2 ∨ k = 3 ∨ k = 4 := by omega
  have hc' : k' = 0 ∨ k' = 1 ∨ k' = 2 ∨ k' = 3 ∨ k' = 4 := by omega
  rcases hc with rfl | rfl | rfl | rfl | rfl <;> rcases hc' with rfl | rfl | rfl | rfl | rfl <;> first | exact absurd rfl ne | kernel_rfl
section
variable {f g : M U} {δ : Sl} {h : Hea} {x y c : D} {b : Bool} {p : D → D → Option D}
theorem ownE_eq {tb : List (Str × FM)} {neg : Bool} (e1 : f δ h = some (.ok (.d x) h)) (e2 : g δ h = some (.ok (.d y) h)) (e3 : pOwn tb x y = some b) : ownE tb neg f g δ h = some (.ok (.d (.bl (xor neg b))) h) := by
  refine (mbnd_eq e1).trans ((mbnd_eq e2).trans ?_)
  simp only [e3]
theorem op2_eq' (e1 : f δ h = some (.ok (.d x) h)) (e2 : g δ h = some (.ok (.d y) h)) (e3 : p x y = some c) : op2 p f g δ h = some (.ok (.d c) h) := by
  refine (mbnd_eq e1).trans ((mbnd_eq e2).trans ?_)
  have z : opE p (.d x) (.d y) δ h = (match p x y with
    | some c => some (R.ok (U.d c) h)
    | none => none) := rfl
  rw [z, e3]
theorem tst_eq (e1 : f δ h = some (.ok (.d (.bl b)) h)) : tst f δ h = some (.ok b h) := (mbnd_eq e1).trans rfl
theorem andV_eq {b2 : Bool} (e1 : f δ h = some (.ok (.d (.bl b)) h)) (e2 : b = true → g δ h = some (.ok (.d (.bl b2)) h)) : andV f g δ h = some (.ok (.d (.bl (b && b2))) h) := by
  refine (mbnd_eq (tst_eq e1)).trans ?_
  cases b with
  | true => rw [if_pos rfl, Bool.true_and]; exact e2 rfl
  | false => rw [if_neg Bool.false_ne_true, Bool.false_and]; rfl
theorem orV_eq {b2 : Bool} (e1 : f δ h = some (.ok (.d (.bl b)) h)) (e2 : b = false → g δ h = some (.ok (.d (.bl b2)) h)) : orV f g δ h = some (.ok (.d (.bl (b || b2))) h) := by
  refine (mbnd_eq (tst_eq e1)).trans ?_
  cases b with
  | true => rw [if_pos rfl, Bool.true_or]; rfl
  | false => rw [if_neg Bool.false_ne_true, Bool.false_or]; exact e2 rfl
theorem orT_ff {f g : M Bool} (e1 : f δ h = some (.ok false h)) (e2 : g δ h = some (.ok false h)) : orT f g δ h = some (.ok false h) := by
  refine (mbnd_eq e1).trans ?_
  rw [if_neg Bool.false_ne_true]
  exact e2
theorem vr_eq {i : Nat} {u : U} (e : δ[i]? = some (some u)) : vr i δ h = some (.ok u h) := by
  unfold vr
  simp only [e]
end
theorem ne_self (b : Bool) : pOr pNe pNeT (.bl b) (.bl b) = some (.bl false) := by cases b <;> rfl
theorem inn_ok {k a t k' a' t' : Int} {os os' : List Int} (p : RowP k a t os) (q : RowP k' a' t' os') {δ : Sl} {h : Hea} (h4 : δ[4]? = some (some (.d (.int k)))) (h5 : δ[5]? = some (some (.d (dueD k a t os)))) (h7 : δ[7]? = some (some (.d (insD k a t os))))
    (h9 : δ[9]? = some (some (.d (.int k')))) (h10 : δ[10]? = some (some (.d (dueD k' a' t' os')))) (h11 : δ[11]? = some (some (.d (insD k' a' t' os')))) : innB δ h = some (.ok false h) := by
  have fin : ∀ b : Bool, pOwn ownTb (insD k a t os) (insD k' a' t' os') = some b → andV (op2 (pOr pEq pEqT) (vr 4) (vr 9)) (op2 (pOr pEq pEqT) (vr 5) (vr 10)) δ h = some (.ok (.d (.bl b)) h) →
      orV (op2 (pOr pNe pNeT) (vr 4) (vr 9)) (op2 (pOr pNe pNeT) (vr 5) (vr 10)) δ h = some (.ok (.d (.bl !b)) h) → innB δ h = some (.ok false h) := fun b e1 e2 e3 => by
    rw [inn_is]
    refine orT_ff (tst_eq (op2_eq' (ownE_eq (vr_eq h7) (vr_eq h11) e1) e2 ?_)) (tst_eq (op2_eq' (ownE_eq (vr_eq h7) (vr_eq h11) e1) e3 ?_))
    · rw [Bool.false_xor]; exact ne_self b
    · rw [Bool.true_xor]; exact ne_self (!b)
  have ek : op2 (pOr pEq pEqT) (vr 4) (vr 9) δ h = some (.ok (.d (.bl (k == k'))) h) := op2_eq' (vr_eq h4) (vr_eq h9) rfl
  have nk : op2 (pOr pNe pNeT) (vr 4) (vr 9) δ h = some (.ok (.d (.bl !(k == k'))) h) := op2_eq' (vr_eq h4) (vr_eq h9) rfl
  by_cases hk : k = k'
  · subst hk
    obtain ⟨b, e1, e2, e3⟩ := pair_same p q
    have a1 := andV_eq ek fun _ => op2_eq' (c := .bl b) (vr_eq h5) (vr_eq h10) e2
    have a2 := orV_eq nk fun _ => op2_eq' (c := .bl !b) (vr_eq h5) (vr_eq h10) e3
    rw [beq_self_eq_true, Bool.true_and] at a1
    rw [beq_self_eq_true, Bool.not_true, Bool.false_or] at a2
    exact fin b e1 a1 a2
  · have hf : (k == k') = false := beq_eq_false_iff_ne.mpr hk
    rw [hf] at ek nk
    obtain ⟨fs, e1⟩ := ins_is k a t os
    obtain ⟨gs, e2⟩ := ins_is k' a' t' os'
    have e3 : pOwn ownTb (insD k a t os) (insD k' a' t' os') = some false := by
      rw [e1, e2]
      exact own_diff p.k0 p.k5 q.k0 q.k5 hk fs gs
    exact fin false e3 (andV_eq (b2 := false) ek fun z => by cases z) (orV_eq (b2 := false) nk fun z => by cases z)
theorem scut_of {b : S} {δ δx : Sl} {h hx : Hea} (e : post (b δ h) = some (δx, hx)) (hl : h.length = 2) (hw : lowH 2 hx = true) : scut b δ h = some (.nx δx hx) := by
  unfold scut
  cases hb : b δ h with
  | none => rw [hb] at e; cases e
  | some o =>
    rw [hb] at e
    cases o with
    | nx δ' h' =>
      cases e
      dsimp only
      rw [hl, if_pos hw]
    | rt _ _ => cases e
    | bk _ _ => cases e
    | ct _ _ => cases e
    | ex _ _ _ => cases e
theorem lowS_map : ∀ ds : List D, lowS 2 (ds.map .d) = true
  | [] => rfl
  | d :: ds => by
    show (true && lowS 2 (ds.map .d)) = true
    rw [lowS_map ds]
    rfl
/-- what follows does the rest -/
def Th (s' s x : S) : Prop := ∀ δ h δ1 h1, s' δ h = some (.nx δ1 h1) → s δ h = x δ1 h1
theorem Th.fin {x : S} : Th snx x x := fun δ h δ1 h1 e => by
  cases e
  rfl
theorem Th.seq {s t' t x : S} (h : Th t' t x) : Th (sseq s t') (sseq s t) x := fun δ h0 δ1 h1 e => by
  unfold sseq at e ⊢
  cases hs : s δ h0 with
  | none => rw [hs] at e; cases e
  | some o =>
    rw [hs] at e
    cases o with
    | nx δ' h' => exact h δ' h' δ1 h1 e
    | rt _ _ => cases e
    | bk _ _ => cases e
    | ct _ _ => cases e
    | ex _ _ _ => cases e
theorem low_back {δ : Sl} {δx : Sl} (e : δ.map (lowO 2) = δx) {i : Nat} {u : U} (h : δx[i]? = some (some u)) : δ[i]? = some (some u) := by
  subst e
  rw [List.getElem?_map] at h
  cases hx : δ[i]? with
  | none => rw [hx] at h; cases h
  | some o =>
    rw [hx] at h
    cases o with
    | none => cases h
    | some u0 =>
      have z : lowO 2 (some u0) = some u := Option.some.inj h
      unfold lowO at z
      dsimp only at z
      split at z
      · rw [Option.some.inj z]
      · cases z
theorem app_ok {δ : Sl} {h : Hea} {rows : List U} {k d i : D} {x : O} (hz : rows.length < 1000) (h2 : δ[2]? = some (some (.loc 1))) (h4 : δ[4]? = some (some (.d k))) (h5 : δ[5]? = some (some (.d d))) (h7 : δ[7]? = some (some (.d i))) (hh : h.take 2 = [x, .lst rows]) :
    app5 δ h = some (.nx δ (h.set 1 (.lst (rows ++ [.d (.tup [k, d, i])])))) := by
  have h1 : h[1]? = some (.lst rows) := by
    have z : (h.take 2)[1]? = h[1]? := List.getElem?_take_of_lt (by decide)
    rw [← z, hh]
    rfl
  have e1 : mbnd (mcons (vr 4) (mcons (vr 5) (mcons (vr 7) mnil))) tupE δ h = some (.ok (.d (.tup [k, d, i])) h) := (mbnd_eq (mcons_eq (vr_eq h4) (mcons_eq (vr_eq h5) (mcons_eq (vr_eq h7) rfl)))).trans rfl
  have e2 : lmE pAppend (vr 2) (mcons (mbnd (mcons (vr 4) (mcons (vr 5) (mcons (vr 7) mnil))) tupE) mnil) δ h = some (.ok (.d .non) (h.set 1 (.lst (rows ++ [.d (.tup [k, d, i])])))) := by
    have o : OkM (lmE pAppend (vr 2) (mcons (mbnd (mcons (vr 4) (mcons (vr 5) (mcons (vr 7) mnil))) tupE) mnil)) δ h fun u h' => u = .d .non ∧ h' = h.set 1 (.lst (rows ++ [.d (.tup [k, d, i])])) := by
      refine okm_lmE (OkM.mk (vr_eq h2) ⟨1, rows, rfl, h1, OkM.mk (mcons_eq e1 rfl) ⟨rows, .d .non, rows ++ [.d (.tup [k, d, i])], h1, ?_, rfl, rfl⟩⟩)
      show (if szOk (rows.length + 1) = true then some (U.d D.non, rows ++ [.d (.tup [k, d, i])]) else none) = _
      rw [if_pos (szOk_of (by omega))]
    obtain ⟨u, h', e, rfl, rfl⟩ := o
    exact e
  unfold app5 sexp
  exact (sbnd_eq e2).trans rfl
theorem post_some {o : Option Out} {δx : Sl} {hx : Hea} (e : post o = some (δx, hx)) : ∃ δ h, o = some (.nx δ h) ∧ δ.map (lowO 2) = δx ∧ h.take 2 = hx := by
  unfold post at e
  split at e
  · cases e
    exact ⟨_, _, rfl, rfl, rfl⟩
  · cases e
theorem tailAll {k a t : Int} {os : List Int} (p : RowP k a t os) : TailOk k t os := by
  have hc : k = 2 ∨ k = 0 ∨ k = 1 ∨ k = 3 ∨ k = 4 := by have := p.k0; have := p.k5; omega
  rcases hc with rfl | rfl | rfl | rfl | rfl
  · exact tail2 p.t3 os p.os13
  · obtain rfl : t = 0 := p.kt.resolve_left (by decide)
    exact tail0 os p.os13
  · obtain rfl : t = 0 := p.kt.resolve_left (by decide)
    exact tail1 os p.os13
  · obtain rfl : t = 0 := p.kt.resolve_left (by decide)
    exact tail3 os p.os13
  · obtain rfl : t = 0 := p.kt.resolve_left (by decide)
    exact tail4 os p.os13
def δB (ns : List Int) (tu : Int) (s4 s5 s6 s7 s8 : Option U) : Sl := [some (.d (.scr ns)), some (.loc 0), some (.loc 1), some (.d (.int tu)), s4, s5, s6, s7, s8, none, none, none]
section
variable {ns : List Int} (hl : ns.length ≤ 63) (hb : ∀ z ∈ ns, Builtin.Int.intBits z ≤ 1048576)
include hl hb
theorem body_ok {n : Nat} (hn : n < 800000000) {rows : List U} (hz : rows.length < 1000) {tu : Int} {s4 s5 s6 s7 s8 : Option U} : ∃ (k a t : Int) (os : List Int) (n' : Nat), RowP k a t os ∧ n' ≤ n + 6 ∧
    post (b_law_body (δB ns tu s4 s5 s6 s7 s8) [Dr ns n, .lst rows]) = some (slX ns tu k a t os, [Dr ns n', .lst (rows ++ [.d (rowD k a t os)])]) := by
  obtain ⟨k, h0, h5, e1⟩ := take_ok hl hb (n := n) (by omega) (h := [Dr ns n, .lst rows]) (k := 0) rfl (m := 5) (by decide)
  obtain ⟨os, a, t, n', ho, ha, ht, hkt, hn', e2⟩ := made_ok hl hb (n := n + 1) (by omega) h0 h5
  have p : RowP k a t os := ⟨h0, h5, ha, ht, hkt, ho⟩
  refine ⟨k, a, t, os, n', p, by omega, ?_⟩
  obtain ⟨t1, t2⟩ := tailAll p ns n' rows tu a s5 s6 s7 s8 ha
  have e3 : sasg (callM 2 f__law_take (mcons (vr 1) (mcons (cn (.int 5)) mnil))) (gnm 4) (δB ns tu s4 s5 s6 s7 s8) [Dr ns n, .lst rows] = some (.nx (δB ns tu (some (.d (.int k))) s5 s6 s7 s8) [Dr ns (n + 1), .lst rows]) := by
    have z : callM 2 f__law_take (mcons (vr 1) (mcons (cn (.int 5)) mnil)) (δB ns tu s4 s5 s6 s7 s8) [Dr ns n, .lst rows] = some (.ok (.d (.int k)) [Dr ns (n + 1), .lst rows]) := (mbnd_eq (mcons_eq (xs := [.d (.int 5)]) (h1 := [Dr ns n, .lst rows]) (h2 := [Dr ns n, .lst rows]) (x := .loc 0) rfl rfl)).trans e1
    exact (sbnd_eq z).trans rfl
  have e4 : made1 (δB ns tu (some (.d (.int k))) s5 s6 s7 s8) [Dr ns (n + 1), .lst rows] = some (.ok (outE k a t os).1 (Dr ns n' :: .lst rows :: (outE k a t os).2)) := by
    have z : callM 2 f__law_made (mcons (vr 1) (mcons (vr 4) mnil)) ((δB ns tu (some (.d (.int k))) s5 s6 s7 s8).map (avO 1)) [Dr ns (n + 1), .gone] = some (.ok (outE k a t os).1 (Dr ns n' :: .gone :: (outE k a t os).2)) :=
      (mbnd_eq (mcons_eq (xs := [.d (.int k)]) (h1 := [Dr ns (n + 1), .gone]) (h2 := [Dr ns (n + 1), .gone]) (x := .loc 0) rfl rfl)).trans e2
    show mskR 1 (.lst rows) (callM 2 f__law_made (mcons (vr 1) (mcons (vr 4) mnil)) ((δB ns tu (some (.d (.int k))) s5 s6 s7 s8).map (avO 1)) [Dr ns (n + 1), .gone]) = _
    rw [z]
    exact t1
  have e5 : ∀ T : S, b_law_body = sseq (sasg (callM 2 f__law_take (mcons (vr 1) (mcons (cn (.int 5)) mnil))) (gnm 4)) (sseq (sasg made1 made2) T) → b_law_body (δB ns tu s4 s5 s6 s7 s8) [Dr ns n, .lst rows] = sseq (put2 (outE k a t os).1) T (δB ns tu (some (.d (.int k))) s5 s6 s7 s8) (Dr ns n' :: .lst rows :: (outE k a t os).2) := fun T hT => by
    rw [hT, sseq_eq e3]
    have z : sasg made1 made2 (δB ns tu (some (.d (.int k))) s5 s6 s7 s8) [Dr ns (n + 1), .lst rows] = put2 (outE k a t os).1 (δB ns tu (some (.d (.int k))) s5 s6 s7 s8) (Dr ns n' :: .lst rows :: (outE k a t os).2) := sbnd_eq e4
    unfold sseq
    rw [z]
  obtain ⟨δ1, h1, q1, q2, q3⟩ := post_some t2
  have th : Th (sseq (put2 (outE k a t os).1) tailC) (sseq (put2 (outE k a t os).1) tailB) app5 := by
    rw [tail_is]
    exact Th.seq (Th.seq (Th.seq (Th.seq (Th.seq Th.fin))))
  have e8 : b_law_body (δB ns tu s4 s5 s6 s7 s8) [Dr ns n, .lst rows] = app5 δ1 h1 := (e5 tailB body_is).trans (th _ _ _ _ q1)
  rw [e8, app_ok hz (low_back q2 rfl) (low_back q2 rfl) (low_back q2 rfl) (low_back q2 rfl) q3]
  show some (δ1.map (lowO 2), (h1.set 1 _).take 2) = _
  rw [q2, List.take_set, q3]
  rfl
theorem turn_ok {n : Nat} (hn : n < 800000000) {rs : List D} (hz : rs.length < 1000) {tu : Int} {s4 s5 s6 s7 s8 : Option U} : ∃ (r : D) (n' : Nat) (s4' s5' s6' s7' : Option U), Row r ∧ n' ≤ n + 6 ∧
    scut b_law_body (δB ns tu s4 s5 s6 s7 s8) [Dr ns n, .lst (rs.map .d)] = some (.nx (δB ns tu s4' s5' s6' s7' none) [Dr ns n', .lst ((rs ++ [r]).map .d)]) := by
  obtain ⟨k, a, t, os, n', p, hn', e⟩ := body_ok hl hb hn (rows := rs.map .d) (by rw [List.length_map]; exact hz) (tu := tu) (s4 := s4) (s5 := s5) (s6 := s6) (s7 := s7) (s8 := s8)
  have em : rs.map U.d ++ [.d (rowD k a t os)] = (rs ++ [rowD k a t os]).map .d := by rw [List.map_append]; rfl
  rw [em] at e
  refine ⟨rowD k a t os, n', _, _, _, _, ⟨k, a, t, os, p, rfl⟩, hn', scut_of e rfl ?_⟩
  show ((Dr ns n').low 2 && (lowS 2 ((rs ++ [rowD k a t os]).map .d) && true)) = true
  rw [lowS_map]
  rfl
theorem loop_ok : OkS (sfor (itN rngL1 (mcons (cn (.int 8)) mnil)) (gnm 3) (scut b_law_body)) [some (.d (.scr ns)), some (.loc 0), some (.loc 1), none, none, none, none, none, none, none, none, none] [Dr ns 0, .lst []]
    (fun o => ∃ (rs : List D) (n : Nat) (s3 s4 s5 s6 s7 s8 : Option U), (∀ r ∈ rs, Row r) ∧ o = .nx [some (.d (.scr ns)), some (.loc 0), some (.loc 1), s3, s4, s5, s6, s7, s8, none, none, none] [Dr ns n, .lst (rs.map .d)]) := by
  refine oks_for ⟨rngD 0 8, _, rfl, ?_⟩
  refine forL_rule (fun xs δ h => ∃ (lo : Int) (m : Nat) (rs : List D) (n : Nat) (s3 s4 s5 s6 s7 s8 : Option U), xs = rngD lo m ∧ rs.length + m ≤ 8 ∧ n ≤ 6 * rs.length ∧ (∀ r ∈ rs, Row r) ∧
    δ = [some (.d (.scr ns)), some (.loc 0), some (.loc 1), s3, s4, s5, s6, s7, s8, none, none, none] ∧ h = [Dr ns n, .lst (rs.map .d)]) ?_ ?_ _ _ _ ⟨0, 8, [], 0, none, none, none, none, none, none, rfl, Nat.le_refl _, Nat.le_refl _, (fun r h => by cases h), rfl, rfl⟩
  · rintro x rest δ h ⟨lo, m, rs, n, s3, s4, s5, s6, s7, s8, ex, hm, hn, hr, rfl, rfl⟩
    cases m with
    | zero => cases ex
    | succ m =>
      injection ex with ex er
      subst ex er
      obtain ⟨r, n', s4', s5', s6', s7', r1, r2, r3⟩ := turn_ok hl hb (n := n) (by omega) (rs := rs) (by omega) (tu := lo) (s4 := s4) (s5 := s5) (s6 := s6) (s7 := s7) (s8 := s8)
      refine ⟨_, _, rfl, _, r3, lo + 1, m, rs ++ [r], n', _, _, _, _, _, _, rfl, by rw [List.length_append]; simp; omega, by rw [List.length_append]; simp; omega, fun q hq => ?_, rfl, rfl⟩
      rcases List.mem_append.mp hq with hq | hq
      · exact hr q hq
      · rw [List.mem_singleton.mp hq]
        exact r1
  · rintro δ h ⟨lo, m, rs, n, s3, s4, s5, s6, s7, s8, ex, hm, hn, hr, rfl, rfl⟩
    exact ⟨rs, n, s3, s4, s5, s6, s7, s8, hr, rfl⟩
end
theorem rows_ok {ns : List Int} {rs : List D} (hr : ∀ r ∈ rs, Row r) {n : Nat} {s3 s4 s5 s6 s7 s8 : Option U} : OkS rows3 [some (.d (.scr ns)), some (.loc 0), some (.loc 1), s3, s4, s5, s6, s7, s8, none, none, none] [Dr ns n, .lst (rs.map .d)]
    (fun o => ∃ t3 t4 t5 t6 t7 t8 t9 t10 t11 : Option U, o = .nx [some (.d (.scr ns)), some (.loc 0), some (.d (.lst rs)), t3, t4, t5, t6, t7, t8, t9, t10, t11] [Dr ns n, .gone]) := by
  rw [rows_is]
  have e1 : ∀ s : S, sfz 2 s [some (.d (.scr ns)), some (.loc 0), some (.loc 1), s3, s4, s5, s6, s7, s8, none, none, none] [Dr ns n, .lst (rs.map .d)] = s [some (.d (.scr ns)), some (.loc 0), some (.d (.lst rs)), s3, s4, s5, s6, s7, s8, none, none, none] [Dr ns n, .gone] := fun s => by
    have z : (O.lst (rs.map .d)).view = some (.lst rs) := by
      show (allD (rs.map .d)).map D.lst = _
      rw [allD_map]
      rfl
    unfold sfz
    show (match (O.lst (rs.map .d)).view with
      | some d => s [some (.d (.scr ns)), some (.loc 0), some (.d d), s3, s4, s5, s6, s7, s8, none, none, none] [Dr ns n, .gone]
      | none => none) = _
    rw [z]
  unfold OkS
  rw [e1]
  refine oks_for ⟨rs.map .d, _, rfl, ?_⟩
  refine forL_rule (fun xs δ h => h = [Dr ns n, .gone] ∧ (∃ ds : List D, xs = ds.map .d ∧ ∀ r ∈ ds, Row r) ∧ ∃ t3 t4 t5 t6 t7 t8 t9 t10 t11 : Option U, δ = [some (.d (.scr ns)), some (.loc 0), some (.d (.lst rs)), t3, t4, t5, t6, t7, t8, t9, t10, t11]) ?_ ?_ _ _ _ ⟨rfl, ⟨rs, rfl, hr⟩, _, _, _, _, _, _, _, _, _, rfl⟩
  · rintro x rest δ h ⟨rfl, ⟨ds, ex, hd⟩, t3, t4, t5, t6, t7, t8, t9, t10, t11, rfl⟩
    cases ds with
    | nil => cases ex
    | cons r ds =>
      injection ex with ex er
      subst ex er
      obtain ⟨k, a, t, os, p, rfl⟩ := hd r List.mem_cons_self
      refine ⟨_, _, rfl, ?_⟩
      refine oks_for ⟨rs.map .d, _, rfl, ?_⟩
      refine forL_rule (fun xs δ h => h = [Dr ns n, .gone] ∧ (∃ es : List D, xs = es.map .d ∧ ∀ r ∈ es, Row r) ∧ ∃ t3 t6 t8 t9 t10 t11 : Option U, δ = [some (.d (.scr ns)), some (.loc 0), some (.d (.lst rs)), t3, some (.d (.int k)), some (.d (dueD k a t os)), t6, some (.d (insD k a t os)), t8, t9, t10, t11]) ?_ ?_ _ _ _ ⟨rfl, ⟨rs, rfl, hr⟩, _, _, _, _, _, _, rfl⟩
      · rintro x rest δ h ⟨rfl, ⟨es, ex, he⟩, t3, t6, t8, t9, t10, t11, rfl⟩
        cases es with
        | nil => cases ex
        | cons r es =>
          injection ex with ex er
          subst ex er
          obtain ⟨k', a', t', os', q, rfl⟩ := he r List.mem_cons_self
          refine ⟨_, _, rfl, ?_⟩
          refine oks_if ⟨false, _, inn_ok p q rfl rfl rfl rfl rfl rfl, fun z => (nomatch z), fun _ => ?_⟩
          exact ⟨_, rfl, rfl, ⟨es, rfl, fun r hr => he r (List.mem_cons_of_mem _ hr)⟩, _, _, _, _, _, _, rfl⟩
      · rintro δ h ⟨rfl, _, t3, t6, t8, t9, t10, t11, rfl⟩
        exact ⟨rfl, ⟨ds, rfl, fun r hr => hd r (List.mem_cons_of_mem _ hr)⟩, _, _, _, _, _, _, _, _, _, rfl⟩
  · rintro δ h ⟨rfl, _, t3, t4, t5, t6, t7, t8, t9, t10, t11, rfl⟩
    exact ⟨_, _, _, _, _, _, _, _, _, rfl⟩
def fin0 : Option Out → Option (R U)
  | some (.nx _ h') => fin 0 (.d .non) h'
  | some (.rt u h') => fin 0 u h'
  | some (.ex e _ h') => finX 0 e h'
  | _ => none
theorem end_ok (ns : List Int) (n : Nat) (rs : List D) (t3 t4 t5 t6 t7 t8 t9 t10 t11 : Option U) : fin0 (end4 [some (.d (.scr ns)), some (.loc 0), some (.d (.lst rs)), t3, t4, t5, t6, t7, t8, t9, t10, t11] [Dr ns n, .gone]) = some (.ok (.d (.bl true)) []) := by kernel_rfl
theorem plain (ns : List Int) (hl : ns.length ≤ 63) (hb : ∀ z ∈ ns, Builtin.Int.intBits z ≤ 1048576) : f_law [.d (.scr ns)] [] = some (.ok (.d (.bl true)) []) := by
  obtain ⟨o, e1, rs, n, s3, s4, s5, s6, s7, s8, hr, rfl⟩ := loop_ok hl hb
  obtain ⟨o, e2, t3, t4, t5, t6, t7, t8, t9, t10, t11, rfl⟩ := rows_ok (ns := ns) hr (n := n) (s3 := s3) (s4 := s4) (s5 := s5) (s6 := s6) (s7 := s7) (s8 := s8)
  have e3 : b_law [some (.d (.scr ns)), none, none, none, none, none, none, none, none, none, none, none] [] = end4 [some (.d (.scr ns)), some (.loc 0), some (.d (.lst rs)), t3, t4, t5, t6, t7, t8, t9, t10, t11] [Dr ns n, .gone] := by
    rw [law_is]
    refine (sseq_eq (δ1 := [some (.d (.scr ns)), some (.loc 0), none, none, none, none, none, none, none, none, none, none]) (h1 := [Dr ns 0]) rfl).trans ?_
    refine (sseq_eq (δ1 := [some (.d (.scr ns)), some (.loc 0), some (.loc 1), none, none, none, none, none, none, none, none, none]) (h1 := [Dr ns 0, .lst []]) rfl).trans ?_
    exact (sseq_eq e1).trans (sseq_eq e2)
  have e4 : f_law [.d (.scr ns)] [] = fin0 (b_law [some (.d (.scr ns)), none, none, none, none, none, none, none, none, none, none, none] []) := rfl
  rw [e4, e3]
  exact end_ok ns n rs t3 t4 t5 t6 t7 t8 t9 t10 t11
theorem facts_mk {K : PySem.W.Frag} {h : Heap} {mg : Str → Option Value} {f__law_number f__law_take f__law_made f__law_told f__law_due f_law C_Settled C_Turned C_LeastEdges C_Fails C_NeverFails f_Settled___init__ f_Settled___eq__ f_Settled___bool__ f_Turned___init__ f_Turned___eq__ f_Turned___bool__ f_LeastEdges___init__ f_LeastEdges___eq__ f_Fails___init__ f_Fails___eq__ f_Fails___bool__ f_NeverFails___init__ f_NeverFails___eq__ f_NeverFails___bool__ : Addr} (X : K.In h) (G : h.Ns mainGlobals mg)
    {od__law_number an__law_number od__law_take an__law_take od__law_made an__law_made od__law_told an__law_told od__law_due an__law_due od_law an_law od_Settled___init__ an_Settled___init__ od_Settled___eq__ an_Settled___eq__ od_Settled___bool__ an_Settled___bool__ od_Turned___init__ an_Turned___init__ od_Turned___eq__ an_Turned___eq__ od_Turned___bool__ an_Turned___bool__ od_LeastEdges___init__ an_LeastEdges___init__ od_LeastEdges___eq__ an_LeastEdges___eq__ od_Fails___init__ an_Fails___init__ od_Fails___eq__ an_Fails___eq__ od_Fails___bool__ an_Fails___bool__ od_NeverFails___init__ an_NeverFails___init__ od_NeverFails___eq__ an_NeverFails___eq__ od_NeverFails___bool__ an_NeverFails___bool__ : Option Addr} {sl__law_number sl__law_take sl__law_made sl__law_told sl__law_due sl_law sl_Settled___init__ sl_Settled___eq__ sl_Settled___bool__ sl_Turned___init__ sl_Turned___eq__ sl_Turned___bool__ sl_LeastEdges___init__ sl_LeastEdges___eq__ sl_Fails___init__ sl_Fails___eq__ sl_Fails___bool__ sl_NeverFails___init__ sl_NeverFails___eq__ sl_NeverFails___bool__ : Array (Option Value)} {oc__law_number kV__law_number dc__law_number pm__law_number cd__law_number ct__law_number oc__law_take kV__law_take dc__law_take pm__law_take cd__law_take ct__law_take oc__law_made kV__law_made dc__law_made pm__law_made cd__law_made ct__law_made oc__law_told kV__law_told dc__law_told pm__law_told cd__law_told ct__law_told oc__law_due kV__law_due dc__law_due pm__law_due cd__law_due ct__law_due oc_law kV_law dc_law pm_law cd_law ct_law oc_Settled___init__ kV_Settled___init__ dc_Settled___init__ pm_Settled___init__ cd_Settled___init__ ct_Settled___init__ oc_Settled___eq__ kV_Settled___eq__ dc_Settled___eq__ pm_Settled___eq__ cd_Settled___eq__ ct_Settled___eq__ oc_Settled___bool__ kV_Settled___bool__ dc_Settled___bool__ pm_Settled___bool__ cd_Settled___bool__ ct_Settled___bool__ oc_Turned___init__ kV_Turned___init__ dc_Turned___init__ pm_Turned___init__ cd_Turned___init__ ct_Turned___init__ oc_Turned___eq__ kV_Turned___eq__ dc_Turned___eq__ pm_Turned___eq__ cd_Turned___eq__ ct_Turned___eq__ oc_Turned___bool__ kV_Turned___bool__ dc_Turned___bool__ pm_Turned___bool__ cd_Turned___bool__ ct_Turned___bool__ oc_LeastEdges___init__ kV_LeastEdges___init__ dc_LeastEdges___init__ pm_LeastEdges___init__ cd_LeastEdges___init__ ct_LeastEdges___init__ oc_LeastEdges___eq__ kV_LeastEdges___eq__ dc_LeastEdges___eq__ pm_LeastEdges___eq__ cd_LeastEdges___eq__ ct_LeastEdges___eq__ oc_Fails___init__ kV_Fails___init__ dc_Fails___init__ pm_Fails___init__ cd_Fails___init__ ct_Fails___init__ oc_Fails___eq__ kV_Fails___eq__ dc_Fails___eq__ pm_Fails___eq__ cd_Fails___eq__ ct_Fails___eq__ oc_Fails___bool__ kV_Fails___bool__ dc_Fails___bool__ pm_Fails___bool__ cd_Fails___bool__ ct_Fails___bool__ oc_NeverFails___init__ kV_NeverFails___init__ dc_NeverFails___init__ pm_NeverFails___init__ cd_NeverFails___init__ ct_NeverFails___init__ oc_NeverFails___eq__ kV_NeverFails___eq__ dc_NeverFails___eq__ pm_NeverFails___eq__ cd_NeverFails___eq__ ct_NeverFails___eq__ oc_NeverFails___bool__ kV_NeverFails___bool__ dc_NeverFails___bool__ pm_NeverFails___bool__ cd_NeverFails___bool__ ct_NeverFails___bool__ : Value}
    (a__law_number : PySem.W.nsIn K mainGlobals "_law_number" = some (some (.ref f__law_number)))
    (l__law_number : K.lookup f__law_number = some ⟨oc__law_number, od__law_number, .func (PySem.W.fnOf "_law_number" "_law_number" (defArgs (topS 9)) (defBody (topS 9)) (defScope (topS 9)) .none kV__law_number dc__law_number pm__law_number an__law_number cd__law_number ct__law_number), sl__law_number⟩)
    (c__law_number : PySem.W.codeIn K cd__law_number "_law_number" = true)
    (k__law_number : PySem.W.keepIn K (.ref f__law_number) = true)
    (a__law_take : PySem.W.nsIn K mainGlobals "_law_take" = some (some (.ref f__law_take)))
    (l__law_take : K.lookup f__law_take = some ⟨oc__law_take, od__law_take, .func (PySem.W.fnOf "_law_take" "_law_take" (defArgs (topS 10)) (defBody (topS 10)) (defScope (topS 10)) .none kV__law_take dc__law_take pm__law_take an__law_take cd__law_take ct__law_take), sl__law_take⟩)
    (c__law_take : PySem.W.codeIn K cd__law_take "_law_take" = true)
    (k__law_take : PySem.W.keepIn K (.ref f__law_take) = true)
    (a__law_made : PySem.W.nsIn K mainGlobals "_law_made" = some (some (.ref f__law_made)))
    (l__law_made : K.lookup f__law_made = some ⟨oc__law_made, od__law_made, .func (PySem.W.fnOf "_law_made" "_law_made" (defArgs (topS 11)) (defBody (topS 11)) (defScope (topS 11)) .none kV__law_made dc__law_made pm__law_made an__law_made cd__law_made ct__law_made), sl__law_made⟩)
    (c__law_made : PySem.W.codeIn K cd__law_made "_law_made" = true)
    (k__law_made : PySem.W.keepIn K (.ref f__law_made) = true)
    (a__law_told : PySem.W.nsIn K mainGlobals "_law_told" = some (some (.ref f__law_told)))
    (l__law_told : K.lookup f__law_told = some ⟨oc__law_told, od__law_told, .func (PySem.W.fnOf "_law_told" "_law_told" (defArgs (topS 12)) (defBody (topS 12)) (defScope (topS 12)) .none kV__law_told dc__law_told pm__law_told an__law_told cd__law_told ct__law_told), sl__law_told⟩)
    (c__law_told : PySem.W.codeIn K cd__law_told "_law_told" = true)
    (k__law_told : PySem.W.keepIn K (.ref f__law_told) = true)
    (a__law_due : PySem.W.nsIn K mainGlobals "_law_due" = some (some (.ref f__law_due)))
    (l__law_due : K.lookup f__law_due = some ⟨oc__law_due, od__law_due, .func (PySem.W.fnOf "_law_due" "_law_due" (defArgs (topS 13)) (defBody (topS 13)) (defScope (topS 13)) .none kV__law_due dc__law_due pm__law_due an__law_due cd__law_due ct__law_due), sl__law_due⟩)
    (c__law_due : PySem.W.codeIn K cd__law_due "_law_due" = true)
    (k__law_due : PySem.W.keepIn K (.ref f__law_due) = true)
    (a_law : PySem.W.nsIn K mainGlobals "law" = some (some (.ref f_law)))
    (l_law : K.lookup f_law = some ⟨oc_law, od_law, .func (PySem.W.fnOf "law" "law" (defArgs (topS 14)) (defBody (topS 14)) (defScope (topS 14)) .none kV_law dc_law pm_law an_law cd_law ct_law), sl_law⟩)
    (c_law : PySem.W.codeIn K cd_law "law" = true)
    (k_law : PySem.W.keepIn K (.ref f_law) = true)
    (ogk : PySem.W.specialIn K (.builtin "object.__class__") "__get__" = some (some (.builtin "getset_descriptor.__get__")))
    (otk : PySem.W.takesIn K (.builtin "object.__class__") = some true)
    (ac_Settled : PySem.W.nsIn K mainGlobals "Settled" = some (some (.ref C_Settled)))
    (pg_Settled : PySem.W.plainGet K C_Settled Str.empty = true)
    (hd_Settled : PySem.W.hasDictIn K C_Settled = true)
    (po_Settled : PySem.W.plainOver K C_Settled = true)
    (sa_Settled : PySem.W.findIn K (.ref C_Settled) "__setattr__" = some (some (.builtin "object.__setattr__")))
    (cc_Settled : PySem.W.findIn K (.ref C_Settled) "__class__" = some (some (.builtin "object.__class__")))
    (mr_Settled : PySem.W.mroIn K C_Settled (.type "object") = some true)
    (mk_Settled : PySem.W.makesIn K C_Settled = true)
    (kC_Settled : PySem.W.keepIn K (.ref C_Settled) = true)
    (na_Settled_ways : PySem.W.findIn K (.ref C_Settled) "ways" = some none)
    (ne_Settled : PySem.W.findIn K (.ref C_Settled) "__ne__" = some (some (.builtin "object.__ne__")))
    (so_Settled : PySem.W.subIn K (.ref C_Settled) (.type "object") = some true)
    (n1_Settled : PySem.W.notFirst K C_Settled (.type "tuple") = true)
    (n2_Settled : PySem.W.notFirst K C_Settled (.type "NoneType") = true)
    (ac_Turned : PySem.W.nsIn K mainGlobals "Turned" = some (some (.ref C_Turned)))
    (pg_Turned : PySem.W.plainGet K C_Turned Str.empty = true)
    (hd_Turned : PySem.W.hasDictIn K C_Turned = true)
    (po_Turned : PySem.W.plainOver K C_Turned = true)
    (sa_Turned : PySem.W.findIn K (.ref C_Turned) "__setattr__" = some (some (.builtin "object.__setattr__")))
    (cc_Turned : PySem.W.findIn K (.ref C_Turned) "__class__" = some (some (.builtin "object.__class__")))
    (mr_Turned : PySem.W.mroIn K C_Turned (.type "object") = some true)
    (mk_Turned : PySem.W.makesIn K C_Turned = true)
    (kC_Turned : PySem.W.keepIn K (.ref C_Turned) = true)
    (na_Turned_order : PySem.W.findIn K (.ref C_Turned) "order" = some none)
    (na_Turned_pair : PySem.W.findIn K (.ref C_Turned) "pair" = some none)
    (ne_Turned : PySem.W.findIn K (.ref C_Turned) "__ne__" = some (some (.builtin "object.__ne__")))
    (so_Turned : PySem.W.subIn K (.ref C_Turned) (.type "object") = some true)
    (n1_Turned : PySem.W.notFirst K C_Turned (.type "tuple") = true)
    (n2_Turned : PySem.W.notFirst K C_Turned (.type "NoneType") = true)
    (ac_LeastEdges : PySem.W.nsIn K mainGlobals "LeastEdges" = some (some (.ref C_LeastEdges)))
    (pg_LeastEdges : PySem.W.plainGet K C_LeastEdges Str.empty = true)
    (hd_LeastEdges : PySem.W.hasDictIn K C_LeastEdges = true)
    (po_LeastEdges : PySem.W.plainOver K C_LeastEdges = true)
    (sa_LeastEdges : PySem.W.findIn K (.ref C_LeastEdges) "__setattr__" = some (some (.builtin "object.__setattr__")))
    (cc_LeastEdges : PySem.W.findIn K (.ref C_LeastEdges) "__class__" = some (some (.builtin "object.__class__")))
    (mr_LeastEdges : PySem.W.mroIn K C_LeastEdges (.type "object") = some true)
    (mk_LeastEdges : PySem.W.makesIn K C_LeastEdges = true)
    (kC_LeastEdges : PySem.W.keepIn K (.ref C_LeastEdges) = true)
    (na_LeastEdges_edges : PySem.W.findIn K (.ref C_LeastEdges) "edges" = some none)
    (na_LeastEdges_turned : PySem.W.findIn K (.ref C_LeastEdges) "turned" = some none)
    (ne_LeastEdges : PySem.W.findIn K (.ref C_LeastEdges) "__ne__" = some (some (.builtin "object.__ne__")))
    (so_LeastEdges : PySem.W.subIn K (.ref C_LeastEdges) (.type "object") = some true)
    (n1_LeastEdges : PySem.W.notFirst K C_LeastEdges (.type "tuple") = true)
    (n2_LeastEdges : PySem.W.notFirst K C_LeastEdges (.type "NoneType") = true)
    (ac_Fails : PySem.W.nsIn K mainGlobals "Fails" = some (some (.ref C_Fails)))
    (pg_Fails : PySem.W.plainGet K C_Fails Str.empty = true)
    (hd_Fails : PySem.W.hasDictIn K C_Fails = true)
    (po_Fails : PySem.W.plainOver K C_Fails = true)
    (sa_Fails : PySem.W.findIn K (.ref C_Fails) "__setattr__" = some (some (.builtin "object.__setattr__")))
    (cc_Fails : PySem.W.findIn K (.ref C_Fails) "__class__" = some (some (.builtin "object.__class__")))
    (mr_Fails : PySem.W.mroIn K C_Fails (.type "object") = some true)
    (mk_Fails : PySem.W.makesIn K C_Fails = true)
    (kC_Fails : PySem.W.keepIn K (.ref C_Fails) = true)
    (na_Fails_layers : PySem.W.findIn K (.ref C_Fails) "layers" = some none)
    (na_Fails_run : PySem.W.findIn K (.ref C_Fails) "run" = some none)
    (ne_Fails : PySem.W.findIn K (.ref C_Fails) "__ne__" = some (some (.builtin "object.__ne__")))
    (so_Fails : PySem.W.subIn K (.ref C_Fails) (.type "object") = some true)
    (n1_Fails : PySem.W.notFirst K C_Fails (.type "tuple") = true)
    (n2_Fails : PySem.W.notFirst K C_Fails (.type "NoneType") = true)
    (ac_NeverFails : PySem.W.nsIn K mainGlobals "NeverFails" = some (some (.ref C_NeverFails)))
    (pg_NeverFails : PySem.W.plainGet K C_NeverFails Str.empty = true)
    (hd_NeverFails : PySem.W.hasDictIn K C_NeverFails = true)
    (po_NeverFails : PySem.W.plainOver K C_NeverFails = true)
    (sa_NeverFails : PySem.W.findIn K (.ref C_NeverFails) "__setattr__" = some (some (.builtin "object.__setattr__")))
    (cc_NeverFails : PySem.W.findIn K (.ref C_NeverFails) "__class__" = some (some (.builtin "object.__class__")))
    (mr_NeverFails : PySem.W.mroIn K C_NeverFails (.type "object") = some true)
    (mk_NeverFails : PySem.W.makesIn K C_NeverFails = true)
    (kC_NeverFails : PySem.W.keepIn K (.ref C_NeverFails) = true)
    (na_NeverFails_standings : PySem.W.findIn K (.ref C_NeverFails) "standings" = some none)
    (ne_NeverFails : PySem.W.findIn K (.ref C_NeverFails) "__ne__" = some (some (.builtin "object.__ne__")))
    (so_NeverFails : PySem.W.subIn K (.ref C_NeverFails) (.type "object") = some true)
    (n1_NeverFails : PySem.W.notFirst K C_NeverFails (.type "tuple") = true)
    (n2_NeverFails : PySem.W.notFirst K C_NeverFails (.type "NoneType") = true)
    (n3_Settled_Settled : PySem.W.notFirst K C_Settled (.ref C_Settled) = true)
    (n3_Settled_Turned : PySem.W.notFirst K C_Settled (.ref C_Turned) = true)
    (n3_Settled_LeastEdges : PySem.W.notFirst K C_Settled (.ref C_LeastEdges) = true)
    (n3_Settled_Fails : PySem.W.notFirst K C_Settled (.ref C_Fails) = true)
    (n3_Settled_NeverFails : PySem.W.notFirst K C_Settled (.ref C_NeverFails) = true)
    (kt_Settled : PySem.W.kitOne K (.type "tuple") (.ref C_Settled) = some false)
    (kn_Settled : PySem.W.kitOne K (.type "NoneType") (.ref C_Settled) = some false)
    (ko_Settled_Settled : PySem.W.kitOne K (.ref C_Settled) (.ref C_Settled) = some true)
    (ko_Settled_Turned : PySem.W.kitOne K (.ref C_Turned) (.ref C_Settled) = some false)
    (ko_Settled_LeastEdges : PySem.W.kitOne K (.ref C_LeastEdges) (.ref C_Settled) = some false)
    (ko_Settled_Fails : PySem.W.kitOne K (.ref C_Fails) (.ref C_Settled) = some false)
    (ko_Settled_NeverFails : PySem.W.kitOne K (.ref C_NeverFails) (.ref C_Settled) = some false)
    (n3_Turned_Settled : PySem.W.notFirst K C_Turned (.ref C_Settled) = true)
    (n3_Turned_Turned : PySem.W.notFirst K C_Turned (.ref C_Turned) = true)
    (n3_Turned_LeastEdges : PySem.W.notFirst K C_Turned (.ref C_LeastEdges) = true)
    (n3_Turned_Fails : PySem.W.notFirst K C_Turned (.ref C_Fails) = true)
    (n3_Turned_NeverFails : PySem.W.notFirst K C_Turned (.ref C_NeverFails) = true)
    (kt_Turned : PySem.W.kitOne K (.type "tuple") (.ref C_Turned) = some false)
    (kn_Turned : PySem.W.kitOne K (.type "NoneType") (.ref C_Turned) = some false)
    (ko_Turned_Settled : PySem.W.kitOne K (.ref C_Settled) (.ref C_Turned) = some false)
    (ko_Turned_Turned : PySem.W.kitOne K (.ref C_Turned) (.ref C_Turned) = some true)
    (ko_Turned_LeastEdges : PySem.W.kitOne K (.ref C_LeastEdges) (.ref C_Turned) = some false)
    (ko_Turned_Fails : PySem.W.kitOne K (.ref C_Fails) (.ref C_Turned) = some false)
    (ko_Turned_NeverFails : PySem.W.kitOne K (.ref C_NeverFails) (.ref C_Turned) = some false)
    (n3_LeastEdges_Settled : PySem.W.notFirst K C_LeastEdges (.ref C_Settled) = true)
    (n3_LeastEdges_Turned : PySem.W.notFirst K C_LeastEdges (.ref C_Turned) = true)
    (n3_LeastEdges_LeastEdges : PySem.W.notFirst K C_LeastEdges (.ref C_LeastEdges) = true)
    (n3_LeastEdges_Fails : PySem.W.notFirst K C_LeastEdges (.ref C_Fails) = true)
    (n3_LeastEdges_NeverFails : PySem.W.notFirst K C_LeastEdges (.ref C_NeverFails) = true)
    (kt_LeastEdges : PySem.W.kitOne K (.type "tuple") (.ref C_LeastEdges) = some false)
    (kn_LeastEdges : PySem.W.kitOne K (.type "NoneType") (.ref C_LeastEdges) = some false)
    (ko_LeastEdges_Settled : PySem.W.kitOne K (.ref C_Settled) (.ref C_LeastEdges) = some false)
    (ko_LeastEdges_Turned : PySem.W.kitOne K (.ref C_Turned) (.ref C_LeastEdges) = some false)
    (ko_LeastEdges_LeastEdges : PySem.W.kitOne K (.ref C_LeastEdges) (.ref C_LeastEdges) = some true)
    (ko_LeastEdges_Fails : PySem.W.kitOne K (.ref C_Fails) (.ref C_LeastEdges) = some false)
    (ko_LeastEdges_NeverFails : PySem.W.kitOne K (.ref C_NeverFails) (.ref C_LeastEdges) = some false)
    (n3_Fails_Settled : PySem.W.notFirst K C_Fails (.ref C_Settled) = true)
    (n3_Fails_Turned : PySem.W.notFirst K C_Fails (.ref C_Turned) = true)
    (n3_Fails_LeastEdges : PySem.W.notFirst K C_Fails (.ref C_LeastEdges) = true)
    (n3_Fails_Fails : PySem.W.notFirst K C_Fails (.ref C_Fails) = true)
    (n3_Fails_NeverFails : PySem.W.notFirst K C_Fails (.ref C_NeverFails) = true)
    (kt_Fails : PySem.W.kitOne K (.type "tuple") (.ref C_Fails) = some false)
    (kn_Fails : PySem.W.kitOne K (.type "NoneType") (.ref C_Fails) = some false)
    (ko_Fails_Settled : PySem.W.kitOne K (.ref C_Settled) (.ref C_Fails) = some false)
    (ko_Fails_Turned : PySem.W.kitOne K (.ref C_Turned) (.ref C_Fails) = some false)
    (ko_Fails_LeastEdges : PySem.W.kitOne K (.ref C_LeastEdges) (.ref C_Fails) = some false)
    (ko_Fails_Fails : PySem.W.kitOne K (.ref C_Fails) (.ref C_Fails) = some true)
    (ko_Fails_NeverFails : PySem.W.kitOne K (.ref C_NeverFails) (.ref C_Fails) = some false)
    (n3_NeverFails_Settled : PySem.W.notFirst K C_NeverFails (.ref C_Settled) = true)
    (n3_NeverFails_Turned : PySem.W.notFirst K C_NeverFails (.ref C_Turned) = true)
    (n3_NeverFails_LeastEdges : PySem.W.notFirst K C_NeverFails (.ref C_LeastEdges) = true)
    (n3_NeverFails_Fails : PySem.W.notFirst K C_NeverFails (.ref C_Fails) = true)
    (n3_NeverFails_NeverFails : PySem.W.notFirst K C_NeverFails (.ref C_NeverFails) = true)
    (kt_NeverFails : PySem.W.kitOne K (.type "tuple") (.ref C_NeverFails) = some false)
    (kn_NeverFails : PySem.W.kitOne K (.type "NoneType") (.ref C_NeverFails) = some false)
    (ko_NeverFails_Settled : PySem.W.kitOne K (.ref C_Settled) (.ref C_NeverFails) = some false)
    (ko_NeverFails_Turned : PySem.W.kitOne K (.ref C_Turned) (.ref C_NeverFails) = some false)
    (ko_NeverFails_LeastEdges : PySem.W.kitOne K (.ref C_LeastEdges) (.ref C_NeverFails) = some false)
    (ko_NeverFails_Fails : PySem.W.kitOne K (.ref C_Fails) (.ref C_NeverFails) = some false)
    (ko_NeverFails_NeverFails : PySem.W.kitOne K (.ref C_NeverFails) (.ref C_NeverFails) = some true)
    (fi_Settled___init__ : PySem.W.findIn K (.ref C_Settled) "__init__" = some (some (.ref f_Settled___init__)))
    (l_Settled___init__ : K.lookup f_Settled___init__ = some ⟨oc_Settled___init__, od_Settled___init__, .func (PySem.W.fnOf "__init__" "Settled.__init__" (defArgs (methS 2 0)) (defBody (methS 2 0)) (defScope (methS 2 0)) .none kV_Settled___init__ dc_Settled___init__ pm_Settled___init__ an_Settled___init__ cd_Settled___init__ ct_Settled___init__), sl_Settled___init__⟩)
    (c_Settled___init__ : PySem.W.codeIn K cd_Settled___init__ "Settled.__init__" = true)
    (k_Settled___init__ : PySem.W.keepIn K (.ref f_Settled___init__) = true)
    (ff_Settled___init__ : PySem.W.isFn K (.ref f_Settled___init__) = true)
    (fi_Settled___eq__ : PySem.W.findIn K (.ref C_Settled) "__eq__" = some (some (.ref f_Settled___eq__)))
    (l_Settled___eq__ : K.lookup f_Settled___eq__ = some ⟨oc_Settled___eq__, od_Settled___eq__, .func (PySem.W.fnOf "__eq__" "Settled.__eq__" (defArgs (methS 2 1)) (defBody (methS 2 1)) (defScope (methS 2 1)) .none kV_Settled___eq__ dc_Settled___eq__ pm_Settled___eq__ an_Settled___eq__ cd_Settled___eq__ ct_Settled___eq__), sl_Settled___eq__⟩)
    (c_Settled___eq__ : PySem.W.codeIn K cd_Settled___eq__ "Settled.__eq__" = true)
    (k_Settled___eq__ : PySem.W.keepIn K (.ref f_Settled___eq__) = true)
    (ff_Settled___eq__ : PySem.W.isFn K (.ref f_Settled___eq__) = true)
    (fi_Settled___bool__ : PySem.W.findIn K (.ref C_Settled) "__bool__" = some (some (.ref f_Settled___bool__)))
    (l_Settled___bool__ : K.lookup f_Settled___bool__ = some ⟨oc_Settled___bool__, od_Settled___bool__, .func (PySem.W.fnOf "__bool__" "Settled.__bool__" (defArgs (methS 2 2)) (defBody (methS 2 2)) (defScope (methS 2 2)) .none kV_Settled___bool__ dc_Settled___bool__ pm_Settled___bool__ an_Settled___bool__ cd_Settled___bool__ ct_Settled___bool__), sl_Settled___bool__⟩)
    (c_Settled___bool__ : PySem.W.codeIn K cd_Settled___bool__ "Settled.__bool__" = true)
    (k_Settled___bool__ : PySem.W.keepIn K (.ref f_Settled___bool__) = true)
    (ff_Settled___bool__ : PySem.W.isFn K (.ref f_Settled___bool__) = true)
    (fi_Turned___init__ : PySem.W.findIn K (.ref C_Turned) "__init__" = some (some (.ref f_Turned___init__)))
    (l_Turned___init__ : K.lookup f_Turned___init__ = some ⟨oc_Turned___init__, od_Turned___init__, .func (PySem.W.fnOf "__init__" "Turned.__init__" (defArgs (methS 3 0)) (defBody (methS 3 0)) (defScope (methS 3 0)) .none kV_Turned___init__ dc_Turned___init__ pm_Turned___init__ an_Turned___init__ cd_Turned___init__ ct_Turned___init__), sl_Turned___init__⟩)
    (c_Turned___init__ : PySem.W.codeIn K cd_Turned___init__ "Turned.__init__" = true)
    (k_Turned___init__ : PySem.W.keepIn K (.ref f_Turned___init__) = true)
    (ff_Turned___init__ : PySem.W.isFn K (.ref f_Turned___init__) = true)
    (fi_Turned___eq__ : PySem.W.findIn K (.ref C_Turned) "__eq__" = some (some (.ref f_Turned___eq__)))
    (l_Turned___eq__ : K.lookup f_Turned___eq__ = some ⟨oc_Turned___eq__, od_Turned___eq__, .func (PySem.W.fnOf "__eq__" "Turned.__eq__" (defArgs (methS 3 1)) (defBody (methS 3 1)) (defScope (methS 3 1)) .none kV_Turned___eq__ dc_Turned___eq__ pm_Turned___eq__ an_Turned___eq__ cd_Turned___eq__ ct_Turned___eq__), sl_Turned___eq__⟩)
    (c_Turned___eq__ : PySem.W.codeIn K cd_Turned___eq__ "Turned.__eq__" = true)
    (k_Turned___eq__ : PySem.W.keepIn K (.ref f_Turned___eq__) = true)
    (ff_Turned___eq__ : PySem.W.isFn K (.ref f_Turned___eq__) = true)
    (fi_Turned___bool__ : PySem.W.findIn K (.ref C_Turned) "__bool__" = some (some (.ref f_Turned___bool__)))
    (l_Turned___bool__ : K.lookup f_Turned___bool__ = some ⟨oc_Turned___bool__, od_Turned___bool__, .func (PySem.W.fnOf "__bool__" "Turned.__bool__" (defArgs (methS 3 2)) (defBody (methS 3 2)) (defScope (methS 3 2)) .none kV_Turned___bool__ dc_Turned___bool__ pm_Turned___bool__ an_Turned___bool__ cd_Turned___bool__ ct_Turned___bool__), sl_Turned___bool__⟩)
    (c_Turned___bool__ : PySem.W.codeIn K cd_Turned___bool__ "Turned.__bool__" = true)
    (k_Turned___bool__ : PySem.W.keepIn K (.ref f_Turned___bool__) = true)
    (ff_Turned___bool__ : PySem.W.isFn K (.ref f_Turned___bool__) = true)
    (fi_LeastEdges___init__ : PySem.W.findIn K (.ref C_LeastEdges) "__init__" = some (some (.ref f_LeastEdges___init__)))
    (l_LeastEdges___init__ : K.lookup f_LeastEdges___init__ = some ⟨oc_LeastEdges___init__, od_LeastEdges___init__, .func (PySem.W.fnOf "__init__" "LeastEdges.__init__" (defArgs (methS 4 0)) (defBody (methS 4 0)) (defScope (methS 4 0)) .none kV_LeastEdges___init__ dc_LeastEdges___init__ pm_LeastEdges___init__ an_LeastEdges___init__ cd_LeastEdges___init__ ct_LeastEdges___init__), sl_LeastEdges___init__⟩)
    (c_LeastEdges___init__ : PySem.W.codeIn K cd_LeastEdges___init__ "LeastEdges.__init__" = true)
    (k_LeastEdges___init__ : PySem.W.keepIn K (.ref f_LeastEdges___init__) = true)
    (ff_LeastEdges___init__ : PySem.W.isFn K (.ref f_LeastEdges___init__) = true)
    (fi_LeastEdges___eq__ : PySem.W.findIn K (.ref C_LeastEdges) "__eq__" = some (some (.ref f_LeastEdges___eq__)))
    (l_LeastEdges___eq__ : K.lookup f_LeastEdges___eq__ = some ⟨oc_LeastEdges___eq__, od_LeastEdges___eq__, .func (PySem.W.fnOf "__eq__" "LeastEdges.__eq__" (defArgs (methS 4 1)) (defBody (methS 4 1)) (defScope (methS 4 1)) .none kV_LeastEdges___eq__ dc_LeastEdges___eq__ pm_LeastEdges___eq__ an_LeastEdges___eq__ cd_LeastEdges___eq__ ct_LeastEdges___eq__), sl_LeastEdges___eq__⟩)
    (c_LeastEdges___eq__ : PySem.W.codeIn K cd_LeastEdges___eq__ "LeastEdges.__eq__" = true)
    (k_LeastEdges___eq__ : PySem.W.keepIn K (.ref f_LeastEdges___eq__) = true)
    (ff_LeastEdges___eq__ : PySem.W.isFn K (.ref f_LeastEdges___eq__) = true)
    (fi_Fails___init__ : PySem.W.findIn K (.ref C_Fails) "__init__" = some (some (.ref f_Fails___init__)))
    (l_Fails___init__ : K.lookup f_Fails___init__ = some ⟨oc_Fails___init__, od_Fails___init__, .func (PySem.W.fnOf "__init__" "Fails.__init__" (defArgs (methS 6 0)) (defBody (methS 6 0)) (defScope (methS 6 0)) .none kV_Fails___init__ dc_Fails___init__ pm_Fails___init__ an_Fails___init__ cd_Fails___init__ ct_Fails___init__), sl_Fails___init__⟩)
    (c_Fails___init__ : PySem.W.codeIn K cd_Fails___init__ "Fails.__init__" = true)
    (k_Fails___init__ : PySem.W.keepIn K (.ref f_Fails___init__) = true)
    (ff_Fails___init__ : PySem.W.isFn K (.ref f_Fails___init__) = true)
    (fi_Fails___eq__ : PySem.W.findIn K (.ref C_Fails) "__eq__" = some (some (.ref f_Fails___eq__)))
    (l_Fails___eq__ : K.lookup f_Fails___eq__ = some ⟨oc_Fails___eq__, od_Fails___eq__, .func (PySem.W.fnOf "__eq__" "Fails.__eq__" (defArgs (methS 6 1)) (defBody (methS 6 1)) (defScope (methS 6 1)) .none kV_Fails___eq__ dc_Fails___eq__ pm_Fails___eq__ an_Fails___eq__ cd_Fails___eq__ ct_Fails___eq__), sl_Fails___eq__⟩)
    (c_Fails___eq__ : PySem.W.codeIn K cd_Fails___eq__ "Fails.__eq__" = true)
    (k_Fails___eq__ : PySem.W.keepIn K (.ref f_Fails___eq__) = true)
    (ff_Fails___eq__ : PySem.W.isFn K (.ref f_Fails___eq__) = true)
    (fi_Fails___bool__ : PySem.W.findIn K (.ref C_Fails) "__bool__" = some (some (.ref f_Fails___bool__)))
    (l_Fails___bool__ : K.lookup f_Fails___bool__ = some ⟨oc_Fails___bool__, od_Fails___bool__, .func (PySem.W.fnOf "__bool__" "Fails.__bool__" (defArgs (methS 6 2)) (defBody (methS 6 2)) (defScope (methS 6 2)) .none kV_Fails___bool__ dc_Fails___bool__ pm_Fails___bool__ an_Fails___bool__ cd_Fails___bool__ ct_Fails___bool__), sl_Fails___bool__⟩)
    (c_Fails___bool__ : PySem.W.codeIn K cd_Fails___bool__ "Fails.__bool__" = true)
    (k_Fails___bool__ : PySem.W.keepIn K (.ref f_Fails___bool__) = true)
    (ff_Fails___bool__ : PySem.W.isFn K (.ref f_Fails___bool__) = true)
    (fi_NeverFails___init__ : PySem.W.findIn K (.ref C_NeverFails) "__init__" = some (some (.ref f_NeverFails___init__)))
    (l_NeverFails___init__ : K.lookup f_NeverFails___init__ = some ⟨oc_NeverFails___init__, od_NeverFails___init__, .func (PySem.W.fnOf "__init__" "NeverFails.__init__" (defArgs (methS 7 0)) (defBody (methS 7 0)) (defScope (methS 7 0)) .none kV_NeverFails___init__ dc_NeverFails___init__ pm_NeverFails___init__ an_NeverFails___init__ cd_NeverFails___init__ ct_NeverFails___init__), sl_NeverFails___init__⟩)
    (c_NeverFails___init__ : PySem.W.codeIn K cd_NeverFails___init__ "NeverFails.__init__" = true)
    (k_NeverFails___init__ : PySem.W.keepIn K (.ref f_NeverFails___init__) = true)
    (ff_NeverFails___init__ : PySem.W.isFn K (.ref f_NeverFails___init__) = true)
    (fi_NeverFails___eq__ : PySem.W.findIn K (.ref C_NeverFails) "__eq__" = some (some (.ref f_NeverFails___eq__)))
    (l_NeverFails___eq__ : K.lookup f_NeverFails___eq__ = some ⟨oc_NeverFails___eq__, od_NeverFails___eq__, .func (PySem.W.fnOf "__eq__" "NeverFails.__eq__" (defArgs (methS 7 1)) (defBody (methS 7 1)) (defScope (methS 7 1)) .none kV_NeverFails___eq__ dc_NeverFails___eq__ pm_NeverFails___eq__ an_NeverFails___eq__ cd_NeverFails___eq__ ct_NeverFails___eq__), sl_NeverFails___eq__⟩)
    (c_NeverFails___eq__ : PySem.W.codeIn K cd_NeverFails___eq__ "NeverFails.__eq__" = true)
    (k_NeverFails___eq__ : PySem.W.keepIn K (.ref f_NeverFails___eq__) = true)
    (ff_NeverFails___eq__ : PySem.W.isFn K (.ref f_NeverFails___eq__) = true)
    (fi_NeverFails___bool__ : PySem.W.findIn K (.ref C_NeverFails) "__bool__" = some (some (.ref f_NeverFails___bool__)))
    (l_NeverFails___bool__ : K.lookup f_NeverFails___bool__ = some ⟨oc_NeverFails___bool__, od_NeverFails___bool__, .func (PySem.W.fnOf "__bool__" "NeverFails.__bool__" (defArgs (methS 7 2)) (defBody (methS 7 2)) (defScope (methS 7 2)) .none kV_NeverFails___bool__ dc_NeverFails___bool__ pm_NeverFails___bool__ an_NeverFails___bool__ cd_NeverFails___bool__ ct_NeverFails___bool__), sl_NeverFails___bool__⟩)
    (c_NeverFails___bool__ : PySem.W.codeIn K cd_NeverFails___bool__ "NeverFails.__bool__" = true)
    (k_NeverFails___bool__ : PySem.W.keepIn K (.ref f_NeverFails___bool__) = true)
    (ff_NeverFails___bool__ : PySem.W.isFn K (.ref f_NeverFails___bool__) = true)
    (z_bool : PySem.W.nsIn K mainGlobals "bool" = some none)
    (z_dict : PySem.W.nsIn K mainGlobals "dict" = some none)
    (z_int : PySem.W.nsIn K mainGlobals "int" = some none)
    (z_isinstance : PySem.W.nsIn K mainGlobals "isinstance" = some none)
    (z_len : PySem.W.nsIn K mainGlobals "len" = some none)
    (z_list : PySem.W.nsIn K mainGlobals "list" = some none)
    (z_range : PySem.W.nsIn K mainGlobals "range" = some none)
    (z_tuple : PySem.W.nsIn K mainGlobals "tuple" = some none)
    : Facts K mg where
  f_Settled___init__ := ⟨C_Settled, f_Settled___init__, _, PySem.W.mg_of X G ac_Settled, ⟨mk_Settled, fi_Settled___init__, ff_Settled___init__, kC_Settled⟩, fun_mk (st := (methS 2 0)) l_Settled___init__ c_Settled___init__ k_Settled___init__, (fun_mk (st := (methS 2 0)) l_Settled___init__ c_Settled___init__ k_Settled___init__).binds (ps := ["self", "ways"]) fun _ _ _ _ _ _ us hl => match us, hl with | [_, _], _ => rfl⟩
  f_Settled___eq__ := ⟨C_Settled, f_Settled___eq__, _, PySem.W.mg_of X G ac_Settled, ⟨fi_Settled___eq__, ff_Settled___eq__, ne_Settled, so_Settled⟩, fun_mk (st := (methS 2 1)) l_Settled___eq__ c_Settled___eq__ k_Settled___eq__, (fun_mk (st := (methS 2 1)) l_Settled___eq__ c_Settled___eq__ k_Settled___eq__).binds (ps := ["self", "other"]) fun _ _ _ _ _ _ us hl => match us, hl with | [_, _], _ => rfl⟩
  f_Settled___bool__ := ⟨C_Settled, f_Settled___bool__, _, PySem.W.mg_of X G ac_Settled, ⟨fi_Settled___bool__, ff_Settled___bool__⟩, fun_mk (st := (methS 2 2)) l_Settled___bool__ c_Settled___bool__ k_Settled___bool__, (fun_mk (st := (methS 2 2)) l_Settled___bool__ c_Settled___bool__ k_Settled___bool__).binds (ps := ["self"]) fun _ _ _ _ _ _ us hl => match us, hl with | [_], _ => rfl⟩
  f_Turned___init__ := ⟨C_Turned, f_Turned___init__, _, PySem.W.mg_of X G ac_Turned, ⟨mk_Turned, fi_Turned___init__, ff_Turned___init__, kC_Turned⟩, fun_mk (st := (methS 3 0)) l_Turned___init__ c_Turned___init__ k_Turned___init__, (fun_mk (st := (methS 3 0)) l_Turned___init__ c_Turned___init__ k_Turned___init__).binds (ps := ["self", "order", "pair"]) fun _ _ _ _ _ _ us hl => match us, hl with | [_, _, _], _ => rfl⟩
  f_Turned___eq__ := ⟨C_Turned, f_Turned___eq__, _, PySem.W.mg_of X G ac_Turned, ⟨fi_Turned___eq__, ff_Turned___eq__, ne_Turned, so_Turned⟩, fun_mk (st := (methS 3 1)) l_Turned___eq__ c_Turned___eq__ k_Turned___eq__, (fun_mk (st := (methS 3 1)) l_Turned___eq__ c_Turned___eq__ k_Turned___eq__).binds (ps := ["self", "other"]) fun _ _ _ _ _ _ us hl => match us, hl with | [_, _], _ => rfl⟩
  f_Turned___bool__ := ⟨C_Turned, f_Turned___bool__, _, PySem.W.mg_of X G ac_Turned, ⟨fi_Turned___bool__, ff_Turned___bool__⟩, fun_mk (st := (methS 3 2)) l_Turned___bool__ c_Turned___bool__ k_Turned___bool__, (fun_mk (st := (methS 3 2)) l_Turned___bool__ c_Turned___bool__ k_Turned___bool__).binds (ps := ["self"]) fun _ _ _ _ _ _ us hl => match us, hl with | [_], _ => rfl⟩
  f_LeastEdges___init__ := ⟨C_LeastEdges, f_LeastEdges___init__, _, PySem.W.mg_of X G ac_LeastEdges, ⟨mk_LeastEdges, fi_LeastEdges___init__, ff_LeastEdges___init__, kC_LeastEdges⟩, fun_mk (st := (methS 4 0)) l_LeastEdges___init__ c_LeastEdges___init__ k_LeastEdges___init__, (fun_mk (st := (methS 4 0)) l_LeastEdges___init__ c_LeastEdges___init__ k_LeastEdges___init__).binds (ps := ["self", "edges", "turned"]) fun _ _ _ _ _ _ us hl => match us, hl with | [_, _, _], _ => rfl⟩
  f_LeastEdges___eq__ := ⟨C_LeastEdges, f_LeastEdges___eq__, _, PySem.W.mg_of X G ac_LeastEdges, ⟨fi_LeastEdges___eq__, ff_LeastEdges___eq__, ne_LeastEdges, so_LeastEdges⟩, fun_mk (st := (methS 4 1)) l_LeastEdges___eq__ c_LeastEdges___eq__ k_LeastEdges___eq__, (fun_mk (st := (methS 4 1)) l_LeastEdges___eq__ c_LeastEdges___eq__ k_LeastEdges___eq__).binds (ps := ["self", "other"]) fun _ _ _ _ _ _ us hl => match us, hl with | [_, _], _ => rfl⟩
  f_Fails___init__ := ⟨C_Fails, f_Fails___init__, _, PySem.W.mg_of X G ac_Fails, ⟨mk_Fails, fi_Fails___init__, ff_Fails___init__, kC_Fails⟩, fun_mk (st := (methS 6 0)) l_Fails___init__ c_Fails___init__ k_Fails___init__, (fun_mk (st := (methS 6 0)) l_Fails___init__ c_Fails___init__ k_Fails___init__).binds (ps := ["self", "run", "layers"]) fun _ _ _ _ _ _ us hl => match us, hl with | [_, _, _], _ => rfl⟩
  f_Fails___eq__ := ⟨C_Fails, f_Fails___eq__, _, PySem.W.mg_of X G ac_Fails, ⟨fi_Fails___eq__, ff_Fails___eq__, ne_Fails, so_Fails⟩, fun_mk (st := (methS 6 1)) l_Fails___eq__ c_Fails___eq__ k_Fails___eq__, (fun_mk (st := (methS 6 1)) l_Fails___eq__ c_Fails___eq__ k_Fails___eq__).binds (ps := ["self", "other"]) fun _ _ _ _ _ _ us hl => match us, hl with | [_, _], _ => rfl⟩
  f_Fails___bool__ := ⟨C_Fails, f_Fails___bool__, _, PySem.W.mg_of X G ac_Fails, ⟨fi_Fails___bool__, ff_Fails___bool__⟩, fun_mk (st := (methS 6 2)) l_Fails___bool__ c_Fails___bool__ k_Fails___bool__, (fun_mk (st := (methS 6 2)) l_Fails___bool__ c_Fails___bool__ k_Fails___bool__).binds (ps := ["self"]) fun _ _ _ _ _ _ us hl => match us, hl with | [_], _ => rfl⟩
  f_NeverFails___init__ := ⟨C_NeverFails, f_NeverFails___init__, _, PySem.W.mg_of X G ac_NeverFails, ⟨mk_NeverFails, fi_NeverFails___init__, ff_NeverFails___init__, kC_NeverFails⟩, fun_mk (st := (methS 7 0)) l_NeverFails___init__ c_NeverFails___init__ k_NeverFails___init__, (fun_mk (st := (methS 7 0)) l_NeverFails___init__ c_NeverFails___init__ k_NeverFails___init__).binds (ps := ["self", "told"]) fun _ _ _ _ _ _ us hl => match us, hl with | [_, _], _ => rfl⟩
  f_NeverFails___eq__ := ⟨C_NeverFails, f_NeverFails___eq__, _, PySem.W.mg_of X G ac_NeverFails, ⟨fi_NeverFails___eq__, ff_NeverFails___eq__, ne_NeverFails, so_NeverFails⟩, fun_mk (st := (methS 7 1)) l_NeverFails___eq__ c_NeverFails___eq__ k_NeverFails___eq__, (fun_mk (st := (methS 7 1)) l_NeverFails___eq__ c_NeverFails___eq__ k_NeverFails___eq__).binds (ps := ["self", "other"]) fun _ _ _ _ _ _ us hl => match us, hl with | [_, _], _ => rfl⟩
  f_NeverFails___bool__ := ⟨C_NeverFails, f_NeverFails___bool__, _, PySem.W.mg_of X G ac_NeverFails, ⟨fi_NeverFails___bool__, ff_NeverFails___bool__⟩, fun_mk (st := (methS 7 2)) l_NeverFails___bool__ c_NeverFails___bool__ k_NeverFails___bool__, (fun_mk (st := (methS 7 2)) l_NeverFails___bool__ c_NeverFails___bool__ k_NeverFails___bool__).binds (ps := ["self"]) fun _ _ _ _ _ _ us hl => match us, hl with | [_], _ => rfl⟩
  cl_Settled := ⟨C_Settled, PySem.W.mg_of X G ac_Settled, ⟨pg_Settled, hd_Settled, po_Settled, sa_Settled⟩, cc_Settled, ogk, otk, mr_Settled⟩
  cl_Turned := ⟨C_Turned, PySem.W.mg_of X G ac_Turned, ⟨pg_Turned, hd_Turned, po_Turned, sa_Turned⟩, cc_Turned, ogk, otk, mr_Turned⟩
  cl_LeastEdges := ⟨C_LeastEdges, PySem.W.mg_of X G ac_LeastEdges, ⟨pg_LeastEdges, hd_LeastEdges, po_LeastEdges, sa_LeastEdges⟩, cc_LeastEdges, ogk, otk, mr_LeastEdges⟩
  cl_Fails := ⟨C_Fails, PySem.W.mg_of X G ac_Fails, ⟨pg_Fails, hd_Fails, po_Fails, sa_Fails⟩, cc_Fails, ogk, otk, mr_Fails⟩
  cl_NeverFails := ⟨C_NeverFails, PySem.W.mg_of X G ac_NeverFails, ⟨pg_NeverFails, hd_NeverFails, po_NeverFails, sa_NeverFails⟩, cc_NeverFails, ogk, otk, mr_NeverFails⟩
  is_Fails := ⟨C_Fails, PySem.W.mg_of X G ac_Fails, isiC_own (fun s b hb => by
    rw [List.lookup_cons] at hb
    split at hb
    · rename_i he
      have e1 := eq_of_beq he
      subst e1
      cases hb
      exact kt_Fails
    rw [List.lookup_cons] at hb
    split at hb
    · rename_i he
      have e1 := eq_of_beq he
      subst e1
      cases hb
      exact kn_Fails
    cases hb) (fun c b hb C2 hC => by
    rw [List.lookup_cons] at hb
    split at hb
    · rename_i he
      have e1 := eq_of_beq he
      subst e1
      cases hb
      have e2 := hC.symm.trans (PySem.W.mg_of X G ac_Settled)
      cases e2
      exact ko_Fails_Settled
    rw [List.lookup_cons] at hb
    split at hb
    · rename_i he
      have e1 := eq_of_beq he
      subst e1
      cases hb
      have e2 := hC.symm.trans (PySem.W.mg_of X G ac_Turned)
      cases e2
      exact ko_Fails_Turned
    rw [List.lookup_cons] at hb
    split at hb
    · rename_i he
      have e1 := eq_of_beq he
      subst e1
      cases hb
      have e2 := hC.symm.trans (PySem.W.mg_of X G ac_LeastEdges)
      cases e2
      exact ko_Fails_LeastEdges
    rw [List.lookup_cons] at hb
    split at hb
    · rename_i he
      have e1 := eq_of_beq he
      subst e1
      cases hb
      have e2 := hC.symm.trans (PySem.W.mg_of X G ac_Fails)
      cases e2
      exact ko_Fails_Fails
    rw [List.lookup_cons] at hb
    split at hb
    · rename_i he
      have e1 := eq_of_beq he
      subst e1
      cases hb
      have e2 := hC.symm.trans (PySem.W.mg_of X G ac_NeverFails)
      cases e2
      exact ko_Fails_NeverFails
    cases hb)⟩
  is_LeastEdges := ⟨C_LeastEdges, PySem.W.mg_of X G ac_LeastEdges, isiC_own (fun s b hb => by
    rw [List.lookup_cons] at hb
    split at hb
    · rename_i he
      have e1 := eq_of_beq he
      subst e1
      cases hb
      exact kt_LeastEdges
    rw [List.lookup_cons] at hb
    split at hb
    · rename_i he
      have e1 := eq_of_beq he
      subst e1
      cases hb
      exact kn_LeastEdges
    cases hb) (fun c b hb C2 hC => by
    rw [List.lookup_cons] at hb
    split at hb
    · rename_i he
      have e1 := eq_of_beq he
      subst e1
      cases hb
      have e2 := hC.symm.trans (PySem.W.mg_of X G ac_Settled)
      cases e2
      exact ko_LeastEdges_Settled
    rw [List.lookup_cons] at hb
    split at hb
    · rename_i he
      have e1 := eq_of_beq he
      subst e1
      cases hb
      have e2 := hC.symm.trans (PySem.W.mg_of X G ac_Turned)
      cases e2
      exact ko_LeastEdges_Turned
    rw [List.lookup_cons] at hb
    split at hb
    · rename_i he
      have e1 := eq_of_beq he
      subst e1
      cases hb
      have e2 := hC.symm.trans (PySem.W.mg_of X G ac_LeastEdges)
      cases e2
      exact ko_LeastEdges_LeastEdges
    rw [List.lookup_cons] at hb
    split at hb
    · rename_i he
      have e1 := eq_of_beq he
      subst e1
      cases hb
      have e2 := hC.symm.trans (PySem.W.mg_of X G ac_Fails)
      cases e2
      exact ko_LeastEdges_Fails
    rw [List.lookup_cons] at hb
    split at hb
    · rename_i he
      have e1 := eq_of_beq he
      subst e1
      cases hb
      have e2 := hC.symm.trans (PySem.W.mg_of X G ac_NeverFails)
      cases e2
      exact ko_LeastEdges_NeverFails
    cases hb)⟩
  is_NeverFails := ⟨C_NeverFails, PySem.W.mg_of X G ac_NeverFails, isiC_own (fun s b hb => by
    rw [List.lookup_cons] at hb
    split at hb
    · rename_i he
      have e1 := eq_of_beq he
      subst e1
      cases hb
      exact kt_NeverFails
    rw [List.lookup_cons] at hb
    split at hb
    · rename_i he
      have e1 := eq_of_beq he
      subst e1
      cases hb
      exact kn_NeverFails
    cases hb) (fun c b hb C2 hC => by
    rw [List.lookup_cons] at hb
    split at hb
    · rename_i he
      have e1 := eq_of_beq he
      subst e1
      cases hb
      have e2 := hC.symm.trans (PySem.W.mg_of X G ac_Settled)
      cases e2
      exact ko_NeverFails_Settled
    rw [List.lookup_cons] at hb
    split at hb
    · rename_i he
      have e1 := eq_of_beq he
      subst e1
      cases hb
      have e2 := hC.symm.trans (PySem.W.mg_of X G ac_Turned)
      cases e2
      exact ko_NeverFails_Turned
    rw [List.lookup_cons] at hb
    split at hb
    · rename_i he
      have e1 := eq_of_beq he
      subst e1
      cases hb
      have e2 := hC.symm.trans (PySem.W.mg_of X G ac_LeastEdges)
      cases e2
      exact ko_NeverFails_LeastEdges
    rw [List.lookup_cons] at hb
    split at hb
    · rename_i he
      have e1 := eq_of_beq he
      subst e1
      cases hb
      have e2 := hC.symm.trans (PySem.W.mg_of X G ac_Fails)
      cases e2
      exact ko_NeverFails_Fails
    rw [List.lookup_cons] at hb
    split at hb
    · rename_i he
      have e1 := eq_of_beq he
      subst e1
      cases hb
      have e2 := hC.symm.trans (PySem.W.mg_of X G ac_NeverFails)
      cases e2
      exact ko_NeverFails_NeverFails
    cases hb)⟩
  is_Settled := ⟨C_Settled, PySem.W.mg_of X G ac_Settled, isiC_own (fun s b hb => by
    rw [List.lookup_cons] at hb
    split at hb
    · rename_i he
      have e1 := eq_of_beq he
      subst e1
      cases hb
      exact kt_Settled
    rw [List.lookup_cons] at hb
    split at hb
    · rename_i he
      have e1 := eq_of_beq he
      subst e1
      cases hb
      exact kn_Settled
    cases hb) (fun c b hb C2 hC => by
    rw [List.lookup_cons] at hb
    split at hb
    · rename_i he
      have e1 := eq_of_beq he
      subst e1
      cases hb
      have e2 := hC.symm.trans (PySem.W.mg_of X G ac_Settled)
      cases e2
      exact ko_Settled_Settled
    rw [List.lookup_cons] at hb
    split at hb
    · rename_i he
      have e1 := eq_of_beq he
      subst e1
      cases hb
      have e2 := hC.symm.trans (PySem.W.mg_of X G ac_Turned)
      cases e2
      exact ko_Settled_Turned
    rw [List.lookup_cons] at hb
    split at hb
    · rename_i he
      have e1 := eq_of_beq he
      subst e1
      cases hb
      have e2 := hC.symm.trans (PySem.W.mg_of X G ac_LeastEdges)
      cases e2
      exact ko_Settled_LeastEdges
    rw [List.lookup_cons] at hb
    split at hb
    · rename_i he
      have e1 := eq_of_beq he
      subst e1
      cases hb
      have e2 := hC.symm.trans (PySem.W.mg_of X G ac_Fails)
      cases e2
      exact ko_Settled_Fails
    rw [List.lookup_cons] at hb
    split at hb
    · rename_i he
      have e1 := eq_of_beq he
      subst e1
      cases hb
      have e2 := hC.symm.trans (PySem.W.mg_of X G ac_NeverFails)
      cases e2
      exact ko_Settled_NeverFails
    cases hb)⟩
  is_Turned := ⟨C_Turned, PySem.W.mg_of X G ac_Turned, isiC_own (fun s b hb => by
    rw [List.lookup_cons] at hb
    split at hb
    · rename_i he
      have e1 := eq_of_beq he
      subst e1
      cases hb
      exact kt_Turned
    rw [List.lookup_cons] at hb
    split at hb
    · rename_i he
      have e1 := eq_of_beq he
      subst e1
      cases hb
      exact kn_Turned
    cases hb) (fun c b hb C2 hC => by
    rw [List.lookup_cons] at hb
    split at hb
    · rename_i he
      have e1 := eq_of_beq he
      subst e1
      cases hb
      have e2 := hC.symm.trans (PySem.W.mg_of X G ac_Settled)
      cases e2
      exact ko_Turned_Settled
    rw [List.lookup_cons] at hb
    split at hb
    · rename_i he
      have e1 := eq_of_beq he
      subst e1
      cases hb
      have e2 := hC.symm.trans (PySem.W.mg_of X G ac_Turned)
      cases e2
      exact ko_Turned_Turned
    rw [List.lookup_cons] at hb
    split at hb
    · rename_i he
      have e1 := eq_of_beq he
      subst e1
      cases hb
      have e2 := hC.symm.trans (PySem.W.mg_of X G ac_LeastEdges)
      cases e2
      exact ko_Turned_LeastEdges
    rw [List.lookup_cons] at hb
    split at hb
    · rename_i he
      have e1 := eq_of_beq he
      subst e1
      cases hb
      have e2 := hC.symm.trans (PySem.W.mg_of X G ac_Fails)
      cases e2
      exact ko_Turned_Fails
    rw [List.lookup_cons] at hb
    split at hb
    · rename_i he
      have e1 := eq_of_beq he
      subst e1
      cases hb
      have e2 := hC.symm.trans (PySem.W.mg_of X G ac_NeverFails)
      cases e2
      exact ko_Turned_NeverFails
    cases hb)⟩
  fl_edges := fun c hc C hC => by
    rcases List.mem_cons.mp hc with rfl | hc
    · have e2 := hC.symm.trans (PySem.W.mg_of X G ac_LeastEdges)
      cases e2
      exact ⟨⟨pg_LeastEdges, hd_LeastEdges, po_LeastEdges, sa_LeastEdges⟩, na_LeastEdges_edges⟩
    exact absurd hc (by simp)
  fl_layers := fun c hc C hC => by
    rcases List.mem_cons.mp hc with rfl | hc
    · have e2 := hC.symm.trans (PySem.W.mg_of X G ac_Fails)
      cases e2
      exact ⟨⟨pg_Fails, hd_Fails, po_Fails, sa_Fails⟩, na_Fails_layers⟩
    exact absurd hc (by simp)
  fl_order := fun c hc C hC => by
    rcases List.mem_cons.mp hc with rfl | hc
    · have e2 := hC.symm.trans (PySem.W.mg_of X G ac_Turned)
      cases e2
      exact ⟨⟨pg_Turned, hd_Turned, po_Turned, sa_Turned⟩, na_Turned_order⟩
    exact absurd hc (by simp)
  fl_pair := fun c hc C hC => by
    rcases List.mem_cons.mp hc with rfl | hc
    · have e2 := hC.symm.trans (PySem.W.mg_of X G ac_Turned)
      cases e2
      exact ⟨⟨pg_Turned, hd_Turned, po_Turned, sa_Turned⟩, na_Turned_pair⟩
    exact absurd hc (by simp)
  fl_run := fun c hc C hC => by
    rcases List.mem_cons.mp hc with rfl | hc
    · have e2 := hC.symm.trans (PySem.W.mg_of X G ac_Fails)
      cases e2
      exact ⟨⟨pg_Fails, hd_Fails, po_Fails, sa_Fails⟩, na_Fails_run⟩
    exact absurd hc (by simp)
  fl_standings := fun c hc C hC => by
    rcases List.mem_cons.mp hc with rfl | hc
    · have e2 := hC.symm.trans (PySem.W.mg_of X G ac_NeverFails)
      cases e2
      exact ⟨⟨pg_NeverFails, hd_NeverFails, po_NeverFails, sa_NeverFails⟩, na_NeverFails_standings⟩
    exact absurd hc (by simp)
  fl_turned := fun c hc C hC => by
    rcases List.mem_cons.mp hc with rfl | hc
    · have e2 := hC.symm.trans (PySem.W.mg_of X G ac_LeastEdges)
      cases e2
      exact ⟨⟨pg_LeastEdges, hd_LeastEdges, po_LeastEdges, sa_LeastEdges⟩, na_LeastEdges_turned⟩
    exact absurd hc (by simp)
  fl_ways := fun c hc C hC => by
    rcases List.mem_cons.mp hc with rfl | hc
    · have e2 := hC.symm.trans (PySem.W.mg_of X G ac_Settled)
      cases e2
      exact ⟨⟨pg_Settled, hd_Settled, po_Settled, sa_Settled⟩, na_Settled_ways⟩
    exact absurd hc (by simp)
  nf_Settled := fun C hC => by
    have e1 := hC.symm.trans (PySem.W.mg_of X G ac_Settled)
    cases e1
    refine ⟨n1_Settled, n2_Settled, fun c2 hc C2 hC2 => ?_⟩
    rcases List.mem_cons.mp hc with rfl | hc
    · have e2 := hC2.symm.trans (PySem.W.mg_of X G ac_Settled)
      cases e2
      exact n3_Settled_Settled
    rcases List.mem_cons.mp hc with rfl | hc
    · have e2 := hC2.symm.trans (PySem.W.mg_of X G ac_Turned)
      cases e2
      exact n3_Settled_Turned
    rcases List.mem_cons.mp hc with rfl | hc
    · have e2 := hC2.symm.trans (PySem.W.mg_of X G ac_LeastEdges)
      cases e2
      exact n3_Settled_LeastEdges
    rcases List.mem_cons.mp hc with rfl | hc
    · have e2 := hC2.symm.trans (PySem.W.mg_of X G ac_Fails)
      cases e2
      exact n3_Settled_Fails
    rcases List.mem_cons.mp hc with rfl | hc
    · have e2 := hC2.symm.trans (PySem.W.mg_of X G ac_NeverFails)
      cases e2
      exact n3_Settled_NeverFails
    exact absurd hc (by simp)
  nf_Turned := fun C hC => by
    have e1 := hC.symm.trans (PySem.W.mg_of X G ac_Turned)
    cases e1
    refine ⟨n1_Turned, n2_Turned, fun c2 hc C2 hC2 => ?_⟩
    rcases List.mem_cons.mp hc with rfl | hc
    · have e2 := hC2.symm.trans (PySem.W.mg_of X G ac_Settled)
      cases e2
      exact n3_Turned_Settled
    rcases List.mem_cons.mp hc with rfl | hc
    · have e2 := hC2.symm.trans (PySem.W.mg_of X G ac_Turned)
      cases e2
      exact n3_Turned_Turned
    rcases List.mem_cons.mp hc with rfl | hc
    · have e2 := hC2.symm.trans (PySem.W.mg_of X G ac_LeastEdges)
      cases e2
      exact n3_Turned_LeastEdges
    rcases List.mem_cons.mp hc with rfl | hc
    · have e2 := hC2.symm.trans (PySem.W.mg_of X G ac_Fails)
      cases e2
      exact n3_Turned_Fails
    rcases List.mem_cons.mp hc with rfl | hc
    · have e2 := hC2.symm.trans (PySem.W.mg_of X G ac_NeverFails)
      cases e2
      exact n3_Turned_NeverFails
    exact absurd hc (by simp)
  nf_LeastEdges := fun C hC => by
    have e1 := hC.symm.trans (PySem.W.mg_of X G ac_LeastEdges)
    cases e1
    refine ⟨n1_LeastEdges, n2_LeastEdges, fun c2 hc C2 hC2 => ?_⟩
    rcases List.mem_cons.mp hc with rfl | hc
    · have e2 := hC2.symm.trans (PySem.W.mg_of X G ac_Settled)
      cases e2
      exact n3_LeastEdges_Settled
    rcases List.mem_cons.mp hc with rfl | hc
    · have e2 := hC2.symm.trans (PySem.W.mg_of X G ac_Turned)
      cases e2
      exact n3_LeastEdges_Turned
    rcases List.mem_cons.mp hc with rfl | hc
    · have e2 := hC2.symm.trans (PySem.W.mg_of X G ac_LeastEdges)
      cases e2
      exact n3_LeastEdges_LeastEdges
    rcases List.mem_cons.mp hc with rfl | hc
    · have e2 := hC2.symm.trans (PySem.W.mg_of X G ac_Fails)
      cases e2
      exact n3_LeastEdges_Fails
    rcases List.mem_cons.mp hc with rfl | hc
    · have e2 := hC2.symm.trans (PySem.W.mg_of X G ac_NeverFails)
      cases e2
      exact n3_LeastEdges_NeverFails
    exact absurd hc (by simp)
  nf_Fails := fun C hC => by
    have e1 := hC.symm.trans (PySem.W.mg_of X G ac_Fails)
    cases e1
    refine ⟨n1_Fails, n2_Fails, fun c2 hc C2 hC2 => ?_⟩
    rcases List.mem_cons.mp hc with rfl | hc
    · have e2 := hC2.symm.trans (PySem.W.mg_of X G ac_Settled)
      cases e2
      exact n3_Fails_Settled
    rcases List.mem_cons.mp hc with rfl | hc
    · have e2 := hC2.symm.trans (PySem.W.mg_of X G ac_Turned)
      cases e2
      exact n3_Fails_Turned
    rcases List.mem_cons.mp hc with rfl | hc
    · have e2 := hC2.symm.trans (PySem.W.mg_of X G ac_LeastEdges)
      cases e2
      exact n3_Fails_LeastEdges
    rcases List.mem_cons.mp hc with rfl | hc
    · have e2 := hC2.symm.trans (PySem.W.mg_of X G ac_Fails)
      cases e2
      exact n3_Fails_Fails
    rcases List.mem_cons.mp hc with rfl | hc
    · have e2 := hC2.symm.trans (PySem.W.mg_of X G ac_NeverFails)
      cases e2
      exact n3_Fails_NeverFails
    exact absurd hc (by simp)
  nf_NeverFails := fun C hC => by
    have e1 := hC.symm.trans (PySem.W.mg_of X G ac_NeverFails)
    cases e1
    refine ⟨n1_NeverFails, n2_NeverFails, fun c2 hc C2 hC2 => ?_⟩
    rcases List.mem_cons.mp hc with rfl | hc
    · have e2 := hC2.symm.trans (PySem.W.mg_of X G ac_Settled)
      cases e2
      exact n3_NeverFails_Settled
    rcases List.mem_cons.mp hc with rfl | hc
    · have e2 := hC2.symm.trans (PySem.W.mg_of X G ac_Turned)
      cases e2
      exact n3_NeverFails_Turned
    rcases List.mem_cons.mp hc with rfl | hc
    · have e2 := hC2.symm.trans (PySem.W.mg_of X G ac_LeastEdges)
      cases e2
      exact n3_NeverFails_LeastEdges
    rcases List.mem_cons.mp hc with rfl | hc
    · have e2 := hC2.symm.trans (PySem.W.mg_of X G ac_Fails)
      cases e2
      exact n3_NeverFails_Fails
    rcases List.mem_cons.mp hc with rfl | hc
    · have e2 := hC2.symm.trans (PySem.W.mg_of X G ac_NeverFails)
      cases e2
      exact n3_NeverFails_NeverFails
    exact absurd hc (by simp)
  f__law_number := ⟨f__law_number, _, fun_mk (st := (topS 9)) l__law_number c__law_number k__law_number, PySem.W.mg_of X G a__law_number, (fun_mk (st := (topS 9)) l__law_number c__law_number k__law_number).binds (ps := ["script", "index"]) fun _ _ _ _ _ _ us hl => match us, hl with | [_, _], _ => rfl⟩
  f__law_take := ⟨f__law_take, _, fun_mk (st := (topS 10)) l__law_take c__law_take k__law_take, PySem.W.mg_of X G a__law_take, (fun_mk (st := (topS 10)) l__law_take c__law_take k__law_take).binds (ps := ["draw", "many"]) fun _ _ _ _ _ _ us hl => match us, hl with | [_, _], _ => rfl⟩
  f__law_made := ⟨f__law_made, _, fun_mk (st := (topS 11)) l__law_made c__law_made k__law_made, PySem.W.mg_of X G a__law_made, (fun_mk (st := (topS 11)) l__law_made c__law_made k__law_made).binds (ps := ["draw", "kind"]) fun _ _ _ _ _ _ us hl => match us, hl with | [_, _], _ => rfl⟩
  f__law_told := ⟨f__law_told, _, fun_mk (st := (topS 12)) l__law_told c__law_told k__law_told, PySem.W.mg_of X G a__law_told, (fun_mk (st := (topS 12)) l__law_told c__law_told k__law_told).binds (ps := ["one"]) fun _ _ _ _ _ _ us hl => match us, hl with | [_], _ => rfl⟩
  f__law_due := ⟨f__law_due, _, fun_mk (st := (topS 13)) l__law_due c__law_due k__law_due, PySem.W.mg_of X G a__law_due, (fun_mk (st := (topS 13)) l__law_due c__law_due k__law_due).binds (ps := ["kind", "parts"]) fun _ _ _ _ _ _ us hl => match us, hl with | [_, _], _ => rfl⟩
  f_law := ⟨f_law, _, fun_mk (st := (topS 14)) l_law c_law k_law, PySem.W.mg_of X G a_law, (fun_mk (st := (topS 14)) l_law c_law k_law).binds (ps := ["script"]) fun _ _ _ _ _ _ us hl => match us, hl with | [_], _ => rfl⟩
  n_bool := PySem.W.mg_none_of X G z_bool
  n_dict := PySem.W.mg_none_of X G z_dict
  n_int := PySem.W.mg_none_of X G z_int
  n_isinstance := PySem.W.mg_none_of X G z_isinstance
  n_len := PySem.W.mg_none_of X G z_len
  n_list := PySem.W.mg_none_of X G z_list
  n_range := PySem.W.mg_none_of X G z_range
  n_tuple := PySem.W.mg_none_of X G z_tuple
theorem all_mk {l : PySem.W.OpenLaw} {w : World} {K : PySem.W.Frag} {mg : Str → Option Value} {fa : Addr} (hm : ∀ ns : List Int, ns.length ≤ 63 → (∀ z ∈ ns, Builtin.Int.intBits z ≤ 1048576) → f_law [.d (.scr ns)] [] = some (.ok (.d (.bl true)) [])) (E : Facts K mg) (hfa : mg "law" = some (.ref fa)) :
    ∃ fd : FuncData, (∀ (s : Shared) (v : Value), BindsTo s fd ⟨[v], []⟩ [("script", v)]) ∧ ∀ base : Heap, K.In base → base.Ns mainGlobals mg → FnOk l.prog w K mg base (L2.CX l.prog w) 4 fa fd ["script"] (spEnd K) := by
  obtain ⟨f, fd, F, h1, hb⟩ := E.f_law
  have e := h1.symm.trans hfa
  cases e
  refine ⟨fd, fun s v => ?_, fun base _ _ => ?_⟩
  · obtain ⟨oc, od, kV, doc, pm, an, cdv, ct, osl, rfl, lk, hcd⟩ := F.ex
    exact .of_eq rfl
  · exact fn_end (ok_law E F) rfl hm
end PM
open PySem PySem.W PyProof.Rows
set_option maxRecDepth 100000 in
set_option maxHeartbeats 0 in
theorem PySem.Challenge.cw_sameagain_k63_whole_evidence_as_objects_holds : PySem.Challenge.rw_sameagain_k63_whole_evidence_as_objects.Holds := by
  w_on; o_law; k_head; (case hw => w_witness2)
  k_fill
  refine PM.walk_PM (l := PySem.Challenge.rw_sameagain_k63_whole_evidence_as_objects) (k := 4) rfl rfl ⟨rfl, by decide, by decide⟩ (fun w h Y => PySem.W.kIn_of Y) ?F
  case F =>
    intro w mg fa h KX G hmg
    refine' PM.all_mk (fun ns hl hz => PM.plain ns hl hz) (PM.facts_mk KX G ?a__law_number ?l__law_number ?c__law_number ?k__law_number ?a__law_take ?l__law_take ?c__law_take ?k__law_take ?a__law_made ?l__law_made ?c__law_made ?k__law_made ?a__law_told ?l__law_told ?c__law_told ?k__law_told ?a__law_due ?l__law_due ?c__law_due ?k__law_due ?a_law ?l_law ?c_law ?k_law ?ogk ?otk ?ac_Settled ?pg_Settled ?hd_Settled ?po_Settled ?sa_Settled ?cc_Settled ?mr_Settled ?mk_Settled ?kC_Settled ?na_Settled_ways ?ne_Settled ?so_Settled ?n1_Settled ?n2_Settled ?ac_Turned ?pg_Turned ?hd_Turned ?po_Turned ?sa_Turned ?cc_Turned ?mr_Turned ?mk_Turned ?kC_Turned ?na_Turned_order ?na_Turned_pair ?ne_Turned ?so_Turned ?n1_Turned ?n2_Turned ?ac_LeastEdges ?pg_LeastEdges ?hd_LeastEdges ?po_LeastEdges ?sa_LeastEdges ?cc_LeastEdges ?mr_LeastEdges ?mk_LeastEdges ?kC_LeastEdges ?na_LeastEdges_edges ?na_LeastEdges_turned ?ne_LeastEdges ?so_LeastEdges ?n1_LeastEdges ?n2_LeastEdges ?ac_Fails ?pg_Fails ?hd_Fails ?po_Fails ?sa_Fails ?cc_Fails ?mr_Fails ?mk_Fails ?kC_Fails ?na_Fails_layers ?na_Fails_run ?ne_Fails ?so_Fails ?n1_Fails ?n2_Fails ?ac_NeverFails ?pg_NeverFails ?hd_NeverFails ?po_NeverFails ?sa_NeverFails ?cc_NeverFails ?mr_NeverFails ?mk_NeverFails ?kC_NeverFails ?na_NeverFails_standings ?ne_NeverFails ?so_NeverFails ?n1_NeverFails ?n2_NeverFails ?n3_Settled_Settled ?n3_Settled_Turned ?n3_Settled_LeastEdges ?n3_Settled_Fails ?n3_Settled_NeverFails ?kt_Settled ?kn_Settled ?ko_Settled_Settled ?ko_Settled_Turned ?ko_Settled_LeastEdges ?ko_Settled_Fails ?ko_Settled_NeverFails ?n3_Turned_Settled ?n3_Turned_Turned ?n3_Turned_LeastEdges ?n3_Turned_Fails ?n3_Turned_NeverFails ?kt_Turned ?kn_Turned ?ko_Turned_Settled ?ko_Turned_Turned ?ko_Turned_LeastEdges ?ko_Turned_Fails ?ko_Turned_NeverFails ?n3_LeastEdges_Settled ?n3_LeastEdges_Turned ?n3_LeastEdges_LeastEdges ?n3_LeastEdges_Fails ?n3_LeastEdges_NeverFails ?kt_LeastEdges ?kn_LeastEdges ?ko_LeastEdges_Settled ?ko_LeastEdges_Turned ?ko_LeastEdges_LeastEdges ?ko_LeastEdges_Fails ?ko_LeastEdges_NeverFails ?n3_Fails_Settled ?n3_Fails_Turned ?n3_Fails_LeastEdges ?n3_Fails_Fails ?n3_Fails_NeverFails ?kt_Fails ?kn_Fails ?ko_Fails_Settled ?ko_Fails_Turned ?ko_Fails_LeastEdges ?ko_Fails_Fails ?ko_Fails_NeverFails ?n3_NeverFails_Settled ?n3_NeverFails_Turned ?n3_NeverFails_LeastEdges ?n3_NeverFails_Fails ?n3_NeverFails_NeverFails ?kt_NeverFails ?kn_NeverFails ?ko_NeverFails_Settled ?ko_NeverFails_Turned ?ko_NeverFails_LeastEdges ?ko_NeverFails_Fails ?ko_NeverFails_NeverFails ?fi_Settled___init__ ?l_Settled___init__ ?c_Settled___init__ ?k_Settled___init__ ?ff_Settled___init__ ?fi_Settled___eq__ ?l_Settled___eq__ ?c_Settled___eq__ ?k_Settled___eq__ ?ff_Settled___eq__ ?fi_Settled___bool__ ?l_Settled___bool__ ?c_Settled___bool__ ?k_Settled___bool__ ?ff_Settled___bool__ ?fi_Turned___init__ ?l_Turned___init__ ?c_Turned___init__ ?k_Turned___init__ ?ff_Turned___init__ ?fi_Turned___eq__ ?l_Turned___eq__ ?c_Turned___eq__ ?k_Turned___eq__ ?ff_Turned___eq__ ?fi_Turned___bool__ ?l_Turned___bool__ ?c_Turned___bool__ ?k_Turned___bool__ ?ff_Turned___bool__ ?fi_LeastEdges___init__ ?l_LeastEdges___init__ ?c_LeastEdges___init__ ?k_LeastEdges___init__ ?ff_LeastEdges___init__ ?fi_LeastEdges___eq__ ?l_LeastEdges___eq__ ?c_LeastEdges___eq__ ?k_LeastEdges___eq__ ?ff_LeastEdges___eq__ ?fi_Fails___init__ ?l_Fails___init__ ?c_Fails___init__ ?k_Fails___init__ ?ff_Fails___init__ ?fi_Fails___eq__ ?l_Fails___eq__ ?c_Fails___eq__ ?k_Fails___eq__ ?ff_Fails___eq__ ?fi_Fails___bool__ ?l_Fails___bool__ ?c_Fails___bool__ ?k_Fails___bool__ ?ff_Fails___bool__ ?fi_NeverFails___init__ ?l_NeverFails___init__ ?c_NeverFails___init__ ?k_NeverFails___init__ ?ff_NeverFails___init__ ?fi_NeverFails___eq__ ?l_NeverFails___eq__ ?c_NeverFails___eq__ ?k_NeverFails___eq__ ?ff_NeverFails___eq__ ?fi_NeverFails___bool__ ?l_NeverFails___bool__ ?c_NeverFails___bool__ ?k_NeverFails___bool__ ?ff_NeverFails___bool__ ?z_bool ?z_dict ?z_int ?z_isinstance ?z_len ?z_list ?z_range ?z_tuple) hmg
    (case a__law_number => k_is)
    (case l__law_number => k_is)
    (case c__law_number => k_is)
    (case k__law_number => k_is)
    (case a__law_take => k_is)
    (case l__law_take => k_is)
    (case c__law_take => k_is)
    (case k__law_take => k_is)
    (case a__law_made => k_is)
    (case l__law_made => k_is)
    (case c__law_made => k_is)
    (case k__law_made => k_is)
    (case a__law_told => k_is)
    (case l__law_told => k_is)
    (case c__law_told => k_is)
    (case k__law_told => k_is)
    (case a__law_due => k_is)
    (case l__law_due => k_is)
    (case c__law_due => k_is)
    (case k__law_due => k_is)
    (case a_law => k_is)
    (case l_law => k_is)
    (case c_law => k_is)
    (case k_law => k_is)
    (case ogk => k_is)
    (case otk => k_is)
    (case ac_Settled => k_is)
    (case pg_Settled => k_is)
    (case hd_Settled => k_is)
    (case po_Settled => k_is)
    (case sa_Settled => k_is)
    (case cc_Settled => k_is)
    (case mr_Settled => k_is)
    (case mk_Settled => k_is)
    (case kC_Settled => k_is)
    (case na_Settled_ways => k_is)
    (case ne_Settled => k_is)
    (case so_Settled => k_is)
    (case n1_Settled => k_is)
    (case n2_Settled => k_is)
    (case ac_Turned => k_is)
    (case pg_Turned => k_is)
    (case hd_Turned => k_is)
    (case po_Turned => k_is)
    (case sa_Turned => k_is)
    (case cc_Turned => k_is)
    (case mr_Turned => k_is)
    (case mk_Turned => k_is)
    (case kC_Turned => k_is)
    (case na_Turned_order => k_is)
    (case na_Turned_pair => k_is)
    (case ne_Turned => k_is)
    (case so_Turned => k_is)
    (case n1_Turned => k_is)
    (case n2_Turned => k_is)
    (case ac_LeastEdges => k_is)
    (case pg_LeastEdges => k_is)
    (case hd_LeastEdges => k_is)
    (case po_LeastEdges => k_is)
    (case sa_LeastEdges => k_is)
    (case cc_LeastEdges => k_is)
    (case mr_LeastEdges => k_is)
    (case mk_LeastEdges => k_is)
    (case kC_LeastEdges => k_is)
    (case na_LeastEdges_edges => k_is)
    (case na_LeastEdges_turned => k_is)
    (case ne_LeastEdges => k_is)
    (case so_LeastEdges => k_is)
    (case n1_LeastEdges => k_is)
    (case n2_LeastEdges => k_is)
    (case ac_Fails => k_is)
    (case pg_Fails => k_is)
    (case hd_Fails => k_is)
    (case po_Fails => k_is)
    (case sa_Fails => k_is)
    (case cc_Fails => k_is)
    (case mr_Fails => k_is)
    (case mk_Fails => k_is)
    (case kC_Fails => k_is)
    (case na_Fails_layers => k_is)
    (case na_Fails_run => k_is)
    (case ne_Fails => k_is)
    (case so_Fails => k_is)
    (case n1_Fails => k_is)
    (case n2_Fails => k_is)
    (case ac_NeverFails => k_is)
    (case pg_NeverFails => k_is)
    (case hd_NeverFails => k_is)
    (case po_NeverFails => k_is)
    (case sa_NeverFails => k_is)
    (case cc_NeverFails => k_is)
    (case mr_NeverFails => k_is)
    (case mk_NeverFails => k_is)
    (case kC_NeverFails => k_is)
    (case na_NeverFails_standings => k_is)
    (case ne_NeverFails => k_is)
    (case so_NeverFails => k_is)
    (case n1_NeverFails => k_is)
    (case n2_NeverFails => k_is)
    (case n3_Settled_Settled => k_is)
    (case n3_Settled_Turned => k_is)
    (case n3_Settled_LeastEdges => k_is)
    (case n3_Settled_Fails => k_is)
    (case n3_Settled_NeverFails => k_is)
    (case kt_Settled => kit_is)
    (case kn_Settled => kit_is)
    (case ko_Settled_Settled => kit_is)
    (case ko_Settled_Turned => kit_is)
    (case ko_Settled_LeastEdges => kit_is)
    (case ko_Settled_Fails => kit_is)
    (case ko_Settled_NeverFails => kit_is)
    (case n3_Turned_Settled => k_is)
    (case n3_Turned_Turned => k_is)
    (case n3_Turned_LeastEdges => k_is)
    (case n3_Turned_Fails => k_is)
    (case n3_Turned_NeverFails => k_is)
    (case kt_Turned => kit_is)
    (case kn_Turned => kit_is)
    (case ko_Turned_Settled => kit_is)
    (case ko_Turned_Turned => kit_is)
    (case ko_Turned_LeastEdges => kit_is)
    (case ko_Turned_Fails => kit_is)
    (case ko_Turned_NeverFails => kit_is)
    (case n3_LeastEdges_Settled => k_is)
    (case n3_LeastEdges_Turned => k_is)
    (case n3_LeastEdges_LeastEdges => k_is)
    (case n3_LeastEdges_Fails => k_is)
    (case n3_LeastEdges_NeverFails => k_is)
    (case kt_LeastEdges => kit_is)
    (case kn_LeastEdges => kit_is)
    (case ko_LeastEdges_Settled => kit_is)
    (case ko_LeastEdges_Turned => kit_is)
    (case ko_LeastEdges_LeastEdges => kit_is)
    (case ko_LeastEdges_Fails => kit_is)
    (case ko_LeastEdges_NeverFails => kit_is)
    (case n3_Fails_Settled => k_is)
    (case n3_Fails_Turned => k_is)
    (case n3_Fails_LeastEdges => k_is)
    (case n3_Fails_Fails => k_is)
    (case n3_Fails_NeverFails => k_is)
    (case kt_Fails => kit_is)
    (case kn_Fails => kit_is)
    (case ko_Fails_Settled => kit_is)
    (case ko_Fails_Turned => kit_is)
    (case ko_Fails_LeastEdges => kit_is)
    (case ko_Fails_Fails => kit_is)
    (case ko_Fails_NeverFails => kit_is)
    (case n3_NeverFails_Settled => k_is)
    (case n3_NeverFails_Turned => k_is)
    (case n3_NeverFails_LeastEdges => k_is)
    (case n3_NeverFails_Fails => k_is)
    (case n3_NeverFails_NeverFails => k_is)
    (case kt_NeverFails => kit_is)
    (case kn_NeverFails => kit_is)
    (case ko_NeverFails_Settled => kit_is)
    (case ko_NeverFails_Turned => kit_is)
    (case ko_NeverFails_LeastEdges => kit_is)
    (case ko_NeverFails_Fails => kit_is)
    (case ko_NeverFails_NeverFails => kit_is)
    (case fi_Settled___init__ => k_is)
    (case l_Settled___init__ => k_is)
    (case c_Settled___init__ => k_is)
    (case k_Settled___init__ => k_is)
    (case ff_Settled___init__ => k_is)
    (case fi_Settled___eq__ => k_is)
    (case l_Settled___eq__ => k_is)
    (case c_Settled___eq__ => k_is)
    (case k_Settled___eq__ => k_is)
    (case ff_Settled___eq__ => k_is)
    (case fi_Settled___bool__ => k_is)
    (case l_Settled___bool__ => k_is)
    (case c_Settled___bool__ => k_is)
    (case k_Settled___bool__ => k_is)
    (case ff_Settled___bool__ => k_is)
    (case fi_Turned___init__ => k_is)
    (case l_Turned___init__ => k_is)
    (case c_Turned___init__ => k_is)
    (case k_Turned___init__ => k_is)
    (case ff_Turned___init__ => k_is)
    (case fi_Turned___eq__ => k_is)
    (case l_Turned___eq__ => k_is)
    (case c_Turned___eq__ => k_is)
    (case k_Turned___eq__ => k_is)
    (case ff_Turned___eq__ => k_is)
    (case fi_Turned___bool__ => k_is)
    (case l_Turned___bool__ => k_is)
    (case c_Turned___bool__ => k_is)
    (case k_Turned___bool__ => k_is)
    (case ff_Turned___bool__ => k_is)
    (case fi_LeastEdges___init__ => k_is)
    (case l_LeastEdges___init__ => k_is)
    (case c_LeastEdges___init__ => k_is)
    (case k_LeastEdges___init__ => k_is)
    (case ff_LeastEdges___init__ => k_is)
    (case fi_LeastEdges___eq__ => k_is)
    (case l_LeastEdges___eq__ => k_is)
    (case c_LeastEdges___eq__ => k_is)
    (case k_LeastEdges___eq__ => k_is)
    (case ff_LeastEdges___eq__ => k_is)
    (case fi_Fails___init__ => k_is)
    (case l_Fails___init__ => k_is)
    (case c_Fails___init__ => k_is)
    (case k_Fails___init__ => k_is)
    (case ff_Fails___init__ => k_is)
    (case fi_Fails___eq__ => k_is)
    (case l_Fails___eq__ => k_is)
    (case c_Fails___eq__ => k_is)
    (case k_Fails___eq__ => k_is)
    (case ff_Fails___eq__ => k_is)
    (case fi_Fails___bool__ => k_is)
    (case l_Fails___bool__ => k_is)
    (case c_Fails___bool__ => k_is)
    (case k_Fails___bool__ => k_is)
    (case ff_Fails___bool__ => k_is)
    (case fi_NeverFails___init__ => k_is)
    (case l_NeverFails___init__ => k_is)
    (case c_NeverFails___init__ => k_is)
    (case k_NeverFails___init__ => k_is)
    (case ff_NeverFails___init__ => k_is)
    (case fi_NeverFails___eq__ => k_is)
    (case l_NeverFails___eq__ => k_is)
    (case c_NeverFails___eq__ => k_is)
    (case k_NeverFails___eq__ => k_is)
    (case ff_NeverFails___eq__ => k_is)
    (case fi_NeverFails___bool__ => k_is)
    (case l_NeverFails___bool__ => k_is)
    (case c_NeverFails___bool__ => k_is)
    (case k_NeverFails___bool__ => k_is)
    (case ff_NeverFails___bool__ => k_is)
    (case z_bool => k_is)
    (case z_dict => k_is)
    (case z_int => k_is)
    (case z_isinstance => k_is)
    (case z_len => k_is)
    (case z_list => k_is)
    (case z_range => k_is)
    (case z_tuple => k_is)
