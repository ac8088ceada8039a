import PyProof.Rows.All
import Wide.All
import OpenK.AllK
import Wide.FinOn
import HandS.ForMost
import HandS.Defaults
import HandS.TupAny
import HandS.Style
import HandS.StrMore
import HandS.Conv
import HandS.IsInst
import HandS.ClsMeth
import HandS.OwnEq
import HandS.Codes
import HandS.Star
import HandS.Strs
import KE.KStateDown
import HandS.WordsExc
import HandS.Head0
import HandS.Head1
import HandS.Head2
import HandS.HeadEnd
import HandS.HeadHook1
import HandS.HeadHook2
import HandS.HeadHook3
import HandS.HeadHook4
import PySem.Challenge.RW_standingrows_k44_bars_judged
set_option Elab.async false
set_option linter.all false
set_option maxRecDepth 100000
set_option maxHeartbeats 4000000
/-! Iv1: plain data D; a value that stands for plain data (R), with lists that are owned (RO); the slots of a def (RS, Sg). -/
namespace Iv
open PySem PySem.Spec PyProof.Rows L2

inductive D where
  | non | bl (b : Bool) | int (i : Int) | str (s : Str)
  | tup (xs : List D) | lst (xs : List D)
  | dic (ks xs : List D)
  | obj (c : Str) (ns : List Str) (xs : List D)
  | scr (xs : List Int)
def D.mut : D → Bool
  | .lst _ => true
  | .dic _ _ => true
  | .obj _ _ _ => true
  | _ => false

def TS' (K : PySem.W.Frag) (a : Addr) (xs : List V) : Prop :=
  ∃ (o : Obj) (its : Array Value) (n : Nat), K.lookup a = some o ∧ o.cls = .type "tuple" ∧ o.data = .seq its n ∧ its.size ≤ sizeLine ∧ Vals xs its.toList
/-- a list that stands in the written part -/
def LS' (K : PySem.W.Frag) (a : Addr) (xs : List V) : Prop :=
  ∃ (o : Obj) (its : Array Value) (n : Nat), K.lookup a = some o ∧ o.cls = .type "list" ∧ o.dict = none ∧ o.data = .seq its n ∧ its.size ≤ sizeLine ∧ Vals xs its.toList
def keyD : Key → D
  | .inl i => .int i
  | .inr s => .str s
/-- a dict stands at a -/
def DicAt (H : Hp) (a : Addr) (ks : List D) (vs : List V) : Prop :=
  (∃ kvs : List (Key × V), H a = some (.dK kvs) ∧ kvs.map (fun p => keyD p.1) = ks ∧ kvs.map (·.2) = vs) ∨
  (∃ kvs : List (List Key × V), H a = some (.dT kvs) ∧ kvs.map (fun p => D.tup (p.1.map keyD)) = ks ∧ kvs.map (·.2) = vs)
/-- an instance stands at a -/
def ObjAt (K : PySem.W.Frag) (H : Hp) (a : Addr) (c : Str) (ns : List Str) (vs : List V) (C : Addr) : Prop :=
  ns.length = vs.length ∧ ∃ dx, H a = some (.ins C dx (ns.zip vs))
theorem DicAt.of {H H' : Hp} {a : Addr} {ks : List D} {vs : List V} (h : DicAt H a ks vs) (k : ∀ o, H a = some o → H' a = some o) : DicAt H' a ks vs := by
  rcases h with ⟨kvs, e, r⟩ | ⟨kvs, e, r⟩
  · exact .inl ⟨kvs, k _ e, r⟩
  · exact .inr ⟨kvs, k _ e, r⟩
theorem DicAt.some {H : Hp} {a : Addr} {ks : List D} {vs : List V} (h : DicAt H a ks vs) : ∃ o, H a = some o := by
  rcases h with ⟨kvs, e, r⟩ | ⟨kvs, e, r⟩
  · exact ⟨_, e⟩
  · exact ⟨_, e⟩

/-- the class addresses by name -/
abbrev CN := Str → Addr
structure Wd where
  K : PySem.W.Frag
  cn : CN

mutual
/-- v stands for d. L: owned addresses, which no node that may be kept is at; M: those that the nodes of the first n levels are not at -/
inductive R (k : Wd) (L M : List Addr) (H : Hp) : Nat → V → D → Prop
  | non {n : Nat} : R k L M H n .non .non
  | bl {n : Nat} (b : Bool) : R k L M H n (.bl b) (.bl b)
  | int {n : Nat} (i : Int) : R k L M H n (.int i) (.int i)
  | str {n : Nat} (s : Str) : R k L M H n (.str s) (.str s)
  | tup {n : Nat} {a : Addr} {vs : List V} {ds : List D} : Rd H a (.tup vs) → a ∉ L → Rs k L M H 0 vs ds → R k L M H n (.ref a) (.tup ds)
  | tupS {n : Nat} {a : Addr} {vs : List V} {ds : List D} : TS' k.K a vs → Rs k L M H 0 vs ds → R k L M H n (.ref a) (.tup ds)
  | lst0 {a : Addr} {vs : List V} {ds : List D} : Rd H a (.lst vs) → a ∉ L → Rs k L M H 0 vs ds → R k L M H 0 (.ref a) (.lst ds)
  | lst1 {n : Nat} {a : Addr} {vs : List V} {ds : List D} : Rd H a (.lst vs) → a ∉ M → Rs k L M H n vs ds → R k L M H (n + 1) (.ref a) (.lst ds)
  | dic0 {a : Addr} {ks : List D} {vs : List V} {ds : List D} : DicAt H a ks vs → a ∉ L → Rs k L M H 0 vs ds → R k L M H 0 (.ref a) (.dic ks ds)
  | dic1 {n : Nat} {a : Addr} {ks : List D} {vs : List V} {ds : List D} : DicAt H a ks vs → a ∉ M → Rs k L M H n vs ds → R k L M H (n + 1) (.ref a) (.dic ks ds)
  | obj0 {a : Addr} {c : Str} {ns : List Str} {vs : List V} {ds : List D} : ObjAt k.K H a c ns vs (k.cn c) → a ∉ L → Rs k L M H 0 vs ds → R k L M H 0 (.ref a) (.obj c ns ds)
  | obj1 {n : Nat} {a : Addr} {c : Str} {ns : List Str} {vs : List V} {ds : List D} : ObjAt k.K H a c ns vs (k.cn c) → a ∉ M → Rs k L M H 0 vs ds → R k L M H (n + 1) (.ref a) (.obj c ns ds)
  | scr {n : Nat} {a : Addr} {xs : List Int} : Rd H a (.lst (xs.map V.int)) → a ∉ L → R k L M H n (.ref a) (.scr xs)
  | scrS {n : Nat} {a : Addr} {xs : List Int} : LS' k.K a (xs.map V.int) → R k L M H n (.ref a) (.scr xs)
inductive Rs (k : Wd) (L M : List Addr) (H : Hp) : Nat → List V → List D → Prop
  | nil {n : Nat} : Rs k L M H n [] []
  | cons {n : Nat} {v : V} {d : D} {vs : List V} {ds : List D} : R k L M H n v d → Rs k L M H n vs ds → Rs k L M H n (v :: vs) (d :: ds)
end

theorem Rd.keep {H H' : Hp} {a : Addr} {u : HO} (h : Rd H a u) (k : ∀ o, H a = some o → H' a = some o) : Rd H' a u := by
  rcases h with h | ⟨o, h⟩
  · exact .inl (k _ h)
  · exact .inr ⟨o, k _ h⟩
theorem Rd.some {H : Hp} {a : Addr} {u : HO} (h : Rd H a u) : ∃ o, H a = some o := by
  rcases h with h | ⟨o, h⟩
  · exact ⟨_, h⟩
  · exact ⟨_, h⟩

section
variable {k : Wd} {L M L' M' : List Addr} {H H' : Hp}
/-- what R leans on is kept -/
structure Kp (L M L' M' : List Addr) (H H' : Hp) : Prop where
  keep : ∀ a o, H a = some o → a ∉ M → H' a = some o
  sub : ∀ a, a ∉ L → a ∉ M
  left : ∀ a, a ∈ L' → a ∈ L ∨ H a = none
  mid : ∀ a, a ∈ M' → a ∈ M ∨ H a = none
theorem Kp.l (q : Kp L M L' M' H H') {a : Addr} (ha : a ∉ L) (hs : ∃ o, H a = some o) : a ∉ L' := fun z => by
  rcases q.left a z with z | z
  · exact ha z
  · obtain ⟨o, e⟩ := hs
    rw [e] at z; cases z
theorem Kp.m (q : Kp L M L' M' H H') {a : Addr} (ha : a ∉ M) (hs : ∃ o, H a = some o) : a ∉ M' := fun z => by
  rcases q.mid a z with z | z
  · exact ha z
  · obtain ⟨o, e⟩ := hs
    rw [e] at z; cases z
mutual
theorem R.mono (q : Kp L M L' M' H H') : ∀ (d : D) {n : Nat} {v : V}, R k L M H n v d → R k L' M' H' n v d
  | .non, _, _, h => by cases h; exact .non
  | .bl b, _, _, h => by cases h; exact .bl b
  | .int i, _, _, h => by cases h; exact .int i
  | .str s, _, _, h => by cases h; exact .str s
  | .tup ds, _, _, h => by
    cases h with
    | tup h1 h2 h3 => exact .tup (Rd.keep h1 fun o e => q.keep _ o e (q.sub _ h2)) (q.l h2 (Rd.some h1)) (Rs.mono q ds h3)
    | tupS h1 h3 => exact .tupS h1 (Rs.mono q ds h3)
  | .lst ds, _, _, h => by
    cases h with
    | lst0 h1 h2 h3 => exact .lst0 (Rd.keep h1 fun o e => q.keep _ o e (q.sub _ h2)) (q.l h2 (Rd.some h1)) (Rs.mono q ds h3)
    | lst1 h1 h2 h3 => exact .lst1 (Rd.keep h1 fun o e => q.keep _ o e h2) (q.m h2 (Rd.some h1)) (Rs.mono q ds h3)
  | .dic ks ds, _, _, h => by
    cases h with
    | dic0 h1 h2 h3 => exact .dic0 (h1.of fun o e => q.keep _ o e (q.sub _ h2)) (q.l h2 h1.some) (Rs.mono q ds h3)
    | dic1 h1 h2 h3 => exact .dic1 (h1.of fun o e => q.keep _ o e h2) (q.m h2 h1.some) (Rs.mono q ds h3)
  | .obj c ns ds, _, _, h => by
    cases h with
    | obj0 h1 h2 h3 =>
      obtain ⟨l, dx, e⟩ := h1
      exact .obj0 ⟨l, dx, q.keep _ _ e (q.sub _ h2)⟩ (q.l h2 ⟨_, e⟩) (Rs.mono q ds h3)
    | obj1 h1 h2 h3 =>
      obtain ⟨l, dx, e⟩ := h1
      exact .obj1 ⟨l, dx, q.keep _ _ e h2⟩ (q.m h2 ⟨_, e⟩) (Rs.mono q ds h3)
  | .scr xs, _, _, h => by
    cases h with
    | scr h1 h2 => exact .scr (Rd.keep h1 fun o e => q.keep _ o e (q.sub _ h2)) (q.l h2 (Rd.some h1))
    | scrS h1 => exact .scrS h1
theorem Rs.mono (q : Kp L M L' M' H H') : ∀ (ds : List D) {n : Nat} {vs : List V}, Rs k L M H n vs ds → Rs k L' M' H' n vs ds
  | [], _, _, h => by cases h; exact .nil
  | d :: ds, _, _, h => by
    cases h with
    | cons h1 h2 => exact .cons (R.mono q d h1) (Rs.mono q ds h2)
end
mutual
/-- a kept value is a lent one, too -/
theorem R.lend (hs : ∀ a, a ∉ L → a ∉ M) : ∀ (d : D) {n m : Nat} {v : V}, n ≤ m → R k L M H n v d → R k L M H m v d
  | .non, _, _, _, _, h => by cases h; exact .non
  | .bl b, _, _, _, _, h => by cases h; exact .bl b
  | .int i, _, _, _, _, h => by cases h; exact .int i
  | .str s, _, _, _, _, h => by cases h; exact .str s
  | .tup ds, _, _, _, _, h => by
    cases h with
    | tup h1 h2 h3 => exact .tup h1 h2 h3
    | tupS h1 h3 => exact .tupS h1 h3
  | .lst ds, _, m, _, hn, h => by
    cases h with
    | lst0 h1 h2 h3 =>
      cases m with
      | zero => exact .lst0 h1 h2 h3
      | succ m => exact .lst1 h1 (hs _ h2) (Rs.lend hs ds (Nat.zero_le m) h3)
    | lst1 h1 h2 h3 =>
      cases m with
      | zero => omega
      | succ m => exact .lst1 h1 h2 (Rs.lend hs ds (Nat.le_of_succ_le_succ hn) h3)
  | .dic ks ds, _, m, _, hn, h => by
    cases h with
    | dic0 h1 h2 h3 =>
      cases m with
      | zero => exact .dic0 h1 h2 h3
      | succ m => exact .dic1 h1 (hs _ h2) (Rs.lend hs ds (Nat.zero_le m) h3)
    | dic1 h1 h2 h3 =>
      cases m with
      | zero => omega
      | succ m => exact .dic1 h1 h2 (Rs.lend hs ds (Nat.le_of_succ_le_succ hn) h3)
  | .obj c ns ds, _, m, _, hn, h => by
    cases h with
    | obj0 h1 h2 h3 =>
      cases m with
      | zero => exact .obj0 h1 h2 h3
      | succ m => exact .obj1 h1 (hs _ h2) h3
    | obj1 h1 h2 h3 =>
      cases m with
      | zero => omega
      | succ m => exact .obj1 h1 h2 h3
  | .scr xs, _, _, _, _, h => by
    cases h with
    | scr h1 h2 => exact .scr h1 h2
    | scrS h1 => exact .scrS h1
theorem Rs.lend (hs : ∀ a, a ∉ L → a ∉ M) : ∀ (ds : List D) {n m : Nat} {vs : List V}, n ≤ m → Rs k L M H n vs ds → Rs k L M H m vs ds
  | [], _, _, _, _, h => by cases h; exact .nil
  | d :: ds, _, _, _, hn, h => by
    cases h with
    | cons h1 h2 => exact .cons (R.lend hs d hn h1) (Rs.lend hs ds hn h2)
end

mutual
/-- v stands for d, and its lists of the first n levels are owned: they stand at O -/
inductive RO (k : Wd) (L : List Addr) (H : Hp) : Nat → V → D → List Addr → Prop
  | zero {v : V} {d : D} : R k L [] H 0 v d → RO k L H 0 v d []
  | flat {n : Nat} {v : V} {d : D} : R k L [] H 0 v d → d.mut = false → RO k L H (n + 1) v d []
  | lst {n : Nat} {a : Addr} {vs : List V} {ds : List D} {O : List Addr} : H a = some (.lst vs) → ROs k L H n vs ds O → RO k L H (n + 1) (.ref a) (.lst ds) (a :: O)
  | dic {n : Nat} {a : Addr} {ks : List D} {vs : List V} {ds : List D} {O : List Addr} : DicAt H a ks vs → ROs k L H n vs ds O → RO k L H (n + 1) (.ref a) (.dic ks ds) (a :: O)
  | obj {n : Nat} {a : Addr} {c : Str} {ns : List Str} {vs : List V} {ds : List D} : ObjAt k.K H a c ns vs (k.cn c) → Rs k L [] H 0 vs ds → RO k L H (n + 1) (.ref a) (.obj c ns ds) [a]
inductive ROs (k : Wd) (L : List Addr) (H : Hp) : Nat → List V → List D → List Addr → Prop
  | nil {n : Nat} : ROs k L H n [] [] []
  | cons {n : Nat} {v : V} {d : D} {vs : List V} {ds : List D} {O O' : List Addr} : RO k L H n v d O → ROs k L H n vs ds O' → ROs k L H n (v :: vs) (d :: ds) (O ++ O')
end
end
end Iv

set_option Elab.async false
set_option linter.all false
set_option maxRecDepth 100000
set_option maxHeartbeats 4000000
namespace Iv
open PySem PySem.Spec PyProof.Rows L2

/-! ### owned values -/
section
variable {k : Wd} {L M L' M' : List Addr} {H H' : Hp}
mutual
theorem R.lm : ∀ (d : D) {v : V}, R k L M H 0 v d → R k L M' H 0 v d
  | .non, _, h => by cases h; exact .non
  | .bl b, _, h => by cases h; exact .bl b
  | .int i, _, h => by cases h; exact .int i
  | .str s, _, h => by cases h; exact .str s
  | .tup ds, _, h => by
    cases h with
    | tup h1 h2 h3 => exact .tup h1 h2 (Rs.lm ds h3)
    | tupS h1 h3 => exact .tupS h1 (Rs.lm ds h3)
  | .lst ds, _, h => by
    cases h with
    | lst0 h1 h2 h3 => exact .lst0 h1 h2 (Rs.lm ds h3)
  | .dic ks ds, _, h => by
    cases h with
    | dic0 h1 h2 h3 => exact .dic0 h1 h2 (Rs.lm ds h3)
  | .obj c ns ds, _, h => by
    cases h with
    | obj0 h1 h2 h3 => exact .obj0 h1 h2 (Rs.lm ds h3)
  | .scr xs, _, h => by
    cases h with
    | scr h1 h2 => exact .scr h1 h2
    | scrS h1 => exact .scrS h1
theorem Rs.lm : ∀ (ds : List D) {vs : List V}, Rs k L M H 0 vs ds → Rs k L M' H 0 vs ds
  | [], _, h => by cases h; exact .nil
  | d :: ds, _, h => by
    cases h with
    | cons h1 h2 => exact .cons (R.lm d h1) (Rs.lm ds h2)
end
mutual
theorem RO.dom : ∀ (d : D) {n : Nat} {v : V} {O : List Addr}, RO k L H n v d O → ∀ a ∈ O, ∃ o, H a = some o
  | d, _, _, _, .zero _ => fun a h => by cases h
  | d, _, _, _, .flat _ _ => fun a h => by cases h
  | .lst ds, _, _, _, .lst h1 h2 => fun a h => by
    rcases List.mem_cons.mp h with e | h
    · subst e; exact ⟨_, h1⟩
    · exact ROs.dom ds h2 a h
  | .dic ks ds, _, _, _, .dic h1 h2 => fun a h => by
    rcases List.mem_cons.mp h with e | h
    · subst e; exact h1.some
    · exact ROs.dom ds h2 a h
  | .obj c ns ds, _, _, _, .obj h1 h2 => fun a h => by
    rcases List.mem_cons.mp h with e | h
    · subst e
      obtain ⟨_, _, e⟩ := h1
      exact ⟨_, e⟩
    · cases h
theorem ROs.dom : ∀ (ds : List D) {n : Nat} {vs : List V} {O : List Addr}, ROs k L H n vs ds O → ∀ a ∈ O, ∃ o, H a = some o
  | [], _, _, _, .nil => fun a h => by cases h
  | d :: ds, _, _, _, .cons h1 h2 => fun a h => by
    rcases List.mem_append.mp h with h | h
    · exact RO.dom d h1 a h
    · exact ROs.dom ds h2 a h
end
/-- kept: what is not at an owned place, and what is at O -/
structure Ko (L L' O : List Addr) (H H' : Hp) : Prop where
  keep : ∀ a o, H a = some o → a ∉ L → H' a = some o
  own : ∀ a ∈ O, ∀ o, H a = some o → H' a = some o
  left : ∀ a, a ∈ L' → a ∈ L ∨ H a = none
theorem Ko.kp {O : List Addr} (q : Ko L L' O H H') : Kp L L L' L H H' := ⟨q.keep, fun _ h => h, q.left, fun _ h => .inl h⟩
theorem Ko.r0 {O : List Addr} (q : Ko L L' O H H') {v : V} {d : D} (h : R k L M H 0 v d) : R k L' M' H' 0 v d := R.lm d (R.mono q.kp d (R.lm d h))
theorem Ko.rs0 {O : List Addr} (q : Ko L L' O H H') {vs : List V} {ds : List D} (h : Rs k L M H 0 vs ds) : Rs k L' M' H' 0 vs ds := Rs.lm ds (Rs.mono q.kp ds (Rs.lm ds h))
mutual
theorem RO.mono : ∀ (d : D) {n : Nat} {v : V} {O : List Addr}, Ko L L' O H H' → RO k L H n v d O → RO k L' H' n v d O
  | d, _, _, _, q, .zero h => .zero (q.r0 h)
  | d, _, _, _, q, .flat h m => .flat (q.r0 h) m
  | .lst ds, _, _, _, q, .lst h1 h2 => .lst (q.own _ List.mem_cons_self _ h1) (ROs.mono ds ⟨q.keep, fun a ha => q.own a (List.mem_cons_of_mem _ ha), q.left⟩ h2)
  | .dic ks ds, _, _, _, q, .dic h1 h2 => .dic (h1.of (q.own _ List.mem_cons_self)) (ROs.mono ds ⟨q.keep, fun a ha => q.own a (List.mem_cons_of_mem _ ha), q.left⟩ h2)
  | .obj c ns ds, _, _, _, q, .obj h1 h2 => by
    obtain ⟨l, dx, e⟩ := h1
    exact .obj ⟨l, dx, q.own _ List.mem_cons_self _ e⟩ (q.rs0 h2)
theorem ROs.mono : ∀ (ds : List D) {n : Nat} {vs : List V} {O : List Addr}, Ko L L' O H H' → ROs k L H n vs ds O → ROs k L' H' n vs ds O
  | [], _, _, _, q, .nil => .nil
  | d :: ds, _, _, _, q, .cons h1 h2 => .cons (RO.mono d ⟨q.keep, fun a ha => q.own a (List.mem_append_left _ ha), q.left⟩ h1) (ROs.mono ds ⟨q.keep, fun a ha => q.own a (List.mem_append_right _ ha), q.left⟩ h2)
end
mutual
/-- an owned value, lent -/
theorem RO.lent (hs : ∀ a, a ∉ L → a ∉ M) : ∀ (d : D) {n : Nat} {v : V} {O : List Addr}, (∀ a ∈ O, a ∉ M) → RO k L H n v d O → R k L M H n v d
  | d, _, _, _, q, .zero h => R.lm d h
  | d, _, _, _, q, .flat h m => R.lend hs d (Nat.zero_le _) (R.lm d h)
  | .lst ds, _, _, _, q, .lst h1 h2 => .lst1 (.inl h1) (q _ List.mem_cons_self) (ROs.lent hs ds (fun a ha => q a (List.mem_cons_of_mem _ ha)) h2)
  | .dic ks ds, _, _, _, q, .dic h1 h2 => .dic1 h1 (q _ List.mem_cons_self) (ROs.lent hs ds (fun a ha => q a (List.mem_cons_of_mem _ ha)) h2)
  | .obj c ns ds, _, _, _, q, .obj h1 h2 => .obj1 h1 (q _ List.mem_cons_self) (Rs.lm ds h2)
theorem ROs.lent (hs : ∀ a, a ∉ L → a ∉ M) : ∀ (ds : List D) {n : Nat} {vs : List V} {O : List Addr}, (∀ a ∈ O, a ∉ M) → ROs k L H n vs ds O → Rs k L M H n vs ds
  | [], _, _, _, q, .nil => .nil
  | d :: ds, _, _, _, q, .cons h1 h2 => .cons (RO.lent hs d (fun a ha => q a (List.mem_append_left _ ha)) h1) (ROs.lent hs ds (fun a ha => q a (List.mem_append_right _ ha)) h2)
end
/-- what stays owned -/
structure Fz (L L' O : List Addr) : Prop where
  sub : ∀ a, a ∈ L' → a ∈ L
  out : ∀ a ∈ O, a ∉ L'
theorem Fz.kp {O : List Addr} (q : Fz L L' O) : Kp L L L' L H H := ⟨fun _ _ e _ => e, fun _ h => h, fun a h => .inl (q.sub a h), fun _ h => .inl h⟩
theorem Fz.r0 {O : List Addr} (q : Fz L L' O) {v : V} {d : D} (h : R k L M H 0 v d) : R k L' M' H 0 v d := R.lm d (R.mono q.kp d (R.lm d h))
theorem Fz.rs0 {O : List Addr} (q : Fz L L' O) {vs : List V} {ds : List D} (h : Rs k L M H 0 vs ds) : Rs k L' M' H 0 vs ds := Rs.lm ds (Rs.mono q.kp ds (Rs.lm ds h))
mutual
/-- an owned value is given up: nobody changes it any more -/
theorem RO.freeze : ∀ (d : D) {n : Nat} {v : V} {O : List Addr}, Fz L L' O → RO k L H n v d O → R k L' M' H 0 v d
  | d, _, _, _, q, .zero h => q.r0 h
  | d, _, _, _, q, .flat h m => q.r0 h
  | .lst ds, _, _, _, q, .lst h1 h2 => .lst0 (.inl h1) (q.out _ List.mem_cons_self) (ROs.freeze ds ⟨q.sub, fun a ha => q.out a (List.mem_cons_of_mem _ ha)⟩ h2)
  | .dic ks ds, _, _, _, q, .dic h1 h2 => .dic0 h1 (q.out _ List.mem_cons_self) (ROs.freeze ds ⟨q.sub, fun a ha => q.out a (List.mem_cons_of_mem _ ha)⟩ h2)
  | .obj c ns ds, _, _, _, q, .obj h1 h2 => .obj0 h1 (q.out _ List.mem_cons_self) (q.rs0 h2)
theorem ROs.freeze : ∀ (ds : List D) {n : Nat} {vs : List V} {O : List Addr}, Fz L L' O → ROs k L H n vs ds O → Rs k L' M' H 0 vs ds
  | [], _, _, _, q, .nil => .nil
  | d :: ds, _, _, _, q, .cons h1 h2 => .cons (RO.freeze d ⟨q.sub, fun a ha => q.out a (List.mem_append_left _ ha)⟩ h1) (ROs.freeze ds ⟨q.sub, fun a ha => q.out a (List.mem_append_right _ ha)⟩ h2)
end
theorem Rs.len : ∀ {n : Nat} {vs : List V} {ds : List D}, Rs k L M H n vs ds → vs.length = ds.length
  | _, [], [], _ => rfl
  | _, _ :: vs, _ :: ds, h => by
    cases h with
    | cons _ h2 =>
      have := Rs.len h2
      simp [this]
  | _, [], _ :: _, h => by cases h
  | _, _ :: _, [], h => by cases h
theorem Rs.get : ∀ {n : Nat} {vs : List V} {ds : List D} {i : Nat} {d : D}, Rs k L M H n vs ds → ds[i]? = some d → ∃ v, vs[i]? = some v ∧ R k L M H n v d
  | _, [], [], _, _, _, e => by simp at e
  | _, v :: vs, d' :: ds, 0, d, h, e => by
    cases h with
    | cons h1 _ =>
      have : d' = d := by simpa using e
      subst this
      exact ⟨v, rfl, h1⟩
  | _, v :: vs, d' :: ds, i + 1, d, h, e => by
    cases h with
    | cons _ h2 =>
      have e' : ds[i]? = some d := by simpa using e
      obtain ⟨w, q1, q2⟩ := Rs.get h2 e'
      exact ⟨w, by simpa using q1, q2⟩
  | _, [], _ :: _, _, _, h, _ => by cases h
  | _, _ :: _, [], _, _, h, _ => by cases h
theorem Rs.app : ∀ {n : Nat} {vs ws : List V} {ds es : List D}, Rs k L M H n vs ds → Rs k L M H n ws es → Rs k L M H n (vs ++ ws) (ds ++ es)
  | _, [], _, [], _, _, h => h
  | _, v :: vs, _, d :: ds, _, h, h' => by
    cases h with
    | cons h1 h2 => exact .cons h1 (Rs.app h2 h')
  | _, [], _, _ :: _, _, h, _ => by cases h
  | _, _ :: _, _, [], _, h, _ => by cases h
theorem Rs.take : ∀ {n : Nat} {vs : List V} {ds : List D} (i : Nat), Rs k L M H n vs ds → Rs k L M H n (vs.take i) (ds.take i)
  | _, _, _, 0, _ => .nil
  | _, [], [], _ + 1, _ => .nil
  | _, v :: vs, d :: ds, i + 1, h => by
    cases h with
    | cons h1 h2 => exact .cons h1 (Rs.take i h2)
  | _, [], _ :: _, _ + 1, h => by cases h
  | _, _ :: _, [], _ + 1, h => by cases h
theorem Rs.drop : ∀ {n : Nat} {vs : List V} {ds : List D} (i : Nat), Rs k L M H n vs ds → Rs k L M H n (vs.drop i) (ds.drop i)
  | _, _, _, 0, h => h
  | _, [], [], _ + 1, _ => .nil
  | _, v :: vs, d :: ds, i + 1, h => by
    cases h with
    | cons h1 h2 => exact Rs.drop i h2
  | _, [], _ :: _, _ + 1, h => by cases h
  | _, _ :: _, [], _ + 1, h => by cases h
theorem Rs.rev {n : Nat} : ∀ {vs : List V} {ds : List D}, Rs k L M H n vs ds → Rs k L M H n vs.reverse ds.reverse
  | [], [], _ => .nil
  | v :: vs, d :: ds, h => by
    cases h with
    | cons h1 h2 =>
      rw [List.reverse_cons, List.reverse_cons]
      exact Rs.app (Rs.rev h2) (.cons h1 .nil)
  | [], _ :: _, h => by cases h
  | _ :: _, [], h => by cases h
theorem Rs.set {n : Nat} {v : V} {d : D} : ∀ {vs : List V} {ds : List D} (i : Nat), Rs k L M H n vs ds → R k L M H n v d → Rs k L M H n (vs.set i v) (ds.set i d)
  | [], [], _, _, _ => .nil
  | _ :: vs, _ :: ds, 0, h, q => by
    cases h with
    | cons h1 h2 => exact .cons q h2
  | _ :: vs, _ :: ds, i + 1, h, q => by
    cases h with
    | cons h1 h2 => exact .cons h1 (Rs.set i h2 q)
  | [], _ :: _, _, h, _ => by cases h
  | _ :: _, [], _, h, _ => by cases h
end

/-! ### the slots -/
structure Sl where
  own : Bool
  lv : Nat
  d : D
abbrev Rho := List (Option Sl)
inductive RC (k : Wd) (L M : List Addr) (H : Hp) : Option V → Option Sl → List Addr → Prop
  | no {x : Option V} : RC k L M H x none []
  | own {v : V} {n : Nat} {d : D} {O : List Addr} : RO k L H n v d O → RC k L M H (some v) (some ⟨true, n, d⟩) O
  | pk {v : V} {n : Nat} {d : D} : R k L M H n v d → RC k L M H (some v) (some ⟨false, n, d⟩) []
inductive RS (k : Wd) (L M : List Addr) (H : Hp) : L2.St → Rho → List Addr → Prop
  | nil : RS k L M H [] [] []
  | cons {x : Option V} {s : Option Sl} {O1 O2 : List Addr} {σ : L2.St} {ρ : Rho} : RC k L M H x s O1 → RS k L M H σ ρ O2 → RS k L M H (x :: σ) (s :: ρ) (O1 ++ O2)
section
variable {k : Wd} {L M L' M' C O : List Addr} {H H' : Hp} {σ : L2.St} {ρ : Rho}
theorem RC.dom {x : Option V} {s : Option Sl} (h : RC k L M H x s O) : ∀ a ∈ O, ∃ o, H a = some o := by
  cases h with
  | no => intro a h; cases h
  | own h => exact RO.dom _ h
  | pk _ => intro a h; cases h
theorem RS.dom : ∀ {σ : L2.St} {ρ : Rho} {O : List Addr}, RS k L M H σ ρ O → ∀ a ∈ O, ∃ o, H a = some o
  | _, _, _, .nil => fun a h => by cases h
  | _, _, _, .cons h1 h2 => fun a h => by
    rcases List.mem_append.mp h with h | h
    · exact h1.dom a h
    · exact RS.dom h2 a h
/-- kept: what is at no place of M, and what is at O -/
structure Ks (L M L' M' O : List Addr) (H H' : Hp) : Prop where
  keep : ∀ a o, H a = some o → a ∉ M → H' a = some o
  own : ∀ a ∈ O, ∀ o, H a = some o → H' a = some o
  sub : ∀ a, a ∉ L → a ∉ M
  left : ∀ a, a ∈ L' → a ∈ L ∨ H a = none
  mid : ∀ a, a ∈ M' → a ∈ M ∨ H a = none
theorem Ks.ko (q : Ks L M L' M' O H H') : Ko L L' O H H' := ⟨fun a o e n => q.keep a o e (q.sub a n), q.own, q.left⟩
theorem Ks.kp (q : Ks L M L' M' O H H') : Kp L M L' M' H H' := ⟨q.keep, q.sub, q.left, q.mid⟩
theorem Ks.less {O' : List Addr} (q : Ks L M L' M' O H H') (h : ∀ a ∈ O', a ∈ O) : Ks L M L' M' O' H H' := ⟨q.keep, fun a ha => q.own a (h a ha), q.sub, q.left, q.mid⟩
theorem RC.mono {x : Option V} {s : Option Sl} (q : Ks L M L' M' O H H') (h : RC k L M H x s O) : RC k L' M' H' x s O := by
  cases h with
  | no => exact .no
  | own h => exact .own (RO.mono _ q.ko h)
  | pk h => exact .pk (R.mono q.kp _ h)
theorem RS.mono : ∀ {σ : L2.St} {ρ : Rho} {O : List Addr}, Ks L M L' M' O H H' → RS k L M H σ ρ O → RS k L' M' H' σ ρ O
  | _, _, _, _, .nil => .nil
  | _, _, _, q, .cons h1 h2 => .cons (h1.mono (q.less fun a ha => List.mem_append_left _ ha)) (RS.mono (q.less fun a ha => List.mem_append_right _ ha) h2)
theorem RS.len : ∀ {σ : L2.St} {ρ : Rho} {O : List Addr}, RS k L M H σ ρ O → σ.length = ρ.length
  | _, _, _, .nil => rfl
  | _, _, _, .cons _ h => by simp [RS.len h]
/-- one slot and the others -/
theorem RS.at : ∀ {σ : L2.St} {ρ : Rho} {O : List Addr} {i : Nat} {s : Option Sl}, RS k L M H σ ρ O → ρ[i]? = some s →
    ∃ x A O1 B, O = A ++ (O1 ++ B) ∧ σ[i]? = some x ∧ RC k L M H x s O1 ∧
      (∀ a, a ∈ A ++ B → ∃ o, H a = some o) ∧
      ∀ {L' M' : List Addr} {H' : Hp} {x' : Option V} {s' : Option Sl} {O1' : List Addr}, Ks L M L' M' (A ++ B) H H' → RC k L' M' H' x' s' O1' → RS k L' M' H' (σ.set i x') (ρ.set i s') (A ++ (O1' ++ B))
  | _, _, _, _, _, .nil, e => by simp at e
  | _, _, _, 0, s, .cons (x := x) (O1 := O1) (O2 := O2) h1 h2, e => by
    simp at e
    subst e
    refine ⟨x, [], O1, O2, rfl, rfl, h1, fun a ha => h2.dom a (by simpa using ha), fun {L' M' H' x' s' O1'} q r => ?_⟩
    show RS k L' M' H' (x' :: _) (s' :: _) (O1' ++ O2)
    exact RS.cons r (h2.mono (q.less fun a ha => by simpa using ha))
  | _, _, _, i + 1, s, .cons (x := x) (O1 := O1) (O2 := O2) h1 h2, e => by
    have e' : _ := e
    rw [List.getElem?_cons_succ] at e'
    obtain ⟨y, A, P, B, eO, ey, r, hd, f⟩ := RS.at h2 e'
    refine ⟨y, O1 ++ A, P, B, by rw [eO, List.append_assoc], by rw [List.getElem?_cons_succ]; exact ey, r, fun a ha => ?_, fun {L' M' H' x' s' O1'} q r' => ?_⟩
    · rw [List.append_assoc] at ha
      rcases List.mem_append.mp ha with z | z
      · exact h1.dom a z
      · exact hd a z
    · rw [List.append_assoc, List.set_cons_succ, List.set_cons_succ]
      rw [List.append_assoc] at q
      exact .cons (h1.mono (q.less fun a ha => List.mem_append_left _ ha)) (f (q.less fun a ha => List.mem_append_right _ ha) r')

/-- the slots of a def stand for ρ; O: where its owned lists may stand; C: what others own -/
structure Sg (k : Wd) (C : List Addr) (σ : L2.St) (ρ : Rho) (O : List Addr) (H : Hp) : Prop where
  rs : ∃ O', RS k (O ++ C) O H σ ρ O' ∧ O'.Nodup ∧ ∀ a, a ∈ O' → a ∈ O
  ap : ∀ a, a ∈ O → a ∉ C
  dom : ∀ a ∈ O ++ C, ∃ o, H a = some o

/-- the heap only grows -/
def Ex (H H' : Hp) : Prop := ∀ a o, H a = some o → H' a = some o
theorem Ex.refl (H : Hp) : Ex H H := fun _ _ h => h
theorem Ex.trans {H H1 H2 : Hp} (a : Ex H H1) (b : Ex H1 H2) : Ex H H2 := fun x o h => b x o (a x o h)
theorem Ex.new {p : Addr} {o : HO} (h : H p = none) : Ex H (upd H p o) := fun a u e => by
  rw [upd_ne (ne_of_none e h)]
  exact e
theorem Ex.free {H H' : Hp} {p : Addr} (e : Ex H H') (h : H' p = none) : H p = none := by
  cases h1 : H p with
  | none => rfl
  | some o => rw [e p o h1] at h; cases h

theorem Sg.ex (g : Sg k C σ ρ O H) (e : Ex H H') : Sg k C σ ρ O H' := by
  obtain ⟨O', r, nd, sb⟩ := g.rs
  exact ⟨⟨O', r.mono ⟨fun a o h _ => e a o h, fun a _ o h => e a o h, fun a h z => h (List.mem_append_left _ z), fun a h => .inl h, fun a h => .inl h⟩, nd, sb⟩, g.ap, fun a ha => let ⟨o, h⟩ := g.dom a ha; ⟨o, e a o h⟩⟩
theorem Rs.nil_iff {n : Nat} {vs : List V} (h : Rs k L M H n vs []) : vs = [] := by cases h; rfl
/-- a value at hand, with the heap grown -/
theorem R.ex {n : Nat} {v : V} {d : D} (h : R k L [] H n v d) (e : Ex H H') : R k L [] H' n v d :=
  R.mono ⟨fun a o q _ => e a o q, fun _ _ z => (by cases z), fun a z => .inl z, fun a z => .inl z⟩ d h
theorem Rs.ex {n : Nat} {vs : List V} {ds : List D} (h : Rs k L [] H n vs ds) (e : Ex H H') : Rs k L [] H' n vs ds :=
  Rs.mono ⟨fun a o q _ => e a o q, fun _ _ z => (by cases z), fun a z => .inl z, fun a z => .inl z⟩ ds h
/-- fewer are owned -/
theorem R.few {n : Nat} {v : V} {d : D} (h : R k L M H n v d) (hs : ∀ a, a ∉ L → a ∉ M) (hl : ∀ a, a ∈ L' → a ∈ L) (hm : ∀ a, a ∈ M' → a ∈ M) : R k L' M' H n v d :=
  R.mono ⟨fun a o q _ => q, hs, fun a z => .inl (hl a z), fun a z => .inl (hm a z)⟩ d h
/-- a slot read -/
theorem Sg.get {i : Nat} {s : Sl} (g : Sg k C σ ρ O H) (e : ρ[i]? = some (some s)) : ∃ v, σ[i]? = some (some v) ∧ R k (O ++ C) [] H s.lv v s.d := by
  obtain ⟨O', r, nd, sb⟩ := g.rs
  obtain ⟨x, A, O1, B, eO, ex, r, _, _⟩ := r.at e
  cases r with
  | own h => exact ⟨_, ex, RO.lent (fun _ _ z => by cases z) _ (fun _ _ z => by cases z) h⟩
  | pk h => exact ⟨_, ex, h.few (fun a n z => n (List.mem_append_left _ z)) (fun a z => z) (fun a z => by cases z)⟩
end
end Iv

set_option Elab.async false
set_option linter.all false
set_option maxRecDepth 100000
set_option maxHeartbeats 4000000
namespace Iv
open PySem PySem.Spec PyProof.Rows L2

/-! ### readings of values -/
section
variable {k : Wd} {L M L' : List Addr} {H H' : Hp} {n m : Nat} {v : V}
theorem R.int_inv {i : Int} (h : R k L M H n v (.int i)) : v = .int i := by cases h; rfl
theorem R.bl_inv {b : Bool} (h : R k L M H n v (.bl b)) : v = .bl b := by cases h; rfl
theorem R.str_inv {s : Str} (h : R k L M H n v (.str s)) : v = .str s := by cases h; rfl
theorem R.non_inv (h : R k L M H n v .non) : v = .non := by cases h; rfl
theorem R.tup_inv {ds : List D} (h : R k L M H n v (.tup ds)) : ∃ a vs, v = .ref a ∧ SqT k.K H a vs ∧ Rs k L M H 0 vs ds := by
  cases h with
  | tup h1 h2 h3 => exact ⟨_, _, rfl, .inl h1, h3⟩
  | tupS h1 h3 => exact ⟨_, _, rfl, .inr h1, h3⟩
theorem R.lst_inv {ds : List D} (h : R k L M H n v (.lst ds)) : ∃ a vs, v = .ref a ∧ Rd H a (.lst vs) ∧ Rs k L M H (n - 1) vs ds := by
  cases h with
  | lst0 h1 h2 h3 => exact ⟨_, _, rfl, h1, h3⟩
  | lst1 h1 h2 h3 => exact ⟨_, _, rfl, h1, h3⟩
theorem R.scr_inv {xs : List Int} (h : R k L M H n v (.scr xs)) : ∃ a, v = .ref a ∧ SqL k.K H a (xs.map V.int) := by
  cases h with
  | scr h1 h2 => exact ⟨_, rfl, .inl h1⟩
  | scrS h1 => exact ⟨_, rfl, .inr h1⟩
theorem R.obj_inv {c : Str} {ns : List Str} {ds : List D} (h : R k L M H n v (.obj c ns ds)) : ∃ a vs dx, v = .ref a ∧ ns.length = vs.length ∧ H a = some (.ins (k.cn c) dx (ns.zip vs)) ∧ Rs k L M H 0 vs ds := by
  cases h with
  | obj0 h1 h2 h3 =>
    obtain ⟨l, dx, e⟩ := h1
    exact ⟨_, _, dx, rfl, l, e, h3⟩
  | obj1 h1 h2 h3 =>
    obtain ⟨l, dx, e⟩ := h1
    exact ⟨_, _, dx, rfl, l, e, h3⟩
abbrev Dom (L : List Addr) (H : Hp) : Prop := ∀ a ∈ L, ∃ o, H a = some o
theorem Dom.ex (h : Dom L H) (e : Ex H H') : Dom L H' := fun a ha => let ⟨o, q⟩ := h a ha; ⟨o, e a o q⟩
theorem Dom.out (h : Dom L H) {p : Addr} (hp : H p = none) : p ∉ L := fun z => by
  obtain ⟨o, e⟩ := h p z
  rw [hp] at e; cases e
/-- one more owned place -/
theorem Rs.more {vs : List V} {ds : List D} {p : Addr} (h : Rs k L [] H n vs ds) (hp : H p = none) (e : Ex H H') : Rs k (p :: L) [] H' n vs ds :=
  Rs.mono ⟨fun a o q _ => e a o q, fun _ _ z => (by cases z), fun a z => by
    rcases List.mem_cons.mp z with z | z
    · exact .inr (by rw [z]; exact hp)
    · exact .inl z, fun a z => .inl z⟩ ds h
theorem R.more {d : D} {p : Addr} (h : R k L [] H n v d) (hp : H p = none) (e : Ex H H') : R k (p :: L) [] H' n v d :=
  R.mono ⟨fun a o q _ => e a o q, fun _ _ z => (by cases z), fun a z => by
    rcases List.mem_cons.mp z with z | z
    · exact .inr (by rw [z]; exact hp)
    · exact .inl z, fun a z => .inl z⟩ d h
theorem Rs.newT {vs : List V} {ds : List D} {p : Addr} (h : Rs k L [] H 0 vs ds) (hd : Dom L H) (hp : H p = none) : R k L [] (upd H p (.tup vs)) n (.ref p) (.tup ds) :=
  .tup (.inl upd_same) (hd.out hp) (h.ex (Ex.new hp))
theorem Rs.newL {vs : List V} {ds : List D} {p : Addr} (h : Rs k L [] H 0 vs ds) (hd : Dom L H) (hp : H p = none) : R k L [] (upd H p (.lst vs)) 0 (.ref p) (.lst ds) :=
  .lst0 (.inl upd_same) (hd.out hp) (h.ex (Ex.new hp))
theorem upd_none {p q : Addr} {o : HO} (h : upd H p o q = none) : H q = none ∧ q ≠ p := by
  by_cases e : q = p
  · subst e; rw [upd_same] at h; cases h
  · rw [upd_ne e] at h; exact ⟨h, e⟩
end

/-! ### peeked expressions -/
abbrev Pk := Rho → Option (Nat × D)
def tP (k : Wd) (f : Pk) : TE := fun σ H Q => ∃ ρ O C, Sg k C σ ρ O H ∧ ∃ n d, f ρ = some (n, d) ∧ ∀ v H', Ex H H' → R k (O ++ C) [] H' n v d → Q v H'
/-- a new list (f: its items) -/
def tN (k : Wd) (f : Rho → Option (List D)) : TE := fun σ H Q => ∃ ρ O C, Sg k C σ ρ O H ∧ ∃ ds, f ρ = some ds ∧ ∀ p vs H', H p = none → Ex H H' → H' p = some (.lst vs) → Rs k (p :: (O ++ C)) [] H' 0 vs ds → Q (.ref p) H'
/-- a value, its lists of the first n levels new and owned by who takes it -/
def tG (k : Wd) (n : Nat) (f : Rho → Option D) : TE := fun σ H Q => ∃ ρ O C, Sg k C σ ρ O H ∧ ∃ d, f ρ = some d ∧ ∀ v H' O1, Ex H H' → RO k (O1 ++ (O ++ C)) H' n v d O1 → O1.Nodup → (∀ a ∈ O1, H a = none) → Q v H'
/-- a test -/
def tT (k : Wd) (f : Rho → Option Bool) : TT := fun σ H Q => ∃ ρ O C, Sg k C σ ρ O H ∧ ∃ b, f ρ = some b ∧ ∀ H', Ex H H' → Q b H'
/-- arguments -/
abbrev Ar := List (Nat × D)
abbrev Pa := Rho → Option Ar
inductive RA (k : Wd) (L : List Addr) (H : Hp) : List V → Ar → Prop
  | nil : RA k L H [] []
  | cons {v : V} {vs : List V} {n : Nat} {d : D} {as : Ar} : R k L [] H n v d → RA k L H vs as → RA k L H (v :: vs) ((n, d) :: as)
def tAr (k : Wd) (f : Pa) : TA := fun σ H Q => ∃ ρ O C, Sg k C σ ρ O H ∧ ∃ as, f ρ = some as ∧ ∀ vs H', Ex H H' → RA k (O ++ C) H' vs as → Q vs H'
section
variable {k : Wd} {L : List Addr} {H H' : Hp}
theorem RA.ex : ∀ {vs : List V} {as : Ar}, RA k L H vs as → Ex H H' → RA k L H' vs as
  | _, _, .nil, _ => .nil
  | _, _, .cons h1 h2, e => .cons (h1.ex e) (RA.ex h2 e)
/-- all are kept values -/
theorem RA.all0 : ∀ {vs : List V} {as : Ar}, RA k L H vs as → as.all (fun a => a.1 == 0) = true → Rs k L [] H 0 vs (as.map (·.2))
  | _, _, .nil, _ => .nil
  | _, _, .cons (n := n) h1 h2, q => by
    simp only [List.all_cons, Bool.and_eq_true, beq_iff_eq] at q
    obtain ⟨q1, q2⟩ := q
    subst q1
    exact .cons h1 (RA.all0 h2 q2)
theorem RA.len : ∀ {vs : List V} {as : Ar}, RA k L H vs as → vs.length = as.length
  | _, _, .nil => rfl
  | _, _, .cons _ h => by simp [RA.len h]
end

section
variable {X : Cx} {k : Wd} {e a b c : Expr} {pos : Pos}
theorem peW {t t' : TE} (h : PE X e t) (w : ∀ σ H Q, t' σ H Q → t σ H Q) : PE X e t' := ⟨fun pins s σ H Q I q => h.run pins s σ H Q I (w σ H Q q)⟩
theorem ptW {t t' : TT} (h : PT X e t) (w : ∀ σ H Q, t' σ H Q → t σ H Q) : PT X e t' := ⟨fun pins s σ H Q I q => h.run pins s σ H Q I (w σ H Q q)⟩
theorem pwW {t t' : TT} (h : PW X e t) (w : ∀ σ H Q, t' σ H Q → t σ H Q) : PW X e t' := ⟨fun wh pins s σ H Q I q => h.run wh pins s σ H Q I (w σ H Q q)⟩

/-! #### names, constants -/
def varP (i : Nat) : Pk := fun ρ => match ρ[i]? with
  | some (some s) => some (s.lv, s.d)
  | _ => none
theorem ip_var {i : Nat} (h : PE X e (tVar i)) : PE X e (tP k (varP i)) := peW h fun σ H Q ⟨ρ, O, C, g, n, d, ef, q⟩ => by
  unfold varP at ef
  split at ef
  · rename_i s es
    obtain ⟨v, ev, r⟩ := g.get es
    cases ef
    exact ⟨v, ev, q v H (Ex.refl H) r⟩
  · cases ef
def cst (d : D) : Pk := fun _ => some (0, d)
theorem ip_c {v : V} {d : D} (h : PE X e (tC v)) (r : ∀ L H, R k L [] H 0 v d) : PE X e (tP k (cst d)) := peW h fun σ H Q ⟨ρ, O, C, g, n, d', ef, q⟩ => by
  cases ef
  exact q v H (Ex.refl H) (r _ _)
theorem ip_int {i j} : PE X (.Constant (.int i) j pos) (tP k (cst (.int i))) := ip_c pe_int fun _ _ => .int i
theorem ip_bl {i j} : PE X (.Constant (.bool i) j pos) (tP k (cst (.bl i))) := ip_c pe_bl fun _ _ => .bl i
theorem ip_str {i j} : PE X (.Constant (.str i) j pos) (tP k (cst (.str i))) := ip_c pe_str fun _ _ => .str i
theorem ip_non {j} : PE X (.Constant .none j pos) (tP k (cst .non)) := ip_c pe_non fun _ _ => .non
theorem ip_gint {x : Str} {i : Int} {t : Tok} (hg : Gl X x) (hm : X.mg x = some (.int i t)) (hd : (x == ("__debug__" : Str)) = false := by decide) : PE X (.Name x pos) (tP k (cst (.int i))) := ip_c (pe_glob (v := .int i) hg hm ⟨t, rfl⟩ hd) fun _ _ => .int i
theorem ip_gstr {x : Str} {i : Str} {t : Tok} (hg : Gl X x) (hm : X.mg x = some (.str i t)) (hd : (x == ("__debug__" : Str)) = false := by decide) : PE X (.Name x pos) (tP k (cst (.str i))) := ip_c (pe_glob (v := .str i) hg hm ⟨t, rfl⟩ hd) fun _ _ => .str i

/-! #### from a new list -/
theorem ip_new {f : Rho → Option (List D)} (h : PE X e (tN k f)) : PE X e (tP k fun ρ => (f ρ).map fun ds => (0, .lst ds)) := peW h fun σ H Q ⟨ρ, O, C, g, n, d, ef, q⟩ => by
  obtain ⟨ds, ed, ef⟩ := Option.map_eq_some_iff.mp ef
  cases ef
  refine ⟨ρ, O, C, g, ds, ed, fun p vs H' hp ex h1 r => q _ _ ex (.lst0 (.inl h1) (Dom.out g.dom hp) ?_)⟩
  exact Rs.mono ⟨fun _ _ z _ => z, fun _ _ z => (by cases z), fun a z => .inl (List.mem_cons_of_mem _ z), fun a z => .inl z⟩ ds r
theorem ROs.of0 {L : List Addr} {H : Hp} : ∀ {vs : List V} {ds : List D}, Rs k L [] H 0 vs ds → ROs k L H 0 vs ds []
  | [], [], _ => .nil
  | v :: vs, d :: ds, h => by
    cases h with
    | cons h1 h2 => exact .cons (O := []) (O' := []) (.zero h1) (ROs.of0 h2)
  | [], _ :: _, h => by cases h
  | _ :: _, [], h => by cases h
theorem ig_new {f : Rho → Option (List D)} (h : PE X e (tN k f)) : PE X e (tG k 1 fun ρ => (f ρ).map fun ds => .lst ds) := peW h fun σ H Q ⟨ρ, O, C, g, d, ef, q⟩ => by
  obtain ⟨ds, ed, ef⟩ := Option.map_eq_some_iff.mp ef
  cases ef
  exact ⟨ρ, O, C, g, ds, ed, fun p vs H' hp ex h1 r => q (.ref p) H' [p] ex (.lst (O := []) h1 (ROs.of0 r)) (by simp) (fun a ha => by rw [List.mem_singleton.mp ha]; exact hp)⟩
/-- a kept value -/
def keep0 (f : Pk) : Rho → Option D := fun ρ => (f ρ).bind fun x => if x.1 = 0 then some x.2 else none
theorem keep0_inv {f : Pk} {ρ : Rho} {d : D} (h : keep0 f ρ = some d) : f ρ = some (0, d) := by
  obtain ⟨⟨n, d'⟩, ed, ef⟩ := Option.bind_eq_some_iff.mp h
  have ef : (if n = 0 then some d' else none) = some d := ef
  split at ef
  · rename_i e0
    subst e0
    cases ef
    exact ed
  · cases ef
theorem ig0 {f : Pk} (h : PE X e (tP k f)) : PE X e (tG k 0 (keep0 f)) := peW h fun σ H Q ⟨ρ, O, C, g, d, ef, q⟩ =>
  ⟨ρ, O, C, g, 0, d, keep0_inv ef, fun v H' ex r => q v H' [] ex (.zero r) (by simp) (fun a ha => by cases ha)⟩

/-! #### operators -/
def OpS (k : Wd) (r : R2) (g : D → D → Option D) : Prop := ∀ (L : List Addr) (H : Hp) (n m : Nat) (x y : V) (dx dy d : D) (Q : VK), n ≤ 1 → m ≤ 1 → Dom L H → R k L [] H n x dx → R k L [] H m y dy → g dx dy = some d →
  (∀ v H', Ex H H' → R k L [] H' 0 v d → Q v H') → r x y H Q
def bin (g : D → D → Option D) (fa fb : Pk) : Pk := fun ρ => (fa ρ).bind fun x => (fb ρ).bind fun y => if x.1 ≤ 1 ∧ y.1 ≤ 1 then (g x.2 y.2).map fun d => (0, d) else none
theorem ip_op {op : Operator} {r : R2} {g : D → D → Option D} {fa fb : Pk} (ho : OpR X (binaryOp op) r) (hs : OpS k r g) (ha : PE X a (tP k fa)) (hb : PE X b (tP k fb)) : PE X (.BinOp a op b pos) (tP k (bin g fa fb)) :=
  peW (pe_op ho ha hb) fun σ H Q ⟨ρ, O, C, S, n, d, ef, q⟩ => by
    obtain ⟨⟨nx, dx⟩, ea, ef⟩ := Option.bind_eq_some_iff.mp ef
    obtain ⟨⟨ny, dy⟩, eb, ef⟩ := Option.bind_eq_some_iff.mp ef
    have ef : (if nx ≤ 1 ∧ ny ≤ 1 then (g dx dy).map fun d => (0, d) else none) = some (n, d) := ef
    split at ef
    · rename_i hn
      obtain ⟨d', eg, ef⟩ := Option.map_eq_some_iff.mp ef
      cases ef
      refine ⟨ρ, O, C, S, nx, dx, ea, fun x H1 e1 r1 => ⟨ρ, O, C, S.ex e1, ny, dy, eb, fun y H2 e2 r2 => ?_⟩⟩
      exact hs (O ++ C) H2 nx ny x y dx dy d Q hn.1 hn.2 (Dom.ex S.dom (e1.trans e2)) (r1.ex e2) r2 eg fun v H' e3 r3 => q v H' ((e1.trans e2).trans e3) r3
    · cases ef

/-- list + list, whatever may be read -/
def rCatR : R2 := fun x y H Q => ∃ l b xs zs, x = .ref l ∧ y = .ref b ∧ Rd H l (.lst xs) ∧ Rd H b (.lst zs) ∧ xs.length + zs.length ≤ sizeLine ∧ ∀ p, H p = none → Q (.ref p) (upd H p (.lst (xs ++ zs)))
theorem lstR {pins : List (Addr × Obj)} {σ : L2.St} {H : Hp} {s : Shared} {l : Addr} {xs : List V} (I : Inv X pins σ H s) (h : Rd H l (.lst xs)) :
    xs.length ≤ sizeLine ∧ ∃ (its : List Value) (n : Nat), Vals xs its ∧ xs.length = its.length ∧ s.heap.get? l = some { cls := .type "list", data := .seq its.toArray n } := by
  obtain ⟨z, its, n, r, e⟩ := h.ok I.hok
  exact ⟨z, its, n, r, r.length, e⟩
theorem op_catR : OpR X (binaryOp .Add) rCatR := by
  intro pins s σ H x y v u Q I rx ry h
  obtain ⟨l, b, xs, zs, rfl, rfl, hH, hB, hz, q⟩ := h
  cases rx
  cases ry
  obtain ⟨z, its, n, r, hl, e⟩ := lstR I hH
  obtain ⟨z2, its2, n2, r2, hl2, e2⟩ := lstR I hB
  refine PySem.P.add_list e e2 ?_ (by rw [List.size_toArray, List.size_toArray]; omega)
  have ea : its.toArray ++ its2.toArray = (its ++ its2).toArray := by simp
  rw [ea]
  exact ⟨.ref _, _, I.lnew (t' := s.toks) (r.append r2) (by rw [List.length_append]; omega), rfl, q _ I.fresh⟩
theorem line1e5 {n : Nat} (h : n ≤ 100000) : n ≤ sizeLine := Nat.le_trans h (by decide)
theorem line1e5' {n : Nat} (h : n < 100000) : n < sizeLine := Nat.lt_of_lt_of_le h (by decide)

def addD : D → D → Option D
  | .int a, .int b => some (.int (a + b))
  | .int a, .bl b => some (.int (a + b2i b))
  | .str a, .str b => if a.length + b.length ≤ 100000 then some (.str (a ++ b)) else none
  | .lst a, .lst b => if a.length + b.length ≤ 100000 then some (.lst (a ++ b)) else none
  | .tup a, .tup b => if a.length + b.length ≤ 100000 then some (.tup (a ++ b)) else none
  | _, _ => none
def rAddA (K : PySem.W.Frag) : R2 := fun x y H Q =>
  (rI0 fun i j => .int (i + j)) x y H Q ∨ (∃ i k, x = .int i ∧ y = .bl k ∧ Q (.int (i + b2i k)) H) ∨ (∃ i j, x = .str i ∧ y = .str j ∧ i.length + j.length ≤ sizeLine ∧ Q (.str (i ++ j)) H) ∨ rCatR x y H Q ∨ rCatA K x y H Q
theorem op_addA : OpR X (binaryOp .Add) (rAddA X.K) := op_add.or (op_add_ib.or (op_add_str.or (op_catR.or op_catA)))
theorem Rs.nilD {L M : List Addr} {H : Hp} {n : Nat} {vs : List V} {ds : List D} (h : Rs k L M H n vs ds) : vs = [] ↔ ds = [] := by
  have := h.len
  cases vs <;> cases ds <;> simp_all
theorem opS_add : OpS k (rAddA k.K) addD := by
  intro L H n m x y dx dy d Q hn hm hd rx ry eg q
  unfold addD at eg
  split at eg
  · cases eg
    obtain rfl := rx.int_inv
    obtain rfl := ry.int_inv
    exact .inl ⟨_, _, rfl, rfl, q _ _ (Ex.refl H) (.int _)⟩
  · cases eg
    obtain rfl := rx.int_inv
    obtain rfl := ry.bl_inv
    exact .inr (.inl ⟨_, _, rfl, rfl, q _ _ (Ex.refl H) (.int _)⟩)
  · split at eg
    · rename_i hz
      cases eg
      obtain rfl := rx.str_inv
      obtain rfl := ry.str_inv
      exact .inr (.inr (.inl ⟨_, _, rfl, rfl, line1e5 hz, q _ _ (Ex.refl H) (.str _)⟩))
    · cases eg
  · split at eg
    · rename_i hz
      cases eg
      obtain ⟨l, vs, rfl, h1, r1⟩ := rx.lst_inv
      obtain ⟨b, ws, rfl, h2, r2⟩ := ry.lst_inv
      have e1 := r1.len
      have e2 := r2.len
      have z1 : n - 1 = 0 := by omega
      have z2 : m - 1 = 0 := by omega
      rw [z1] at r1
      rw [z2] at r2
      refine .inr (.inr (.inr (.inl ⟨l, b, vs, ws, rfl, rfl, h1, h2, line1e5 (by omega), fun p hp => ?_⟩)))
      exact q _ _ (Ex.new hp) ((r1.app r2).newL hd hp)
    · cases eg
  · split at eg
    · rename_i hz
      cases eg
      obtain ⟨l, vs, rfl, h1, r1⟩ := rx.tup_inv
      obtain ⟨b, ws, rfl, h2, r2⟩ := ry.tup_inv
      have e1 := r1.len
      have e2 := r2.len
      refine .inr (.inr (.inr (.inr ⟨l, b, vs, ws, rfl, rfl, h1, h2, line1e5 (by omega), fun z => ?_, fun z1 z2 => ?_, fun z1 z2 p hp => ?_⟩)))
      · subst z
        refine q _ _ (Ex.refl H) ?_
        rw [r1.nilD.mp rfl, List.nil_append]
        cases ry with
        | tup q1 q2 q3 => exact .tup q1 q2 q3
        | tupS q1 q3 => exact .tupS q1 q3
      · subst z2
        refine q _ _ (Ex.refl H) ?_
        rw [r2.nilD.mp rfl, List.append_nil]
        cases rx with
        | tup q1 q2 q3 => exact .tup q1 q2 q3
        | tupS q1 q3 => exact .tupS q1 q3
      · exact q _ _ (Ex.new hp) ((r1.app r2).newT hd hp)
    · cases eg
  · cases eg
theorem ip_add {fa fb : Pk} (hk : k.K = X.K) (ha : PE X a (tP k fa)) (hb : PE X b (tP k fb)) : PE X (.BinOp a .Add b pos) (tP k (bin addD fa fb)) := ip_op op_addA (hk ▸ opS_add) ha hb
end
end Iv

set_option Elab.async false
set_option linter.all false
set_option maxRecDepth 100000
set_option maxHeartbeats 4000000
namespace Iv
open PySem PySem.Spec PyProof.Rows L2

section
variable {X : Cx} {k : Wd} {e a b c : Expr} {pos : Pos} {fa fb fc : Pk}

/-! #### arithmetic -/
def subD : D → D → Option D
  | .int a, .int b => some (.int (a - b))
  | _, _ => none
theorem opS_sub : OpS k (rI0 fun i j => .int (i - j)) subD := by
  intro L H n m x y dx dy d Q hn hm hd rx ry eg q
  unfold subD at eg
  split at eg
  · cases eg
    obtain rfl := rx.int_inv
    obtain rfl := ry.int_inv
    exact ⟨_, _, rfl, rfl, q _ _ (Ex.refl H) (.int _)⟩
  · cases eg
theorem ip_sub (ha : PE X a (tP k fa)) (hb : PE X b (tP k fb)) : PE X (.BinOp a .Sub b pos) (tP k (bin subD fa fb)) := ip_op op_sub opS_sub ha hb
def divD : D → D → Option D
  | .int a, .int b => if 0 < b ∧ b < 1073741824 then some (.int (a / b)) else none
  | _, _ => none
theorem opS_div : OpS k (rI CDiv fun i j => .int (i / j)) divD := by
  intro L H n m x y dx dy d Q hn hm hd rx ry eg q
  unfold divD at eg
  split at eg
  · split at eg
    · rename_i hz
      cases eg
      obtain rfl := rx.int_inv
      obtain rfl := ry.int_inv
      exact ⟨_, _, rfl, rfl, hz, q _ _ (Ex.refl H) (.int _)⟩
    · cases eg
  · cases eg
theorem ip_div (ha : PE X a (tP k fa)) (hb : PE X b (tP k fb)) : PE X (.BinOp a .FloorDiv b pos) (tP k (bin divD fa fb)) := ip_op op_fdiv opS_div ha hb
def modD : D → D → Option D
  | .int a, .int b => if 0 < b then some (.int (a % b)) else none
  | _, _ => none
theorem opS_mod : OpS k (rI (fun _ j => 0 < j) fun i j => .int (i % j)) modD := by
  intro L H n m x y dx dy d Q hn hm hd rx ry eg q
  unfold modD at eg
  split at eg
  · split at eg
    · rename_i hz
      cases eg
      obtain rfl := rx.int_inv
      obtain rfl := ry.int_inv
      exact ⟨_, _, rfl, rfl, hz, q _ _ (Ex.refl H) (.int _)⟩
    · cases eg
  · cases eg
theorem ip_mod (ha : PE X a (tP k fa)) (hb : PE X b (tP k fb)) : PE X (.BinOp a .Mod b pos) (tP k (bin modD fa fb)) := ip_op op_mod opS_mod ha hb
def powD : D → D → Option D
  | .int a, .int b => if 0 ≤ b ∧ b ≤ 1000000 ∧ a.natAbs < 2 ^ 64 then some (.int (a ^ b.toNat)) else none
  | _, _ => none
theorem opS_pow : OpS k (rI CPow fun i j => .int (i ^ j.toNat)) powD := by
  intro L H n m x y dx dy d Q hn hm hd rx ry eg q
  unfold powD at eg
  split at eg
  · split at eg
    · rename_i hz
      cases eg
      obtain rfl := rx.int_inv
      obtain rfl := ry.int_inv
      exact ⟨_, _, rfl, rfl, hz, q _ _ (Ex.refl H) (.int _)⟩
    · cases eg
  · cases eg
theorem ip_pow (ha : PE X a (tP k fa)) (hb : PE X b (tP k fb)) : PE X (.BinOp a .Pow b pos) (tP k (bin powD fa fb)) := ip_op op_pow opS_pow ha hb

/-! text times int, list times int -/
def repS (s : Str) (n : Int) : Str := if n < 1 then Str.empty else if (n == 1 || s.length == 0) = true then s else ⟨(List.replicate n.toNat s.cps).foldl (· ++ ·) #[]⟩
theorem fold_size (c : Array Nat) : ∀ (m : Nat) (acc : Array Nat), ((List.replicate m c).foldl (· ++ ·) acc).size = acc.size + m * c.size
  | 0, acc => by simp
  | m + 1, acc => by
    rw [List.replicate_succ, List.foldl_cons, fold_size c m, Array.size_append, Nat.succ_mul]
    omega
def rRepS : R2 := fun x y H Q => ∃ s n, x = .str s ∧ y = .int n ∧ -1000 ≤ n ∧ n ≤ 1000 ∧ s.length ≤ 1000 ∧ Q (.str (repS s n)) H
theorem op_repS : OpR X (binaryOp .Mult) rRepS := by
  intro pins s σ H x y v u Q I rx ry h
  obtain ⟨z, n, rfl, rfl, h1, h2, h3, q⟩ := h
  obtain ⟨t, rfl⟩ := rx
  obtain ⟨t', rfl⟩ := ry
  have line : (sizeLine : Nat) = 16777216 := sizeLine_eq
  refine PySem.P.mul_str ?_ (fun hn _ => ?_) (fun hn _ => ?_) ?_
  · rw [decide_eq_false (by omega), decide_eq_false (by omega)]
    rfl
  · have hd : n ≤ 1000 := h2
    have : (2 ^ 63 - 1) / 1000 ≤ (2 ^ 63 - 1 : Int) / n := by
      have hp : (0 : Int) < n := by omega
      rw [Int.le_ediv_iff_mul_le hp]
      have : (2 ^ 63 - 1 : Int) / 1000 * n ≤ (2 ^ 63 - 1 : Int) / 1000 * 1000 := Int.mul_le_mul_of_nonneg_left hd (by decide)
      have h9 : (2 ^ 63 - 1 : Int) / 1000 * 1000 ≤ 2 ^ 63 - 1 := by decide
      omega
    have h9 : (1000 : Int) ≤ (2 ^ 63 - 1) / 1000 := by decide
    omega
  · unfold Builtin.Str.tooLong
    have : z.length * n.toNat ≤ 1000 * 1000 := Nat.mul_le_mul h3 (by omega)
    exact decide_eq_false (by omega)
  · unfold repS at q
    split
    · rename_i c1
      rw [if_pos c1] at q
      exact ⟨Nat.zero_le _, .str _, H, I.tok _, ⟨_, rfl⟩, q⟩
    · rename_i c1
      rw [if_neg c1] at q
      split
      · rename_i c2
        rw [if_pos c2] at q
        exact ⟨.str _, H, I, ⟨_, rfl⟩, q⟩
      · rename_i c2
        rw [if_neg c2] at q
        refine ⟨?_, .str _, H, I.tok _, ⟨_, rfl⟩, q⟩
        show ((List.replicate n.toNat z.cps).foldl (· ++ ·) #[]).size ≤ sizeLine
        rw [fold_size]
        have : n.toNat * z.cps.size ≤ 1000 * 1000 := Nat.mul_le_mul (by omega) h3
        simp only [Array.size_empty]
        omega
def rRepR : R2 := fun x y H Q => ∃ l k xs, x = .ref l ∧ y = .int k ∧ Rd H l (.lst xs) ∧ -(2 ^ 63) ≤ k ∧ k < 2 ^ 63 ∧ xs.length * k.toNat ≤ sizeLine ∧
  ∀ p, H p = none → Q (.ref p) (upd H p (.lst (List.replicate k.toNat xs).flatten))
theorem op_repR : OpR X (binaryOp .Mult) rRepR := by
  intro pins s σ H x y v u Q I rx ry h
  obtain ⟨l, k, xs, rfl, rfl, hH, h1, h2, hz, q⟩ := h
  cases rx
  obtain ⟨t, rfl⟩ := ry
  obtain ⟨z, its, n, r, hl, e⟩ := lstR I hH
  have hlen : its.toArray.size * k.toNat ≤ sizeLine := by rw [List.size_toArray, ← hl]; exact hz
  have hcap : ¬ its.toArray.size * k.toNat > (2 ^ 63 - 1) / 8 := by
    have : (sizeLine : Nat) ≤ (2 ^ 63 - 1) / 8 := by decide
    omega
  have hfit : ¬ (!Builtin.List.listFitsIndex k) = true := by
    rw [fitsIndex_both h1 h2]
    exact Bool.false_ne_true
  have hlong : ¬ Builtin.List.listTooLong (its.toArray.size * k.toNat) = true := by
    rw [notLongL hlen]
    exact Bool.false_ne_true
  have hnew : List.foldl (fun x1 x2 => x1 ++ x2) #[] (List.replicate (if its.toArray.isEmpty = true then 0 else k.toNat) its.toArray) = (List.replicate k.toNat its).flatten.toArray := by
    have f0 : ∀ m : Nat, List.foldl (fun x1 x2 => x1 ++ x2) #[] (List.replicate m its.toArray) = (List.replicate m its).flatten.toArray := fun m => by
      have := foldl_rep its m []
      rw [List.nil_append] at this
      exact this
    rw [f0]
    cases its with
    | nil => simp
    | cons a r' => rw [if_neg (by simp)]
  refine wpAny_binaryOp_repeat_ref (T := "list") (U := "int") (by decide) ⟨_, e, rfl⟩ (fun s' => typeIs_int s' k t) noFill_list_mul F.fills_int_mul F.slot_int_rmul repeat_list F.slot_int_index.lookup
    (call_meets F.slot_int_rmul (typeIs_int s k t) F.entry_int_rmul (F.args_int_rmul_2 _ _) (int___rmul___int_list k t l its.toArray n)
      ⟨e, rfl, ⟨_, e, rfl⟩, call_meets F.slot_list_mul ⟨_, e, rfl⟩ F.entry_list_mul (F.args_list_mul_2 _ _) (AutoListH.list___mul___list_int_3 l its.toArray n k t hfit hcap hlong) ⟨e, ?_⟩⟩)
  rw [hnew]
  exact ⟨.ref _, _, I.lnew (t' := s.toks) (r.rep k.toNat) (by rw [PyProof.Rows.lm_len_rep_flat, Nat.mul_comm]; exact hz), rfl, q _ I.fresh⟩
theorem Rs.rep {L M : List Addr} {H : Hp} {n : Nat} {vs : List V} {ds : List D} (h : Rs k L M H n vs ds) : ∀ m : Nat, Rs k L M H n (List.replicate m vs).flatten (List.replicate m ds).flatten
  | 0 => .nil
  | m + 1 => by
    rw [List.replicate_succ, List.replicate_succ, List.flatten_cons, List.flatten_cons]
    exact h.app (Rs.rep h m)
def mulD : D → D → Option D
  | .int a, .int b => if (-(2 ^ 64) < a ∧ a < 2 ^ 64) ∨ (-(2 ^ 64) < b ∧ b < 2 ^ 64) then some (.int (a * b)) else none
  | .str s, .int n => if -1000 ≤ n ∧ n ≤ 1000 ∧ s.length ≤ 1000 then some (.str (repS s n)) else none
  | .lst xs, .int n => if -1000 ≤ n ∧ n ≤ 1000 ∧ xs.length * n.toNat ≤ 100000 then some (.lst (List.replicate n.toNat xs).flatten) else none
  | _, _ => none
def rMulA : R2 := fun x y H Q => (rI CMul fun i j => .int (i * j)) x y H Q ∨ rRepS x y H Q ∨ rRepR x y H Q
theorem op_mulA : OpR X (binaryOp .Mult) rMulA := op_mul.or (op_repS.or op_repR)
theorem opS_mul : OpS k rMulA mulD := by
  intro L H n m x y dx dy d Q hn hm hd rx ry eg q
  unfold mulD at eg
  split at eg
  · split at eg
    · rename_i hz
      cases eg
      obtain rfl := rx.int_inv
      obtain rfl := ry.int_inv
      exact .inl ⟨_, _, rfl, rfl, hz, q _ _ (Ex.refl H) (.int _)⟩
    · cases eg
  · split at eg
    · rename_i hz
      cases eg
      obtain rfl := rx.str_inv
      obtain rfl := ry.int_inv
      exact .inr (.inl ⟨_, _, rfl, rfl, hz.1, hz.2.1, hz.2.2, q _ _ (Ex.refl H) (.str _)⟩)
    · cases eg
  · split at eg
    · rename_i hz
      cases eg
      obtain ⟨l, vs, rfl, h1, r1⟩ := rx.lst_inv
      obtain rfl := ry.int_inv
      have e1 := r1.len
      have z1 : n - 1 = 0 := by omega
      rw [z1] at r1
      refine .inr (.inr ⟨l, _, vs, rfl, rfl, h1, by omega, by omega, line1e5 (by rw [e1]; exact hz.2.2), fun p hp => ?_⟩)
      exact q _ _ (Ex.new hp) ((r1.rep _).newL hd hp)
    · cases eg
  · cases eg
theorem ip_mul (ha : PE X a (tP k fa)) (hb : PE X b (tP k fb)) : PE X (.BinOp a .Mult b pos) (tP k (bin mulD fa fb)) := ip_op op_mulA opS_mul ha hb
/-! one operand -/
def una (g : D → Option D) (f : Pk) : Pk := fun ρ => (f ρ).bind fun x => (g x.2).map fun d => (0, d)
def negD : D → Option D
  | .int a => some (.int (-a))
  | _ => none
theorem ip_neg (ha : PE X a (tP k fa)) : PE X (.UnaryOp .USub a pos) (tP k (una negD fa)) := peW (pe_un un_neg ha) fun σ H Q ⟨ρ, O, C, S, n, d, ef, q⟩ => by
  obtain ⟨⟨nx, dx⟩, ea, ef⟩ := Option.bind_eq_some_iff.mp ef
  obtain ⟨d', eg, ef⟩ := Option.map_eq_some_iff.mp ef
  cases ef
  refine ⟨ρ, O, C, S, nx, dx, ea, fun x H1 e1 r1 => ?_⟩
  unfold negD at eg
  split at eg
  · rename_i i ei
    cases eg
    have ei : dx = .int i := ei
    subst ei
    obtain rfl := r1.int_inv
    exact ⟨i, rfl, q _ _ e1 (.int _)⟩
  · cases eg
def notD : D → Option D
  | .bl a => some (.bl (!a))
  | _ => none
theorem ip_not (ha : PE X a (tP k fa)) : PE X (.UnaryOp .Not a pos) (tP k (una notD fa)) := peW (pe_not ha) fun σ H Q ⟨ρ, O, C, S, n, d, ef, q⟩ => by
  obtain ⟨⟨nx, dx⟩, ea, ef⟩ := Option.bind_eq_some_iff.mp ef
  obtain ⟨d', eg, ef⟩ := Option.map_eq_some_iff.mp ef
  cases ef
  refine ⟨ρ, O, C, S, nx, dx, ea, fun x H1 e1 r1 => ?_⟩
  unfold notD at eg
  split at eg
  · rename_i i ei
    cases eg
    have ei : dx = .bl i := ei
    subst ei
    obtain rfl := r1.bl_inv
    exact ⟨i, rfl, q _ _ e1 (.bl _)⟩
  · cases eg

/-! #### comparisons -/
def OpC (k : Wd) (r : R2) (g : D → D → Option Bool) : Prop := ∀ (L : List Addr) (H : Hp) (n m : Nat) (x y : V) (dx dy : D) (b : Bool) (Q : VK), R k L [] H n x dx → R k L [] H m y dy → g dx dy = some b → Q (.bl b) H → r x y H Q
def cmp (g : D → D → Option Bool) (fa fb : Pk) : Rho → Option Bool := fun ρ => (fa ρ).bind fun x => (fb ρ).bind fun y => g x.2 y.2
def blP (f : Rho → Option Bool) : Pk := fun ρ => (f ρ).map fun b => (0, .bl b)
theorem cmp_inv {g : D → D → Option Bool} {ρ : Rho} {b : Bool} (h : cmp g fa fb ρ = some b) : ∃ n m dx dy, fa ρ = some (n, dx) ∧ fb ρ = some (m, dy) ∧ g dx dy = some b := by
  obtain ⟨⟨n, dx⟩, ea, h⟩ := Option.bind_eq_some_iff.mp h
  obtain ⟨⟨m, dy⟩, eb, h⟩ := Option.bind_eq_some_iff.mp h
  exact ⟨n, m, dx, dy, ea, eb, h⟩
theorem opC_run {r : R2} {g : D → D → Option Bool} (hs : OpC k r g) {σ : L2.St} {H : Hp} {Q : VK} {ρ : Rho} {O C : List Addr} {b : Bool} (S : Sg k C σ ρ O H) (ef : cmp g fa fb ρ = some b) (q : ∀ H', Ex H H' → Q (.bl b) H') : tOp r (tP k fa) (tP k fb) σ H Q := by
  obtain ⟨n, m, dx, dy, ea, eb, eg⟩ := cmp_inv ef
  exact ⟨ρ, O, C, S, n, dx, ea, fun x H1 e1 r1 => ⟨ρ, O, C, S.ex e1, m, dy, eb, fun y H2 e2 r2 => hs (O ++ C) H2 n m x y dx dy b Q (r1.ex e2) r2 eg (q H2 (e1.trans e2))⟩⟩
theorem ip_cmp {op : CmpOp} {r : R2} {g : D → D → Option Bool} (ho : OpR X (compareOp op) r) (hs : OpC k r g) (ha : PE X a (tP k fa)) (hb : PE X b (tP k fb)) (hm : behindInMarks op b = false) : PE X (.Compare a [op] [b] pos) (tP k (blP (cmp g fa fb))) :=
  peW (pe_cmpR ho ha hb hm) fun σ H Q ⟨ρ, O, C, S, n, d, ef, q⟩ => by
    obtain ⟨b, eb, ef⟩ := Option.map_eq_some_iff.mp ef
    cases ef
    exact opC_run hs S eb fun H' e => q _ _ e (.bl b)
theorem it_cmp {op : CmpOp} {r : R2} {g : D → D → Option Bool} (ho : OpR X (compareOp op) r) (hs : OpC k r g) (ha : PE X a (tP k fa)) (hb : PE X b (tP k fb)) (hm : behindInMarks op b = false) : PT X (.Compare a [op] [b] pos) (tT k (cmp g fa fb)) :=
  ptW (pt_cmpR ho ha hb hm) fun σ H Q ⟨ρ, O, C, S, b, ef, q⟩ => opC_run hs S ef fun H' e => ⟨b, rfl, q H' e⟩
/-- a < b < c -/
def chn (g g' : D → D → Option Bool) (fa fb fc : Pk) : Rho → Option Bool := fun ρ => (fa ρ).bind fun x => (fb ρ).bind fun y => (g x.2 y.2).bind fun t => if t = true then (fc ρ).bind fun z => g' y.2 z.2 else some false
theorem chn_run {r r' : R2} {g g' : D → D → Option Bool} (hs : OpC k r g) (hs' : OpC k r' g') {σ : L2.St} {H : Hp} {Q : VK} {ρ : Rho} {O C : List Addr} {b : Bool} (S : Sg k C σ ρ O H) (ef : chn g g' fa fb fc ρ = some b) (q : ∀ H', Ex H H' → Q (.bl b) H') :
    tChain r r' (tP k fa) (tP k fb) (tP k fc) σ H Q := by
  obtain ⟨⟨n, dx⟩, ea, ef⟩ := Option.bind_eq_some_iff.mp ef
  obtain ⟨⟨m, dy⟩, eb, ef⟩ := Option.bind_eq_some_iff.mp ef
  obtain ⟨t, et, ef⟩ := Option.bind_eq_some_iff.mp ef
  refine ⟨ρ, O, C, S, n, dx, ea, fun x H1 e1 r1 => ⟨ρ, O, C, S.ex e1, m, dy, eb, fun y H2 e2 r2 => hs (O ++ C) H2 n m x y dx dy t _ (r1.ex e2) r2 et ⟨t, rfl, ?_⟩⟩⟩
  cases t with
  | true =>
    have ef : ((fc ρ).bind fun z => g' dy z.2) = some b := ef
    obtain ⟨⟨p, dz⟩, ec, ef⟩ := Option.bind_eq_some_iff.mp ef
    rw [if_pos rfl]
    exact ⟨ρ, O, C, S.ex (e1.trans e2), p, dz, ec, fun z H3 e3 r3 => hs' (O ++ C) H3 m p y z dy dz b Q (r2.ex e3) r3 ef (q H3 ((e1.trans e2).trans e3))⟩
  | false =>
    have ef : some false = some b := ef
    cases ef
    rw [if_neg Bool.false_ne_true]
    exact q H2 (e1.trans e2)
theorem ip_chn {op op' : CmpOp} {r r' : R2} {g g' : D → D → Option Bool} (ho : OpR X (compareOp op) r) (hs : OpC k r g) (ho' : OpR X (compareOp op') r') (hs' : OpC k r' g') (ha : PE X a (tP k fa)) (hb : PE X b (tP k fb)) (hc : PE X c (tP k fc))
    (hm : lastMarks [op, op'] [b, c] = false := by with_unfolding_all rfl) : PE X (.Compare a [op, op'] [b, c] pos) (tP k (blP (chn g g' fa fb fc))) :=
  peW (pe_chain ho ho' ha hb hc hm) fun σ H Q ⟨ρ, O, C, S, n, d, ef, q⟩ => by
    obtain ⟨b, eb, ef⟩ := Option.map_eq_some_iff.mp ef
    cases ef
    exact chn_run hs hs' S eb fun H' e => q _ _ e (.bl b)
theorem it_chn {op op' : CmpOp} {r r' : R2} {g g' : D → D → Option Bool} (ho : OpR X (compareOp op) r) (hs : OpC k r g) (ho' : OpR X (compareOp op') r') (hs' : OpC k r' g') (ha : PE X a (tP k fa)) (hb : PE X b (tP k fb)) (hc : PE X c (tP k fc))
    (hm : lastMarks [op, op'] [b, c] = false := by with_unfolding_all rfl) : PT X (.Compare a [op, op'] [b, c] pos) (tT k (chn g g' fa fb fc)) :=
  ptW (pt_chain ho ho' ha hb hc hm) fun σ H Q ⟨ρ, O, C, S, b, ef, q⟩ => chn_run hs hs' S ef fun H' e => ⟨b, rfl, q H' e⟩
def intC (g : Int → Int → Bool) : D → D → Option Bool
  | .int a, .int b => some (g a b)
  | _, _ => none
theorem opC_int {g : Int → Int → Bool} : OpC k (rI0 fun i j => .bl (g i j)) (intC g) := by
  intro L H n m x y dx dy b Q rx ry eg q
  unfold intC at eg
  split at eg
  · cases eg
    obtain rfl := rx.int_inv
    obtain rfl := ry.int_inv
    exact ⟨_, _, rfl, rfl, q⟩
  · cases eg
abbrev ltC := intC fun i j => decide (i < j)
abbrev leC := intC fun i j => decide (i ≤ j)
abbrev gtC := intC fun i j => decide (j < i)
abbrev geC := intC fun i j => decide (j ≤ i)

/-! ==, != of data -/
mutual
def D.py : D → PyData
  | .non => .none
  | .bl b => .bool b
  | .int i => .int i
  | .str s => .str s
  | .tup xs => .tuple (pys xs)
  | .lst xs => .list (pys xs)
  | .dic _ _ => .dict []
  | .obj _ _ _ => .dict []
  | .scr _ => .dict []
def pys : List D → List PyData
  | [] => []
  | x :: xs => x.py :: pys xs
end
mutual
theorem R.dp {L M : List Addr} {H : Hp} : ∀ (d : D) {n : Nat} {v : V}, R k L M H n v d → d.py.canLay0 = true → Dp k.K H v d.py
  | .non, _, _, h, _ => by cases h; exact .non
  | .bl b, _, _, h, _ => by cases h; exact .bl b
  | .int i, _, _, h, _ => by cases h; exact .int i
  | .str s, _, _, h, _ => by cases h; exact .str s
  | .tup ds, _, _, h, z => by
    obtain ⟨a, vs, rfl, h1, h2⟩ := h.tup_inv
    simp only [D.py, PyData.canLay0] at z
    simp only [D.py]
    exact .tup h1 (Rs.dp ds h2 z)
  | .lst ds, _, _, h, z => by
    simp only [D.py, PyData.canLay0] at z
    simp only [D.py]
    cases h with
    | lst0 h1 h2 h3 => exact .lst (.inl h1) (Rs.dp ds h3 z)
    | lst1 h1 h2 h3 => exact .lst (.inl h1) (Rs.dp ds h3 z)
  | .dic ks ds, _, _, h, z => by simp [D.py, PyData.canLay0] at z
  | .obj c ns ds, _, _, h, z => by simp [D.py, PyData.canLay0] at z
  | .scr xs, _, _, h, z => by simp [D.py, PyData.canLay0] at z
theorem Rs.dp {L M : List Addr} {H : Hp} : ∀ (ds : List D) {n : Nat} {vs : List V}, Rs k L M H n vs ds → PyData.canLayAll0 (pys ds) = true → DpAll k.K H vs (pys ds)
  | [], _, _, h, _ => by
    cases h
    simp only [pys]
    exact .nil
  | d :: ds, _, _, h, z => by
    cases h with
    | cons h1 h2 =>
      simp only [pys, PyData.canLayAll0, Bool.and_eq_true] at z
      simp only [pys]
      exact .cons (R.dp d h1 z.1) (Rs.dp ds h2 z.2)
end
def eqC : D → D → Option Bool := fun x y => if SeqAt.shaped x.py = true ∧ SeqAt.shaped y.py = true then some (PyData.eqv x.py y.py) else none
def neC : D → D → Option Bool := fun x y => (eqC x y).map (!·)
theorem opC_eq : OpC k (rEqD k.K) eqC := by
  intro L H n m x y dx dy b Q rx ry eg q
  unfold eqC at eg
  split at eg
  · rename_i hz
    cases eg
    exact ⟨_, _, R.dp _ rx (SeqAt.canLay_of_shaped hz.1), R.dp _ ry (SeqAt.canLay_of_shaped hz.2), hz.1, hz.2, q⟩
  · cases eg
theorem opC_ne : OpC k (rNeD k.K) neC := by
  intro L H n m x y dx dy b Q rx ry eg q
  obtain ⟨b', eb, rfl⟩ := Option.map_eq_some_iff.mp eg
  unfold eqC at eb
  split at eb
  · rename_i hz
    cases eb
    exact ⟨_, _, R.dp _ rx (SeqAt.canLay_of_shaped hz.1), R.dp _ ry (SeqAt.canLay_of_shaped hz.2), hz.1, hz.2, q⟩
  · cases eb
/-! in, not in -/
def D.v : D → V
  | .non => .non
  | .bl b => .bl b
  | .int i => .int i
  | .str s => .str s
  | _ => .ref 0
def D.flat : D → Bool
  | .non => true
  | .bl _ => true
  | .int _ => true
  | .str _ => true
  | _ => false
theorem R.flatV {L M : List Addr} {H : Hp} {n : Nat} {v : V} {d : D} (h : R k L M H n v d) (f : d.flat = true) : v = d.v ∧ flatV v = true := by
  cases h <;> first | exact ⟨rfl, rfl⟩ | cases f
theorem Rs.flatV {L M : List Addr} {H : Hp} {n : Nat} : ∀ {vs : List V} {ds : List D}, Rs k L M H n vs ds → ds.all D.flat = true → vs = ds.map D.v ∧ vs.all L2.flatV = true
  | [], [], _, _ => ⟨rfl, rfl⟩
  | v :: vs, d :: ds, h, f => by
    cases h with
    | cons h1 h2 =>
      simp only [List.all_cons, Bool.and_eq_true] at f
      obtain ⟨q1, q2⟩ := R.flatV h1 f.1
      obtain ⟨q3, q4⟩ := Rs.flatV h2 f.2
      refine ⟨by rw [List.map_cons, ← q1, ← q3], ?_⟩
      simp only [List.all_cons, Bool.and_eq_true]
      exact ⟨q2, q4⟩
  | [], _ :: _, h, _ => by cases h
  | _ :: _, [], h, _ => by cases h
/-- x in a list or tuple of flat things; one sign in a text -/
def inC : D → D → Option Bool
  | x, .lst ds => if x.flat = true ∧ ds.all D.flat = true then some (inV x.v (ds.map D.v)) else none
  | x, .tup ds => if x.flat = true ∧ ds.all D.flat = true then some (inV x.v (ds.map D.v)) else none
  | .str s, .str z => if s.cps.size = 1 then some (decide (s.cps.getD 0 0 ∈ z.cps.toList)) else none
  | _, _ => none
def ninC : D → D → Option Bool := fun x y => (inC x y).map (!·)
def rInA (K : PySem.W.Frag) : R2 := fun x y H Q => rIn K false x y H Q ∨ ∃ (c : Nat) (z : Str), x = .str ⟨#[c]⟩ ∧ y = .str z ∧ Q (.bl (decide (c ∈ z.cps.toList))) H
def rNinA (K : PySem.W.Frag) : R2 := fun x y H Q => rIn K true x y H Q ∨ ∃ (c : Nat) (z : Str), x = .str ⟨#[c]⟩ ∧ y = .str z ∧ Q (.bl (!decide (c ∈ z.cps.toList))) H
theorem op_inA : OpR X (compareOp .In) (rInA X.K) := op_in_seq.or op_in_sign
theorem op_ninA : OpR X (compareOp .NotIn) (rNinA X.K) := op_notIn_seq.or op_notIn_sign
theorem sign1 {s : Str} (h : s.cps.size = 1) : s = ⟨#[s.cps.getD 0 0]⟩ := by
  obtain ⟨cps⟩ := s
  obtain ⟨l⟩ := cps
  match l, h with
  | [x], _ => rfl
theorem in_cases {L M : List Addr} {H : Hp} {n m : Nat} {x y : V} {dx dy : D} {b : Bool} (rx : R k L M H n x dx) (ry : R k L M H m y dy) (eg : inC dx dy = some b) :
    (∃ p xs, y = .ref p ∧ (SqL k.K H p xs ∨ SqT k.K H p xs) ∧ L2.flatV x = true ∧ xs.all L2.flatV = true ∧ b = inV x xs) ∨ (∃ (c : Nat) (z : Str), x = .str ⟨#[c]⟩ ∧ y = .str z ∧ b = decide (c ∈ z.cps.toList)) := by
  unfold inC at eg
  split at eg
  · split at eg
    · rename_i hz
      cases eg
      obtain ⟨f1, f2⟩ := R.flatV rx hz.1
      cases ry with
      | lst0 h1 h2 h3 =>
        obtain ⟨g1, g2⟩ := Rs.flatV h3 hz.2
        exact .inl ⟨_, _, rfl, .inl (.inl h1), f2, g2, by rw [f1, g1]⟩
      | lst1 h1 h2 h3 =>
        obtain ⟨g1, g2⟩ := Rs.flatV h3 hz.2
        exact .inl ⟨_, _, rfl, .inl (.inl h1), f2, g2, by rw [f1, g1]⟩
    · cases eg
  · split at eg
    · rename_i hz
      cases eg
      obtain ⟨f1, f2⟩ := R.flatV rx hz.1
      obtain ⟨a, vs, rfl, h1, h3⟩ := ry.tup_inv
      obtain ⟨g1, g2⟩ := Rs.flatV h3 hz.2
      exact .inl ⟨_, _, rfl, .inr h1, f2, g2, by rw [f1, g1]⟩
    · cases eg
  · split at eg
    · rename_i hz
      cases eg
      obtain rfl := rx.str_inv
      obtain rfl := ry.str_inv
      exact .inr ⟨_, _, by rw [← sign1 hz], rfl, rfl⟩
    · cases eg
  · cases eg
theorem opC_in : OpC k (rInA k.K) inC := by
  intro L H n m x y dx dy b Q rx ry eg q
  rcases in_cases rx ry eg with ⟨p, xs, rfl, h1, h2, h3, rfl⟩ | ⟨c, z, rfl, rfl, rfl⟩
  · exact .inl ⟨p, xs, rfl, h1, h2, h3, by simpa using q⟩
  · exact .inr ⟨c, z, rfl, rfl, q⟩
theorem opC_nin : OpC k (rNinA k.K) ninC := by
  intro L H n m x y dx dy b Q rx ry eg q
  obtain ⟨b', eb, rfl⟩ := Option.map_eq_some_iff.mp eg
  rcases in_cases rx ry eb with ⟨p, xs, rfl, h1, h2, h3, rfl⟩ | ⟨c, z, rfl, rfl, rfl⟩
  · exact .inl ⟨p, xs, rfl, h1, h2, h3, by simpa using q⟩
  · exact .inr ⟨c, z, rfl, rfl, q⟩
/-! is, is not: None, True, False -/
def isNone : D → Bool
  | .non => true
  | _ => false
def isC : D → D → Option Bool
  | .bl a, .bl b => some (decide (a = b))
  | x, .non => some (isNone x)
  | _, _ => none
def isnC : D → D → Option Bool := fun x y => (isC x y).map (!·)
def rIsA : R2 := fun x y H Q => rIsB x y H Q ∨ (y = .non ∧ Q (.bl (decide (x = .non))) H)
def rIsnA : R2 := fun x y H Q => rNotB x y H Q ∨ (y = .non ∧ Q (.bl (!decide (x = .non))) H)
theorem op_isA : OpR X (compareOp .Is) rIsA := op_isBl.or op_isN
theorem op_isnA : OpR X (compareOp .IsNot) rIsnA := op_notBl.or op_notN
theorem R.isNone {L M : List Addr} {H : Hp} {n : Nat} {v : V} {d : D} (h : R k L M H n v d) : Iv.isNone d = decide (v = .non) := by
  cases h <;> simp [Iv.isNone]
theorem opC_is : OpC k rIsA isC := by
  intro L H n m x y dx dy b Q rx ry eg q
  unfold isC at eg
  split at eg
  · cases eg
    obtain rfl := rx.bl_inv
    obtain rfl := ry.bl_inv
    exact .inl ⟨_, _, rfl, rfl, q⟩
  · cases eg
    obtain rfl := ry.non_inv
    rw [rx.isNone] at q
    exact .inr ⟨rfl, q⟩
  · cases eg
theorem opC_isn : OpC k rIsnA isnC := by
  intro L H n m x y dx dy b Q rx ry eg q
  obtain ⟨b', eb, rfl⟩ := Option.map_eq_some_iff.mp eg
  unfold isC at eb
  split at eb
  · cases eb
    obtain rfl := rx.bl_inv
    obtain rfl := ry.bl_inv
    exact .inl ⟨_, _, rfl, rfl, q⟩
  · cases eb
    obtain rfl := ry.non_inv
    rw [rx.isNone] at q
    exact .inr ⟨rfl, q⟩
  · cases eb

/-! #### tests -/
variable {ta tb : Rho → Option Bool}
theorem it_val (h : PE X e (tP k (blP ta))) (he : ∀ whole, isTrue e X.env whole = (do let v ← whole; standAt e.pos; holding [v] (truthy v)) := by intro _; rfl) : PT X e (tT k ta) :=
  ptW (pt_val h he) fun σ H Q ⟨ρ, O, C, S, b, ef, q⟩ => ⟨ρ, O, C, S, 0, .bl b, by unfold blP; rw [ef]; rfl, fun v H' e r => by
    obtain rfl := r.bl_inv
    exact ⟨b, rfl, q H' e⟩⟩
/-- a value that is a bool -/
def asB (f : Pk) : Rho → Option Bool := fun ρ => (f ρ).bind fun x => match x.2 with
  | .bl b => some b
  | _ => none
theorem asB_inv {f : Pk} {ρ : Rho} {b : Bool} (h : asB f ρ = some b) : ∃ n, f ρ = some (n, .bl b) := by
  obtain ⟨⟨n, d⟩, ed, h⟩ := Option.bind_eq_some_iff.mp h
  cases d with
  | bl c =>
    have h : some c = some b := h
    cases h
    exact ⟨n, ed⟩
  | _ => cases h
theorem it_b {f : Pk} (h : PE X e (tP k f)) (he : ∀ whole, isTrue e X.env whole = (do let v ← whole; standAt e.pos; holding [v] (truthy v)) := by intro _; rfl) : PT X e (tT k (asB f)) :=
  ptW (pt_val h he) fun σ H Q ⟨ρ, O, C, S, b, ef, q⟩ => by
    obtain ⟨n, ef⟩ := asB_inv ef
    exact ⟨ρ, O, C, S, n, .bl b, ef, fun v H' e r => by
      obtain rfl := r.bl_inv
      exact ⟨b, rfl, q H' e⟩⟩
def notT (t : Rho → Option Bool) : Rho → Option Bool := fun ρ => (t ρ).map (!·)
theorem it_not (h : PT X a (tT k ta)) : PT X (.UnaryOp .Not a pos) (tT k (notT ta)) := ptW (pt_not h) fun σ H Q ⟨ρ, O, C, S, b, ef, q⟩ => by
  obtain ⟨b', eb, rfl⟩ := Option.map_eq_some_iff.mp ef
  exact ⟨ρ, O, C, S, b', eb, q⟩
def andT (t u : Rho → Option Bool) : Rho → Option Bool := fun ρ => (t ρ).bind fun b => if b = true then u ρ else some false
def orT (t u : Rho → Option Bool) : Rho → Option Bool := fun ρ => (t ρ).bind fun b => if b = true then some true else u ρ
variable {rest : List Expr}
theorem iw_and1 (ha : PT X a (tT k ta)) : PW X (.BoolOp .And [a] pos) (tT k ta) := pw_and1 ha
theorem iw_or1 (ha : PT X a (tT k ta)) : PW X (.BoolOp .Or [a] pos) (tT k ta) := pw_or1 ha
theorem iw_and (ha : PT X a (tT k ta)) (hb : PW X (.BoolOp .And (b :: rest) pos) (tT k tb)) : PW X (.BoolOp .And (a :: b :: rest) pos) (tT k (andT ta tb)) := pwW (pw_and ha hb) fun σ H Q ⟨ρ, O, C, S, b, ef, q⟩ => by
  obtain ⟨t, et, ef⟩ := Option.bind_eq_some_iff.mp ef
  refine ⟨ρ, O, C, S, t, et, fun H1 e1 => ?_⟩
  cases t with
  | true =>
    have ef : tb ρ = some b := ef
    exact ⟨ρ, O, C, S.ex e1, b, ef, fun H2 e2 => q H2 (e1.trans e2)⟩
  | false =>
    have ef : some false = some b := ef
    cases ef
    exact q H1 e1
theorem iw_or (ha : PT X a (tT k ta)) (hb : PW X (.BoolOp .Or (b :: rest) pos) (tT k tb)) : PW X (.BoolOp .Or (a :: b :: rest) pos) (tT k (orT ta tb)) := pwW (pw_or ha hb) fun σ H Q ⟨ρ, O, C, S, b, ef, q⟩ => by
  obtain ⟨t, et, ef⟩ := Option.bind_eq_some_iff.mp ef
  refine ⟨ρ, O, C, S, t, et, fun H1 e1 => ?_⟩
  cases t with
  | true =>
    have ef : some true = some b := ef
    cases ef
    exact q H1 e1
  | false =>
    have ef : tb ρ = some b := ef
    exact ⟨ρ, O, C, S.ex e1, b, ef, fun H2 e2 => q H2 (e1.trans e2)⟩
/-! and, or as values -/
def andP (f g : Pk) : Pk := fun ρ => (asB f ρ).bind fun b => if b = true then g ρ else some (0, .bl false)
def orP (f g : Pk) : Pk := fun ρ => (asB f ρ).bind fun b => if b = true then some (0, .bl true) else g ρ
theorem ip_one {op} (h : PE X a (tP k fa)) : PE X (.BoolOp op [a] pos) (tP k fa) := pe_one h
theorem ip_and (ha : PE X a (tP k fa)) (hb : PE X (.BoolOp .And (b :: rest) pos) (tP k fb)) : PE X (.BoolOp .And (a :: b :: rest) pos) (tP k (andP fa fb)) := peW (pe_and ha hb) fun σ H Q ⟨ρ, O, C, S, n, d, ef, q⟩ => by
  obtain ⟨t, et, ef⟩ := Option.bind_eq_some_iff.mp ef
  obtain ⟨m, et⟩ := asB_inv et
  refine ⟨ρ, O, C, S, m, .bl t, et, fun v H1 e1 r1 => ?_⟩
  obtain rfl := r1.bl_inv
  refine ⟨t, rfl, ?_⟩
  cases t with
  | true =>
    have ef : fb ρ = some (n, d) := ef
    exact ⟨ρ, O, C, S.ex e1, n, d, ef, fun v H2 e2 r2 => q v H2 (e1.trans e2) r2⟩
  | false =>
    have ef : some (0, D.bl false) = some (n, d) := ef
    cases ef
    exact q _ H1 e1 (.bl false)
theorem ip_or (ha : PE X a (tP k fa)) (hb : PE X (.BoolOp .Or (b :: rest) pos) (tP k fb)) : PE X (.BoolOp .Or (a :: b :: rest) pos) (tP k (orP fa fb)) := peW (pe_or ha hb) fun σ H Q ⟨ρ, O, C, S, n, d, ef, q⟩ => by
  obtain ⟨t, et, ef⟩ := Option.bind_eq_some_iff.mp ef
  obtain ⟨m, et⟩ := asB_inv et
  refine ⟨ρ, O, C, S, m, .bl t, et, fun v H1 e1 r1 => ?_⟩
  obtain rfl := r1.bl_inv
  refine ⟨t, rfl, ?_⟩
  cases t with
  | true =>
    have ef : some (0, D.bl true) = some (n, d) := ef
    cases ef
    exact q _ H1 e1 (.bl true)
  | false =>
    have ef : fb ρ = some (n, d) := ef
    exact ⟨ρ, O, C, S.ex e1, n, d, ef, fun v H2 e2 r2 => q v H2 (e1.trans e2) r2⟩
/-! a if t else b -/
def ifP {α : Type} (t : Rho → Option Bool) (f g : Rho → Option α) : Rho → Option α := fun ρ => (t ρ).bind fun b => if b = true then f ρ else g ρ
theorem ip_if (hc : PT X c (tT k ta)) (ha : PE X a (tP k fa)) (hb : PE X b (tP k fb)) : PE X (.IfExp c a b pos) (tP k (ifP ta fa fb)) := peW (pe_ifExp hc ha hb) fun σ H Q ⟨ρ, O, C, S, n, d, ef, q⟩ => by
  obtain ⟨t, et, ef⟩ := Option.bind_eq_some_iff.mp ef
  refine ⟨ρ, O, C, S, t, et, fun H1 e1 => ?_⟩
  cases t with
  | true =>
    have ef : fa ρ = some (n, d) := ef
    exact ⟨ρ, O, C, S.ex e1, n, d, ef, fun v H2 e2 r2 => q v H2 (e1.trans e2) r2⟩
  | false =>
    have ef : fb ρ = some (n, d) := ef
    exact ⟨ρ, O, C, S.ex e1, n, d, ef, fun v H2 e2 r2 => q v H2 (e1.trans e2) r2⟩
end
end Iv

set_option Elab.async false
set_option linter.all false
set_option maxRecDepth 100000
set_option maxHeartbeats 4000000
namespace Iv
open PySem PySem.Spec PyProof.Rows L2

section
variable {X : Cx} {k : Wd} {e a b c : Expr} {pos : Pos} {fa fb fc : Pk}

/-! #### items, slices, attributes -/
def ixD : Nat × D → D → Option (Nat × D)
  | (n, .lst xs), .int i => (atI xs i).map fun d => (n - 1, d)
  | (_, .tup xs), .int i => (atI xs i).map fun d => (0, d)
  | (_, .scr xs), .int i => (atI xs i).map fun z => (0, .int z)
  | (_, .str s), .int i => if s.length ≤ 100000 then (atI s.cps.toList i).map fun c => (0, .str ⟨#[c]⟩) else none
  | _, _ => none
def ixP (fa fb : Pk) : Pk := fun ρ => (fa ρ).bind fun x => (fb ρ).bind fun y => ixD x y.2
theorem Rs.atI {L M : List Addr} {H : Hp} {n : Nat} {vs : List V} {ds : List D} {i : Int} {d : D} (h : Rs k L M H n vs ds) (e : L2.atI ds i = some d) : ∃ v, L2.atI vs i = some v ∧ R k L M H n v d := by
  unfold L2.atI at e ⊢
  obtain ⟨j, ej, e⟩ := Option.bind_eq_some_iff.mp e
  obtain ⟨v, ev, r⟩ := h.get e
  rw [h.len, ej]
  exact ⟨v, ev, r⟩
theorem ip_ix (ha : PE X a (tP k fa)) (hb : PE X b (tP k fb)) (hs : PlainIx b) (hk : k.K = X.K) : PE X (.Subscript a b pos) (tP k (ixP fa fb)) := peW (pe_ix ix_seq ha hb hs) fun σ H Q ⟨ρ, O, C, S, n, d, ef, q⟩ => by
  obtain ⟨⟨nx, dx⟩, ea, ef1⟩ := Option.bind_eq_some_iff.mp ef
  obtain ⟨⟨ny, dy⟩, eb, ef2⟩ := Option.bind_eq_some_iff.mp ef1
  clear ef ef1
  have ef : ixD (nx, dx) dy = some (n, d) := ef2
  clear ef2
  refine ⟨ρ, O, C, S, nx, dx, ea, fun x H1 e1 r1 => ⟨ρ, O, C, S.ex e1, ny, dy, eb, fun y H2 e2 r2 => ?_⟩⟩
  have r1 := r1.ex e2
  have e12 := e1.trans e2
  unfold ixD at ef
  split at ef
  · rename_i m xs i ex
    cases ex
    obtain ⟨d', ed, ef⟩ := Option.map_eq_some_iff.mp ef
    cases ef
    obtain rfl := r2.int_inv
    obtain ⟨p, vs, rfl, h1, h2⟩ := r1.lst_inv
    obtain ⟨v, ev, r⟩ := h2.atI ed
    exact .inl ⟨p, vs, i, v, rfl, rfl, .inl h1, ev, q v H2 e12 r⟩
  · rename_i m xs i ex
    cases ex
    obtain ⟨d', ed, ef⟩ := Option.map_eq_some_iff.mp ef
    cases ef
    obtain rfl := r2.int_inv
    obtain ⟨p, vs, rfl, h1, h2⟩ := r1.tup_inv
    obtain ⟨v, ev, r⟩ := h2.atI ed
    exact .inr (.inl ⟨p, vs, i, v, rfl, rfl, hk ▸ h1, ev, q v H2 e12 r⟩)
  · rename_i m xs i ex
    cases ex
    obtain ⟨z, ed, ef⟩ := Option.map_eq_some_iff.mp ef
    cases ef
    obtain rfl := r2.int_inv
    obtain ⟨p, rfl, h1⟩ := r1.scr_inv
    refine .inl ⟨p, xs.map V.int, i, .int z, rfl, rfl, hk ▸ h1, ?_, q _ H2 e12 (.int z)⟩
    unfold L2.atI at ed ⊢
    obtain ⟨j, ej, ed⟩ := Option.bind_eq_some_iff.mp ed
    rw [List.length_map, ej]
    show (xs.map V.int)[j]? = _
    rw [List.getElem?_map, ed]
    rfl
  · rename_i m s i ex
    cases ex
    split at ef
    · rename_i hz
      obtain ⟨c, ed, ef⟩ := Option.map_eq_some_iff.mp ef
      cases ef
      obtain rfl := r2.int_inv
      obtain rfl := r1.str_inv
      exact .inr (.inr ⟨s, i, c, rfl, rfl, line1e5 hz, ed, q _ H2 e12 (.str _)⟩)
    · cases ef
  · cases ef

/-- a slice's bound -/
def tPO (k : Wd) (f : Rho → Option (Option Int)) : TO := fun σ H Q => ∃ ρ O C, Sg k C σ ρ O H ∧ ∃ o, f ρ = some o ∧ ∀ H', Ex H H' → Q o H'
theorem poW {e : Option Expr} {t t' : TO} (h : PO X e t) (w : ∀ σ H Q, t' σ H Q → t σ H Q) : PO X e t' := ⟨fun pins s σ H Q I q => h.run pins s σ H Q I (w σ H Q q)⟩
def noO : Rho → Option (Option Int) := fun _ => some none
def ofO (f : Pk) : Rho → Option (Option Int) := fun ρ => (f ρ).bind fun x => match x.2 with
  | .int i => some (some i)
  | _ => none
theorem io_none : PO X none (tPO k noO) := poW po_none fun σ H Q ⟨ρ, O, C, S, o, ef, q⟩ => by
  cases ef
  exact q H (Ex.refl H)
theorem io_some (h : PE X e (tP k fa)) : PO X (some e) (tPO k (ofO fa)) := poW (po_some h) fun σ H Q ⟨ρ, O, C, S, o, ef, q⟩ => by
  obtain ⟨⟨n, d⟩, ed, ef⟩ := Option.bind_eq_some_iff.mp ef
  cases d with
  | int i =>
    have ef : some (some i) = some o := ef
    cases ef
    exact ⟨ρ, O, C, S, n, .int i, ed, fun v H' e r => ⟨i, r.int_inv, q H' e⟩⟩
  | _ => cases ef
def cutD (xs : List D) (lo hi : Option Int) : List D := (xs.drop (HT.sIx xs.length 0 lo)).take (HT.sIx xs.length xs.length hi - HT.sIx xs.length 0 lo)
theorem Rs.cut {L M : List Addr} {H : Hp} {n : Nat} {vs : List V} {ds : List D} (h : Rs k L M H n vs ds) (lo hi : Option Int) : Rs k L M H n (cutV vs lo hi) (cutD ds lo hi) := by
  unfold cutV cutD
  rw [h.len]
  exact (h.drop _).take _
/-- xs[lo:hi] of a list: a new list -/
def cutN (fa : Pk) (fl fh : Rho → Option (Option Int)) : Rho → Option (List D) := fun ρ => (fa ρ).bind fun x => (fl ρ).bind fun lo => (fh ρ).bind fun hi => match x with
  | (n, .lst xs) => if n ≤ 1 then some (cutD xs lo hi) else none
  | _ => none
variable {lo hi : Option Expr} {fl fh : Rho → Option (Option Int)} {p2 : Pos}
theorem in_cut (ha : PE X a (tP k fa)) (hl : PO X lo (tPO k fl)) (hh : PO X hi (tPO k fh)) : PE X (.Subscript a (.Slice lo hi none p2) pos) (tN k (cutN fa fl fh)) := peW (pe_slice sl_list ha hl hh) fun σ H Q ⟨ρ, O, C, S, ds, ef, q⟩ => by
  obtain ⟨⟨n, d⟩, ea, ef1⟩ := Option.bind_eq_some_iff.mp ef
  obtain ⟨l, el, ef2⟩ := Option.bind_eq_some_iff.mp ef1
  obtain ⟨h, eh, ef3⟩ := Option.bind_eq_some_iff.mp ef2
  clear ef ef1 ef2
  cases d with
  | lst xs =>
    have ef : (if n ≤ 1 then some (cutD xs l h) else none) = some ds := ef3
    split at ef
    · rename_i hn
      cases ef
      refine ⟨ρ, O, C, S, n, .lst xs, ea, fun v H1 e1 r1 => ⟨ρ, O, C, S.ex e1, l, el, fun H2 e2 => ⟨ρ, O, C, S.ex (e1.trans e2), h, eh, fun H3 e3 => ?_⟩⟩⟩
      have e13 := (e1.trans e2).trans e3
      obtain ⟨p, vs, rfl, h1, h2⟩ := (r1.ex (e2.trans e3)).lst_inv
      have z1 : n - 1 = 0 := by omega
      rw [z1] at h2
      exact ⟨p, vs, rfl, .inl h1, fun p hp => q p _ _ (e13.free hp) (e13.trans (Ex.new hp)) upd_same ((h2.cut l h).more hp (Ex.new hp))⟩
    · cases ef
  | _ => cases ef3
/-- a slice of a list or of a tuple -/
def cutP (fa : Pk) (fl fh : Rho → Option (Option Int)) : Pk := fun ρ => (fa ρ).bind fun x => (fl ρ).bind fun lo => (fh ρ).bind fun hi => match x with
  | (n, .lst xs) => if n ≤ 1 then some (0, .lst (cutD xs lo hi)) else none
  | (_, .tup xs) => some (0, .tup (cutD xs lo hi))
  | _ => none
theorem cutD_whole {xs : List D} {lo hi : Option Int} (h : HT.sIx xs.length 0 lo = 0 ∧ HT.sIx xs.length xs.length hi = xs.length) : cutD xs lo hi = xs := by
  unfold cutD
  rw [h.1, h.2]
  simp
theorem ip_cut (ha : PE X a (tP k fa)) (hl : PO X lo (tPO k fl)) (hh : PO X hi (tPO k fh)) (hk : k.K = X.K) : PE X (.Subscript a (.Slice lo hi none p2) pos) (tP k (cutP fa fl fh)) := peW (pe_slice (sl_list.or sl_tupA) ha hl hh) fun σ H Q ⟨ρ, O, C, S, m, dd, ef, q⟩ => by
  obtain ⟨⟨n, d⟩, ea, ef1⟩ := Option.bind_eq_some_iff.mp ef
  obtain ⟨l, el, ef2⟩ := Option.bind_eq_some_iff.mp ef1
  obtain ⟨h, eh, ef3⟩ := Option.bind_eq_some_iff.mp ef2
  clear ef ef1 ef2
  refine ⟨ρ, O, C, S, n, d, ea, fun v H1 e1 r1 => ⟨ρ, O, C, S.ex e1, l, el, fun H2 e2 => ⟨ρ, O, C, S.ex (e1.trans e2), h, eh, fun H3 e3 => ?_⟩⟩⟩
  have e13 := (e1.trans e2).trans e3
  have r3 := r1.ex (e2.trans e3)
  cases d with
  | lst xs =>
    have ef : (if n ≤ 1 then some (0, D.lst (cutD xs l h)) else none) = some (m, dd) := ef3
    split at ef
    · rename_i hn
      cases ef
      obtain ⟨p, vs, rfl, h1, h2⟩ := r3.lst_inv
      have z1 : n - 1 = 0 := by omega
      rw [z1] at h2
      exact .inl ⟨p, vs, rfl, .inl h1, fun p hp => q _ _ (e13.trans (Ex.new hp)) ((h2.cut l h).newL (Dom.ex S.dom e13) hp)⟩
    · cases ef
  | tup xs =>
    have ef : some (0, D.tup (cutD xs l h)) = some (m, dd) := ef3
    cases ef
    obtain ⟨p, vs, rfl, h1, h2⟩ := r3.tup_inv
    refine .inr ⟨p, vs, rfl, hk ▸ h1, fun w => ?_, fun w p hp => q _ _ (e13.trans (Ex.new hp)) ((h2.cut l h).newT (Dom.ex S.dom e13) hp)⟩
    rw [h2.len] at w
    have q := q (.ref p) H3 e13
    rw [cutD_whole w] at q
    refine q ?_
    cases r3 with
    | tup q1 q2 q3 => exact .tup q1 q2 q3
    | tupS q1 q3 => exact .tupS q1 q3
  | _ => cases ef3
/-- xs[::-1] of a list -/
def revN (fa : Pk) : Rho → Option (List D) := fun ρ => (fa ρ).bind fun x => match x with
  | (n, .lst xs) => if n ≤ 1 then some xs.reverse else none
  | _ => none
theorem in_rev {j : Nat} {p1 p3 p4 : Pos} (ha : PE X a (tP k fa)) : PE X (.Subscript a (.Slice none none (some (.UnaryOp .USub (.Constant (.int 1) j p1) p3)) p4) pos) (tN k (revN fa)) := peW (pe_revL ha) fun σ H Q ⟨ρ, O, C, S, ds, ef, q⟩ => by
  obtain ⟨⟨n, d⟩, ea, ef3⟩ := Option.bind_eq_some_iff.mp ef
  clear ef
  cases d with
  | lst xs =>
    have ef : (if n ≤ 1 then some xs.reverse else none) = some ds := ef3
    split at ef
    · rename_i hn
      cases ef
      refine ⟨ρ, O, C, S, n, .lst xs, ea, fun v H1 e1 r1 => ?_⟩
      obtain ⟨p, vs, rfl, h1, h2⟩ := r1.lst_inv
      have z1 : n - 1 = 0 := by omega
      rw [z1] at h2
      exact ⟨p, vs, rfl, .inl h1, fun p hp => q p _ _ (e1.free hp) (e1.trans (Ex.new hp)) upd_same (h2.rev.more hp (Ex.new hp))⟩
    · cases ef
  | _ => cases ef3

/-- what is known of the classes by name -/
def AtOk (k : Wd) (c f : Str) : Prop := Cls k.K (k.cn c) ∧ NoAttr k.K (k.cn c) f
def fldD (cs : List Str) (f : Str) : Nat × D → Option (Nat × D)
  | (_, .obj c ns xs) => if c ∈ cs then ((ns.zip xs).lookup f).map fun d => (0, d) else none
  | _ => none
def fldP (cs : List Str) (f : Str) (fa : Pk) : Pk := fun ρ => (fa ρ).bind (fldD cs f)
theorem lookup_zip {L M : List Addr} {H : Hp} {n : Nat} {f : Str} {d : D} : ∀ {ns : List Str} {vs : List V} {ds : List D}, Rs k L M H n vs ds → (ns.zip ds).lookup f = some d → ∃ v, (ns.zip vs).lookup f = some v ∧ R k L M H n v d
  | [], _, _, _, e => by simp at e
  | _ :: _, [], [], _, e => by simp at e
  | x :: ns, v :: vs, d' :: ds, h, e => by
    cases h with
    | cons h1 h2 =>
      rw [List.zip_cons_cons, List.lookup_cons] at e ⊢
      cases hx : (f == x) with
      | true =>
        rw [hx] at e
        simp only at e
        cases e
        exact ⟨v, rfl, h1⟩
      | false =>
        rw [hx] at e
        simp only at e
        exact lookup_zip h2 e
  | _ :: _, [], _ :: _, h, _ => by cases h
  | _ :: _, _ :: _, [], h, _ => by cases h
theorem ip_fld {cs : List Str} {f : Str} (ha : PE X a (tP k fa)) (hb : attributeBase a f X.env (eval a X.env) = eval a X.env) (hk : k.K = X.K) (hc : ∀ c ∈ cs, AtOk k c f) : PE X (.Attribute a f pos) (tP k (fldP cs f fa)) := peW (pe_fld ha hb) fun σ H Q ⟨ρ, O, C, S, n, d, ef, q⟩ => by
  obtain ⟨⟨m, dx⟩, ea, ef⟩ := Option.bind_eq_some_iff.mp ef
  unfold fldD at ef
  split at ef
  · rename_i m' c ns xs ex
    cases ex
    split at ef
    · rename_i hm
      obtain ⟨d', ed, ef⟩ := Option.map_eq_some_iff.mp ef
      cases ef
      refine ⟨ρ, O, C, S, m, _, ea, fun v H1 e1 r1 => ?_⟩
      obtain ⟨p, vs, dx, rfl, hl, ho, h2⟩ := r1.obj_inv
      obtain ⟨w, ew, rw'⟩ := lookup_zip h2 ed
      obtain ⟨c1, c2⟩ := hc c hm
      exact ⟨p, k.cn c, dx, _, w, rfl, ho, hk ▸ c1, hk ▸ c2, ew, q w H1 e1 rw'⟩
    · cases ef
  · cases ef
/-- C.NAME, a constant of the class -/
theorem ip_con {f : Str} {d : D} {v : V} (h : PE X e (ClX.tCVal X.K (tC v) f)) {mc : Value} {u : V} {uv : Value} {C : Addr} (hv : v = .ref C) (hr : ClX.CRead X.K C mc) (hcv : ClX.CVal X.K C mc f u uv) (r : ∀ L H, R k L [] H 0 u d) : PE X e (tP k (cst d)) := peW h fun σ H Q ⟨ρ, O, C', g, n, d', ef, q⟩ => by
  cases ef
  subst hv
  exact ⟨C, mc, u, uv, rfl, hr, hcv, q u H (Ex.refl H) (r _ _)⟩

/-! #### arguments, displays -/
def aNil : Pa := fun _ => some []
def aCons (f : Pk) (g : Pa) : Pa := fun ρ => (f ρ).bind fun x => (g ρ).map fun as => x :: as
theorem paW {es : List Expr} {t t' : TA} (h : PA X es t) (w : ∀ σ H Q, t' σ H Q → t σ H Q) : PA X es t' := ⟨fun pos pins s σ H Q I q => h.run pos pins s σ H Q I (w σ H Q q)⟩
variable {es : List Expr} {fr : Pa}
theorem ia_nil : PA X [] (tAr k aNil) := paW pa_nil fun σ H Q ⟨ρ, O, C, S, as, ef, q⟩ => by
  cases ef
  exact q [] H (Ex.refl H) .nil
theorem ia_cons (ha : PE X e (tP k fa)) (hr : PA X es (tAr k fr)) (hs : starEach (e :: es) X.env = (false, eval e X.env) :: starEach es X.env := by rfl) : PA X (e :: es) (tAr k (aCons fa fr)) := paW (pa_cons ha hr hs) fun σ H Q ⟨ρ, O, C, S, as, ef, q⟩ => by
  obtain ⟨⟨n, d⟩, ea, ef⟩ := Option.bind_eq_some_iff.mp ef
  obtain ⟨as', er, ef⟩ := Option.map_eq_some_iff.mp ef
  cases ef
  exact ⟨ρ, O, C, S, n, d, ea, fun v H1 e1 r1 => ⟨ρ, O, C, S.ex e1, as', er, fun vs H2 e2 r2 => q _ H2 (e1.trans e2) (.cons (r1.ex e2) r2)⟩⟩
/-- all kept: what a display may hold -/
def kept (f : Pa) : Rho → Option (List D) := fun ρ => (f ρ).bind fun as => if as.all (fun a => a.1 == 0) = true then some (as.map (·.2)) else none
theorem kept_inv {f : Pa} {ρ : Rho} {ds : List D} (h : kept f ρ = some ds) : ∃ as, f ρ = some as ∧ as.all (fun a => a.1 == 0) = true ∧ ds = as.map (·.2) := by
  obtain ⟨as, ea, h⟩ := Option.bind_eq_some_iff.mp h
  by_cases q : as.all (fun a => a.1 == 0) = true
  · have h : (if as.all (fun a => a.1 == 0) = true then some (as.map (·.2)) else none) = some ds := h
    rw [if_pos q] at h
    cases h
    exact ⟨as, ea, q, rfl⟩
  · have h : (if as.all (fun a => a.1 == 0) = true then some (as.map (·.2)) else none) = some ds := h
    rw [if_neg q] at h
    cases h
def small (f : Rho → Option (List D)) : Rho → Option (List D) := fun ρ => (f ρ).bind fun ds => if ds.length ≤ 1000 then some ds else none
def tupP (f : Pa) : Pk := fun ρ => (small (kept f) ρ).map fun ds => (0, .tup ds)
theorem small_inv {f : Rho → Option (List D)} {ρ : Rho} {ds : List D} (h : small f ρ = some ds) : f ρ = some ds ∧ ds.length ≤ 1000 := by
  obtain ⟨ds', e, h⟩ := Option.bind_eq_some_iff.mp h
  by_cases q : ds'.length ≤ 1000
  · have h : (if ds'.length ≤ 1000 then some ds' else none) = some ds := h
    rw [if_pos q] at h
    cases h
    exact ⟨e, q⟩
  · have h : (if ds'.length ≤ 1000 then some ds' else none) = some ds := h
    rw [if_neg q] at h
    cases h
theorem ip_tup {j : Nat} (h : PA X es (tAr k fr)) : PE X (.Tuple es j pos) (tP k (tupP fr)) := peW (pe_tup h) fun σ H Q ⟨ρ, O, C, S, n, d, ef, q⟩ => by
  obtain ⟨ds, ed, ef⟩ := Option.map_eq_some_iff.mp ef
  cases ef
  obtain ⟨ed, hz⟩ := small_inv ed
  obtain ⟨as, ea, h0, rfl⟩ := kept_inv ed
  refine ⟨ρ, O, C, S, as, ea, fun vs H1 e1 ra => ?_⟩
  have r0 := ra.all0 h0
  have hl := r0.len
  exact ⟨line1e5 (by omega), fun p hp => q _ _ (e1.trans (Ex.new hp)) (r0.newT (Dom.ex S.dom e1) hp)⟩
theorem in_lst (h : PA X es (tAr k fr)) : PE X (.List es pos) (tN k (small (kept fr))) := peW (pe_lst h) fun σ H Q ⟨ρ, O, C, S, ds, ef, q⟩ => by
  obtain ⟨ed, hz⟩ := small_inv ef
  obtain ⟨as, ea, h0, rfl⟩ := kept_inv ed
  refine ⟨ρ, O, C, S, as, ea, fun vs H1 e1 ra => ?_⟩
  have r0 := ra.all0 h0
  have hl := r0.len
  exact ⟨line1e5 (by omega), fun p hp => q _ _ _ (e1.free hp) (e1.trans (Ex.new hp)) upd_same (r0.more hp (Ex.new hp))⟩

/-! #### built-ins -/
def callP (g : Ar → Option D) (f : Pa) : Pk := fun ρ => (f ρ).bind fun as => (g as).map fun d => (0, d)
/-- a built-in's answer by data -/
def ClS (k : Wd) (r : List V → Hp → VK → Prop) (g : Ar → Option D) : Prop := ∀ (L : List Addr) (H : Hp) (vs : List V) (as : Ar) (d : D) (Q : VK), Dom L H → RA k L H vs as → g as = some d → (∀ v H', Ex H H' → R k L [] H' 0 v d → Q v H') → r vs H Q
theorem clS_run {r : List V → Hp → VK → Prop} {g : Ar → Option D} (hs : ClS k r g) {σ : L2.St} {H : Hp} {Q : VK} (h : tP k (callP g fr) σ H Q) : tCB r (tAr k fr) σ H Q := by
  obtain ⟨ρ, O, C, S, n, d, ef, q⟩ := h
  obtain ⟨as, ea, ef⟩ := Option.bind_eq_some_iff.mp ef
  obtain ⟨d', eg, ef⟩ := Option.map_eq_some_iff.mp ef
  cases ef
  exact ⟨ρ, O, C, S, as, ea, fun vs H1 e1 ra => hs (O ++ C) H1 vs as d Q (Dom.ex S.dom e1) ra eg fun v H2 e2 r2 => q v H2 (e1.trans e2) r2⟩
variable {x : Str} {id : String} {p : Pos}
theorem ip_blt {r : List V → Hp → VK → Prop} {g : Ar → Option D} (hc : CallR X (.builtin id) r) (hs : ClS k r g) (hg : Gl X x) (hm : X.mg x = none) (hv : bootBuiltins x = some (.builtin id)) (ha : PA X (e :: es) (tAr k fr)) (hn : x ≠ "__name__" := by decide) (hdb : (x == ("__debug__" : Str)) = false := by decide)
    (he : starEach (e :: es) X.env = (false, eval e X.env) :: starEach es X.env := by rfl) (hpl : (backTo pos (starEach es X.env)).any (·.1) = false := by rfl) : PE X (.Call (.Name x p) (e :: es) [] pos) (tP k (callP g fr)) :=
  peW (pe_callB hc hg hm hv ha hn hdb he hpl) fun σ H Q h => clS_run hs h
theorem ip_ty {T : String} {r : List V → Hp → VK → Prop} {g : Ar → Option D} (hc : CallR X (.type T) r) (hs : ClS k r g) (hg : Gl X x) (hm : X.mg x = none) (hv : bootBuiltins x = some (.type T)) (ha : PA X (e :: es) (tAr k fr)) (hn : x ≠ "__name__" := by decide) (hdb : (x == ("__debug__" : Str)) = false := by decide)
    (he : starEach (e :: es) X.env = (false, eval e X.env) :: starEach es X.env := by rfl) (hpl : (backTo pos (starEach es X.env)).any (·.1) = false := by rfl) : PE X (.Call (.Name x p) (e :: es) [] pos) (tP k (callP g fr)) :=
  peW (pe_callTy hc hg hm hv ha hn hdb he hpl) fun σ H Q h => clS_run hs h
/-! one argument, two -/
def c1 (g : D → Option D) : Ar → Option D
  | [(_, d)] => g d
  | _ => none
def c2 (g : D → D → Option D) : Ar → Option D
  | [(_, d), (_, d')] => g d d'
  | _ => none
theorem c1_inv {g : D → Option D} {as : Ar} {d : D} {L : List Addr} {H : Hp} {vs : List V} (h : c1 g as = some d) (r : RA k L H vs as) : ∃ n x v, as = [(n, x)] ∧ g x = some d ∧ vs = [v] ∧ R k L [] H n v x := by
  unfold c1 at h
  split at h
  · cases r with
    | cons r1 r2 =>
      cases r2
      exact ⟨_, _, _, rfl, h, rfl, r1⟩
  · cases h
theorem c2_inv {g : D → D → Option D} {as : Ar} {d : D} {L : List Addr} {H : Hp} {vs : List V} (h : c2 g as = some d) (r : RA k L H vs as) : ∃ n x m y v w, as = [(n, x), (m, y)] ∧ g x y = some d ∧ vs = [v, w] ∧ R k L [] H n v x ∧ R k L [] H m w y := by
  unfold c2 at h
  split at h
  · cases r with
    | cons r1 r2 =>
      cases r2 with
      | cons r2 r3 =>
        cases r3
        exact ⟨_, _, _, _, _, _, rfl, h, rfl, r1, r2⟩
  · cases h
def lenD : D → Option D
  | .lst xs => some (.int xs.length)
  | .tup xs => some (.int xs.length)
  | .scr xs => some (.int xs.length)
  | .str s => if s.length ≤ 100000 then some (.int s.length) else none
  | _ => none
theorem clS_len : ClS k (fun xs H Q => ∃ x n, xs = [x] ∧ LenV k.K x H n ∧ Q (.int n) H) (c1 lenD) := by
  intro L H vs as d Q hd ra eg q
  obtain ⟨n, x, v, rfl, eg, rfl, r⟩ := c1_inv eg ra
  unfold lenD at eg
  split at eg
  · cases eg
    obtain ⟨a, ws, rfl, h1, h2⟩ := r.lst_inv
    exact ⟨_, ws.length, rfl, .inl ⟨ws, .inl h1, rfl⟩, by rw [h2.len]; exact q _ H (Ex.refl H) (.int _)⟩
  · cases eg
    obtain ⟨a, ws, rfl, h1, h2⟩ := r.tup_inv
    exact ⟨_, ws.length, rfl, .inr ⟨ws, h1, rfl⟩, by rw [h2.len]; exact q _ H (Ex.refl H) (.int _)⟩
  · rename_i xs _
    cases eg
    obtain ⟨a, rfl, h1⟩ := r.scr_inv
    exact ⟨_, _, rfl, .inl ⟨xs.map V.int, h1, rfl⟩, by rw [List.length_map]; exact q _ H (Ex.refl H) (.int _)⟩
  · split at eg
    · rename_i hz
      cases eg
      obtain rfl := r.str_inv
      exact ⟨_, _, rfl, ⟨line1e5 hz, rfl⟩, q _ H (Ex.refl H) (.int _)⟩
    · cases eg
  · cases eg
def absD : D → Option D
  | .int i => some (.int (if i < 0 then -i else i))
  | _ => none
theorem clS_abs : ClS k (fun xs H Q => ∃ i, xs = [.int i] ∧ Q (.int (if i < 0 then -i else i)) H) (c1 absD) := by
  intro L H vs as d Q hd ra eg q
  obtain ⟨n, x, v, rfl, eg, rfl, r⟩ := c1_inv eg ra
  unfold absD at eg
  split at eg
  · cases eg
    obtain rfl := r.int_inv
    exact ⟨_, rfl, q _ H (Ex.refl H) (.int _)⟩
  · cases eg
def intD : D → Option D
  | .int i => some (.int i)
  | .bl b => some (.int (if b = true then 1 else 0))
  | _ => none
theorem clS_int : ClS k (fun xs H Q => (∃ i, xs = [.int i] ∧ Q (.int i) H) ∨ ∃ k, xs = [.bl k] ∧ Q (.int (if k then 1 else 0)) H) (c1 intD) := by
  intro L H vs as d Q hd ra eg q
  obtain ⟨n, x, v, rfl, eg, rfl, r⟩ := c1_inv eg ra
  unfold intD at eg
  split at eg
  · cases eg
    obtain rfl := r.int_inv
    exact .inl ⟨_, rfl, q _ H (Ex.refl H) (.int _)⟩
  · cases eg
    obtain rfl := r.bl_inv
    exact .inr ⟨_, rfl, q _ H (Ex.refl H) (.int _)⟩
  · cases eg
def maxD : D → D → Option D
  | .int i, .int j => some (.int (if j > i then j else i))
  | _, _ => none
def minD : D → D → Option D
  | .int i, .int j => some (.int (if j < i then j else i))
  | _, _ => none
theorem clS_max : ClS k (fun xs H Q => ∃ i j, xs = [.int i, .int j] ∧ Q (.int (if j > i then j else i)) H) (c2 maxD) := by
  intro L H vs as d Q hd ra eg q
  obtain ⟨n, x, m, y, v, w, rfl, eg, rfl, r, r'⟩ := c2_inv eg ra
  unfold maxD at eg
  split at eg
  · cases eg
    obtain rfl := r.int_inv
    obtain rfl := r'.int_inv
    exact ⟨_, _, rfl, q _ H (Ex.refl H) (.int _)⟩
  · cases eg
theorem clS_min : ClS k (fun xs H Q => ∃ i j, xs = [.int i, .int j] ∧ Q (.int (if j < i then j else i)) H) (c2 minD) := by
  intro L H vs as d Q hd ra eg q
  obtain ⟨n, x, m, y, v, w, rfl, eg, rfl, r, r'⟩ := c2_inv eg ra
  unfold minD at eg
  split at eg
  · cases eg
    obtain rfl := r.int_inv
    obtain rfl := r'.int_inv
    exact ⟨_, _, rfl, q _ H (Ex.refl H) (.int _)⟩
  · cases eg
/-- tuple(x) of a list or a tuple -/
def tupD : Ar → Option D
  | [(n, .lst xs)] => if n ≤ 1 then some (.tup xs) else none
  | [(_, .tup xs)] => some (.tup xs)
  | _ => none
theorem clS_tup : ClS k (fun xs H Q => ∃ p ys, xs = [.ref p] ∧ ((SqL k.K H p ys ∧ ∀ l, H l = none → Q (.ref l) (upd H l (.tup ys))) ∨ (SqT k.K H p ys ∧ Q (.ref p) H))) tupD := by
  intro L H vs as d Q hd ra eg q
  unfold tupD at eg
  split at eg
  · split at eg
    · rename_i n xs hn
      cases eg
      cases ra with
      | cons r1 r2 =>
        cases r2
        obtain ⟨a, ws, rfl, h1, h2⟩ := r1.lst_inv
        have z1 : n - 1 = 0 := by omega
        rw [z1] at h2
        exact ⟨a, ws, rfl, .inl ⟨.inl h1, fun p hp => q _ _ (Ex.new hp) (h2.newT hd hp)⟩⟩
    · cases eg
  · cases eg
    cases ra with
    | cons r1 r2 =>
      cases r2
      obtain ⟨a, ws, rfl, h1, h2⟩ := r1.tup_inv
      refine ⟨a, ws, rfl, .inr ⟨h1, q _ H (Ex.refl H) ?_⟩⟩
      cases r1 with
      | tup q1 q2 q3 => exact .tup q1 q2 q3
      | tupS q1 q3 => exact .tupS q1 q3
  · cases eg
/-- a built-in that makes a new list -/
def callN (g : Ar → Option (List D)) (f : Pa) : Rho → Option (List D) := fun ρ => (f ρ).bind g
def ClN (k : Wd) (r : List V → Hp → VK → Prop) (g : Ar → Option (List D)) : Prop := ∀ (L : List Addr) (H : Hp) (vs : List V) (as : Ar) (ds : List D) (Q : VK), Dom L H → RA k L H vs as → g as = some ds →
  (∀ p ws H', H p = none → Ex H H' → H' p = some (.lst ws) → Rs k (p :: L) [] H' 0 ws ds → Q (.ref p) H') → r vs H Q
theorem clN_run {r : List V → Hp → VK → Prop} {g : Ar → Option (List D)} (hs : ClN k r g) {σ : L2.St} {H : Hp} {Q : VK} (h : tN k (callN g fr) σ H Q) : tCB r (tAr k fr) σ H Q := by
  obtain ⟨ρ, O, C, S, ds, ef, q⟩ := h
  obtain ⟨as, ea, ef⟩ := Option.bind_eq_some_iff.mp ef
  exact ⟨ρ, O, C, S, as, ea, fun vs H1 e1 ra => hs (O ++ C) H1 vs as ds Q (Dom.ex S.dom e1) ra ef fun p ws H2 hp e2 h2 r2 => q p ws H2 (e1.free hp) (e1.trans e2) h2 r2⟩
theorem in_blt {r : List V → Hp → VK → Prop} {g : Ar → Option (List D)} (hc : CallR X (.builtin id) r) (hs : ClN k r g) (hg : Gl X x) (hm : X.mg x = none) (hv : bootBuiltins x = some (.builtin id)) (ha : PA X (e :: es) (tAr k fr)) (hn : x ≠ "__name__" := by decide) (hdb : (x == ("__debug__" : Str)) = false := by decide)
    (he : starEach (e :: es) X.env = (false, eval e X.env) :: starEach es X.env := by rfl) (hpl : (backTo pos (starEach es X.env)).any (·.1) = false := by rfl) : PE X (.Call (.Name x p) (e :: es) [] pos) (tN k (callN g fr)) :=
  peW (pe_callB hc hg hm hv ha hn hdb he hpl) fun σ H Q h => clN_run hs h
theorem in_ty {T : String} {r : List V → Hp → VK → Prop} {g : Ar → Option (List D)} (hc : CallR X (.type T) r) (hs : ClN k r g) (hg : Gl X x) (hm : X.mg x = none) (hv : bootBuiltins x = some (.type T)) (ha : PA X (e :: es) (tAr k fr)) (hn : x ≠ "__name__" := by decide) (hdb : (x == ("__debug__" : Str)) = false := by decide)
    (he : starEach (e :: es) X.env = (false, eval e X.env) :: starEach es X.env := by rfl) (hpl : (backTo pos (starEach es X.env)).any (·.1) = false := by rfl) : PE X (.Call (.Name x p) (e :: es) [] pos) (tN k (callN g fr)) :=
  peW (pe_callTy hc hg hm hv ha hn hdb he hpl) fun σ H Q h => clN_run hs h
/-- list(x) of a list or a tuple -/
def lstD : Ar → Option (List D)
  | [(n, .lst xs)] => if n ≤ 1 then some xs else none
  | [(_, .tup xs)] => some xs
  | _ => none
theorem clN_lst : ClN k (fun xs H Q => ∃ p ys, xs = [.ref p] ∧ (SqL k.K H p ys ∨ SqT k.K H p ys) ∧ ∀ l, H l = none → Q (.ref l) (upd H l (.lst ys))) lstD := by
  intro L H vs as ds Q hd ra eg q
  unfold lstD at eg
  split at eg
  · split at eg
    · rename_i n xs hn
      cases eg
      cases ra with
      | cons r1 r2 =>
        cases r2
        obtain ⟨a, ws, rfl, h1, h2⟩ := r1.lst_inv
        have z1 : n - 1 = 0 := by omega
        rw [z1] at h2
        exact ⟨a, ws, rfl, .inl (.inl h1), fun p hp => q p _ _ hp (Ex.new hp) upd_same (h2.more hp (Ex.new hp))⟩
    · cases eg
  · cases eg
    cases ra with
    | cons r1 r2 =>
      cases r2
      obtain ⟨a, ws, rfl, h1, h2⟩ := r1.tup_inv
      exact ⟨a, ws, rfl, .inr h1, fun p hp => q p _ _ hp (Ex.new hp) upd_same (h2.more hp (Ex.new hp))⟩
  · cases eg
/-- any, all of a list of bools -/
def blsD : List D → Option (List Bool)
  | [] => some []
  | .bl b :: ds => (blsD ds).map fun bs => b :: bs
  | _ :: _ => none
theorem bls_inv {L M : List Addr} {H : Hp} {n : Nat} : ∀ {vs : List V} {ds : List D} {bs : List Bool}, Rs k L M H n vs ds → blsD ds = some bs → vs = bs.map V.bl
  | [], [], bs, _, e => by
    cases e
    rfl
  | v :: vs, d :: ds, bs, h, e => by
    cases h with
    | cons h1 h2 =>
      cases d with
      | bl b =>
        obtain ⟨bs', e', rfl⟩ := Option.map_eq_some_iff.mp (show (blsD ds).map (fun bs => b :: bs) = some bs from e)
        rw [h1.bl_inv, bls_inv h2 e', List.map_cons]
      | _ => cases e
  | [], _ :: _, _, h, _ => by cases h
  | _ :: _, [], _, h, _ => by cases h
def anyD : D → Option D
  | .lst xs => (blsD xs).map fun bs => .bl (bs.any _root_.id)
  | _ => none
def allD : D → Option D
  | .lst xs => (blsD xs).map fun bs => .bl (bs.all _root_.id)
  | _ => none
theorem clS_any : ClS k (rAny k.K) (c1 anyD) := by
  intro L H vs as d Q hd ra eg q
  obtain ⟨n, x, v, rfl, eg, rfl, r⟩ := c1_inv eg ra
  unfold anyD at eg
  split at eg
  · obtain ⟨bs, eb, rfl⟩ := Option.map_eq_some_iff.mp eg
    obtain ⟨a, ws, rfl, h1, h2⟩ := r.lst_inv
    rw [bls_inv h2 eb] at h1
    exact ⟨a, bs, rfl, .inl h1, q _ H (Ex.refl H) (.bl _)⟩
  · cases eg
theorem clS_all : ClS k (rAll k.K) (c1 allD) := by
  intro L H vs as d Q hd ra eg q
  obtain ⟨n, x, v, rfl, eg, rfl, r⟩ := c1_inv eg ra
  unfold allD at eg
  split at eg
  · obtain ⟨bs, eb, rfl⟩ := Option.map_eq_some_iff.mp eg
    obtain ⟨a, ws, rfl, h1, h2⟩ := r.lst_inv
    rw [bls_inv h2 eb] at h1
    exact ⟨a, bs, rfl, .inl h1, q _ H (Ex.refl H) (.bl _)⟩
  · cases eg
/-- sum of a list of ints -/
def intsD : List D → Option (List Int)
  | [] => some []
  | .int b :: ds => (intsD ds).map fun bs => b :: bs
  | _ :: _ => none
theorem ints_inv {L M : List Addr} {H : Hp} {n : Nat} : ∀ {vs : List V} {ds : List D} {bs : List Int}, Rs k L M H n vs ds → intsD ds = some bs → vs = bs.map V.int
  | [], [], bs, _, e => by
    cases e
    rfl
  | v :: vs, d :: ds, bs, h, e => by
    cases h with
    | cons h1 h2 =>
      cases d with
      | int b =>
        obtain ⟨bs', e', rfl⟩ := Option.map_eq_some_iff.mp (show (intsD ds).map (fun bs => b :: bs) = some bs from e)
        rw [h1.int_inv, ints_inv h2 e', List.map_cons]
      | _ => cases e
  | [], _ :: _, _, h, _ => by cases h
  | _ :: _, [], _, h, _ => by cases h
def sumD : D → Option D
  | .lst xs => (intsD xs).map fun bs => .int bs.sum
  | _ => none
theorem clS_sum : ClS k (rSum k.K) (c1 sumD) := by
  intro L H vs as d Q hd ra eg q
  obtain ⟨n, x, v, rfl, eg, rfl, r⟩ := c1_inv eg ra
  unfold sumD at eg
  split at eg
  · obtain ⟨bs, eb, rfl⟩ := Option.map_eq_some_iff.mp eg
    obtain ⟨a, ws, rfl, h1, h2⟩ := r.lst_inv
    rw [ints_inv h2 eb] at h1
    exact ⟨a, bs, rfl, .inl h1, q _ H (Ex.refl H) (.int _)⟩
  · cases eg
/-- range(a), range(a, b) as an argument -/
def tRgP (k : Wd) (f : Rho → Option (Int × Int)) : L2.St → Hp → (Int → Int → Hp → Prop) → Prop := fun σ H Q => ∃ ρ O C, Sg k C σ ρ O H ∧ ∃ r, f ρ = some r ∧ ∀ H', Ex H H' → Q r.1 r.2 H'
theorem rgW {t t' : L2.St → Hp → (Int → Int → Hp → Prop) → Prop} (h : PRg X e t) (w : ∀ σ H Q, t' σ H Q → t σ H Q) : PRg X e t' := fun pins s σ H Q I q => h pins s σ H Q I (w σ H Q q)
def asI (f : Pk) : Rho → Option Int := fun ρ => (f ρ).bind fun x => match x.2 with
  | .int b => some b
  | _ => none
theorem asI_inv {f : Pk} {ρ : Rho} {b : Int} (h : asI f ρ = some b) : ∃ n, f ρ = some (n, .int b) := by
  obtain ⟨⟨n, d⟩, ed, h⟩ := Option.bind_eq_some_iff.mp h
  cases d with
  | int c =>
    have h : some c = some b := h
    cases h
    exact ⟨n, ed⟩
  | _ => cases h
def rg1 (f : Pk) : Rho → Option (Int × Int) := fun ρ => (asI f ρ).map fun n => (0, n)
def rg2 (f g : Pk) : Rho → Option (Int × Int) := fun ρ => (asI f ρ).bind fun n => (asI g ρ).map fun m => (n, m)
theorem ir_1 (hg : Gl X "range") (hm : X.mg "range" = none) (ha : PE X a (tP k fa)) (na : starEach [a] X.env = (false, eval a X.env) :: starEach [] X.env := by rfl) : PRg X (.Call (.Name "range" p) [a] [] pos) (tRgP k (rg1 fa)) :=
  rgW (prg_1 hg hm ha na) fun σ H Q ⟨ρ, O, C, S, r, ef, q⟩ => by
    obtain ⟨n, en, rfl⟩ := Option.map_eq_some_iff.mp ef
    obtain ⟨m, en⟩ := asI_inv en
    exact ⟨ρ, O, C, S, m, _, en, fun v H' e r => ⟨n, r.int_inv, q H' e⟩⟩
theorem ir_2 (hg : Gl X "range") (hm : X.mg "range" = none) (ha : PE X a (tP k fa)) (hb : PE X b (tP k fb)) (na : starEach [a, b] X.env = (false, eval a X.env) :: starEach [b] X.env := by rfl)
    (nb : starEach [b] X.env = (false, eval b X.env) :: starEach [] X.env := by rfl) (hp : (backTo pos (starEach [b] X.env)).any (·.1) = false := by rfl) : PRg X (.Call (.Name "range" p) [a, b] [] pos) (tRgP k (rg2 fa fb)) :=
  rgW (prg_2 hg hm ha hb na nb hp) fun σ H Q ⟨ρ, O, C, S, r, ef, q⟩ => by
    obtain ⟨n, en, ef⟩ := Option.bind_eq_some_iff.mp ef
    obtain ⟨m, em, rfl⟩ := Option.map_eq_some_iff.mp ef
    obtain ⟨n', en⟩ := asI_inv en
    obtain ⟨m', em⟩ := asI_inv em
    exact ⟨ρ, O, C, S, n', _, en, fun v H' e r => ⟨ρ, O, C, S.ex e, m', _, em, fun w H2 e2 r2 => ⟨n, m, r.int_inv, r2.int_inv, q H2 (e.trans e2)⟩⟩⟩
def rgD (r : Int × Int) : List D := (List.range (r.2 - r.1).toNat).map fun i => D.int (r.1 + (i : Nat))
theorem Rs.rg {L M : List Addr} {H : Hp} {n : Nat} (r : Int × Int) : Rs k L M H n (rgV r.1 r.2) (rgD r) := by
  unfold rgV rgD
  generalize (List.range (r.2 - r.1).toNat) = l
  induction l with
  | nil => exact .nil
  | cons x l ih => exact .cons (.int _) ih
def rgOk (r : Int × Int) : Bool := decide (-100000 ≤ r.1) && decide (r.1 ≤ 100000) && decide (-100000 ≤ r.2) && decide (r.2 ≤ 100000)
theorem rgOk_inv {r : Int × Int} (h : rgOk r = true) : -100000 ≤ r.1 ∧ r.1 ≤ 100000 ∧ -100000 ≤ r.2 ∧ r.2 ≤ 100000 := by
  unfold rgOk at h
  simp only [Bool.and_eq_true, decide_eq_true_eq] at h
  omega
def rgN (f : Rho → Option (Int × Int)) : Rho → Option (List D) := fun ρ => (f ρ).bind fun r => if rgOk r = true then some (rgD r) else none
theorem rgN_inv {f : Rho → Option (Int × Int)} {ρ : Rho} {ds : List D} (h : rgN f ρ = some ds) : ∃ r, f ρ = some r ∧ rgOk r = true ∧ ds = rgD r := by
  obtain ⟨r, er, h⟩ := Option.bind_eq_some_iff.mp h
  by_cases z : rgOk r = true
  · have h : (if rgOk r = true then some (rgD r) else none) = some ds := h
    rw [if_pos z] at h
    cases h
    exact ⟨r, er, z, rfl⟩
  · have h : (if rgOk r = true then some (rgD r) else none) = some ds := h
    rw [if_neg z] at h
    cases h
theorem in_range {fr : Rho → Option (Int × Int)} (hc : X.calm = true) (hg : Gl X "list") (hm : X.mg "list" = none) (he : PRg X e (tRgP k fr)) (na : starEach [e] X.env = (false, eval e X.env) :: starEach [] X.env := by rfl) : PE X (.Call (.Name "list" p) [e] [] pos) (tN k (rgN fr)) :=
  peW (pe_listRg hc hg hm he na) fun σ H Q ⟨ρ, O, C, S, ds, ef, q⟩ => by
    obtain ⟨r, er, hz, rfl⟩ := rgN_inv ef
    obtain ⟨z1, z2, z3, z4⟩ := rgOk_inv hz
    refine ⟨ρ, O, C, S, r, er, fun H' e => ⟨⟨by omega, by omega, by omega, by omega, by omega⟩, fun p hp => ?_⟩⟩
    exact q p _ _ (e.free hp) (e.trans (Ex.new hp)) upd_same (Rs.rg r)
end
end Iv

set_option Elab.async false
set_option linter.all false
set_option maxRecDepth 100000
set_option maxHeartbeats 4000000
namespace Iv
open PySem PySem.Spec PyProof.Rows L2

/-! ### what is walked -/
/-- J yields the items ds, one a turn, as long as Src stands -/
structure Wk (k : Wd) (J : It) (Src : List Addr → Hp → Prop) (ds : List D) : Prop where
  go : ∀ i L H, Src L H → i < ds.length → J.go i H
  stop : ∀ i L H, Src L H → ds.length ≤ i → J.stop i H
  yld : ∀ i L H x H' d, Src L H → Dom L H → ds[i]? = some d → J.yld i H x H' → Ex H H' ∧ R k L [] H' 0 x d
  keep : ∀ L H L' H', Src L H → (∀ a o, H a = some o → a ∉ L → H' a = some o) → (∀ a, a ∈ L' → a ∈ L ∨ H a = none) → Src L' H'
def tI (k : Wd) (f : Rho → Option (List D)) : TI := fun σ H P => ∃ ρ O C, Sg k C σ ρ O H ∧ ∃ ds, f ρ = some ds ∧ ∀ J Src H', Ex H H' → Wk k J Src ds → Src (O ++ C) H' → P J H'
theorem piW {X : Cx} {tg e : Expr} {t t' : TI} (h : PI X tg e t) (w : ∀ σ H Q, t' σ H Q → t σ H Q) : PI X tg e t' := ⟨fun pins s σ H Q I q => h.run pins s σ H Q I (w σ H Q q)⟩
theorem pi_or {X : Cx} {tg e : Expr} {t t' : TI} (h : PI X tg e t) (h' : PI X tg e t') : PI X tg e (fun σ H Q => t σ H Q ∨ t' σ H Q) := ⟨fun pins s σ H Q I q => by
  rcases q with q | q
  · exact h.run pins s σ H Q I q
  · exact h'.run pins s σ H Q I q⟩

section
variable {k : Wd} {L : List Addr} {H : Hp}
theorem Kp.src {L L' : List Addr} {H H' : Hp} (h1 : ∀ a o, H a = some o → a ∉ L → H' a = some o) (h2 : ∀ a, a ∈ L' → a ∈ L ∨ H a = none) : Kp L L L' L H H' := ⟨h1, fun _ z => z, h2, fun _ z => .inl z⟩
theorem out_src {L L' : List Addr} {H : Hp} {a : Addr} (h : a ∉ L) (hs : ∃ o, H a = some o) (h2 : ∀ a, a ∈ L' → a ∈ L ∨ H a = none) : a ∉ L' := fun z => by
  rcases h2 a z with z | z
  · exact h z
  · obtain ⟨o, e⟩ := hs
    rw [e] at z; cases z
def SrcL (k : Wd) (a : Addr) (vs : List V) (ds : List D) (L : List Addr) (H : Hp) : Prop := Rd H a (.lst vs) ∧ a ∉ L ∧ Rs k L L H 0 vs ds
theorem wk_list {a : Addr} {vs : List V} {ds : List D} : Wk k (Itl k.K a) (SrcL k a vs ds) ds where
  go := fun i L H h hi => by
    obtain ⟨h1, _, h3⟩ := h
    obtain ⟨d, hd⟩ : ∃ d, ds[i]? = some d := ⟨_, List.getElem?_eq_getElem hi⟩
    obtain ⟨v, hv, _⟩ := h3.get hd
    exact ⟨vs, v, .inl h1, hv⟩
  stop := fun i L H h hi => ⟨vs, .inl h.1, by rw [h.2.2.len]; exact hi⟩
  yld := fun i L H x H' d h hd ed y => by
    obtain ⟨h1, h2, h3⟩ := h
    obtain ⟨v, hv, r⟩ := h3.get ed
    obtain ⟨rfl, y⟩ := y
    have e := y vs (.inl h1)
    rw [hv] at e
    cases e
    exact ⟨Ex.refl _, R.lm _ r⟩
  keep := fun L H L' H' h q1 q2 => by
    obtain ⟨h1, h2, h3⟩ := h
    exact ⟨Rd.keep h1 fun o e => q1 a o e h2, out_src h2 (Rd.some h1) q2, Rs.lm ds (Rs.mono (Kp.src q1 q2) ds h3)⟩
def SrcT (k : Wd) (a : Addr) (vs : List V) (ds : List D) (L : List Addr) (H : Hp) : Prop := ((Rd H a (.tup vs) ∧ a ∉ L) ∨ TS' k.K a vs) ∧ Rs k L L H 0 vs ds
theorem SrcT.sq {a : Addr} {vs : List V} {ds : List D} (h : SrcT k a vs ds L H) : SqT k.K H a vs := by
  rcases h.1 with h | h
  · exact .inl h.1
  · exact .inr h
theorem wk_tup {a : Addr} {vs : List V} {ds : List D} : Wk k (Itt k.K a) (SrcT k a vs ds) ds where
  go := fun i L H h hi => by
    obtain ⟨d, hd⟩ : ∃ d, ds[i]? = some d := ⟨_, List.getElem?_eq_getElem hi⟩
    obtain ⟨v, hv, _⟩ := h.2.get hd
    exact ⟨vs, v, h.sq, hv⟩
  stop := fun i L H h hi => ⟨vs, h.sq, by rw [h.2.len]; exact hi⟩
  yld := fun i L H x H' d h hd ed y => by
    obtain ⟨v, hv, r⟩ := h.2.get ed
    obtain ⟨rfl, y⟩ := y
    have e := y vs h.sq
    rw [hv] at e
    cases e
    exact ⟨Ex.refl _, R.lm _ r⟩
  keep := fun L H L' H' h q1 q2 => by
    refine ⟨?_, Rs.lm ds (Rs.mono (Kp.src q1 q2) ds h.2)⟩
    rcases h.1 with ⟨h1, h2⟩ | h1
    · exact .inl ⟨Rd.keep h1 fun o e => q1 a o e h2, out_src h2 (Rd.some h1) q2⟩
    · exact .inr h1
theorem wk_rng {r : Int × Int} : Wk k (Itr r.1 (r.2 - r.1).toNat) (fun _ _ => True) (rgD r) where
  go := fun i L H _ hi => by
    unfold rgD at hi
    rw [List.length_map, List.length_range] at hi
    exact hi
  stop := fun i L H _ hi => by
    unfold rgD at hi
    rw [List.length_map, List.length_range] at hi
    exact hi
  yld := fun i L H x H' d _ hd ed y => by
    unfold rgD at ed
    rw [List.getElem?_map] at ed
    obtain ⟨j, ej, rfl⟩ := Option.map_eq_some_iff.mp ed
    obtain ⟨hj, ej⟩ := List.getElem?_eq_some_iff.mp ej
    rw [List.getElem_range] at ej
    subst ej
    obtain ⟨rfl, rfl⟩ := y
    exact ⟨Ex.refl _, .int _⟩
  keep := fun _ _ _ _ _ _ _ => True.intro
/-- the signs of a text -/
def signsD (s : Str) : List D := s.cps.toList.map fun c => .str ⟨#[c]⟩
theorem wk_str {s : Str} : Wk k (Its s) (fun _ _ => True) (signsD s) where
  go := fun i L H _ hi => by
    unfold signsD at hi
    rw [List.length_map, Array.length_toList] at hi
    exact hi
  stop := fun i L H _ hi => by
    unfold signsD at hi
    rw [List.length_map, Array.length_toList] at hi
    exact hi
  yld := fun i L H x H' d _ hd ed y => by
    unfold signsD at ed
    rw [List.getElem?_map] at ed
    obtain ⟨c, ec, rfl⟩ := Option.map_eq_some_iff.mp ed
    obtain ⟨rfl, c', ec', rfl⟩ := y
    rw [← Array.getElem?_toList, ec] at ec'
    cases ec'
    exact ⟨Ex.refl _, .str _⟩
  keep := fun _ _ _ _ _ _ _ => True.intro
/-- enumerate(list) -/
def enumD (n : Nat) : List D → List D
  | [] => []
  | d :: ds => .tup [.int n, d] :: enumD (n + 1) ds
theorem enumD_len : ∀ (ds : List D) (n : Nat), (enumD n ds).length = ds.length
  | [], _ => rfl
  | d :: ds, n => by simp [enumD, enumD_len ds (n + 1)]
theorem enumD_get : ∀ (ds : List D) (n i : Nat), (enumD n ds)[i]? = ds[i]?.map fun d => D.tup [.int ((n + i : Nat) : Int), d]
  | [], n, i => by simp [enumD]
  | d :: ds, n, 0 => by simp [enumD]
  | d :: ds, n, i + 1 => by
    show (enumD (n + 1) ds)[i]? = ds[i]?.map _
    rw [enumD_get ds (n + 1) i, show n + 1 + i = n + (i + 1) by omega]
theorem wk_enum {a : Addr} {vs : List V} {ds : List D} : Wk k (Ite k.K a) (SrcL k a vs ds) (enumD 0 ds) where
  go := fun i L H h hi => by
    rw [enumD_len] at hi
    obtain ⟨h1, _, h3⟩ := h
    obtain ⟨d, hd⟩ : ∃ d, ds[i]? = some d := ⟨_, List.getElem?_eq_getElem hi⟩
    obtain ⟨v, hv, _⟩ := h3.get hd
    exact ⟨vs, v, .inl h1, hv⟩
  stop := fun i L H h hi => ⟨vs, .inl h.1, by rw [h.2.2.len]; rw [enumD_len] at hi; exact hi⟩
  yld := fun i L H x H' d h hd ed y => by
    rw [enumD_get] at ed
    obtain ⟨d', ed', rfl⟩ := Option.map_eq_some_iff.mp ed
    obtain ⟨h1, h2, h3⟩ := h
    obtain ⟨v, hv, r⟩ := h3.get ed'
    obtain ⟨T, y', rfl, hT, rfl, y⟩ := y
    have e := y vs (.inl h1)
    rw [hv] at e
    cases e
    refine ⟨Ex.new hT, Rs.newT (.cons ?_ (.cons (R.lm _ r) .nil)) hd hT⟩
    rw [Nat.zero_add]
    exact .int _
  keep := wk_list.keep
end

section
variable {X : Cx} {k : Wd} {e a b c tg : Expr} {pos : Pos} {fa fb : Pk}
/-- over a list or a tuple -/
def seqD : Nat × D → Option (List D)
  | (0, .lst xs) => some xs
  | (_, .tup xs) => some xs
  | _ => none
def seqI (f : Pk) : Rho → Option (List D) := fun ρ => (f ρ).bind seqD
theorem ii_seq (hk : k.K = X.K) (h : PE X e (tP k fa)) : PI X tg e (tI k (seqI fa)) := piW (pi_or (pi_list h) (pi_tup h)) fun σ H Q ⟨ρ, O, C, S, ds, ef, q⟩ => by
  obtain ⟨⟨n, d⟩, ea, ef1⟩ := Option.bind_eq_some_iff.mp ef
  clear ef
  unfold seqD at ef1
  split at ef1
  · rename_i xs ex
    cases ex
    cases ef1
    refine .inl ⟨ρ, O, C, S, 0, .lst ds, ea, fun v H1 e1 r1 => ?_⟩
    cases r1 with
    | lst0 h1 h2 h3 => exact ⟨_, rfl, ⟨_, .inl h1⟩, q _ _ H1 e1 (hk ▸ wk_list) ⟨h1, h2, Rs.lm ds h3⟩⟩
  · rename_i xs ex
    cases ex
    cases ef1
    refine .inr ⟨ρ, O, C, S, n, .tup ds, ea, fun v H1 e1 r1 => ?_⟩
    cases r1 with
    | tup h1 h2 h3 => exact ⟨_, rfl, ⟨_, .inl h1⟩, q _ _ H1 e1 (hk ▸ wk_tup) ⟨.inl ⟨h1, h2⟩, Rs.lm ds h3⟩⟩
    | tupS h1 h3 => exact ⟨_, rfl, ⟨_, .inr (hk ▸ h1)⟩, q _ _ H1 e1 (hk ▸ wk_tup) ⟨.inr h1, Rs.lm ds h3⟩⟩
  · cases ef1
def strI (f : Pk) : Rho → Option (List D) := fun ρ => (f ρ).bind fun x => match x.2 with
  | .str s => some (signsD s)
  | _ => none
theorem ii_str (h : PE X e (tP k fa)) : PI X tg e (tI k (strI fa)) := piW (pi_str h) fun σ H Q ⟨ρ, O, C, S, ds, ef, q⟩ => by
  obtain ⟨⟨n, d⟩, ea, ef1⟩ := Option.bind_eq_some_iff.mp ef
  clear ef
  cases d with
  | str s =>
    have ef : some (signsD s) = some ds := ef1
    cases ef
    refine ⟨ρ, O, C, S, n, .str s, ea, fun v H1 e1 r1 => ⟨s, r1.str_inv, q _ _ H1 e1 wk_str True.intro⟩⟩
  | _ => cases ef1
def rngI (f : Rho → Option (Int × Int)) : Rho → Option (List D) := rgN f
variable {p : Pos}
theorem ii_range1 (hg : Gl X "range") (hm : X.mg "range" = none) (ha : PE X a (tP k fa)) (hs : starEach [a] X.env = [(false, eval a X.env)] := by rfl) : PI X tg (.Call (.Name "range" p) [a] [] pos) (tI k (rngI (rg1 fa))) :=
  piW (pi_range1 (ta := tCons (tP k fa) tNil) hg hm (pa_cons ha pa_nil (by rw [hs]; rfl)) hs) fun σ H Q ⟨ρ, O, C, S, ds, ef, q⟩ => by
    obtain ⟨r, er, hz, rfl⟩ := rgN_inv ef
    obtain ⟨n, en, rfl⟩ := Option.map_eq_some_iff.mp er
    obtain ⟨m, en⟩ := asI_inv en
    obtain ⟨z1, z2, z3, z4⟩ := rgOk_inv hz
    have z3 : -100000 ≤ n := z3
    have z4 : n ≤ 100000 := z4
    refine ⟨ρ, O, C, S, m, _, en, fun v H' e r => ?_⟩
    obtain rfl := r.int_inv
    refine ⟨n, rfl, by omega, by omega, ?_⟩
    have := q _ _ H' e (wk_rng (k := k) (r := (0, n))) True.intro
    simpa using this
theorem ii_range2 (hg : Gl X "range") (hm : X.mg "range" = none) (ha : PE X a (tP k fa)) (hb : PE X b (tP k fb)) (hs : starEach [a, b] X.env = [(false, eval a X.env), (false, eval b X.env)] := by rfl) (hs2 : starEach [b] X.env = [(false, eval b X.env)] := by rfl) :
    PI X tg (.Call (.Name "range" p) [a, b] [] pos) (tI k (rngI (rg2 fa fb))) :=
  piW (pi_range2 (ta := tCons (tP k fa) (tCons (tP k fb) tNil)) hg hm (pa_cons ha (pa_cons hb pa_nil (by rw [hs2]; rfl)) (by rw [hs, hs2])) hs hs2) fun σ H Q ⟨ρ, O, C, S, ds, ef, q⟩ => by
    obtain ⟨r, er, hz, rfl⟩ := rgN_inv ef
    obtain ⟨n, en, er⟩ := Option.bind_eq_some_iff.mp er
    obtain ⟨m, em, rfl⟩ := Option.map_eq_some_iff.mp er
    obtain ⟨n', en⟩ := asI_inv en
    obtain ⟨m', em⟩ := asI_inv em
    obtain ⟨z1, z2, z3, z4⟩ := rgOk_inv hz
    have z1 : -100000 ≤ n := z1
    have z2 : n ≤ 100000 := z2
    have z3 : -100000 ≤ m := z3
    have z4 : m ≤ 100000 := z4
    refine ⟨ρ, O, C, S, n', _, en, fun v H' e r => ⟨ρ, O, C, S.ex e, m', _, em, fun w H2 e2 r2 => ?_⟩⟩
    obtain rfl := r.int_inv
    obtain rfl := r2.int_inv
    exact ⟨n, m, rfl, ⟨by omega, by omega, by omega, by omega⟩, q _ _ H2 (e.trans e2) (wk_rng (k := k) (r := (n, m))) True.intro⟩
def enumI (f : Pk) : Rho → Option (List D) := fun ρ => (f ρ).bind fun x => match x with
  | (0, .lst xs) => some (enumD 0 xs)
  | _ => none
theorem ii_enum {elts : List Expr} {kk : Nat} {tpos : Pos} (hk : k.K = X.K) (hg : Gl X "enumerate") (hm : X.mg "enumerate" = none) (ha : PE X e (tP k fa)) (hs : starEach [e] X.env = [(false, eval e X.env)] := by rfl) :
    PI X (.Tuple elts kk tpos) (.Call (.Name "enumerate" p) [e] [] pos) (tI k (enumI fa)) :=
  piW (pi_enum (ta := tCons (tP k fa) tNil) hg hm (pa_cons ha pa_nil (by rw [hs]; rfl)) hs) fun σ H Q ⟨ρ, O, C, S, ds, ef, q⟩ => by
    obtain ⟨⟨n, d⟩, ea, ef1⟩ := Option.bind_eq_some_iff.mp ef
    clear ef
    split at ef1
    · rename_i xs ex
      cases ex
      cases ef1
      refine ⟨ρ, O, C, S, 0, .lst xs, ea, fun v H1 e1 r1 => ?_⟩
      cases r1 with
      | lst0 h1 h2 h3 => exact ⟨_, _, rfl, .inl h1, q _ _ H1 e1 (hk ▸ wk_enum) ⟨h1, h2, Rs.lm xs h3⟩⟩
    · cases ef1
end

/-! ### targets -/
abbrev Bd := D → Rho → Option Rho
def setR (i : Nat) (s : Option Sl) (ρ : Rho) : Option Rho := if i < ρ.length then some (ρ.set i s) else none
theorem setR_inv {i : Nat} {s : Option Sl} {ρ ρ' : Rho} (h : setR i s ρ = some ρ') : (∃ s0, ρ[i]? = some s0) ∧ ρ' = ρ.set i s := by
  unfold setR at h
  split at h
  · rename_i hi
    cases h
    exact ⟨⟨_, List.getElem?_eq_getElem hi⟩, rfl⟩
  · cases h
/-- a target: is the slots it may store to -/
def tTg (k : Wd) (is : List Nat) (f : Bd) : TG := fun v σ H Q => ∃ ρ O C d, Sg k C σ ρ O H ∧ R k (O ++ C) [] H 0 v d ∧ ∃ ρ', f d ρ = some ρ' ∧
  ∀ σ', Sg k C σ' ρ' O H → (∀ vs, (∀ i ∈ is, i ∈ vs) → wipe σ' vs = wipe σ vs) → Q σ' H
theorem pgW {X : Cx} {tg : Expr} {t t' : TG} (h : PG X tg t) (w : ∀ v σ H Q, t' v σ H Q → t v σ H Q) : PG X tg t' := ⟨fun pins s σ H v u Q I r q => h.run pins s σ H v u Q I r (w v σ H Q q)⟩
theorem set_set_ne {α : Type} (l : List α) (i j : Nat) (x y : α) (h : i ≠ j) : (l.set i x).set j y = (l.set j y).set i x := List.set_comm _ _ h
theorem wipe_set {σ : L2.St} {i : Nat} {x : Option V} : ∀ {vs : List Nat}, i ∈ vs → wipe (σ.set i x) vs = wipe σ vs
  | [], h => by cases h
  | v :: vs, h => by
    by_cases hv : i ∈ vs
    · show (wipe (σ.set i x) vs).set v none = (wipe σ vs).set v none
      rw [wipe_set hv]
    · have e : i = v := by
        rcases List.mem_cons.mp h with h | h
        · exact h
        · exact absurd h hv
      subst e
      have q : ∀ (ws : List Nat), i ∉ ws → wipe (σ.set i x) ws = (wipe σ ws).set i x := by
        intro ws
        induction ws with
        | nil => intro _; rfl
        | cons w ws ih =>
          intro hw
          have h1 : i ∉ ws := fun z => hw (List.mem_cons_of_mem _ z)
          have h2 : i ≠ w := fun z => hw (z ▸ List.mem_cons_self)
          show (wipe (σ.set i x) ws).set w none = ((wipe σ ws).set w none).set i x
          rw [ih h1, set_set_ne _ _ _ _ _ h2]
      show (wipe (σ.set i x) vs).set i none = (wipe σ vs).set i none
      rw [q vs hv, List.set_set]
section
variable {k : Wd} {C O : List Addr} {H H' : Hp} {σ : L2.St} {ρ : Rho}
/-- a slot stored: the new value's owned places O1' are apart from all others -/
theorem Sg.put {i : Nat} {s0 s' : Option Sl} {x' : Option V} {O1' : List Addr} (g : Sg k C σ ρ O H) (e : ρ[i]? = some s0) (hk : Ex H H')
    (r : ∀ M, RC k ((O1' ++ O) ++ C) M H' x' s' O1') (nd : O1'.Nodup) (dm : Dom O1' H') (nw : ∀ a ∈ O1', H a = none) :
    Sg k C (σ.set i x') (ρ.set i s') (O1' ++ O) H' := by
  obtain ⟨O', rs, nd', sb⟩ := g.rs
  obtain ⟨x, A, O1, B, eO, ex, rc, hd, f⟩ := rs.at e
  subst eO
  have out : ∀ a, a ∈ O1' → a ∉ O ++ C := fun a h z => by
    obtain ⟨o, e⟩ := g.dom a z
    rw [nw a h] at e; cases e
  refine ⟨⟨A ++ (O1' ++ B), f (L' := (O1' ++ O) ++ C) (M' := O1' ++ O) ⟨fun a o h _ => hk a o h, fun a _ o h => hk a o h, fun a h z => h (List.mem_append_left _ z), fun a h => ?_, fun a h => ?_⟩ (r _), ?_, fun a h => ?_⟩, fun a h => ?_, fun a h => ?_⟩
  · simp only [List.mem_append] at h ⊢
    rcases h with (h | h) | h
    · exact .inr (nw a h)
    · exact .inl (.inl h)
    · exact .inl (.inr h)
  · simp only [List.mem_append] at h ⊢
    rcases h with h | h
    · exact .inr (nw a h)
    · exact .inl h
  · have sb' : ∀ a, a ∈ A ++ B → a ∉ O1' := fun a h z => out a z (List.mem_append_left _ (sb a (by simp only [List.mem_append] at h ⊢; grind)))
    simp only [List.nodup_append, List.mem_append] at nd' sb' ⊢
    grind
  · simp only [List.mem_append] at h ⊢
    rcases h with h | h | h
    · exact .inr (sb a (List.mem_append_left _ h))
    · exact .inl h
    · exact .inr (sb a (by simp only [List.mem_append]; exact .inr (.inr h)))
  · rcases List.mem_append.mp h with h | h
    · exact fun z => out a h (List.mem_append_right _ z)
    · exact g.ap a h
  · simp only [List.mem_append] at h
    rcases h with (h | h) | h
    · exact dm a h
    · exact Dom.ex g.dom hk a (List.mem_append_left _ h)
    · exact Dom.ex g.dom hk a (List.mem_append_right _ h)
theorem R.sub0 {L M L' M' : List Addr} {v : V} {d : D} (h : R k L M H 0 v d) (hl : ∀ a, a ∈ L' → a ∈ L) : R k L' M' H 0 v d :=
  R.lm d (R.mono (M := L) ⟨fun _ _ q _ => q, fun _ z => z, fun a z => .inl (hl a z), fun a z => .inl z⟩ d (R.lm d h))
theorem Rs.sub0 {L M L' M' : List Addr} {vs : List V} {ds : List D} (h : Rs k L M H 0 vs ds) (hl : ∀ a, a ∈ L' → a ∈ L) : Rs k L' M' H 0 vs ds :=
  Rs.lm ds (Rs.mono (M := L) ⟨fun _ _ q _ => q, fun _ z => z, fun a z => .inl (hl a z), fun a z => .inl z⟩ ds (Rs.lm ds h))
/-- a kept value is stored -/
theorem Sg.put0 {i : Nat} {s0 : Option Sl} {v : V} {d : D} (g : Sg k C σ ρ O H) (e : ρ[i]? = some s0) (r : R k (O ++ C) [] H 0 v d) :
    Sg k C (σ.set i (some v)) (ρ.set i (some ⟨false, 0, d⟩)) O H :=
  g.put (s' := some ⟨false, 0, d⟩) (x' := some v) (O1' := []) e (Ex.refl H) (fun M => .pk (R.lm d r)) (by simp) (fun a h => by cases h) (fun a h => by cases h)
/-- an owned value is stored -/
theorem Sg.putG {i n : Nat} {s0 : Option Sl} {v : V} {d : D} {O1 : List Addr} (g : Sg k C σ ρ O H) (e : ρ[i]? = some s0) (hk : Ex H H') (r : RO k (O1 ++ (O ++ C)) H' n v d O1) (nd : O1.Nodup) (nw : ∀ a ∈ O1, H a = none) :
    Sg k C (σ.set i (some v)) (ρ.set i (some ⟨true, n, d⟩)) (O1 ++ O) H' :=
  g.put (s' := some ⟨true, n, d⟩) (x' := some v) (O1' := O1) e hk (fun M => .own (by rw [List.append_assoc]; exact r)) nd (RO.dom d r) nw
/-- a slot forgotten -/
theorem Sg.del {i : Nat} {s0 : Option Sl} (g : Sg k C σ ρ O H) (e : ρ[i]? = some s0) (x' : Option V) : Sg k C (σ.set i x') (ρ.set i none) O H :=
  g.put (s' := none) (x' := x') (O1' := []) e (Ex.refl H) (fun M => .no) (by simp) (fun a h => by cases h) (fun a h => by cases h)
theorem Sg.len (g : Sg k C σ ρ O H) : σ.length = ρ.length := by
  obtain ⟨O', r, _⟩ := g.rs
  exact r.len
def wipeR (ρ : Rho) : List Nat → Rho
  | [] => ρ
  | v :: vs => (wipeR ρ vs).set v none
theorem Sg.wipe (g : Sg k C σ ρ O H) : ∀ vs : List Nat, Sg k C (wipe σ vs) (wipeR ρ vs) O H
  | [] => g
  | v :: vs => by
    have h := Sg.wipe g vs
    show Sg k C ((L2.wipe σ vs).set v none) ((wipeR ρ vs).set v none) O H
    by_cases hv : v < (wipeR ρ vs).length
    · exact h.del (List.getElem?_eq_getElem hv) none
    · have hl := h.len
      rw [List.set_eq_of_length_le (by omega), List.set_eq_of_length_le (by omega)]
      exact h
/-- names forgotten, their values left where they are -/
theorem Sg.clr (g : Sg k C σ ρ O H) : ∀ vs : List Nat, Sg k C σ (wipeR ρ vs) O H
  | [] => g
  | v :: vs => by
    have h := Sg.clr g vs
    show Sg k C σ ((wipeR ρ vs).set v none) O H
    by_cases hv : v < (wipeR ρ vs).length
    · have hl := h.len
      have q := h.del (List.getElem?_eq_getElem hv) (σ[v]'(by omega))
      rw [List.set_getElem_self] at q
      exact q
    · rw [List.set_eq_of_length_le (by omega)]
      exact h
/-- more is owned by others -/
theorem Sg.more {p : Addr} (g : Sg k C σ ρ O H) (hp : H p = none) (e : Ex H H') (hp' : ∃ o, H' p = some o) : Sg k (p :: C) σ ρ O H' := by
  obtain ⟨O', r, nd, sb⟩ := g.rs
  refine ⟨⟨O', r.mono ⟨fun a o h _ => e a o h, fun a _ o h => e a o h, fun a h z => h (List.mem_append_left _ z), fun a h => ?_, fun a h => .inl h⟩, nd, sb⟩, fun a h z => ?_, fun a h => ?_⟩
  · simp only [List.mem_append, List.mem_cons] at h ⊢
    rcases h with h | h | h
    · exact .inl (.inl h)
    · exact .inr (by rw [h]; exact hp)
    · exact .inl (.inr h)
  · rcases List.mem_cons.mp z with z | z
    · obtain ⟨o, q⟩ := g.dom a (List.mem_append_left _ h)
      rw [z, hp] at q; cases q
    · exact g.ap a h z
  · simp only [List.mem_append, List.mem_cons] at h
    rcases h with h | h | h
    · exact Dom.ex g.dom e a (List.mem_append_left _ h)
    · rw [h]; exact hp'
    · exact Dom.ex g.dom e a (List.mem_append_right _ h)
end
end Iv

set_option Elab.async false
set_option linter.all false
set_option maxRecDepth 100000
set_option maxHeartbeats 4000000
namespace Iv
open PySem PySem.Spec PyProof.Rows L2

section
variable {X : Cx} {k : Wd} {e a b c tg elt iter : Expr} {pos : Pos} {fa fb : Pk}
/-! #### targets -/
def bN (i : Nat) : Bd := fun d ρ => setR i (some ⟨false, 0, d⟩) ρ
theorem it_name {i : Nat} (h : PG X tg (gName i)) : PG X tg (tTg k [i] (bN i)) := pgW h fun v σ H Q ⟨ρ, O, C, d, S, r, ρ', e, q⟩ => by
  obtain ⟨⟨s0, e0⟩, rfl⟩ := setR_inv e
  exact q _ (S.put0 e0 r) fun vs h => wipe_set (h i (by simp))
abbrev Bds := List D → Rho → Option Rho
def tTgs (k : Wd) (is : List Nat) (f : Bds) : TGs := fun vs σ H Q => ∃ ρ O C ds, Sg k C σ ρ O H ∧ Rs k (O ++ C) [] H 0 vs ds ∧ ∃ ρ', f ds ρ = some ρ' ∧
  ∀ σ', Sg k C σ' ρ' O H → (∀ vs, (∀ i ∈ is, i ∈ vs) → wipe σ' vs = wipe σ vs) → Q σ' H
theorem pgsW {es : List Expr} {t t' : TGs} (h : PGs X es t) (w : ∀ v σ H Q, t' v σ H Q → t v σ H Q) : PGs X es t' := ⟨fun pins s σ H v u Q I r q => h.run pins s σ H v u Q I r (w v σ H Q q)⟩
def bNil : Bds := fun ds ρ => match ds with
  | [] => some ρ
  | _ => none
def bCons (f : Bd) (g : Bds) : Bds := fun ds ρ => match ds with
  | [] => none
  | d :: ds => (f d ρ).bind fun ρ1 => g ds ρ1
def bT (n : Nat) (g : Bds) : Bd := fun d ρ => match d with
  | .tup ds => if ds.length = n then g ds ρ else none
  | _ => none
theorem its_nil : PGs X [] (tTgs k [] bNil) := pgsW pgs_nil fun vs σ H Q ⟨ρ, O, C, ds, S, r, ρ', e, q⟩ => by
  cases ds with
  | nil =>
    cases e
    cases r
    exact ⟨rfl, q σ S fun _ _ => rfl⟩
  | cons d ds => cases e
theorem its_cons {es : List Expr} {is js : List Nat} {f : Bd} {g : Bds} (h1 : PG X e (tTg k is f)) (h2 : PGs X es (tTgs k js g)) (hs : (assignEach (e :: es) X.env).map (·.2) = assign e X.env :: (assignEach es X.env).map (·.2) := by rfl) : PGs X (e :: es) (tTgs k (is ++ js) (bCons f g)) :=
  pgsW (pgs_cons h1 h2 hs) fun vs σ H Q ⟨ρ, O, C, ds, S, r, ρ', e, q⟩ => by
    cases ds with
    | nil => cases e
    | cons d ds =>
      cases r with
      | cons r1 r2 =>
        obtain ⟨ρ1, e1, e2⟩ := Option.bind_eq_some_iff.mp (show (f d ρ).bind (fun ρ1 => g ds ρ1) = some ρ' from e)
        exact ⟨_, _, rfl, ρ, O, C, d, S, r1, ρ1, e1, fun σ1 S1 w1 => ⟨ρ1, O, C, ds, S1, r2, ρ', e2, fun σ2 S2 w2 => q σ2 S2 fun vs h => (w2 vs fun i hi => h i (List.mem_append_right _ hi)).trans (w1 vs fun i hi => h i (List.mem_append_left _ hi))⟩⟩
theorem it_tup {es : List Expr} {j n : Nat} {is : List Nat} {g : Bds} (hk : k.K = X.K) (hc : X.calm = true) (h : PGs X es (tTgs k is g)) (hn : (assignEach es X.env).length = n := by rfl) (hst : (assignEach es X.env).findIdx? (·.1) = none := by rfl) : PG X (.Tuple es j pos) (tTg k is (bT n g)) :=
  pgW (pg_tup hc h hn hst) fun v σ H Q ⟨ρ, O, C, d, S, r, ρ', e, q⟩ => by
    cases d with
    | tup ds =>
      have e : (if ds.length = n then g ds ρ else none) = some ρ' := e
      split at e
      · rename_i hl
        obtain ⟨a, vs, rfl, h1, h2⟩ := r.tup_inv
        exact ⟨a, vs, rfl, hk ▸ h1, by rw [h2.len]; exact hl, ρ, O, C, ds, S, h2, ρ', e, q⟩
      · cases e
    | _ => cases e

/-! #### list comprehensions -/
def lcL (bd : Bd) (t : Rho → Option Bool) (f : Rho → Option D) (ρ : Rho) : List D → Option (List D)
  | [] => some []
  | d :: ds => (bd d ρ).bind fun ρ1 => (t ρ1).bind fun b => if b = true then (f ρ1).bind fun y => (lcL bd t f ρ ds).map fun ys => y :: ys else lcL bd t f ρ ds
def lcN (vs : List Nat) (fi : Rho → Option (List D)) (bd : Bd) (t : Rho → Option Bool) (f : Rho → Option D) : Rho → Option (List D) := fun ρ => (fi ρ).bind fun ds => if ds.length ≤ 99999 then lcL bd t f (wipeR ρ vs) ds else none
def yesT : Rho → Option Bool := fun _ => some true
theorem its_yes : PTs X [] (tT k yesT) := ⟨fun pins s σ H Q I ⟨ρ, O, C, S, b, ef, q⟩ => by
  cases ef
  exact (pts_nil (X := X)).run pins s σ H Q I (q H (Ex.refl H))⟩
theorem its_one {ta : Rho → Option Bool} (h : PT X c (tT k ta)) : PTs X [c] (tT k ta) := pts_one h
theorem lcL_len {bd : Bd} {t : Rho → Option Bool} {f : Rho → Option D} {ρ : Rho} : ∀ {ds ys : List D}, lcL bd t f ρ ds = some ys → ys.length ≤ ds.length
  | [], ys, h => by cases h; exact Nat.le_refl _
  | d :: ds, ys, h => by
    obtain ⟨ρ1, e1, h⟩ := Option.bind_eq_some_iff.mp (show (bd d ρ).bind (fun ρ1 => (t ρ1).bind fun b => if b = true then (f ρ1).bind fun y => (lcL bd t f ρ ds).map fun ys => y :: ys else lcL bd t f ρ ds) = some ys from h)
    obtain ⟨b, e2, h⟩ := Option.bind_eq_some_iff.mp h
    cases b with
    | true =>
      obtain ⟨y, e3, h⟩ := Option.bind_eq_some_iff.mp (show ((f ρ1).bind fun y => (lcL bd t f ρ ds).map fun ys => y :: ys) = some ys from h)
      obtain ⟨zs, e4, rfl⟩ := Option.map_eq_some_iff.mp h
      have := lcL_len e4
      simp only [List.length_cons]
      omega
    | false =>
      have := lcL_len (show lcL bd t f ρ ds = some ys from h)
      simp only [List.length_cons]
      omega
theorem Kp.ex0 {L L' : List Addr} {H H' : Hp} (e : Ex H H') (h : ∀ a, a ∈ L' → a ∈ L ∨ H a = none) : Kp L [] L' [] H H' := ⟨fun a o q _ => e a o q, fun _ _ z => (by cases z), h, fun a z => (by cases z)⟩
theorem in_lc {ifs : List Expr} {scope : Scope} {own : List (Str × Nat)} {fi : Rho → Option (List D)} {bd : Bd} {is : List Nat} {ft : Rho → Option Bool} {fe : Rho → Option D} (hc : X.calm = true) (hN : X.N.Nodup) (hi : PI X tg iter (tI k fi)) (ok : BlkOk X.N X.env.scope scope own)
    (hg : ∀ (s : Shared) (H : Hp) (C : Addr) (cl : List (Str × Addr)) (fp : List Addr), PG (X.blk s H scope (compEnvC scope cl C X.env) fp) tg (tTg k is bd))
    (ht : ∀ (s : Shared) (H : Hp) (C : Addr) (cl : List (Str × Addr)) (fp : List Addr), PTs (X.blk s H scope (compEnvC scope cl C X.env) fp) ifs (tT k ft))
    (he : ∀ (s : Shared) (H : Hp) (C : Addr) (cl : List (Str × Addr)) (fp : List Addr), PE (X.blk s H scope (compEnvC scope cl C X.env) fp) elt (tG k 0 fe))
    (his : ∀ i ∈ is, i ∈ own.map (·.2)) (hs : ∀ x, foldedSetIterable iter X.env x = pure x := by intro _; rfl) : PE X (.ListComp elt [⟨tg, iter, ifs, 0⟩] scope pos) (tN k (lcN (own.map (·.2)) fi bd ft fe)) :=
  peW (pe_lc hc hN hi ok hg ht he hs) fun σ H Q ⟨ρ, O, C, S, ds, ef, q⟩ => by
    obtain ⟨items, ei, ef1⟩ := Option.bind_eq_some_iff.mp ef
    clear ef
    generalize own.map (·.2) = vs at *
    split at ef1
    · rename_i hz
      refine ⟨ρ, O, C, S, items, ei, fun J Src H1 e1 wk src D hD => ?_⟩
      have S1 := S.ex e1
      have hdom := Dom.ex S.dom e1
      refine ⟨fun i m H2 => m = items.length - i ∧ i ≤ items.length ∧ Ex H1 H2 ∧ ∃ acc dn rest, H2 D = some (.lst acc) ∧ Rs k (D :: (O ++ C)) [] H2 0 acc dn ∧ lcL bd ft fe (wipeR ρ vs) (items.drop i) = some rest ∧ dn ++ rest = ds ∧ acc.length ≤ i, ⟨items.length, ?_⟩, ?_⟩
      · exact ⟨by omega, Nat.zero_le _, Ex.new hD, [], [], ds, upd_same, .nil, ef1, rfl, Nat.le_refl _⟩
      · rintro i m H2 ⟨rfl, hi', ex2, acc, dn, rest, hacc, racc, erest, eds, hla⟩
        have src2 : Src (D :: (O ++ C)) H2 := wk.keep _ _ _ _ src (fun a o q _ => ex2 a o q) fun a z => by
          rcases List.mem_cons.mp z with z | z
          · exact .inr (by rw [z]; exact hD)
          · exact .inl z
        have dom2 : Dom (D :: (O ++ C)) H2 := fun a z => by
          rcases List.mem_cons.mp z with z | z
          · exact ⟨_, by rw [z]; exact hacc⟩
          · exact Dom.ex hdom ex2 a z
        by_cases hlt : i < items.length
        · refine .inr ⟨wk.go i _ H2 src2 hlt, fun H3 => items.length - (i + 1) = items.length - (i + 1) ∧ i + 1 ≤ items.length ∧ Ex H1 H3 ∧ ∃ acc dn rest, H3 D = some (.lst acc) ∧ Rs k (D :: (O ++ C)) [] H3 0 acc dn ∧ lcL bd ft fe (wipeR ρ vs) (items.drop (i + 1)) = some rest ∧ dn ++ rest = ds ∧ acc.length ≤ i + 1,
            fun H3 h3 => ⟨items.length - (i + 1), by omega, h3⟩, fun x H3 hy => ?_⟩
          obtain ⟨d, hd⟩ : ∃ d, items[i]? = some d := ⟨_, List.getElem?_eq_getElem hlt⟩
          obtain ⟨ex3, rx⟩ := wk.yld i _ H2 x H3 d src2 dom2 hd hy
          have edrop : items.drop i = d :: items.drop (i + 1) := by
            rw [List.drop_eq_getElem_cons hlt]
            have : items[i] = d := by
              have := List.getElem?_eq_getElem hlt
              rw [this] at hd
              exact Option.some.inj hd
            rw [this]
          rw [edrop] at erest
          obtain ⟨ρ1, eb, erest⟩ := Option.bind_eq_some_iff.mp (show (bd d (wipeR ρ vs)).bind (fun ρ1 => (ft ρ1).bind fun b => if b = true then (fe ρ1).bind fun y => (lcL bd ft fe (wipeR ρ vs) (items.drop (i + 1))).map fun ys => y :: ys else lcL bd ft fe (wipeR ρ vs) (items.drop (i + 1))) = some rest from erest)
          obtain ⟨bb, et, erest⟩ := Option.bind_eq_some_iff.mp erest
          have S3 : Sg k (D :: C) (wipe σ vs) (wipeR ρ vs) O H3 := (S1.more hD (ex2.trans ex3) ⟨_, ex3 _ _ hacc⟩).wipe vs
          have sub : ∀ a, a ∈ O ++ (D :: C) → a ∈ D :: (O ++ C) := fun a z => by
            simp only [List.mem_append, List.mem_cons] at z ⊢
            grind
          refine ⟨wipeR ρ vs, O, D :: C, d, S3, rx.sub0 sub, ρ1, eb, fun σ1 S4 hw => ⟨hw vs his |>.trans (wipe_wipe σ vs), ρ1, O, D :: C, S4, bb, et, fun H4 e4 => ?_⟩⟩
          cases bb with
          | true =>
            obtain ⟨y, ey, erest⟩ := Option.bind_eq_some_iff.mp (show ((fe ρ1).bind fun y => (lcL bd ft fe (wipeR ρ vs) (items.drop (i + 1))).map fun ys => y :: ys) = some rest from erest)
            obtain ⟨rest', er, rfl⟩ := Option.map_eq_some_iff.mp erest
            rw [if_pos rfl]
            refine ⟨ρ1, O, D :: C, S4.ex e4, y, ey, fun v H5 O1 e5 ro nd nw => ?_⟩
            have h5 : H5 D = some (.lst acc) := e5 _ _ (e4 _ _ (ex3 _ _ hacc))
            have ex5 := (ex3.trans e4).trans e5
            have r5 : R k (D :: (O ++ C)) [] H5 0 v y := by
              cases ro with
              | zero r =>
                refine r.sub0 fun a z => ?_
                simp only [List.nil_append, List.mem_append, List.mem_cons] at z ⊢
                grind
            have upd_ko : ∀ acc', Kp (D :: (O ++ C)) (D :: (O ++ C)) (D :: (O ++ C)) (D :: (O ++ C)) H5 (upd H5 D (.lst acc')) := fun acc' => ⟨fun a o q z => by
              rw [upd_ne (fun e => z (by rw [e]; exact List.mem_cons_self))]
              exact q, fun _ z => z, fun a z => .inl z, fun a z => .inl z⟩
            refine ⟨acc, h5, line1e5' (by omega), rfl, by omega, fun a o q => ?_, acc ++ [v], dn ++ [y], rest', upd_same, ?_, er, by rw [List.append_assoc]; exact eds, by simp only [List.length_append, List.length_singleton]; omega⟩
            · rw [upd_ne (fun e => by rw [e, hD] at q; cases q)]
              exact ex5 _ _ (ex2 _ _ q)
            · refine Rs.app ?_ (.cons ?_ .nil)
              · exact Rs.lm dn (Rs.mono (upd_ko _) dn (Rs.lm dn (racc.ex ex5)))
              · exact R.lm y (R.mono (upd_ko _) y (R.lm y r5))
          | false =>
            have er : lcL bd ft fe (wipeR ρ vs) (items.drop (i + 1)) = some rest := erest
            rw [if_neg Bool.false_ne_true]
            exact ⟨rfl, by omega, ex2.trans (ex3.trans e4), acc, dn, rest, e4 _ _ (ex3 _ _ hacc), racc.ex (ex3.trans e4), er, eds, by omega⟩
        · refine .inl ⟨wk.stop i _ H2 src2 (by omega), ?_⟩
          rw [List.drop_eq_nil_of_le (by omega)] at erest
          cases erest
          rw [List.append_nil] at eds
          subst eds
          exact q D acc H2 (e1.free hD) (e1.trans ex2) hacc racc
    · cases ef1
where
  wipe_wipe (σ : L2.St) : ∀ vs : List Nat, wipe (wipe σ vs) vs = wipe σ vs
    | [] => rfl
    | v :: vs => by
      show (wipe ((wipe σ vs).set v none) vs).set v none = (wipe σ vs).set v none
      by_cases hv : v ∈ vs
      · rw [wipe_set hv, wipe_wipe σ vs]
      · have q : ∀ (τ : L2.St) (ws : List Nat), v ∉ ws → wipe (τ.set v none) ws = (wipe τ ws).set v none := by
          intro τ ws
          induction ws with
          | nil => intro _; rfl
          | cons w ws ih =>
            intro hw
            have h1 : v ∉ ws := fun z => hw (List.mem_cons_of_mem _ z)
            have h2 : v ≠ w := fun z => hw (z ▸ List.mem_cons_self)
            show (wipe (τ.set v none) ws).set w none = ((wipe τ ws).set w none).set v none
            rw [ih h1, set_set_ne _ _ _ _ _ h2]
        rw [q _ vs hv, List.set_set, wipe_wipe σ vs]
end
end Iv

set_option Elab.async false
set_option linter.all false
set_option maxRecDepth 100000
set_option maxHeartbeats 4000000
namespace Iv
open PySem PySem.Spec PyProof.Rows L2

/-! ### statements -/
inductive Fl where
  | nx | bk | ct
  | rt (d : D)
abbrev Sm := Rho → Option (Fl × Rho)
/-- what a piece of code does to the heap: only owned lists are changed, what is owned behind it was owned or is new -/
structure Stp (fx : Bool) (σ : L2.St) (O : List Addr) (H : Hp) (σ' : L2.St) (O' : List Addr) (H' : Hp) : Prop where
  keep : ∀ a o, H a = some o → a ∉ O → H' a = some o
  new : ∀ a, a ∈ O' → a ∈ O ∨ H a = none
  fix : fx = true → σ'[0]? = σ[0]?
theorem Stp.refl (fx : Bool) (σ : L2.St) (O : List Addr) (H : Hp) : Stp fx σ O H σ O H := ⟨fun _ _ h _ => h, fun _ h => .inl h, fun _ => rfl⟩
theorem Stp.ex {fx : Bool} {σ : L2.St} {O O' : List Addr} {H H' : Hp} (e : Ex H H') (h : ∀ a, a ∈ O' → a ∈ O ∨ H a = none) : Stp fx σ O H σ O' H' := ⟨fun a o q _ => e a o q, h, fun _ => rfl⟩
theorem Stp.set {fx : Bool} {σ : L2.St} {O O' : List Addr} {H H' : Hp} {i : Nat} {x : Option V} (e : Ex H H') (h : ∀ a, a ∈ O' → a ∈ O ∨ H a = none) (hi : fx = true → i ≠ 0) : Stp fx σ O H (σ.set i x) O' H' := ⟨fun a o q _ => e a o q, h, fun z => List.getElem?_set_ne (hi z)⟩
theorem wipe_get {σ : L2.St} {j : Nat} : ∀ {vs : List Nat}, j ∉ vs → (L2.wipe σ vs)[j]? = σ[j]?
  | [], _ => rfl
  | v :: vs, h => by
    show ((L2.wipe σ vs).set v none)[j]? = _
    rw [List.getElem?_set_ne (fun z : v = j => h (by rw [z]; exact List.mem_cons_self)), wipe_get fun z => h (List.mem_cons_of_mem _ z)]
theorem Stp.tg {fx : Bool} {σ σ' : L2.St} {O O' : List Addr} {H H' : Hp} {is : List Nat} (e : Ex H H') (h : ∀ a, a ∈ O' → a ∈ O ∨ H a = none) (w : ∀ vs, (∀ i ∈ is, i ∈ vs) → L2.wipe σ' vs = L2.wipe σ vs) (hi : fx = true → 0 ∉ is) : Stp fx σ O H σ' O' H' := ⟨fun a o q _ => e a o q, h, fun z => by
  have := w is fun _ h => h
  rw [← wipe_get (hi z), this, wipe_get (hi z)]⟩
theorem Stp.trans {fx : Bool} {σ σ1 σ2 : L2.St} {O O1 O2 : List Addr} {H H1 H2 : Hp} (p : Stp fx σ O H σ1 O1 H1) (q : Stp fx σ1 O1 H1 σ2 O2 H2) : Stp fx σ O H σ2 O2 H2 where
  keep := fun a o e n => q.keep a o (p.keep a o e n) fun z => by
    rcases p.new a z with z | z
    · exact n z
    · rw [e] at z; cases z
  new := fun a h => by
    rcases q.new a h with z | z
    · exact p.new a z
    · by_cases n : a ∈ O
      · exact .inl n
      · refine .inr ?_
        cases e : H a with
        | none => rfl
        | some o =>
          rw [p.keep a o e n] at z
          cases z
  fix := fun z => (q.fix z).trans (p.fix z)
/-- what is wanted behind a statement, by its outcome -/
def PostS (k : Wd) (C : List Addr) (fx : Bool) (nr : Nat) (σ : L2.St) (O : List Addr) (H : Hp) (E : Ends) : Fl × Rho → Prop
  | (.nx, ρ') => ∀ σ' H' O', Sg k C σ' ρ' O' H' → Stp fx σ O H σ' O' H' → E.nx σ' H'
  | (.bk, ρ') => ∀ σ' H' O', Sg k C σ' ρ' O' H' → Stp fx σ O H σ' O' H' → E.bk σ' H'
  | (.ct, ρ') => ∀ σ' H' O', Sg k C σ' ρ' O' H' → Stp fx σ O H σ' O' H' → E.ct σ' H'
  | (.rt d, _) => ∀ v H' O1, RO k (O1 ++ C) H' nr v d O1 → O1.Nodup → (∀ a, a ∈ O1 → a ∉ C) → Stp fx σ O H σ O1 H' → E.rt v H'
theorem PostS.step {k : Wd} {C : List Addr} {fx : Bool} {nr : Nat} {σ σ1 : L2.St} {O O1 : List Addr} {H H1 : Hp} {E : Ends} {r : Fl × Rho} (s : Stp fx σ O H σ1 O1 H1) (p : PostS k C fx nr σ O H E r) : PostS k C fx nr σ1 O1 H1 E r := by
  obtain ⟨f, ρ⟩ := r
  cases f with
  | nx => exact fun σ' H' O' g s' => p σ' H' O' g (s.trans s')
  | bk => exact fun σ' H' O' g s' => p σ' H' O' g (s.trans s')
  | ct => exact fun σ' H' O' g s' => p σ' H' O' g (s.trans s')
  | rt d => exact fun v H' O' g n1 n2 s' => p v H' O' g n1 n2 ⟨(s.trans s').keep, (s.trans s').new, fun _ => rfl⟩
def tS (k : Wd) (fx : Bool) (nr : Nat) (f : Sm) : TS := fun E σ H => ∃ ρ O C, Sg k C σ ρ O H ∧ ∃ r, f ρ = some r ∧ PostS k C fx nr σ O H E r

section
variable {X : Cx} {k : Wd} {fx : Bool} {nr : Nat} {e a b c tg elt iter : Expr} {st : Stmt} {rest : List Stmt} {pos : Pos} {fa fb : Pk} {f g : Sm} {ft : Rho → Option Bool}
theorem psW {t t' : TS} (h : PS X st t) (w : ∀ E σ H, t' E σ H → t E σ H) : PS X st t' := ⟨fun pins s σ H E I q => h.run pins s σ H E I (w E σ H q)⟩
theorem pssW {t t' : TS} (h : PSs X rest t) (w : ∀ E σ H, t' E σ H → t E σ H) : PSs X rest t' := ⟨fun pins s σ H E I q => h.run pins s σ H E I (w E σ H q)⟩
def skS : Sm := fun ρ => some (.nx, ρ)
def brS : Sm := fun ρ => some (.bk, ρ)
def coS : Sm := fun ρ => some (.ct, ρ)
def seqS (f g : Sm) : Sm := fun ρ => (f ρ).bind fun r => match r with
  | (.nx, ρ') => g ρ'
  | r => some r
theorem is_nil : PSs X [] (tS k fx nr skS) := pssW pss_nil fun E σ H ⟨ρ, O, C, S, r, ef, q⟩ => by
  cases ef
  exact q σ H O S (Stp.refl fx σ O H)
theorem is_cons (h1 : PS X st (tS k fx nr f)) (h2 : PSs X rest (tS k fx nr g)) : PSs X (st :: rest) (tS k fx nr (seqS f g)) := pssW (pss_cons h1 h2) fun E σ H ⟨ρ, O, C, S, r, ef, q⟩ => by
  obtain ⟨⟨fl, ρ1⟩, e1, ef⟩ := Option.bind_eq_some_iff.mp ef
  refine ⟨ρ, O, C, S, (fl, ρ1), e1, ?_⟩
  cases fl with
  | nx => exact fun σ' H' O' S' s' => ⟨ρ1, O', C, S', r, ef, q.step s'⟩
  | bk => cases ef; exact q
  | ct => cases ef; exact q
  | rt d => cases ef; exact q
theorem is_one (h1 : PS X st (tS k fx nr f)) : PSs X [st] (tS k fx nr f) := pss_one h1
theorem is_pass : PS X (.Pass pos) (tS k fx nr skS) := psW ps_pass fun E σ H ⟨ρ, O, C, S, r, ef, q⟩ => by
  cases ef
  exact q σ H O S (Stp.refl fx σ O H)
theorem is_break : PS X (.Break pos) (tS k fx nr brS) := psW ps_break fun E σ H ⟨ρ, O, C, S, r, ef, q⟩ => by
  cases ef
  exact q σ H O S (Stp.refl fx σ O H)
theorem is_cont : PS X (.Continue pos) (tS k fx nr coS) := psW ps_continue fun E σ H ⟨ρ, O, C, S, r, ef, q⟩ => by
  cases ef
  exact q σ H O S (Stp.refl fx σ O H)
/-- a statement that is never come to -/
def noS : Sm := fun _ => none
theorem is_never : PS X st (tS k fx nr noS) := psW ps_never fun E σ H ⟨ρ, O, C, S, r, ef, q⟩ => by cases ef
def iteS (t : Rho → Option Bool) (f g : Sm) : Sm := fun ρ => (t ρ).bind fun b => if b = true then f ρ else g ρ
theorem is_if {sa sb : List Stmt} (hc : PT X c (tT k ft)) (ha : PSs X sa (tS k fx nr f)) (hb : PSs X sb (tS k fx nr g)) : PS X (.If c sa sb pos) (tS k fx nr (iteS ft f g)) := psW (ps_if hc ha hb) fun E σ H ⟨ρ, O, C, S, r, ef, q⟩ => by
  obtain ⟨t, et, ef⟩ := Option.bind_eq_some_iff.mp ef
  refine ⟨ρ, O, C, S, t, et, fun H1 e1 => ?_⟩
  cases t with
  | true => exact ⟨ρ, O, C, S.ex e1, r, ef, q.step (Stp.ex e1 fun _ z => .inl z)⟩
  | false => exact ⟨ρ, O, C, S.ex e1, r, ef, q.step (Stp.ex e1 fun _ z => .inl z)⟩
/-- x = e, a kept value -/
def setS (i : Nat) (f : Rho → Option D) : Sm := fun ρ => (f ρ).bind fun d => (setR i (some ⟨false, 0, d⟩) ρ).map fun ρ' => (.nx, ρ')
theorem as_set {i : Nat} {f : Rho → Option D} {E : Ends} {σ : L2.St} {H : Hp} (hi : fx = true → i ≠ 0) (h : tS k fx nr (setS i f) E σ H) : tAsg (tG k 0 f) (gName i) E σ H := by
  obtain ⟨ρ, O, C, S, r, ef, q⟩ := h
  obtain ⟨d, ed, ef⟩ := Option.bind_eq_some_iff.mp ef
  obtain ⟨ρ', er, rfl⟩ := Option.map_eq_some_iff.mp ef
  obtain ⟨⟨s0, e0⟩, rfl⟩ := setR_inv er
  refine ⟨ρ, O, C, S, d, ed, fun v H' O1 e1 ro _ _ => ?_⟩
  cases ro with
  | zero r => exact q _ _ O ((S.ex e1).put0 e0 r) (Stp.set e1 (fun _ z => .inl z) hi)
theorem is_set {i : Nat} {f : Rho → Option D} (h : PS X st (tAsg (tG k 0 f) (gName i))) (hi : fx = true → i ≠ 0 := by first | exact fun h => Bool.noConfusion h | exact fun _ => by decide) : PS X st (tS k fx nr (setS i f)) := psW h fun E σ H q => as_set hi q
/-- x = e, a new list (or lists of lists) that the def goes on to change -/
def setO (i n : Nat) (f : Rho → Option D) : Sm := fun ρ => (f ρ).bind fun d => (setR i (some ⟨true, n, d⟩) ρ).map fun ρ' => (.nx, ρ')
theorem as_setO {i n : Nat} {f : Rho → Option D} {E : Ends} {σ : L2.St} {H : Hp} (hi : fx = true → i ≠ 0) (h : tS k fx nr (setO i n f) E σ H) : tAsg (tG k n f) (gName i) E σ H := by
  obtain ⟨ρ, O, C, S, r, ef, q⟩ := h
  obtain ⟨d, ed, ef⟩ := Option.bind_eq_some_iff.mp ef
  obtain ⟨ρ', er, rfl⟩ := Option.map_eq_some_iff.mp ef
  obtain ⟨⟨s0, e0⟩, rfl⟩ := setR_inv er
  refine ⟨ρ, O, C, S, d, ed, fun v H' O1 e1 ro nd nw => ?_⟩
  exact q _ _ (O1 ++ O) (S.putG e0 e1 ro nd nw) (Stp.set e1 (fun a z => (List.mem_append.mp z).elim (fun z => .inr (nw a z)) .inl) hi)
theorem is_setO {i n : Nat} {f : Rho → Option D} (h : PS X st (tAsg (tG k n f) (gName i))) (hi : fx = true → i ≠ 0 := by first | exact fun h => Bool.noConfusion h | exact fun _ => by decide) : PS X st (tS k fx nr (setO i n f)) := psW h fun E σ H q => as_setO hi q
/-- a, b = e -/
def asgS (bd : Bd) (f : Rho → Option D) : Sm := fun ρ => (f ρ).bind fun d => (bd d ρ).map fun ρ' => (.nx, ρ')
theorem is_asg {is : List Nat} {bd : Bd} {f : Rho → Option D} (h : PS X st (tAsg (tG k 0 f) (tTg k is bd))) (hi : fx = true → 0 ∉ is := by first | exact fun h => Bool.noConfusion h | exact fun _ => by decide) : PS X st (tS k fx nr (asgS bd f)) := psW h fun E σ H ⟨ρ, O, C, S, r, ef, q⟩ => by
  obtain ⟨d, ed, ef⟩ := Option.bind_eq_some_iff.mp ef
  obtain ⟨ρ', er, rfl⟩ := Option.map_eq_some_iff.mp ef
  refine ⟨ρ, O, C, S, d, ed, fun v H' O1 e1 ro _ _ => ?_⟩
  cases ro with
  | zero r => exact ⟨ρ, O, C, d, S.ex e1, r, ρ', er, fun σ' S' w => q σ' H' O S' (Stp.tg e1 (fun _ z => .inl z) w hi)⟩
/-- x += e, ints -/
def augS (g : Int → Int → Int) (i : Nat) (f : Pk) : Sm := fun ρ => match ρ[i]? with
  | some (some ⟨_, _, .int x⟩) => (asI f ρ).map fun y => (.nx, ρ.set i (some ⟨false, 0, .int (g x y)⟩))
  | _ => none
theorem is_aug {i : Nat} {gg : Int → Int → Int} (h : PS X st (tAug i (tP k fa) (ipI gg))) (hi : fx = true → i ≠ 0 := by first | exact fun h => Bool.noConfusion h | exact fun _ => by decide) : PS X st (tS k fx nr (augS gg i fa)) := psW h fun E σ H ⟨ρ, O, C, S, r, ef, q⟩ => by
  unfold augS at ef
  split at ef
  · rename_i o n x e0
    obtain ⟨y, ey, rfl⟩ := Option.map_eq_some_iff.mp ef
    obtain ⟨m, ey⟩ := asI_inv ey
    obtain ⟨v, ev, rv⟩ := S.get e0
    obtain rfl := rv.int_inv
    refine ⟨_, ev, ρ, O, C, S, m, _, ey, fun w H1 e1 r1 => ?_⟩
    obtain rfl := r1.int_inv
    exact ⟨x, y, rfl, rfl, q _ _ O ((S.ex e1).put0 e0 (.int _)) (Stp.set e1 (fun _ z => .inl z) hi)⟩
  · cases ef
/-- return e, a kept value -/
def retS (nr : Nat) (f : Rho → Option D) : Sm := fun ρ => (f ρ).bind fun d => if nr = 0 ∨ d.mut = false then some (.rt d, ρ) else none
theorem RO.ret {L L' : List Addr} {H : Hp} {v : V} {d : D} {n : Nat} (r : R k L [] H 0 v d) (hl : ∀ a, a ∈ L' → a ∈ L) (h : n = 0 ∨ d.mut = false) : RO k L' H n v d [] := by
  have r' : R k L' [] H 0 v d := r.sub0 hl
  cases n with
  | zero => exact .zero r'
  | succ n =>
    rcases h with h | h
    · omega
    · exact .flat r' h
theorem is_ret {f : Rho → Option D} (h : PE X e (tG k 0 f)) : PS X (.Return (some e) pos) (tS k fx nr (retS nr f)) := psW (ps_ret h) fun E σ H ⟨ρ, O, C, S, r, ef, q⟩ => by
  obtain ⟨d, ed, ef⟩ := Option.bind_eq_some_iff.mp ef
  split at ef
  · rename_i hm
    cases ef
    refine ⟨ρ, O, C, S, d, ed, fun v H' O1 e1 ro _ _ => ?_⟩
    cases ro with
    | zero r => exact q v H' [] (RO.ret (L := [] ++ (O ++ C)) (L' := [] ++ C) r (fun a z => List.mem_append_right _ (List.mem_append_right _ (by simpa using z))) hm) (by simp) (fun a z => by cases z) (Stp.ex e1 fun a z => by cases z)
  · cases ef
/-- return e, a new list -/
def retO (f : Rho → Option D) : Sm := fun ρ => (f ρ).map fun d => (.rt d, ρ)
theorem is_retO {f : Rho → Option D} (h : PE X e (tG k nr f)) : PS X (.Return (some e) pos) (tS k fx nr (retO f)) := psW (ps_ret h) fun E σ H ⟨ρ, O, C, S, r, ef, q⟩ => by
  obtain ⟨d, ed, rfl⟩ := Option.map_eq_some_iff.mp ef
  refine ⟨ρ, O, C, S, d, ed, fun v H' O1 e1 ro nd nw => ?_⟩
  refine q v H' O1 (RO.mono d ⟨fun _ _ z _ => z, fun _ _ _ z => z, fun a z => .inl ?_⟩ ro) nd (fun a z1 z2 => ?_) (Stp.ex e1 fun a z => .inr (nw a z))
  · simp only [List.mem_append] at z ⊢
    grind
  · obtain ⟨o, q⟩ := S.dom a (List.mem_append_right _ z2)
    rw [nw a z1] at q
    cases q
/-- return x, an owned list of the def's own -/
def retV (nr i : Nat) : Sm := fun ρ => match ρ[i]? with
  | some (some ⟨true, n, d⟩) => if n = nr then some (.rt d, ρ) else none
  | _ => none
theorem is_retV {i : Nat} (h : PE X e (tVar i)) : PS X (.Return (some e) pos) (tS k fx nr (retV nr i)) := psW (ps_ret h) fun E σ H ⟨ρ, O, C, S, r, ef, q⟩ => by
  unfold retV at ef
  split at ef
  · rename_i n d e0
    split at ef
    · rename_i hn
      subst hn
      cases ef
      obtain ⟨O', rs, nd, sb⟩ := S.rs
      obtain ⟨x, A, P, B, eO, ex, rc, _, _⟩ := rs.at e0
      subst eO
      cases rc with
      | own ro =>
        refine ⟨_, ex, q _ H P (RO.mono d ⟨fun _ _ z _ => z, fun _ _ _ z => z, fun a z => .inl ?_⟩ ro) ?_ (fun a z => S.ap a (sb a ?_)) ⟨fun _ _ z _ => z, fun a z => .inl (sb a ?_), fun _ => rfl⟩⟩
        · have := sb a
          simp only [List.mem_append] at z this ⊢
          grind
        · simp only [List.nodup_append] at nd
          exact nd.2.1.1
        · simp only [List.mem_append]; exact .inr (.inl z)
        · simp only [List.mem_append]; exact .inr (.inl z)
    · cases ef
  · cases ef
def retN : Sm := fun ρ => some (.rt .non, ρ)
theorem is_retN : PS X (.Return none pos) (tS k fx nr retN) := psW ps_retN fun E σ H ⟨ρ, O, C, S, r, ef, q⟩ => by
  cases ef
  refine q .non H [] (RO.ret (L := C) .non (fun _ z => z) (.inr rfl)) (by simp) (fun a z => by cases z) ⟨fun _ _ z _ => z, fun a z => (by cases z), fun _ => rfl⟩
/-- an expression whose value is dropped -/
def dropS (f : Pk) : Sm := fun ρ => (f ρ).map fun _ => (.nx, ρ)
theorem is_expr (h : PE X e (tP k fa)) (hs : swapsWith e none pos.line X.env = pure false := by rfl) : PS X (.Expr e pos) (tS k fx nr (dropS fa)) := psW (ps_expr h hs) fun E σ H ⟨ρ, O, C, S, r, ef, q⟩ => by
  obtain ⟨⟨n, d⟩, ed, rfl⟩ := Option.map_eq_some_iff.mp ef
  exact ⟨ρ, O, C, S, n, d, ed, fun v H' e1 _ => q σ H' O (S.ex e1) (Stp.ex e1 fun _ z => .inl z)⟩

/-! #### an owned list is changed -/
theorem set_same {α : Type} : ∀ (l : List α) (i : Nat) (x : α), l[i]? = some x → l.set i x = l
  | [], _, _, h => by simp at h
  | y :: l, 0, x, h => by
    have : y = x := by simpa using h
    rw [this]
    rfl
  | y :: l, i + 1, x, h => by
    rw [List.set_cons_succ, set_same l i x (by simpa using h)]
theorem Sg.chg {C O : List Addr} {σ : L2.St} {ρ : Rho} {H : Hp} {i n : Nat} {d : D} (g : Sg k C σ ρ O H) (e : ρ[i]? = some (some ⟨true, n, d⟩)) :
    ∃ v P, σ[i]? = some (some v) ∧ RO k (O ++ C) H n v d P ∧ P.Nodup ∧ (∀ a, a ∈ P → a ∈ O) ∧
      ∀ {H2 : Hp} {n' : Nat} {d' : D} {P' O1 : List Addr}, (∀ a o, H a = some o → a ∉ P → H2 a = some o) → RO k ((O1 ++ O) ++ C) H2 n' v d' P' → P'.Nodup → (∀ a, a ∈ P' → a ∈ P ∨ a ∈ O1) → (∀ a, a ∈ O1 → H a = none) → Dom P H2 → Dom O1 H2 →
        Sg k C σ (ρ.set i (some ⟨true, n', d'⟩)) (O1 ++ O) H2 ∧ ∀ fx, Stp fx σ O H σ (O1 ++ O) H2 := by
  obtain ⟨O', rs, nd, sb⟩ := g.rs
  obtain ⟨x, A, P, B, eO, ex, rc, hd, f⟩ := rs.at e
  subst eO
  cases rc with
  | @own v _ _ _ ro =>
    have nd0 := nd
    simp only [List.nodup_append, List.mem_append] at nd
    have sbP : ∀ a, a ∈ P → a ∈ O := fun a z => sb a (by simp only [List.mem_append]; exact .inr (.inl z))
    refine ⟨v, P, ex, ro, nd.2.1.1, sbP, fun {H2 n' d' P' O1} hk ro' nd' hp hn dP d1 => ?_⟩
    have out : ∀ a, a ∈ O1 → a ∉ O ++ C := fun a h z => by
      obtain ⟨o, e⟩ := g.dom a z
      rw [hn a h] at e; cases e
    refine ⟨⟨⟨A ++ (P' ++ B), ?_, ?_, fun a h => ?_⟩, fun a h => ?_, fun a h => ?_⟩, fun fx => ⟨fun a o h n => hk a o h fun z => n (sbP a z), fun a h => ?_, fun _ => rfl⟩⟩
    · have r2 := f (L' := (O1 ++ O) ++ C) (M' := O1 ++ O) (H' := H2) (x' := some v) (s' := some ⟨true, n', d'⟩) (O1' := P') ⟨fun a o h n => hk a o h fun z => n (sbP a z), fun a h o q => hk a o q fun z => ?_, fun a h z => h (List.mem_append_left _ z), fun a h => ?_, fun a h => ?_⟩ (.own ro')
      · rw [set_same _ _ _ ex] at r2
        exact r2
      · simp only [List.mem_append] at h
        grind
      · simp only [List.mem_append] at h ⊢
        rcases h with (h | h) | h
        · exact .inr (hn a h)
        · exact .inl (.inl h)
        · exact .inl (.inr h)
      · simp only [List.mem_append] at h ⊢
        rcases h with h | h
        · exact .inr (hn a h)
        · exact .inl h
    · have q : ∀ a, a ∈ A ++ B → a ∉ O1 := fun a h z => out a z (List.mem_append_left _ (sb a (by simp only [List.mem_append] at h ⊢; grind)))
      simp only [List.nodup_append, List.mem_append] at q ⊢
      grind
    · simp only [List.mem_append] at h ⊢
      have := sb a
      simp only [List.mem_append] at this
      grind
    · rcases List.mem_append.mp h with h | h
      · exact fun z => out a h (List.mem_append_right _ z)
      · exact g.ap a h
    · by_cases hp' : a ∈ P
      · exact dP a hp'
      · simp only [List.mem_append] at h
        rcases h with (h | h) | h
        · exact d1 a h
        · obtain ⟨o, q⟩ := g.dom a (List.mem_append_left _ h)
          exact ⟨o, hk a o q hp'⟩
        · obtain ⟨o, q⟩ := g.dom a (List.mem_append_right _ h)
          exact ⟨o, hk a o q hp'⟩
    · rcases List.mem_append.mp h with h | h
      · exact .inr (hn a h)
      · exact .inl h
theorem ROs.app {L : List Addr} {H : Hp} {n : Nat} : ∀ {vs ws : List V} {ds es : List D} {O P : List Addr}, ROs k L H n vs ds O → ROs k L H n ws es P → ROs k L H n (vs ++ ws) (ds ++ es) (O ++ P)
  | _, _, _, _, _, _, .nil, h => h
  | _, _, _, _, _, _, .cons h1 h2, h => by
    rw [List.append_assoc]
    exact .cons h1 (ROs.app h2 h)
theorem ROs.len {L : List Addr} {H : Hp} {n : Nat} : ∀ {vs : List V} {ds : List D} {O : List Addr}, ROs k L H n vs ds O → vs.length = ds.length
  | _, _, _, .nil => rfl
  | _, _, _, .cons _ h => by simp [ROs.len h]
/-- x.append(e) -/
def appS (i m : Nat) (f : Rho → Option D) : Sm := fun ρ => match ρ[i]? with
  | some (some ⟨true, n, .lst ds⟩) => if n = m + 1 ∧ ds.length < 99999 then (f ρ).map fun d => (.nx, ρ.set i (some ⟨true, m + 1, .lst (ds ++ [d])⟩)) else none
  | _ => none
theorem as_app {i m : Nat} {f : Rho → Option D} {E : Ends} {σ : L2.St} {H : Hp} (h : tS k fx nr (appS i m f) E σ H) : tDrop (tBM k.K "list" rAppend (tVar i) (tCons (tG k m f) tNil)) E σ H := by
  obtain ⟨ρ, O, C, S, r, ef, q⟩ := h
  unfold appS at ef
  split at ef
  · rename_i n ds e0
    split at ef
    · rename_i hn
      obtain ⟨rfl, hz⟩ := hn
      obtain ⟨d, ed, rfl⟩ := Option.map_eq_some_iff.mp ef
      obtain ⟨v, P, ev, ro, ndP, sbP, go⟩ := S.chg e0
      cases ro with
      | flat _ hm => cases hm
      | @lst _ l vs _ O2 hl ros =>
        refine ⟨_, ev, .inl ⟨rfl, _, SqL.of hl⟩, ρ, O, C, S, d, ed, fun y H1 O1 e1 ry nd1 nw1 => ⟨l, vs, y, rfl, rfl, e1 _ _ hl, line1e5' (by rw [ros.len]; omega), ?_⟩⟩
        have lO : l ∈ O := sbP l List.mem_cons_self
        have nl1 : ∀ a, a ∈ O1 → a ≠ l := fun a h z => by
          have := nw1 a h
          rw [z, hl] at this
          cases this
        have nl2 : ∀ a, a ∈ O2 → a ≠ l := fun a h z => (List.nodup_cons.mp ndP).1 (z ▸ h)
        have k1 : ∀ a o, H1 a = some o → a ≠ l → upd H1 l (.lst (vs ++ [y])) a = some o := fun a o h n => by rw [upd_ne n]; exact h
        have hnew : ROs k ((O1 ++ O) ++ C) (upd H1 l (.lst (vs ++ [y]))) m (vs ++ [y]) (ds ++ [d]) (O2 ++ O1) := by
          refine ROs.app (ROs.mono ds (L := O ++ C) ⟨fun a o h n => k1 a o (e1 a o h) fun z => n (List.mem_append_left _ (z ▸ lO)), fun a h o q => k1 a o (e1 a o q) (nl2 a h), fun a z => ?_⟩ ros) ?_
          · simp only [List.mem_append] at z ⊢
            rcases z with (z | z) | z
            · exact .inr (nw1 a z)
            · exact .inl (.inl z)
            · exact .inl (.inr z)
          · have h0 : RO k ((O1 ++ O) ++ C) (upd H1 l (.lst (vs ++ [y]))) m y d O1 := RO.mono d (L := O1 ++ (O ++ C)) ⟨fun a o h n => k1 a o h fun z => n (by rw [z]; simp only [List.mem_append]; exact .inr (.inl lO)), fun a h o q => k1 a o q (nl1 a h), fun a z => .inl (by rw [List.append_assoc] at z; exact z)⟩ ry
            have := ROs.cons h0 .nil
            rw [List.append_nil] at this
            exact this
        have fin := go (H2 := upd H1 l (.lst (vs ++ [y]))) (n' := m + 1) (d' := .lst (ds ++ [d])) (P' := l :: (O2 ++ O1)) (O1 := O1) (fun a o h n => k1 a o (e1 a o h) fun z => n (z ▸ List.mem_cons_self)) (.lst upd_same hnew) ?_ (fun a h => ?_) nw1 (fun a h => ?_) (fun a h => ?_)
        · exact q σ _ _ fin.1 (fin.2 fx)
        · rw [List.nodup_cons] at ndP ⊢
          refine ⟨fun z => ?_, ?_⟩
          · rcases List.mem_append.mp z with z | z
            · exact ndP.1 z
            · exact nl1 l z rfl
          · rw [List.nodup_append]
            refine ⟨ndP.2, nd1, fun a h b h' z => ?_⟩
            subst z
            obtain ⟨o, q⟩ := S.dom a (List.mem_append_left _ (sbP a (List.mem_cons_of_mem _ h)))
            rw [nw1 a h'] at q
            cases q
        · rcases List.mem_cons.mp h with h | h
          · exact .inl (h ▸ List.mem_cons_self)
          · rcases List.mem_append.mp h with h | h
            · exact .inl (List.mem_cons_of_mem _ h)
            · exact .inr h
        · by_cases hal : a = l
          · subst hal; exact ⟨_, upd_same⟩
          · obtain ⟨o, q⟩ := S.dom a (List.mem_append_left _ (sbP a h))
            exact ⟨o, k1 a o (e1 a o q) hal⟩
        · obtain ⟨o, q⟩ := RO.dom d ry a h
          exact ⟨o, k1 a o q (nl1 a h)⟩
    · cases ef
  · cases ef
theorem is_app {i m : Nat} {f : Rho → Option D} (hk : k.K = X.K) (h : PS X st (tDrop (tBM X.K "list" rAppend (tVar i) (tCons (tG k m f) tNil)))) : PS X st (tS k fx nr (appS i m f)) := psW h fun E σ H q => hk ▸ as_app q
end
end Iv

set_option Elab.async false
set_option linter.all false
set_option maxRecDepth 100000
set_option maxHeartbeats 4000000
namespace Iv
open PySem PySem.Spec PyProof.Rows L2

section
variable {X : Cx} {k : Wd} {fx : Bool} {nr n : Nat} {e a b c tg elt iter : Expr} {st : Stmt} {rest body : List Stmt} {pos : Pos} {fa fb : Pk} {f g : Sm} {ft : Rho → Option Bool}
/-! #### a new list given up -/
def frP (f : Rho → Option D) : Pk := fun ρ => (f ρ).map fun d => (0, d)
theorem ip_of {f : Rho → Option D} (h : PE X e (tG k n f)) : PE X e (tP k (frP f)) := peW h fun σ H Q ⟨ρ, O, C, S, m, d, ef, q⟩ => by
  obtain ⟨d', ed, ef⟩ := Option.map_eq_some_iff.mp ef
  cases ef
  refine ⟨ρ, O, C, S, d, ed, fun v H' O1 ex ro nd nw => q v H' ex (RO.freeze d ⟨fun a z => List.mem_append_right _ z, fun a z1 z2 => ?_⟩ ro)⟩
  obtain ⟨o, q⟩ := S.dom a z2
  rw [nw a z1] at q
  cases q

/-! #### for, while -/
def forL (bd : Bd) (f : Sm) : List D → Sm
  | [], ρ => some (.nx, ρ)
  | d :: ds, ρ => (bd d ρ).bind fun ρ1 => (f ρ1).bind fun r => match r with
    | (.nx, ρ2) => forL bd f ds ρ2
    | (.ct, ρ2) => forL bd f ds ρ2
    | (.bk, ρ2) => some (.nx, ρ2)
    | (.rt d, ρ2) => some (.rt d, ρ2)
def forS (fi : Rho → Option (List D)) (bd : Bd) (f : Sm) : Sm := fun ρ => (fi ρ).bind fun ds => forL bd f ds ρ
theorem is_for {fi : Rho → Option (List D)} {bd : Bd} {is : List Nat} (hi : PI X tg iter (tI k fi)) (hg : PG X tg (tTg k is bd)) (hb : PSs X body (tS k fx nr f)) (hp : PassesOwn (model X.prog X.w) X.A X.env X.xe) (hc : X.calm = true)
    (hs : ∀ x, foldedSetIterable iter X.env x = pure x := by intro _; rfl) (hz : fx = true → 0 ∉ is := by first | exact fun h => Bool.noConfusion h | exact fun _ => by decide) : PS X (.For tg iter body [] pos) (tS k fx nr (forS fi bd f)) := psW (ps_for hp hc hi hg hb hs) fun E σ H ⟨ρ, O, C, S, r, ef, q⟩ => by
  obtain ⟨ds, ed, ef1⟩ := Option.bind_eq_some_iff.mp ef
  clear ef
  refine ⟨ρ, O, C, S, ds, ed, fun J Src H1 e1 wk src => ?_⟩
  refine ⟨fun i m σ2 H2 => m = ds.length - i ∧ i ≤ ds.length ∧ ∃ ρ2 O2, Sg k C σ2 ρ2 O2 H2 ∧ Src (O2 ++ C) H2 ∧ forL bd f (ds.drop i) ρ2 = some r ∧ PostS k C fx nr σ2 O2 H2 E r, ⟨ds.length, by omega, Nat.zero_le _, ρ, O, S.ex e1, src, ef1, q.step (Stp.ex e1 fun _ z => .inl z)⟩, ?_⟩
  rintro i m σ2 H2 ⟨rfl, hi', ρ2, O2, S2, src2, er, q2⟩
  by_cases hlt : i < ds.length
  · refine .inr ⟨wk.go i _ H2 src2 hlt, fun σ3 H3 => ds.length - (i + 1) = ds.length - (i + 1) ∧ i + 1 ≤ ds.length ∧ ∃ ρ2 O2, Sg k C σ3 ρ2 O2 H3 ∧ Src (O2 ++ C) H3 ∧ forL bd f (ds.drop (i + 1)) ρ2 = some r ∧ PostS k C fx nr σ3 O2 H3 E r, fun σ' H' h => ⟨ds.length - (i + 1), by omega, h⟩, fun x H3 hy => ?_⟩
    obtain ⟨d, hd⟩ : ∃ d, ds[i]? = some d := ⟨_, List.getElem?_eq_getElem hlt⟩
    obtain ⟨ex3, rx⟩ := wk.yld i _ H2 x H3 d src2 S2.dom hd hy
    have edrop : ds.drop i = d :: ds.drop (i + 1) := by
      rw [List.drop_eq_getElem_cons hlt]
      have : ds[i] = d := by
        have := List.getElem?_eq_getElem hlt
        rw [this] at hd
        exact Option.some.inj hd
      rw [this]
    rw [edrop] at er
    obtain ⟨ρ3, eb, er⟩ := Option.bind_eq_some_iff.mp (show (bd d ρ2).bind (fun ρ1 => (f ρ1).bind fun r => match r with
      | (.nx, ρ2) => forL bd f (ds.drop (i + 1)) ρ2
      | (.ct, ρ2) => forL bd f (ds.drop (i + 1)) ρ2
      | (.bk, ρ2) => some (.nx, ρ2)
      | (.rt d, ρ2) => some (.rt d, ρ2)) = some r from er)
    obtain ⟨⟨fl, ρ4⟩, e4, er⟩ := Option.bind_eq_some_iff.mp er
    refine ⟨ρ2, O2, C, d, S2.ex ex3, rx, ρ3, eb, fun σ4 S4 w => ⟨ρ3, O2, C, S4, (fl, ρ4), e4, ?_⟩⟩
    have q3 := q2.step (Stp.tg ex3 (fun _ z => .inl z) w hz)
    have src3 : Src (O2 ++ C) H3 := wk.keep _ _ _ _ src2 (fun a o q _ => ex3 a o q) (fun a z => .inl z)
    have nxt : ∀ (ρ5 : Rho), forL bd f (ds.drop (i + 1)) ρ5 = some r → ∀ σ' H' O', Sg k C σ' ρ5 O' H' → Stp fx σ4 O2 H3 σ' O' H' →
        ds.length - (i + 1) = ds.length - (i + 1) ∧ i + 1 ≤ ds.length ∧ ∃ ρ2 O2, Sg k C σ' ρ2 O2 H' ∧ Src (O2 ++ C) H' ∧ forL bd f (ds.drop (i + 1)) ρ2 = some r ∧ PostS k C fx nr σ' O2 H' E r := fun ρ5 e5 σ' H' O' S' s' =>
      ⟨rfl, hlt, ρ5, O', S', wk.keep _ _ _ _ src3 (fun a o q n => s'.keep a o q fun z => n (List.mem_append_left _ z)) (fun a z => (List.mem_append.mp z).elim (fun z => (s'.new a z).imp (List.mem_append_left _) id) fun z => .inl (List.mem_append_right _ z)), e5, q3.step s'⟩
    cases fl with
    | nx => exact fun σ' H' O' S' s' => nxt ρ4 er σ' H' O' S' s'
    | ct => exact fun σ' H' O' S' s' => nxt ρ4 er σ' H' O' S' s'
    | bk => cases er; exact fun σ' H' O' S' s' => q3 σ' H' O' S' s'
    | rt d => cases er; exact q3
  · refine .inl ⟨wk.stop i _ H2 src2 (by omega), ?_⟩
    rw [List.drop_eq_nil_of_le (by omega)] at er
    cases er
    exact q2 σ2 H2 O2 S2 (Stp.refl _ _ _ _)
def whL (c : Rho → Option Bool) (f : Sm) : Nat → Sm
  | 0, _ => none
  | n + 1, ρ => (c ρ).bind fun b => if b = true then (f ρ).bind fun r => match r with
    | (.nx, ρ2) => whL c f n ρ2
    | (.ct, ρ2) => whL c f n ρ2
    | (.bk, ρ2) => some (.nx, ρ2)
    | (.rt d, ρ2) => some (.rt d, ρ2)
    else some (.nx, ρ)
def whS (m : Nat) (c : Rho → Option Bool) (f : Sm) : Sm := fun ρ => whL c f m ρ
theorem is_while {m0 : Nat} (hc : PT X c (tT k ft)) (hb : PSs X body (tS k fx nr f)) (hp : PassesOwn (model X.prog X.w) X.A X.env X.xe) : PS X (.While c body [] pos) (tS k fx nr (whS m0 ft f)) := psW (ps_while hp hc hb) fun E σ H ⟨ρ, O, C, S, r, ef, q⟩ => by
  refine ⟨fun m σ2 H2 => ∃ ρ2 O2, Sg k C σ2 ρ2 O2 H2 ∧ whL ft f m ρ2 = some r ∧ PostS k C fx nr σ2 O2 H2 E r, ⟨m0, ρ, O, S, ef, q⟩, ?_⟩
  rintro m σ2 H2 ⟨ρ2, O2, S2, er, q2⟩
  cases m with
  | zero => cases er
  | succ m =>
    obtain ⟨t, et, er⟩ := Option.bind_eq_some_iff.mp (show (ft ρ2).bind (fun b => if b = true then (f ρ2).bind fun r => match r with
      | (.nx, ρ2) => whL ft f m ρ2
      | (.ct, ρ2) => whL ft f m ρ2
      | (.bk, ρ2) => some (.nx, ρ2)
      | (.rt d, ρ2) => some (.rt d, ρ2)
      else some (.nx, ρ2)) = some r from er)
    refine ⟨ρ2, O2, C, S2, t, et, fun H3 e3 => ?_⟩
    have q3 := q2.step (Stp.ex e3 fun _ z => .inl z)
    cases t with
    | true =>
      rw [if_pos rfl] at er
      obtain ⟨⟨fl, ρ4⟩, e4, er⟩ := Option.bind_eq_some_iff.mp er
      simp only [if_true]
      refine ⟨fun σ3 H3 => ∃ ρ2 O2, Sg k C σ3 ρ2 O2 H3 ∧ whL ft f m ρ2 = some r ∧ PostS k C fx nr σ3 O2 H3 E r, fun σ' H' h => ⟨m, Nat.lt_succ_self _, h⟩, ρ2, O2, C, S2.ex e3, (fl, ρ4), e4, ?_⟩
      cases fl with
      | nx => exact fun σ' H' O' S' s' => ⟨ρ4, O', S', er, q3.step s'⟩
      | ct => exact fun σ' H' O' S' s' => ⟨ρ4, O', S', er, q3.step s'⟩
      | bk => cases er; exact fun σ' H' O' S' s' => q3 σ' H' O' S' s'
      | rt d => cases er; exact q3
    | false =>
      have er : some (Fl.nx, ρ2) = some r := er
      cases er
      simp only [Bool.false_eq_true, if_false]
      exact q3 σ2 H3 O2 (S2.ex e3) (Stp.refl _ _ _ _)

/-! #### an owned list is given up from here on (no code) -/
def frzS (i : Nat) (f : Sm) : Sm := fun ρ => match ρ[i]? with
  | some (some ⟨true, _, d⟩) => f (ρ.set i (some ⟨false, 0, d⟩))
  | _ => none
theorem Sg.frz {C O : List Addr} {σ : L2.St} {ρ : Rho} {H : Hp} {i n : Nat} {d : D} (g : Sg k C σ ρ O H) (e : ρ[i]? = some (some ⟨true, n, d⟩)) : ∃ O2, (∀ a, a ∈ O2 → a ∈ O) ∧ Sg k C σ (ρ.set i (some ⟨false, 0, d⟩)) O2 H := by
  obtain ⟨O', rs, nd, sb⟩ := g.rs
  obtain ⟨x, A, P, B, eO, ex, rc, hd, f⟩ := rs.at e
  subst eO
  cases rc with
  | @own v _ _ _ ro =>
    have sbP : ∀ a, a ∈ P → a ∈ O := fun a z => sb a (by simp only [List.mem_append]; exact .inr (.inl z))
    have h2 : ∀ a, a ∈ O.filter (fun a => decide (a ∉ P)) → a ∈ O ∧ a ∉ P := fun a z => by
      have := List.mem_filter.mp z
      exact ⟨this.1, of_decide_eq_true this.2⟩
    refine ⟨O.filter (fun a => decide (a ∉ P)), fun a z => (h2 a z).1, ⟨A ++ ([] ++ B), ?_, ?_, fun a z => ?_⟩, fun a z => g.ap a (h2 a z).1, fun a z => ?_⟩
    · have r2 := f (L' := O.filter (fun a => decide (a ∉ P)) ++ C) (M' := O.filter (fun a => decide (a ∉ P))) (H' := H) (x' := some v) (s' := some ⟨false, 0, d⟩) (O1' := []) ⟨fun _ _ z _ => z, fun _ _ _ z => z, fun a h z => h (List.mem_append_left _ z), fun a z => .inl ?_, fun a z => .inl (h2 a z).1⟩ (.pk (RO.freeze d ⟨fun a z => ?_, fun a z1 z2 => ?_⟩ ro))
      · rw [set_same _ _ _ ex] at r2
        exact r2
      · rcases List.mem_append.mp z with z | z
        · exact List.mem_append_left _ (h2 a z).1
        · exact List.mem_append_right _ z
      · rcases List.mem_append.mp z with z | z
        · exact List.mem_append_left _ (h2 a z).1
        · exact List.mem_append_right _ z
      · rcases List.mem_append.mp z2 with z | z
        · exact (h2 a z).2 z1
        · exact g.ap a (sbP a z1) z
    · simp only [List.nodup_append, List.nil_append] at nd ⊢
      refine ⟨nd.1, nd.2.1.2.1, fun a h b h' => nd.2.2 a h b (List.mem_append_right _ h')⟩
    · refine List.mem_filter.mpr ⟨sb a ?_, decide_eq_true fun z2 => ?_⟩
      · simp only [List.mem_append, List.nil_append] at z ⊢
        rcases z with z | z
        · exact .inl z
        · exact .inr (.inr z)
      · simp only [List.nodup_append, List.mem_append, List.nil_append] at nd z
        rcases z with z | z
        · exact nd.2.2 a z a (.inl z2) rfl
        · exact nd.2.1.2.2 a z2 a z rfl
    · rcases List.mem_append.mp z with z | z
      · exact g.dom a (List.mem_append_left _ (h2 a z).1)
      · exact g.dom a (List.mem_append_right _ z)
theorem as_frz {i : Nat} {E : Ends} {σ : L2.St} {H : Hp} (h : tS k fx nr (frzS i f) E σ H) : tS k fx nr f E σ H := by
  obtain ⟨ρ, O, C, S, r, ef, q⟩ := h
  unfold frzS at ef
  split at ef
  · rename_i n d e0
    obtain ⟨O2, hs, S2⟩ := S.frz e0
    exact ⟨_, O2, C, S2, r, ef, q.step ⟨fun _ _ z _ => z, fun a z => .inl (hs a z), fun _ => rfl⟩⟩
  · cases ef
theorem is_frz {i : Nat} (h : PSs X rest (tS k fx nr f)) : PSs X rest (tS k fx nr (frzS i f)) := pssW h fun E σ H q => as_frz q
theorem is_frz1 {i : Nat} (h : PS X st (tS k fx nr f)) : PS X st (tS k fx nr (frzS i f)) := psW h fun E σ H q => as_frz q
/-- names forgotten -/
def clrS (vs : List Nat) (f : Sm) : Sm := fun ρ => f (wipeR ρ vs)
theorem is_clr {vs : List Nat} (h : PSs X rest (tS k fx nr f)) : PSs X rest (tS k fx nr (clrS vs f)) := pssW h fun E σ H ⟨ρ, O, C, S, r, ef, q⟩ => ⟨_, O, C, S.clr vs, r, ef, q⟩
end

/-! ### defs -/
def spF (k : Wd) (n nr : Nat) (F : Ar → Option D) : Sp := fun vs H Q _ => ∃ as C d, vs.length = n ∧ RA k C H vs as ∧ Dom C H ∧ F as = some d ∧
  ∀ v H' O1, Ex H H' → RO k (O1 ++ C) H' nr v d O1 → O1.Nodup → (∀ a ∈ O1, H a = none) → Q v H'
def startR (N : Nat) (as : Ar) : Rho := as.map (fun a => some ⟨false, a.1, a.2⟩) ++ List.replicate (N - as.length) none
def runB (n N : Nat) (f : Sm) (as : Ar) : Option D := if as.length = n then (f (startR N as)).bind fun r => match r with
  | (.rt d, _) => some d
  | (.nx, _) => some .non
  | _ => none
  else none
section
variable {k : Wd} {C : List Addr} {H : Hp}
theorem RS.nones (L M : List Addr) : ∀ m : Nat, RS k L M H (List.replicate m none) (List.replicate m none) []
  | 0 => .nil
  | m + 1 => .cons (O1 := []) (O2 := []) .no (RS.nones L M m)
theorem RS.start (m : Nat) : ∀ {vs : List V} {as : Ar}, RA k C H vs as → RS k C [] H (vs.map some ++ List.replicate m none) (as.map (fun a => some ⟨false, a.1, a.2⟩) ++ List.replicate m none) []
  | _, _, .nil => RS.nones C [] m
  | _, _, .cons h1 h2 => .cons (O1 := []) (O2 := []) (.pk h1) (RS.start m h2)
theorem Sg.start {vs : List V} {as : Ar} {N : List Str} (r : RA k C H vs as) (d : Dom C H) : Sg k C (start N vs) (startR N.length as) [] H := by
  refine ⟨⟨[], ?_, by simp, fun a z => z⟩, fun a z => (by cases z), d⟩
  unfold L2.start startR
  rw [r.len]
  exact RS.start _ r
theorem run_spF {n nr : Nat} {N : List Str} {f : Sm} {vs : List V} {Q : VK} {E : XK} (h : spF k n nr (runB n N.length f) vs H Q E) : tS k false nr f { nx := fun _ H' => Q .non H', rt := Q } (start N vs) H := by
  obtain ⟨as, C, d, hl, ra, dm, ef, q⟩ := h
  unfold runB at ef
  split at ef
  · obtain ⟨⟨fl, ρ⟩, e1, ef⟩ := Option.bind_eq_some_iff.mp ef
    refine ⟨_, [], C, Sg.start ra dm, (fl, ρ), e1, ?_⟩
    cases fl with
    | nx =>
      cases ef
      exact fun σ' H' O' S' s' => q .non H' [] (fun a o e => s'.keep a o e fun z => by cases z) (RO.ret (L := C) .non (fun _ z => z) (.inr rfl)) (by simp) (fun a z => by cases z)
    | rt d =>
      cases ef
      exact fun v H' O1 ro nd _ s' => q v H' O1 (fun a o e => s'.keep a o e fun z => by cases z) ro nd fun a z => (s'.new a z).elim (fun z => by cases z) id
    | bk => cases ef
    | ct => cases ef
  · cases ef
end
theorem runB_len {n N : Nat} {f : Sm} {as : Ar} {d : D} (h : runB n N f as = some d) : as.length = n := by
  unfold runB at h
  split at h
  · assumption
  · cases h
/-- what a call leans on -/
def OkF (P : Program) (w : World) (K : PySem.W.Frag) (mg : Str → Option Value) (base : Heap) (k : Wd) (lv : Nat) (x : Str) (n nr : Nat) (F : Ar → Option D) : Prop :=
  (∀ as d, F as = some d → as.length = n) ∧ ∃ f fd ps, ps.length = n ∧ mg x = some (.ref f) ∧ PySem.W.keepIn K (.ref f) = true ∧ Binds K fd ps [] ∧ FnOk P w K mg base CX0 lv f fd ps (spF k n nr F)
theorem ok_fn {P : Program} {w : World} {K : PySem.W.Frag} {mg : Str → Option Value} {base : Heap} {k : Wd} {lv nr : Nat} {x qual : Str} {params : Arguments} {body : List Stmt} {scope : Scope} {kws : List (Str × V)} {f : Addr} {fd : FuncData} {N ps : List Str} {fb : Sm}
    (F : FunD K x qual params body scope [] kws f fd) (S : FnScope N ps scope) (m : mg x = some (.ref f)) (b : Binds K fd ps [])
    (hb : ∀ (cdv : Value) (A : Around) (outer : List Env) (s : Shared) (H : Hp) (E : XK), Room lv (A.deeper (envOfC qual scope s.heap.objs.size f cdv)) → PSs (cxOf CX0 P w K mg base N qual scope f cdv A outer s H E).nox body (tS k false nr fb)) :
    OkF P w K mg base k (lv + 1) x ps.length nr (runB ps.length N.length fb) :=
  ⟨fun _ _ h => runB_len h, f, fd, ps, rfl, m, F.kp, b, F.ok S (fun vs H Q E h => by
    obtain ⟨as, C, d, hl, _⟩ := h
    exact hl) fun cdv A outer s H vs Q E hr h => ⟨_, PSs.nox (hb cdv A outer s H E hr), run_spF h⟩⟩
def callG (F : Ar → Option D) (fr : Pa) : Rho → Option D := fun ρ => (fr ρ).bind F
section
variable {X : Cx} {k : Wd} {lv nr n : Nat} {e : Expr} {es : List Expr} {pos p : Pos} {fr : Pa} {F : Ar → Option D} {x : Str}
theorem ig_call (h : OkF X.prog X.w X.K X.mg X.base k lv x n nr F) (hr : Room lv X.A) (hg : Gl X x) (ha : PA X (e :: es) (tAr k fr)) (hdb : (x == ("__debug__" : Str)) = false := by decide) (he : starEach (e :: es) X.env = (false, eval e X.env) :: starEach es X.env := by rfl) (hpl : (backTo pos (starEach es X.env)).any (·.1) = false := by rfl) :
    PE X (.Call (.Name x p) (e :: es) [] pos) (tG k nr (callG F fr)) := by
  obtain ⟨hna, f, fd, ps, hps, m, hk, hb, G⟩ := h
  refine peW (pe_call G hr hg m hk hb .nil pass0 ha hdb he hpl) fun σ H Q ⟨ρ, O, C, S, d, ef, q⟩ => ?_
  obtain ⟨as, ea, ef⟩ := Option.bind_eq_some_iff.mp ef
  refine ⟨ρ, O, C, S, as, ea, fun vs H1 e1 ra => ?_⟩
  show spF k n nr F (vs ++ []) H1 Q E0
  rw [List.append_nil]
  exact ⟨as, O ++ C, d, by rw [ra.len]; exact hna _ _ ef, ra, Dom.ex S.dom e1, ef, fun v H' O1 e2 ro nd nw => q v H' O1 (e1.trans e2) ro nd fun a z => e1.free (nw a z)⟩
end
end Iv

set_option Elab.async false
set_option linter.all false
set_option maxRecDepth 100000
set_option maxHeartbeats 4000000
namespace Iv
open PySem PySem.Spec PyProof.Rows L2

section
variable {X : Cx} {k : Wd} {fx : Bool} {nr n lv : Nat} {e a b c o : Expr} {es : List Expr} {st : Stmt} {pos p apos : Pos} {fa fb : Pk} {fr : Pa} {F : Ar → Option D}

/-! #### a field stored: o.f = e, o the def's own object -/
theorem putF_new {f : Str} {v : V} : ∀ {fs : List (Str × V)}, (∀ q ∈ fs, q.1 ≠ f) → putF f v fs = fs ++ [(f, v)]
  | [], _ => rfl
  | (g, x) :: r, h => by
    show (if g = f then _ else _) = _
    rw [if_neg (h (g, x) List.mem_cons_self), putF_new fun q hq => h q (List.mem_cons_of_mem _ hq)]
    rfl
theorem zip_app {α β : Type} : ∀ {as : List α} {bs : List β} (a : α) (b : β), as.length = bs.length → (as ++ [a]).zip (bs ++ [b]) = as.zip bs ++ [(a, b)]
  | [], [], _, _, _ => rfl
  | x :: as, y :: bs, a, b, h => by
    simp only [List.cons_append, List.zip_cons_cons, zip_app a b (Nat.succ.inj h)]
  | [], _ :: _, _, _, h => by cases h
  | _ :: _, [], _, _, h => by cases h
def fldS (i : Nat) (cs : List Str) (f : Str) (g : Rho → Option D) : Sm := fun ρ => match ρ[i]? with
  | some (some ⟨true, 1, .obj c ns xs⟩) => if c ∈ cs ∧ f ∉ ns ∧ ns.length < 100 then (g ρ).map fun d => (.nx, ρ.set i (some ⟨true, 1, .obj c (ns ++ [f]) (xs ++ [d])⟩)) else none
  | _ => none
theorem is_fld {i : Nat} {cs : List Str} {f : Str} {p' : Pos} {g : Rho → Option D} (ho : PE X o (tVar i)) (he : PE X e (tG k 0 g)) (hk : k.K = X.K) (hc : ∀ c ∈ cs, AtOk k c f) (hs : swapsWith e (some (.Attribute o f p')) pos.line X.env = pure false := by rfl) :
    PS X (.Assign [.Attribute o f p'] e pos) (tS k fx nr (fldS i cs f g)) := psW (ps_fld ho he hs) fun E σ H ⟨ρ, O, C, S, r, ef, q⟩ => by
  unfold fldS at ef
  split at ef
  · rename_i c ns xs e0
    split at ef
    · rename_i hn
      obtain ⟨hcs, hf, hz⟩ := hn
      obtain ⟨d, ed, rfl⟩ := Option.map_eq_some_iff.mp ef
      refine ⟨ρ, O, C, S, d, ed, fun v H1 O1 e1 ro _ _ => ?_⟩
      cases ro with
      | zero rd =>
        have S1 := S.ex e1
        obtain ⟨w, P, ew, row, ndP, sbP, go⟩ := S1.chg e0
        cases row with
        | flat _ hm => cases hm
        | @obj _ a _ _ vs _ hob rvs =>
          obtain ⟨hl, dx, hob⟩ := hob
          obtain ⟨c1, c2⟩ := hc c hcs
          refine ⟨_, ew, a, k.cn c, dx, ns.zip vs, rfl, hob, hk ▸ c1, hk ▸ c2, ?_, ?_⟩
          · rw [List.length_zip]
            omega
          · have hp : putF f v (ns.zip vs) = (ns ++ [f]).zip (vs ++ [v]) := by
              rw [zip_app f v hl]
              refine putF_new fun q hq => ?_
              have := (List.of_mem_zip hq).1
              exact fun z => hf (z ▸ this)
            rw [hp]
            have aO : a ∈ O := sbP a List.mem_cons_self
            have k1 : ∀ b o, H1 b = some o → b ∉ O ++ C → upd H1 a (.ins (k.cn c) dx ((ns ++ [f]).zip (vs ++ [v]))) b = some o := fun b o h n => by
              rw [upd_ne (fun z => n (by rw [z]; exact List.mem_append_left _ aO))]
              exact h
            have kp : Kp (O ++ C) (O ++ C) (O ++ C) (O ++ C) H1 (upd H1 a (.ins (k.cn c) dx ((ns ++ [f]).zip (vs ++ [v])))) := ⟨k1, fun _ z => z, fun a z => .inl z, fun a z => .inl z⟩
            have fin := go (H2 := upd H1 a (.ins (k.cn c) dx ((ns ++ [f]).zip (vs ++ [v])))) (n' := 1) (d' := .obj c (ns ++ [f]) (xs ++ [d])) (P' := [a]) (O1 := []) (fun b o h n => by
              rw [upd_ne (fun z => n (by rw [z]; exact List.mem_cons_self))]
              exact h) (.obj ⟨by simp [hl], dx, upd_same⟩ ?_) (by simp) (fun b h => .inl h) (fun b h => by cases h) (fun b h => by
                rw [List.mem_singleton.mp h]
                exact ⟨_, upd_same⟩) (fun b h => by cases h)
            · exact q σ _ _ fin.1 ((Stp.ex e1 fun _ z => .inl z).trans (fin.2 fx))
            · refine Rs.app ?_ (.cons ?_ .nil)
              · exact Rs.lm xs (Rs.mono kp xs (Rs.lm xs rvs))
              · exact R.lm d (R.mono kp d (rd.sub0 fun a z => z))
    · cases ef
  · cases ef
end

/-! ### __init__ -/
def spI (k : Wd) (c : Str) (n : Nat) (F : Ar → Option D) : Sp := fun vs H Q _ => ∃ a dx vs' as C d, vs = .ref a :: vs' ∧ vs'.length = n ∧ H a = some (.ins (k.cn c) dx []) ∧ a ∉ C ∧ Dom C H ∧ RS k (a :: C) [a] H (vs'.map some) (as.map fun x => some ⟨false, x.1, x.2⟩) [] ∧ F as = some d ∧
  ∀ H', (∀ b o, H b = some o → b ≠ a → H' b = some o) → RO k (a :: C) H' 1 (.ref a) d [a] → Q .non H'
def runI (c : Str) (n N : Nat) (f : Sm) (as : Ar) : Option D := if as.length = n then (f (some ⟨true, 1, .obj c [] []⟩ :: startR (N - 1) as)).bind fun r => match r with
  | (.nx, some ⟨true, 1, .obj c ns xs⟩ :: _) => some (.obj c ns xs)
  | _ => none
  else none
theorem runI_len {c : Str} {n N : Nat} {f : Sm} {as : Ar} {d : D} (h : runI c n N f as = some d) : as.length = n := by
  unfold runI at h
  split at h
  · assumption
  · cases h
section
variable {k : Wd} {H : Hp}
theorem RS.more {L M : List Addr} (m : Nat) : ∀ {σ : L2.St} {ρ : Rho} {O : List Addr}, RS k L M H σ ρ O → RS k L M H (σ ++ List.replicate m none) (ρ ++ List.replicate m none) O
  | _, _, _, .nil => RS.nones L M m
  | _, _, _, .cons h1 h2 => .cons h1 (RS.more m h2)
theorem run_spI {c : Str} {n : Nat} {N : List Str} {f : Sm} {vs : List V} {Q : VK} {E : XK} (h : spI k c n (runI c n N.length f) vs H Q E) : tS k true 0 f { nx := fun _ H' => Q .non H', rt := Q } (start N vs) H := by
  obtain ⟨a, dx, vs', as, C, d, rfl, hl, ha, aC, dm, ra, ef, q⟩ := h
  unfold runI at ef
  split at ef
  · obtain ⟨⟨fl, ρ⟩, e1, ef⟩ := Option.bind_eq_some_iff.mp ef
    have el : vs'.length = as.length := by
      have := ra.len
      simpa using this
    have eN : start N (.ref a :: vs') = some (.ref a) :: (vs'.map some ++ List.replicate (N.length - 1 - as.length) none) := by
      unfold L2.start
      rw [← el]
      simp only [List.map_cons, List.length_cons, List.cons_append]
      rw [show N.length - (vs'.length + 1) = N.length - 1 - vs'.length by omega]
    have S : Sg k C (start N (.ref a :: vs')) (some ⟨true, 1, .obj c [] []⟩ :: startR (N.length - 1) as) [a] H := by
      rw [eN]
      refine ⟨⟨[a] ++ [], ?_, by simp, fun b z => by simpa using z⟩, fun b z => by rw [List.mem_singleton.mp z]; exact aC, fun b z => ?_⟩
      · exact .cons (.own (.obj ⟨rfl, dx, ha⟩ .nil)) (RS.more _ ra)
      · rcases List.mem_append.mp z with z | z
        · rw [List.mem_singleton.mp z]; exact ⟨_, ha⟩
        · exact dm b z
    refine ⟨_, [a], C, S, (fl, ρ), e1, ?_⟩
    split at ef
    · rename_i c' ns xs ρt er
      cases ef
      cases er
      refine fun σ' H' O' S' s' => ?_
      have f0 := s'.fix rfl
      obtain ⟨Os, rs, nd, sb⟩ := S'.rs
      obtain ⟨x, A, P, B, eO, ex, rc, _, _⟩ := rs.at (i := 0) rfl
      have hx : x = some (.ref a) := by
        rw [f0, eN] at ex
        exact (Option.some.inj ex).symm
      subst hx
      cases rc with
      | own ro =>
        have eP : P = [a] := by
          cases ro with
          | flat _ hm => cases hm
          | obj _ _ => rfl
        subst eP
        refine q H' (fun b o h n => s'.keep b o h fun z => n (List.mem_singleton.mp z)) ?_
        refine RO.mono _ ⟨fun _ _ z _ => z, fun _ _ _ z => z, fun b z => .inl ?_⟩ ro
        rcases List.mem_cons.mp z with z | z
        · subst z
          exact List.mem_append_left _ (sb b (by rw [eO]; simp))
        · exact List.mem_append_right _ z
    · cases ef
  · cases ef
end
end Iv

set_option Elab.async false
set_option linter.all false
set_option maxRecDepth 100000
set_option maxHeartbeats 4000000
namespace Iv
open PySem PySem.Spec PyProof.Rows L2

/-! ### instances made, methods called -/
def OkI (P : Program) (w : World) (K : PySem.W.Frag) (mg : Str → Option Value) (base : Heap) (k : Wd) (lv : Nat) (c : Str) (n : Nat) (F : Ar → Option D) : Prop :=
  (∀ as d, F as = some d → as.length = n) ∧ ∃ f fd ps, mg c = some (.ref (k.cn c)) ∧ Mk K (k.cn c) f ∧ Binds K fd ps [] ∧ FnOk P w K mg base CX0 lv f fd ps (spI k c n F)
def OkM (P : Program) (w : World) (K : PySem.W.Frag) (mg : Str → Option Value) (base : Heap) (k : Wd) (lv : Nat) (c m : Str) (n nr : Nat) (F : Ar → Option D) : Prop :=
  (∀ as d, F as = some d → as.length = n) ∧ Cls K (k.cn c) ∧ ∃ f fd ps, Meth K (k.cn c) m f ∧ Binds K fd ps [] ∧ FnOk P w K mg base CX0 lv f fd ps (spF k n nr F)
theorem RA.rs {k : Wd} {L L' M' : List Addr} {H H' : Hp} (q : Kp L [] L' M' H H') : ∀ {vs : List V} {as : Ar}, RA k L H vs as → RS k L' M' H' (vs.map some) (as.map fun x => some ⟨false, x.1, x.2⟩) []
  | _, _, .nil => .nil
  | _, _, .cons h1 h2 => .cons (O1 := []) (O2 := []) (.pk (R.mono q _ h1)) (RA.rs q h2)
section
variable {P : Program} {w : World} {K : PySem.W.Frag} {mg : Str → Option Value} {base : Heap} {k : Wd} {lv nr : Nat} {x qual c m : Str} {params : Arguments} {body : List Stmt} {scope : Scope} {dvs : List V} {kws : List (Str × V)} {f : Addr} {fd : FuncData} {N ps : List Str} {fb : Sm}
theorem ok_init (F : FunD K x qual params body scope dvs kws f fd) (S : FnScope N ps scope) {n : Nat} (hn : ps.length = n + 1) (mc : mg c = some (.ref (k.cn c))) (M : Mk K (k.cn c) f) (b : Binds K fd ps [])
    (hb : ∀ (cdv : Value) (A : Around) (outer : List Env) (s : Shared) (H : Hp) (E : XK), Room lv (A.deeper (envOfC qual scope s.heap.objs.size f cdv)) → PSs (cxOf CX0 P w K mg base N qual scope f cdv A outer s H E).nox body (tS k true 0 fb)) :
    OkI P w K mg base k (lv + 1) c n (runI c n N.length fb) :=
  ⟨fun _ _ h => runI_len h, f, fd, ps, mc, M, b, F.ok S (fun vs H Q E h => by
    obtain ⟨a, dx, vs', as, C, d, rfl, hl, _⟩ := h
    simp [hl, hn]) fun cdv A outer s H vs Q E hr h => ⟨_, PSs.nox (hb cdv A outer s H E hr), run_spI h⟩⟩
theorem ok_meth (F : FunD K x qual params body scope dvs kws f fd) (S : FnScope N ps scope) (hc : Cls K (k.cn c)) (M : Meth K (k.cn c) m f) (b : Binds K fd ps [])
    (hb : ∀ (cdv : Value) (A : Around) (outer : List Env) (s : Shared) (H : Hp) (E : XK), Room lv (A.deeper (envOfC qual scope s.heap.objs.size f cdv)) → PSs (cxOf CX0 P w K mg base N qual scope f cdv A outer s H E).nox body (tS k false nr fb)) :
    OkM P w K mg base k (lv + 1) c m ps.length nr (runB ps.length N.length fb) :=
  ⟨fun _ _ h => runB_len h, hc, f, fd, ps, M, b, F.ok S (fun vs H Q E h => by
    obtain ⟨as, C, d, hl, _⟩ := h
    exact hl) fun cdv A outer s H vs Q E hr h => ⟨_, PSs.nox (hb cdv A outer s H E hr), run_spF h⟩⟩
end
section
variable {X : Cx} {k : Wd} {lv nr n : Nat} {e o a b : Expr} {es : List Expr} {pos p p2 apos : Pos} {fr : Pa} {fo fa fb : Pk} {F : Ar → Option D} {x c m : Str}
theorem ig_make (h : OkI X.prog X.w X.K X.mg X.base k lv c n F) (hr : Room (lv + 1) X.A) (hg : Gl X c) (ha : PA X (e :: es) (tAr k fr)) (hdb : (c == ("__debug__" : Str)) = false := by decide) (he : starEach (e :: es) X.env = (false, eval e X.env) :: starEach es X.env := by rfl) (hpl : (backTo pos (starEach es X.env)).any (·.1) = false := by rfl) :
    PE X (.Call (.Name c p) (e :: es) [] pos) (tG k 1 (callG F fr)) := by
  obtain ⟨hna, f, fd, ps, hm, M, hb, G⟩ := h
  refine peW (pe_make M G hr hg hm hb .nil pass0 ha hdb he hpl) fun σ H Q ⟨ρ, O, C, S, d, ef, q⟩ => ?_
  obtain ⟨as, ea, ef⟩ := Option.bind_eq_some_iff.mp ef
  refine ⟨ρ, O, C, S, as, ea, fun vs H1 e1 ra => ?_⟩
  intro y dx hy hdx hne
  show spI k c n F (.ref y :: (vs ++ [])) _ _ E0
  rw [List.append_nil]
  have ex : Ex H1 (upd (upd H1 dx (.own y)) y (.ins (k.cn c) dx [])) := (Ex.new hdx).trans (Ex.new (by rw [upd_ne (fun z => hne z.symm)]; exact hy))
  have dm := Dom.ex S.dom e1
  refine ⟨y, dx, vs, as, O ++ C, d, rfl, by rw [ra.len]; exact hna _ _ ef, upd_same, dm.out hy, Dom.ex dm ex, RA.rs ⟨fun b o h _ => ex b o h, fun _ _ z => (by cases z), fun b z => ?_, fun b z => ?_⟩ ra, ef, fun H' kp ro => ⟨rfl, q (.ref y) H' [y] (fun b o h => kp b o (ex b o (e1 b o h)) fun z => ?_) ro (by simp) fun b z => ?_⟩⟩
  · rcases List.mem_cons.mp z with z | z
    · exact .inr (by rw [z]; exact hy)
    · exact .inl z
  · exact .inr (by rw [List.mem_singleton.mp z]; exact hy)
  · rw [z, e1.free hy] at h
    cases h
  · rw [List.mem_singleton.mp z]
    exact e1.free hy
def methG (c m : Str) (F : Ar → Option D) (fo : Pk) (fr : Pa) : Rho → Option D := fun ρ => (fo ρ).bind fun o => match o with
  | (l, .obj c' ns xs) => if c' = c ∧ m ∉ ns then (fr ρ).bind fun as => F ((l, .obj c' ns xs) :: as) else none
  | _ => none
theorem lookup_no {m : Str} {vs : List V} : ∀ {ns : List Str}, m ∉ ns → (ns.zip vs).lookup m = none := by
  intro ns h
  rw [List.lookup_eq_none_iff]
  intro q hq
  have := (List.of_mem_zip hq).1
  simp only [bne_iff_ne, ne_eq]
  exact fun z => h (z ▸ this)
theorem ig_meth {pl : Sem Bool} (h : OkM X.prog X.w X.K X.mg X.base k lv c m n nr F) (hr : Room lv X.A) (ho : PE X o (tP k fo)) (ha : PA X (e :: es) (tAr k fr)) (hst : starEach (e :: es) X.env = (false, eval e X.env) :: starEach es X.env := by rfl) (hpl : (backTo pos (starEach es X.env)).any (·.1) = false := by rfl)
    (ht : eval (.Call (.Attribute o m apos) (e :: es) [] pos) X.env = (do
      let ov ← eval o X.env
      standAt apos.atName
      let (f, first) ← holding [ov] (getMethod ov m pl)
      callWith pos f first (backTo pos (starEach (e :: es) X.env)) (backToKw pos (keywordEach [] X.env))) := by rfl) :
    PE X (.Call (.Attribute o m apos) (e :: es) [] pos) (tG k nr (methG c m F fo fr)) := by
  obtain ⟨hna, hc, f, fd, ps, M, hb, G⟩ := h
  refine peW (pe_meth ho hc M G hr hb .nil pass0 ha hst hpl ht) fun σ H Q ⟨ρ, O, C, S, d, ef, q⟩ => ?_
  obtain ⟨⟨l, od⟩, eo, ef1⟩ := Option.bind_eq_some_iff.mp ef
  clear ef
  refine ⟨ρ, O, C, S, l, od, eo, fun v H1 e1 r1 => ?_⟩
  cases od with
  | obj c' ns xs =>
    have ef : (if c' = c ∧ m ∉ ns then (fr ρ).bind fun as => F ((l, .obj c' ns xs) :: as) else none) = some d := ef1
    split at ef
    · rename_i hh
      obtain ⟨rfl, hmn⟩ := hh
      obtain ⟨as, ea, ef⟩ := Option.bind_eq_some_iff.mp ef
      obtain ⟨y, vs, dx, rfl, hl, hy, rv⟩ := r1.obj_inv
      refine ⟨y, dx, ns.zip vs, rfl, hy, lookup_no hmn, ρ, O, C, S.ex e1, as, ea, fun ws H2 e2 ra => ?_⟩
      show spF k n nr F (.ref y :: (ws ++ [])) H2 Q E0
      rw [List.append_nil]
      refine ⟨(l, .obj c' ns xs) :: as, O ++ C, d, ?_, .cons (r1.ex e2) ra, Dom.ex S.dom (e1.trans e2), ef, fun v H' O1 e3 ro nd nw => q v H' O1 ((e1.trans e2).trans e3) ro nd fun b z => (e1.trans e2).free (nw b z)⟩
      have := hna _ _ ef
      simp only [List.length_cons, ra.len] at this ⊢
      exact this
    · cases ef
  | _ => cases ef1
theorem ig_meth0 {pl : Sem Bool} (h : OkM X.prog X.w X.K X.mg X.base k lv c m n nr F) (hr : Room lv X.A) (ho : PE X o (tP k fo))
    (ht : eval (.Call (.Attribute o m apos) [] [] pos) X.env = (do
      let ov ← eval o X.env
      standAt apos.atName
      let (f, first) ← holding [ov] (getMethod ov m pl)
      callWith pos f first (backTo pos (starEach [] X.env)) (backToKw pos (keywordEach [] X.env))) := by rfl) :
    PE X (.Call (.Attribute o m apos) [] [] pos) (tG k nr (methG c m F fo aNil)) := by
  obtain ⟨hna, hc, f, fd, ps, M, hb, G⟩ := h
  refine peW (pe_meth0 ho hc M G hr hb .nil pass0 ht) fun σ H Q ⟨ρ, O, C, S, d, ef, q⟩ => ?_
  obtain ⟨⟨l, od⟩, eo, ef1⟩ := Option.bind_eq_some_iff.mp ef
  clear ef
  refine ⟨ρ, O, C, S, l, od, eo, fun v H1 e1 r1 => ?_⟩
  cases od with
  | obj c' ns xs =>
    have ef : (if c' = c ∧ m ∉ ns then F [(l, .obj c' ns xs)] else none) = some d := ef1
    split at ef
    · rename_i hh
      obtain ⟨rfl, hmn⟩ := hh
      obtain ⟨y, vs, dx, rfl, hl, hy, rv⟩ := r1.obj_inv
      refine ⟨y, dx, ns.zip vs, rfl, hy, lookup_no hmn, ?_⟩
      show spF k n nr F (.ref y :: ([] ++ [])) H1 Q E0
      refine ⟨[(l, .obj c' ns xs)], O ++ C, d, ?_, .cons r1 .nil, Dom.ex S.dom e1, ef, fun v H' O1 e3 ro nd nw => q v H' O1 (e1.trans e3) ro nd fun b z => e1.free (nw b z)⟩
      have := hna _ _ ef
      simpa using this
    · cases ef
  | _ => cases ef1

/-! ### own == -/
def rOwn (C : Addr) (sp : Sp) : R2 := fun x y H Q => ∃ a b dx dy fs gs, x = .ref a ∧ y = .ref b ∧ H a = some (.ins C dx fs) ∧ H b = some (.ins C dy gs) ∧ sp [x, y] H (fun v H' => (∃ t, v = .bl t) ∧ Q v H') E0
theorem op_own {C f : Addr} {fd : FuncData} {ps : List Str} {sp : Sp} (F : FnOk X.prog X.w X.K X.mg X.base CX0 lv f fd ps sp) (M : Meth X.K C "__eq__" f) (hb : Binds X.K fd ps []) (hr : Room lv X.A) : OpR X (compareOp .Eq) (rOwn C sp) := by
  intro pins s σ H x y v u Q I rx ry hq
  obtain ⟨a, b, dx, dy, fs, gs, rfl, rfl, ha, hb', hsp⟩ := hq
  cases rx
  cases ry
  obtain ⟨mA, J, _⟩ := ins_get I.hok ha
  obtain ⟨mB, J', _⟩ := ins_get I.hok hb'
  obtain ⟨od, J, _⟩ := J.look
  obtain ⟨od', J', _⟩ := J'.look
  obtain ⟨mm, hF⟩ := I.fr
  show wpAny (model X.prog X.w) X.A (richCompare .Eq (.ref a) (.ref b)) (EP X pins σ Q) X.xe s
  refine PySem.W.cmp_K (op := .Eq) (tb := .ref C) hr.units0 hF I.ok.mod.kin J J'.type (by simp [PySem.W.notFirst]) M.at_ M.fn ?_
  have r2 : Vals [V.ref a, V.ref b] [Value.ref a, Value.ref b] := .cons rfl (.cons rfl .nil)
  refine wpAny_mono (run_fn (us := [.ref a, .ref b]) (dvs := []) (ds := []) (vs := [.ref a, .ref b]) F hr hb .nil pass0 I r2 hsp) (fun r s' hr' => ?_) fun _ _ z => z
  obtain ⟨z, H', I', rz, ⟨t, rfl⟩, q⟩ := hr'
  cases rz
  exact ⟨.bl t, H', I', rfl, q⟩
def ownD (c : Str) (F : Ar → Option D) : D → D → Option Bool
  | .obj c1 ns xs, .obj c2 ms ys => if c1 = c ∧ c2 = c then match F [(1, .obj c1 ns xs), (1, .obj c2 ms ys)] with
    | some (.bl b) => some b
    | _ => none
    else none
  | _, _ => none
theorem R.obj_1 {L : List Addr} {H : Hp} {v : V} {ns : List Str} {xs : List D} (r : R k L [] H n v (.obj c ns xs)) : R k L [] H 1 v (.obj c ns xs) := by
  cases r with
  | obj0 h1 h2 h3 => exact .obj1 h1 (fun z => by cases z) h3
  | obj1 h1 h2 h3 => exact .obj1 h1 h2 h3
theorem own_run {f : Addr} {fd : FuncData} {ps : List Str} (hna : ∀ as d, F as = some d → as.length = n) {σ : L2.St} {H : Hp} {Q : VK} {ρ : Rho} {O C : List Addr} {t : Bool} (S : Sg k C σ ρ O H) (ef : cmp (ownD c F) fa fb ρ = some t) (q : ∀ H', Ex H H' → Q (.bl t) H') :
    tOp (rOwn (k.cn c) (spF k n nr F)) (tP k fa) (tP k fb) σ H Q := by
  obtain ⟨l1, l2, dx, dy, ea, eb, eg⟩ := cmp_inv ef
  refine ⟨ρ, O, C, S, l1, dx, ea, fun x H1 e1 r1 => ⟨ρ, O, C, S.ex e1, l2, dy, eb, fun y H2 e2 r2 => ?_⟩⟩
  have r1 := r1.ex e2
  cases dx with
  | obj c1 ns xs =>
    cases dy with
    | obj c2 ms ys =>
      have eg : (if c1 = c ∧ c2 = c then match F [(1, .obj c1 ns xs), (1, .obj c2 ms ys)] with
        | some (.bl b) => some b
        | _ => none
        else none) = some t := eg
      by_cases hh : c1 = c ∧ c2 = c
      · rw [if_pos hh] at eg
        cases eF : F [(1, .obj c1 ns xs), (1, .obj c2 ms ys)] with
        | none =>
          rw [eF] at eg
          cases eg
        | some z =>
          rw [eF] at eg
          cases z with
          | bl b =>
            cases eg
            obtain ⟨a1, v1, d1, rfl, _, h1, _⟩ := r1.obj_inv
            obtain ⟨a2, v2, d2, rfl, _, h2, _⟩ := r2.obj_inv
            rw [hh.1] at h1
            rw [hh.2] at h2
            refine ⟨a1, a2, d1, d2, _, _, rfl, rfl, h1, h2, _, O ++ C, .bl t, ?_, .cons r1.obj_1 (.cons r2.obj_1 .nil), Dom.ex S.dom (e1.trans e2), eF, fun v H' O1 e3 ro _ _ => ?_⟩
            · have := hna _ _ eF
              simpa using this
            · have : v = .bl t := by
                cases ro with
                | zero r => exact r.bl_inv
                | flat r _ => exact r.bl_inv
              subst this
              exact ⟨⟨t, rfl⟩, q H' ((e1.trans e2).trans e3)⟩
          | _ => cases eg
      · rw [if_neg hh] at eg
        cases eg
    | _ => cases eg
  | _ => cases eg
theorem it_own (h : OkM X.prog X.w X.K X.mg X.base k lv c "__eq__" n nr F) (hr : Room lv X.A) (ha : PE X a (tP k fa)) (hb : PE X b (tP k fb)) (hm : behindInMarks .Eq b = false := by rfl) : PT X (.Compare a [.Eq] [b] pos) (tT k (cmp (ownD c F) fa fb)) := by
  obtain ⟨hna, hc, f, fd, ps, M, hbi, G⟩ := h
  exact ptW (pt_cmpR (op_own G M hbi hr) ha hb hm) fun σ H Q ⟨ρ, O, C, S, t, ef, q⟩ => own_run (f := f) (fd := fd) (ps := ps) hna S ef fun H' e => ⟨t, rfl, q H' e⟩
theorem ip_own (h : OkM X.prog X.w X.K X.mg X.base k lv c "__eq__" n nr F) (hr : Room lv X.A) (ha : PE X a (tP k fa)) (hb : PE X b (tP k fb)) (hm : behindInMarks .Eq b = false := by rfl) : PE X (.Compare a [.Eq] [b] pos) (tP k (blP (cmp (ownD c F) fa fb))) := by
  obtain ⟨hna, hc, f, fd, ps, M, hbi, G⟩ := h
  refine peW (pe_cmpR (op_own G M hbi hr) ha hb hm) fun σ H Q ⟨ρ, O, C, S, l, d, ef, q⟩ => ?_
  obtain ⟨t, et, ef⟩ := Option.map_eq_some_iff.mp ef
  cases ef
  exact own_run (f := f) (fd := fd) (ps := ps) hna S et fun H' e => q _ _ e (.bl t)

/-! ### isinstance -/
def tyD : D → String
  | .non => "NoneType"
  | .bl _ => "bool"
  | .int _ => "int"
  | .str _ => "str"
  | .tup _ => "tuple"
  | .lst _ => "list"
  | .dic _ _ => "dict"
  | .obj _ _ _ => ""
  | .scr _ => "list"
def isiB (a T : String) : Bool := decide (a = T) || (decide (a = "bool") && decide (T = "int"))
def isiD (T : String) : D → Option D
  | .obj _ _ _ => none
  | d => some (.bl (isiB (tyD d) T))
theorem R.ty {L : List Addr} {H : Hp} {v : V} {d : D} (r : R k L [] H n v d) (ho : ∀ c ns xs, d ≠ .obj c ns xs) : TyX k.K H v (.type (tyD d)) := by
  cases r with
  | non => exact .base .non
  | bl b => exact .base (.bl b)
  | int i => exact .base (.int i)
  | str s => exact .base (.str s)
  | tup h1 _ _ =>
    rcases h1 with h1 | ⟨o, h1⟩
    · exact .base (.tup h1)
    · exact .fTuple h1
  | tupS h1 _ =>
    obtain ⟨o, its, m, e1, e2, _⟩ := h1
    exact .kTuple e1 e2
  | lst0 h1 _ _ =>
    rcases h1 with h1 | ⟨o, h1⟩
    · exact .base (.lst h1)
    · exact .base (.frz h1)
  | lst1 h1 _ _ =>
    rcases h1 with h1 | ⟨o, h1⟩
    · exact .base (.lst h1)
    · exact .base (.frz h1)
  | dic0 h1 _ _ =>
    rcases h1 with ⟨kvs, e, _⟩ | ⟨kvs, e, _⟩
    · exact .base (.dK e)
    · exact .base (.dT e)
  | dic1 h1 _ _ =>
    rcases h1 with ⟨kvs, e, _⟩ | ⟨kvs, e, _⟩
    · exact .base (.dK e)
    · exact .base (.dT e)
  | obj0 _ _ _ => exact absurd rfl (ho _ _ _)
  | obj1 _ _ _ => exact absurd rfl (ho _ _ _)
  | scr h1 _ =>
    rcases h1 with h1 | ⟨o, h1⟩
    · exact .base (.lst h1)
    · exact .base (.frz h1)
  | scrS h1 =>
    obtain ⟨o, its, m, e1, e2, _⟩ := h1
    exact .kList e1 e2
def kinds : List String := ["NoneType", "bool", "int", "str", "tuple", "list", "dict"]
theorem tyD_kinds (d : D) (ho : ∀ c ns xs, d ≠ .obj c ns xs) : tyD d ∈ kinds := by
  cases d <;> first | exact absurd rfl (ho _ _ _) | simp [tyD, kinds]
theorem ip_isi {T : String} {tn : Str} (hk : k.K = X.K) (hT : (kinds.all fun a => kitB a T == some (isiB a T)) = true) (hg : Gl X "isinstance") (hm : X.mg "isinstance" = none) (hgT : Gl X tn) (hmT : X.mg tn = none) (hv : bootBuiltins tn = some (.type T)) (ha : PE X a (tP k fa))
    (hn : tn ≠ "__name__" := by decide) (hd : (tn == ("__debug__" : Str)) = false := by decide) (he : starEach [a, .Name tn p2] X.env = (false, eval a X.env) :: starEach [.Name tn p2] X.env := by rfl) (he2 : starEach [.Name tn p2] X.env = (false, eval (.Name tn p2) X.env) :: starEach [] X.env := by rfl) (hpl : (backTo pos (starEach [.Name tn p2] X.env)).any (·.1) = false := by rfl) :
    PE X (.Call (.Name "isinstance" p) [a, .Name tn p2] [] pos) (tP k (una (isiD T) fa)) :=
  peW (pe_callB call_isi hg hm PyProof.Rows.boot_isinstance (pa_cons ha (pa_cons (pe_bltn (v := .ty T) hgT hmT hv rfl hn hd) pa_nil he2) he) (by decide) (by decide) he hpl) fun σ H Q ⟨ρ, O, C, S, l, d, ef, q⟩ => by
    obtain ⟨⟨n', dx⟩, ea, ef1⟩ := Option.bind_eq_some_iff.mp ef
    obtain ⟨d', eg, ef2⟩ := Option.map_eq_some_iff.mp ef1
    cases ef2
    clear ef ef1
    refine ⟨ρ, O, C, S, n', dx, ea, fun v H1 e1 r1 => ?_⟩
    have ho : ∀ c ns xs, dx ≠ .obj c ns xs := fun c ns xs z => by
      subst z
      cases eg
    have eb : d = .bl (isiB (tyD dx) T) := by
      cases dx <;> first | exact absurd rfl (ho _ _ _) | (cases eg; rfl)
    subst eb
    refine ⟨v, .ty T, .type (tyD dx), .type T, isiB (tyD dx) T, rfl, .ty T, hk ▸ r1.ty ho, kit_ty ?_, q _ H1 e1 (.bl _)⟩
    exact beq_iff_eq.mp (List.all_eq_true.mp hT _ (tyD_kinds dx ho))
def isoD (c : Str) : D → Option D
  | .obj c' _ _ => if c' = c then some (.bl true) else none
  | _ => none
theorem ip_iso (hk : k.K = X.K) (hc : C8.InsC X.K (k.cn c)) (hg : Gl X "isinstance") (hm : X.mg "isinstance" = none) (hgT : Gl X c) (hmT : X.mg c = some (.ref (k.cn c))) (ha : PE X a (tP k fa))
    (hd : (c == ("__debug__" : Str)) = false := by decide) (he : starEach [a, .Name c p2] X.env = (false, eval a X.env) :: starEach [.Name c p2] X.env := by rfl) (he2 : starEach [.Name c p2] X.env = (false, eval (.Name c p2) X.env) :: starEach [] X.env := by rfl) (hpl : (backTo pos (starEach [.Name c p2] X.env)).any (·.1) = false := by rfl) :
    PE X (.Call (.Name "isinstance" p) [a, .Name c p2] [] pos) (tP k (una (isoD c) fa)) :=
  peW (pe_callB (C8.call_isC hc) hg hm PyProof.Rows.boot_isinstance (pa_cons ha (pa_cons (pe_glob (v := .ref (k.cn c)) hgT hmT rfl hd) pa_nil he2) he) (by decide) (by decide) he hpl) fun σ H Q ⟨ρ, O, C, S, l, d, ef, q⟩ => by
    obtain ⟨⟨n', dx⟩, ea, ef1⟩ := Option.bind_eq_some_iff.mp ef
    obtain ⟨d', eg, ef2⟩ := Option.map_eq_some_iff.mp ef1
    cases ef2
    clear ef ef1
    refine ⟨ρ, O, C, S, n', dx, ea, fun v H1 e1 r1 => ?_⟩
    cases dx with
    | obj c' ns xs =>
      have eg : (if c' = c then some (D.bl true) else none) = some d := eg
      by_cases hh : c' = c
      · rw [if_pos hh] at eg
        cases eg
        obtain ⟨y, vs, dx, rfl, hl, hy, rv⟩ := r1.obj_inv
        rw [hh] at hy
        exact ⟨y, dx, _, rfl, hy, q _ H1 e1 (.bl _)⟩
      · rw [if_neg hh] at eg
        cases eg
    | _ => cases eg
end
end Iv

set_option Elab.async false
set_option linter.all false
set_option maxRecDepth 100000
set_option maxHeartbeats 4000000
namespace Iv
open PySem PySem.Spec PyProof.Rows L2

/-! ### list comprehensions, their items owned to any level -/
section
variable {k : Wd} {C O : List Addr} {H H' : Hp} {σ : L2.St} {ρ : Rho}
theorem Sg.moreL {P : List Addr} (g : Sg k C σ ρ O H) (hp : ∀ p ∈ P, H p = none) (e : Ex H H') (hp' : Dom P H') : Sg k (P ++ C) σ ρ O H' := by
  obtain ⟨O', r, nd, sb⟩ := g.rs
  refine ⟨⟨O', r.mono ⟨fun a o h _ => e a o h, fun a _ o h => e a o h, fun a h z => h (List.mem_append_left _ z), fun a h => ?_, fun a h => .inl h⟩, nd, sb⟩, fun a h z => ?_, fun a h => ?_⟩
  · simp only [List.mem_append] at h ⊢
    rcases h with h | h | h
    · exact .inl (.inl h)
    · exact .inr (hp a h)
    · exact .inl (.inr h)
  · rcases List.mem_append.mp z with z | z
    · obtain ⟨o, q⟩ := g.dom a (List.mem_append_left _ h)
      rw [hp a z] at q; cases q
    · exact g.ap a h z
  · simp only [List.mem_append] at h
    rcases h with h | h | h
    · exact Dom.ex g.dom e a (List.mem_append_left _ h)
    · exact hp' a h
    · exact Dom.ex g.dom e a (List.mem_append_right _ h)
end
def lcG (vs : List Nat) (fi : Rho → Option (List D)) (bd : Bd) (t : Rho → Option Bool) (f : Rho → Option D) : Rho → Option D := fun ρ => (lcN vs fi bd t f ρ).map .lst
theorem lc_w {k : Wd} {n : Nat} {fi : Rho → Option (List D)} {bd : Bd} {is vs : List Nat} {ft : Rho → Option Bool} {fe : Rho → Option D} (his : ∀ i ∈ is, i ∈ vs) {σ : L2.St} {H : Hp} {Q : VK}
    (h : tG k (n + 1) (lcG vs fi bd ft fe) σ H Q) : tLc (tI k fi) (tTg k is bd) (tT k ft) (tG k n fe) vs σ H Q := by
  obtain ⟨ρ, O, C, S, dd, ef0, q⟩ := h
  obtain ⟨ds, ef, rfl⟩ := Option.map_eq_some_iff.mp ef0
  clear ef0
  obtain ⟨items, ei, ef1⟩ := Option.bind_eq_some_iff.mp ef
  clear ef
  split at ef1
  · rename_i hz
    refine ⟨ρ, O, C, S, items, ei, fun J Src H1 e1 wk src D hD => ?_⟩
    have S1 := S.ex e1
    have hdom := Dom.ex S.dom e1
    refine ⟨fun i m H2 => m = items.length - i ∧ i ≤ items.length ∧ Ex H1 H2 ∧ ∃ acc dn rest O2, H2 D = some (.lst acc) ∧ ROs k (O2 ++ (D :: (O ++ C))) H2 n acc dn O2 ∧ O2.Nodup ∧ (∀ a ∈ O2, H1 a = none ∧ a ≠ D) ∧ lcL bd ft fe (wipeR ρ vs) (items.drop i) = some rest ∧ dn ++ rest = ds ∧ acc.length ≤ i, ⟨items.length, ?_⟩, ?_⟩
    · exact ⟨by omega, Nat.zero_le _, Ex.new hD, [], [], ds, [], upd_same, .nil, by simp, fun a h => (by cases h), ef1, rfl, Nat.le_refl _⟩
    · rintro i m H2 ⟨rfl, hi', ex2, acc, dn, rest, O2, hacc, racc, nd2, nw2, erest, eds, hla⟩
      have d2 := ROs.dom dn racc
      have dom2 : Dom (O2 ++ (D :: (O ++ C))) H2 := fun a z => by
        rcases List.mem_append.mp z with z | z
        · exact d2 a z
        · rcases List.mem_cons.mp z with z | z
          · exact ⟨_, by rw [z]; exact hacc⟩
          · exact Dom.ex hdom ex2 a z
      have src2 : Src (O2 ++ (D :: (O ++ C))) H2 := wk.keep _ _ _ _ src (fun a o q _ => ex2 a o q) fun a z => by
        rcases List.mem_append.mp z with z | z
        · exact .inr (nw2 a z).1
        · rcases List.mem_cons.mp z with z | z
          · exact .inr (by rw [z]; exact hD)
          · exact .inl z
      by_cases hlt : i < items.length
      · refine .inr ⟨wk.go i _ H2 src2 hlt, fun H3 => items.length - (i + 1) = items.length - (i + 1) ∧ i + 1 ≤ items.length ∧ Ex H1 H3 ∧ ∃ acc dn rest O2, H3 D = some (.lst acc) ∧ ROs k (O2 ++ (D :: (O ++ C))) H3 n acc dn O2 ∧ O2.Nodup ∧ (∀ a ∈ O2, H1 a = none ∧ a ≠ D) ∧ lcL bd ft fe (wipeR ρ vs) (items.drop (i + 1)) = some rest ∧ dn ++ rest = ds ∧ acc.length ≤ i + 1,
          fun H3 h3 => ⟨items.length - (i + 1), by omega, h3⟩, fun x H3 hy => ?_⟩
        obtain ⟨d, hd⟩ : ∃ d, items[i]? = some d := ⟨_, List.getElem?_eq_getElem hlt⟩
        obtain ⟨ex3, rx⟩ := wk.yld i _ H2 x H3 d src2 dom2 hd hy
        have edrop : items.drop i = d :: items.drop (i + 1) := by
          rw [List.drop_eq_getElem_cons hlt]
          have : items[i] = d := by
            have := List.getElem?_eq_getElem hlt
            rw [this] at hd
            exact Option.some.inj hd
          rw [this]
        rw [edrop] at erest
        obtain ⟨ρ1, eb, erest⟩ := Option.bind_eq_some_iff.mp (show (bd d (wipeR ρ vs)).bind (fun ρ1 => (ft ρ1).bind fun b => if b = true then (fe ρ1).bind fun y => (lcL bd ft fe (wipeR ρ vs) (items.drop (i + 1))).map fun ys => y :: ys else lcL bd ft fe (wipeR ρ vs) (items.drop (i + 1))) = some rest from erest)
        obtain ⟨bb, et, erest⟩ := Option.bind_eq_some_iff.mp erest
        have S3 : Sg k ((O2 ++ [D]) ++ C) (wipe σ vs) (wipeR ρ vs) O H3 := (S1.moreL (P := O2 ++ [D]) (fun p hp => by
          rcases List.mem_append.mp hp with z | z
          · exact (nw2 p z).1
          · rw [List.mem_singleton.mp z]; exact hD) (ex2.trans ex3) (fun p hp => by
          rcases List.mem_append.mp hp with z | z
          · exact Dom.ex d2 ex3 p z
          · rw [List.mem_singleton.mp z]; exact ⟨_, ex3 _ _ hacc⟩)).wipe vs
        have sub : ∀ a, a ∈ O ++ ((O2 ++ [D]) ++ C) → a ∈ O2 ++ (D :: (O ++ C)) := fun a z => by
          simp only [List.mem_append, List.mem_cons, List.mem_singleton, List.not_mem_nil, or_false] at z ⊢
          grind
        refine ⟨wipeR ρ vs, O, (O2 ++ [D]) ++ C, d, S3, rx.sub0 sub, ρ1, eb, fun σ1 S4 hw => ⟨hw vs his |>.trans (in_lc.wipe_wipe σ vs), ρ1, O, (O2 ++ [D]) ++ C, S4, bb, et, fun H4 e4 => ?_⟩⟩
        cases bb with
        | true =>
          obtain ⟨y, ey, erest⟩ := Option.bind_eq_some_iff.mp (show ((fe ρ1).bind fun y => (lcL bd ft fe (wipeR ρ vs) (items.drop (i + 1))).map fun ys => y :: ys) = some rest from erest)
          obtain ⟨rest', er, rfl⟩ := Option.map_eq_some_iff.mp erest
          rw [if_pos rfl]
          refine ⟨ρ1, O, (O2 ++ [D]) ++ C, S4.ex e4, y, ey, fun v H5 O1 e5 ro nd nw => ?_⟩
          have h4 : H4 D = some (.lst acc) := e4 _ _ (ex3 _ _ hacc)
          have h5 : H5 D = some (.lst acc) := e5 _ _ h4
          have ex5 := (ex3.trans e4).trans e5
          have n1 : ∀ a ∈ O1, a ≠ D := fun a h z => by
            have := nw a h
            rw [z, h4] at this
            cases this
          have u5 : ∀ a o, H5 a = some o → a ≠ D → upd H5 D (.lst (acc ++ [v])) a = some o := fun a o h z => by rw [upd_ne z]; exact h
          refine ⟨acc, h5, line1e5' (by omega), rfl, by omega, fun a o q => ?_, acc ++ [v], dn ++ [y], rest', O2 ++ O1, upd_same, ?_, ?_, fun a z => ?_, er, by rw [List.append_assoc]; exact eds, by simp only [List.length_append, List.length_singleton]; omega⟩
          · exact u5 _ _ (ex5 _ _ (ex2 _ _ q)) fun e => by rw [e, hD] at q; cases q
          · refine ROs.app (ROs.mono dn (L := O2 ++ (D :: (O ++ C))) ⟨fun a o h z => u5 a o (ex5 a o h) fun e => z (by rw [e]; simp), fun a h o q => u5 a o (ex5 a o q) (nw2 a h).2, fun a z => ?_⟩ racc) ?_
            · simp only [List.mem_append, List.mem_cons] at z ⊢
              rcases z with (z | z) | z
              · exact .inl (.inl z)
              · exact .inr ((ex3.trans e4).free (nw a z))
              · exact .inl (.inr z)
            · have r5 : RO k ((O2 ++ O1) ++ (D :: (O ++ C))) (upd H5 D (.lst (acc ++ [v]))) n v y O1 := RO.mono y (L := O1 ++ (O ++ ((O2 ++ [D]) ++ C))) ⟨fun a o h z => u5 a o h fun e => z (by rw [e]; simp), fun a h o q => u5 a o q (n1 a h), fun a z => .inl ?_⟩ ro
              · have := ROs.cons r5 .nil
                rw [List.append_nil] at this
                exact this
              · simp only [List.mem_append, List.mem_cons, List.mem_singleton, List.not_mem_nil, or_false] at z ⊢
                grind
          · rw [List.nodup_append]
            refine ⟨nd2, nd, fun a h b h' z => ?_⟩
            subst z
            obtain ⟨o, q⟩ := d2 a h
            have := nw a h'
            rw [e4 _ _ (ex3 _ _ q)] at this
            cases this
          · rcases List.mem_append.mp z with z | z
            · exact nw2 a z
            · exact ⟨((ex2.trans ex3).trans e4).free (nw a z), n1 a z⟩
        | false =>
          have er : lcL bd ft fe (wipeR ρ vs) (items.drop (i + 1)) = some rest := erest
          rw [if_neg Bool.false_ne_true]
          refine ⟨rfl, by omega, ex2.trans (ex3.trans e4), acc, dn, rest, O2, e4 _ _ (ex3 _ _ hacc), ROs.mono dn ⟨fun a o h _ => (ex3.trans e4) a o h, fun a _ o h => (ex3.trans e4) a o h, fun a z => .inl z⟩ racc, nd2, nw2, er, eds, by omega⟩
      · refine .inl ⟨wk.stop i _ H2 src2 (by omega), ?_⟩
        rw [List.drop_eq_nil_of_le (by omega)] at erest
        cases erest
        rw [List.append_nil] at eds
        subst eds
        refine q (.ref D) H2 (D :: O2) (e1.trans ex2) (.lst hacc (ROs.mono dn ⟨fun a o h _ => h, fun a _ o h => h, fun a z => .inl ?_⟩ racc)) ?_ fun a z => ?_
        · simp only [List.mem_append, List.mem_cons, List.cons_append] at z ⊢
          grind
        · rw [List.nodup_cons]
          exact ⟨fun z => (nw2 D z).2 rfl, nd2⟩
        · rcases List.mem_cons.mp z with z | z
          · rw [z]; exact e1.free hD
          · exact e1.free (nw2 a z).1
  · cases ef1
section
variable {X : Cx} {k : Wd} {fx : Bool} {nr n : Nat} {tg elt iter : Expr} {pos py spos : Pos} {y : Str} {i : Nat}
theorem ig_lc {ifs : List Expr} {scope : Scope} {own : List (Str × Nat)} {fi : Rho → Option (List D)} {bd : Bd} {is : List Nat} {ft : Rho → Option Bool} {fe : Rho → Option D} (hc : X.calm = true) (hN : X.N.Nodup) (hi : PI X tg iter (tI k fi)) (ok : BlkOk X.N X.env.scope scope own)
    (hg : ∀ (s : Shared) (H : Hp) (C : Addr) (cl : List (Str × Addr)) (fp : List Addr), PG (X.blk s H scope (compEnvC scope cl C X.env) fp) tg (tTg k is bd))
    (ht : ∀ (s : Shared) (H : Hp) (C : Addr) (cl : List (Str × Addr)) (fp : List Addr), PTs (X.blk s H scope (compEnvC scope cl C X.env) fp) ifs (tT k ft))
    (he : ∀ (s : Shared) (H : Hp) (C : Addr) (cl : List (Str × Addr)) (fp : List Addr), PE (X.blk s H scope (compEnvC scope cl C X.env) fp) elt (tG k n fe))
    (his : ∀ i ∈ is, i ∈ own.map (·.2)) (hs : ∀ x, foldedSetIterable iter X.env x = pure x := by intro _; rfl) : PE X (.ListComp elt [⟨tg, iter, ifs, 0⟩] scope pos) (tG k (n + 1) (lcG (own.map (·.2)) fi bd ft fe)) :=
  peW (pe_lc hc hN hi ok hg ht he hs) fun σ H Q h => lc_w his h
/-- y = [..], y a plain local name -/
theorem ia_lc {ifs : List Expr} {scope : Scope} {own : List (Str × Nat)} {fi : Rho → Option (List D)} {bd : Bd} {is : List Nat} {ft : Rho → Option Bool} {fe : Rho → Option D} (hc : X.calm = true) (hN : X.N.Nodup) (hy : X.N[i]? = some y) (hyl : X.env.scope.names.lookup y = some .local)
    (hsw : swapsWith (.ListComp elt [⟨tg, iter, ifs, 0⟩] scope pos) (some (.Name y py)) spos.line X.env = pure true) (hi : PI X tg iter (tI k fi)) (ok : BlkOk X.N X.env.scope scope own)
    (hg : ∀ (s : Shared) (H : Hp) (C : Addr) (cl : List (Str × Addr)) (fp : List Addr), PG (X.blk s H scope (compEnvC scope cl C X.env) fp) tg (tTg k is bd))
    (ht : ∀ (s : Shared) (H : Hp) (C : Addr) (cl : List (Str × Addr)) (fp : List Addr), PTs (X.blk s H scope (compEnvC scope cl C X.env) fp) ifs (tT k ft))
    (he : ∀ (s : Shared) (H : Hp) (C : Addr) (cl : List (Str × Addr)) (fp : List Addr), PE (X.blk s H scope (compEnvC scope cl C X.env) fp) elt (tG k n fe))
    (his : ∀ i ∈ is, i ∈ own.map (·.2)) (hs : ∀ x, foldedSetIterable iter X.env x = pure x := by intro _; rfl) : PS X (.Assign [.Name y py] (.ListComp elt [⟨tg, iter, ifs, 0⟩] scope pos) spos) (tAsg (tG k (n + 1) (lcG (own.map (·.2)) fi bd ft fe)) (gName i)) :=
  psW (ps_setLc hc hN hy hyl hsw hi ok hg ht he hs) fun E σ H h => lc_w his h
/-- a new list (or lists of lists) given up -/
theorem ig_sub {e : Expr} {f : Rho → Option D} (h : PE X e (tG k n f)) : PE X e (tG k 0 f) := peW h fun σ H Q ⟨ρ, O, C, S, d, ef, q⟩ => ⟨ρ, O, C, S, d, ef, fun v H' O1 ex ro nd nw => q v H' [] ex (.zero (RO.freeze d ⟨fun a z => List.mem_append_right _ z, fun a z1 z2 => by
  obtain ⟨o, e⟩ := S.dom a z2
  rw [nw a z1] at e
  cases e⟩ ro)) (by simp) fun a z => by cases z⟩
theorem ag_sub {st : Stmt} {f : Rho → Option D} (h : PS X st (tAsg (tG k n f) (gName i))) : PS X st (tAsg (tG k 0 f) (gName i)) := psW h fun E σ H ⟨ρ, O, C, S, d, ef, q⟩ => ⟨ρ, O, C, S, d, ef, fun v H' O1 ex ro nd nw => q v H' [] ex (.zero (RO.freeze d ⟨fun a z => List.mem_append_right _ z, fun a z1 z2 => by
  obtain ⟨o, e⟩ := S.dom a z2
  rw [nw a z1] at e
  cases e⟩ ro)) (by simp) fun a z => by cases z⟩
end
end Iv

set_option Elab.async false
set_option linter.all false
set_option maxRecDepth 100000
set_option maxHeartbeats 4000000
namespace Iv
open PySem PySem.Spec PyProof.Rows L2

section
variable {k : Wd} {L L' : List Addr} {H H' : Hp} {n : Nat}
/-- one item of owned items, and the others -/
theorem ROs.at : ∀ {vs : List V} {ds : List D} {O : List Addr} {j : Nat} {d : D}, ROs k L H n vs ds O → ds[j]? = some d →
    ∃ v A P B, O = A ++ (P ++ B) ∧ vs[j]? = some v ∧ RO k L H n v d P ∧
      ∀ {L' : List Addr} {H' : Hp} {d' : D} {P' : List Addr}, Ko L L' (A ++ B) H H' → RO k L' H' n v d' P' → ROs k L' H' n vs (ds.set j d') (A ++ (P' ++ B))
  | _, _, _, _, _, .nil, e => by simp at e
  | _, _, _, 0, d, .cons (v := v) (O := O1) (O' := O2) h1 h2, e => by
    simp at e
    subst e
    refine ⟨v, [], O1, O2, rfl, rfl, h1, fun {L' H' d' P'} q r => ?_⟩
    show ROs k L' H' n (v :: _) (d' :: _) (P' ++ O2)
    exact .cons r (ROs.mono _ ⟨q.keep, fun a ha => q.own a (by simpa using ha), q.left⟩ h2)
  | _, _, _, j + 1, d, .cons (v := w) (O := O1) (O' := O2) h1 h2, e => by
    have e' : _ := e
    rw [List.getElem?_cons_succ] at e'
    obtain ⟨v, A, P, B, eO, ev, r, f⟩ := ROs.at h2 e'
    refine ⟨v, O1 ++ A, P, B, by rw [eO, List.append_assoc], by rw [List.getElem?_cons_succ]; exact ev, r, fun {L' H' d' P'} q r' => ?_⟩
    rw [List.append_assoc, List.set_cons_succ]
    rw [List.append_assoc] at q
    exact .cons (RO.mono _ ⟨q.keep, fun a ha => q.own a (List.mem_append_left _ ha), q.left⟩ h1) (f ⟨q.keep, fun a ha => q.own a (List.mem_append_right _ ha), q.left⟩ r')
end
/-- x[j].append(e), x a list of lists of the def's own -/
def app2S (i m : Nat) (fj : Pk) (f : Rho → Option D) : Sm := fun ρ => match ρ[i]? with
  | some (some ⟨true, n, .lst ds⟩) => (asI fj ρ).bind fun z => (ixN ds.length z).bind fun j => match ds[j]? with
    | some (.lst es) => if n = m + 2 ∧ es.length < 99999 then (f ρ).map fun d => (.nx, ρ.set i (some ⟨true, m + 2, .lst (ds.set j (.lst (es ++ [d])))⟩)) else none
    | _ => none
  | _ => none
section
variable {X : Cx} {k : Wd} {fx : Bool} {nr n i m : Nat} {o e a b : Expr} {fj : Pk} {pos : Pos} {f : Rho → Option D} {st : Stmt}
theorem as_app2 {E : Ends} {σ : L2.St} {H : Hp} (h : tS k fx nr (app2S i m fj f) E σ H) :
    tDrop (tBM k.K "list" rAppend (tOp (rIxL k.K) (tVar i) (tP k fj)) (tCons (tG k m f) tNil)) E σ H := by
  obtain ⟨ρ, O, C, S, r, ef, q⟩ := h
  unfold app2S at ef
  split at ef
  · rename_i n ds e0
    obtain ⟨z, ez, ef1⟩ := Option.bind_eq_some_iff.mp ef
    obtain ⟨j, ej, ef2⟩ := Option.bind_eq_some_iff.mp ef1
    clear ef ef1
    obtain ⟨nz, ez⟩ := asI_inv ez
    split at ef2
    · rename_i es ee
      split at ef2
      · rename_i hn
        obtain ⟨rfl, hz⟩ := hn
        obtain ⟨d, ed, rfl⟩ := Option.map_eq_some_iff.mp ef2
        clear ef2
        obtain ⟨v0, ev0, _⟩ := S.get e0
        refine ⟨v0, ev0, ρ, O, C, S, nz, .int z, ez, fun y H1 e1 ry => ?_⟩
        obtain rfl := ry.int_inv
        have S1 := S.ex e1
        obtain ⟨v, P, ev, ro, ndP, sbP, go⟩ := S1.chg e0
        rw [ev0] at ev
        cases ev
        cases ro with
        | flat _ hm => cases hm
        | @lst _ l vs _ O2 hl ros =>
          obtain ⟨w, A, P1, B, eO2, ew, rw1, reb⟩ := ros.at ee
          subst eO2
          cases rw1 with
          | flat _ hm => cases hm
          | @lst _ l2 ws _ O3 hl2 rws =>
            refine ⟨l, vs, z, .ref l2, rfl, rfl, SqL.of hl, ?_, .inl ⟨rfl, ws, SqL.of hl2⟩, ρ, O, C, S1, d, ed, fun y2 H2 O1 e2 ry2 nd1 nw1 => ⟨l2, ws, y2, rfl, rfl, e2 _ _ hl2, line1e5' (by rw [rws.len]; omega), ?_⟩⟩
            · unfold L2.atI
              rw [ros.len, ej]
              exact ew
            · have lO : ∀ a, a ∈ l :: (A ++ (l2 :: O3 ++ B)) → a ∈ O := sbP
              have l2O : l2 ∈ O := lO l2 (by simp)
              have n1 : ∀ a, a ∈ O1 → a ≠ l2 := fun a h z => by
                have := nw1 a h
                rw [z, hl2] at this
                cases this
              simp only [List.nodup_cons, List.nodup_append, List.mem_append, List.mem_cons, not_or, List.cons_append] at ndP
              have nA : ∀ a, a ∈ A ++ B → a ≠ l2 := fun a h z => by
                subst z
                rcases List.mem_append.mp h with h | h
                · exact ndP.2.2.2 a h a (.inl rfl) rfl
                · exact ndP.2.2.1.1.2 h
              have n3 : ∀ a, a ∈ O3 → a ≠ l2 := fun a h z => ndP.2.2.1.1.1 (z ▸ h)
              have ll : l ≠ l2 := fun z => ndP.1.2.1 z
              have k1 : ∀ a o, H2 a = some o → a ≠ l2 → upd H2 l2 (.lst (ws ++ [y2])) a = some o := fun a o h n => by rw [upd_ne n]; exact h
              have inL : ∀ a, a ∉ O ++ C → a ≠ l2 := fun a h z => h (by rw [z]; exact List.mem_append_left _ l2O)
              have lft : ∀ a, a ∈ (O1 ++ O) ++ C → a ∈ O ++ C ∨ H1 a = none := fun a z => by
                simp only [List.mem_append] at z ⊢
                rcases z with (z | z) | z
                · exact .inr (nw1 a z)
                · exact .inl (.inl z)
                · exact .inl (.inr z)
              have hin : ROs k ((O1 ++ O) ++ C) (upd H2 l2 (.lst (ws ++ [y2]))) m (ws ++ [y2]) (es ++ [d]) (O3 ++ O1) := by
                refine ROs.app (ROs.mono es (L := O ++ C) ⟨fun a o h n => k1 a o (e2 a o h) (inL a n), fun a h o q => k1 a o (e2 a o q) (n3 a h), lft⟩ rws) ?_
                have h0 : RO k ((O1 ++ O) ++ C) (upd H2 l2 (.lst (ws ++ [y2]))) m y2 d O1 := RO.mono d (L := O1 ++ (O ++ C)) ⟨fun a o h n => k1 a o h (inL a fun z => n (List.mem_append_right _ z)), fun a h o q => k1 a o q (n1 a h), fun a z => .inl (by rw [List.append_assoc] at z; exact z)⟩ ry2
                have := ROs.cons h0 .nil
                rw [List.append_nil] at this
                exact this
              have hout := reb (L' := (O1 ++ O) ++ C) (H' := upd H2 l2 (.lst (ws ++ [y2]))) (d' := .lst (es ++ [d])) (P' := l2 :: (O3 ++ O1)) ⟨fun a o h n => k1 a o (e2 a o h) (inL a n), fun a h o q => k1 a o (e2 a o q) (nA a h), lft⟩ (.lst upd_same hin)
              have fin := go (H2 := upd H2 l2 (.lst (ws ++ [y2]))) (n' := m + 2) (d' := .lst (ds.set j (.lst (es ++ [d])))) (P' := l :: (A ++ (l2 :: (O3 ++ O1) ++ B))) (O1 := O1) (fun a o h n => k1 a o (e2 a o h) fun z => n (by rw [z]; simp)) (.lst (k1 l _ (e2 _ _ hl) ll) hout) ?_ (fun a h => ?_) nw1 (fun a h => ?_) (fun a h => ?_)
              · exact q σ _ _ fin.1 ((Stp.ex e1 fun _ z => .inl z).trans (fin.2 fx))
              · have ndo : ∀ a, a ∈ l :: (A ++ (l2 :: O3 ++ B)) → a ∉ O1 := fun a h z => by
                  obtain ⟨o, q⟩ := S1.dom a (List.mem_append_left _ (lO a h))
                  rw [nw1 a z] at q
                  cases q
                simp only [List.mem_append, List.mem_cons, List.cons_append] at ndo
                simp only [List.nodup_cons, List.nodup_append, List.mem_append, List.mem_cons, not_or, List.cons_append]
                grind
              · simp only [List.mem_append, List.mem_cons, List.cons_append] at h ⊢
                grind
              · by_cases hal : a = l2
                · subst hal; exact ⟨_, upd_same⟩
                · obtain ⟨o, q⟩ := S1.dom a (List.mem_append_left _ (lO a h))
                  exact ⟨o, k1 a o (e2 a o q) hal⟩
              · obtain ⟨o, q⟩ := RO.dom d ry2 a h
                exact ⟨o, k1 a o q (n1 a h)⟩
      · cases ef2
    · cases ef2
  · cases ef
theorem is_app2 {p1 p2 pc : Pos} (hk : k.K = X.K) (hv : PE X a (tVar i)) (hj : PE X b (tP k fj)) (he : PE X e (tG k m f)) (hs : PlainIx b) (hbase : attributeBase (.Subscript a b p1) "append" X.env (eval (.Subscript a b p1) X.env) = eval (.Subscript a b p1) X.env := by rfl)
    (hfew : ((backTo pc (starEach [e] X.env)).all (fun x => !x.1) && (backToKw pc (keywordEach [] X.env)).all (fun x => x.1.isSome)
      && decide ([e].length + ([] : List Keyword).length + (if ([] : List Keyword).isEmpty then 0 else 1) < 30)) = true := by rfl)
    (hline : (p2.endLine == pc.line) = true := by rfl) (hst : starEach [e] X.env = (false, eval e X.env) :: starEach [] X.env := by rfl) (hsw : swapsWith (.Call (.Attribute (.Subscript a b p1) "append" p2) [e] [] pc) none pos.line X.env = pure false := by rfl) :
    PS X (.Expr (.Call (.Attribute (.Subscript a b p1) "append" p2) [e] [] pc) pos) (tS k fx nr (app2S i m fj f)) :=
  psW (ps_expr (pe_bm PySem.F.plainAttrs_list PySem.F.slot_list_append PySem.F.type_list_append mt_append (pe_ix ix_list hv hj hs) (pa_cons he pa_nil hst) hbase hfew hline hst rfl) hsw) fun E σ H q => hk ▸ as_app2 q
theorem is_appV {p2 pc : Pos} {m : Nat} (hk : k.K = X.K) (hv : PE X a (tVar i)) (he : PE X e (tG k m f)) (hbase : attributeBase a "append" X.env (eval a X.env) = eval a X.env := by rfl)
    (hfew : ((backTo pc (starEach [e] X.env)).all (fun x => !x.1) && (backToKw pc (keywordEach [] X.env)).all (fun x => x.1.isSome)
      && decide ([e].length + ([] : List Keyword).length + (if ([] : List Keyword).isEmpty then 0 else 1) < 30)) = true := by rfl)
    (hline : (p2.endLine == pc.line) = true := by rfl) (hst : starEach [e] X.env = (false, eval e X.env) :: starEach [] X.env := by rfl) (hsw : swapsWith (.Call (.Attribute a "append" p2) [e] [] pc) none pos.line X.env = pure false := by rfl) :
    PS X (.Expr (.Call (.Attribute a "append" p2) [e] [] pc) pos) (tS k fx nr (appS i m f)) :=
  psW (ps_expr (pe_bm PySem.F.plainAttrs_list PySem.F.slot_list_append PySem.F.type_list_append mt_append hv (pa_cons he pa_nil hst) hbase hfew hline hst rfl) hsw) fun E σ H q => hk ▸ as_app q
/-- over a list, a tuple or a text -/
def anyI (f : Pk) : Rho → Option (List D) := fun ρ => (f ρ).bind fun x => match x.2 with
  | .str s => some (signsD s)
  | _ => seqD x
theorem ii_any {tg : Expr} {fa : Pk} (hk : k.K = X.K) (h : PE X e (tP k fa)) : PI X tg e (tI k (anyI fa)) := piW (pi_or (ii_seq hk h) (ii_str h)) fun σ H Q ⟨ρ, O, C, S, ds, ef, q⟩ => by
  obtain ⟨⟨n, d⟩, ea, ef1⟩ := Option.bind_eq_some_iff.mp ef
  clear ef
  cases d with
  | str s => exact .inr ⟨ρ, O, C, S, ds, by unfold strI; rw [ea]; exact ef1, q⟩
  | _ => exact .inl ⟨ρ, O, C, S, ds, by unfold seqI; rw [ea]; exact ef1, q⟩
end
end Iv

set_option Elab.async false
set_option linter.all false
set_option maxRecDepth 100000
set_option maxHeartbeats 4000000
namespace Iv
open PySem PySem.Spec PyProof.Rows L2

/-! ### one form for all comparisons, all built-ins: what gen.py prints -/
def OC (X : Cx) (k : Wd) (op : CmpOp) (g : D → D → Option Bool) : Prop := ∃ r, OpR X (compareOp op) r ∧ OpC k r g
def BI (X : Cx) (k : Wd) (x : Str) (g : Ar → Option D) : Prop := (∃ id r, CallR X (.builtin id) r ∧ ClS k r g ∧ bootBuiltins x = some (.builtin id)) ∨ (∃ id r, CallR X (.type id) r ∧ ClS k r g ∧ bootBuiltins x = some (.type id))
def BN (X : Cx) (k : Wd) (x : Str) (g : Ar → Option (List D)) : Prop := (∃ id r, CallR X (.builtin id) r ∧ ClN k r g ∧ bootBuiltins x = some (.builtin id)) ∨ (∃ id r, CallR X (.type id) r ∧ ClN k r g ∧ bootBuiltins x = some (.type id))
section
variable {X : Cx} {k : Wd} {e a b c : Expr} {es : List Expr} {pos p : Pos} {fa fb fc : Pk} {fr : Pa} {op op' : CmpOp} {g g' : D → D → Option Bool} {x : Str}
theorem ip_c2 (h : OC X k op g) (ha : PE X a (tP k fa)) (hb : PE X b (tP k fb)) (hm : behindInMarks op b = false := by rfl) : PE X (.Compare a [op] [b] pos) (tP k (blP (cmp g fa fb))) := by
  obtain ⟨r, h1, h2⟩ := h
  exact ip_cmp h1 h2 ha hb hm
theorem it_c2 (h : OC X k op g) (ha : PE X a (tP k fa)) (hb : PE X b (tP k fb)) (hm : behindInMarks op b = false := by rfl) : PT X (.Compare a [op] [b] pos) (tT k (cmp g fa fb)) := by
  obtain ⟨r, h1, h2⟩ := h
  exact it_cmp h1 h2 ha hb hm
theorem ip_c3 (h : OC X k op g) (h' : OC X k op' g') (ha : PE X a (tP k fa)) (hb : PE X b (tP k fb)) (hc : PE X c (tP k fc)) (hm : lastMarks [op, op'] [b, c] = false := by with_unfolding_all rfl) : PE X (.Compare a [op, op'] [b, c] pos) (tP k (blP (chn g g' fa fb fc))) := by
  obtain ⟨r, h1, h2⟩ := h
  obtain ⟨r', h3, h4⟩ := h'
  exact ip_chn h1 h2 h3 h4 ha hb hc hm
theorem it_c3 (h : OC X k op g) (h' : OC X k op' g') (ha : PE X a (tP k fa)) (hb : PE X b (tP k fb)) (hc : PE X c (tP k fc)) (hm : lastMarks [op, op'] [b, c] = false := by with_unfolding_all rfl) : PT X (.Compare a [op, op'] [b, c] pos) (tT k (chn g g' fa fb fc)) := by
  obtain ⟨r, h1, h2⟩ := h
  obtain ⟨r', h3, h4⟩ := h'
  exact it_chn h1 h2 h3 h4 ha hb hc hm
theorem oc_lt (hk : k.K = X.K) (hu : X.A.units + 64 < cLine) : OC X k .Lt ltC := ⟨_, op_lt, opC_int⟩
theorem oc_le (hk : k.K = X.K) (hu : X.A.units + 64 < cLine) : OC X k .LtE leC := ⟨_, op_le, opC_int⟩
theorem oc_gt (hk : k.K = X.K) (hu : X.A.units + 64 < cLine) : OC X k .Gt gtC := ⟨_, op_gt, opC_int⟩
theorem oc_ge (hk : k.K = X.K) (hu : X.A.units + 64 < cLine) : OC X k .GtE geC := ⟨_, op_ge, opC_int⟩
theorem oc_eq (hk : k.K = X.K) (hu : X.A.units + 64 < cLine) : OC X k .Eq eqC := ⟨_, op_eqD hu, hk ▸ opC_eq⟩
theorem oc_ne (hk : k.K = X.K) (hu : X.A.units + 64 < cLine) : OC X k .NotEq neC := ⟨_, op_neD hu, hk ▸ opC_ne⟩
theorem oc_in (hk : k.K = X.K) (hu : X.A.units + 64 < cLine) : OC X k .In inC := ⟨_, op_inA, hk ▸ opC_in⟩
theorem oc_nin (hk : k.K = X.K) (hu : X.A.units + 64 < cLine) : OC X k .NotIn ninC := ⟨_, op_ninA, hk ▸ opC_nin⟩
theorem oc_is (hk : k.K = X.K) (hu : X.A.units + 64 < cLine) : OC X k .Is isC := ⟨_, op_isA, opC_is⟩
theorem oc_isn (hk : k.K = X.K) (hu : X.A.units + 64 < cLine) : OC X k .IsNot isnC := ⟨_, op_isnA, opC_isn⟩
theorem ip_bi {g : Ar → Option D} (h : BI X k x g) (hg : Gl X x) (hm : X.mg x = none) (ha : PA X (e :: es) (tAr k fr)) (hn : x ≠ "__name__" := by decide) (hdb : (x == ("__debug__" : Str)) = false := by decide)
    (he : starEach (e :: es) X.env = (false, eval e X.env) :: starEach es X.env := by rfl) (hpl : (backTo pos (starEach es X.env)).any (·.1) = false := by rfl) : PE X (.Call (.Name x p) (e :: es) [] pos) (tP k (callP g fr)) := by
  rcases h with ⟨id, r, h1, h2, h3⟩ | ⟨id, r, h1, h2, h3⟩
  · exact ip_blt h1 h2 hg hm h3 ha hn hdb he hpl
  · exact ip_ty h1 h2 hg hm h3 ha hn hdb he hpl
theorem in_bn {g : Ar → Option (List D)} (h : BN X k x g) (hg : Gl X x) (hm : X.mg x = none) (ha : PA X (e :: es) (tAr k fr)) (hn : x ≠ "__name__" := by decide) (hdb : (x == ("__debug__" : Str)) = false := by decide)
    (he : starEach (e :: es) X.env = (false, eval e X.env) :: starEach es X.env := by rfl) (hpl : (backTo pos (starEach es X.env)).any (·.1) = false := by rfl) : PE X (.Call (.Name x p) (e :: es) [] pos) (tN k (callN g fr)) := by
  rcases h with ⟨id, r, h1, h2, h3⟩ | ⟨id, r, h1, h2, h3⟩
  · exact in_blt h1 h2 hg hm h3 ha hn hdb he hpl
  · exact in_ty h1 h2 hg hm h3 ha hn hdb he hpl
theorem bi_len (hk : k.K = X.K) (hc : X.calm = true) : BI X k "len" (c1 lenD) := .inl ⟨_, _, call_len, hk ▸ clS_len, boot_len⟩
theorem bi_abs (hk : k.K = X.K) (hc : X.calm = true) : BI X k "abs" (c1 absD) := .inl ⟨_, _, call_abs, clS_abs, PyProof.Rows.boot_abs⟩
theorem bi_int (hk : k.K = X.K) (hc : X.calm = true) : BI X k "int" (c1 intD) := .inr ⟨_, _, call_int1, clS_int, PyProof.Rows.boot_int⟩
theorem bi_max (hk : k.K = X.K) (hc : X.calm = true) : BI X k "max" (c2 maxD) := .inl ⟨_, _, call_max2 hc, clS_max, PyProof.Rows.boot_max⟩
theorem bi_min (hk : k.K = X.K) (hc : X.calm = true) : BI X k "min" (c2 minD) := .inl ⟨_, _, call_min2 hc, clS_min, PyProof.Rows.boot_min⟩
theorem bi_tuple (hk : k.K = X.K) (hc : X.calm = true) : BI X k "tuple" tupD := .inr ⟨_, _, call_tuple_of, hk ▸ clS_tup, PyProof.Rows.boot_tuple⟩
theorem bi_any (hk : k.K = X.K) (hc : X.calm = true) : BI X k "any" (c1 anyD) := .inl ⟨_, _, cr_any hc, hk ▸ clS_any, PyProof.Rows.boot_any⟩
theorem bi_all (hk : k.K = X.K) (hc : X.calm = true) : BI X k "all" (c1 allD) := .inl ⟨_, _, cr_all hc, hk ▸ clS_all, PyProof.Rows.boot_all⟩
theorem bn_list (hk : k.K = X.K) (hc : X.calm = true) : BN X k "list" lstD := .inr ⟨_, _, call_list_of, hk ▸ clN_lst, PyProof.Rows.boot_list⟩
end
end Iv

set_option Elab.async false
set_option linter.all false
set_option maxRecDepth 100000
set_option maxHeartbeats 4000000
namespace Iv
open PySem PySem.Spec PyProof.Rows L2

/-! ### a comprehension's names -/
def freeB (sc : Scope) (y : Str × NameKind) : Bool := match y.2 with
  | .free => (match sc.names.lookup y.1 with
    | some .cell => true
    | some .free => true
    | _ => false)
  | _ => true
def ownB (N : List Str) (own : List (Str × Nat)) (y : Str × NameKind) : Bool := match y.2 with
  | .local => decide (y.1 ∈ own.map (·.1) ∨ y.1 ∉ N)
  | .cell => decide (y.1 ∈ own.map (·.1) ∨ y.1 ∉ N)
  | _ => true
def blkB (N : List Str) (sc scope : Scope) (own : List (Str × Nat)) : Bool := decide (scope.kind = .function) && scope.names.all (fun y => decide (scope.names.lookup y.1 = some y.2)) && own.all (fun p => decide (N[p.2]? = some p.1)) && scope.names.all (freeB sc) && scope.names.all (ownB N own)
theorem blk_of {N : List Str} {sc scope : Scope} {own : List (Str × Nat)} (h : blkB N sc scope own = true) : BlkOk N sc scope own := by
  unfold blkB at h
  simp only [Bool.and_eq_true, List.all_eq_true, decide_eq_true_eq] at h
  obtain ⟨⟨⟨⟨h1, h2⟩, h3⟩, h4⟩, h5⟩ := h
  refine ⟨h1, h2, h3, fun y hy e => ?_, fun y hy e => ?_⟩
  · have := h4 y hy
    unfold freeB at this
    rw [e] at this
    simp only at this
    split at this
    · exact .inl ‹_›
    · exact .inr ‹_›
    · cases this
  · have := h5 y hy
    unfold ownB at this
    rcases e with e | e
    · rw [e] at this
      exact of_decide_eq_true this
    · rw [e] at this
      exact of_decide_eq_true this
/-! ### a class's int constant -/
def CcI (K : PySem.W.Frag) (C : Addr) (f : Str) (v : Int) : Prop := ∃ mc u, ClX.CRead K C mc ∧ ClX.CVal K C mc f (.int v) u
section
variable {X : Cx} {k : Wd} {e : Expr} {pos : Pos}
theorem ip_cc {C : Addr} {f : Str} {v : Int} (h : CcI X.K C f v) (hC : PE X e (tC (.ref C))) (hb : attributeBase e f X.env (eval e X.env) = eval e X.env := by rfl) : PE X (.Attribute e f pos) (tP k (cst (.int v))) := by
  obtain ⟨mc, u, h1, h2⟩ := h
  exact peW (ClX.pe_cval hC hb) fun σ H Q ⟨ρ, O, C', S, n, d, ef, q⟩ => by
    cases ef
    exact ⟨C, mc, _, u, rfl, h1, h2, q _ H (Ex.refl H) (.int v)⟩
end
/-! ### defaults, all parameters given -/
theorem bindsD {K : PySem.W.Frag} {x qual : Str} {params : Arguments} {body : List Stmt} {scope : Scope} {dvs : List V} {f : Addr} {fd : FuncData} {ps : List Str} (F : FunD K x qual params body scope dvs [] f fd) {m : Nat} (hdl : dvs.length = m) (hm : 0 < m)
    (h : ∀ (T : Addr) (kV doc pm : Value) (an : Option Addr) (cdv ct : Value) (us its : List Value), us.length = ps.length → its.length = m →
      ∃ k, bindArgs (PySem.W.fnOf x qual params body scope (.ref T) kV doc pm an cdv ct) ⟨us, []⟩ = seqItems? (.ref T) >>= k ∧ k (some its.toArray) = pure (ps.zip us)) : Binds K fd ps [] := by
  obtain ⟨ds, h1, h2⟩ := F.binds1 (ps := ps) ps.length dvs.length (fun z => by rw [z] at hdl; simp at hdl; omega) (by simp) fun T kV doc pm an cdv ct us its hu hi => by
    obtain ⟨k, e1, e2⟩ := h T kV doc pm an cdv ct us its hu (hi.trans hdl)
    refine ⟨k, e1, ?_⟩
    rw [List.drop_eq_nil_of_le (by omega), List.append_nil]
    exact e2
  rw [List.drop_eq_nil_of_le (Nat.le_refl _)] at h1
  cases h1
  exact h2
/-! ### a method with a star parameter -/
def OkS (P : Program) (w : World) (K : PySem.W.Frag) (mg : Str → Option Value) (base : Heap) (k : Wd) (lv : Nat) (c m : Str) (j nr : Nat) (F : Ar → Option D) : Prop :=
  Cls K (k.cn c) ∧ ∃ f, Meth K (k.cn c) m f ∧ FnR P w K mg base CX0 lv f (fun vs H Q E => ∃ ws rest, vs = ws ++ rest ∧ ws.length = j ∧ rest.length ≤ sizeLine ∧ ∀ p, H p = Option.none → spF k (j + 1) nr F (ws ++ [V.ref p]) (upd H p (.tup rest)) Q E)
section
variable {P : Program} {w : World} {K : PySem.W.Frag} {mg : Str → Option Value} {base : Heap} {k : Wd} {lv nr : Nat} {x qual c m : Str} {params : Arguments} {body : List Stmt} {scope : Scope} {kws : List (Str × V)} {f : Addr} {fd : FuncData} {N ps : List Str} {fb : Sm} {pv : Str}
theorem ok_star (F : FunD K x qual params body scope [] kws f fd) (S : FnScope N (ps ++ [pv]) scope) (hc : Cls K (k.cn c)) (M : Meth K (k.cn c) m f)
    (hbd : ∀ (kV doc pm : Value) (an : Option Addr) (cdv ct : Value) (us rest : List Value), us.length = ps.length → bindArgs (PySem.W.fnOf x qual params body scope .none kV doc pm an cdv ct) ⟨us ++ rest, []⟩ = (newTuple rest >>= fun t => pure (ps.zip us ++ [(pv, t)])))
    (hb : ∀ (cdv : Value) (A : Around) (outer : List Env) (s : Shared) (H : Hp) (E : XK), Room lv (A.deeper (envOfC qual scope s.heap.objs.size f cdv)) → PSs (cxOf CX0 P w K mg base N qual scope f cdv A outer s H E).nox body (tS k false nr fb)) :
    OkS P w K mg base k (lv + 1) c m ps.length nr (runB (ps.length + 1) N.length fb) := by
  obtain ⟨oc, od, dV, kV, doc, pm, an, cdv, ct, osl, rfl, lk, hcd, hD, _⟩ := F.ex
  rcases hD with ⟨_, rfl⟩ | ⟨z, _⟩
  · exact ⟨hc, f, M, StX.fn_star lk hcd S StX.cxUp_none (hbd kV doc pm an cdv ct) fun A outer s H vs Q E hr h => ⟨_, PSs.nox (hb cdv A outer s H E hr), run_spF h⟩⟩
  · exact absurd rfl z
end
def starF (j : Nat) (F : Ar → Option D) : Ar → Option D := fun as => if j + 1 ≤ as.length ∧ as.length ≤ 1000 ∧ (as.drop (j + 1)).all (fun a => a.1 == 0) = true then F (as.take (j + 1) ++ [(0, .tup ((as.drop (j + 1)).map (·.2)))]) else none
theorem RA.take {k : Wd} {L : List Addr} {H : Hp} : ∀ {vs : List V} {as : Ar} (i : Nat), RA k L H vs as → RA k L H (vs.take i) (as.take i)
  | _, _, 0, _ => .nil
  | _, _, _ + 1, .nil => .nil
  | _, _, i + 1, .cons h1 h2 => .cons h1 (RA.take i h2)
theorem RA.drop {k : Wd} {L : List Addr} {H : Hp} : ∀ {vs : List V} {as : Ar} (i : Nat), RA k L H vs as → RA k L H (vs.drop i) (as.drop i)
  | _, _, 0, h => h
  | _, _, _ + 1, .nil => .nil
  | _, _, i + 1, .cons _ h2 => RA.drop i h2
theorem RA.app {k : Wd} {L : List Addr} {H : Hp} : ∀ {vs ws : List V} {as bs : Ar}, RA k L H vs as → RA k L H ws bs → RA k L H (vs ++ ws) (as ++ bs)
  | _, _, _, _, .nil, h => h
  | _, _, _, _, .cons h1 h2, h => .cons h1 (RA.app h2 h)
section
variable {X : Cx} {k : Wd} {lv nr j : Nat} {e o : Expr} {es : List Expr} {pos apos : Pos} {fr : Pa} {fo : Pk} {F : Ar → Option D} {c m : Str}
theorem ig_methS {pl : Sem Bool} (h : OkS X.prog X.w X.K X.mg X.base k lv c m (j + 1) nr F) (hr : Room lv X.A) (ho : PE X o (tP k fo)) (ha : PA X (e :: es) (tAr k fr)) (hst : starEach (e :: es) X.env = (false, eval e X.env) :: starEach es X.env := by rfl) (hpl : (backTo pos (starEach es X.env)).any (·.1) = false := by rfl)
    (ht : eval (.Call (.Attribute o m apos) (e :: es) [] pos) X.env = (do
      let ov ← eval o X.env
      standAt apos.atName
      let (f, first) ← holding [ov] (getMethod ov m pl)
      callWith pos f first (backTo pos (starEach (e :: es) X.env)) (backToKw pos (keywordEach [] X.env))) := by rfl) :
    PE X (.Call (.Attribute o m apos) (e :: es) [] pos) (tG k nr (methG c m (starF j F) fo fr)) := by
  obtain ⟨hc, f, M, G⟩ := h
  refine peW (pe_methR ho hc M G hr pass0 ha hst hpl ht) fun σ H Q ⟨ρ, O, C, S, d, ef, q⟩ => ?_
  obtain ⟨⟨l, od⟩, eo, ef1⟩ := Option.bind_eq_some_iff.mp ef
  clear ef
  refine ⟨ρ, O, C, S, l, od, eo, fun v H1 e1 r1 => ?_⟩
  cases od with
  | obj c' ns xs =>
    have ef : (if c' = c ∧ m ∉ ns then (fr ρ).bind fun as => starF j F ((l, .obj c' ns xs) :: as) else none) = some d := ef1
    split at ef
    · rename_i hh
      obtain ⟨rfl, hmn⟩ := hh
      obtain ⟨as, ea, ef⟩ := Option.bind_eq_some_iff.mp ef
      obtain ⟨y, vs, dx, rfl, hl, hy, rv⟩ := r1.obj_inv
      refine ⟨y, dx, ns.zip vs, rfl, hy, lookup_no hmn, ρ, O, C, S.ex e1, as, ea, fun ws H2 e2 ra => ?_⟩
      unfold starF at ef
      split at ef
      · rename_i hz
        obtain ⟨z1, z2, z3⟩ := hz
        have rall : RA k (O ++ C) H2 (.ref y :: ws) ((l, .obj c' ns xs) :: as) := .cons (r1.ex e2) ra
        have hlen := rall.len
        refine ⟨(V.ref y :: ws).take (j + 1), (V.ref y :: ws).drop (j + 1), (List.take_append_drop _ _).symm, ?_, ?_, fun p hp => ?_⟩
        · rw [List.length_take]
          omega
        · rw [List.length_drop]
          exact line1e5 (by omega)
        · have rd := (rall.drop (j + 1)).all0 z3
          have dm := Dom.ex S.dom (e1.trans e2)
          have ex := Ex.new (o := .tup ((V.ref y :: ws).drop (j + 1))) hp
          refine ⟨_, O ++ C, d, ?_, RA.app ((rall.take (j + 1)).ex ex) (.cons (rd.newT dm hp) .nil), dm.ex ex, ef, fun v H' O1 e3 ro nd nw => q v H' O1 (((e1.trans e2).trans ex).trans e3) ro nd fun b z => ((e1.trans e2).trans ex).free (nw b z)⟩
          rw [List.length_append, List.length_take, List.length_singleton]
          omega
      · cases ef
    · cases ef
  | _ => cases ef1
end
end Iv

set_option Elab.async false
set_option linter.all false
set_option maxRecDepth 100000
set_option maxHeartbeats 4000000
namespace Iv
open PySem PySem.Spec PyProof.Rows L2

/-! ### the different ones among keys, in the order they are met -/
def putN {K : Type} [BEq K] (l : List K) (x : K) : List K := if l.contains x then l else l ++ [x]
def diffs {K : Type} [BEq K] (l : List K) : List K := l.foldl putN []
section
variable {K : Type} [DecidableEq K]
theorem putN_len (l : List K) (x : K) : (putN l x).length = if l.contains x then l.length else l.length + 1 := by
  unfold putN
  split <;> simp
theorem putN_has (l : List K) (x k : K) : (putN l x).contains k = (l.contains k || decide (k = x)) := by
  unfold putN
  by_cases h : l.contains x = true
  · rw [if_pos h]
    by_cases e : k = x
    · subst e
      rw [h]
      rfl
    · simp [e]
  · rw [if_neg h]
    by_cases e : k = x <;> simp [e]
theorem diffs_take {l : List K} {i : Nat} {x : K} (h : l[i]? = some x) : diffs (l.take (i + 1)) = putN (diffs (l.take i)) x := by
  unfold diffs
  rw [List.take_add_one, h]
  simp [List.foldl_append]
theorem diffs_le : ∀ (l : List K), (diffs l).length ≤ l.length := by
  have go : ∀ (l acc : List K), (l.foldl putN acc).length ≤ acc.length + l.length := by
    intro l
    induction l with
    | nil => intro acc; simp
    | cons x l ih =>
      intro acc
      have h1 := ih (putN acc x)
      have h2 := putN_len acc x
      simp only [List.foldl_cons, List.length_cons]
      split at h2 <;> omega
  intro l
  have := go l []
  simpa [diffs] using this
end
section
variable {prog : Program} {w : World} {A : Around} {R : Result → Shared → Prop} {J : Addr} {fp wr : List Addr} {G : Array GenState → Array GenState → Prop} {n : Nat} {P : Nat → Value → Prop} {St : Nat → Shared → Prop} {K : Type} [DecidableEq K]
theorem setOf_moved {knd : KeyKind prog w K} {S : Addr} {f : K → Bool} {m : Nat} {s s' : Shared} (h : s.heap.SetOf knd S f m) (k : ∀ o, s.heap.get? S = some o → s'.heap.get? S = some o) : s'.heap.SetOf knd S f m := by
  obtain ⟨o, es, ep, t, ho, rest⟩ := h
  exact ⟨o, es, ep, t, k o ho, rest⟩
/-- the loop of set.update over keys of one kind -/
theorem loopKeys (knd : KeyKind prog w K) (W : WalksS prog w A.in1 J fp wr G n P St) (S : Addr) (hSf : S ∉ fp) (xs : List K) (hlen : xs.length = n) (hb : n + 1 < scanBound)
    (hval : ∀ (i : Nat) (v : Value), P i v → ∃ x, xs[i]? = some x ∧ knd.is x v = true ∧ v.scannable = true) :
    ∀ (m i : Nat) (s : Shared), n - i = m → i ≤ n → St i s → s.heap.SetOf knd S (fun k => (diffs (xs.take i)).contains k) (diffs (xs.take i)).length →
      (∀ s', Moved (S :: wr) G s s' → s'.heap.SetOf knd S (fun k => (diffs xs).contains k) (diffs xs).length → R (.ok (.ret .none)) s') →
      codeAny (model prog w) A (.builtin "set.update.loop" ⟨[.ref S, .ref J], []⟩) R s := by
  have hSw : S ∉ wr := fun h => hSf (W.sub _ h)
  have hsub : ∀ b ∈ wr, b ∈ S :: wr := fun b hb => List.mem_cons_of_mem _ hb
  intro m
  induction m with
  | zero =>
    intro i s hm hi hst hS hR
    obtain rfl : i = n := by omega
    refine codeAny_builtin PyProof.Rows.F.entry_set_update_loop ?_
    rw [Around.under_plainId PyProof.Rows.F.plain_set_update_loop _]
    show wpAny _ A.in1 (pyNext (.ref J) >>= _) _ _ s
    refine wpAny_bind (W.done s _ _ hst fun s' hmv => ?_)
    show wpAny _ A.in1 (ret Value.none) _ _ s'
    rw [List.take_of_length_le (by omega)] at hS
    exact wpAny_pure (hR s' (hmv.mono hsub) (setOf_moved hS fun o e => hmv.heap S _ hSw e))
  | succ m ih =>
    intro i s hm hi hst hS hR
    have hlt : i < n := by omega
    refine codeAny_builtin PyProof.Rows.F.entry_set_update_loop ?_
    rw [Around.under_plainId PyProof.Rows.F.plain_set_update_loop _]
    show wpAny _ A.in1 (pyNext (.ref J) >>= _) _ _ s
    refine wpAny_bind (W.item i s _ _ hlt hst fun v s' hP hst' hmv => ?_)
    obtain ⟨x, hx, hk, hsc⟩ := hval i v hP
    have hS' : s'.heap.SetOf knd S (fun k => (diffs (xs.take i)).contains k) (diffs (xs.take i)).length := setOf_moved hS fun o e => hmv.heap S _ hSw e
    show wpAny _ A.in1 (holding [v] (setAdd S v) >>= _) _ _ s'
    refine wpAny_bind (wpAny_holding ?_)
    unfold setAdd
    refine wpAny_holding ?_
    refine wpAny_bind (knd.pyHash (k := x) hk ?_)
    have hroom : (diffs (xs.take i)).length + 1 < scanBound := by
      have := diffs_le (xs.take i)
      rw [List.length_take] at this
      omega
    refine wpAny_setAddHashed_of (knd := knd) (s := { s' with toks := s'.toks + 1 }) hk hsc hS' hroom fun h' hsb hS2 => ?_
    have hSi : h'.SetOf knd S (fun k => (diffs (xs.take (i + 1))).contains k) (diffs (xs.take (i + 1))).length :=
      PyProof.Rows.SetOf_congr hS2 (fun k => by rw [diffs_take hx, putN_has]) (by rw [diffs_take hx, putN_len])
    refine wpAny_pure ⟨plainId_quiet PyProof.Rows.F.plain_set_update_loop _, ih (i + 1) _ (by omega) hlt (W.frame _ s' _ _ hst' (Nat.le_succ _) fun b hb o e => ?_) hSi fun s'' hm'' hS'' => ?_⟩
    · rw [hsb.2 b (fun h : b = S => hSf (by rw [← h]; exact hb))]
      exact e
    · refine hR s'' (Moved.trans W.gtrans ((hmv.mono hsub).then_heap (Nat.le_succ _) fun b o hb e => ?_) hm'') hS''
      rw [hsb.2 b (fun h : b = S => hb (by rw [h]; exact List.mem_cons_self))]
      exact e
end
section
variable {prog : Program} {w : World} {A : Around} {E : Value → Shared → Prop} {s : Shared} {K : Type} [DecidableEq K]
set_option maxHeartbeats 3200000 in
theorem newSet_list (knd : KeyKind prog w K) {l : Addr} {items : Array Value} {xs : List K} {Q : Value → Shared → Prop} (hh : A.handled = none) (hl : s.heap.IsList l items) (hlen : xs.length = items.size) (hb : items.size + 1 < scanBound)
    (hval : ∀ (i : Nat) (v : Value), items[i]? = some v → ∃ x, xs[i]? = some x ∧ knd.is x v = true ∧ v.scannable = true)
    (h : ∀ (h' : Heap) (tk : Nat), h'.SetOf knd s.heap.objs.size (fun k => (diffs xs).contains k) (diffs xs).length → (∀ b o, b < s.heap.objs.size → s.heap.get? b = some o → h'.get? b = some o) → Q (.ref s.heap.objs.size) { s with heap := h', toks := tk }) :
    wpAny (model prog w) A (call (.type "set") [.ref l]) Q E s := by
  obtain ⟨c, tl, hmro⟩ := PySem.F.called_set.mro
  have hmade := PySem.F.called_set.made
  have hsub := PySem.F.called_set.sub
  refine wpAny_call (codeAny_of_tree ?_)
  show wpAny _ _ (callAny (.type "set") _) _ _ _
  refine wpAny_pure ⟨Code.quiet_builtin _ (by decide +kernel), codeAny_builtin PySem.F.entry_type_call ?_⟩
  rw [Around.under_plain (weight_type_call_type "set" [.ref l] []) rfl]
  have h1 := PySem.F.called_set.notType
  have h2 := PySem.F.called_set.canCreate
  have hct := PySem.F.typeCall_set_1 (.ref l)
  repeat (any_goals (first | assumption | wp_step))
  refine codeAny_mono (code_set_new_1 (.ref l) (E := E) (Q₁ := fun obj s₁ => ∃ led : Bool, obj = .ref s.heap.objs.size ∧ s₁ = { s with heap := s.heap.push { cls := .type "set", dict := none, data := .set #[] 0 (.fresh 0 0 led) } }) fun led => ⟨led, rfl, rfl⟩) fun r s₁ hr => ?_
  cases r with
  | error e => exact hr
  | ok fl =>
    cases fl with
    | ret obj =>
      obtain ⟨led, rfl, rfl⟩ := hr
      have hS : (s.heap.push { cls := .type "set", dict := none, data := .set #[] 0 (.fresh 0 0 led) }).get? s.heap.objs.size = some { cls := .type "set", dict := none, data := .set #[] 0 (.fresh 0 0 led) } := Heap.get?_push_size _ rfl
      have hT : Shared.TypeIs { s with heap := s.heap.push { cls := .type "set", dict := none, data := .set #[] 0 (.fresh 0 0 led) } } (.ref s.heap.objs.size) "set" := ⟨_, hS, rfl⟩
      have hli := PySem.F.called_set.init.lookup
      have hbi := PySem.F.called_set.init.bind (.ref s.heap.objs.size)
      repeat (any_goals (first | assumption | wp_step))
      refine codeAny_mono (codeAny_call_builtin (R := wants (fun r s₂ => r = .none ∧ ∃ h' tk, s₂ = { s with heap := h', toks := tk } ∧ h'.SetOf knd s.heap.objs.size (fun k => (diffs xs).contains k) (diffs xs).length ∧
          (∀ b o, b < s.heap.objs.size → s.heap.get? b = some o → h'.get? b = some o)) E) PySem.F.called_set.init.plain PySem.F.entry_set_init (check_set_init_1 hT ?_)) fun r₂ s₂ hr₂ => ?_
      · obtain ⟨⟨ocls, odict, odata, oslots⟩, hol, hcl, nl, hdl⟩ := hl
        simp only at hcl hdl
        subst hcl hdl
        have hol' := Heap.get?_push_of_some ({ cls := .type "set", dict := none, data := .set #[] 0 (.fresh 0 0 led) } : Obj) hol
        have hsls := PySem.F.sub_list_set
        have hslf := PySem.F.sub_list_frozenset
        have hne : (Value.type "list" == Value.type "dict") = false := by decide
        have hl1 : (s.heap.push { cls := .type "set", dict := none, data := .set #[] 0 (.fresh 0 0 led) }).IsList l items := ⟨_, hol', rfl, nl, rfl⟩
        have lt1 : s.heap.objs.size < (s.heap.push { cls := .type "set", dict := none, data := .set #[] 0 (.fresh 0 0 led) }).objs.size := by rw [Heap.size_push]; exact Nat.lt_succ_self _
        have hlS : l < s.heap.objs.size := Heap.lt_size hol
        unfold Builtin.«set.__init__» noKeywords Builtin.Frozenset.updateFrom
        generalize hPI : pyIter = PI
        wp_walk
        subst hPI
        refine wpAny_pyIter_list hl1 ?_
        refine wpAny_bind (wpAny_runValue ?_)
        refine loopKeys knd ((Walks.list (by simp [hh]) _ l (Nat.ne_of_lt (Nat.lt_trans hlS lt1)) items).toS) s.heap.objs.size (by simp only [List.mem_cons, List.not_mem_nil, or_false, not_or]; exact ⟨Nat.ne_of_lt lt1, Nat.ne_of_gt hlS⟩) xs hlen hb hval (items.size - 0) 0 _ (by omega) (Nat.zero_le _)
          ⟨⟨_, Heap.get?_push_size _ rfl, rfl, rfl⟩, hl1.push _⟩ ?hS0 ?hR
        case hS0 =>
          have hget := Heap.get?_push_of_some ({ cls := .type "list_iterator", data := .fields #[.ref l, .int 0 0] } : Obj) hS
          exact PyProof.Rows.SetOf_congr ((PyProof.Rows.setObjOf_fresh (knd := knd) led).setOf hget (by unfold scanBound; omega)) (fun _ => rfl) rfl
        case hR =>
          intro s' hm hS'
          obtain ⟨h', g', d', tk', os'⟩ := s'
          obtain rfl : g' = s.gens := hm.gens
          obtain rfl : d' = s.drawn := hm.drawn
          obtain rfl : os' = s.os := hm.os
          show wpAny _ _ _ _ _ _
          refine wpAny_pure ?_
          show wpAny _ _ (ret Value.none) _ _ _
          exact wpAny_pure ⟨rfl, h', tk', rfl, hS', fun b o hb e => hm.heap b o (by simp only [List.mem_cons, List.not_mem_nil, or_false, not_or]; exact ⟨Nat.ne_of_lt hb, Nat.ne_of_lt (Nat.lt_trans hb lt1)⟩) (Heap.get?_push_of_some _ (Heap.get?_push_of_some _ e))⟩
      · cases r₂ with
        | error e => exact hr₂
        | ok fl₂ =>
          cases fl₂ with
          | ret r =>
            obtain ⟨rfl, h', tk, rfl, hS', hk'⟩ := hr₂
            repeat (any_goals (first | assumption | wp_step))
            exact h _ _ hS' hk'
          | _ => exact hr₂.elim
    | _ => exact hr.elim
set_option maxHeartbeats 3200000 in
theorem newSet_tuple (knd : KeyKind prog w K) {l : Addr} {items : Array Value} {xs : List K} {Q : Value → Shared → Prop} (hh : A.handled = none) (hl : s.heap.IsTuple l items) (hlen : xs.length = items.size) (hb : items.size + 1 < scanBound)
    (hval : ∀ (i : Nat) (v : Value), items[i]? = some v → ∃ x, xs[i]? = some x ∧ knd.is x v = true ∧ v.scannable = true)
    (h : ∀ (h' : Heap) (tk : Nat), h'.SetOf knd s.heap.objs.size (fun k => (diffs xs).contains k) (diffs xs).length → (∀ b o, b < s.heap.objs.size → s.heap.get? b = some o → h'.get? b = some o) → Q (.ref s.heap.objs.size) { s with heap := h', toks := tk }) :
    wpAny (model prog w) A (call (.type "set") [.ref l]) Q E s := by
  obtain ⟨c, tl, hmro⟩ := PySem.F.called_set.mro
  have hmade := PySem.F.called_set.made
  have hsub := PySem.F.called_set.sub
  refine wpAny_call (codeAny_of_tree ?_)
  show wpAny _ _ (callAny (.type "set") _) _ _ _
  refine wpAny_pure ⟨Code.quiet_builtin _ (by decide +kernel), codeAny_builtin PySem.F.entry_type_call ?_⟩
  rw [Around.under_plain (weight_type_call_type "set" [.ref l] []) rfl]
  have h1 := PySem.F.called_set.notType
  have h2 := PySem.F.called_set.canCreate
  have hct := PySem.F.typeCall_set_1 (.ref l)
  repeat (any_goals (first | assumption | wp_step))
  refine codeAny_mono (code_set_new_1 (.ref l) (E := E) (Q₁ := fun obj s₁ => ∃ led : Bool, obj = .ref s.heap.objs.size ∧ s₁ = { s with heap := s.heap.push { cls := .type "set", dict := none, data := .set #[] 0 (.fresh 0 0 led) } }) fun led => ⟨led, rfl, rfl⟩) fun r s₁ hr => ?_
  cases r with
  | error e => exact hr
  | ok fl =>
    cases fl with
    | ret obj =>
      obtain ⟨led, rfl, rfl⟩ := hr
      have hS : (s.heap.push { cls := .type "set", dict := none, data := .set #[] 0 (.fresh 0 0 led) }).get? s.heap.objs.size = some { cls := .type "set", dict := none, data := .set #[] 0 (.fresh 0 0 led) } := Heap.get?_push_size _ rfl
      have hT : Shared.TypeIs { s with heap := s.heap.push { cls := .type "set", dict := none, data := .set #[] 0 (.fresh 0 0 led) } } (.ref s.heap.objs.size) "set" := ⟨_, hS, rfl⟩
      have hli := PySem.F.called_set.init.lookup
      have hbi := PySem.F.called_set.init.bind (.ref s.heap.objs.size)
      repeat (any_goals (first | assumption | wp_step))
      refine codeAny_mono (codeAny_call_builtin (R := wants (fun r s₂ => r = .none ∧ ∃ h' tk, s₂ = { s with heap := h', toks := tk } ∧ h'.SetOf knd s.heap.objs.size (fun k => (diffs xs).contains k) (diffs xs).length ∧
          (∀ b o, b < s.heap.objs.size → s.heap.get? b = some o → h'.get? b = some o)) E) PySem.F.called_set.init.plain PySem.F.entry_set_init (check_set_init_1 hT ?_)) fun r₂ s₂ hr₂ => ?_
      · obtain ⟨⟨ocls, odict, odata, oslots⟩, hol, hcl, nl, hdl⟩ := hl
        simp only at hcl hdl
        subst hcl hdl
        have hol' := Heap.get?_push_of_some ({ cls := .type "set", dict := none, data := .set #[] 0 (.fresh 0 0 led) } : Obj) hol
        have hsls := PySem.F.sub_tuple_set
        have hslf := PySem.F.sub_tuple_frozenset
        have hne : (Value.type "tuple" == Value.type "dict") = false := by decide
        have hl1 : (s.heap.push { cls := .type "set", dict := none, data := .set #[] 0 (.fresh 0 0 led) }).IsTuple l items := ⟨_, hol', rfl, nl, rfl⟩
        have lt1 : s.heap.objs.size < (s.heap.push { cls := .type "set", dict := none, data := .set #[] 0 (.fresh 0 0 led) }).objs.size := by rw [Heap.size_push]; exact Nat.lt_succ_self _
        have hlS : l < s.heap.objs.size := Heap.lt_size hol
        unfold Builtin.«set.__init__» noKeywords Builtin.Frozenset.updateFrom
        generalize hPI : pyIter = PI
        wp_walk
        subst hPI
        refine wpAny_pyIter_tuple hl1 ?_
        refine wpAny_bind (wpAny_runValue ?_)
        refine loopKeys knd ((Walks.tuple (by simp [hh]) _ l (Nat.ne_of_lt (Nat.lt_trans hlS lt1)) items).toS) s.heap.objs.size (by simp only [List.mem_cons, List.not_mem_nil, or_false, not_or]; exact ⟨Nat.ne_of_lt lt1, Nat.ne_of_gt hlS⟩) xs hlen hb hval (items.size - 0) 0 _ (by omega) (Nat.zero_le _)
          ⟨⟨_, Heap.get?_push_size _ rfl, rfl, rfl⟩, hl1.push _⟩ ?hS0 ?hR
        case hS0 =>
          have hget := Heap.get?_push_of_some ({ cls := .type "tuple_iterator", data := .fields #[.ref l, .int 0 0] } : Obj) hS
          exact PyProof.Rows.SetOf_congr ((PyProof.Rows.setObjOf_fresh (knd := knd) led).setOf hget (by unfold scanBound; omega)) (fun _ => rfl) rfl
        case hR =>
          intro s' hm hS'
          obtain ⟨h', g', d', tk', os'⟩ := s'
          obtain rfl : g' = s.gens := hm.gens
          obtain rfl : d' = s.drawn := hm.drawn
          obtain rfl : os' = s.os := hm.os
          show wpAny _ _ _ _ _ _
          refine wpAny_pure ?_
          show wpAny _ _ (ret Value.none) _ _ _
          exact wpAny_pure ⟨rfl, h', tk', rfl, hS', fun b o hb e => hm.heap b o (by simp only [List.mem_cons, List.not_mem_nil, or_false, not_or]; exact ⟨Nat.ne_of_lt hb, Nat.ne_of_lt (Nat.lt_trans hb lt1)⟩) (Heap.get?_push_of_some _ (Heap.get?_push_of_some _ e))⟩
      · cases r₂ with
        | error e => exact hr₂
        | ok fl₂ =>
          cases fl₂ with
          | ret r =>
            obtain ⟨rfl, h', tk, rfl, hS', hk'⟩ := hr₂
            repeat (any_goals (first | assumption | wp_step))
            exact h _ _ hS' hk'
          | _ => exact hr₂.elim
    | _ => exact hr.elim
end
/-! ### the expression -/
def strsD : List D → Option (List Str)
  | [] => some []
  | .str s :: ds => (strsD ds).map fun ss => s :: ss
  | _ => none
theorem strs_inv {k : Wd} {L M : List Addr} {H : Hp} {n : Nat} : ∀ {vs : List V} {ds : List D} {bs : List Str}, Rs k L M H n vs ds → strsD ds = some bs → vs = bs.map V.str
  | [], [], bs, _, e => by
    cases e
    rfl
  | v :: vs, d :: ds, bs, h, e => by
    cases h with
    | cons h1 h2 =>
      cases d with
      | str s =>
        obtain ⟨ss, e2, rfl⟩ := Option.map_eq_some_iff.mp (show (strsD ds).map (fun ss => s :: ss) = some bs from e)
        rw [h1.str_inv, strs_inv h2 e2]
        rfl
      | _ => cases e
  | [], _ :: _, _, h, _ => by cases h
  | _ :: _, [], _, h, _ => by cases h
def lsetL (xs : List D) : Option D := if xs.length ≤ 4000 then
    match intsD xs with
    | some ns => some (.int (diffs ns).length)
    | none => (strsD xs).map fun ss => .int (diffs ss).length
  else none
def lsetD : D → Option D
  | .lst xs => lsetL xs
  | .tup xs => lsetL xs
  | _ => none
def tLset (K : PySem.W.Frag) (ta : TE) : TE := fun σ H Q => ta σ H fun x H1 => ∃ l vs, x = .ref l ∧ (SqL K H1 l vs ∨ SqT K H1 l vs) ∧ vs.length ≤ 4000 ∧ ((∃ ns : List Int, vs = ns.map V.int ∧ Q (.int (diffs ns).length) H1) ∨ ∃ ss : List Str, vs = ss.map V.str ∧ Q (.int (diffs ss).length) H1)
theorem vals_int : ∀ {ns : List Int} {us : List Value}, Vals (ns.map V.int) us → ∀ (i : Nat) (v : Value), us[i]? = some v → ∃ x, ns[i]? = some x ∧ v.isInt x = true ∧ v.scannable = true
  | [], _, .nil, i, v, h => by simp at h
  | n :: ns, _, .cons r t, 0, v, h => by
    obtain ⟨tk, rfl⟩ := r
    simp at h
    subst h
    exact ⟨n, rfl, by simp [Value.isInt], rfl⟩
  | n :: ns, _, .cons r t, i + 1, v, h => by
    simp only [List.getElem?_cons_succ] at h ⊢
    exact vals_int t i v h
theorem vals_str : ∀ {ns : List Str} {us : List Value}, Vals (ns.map V.str) us → ∀ (i : Nat) (v : Value), us[i]? = some v → ∃ x, ns[i]? = some x ∧ Value.isStrOf x v = true ∧ v.scannable = true
  | [], _, .nil, i, v, h => by simp at h
  | n :: ns, _, .cons r t, 0, v, h => by
    obtain ⟨tk, rfl⟩ := r
    simp at h
    subst h
    exact ⟨n, rfl, by simp [Value.isStrOf], rfl⟩
  | n :: ns, _, .cons r t, i + 1, v, h => by
    simp only [List.getElem?_cons_succ] at h ⊢
    exact vals_str t i v h
section
variable {X : Cx} {k : Wd} {a : Expr} {ta : TE} {p p2 q pos : Pos} {fa : Pk}
theorem pe_lset (hc : X.calm = true) (hg : Gl X "len") (hm : X.mg "len" = none) (hg2 : Gl X "set") (hm2 : X.mg "set" = none) (ha : PE X a ta)
    (na : starEach [a] X.env = (false, eval a X.env) :: starEach [] X.env := by rfl) : PE X (.Call (.Name "len" p) [.Call (.Name "set" p2) [a] [] q] [] pos) (tLset X.K ta) := by
  refine ⟨fun pins s σ H Q I h => ?_⟩
  refine Call_ (ld_blt I hg hm boot_len ?_)
  refine PyProof.Rows.callWith_builtin1 (PyProof.Rows.args_cons ?_ rfl) rfl rfl
  refine Call_ (ld_blt I hg2 hm2 boot_set ?_)
  refine PyProof.Rows.callWith_type1 (PyProof.Rows.args_cons (thn (ha.run pins s σ H _ I h) fun v s1 ⟨x, H1, I1, r1, q1⟩ => PyProof.Rows.args_nil ?_) na) na rfl
  obtain ⟨l, vs, rfl, hq, hz, q1⟩ := q1
  cases r1
  have sb : (scanBound : Nat) = 4096 := rfl
  have fin : ∀ {K : Type} [DecidableEq K] (knd : KeyKind X.prog X.w K) (xs : List K), xs.length ≤ 4000 → Q (.int (diffs xs).length) H1 → ∀ (h' : Heap) (tk : Nat), h'.SetOf knd s1.heap.objs.size (fun k => (diffs xs).contains k) (diffs xs).length →
      (∀ b o, b < s1.heap.objs.size → s1.heap.get? b = some o → h'.get? b = some o) →
      wpAny (model X.prog X.w) X.A (spliced (backTo pos (starEach [] X.env))) (fun vs s₂ => wpAny (model X.prog X.w) X.A (call (.builtin "len") (Value.ref s1.heap.objs.size :: vs)) (EP X pins σ Q) X.xe s₂) X.xe { s1 with heap := h', toks := tk } := fun {K} _ knd xs hl hQ h' tk hS hk => by
    refine PyProof.Rows.args_nil ?_
    have hle := diffs_le xs
    obtain ⟨o, es, ep, t, ho, hex, hd, _, _, _, hf, hn⟩ := hS
    have I2 : Inv X pins σ H1 { s1 with heap := h', toks := tk } := I1.kept fun b o e => hk b o (Heap.lt_size e) e
    refine call_len_set ho hex hd hf (by rw [hn] <;> omega) ⟨.int (diffs xs).length, H1, I2.tok _, ⟨_, by rw [hn]⟩, hQ⟩
  rcases q1 with ⟨ns, rfl, q1⟩ | ⟨ns, rfl, q1⟩
  · have hz' : ns.length ≤ 4000 := by simpa using hz
    rcases hq with hq | hq
    · obtain ⟨its, r, pl, hz2⟩ := I1.list hq
      have hl : ns.length = its.toArray.size := by rw [List.size_toArray, ← r.length, List.length_map]
      exact newSet_list (intKind X.prog X.w) (I1.ok.hd hc) pl.isList hl (by omega) (fun i v e => vals_int r i v (by simpa using e)) (fin _ ns hz' q1)
    · obtain ⟨its, r, pl, hz2⟩ := I1.tuple hq
      have hl : ns.length = its.toArray.size := by rw [List.size_toArray, ← r.length, List.length_map]
      exact newSet_tuple (intKind X.prog X.w) (I1.ok.hd hc) pl hl (by omega) (fun i v e => vals_int r i v (by simpa using e)) (fin _ ns hz' q1)
  · have hz' : ns.length ≤ 4000 := by simpa using hz
    rcases hq with hq | hq
    · obtain ⟨its, r, pl, hz2⟩ := I1.list hq
      have hl : ns.length = its.toArray.size := by rw [List.size_toArray, ← r.length, List.length_map]
      exact newSet_list (strKind X.prog X.w) (I1.ok.hd hc) pl.isList hl (by omega) (fun i v e => vals_str r i v (by simpa using e)) (fin _ ns hz' q1)
    · obtain ⟨its, r, pl, hz2⟩ := I1.tuple hq
      have hl : ns.length = its.toArray.size := by rw [List.size_toArray, ← r.length, List.length_map]
      exact newSet_tuple (strKind X.prog X.w) (I1.ok.hd hc) pl hl (by omega) (fun i v e => vals_str r i v (by simpa using e)) (fin _ ns hz' q1)
theorem lset_cases {xs : List D} {d : D} {L M : List Addr} {H : Hp} {n : Nat} {vs : List V} (h : lsetL xs = some d) (r : Rs k L M H n vs xs) : vs.length ≤ 4000 ∧ ((∃ ns : List Int, vs = ns.map V.int ∧ d = .int (diffs ns).length) ∨ ∃ ss : List Str, vs = ss.map V.str ∧ d = .int (diffs ss).length) := by
  unfold lsetL at h
  split at h
  · rename_i hz
    refine ⟨by rw [r.len]; exact hz, ?_⟩
    split at h
    · rename_i ns en
      cases h
      exact .inl ⟨ns, ints_inv r en, rfl⟩
    · obtain ⟨ss, es, rfl⟩ := Option.map_eq_some_iff.mp h
      exact .inr ⟨ss, strs_inv r es, rfl⟩
  · cases h
theorem ip_lset (hk : k.K = X.K) (hc : X.calm = true) (hg : Gl X "len") (hm : X.mg "len" = none) (hg2 : Gl X "set") (hm2 : X.mg "set" = none) (ha : PE X a (tP k fa))
    (na : starEach [a] X.env = (false, eval a X.env) :: starEach [] X.env := by rfl) : PE X (.Call (.Name "len" p) [.Call (.Name "set" p2) [a] [] q] [] pos) (tP k (una lsetD fa)) :=
  peW (pe_lset hc hg hm hg2 hm2 ha na) fun σ H Q ⟨ρ, O, C, S, m, d, ef, q⟩ => by
    obtain ⟨⟨nx, dx⟩, ea, ef1⟩ := Option.bind_eq_some_iff.mp ef
    obtain ⟨d', eg, ef2⟩ := Option.map_eq_some_iff.mp ef1
    cases ef2
    clear ef ef1
    refine ⟨ρ, O, C, S, nx, dx, ea, fun x H1 e1 r1 => ?_⟩
    cases dx with
    | lst xs =>
      obtain ⟨l, vs, rfl, h1, h2⟩ := r1.lst_inv
      obtain ⟨hz, hc⟩ := lset_cases eg h2
      refine ⟨l, vs, rfl, .inl (.inl h1), hz, ?_⟩
      rcases hc with ⟨ns, e, rfl⟩ | ⟨ns, e, rfl⟩
      · exact .inl ⟨ns, e, q _ H1 e1 (.int _)⟩
      · exact .inr ⟨ns, e, q _ H1 e1 (.int _)⟩
    | tup xs =>
      obtain ⟨l, vs, rfl, h1, h2⟩ := r1.tup_inv
      obtain ⟨hz, hc⟩ := lset_cases eg h2
      refine ⟨l, vs, rfl, .inr (hk ▸ h1), hz, ?_⟩
      rcases hc with ⟨ns, e, rfl⟩ | ⟨ns, e, rfl⟩
      · exact .inl ⟨ns, e, q _ H1 e1 (.int _)⟩
      · exact .inr ⟨ns, e, q _ H1 e1 (.int _)⟩
    | _ => cases eg
end
end Iv

set_option Elab.async false
set_option linter.all false
set_option maxRecDepth 100000
set_option maxHeartbeats 4000000
namespace Iv
open PySem PySem.Spec PyProof.Rows L2

/-! ### the head's Hook: names, defs, and one more Bool of what K says of the classes -/
def frV (n : Nat) (g : Addr → Option Obj) : PySem.W.Frag := He.frG g (He.asD g n ++ [cStatics])
abbrev AlV : Type := He.AlD × Bool
def obsV (n : Nat) (fa : List He.Fa) (fn : List He.DefD) (ex : PySem.W.Frag → Bool) (g : Addr → Option Obj) : AlV := (He.obsD fa fn (frV n g), ex (frV n g))
def hookV (n : Nat) (fa : List He.Fa) (fn : List He.DefD) (ex : PySem.W.Frag → Bool) : PySem.W.Hook where
  α := AlV
  obs := fun s => obsV n fa fn ex s.heap.get?
  val := fun _ => (He.valD fn, true)
  says := fun _ h => ∃ K : PySem.W.Frag, K.In h ∧ He.SaysD fa fn K ∧ ex K = true
  of := fun _ s e => ⟨frV n s.heap.get?, He.frG_in, congrArg (fun z : AlV => z.1) e, congrArg (fun z : AlV => z.2) e⟩
  keeps := fun _ _ _ ⟨K, hK, c⟩ k => ⟨K, PySem.W.Frag.In.keeps hK k, c⟩
theorem obsV_eq {n : Nat} {fa : List He.Fa} {fn : List He.DefD} {ex : PySem.W.Frag → Bool} {g : Addr → Option Obj} {s : Shared} (h : ∀ a, g a = s.heap.get? a) : obsV n fa fn ex g = (hookV n fa fn ex).obs s := by
  have e : g = s.heap.get? := funext h
  rw [e] <;> rfl
/-- what isinstance asks of an own class -/
def insB (K : PySem.W.Frag) (c : Str) : Bool := He.eqO (PySem.W.findIn K (.ref (He.ga K c)) "__class__") (some (some (.builtin "object.__class__"))) &&
  (He.eqO (PySem.W.specialIn K (.builtin "object.__class__") "__get__") (some (some (.builtin "getset_descriptor.__get__"))) && (decide (PySem.W.takesIn K (.builtin "object.__class__") = some true) &&
  (decide (PySem.W.mroIn K (He.ga K c) (.type "object") = some true) && decide (PySem.W.kitOne K (.ref (He.ga K c)) (.ref (He.ga K c)) = some true))))
theorem insB_ok {K : PySem.W.Frag} {c : Str} (h : insB K c = true) (cl : Cls K (He.ga K c)) : C8.InsC K (He.ga K c) := by
  obtain ⟨h1, h⟩ := He.ba h
  obtain ⟨h2, h⟩ := He.ba h
  obtain ⟨h3, h⟩ := He.ba h
  obtain ⟨h4, h5⟩ := He.ba h
  exact ⟨cl, He.eqO_ok h1, He.eqO_ok h2, of_decide_eq_true h3, of_decide_eq_true h4, of_decide_eq_true h5⟩
/-- a class's int constant -/
def ccB (K : PySem.W.Frag) (c f : Str) (v : Int) : Bool := PySem.W.readsIn K (He.ga K c) (.type "type") && (He.eqO (PySem.W.specialIn K (.ref (He.ga K c)) "__getattribute__") (some (some (.builtin "type.__getattribute__"))) &&
  match PySem.W.findCls K (.ref (He.ga K c)) (.type "type") f with
  | some (.val (.int j _)) => decide (j = v)
  | _ => false)
theorem ccB_ok {K : PySem.W.Frag} {c f : Str} {v : Int} (h : ccB K c f v = true) : CcI K (He.ga K c) f v := by
  obtain ⟨h1, h⟩ := He.ba h
  obtain ⟨h2, h3⟩ := He.ba h
  split at h3
  · rename_i j t e
    obtain rfl := of_decide_eq_true h3
    exact ⟨_, _, ⟨h1, He.eqO_ok h2⟩, e, t, rfl⟩
  · cases h3
theorem FunD.nil {K : PySem.W.Frag} {x qual : Str} {params : Arguments} {body : List Stmt} {scope : Scope} {dvs : List V} {kws : List (Str × V)} {f : Addr} {fd : FuncData} (F : FunD K x qual params body scope dvs kws f fd) (h1 : dvs = []) (h2 : kws = []) : FunD K x qual params body scope [] [] f fd := by
  subst h1 h2
  exact F
/-- the world by names -/
abbrev wd (K : PySem.W.Frag) : Wd := ⟨K, fun c => He.ga K c⟩
/-- a law's promise from its mirror -/
theorem law_sp {P : Program} {w : World} {K : PySem.W.Frag} {mg : Str → Option Value} {base : Heap} {lv : Nat} {f : Addr} {fd : FuncData} {F : Ar → Option D} (n : Nat) (G : FnOk P w K mg base CX0 lv f fd ["script"] (spF (wd K) 1 0 F)) (h : ∀ ns : List Int, ns.length ≤ n → F [(0, .scr ns)] = some (.bl true)) :
    ∀ (H : Hp) (a : Addr) (ns : List Int), ns.length ≤ n → SqL K H a (ns.map V.int) → spF (wd K) 1 0 F [.ref a] H (fun v _ => v = .bl true) (fun _ _ _ => False) := by
  intro H a ns hl hS
  refine ⟨[(0, .scr ns)], [], .bl true, rfl, .cons ?_ .nil, fun a h => (by cases h), h ns hl, fun v H' O1 _ ro _ _ => ?_⟩
  · rcases hS with h | h
    · exact .scr h (by simp)
    · exact .scrS h
  · cases ro with
    | zero r => exact r.bl_inv
end Iv

set_option Elab.async false
set_option linter.all false
set_option maxRecDepth 100000
set_option maxHeartbeats 1000000
/-! plain facts of the mirrors' functions, of no program -/
namespace Pl
open PySem Iv

/-! #### in, == -/
theorem inV_str (s : Str) (xs : List Str) : L2.inV (L2.V.str s) (xs.map L2.V.str) = decide (s ∈ xs) := by
  unfold L2.inV
  induction xs with
  | nil => simp
  | cons x xs ih =>
    rw [List.map_cons, List.any_cons, ih]
    simp only [L2.eqV, List.mem_cons]
    by_cases h : s = x
    · subst h
      simp
    · have e : (x == s) = false := by simpa using fun z => h z.symm
      simp [h, e]
theorem all_flatS (xs : List Str) : (xs.map D.str).all D.flat = true := by
  simp [List.all_eq_true, D.flat]
theorem all_flatI (xs : List Int) : (xs.map D.int).all D.flat = true := by
  simp [List.all_eq_true, D.flat]
theorem map_vS (xs : List Str) : (xs.map D.str).map D.v = xs.map L2.V.str := by
  simp [D.v]
theorem in_lstS (s : Str) (xs : List Str) : inC (.str s) (.lst (xs.map .str)) = some (decide (s ∈ xs)) := by
  simp only [inC, all_flatS, map_vS, D.flat, D.v, inV_str, and_self, if_true]
theorem in_tupS (s : Str) (xs : List Str) : inC (.str s) (.tup (xs.map .str)) = some (decide (s ∈ xs)) := by
  simp only [inC, all_flatS, map_vS, D.flat, D.v, inV_str, and_self, if_true]
theorem nin_lstS (s : Str) (xs : List Str) : ninC (.str s) (.lst (xs.map .str)) = some (decide (s ∉ xs)) := by
  simp [ninC, in_lstS]
theorem nin_tupS (s : Str) (xs : List Str) : ninC (.str s) (.tup (xs.map .str)) = some (decide (s ∉ xs)) := by
  simp [ninC, in_tupS]
theorem sh_int (i : Int) : SeqAt.shaped (.int i) = true := rfl
theorem sh_str {i : Str} (h : PyData.strOk i = true) : SeqAt.shaped (.str i) = true := by
  simp [SeqAt.shaped, PyData.canLay0, PyData.depth, h]
theorem eq_str {a b : Str} (ha : PyData.strOk a = true) (hb : PyData.strOk b = true) : eqC (.str a) (.str b) = some (decide (a = b)) := by
  simp only [eqC, D.py, sh_str ha, sh_str hb, and_self, if_true, PyData.eqv]
  by_cases h : a = b <;> simp [h]
theorem eq_int (a b : Int) : eqC (.int a) (.int b) = some (decide (a = b)) := by
  simp only [eqC, D.py, sh_int, and_self, if_true, PyData.eqv]
  by_cases h : a = b <;> simp [h]
theorem ne_int (a b : Int) : neC (.int a) (.int b) = some (decide (a ≠ b)) := by
  simp [neC, eq_int]
theorem ne_str {a b : Str} (ha : PyData.strOk a = true) (hb : PyData.strOk b = true) : neC (.str a) (.str b) = some (decide (a ≠ b)) := by
  simp [neC, eq_str ha hb]
theorem pys_map {α : Type} (f : α → D) (g : α → PyData) (h : ∀ x, (f x).py = g x) : ∀ xs : List α, pys (xs.map f) = xs.map g
  | [] => rfl
  | x :: xs => by simp [pys, h, pys_map f g h xs]
theorem eqvAll_I : ∀ xs ys : List Int, PyData.eqvAll (xs.map .int) (ys.map .int) = decide (xs = ys)
  | [], [] => rfl
  | x :: xs, y :: ys => by
    simp only [List.map_cons, PyData.eqvAll, PyData.eqv, eqvAll_I xs ys, List.cons.injEq]
    by_cases h : x = y <;> simp [h]
  | [], _ :: _ => by simp [PyData.eqvAll]
  | _ :: _, [] => by simp [PyData.eqvAll]
theorem eqvAll_S : ∀ xs ys : List Str, PyData.eqvAll (xs.map .str) (ys.map .str) = decide (xs = ys)
  | [], [] => rfl
  | x :: xs, y :: ys => by
    simp only [List.map_cons, PyData.eqvAll, PyData.eqv, eqvAll_S xs ys, List.cons.injEq]
    by_cases h : x = y <;> simp [h]
  | [], _ :: _ => by simp [PyData.eqvAll]
  | _ :: _, [] => by simp [PyData.eqvAll]
theorem canI (xs : List Int) : PyData.canLayAll0 (xs.map .int) = true := by
  induction xs with
  | nil => rfl
  | cons x xs ih => simpa [PyData.canLayAll0, PyData.canLay0] using ih
theorem canS (xs : List Str) (h : ∀ x ∈ xs, PyData.strOk x = true) : PyData.canLayAll0 (xs.map .str) = true := by
  induction xs with
  | nil => rfl
  | cons x xs ih =>
    simp only [List.map_cons, PyData.canLayAll0, PyData.canLay0, Bool.and_eq_true]
    exact ⟨h x List.mem_cons_self, ih fun y hy => h y (List.mem_cons_of_mem _ hy)⟩
theorem depthI (xs : List Int) : PyData.depthAll (xs.map .int) ≤ 1 := by
  induction xs with
  | nil => simp [PyData.depthAll]
  | cons x xs ih => simp only [List.map_cons, PyData.depthAll, PyData.depth]; omega
theorem depthS (xs : List Str) : PyData.depthAll (xs.map .str) ≤ 1 := by
  induction xs with
  | nil => simp [PyData.depthAll]
  | cons x xs ih => simp only [List.map_cons, PyData.depthAll, PyData.depth]; omega
theorem sh_lstI (xs : List Int) : SeqAt.shaped (.list (xs.map .int)) = true := by
  have h1 := depthI xs
  unfold SeqAt.shaped
  rw [Bool.and_eq_true]
  refine ⟨by simp only [PyData.canLay0, canI], decide_eq_true ?_⟩
  simp only [PyData.depth]
  omega
theorem sh_tupI (xs : List Int) : SeqAt.shaped (.tuple (xs.map .int)) = true := by
  have h1 := depthI xs
  unfold SeqAt.shaped
  rw [Bool.and_eq_true]
  refine ⟨by simp only [PyData.canLay0, canI], decide_eq_true ?_⟩
  simp only [PyData.depth]
  omega
theorem sh_lstS {xs : List Str} (h : ∀ x ∈ xs, PyData.strOk x = true) : SeqAt.shaped (.list (xs.map .str)) = true := by
  have h1 := depthS xs
  unfold SeqAt.shaped
  rw [Bool.and_eq_true]
  refine ⟨by simp only [PyData.canLay0, canS xs h], decide_eq_true ?_⟩
  simp only [PyData.depth]
  omega
theorem sh_tupS {xs : List Str} (h : ∀ x ∈ xs, PyData.strOk x = true) : SeqAt.shaped (.tuple (xs.map .str)) = true := by
  have h1 := depthS xs
  unfold SeqAt.shaped
  rw [Bool.and_eq_true]
  refine ⟨by simp only [PyData.canLay0, canS xs h], decide_eq_true ?_⟩
  simp only [PyData.depth]
  omega
theorem eq_lstI (xs ys : List Int) : eqC (.lst (xs.map .int)) (.lst (ys.map .int)) = some (decide (xs = ys)) := by
  simp only [eqC, D.py, pys_map D.int PyData.int (fun _ => rfl), sh_lstI, and_self, if_true, PyData.eqv, eqvAll_I]
theorem ne_lstI (xs ys : List Int) : neC (.lst (xs.map .int)) (.lst (ys.map .int)) = some (decide (xs ≠ ys)) := by
  simp [neC, eq_lstI]
theorem eq_tupI (xs ys : List Int) : eqC (.tup (xs.map .int)) (.tup (ys.map .int)) = some (decide (xs = ys)) := by
  simp only [eqC, D.py, pys_map D.int PyData.int (fun _ => rfl), sh_tupI, and_self, if_true, PyData.eqv, eqvAll_I]
theorem eq_lstS {xs ys : List Str} (h : ∀ x ∈ xs, PyData.strOk x = true) (h' : ∀ x ∈ ys, PyData.strOk x = true) : eqC (.lst (xs.map .str)) (.lst (ys.map .str)) = some (decide (xs = ys)) := by
  simp only [eqC, D.py, pys_map D.str PyData.str (fun _ => rfl), sh_lstS h, sh_lstS h', and_self, if_true, PyData.eqv, eqvAll_S]
theorem ne_lstS {xs ys : List Str} (h : ∀ x ∈ xs, PyData.strOk x = true) (h' : ∀ x ∈ ys, PyData.strOk x = true) : neC (.lst (xs.map .str)) (.lst (ys.map .str)) = some (decide (xs ≠ ys)) := by
  simp [neC, eq_lstS h h']
theorem eq_tupS {xs ys : List Str} (h : ∀ x ∈ xs, PyData.strOk x = true) (h' : ∀ x ∈ ys, PyData.strOk x = true) : eqC (.tup (xs.map .str)) (.tup (ys.map .str)) = some (decide (xs = ys)) := by
  simp only [eqC, D.py, pys_map D.str PyData.str (fun _ => rfl), sh_tupS h, sh_tupS h', and_self, if_true, PyData.eqv, eqvAll_S]

/-! #### items, slices -/
theorem at_map {α β : Type} (f : α → β) (xs : List α) (i : Int) : L2.atI (xs.map f) i = (L2.atI xs i).map f := by
  unfold L2.atI
  rw [List.length_map]
  cases L2.ixN xs.length i with
  | none => rfl
  | some j => simp
theorem at_nat {α : Type} (xs : List α) {i : Int} {j : Nat} (h : i = j) : L2.atI xs i = xs[j]? := by
  subst h
  unfold L2.atI L2.ixN
  rw [if_pos (by omega)]
  split
  · simp
  · simp; omega
theorem at_last {α : Type} (xs : List α) : L2.atI xs (-1) = xs[xs.length - 1]? := by
  unfold L2.atI L2.ixN
  rw [if_neg (by omega)]
  split
  · simp only [Option.bind_some]
    congr 1
    omega
  · cases xs with
    | nil => rfl
    | cons x xs => simp only [List.length_cons] at *; omega
theorem cut_map {α : Type} (f : α → D) (xs : List α) (lo hi : Option Int) : cutD (xs.map f) lo hi = ((xs.drop (HT.sIx xs.length 0 lo)).take (HT.sIx xs.length xs.length hi - HT.sIx xs.length 0 lo)).map f := by
  unfold cutD
  simp
theorem cut_drop {α : Type} (f : α → D) (xs : List α) {i : Int} {j : Nat} (h : i = j) : cutD (xs.map f) (some i) none = (xs.drop j).map f := by
  subst h
  rw [cut_map, HT.sIx_nat, HT.sIx_none]
  congr 1
  rw [List.take_of_length_le (by simp)]
  by_cases hj : j ≤ xs.length
  · rw [Nat.min_eq_left hj]
  · rw [Nat.min_eq_right (by omega), List.drop_of_length_le (Nat.le_refl _), List.drop_of_length_le (by omega)]
theorem cut_take {α : Type} (f : α → D) (xs : List α) {i : Int} {j : Nat} (h : i = j) : cutD (xs.map f) none (some i) = (xs.take j).map f := by
  subst h
  rw [cut_map, HT.sIx_nat, HT.sIx_none, List.drop_zero, Nat.sub_zero]
  congr 1
  by_cases hj : j ≤ xs.length
  · rw [Nat.min_eq_left hj]
  · rw [Nat.min_eq_right (by omega), List.take_of_length_le (Nat.le_refl _), List.take_of_length_le (by omega)]
theorem cut_init {α : Type} (f : α → D) (xs : List α) : cutD (xs.map f) none (some (-1)) = (xs.take (xs.length - 1)).map f := by
  rw [cut_map, HT.sIx_none, List.drop_zero, Nat.sub_zero]
  congr 2
  show (if (-1 : Int) < 0 then ((-1 : Int) + (xs.length : Int)).toNat else min (-1 : Int).toNat xs.length) = _
  rw [if_pos (by omega)]
  omega

/-! #### any, all, len(set()) -/
theorem bls_map (bs : List Bool) : blsD (bs.map .bl) = some bs := by
  induction bs with
  | nil => rfl
  | cons b bs ih => simp [blsD, ih]
theorem any_map (bs : List Bool) : anyD (.lst (bs.map .bl)) = some (.bl (bs.any id)) := by simp [anyD, bls_map]
theorem all_map (bs : List Bool) : allD (.lst (bs.map .bl)) = some (.bl (bs.all id)) := by simp [allD, bls_map]
theorem ints_map (ns : List Int) : intsD (ns.map .int) = some ns := by
  induction ns with
  | nil => rfl
  | cons b bs ih => simp [intsD, ih]
theorem strs_map (ns : List Str) : strsD (ns.map .str) = some ns := by
  induction ns with
  | nil => rfl
  | cons b bs ih => simp [strsD, ih]
theorem lset_I {ns : List Int} (h : ns.length ≤ 4000) : lsetL (ns.map .int) = some (.int (diffs ns).length) := by
  simp only [lsetL, List.length_map, h, if_true, ints_map]
theorem lset_S {ns : List Str} (h : ns.length ≤ 4000) : lsetL (ns.map .str) = some (.int (diffs ns).length) := by
  simp only [lsetL, List.length_map, h, if_true]
  cases ns with
  | nil => rfl
  | cons n ns =>
    have e : intsD ((n :: ns).map D.str) = none := rfl
    rw [e]
    simp only [strs_map, Option.map_some]
theorem diffs_go {K : Type} [DecidableEq K] : ∀ (l acc : List K), acc.Nodup → ((l.foldl putN acc).length = acc.length + l.length ↔ (acc ++ l).Nodup)
  | [], acc, h => by simp [h]
  | x :: l, acc, h => by
    rw [List.foldl_cons]
    by_cases hx : x ∈ acc
    · have e : putN acc x = acc := by simp [putN, hx]
      rw [e]
      have le := diffs_go l acc h
      have lt : (l.foldl putN acc).length ≤ acc.length + l.length := by
        have go : ∀ (l acc : List K), (l.foldl putN acc).length ≤ acc.length + l.length := by
          intro l
          induction l with
          | nil => intro acc; simp
          | cons x l ih =>
            intro acc
            have h1 := ih (putN acc x)
            have h2 := putN_len acc x
            simp only [List.foldl_cons, List.length_cons]
            split at h2 <;> omega
        exact go l acc
      constructor
      · intro q
        simp only [List.length_cons] at q
        omega
      · intro q
        rw [List.nodup_append] at q
        exact absurd rfl (q.2.2 x hx x List.mem_cons_self)
    · have e : putN acc x = acc ++ [x] := by simp [putN, hx]
      rw [e, List.length_cons]
      have nd : (acc ++ [x]).Nodup := by
        rw [List.nodup_append]
        exact ⟨h, by simp, fun a ha b hb q => by
          rw [List.mem_singleton.mp hb] at q
          exact hx (q ▸ ha)⟩
      have := diffs_go l (acc ++ [x]) nd
      rw [List.length_append, List.length_singleton, List.append_assoc, List.singleton_append] at this
      rw [← this]
      omega
theorem diffs_lt {K : Type} [DecidableEq K] (l : List K) : ((diffs l).length : Int) < (l.length : Int) ↔ ¬ l.Nodup := by
  have h1 := diffs_go l [] (by simp)
  have h2 := diffs_le l
  simp only [List.length_nil, Nat.zero_add, List.nil_append] at h1
  unfold diffs at *
  rw [← h1]
  omega

/-! #### comprehensions, loops -/
theorem lcL_eq {α : Type} (enc : α → D) (p : α → Bool) (g : α → D) {bd : Bd} {t : Rho → Option Bool} {f : Rho → Option D} {ρ : Rho} : ∀ (xs : List α), (∀ x ∈ xs, ∃ ρ1, bd (enc x) ρ = some ρ1 ∧ t ρ1 = some (p x) ∧ (p x = true → f ρ1 = some (g x))) →
    lcL bd t f ρ (xs.map enc) = some ((xs.filter p).map g)
  | [], _ => rfl
  | x :: xs, h => by
    obtain ⟨ρ1, e1, e2, e3⟩ := h x List.mem_cons_self
    have ih := lcL_eq enc p g xs fun y hy => h y (List.mem_cons_of_mem _ hy)
    simp only [List.map_cons, lcL, e1, e2, Option.bind_some]
    cases hp : p x with
    | true => simp [e3 hp, ih, hp]
    | false => simp [ih, hp]
theorem lcL_all {α : Type} (enc : α → D) (g : α → D) {bd : Bd} {f : Rho → Option D} {ρ : Rho} (xs : List α) (h : ∀ x ∈ xs, ∃ ρ1, bd (enc x) ρ = some ρ1 ∧ f ρ1 = some (g x)) :
    lcL bd yesT f ρ (xs.map enc) = some (xs.map g) := by
  have := lcL_eq enc (fun _ => true) g xs (bd := bd) (t := yesT) (f := f) (ρ := ρ) fun x hx => by
    obtain ⟨ρ1, e1, e2⟩ := h x hx
    exact ⟨ρ1, e1, rfl, fun _ => e2⟩
  rw [List.filter_eq_self.mpr (fun _ _ => rfl)] at this
  exact this
/-- a loop with an invariant -/
theorem forL_inv {bd : Bd} {f : Sm} (I : Nat → Rho → Prop) : ∀ (ds : List D) (n : Nat) (ρ0 : Rho), I n ρ0 → (∀ i d ρ, ds[i]? = some d → I (n + i) ρ → ∃ ρ1 ρ2, bd d ρ = some ρ1 ∧ f ρ1 = some (.nx, ρ2) ∧ I (n + i + 1) ρ2) →
    ∃ ρ', forL bd f ds ρ0 = some (.nx, ρ') ∧ I (n + ds.length) ρ'
  | [], n, ρ0, h0, _ => ⟨ρ0, rfl, h0⟩
  | d :: ds, n, ρ0, h0, st => by
    obtain ⟨ρ1, ρ2, e1, e2, h2⟩ := st 0 d ρ0 rfl h0
    obtain ⟨ρ', e3, h3⟩ := forL_inv I ds (n + 1) ρ2 h2 fun i d ρ e h => by
      have := st (i + 1) d ρ (by simpa using e) (by rw [show n + (i + 1) = n + 1 + i by omega]; exact h)
      rwa [show n + (i + 1) + 1 = n + 1 + i + 1 by omega] at this
    refine ⟨ρ', ?_, by rw [List.length_cons, show n + (ds.length + 1) = n + 1 + ds.length by omega]; exact h3⟩
    simp only [forL, e1, e2, Option.bind_some]
    exact e3
/-- a loop that returns False at the first bad turn -/
theorem forL_chk {bd : Bd} {f : Sm} (bad : Nat → Bool) (I : Nat → Rho → Prop) : ∀ (ds : List D) (n : Nat) (ρ0 : Rho), I n ρ0 → (∀ i d ρ, ds[i]? = some d → I (n + i) ρ → ∃ ρ1, bd d ρ = some ρ1 ∧ ((bad (n + i) = true ∧ ∃ ρ2, f ρ1 = some (.rt (.bl false), ρ2)) ∨ (bad (n + i) = false ∧ ∃ ρ2, f ρ1 = some (.nx, ρ2) ∧ I (n + i + 1) ρ2))) →
    ((∃ i, i < ds.length ∧ bad (n + i) = true) ∧ ∃ ρ', forL bd f ds ρ0 = some (.rt (.bl false), ρ')) ∨ ((∀ i, i < ds.length → bad (n + i) = false) ∧ ∃ ρ', forL bd f ds ρ0 = some (.nx, ρ') ∧ I (n + ds.length) ρ')
  | [], n, ρ0, h0, _ => .inr ⟨fun i hi => by simp at hi, ρ0, rfl, h0⟩
  | d :: ds, n, ρ0, h0, st => by
    obtain ⟨ρ1, e1, h⟩ := st 0 d ρ0 rfl h0
    rcases h with ⟨hb, ρ2, e2⟩ | ⟨hb, ρ2, e2, h2⟩
    · refine .inl ⟨⟨0, by simp, hb⟩, ρ2, ?_⟩
      simp only [forL, e1, e2, Option.bind_some]
    · have ih := forL_chk bad I ds (n + 1) ρ2 h2 fun i d ρ e h => by
        have := st (i + 1) d ρ (by simpa using e) (by rw [show n + (i + 1) = n + 1 + i by omega]; exact h)
        rwa [show n + (i + 1) = n + 1 + i by omega] at this
      rcases ih with ⟨⟨i, hi, hb'⟩, ρ', e3⟩ | ⟨hn, ρ', e3, h3⟩
      · refine .inl ⟨⟨i + 1, by simpa using hi, by rw [show n + (i + 1) = n + 1 + i by omega]; exact hb'⟩, ρ', ?_⟩
        simp only [forL, e1, e2, Option.bind_some]
        exact e3
      · refine .inr ⟨fun i hi => ?_, ρ', ?_, by rw [List.length_cons, show n + (ds.length + 1) = n + 1 + ds.length by omega]; exact h3⟩
        · cases i with
          | zero => exact hb
          | succ i =>
            rw [show n + (i + 1) = n + 1 + i by omega]
            exact hn i (by simpa using hi)
        · simp only [forL, e1, e2, Option.bind_some]
          exact e3
theorem rg_nat (n : Nat) : rgD (0, (n : Int)) = (List.range n).map fun (i : Nat) => D.int i := by
  simp [rgD]
/-- goes on, to a state with P -/
def Nx (P : Rho → Prop) : Option (Fl × Rho) → Prop
  | some (.nx, ρ) => P ρ
  | _ => False
/-- goes on to a state with P if b is false, returns False if b is true -/
def Ck (b : Bool) (P : Rho → Prop) : Option (Fl × Rho) → Prop
  | some (.nx, ρ) => b = false ∧ P ρ
  | some (.rt (.bl false), _) => b = true
  | _ => False
theorem Nx.inv {P : Rho → Prop} {o : Option (Fl × Rho)} (h : Nx P o) : ∃ ρ, o = some (.nx, ρ) ∧ P ρ := by
  match o, h with
  | some (.nx, ρ), h => exact ⟨ρ, rfl, h⟩
theorem Ck.inv {b : Bool} {P : Rho → Prop} {o : Option (Fl × Rho)} (h : Ck b P o) : (b = true ∧ ∃ ρ, o = some (.rt (.bl false), ρ)) ∨ (b = false ∧ ∃ ρ, o = some (.nx, ρ) ∧ P ρ) := by
  match o, h with
  | some (.nx, ρ), h => exact .inr ⟨h.1, ρ, rfl, h.2⟩
  | some (.rt (.bl false), ρ), h => exact .inl ⟨h, ρ, rfl⟩
theorem forI {bd : Bd} {f : Sm} (I : Nat → Rho → Prop) (ds : List D) (ρ0 : Rho) (h0 : I 0 ρ0) (st : ∀ i d ρ, ds[i]? = some d → I i ρ → Nx (I (i + 1)) ((bd d ρ).bind f)) : ∃ ρ', forL bd f ds ρ0 = some (.nx, ρ') ∧ I ds.length ρ' := by
  have := forL_inv (bd := bd) (f := f) I ds 0 ρ0 h0 fun i d ρ e h => by
    rw [Nat.zero_add] at h
    obtain ⟨ρ2, e2, h2⟩ := (st i d ρ e h).inv
    obtain ⟨ρ1, e1, e2⟩ := Option.bind_eq_some_iff.mp e2
    exact ⟨ρ1, ρ2, e1, e2, by rw [Nat.zero_add]; exact h2⟩
  rwa [Nat.zero_add] at this
theorem forC {bd : Bd} {f : Sm} (bad : Nat → Bool) (I : Nat → Rho → Prop) (ds : List D) (ρ0 : Rho) (h0 : I 0 ρ0) (st : ∀ i d ρ, ds[i]? = some d → I i ρ → Ck (bad i) (I (i + 1)) ((bd d ρ).bind f)) :
    Ck ((List.range ds.length).any bad) (I ds.length) (forL bd f ds ρ0) := by
  have := forL_chk (bd := bd) (f := f) bad I ds 0 ρ0 h0 fun i d ρ e h => by
    rw [Nat.zero_add] at h ⊢
    have := st i d ρ e h
    cases e1 : bd d ρ with
    | none =>
      rw [e1] at this
      cases this
    | some ρ1 =>
      rw [e1] at this
      exact ⟨ρ1, rfl, Ck.inv this⟩
  simp only [Nat.zero_add] at this
  rcases this with ⟨⟨i, hi, hb⟩, ρ', e⟩ | ⟨hn, ρ', e, h⟩
  · rw [e]
    exact List.any_eq_true.mpr ⟨i, List.mem_range.mpr hi, hb⟩
  · rw [e]
    refine ⟨?_, h⟩
    rw [List.any_eq_false]
    intro i hi
    simp [hn i (List.mem_range.mp hi)]
/-! #### weakest preconditions of mirrored code -/
def Wp (Pn : Rho → Prop) (Pr : D → Prop) : Option (Fl × Rho) → Prop
  | some (.nx, ρ) => Pn ρ
  | some (.rt d, _) => Pr d
  | _ => False
section
variable {Pn : Rho → Prop} {Pr : D → Prop} {f g : Sm} {ρ : Rho}
theorem wp_seq (h : Wp (fun ρ' => Wp Pn Pr (g ρ')) Pr (f ρ)) : Wp Pn Pr (seqS f g ρ) := by
  unfold seqS
  match hf : f ρ, h with
  | some (.nx, ρ'), h => exact h
  | some (.rt d, ρ'), h => exact h
theorem wp_nx {ρ' : Rho} (e : f ρ = some (.nx, ρ')) (h : Pn ρ') : Wp Pn Pr (f ρ) := by
  rw [e]
  exact h
theorem wp_rt {ρ' : Rho} {d : D} (e : f ρ = some (.rt d, ρ')) (h : Pr d) : Wp Pn Pr (f ρ) := by
  rw [e]
  exact h
theorem wp_ite {t : Rho → Option Bool} {b : Bool} (e : t ρ = some b) (h1 : b = true → Wp Pn Pr (f ρ)) (h2 : b = false → Wp Pn Pr (g ρ)) : Wp Pn Pr (iteS t f g ρ) := by
  unfold iteS
  rw [e]
  cases b with
  | true => exact h1 rfl
  | false => exact h2 rfl
theorem wp_mono {o : Option (Fl × Rho)} {Pn' : Rho → Prop} {Pr' : D → Prop} (h : Wp Pn Pr o) (h1 : ∀ ρ, Pn ρ → Pn' ρ) (h2 : ∀ d, Pr d → Pr' d) : Wp Pn' Pr' o := by
  match o, h with
  | some (.nx, ρ), h => exact h1 ρ h
  | some (.rt d, _), h => exact h2 d h
theorem wp_forL {bd : Bd} (I : Nat → Rho → Prop) : ∀ (ds : List D) (n : Nat) (ρ : Rho), I n ρ → (∀ i d ρ, ds[i]? = some d → I (n + i) ρ → Wp (I (n + i + 1)) Pr ((bd d ρ).bind f)) → Wp (I (n + ds.length)) Pr (forL bd f ds ρ)
  | [], n, ρ, h0, _ => h0
  | d :: ds, n, ρ, h0, st => by
    have h1 := st 0 d ρ rfl h0
    have ih := fun ρ2 h2 => wp_forL I ds (n + 1) ρ2 h2 fun i d ρ e h => by
      have := st (i + 1) d ρ (by simpa using e) (by rw [show n + (i + 1) = n + 1 + i by omega]; exact h)
      rwa [show n + (i + 1) + 1 = n + 1 + i + 1 by omega] at this
    rw [show n + 1 + ds.length = n + (d :: ds).length by simp only [List.length_cons]; omega] at ih
    match e1 : bd d ρ, h1 with
    | some ρ1, h1 =>
      match e2 : f ρ1, h1 with
      | some (.nx, ρ2), h1 =>
        have h1 : Wp (I (n + 0 + 1)) Pr (f ρ1) := h1
        rw [e2] at h1
        have h1 : I (n + 1) ρ2 := h1
        have := ih ρ2 h1
        unfold forL
        rw [e1, Option.bind_some, e2]
        exact this
      | some (.rt d', ρ2), h1 =>
        have h1 : Wp (I (n + 0 + 1)) Pr (f ρ1) := h1
        rw [e2] at h1
        unfold forL
        rw [e1, Option.bind_some, e2]
        exact h1
      | some (.bk, ρ2), h1 =>
        have h1 : Wp (I (n + 0 + 1)) Pr (f ρ1) := h1
        rw [e2] at h1
        exact h1.elim
      | some (.ct, ρ2), h1 =>
        have h1 : Wp (I (n + 0 + 1)) Pr (f ρ1) := h1
        rw [e2] at h1
        exact h1.elim
      | none, h1 =>
        have h1 : Wp (I (n + 0 + 1)) Pr (f ρ1) := h1
        rw [e2] at h1
        exact h1.elim
theorem wp_for {fi : Rho → Option (List D)} {bd : Bd} {ds : List D} (e : fi ρ = some ds) (I : Nat → Rho → Prop) (h0 : I 0 ρ) (st : ∀ i d ρ, ds[i]? = some d → I i ρ → ∃ ρ1, bd d ρ = some ρ1 ∧ Wp (I (i + 1)) Pr (f ρ1)) (hn : ∀ ρ', I ds.length ρ' → Pn ρ') : Wp Pn Pr (forS fi bd f ρ) := by
  have := wp_forL (f := f) (bd := bd) (Pr := Pr) I ds 0 ρ h0 fun i d ρ e h => by
    rw [Nat.zero_add] at h ⊢
    obtain ⟨ρ1, e1, h1⟩ := st i d ρ e h
    rw [e1]
    exact h1
  unfold forS
  rw [e, Option.bind_some]
  rw [Nat.zero_add] at this
  exact wp_mono this hn fun _ h => h
end
theorem run_wp {n N : Nat} {f : Sm} {as : Ar} {P : D → Prop} (h : as.length = n) (w : Wp (fun _ => P .non) P (f (startR N as))) : ∃ d, runB n N f as = some d ∧ P d := by
  unfold runB
  rw [if_pos h]
  match e : f (startR N as), w with
  | some (.nx, ρ), w => exact ⟨.non, rfl, w⟩
  | some (.rt d, ρ), w => exact ⟨d, rfl, w⟩
theorem run_eq {n N : Nat} {f : Sm} {as : Ar} {d : D} (h : as.length = n) (w : Wp (fun _ => False) (fun x => x = d) (f (startR N as))) : runB n N f as = some d := by
  obtain ⟨x, e, rfl⟩ := run_wp (P := fun x => x = d) h (wp_mono w (fun _ z => z.elim) fun _ z => z)
  exact e
/-- over range(n) -/
theorem at_rng {n i : Nat} {d : D} (h : ((List.range n).map fun (j : Nat) => D.int j)[i]? = some d) : i < n ∧ d = .int i := by
  rw [List.getElem?_map] at h
  obtain ⟨j, hj, rfl⟩ := Option.map_eq_some_iff.mp h
  obtain ⟨h1, h2⟩ := List.getElem?_eq_some_iff.mp hj
  simp at h1 h2
  exact ⟨h1, by rw [h2]⟩
theorem rng_I {f : Pk} {ρ : Rho} {m n : Nat} (e : f ρ = some (m, .int (n : Int))) (h : n ≤ 100000) : rngI (rg1 f) ρ = some ((List.range n).map fun (j : Nat) => D.int j) := by
  have hr : rgOk (0, (n : Int)) = true := by simp [rgOk]; omega
  simp only [rngI, rgN, rg1, asI, e, Option.bind_some, Option.map_some, hr, if_true, rg_nat]
/-! #### comprehensions as expressions -/
theorem ev_lc {α : Type} (enc : α → D) (p : α → Bool) (g : α → D) {fi : Rho → Option (List D)} {vs : List Nat} {bd : Bd} {t : Rho → Option Bool} {f : Rho → Option D} {ρ : Rho} (xs : List α) (e : fi ρ = some (xs.map enc)) (hl : xs.length ≤ 99999)
    (h : ∀ x ∈ xs, ∃ ρ1, bd (enc x) (wipeR ρ vs) = some ρ1 ∧ t ρ1 = some (p x) ∧ (p x = true → f ρ1 = some (g x))) : lcG vs fi bd t f ρ = some (.lst ((xs.filter p).map g)) := by
  simp only [lcG, lcN, e, Option.bind_some, List.length_map, hl, if_true, lcL_eq enc p g xs h, Option.map_some]
theorem ev_all {α : Type} (enc : α → D) (g : α → D) {fi : Rho → Option (List D)} {vs : List Nat} {bd : Bd} {f : Rho → Option D} {ρ : Rho} (xs : List α) (e : fi ρ = some (xs.map enc)) (hl : xs.length ≤ 99999)
    (h : ∀ x ∈ xs, ∃ ρ1, bd (enc x) (wipeR ρ vs) = some ρ1 ∧ f ρ1 = some (g x)) : lcG vs fi bd yesT f ρ = some (.lst (xs.map g)) := by
  simp only [lcG, lcN, e, Option.bind_some, List.length_map, hl, if_true, lcL_all enc g xs h, Option.map_some]
theorem ev_len {f : Pk} {ρ : Rho} {n : Nat} {xs : List D} (e : f ρ = some (n, .lst xs)) : callP (c1 lenD) (aCons f aNil) ρ = some (0, .int xs.length) := by
  simp only [callP, aCons, aNil, e, Option.bind_some, Option.map_some, c1, lenD]
theorem ev_lenG {f : Rho → Option D} {ρ : Rho} {xs : List D} (e : f ρ = some (.lst xs)) : callP (c1 lenD) (aCons (frP f) aNil) ρ = some (0, .int xs.length) := ev_len (n := 0) (by simp only [frP, e, Option.map_some])
theorem ev_c2 {g : D → D → Option Bool} {fa fb : Pk} {ρ : Rho} {n m : Nat} {x y : D} {b : Bool} (e1 : fa ρ = some (n, x)) (e2 : fb ρ = some (m, y)) (h : g x y = some b) : cmp g fa fb ρ = some b := by
  simp only [cmp, e1, e2, Option.bind_some, h]
theorem ev_or {t u : Rho → Option Bool} {ρ : Rho} {a b : Bool} (e1 : t ρ = some a) (e2 : a = false → u ρ = some b) : orT t u ρ = some (a || b) := by
  simp only [orT, e1, Option.bind_some]
  cases a with
  | true => rfl
  | false => simpa using e2 rfl
theorem ev_and {t u : Rho → Option Bool} {ρ : Rho} {a b : Bool} (e1 : t ρ = some a) (e2 : a = true → u ρ = some b) : andT t u ρ = some (a && b) := by
  simp only [andT, e1, Option.bind_some]
  cases a with
  | true => simpa using e2 rfl
  | false => rfl
theorem ev_any {f : Pk} {ρ : Rho} {xs : List D} (e : f ρ = some (0, .lst xs)) : anyI f ρ = some xs := by
  simp only [anyI, e, Option.bind_some, seqD]
theorem ev_anyT {f : Pk} {ρ : Rho} {n : Nat} {xs : List D} (e : f ρ = some (n, .tup xs)) : anyI f ρ = some xs := by
  simp only [anyI, e, Option.bind_some, seqD]
theorem ev_ix {α : Type} (enc : α → D) {fa fb : Pk} {ρ : Rho} {n m : Nat} {xs : List α} {i : Int} {j : Nat} {x : α} (e1 : fa ρ = some (n, .lst (xs.map enc))) (e2 : fb ρ = some (m, .int i)) (hi : i = j) (hx : xs[j]? = some x) : ixP fa fb ρ = some (n - 1, enc x) := by
  simp only [ixP, e1, e2, Option.bind_some, ixD, at_map, at_nat xs hi, hx, Option.map_some]
theorem ev_ixT {α : Type} (enc : α → D) {fa fb : Pk} {ρ : Rho} {n m : Nat} {xs : List α} {i : Int} {j : Nat} {x : α} (e1 : fa ρ = some (n, .tup (xs.map enc))) (e2 : fb ρ = some (m, .int i)) (hi : i = j) (hx : xs[j]? = some x) : ixP fa fb ρ = some (0, enc x) := by
  simp only [ixP, e1, e2, Option.bind_some, ixD, at_map, at_nat xs hi, hx, Option.map_some]
theorem wp_retB {Pn : Rho → Prop} {Pr : D → Prop} {ρ : Rho} {b : Bool} (h : Pr (.bl b)) : Wp Pn Pr (retS 0 (keep0 (cst (.bl b))) ρ) := h
theorem wp_sk {Pn : Rho → Prop} {Pr : D → Prop} {ρ : Rho} (h : Pn ρ) : Wp Pn Pr (skS ρ) := h
theorem wp_set {Pn : Rho → Prop} {Pr : D → Prop} {ρ : Rho} {i : Nat} {f : Rho → Option D} {d : D} (e : f ρ = some d) (hi : i < ρ.length) (h : Pn (ρ.set i (some ⟨false, 0, d⟩))) : Wp Pn Pr (setS i f ρ) := by
  have : setS i f ρ = some (.nx, ρ.set i (some ⟨false, 0, d⟩)) := by
    simp only [setS, e, Option.bind_some, setR, hi, if_true, Option.map_some]
  rw [this]
  exact h
theorem wp_setO {Pn : Rho → Prop} {Pr : D → Prop} {ρ : Rho} {i n : Nat} {f : Rho → Option D} {d : D} (e : f ρ = some d) (hi : i < ρ.length) (h : Pn (ρ.set i (some ⟨true, n, d⟩))) : Wp Pn Pr (setO i n f ρ) := by
  have : setO i n f ρ = some (.nx, ρ.set i (some ⟨true, n, d⟩)) := by
    simp only [setO, e, Option.bind_some, setR, hi, if_true, Option.map_some]
  rw [this]
  exact h
theorem wp_app {Pn : Rho → Prop} {Pr : D → Prop} {ρ : Rho} {i m : Nat} {f : Rho → Option D} {d : D} {ds : List D} (e0 : ρ[i]? = some (some ⟨true, m + 1, .lst ds⟩)) (hz : ds.length < 99999) (e : f ρ = some d) (h : Pn (ρ.set i (some ⟨true, m + 1, .lst (ds ++ [d])⟩))) : Wp Pn Pr (appS i m f ρ) := by
  have : appS i m f ρ = some (.nx, ρ.set i (some ⟨true, m + 1, .lst (ds ++ [d])⟩)) := by
    simp only [appS, e0, hz, and_self, if_true, e, Option.map_some]
  rw [this]
  exact h
theorem wp_ret0 {Pn : Rho → Prop} {Pr : D → Prop} {ρ : Rho} {f : Rho → Option D} {d : D} (e : f ρ = some d) (h : Pr d) : Wp Pn Pr (retS 0 f ρ) := by
  have : retS 0 f ρ = some (.rt d, ρ) := by simp only [retS, e, Option.bind_some, true_or, if_true]
  rw [this]
  exact h
theorem wp_frz {Pn : Rho → Prop} {Pr : D → Prop} {ρ : Rho} {i n : Nat} {g : Sm} {d : D} (e0 : ρ[i]? = some (some ⟨true, n, d⟩)) (h : Wp Pn Pr (g (ρ.set i (some ⟨false, 0, d⟩)))) : Wp Pn Pr (frzS i g ρ) := by
  have : frzS i g ρ = g (ρ.set i (some ⟨false, 0, d⟩)) := by simp only [frzS, e0]
  rw [this]
  exact h
theorem ev_k0 {f : Pk} {ρ : Rho} {d : D} (e : f ρ = some (0, d)) : keep0 f ρ = some d := by
  simp only [keep0, e, Option.bind_some, if_true]
theorem cnt0 {α : Type} (p : α → Bool) (xs : List α) : (0 : Int) < ((xs.filter p).length : Int) ↔ ∃ x ∈ xs, p x = true := by
  have : (0 : Int) < ((xs.filter p).length : Int) ↔ xs.filter p ≠ [] := by
    rw [← List.length_pos_iff]
    omega
  rw [this]
  simp [List.filter_eq_nil_iff]
end Pl

set_option Elab.async false
set_option linter.all false
set_option maxRecDepth 100000
set_option maxHeartbeats 0
namespace Gn
open PySem PySem.Spec PyProof.Rows L2 Iv
def top (i : Nat) : Stmt := PySem.Challenge.pw_standingrows_k44_bars_judged.main.body.getD i (.Pass ⟨0, 0, 0, 0⟩)
def cbody : Stmt → List Stmt
  | .ClassDef (body := b) .. => b
  | _ => []
def inner (i j : Nat) : Stmt := (cbody (top i)).getD j (.Pass ⟨0, 0, 0, 0⟩)
abbrev s_law_cell : Stmt := top 25
abbrev s_law_pool : Stmt := top 26
abbrev s_law_names : Stmt := top 27
abbrev s_law_order : Stmt := top 28
abbrev s_law_ring_rows : Stmt := top 32
abbrev s_law_crowd_rows : Stmt := top 33
abbrev s_law_free_row : Stmt := top 30
abbrev s_law_setting : Stmt := top 34
abbrev s_is_name : Stmt := top 10
abbrev s_first_misnamed : Stmt := top 13
abbrev s_is_row : Stmt := top 14
abbrev s_common_names : Stmt := top 15
abbrev s_Table_init : Stmt := inner 17 2
abbrev s_law_turned : Stmt := top 35
abbrev s_Bar_init : Stmt := inner 19 0
abbrev s_law_is_number : Stmt := top 29
abbrev s_Bar_eq : Stmt := inner 19 1
abbrev s_law_kept : Stmt := top 40
abbrev s_share_column : Stmt := top 20
abbrev s_is_ring_of : Stmt := top 21
abbrev s_is_crowd_of : Stmt := top 22
abbrev s_stands_in : Stmt := top 23
abbrev s_law_put : Stmt := top 36
abbrev s_law_near : Stmt := top 37
abbrev s_law_stands : Stmt := top 31
abbrev s_law_is_told : Stmt := top 39
abbrev s_Table_plus : Stmt := inner 17 8
abbrev s_law_changed_rows : Stmt := top 38
abbrev s_law : Stmt := top 41
structure Gd (P : Program) (w : World) (K : PySem.W.Frag) (mg : Str → Option Value) (base : Heap) (k : Wd) : Prop where
  kK : k.K = K
  n_abs : mg "abs" = none
  n_all : mg "all" = none
  n_any : mg "any" = none
  n_bool : mg "bool" = none
  n_enumerate : mg "enumerate" = none
  n_int : mg "int" = none
  n_isinstance : mg "isinstance" = none
  n_len : mg "len" = none
  n_list : mg "list" = none
  n_range : mg "range" = none
  n_set : mg "set" = none
  n_str : mg "str" = none
  n_tuple : mg "tuple" = none
  v_LETTERS : ∃ t : Tok, mg "LETTERS" = some (.str "abcdefghijklmnopqrstuvwxyz" t)
  v_LONGEST_NAME : ∃ t : Tok, mg "LONGEST_NAME" = some (.int 8 t)
  c_Table : mg "Table" = some (.ref (k.cn "Table"))
  c_Bar : mg "Bar" = some (.ref (k.cn "Bar"))
  a_Bar_columns : AtOk k "Bar" "columns"
  a_Bar_kind : AtOk k "Bar" "kind"
  a_Bar_rows : AtOk k "Bar" "rows"
  a_Table_columns : AtOk k "Table" "columns"
  a_Table_rows : AtOk k "Table" "rows"
  i_Bar : C8.InsC K (k.cn "Bar")
  k_Table_MOST_COLUMNS : CcI K (k.cn "Table") "MOST_COLUMNS" 12
  k_Table_MOST_ROWS : CcI K (k.cn "Table") "MOST_ROWS" 48
  d_law_cell : ∃ f fd, FunD K "_law_cell" "_law_cell" (defArgs s_law_cell) (defBody s_law_cell) (defScope s_law_cell) [] [] f fd ∧ mg "_law_cell" = some (.ref f)
  d_law_pool : ∃ f fd, FunD K "_law_pool" "_law_pool" (defArgs s_law_pool) (defBody s_law_pool) (defScope s_law_pool) [] [] f fd ∧ mg "_law_pool" = some (.ref f)
  d_law_names : ∃ f fd, FunD K "_law_names" "_law_names" (defArgs s_law_names) (defBody s_law_names) (defScope s_law_names) [] [] f fd ∧ mg "_law_names" = some (.ref f)
  d_law_order : ∃ f fd, FunD K "_law_order" "_law_order" (defArgs s_law_order) (defBody s_law_order) (defScope s_law_order) [] [] f fd ∧ mg "_law_order" = some (.ref f)
  d_law_ring_rows : ∃ f fd, FunD K "_law_ring_rows" "_law_ring_rows" (defArgs s_law_ring_rows) (defBody s_law_ring_rows) (defScope s_law_ring_rows) [] [] f fd ∧ mg "_law_ring_rows" = some (.ref f)
  d_law_crowd_rows : ∃ f fd, FunD K "_law_crowd_rows" "_law_crowd_rows" (defArgs s_law_crowd_rows) (defBody s_law_crowd_rows) (defScope s_law_crowd_rows) [] [] f fd ∧ mg "_law_crowd_rows" = some (.ref f)
  d_law_free_row : ∃ f fd, FunD K "_law_free_row" "_law_free_row" (defArgs s_law_free_row) (defBody s_law_free_row) (defScope s_law_free_row) [] [] f fd ∧ mg "_law_free_row" = some (.ref f)
  d_law_setting : ∃ f fd, FunD K "_law_setting" "_law_setting" (defArgs s_law_setting) (defBody s_law_setting) (defScope s_law_setting) [] [] f fd ∧ mg "_law_setting" = some (.ref f)
  d_is_name : ∃ f fd, FunD K "is_name" "is_name" (defArgs s_is_name) (defBody s_is_name) (defScope s_is_name) [] [] f fd ∧ mg "is_name" = some (.ref f)
  d_first_misnamed : ∃ f fd, FunD K "first_misnamed" "first_misnamed" (defArgs s_first_misnamed) (defBody s_first_misnamed) (defScope s_first_misnamed) [] [] f fd ∧ mg "first_misnamed" = some (.ref f)
  d_is_row : ∃ f fd, FunD K "is_row" "is_row" (defArgs s_is_row) (defBody s_is_row) (defScope s_is_row) [] [] f fd ∧ mg "is_row" = some (.ref f)
  d_common_names : ∃ f fd, FunD K "common_names" "common_names" (defArgs s_common_names) (defBody s_common_names) (defScope s_common_names) [] [] f fd ∧ mg "common_names" = some (.ref f)
  d_Table_init : ∃ f fd dvs, FunD K "__init__" "Table.__init__" (defArgs s_Table_init) (defBody s_Table_init) (defScope s_Table_init) dvs [] f fd ∧ dvs.length = 1 ∧ Cls K (k.cn "Table") ∧ Mk K (k.cn "Table") f
  d_law_turned : ∃ f fd, FunD K "_law_turned" "_law_turned" (defArgs s_law_turned) (defBody s_law_turned) (defScope s_law_turned) [] [] f fd ∧ mg "_law_turned" = some (.ref f)
  d_Bar_init : ∃ f fd, FunD K "__init__" "Bar.__init__" (defArgs s_Bar_init) (defBody s_Bar_init) (defScope s_Bar_init) [] [] f fd ∧ Cls K (k.cn "Bar") ∧ Mk K (k.cn "Bar") f
  d_law_is_number : ∃ f fd, FunD K "_law_is_number" "_law_is_number" (defArgs s_law_is_number) (defBody s_law_is_number) (defScope s_law_is_number) [] [] f fd ∧ mg "_law_is_number" = some (.ref f)
  d_Bar_eq : ∃ f fd, FunD K "__eq__" "Bar.__eq__" (defArgs s_Bar_eq) (defBody s_Bar_eq) (defScope s_Bar_eq) [] [] f fd ∧ Cls K (k.cn "Bar") ∧ Meth K (k.cn "Bar") "__eq__" f
  d_law_kept : ∃ f fd, FunD K "_law_kept" "_law_kept" (defArgs s_law_kept) (defBody s_law_kept) (defScope s_law_kept) [] [] f fd ∧ mg "_law_kept" = some (.ref f)
  d_share_column : ∃ f fd, FunD K "share_column" "share_column" (defArgs s_share_column) (defBody s_share_column) (defScope s_share_column) [] [] f fd ∧ mg "share_column" = some (.ref f)
  d_is_ring_of : ∃ f fd, FunD K "is_ring_of" "is_ring_of" (defArgs s_is_ring_of) (defBody s_is_ring_of) (defScope s_is_ring_of) [] [] f fd ∧ mg "is_ring_of" = some (.ref f)
  d_is_crowd_of : ∃ f fd, FunD K "is_crowd_of" "is_crowd_of" (defArgs s_is_crowd_of) (defBody s_is_crowd_of) (defScope s_is_crowd_of) [] [] f fd ∧ mg "is_crowd_of" = some (.ref f)
  d_stands_in : ∃ f fd, FunD K "stands_in" "stands_in" (defArgs s_stands_in) (defBody s_stands_in) (defScope s_stands_in) [] [] f fd ∧ mg "stands_in" = some (.ref f)
  d_law_put : ∃ f fd, FunD K "_law_put" "_law_put" (defArgs s_law_put) (defBody s_law_put) (defScope s_law_put) [] [] f fd ∧ mg "_law_put" = some (.ref f)
  d_law_near : ∃ f fd, FunD K "_law_near" "_law_near" (defArgs s_law_near) (defBody s_law_near) (defScope s_law_near) [] [] f fd ∧ mg "_law_near" = some (.ref f)
  d_law_stands : ∃ f fd, FunD K "_law_stands" "_law_stands" (defArgs s_law_stands) (defBody s_law_stands) (defScope s_law_stands) [] [] f fd ∧ mg "_law_stands" = some (.ref f)
  d_law_is_told : ∃ f fd, FunD K "_law_is_told" "_law_is_told" (defArgs s_law_is_told) (defBody s_law_is_told) (defScope s_law_is_told) [] [] f fd ∧ mg "_law_is_told" = some (.ref f)
  d_Table_plus : ∃ f fd, FunD K "plus" "Table.plus" (defArgs s_Table_plus) (defBody s_Table_plus) (defScope s_Table_plus) [] [] f fd ∧ Cls K (k.cn "Table") ∧ Meth K (k.cn "Table") "plus" f
  d_law_changed_rows : ∃ f fd, FunD K "_law_changed_rows" "_law_changed_rows" (defArgs s_law_changed_rows) (defBody s_law_changed_rows) (defScope s_law_changed_rows) [] [] f fd ∧ mg "_law_changed_rows" = some (.ref f)
  d_law : ∃ f fd, FunD K "law" "law" (defArgs s_law) (defBody s_law) (defScope s_law) [] [] f fd ∧ mg "law" = some (.ref f)
section
variable {P : Program} {w : World} {K : PySem.W.Frag} {mg : Str → Option Value} {base : Heap} {k : Wd}
theorem sc_law_cell : FnScope ["script", "k"] ["script", "k"] (defScope s_law_cell) := ⟨rfl, rfl, rfl, by decide +kernel, rfl, by decide +kernel, by decide +kernel⟩
def b_law_cell : Sm :=
    (seqS (iteS (cmp ltC (varP 1) (callP (c1 lenD) (aCons (varP 0) aNil))) (retS 0 (keep0 (ixP (varP 0) (varP 1)))) skS)
    (retS 0 (keep0 (cst (.int 0)))))
def F_law_cell : Ar → Option D := runB 2 2 b_law_cell
theorem bd_law_cell (G : Gd P w K mg base k) (f : Addr) (cdv : Value) (A : Around) (outer : List Env) (s : Shared) (H : Hp) (E : XK) (hr : Room 0 (A.deeper (envOfC "_law_cell" (defScope s_law_cell) s.heap.objs.size f cdv))) :
    PSs (cxOf CX0 P w K mg base ["script", "k"] "_law_cell" (defScope s_law_cell) f cdv A outer s H E).nox (defBody s_law_cell) (tS k false 0 b_law_cell) := by
    have hk : k.K = K := G.kK
    exact (is_cons (is_if (it_c2 (oc_lt hk hr.units) (ip_var (pe_var (i := 1) rfl (by first | exact .inl rfl | exact .inr (.inl rfl) | exact .inr (.inr rfl)))) (ip_bi (bi_len hk rfl) rfl G.n_len (ia_cons (ip_var (pe_var (i := 0) rfl (by first | exact .inl rfl | exact .inr (.inl rfl) | exact .inr (.inr rfl)))) ia_nil))) (is_one (is_ret (ig0 (ip_ix (ip_var (pe_var (i := 0) rfl (by first | exact .inl rfl | exact .inr (.inl rfl) | exact .inr (.inr rfl)))) (ip_var (pe_var (i := 1) rfl (by first | exact .inl rfl | exact .inr (.inl rfl) | exact .inr (.inr rfl)))) (by intro _ _; rfl) hk)))) is_nil)
    (is_one (is_ret (ig0 ip_int))))
theorem ok_law_cell (G : Gd P w K mg base k) : OkF P w K mg base k 1 "_law_cell" 2 0 F_law_cell := by
  obtain ⟨f, fd, F, hm⟩ := G.d_law_cell
  exact ok_fn (lv := 0) F sc_law_cell hm (F.bindsN fun _ _ _ _ _ _ us hl => match us, hl with | [_, _], _ => rfl) (fun cdv A outer s H E hr => bd_law_cell G f cdv A outer s H E hr)
theorem sc_law_pool : FnScope ["script", "k", "count", "value", "pool", "i", "first", "second", "third"] ["script", "k", "count"] (defScope s_law_pool) := ⟨rfl, rfl, rfl, by decide +kernel, rfl, by decide +kernel, by decide +kernel⟩
def l_law_pool_1 : Sm :=
    (seqS (appS 4 0 (keep0 (bin modD (callP (c1 intD) (aCons (varP 3) aNil)) (cst (.int 27720)))))
    (setS 3 (keep0 (bin divD (varP 3) (cst (.int 27720))))))
def l_law_pool_2 : Sm :=
    (seqS (setS 6 (keep0 (bin modD (callP (c1 intD) (aCons (bin addD (bin addD (bin addD (bin mulD (varP 3) (cst (.int 48271))) (bin mulD (bin addD (varP 5) (cst (.int 1))) (cst (.int 69621)))) (bin mulD (varP 1) (cst (.int 7919)))) (cst (.int 1234577))) aNil)) (cst (.int 2147483647)))))
    (seqS (setS 7 (keep0 (bin modD (callP (c1 intD) (aCons (bin addD (bin addD (bin mulD (varP 6) (varP 6)) (bin mulD (varP 3) (cst (.int 16807)))) (varP 5)) aNil)) (cst (.int 2147483629)))))
    (seqS (setS 8 (keep0 (bin modD (callP (c1 intD) (aCons (bin addD (bin mulD (varP 7) (varP 7)) (varP 6)) aNil)) (cst (.int 2147483587)))))
    (appS 4 0 (keep0 (bin modD (callP (c1 intD) (aCons (bin divD (varP 8) (cst (.int 17))) aNil)) (cst (.int 27720))))))))
def b_law_pool : Sm :=
    (seqS (setS 3 (keep0 (callP (c1 absD) (aCons (frP (callG F_law_cell (aCons (varP 0) (aCons (varP 1) aNil)))) aNil))))
    (seqS (setO 4 1 (fun ρ => ((small (kept aNil)) ρ).map fun ds => .lst ds))
    (seqS (iteS (cmp geC (varP 3) (bin powD (cst (.int 10)) (cst (.int 18)))) (seqS (setS 3 (keep0 (bin subD (varP 3) (bin powD (cst (.int 10)) (cst (.int 18))))))
    (seqS (forS (rngI (rg1 (varP 2))) (bN 5) l_law_pool_1)
    (frzS 4 (retS 0 (keep0 (varP 4)))))) skS)
    (seqS (forS (rngI (rg1 (varP 2))) (bN 5) l_law_pool_2)
    (frzS 4 (retS 0 (keep0 (varP 4))))))))
def F_law_pool : Ar → Option D := runB 3 9 b_law_pool
theorem bd_law_pool (G : Gd P w K mg base k) (f : Addr) (cdv : Value) (A : Around) (outer : List Env) (s : Shared) (H : Hp) (E : XK) (hr : Room 1 (A.deeper (envOfC "_law_pool" (defScope s_law_pool) s.heap.objs.size f cdv))) :
    PSs (cxOf CX0 P w K mg base ["script", "k", "count", "value", "pool", "i", "first", "second", "third"] "_law_pool" (defScope s_law_pool) f cdv A outer s H E).nox (defBody s_law_pool) (tS k false 0 b_law_pool) := by
    have hk : k.K = K := G.kK
    have ok_law_cell := ok_law_cell (base := base) (P := P) (w := w) G
    exact (is_cons (is_set (i := 3) (ps_set (i := 3) sc_law_pool.nd rfl (by first | exact .inl rfl | exact .inr rfl) (ig0 (ip_bi (bi_abs hk rfl) rfl G.n_abs (ia_cons (ip_of (ig_call ok_law_cell (hr.mono (by decide)) rfl (ia_cons (ip_var (pe_var (i := 0) rfl (by first | exact .inl rfl | exact .inr (.inl rfl) | exact .inr (.inr rfl)))) (ia_cons (ip_var (pe_var (i := 1) rfl (by first | exact .inl rfl | exact .inr (.inl rfl) | exact .inr (.inr rfl)))) ia_nil)))) ia_nil)))))
    (is_cons (is_setO (i := 4) (ps_set (i := 4) sc_law_pool.nd rfl (by first | exact .inl rfl | exact .inr rfl) (ig_new (in_lst ia_nil))))
    (is_cons (is_if (it_c2 (oc_ge hk hr.units) (ip_var (pe_var (i := 3) rfl (by first | exact .inl rfl | exact .inr (.inl rfl) | exact .inr (.inr rfl)))) (ip_pow ip_int ip_int)) (is_cons (is_set (i := 3) (ps_set (i := 3) sc_law_pool.nd rfl (by first | exact .inl rfl | exact .inr rfl) (ig0 (ip_sub (ip_var (pe_var (i := 3) rfl (by first | exact .inl rfl | exact .inr (.inl rfl) | exact .inr (.inr rfl)))) (ip_pow ip_int ip_int)))))
    (is_cons (is_for (ii_range1 rfl G.n_range (ip_var (pe_var (i := 2) rfl (by first | exact .inl rfl | exact .inr (.inl rfl) | exact .inr (.inr rfl))))) (it_name (pg_name (i := 5) sc_law_pool.nd rfl (by first | exact .inl rfl | exact .inr rfl))) (is_cons (is_appV hk (pe_var (i := 4) rfl (by first | exact .inl rfl | exact .inr (.inl rfl) | exact .inr (.inr rfl))) (ig0 (ip_mod (ip_bi (bi_int hk rfl) rfl G.n_int (ia_cons (ip_var (pe_var (i := 3) rfl (by first | exact .inl rfl | exact .inr (.inl rfl) | exact .inr (.inr rfl)))) ia_nil)) ip_int)))
    (is_one (is_set (i := 3) (ps_set (i := 3) sc_law_pool.nd rfl (by first | exact .inl rfl | exact .inr rfl) (ig0 (ip_div (ip_var (pe_var (i := 3) rfl (by first | exact .inl rfl | exact .inr (.inl rfl) | exact .inr (.inr rfl)))) ip_int)))))) PassesOwn.never rfl)
    (is_one (is_frz1 (i := 4) (is_ret (ig0 (ip_var (pe_var (i := 4) rfl (by first | exact .inl rfl | exact .inr (.inl rfl) | exact .inr (.inr rfl)))))))))) is_nil)
    (is_cons (is_for (ii_range1 rfl G.n_range (ip_var (pe_var (i := 2) rfl (by first | exact .inl rfl | exact .inr (.inl rfl) | exact .inr (.inr rfl))))) (it_name (pg_name (i := 5) sc_law_pool.nd rfl (by first | exact .inl rfl | exact .inr rfl))) (is_cons (is_set (i := 6) (ps_set (i := 6) sc_law_pool.nd rfl (by first | exact .inl rfl | exact .inr rfl) (ig0 (ip_mod (ip_bi (bi_int hk rfl) rfl G.n_int (ia_cons (ip_add hk (ip_add hk (ip_add hk (ip_mul (ip_var (pe_var (i := 3) rfl (by first | exact .inl rfl | exact .inr (.inl rfl) | exact .inr (.inr rfl)))) ip_int) (ip_mul (ip_add hk (ip_var (pe_var (i := 5) rfl (by first | exact .inl rfl | exact .inr (.inl rfl) | exact .inr (.inr rfl)))) ip_int) ip_int)) (ip_mul (ip_var (pe_var (i := 1) rfl (by first | exact .inl rfl | exact .inr (.inl rfl) | exact .inr (.inr rfl)))) ip_int)) ip_int) ia_nil)) ip_int))))
    (is_cons (is_set (i := 7) (ps_set (i := 7) sc_law_pool.nd rfl (by first | exact .inl rfl | exact .inr rfl) (ig0 (ip_mod (ip_bi (bi_int hk rfl) rfl G.n_int (ia_cons (ip_add hk (ip_add hk (ip_mul (ip_var (pe_var (i := 6) rfl (by first | exact .inl rfl | exact .inr (.inl rfl) | exact .inr (.inr rfl)))) (ip_var (pe_var (i := 6) rfl (by first | exact .inl rfl | exact .inr (.inl rfl) | exact .inr (.inr rfl))))) (ip_mul (ip_var (pe_var (i := 3) rfl (by first | exact .inl rfl | exact .inr (.inl rfl) | exact .inr (.inr rfl)))) ip_int)) (ip_var (pe_var (i := 5) rfl (by first | exact .inl rfl | exact .inr (.inl rfl) | exact .inr (.inr rfl))))) ia_nil)) ip_int))))
    (is_cons (is_set (i := 8) (ps_set (i := 8) sc_law_pool.nd rfl (by first | exact .inl rfl | exact .inr rfl) (ig0 (ip_mod (ip_bi (bi_int hk rfl) rfl G.n_int (ia_cons (ip_add hk (ip_mul (ip_var (pe_var (i := 7) rfl (by first | exact .inl rfl | exact .inr (.inl rfl) | exact .inr (.inr rfl)))) (ip_var (pe_var (i := 7) rfl (by first | exact .inl rfl | exact .inr (.inl rfl) | exact .inr (.inr rfl))))) (ip_var (pe_var (i := 6) rfl (by first | exact .inl rfl | exact .inr (.inl rfl) | exact .inr (.inr rfl))))) ia_nil)) ip_int))))
    (is_one (is_appV hk (pe_var (i := 4) rfl (by first | exact .inl rfl | exact .inr (.inl rfl) | exact .inr (.inr rfl))) (ig0 (ip_mod (ip_bi (bi_int hk rfl) rfl G.n_int (ia_cons (ip_div (ip_var (pe_var (i := 8) rfl (by first | exact .inl rfl | exact .inr (.inl rfl) | exact .inr (.inr rfl)))) ip_int) ia_nil)) ip_int))))))) PassesOwn.never rfl)
    (is_one (is_frz1 (i := 4) (is_ret (ig0 (ip_var (pe_var (i := 4) rfl (by first | exact .inl rfl | exact .inr (.inl rfl) | exact .inr (.inr rfl))))))))))))
theorem ok_law_pool (G : Gd P w K mg base k) : OkF P w K mg base k 2 "_law_pool" 3 0 F_law_pool := by
  obtain ⟨f, fd, F, hm⟩ := G.d_law_pool
  exact ok_fn (lv := 1) F sc_law_pool hm (F.bindsN fun _ _ _ _ _ _ us hl => match us, hl with | [_, _, _], _ => rfl) (fun cdv A outer s H E hr => bd_law_pool G f cdv A outer s H E hr)
theorem sc_law_names : FnScope ["count", "seed", "names", "k", "words", "cut", "core", "left", "right"] ["count", "seed"] (defScope s_law_names) := ⟨rfl, rfl, rfl, by decide +kernel, rfl, by decide +kernel, by decide +kernel⟩
def l_law_names_1 : Sm :=
    (seqS (setS 6 (keep0 (ixP (cst (.str "abcdefghijkl")) (bin modD (callP (c1 intD) (aCons (bin addD (bin mulD (varP 3) (cst (.int 5))) (varP 1)) aNil)) (cst (.int 12))))))
    (seqS (setS 7 (keep0 (bin mulD (ixP (cst (.str "mnopqrstuvwxyz")) (bin modD (callP (c1 intD) (aCons (bin addD (bin divD (varP 1) (cst (.int 12))) (varP 3)) aNil)) (cst (.int 14)))) (bin modD (callP (c1 intD) (aCons (bin addD (bin divD (varP 1) (cst (.int 5))) (bin mulD (varP 3) (cst (.int 2)))) aNil)) (cst (.int 3))))))
    (seqS (setS 8 (keep0 (bin mulD (ixP (cst (.str "zyxwvutsrqponm")) (bin modD (callP (c1 intD) (aCons (bin addD (bin divD (varP 1) (cst (.int 7))) (bin mulD (varP 3) (cst (.int 3)))) aNil)) (cst (.int 14)))) (bin modD (callP (c1 intD) (aCons (bin addD (bin divD (varP 1) (cst (.int 11))) (varP 3)) aNil)) (cst (.int 4))))))
    (seqS (iteS (cmp eqC (bin modD (callP (c1 intD) (aCons (varP 1) aNil)) (cst (.int 2))) (cst (.int 0))) (seqS (setS 7 (keep0 (bin mulD (cst (.str "m")) (bin modD (callP (c1 intD) (aCons (bin divD (varP 1) (cst (.int 2))) aNil)) (cst (.int 3))))))
    (setS 8 (keep0 (bin mulD (cst (.str "z")) (bin modD (callP (c1 intD) (aCons (bin divD (varP 1) (cst (.int 6))) aNil)) (cst (.int 3))))))) skS)
    (appS 2 0 (keep0 (bin addD (bin addD (varP 7) (varP 6)) (varP 8))))))))
def b_law_names : Sm :=
    (seqS (iteS (cmp gtC (bin modD (callP (c1 intD) (aCons (varP 1) aNil)) (cst (.int 6))) (cst (.int 3))) (seqS (setS 4 (keep0 (fun ρ => ((small (kept (aCons (cst (.str "ab")) (aCons (cst (.str "a")) (aCons (cst (.str "abc")) (aCons (cst (.str "aa")) (aCons (cst (.str "b")) (aCons (cst (.str "ba")) (aCons (cst (.str "aab")) (aCons (cst (.str "bb")) (aCons (cst (.str "abcdefg")) (aCons (cst (.str "abcdefh")) (aCons (cst (.str "aba")) (aCons (cst (.str "bab")) aNil)))))))))))))) ρ).map fun ds => (0, .lst ds))))
    (seqS (iteS (cmp eqC (bin modD (callP (c1 intD) (aCons (varP 1) aNil)) (cst (.int 6))) (cst (.int 5))) (setS 4 (keep0 (fun ρ => ((small (kept (aCons (cst (.str "first")) (aCons (cst (.str "row")) (aCons (cst (.str "end")) (aCons (cst (.str "near")) (aCons (cst (.str "span")) (aCons (cst (.str "last")) (aCons (cst (.str "before")) (aCons (cst (.str "window")) (aCons (cst (.str "over")) (aCons (cst (.str "column")) (aCons (cst (.str "not")) (aCons (cst (.str "ask")) aNil)))))))))))))) ρ).map fun ds => (0, .lst ds)))) skS)
    (seqS (setS 5 (keep0 (bin modD (callP (c1 intD) (aCons (bin divD (varP 1) (cst (.int 6))) aNil)) (cst (.int 12)))))
    (retS 0 (keep0 (cutP (bin addD (cutP (varP 4) (ofO (varP 5)) noO) (cutP (varP 4) noO (ofO (varP 5)))) noO (ofO (varP 0)))))))) skS)
    (seqS (setO 2 1 (fun ρ => ((small (kept aNil)) ρ).map fun ds => .lst ds))
    (seqS (forS (rngI (rg1 (varP 0))) (bN 3) l_law_names_1)
    (frzS 2 (retS 0 (keep0 (varP 2)))))))
def F_law_names : Ar → Option D := runB 2 9 b_law_names
theorem bd_law_names (G : Gd P w K mg base k) (f : Addr) (cdv : Value) (A : Around) (outer : List Env) (s : Shared) (H : Hp) (E : XK) (hr : Room 0 (A.deeper (envOfC "_law_names" (defScope s_law_names) s.heap.objs.size f cdv))) :
    PSs (cxOf CX0 P w K mg base ["count", "seed", "names", "k", "words", "cut", "core", "left", "right"] "_law_names" (defScope s_law_names) f cdv A outer s H E).nox (defBody s_law_names) (tS k false 0 b_law_names) := by
    have hk : k.K = K := G.kK
    exact (is_cons (is_if (it_c2 (oc_gt hk hr.units) (ip_mod (ip_bi (bi_int hk rfl) rfl G.n_int (ia_cons (ip_var (pe_var (i := 1) rfl (by first | exact .inl rfl | exact .inr (.inl rfl) | exact .inr (.inr rfl)))) ia_nil)) ip_int) ip_int) (is_cons (is_set (i := 4) (ps_set (i := 4) sc_law_names.nd rfl (by first | exact .inl rfl | exact .inr rfl) (ig0 (ip_new (in_lst (ia_cons ip_str (ia_cons ip_str (ia_cons ip_str (ia_cons ip_str (ia_cons ip_str (ia_cons ip_str (ia_cons ip_str (ia_cons ip_str (ia_cons ip_str (ia_cons ip_str (ia_cons ip_str (ia_cons ip_str ia_nil)))))))))))))))))
    (is_cons (is_if (it_c2 (oc_eq hk hr.units) (ip_mod (ip_bi (bi_int hk rfl) rfl G.n_int (ia_cons (ip_var (pe_var (i := 1) rfl (by first | exact .inl rfl | exact .inr (.inl rfl) | exact .inr (.inr rfl)))) ia_nil)) ip_int) ip_int) (is_one (is_set (i := 4) (ps_set (i := 4) sc_law_names.nd rfl (by first | exact .inl rfl | exact .inr rfl) (ig0 (ip_new (in_lst (ia_cons ip_str (ia_cons ip_str (ia_cons ip_str (ia_cons ip_str (ia_cons ip_str (ia_cons ip_str (ia_cons ip_str (ia_cons ip_str (ia_cons ip_str (ia_cons ip_str (ia_cons ip_str (ia_cons ip_str ia_nil)))))))))))))))))) is_nil)
    (is_cons (is_set (i := 5) (ps_set (i := 5) sc_law_names.nd rfl (by first | exact .inl rfl | exact .inr rfl) (ig0 (ip_mod (ip_bi (bi_int hk rfl) rfl G.n_int (ia_cons (ip_div (ip_var (pe_var (i := 1) rfl (by first | exact .inl rfl | exact .inr (.inl rfl) | exact .inr (.inr rfl)))) ip_int) ia_nil)) ip_int))))
    (is_one (is_ret (ig0 (ip_cut (ip_add hk (ip_cut (ip_var (pe_var (i := 4) rfl (by first | exact .inl rfl | exact .inr (.inl rfl) | exact .inr (.inr rfl)))) (io_some (ip_var (pe_var (i := 5) rfl (by first | exact .inl rfl | exact .inr (.inl rfl) | exact .inr (.inr rfl))))) io_none hk) (ip_cut (ip_var (pe_var (i := 4) rfl (by first | exact .inl rfl | exact .inr (.inl rfl) | exact .inr (.inr rfl)))) io_none (io_some (ip_var (pe_var (i := 5) rfl (by first | exact .inl rfl | exact .inr (.inl rfl) | exact .inr (.inr rfl))))) hk)) io_none (io_some (ip_var (pe_var (i := 0) rfl (by first | exact .inl rfl | exact .inr (.inl rfl) | exact .inr (.inr rfl))))) hk))))))) is_nil)
    (is_cons (is_setO (i := 2) (ps_set (i := 2) sc_law_names.nd rfl (by first | exact .inl rfl | exact .inr rfl) (ig_new (in_lst ia_nil))))
    (is_cons (is_for (ii_range1 rfl G.n_range (ip_var (pe_var (i := 0) rfl (by first | exact .inl rfl | exact .inr (.inl rfl) | exact .inr (.inr rfl))))) (it_name (pg_name (i := 3) sc_law_names.nd rfl (by first | exact .inl rfl | exact .inr rfl))) (is_cons (is_set (i := 6) (ps_set (i := 6) sc_law_names.nd rfl (by first | exact .inl rfl | exact .inr rfl) (ig0 (ip_ix ip_str (ip_mod (ip_bi (bi_int hk rfl) rfl G.n_int (ia_cons (ip_add hk (ip_mul (ip_var (pe_var (i := 3) rfl (by first | exact .inl rfl | exact .inr (.inl rfl) | exact .inr (.inr rfl)))) ip_int) (ip_var (pe_var (i := 1) rfl (by first | exact .inl rfl | exact .inr (.inl rfl) | exact .inr (.inr rfl))))) ia_nil)) ip_int) (by intro _ _; rfl) hk))))
    (is_cons (is_set (i := 7) (ps_set (i := 7) sc_law_names.nd rfl (by first | exact .inl rfl | exact .inr rfl) (ig0 (ip_mul (ip_ix ip_str (ip_mod (ip_bi (bi_int hk rfl) rfl G.n_int (ia_cons (ip_add hk (ip_div (ip_var (pe_var (i := 1) rfl (by first | exact .inl rfl | exact .inr (.inl rfl) | exact .inr (.inr rfl)))) ip_int) (ip_var (pe_var (i := 3) rfl (by first | exact .inl rfl | exact .inr (.inl rfl) | exact .inr (.inr rfl))))) ia_nil)) ip_int) (by intro _ _; rfl) hk) (ip_mod (ip_bi (bi_int hk rfl) rfl G.n_int (ia_cons (ip_add hk (ip_div (ip_var (pe_var (i := 1) rfl (by first | exact .inl rfl | exact .inr (.inl rfl) | exact .inr (.inr rfl)))) ip_int) (ip_mul (ip_var (pe_var (i := 3) rfl (by first | exact .inl rfl | exact .inr (.inl rfl) | exact .inr (.inr rfl)))) ip_int)) ia_nil)) ip_int)))))
    (is_cons (is_set (i := 8) (ps_set (i := 8) sc_law_names.nd rfl (by first | exact .inl rfl | exact .inr rfl) (ig0 (ip_mul (ip_ix ip_str (ip_mod (ip_bi (bi_int hk rfl) rfl G.n_int (ia_cons (ip_add hk (ip_div (ip_var (pe_var (i := 1) rfl (by first | exact .inl rfl | exact .inr (.inl rfl) | exact .inr (.inr rfl)))) ip_int) (ip_mul (ip_var (pe_var (i := 3) rfl (by first | exact .inl rfl | exact .inr (.inl rfl) | exact .inr (.inr rfl)))) ip_int)) ia_nil)) ip_int) (by intro _ _; rfl) hk) (ip_mod (ip_bi (bi_int hk rfl) rfl G.n_int (ia_cons (ip_add hk (ip_div (ip_var (pe_var (i := 1) rfl (by first | exact .inl rfl | exact .inr (.inl rfl) | exact .inr (.inr rfl)))) ip_int) (ip_var (pe_var (i := 3) rfl (by first | exact .inl rfl | exact .inr (.inl rfl) | exact .inr (.inr rfl))))) ia_nil)) ip_int)))))
    (is_cons (is_if (it_c2 (oc_eq hk hr.units) (ip_mod (ip_bi (bi_int hk rfl) rfl G.n_int (ia_cons (ip_var (pe_var (i := 1) rfl (by first | exact .inl rfl | exact .inr (.inl rfl) | exact .inr (.inr rfl)))) ia_nil)) ip_int) ip_int) (is_cons (is_set (i := 7) (ps_set (i := 7) sc_law_names.nd rfl (by first | exact .inl rfl | exact .inr rfl) (ig0 (ip_mul ip_str (ip_mod (ip_bi (bi_int hk rfl) rfl G.n_int (ia_cons (ip_div (ip_var (pe_var (i := 1) rfl (by first | exact .inl rfl | exact .inr (.inl rfl) | exact .inr (.inr rfl)))) ip_int) ia_nil)) ip_int)))))
    (is_one (is_set (i := 8) (ps_set (i := 8) sc_law_names.nd rfl (by first | exact .inl rfl | exact .inr rfl) (ig0 (ip_mul ip_str (ip_mod (ip_bi (bi_int hk rfl) rfl G.n_int (ia_cons (ip_div (ip_var (pe_var (i := 1) rfl (by first | exact .inl rfl | exact .inr (.inl rfl) | exact .inr (.inr rfl)))) ip_int) ia_nil)) ip_int))))))) is_nil)
    (is_one (is_appV hk (pe_var (i := 2) rfl (by first | exact .inl rfl | exact .inr (.inl rfl) | exact .inr (.inr rfl))) (ig0 (ip_add hk (ip_add hk (ip_var (pe_var (i := 7) rfl (by first | exact .inl rfl | exact .inr (.inl rfl) | exact .inr (.inr rfl)))) (ip_var (pe_var (i := 6) rfl (by first | exact .inl rfl | exact .inr (.inl rfl) | exact .inr (.inr rfl))))) (ip_var (pe_var (i := 8) rfl (by first | exact .inl rfl | exact .inr (.inl rfl) | exact .inr (.inr rfl)))))))))))) PassesOwn.never rfl)
    (is_one (is_frz1 (i := 2) (is_ret (ig0 (ip_var (pe_var (i := 2) rfl (by first | exact .inl rfl | exact .inr (.inl rfl) | exact .inr (.inr rfl)))))))))))
theorem ok_law_names (G : Gd P w K mg base k) : OkF P w K mg base k 1 "_law_names" 2 0 F_law_names := by
  obtain ⟨f, fd, F, hm⟩ := G.d_law_names
  exact ok_fn (lv := 0) F sc_law_names hm (F.bindsN fun _ _ _ _ _ _ us hl => match us, hl with | [_, _], _ => rfl) (fun cdv A outer s H E hr => bd_law_names G f cdv A outer s H E hr)
theorem sc_law_order : FnScope ["names", "pool", "start", "left", "order", "k", "pick"] ["names", "pool", "start"] (defScope s_law_order) := ⟨rfl, rfl, rfl, by decide +kernel, rfl, by decide +kernel, by decide +kernel⟩
def l_law_order_1 : Sm :=
    (seqS (setS 6 (keep0 (bin modD (callP (c1 intD) (aCons (ixP (varP 1) (bin addD (varP 2) (varP 5))) aNil)) (callP (c1 lenD) (aCons (varP 3) aNil)))))
    (seqS (appS 4 0 (keep0 (ixP (varP 3) (varP 6))))
    (setS 3 (keep0 (bin addD (cutP (varP 3) noO (ofO (varP 6))) (cutP (varP 3) (ofO (bin addD (varP 6) (cst (.int 1)))) noO))))))
def b_law_order : Sm :=
    (seqS (setS 3 (keep0 (fun ρ => ((callN lstD (aCons (varP 0) aNil)) ρ).map fun ds => (0, .lst ds))))
    (seqS (setO 4 1 (fun ρ => ((small (kept aNil)) ρ).map fun ds => .lst ds))
    (seqS (forS (rngI (rg1 (callP (c1 lenD) (aCons (varP 0) aNil)))) (bN 5) l_law_order_1)
    (frzS 4 (retS 0 (keep0 (varP 4)))))))
def F_law_order : Ar → Option D := runB 3 7 b_law_order
theorem bd_law_order (G : Gd P w K mg base k) (f : Addr) (cdv : Value) (A : Around) (outer : List Env) (s : Shared) (H : Hp) (E : XK) (hr : Room 0 (A.deeper (envOfC "_law_order" (defScope s_law_order) s.heap.objs.size f cdv))) :
    PSs (cxOf CX0 P w K mg base ["names", "pool", "start", "left", "order", "k", "pick"] "_law_order" (defScope s_law_order) f cdv A outer s H E).nox (defBody s_law_order) (tS k false 0 b_law_order) := by
    have hk : k.K = K := G.kK
    exact (is_cons (is_set (i := 3) (ps_set (i := 3) sc_law_order.nd rfl (by first | exact .inl rfl | exact .inr rfl) (ig0 (ip_new (in_bn (bn_list hk rfl) rfl G.n_list (ia_cons (ip_var (pe_var (i := 0) rfl (by first | exact .inl rfl | exact .inr (.inl rfl) | exact .inr (.inr rfl)))) ia_nil))))))
    (is_cons (is_setO (i := 4) (ps_set (i := 4) sc_law_order.nd rfl (by first | exact .inl rfl | exact .inr rfl) (ig_new (in_lst ia_nil))))
    (is_cons (is_for (ii_range1 rfl G.n_range (ip_bi (bi_len hk rfl) rfl G.n_len (ia_cons (ip_var (pe_var (i := 0) rfl (by first | exact .inl rfl | exact .inr (.inl rfl) | exact .inr (.inr rfl)))) ia_nil))) (it_name (pg_name (i := 5) sc_law_order.nd rfl (by first | exact .inl rfl | exact .inr rfl))) (is_cons (is_set (i := 6) (ps_set (i := 6) sc_law_order.nd rfl (by first | exact .inl rfl | exact .inr rfl) (ig0 (ip_mod (ip_bi (bi_int hk rfl) rfl G.n_int (ia_cons (ip_ix (ip_var (pe_var (i := 1) rfl (by first | exact .inl rfl | exact .inr (.inl rfl) | exact .inr (.inr rfl)))) (ip_add hk (ip_var (pe_var (i := 2) rfl (by first | exact .inl rfl | exact .inr (.inl rfl) | exact .inr (.inr rfl)))) (ip_var (pe_var (i := 5) rfl (by first | exact .inl rfl | exact .inr (.inl rfl) | exact .inr (.inr rfl))))) (by intro _ _; rfl) hk) ia_nil)) (ip_bi (bi_len hk rfl) rfl G.n_len (ia_cons (ip_var (pe_var (i := 3) rfl (by first | exact .inl rfl | exact .inr (.inl rfl) | exact .inr (.inr rfl)))) ia_nil))))))
    (is_cons (is_appV hk (pe_var (i := 4) rfl (by first | exact .inl rfl | exact .inr (.inl rfl) | exact .inr (.inr rfl))) (ig0 (ip_ix (ip_var (pe_var (i := 3) rfl (by first | exact .inl rfl | exact .inr (.inl rfl) | exact .inr (.inr rfl)))) (ip_var (pe_var (i := 6) rfl (by first | exact .inl rfl | exact .inr (.inl rfl) | exact .inr (.inr rfl)))) (by intro _ _; rfl) hk)))
    (is_one (is_set (i := 3) (ps_set (i := 3) sc_law_order.nd rfl (by first | exact .inl rfl | exact .inr rfl) (ig0 (ip_add hk (ip_cut (ip_var (pe_var (i := 3) rfl (by first | exact .inl rfl | exact .inr (.inl rfl) | exact .inr (.inr rfl)))) io_none (io_some (ip_var (pe_var (i := 6) rfl (by first | exact .inl rfl | exact .inr (.inl rfl) | exact .inr (.inr rfl))))) hk) (ip_cut (ip_var (pe_var (i := 3) rfl (by first | exact .inl rfl | exact .inr (.inl rfl) | exact .inr (.inr rfl)))) (io_some (ip_add hk (ip_var (pe_var (i := 6) rfl (by first | exact .inl rfl | exact .inr (.inl rfl) | exact .inr (.inr rfl)))) ip_int)) io_none hk)))))))) PassesOwn.never rfl)
    (is_one (is_frz1 (i := 4) (is_ret (ig0 (ip_var (pe_var (i := 4) rfl (by first | exact .inl rfl | exact .inr (.inl rfl) | exact .inr (.inr rfl)))))))))))
theorem ok_law_order (G : Gd P w K mg base k) : OkF P w K mg base k 1 "_law_order" 3 0 F_law_order := by
  obtain ⟨f, fd, F, hm⟩ := G.d_law_order
  exact ok_fn (lv := 0) F sc_law_order hm (F.bindsN fun _ _ _ _ _ _ us hl => match us, hl with | [_, _, _], _ => rfl) (fun cdv A outer s H E hr => bd_law_order G f cdv A outer s H E hr)
theorem sc_law_ring_rows : FnScope ["order", "many", "draw", "rows", "k", "at"] ["order", "many", "draw"] (defScope s_law_ring_rows) := ⟨rfl, rfl, rfl, by decide +kernel, rfl, by decide +kernel, by decide +kernel⟩
def l_law_ring_rows_1 : Sm :=
    (seqS (setS 5 (keep0 (bin modD (callP (c1 intD) (aCons (bin addD (bin divD (varP 2) (bin powD (cst (.int 2)) (cst (.int 3)))) (bin mulD (varP 4) (cst (.int 5)))) aNil)) (bin addD (varP 1) (cst (.int 1))))))
    (seqS (iteS (cmp ltC (varP 5) (varP 1)) (app2S 3 0 (varP 5) (keep0 (ixP (varP 0) (varP 4)))) skS)
    (iteS (andT (cmp ltC (varP 5) (varP 1)) (cmp eqC (bin modD (callP (c1 intD) (aCons (bin addD (varP 2) (varP 4)) aNil)) (cst (.int 3))) (cst (.int 0)))) (app2S 3 0 (bin modD (callP (c1 intD) (aCons (bin addD (varP 5) (cst (.int 1))) aNil)) (varP 1)) (keep0 (ixP (varP 0) (varP 4)))) skS)))
def b_law_ring_rows : Sm :=
    (seqS (setO 3 2 (lcG [4] (rngI (rg1 (varP 1))) (bN 4) yesT (fun ρ => ((small (kept (aCons (ixP (varP 0) (varP 4)) (aCons (ixP (varP 0) (bin modD (callP (c1 intD) (aCons (bin addD (varP 4) (cst (.int 1))) aNil)) (varP 1))) aNil)))) ρ).map fun ds => .lst ds)))
    (seqS (forS (rngI (rg2 (varP 1) (callP (c1 lenD) (aCons (varP 0) aNil)))) (bN 4) l_law_ring_rows_1)
    (frzS 3 (retS 0 (keep0 (varP 3))))))
def F_law_ring_rows : Ar → Option D := runB 3 6 b_law_ring_rows
theorem bd_law_ring_rows (G : Gd P w K mg base k) (f : Addr) (cdv : Value) (A : Around) (outer : List Env) (s : Shared) (H : Hp) (E : XK) (hr : Room 0 (A.deeper (envOfC "_law_ring_rows" (defScope s_law_ring_rows) s.heap.objs.size f cdv))) :
    PSs (cxOf CX0 P w K mg base ["order", "many", "draw", "rows", "k", "at"] "_law_ring_rows" (defScope s_law_ring_rows) f cdv A outer s H E).nox (defBody s_law_ring_rows) (tS k false 0 b_law_ring_rows) := by
    have hk : k.K = K := G.kK
    exact (is_cons (is_setO (i := 3) (ia_lc (i := 3) (own := [("k", 4)]) rfl sc_law_ring_rows.nd rfl rfl rfl (ii_range1 rfl G.n_range (ip_var (pe_var (i := 1) rfl (by first | exact .inl rfl | exact .inr (.inl rfl) | exact .inr (.inr rfl))))) (blk_of (N := ["order", "many", "draw", "rows", "k", "at"]) (by kernel_rfl)) (fun _ _ _ _ _ => (it_name (pg_name (i := 4) sc_law_ring_rows.nd rfl (by first | exact .inl rfl | exact .inr rfl)))) (fun _ _ _ _ _ => its_yes) (fun _ _ _ _ _ => (ig_new (in_lst (ia_cons (ip_ix (ip_var (pe_var (i := 0) rfl (by first | exact .inl rfl | exact .inr (.inl rfl) | exact .inr (.inr rfl)))) (ip_var (pe_var (i := 4) rfl (by first | exact .inl rfl | exact .inr (.inl rfl) | exact .inr (.inr rfl)))) (by intro _ _; rfl) hk) (ia_cons (ip_ix (ip_var (pe_var (i := 0) rfl (by first | exact .inl rfl | exact .inr (.inl rfl) | exact .inr (.inr rfl)))) (ip_mod (ip_bi (bi_int hk rfl) rfl G.n_int (ia_cons (ip_add hk (ip_var (pe_var (i := 4) rfl (by first | exact .inl rfl | exact .inr (.inl rfl) | exact .inr (.inr rfl)))) ip_int) ia_nil)) (ip_var (pe_var (i := 1) rfl (by first | exact .inl rfl | exact .inr (.inl rfl) | exact .inr (.inr rfl))))) (by intro _ _; rfl) hk) ia_nil))))) (by decide)))
    (is_cons (is_for (ii_range2 rfl G.n_range (ip_var (pe_var (i := 1) rfl (by first | exact .inl rfl | exact .inr (.inl rfl) | exact .inr (.inr rfl)))) (ip_bi (bi_len hk rfl) rfl G.n_len (ia_cons (ip_var (pe_var (i := 0) rfl (by first | exact .inl rfl | exact .inr (.inl rfl) | exact .inr (.inr rfl)))) ia_nil))) (it_name (pg_name (i := 4) sc_law_ring_rows.nd rfl (by first | exact .inl rfl | exact .inr rfl))) (is_cons (is_set (i := 5) (ps_set (i := 5) sc_law_ring_rows.nd rfl (by first | exact .inl rfl | exact .inr rfl) (ig0 (ip_mod (ip_bi (bi_int hk rfl) rfl G.n_int (ia_cons (ip_add hk (ip_div (ip_var (pe_var (i := 2) rfl (by first | exact .inl rfl | exact .inr (.inl rfl) | exact .inr (.inr rfl)))) (ip_pow ip_int ip_int)) (ip_mul (ip_var (pe_var (i := 4) rfl (by first | exact .inl rfl | exact .inr (.inl rfl) | exact .inr (.inr rfl)))) ip_int)) ia_nil)) (ip_add hk (ip_var (pe_var (i := 1) rfl (by first | exact .inl rfl | exact .inr (.inl rfl) | exact .inr (.inr rfl)))) ip_int)))))
    (is_cons (is_if (it_c2 (oc_lt hk hr.units) (ip_var (pe_var (i := 5) rfl (by first | exact .inl rfl | exact .inr (.inl rfl) | exact .inr (.inr rfl)))) (ip_var (pe_var (i := 1) rfl (by first | exact .inl rfl | exact .inr (.inl rfl) | exact .inr (.inr rfl))))) (is_one (is_app2 hk (pe_var (i := 3) rfl (by first | exact .inl rfl | exact .inr (.inl rfl) | exact .inr (.inr rfl))) (ip_var (pe_var (i := 5) rfl (by first | exact .inl rfl | exact .inr (.inl rfl) | exact .inr (.inr rfl)))) (ig0 (ip_ix (ip_var (pe_var (i := 0) rfl (by first | exact .inl rfl | exact .inr (.inl rfl) | exact .inr (.inr rfl)))) (ip_var (pe_var (i := 4) rfl (by first | exact .inl rfl | exact .inr (.inl rfl) | exact .inr (.inr rfl)))) (by intro _ _; rfl) hk)) (by intro _ _; rfl))) is_nil)
    (is_one (is_if (PW.pt (iw_and (it_c2 (oc_lt hk hr.units) (ip_var (pe_var (i := 5) rfl (by first | exact .inl rfl | exact .inr (.inl rfl) | exact .inr (.inr rfl)))) (ip_var (pe_var (i := 1) rfl (by first | exact .inl rfl | exact .inr (.inl rfl) | exact .inr (.inr rfl))))) (iw_and1 (it_c2 (oc_eq hk hr.units) (ip_mod (ip_bi (bi_int hk rfl) rfl G.n_int (ia_cons (ip_add hk (ip_var (pe_var (i := 2) rfl (by first | exact .inl rfl | exact .inr (.inl rfl) | exact .inr (.inr rfl)))) (ip_var (pe_var (i := 4) rfl (by first | exact .inl rfl | exact .inr (.inl rfl) | exact .inr (.inr rfl))))) ia_nil)) ip_int) ip_int)))) (is_one (is_app2 hk (pe_var (i := 3) rfl (by first | exact .inl rfl | exact .inr (.inl rfl) | exact .inr (.inr rfl))) (ip_mod (ip_bi (bi_int hk rfl) rfl G.n_int (ia_cons (ip_add hk (ip_var (pe_var (i := 5) rfl (by first | exact .inl rfl | exact .inr (.inl rfl) | exact .inr (.inr rfl)))) ip_int) ia_nil)) (ip_var (pe_var (i := 1) rfl (by first | exact .inl rfl | exact .inr (.inl rfl) | exact .inr (.inr rfl))))) (ig0 (ip_ix (ip_var (pe_var (i := 0) rfl (by first | exact .inl rfl | exact .inr (.inl rfl) | exact .inr (.inr rfl)))) (ip_var (pe_var (i := 4) rfl (by first | exact .inl rfl | exact .inr (.inl rfl) | exact .inr (.inr rfl)))) (by intro _ _; rfl) hk)) (by intro _ _; rfl))) is_nil)))) PassesOwn.never rfl)
    (is_one (is_frz1 (i := 3) (is_ret (ig0 (ip_var (pe_var (i := 3) rfl (by first | exact .inl rfl | exact .inr (.inl rfl) | exact .inr (.inr rfl))))))))))
theorem ok_law_ring_rows (G : Gd P w K mg base k) : OkF P w K mg base k 1 "_law_ring_rows" 3 0 F_law_ring_rows := by
  obtain ⟨f, fd, F, hm⟩ := G.d_law_ring_rows
  exact ok_fn (lv := 0) F sc_law_ring_rows hm (F.bindsN fun _ _ _ _ _ _ us hl => match us, hl with | [_, _, _], _ => rfl) (fun cdv A outer s H E hr => bd_law_ring_rows G f cdv A outer s H E hr)
theorem sc_law_crowd_rows : FnScope ["order", "many", "draw", "rows", "k", "row", "rest", "shift", "i"] ["order", "many", "draw"] (defScope s_law_crowd_rows) := ⟨rfl, rfl, rfl, by decide +kernel, rfl, by decide +kernel, by decide +kernel⟩
def l_law_crowd_rows_1 : Sm :=
    (iteS (andT (cmp neC (bin modD (callP (c1 intD) (aCons (bin addD (bin addD (varP 7) (bin mulD (varP 8) (cst (.int 3)))) (varP 4)) aNil)) (cst (.int 4))) (cst (.int 0))) (cmp neC (bin modD (callP (c1 intD) (aCons (bin addD (varP 8) (varP 4)) aNil)) (varP 1)) (cst (.int 0)))) (setS 5 (keep0 (bin addD (varP 5) (fun ρ => ((small (kept (aCons (ixP (varP 6) (varP 8)) aNil))) ρ).map fun ds => (0, .lst ds))))) skS)
def l_law_crowd_rows_2 : Sm :=
    (seqS (setS 5 (keep0 (ixP (fun ρ => ((small (kept (aCons (fun ρ => ((small (kept (aCons (ixP (varP 0) (cst (.int 0))) (aCons (ixP (varP 0) (cst (.int 1))) aNil)))) ρ).map fun ds => (0, .lst ds)) (aCons (fun ρ => ((small (kept (aCons (ixP (varP 0) (cst (.int 1))) (aCons (ixP (varP 0) (cst (.int 2))) aNil)))) ρ).map fun ds => (0, .lst ds)) (aCons (fun ρ => ((small (kept (aCons (ixP (varP 0) (cst (.int 2))) (aCons (ixP (varP 0) (cst (.int 0))) aNil)))) ρ).map fun ds => (0, .lst ds)) (aCons (fun ρ => ((small (kept (aCons (ixP (varP 0) (cst (.int 1))) (aCons (ixP (varP 0) (cst (.int 0))) (aCons (ixP (varP 0) (cst (.int 2))) aNil))))) ρ).map fun ds => (0, .lst ds)) aNil)))))) ρ).map fun ds => (0, .lst ds)) (bin modD (callP (c1 intD) (aCons (varP 4) aNil)) (cst (.int 4))))))
    (seqS (setS 6 (keep0 (cutP (varP 0) (ofO (cst (.int 3))) noO)))
    (seqS (setS 7 (keep0 (bin modD (callP (c1 intD) (aCons (bin divD (varP 2) (bin addD (varP 4) (cst (.int 1)))) aNil)) (cst (.int 7)))))
    (seqS (forS (rngI (rg1 (callP (c1 lenD) (aCons (varP 6) aNil)))) (bN 8) l_law_crowd_rows_1)
    (appS 3 0 (keep0 (varP 5)))))))
def b_law_crowd_rows : Sm :=
    (seqS (setO 3 1 (fun ρ => ((small (kept aNil)) ρ).map fun ds => .lst ds))
    (seqS (forS (rngI (rg1 (varP 1))) (bN 4) l_law_crowd_rows_2)
    (frzS 3 (retS 0 (keep0 (varP 3))))))
def F_law_crowd_rows : Ar → Option D := runB 3 9 b_law_crowd_rows
theorem bd_law_crowd_rows (G : Gd P w K mg base k) (f : Addr) (cdv : Value) (A : Around) (outer : List Env) (s : Shared) (H : Hp) (E : XK) (hr : Room 0 (A.deeper (envOfC "_law_crowd_rows" (defScope s_law_crowd_rows) s.heap.objs.size f cdv))) :
    PSs (cxOf CX0 P w K mg base ["order", "many", "draw", "rows", "k", "row", "rest", "shift", "i"] "_law_crowd_rows" (defScope s_law_crowd_rows) f cdv A outer s H E).nox (defBody s_law_crowd_rows) (tS k false 0 b_law_crowd_rows) := by
    have hk : k.K = K := G.kK
    exact (is_cons (is_setO (i := 3) (ps_set (i := 3) sc_law_crowd_rows.nd rfl (by first | exact .inl rfl | exact .inr rfl) (ig_new (in_lst ia_nil))))
    (is_cons (is_for (ii_range1 rfl G.n_range (ip_var (pe_var (i := 1) rfl (by first | exact .inl rfl | exact .inr (.inl rfl) | exact .inr (.inr rfl))))) (it_name (pg_name (i := 4) sc_law_crowd_rows.nd rfl (by first | exact .inl rfl | exact .inr rfl))) (is_cons (is_set (i := 5) (ps_set (i := 5) sc_law_crowd_rows.nd rfl (by first | exact .inl rfl | exact .inr rfl) (ig0 (ip_ix (ip_new (in_lst (ia_cons (ip_new (in_lst (ia_cons (ip_ix (ip_var (pe_var (i := 0) rfl (by first | exact .inl rfl | exact .inr (.inl rfl) | exact .inr (.inr rfl)))) ip_int (by intro _ _; rfl) hk) (ia_cons (ip_ix (ip_var (pe_var (i := 0) rfl (by first | exact .inl rfl | exact .inr (.inl rfl) | exact .inr (.inr rfl)))) ip_int (by intro _ _; rfl) hk) ia_nil)))) (ia_cons (ip_new (in_lst (ia_cons (ip_ix (ip_var (pe_var (i := 0) rfl (by first | exact .inl rfl | exact .inr (.inl rfl) | exact .inr (.inr rfl)))) ip_int (by intro _ _; rfl) hk) (ia_cons (ip_ix (ip_var (pe_var (i := 0) rfl (by first | exact .inl rfl | exact .inr (.inl rfl) | exact .inr (.inr rfl)))) ip_int (by intro _ _; rfl) hk) ia_nil)))) (ia_cons (ip_new (in_lst (ia_cons (ip_ix (ip_var (pe_var (i := 0) rfl (by first | exact .inl rfl | exact .inr (.inl rfl) | exact .inr (.inr rfl)))) ip_int (by intro _ _; rfl) hk) (ia_cons (ip_ix (ip_var (pe_var (i := 0) rfl (by first | exact .inl rfl | exact .inr (.inl rfl) | exact .inr (.inr rfl)))) ip_int (by intro _ _; rfl) hk) ia_nil)))) (ia_cons (ip_new (in_lst (ia_cons (ip_ix (ip_var (pe_var (i := 0) rfl (by first | exact .inl rfl | exact .inr (.inl rfl) | exact .inr (.inr rfl)))) ip_int (by intro _ _; rfl) hk) (ia_cons (ip_ix (ip_var (pe_var (i := 0) rfl (by first | exact .inl rfl | exact .inr (.inl rfl) | exact .inr (.inr rfl)))) ip_int (by intro _ _; rfl) hk) (ia_cons (ip_ix (ip_var (pe_var (i := 0) rfl (by first | exact .inl rfl | exact .inr (.inl rfl) | exact .inr (.inr rfl)))) ip_int (by intro _ _; rfl) hk) ia_nil))))) ia_nil)))))) (ip_mod (ip_bi (bi_int hk rfl) rfl G.n_int (ia_cons (ip_var (pe_var (i := 4) rfl (by first | exact .inl rfl | exact .inr (.inl rfl) | exact .inr (.inr rfl)))) ia_nil)) ip_int) (by intro _ _; rfl) hk))))
    (is_cons (is_set (i := 6) (ps_set (i := 6) sc_law_crowd_rows.nd rfl (by first | exact .inl rfl | exact .inr rfl) (ig0 (ip_cut (ip_var (pe_var (i := 0) rfl (by first | exact .inl rfl | exact .inr (.inl rfl) | exact .inr (.inr rfl)))) (io_some ip_int) io_none hk))))
    (is_cons (is_set (i := 7) (ps_set (i := 7) sc_law_crowd_rows.nd rfl (by first | exact .inl rfl | exact .inr rfl) (ig0 (ip_mod (ip_bi (bi_int hk rfl) rfl G.n_int (ia_cons (ip_div (ip_var (pe_var (i := 2) rfl (by first | exact .inl rfl | exact .inr (.inl rfl) | exact .inr (.inr rfl)))) (ip_add hk (ip_var (pe_var (i := 4) rfl (by first | exact .inl rfl | exact .inr (.inl rfl) | exact .inr (.inr rfl)))) ip_int)) ia_nil)) ip_int))))
    (is_cons (is_for (ii_range1 rfl G.n_range (ip_bi (bi_len hk rfl) rfl G.n_len (ia_cons (ip_var (pe_var (i := 6) rfl (by first | exact .inl rfl | exact .inr (.inl rfl) | exact .inr (.inr rfl)))) ia_nil))) (it_name (pg_name (i := 8) sc_law_crowd_rows.nd rfl (by first | exact .inl rfl | exact .inr rfl))) (is_one (is_if (PW.pt (iw_and (it_c2 (oc_ne hk hr.units) (ip_mod (ip_bi (bi_int hk rfl) rfl G.n_int (ia_cons (ip_add hk (ip_add hk (ip_var (pe_var (i := 7) rfl (by first | exact .inl rfl | exact .inr (.inl rfl) | exact .inr (.inr rfl)))) (ip_mul (ip_var (pe_var (i := 8) rfl (by first | exact .inl rfl | exact .inr (.inl rfl) | exact .inr (.inr rfl)))) ip_int)) (ip_var (pe_var (i := 4) rfl (by first | exact .inl rfl | exact .inr (.inl rfl) | exact .inr (.inr rfl))))) ia_nil)) ip_int) ip_int) (iw_and1 (it_c2 (oc_ne hk hr.units) (ip_mod (ip_bi (bi_int hk rfl) rfl G.n_int (ia_cons (ip_add hk (ip_var (pe_var (i := 8) rfl (by first | exact .inl rfl | exact .inr (.inl rfl) | exact .inr (.inr rfl)))) (ip_var (pe_var (i := 4) rfl (by first | exact .inl rfl | exact .inr (.inl rfl) | exact .inr (.inr rfl))))) ia_nil)) (ip_var (pe_var (i := 1) rfl (by first | exact .inl rfl | exact .inr (.inl rfl) | exact .inr (.inr rfl))))) ip_int)))) (is_one (is_set (i := 5) (ps_set (i := 5) sc_law_crowd_rows.nd rfl (by first | exact .inl rfl | exact .inr rfl) (ig0 (ip_add hk (ip_var (pe_var (i := 5) rfl (by first | exact .inl rfl | exact .inr (.inl rfl) | exact .inr (.inr rfl)))) (ip_new (in_lst (ia_cons (ip_ix (ip_var (pe_var (i := 6) rfl (by first | exact .inl rfl | exact .inr (.inl rfl) | exact .inr (.inr rfl)))) (ip_var (pe_var (i := 8) rfl (by first | exact .inl rfl | exact .inr (.inl rfl) | exact .inr (.inr rfl)))) (by intro _ _; rfl) hk) ia_nil)))))))) is_nil)) PassesOwn.never rfl)
    (is_one (is_appV hk (pe_var (i := 3) rfl (by first | exact .inl rfl | exact .inr (.inl rfl) | exact .inr (.inr rfl))) (ig0 (ip_var (pe_var (i := 5) rfl (by first | exact .inl rfl | exact .inr (.inl rfl) | exact .inr (.inr rfl))))))))))) PassesOwn.never rfl)
    (is_one (is_frz1 (i := 3) (is_ret (ig0 (ip_var (pe_var (i := 3) rfl (by first | exact .inl rfl | exact .inr (.inl rfl) | exact .inr (.inr rfl))))))))))
theorem ok_law_crowd_rows (G : Gd P w K mg base k) : OkF P w K mg base k 1 "_law_crowd_rows" 3 0 F_law_crowd_rows := by
  obtain ⟨f, fd, F, hm⟩ := G.d_law_crowd_rows
  exact ok_fn (lv := 0) F sc_law_crowd_rows hm (F.bindsN fun _ _ _ _ _ _ us hl => match us, hl with | [_, _, _], _ => rfl) (fun cdv A outer s H E hr => bd_law_crowd_rows G f cdv A outer s H E hr)
theorem sc_law_free_row : FnScope ["names", "draw", "row", "digits", "name"] ["names", "draw"] (defScope s_law_free_row) := ⟨rfl, rfl, rfl, by decide +kernel, rfl, by decide +kernel, by decide +kernel⟩
def l_law_free_row_1 : Sm :=
    (seqS (iteS (cmp eqC (bin modD (callP (c1 intD) (aCons (varP 3) aNil)) (cst (.int 2))) (cst (.int 1))) (appS 2 0 (keep0 (varP 4))) skS)
    (setS 3 (keep0 (bin divD (varP 3) (cst (.int 2))))))
def b_law_free_row : Sm :=
    (seqS (setO 2 1 (fun ρ => ((small (kept aNil)) ρ).map fun ds => .lst ds))
    (seqS (setS 3 (keep0 (callP (c1 intD) (aCons (varP 1) aNil))))
    (seqS (forS (anyI (varP 0)) (bN 4) l_law_free_row_1)
    (frzS 2 (retS 0 (keep0 (varP 2)))))))
def F_law_free_row : Ar → Option D := runB 2 5 b_law_free_row
theorem bd_law_free_row (G : Gd P w K mg base k) (f : Addr) (cdv : Value) (A : Around) (outer : List Env) (s : Shared) (H : Hp) (E : XK) (hr : Room 0 (A.deeper (envOfC "_law_free_row" (defScope s_law_free_row) s.heap.objs.size f cdv))) :
    PSs (cxOf CX0 P w K mg base ["names", "draw", "row", "digits", "name"] "_law_free_row" (defScope s_law_free_row) f cdv A outer s H E).nox (defBody s_law_free_row) (tS k false 0 b_law_free_row) := by
    have hk : k.K = K := G.kK
    exact (is_cons (is_setO (i := 2) (ps_set (i := 2) sc_law_free_row.nd rfl (by first | exact .inl rfl | exact .inr rfl) (ig_new (in_lst ia_nil))))
    (is_cons (is_set (i := 3) (ps_set (i := 3) sc_law_free_row.nd rfl (by first | exact .inl rfl | exact .inr rfl) (ig0 (ip_bi (bi_int hk rfl) rfl G.n_int (ia_cons (ip_var (pe_var (i := 1) rfl (by first | exact .inl rfl | exact .inr (.inl rfl) | exact .inr (.inr rfl)))) ia_nil)))))
    (is_cons (is_for (ii_any hk (ip_var (pe_var (i := 0) rfl (by first | exact .inl rfl | exact .inr (.inl rfl) | exact .inr (.inr rfl))))) (it_name (pg_name (i := 4) sc_law_free_row.nd rfl (by first | exact .inl rfl | exact .inr rfl))) (is_cons (is_if (it_c2 (oc_eq hk hr.units) (ip_mod (ip_bi (bi_int hk rfl) rfl G.n_int (ia_cons (ip_var (pe_var (i := 3) rfl (by first | exact .inl rfl | exact .inr (.inl rfl) | exact .inr (.inr rfl)))) ia_nil)) ip_int) ip_int) (is_one (is_appV hk (pe_var (i := 2) rfl (by first | exact .inl rfl | exact .inr (.inl rfl) | exact .inr (.inr rfl))) (ig0 (ip_var (pe_var (i := 4) rfl (by first | exact .inl rfl | exact .inr (.inl rfl) | exact .inr (.inr rfl))))))) is_nil)
    (is_one (is_set (i := 3) (ps_set (i := 3) sc_law_free_row.nd rfl (by first | exact .inl rfl | exact .inr rfl) (ig0 (ip_div (ip_var (pe_var (i := 3) rfl (by first | exact .inl rfl | exact .inr (.inl rfl) | exact .inr (.inr rfl)))) ip_int)))))) PassesOwn.never rfl)
    (is_one (is_frz1 (i := 2) (is_ret (ig0 (ip_var (pe_var (i := 2) rfl (by first | exact .inl rfl | exact .inr (.inl rfl) | exact .inr (.inr rfl)))))))))))
theorem ok_law_free_row (G : Gd P w K mg base k) : OkF P w K mg base k 1 "_law_free_row" 2 0 F_law_free_row := by
  obtain ⟨f, fd, F, hm⟩ := G.d_law_free_row
  exact ok_fn (lv := 0) F sc_law_free_row hm (F.bindsN fun _ _ _ _ _ _ us hl => match us, hl with | [_, _], _ => rfl) (fun cdv A outer s H E hr => bd_law_free_row G f cdv A outer s H E hr)
theorem sc_law_setting : FnScope ["names", "order", "pool", "ring", "rows", "numbers", "row", "many", "extra", "columns", "at", "k"] ["names", "order", "pool"] (defScope s_law_setting) := ⟨rfl, rfl, rfl, by decide +kernel, rfl, by decide +kernel, by decide +kernel⟩
def l_law_setting_1 : Sm :=
    (seqS (setS 10 (keep0 (bin modD (callP (c1 intD) (aCons (ixP (varP 2) (bin addD (cst (.int 36)) (callP (c1 lenD) (aCons (varP 5) aNil)))) aNil)) (bin addD (callP (c1 lenD) (aCons (varP 4) aNil)) (cst (.int 1))))))
    (seqS (iteS (cmp eqC (bin modD (callP (c1 intD) (aCons (ixP (varP 2) (cst (.int 48))) aNil)) (cst (.int 2))) (cst (.int 0))) (setS 10 (keep0 (callP (c1 lenD) (aCons (varP 4) aNil)))) skS)
    (seqS (setS 4 (keep0 (bin addD (bin addD (cutP (varP 4) noO (ofO (varP 10))) (fun ρ => ((small (kept (aCons (varP 6) aNil))) ρ).map fun ds => (0, .lst ds))) (cutP (varP 4) (ofO (varP 10)) noO))))
    (setS 5 (keep0 (bin addD (frP (lcG [11] (anyI (varP 5)) (bN 11) yesT (keep0 (bin addD (varP 11) (callP (c1 intD) (aCons (blP (cmp geC (varP 11) (varP 10))) aNil)))))) (fun ρ => ((small (kept (aCons (varP 10) aNil))) ρ).map fun ds => (0, .lst ds))))))))
def b_law_setting : Sm :=
    (seqS (setS 3 (keep0 (andP (blP (cmp eqC (bin modD (callP (c1 intD) (aCons (ixP (varP 2) (cst (.int 26))) aNil)) (cst (.int 2))) (cst (.int 0)))) (blP (cmp gtC (callP (c1 lenD) (aCons (varP 0) aNil)) (cst (.int 3)))))))
    (seqS (iteS (asB (varP 3)) (seqS (setS 7 (keep0 (bin addD (cst (.int 4)) (bin modD (callP (c1 intD) (aCons (ixP (varP 2) (cst (.int 27))) aNil)) (bin subD (callP (c1 lenD) (aCons (varP 0) aNil)) (cst (.int 3)))))))
    (seqS (setS 8 (callG F_law_ring_rows (aCons (varP 1) (aCons (varP 7) (aCons (ixP (varP 2) (cst (.int 28))) aNil)))))
    (setS 9 (keep0 (cutP (varP 1) noO (ofO (varP 7))))))) (seqS (setS 7 (keep0 (bin addD (cst (.int 3)) (bin modD (callP (c1 intD) (aCons (ixP (varP 2) (cst (.int 27))) aNil)) (cst (.int 6))))))
    (seqS (setS 8 (callG F_law_crowd_rows (aCons (varP 1) (aCons (varP 7) (aCons (ixP (varP 2) (cst (.int 28))) aNil)))))
    (setS 9 (keep0 (cutP (varP 1) noO (ofO (cst (.int 3)))))))))
    (seqS (setS 4 (lcG [11] (rngI (rg1 (bin modD (callP (c1 intD) (aCons (ixP (varP 2) (cst (.int 35))) aNil)) (cst (.int 7))))) (bN 11) yesT (callG F_law_free_row (aCons (varP 0) (aCons (ixP (varP 2) (bin addD (cst (.int 29)) (varP 11))) aNil)))))
    (seqS (setS 5 (keep0 (fun ρ => ((small (kept aNil)) ρ).map fun ds => (0, .lst ds))))
    (seqS (forS (anyI (varP 8)) (bN 6) l_law_setting_1)
    (retS 0 (keep0 (fun ρ => ((small (kept (aCons (ixP (fun ρ => ((small (kept (aCons (cst (.str "crowd")) (aCons (cst (.str "ring")) aNil)))) ρ).map fun ds => (0, .lst ds)) (callP (c1 intD) (aCons (varP 3) aNil))) (aCons (varP 5) (aCons (fun ρ => ((callN lstD (aCons (varP 9) aNil)) ρ).map fun ds => (0, .lst ds)) (aCons (varP 4) aNil)))))) ρ).map fun ds => (0, .lst ds)))))))))
def F_law_setting : Ar → Option D := runB 3 12 b_law_setting
theorem bd_law_setting (G : Gd P w K mg base k) (f : Addr) (cdv : Value) (A : Around) (outer : List Env) (s : Shared) (H : Hp) (E : XK) (hr : Room 1 (A.deeper (envOfC "_law_setting" (defScope s_law_setting) s.heap.objs.size f cdv))) :
    PSs (cxOf CX0 P w K mg base ["names", "order", "pool", "ring", "rows", "numbers", "row", "many", "extra", "columns", "at", "k"] "_law_setting" (defScope s_law_setting) f cdv A outer s H E).nox (defBody s_law_setting) (tS k false 0 b_law_setting) := by
    have hk : k.K = K := G.kK
    have ok_law_ring_rows := ok_law_ring_rows (base := base) (P := P) (w := w) G
    have ok_law_crowd_rows := ok_law_crowd_rows (base := base) (P := P) (w := w) G
    have ok_law_free_row := ok_law_free_row (base := base) (P := P) (w := w) G
    exact (is_cons (is_set (i := 3) (ps_set (i := 3) sc_law_setting.nd rfl (by first | exact .inl rfl | exact .inr rfl) (ig0 (ip_and (ip_c2 (oc_eq hk hr.units) (ip_mod (ip_bi (bi_int hk rfl) rfl G.n_int (ia_cons (ip_ix (ip_var (pe_var (i := 2) rfl (by first | exact .inl rfl | exact .inr (.inl rfl) | exact .inr (.inr rfl)))) ip_int (by intro _ _; rfl) hk) ia_nil)) ip_int) ip_int) (ip_one (ip_c2 (oc_gt hk hr.units) (ip_bi (bi_len hk rfl) rfl G.n_len (ia_cons (ip_var (pe_var (i := 0) rfl (by first | exact .inl rfl | exact .inr (.inl rfl) | exact .inr (.inr rfl)))) ia_nil)) ip_int))))))
    (is_cons (is_if (it_b (ip_var (pe_var (i := 3) rfl (by first | exact .inl rfl | exact .inr (.inl rfl) | exact .inr (.inr rfl))))) (is_cons (is_set (i := 7) (ps_set (i := 7) sc_law_setting.nd rfl (by first | exact .inl rfl | exact .inr rfl) (ig0 (ip_add hk ip_int (ip_mod (ip_bi (bi_int hk rfl) rfl G.n_int (ia_cons (ip_ix (ip_var (pe_var (i := 2) rfl (by first | exact .inl rfl | exact .inr (.inl rfl) | exact .inr (.inr rfl)))) ip_int (by intro _ _; rfl) hk) ia_nil)) (ip_sub (ip_bi (bi_len hk rfl) rfl G.n_len (ia_cons (ip_var (pe_var (i := 0) rfl (by first | exact .inl rfl | exact .inr (.inl rfl) | exact .inr (.inr rfl)))) ia_nil)) ip_int))))))
    (is_cons (is_set (i := 8) (ps_set (i := 8) sc_law_setting.nd rfl (by first | exact .inl rfl | exact .inr rfl) (ig_call ok_law_ring_rows (hr.mono (by decide)) rfl (ia_cons (ip_var (pe_var (i := 1) rfl (by first | exact .inl rfl | exact .inr (.inl rfl) | exact .inr (.inr rfl)))) (ia_cons (ip_var (pe_var (i := 7) rfl (by first | exact .inl rfl | exact .inr (.inl rfl) | exact .inr (.inr rfl)))) (ia_cons (ip_ix (ip_var (pe_var (i := 2) rfl (by first | exact .inl rfl | exact .inr (.inl rfl) | exact .inr (.inr rfl)))) ip_int (by intro _ _; rfl) hk) ia_nil))))))
    (is_one (is_set (i := 9) (ps_set (i := 9) sc_law_setting.nd rfl (by first | exact .inl rfl | exact .inr rfl) (ig0 (ip_cut (ip_var (pe_var (i := 1) rfl (by first | exact .inl rfl | exact .inr (.inl rfl) | exact .inr (.inr rfl)))) io_none (io_some (ip_var (pe_var (i := 7) rfl (by first | exact .inl rfl | exact .inr (.inl rfl) | exact .inr (.inr rfl))))) hk))))))) (is_cons (is_set (i := 7) (ps_set (i := 7) sc_law_setting.nd rfl (by first | exact .inl rfl | exact .inr rfl) (ig0 (ip_add hk ip_int (ip_mod (ip_bi (bi_int hk rfl) rfl G.n_int (ia_cons (ip_ix (ip_var (pe_var (i := 2) rfl (by first | exact .inl rfl | exact .inr (.inl rfl) | exact .inr (.inr rfl)))) ip_int (by intro _ _; rfl) hk) ia_nil)) ip_int)))))
    (is_cons (is_set (i := 8) (ps_set (i := 8) sc_law_setting.nd rfl (by first | exact .inl rfl | exact .inr rfl) (ig_call ok_law_crowd_rows (hr.mono (by decide)) rfl (ia_cons (ip_var (pe_var (i := 1) rfl (by first | exact .inl rfl | exact .inr (.inl rfl) | exact .inr (.inr rfl)))) (ia_cons (ip_var (pe_var (i := 7) rfl (by first | exact .inl rfl | exact .inr (.inl rfl) | exact .inr (.inr rfl)))) (ia_cons (ip_ix (ip_var (pe_var (i := 2) rfl (by first | exact .inl rfl | exact .inr (.inl rfl) | exact .inr (.inr rfl)))) ip_int (by intro _ _; rfl) hk) ia_nil))))))
    (is_one (is_set (i := 9) (ps_set (i := 9) sc_law_setting.nd rfl (by first | exact .inl rfl | exact .inr rfl) (ig0 (ip_cut (ip_var (pe_var (i := 1) rfl (by first | exact .inl rfl | exact .inr (.inl rfl) | exact .inr (.inr rfl)))) io_none (io_some ip_int) hk))))))))
    (is_cons (is_set (i := 4) (ag_sub (ia_lc (i := 4) (own := [("k", 11)]) rfl sc_law_setting.nd rfl rfl rfl (ii_range1 rfl G.n_range (ip_mod (ip_bi (bi_int hk rfl) rfl G.n_int (ia_cons (ip_ix (ip_var (pe_var (i := 2) rfl (by first | exact .inl rfl | exact .inr (.inl rfl) | exact .inr (.inr rfl)))) ip_int (by intro _ _; rfl) hk) ia_nil)) ip_int)) (blk_of (N := ["names", "order", "pool", "ring", "rows", "numbers", "row", "many", "extra", "columns", "at", "k"]) (by kernel_rfl)) (fun _ _ _ _ _ => (it_name (pg_name (i := 11) sc_law_setting.nd rfl (by first | exact .inl rfl | exact .inr rfl)))) (fun _ _ _ _ _ => its_yes) (fun _ _ _ _ _ => (ig_call ok_law_free_row (hr.mono (by decide)) rfl (ia_cons (ip_var (pe_var (i := 0) rfl (by first | exact .inl rfl | exact .inr (.inl rfl) | exact .inr (.inr rfl)))) (ia_cons (ip_ix (ip_var (pe_var (i := 2) rfl (by first | exact .inl rfl | exact .inr (.inl rfl) | exact .inr (.inr rfl)))) (ip_add hk ip_int (ip_var (pe_var (i := 11) rfl (by first | exact .inl rfl | exact .inr (.inl rfl) | exact .inr (.inr rfl))))) (by intro _ _; rfl) hk) ia_nil)))) (by decide))))
    (is_cons (is_set (i := 5) (ps_set (i := 5) sc_law_setting.nd rfl (by first | exact .inl rfl | exact .inr rfl) (ig0 (ip_new (in_lst ia_nil)))))
    (is_cons (is_for (ii_any hk (ip_var (pe_var (i := 8) rfl (by first | exact .inl rfl | exact .inr (.inl rfl) | exact .inr (.inr rfl))))) (it_name (pg_name (i := 6) sc_law_setting.nd rfl (by first | exact .inl rfl | exact .inr rfl))) (is_cons (is_set (i := 10) (ps_set (i := 10) sc_law_setting.nd rfl (by first | exact .inl rfl | exact .inr rfl) (ig0 (ip_mod (ip_bi (bi_int hk rfl) rfl G.n_int (ia_cons (ip_ix (ip_var (pe_var (i := 2) rfl (by first | exact .inl rfl | exact .inr (.inl rfl) | exact .inr (.inr rfl)))) (ip_add hk ip_int (ip_bi (bi_len hk rfl) rfl G.n_len (ia_cons (ip_var (pe_var (i := 5) rfl (by first | exact .inl rfl | exact .inr (.inl rfl) | exact .inr (.inr rfl)))) ia_nil))) (by intro _ _; rfl) hk) ia_nil)) (ip_add hk (ip_bi (bi_len hk rfl) rfl G.n_len (ia_cons (ip_var (pe_var (i := 4) rfl (by first | exact .inl rfl | exact .inr (.inl rfl) | exact .inr (.inr rfl)))) ia_nil)) ip_int)))))
    (is_cons (is_if (it_c2 (oc_eq hk hr.units) (ip_mod (ip_bi (bi_int hk rfl) rfl G.n_int (ia_cons (ip_ix (ip_var (pe_var (i := 2) rfl (by first | exact .inl rfl | exact .inr (.inl rfl) | exact .inr (.inr rfl)))) ip_int (by intro _ _; rfl) hk) ia_nil)) ip_int) ip_int) (is_one (is_set (i := 10) (ps_set (i := 10) sc_law_setting.nd rfl (by first | exact .inl rfl | exact .inr rfl) (ig0 (ip_bi (bi_len hk rfl) rfl G.n_len (ia_cons (ip_var (pe_var (i := 4) rfl (by first | exact .inl rfl | exact .inr (.inl rfl) | exact .inr (.inr rfl)))) ia_nil)))))) is_nil)
    (is_cons (is_set (i := 4) (ps_set (i := 4) sc_law_setting.nd rfl (by first | exact .inl rfl | exact .inr rfl) (ig0 (ip_add hk (ip_add hk (ip_cut (ip_var (pe_var (i := 4) rfl (by first | exact .inl rfl | exact .inr (.inl rfl) | exact .inr (.inr rfl)))) io_none (io_some (ip_var (pe_var (i := 10) rfl (by first | exact .inl rfl | exact .inr (.inl rfl) | exact .inr (.inr rfl))))) hk) (ip_new (in_lst (ia_cons (ip_var (pe_var (i := 6) rfl (by first | exact .inl rfl | exact .inr (.inl rfl) | exact .inr (.inr rfl)))) ia_nil)))) (ip_cut (ip_var (pe_var (i := 4) rfl (by first | exact .inl rfl | exact .inr (.inl rfl) | exact .inr (.inr rfl)))) (io_some (ip_var (pe_var (i := 10) rfl (by first | exact .inl rfl | exact .inr (.inl rfl) | exact .inr (.inr rfl))))) io_none hk)))))
    (is_one (is_set (i := 5) (ps_set (i := 5) sc_law_setting.nd rfl (by first | exact .inl rfl | exact .inr rfl) (ig0 (ip_add hk (ip_of (ig_lc (own := [("k", 11)]) rfl sc_law_setting.nd (ii_any hk (ip_var (pe_var (i := 5) rfl (by first | exact .inl rfl | exact .inr (.inl rfl) | exact .inr (.inr rfl))))) (blk_of (N := ["names", "order", "pool", "ring", "rows", "numbers", "row", "many", "extra", "columns", "at", "k"]) (by kernel_rfl)) (fun _ _ _ _ _ => (it_name (pg_name (i := 11) sc_law_setting.nd rfl (by first | exact .inl rfl | exact .inr rfl)))) (fun _ _ _ _ _ => its_yes) (fun _ _ _ _ _ => (ig0 (ip_add hk (ip_var (pe_var (i := 11) rfl (by first | exact .inl rfl | exact .inr (.inl rfl) | exact .inr (.inr rfl)))) (ip_bi (bi_int hk rfl) rfl G.n_int (ia_cons (ip_c2 (oc_ge hk hr.units) (ip_var (pe_var (i := 11) rfl (by first | exact .inl rfl | exact .inr (.inl rfl) | exact .inr (.inr rfl)))) (ip_var (pe_var (i := 10) rfl (by first | exact .inl rfl | exact .inr (.inl rfl) | exact .inr (.inr rfl))))) ia_nil))))) (by decide))) (ip_new (in_lst (ia_cons (ip_var (pe_var (i := 10) rfl (by first | exact .inl rfl | exact .inr (.inl rfl) | exact .inr (.inr rfl)))) ia_nil))))))))))) PassesOwn.never rfl)
    (is_one (is_ret (ig0 (ip_new (in_lst (ia_cons (ip_ix (ip_new (in_lst (ia_cons ip_str (ia_cons ip_str ia_nil)))) (ip_bi (bi_int hk rfl) rfl G.n_int (ia_cons (ip_var (pe_var (i := 3) rfl (by first | exact .inl rfl | exact .inr (.inl rfl) | exact .inr (.inr rfl)))) ia_nil)) (by intro _ _; rfl) hk) (ia_cons (ip_var (pe_var (i := 5) rfl (by first | exact .inl rfl | exact .inr (.inl rfl) | exact .inr (.inr rfl)))) (ia_cons (ip_new (in_bn (bn_list hk rfl) rfl G.n_list (ia_cons (ip_var (pe_var (i := 9) rfl (by first | exact .inl rfl | exact .inr (.inl rfl) | exact .inr (.inr rfl)))) ia_nil))) (ia_cons (ip_var (pe_var (i := 4) rfl (by first | exact .inl rfl | exact .inr (.inl rfl) | exact .inr (.inr rfl)))) ia_nil))))))))))))))
theorem ok_law_setting (G : Gd P w K mg base k) : OkF P w K mg base k 2 "_law_setting" 3 0 F_law_setting := by
  obtain ⟨f, fd, F, hm⟩ := G.d_law_setting
  exact ok_fn (lv := 1) F sc_law_setting hm (F.bindsN fun _ _ _ _ _ _ us hl => match us, hl with | [_, _, _], _ => rfl) (fun cdv A outer s H E hr => bd_law_setting G f cdv A outer s H E hr)
theorem sc_is_name : FnScope ["text", "letter"] ["text"] (defScope s_is_name) := ⟨rfl, rfl, rfl, by decide +kernel, rfl, by decide +kernel, by decide +kernel⟩
def b_is_name : Sm :=
    (seqS (iteS (notT (chn leC leC (cst (.int 1)) (callP (c1 lenD) (aCons (varP 0) aNil)) (cst (.int 8)))) (retS 0 (keep0 (cst (.bl false)))) skS)
    (retS 0 (keep0 (callP (c1 allD) (aCons (frP (lcG [1] (anyI (varP 0)) (bN 1) yesT (keep0 (blP (cmp inC (varP 1) (cst (.str "abcdefghijklmnopqrstuvwxyz"))))))) aNil)))))
def F_is_name : Ar → Option D := runB 1 2 b_is_name
theorem bd_is_name (G : Gd P w K mg base k) (f : Addr) (cdv : Value) (A : Around) (outer : List Env) (s : Shared) (H : Hp) (E : XK) (hr : Room 0 (A.deeper (envOfC "is_name" (defScope s_is_name) s.heap.objs.size f cdv))) :
    PSs (cxOf CX0 P w K mg base ["text", "letter"] "is_name" (defScope s_is_name) f cdv A outer s H E).nox (defBody s_is_name) (tS k false 0 b_is_name) := by
    have hk : k.K = K := G.kK
    exact (is_cons (is_if (it_not (it_c3 (oc_le hk hr.units) (oc_le hk hr.units) ip_int (ip_bi (bi_len hk rfl) rfl G.n_len (ia_cons (ip_var (pe_var (i := 0) rfl (by first | exact .inl rfl | exact .inr (.inl rfl) | exact .inr (.inr rfl)))) ia_nil)) (ip_gint rfl (G.v_LONGEST_NAME.choose_spec)))) (is_one (is_ret (ig0 ip_bl))) is_nil)
    (is_one (is_ret (ig0 (ip_bi (bi_all hk rfl) rfl G.n_all (ia_cons (ip_of (ig_lc (own := [("letter", 1)]) rfl sc_is_name.nd (ii_any hk (ip_var (pe_var (i := 0) rfl (by first | exact .inl rfl | exact .inr (.inl rfl) | exact .inr (.inr rfl))))) (blk_of (N := ["text", "letter"]) (by kernel_rfl)) (fun _ _ _ _ _ => (it_name (pg_name (i := 1) sc_is_name.nd rfl (by first | exact .inl rfl | exact .inr rfl)))) (fun _ _ _ _ _ => its_yes) (fun _ _ _ _ _ => (ig0 (ip_c2 (oc_in hk hr.units) (ip_var (pe_var (i := 1) rfl (by first | exact .inl rfl | exact .inr (.inl rfl) | exact .inr (.inr rfl)))) (ip_gstr rfl (G.v_LETTERS.choose_spec))))) (by decide))) ia_nil))))))
theorem ok_is_name (G : Gd P w K mg base k) : OkF P w K mg base k 1 "is_name" 1 0 F_is_name := by
  obtain ⟨f, fd, F, hm⟩ := G.d_is_name
  exact ok_fn (lv := 0) F sc_is_name hm (F.bindsN fun _ _ _ _ _ _ us hl => match us, hl with | [_], _ => rfl) (fun cdv A outer s H E hr => bd_is_name G f cdv A outer s H E hr)
theorem sc_first_misnamed : FnScope ["columns", "index"] ["columns"] (defScope s_first_misnamed) := ⟨rfl, rfl, rfl, by decide +kernel, rfl, by decide +kernel, by decide +kernel⟩
def l_first_misnamed_1 : Sm :=
    (iteS (orT (notT (asB (frP (callG F_is_name (aCons (ixP (varP 0) (varP 1)) aNil))))) (cmp inC (ixP (varP 0) (varP 1)) (cutP (varP 0) noO (ofO (varP 1))))) (retS 0 (keep0 (varP 1))) skS)
def b_first_misnamed : Sm :=
    (seqS (forS (rngI (rg1 (callP (c1 lenD) (aCons (varP 0) aNil)))) (bN 1) l_first_misnamed_1)
    (retS 0 (keep0 (una negD (cst (.int 1))))))
def F_first_misnamed : Ar → Option D := runB 1 2 b_first_misnamed
theorem bd_first_misnamed (G : Gd P w K mg base k) (f : Addr) (cdv : Value) (A : Around) (outer : List Env) (s : Shared) (H : Hp) (E : XK) (hr : Room 1 (A.deeper (envOfC "first_misnamed" (defScope s_first_misnamed) s.heap.objs.size f cdv))) :
    PSs (cxOf CX0 P w K mg base ["columns", "index"] "first_misnamed" (defScope s_first_misnamed) f cdv A outer s H E).nox (defBody s_first_misnamed) (tS k false 0 b_first_misnamed) := by
    have hk : k.K = K := G.kK
    have ok_is_name := ok_is_name (base := base) (P := P) (w := w) G
    exact (is_cons (is_for (ii_range1 rfl G.n_range (ip_bi (bi_len hk rfl) rfl G.n_len (ia_cons (ip_var (pe_var (i := 0) rfl (by first | exact .inl rfl | exact .inr (.inl rfl) | exact .inr (.inr rfl)))) ia_nil))) (it_name (pg_name (i := 1) sc_first_misnamed.nd rfl (by first | exact .inl rfl | exact .inr rfl))) (is_one (is_if (PW.pt (iw_or (it_not (it_b (ip_of (ig_call ok_is_name (hr.mono (by decide)) rfl (ia_cons (ip_ix (ip_var (pe_var (i := 0) rfl (by first | exact .inl rfl | exact .inr (.inl rfl) | exact .inr (.inr rfl)))) (ip_var (pe_var (i := 1) rfl (by first | exact .inl rfl | exact .inr (.inl rfl) | exact .inr (.inr rfl)))) (by intro _ _; rfl) hk) ia_nil))))) (iw_or1 (it_c2 (oc_in hk hr.units) (ip_ix (ip_var (pe_var (i := 0) rfl (by first | exact .inl rfl | exact .inr (.inl rfl) | exact .inr (.inr rfl)))) (ip_var (pe_var (i := 1) rfl (by first | exact .inl rfl | exact .inr (.inl rfl) | exact .inr (.inr rfl)))) (by intro _ _; rfl) hk) (ip_cut (ip_var (pe_var (i := 0) rfl (by first | exact .inl rfl | exact .inr (.inl rfl) | exact .inr (.inr rfl)))) io_none (io_some (ip_var (pe_var (i := 1) rfl (by first | exact .inl rfl | exact .inr (.inl rfl) | exact .inr (.inr rfl))))) hk))))) (is_one (is_ret (ig0 (ip_var (pe_var (i := 1) rfl (by first | exact .inl rfl | exact .inr (.inl rfl) | exact .inr (.inr rfl))))))) is_nil)) PassesOwn.never rfl)
    (is_one (is_ret (ig0 (ip_neg ip_int)))))
theorem ok_first_misnamed (G : Gd P w K mg base k) : OkF P w K mg base k 2 "first_misnamed" 1 0 F_first_misnamed := by
  obtain ⟨f, fd, F, hm⟩ := G.d_first_misnamed
  exact ok_fn (lv := 1) F sc_first_misnamed hm (F.bindsN fun _ _ _ _ _ _ us hl => match us, hl with | [_], _ => rfl) (fun cdv A outer s H E hr => bd_first_misnamed G f cdv A outer s H E hr)
theorem sc_is_row : FnScope ["columns", "row", "index"] ["columns", "row"] (defScope s_is_row) := ⟨rfl, rfl, rfl, by decide +kernel, rfl, by decide +kernel, by decide +kernel⟩
def l_is_row_1 : Sm :=
    (iteS (orT (cmp ninC (ixP (varP 1) (varP 2)) (varP 0)) (cmp inC (ixP (varP 1) (varP 2)) (cutP (varP 1) noO (ofO (varP 2))))) (retS 0 (keep0 (cst (.bl false)))) skS)
def b_is_row : Sm :=
    (seqS (forS (rngI (rg1 (callP (c1 lenD) (aCons (varP 1) aNil)))) (bN 2) l_is_row_1)
    (retS 0 (keep0 (cst (.bl true)))))
def F_is_row : Ar → Option D := runB 2 3 b_is_row
theorem bd_is_row (G : Gd P w K mg base k) (f : Addr) (cdv : Value) (A : Around) (outer : List Env) (s : Shared) (H : Hp) (E : XK) (hr : Room 0 (A.deeper (envOfC "is_row" (defScope s_is_row) s.heap.objs.size f cdv))) :
    PSs (cxOf CX0 P w K mg base ["columns", "row", "index"] "is_row" (defScope s_is_row) f cdv A outer s H E).nox (defBody s_is_row) (tS k false 0 b_is_row) := by
    have hk : k.K = K := G.kK
    exact (is_cons (is_for (ii_range1 rfl G.n_range (ip_bi (bi_len hk rfl) rfl G.n_len (ia_cons (ip_var (pe_var (i := 1) rfl (by first | exact .inl rfl | exact .inr (.inl rfl) | exact .inr (.inr rfl)))) ia_nil))) (it_name (pg_name (i := 2) sc_is_row.nd rfl (by first | exact .inl rfl | exact .inr rfl))) (is_one (is_if (PW.pt (iw_or (it_c2 (oc_nin hk hr.units) (ip_ix (ip_var (pe_var (i := 1) rfl (by first | exact .inl rfl | exact .inr (.inl rfl) | exact .inr (.inr rfl)))) (ip_var (pe_var (i := 2) rfl (by first | exact .inl rfl | exact .inr (.inl rfl) | exact .inr (.inr rfl)))) (by intro _ _; rfl) hk) (ip_var (pe_var (i := 0) rfl (by first | exact .inl rfl | exact .inr (.inl rfl) | exact .inr (.inr rfl))))) (iw_or1 (it_c2 (oc_in hk hr.units) (ip_ix (ip_var (pe_var (i := 1) rfl (by first | exact .inl rfl | exact .inr (.inl rfl) | exact .inr (.inr rfl)))) (ip_var (pe_var (i := 2) rfl (by first | exact .inl rfl | exact .inr (.inl rfl) | exact .inr (.inr rfl)))) (by intro _ _; rfl) hk) (ip_cut (ip_var (pe_var (i := 1) rfl (by first | exact .inl rfl | exact .inr (.inl rfl) | exact .inr (.inr rfl)))) io_none (io_some (ip_var (pe_var (i := 2) rfl (by first | exact .inl rfl | exact .inr (.inl rfl) | exact .inr (.inr rfl))))) hk))))) (is_one (is_ret (ig0 ip_bl))) is_nil)) PassesOwn.never rfl)
    (is_one (is_ret (ig0 ip_bl))))
theorem ok_is_row (G : Gd P w K mg base k) : OkF P w K mg base k 1 "is_row" 2 0 F_is_row := by
  obtain ⟨f, fd, F, hm⟩ := G.d_is_row
  exact ok_fn (lv := 0) F sc_is_row hm (F.bindsN fun _ _ _ _ _ _ us hl => match us, hl with | [_, _], _ => rfl) (fun cdv A outer s H E hr => bd_is_row G f cdv A outer s H E hr)
theorem sc_common_names : FnScope ["columns", "row", "name"] ["columns", "row"] (defScope s_common_names) := ⟨rfl, rfl, rfl, by decide +kernel, rfl, by decide +kernel, by decide +kernel⟩
def b_common_names : Sm :=
    (retS 0 (lcG [2] (anyI (varP 0)) (bN 2) (cmp inC (varP 2) (varP 1)) (keep0 (varP 2))))
def F_common_names : Ar → Option D := runB 2 3 b_common_names
theorem bd_common_names (G : Gd P w K mg base k) (f : Addr) (cdv : Value) (A : Around) (outer : List Env) (s : Shared) (H : Hp) (E : XK) (hr : Room 0 (A.deeper (envOfC "common_names" (defScope s_common_names) s.heap.objs.size f cdv))) :
    PSs (cxOf CX0 P w K mg base ["columns", "row", "name"] "common_names" (defScope s_common_names) f cdv A outer s H E).nox (defBody s_common_names) (tS k false 0 b_common_names) := by
    have hk : k.K = K := G.kK
    exact (is_one (is_ret (ig_sub (ig_lc (own := [("name", 2)]) rfl sc_common_names.nd (ii_any hk (ip_var (pe_var (i := 0) rfl (by first | exact .inl rfl | exact .inr (.inl rfl) | exact .inr (.inr rfl))))) (blk_of (N := ["columns", "row", "name"]) (by kernel_rfl)) (fun _ _ _ _ _ => (it_name (pg_name (i := 2) sc_common_names.nd rfl (by first | exact .inl rfl | exact .inr rfl)))) (fun _ _ _ _ _ => (its_one (it_c2 (oc_in hk hr.units) (ip_var (pe_var (i := 2) rfl (by first | exact .inl rfl | exact .inr (.inl rfl) | exact .inr (.inr rfl)))) (ip_var (pe_var (i := 1) rfl (by first | exact .inl rfl | exact .inr (.inl rfl) | exact .inr (.inr rfl))))))) (fun _ _ _ _ _ => (ig0 (ip_var (pe_var (i := 2) rfl (by first | exact .inl rfl | exact .inr (.inl rfl) | exact .inr (.inr rfl)))))) (by decide)))))
theorem ok_common_names (G : Gd P w K mg base k) : OkF P w K mg base k 1 "common_names" 2 0 F_common_names := by
  obtain ⟨f, fd, F, hm⟩ := G.d_common_names
  exact ok_fn (lv := 0) F sc_common_names hm (F.bindsN fun _ _ _ _ _ _ us hl => match us, hl with | [_, _], _ => rfl) (fun cdv A outer s H E hr => bd_common_names G f cdv A outer s H E hr)
theorem sc_Table_init : FnScope ["self", "columns", "rows", "index", "number", "row"] ["self", "columns", "rows"] (defScope s_Table_init) := ⟨rfl, rfl, rfl, by decide +kernel, rfl, by decide +kernel, by decide +kernel⟩
def l_Table_init_1 : Sm :=
    (iteS (notT (asB (frP (callG F_is_row (aCons (varP 1) (aCons (ixP (varP 2) (varP 4)) aNil)))))) noS skS)
def b_Table_init : Sm :=
    (seqS (iteS (cmp gtC (callP (c1 lenD) (aCons (varP 1) aNil)) (cst (.int 12))) noS skS)
    (seqS (setS 3 (callG F_first_misnamed (aCons (varP 1) aNil)))
    (seqS (iteS (cmp geC (varP 3) (cst (.int 0))) noS skS)
    (seqS (iteS (cmp gtC (callP (c1 lenD) (aCons (varP 2) aNil)) (cst (.int 48))) noS skS)
    (seqS (forS (rngI (rg1 (callP (c1 lenD) (aCons (varP 2) aNil)))) (bN 4) l_Table_init_1)
    (seqS (fldS 0 ["Table"] "columns" (keep0 (callP (tupD) (aCons (varP 1) aNil))))
    (fldS 0 ["Table"] "rows" (keep0 (callP (tupD) (aCons (frP (lcG [5] (anyI (varP 2)) (bN 5) yesT (keep0 (callP (tupD) (aCons (frP (callG F_common_names (aCons (varP 1) (aCons (varP 5) aNil)))) aNil))))) aNil))))))))))
def F_Table_init : Ar → Option D := runI "Table" 2 6 b_Table_init
theorem bd_Table_init (G : Gd P w K mg base k) (f : Addr) (cdv : Value) (A : Around) (outer : List Env) (s : Shared) (H : Hp) (E : XK) (hr : Room 2 (A.deeper (envOfC "Table.__init__" (defScope s_Table_init) s.heap.objs.size f cdv))) :
    PSs (cxOf CX0 P w K mg base ["self", "columns", "rows", "index", "number", "row"] "Table.__init__" (defScope s_Table_init) f cdv A outer s H E).nox (defBody s_Table_init) (tS k true 0 b_Table_init) := by
    have hk : k.K = K := G.kK
    have ok_first_misnamed := ok_first_misnamed (base := base) (P := P) (w := w) G
    have ok_is_row := ok_is_row (base := base) (P := P) (w := w) G
    have ok_common_names := ok_common_names (base := base) (P := P) (w := w) G
    exact (is_cons (is_if (it_c2 (oc_gt hk hr.units) (ip_bi (bi_len hk rfl) rfl G.n_len (ia_cons (ip_var (pe_var (i := 1) rfl (by first | exact .inl rfl | exact .inr (.inl rfl) | exact .inr (.inr rfl)))) ia_nil)) (ip_cc (G.k_Table_MOST_COLUMNS) (pe_glob (v := .ref (k.cn "Table")) rfl G.c_Table rfl) rfl)) (is_one is_never) is_nil)
    (is_cons (is_set (i := 3) (ps_set (i := 3) sc_Table_init.nd rfl (by first | exact .inl rfl | exact .inr rfl) (ig_call ok_first_misnamed (hr.mono (by decide)) rfl (ia_cons (ip_var (pe_var (i := 1) rfl (by first | exact .inl rfl | exact .inr (.inl rfl) | exact .inr (.inr rfl)))) ia_nil))))
    (is_cons (is_if (it_c2 (oc_ge hk hr.units) (ip_var (pe_var (i := 3) rfl (by first | exact .inl rfl | exact .inr (.inl rfl) | exact .inr (.inr rfl)))) ip_int) (is_one is_never) is_nil)
    (is_cons (is_if (it_c2 (oc_gt hk hr.units) (ip_bi (bi_len hk rfl) rfl G.n_len (ia_cons (ip_var (pe_var (i := 2) rfl (by first | exact .inl rfl | exact .inr (.inl rfl) | exact .inr (.inr rfl)))) ia_nil)) (ip_cc (G.k_Table_MOST_ROWS) (pe_glob (v := .ref (k.cn "Table")) rfl G.c_Table rfl) rfl)) (is_one is_never) is_nil)
    (is_cons (is_for (ii_range1 rfl G.n_range (ip_bi (bi_len hk rfl) rfl G.n_len (ia_cons (ip_var (pe_var (i := 2) rfl (by first | exact .inl rfl | exact .inr (.inl rfl) | exact .inr (.inr rfl)))) ia_nil))) (it_name (pg_name (i := 4) sc_Table_init.nd rfl (by first | exact .inl rfl | exact .inr rfl))) (is_one (is_if (it_not (it_b (ip_of (ig_call ok_is_row (hr.mono (by decide)) rfl (ia_cons (ip_var (pe_var (i := 1) rfl (by first | exact .inl rfl | exact .inr (.inl rfl) | exact .inr (.inr rfl)))) (ia_cons (ip_ix (ip_var (pe_var (i := 2) rfl (by first | exact .inl rfl | exact .inr (.inl rfl) | exact .inr (.inr rfl)))) (ip_var (pe_var (i := 4) rfl (by first | exact .inl rfl | exact .inr (.inl rfl) | exact .inr (.inr rfl)))) (by intro _ _; rfl) hk) ia_nil)))))) (is_one is_never) is_nil)) PassesOwn.never rfl)
    (is_cons (is_fld (i := 0) (pe_var (i := 0) rfl (by first | exact .inl rfl | exact .inr (.inl rfl) | exact .inr (.inr rfl))) (ig0 (ip_bi (bi_tuple hk rfl) rfl G.n_tuple (ia_cons (ip_var (pe_var (i := 1) rfl (by first | exact .inl rfl | exact .inr (.inl rfl) | exact .inr (.inr rfl)))) ia_nil))) hk (by simp only [List.mem_cons, List.not_mem_nil, or_false, forall_eq]; exact G.a_Table_columns))
    (is_one (is_fld (i := 0) (pe_var (i := 0) rfl (by first | exact .inl rfl | exact .inr (.inl rfl) | exact .inr (.inr rfl))) (ig0 (ip_bi (bi_tuple hk rfl) rfl G.n_tuple (ia_cons (ip_of (ig_lc (own := [("row", 5)]) rfl sc_Table_init.nd (ii_any hk (ip_var (pe_var (i := 2) rfl (by first | exact .inl rfl | exact .inr (.inl rfl) | exact .inr (.inr rfl))))) (blk_of (N := ["self", "columns", "rows", "index", "number", "row"]) (by kernel_rfl)) (fun _ _ _ _ _ => (it_name (pg_name (i := 5) sc_Table_init.nd rfl (by first | exact .inl rfl | exact .inr rfl)))) (fun _ _ _ _ _ => its_yes) (fun _ _ _ _ _ => (ig0 (ip_bi (bi_tuple hk rfl) rfl G.n_tuple (ia_cons (ip_of (ig_call ok_common_names (hr.mono (by decide)) rfl (ia_cons (ip_var (pe_var (i := 1) rfl (by first | exact .inl rfl | exact .inr (.inl rfl) | exact .inr (.inr rfl)))) (ia_cons (ip_var (pe_var (i := 5) rfl (by first | exact .inl rfl | exact .inr (.inl rfl) | exact .inr (.inr rfl)))) ia_nil)))) ia_nil)))) (by decide))) ia_nil))) hk (by simp only [List.mem_cons, List.not_mem_nil, or_false, forall_eq]; exact G.a_Table_rows)))))))))
theorem ok_Table_init (G : Gd P w K mg base k) : OkI P w K mg base k 3 "Table" 2 F_Table_init := by
  obtain ⟨f, fd, dvs, F, hdl, hc, M⟩ := G.d_Table_init
  exact ok_init (lv := 2) F sc_Table_init rfl G.c_Table M (bindsD F hdl (by decide) fun _ _ _ _ _ _ _ us its hu hi => match us, hu, its, hi with | [_, _, _], _, [_], _ => ⟨_, rfl, rfl⟩) (fun cdv A outer s H E hr => bd_Table_init G f cdv A outer s H E hr)
theorem sc_law_turned : FnScope ["setting", "draw", "kind", "numbers", "columns", "shift", "cut"] ["setting", "draw"] (defScope s_law_turned) := ⟨rfl, rfl, rfl, by decide +kernel, rfl, by decide +kernel, by decide +kernel⟩
def b_law_turned : Sm :=
    (seqS (setS 2 (keep0 (ixP (varP 0) (cst (.int 0)))))
    (seqS (setS 3 (keep0 (ixP (varP 0) (cst (.int 1)))))
    (seqS (setS 4 (keep0 (ixP (varP 0) (cst (.int 2)))))
    (seqS (setS 5 (keep0 (bin modD (callP (c1 intD) (aCons (varP 1) aNil)) (callP (c1 lenD) (aCons (varP 3) aNil)))))
    (seqS (iteS (cmp eqC (varP 2) (cst (.str "crowd"))) (seqS (setS 6 (keep0 (bin modD (callP (c1 intD) (aCons (bin divD (varP 1) (cst (.int 13))) aNil)) (cst (.int 3)))))
    (seqS (setS 3 (keep0 (bin addD (cutP (varP 3) (ofO (varP 5)) noO) (cutP (varP 3) noO (ofO (varP 5))))))
    (seqS (setS 4 (keep0 (bin addD (cutP (varP 4) (ofO (varP 6)) noO) (cutP (varP 4) noO (ofO (varP 6))))))
    (seqS (iteS (cmp eqC (bin modD (callP (c1 intD) (aCons (bin divD (varP 1) (cst (.int 39))) aNil)) (cst (.int 2))) (cst (.int 0))) (setS 4 (keep0 (fun ρ => ((revN (varP 4)) ρ).map fun ds => (0, .lst ds)))) skS)
    (retS 0 (keep0 (fun ρ => ((small (kept (aCons (varP 2) (aCons (varP 3) (aCons (varP 4) aNil))))) ρ).map fun ds => (0, .lst ds)))))))) skS)
    (seqS (setS 3 (keep0 (bin addD (cutP (varP 3) (ofO (varP 5)) noO) (cutP (varP 3) noO (ofO (varP 5))))))
    (seqS (setS 4 (keep0 (bin addD (cutP (varP 4) (ofO (varP 5)) noO) (cutP (varP 4) noO (ofO (varP 5))))))
    (seqS (iteS (cmp eqC (bin modD (callP (c1 intD) (aCons (bin divD (varP 1) (cst (.int 13))) aNil)) (cst (.int 2))) (cst (.int 0))) (seqS (setS 3 (keep0 (fun ρ => ((revN (varP 3)) ρ).map fun ds => (0, .lst ds))))
    (setS 4 (keep0 (bin addD (cutP (varP 4) noO (ofO (cst (.int 1)))) (fun ρ => ((revN (cutP (varP 4) (ofO (cst (.int 1))) noO)) ρ).map fun ds => (0, .lst ds)))))) skS)
    (retS 0 (keep0 (fun ρ => ((small (kept (aCons (varP 2) (aCons (varP 3) (aCons (varP 4) aNil))))) ρ).map fun ds => (0, .lst ds))))))))))))
def F_law_turned : Ar → Option D := runB 2 7 b_law_turned
theorem bd_law_turned (G : Gd P w K mg base k) (f : Addr) (cdv : Value) (A : Around) (outer : List Env) (s : Shared) (H : Hp) (E : XK) (hr : Room 0 (A.deeper (envOfC "_law_turned" (defScope s_law_turned) s.heap.objs.size f cdv))) :
    PSs (cxOf CX0 P w K mg base ["setting", "draw", "kind", "numbers", "columns", "shift", "cut"] "_law_turned" (defScope s_law_turned) f cdv A outer s H E).nox (defBody s_law_turned) (tS k false 0 b_law_turned) := by
    have hk : k.K = K := G.kK
    exact (is_cons (is_set (i := 2) (ps_set (i := 2) sc_law_turned.nd rfl (by first | exact .inl rfl | exact .inr rfl) (ig0 (ip_ix (ip_var (pe_var (i := 0) rfl (by first | exact .inl rfl | exact .inr (.inl rfl) | exact .inr (.inr rfl)))) ip_int (by intro _ _; rfl) hk))))
    (is_cons (is_set (i := 3) (ps_set (i := 3) sc_law_turned.nd rfl (by first | exact .inl rfl | exact .inr rfl) (ig0 (ip_ix (ip_var (pe_var (i := 0) rfl (by first | exact .inl rfl | exact .inr (.inl rfl) | exact .inr (.inr rfl)))) ip_int (by intro _ _; rfl) hk))))
    (is_cons (is_set (i := 4) (ps_set (i := 4) sc_law_turned.nd rfl (by first | exact .inl rfl | exact .inr rfl) (ig0 (ip_ix (ip_var (pe_var (i := 0) rfl (by first | exact .inl rfl | exact .inr (.inl rfl) | exact .inr (.inr rfl)))) ip_int (by intro _ _; rfl) hk))))
    (is_cons (is_set (i := 5) (ps_set (i := 5) sc_law_turned.nd rfl (by first | exact .inl rfl | exact .inr rfl) (ig0 (ip_mod (ip_bi (bi_int hk rfl) rfl G.n_int (ia_cons (ip_var (pe_var (i := 1) rfl (by first | exact .inl rfl | exact .inr (.inl rfl) | exact .inr (.inr rfl)))) ia_nil)) (ip_bi (bi_len hk rfl) rfl G.n_len (ia_cons (ip_var (pe_var (i := 3) rfl (by first | exact .inl rfl | exact .inr (.inl rfl) | exact .inr (.inr rfl)))) ia_nil))))))
    (is_cons (is_if (it_c2 (oc_eq hk hr.units) (ip_var (pe_var (i := 2) rfl (by first | exact .inl rfl | exact .inr (.inl rfl) | exact .inr (.inr rfl)))) ip_str) (is_cons (is_set (i := 6) (ps_set (i := 6) sc_law_turned.nd rfl (by first | exact .inl rfl | exact .inr rfl) (ig0 (ip_mod (ip_bi (bi_int hk rfl) rfl G.n_int (ia_cons (ip_div (ip_var (pe_var (i := 1) rfl (by first | exact .inl rfl | exact .inr (.inl rfl) | exact .inr (.inr rfl)))) ip_int) ia_nil)) ip_int))))
    (is_cons (is_set (i := 3) (ps_set (i := 3) sc_law_turned.nd rfl (by first | exact .inl rfl | exact .inr rfl) (ig0 (ip_add hk (ip_cut (ip_var (pe_var (i := 3) rfl (by first | exact .inl rfl | exact .inr (.inl rfl) | exact .inr (.inr rfl)))) (io_some (ip_var (pe_var (i := 5) rfl (by first | exact .inl rfl | exact .inr (.inl rfl) | exact .inr (.inr rfl))))) io_none hk) (ip_cut (ip_var (pe_var (i := 3) rfl (by first | exact .inl rfl | exact .inr (.inl rfl) | exact .inr (.inr rfl)))) io_none (io_some (ip_var (pe_var (i := 5) rfl (by first | exact .inl rfl | exact .inr (.inl rfl) | exact .inr (.inr rfl))))) hk)))))
    (is_cons (is_set (i := 4) (ps_set (i := 4) sc_law_turned.nd rfl (by first | exact .inl rfl | exact .inr rfl) (ig0 (ip_add hk (ip_cut (ip_var (pe_var (i := 4) rfl (by first | exact .inl rfl | exact .inr (.inl rfl) | exact .inr (.inr rfl)))) (io_some (ip_var (pe_var (i := 6) rfl (by first | exact .inl rfl | exact .inr (.inl rfl) | exact .inr (.inr rfl))))) io_none hk) (ip_cut (ip_var (pe_var (i := 4) rfl (by first | exact .inl rfl | exact .inr (.inl rfl) | exact .inr (.inr rfl)))) io_none (io_some (ip_var (pe_var (i := 6) rfl (by first | exact .inl rfl | exact .inr (.inl rfl) | exact .inr (.inr rfl))))) hk)))))
    (is_cons (is_if (it_c2 (oc_eq hk hr.units) (ip_mod (ip_bi (bi_int hk rfl) rfl G.n_int (ia_cons (ip_div (ip_var (pe_var (i := 1) rfl (by first | exact .inl rfl | exact .inr (.inl rfl) | exact .inr (.inr rfl)))) ip_int) ia_nil)) ip_int) ip_int) (is_one (is_set (i := 4) (ps_set (i := 4) sc_law_turned.nd rfl (by first | exact .inl rfl | exact .inr rfl) (ig0 (ip_new (in_rev (ip_var (pe_var (i := 4) rfl (by first | exact .inl rfl | exact .inr (.inl rfl) | exact .inr (.inr rfl)))))))))) is_nil)
    (is_one (is_ret (ig0 (ip_new (in_lst (ia_cons (ip_var (pe_var (i := 2) rfl (by first | exact .inl rfl | exact .inr (.inl rfl) | exact .inr (.inr rfl)))) (ia_cons (ip_var (pe_var (i := 3) rfl (by first | exact .inl rfl | exact .inr (.inl rfl) | exact .inr (.inr rfl)))) (ia_cons (ip_var (pe_var (i := 4) rfl (by first | exact .inl rfl | exact .inr (.inl rfl) | exact .inr (.inr rfl)))) ia_nil)))))))))))) is_nil)
    (is_cons (is_set (i := 3) (ps_set (i := 3) sc_law_turned.nd rfl (by first | exact .inl rfl | exact .inr rfl) (ig0 (ip_add hk (ip_cut (ip_var (pe_var (i := 3) rfl (by first | exact .inl rfl | exact .inr (.inl rfl) | exact .inr (.inr rfl)))) (io_some (ip_var (pe_var (i := 5) rfl (by first | exact .inl rfl | exact .inr (.inl rfl) | exact .inr (.inr rfl))))) io_none hk) (ip_cut (ip_var (pe_var (i := 3) rfl (by first | exact .inl rfl | exact .inr (.inl rfl) | exact .inr (.inr rfl)))) io_none (io_some (ip_var (pe_var (i := 5) rfl (by first | exact .inl rfl | exact .inr (.inl rfl) | exact .inr (.inr rfl))))) hk)))))
    (is_cons (is_set (i := 4) (ps_set (i := 4) sc_law_turned.nd rfl (by first | exact .inl rfl | exact .inr rfl) (ig0 (ip_add hk (ip_cut (ip_var (pe_var (i := 4) rfl (by first | exact .inl rfl | exact .inr (.inl rfl) | exact .inr (.inr rfl)))) (io_some (ip_var (pe_var (i := 5) rfl (by first | exact .inl rfl | exact .inr (.inl rfl) | exact .inr (.inr rfl))))) io_none hk) (ip_cut (ip_var (pe_var (i := 4) rfl (by first | exact .inl rfl | exact .inr (.inl rfl) | exact .inr (.inr rfl)))) io_none (io_some (ip_var (pe_var (i := 5) rfl (by first | exact .inl rfl | exact .inr (.inl rfl) | exact .inr (.inr rfl))))) hk)))))
    (is_cons (is_if (it_c2 (oc_eq hk hr.units) (ip_mod (ip_bi (bi_int hk rfl) rfl G.n_int (ia_cons (ip_div (ip_var (pe_var (i := 1) rfl (by first | exact .inl rfl | exact .inr (.inl rfl) | exact .inr (.inr rfl)))) ip_int) ia_nil)) ip_int) ip_int) (is_cons (is_set (i := 3) (ps_set (i := 3) sc_law_turned.nd rfl (by first | exact .inl rfl | exact .inr rfl) (ig0 (ip_new (in_rev (ip_var (pe_var (i := 3) rfl (by first | exact .inl rfl | exact .inr (.inl rfl) | exact .inr (.inr rfl)))))))))
    (is_one (is_set (i := 4) (ps_set (i := 4) sc_law_turned.nd rfl (by first | exact .inl rfl | exact .inr rfl) (ig0 (ip_add hk (ip_cut (ip_var (pe_var (i := 4) rfl (by first | exact .inl rfl | exact .inr (.inl rfl) | exact .inr (.inr rfl)))) io_none (io_some ip_int) hk) (ip_new (in_rev (ip_cut (ip_var (pe_var (i := 4) rfl (by first | exact .inl rfl | exact .inr (.inl rfl) | exact .inr (.inr rfl)))) (io_some ip_int) io_none hk))))))))) is_nil)
    (is_one (is_ret (ig0 (ip_new (in_lst (ia_cons (ip_var (pe_var (i := 2) rfl (by first | exact .inl rfl | exact .inr (.inl rfl) | exact .inr (.inr rfl)))) (ia_cons (ip_var (pe_var (i := 3) rfl (by first | exact .inl rfl | exact .inr (.inl rfl) | exact .inr (.inr rfl)))) (ia_cons (ip_var (pe_var (i := 4) rfl (by first | exact .inl rfl | exact .inr (.inl rfl) | exact .inr (.inr rfl)))) ia_nil))))))))))))))))
theorem ok_law_turned (G : Gd P w K mg base k) : OkF P w K mg base k 1 "_law_turned" 2 0 F_law_turned := by
  obtain ⟨f, fd, F, hm⟩ := G.d_law_turned
  exact ok_fn (lv := 0) F sc_law_turned hm (F.bindsN fun _ _ _ _ _ _ us hl => match us, hl with | [_, _], _ => rfl) (fun cdv A outer s H E hr => bd_law_turned G f cdv A outer s H E hr)
theorem sc_Bar_init : FnScope ["self", "kind", "rows", "columns"] ["self", "kind", "rows", "columns"] (defScope s_Bar_init) := ⟨rfl, rfl, rfl, by decide +kernel, rfl, by decide +kernel, by decide +kernel⟩
def b_Bar_init : Sm :=
    (seqS (fldS 0 ["Bar"] "kind" (keep0 (varP 1)))
    (seqS (fldS 0 ["Bar"] "rows" (keep0 (callP (tupD) (aCons (varP 2) aNil))))
    (fldS 0 ["Bar"] "columns" (keep0 (callP (tupD) (aCons (varP 3) aNil))))))
def F_Bar_init : Ar → Option D := runI "Bar" 3 4 b_Bar_init
theorem bd_Bar_init (G : Gd P w K mg base k) (f : Addr) (cdv : Value) (A : Around) (outer : List Env) (s : Shared) (H : Hp) (E : XK) (hr : Room 0 (A.deeper (envOfC "Bar.__init__" (defScope s_Bar_init) s.heap.objs.size f cdv))) :
    PSs (cxOf CX0 P w K mg base ["self", "kind", "rows", "columns"] "Bar.__init__" (defScope s_Bar_init) f cdv A outer s H E).nox (defBody s_Bar_init) (tS k true 0 b_Bar_init) := by
    have hk : k.K = K := G.kK
    exact (is_cons (is_fld (i := 0) (pe_var (i := 0) rfl (by first | exact .inl rfl | exact .inr (.inl rfl) | exact .inr (.inr rfl))) (ig0 (ip_var (pe_var (i := 1) rfl (by first | exact .inl rfl | exact .inr (.inl rfl) | exact .inr (.inr rfl))))) hk (by simp only [List.mem_cons, List.not_mem_nil, or_false, forall_eq]; exact G.a_Bar_kind))
    (is_cons (is_fld (i := 0) (pe_var (i := 0) rfl (by first | exact .inl rfl | exact .inr (.inl rfl) | exact .inr (.inr rfl))) (ig0 (ip_bi (bi_tuple hk rfl) rfl G.n_tuple (ia_cons (ip_var (pe_var (i := 2) rfl (by first | exact .inl rfl | exact .inr (.inl rfl) | exact .inr (.inr rfl)))) ia_nil))) hk (by simp only [List.mem_cons, List.not_mem_nil, or_false, forall_eq]; exact G.a_Bar_rows))
    (is_one (is_fld (i := 0) (pe_var (i := 0) rfl (by first | exact .inl rfl | exact .inr (.inl rfl) | exact .inr (.inr rfl))) (ig0 (ip_bi (bi_tuple hk rfl) rfl G.n_tuple (ia_cons (ip_var (pe_var (i := 3) rfl (by first | exact .inl rfl | exact .inr (.inl rfl) | exact .inr (.inr rfl)))) ia_nil))) hk (by simp only [List.mem_cons, List.not_mem_nil, or_false, forall_eq]; exact G.a_Bar_columns)))))
theorem ok_Bar_init (G : Gd P w K mg base k) : OkI P w K mg base k 1 "Bar" 3 F_Bar_init := by
  obtain ⟨f, fd, F, hc, M⟩ := G.d_Bar_init
  exact ok_init (lv := 0) F sc_Bar_init rfl G.c_Bar M (F.bindsN fun _ _ _ _ _ _ us hl => match us, hl with | [_, _, _, _], _ => rfl) (fun cdv A outer s H E hr => bd_Bar_init G f cdv A outer s H E hr)
theorem sc_law_is_number : FnScope ["value", "least", "most"] ["value", "least", "most"] (defScope s_law_is_number) := ⟨rfl, rfl, rfl, by decide +kernel, rfl, by decide +kernel, by decide +kernel⟩
def b_law_is_number : Sm :=
    (retS 0 (keep0 (andP (una (isiD "int") (varP 0)) (andP (una notD (una (isiD "bool") (varP 0))) (andP (blP (cmp leC (varP 1) (varP 0))) (blP (cmp leC (varP 0) (varP 2))))))))
def F_law_is_number : Ar → Option D := runB 3 3 b_law_is_number
theorem bd_law_is_number (G : Gd P w K mg base k) (f : Addr) (cdv : Value) (A : Around) (outer : List Env) (s : Shared) (H : Hp) (E : XK) (hr : Room 0 (A.deeper (envOfC "_law_is_number" (defScope s_law_is_number) s.heap.objs.size f cdv))) :
    PSs (cxOf CX0 P w K mg base ["value", "least", "most"] "_law_is_number" (defScope s_law_is_number) f cdv A outer s H E).nox (defBody s_law_is_number) (tS k false 0 b_law_is_number) := by
    have hk : k.K = K := G.kK
    exact (is_one (is_ret (ig0 (ip_and (ip_isi (T := "int") hk (by decide +kernel) rfl G.n_isinstance rfl G.n_int PyProof.Rows.boot_int (ip_var (pe_var (i := 0) rfl (by first | exact .inl rfl | exact .inr (.inl rfl) | exact .inr (.inr rfl))))) (ip_and (ip_not (ip_isi (T := "bool") hk (by decide +kernel) rfl G.n_isinstance rfl G.n_bool PyProof.Rows.boot_bool (ip_var (pe_var (i := 0) rfl (by first | exact .inl rfl | exact .inr (.inl rfl) | exact .inr (.inr rfl)))))) (ip_and (ip_c2 (oc_le hk hr.units) (ip_var (pe_var (i := 1) rfl (by first | exact .inl rfl | exact .inr (.inl rfl) | exact .inr (.inr rfl)))) (ip_var (pe_var (i := 0) rfl (by first | exact .inl rfl | exact .inr (.inl rfl) | exact .inr (.inr rfl))))) (ip_one (ip_c2 (oc_le hk hr.units) (ip_var (pe_var (i := 0) rfl (by first | exact .inl rfl | exact .inr (.inl rfl) | exact .inr (.inr rfl)))) (ip_var (pe_var (i := 2) rfl (by first | exact .inl rfl | exact .inr (.inl rfl) | exact .inr (.inr rfl))))))))))))
theorem ok_law_is_number (G : Gd P w K mg base k) : OkF P w K mg base k 1 "_law_is_number" 3 0 F_law_is_number := by
  obtain ⟨f, fd, F, hm⟩ := G.d_law_is_number
  exact ok_fn (lv := 0) F sc_law_is_number hm (F.bindsN fun _ _ _ _ _ _ us hl => match us, hl with | [_, _, _], _ => rfl) (fun cdv A outer s H E hr => bd_law_is_number G f cdv A outer s H E hr)
theorem sc_Bar_eq : FnScope ["self", "other"] ["self", "other"] (defScope s_Bar_eq) := ⟨rfl, rfl, rfl, by decide +kernel, rfl, by decide +kernel, by decide +kernel⟩
def b_Bar_eq : Sm :=
    (seqS (iteS (notT (asB (una (isoD "Bar") (varP 1)))) (retS 0 (keep0 (cst (.bl false)))) skS)
    (retS 0 (keep0 (andP (blP (cmp eqC (fldP ["Bar"] "kind" (varP 0)) (fldP ["Bar"] "kind" (varP 1)))) (andP (blP (cmp eqC (fldP ["Table", "Bar"] "rows" (varP 0)) (fldP ["Table", "Bar"] "rows" (varP 1)))) (blP (cmp eqC (fldP ["Table", "Bar"] "columns" (varP 0)) (fldP ["Table", "Bar"] "columns" (varP 1)))))))))
def F_Bar_eq : Ar → Option D := runB 2 2 b_Bar_eq
theorem bd_Bar_eq (G : Gd P w K mg base k) (f : Addr) (cdv : Value) (A : Around) (outer : List Env) (s : Shared) (H : Hp) (E : XK) (hr : Room 0 (A.deeper (envOfC "Bar.__eq__" (defScope s_Bar_eq) s.heap.objs.size f cdv))) :
    PSs (cxOf CX0 P w K mg base ["self", "other"] "Bar.__eq__" (defScope s_Bar_eq) f cdv A outer s H E).nox (defBody s_Bar_eq) (tS k false 0 b_Bar_eq) := by
    have hk : k.K = K := G.kK
    exact (is_cons (is_if (it_not (it_b (ip_iso hk G.i_Bar rfl G.n_isinstance rfl G.c_Bar (ip_var (pe_var (i := 1) rfl (by first | exact .inl rfl | exact .inr (.inl rfl) | exact .inr (.inr rfl))))))) (is_one (is_ret (ig0 ip_bl))) is_nil)
    (is_one (is_ret (ig0 (ip_and (ip_c2 (oc_eq hk hr.units) (ip_fld (ip_var (pe_var (i := 0) rfl (by first | exact .inl rfl | exact .inr (.inl rfl) | exact .inr (.inr rfl)))) rfl hk (by simp only [List.mem_cons, List.not_mem_nil, or_false, forall_eq_or_imp, forall_eq]; exact G.a_Bar_kind)) (ip_fld (ip_var (pe_var (i := 1) rfl (by first | exact .inl rfl | exact .inr (.inl rfl) | exact .inr (.inr rfl)))) rfl hk (by simp only [List.mem_cons, List.not_mem_nil, or_false, forall_eq_or_imp, forall_eq]; exact G.a_Bar_kind))) (ip_and (ip_c2 (oc_eq hk hr.units) (ip_fld (ip_var (pe_var (i := 0) rfl (by first | exact .inl rfl | exact .inr (.inl rfl) | exact .inr (.inr rfl)))) rfl hk (by simp only [List.mem_cons, List.not_mem_nil, or_false, forall_eq_or_imp, forall_eq]; exact ⟨G.a_Table_rows, G.a_Bar_rows⟩)) (ip_fld (ip_var (pe_var (i := 1) rfl (by first | exact .inl rfl | exact .inr (.inl rfl) | exact .inr (.inr rfl)))) rfl hk (by simp only [List.mem_cons, List.not_mem_nil, or_false, forall_eq_or_imp, forall_eq]; exact ⟨G.a_Table_rows, G.a_Bar_rows⟩))) (ip_one (ip_c2 (oc_eq hk hr.units) (ip_fld (ip_var (pe_var (i := 0) rfl (by first | exact .inl rfl | exact .inr (.inl rfl) | exact .inr (.inr rfl)))) rfl hk (by simp only [List.mem_cons, List.not_mem_nil, or_false, forall_eq_or_imp, forall_eq]; exact ⟨G.a_Table_columns, G.a_Bar_columns⟩)) (ip_fld (ip_var (pe_var (i := 1) rfl (by first | exact .inl rfl | exact .inr (.inl rfl) | exact .inr (.inr rfl)))) rfl hk (by simp only [List.mem_cons, List.not_mem_nil, or_false, forall_eq_or_imp, forall_eq]; exact ⟨G.a_Table_columns, G.a_Bar_columns⟩))))))))))
theorem ok_Bar_eq (G : Gd P w K mg base k) : OkM P w K mg base k 1 "Bar" "__eq__" 2 0 F_Bar_eq := by
  obtain ⟨f, fd, F, hc, M⟩ := G.d_Bar_eq
  exact ok_meth (lv := 0) F sc_Bar_eq hc M (F.bindsN fun _ _ _ _ _ _ us hl => match us, hl with | [_, _], _ => rfl) (fun cdv A outer s H E hr => bd_Bar_eq G f cdv A outer s H E hr)
theorem sc_law_kept : FnScope ["kind", "numbers", "columns", "given", "passed", "found", "k"] ["kind", "numbers", "columns"] (defScope s_law_kept) := ⟨rfl, rfl, rfl, by decide +kernel, rfl, by decide +kernel, by decide +kernel⟩
def b_law_kept : Sm :=
    (seqS (setO 3 1 (fun ρ => ((callN lstD (aCons (varP 1) aNil)) ρ).map fun ds => .lst ds))
    (seqS (setO 4 1 (fun ρ => ((callN lstD (aCons (varP 2) aNil)) ρ).map fun ds => .lst ds))
    (seqS (setS 5 (callG F_Bar_init (aCons (varP 0) (aCons (varP 3) (aCons (varP 4) aNil)))))
    (seqS (iteS (orT (cmp neC (varP 3) (varP 1)) (cmp neC (varP 4) (varP 2))) (retS 0 (keep0 (cst (.bl false)))) skS)
    (seqS (appS 3 0 (keep0 (cst (.int 99))))
    (seqS (appS 4 0 (keep0 (cst (.str "zzzzzzzz"))))
    (seqS (iteS (orT (notT (asB (una (isiD "tuple") (fldP ["Table", "Bar"] "rows" (varP 5))))) (orT (notT (asB (una (isiD "tuple") (fldP ["Table", "Bar"] "columns" (varP 5))))) (notT (asB (una (isiD "str") (fldP ["Bar"] "kind" (varP 5))))))) (retS 0 (keep0 (cst (.bl false)))) skS)
    (seqS (iteS (orT (cmp neC (fldP ["Bar"] "kind" (varP 5)) (varP 0)) (orT (cmp neC (fun ρ => ((callN lstD (aCons (fldP ["Table", "Bar"] "rows" (varP 5)) aNil)) ρ).map fun ds => (0, .lst ds)) (varP 1)) (cmp neC (fun ρ => ((callN lstD (aCons (fldP ["Table", "Bar"] "columns" (varP 5)) aNil)) ρ).map fun ds => (0, .lst ds)) (varP 2)))) (retS 0 (keep0 (cst (.bl false)))) skS)
    (seqS (iteS (cmp gtC (callP (c1 lenD) (aCons (frP (lcG [6] (anyI (fldP ["Table", "Bar"] "rows" (varP 5))) (bN 6) (notT (asB (frP (callG F_law_is_number (aCons (varP 6) (aCons (una negD (cst (.int 999))) (aCons (cst (.int 999)) aNil))))))) (keep0 (varP 6)))) aNil)) (cst (.int 0))) (retS 0 (keep0 (cst (.bl false)))) skS)
    (seqS (iteS (notT (cmp (ownD "Bar" F_Bar_eq) (varP 5) (frP (callG F_Bar_init (aCons (varP 0) (aCons (callP (tupD) (aCons (varP 1) aNil)) (aCons (callP (tupD) (aCons (varP 2) aNil)) aNil))))))) (retS 0 (keep0 (cst (.bl false)))) skS)
    (seqS (iteS (orT (cmp (ownD "Bar" F_Bar_eq) (varP 5) (frP (callG F_Bar_init (aCons (bin addD (varP 0) (cst (.str "s"))) (aCons (fun ρ => ((callN lstD (aCons (varP 1) aNil)) ρ).map fun ds => (0, .lst ds)) (aCons (fun ρ => ((callN lstD (aCons (varP 2) aNil)) ρ).map fun ds => (0, .lst ds)) aNil)))))) (cmp (ownD "Bar" F_Bar_eq) (varP 5) (frP (callG F_Bar_init (aCons (varP 0) (aCons (bin addD (varP 1) (fun ρ => ((small (kept (aCons (cst (.int 1)) aNil))) ρ).map fun ds => (0, .lst ds))) (aCons (fun ρ => ((callN lstD (aCons (varP 2) aNil)) ρ).map fun ds => (0, .lst ds)) aNil))))))) (retS 0 (keep0 (cst (.bl false)))) skS)
    (retS 0 (keep0 (andP (una notD (blP (cmp (ownD "Bar" F_Bar_eq) (varP 5) (frP (callG F_Bar_init (aCons (varP 0) (aCons (fun ρ => ((callN lstD (aCons (varP 1) aNil)) ρ).map fun ds => (0, .lst ds)) (aCons (bin addD (varP 2) (fun ρ => ((small (kept (aCons (cst (.str "zz")) aNil))) ρ).map fun ds => (0, .lst ds))) aNil)))))))) (una notD (blP (cmp (ownD "Bar" F_Bar_eq) (frP (callG F_Bar_init (aCons (varP 0) (aCons (bin addD (fun ρ => ((revN (varP 1)) ρ).map fun ds => (0, .lst ds)) (fun ρ => ((small (kept (aCons (cst (.int 7)) aNil))) ρ).map fun ds => (0, .lst ds))) (aCons (fun ρ => ((callN lstD (aCons (varP 2) aNil)) ρ).map fun ds => (0, .lst ds)) aNil))))) (varP 5))))))))))))))))))
def F_law_kept : Ar → Option D := runB 3 7 b_law_kept
theorem bd_law_kept (G : Gd P w K mg base k) (f : Addr) (cdv : Value) (A : Around) (outer : List Env) (s : Shared) (H : Hp) (E : XK) (hr : Room 2 (A.deeper (envOfC "_law_kept" (defScope s_law_kept) s.heap.objs.size f cdv))) :
    PSs (cxOf CX0 P w K mg base ["kind", "numbers", "columns", "given", "passed", "found", "k"] "_law_kept" (defScope s_law_kept) f cdv A outer s H E).nox (defBody s_law_kept) (tS k false 0 b_law_kept) := by
    have hk : k.K = K := G.kK
    have ok_Bar_init := ok_Bar_init (base := base) (P := P) (w := w) G
    have ok_law_is_number := ok_law_is_number (base := base) (P := P) (w := w) G
    have ok_Bar_eq := ok_Bar_eq (base := base) (P := P) (w := w) G
    exact (is_cons (is_setO (i := 3) (ps_set (i := 3) sc_law_kept.nd rfl (by first | exact .inl rfl | exact .inr rfl) (ig_new (in_bn (bn_list hk rfl) rfl G.n_list (ia_cons (ip_var (pe_var (i := 1) rfl (by first | exact .inl rfl | exact .inr (.inl rfl) | exact .inr (.inr rfl)))) ia_nil)))))
    (is_cons (is_setO (i := 4) (ps_set (i := 4) sc_law_kept.nd rfl (by first | exact .inl rfl | exact .inr rfl) (ig_new (in_bn (bn_list hk rfl) rfl G.n_list (ia_cons (ip_var (pe_var (i := 2) rfl (by first | exact .inl rfl | exact .inr (.inl rfl) | exact .inr (.inr rfl)))) ia_nil)))))
    (is_cons (is_set (i := 5) (ps_set (i := 5) sc_law_kept.nd rfl (by first | exact .inl rfl | exact .inr rfl) (ig_sub (ig_make ok_Bar_init (hr.mono (by decide)) rfl (ia_cons (ip_var (pe_var (i := 0) rfl (by first | exact .inl rfl | exact .inr (.inl rfl) | exact .inr (.inr rfl)))) (ia_cons (ip_var (pe_var (i := 3) rfl (by first | exact .inl rfl | exact .inr (.inl rfl) | exact .inr (.inr rfl)))) (ia_cons (ip_var (pe_var (i := 4) rfl (by first | exact .inl rfl | exact .inr (.inl rfl) | exact .inr (.inr rfl)))) ia_nil)))))))
    (is_cons (is_if (PW.pt (iw_or (it_c2 (oc_ne hk hr.units) (ip_var (pe_var (i := 3) rfl (by first | exact .inl rfl | exact .inr (.inl rfl) | exact .inr (.inr rfl)))) (ip_var (pe_var (i := 1) rfl (by first | exact .inl rfl | exact .inr (.inl rfl) | exact .inr (.inr rfl))))) (iw_or1 (it_c2 (oc_ne hk hr.units) (ip_var (pe_var (i := 4) rfl (by first | exact .inl rfl | exact .inr (.inl rfl) | exact .inr (.inr rfl)))) (ip_var (pe_var (i := 2) rfl (by first | exact .inl rfl | exact .inr (.inl rfl) | exact .inr (.inr rfl)))))))) (is_one (is_ret (ig0 ip_bl))) is_nil)
    (is_cons (is_appV hk (pe_var (i := 3) rfl (by first | exact .inl rfl | exact .inr (.inl rfl) | exact .inr (.inr rfl))) (ig0 ip_int))
    (is_cons (is_appV hk (pe_var (i := 4) rfl (by first | exact .inl rfl | exact .inr (.inl rfl) | exact .inr (.inr rfl))) (ig0 ip_str))
    (is_cons (is_if (PW.pt (iw_or (it_not (it_b (ip_isi (T := "tuple") hk (by decide +kernel) rfl G.n_isinstance rfl G.n_tuple PyProof.Rows.boot_tuple (ip_fld (ip_var (pe_var (i := 5) rfl (by first | exact .inl rfl | exact .inr (.inl rfl) | exact .inr (.inr rfl)))) rfl hk (by simp only [List.mem_cons, List.not_mem_nil, or_false, forall_eq_or_imp, forall_eq]; exact ⟨G.a_Table_rows, G.a_Bar_rows⟩))))) (iw_or (it_not (it_b (ip_isi (T := "tuple") hk (by decide +kernel) rfl G.n_isinstance rfl G.n_tuple PyProof.Rows.boot_tuple (ip_fld (ip_var (pe_var (i := 5) rfl (by first | exact .inl rfl | exact .inr (.inl rfl) | exact .inr (.inr rfl)))) rfl hk (by simp only [List.mem_cons, List.not_mem_nil, or_false, forall_eq_or_imp, forall_eq]; exact ⟨G.a_Table_columns, G.a_Bar_columns⟩))))) (iw_or1 (it_not (it_b (ip_isi (T := "str") hk (by decide +kernel) rfl G.n_isinstance rfl G.n_str PyProof.Rows.boot_str (ip_fld (ip_var (pe_var (i := 5) rfl (by first | exact .inl rfl | exact .inr (.inl rfl) | exact .inr (.inr rfl)))) rfl hk (by simp only [List.mem_cons, List.not_mem_nil, or_false, forall_eq_or_imp, forall_eq]; exact G.a_Bar_kind))))))))) (is_one (is_ret (ig0 ip_bl))) is_nil)
    (is_cons (is_if (PW.pt (iw_or (it_c2 (oc_ne hk hr.units) (ip_fld (ip_var (pe_var (i := 5) rfl (by first | exact .inl rfl | exact .inr (.inl rfl) | exact .inr (.inr rfl)))) rfl hk (by simp only [List.mem_cons, List.not_mem_nil, or_false, forall_eq_or_imp, forall_eq]; exact G.a_Bar_kind)) (ip_var (pe_var (i := 0) rfl (by first | exact .inl rfl | exact .inr (.inl rfl) | exact .inr (.inr rfl))))) (iw_or (it_c2 (oc_ne hk hr.units) (ip_new (in_bn (bn_list hk rfl) rfl G.n_list (ia_cons (ip_fld (ip_var (pe_var (i := 5) rfl (by first | exact .inl rfl | exact .inr (.inl rfl) | exact .inr (.inr rfl)))) rfl hk (by simp only [List.mem_cons, List.not_mem_nil, or_false, forall_eq_or_imp, forall_eq]; exact ⟨G.a_Table_rows, G.a_Bar_rows⟩)) ia_nil))) (ip_var (pe_var (i := 1) rfl (by first | exact .inl rfl | exact .inr (.inl rfl) | exact .inr (.inr rfl))))) (iw_or1 (it_c2 (oc_ne hk hr.units) (ip_new (in_bn (bn_list hk rfl) rfl G.n_list (ia_cons (ip_fld (ip_var (pe_var (i := 5) rfl (by first | exact .inl rfl | exact .inr (.inl rfl) | exact .inr (.inr rfl)))) rfl hk (by simp only [List.mem_cons, List.not_mem_nil, or_false, forall_eq_or_imp, forall_eq]; exact ⟨G.a_Table_columns, G.a_Bar_columns⟩)) ia_nil))) (ip_var (pe_var (i := 2) rfl (by first | exact .inl rfl | exact .inr (.inl rfl) | exact .inr (.inr rfl))))))))) (is_one (is_ret (ig0 ip_bl))) is_nil)
    (is_cons (is_if (it_c2 (oc_gt hk hr.units) (ip_bi (bi_len hk rfl) rfl G.n_len (ia_cons (ip_of (ig_lc (own := [("k", 6)]) rfl sc_law_kept.nd (ii_any hk (ip_fld (ip_var (pe_var (i := 5) rfl (by first | exact .inl rfl | exact .inr (.inl rfl) | exact .inr (.inr rfl)))) rfl hk (by simp only [List.mem_cons, List.not_mem_nil, or_false, forall_eq_or_imp, forall_eq]; exact ⟨G.a_Table_rows, G.a_Bar_rows⟩))) (blk_of (N := ["kind", "numbers", "columns", "given", "passed", "found", "k"]) (by kernel_rfl)) (fun _ _ _ _ _ => (it_name (pg_name (i := 6) sc_law_kept.nd rfl (by first | exact .inl rfl | exact .inr rfl)))) (fun _ _ _ _ _ => (its_one (it_not (it_b (ip_of (ig_call ok_law_is_number (hr.mono (by decide)) rfl (ia_cons (ip_var (pe_var (i := 6) rfl (by first | exact .inl rfl | exact .inr (.inl rfl) | exact .inr (.inr rfl)))) (ia_cons (ip_neg ip_int) (ia_cons ip_int ia_nil))))))))) (fun _ _ _ _ _ => (ig0 (ip_var (pe_var (i := 6) rfl (by first | exact .inl rfl | exact .inr (.inl rfl) | exact .inr (.inr rfl)))))) (by decide))) ia_nil)) ip_int) (is_one (is_ret (ig0 ip_bl))) is_nil)
    (is_cons (is_if (it_not (it_own ok_Bar_eq (hr.mono (by decide)) (ip_var (pe_var (i := 5) rfl (by first | exact .inl rfl | exact .inr (.inl rfl) | exact .inr (.inr rfl)))) (ip_of (ig_make ok_Bar_init (hr.mono (by decide)) rfl (ia_cons (ip_var (pe_var (i := 0) rfl (by first | exact .inl rfl | exact .inr (.inl rfl) | exact .inr (.inr rfl)))) (ia_cons (ip_bi (bi_tuple hk rfl) rfl G.n_tuple (ia_cons (ip_var (pe_var (i := 1) rfl (by first | exact .inl rfl | exact .inr (.inl rfl) | exact .inr (.inr rfl)))) ia_nil)) (ia_cons (ip_bi (bi_tuple hk rfl) rfl G.n_tuple (ia_cons (ip_var (pe_var (i := 2) rfl (by first | exact .inl rfl | exact .inr (.inl rfl) | exact .inr (.inr rfl)))) ia_nil)) ia_nil))))))) (is_one (is_ret (ig0 ip_bl))) is_nil)
    (is_cons (is_if (PW.pt (iw_or (it_own ok_Bar_eq (hr.mono (by decide)) (ip_var (pe_var (i := 5) rfl (by first | exact .inl rfl | exact .inr (.inl rfl) | exact .inr (.inr rfl)))) (ip_of (ig_make ok_Bar_init (hr.mono (by decide)) rfl (ia_cons (ip_add hk (ip_var (pe_var (i := 0) rfl (by first | exact .inl rfl | exact .inr (.inl rfl) | exact .inr (.inr rfl)))) ip_str) (ia_cons (ip_new (in_bn (bn_list hk rfl) rfl G.n_list (ia_cons (ip_var (pe_var (i := 1) rfl (by first | exact .inl rfl | exact .inr (.inl rfl) | exact .inr (.inr rfl)))) ia_nil))) (ia_cons (ip_new (in_bn (bn_list hk rfl) rfl G.n_list (ia_cons (ip_var (pe_var (i := 2) rfl (by first | exact .inl rfl | exact .inr (.inl rfl) | exact .inr (.inr rfl)))) ia_nil))) ia_nil)))))) (iw_or1 (it_own ok_Bar_eq (hr.mono (by decide)) (ip_var (pe_var (i := 5) rfl (by first | exact .inl rfl | exact .inr (.inl rfl) | exact .inr (.inr rfl)))) (ip_of (ig_make ok_Bar_init (hr.mono (by decide)) rfl (ia_cons (ip_var (pe_var (i := 0) rfl (by first | exact .inl rfl | exact .inr (.inl rfl) | exact .inr (.inr rfl)))) (ia_cons (ip_add hk (ip_var (pe_var (i := 1) rfl (by first | exact .inl rfl | exact .inr (.inl rfl) | exact .inr (.inr rfl)))) (ip_new (in_lst (ia_cons ip_int ia_nil)))) (ia_cons (ip_new (in_bn (bn_list hk rfl) rfl G.n_list (ia_cons (ip_var (pe_var (i := 2) rfl (by first | exact .inl rfl | exact .inr (.inl rfl) | exact .inr (.inr rfl)))) ia_nil))) ia_nil))))))))) (is_one (is_ret (ig0 ip_bl))) is_nil)
    (is_one (is_ret (ig0 (ip_and (ip_not (ip_own ok_Bar_eq (hr.mono (by decide)) (ip_var (pe_var (i := 5) rfl (by first | exact .inl rfl | exact .inr (.inl rfl) | exact .inr (.inr rfl)))) (ip_of (ig_make ok_Bar_init (hr.mono (by decide)) rfl (ia_cons (ip_var (pe_var (i := 0) rfl (by first | exact .inl rfl | exact .inr (.inl rfl) | exact .inr (.inr rfl)))) (ia_cons (ip_new (in_bn (bn_list hk rfl) rfl G.n_list (ia_cons (ip_var (pe_var (i := 1) rfl (by first | exact .inl rfl | exact .inr (.inl rfl) | exact .inr (.inr rfl)))) ia_nil))) (ia_cons (ip_add hk (ip_var (pe_var (i := 2) rfl (by first | exact .inl rfl | exact .inr (.inl rfl) | exact .inr (.inr rfl)))) (ip_new (in_lst (ia_cons ip_str ia_nil)))) ia_nil))))))) (ip_one (ip_not (ip_own ok_Bar_eq (hr.mono (by decide)) (ip_of (ig_make ok_Bar_init (hr.mono (by decide)) rfl (ia_cons (ip_var (pe_var (i := 0) rfl (by first | exact .inl rfl | exact .inr (.inl rfl) | exact .inr (.inr rfl)))) (ia_cons (ip_add hk (ip_new (in_rev (ip_var (pe_var (i := 1) rfl (by first | exact .inl rfl | exact .inr (.inl rfl) | exact .inr (.inr rfl)))))) (ip_new (in_lst (ia_cons ip_int ia_nil)))) (ia_cons (ip_new (in_bn (bn_list hk rfl) rfl G.n_list (ia_cons (ip_var (pe_var (i := 2) rfl (by first | exact .inl rfl | exact .inr (.inl rfl) | exact .inr (.inr rfl)))) ia_nil))) ia_nil))))) (ip_var (pe_var (i := 5) rfl (by first | exact .inl rfl | exact .inr (.inl rfl) | exact .inr (.inr rfl))))))))))))))))))))))
theorem ok_law_kept (G : Gd P w K mg base k) : OkF P w K mg base k 3 "_law_kept" 3 0 F_law_kept := by
  obtain ⟨f, fd, F, hm⟩ := G.d_law_kept
  exact ok_fn (lv := 2) F sc_law_kept hm (F.bindsN fun _ _ _ _ _ _ us hl => match us, hl with | [_, _, _], _ => rfl) (fun cdv A outer s H E hr => bd_law_kept G f cdv A outer s H E hr)
theorem sc_share_column : FnScope ["one", "other", "name"] ["one", "other"] (defScope s_share_column) := ⟨rfl, rfl, rfl, by decide +kernel, rfl, by decide +kernel, by decide +kernel⟩
def b_share_column : Sm :=
    (retS 0 (keep0 (callP (c1 anyD) (aCons (frP (lcG [2] (anyI (varP 0)) (bN 2) yesT (keep0 (blP (cmp inC (varP 2) (varP 1)))))) aNil))))
def F_share_column : Ar → Option D := runB 2 3 b_share_column
theorem bd_share_column (G : Gd P w K mg base k) (f : Addr) (cdv : Value) (A : Around) (outer : List Env) (s : Shared) (H : Hp) (E : XK) (hr : Room 0 (A.deeper (envOfC "share_column" (defScope s_share_column) s.heap.objs.size f cdv))) :
    PSs (cxOf CX0 P w K mg base ["one", "other", "name"] "share_column" (defScope s_share_column) f cdv A outer s H E).nox (defBody s_share_column) (tS k false 0 b_share_column) := by
    have hk : k.K = K := G.kK
    exact (is_one (is_ret (ig0 (ip_bi (bi_any hk rfl) rfl G.n_any (ia_cons (ip_of (ig_lc (own := [("name", 2)]) rfl sc_share_column.nd (ii_any hk (ip_var (pe_var (i := 0) rfl (by first | exact .inl rfl | exact .inr (.inl rfl) | exact .inr (.inr rfl))))) (blk_of (N := ["one", "other", "name"]) (by kernel_rfl)) (fun _ _ _ _ _ => (it_name (pg_name (i := 2) sc_share_column.nd rfl (by first | exact .inl rfl | exact .inr rfl)))) (fun _ _ _ _ _ => its_yes) (fun _ _ _ _ _ => (ig0 (ip_c2 (oc_in hk hr.units) (ip_var (pe_var (i := 2) rfl (by first | exact .inl rfl | exact .inr (.inl rfl) | exact .inr (.inr rfl)))) (ip_var (pe_var (i := 1) rfl (by first | exact .inl rfl | exact .inr (.inl rfl) | exact .inr (.inr rfl))))))) (by decide))) ia_nil)))))
theorem ok_share_column (G : Gd P w K mg base k) : OkF P w K mg base k 1 "share_column" 2 0 F_share_column := by
  obtain ⟨f, fd, F, hm⟩ := G.d_share_column
  exact ok_fn (lv := 0) F sc_share_column hm (F.bindsN fun _ _ _ _ _ _ us hl => match us, hl with | [_, _], _ => rfl) (fun cdv A outer s H E hr => bd_share_column G f cdv A outer s H E hr)
theorem sc_is_ring_of : FnScope ["rows", "columns", "many", "place", "row", "earlier"] ["rows", "columns"] (defScope s_is_ring_of) := ⟨rfl, rfl, rfl, by decide +kernel, rfl, by decide +kernel, by decide +kernel⟩
def l_is_ring_of_1 : Sm :=
    (iteS (andT (chn ltC ltC (cst (.int 1)) (bin subD (varP 3) (varP 5)) (bin subD (varP 2) (cst (.int 1)))) (asB (frP (callG F_share_column (aCons (varP 4) (aCons (ixP (varP 0) (varP 5)) aNil)))))) (retS 0 (keep0 (cst (.bl false)))) skS)
def l_is_ring_of_2 : Sm :=
    (seqS (iteS (orT (cmp ninC (ixP (varP 1) (varP 3)) (varP 4)) (cmp ninC (ixP (varP 1) (bin modD (bin addD (varP 3) (cst (.int 1))) (varP 2))) (varP 4))) (retS 0 (keep0 (cst (.bl false)))) skS)
    (forS (rngI (rg1 (varP 3))) (bN 5) l_is_ring_of_1))
def b_is_ring_of : Sm :=
    (seqS (setS 2 (keep0 (callP (c1 lenD) (aCons (varP 0) aNil))))
    (seqS (iteS (orT (cmp ltC (varP 2) (cst (.int 4))) (cmp neC (callP (c1 lenD) (aCons (varP 1) aNil)) (varP 2))) (retS 0 (keep0 (cst (.bl false)))) skS)
    (seqS (forS (enumI (varP 0)) (bT 2 (bCons (bN 3) (bCons (bN 4) bNil))) l_is_ring_of_2)
    (retS 0 (keep0 (cst (.bl true)))))))
def F_is_ring_of : Ar → Option D := runB 2 6 b_is_ring_of
theorem bd_is_ring_of (G : Gd P w K mg base k) (f : Addr) (cdv : Value) (A : Around) (outer : List Env) (s : Shared) (H : Hp) (E : XK) (hr : Room 1 (A.deeper (envOfC "is_ring_of" (defScope s_is_ring_of) s.heap.objs.size f cdv))) :
    PSs (cxOf CX0 P w K mg base ["rows", "columns", "many", "place", "row", "earlier"] "is_ring_of" (defScope s_is_ring_of) f cdv A outer s H E).nox (defBody s_is_ring_of) (tS k false 0 b_is_ring_of) := by
    have hk : k.K = K := G.kK
    have ok_share_column := ok_share_column (base := base) (P := P) (w := w) G
    exact (is_cons (is_set (i := 2) (ps_set (i := 2) sc_is_ring_of.nd rfl (by first | exact .inl rfl | exact .inr rfl) (ig0 (ip_bi (bi_len hk rfl) rfl G.n_len (ia_cons (ip_var (pe_var (i := 0) rfl (by first | exact .inl rfl | exact .inr (.inl rfl) | exact .inr (.inr rfl)))) ia_nil)))))
    (is_cons (is_if (PW.pt (iw_or (it_c2 (oc_lt hk hr.units) (ip_var (pe_var (i := 2) rfl (by first | exact .inl rfl | exact .inr (.inl rfl) | exact .inr (.inr rfl)))) ip_int) (iw_or1 (it_c2 (oc_ne hk hr.units) (ip_bi (bi_len hk rfl) rfl G.n_len (ia_cons (ip_var (pe_var (i := 1) rfl (by first | exact .inl rfl | exact .inr (.inl rfl) | exact .inr (.inr rfl)))) ia_nil)) (ip_var (pe_var (i := 2) rfl (by first | exact .inl rfl | exact .inr (.inl rfl) | exact .inr (.inr rfl)))))))) (is_one (is_ret (ig0 ip_bl))) is_nil)
    (is_cons (is_for (ii_enum hk rfl G.n_enumerate (ip_var (pe_var (i := 0) rfl (by first | exact .inl rfl | exact .inr (.inl rfl) | exact .inr (.inr rfl))))) (it_tup hk rfl (its_cons (it_name (pg_name (i := 3) sc_is_ring_of.nd rfl (by first | exact .inl rfl | exact .inr rfl))) (its_cons (it_name (pg_name (i := 4) sc_is_ring_of.nd rfl (by first | exact .inl rfl | exact .inr rfl))) its_nil))) (is_cons (is_if (PW.pt (iw_or (it_c2 (oc_nin hk hr.units) (ip_ix (ip_var (pe_var (i := 1) rfl (by first | exact .inl rfl | exact .inr (.inl rfl) | exact .inr (.inr rfl)))) (ip_var (pe_var (i := 3) rfl (by first | exact .inl rfl | exact .inr (.inl rfl) | exact .inr (.inr rfl)))) (by intro _ _; rfl) hk) (ip_var (pe_var (i := 4) rfl (by first | exact .inl rfl | exact .inr (.inl rfl) | exact .inr (.inr rfl))))) (iw_or1 (it_c2 (oc_nin hk hr.units) (ip_ix (ip_var (pe_var (i := 1) rfl (by first | exact .inl rfl | exact .inr (.inl rfl) | exact .inr (.inr rfl)))) (ip_mod (ip_add hk (ip_var (pe_var (i := 3) rfl (by first | exact .inl rfl | exact .inr (.inl rfl) | exact .inr (.inr rfl)))) ip_int) (ip_var (pe_var (i := 2) rfl (by first | exact .inl rfl | exact .inr (.inl rfl) | exact .inr (.inr rfl))))) (by intro _ _; rfl) hk) (ip_var (pe_var (i := 4) rfl (by first | exact .inl rfl | exact .inr (.inl rfl) | exact .inr (.inr rfl)))))))) (is_one (is_ret (ig0 ip_bl))) is_nil)
    (is_one (is_for (ii_range1 rfl G.n_range (ip_var (pe_var (i := 3) rfl (by first | exact .inl rfl | exact .inr (.inl rfl) | exact .inr (.inr rfl))))) (it_name (pg_name (i := 5) sc_is_ring_of.nd rfl (by first | exact .inl rfl | exact .inr rfl))) (is_one (is_if (PW.pt (iw_and (it_c3 (oc_lt hk hr.units) (oc_lt hk hr.units) ip_int (ip_sub (ip_var (pe_var (i := 3) rfl (by first | exact .inl rfl | exact .inr (.inl rfl) | exact .inr (.inr rfl)))) (ip_var (pe_var (i := 5) rfl (by first | exact .inl rfl | exact .inr (.inl rfl) | exact .inr (.inr rfl))))) (ip_sub (ip_var (pe_var (i := 2) rfl (by first | exact .inl rfl | exact .inr (.inl rfl) | exact .inr (.inr rfl)))) ip_int)) (iw_and1 (it_b (ip_of (ig_call ok_share_column (hr.mono (by decide)) rfl (ia_cons (ip_var (pe_var (i := 4) rfl (by first | exact .inl rfl | exact .inr (.inl rfl) | exact .inr (.inr rfl)))) (ia_cons (ip_ix (ip_var (pe_var (i := 0) rfl (by first | exact .inl rfl | exact .inr (.inl rfl) | exact .inr (.inr rfl)))) (ip_var (pe_var (i := 5) rfl (by first | exact .inl rfl | exact .inr (.inl rfl) | exact .inr (.inr rfl)))) (by intro _ _; rfl) hk) ia_nil)))))))) (is_one (is_ret (ig0 ip_bl))) is_nil)) PassesOwn.never rfl))) PassesOwn.never rfl)
    (is_one (is_ret (ig0 ip_bl))))))
theorem ok_is_ring_of (G : Gd P w K mg base k) : OkF P w K mg base k 2 "is_ring_of" 2 0 F_is_ring_of := by
  obtain ⟨f, fd, F, hm⟩ := G.d_is_ring_of
  exact ok_fn (lv := 1) F sc_is_ring_of hm (F.bindsN fun _ _ _ _ _ _ us hl => match us, hl with | [_, _], _ => rfl) (fun cdv A outer s H E hr => bd_is_ring_of G f cdv A outer s H E hr)
theorem sc_is_crowd_of : FnScope ["rows", "columns", "names", "row", "name"] ["rows", "columns", "names"] (defScope s_is_crowd_of) := ⟨rfl, rfl, rfl, by decide +kernel, rfl, by decide +kernel, by decide +kernel⟩
def b_is_crowd_of : Sm :=
    (seqS (iteS (orT (cmp ltC (callP (c1 lenD) (aCons (varP 0) aNil)) (cst (.int 3))) (cmp neC (callP (c1 lenD) (aCons (varP 1) aNil)) (cst (.int 3)))) (retS 0 (keep0 (cst (.bl false)))) skS)
    (seqS (iteS (asB (callP (c1 anyD) (aCons (frP (lcG [3] (anyI (varP 0)) (bN 3) yesT (keep0 (blP (cmp ltC (callP (c1 lenD) (aCons (frP (lcG [4] (anyI (varP 1)) (bN 4) (cmp inC (varP 4) (varP 3)) (keep0 (varP 4)))) aNil)) (cst (.int 2))))))) aNil))) (retS 0 (keep0 (cst (.bl false)))) skS)
    (retS 0 (keep0 (una notD (callP (c1 anyD) (aCons (frP (lcG [4] (anyI (varP 2)) (bN 4) yesT (keep0 (callP (c1 allD) (aCons (frP (lcG [3] (anyI (varP 0)) (bN 3) yesT (keep0 (blP (cmp inC (varP 4) (varP 3)))))) aNil))))) aNil)))))))
def F_is_crowd_of : Ar → Option D := runB 3 5 b_is_crowd_of
theorem bd_is_crowd_of (G : Gd P w K mg base k) (f : Addr) (cdv : Value) (A : Around) (outer : List Env) (s : Shared) (H : Hp) (E : XK) (hr : Room 0 (A.deeper (envOfC "is_crowd_of" (defScope s_is_crowd_of) s.heap.objs.size f cdv))) :
    PSs (cxOf CX0 P w K mg base ["rows", "columns", "names", "row", "name"] "is_crowd_of" (defScope s_is_crowd_of) f cdv A outer s H E).nox (defBody s_is_crowd_of) (tS k false 0 b_is_crowd_of) := by
    have hk : k.K = K := G.kK
    exact (is_cons (is_if (PW.pt (iw_or (it_c2 (oc_lt hk hr.units) (ip_bi (bi_len hk rfl) rfl G.n_len (ia_cons (ip_var (pe_var (i := 0) rfl (by first | exact .inl rfl | exact .inr (.inl rfl) | exact .inr (.inr rfl)))) ia_nil)) ip_int) (iw_or1 (it_c2 (oc_ne hk hr.units) (ip_bi (bi_len hk rfl) rfl G.n_len (ia_cons (ip_var (pe_var (i := 1) rfl (by first | exact .inl rfl | exact .inr (.inl rfl) | exact .inr (.inr rfl)))) ia_nil)) ip_int)))) (is_one (is_ret (ig0 ip_bl))) is_nil)
    (is_cons (is_if (it_b (ip_bi (bi_any hk rfl) rfl G.n_any (ia_cons (ip_of (ig_lc (own := [("row", 3)]) rfl sc_is_crowd_of.nd (ii_any hk (ip_var (pe_var (i := 0) rfl (by first | exact .inl rfl | exact .inr (.inl rfl) | exact .inr (.inr rfl))))) (blk_of (N := ["rows", "columns", "names", "row", "name"]) (by kernel_rfl)) (fun _ _ _ _ _ => (it_name (pg_name (i := 3) sc_is_crowd_of.nd rfl (by first | exact .inl rfl | exact .inr rfl)))) (fun _ _ _ _ _ => its_yes) (fun _ _ _ _ _ => (ig0 (ip_c2 (oc_lt hk hr.units) (ip_bi (bi_len hk rfl) rfl G.n_len (ia_cons (ip_of (ig_lc (own := [("name", 4)]) rfl sc_is_crowd_of.nd (ii_any hk (ip_var (pe_var (i := 1) rfl (by first | exact .inl rfl | exact .inr (.inl rfl) | exact .inr (.inr rfl))))) (blk_of (N := ["rows", "columns", "names", "row", "name"]) (by kernel_rfl)) (fun _ _ _ _ _ => (it_name (pg_name (i := 4) sc_is_crowd_of.nd rfl (by first | exact .inl rfl | exact .inr rfl)))) (fun _ _ _ _ _ => (its_one (it_c2 (oc_in hk hr.units) (ip_var (pe_var (i := 4) rfl (by first | exact .inl rfl | exact .inr (.inl rfl) | exact .inr (.inr rfl)))) (ip_var (pe_var (i := 3) rfl (by first | exact .inl rfl | exact .inr (.inl rfl) | exact .inr (.inr rfl))))))) (fun _ _ _ _ _ => (ig0 (ip_var (pe_var (i := 4) rfl (by first | exact .inl rfl | exact .inr (.inl rfl) | exact .inr (.inr rfl)))))) (by decide))) ia_nil)) ip_int))) (by decide))) ia_nil))) (is_one (is_ret (ig0 ip_bl))) is_nil)
    (is_one (is_ret (ig0 (ip_not (ip_bi (bi_any hk rfl) rfl G.n_any (ia_cons (ip_of (ig_lc (own := [("name", 4)]) rfl sc_is_crowd_of.nd (ii_any hk (ip_var (pe_var (i := 2) rfl (by first | exact .inl rfl | exact .inr (.inl rfl) | exact .inr (.inr rfl))))) (blk_of (N := ["rows", "columns", "names", "row", "name"]) (by kernel_rfl)) (fun _ _ _ _ _ => (it_name (pg_name (i := 4) sc_is_crowd_of.nd rfl (by first | exact .inl rfl | exact .inr rfl)))) (fun _ _ _ _ _ => its_yes) (fun _ _ _ _ _ => (ig0 (ip_bi (bi_all hk rfl) rfl G.n_all (ia_cons (ip_of (ig_lc (own := [("row", 3)]) rfl sc_is_crowd_of.nd (ii_any hk (ip_var (pe_var (i := 0) rfl (by first | exact .inl rfl | exact .inr (.inl rfl) | exact .inr (.inr rfl))))) (blk_of (N := ["rows", "columns", "names", "row", "name"]) (by kernel_rfl)) (fun _ _ _ _ _ => (it_name (pg_name (i := 3) sc_is_crowd_of.nd rfl (by first | exact .inl rfl | exact .inr rfl)))) (fun _ _ _ _ _ => its_yes) (fun _ _ _ _ _ => (ig0 (ip_c2 (oc_in hk hr.units) (ip_var (pe_var (i := 4) rfl (by first | exact .inl rfl | exact .inr (.inl rfl) | exact .inr (.inr rfl)))) (ip_var (pe_var (i := 3) rfl (by first | exact .inl rfl | exact .inr (.inl rfl) | exact .inr (.inr rfl))))))) (by decide))) ia_nil)))) (by decide))) ia_nil))))))))
theorem ok_is_crowd_of (G : Gd P w K mg base k) : OkF P w K mg base k 1 "is_crowd_of" 3 0 F_is_crowd_of := by
  obtain ⟨f, fd, F, hm⟩ := G.d_is_crowd_of
  exact ok_fn (lv := 0) F sc_is_crowd_of hm (F.bindsN fun _ _ _ _ _ _ us hl => match us, hl with | [_, _, _], _ => rfl) (fun cdv A outer s H E hr => bd_is_crowd_of G f cdv A outer s H E hr)
theorem sc_stands_in : FnScope ["table", "bar", "rows", "number", "name"] ["table", "bar"] (defScope s_stands_in) := ⟨rfl, rfl, rfl, by decide +kernel, rfl, by decide +kernel, by decide +kernel⟩
def b_stands_in : Sm :=
    (seqS (iteS (notT (asB (callP (c1 allD) (aCons (frP (lcG [3] (anyI (fldP ["Table", "Bar"] "rows" (varP 1))) (bN 3) yesT (keep0 (blP (chn leC ltC (cst (.int 0)) (varP 3) (callP (c1 lenD) (aCons (fldP ["Table", "Bar"] "rows" (varP 0)) aNil))))))) aNil)))) (retS 0 (keep0 (cst (.bl false)))) skS)
    (seqS (iteS (notT (asB (callP (c1 allD) (aCons (frP (lcG [4] (anyI (fldP ["Table", "Bar"] "columns" (varP 1))) (bN 4) yesT (keep0 (blP (cmp inC (varP 4) (fldP ["Table", "Bar"] "columns" (varP 0))))))) aNil)))) (retS 0 (keep0 (cst (.bl false)))) skS)
    (seqS (iteS (orT (cmp ltC (una lsetD (fldP ["Table", "Bar"] "rows" (varP 1))) (callP (c1 lenD) (aCons (fldP ["Table", "Bar"] "rows" (varP 1)) aNil))) (cmp ltC (una lsetD (fldP ["Table", "Bar"] "columns" (varP 1))) (callP (c1 lenD) (aCons (fldP ["Table", "Bar"] "columns" (varP 1)) aNil)))) (retS 0 (keep0 (cst (.bl false)))) skS)
    (seqS (setS 2 (lcG [3] (anyI (fldP ["Table", "Bar"] "rows" (varP 1))) (bN 3) yesT (keep0 (ixP (fldP ["Table", "Bar"] "rows" (varP 0)) (varP 3)))))
    (seqS (iteS (cmp eqC (fldP ["Bar"] "kind" (varP 1)) (cst (.str "ring"))) (retS 0 (callG F_is_ring_of (aCons (varP 2) (aCons (fldP ["Table", "Bar"] "columns" (varP 1)) aNil)))) skS)
    (retS 0 (keep0 (andP (blP (cmp eqC (fldP ["Bar"] "kind" (varP 1)) (cst (.str "crowd")))) (frP (callG F_is_crowd_of (aCons (varP 2) (aCons (fldP ["Table", "Bar"] "columns" (varP 1)) (aCons (fldP ["Table", "Bar"] "columns" (varP 0)) aNil)))))))))))))
def F_stands_in : Ar → Option D := runB 2 5 b_stands_in
theorem bd_stands_in (G : Gd P w K mg base k) (f : Addr) (cdv : Value) (A : Around) (outer : List Env) (s : Shared) (H : Hp) (E : XK) (hr : Room 2 (A.deeper (envOfC "stands_in" (defScope s_stands_in) s.heap.objs.size f cdv))) :
    PSs (cxOf CX0 P w K mg base ["table", "bar", "rows", "number", "name"] "stands_in" (defScope s_stands_in) f cdv A outer s H E).nox (defBody s_stands_in) (tS k false 0 b_stands_in) := by
    have hk : k.K = K := G.kK
    have ok_is_ring_of := ok_is_ring_of (base := base) (P := P) (w := w) G
    have ok_is_crowd_of := ok_is_crowd_of (base := base) (P := P) (w := w) G
    exact (is_cons (is_if (it_not (it_b (ip_bi (bi_all hk rfl) rfl G.n_all (ia_cons (ip_of (ig_lc (own := [("number", 3)]) rfl sc_stands_in.nd (ii_any hk (ip_fld (ip_var (pe_var (i := 1) rfl (by first | exact .inl rfl | exact .inr (.inl rfl) | exact .inr (.inr rfl)))) rfl hk (by simp only [List.mem_cons, List.not_mem_nil, or_false, forall_eq_or_imp, forall_eq]; exact ⟨G.a_Table_rows, G.a_Bar_rows⟩))) (blk_of (N := ["table", "bar", "rows", "number", "name"]) (by kernel_rfl)) (fun _ _ _ _ _ => (it_name (pg_name (i := 3) sc_stands_in.nd rfl (by first | exact .inl rfl | exact .inr rfl)))) (fun _ _ _ _ _ => its_yes) (fun _ _ _ _ _ => (ig0 (ip_c3 (oc_le hk hr.units) (oc_lt hk hr.units) ip_int (ip_var (pe_var (i := 3) rfl (by first | exact .inl rfl | exact .inr (.inl rfl) | exact .inr (.inr rfl)))) (ip_bi (bi_len hk rfl) rfl G.n_len (ia_cons (ip_fld (ip_var (pe_var (i := 0) rfl (by first | exact .inl rfl | exact .inr (.inl rfl) | exact .inr (.inr rfl)))) rfl hk (by simp only [List.mem_cons, List.not_mem_nil, or_false, forall_eq_or_imp, forall_eq]; exact ⟨G.a_Table_rows, G.a_Bar_rows⟩)) ia_nil))))) (by decide))) ia_nil)))) (is_one (is_ret (ig0 ip_bl))) is_nil)
    (is_cons (is_if (it_not (it_b (ip_bi (bi_all hk rfl) rfl G.n_all (ia_cons (ip_of (ig_lc (own := [("name", 4)]) rfl sc_stands_in.nd (ii_any hk (ip_fld (ip_var (pe_var (i := 1) rfl (by first | exact .inl rfl | exact .inr (.inl rfl) | exact .inr (.inr rfl)))) rfl hk (by simp only [List.mem_cons, List.not_mem_nil, or_false, forall_eq_or_imp, forall_eq]; exact ⟨G.a_Table_columns, G.a_Bar_columns⟩))) (blk_of (N := ["table", "bar", "rows", "number", "name"]) (by kernel_rfl)) (fun _ _ _ _ _ => (it_name (pg_name (i := 4) sc_stands_in.nd rfl (by first | exact .inl rfl | exact .inr rfl)))) (fun _ _ _ _ _ => its_yes) (fun _ _ _ _ _ => (ig0 (ip_c2 (oc_in hk hr.units) (ip_var (pe_var (i := 4) rfl (by first | exact .inl rfl | exact .inr (.inl rfl) | exact .inr (.inr rfl)))) (ip_fld (ip_var (pe_var (i := 0) rfl (by first | exact .inl rfl | exact .inr (.inl rfl) | exact .inr (.inr rfl)))) rfl hk (by simp only [List.mem_cons, List.not_mem_nil, or_false, forall_eq_or_imp, forall_eq]; exact ⟨G.a_Table_columns, G.a_Bar_columns⟩))))) (by decide))) ia_nil)))) (is_one (is_ret (ig0 ip_bl))) is_nil)
    (is_cons (is_if (PW.pt (iw_or (it_c2 (oc_lt hk hr.units) (ip_lset hk rfl rfl G.n_len rfl G.n_set (ip_fld (ip_var (pe_var (i := 1) rfl (by first | exact .inl rfl | exact .inr (.inl rfl) | exact .inr (.inr rfl)))) rfl hk (by simp only [List.mem_cons, List.not_mem_nil, or_false, forall_eq_or_imp, forall_eq]; exact ⟨G.a_Table_rows, G.a_Bar_rows⟩))) (ip_bi (bi_len hk rfl) rfl G.n_len (ia_cons (ip_fld (ip_var (pe_var (i := 1) rfl (by first | exact .inl rfl | exact .inr (.inl rfl) | exact .inr (.inr rfl)))) rfl hk (by simp only [List.mem_cons, List.not_mem_nil, or_false, forall_eq_or_imp, forall_eq]; exact ⟨G.a_Table_rows, G.a_Bar_rows⟩)) ia_nil))) (iw_or1 (it_c2 (oc_lt hk hr.units) (ip_lset hk rfl rfl G.n_len rfl G.n_set (ip_fld (ip_var (pe_var (i := 1) rfl (by first | exact .inl rfl | exact .inr (.inl rfl) | exact .inr (.inr rfl)))) rfl hk (by simp only [List.mem_cons, List.not_mem_nil, or_false, forall_eq_or_imp, forall_eq]; exact ⟨G.a_Table_columns, G.a_Bar_columns⟩))) (ip_bi (bi_len hk rfl) rfl G.n_len (ia_cons (ip_fld (ip_var (pe_var (i := 1) rfl (by first | exact .inl rfl | exact .inr (.inl rfl) | exact .inr (.inr rfl)))) rfl hk (by simp only [List.mem_cons, List.not_mem_nil, or_false, forall_eq_or_imp, forall_eq]; exact ⟨G.a_Table_columns, G.a_Bar_columns⟩)) ia_nil)))))) (is_one (is_ret (ig0 ip_bl))) is_nil)
    (is_cons (is_set (i := 2) (ag_sub (ia_lc (i := 2) (own := [("number", 3)]) rfl sc_stands_in.nd rfl rfl rfl (ii_any hk (ip_fld (ip_var (pe_var (i := 1) rfl (by first | exact .inl rfl | exact .inr (.inl rfl) | exact .inr (.inr rfl)))) rfl hk (by simp only [List.mem_cons, List.not_mem_nil, or_false, forall_eq_or_imp, forall_eq]; exact ⟨G.a_Table_rows, G.a_Bar_rows⟩))) (blk_of (N := ["table", "bar", "rows", "number", "name"]) (by kernel_rfl)) (fun _ _ _ _ _ => (it_name (pg_name (i := 3) sc_stands_in.nd rfl (by first | exact .inl rfl | exact .inr rfl)))) (fun _ _ _ _ _ => its_yes) (fun _ _ _ _ _ => (ig0 (ip_ix (ip_fld (ip_var (pe_var (i := 0) rfl (by first | exact .inl rfl | exact .inr (.inl rfl) | exact .inr (.inr rfl)))) rfl hk (by simp only [List.mem_cons, List.not_mem_nil, or_false, forall_eq_or_imp, forall_eq]; exact ⟨G.a_Table_rows, G.a_Bar_rows⟩)) (ip_var (pe_var (i := 3) rfl (by first | exact .inl rfl | exact .inr (.inl rfl) | exact .inr (.inr rfl)))) (by intro _ _; rfl) hk))) (by decide))))
    (is_cons (is_if (it_c2 (oc_eq hk hr.units) (ip_fld (ip_var (pe_var (i := 1) rfl (by first | exact .inl rfl | exact .inr (.inl rfl) | exact .inr (.inr rfl)))) rfl hk (by simp only [List.mem_cons, List.not_mem_nil, or_false, forall_eq_or_imp, forall_eq]; exact G.a_Bar_kind)) ip_str) (is_one (is_ret (ig_call ok_is_ring_of (hr.mono (by decide)) rfl (ia_cons (ip_var (pe_var (i := 2) rfl (by first | exact .inl rfl | exact .inr (.inl rfl) | exact .inr (.inr rfl)))) (ia_cons (ip_fld (ip_var (pe_var (i := 1) rfl (by first | exact .inl rfl | exact .inr (.inl rfl) | exact .inr (.inr rfl)))) rfl hk (by simp only [List.mem_cons, List.not_mem_nil, or_false, forall_eq_or_imp, forall_eq]; exact ⟨G.a_Table_columns, G.a_Bar_columns⟩)) ia_nil))))) is_nil)
    (is_one (is_ret (ig0 (ip_and (ip_c2 (oc_eq hk hr.units) (ip_fld (ip_var (pe_var (i := 1) rfl (by first | exact .inl rfl | exact .inr (.inl rfl) | exact .inr (.inr rfl)))) rfl hk (by simp only [List.mem_cons, List.not_mem_nil, or_false, forall_eq_or_imp, forall_eq]; exact G.a_Bar_kind)) ip_str) (ip_one (ip_of (ig_call ok_is_crowd_of (hr.mono (by decide)) rfl (ia_cons (ip_var (pe_var (i := 2) rfl (by first | exact .inl rfl | exact .inr (.inl rfl) | exact .inr (.inr rfl)))) (ia_cons (ip_fld (ip_var (pe_var (i := 1) rfl (by first | exact .inl rfl | exact .inr (.inl rfl) | exact .inr (.inr rfl)))) rfl hk (by simp only [List.mem_cons, List.not_mem_nil, or_false, forall_eq_or_imp, forall_eq]; exact ⟨G.a_Table_columns, G.a_Bar_columns⟩)) (ia_cons (ip_fld (ip_var (pe_var (i := 0) rfl (by first | exact .inl rfl | exact .inr (.inl rfl) | exact .inr (.inr rfl)))) rfl hk (by simp only [List.mem_cons, List.not_mem_nil, or_false, forall_eq_or_imp, forall_eq]; exact ⟨G.a_Table_columns, G.a_Bar_columns⟩)) ia_nil)))))))))))))))
theorem ok_stands_in (G : Gd P w K mg base k) : OkF P w K mg base k 3 "stands_in" 2 0 F_stands_in := by
  obtain ⟨f, fd, F, hm⟩ := G.d_stands_in
  exact ok_fn (lv := 2) F sc_stands_in hm (F.bindsN fun _ _ _ _ _ _ us hl => match us, hl with | [_, _], _ => rfl) (fun cdv A outer s H E hr => bd_stands_in G f cdv A outer s H E hr)
theorem sc_law_put : FnScope ["items", "at", "item"] ["items", "at", "item"] (defScope s_law_put) := ⟨rfl, rfl, rfl, by decide +kernel, rfl, by decide +kernel, by decide +kernel⟩
def b_law_put : Sm :=
    (retS 0 (keep0 (bin addD (bin addD (cutP (varP 0) noO (ofO (varP 1))) (fun ρ => ((small (kept (aCons (varP 2) aNil))) ρ).map fun ds => (0, .lst ds))) (cutP (varP 0) (ofO (bin addD (varP 1) (cst (.int 1)))) noO))))
def F_law_put : Ar → Option D := runB 3 3 b_law_put
theorem bd_law_put (G : Gd P w K mg base k) (f : Addr) (cdv : Value) (A : Around) (outer : List Env) (s : Shared) (H : Hp) (E : XK) (hr : Room 0 (A.deeper (envOfC "_law_put" (defScope s_law_put) s.heap.objs.size f cdv))) :
    PSs (cxOf CX0 P w K mg base ["items", "at", "item"] "_law_put" (defScope s_law_put) f cdv A outer s H E).nox (defBody s_law_put) (tS k false 0 b_law_put) := by
    have hk : k.K = K := G.kK
    exact (is_one (is_ret (ig0 (ip_add hk (ip_add hk (ip_cut (ip_var (pe_var (i := 0) rfl (by first | exact .inl rfl | exact .inr (.inl rfl) | exact .inr (.inr rfl)))) io_none (io_some (ip_var (pe_var (i := 1) rfl (by first | exact .inl rfl | exact .inr (.inl rfl) | exact .inr (.inr rfl))))) hk) (ip_new (in_lst (ia_cons (ip_var (pe_var (i := 2) rfl (by first | exact .inl rfl | exact .inr (.inl rfl) | exact .inr (.inr rfl)))) ia_nil)))) (ip_cut (ip_var (pe_var (i := 0) rfl (by first | exact .inl rfl | exact .inr (.inl rfl) | exact .inr (.inr rfl)))) (io_some (ip_add hk (ip_var (pe_var (i := 1) rfl (by first | exact .inl rfl | exact .inr (.inl rfl) | exact .inr (.inr rfl)))) ip_int)) io_none hk)))))
theorem ok_law_put (G : Gd P w K mg base k) : OkF P w K mg base k 1 "_law_put" 3 0 F_law_put := by
  obtain ⟨f, fd, F, hm⟩ := G.d_law_put
  exact ok_fn (lv := 0) F sc_law_put hm (F.bindsN fun _ _ _ _ _ _ us hl => match us, hl with | [_, _, _], _ => rfl) (fun cdv A outer s H E hr => bd_law_put G f cdv A outer s H E hr)
theorem sc_law_near : FnScope ["right", "names", "rows", "draws", "kind", "numbers", "columns", "i", "j", "a", "b", "name", "number", "near"] ["right", "names", "rows", "draws"] (defScope s_law_near) := ⟨rfl, rfl, rfl, by decide +kernel, rfl, by decide +kernel, by decide +kernel⟩
def b_law_near : Sm :=
    (seqS (setS 4 (keep0 (ixP (varP 0) (cst (.int 0)))))
    (seqS (setS 5 (keep0 (ixP (varP 0) (cst (.int 1)))))
    (seqS (setS 6 (keep0 (ixP (varP 0) (cst (.int 2)))))
    (seqS (setS 7 (keep0 (bin modD (callP (c1 intD) (aCons (ixP (varP 3) (cst (.int 0))) aNil)) (callP (c1 lenD) (aCons (varP 5) aNil)))))
    (seqS (setS 8 (keep0 (bin modD (callP (c1 intD) (aCons (ixP (varP 3) (cst (.int 1))) aNil)) (callP (c1 lenD) (aCons (varP 5) aNil)))))
    (seqS (setS 9 (keep0 (bin modD (callP (c1 intD) (aCons (ixP (varP 3) (cst (.int 2))) aNil)) (callP (c1 lenD) (aCons (varP 6) aNil)))))
    (seqS (setS 10 (keep0 (bin modD (callP (c1 intD) (aCons (ixP (varP 3) (cst (.int 3))) aNil)) (callP (c1 lenD) (aCons (varP 6) aNil)))))
    (seqS (setS 11 (keep0 (ixP (varP 1) (bin modD (callP (c1 intD) (aCons (ixP (varP 3) (cst (.int 4))) aNil)) (callP (c1 lenD) (aCons (varP 1) aNil))))))
    (seqS (setS 12 (keep0 (bin modD (callP (c1 intD) (aCons (ixP (varP 3) (cst (.int 5))) aNil)) (callP (c1 lenD) (aCons (varP 2) aNil)))))
    (seqS (setO 13 1 (fun ρ => ((small (kept (aCons (fun ρ => ((small (kept (aCons (varP 4) (aCons (frP (callG F_law_put (aCons (frP (callG F_law_put (aCons (varP 5) (aCons (varP 7) (aCons (ixP (varP 5) (varP 8)) aNil))))) (aCons (varP 8) (aCons (ixP (varP 5) (varP 7)) aNil))))) (aCons (varP 6) aNil))))) ρ).map fun ds => (0, .lst ds)) aNil))) ρ).map fun ds => .lst ds))
    (seqS (appS 13 0 (keep0 (fun ρ => ((small (kept (aCons (varP 4) (aCons (varP 5) (aCons (frP (callG F_law_put (aCons (frP (callG F_law_put (aCons (varP 6) (aCons (varP 9) (aCons (ixP (varP 6) (varP 10)) aNil))))) (aCons (varP 10) (aCons (ixP (varP 6) (varP 9)) aNil))))) aNil))))) ρ).map fun ds => (0, .lst ds))))
    (seqS (appS 13 0 (keep0 (fun ρ => ((small (kept (aCons (varP 4) (aCons (varP 5) (aCons (bin addD (cutP (varP 6) (ofO (cst (.int 1))) noO) (cutP (varP 6) noO (ofO (cst (.int 1))))) aNil))))) ρ).map fun ds => (0, .lst ds))))
    (seqS (appS 13 0 (keep0 (fun ρ => ((small (kept (aCons (varP 4) (aCons (varP 5) (aCons (cutP (varP 6) noO (ofO (una negD (cst (.int 1))))) aNil))))) ρ).map fun ds => (0, .lst ds))))
    (seqS (appS 13 0 (keep0 (fun ρ => ((small (kept (aCons (varP 4) (aCons (cutP (varP 5) (ofO (cst (.int 1))) noO) (aCons (varP 6) aNil))))) ρ).map fun ds => (0, .lst ds))))
    (seqS (appS 13 0 (keep0 (fun ρ => ((small (kept (aCons (varP 4) (aCons (cutP (varP 5) noO (ofO (una negD (cst (.int 1))))) (aCons (cutP (varP 6) noO (ofO (una negD (cst (.int 1))))) aNil))))) ρ).map fun ds => (0, .lst ds))))
    (seqS (appS 13 0 (keep0 (fun ρ => ((small (kept (aCons (varP 4) (aCons (cutP (varP 5) noO (ofO (cst (.int 3)))) (aCons (cutP (varP 6) noO (ofO (cst (.int 3)))) aNil))))) ρ).map fun ds => (0, .lst ds))))
    (seqS (appS 13 0 (keep0 (fun ρ => ((small (kept (aCons (varP 4) (aCons (bin addD (varP 5) (fun ρ => ((small (kept (aCons (varP 12) aNil))) ρ).map fun ds => (0, .lst ds))) (aCons (varP 6) aNil))))) ρ).map fun ds => (0, .lst ds))))
    (seqS (appS 13 0 (keep0 (fun ρ => ((small (kept (aCons (varP 4) (aCons (varP 5) (aCons (bin addD (varP 6) (fun ρ => ((small (kept (aCons (varP 11) aNil))) ρ).map fun ds => (0, .lst ds))) aNil))))) ρ).map fun ds => (0, .lst ds))))
    (seqS (appS 13 0 (keep0 (fun ρ => ((small (kept (aCons (varP 4) (aCons (bin addD (varP 5) (fun ρ => ((small (kept (aCons (varP 12) aNil))) ρ).map fun ds => (0, .lst ds))) (aCons (bin addD (varP 6) (fun ρ => ((small (kept (aCons (varP 11) aNil))) ρ).map fun ds => (0, .lst ds))) aNil))))) ρ).map fun ds => (0, .lst ds))))
    (seqS (appS 13 0 (keep0 (fun ρ => ((small (kept (aCons (varP 4) (aCons (bin addD (varP 5) (fun ρ => ((small (kept (aCons (ixP (varP 5) (varP 7)) aNil))) ρ).map fun ds => (0, .lst ds))) (aCons (varP 6) aNil))))) ρ).map fun ds => (0, .lst ds))))
    (seqS (appS 13 0 (keep0 (fun ρ => ((small (kept (aCons (varP 4) (aCons (frP (callG F_law_put (aCons (varP 5) (aCons (varP 7) (aCons (ixP (varP 5) (varP 8)) aNil))))) (aCons (varP 6) aNil))))) ρ).map fun ds => (0, .lst ds))))
    (seqS (appS 13 0 (keep0 (fun ρ => ((small (kept (aCons (varP 4) (aCons (frP (callG F_law_put (aCons (varP 5) (aCons (varP 7) (aCons (varP 12) aNil))))) (aCons (varP 6) aNil))))) ρ).map fun ds => (0, .lst ds))))
    (seqS (appS 13 0 (keep0 (fun ρ => ((small (kept (aCons (varP 4) (aCons (frP (callG F_law_put (aCons (varP 5) (aCons (varP 7) (aCons (bin subD (ixP (varP 5) (varP 7)) (callP (c1 lenD) (aCons (varP 2) aNil))) aNil))))) (aCons (varP 6) aNil))))) ρ).map fun ds => (0, .lst ds))))
    (seqS (appS 13 0 (keep0 (fun ρ => ((small (kept (aCons (varP 4) (aCons (frP (callG F_law_put (aCons (varP 5) (aCons (varP 7) (aCons (callP (c1 lenD) (aCons (varP 2) aNil)) aNil))))) (aCons (varP 6) aNil))))) ρ).map fun ds => (0, .lst ds))))
    (seqS (appS 13 0 (keep0 (fun ρ => ((small (kept (aCons (varP 4) (aCons (bin addD (varP 5) (fun ρ => ((small (kept (aCons (callP (c1 lenD) (aCons (varP 2) aNil)) aNil))) ρ).map fun ds => (0, .lst ds))) (aCons (varP 6) aNil))))) ρ).map fun ds => (0, .lst ds))))
    (seqS (appS 13 0 (keep0 (fun ρ => ((small (kept (aCons (varP 4) (aCons (frP (callG F_law_put (aCons (varP 5) (aCons (varP 7) (aCons (una negD (cst (.int 1))) aNil))))) (aCons (varP 6) aNil))))) ρ).map fun ds => (0, .lst ds))))
    (seqS (appS 13 0 (keep0 (fun ρ => ((small (kept (aCons (varP 4) (aCons (varP 5) (aCons (frP (callG F_law_put (aCons (varP 6) (aCons (varP 9) (aCons (varP 11) aNil))))) aNil))))) ρ).map fun ds => (0, .lst ds))))
    (seqS (appS 13 0 (keep0 (fun ρ => ((small (kept (aCons (varP 4) (aCons (varP 5) (aCons (frP (callG F_law_put (aCons (varP 6) (aCons (varP 9) (aCons (cst (.str "zzzzzzzz")) aNil))))) aNil))))) ρ).map fun ds => (0, .lst ds))))
    (seqS (appS 13 0 (keep0 (fun ρ => ((small (kept (aCons (varP 4) (aCons (varP 5) (aCons (frP (callG F_law_put (aCons (varP 6) (aCons (varP 9) (aCons (ixP (varP 6) (varP 10)) aNil))))) aNil))))) ρ).map fun ds => (0, .lst ds))))
    (seqS (appS 13 0 (keep0 (fun ρ => ((small (kept (aCons (ixP (fun ρ => ((small (kept (aCons (cst (.str "ring")) (aCons (cst (.str "crowd")) aNil)))) ρ).map fun ds => (0, .lst ds)) (callP (c1 intD) (aCons (blP (cmp eqC (varP 4) (cst (.str "ring")))) aNil))) (aCons (varP 5) (aCons (varP 6) aNil))))) ρ).map fun ds => (0, .lst ds))))
    (seqS (appS 13 0 (keep0 (fun ρ => ((small (kept (aCons (ixP (fun ρ => ((small (kept (aCons (cst (.str "")) (aCons (cst (.str "rings")) (aCons (cst (.str "Ring")) (aCons (cst (.str "crow")) aNil)))))) ρ).map fun ds => (0, .lst ds)) (bin modD (callP (c1 intD) (aCons (ixP (varP 3) (cst (.int 6))) aNil)) (cst (.int 4)))) (aCons (varP 5) (aCons (varP 6) aNil))))) ρ).map fun ds => (0, .lst ds))))
    (seqS (appS 13 0 (keep0 (fun ρ => ((small (kept (aCons (ixP (fun ρ => ((small (kept (aCons (cst (.str "ring")) (aCons (cst (.str "crowd")) aNil)))) ρ).map fun ds => (0, .lst ds)) (callP (c1 intD) (aCons (blP (cmp eqC (varP 4) (cst (.str "ring")))) aNil))) (aCons (cutP (varP 5) noO (ofO (cst (.int 3)))) (aCons (cutP (varP 6) noO (ofO (cst (.int 3)))) aNil))))) ρ).map fun ds => (0, .lst ds))))
    (seqS (appS 13 0 (keep0 (fun ρ => ((small (kept (aCons (varP 4) (aCons (fun ρ => ((small (kept aNil)) ρ).map fun ds => (0, .lst ds)) (aCons (fun ρ => ((small (kept aNil)) ρ).map fun ds => (0, .lst ds)) aNil))))) ρ).map fun ds => (0, .lst ds))))
    (frzS 13 (retS 0 (keep0 (varP 13)))))))))))))))))))))))))))))))))))))
def F_law_near : Ar → Option D := runB 4 14 b_law_near
theorem bd_law_near (G : Gd P w K mg base k) (f : Addr) (cdv : Value) (A : Around) (outer : List Env) (s : Shared) (H : Hp) (E : XK) (hr : Room 1 (A.deeper (envOfC "_law_near" (defScope s_law_near) s.heap.objs.size f cdv))) :
    PSs (cxOf CX0 P w K mg base ["right", "names", "rows", "draws", "kind", "numbers", "columns", "i", "j", "a", "b", "name", "number", "near"] "_law_near" (defScope s_law_near) f cdv A outer s H E).nox (defBody s_law_near) (tS k false 0 b_law_near) := by
    have hk : k.K = K := G.kK
    have ok_law_put := ok_law_put (base := base) (P := P) (w := w) G
    exact (is_cons (is_set (i := 4) (ps_set (i := 4) sc_law_near.nd rfl (by first | exact .inl rfl | exact .inr rfl) (ig0 (ip_ix (ip_var (pe_var (i := 0) rfl (by first | exact .inl rfl | exact .inr (.inl rfl) | exact .inr (.inr rfl)))) ip_int (by intro _ _; rfl) hk))))
    (is_cons (is_set (i := 5) (ps_set (i := 5) sc_law_near.nd rfl (by first | exact .inl rfl | exact .inr rfl) (ig0 (ip_ix (ip_var (pe_var (i := 0) rfl (by first | exact .inl rfl | exact .inr (.inl rfl) | exact .inr (.inr rfl)))) ip_int (by intro _ _; rfl) hk))))
    (is_cons (is_set (i := 6) (ps_set (i := 6) sc_law_near.nd rfl (by first | exact .inl rfl | exact .inr rfl) (ig0 (ip_ix (ip_var (pe_var (i := 0) rfl (by first | exact .inl rfl | exact .inr (.inl rfl) | exact .inr (.inr rfl)))) ip_int (by intro _ _; rfl) hk))))
    (is_cons (is_set (i := 7) (ps_set (i := 7) sc_law_near.nd rfl (by first | exact .inl rfl | exact .inr rfl) (ig0 (ip_mod (ip_bi (bi_int hk rfl) rfl G.n_int (ia_cons (ip_ix (ip_var (pe_var (i := 3) rfl (by first | exact .inl rfl | exact .inr (.inl rfl) | exact .inr (.inr rfl)))) ip_int (by intro _ _; rfl) hk) ia_nil)) (ip_bi (bi_len hk rfl) rfl G.n_len (ia_cons (ip_var (pe_var (i := 5) rfl (by first | exact .inl rfl | exact .inr (.inl rfl) | exact .inr (.inr rfl)))) ia_nil))))))
    (is_cons (is_set (i := 8) (ps_set (i := 8) sc_law_near.nd rfl (by first | exact .inl rfl | exact .inr rfl) (ig0 (ip_mod (ip_bi (bi_int hk rfl) rfl G.n_int (ia_cons (ip_ix (ip_var (pe_var (i := 3) rfl (by first | exact .inl rfl | exact .inr (.inl rfl) | exact .inr (.inr rfl)))) ip_int (by intro _ _; rfl) hk) ia_nil)) (ip_bi (bi_len hk rfl) rfl G.n_len (ia_cons (ip_var (pe_var (i := 5) rfl (by first | exact .inl rfl | exact .inr (.inl rfl) | exact .inr (.inr rfl)))) ia_nil))))))
    (is_cons (is_set (i := 9) (ps_set (i := 9) sc_law_near.nd rfl (by first | exact .inl rfl | exact .inr rfl) (ig0 (ip_mod (ip_bi (bi_int hk rfl) rfl G.n_int (ia_cons (ip_ix (ip_var (pe_var (i := 3) rfl (by first | exact .inl rfl | exact .inr (.inl rfl) | exact .inr (.inr rfl)))) ip_int (by intro _ _; rfl) hk) ia_nil)) (ip_bi (bi_len hk rfl) rfl G.n_len (ia_cons (ip_var (pe_var (i := 6) rfl (by first | exact .inl rfl | exact .inr (.inl rfl) | exact .inr (.inr rfl)))) ia_nil))))))
    (is_cons (is_set (i := 10) (ps_set (i := 10) sc_law_near.nd rfl (by first | exact .inl rfl | exact .inr rfl) (ig0 (ip_mod (ip_bi (bi_int hk rfl) rfl G.n_int (ia_cons (ip_ix (ip_var (pe_var (i := 3) rfl (by first | exact .inl rfl | exact .inr (.inl rfl) | exact .inr (.inr rfl)))) ip_int (by intro _ _; rfl) hk) ia_nil)) (ip_bi (bi_len hk rfl) rfl G.n_len (ia_cons (ip_var (pe_var (i := 6) rfl (by first | exact .inl rfl | exact .inr (.inl rfl) | exact .inr (.inr rfl)))) ia_nil))))))
    (is_cons (is_set (i := 11) (ps_set (i := 11) sc_law_near.nd rfl (by first | exact .inl rfl | exact .inr rfl) (ig0 (ip_ix (ip_var (pe_var (i := 1) rfl (by first | exact .inl rfl | exact .inr (.inl rfl) | exact .inr (.inr rfl)))) (ip_mod (ip_bi (bi_int hk rfl) rfl G.n_int (ia_cons (ip_ix (ip_var (pe_var (i := 3) rfl (by first | exact .inl rfl | exact .inr (.inl rfl) | exact .inr (.inr rfl)))) ip_int (by intro _ _; rfl) hk) ia_nil)) (ip_bi (bi_len hk rfl) rfl G.n_len (ia_cons (ip_var (pe_var (i := 1) rfl (by first | exact .inl rfl | exact .inr (.inl rfl) | exact .inr (.inr rfl)))) ia_nil))) (by intro _ _; rfl) hk))))
    (is_cons (is_set (i := 12) (ps_set (i := 12) sc_law_near.nd rfl (by first | exact .inl rfl | exact .inr rfl) (ig0 (ip_mod (ip_bi (bi_int hk rfl) rfl G.n_int (ia_cons (ip_ix (ip_var (pe_var (i := 3) rfl (by first | exact .inl rfl | exact .inr (.inl rfl) | exact .inr (.inr rfl)))) ip_int (by intro _ _; rfl) hk) ia_nil)) (ip_bi (bi_len hk rfl) rfl G.n_len (ia_cons (ip_var (pe_var (i := 2) rfl (by first | exact .inl rfl | exact .inr (.inl rfl) | exact .inr (.inr rfl)))) ia_nil))))))
    (is_cons (is_setO (i := 13) (ps_set (i := 13) sc_law_near.nd rfl (by first | exact .inl rfl | exact .inr rfl) (ig_new (in_lst (ia_cons (ip_new (in_lst (ia_cons (ip_var (pe_var (i := 4) rfl (by first | exact .inl rfl | exact .inr (.inl rfl) | exact .inr (.inr rfl)))) (ia_cons (ip_of (ig_call ok_law_put (hr.mono (by decide)) rfl (ia_cons (ip_of (ig_call ok_law_put (hr.mono (by decide)) rfl (ia_cons (ip_var (pe_var (i := 5) rfl (by first | exact .inl rfl | exact .inr (.inl rfl) | exact .inr (.inr rfl)))) (ia_cons (ip_var (pe_var (i := 7) rfl (by first | exact .inl rfl | exact .inr (.inl rfl) | exact .inr (.inr rfl)))) (ia_cons (ip_ix (ip_var (pe_var (i := 5) rfl (by first | exact .inl rfl | exact .inr (.inl rfl) | exact .inr (.inr rfl)))) (ip_var (pe_var (i := 8) rfl (by first | exact .inl rfl | exact .inr (.inl rfl) | exact .inr (.inr rfl)))) (by intro _ _; rfl) hk) ia_nil))))) (ia_cons (ip_var (pe_var (i := 8) rfl (by first | exact .inl rfl | exact .inr (.inl rfl) | exact .inr (.inr rfl)))) (ia_cons (ip_ix (ip_var (pe_var (i := 5) rfl (by first | exact .inl rfl | exact .inr (.inl rfl) | exact .inr (.inr rfl)))) (ip_var (pe_var (i := 7) rfl (by first | exact .inl rfl | exact .inr (.inl rfl) | exact .inr (.inr rfl)))) (by intro _ _; rfl) hk) ia_nil))))) (ia_cons (ip_var (pe_var (i := 6) rfl (by first | exact .inl rfl | exact .inr (.inl rfl) | exact .inr (.inr rfl)))) ia_nil))))) ia_nil)))))
    (is_cons (is_appV hk (pe_var (i := 13) rfl (by first | exact .inl rfl | exact .inr (.inl rfl) | exact .inr (.inr rfl))) (ig0 (ip_new (in_lst (ia_cons (ip_var (pe_var (i := 4) rfl (by first | exact .inl rfl | exact .inr (.inl rfl) | exact .inr (.inr rfl)))) (ia_cons (ip_var (pe_var (i := 5) rfl (by first | exact .inl rfl | exact .inr (.inl rfl) | exact .inr (.inr rfl)))) (ia_cons (ip_of (ig_call ok_law_put (hr.mono (by decide)) rfl (ia_cons (ip_of (ig_call ok_law_put (hr.mono (by decide)) rfl (ia_cons (ip_var (pe_var (i := 6) rfl (by first | exact .inl rfl | exact .inr (.inl rfl) | exact .inr (.inr rfl)))) (ia_cons (ip_var (pe_var (i := 9) rfl (by first | exact .inl rfl | exact .inr (.inl rfl) | exact .inr (.inr rfl)))) (ia_cons (ip_ix (ip_var (pe_var (i := 6) rfl (by first | exact .inl rfl | exact .inr (.inl rfl) | exact .inr (.inr rfl)))) (ip_var (pe_var (i := 10) rfl (by first | exact .inl rfl | exact .inr (.inl rfl) | exact .inr (.inr rfl)))) (by intro _ _; rfl) hk) ia_nil))))) (ia_cons (ip_var (pe_var (i := 10) rfl (by first | exact .inl rfl | exact .inr (.inl rfl) | exact .inr (.inr rfl)))) (ia_cons (ip_ix (ip_var (pe_var (i := 6) rfl (by first | exact .inl rfl | exact .inr (.inl rfl) | exact .inr (.inr rfl)))) (ip_var (pe_var (i := 9) rfl (by first | exact .inl rfl | exact .inr (.inl rfl) | exact .inr (.inr rfl)))) (by intro _ _; rfl) hk) ia_nil))))) ia_nil)))))))
    (is_cons (is_appV hk (pe_var (i := 13) rfl (by first | exact .inl rfl | exact .inr (.inl rfl) | exact .inr (.inr rfl))) (ig0 (ip_new (in_lst (ia_cons (ip_var (pe_var (i := 4) rfl (by first | exact .inl rfl | exact .inr (.inl rfl) | exact .inr (.inr rfl)))) (ia_cons (ip_var (pe_var (i := 5) rfl (by first | exact .inl rfl | exact .inr (.inl rfl) | exact .inr (.inr rfl)))) (ia_cons (ip_add hk (ip_cut (ip_var (pe_var (i := 6) rfl (by first | exact .inl rfl | exact .inr (.inl rfl) | exact .inr (.inr rfl)))) (io_some ip_int) io_none hk) (ip_cut (ip_var (pe_var (i := 6) rfl (by first | exact .inl rfl | exact .inr (.inl rfl) | exact .inr (.inr rfl)))) io_none (io_some ip_int) hk)) ia_nil)))))))
    (is_cons (is_appV hk (pe_var (i := 13) rfl (by first | exact .inl rfl | exact .inr (.inl rfl) | exact .inr (.inr rfl))) (ig0 (ip_new (in_lst (ia_cons (ip_var (pe_var (i := 4) rfl (by first | exact .inl rfl | exact .inr (.inl rfl) | exact .inr (.inr rfl)))) (ia_cons (ip_var (pe_var (i := 5) rfl (by first | exact .inl rfl | exact .inr (.inl rfl) | exact .inr (.inr rfl)))) (ia_cons (ip_cut (ip_var (pe_var (i := 6) rfl (by first | exact .inl rfl | exact .inr (.inl rfl) | exact .inr (.inr rfl)))) io_none (io_some (ip_neg ip_int)) hk) ia_nil)))))))
    (is_cons (is_appV hk (pe_var (i := 13) rfl (by first | exact .inl rfl | exact .inr (.inl rfl) | exact .inr (.inr rfl))) (ig0 (ip_new (in_lst (ia_cons (ip_var (pe_var (i := 4) rfl (by first | exact .inl rfl | exact .inr (.inl rfl) | exact .inr (.inr rfl)))) (ia_cons (ip_cut (ip_var (pe_var (i := 5) rfl (by first | exact .inl rfl | exact .inr (.inl rfl) | exact .inr (.inr rfl)))) (io_some ip_int) io_none hk) (ia_cons (ip_var (pe_var (i := 6) rfl (by first | exact .inl rfl | exact .inr (.inl rfl) | exact .inr (.inr rfl)))) ia_nil)))))))
    (is_cons (is_appV hk (pe_var (i := 13) rfl (by first | exact .inl rfl | exact .inr (.inl rfl) | exact .inr (.inr rfl))) (ig0 (ip_new (in_lst (ia_cons (ip_var (pe_var (i := 4) rfl (by first | exact .inl rfl | exact .inr (.inl rfl) | exact .inr (.inr rfl)))) (ia_cons (ip_cut (ip_var (pe_var (i := 5) rfl (by first | exact .inl rfl | exact .inr (.inl rfl) | exact .inr (.inr rfl)))) io_none (io_some (ip_neg ip_int)) hk) (ia_cons (ip_cut (ip_var (pe_var (i := 6) rfl (by first | exact .inl rfl | exact .inr (.inl rfl) | exact .inr (.inr rfl)))) io_none (io_some (ip_neg ip_int)) hk) ia_nil)))))))
    (is_cons (is_appV hk (pe_var (i := 13) rfl (by first | exact .inl rfl | exact .inr (.inl rfl) | exact .inr (.inr rfl))) (ig0 (ip_new (in_lst (ia_cons (ip_var (pe_var (i := 4) rfl (by first | exact .inl rfl | exact .inr (.inl rfl) | exact .inr (.inr rfl)))) (ia_cons (ip_cut (ip_var (pe_var (i := 5) rfl (by first | exact .inl rfl | exact .inr (.inl rfl) | exact .inr (.inr rfl)))) io_none (io_some ip_int) hk) (ia_cons (ip_cut (ip_var (pe_var (i := 6) rfl (by first | exact .inl rfl | exact .inr (.inl rfl) | exact .inr (.inr rfl)))) io_none (io_some ip_int) hk) ia_nil)))))))
    (is_cons (is_appV hk (pe_var (i := 13) rfl (by first | exact .inl rfl | exact .inr (.inl rfl) | exact .inr (.inr rfl))) (ig0 (ip_new (in_lst (ia_cons (ip_var (pe_var (i := 4) rfl (by first | exact .inl rfl | exact .inr (.inl rfl) | exact .inr (.inr rfl)))) (ia_cons (ip_add hk (ip_var (pe_var (i := 5) rfl (by first | exact .inl rfl | exact .inr (.inl rfl) | exact .inr (.inr rfl)))) (ip_new (in_lst (ia_cons (ip_var (pe_var (i := 12) rfl (by first | exact .inl rfl | exact .inr (.inl rfl) | exact .inr (.inr rfl)))) ia_nil)))) (ia_cons (ip_var (pe_var (i := 6) rfl (by first | exact .inl rfl | exact .inr (.inl rfl) | exact .inr (.inr rfl)))) ia_nil)))))))
    (is_cons (is_appV hk (pe_var (i := 13) rfl (by first | exact .inl rfl | exact .inr (.inl rfl) | exact .inr (.inr rfl))) (ig0 (ip_new (in_lst (ia_cons (ip_var (pe_var (i := 4) rfl (by first | exact .inl rfl | exact .inr (.inl rfl) | exact .inr (.inr rfl)))) (ia_cons (ip_var (pe_var (i := 5) rfl (by first | exact .inl rfl | exact .inr (.inl rfl) | exact .inr (.inr rfl)))) (ia_cons (ip_add hk (ip_var (pe_var (i := 6) rfl (by first | exact .inl rfl | exact .inr (.inl rfl) | exact .inr (.inr rfl)))) (ip_new (in_lst (ia_cons (ip_var (pe_var (i := 11) rfl (by first | exact .inl rfl | exact .inr (.inl rfl) | exact .inr (.inr rfl)))) ia_nil)))) ia_nil)))))))
    (is_cons (is_appV hk (pe_var (i := 13) rfl (by first | exact .inl rfl | exact .inr (.inl rfl) | exact .inr (.inr rfl))) (ig0 (ip_new (in_lst (ia_cons (ip_var (pe_var (i := 4) rfl (by first | exact .inl rfl | exact .inr (.inl rfl) | exact .inr (.inr rfl)))) (ia_cons (ip_add hk (ip_var (pe_var (i := 5) rfl (by first | exact .inl rfl | exact .inr (.inl rfl) | exact .inr (.inr rfl)))) (ip_new (in_lst (ia_cons (ip_var (pe_var (i := 12) rfl (by first | exact .inl rfl | exact .inr (.inl rfl) | exact .inr (.inr rfl)))) ia_nil)))) (ia_cons (ip_add hk (ip_var (pe_var (i := 6) rfl (by first | exact .inl rfl | exact .inr (.inl rfl) | exact .inr (.inr rfl)))) (ip_new (in_lst (ia_cons (ip_var (pe_var (i := 11) rfl (by first | exact .inl rfl | exact .inr (.inl rfl) | exact .inr (.inr rfl)))) ia_nil)))) ia_nil)))))))
    (is_cons (is_appV hk (pe_var (i := 13) rfl (by first | exact .inl rfl | exact .inr (.inl rfl) | exact .inr (.inr rfl))) (ig0 (ip_new (in_lst (ia_cons (ip_var (pe_var (i := 4) rfl (by first | exact .inl rfl | exact .inr (.inl rfl) | exact .inr (.inr rfl)))) (ia_cons (ip_add hk (ip_var (pe_var (i := 5) rfl (by first | exact .inl rfl | exact .inr (.inl rfl) | exact .inr (.inr rfl)))) (ip_new (in_lst (ia_cons (ip_ix (ip_var (pe_var (i := 5) rfl (by first | exact .inl rfl | exact .inr (.inl rfl) | exact .inr (.inr rfl)))) (ip_var (pe_var (i := 7) rfl (by first | exact .inl rfl | exact .inr (.inl rfl) | exact .inr (.inr rfl)))) (by intro _ _; rfl) hk) ia_nil)))) (ia_cons (ip_var (pe_var (i := 6) rfl (by first | exact .inl rfl | exact .inr (.inl rfl) | exact .inr (.inr rfl)))) ia_nil)))))))
    (is_cons (is_appV hk (pe_var (i := 13) rfl (by first | exact .inl rfl | exact .inr (.inl rfl) | exact .inr (.inr rfl))) (ig0 (ip_new (in_lst (ia_cons (ip_var (pe_var (i := 4) rfl (by first | exact .inl rfl | exact .inr (.inl rfl) | exact .inr (.inr rfl)))) (ia_cons (ip_of (ig_call ok_law_put (hr.mono (by decide)) rfl (ia_cons (ip_var (pe_var (i := 5) rfl (by first | exact .inl rfl | exact .inr (.inl rfl) | exact .inr (.inr rfl)))) (ia_cons (ip_var (pe_var (i := 7) rfl (by first | exact .inl rfl | exact .inr (.inl rfl) | exact .inr (.inr rfl)))) (ia_cons (ip_ix (ip_var (pe_var (i := 5) rfl (by first | exact .inl rfl | exact .inr (.inl rfl) | exact .inr (.inr rfl)))) (ip_var (pe_var (i := 8) rfl (by first | exact .inl rfl | exact .inr (.inl rfl) | exact .inr (.inr rfl)))) (by intro _ _; rfl) hk) ia_nil))))) (ia_cons (ip_var (pe_var (i := 6) rfl (by first | exact .inl rfl | exact .inr (.inl rfl) | exact .inr (.inr rfl)))) ia_nil)))))))
    (is_cons (is_appV hk (pe_var (i := 13) rfl (by first | exact .inl rfl | exact .inr (.inl rfl) | exact .inr (.inr rfl))) (ig0 (ip_new (in_lst (ia_cons (ip_var (pe_var (i := 4) rfl (by first | exact .inl rfl | exact .inr (.inl rfl) | exact .inr (.inr rfl)))) (ia_cons (ip_of (ig_call ok_law_put (hr.mono (by decide)) rfl (ia_cons (ip_var (pe_var (i := 5) rfl (by first | exact .inl rfl | exact .inr (.inl rfl) | exact .inr (.inr rfl)))) (ia_cons (ip_var (pe_var (i := 7) rfl (by first | exact .inl rfl | exact .inr (.inl rfl) | exact .inr (.inr rfl)))) (ia_cons (ip_var (pe_var (i := 12) rfl (by first | exact .inl rfl | exact .inr (.inl rfl) | exact .inr (.inr rfl)))) ia_nil))))) (ia_cons (ip_var (pe_var (i := 6) rfl (by first | exact .inl rfl | exact .inr (.inl rfl) | exact .inr (.inr rfl)))) ia_nil)))))))
    (is_cons (is_appV hk (pe_var (i := 13) rfl (by first | exact .inl rfl | exact .inr (.inl rfl) | exact .inr (.inr rfl))) (ig0 (ip_new (in_lst (ia_cons (ip_var (pe_var (i := 4) rfl (by first | exact .inl rfl | exact .inr (.inl rfl) | exact .inr (.inr rfl)))) (ia_cons (ip_of (ig_call ok_law_put (hr.mono (by decide)) rfl (ia_cons (ip_var (pe_var (i := 5) rfl (by first | exact .inl rfl | exact .inr (.inl rfl) | exact .inr (.inr rfl)))) (ia_cons (ip_var (pe_var (i := 7) rfl (by first | exact .inl rfl | exact .inr (.inl rfl) | exact .inr (.inr rfl)))) (ia_cons (ip_sub (ip_ix (ip_var (pe_var (i := 5) rfl (by first | exact .inl rfl | exact .inr (.inl rfl) | exact .inr (.inr rfl)))) (ip_var (pe_var (i := 7) rfl (by first | exact .inl rfl | exact .inr (.inl rfl) | exact .inr (.inr rfl)))) (by intro _ _; rfl) hk) (ip_bi (bi_len hk rfl) rfl G.n_len (ia_cons (ip_var (pe_var (i := 2) rfl (by first | exact .inl rfl | exact .inr (.inl rfl) | exact .inr (.inr rfl)))) ia_nil))) ia_nil))))) (ia_cons (ip_var (pe_var (i := 6) rfl (by first | exact .inl rfl | exact .inr (.inl rfl) | exact .inr (.inr rfl)))) ia_nil)))))))
    (is_cons (is_appV hk (pe_var (i := 13) rfl (by first | exact .inl rfl | exact .inr (.inl rfl) | exact .inr (.inr rfl))) (ig0 (ip_new (in_lst (ia_cons (ip_var (pe_var (i := 4) rfl (by first | exact .inl rfl | exact .inr (.inl rfl) | exact .inr (.inr rfl)))) (ia_cons (ip_of (ig_call ok_law_put (hr.mono (by decide)) rfl (ia_cons (ip_var (pe_var (i := 5) rfl (by first | exact .inl rfl | exact .inr (.inl rfl) | exact .inr (.inr rfl)))) (ia_cons (ip_var (pe_var (i := 7) rfl (by first | exact .inl rfl | exact .inr (.inl rfl) | exact .inr (.inr rfl)))) (ia_cons (ip_bi (bi_len hk rfl) rfl G.n_len (ia_cons (ip_var (pe_var (i := 2) rfl (by first | exact .inl rfl | exact .inr (.inl rfl) | exact .inr (.inr rfl)))) ia_nil)) ia_nil))))) (ia_cons (ip_var (pe_var (i := 6) rfl (by first | exact .inl rfl | exact .inr (.inl rfl) | exact .inr (.inr rfl)))) ia_nil)))))))
    (is_cons (is_appV hk (pe_var (i := 13) rfl (by first | exact .inl rfl | exact .inr (.inl rfl) | exact .inr (.inr rfl))) (ig0 (ip_new (in_lst (ia_cons (ip_var (pe_var (i := 4) rfl (by first | exact .inl rfl | exact .inr (.inl rfl) | exact .inr (.inr rfl)))) (ia_cons (ip_add hk (ip_var (pe_var (i := 5) rfl (by first | exact .inl rfl | exact .inr (.inl rfl) | exact .inr (.inr rfl)))) (ip_new (in_lst (ia_cons (ip_bi (bi_len hk rfl) rfl G.n_len (ia_cons (ip_var (pe_var (i := 2) rfl (by first | exact .inl rfl | exact .inr (.inl rfl) | exact .inr (.inr rfl)))) ia_nil)) ia_nil)))) (ia_cons (ip_var (pe_var (i := 6) rfl (by first | exact .inl rfl | exact .inr (.inl rfl) | exact .inr (.inr rfl)))) ia_nil)))))))
    (is_cons (is_appV hk (pe_var (i := 13) rfl (by first | exact .inl rfl | exact .inr (.inl rfl) | exact .inr (.inr rfl))) (ig0 (ip_new (in_lst (ia_cons (ip_var (pe_var (i := 4) rfl (by first | exact .inl rfl | exact .inr (.inl rfl) | exact .inr (.inr rfl)))) (ia_cons (ip_of (ig_call ok_law_put (hr.mono (by decide)) rfl (ia_cons (ip_var (pe_var (i := 5) rfl (by first | exact .inl rfl | exact .inr (.inl rfl) | exact .inr (.inr rfl)))) (ia_cons (ip_var (pe_var (i := 7) rfl (by first | exact .inl rfl | exact .inr (.inl rfl) | exact .inr (.inr rfl)))) (ia_cons (ip_neg ip_int) ia_nil))))) (ia_cons (ip_var (pe_var (i := 6) rfl (by first | exact .inl rfl | exact .inr (.inl rfl) | exact .inr (.inr rfl)))) ia_nil)))))))
    (is_cons (is_appV hk (pe_var (i := 13) rfl (by first | exact .inl rfl | exact .inr (.inl rfl) | exact .inr (.inr rfl))) (ig0 (ip_new (in_lst (ia_cons (ip_var (pe_var (i := 4) rfl (by first | exact .inl rfl | exact .inr (.inl rfl) | exact .inr (.inr rfl)))) (ia_cons (ip_var (pe_var (i := 5) rfl (by first | exact .inl rfl | exact .inr (.inl rfl) | exact .inr (.inr rfl)))) (ia_cons (ip_of (ig_call ok_law_put (hr.mono (by decide)) rfl (ia_cons (ip_var (pe_var (i := 6) rfl (by first | exact .inl rfl | exact .inr (.inl rfl) | exact .inr (.inr rfl)))) (ia_cons (ip_var (pe_var (i := 9) rfl (by first | exact .inl rfl | exact .inr (.inl rfl) | exact .inr (.inr rfl)))) (ia_cons (ip_var (pe_var (i := 11) rfl (by first | exact .inl rfl | exact .inr (.inl rfl) | exact .inr (.inr rfl)))) ia_nil))))) ia_nil)))))))
    (is_cons (is_appV hk (pe_var (i := 13) rfl (by first | exact .inl rfl | exact .inr (.inl rfl) | exact .inr (.inr rfl))) (ig0 (ip_new (in_lst (ia_cons (ip_var (pe_var (i := 4) rfl (by first | exact .inl rfl | exact .inr (.inl rfl) | exact .inr (.inr rfl)))) (ia_cons (ip_var (pe_var (i := 5) rfl (by first | exact .inl rfl | exact .inr (.inl rfl) | exact .inr (.inr rfl)))) (ia_cons (ip_of (ig_call ok_law_put (hr.mono (by decide)) rfl (ia_cons (ip_var (pe_var (i := 6) rfl (by first | exact .inl rfl | exact .inr (.inl rfl) | exact .inr (.inr rfl)))) (ia_cons (ip_var (pe_var (i := 9) rfl (by first | exact .inl rfl | exact .inr (.inl rfl) | exact .inr (.inr rfl)))) (ia_cons ip_str ia_nil))))) ia_nil)))))))
    (is_cons (is_appV hk (pe_var (i := 13) rfl (by first | exact .inl rfl | exact .inr (.inl rfl) | exact .inr (.inr rfl))) (ig0 (ip_new (in_lst (ia_cons (ip_var (pe_var (i := 4) rfl (by first | exact .inl rfl | exact .inr (.inl rfl) | exact .inr (.inr rfl)))) (ia_cons (ip_var (pe_var (i := 5) rfl (by first | exact .inl rfl | exact .inr (.inl rfl) | exact .inr (.inr rfl)))) (ia_cons (ip_of (ig_call ok_law_put (hr.mono (by decide)) rfl (ia_cons (ip_var (pe_var (i := 6) rfl (by first | exact .inl rfl | exact .inr (.inl rfl) | exact .inr (.inr rfl)))) (ia_cons (ip_var (pe_var (i := 9) rfl (by first | exact .inl rfl | exact .inr (.inl rfl) | exact .inr (.inr rfl)))) (ia_cons (ip_ix (ip_var (pe_var (i := 6) rfl (by first | exact .inl rfl | exact .inr (.inl rfl) | exact .inr (.inr rfl)))) (ip_var (pe_var (i := 10) rfl (by first | exact .inl rfl | exact .inr (.inl rfl) | exact .inr (.inr rfl)))) (by intro _ _; rfl) hk) ia_nil))))) ia_nil)))))))
    (is_cons (is_appV hk (pe_var (i := 13) rfl (by first | exact .inl rfl | exact .inr (.inl rfl) | exact .inr (.inr rfl))) (ig0 (ip_new (in_lst (ia_cons (ip_ix (ip_new (in_lst (ia_cons ip_str (ia_cons ip_str ia_nil)))) (ip_bi (bi_int hk rfl) rfl G.n_int (ia_cons (ip_c2 (oc_eq hk hr.units) (ip_var (pe_var (i := 4) rfl (by first | exact .inl rfl | exact .inr (.inl rfl) | exact .inr (.inr rfl)))) ip_str) ia_nil)) (by intro _ _; rfl) hk) (ia_cons (ip_var (pe_var (i := 5) rfl (by first | exact .inl rfl | exact .inr (.inl rfl) | exact .inr (.inr rfl)))) (ia_cons (ip_var (pe_var (i := 6) rfl (by first | exact .inl rfl | exact .inr (.inl rfl) | exact .inr (.inr rfl)))) ia_nil)))))))
    (is_cons (is_appV hk (pe_var (i := 13) rfl (by first | exact .inl rfl | exact .inr (.inl rfl) | exact .inr (.inr rfl))) (ig0 (ip_new (in_lst (ia_cons (ip_ix (ip_new (in_lst (ia_cons ip_str (ia_cons ip_str (ia_cons ip_str (ia_cons ip_str ia_nil)))))) (ip_mod (ip_bi (bi_int hk rfl) rfl G.n_int (ia_cons (ip_ix (ip_var (pe_var (i := 3) rfl (by first | exact .inl rfl | exact .inr (.inl rfl) | exact .inr (.inr rfl)))) ip_int (by intro _ _; rfl) hk) ia_nil)) ip_int) (by intro _ _; rfl) hk) (ia_cons (ip_var (pe_var (i := 5) rfl (by first | exact .inl rfl | exact .inr (.inl rfl) | exact .inr (.inr rfl)))) (ia_cons (ip_var (pe_var (i := 6) rfl (by first | exact .inl rfl | exact .inr (.inl rfl) | exact .inr (.inr rfl)))) ia_nil)))))))
    (is_cons (is_appV hk (pe_var (i := 13) rfl (by first | exact .inl rfl | exact .inr (.inl rfl) | exact .inr (.inr rfl))) (ig0 (ip_new (in_lst (ia_cons (ip_ix (ip_new (in_lst (ia_cons ip_str (ia_cons ip_str ia_nil)))) (ip_bi (bi_int hk rfl) rfl G.n_int (ia_cons (ip_c2 (oc_eq hk hr.units) (ip_var (pe_var (i := 4) rfl (by first | exact .inl rfl | exact .inr (.inl rfl) | exact .inr (.inr rfl)))) ip_str) ia_nil)) (by intro _ _; rfl) hk) (ia_cons (ip_cut (ip_var (pe_var (i := 5) rfl (by first | exact .inl rfl | exact .inr (.inl rfl) | exact .inr (.inr rfl)))) io_none (io_some ip_int) hk) (ia_cons (ip_cut (ip_var (pe_var (i := 6) rfl (by first | exact .inl rfl | exact .inr (.inl rfl) | exact .inr (.inr rfl)))) io_none (io_some ip_int) hk) ia_nil)))))))
    (is_cons (is_appV hk (pe_var (i := 13) rfl (by first | exact .inl rfl | exact .inr (.inl rfl) | exact .inr (.inr rfl))) (ig0 (ip_new (in_lst (ia_cons (ip_var (pe_var (i := 4) rfl (by first | exact .inl rfl | exact .inr (.inl rfl) | exact .inr (.inr rfl)))) (ia_cons (ip_new (in_lst ia_nil)) (ia_cons (ip_new (in_lst ia_nil)) ia_nil)))))))
    (is_one (is_frz1 (i := 13) (is_ret (ig0 (ip_var (pe_var (i := 13) rfl (by first | exact .inl rfl | exact .inr (.inl rfl) | exact .inr (.inr rfl)))))))))))))))))))))))))))))))))))))))))
theorem ok_law_near (G : Gd P w K mg base k) : OkF P w K mg base k 2 "_law_near" 4 0 F_law_near := by
  obtain ⟨f, fd, F, hm⟩ := G.d_law_near
  exact ok_fn (lv := 1) F sc_law_near hm (F.bindsN fun _ _ _ _ _ _ us hl => match us, hl with | [_, _, _, _], _ => rfl) (fun cdv A outer s H E hr => bd_law_near G f cdv A outer s H E hr)
theorem sc_law_stands : FnScope ["names", "rows", "kind", "numbers", "columns", "many", "picked", "row", "name", "i", "k", "j", "c"] ["names", "rows", "kind", "numbers", "columns"] (defScope s_law_stands) := ⟨rfl, rfl, rfl, by decide +kernel, rfl, by decide +kernel, by decide +kernel⟩
def l_law_stands_1 : Sm :=
    (iteS (andT (chn ltC ltC (cst (.int 1)) (bin subD (varP 9) (varP 11)) (bin subD (varP 5) (cst (.int 1)))) (cmp gtC (callP (c1 lenD) (aCons (frP (lcG [12] (anyI (ixP (varP 6) (varP 9))) (bN 12) (cmp inC (varP 12) (ixP (varP 6) (varP 11))) (keep0 (varP 12)))) aNil)) (cst (.int 0)))) (retS 0 (keep0 (cst (.bl false)))) skS)
def l_law_stands_2 : Sm :=
    (seqS (iteS (orT (cmp ninC (ixP (varP 4) (varP 9)) (ixP (varP 6) (varP 9))) (cmp ninC (ixP (varP 4) (bin modD (callP (c1 intD) (aCons (bin addD (varP 9) (cst (.int 1))) aNil)) (varP 5))) (ixP (varP 6) (varP 9)))) (retS 0 (keep0 (cst (.bl false)))) skS)
    (forS (rngI (rg1 (varP 9))) (bN 11) l_law_stands_1))
def l_law_stands_3 : Sm :=
    (iteS (cmp ltC (callP (c1 lenD) (aCons (frP (lcG [12] (anyI (varP 4)) (bN 12) (cmp inC (varP 12) (varP 7)) (keep0 (varP 12)))) aNil)) (cst (.int 2))) (retS 0 (keep0 (cst (.bl false)))) skS)
def l_law_stands_4 : Sm :=
    (iteS (cmp eqC (callP (c1 lenD) (aCons (frP (lcG [7] (anyI (varP 6)) (bN 7) (cmp inC (varP 8) (varP 7)) (keep0 (varP 7)))) aNil)) (varP 5)) (retS 0 (keep0 (cst (.bl false)))) skS)
def b_law_stands : Sm :=
    (seqS (setS 5 (keep0 (callP (c1 lenD) (aCons (varP 3) aNil))))
    (seqS (iteS (orT (cmp gtC (callP (c1 lenD) (aCons (frP (lcG [10] (anyI (varP 3)) (bN 10) (notT (chn leC ltC (cst (.int 0)) (varP 10) (callP (c1 lenD) (aCons (varP 1) aNil)))) (keep0 (varP 10)))) aNil)) (cst (.int 0))) (cmp gtC (callP (c1 lenD) (aCons (frP (lcG [12] (anyI (varP 4)) (bN 12) (cmp ninC (varP 12) (varP 0)) (keep0 (varP 12)))) aNil)) (cst (.int 0)))) (retS 0 (keep0 (cst (.bl false)))) skS)
    (seqS (iteS (orT (cmp ltC (una lsetD (varP 3)) (varP 5)) (cmp ltC (una lsetD (varP 4)) (callP (c1 lenD) (aCons (varP 4) aNil)))) (retS 0 (keep0 (cst (.bl false)))) skS)
    (seqS (setS 6 (lcG [10] (anyI (varP 3)) (bN 10) yesT (keep0 (ixP (varP 1) (varP 10)))))
    (seqS (iteS (cmp eqC (varP 2) (cst (.str "ring"))) (seqS (iteS (orT (cmp ltC (varP 5) (cst (.int 4))) (cmp neC (callP (c1 lenD) (aCons (varP 4) aNil)) (varP 5))) (retS 0 (keep0 (cst (.bl false)))) skS)
    (seqS (forS (rngI (rg1 (varP 5))) (bN 9) l_law_stands_2)
    (retS 0 (keep0 (cst (.bl true)))))) skS)
    (seqS (iteS (orT (cmp neC (varP 2) (cst (.str "crowd"))) (orT (cmp ltC (varP 5) (cst (.int 3))) (cmp neC (callP (c1 lenD) (aCons (varP 4) aNil)) (cst (.int 3))))) (retS 0 (keep0 (cst (.bl false)))) skS)
    (seqS (forS (anyI (varP 6)) (bN 7) l_law_stands_3)
    (seqS (forS (anyI (varP 0)) (bN 8) l_law_stands_4)
    (retS 0 (keep0 (cst (.bl true))))))))))))
def F_law_stands : Ar → Option D := runB 5 13 b_law_stands
theorem bd_law_stands (G : Gd P w K mg base k) (f : Addr) (cdv : Value) (A : Around) (outer : List Env) (s : Shared) (H : Hp) (E : XK) (hr : Room 0 (A.deeper (envOfC "_law_stands" (defScope s_law_stands) s.heap.objs.size f cdv))) :
    PSs (cxOf CX0 P w K mg base ["names", "rows", "kind", "numbers", "columns", "many", "picked", "row", "name", "i", "k", "j", "c"] "_law_stands" (defScope s_law_stands) f cdv A outer s H E).nox (defBody s_law_stands) (tS k false 0 b_law_stands) := by
    have hk : k.K = K := G.kK
    exact (is_cons (is_set (i := 5) (ps_set (i := 5) sc_law_stands.nd rfl (by first | exact .inl rfl | exact .inr rfl) (ig0 (ip_bi (bi_len hk rfl) rfl G.n_len (ia_cons (ip_var (pe_var (i := 3) rfl (by first | exact .inl rfl | exact .inr (.inl rfl) | exact .inr (.inr rfl)))) ia_nil)))))
    (is_cons (is_if (PW.pt (iw_or (it_c2 (oc_gt hk hr.units) (ip_bi (bi_len hk rfl) rfl G.n_len (ia_cons (ip_of (ig_lc (own := [("k", 10)]) rfl sc_law_stands.nd (ii_any hk (ip_var (pe_var (i := 3) rfl (by first | exact .inl rfl | exact .inr (.inl rfl) | exact .inr (.inr rfl))))) (blk_of (N := ["names", "rows", "kind", "numbers", "columns", "many", "picked", "row", "name", "i", "k", "j", "c"]) (by kernel_rfl)) (fun _ _ _ _ _ => (it_name (pg_name (i := 10) sc_law_stands.nd rfl (by first | exact .inl rfl | exact .inr rfl)))) (fun _ _ _ _ _ => (its_one (it_not (it_c3 (oc_le hk hr.units) (oc_lt hk hr.units) ip_int (ip_var (pe_var (i := 10) rfl (by first | exact .inl rfl | exact .inr (.inl rfl) | exact .inr (.inr rfl)))) (ip_bi (bi_len hk rfl) rfl G.n_len (ia_cons (ip_var (pe_var (i := 1) rfl (by first | exact .inl rfl | exact .inr (.inl rfl) | exact .inr (.inr rfl)))) ia_nil)))))) (fun _ _ _ _ _ => (ig0 (ip_var (pe_var (i := 10) rfl (by first | exact .inl rfl | exact .inr (.inl rfl) | exact .inr (.inr rfl)))))) (by decide))) ia_nil)) ip_int) (iw_or1 (it_c2 (oc_gt hk hr.units) (ip_bi (bi_len hk rfl) rfl G.n_len (ia_cons (ip_of (ig_lc (own := [("c", 12)]) rfl sc_law_stands.nd (ii_any hk (ip_var (pe_var (i := 4) rfl (by first | exact .inl rfl | exact .inr (.inl rfl) | exact .inr (.inr rfl))))) (blk_of (N := ["names", "rows", "kind", "numbers", "columns", "many", "picked", "row", "name", "i", "k", "j", "c"]) (by kernel_rfl)) (fun _ _ _ _ _ => (it_name (pg_name (i := 12) sc_law_stands.nd rfl (by first | exact .inl rfl | exact .inr rfl)))) (fun _ _ _ _ _ => (its_one (it_c2 (oc_nin hk hr.units) (ip_var (pe_var (i := 12) rfl (by first | exact .inl rfl | exact .inr (.inl rfl) | exact .inr (.inr rfl)))) (ip_var (pe_var (i := 0) rfl (by first | exact .inl rfl | exact .inr (.inl rfl) | exact .inr (.inr rfl))))))) (fun _ _ _ _ _ => (ig0 (ip_var (pe_var (i := 12) rfl (by first | exact .inl rfl | exact .inr (.inl rfl) | exact .inr (.inr rfl)))))) (by decide))) ia_nil)) ip_int)))) (is_one (is_ret (ig0 ip_bl))) is_nil)
    (is_cons (is_if (PW.pt (iw_or (it_c2 (oc_lt hk hr.units) (ip_lset hk rfl rfl G.n_len rfl G.n_set (ip_var (pe_var (i := 3) rfl (by first | exact .inl rfl | exact .inr (.inl rfl) | exact .inr (.inr rfl))))) (ip_var (pe_var (i := 5) rfl (by first | exact .inl rfl | exact .inr (.inl rfl) | exact .inr (.inr rfl))))) (iw_or1 (it_c2 (oc_lt hk hr.units) (ip_lset hk rfl rfl G.n_len rfl G.n_set (ip_var (pe_var (i := 4) rfl (by first | exact .inl rfl | exact .inr (.inl rfl) | exact .inr (.inr rfl))))) (ip_bi (bi_len hk rfl) rfl G.n_len (ia_cons (ip_var (pe_var (i := 4) rfl (by first | exact .inl rfl | exact .inr (.inl rfl) | exact .inr (.inr rfl)))) ia_nil)))))) (is_one (is_ret (ig0 ip_bl))) is_nil)
    (is_cons (is_set (i := 6) (ps_set (i := 6) sc_law_stands.nd rfl (by first | exact .inl rfl | exact .inr rfl) (ig_sub (ig_lc (own := [("k", 10)]) rfl sc_law_stands.nd (ii_any hk (ip_var (pe_var (i := 3) rfl (by first | exact .inl rfl | exact .inr (.inl rfl) | exact .inr (.inr rfl))))) (blk_of (N := ["names", "rows", "kind", "numbers", "columns", "many", "picked", "row", "name", "i", "k", "j", "c"]) (by kernel_rfl)) (fun _ _ _ _ _ => (it_name (pg_name (i := 10) sc_law_stands.nd rfl (by first | exact .inl rfl | exact .inr rfl)))) (fun _ _ _ _ _ => its_yes) (fun _ _ _ _ _ => (ig0 (ip_ix (ip_var (pe_var (i := 1) rfl (by first | exact .inl rfl | exact .inr (.inl rfl) | exact .inr (.inr rfl)))) (ip_var (pe_var (i := 10) rfl (by first | exact .inl rfl | exact .inr (.inl rfl) | exact .inr (.inr rfl)))) (by intro _ _; rfl) hk))) (by decide)))))
    (is_cons (is_if (it_c2 (oc_eq hk hr.units) (ip_var (pe_var (i := 2) rfl (by first | exact .inl rfl | exact .inr (.inl rfl) | exact .inr (.inr rfl)))) ip_str) (is_cons (is_if (PW.pt (iw_or (it_c2 (oc_lt hk hr.units) (ip_var (pe_var (i := 5) rfl (by first | exact .inl rfl | exact .inr (.inl rfl) | exact .inr (.inr rfl)))) ip_int) (iw_or1 (it_c2 (oc_ne hk hr.units) (ip_bi (bi_len hk rfl) rfl G.n_len (ia_cons (ip_var (pe_var (i := 4) rfl (by first | exact .inl rfl | exact .inr (.inl rfl) | exact .inr (.inr rfl)))) ia_nil)) (ip_var (pe_var (i := 5) rfl (by first | exact .inl rfl | exact .inr (.inl rfl) | exact .inr (.inr rfl)))))))) (is_one (is_ret (ig0 ip_bl))) is_nil)
    (is_cons (is_for (ii_range1 rfl G.n_range (ip_var (pe_var (i := 5) rfl (by first | exact .inl rfl | exact .inr (.inl rfl) | exact .inr (.inr rfl))))) (it_name (pg_name (i := 9) sc_law_stands.nd rfl (by first | exact .inl rfl | exact .inr rfl))) (is_cons (is_if (PW.pt (iw_or (it_c2 (oc_nin hk hr.units) (ip_ix (ip_var (pe_var (i := 4) rfl (by first | exact .inl rfl | exact .inr (.inl rfl) | exact .inr (.inr rfl)))) (ip_var (pe_var (i := 9) rfl (by first | exact .inl rfl | exact .inr (.inl rfl) | exact .inr (.inr rfl)))) (by intro _ _; rfl) hk) (ip_ix (ip_var (pe_var (i := 6) rfl (by first | exact .inl rfl | exact .inr (.inl rfl) | exact .inr (.inr rfl)))) (ip_var (pe_var (i := 9) rfl (by first | exact .inl rfl | exact .inr (.inl rfl) | exact .inr (.inr rfl)))) (by intro _ _; rfl) hk)) (iw_or1 (it_c2 (oc_nin hk hr.units) (ip_ix (ip_var (pe_var (i := 4) rfl (by first | exact .inl rfl | exact .inr (.inl rfl) | exact .inr (.inr rfl)))) (ip_mod (ip_bi (bi_int hk rfl) rfl G.n_int (ia_cons (ip_add hk (ip_var (pe_var (i := 9) rfl (by first | exact .inl rfl | exact .inr (.inl rfl) | exact .inr (.inr rfl)))) ip_int) ia_nil)) (ip_var (pe_var (i := 5) rfl (by first | exact .inl rfl | exact .inr (.inl rfl) | exact .inr (.inr rfl))))) (by intro _ _; rfl) hk) (ip_ix (ip_var (pe_var (i := 6) rfl (by first | exact .inl rfl | exact .inr (.inl rfl) | exact .inr (.inr rfl)))) (ip_var (pe_var (i := 9) rfl (by first | exact .inl rfl | exact .inr (.inl rfl) | exact .inr (.inr rfl)))) (by intro _ _; rfl) hk))))) (is_one (is_ret (ig0 ip_bl))) is_nil)
    (is_one (is_for (ii_range1 rfl G.n_range (ip_var (pe_var (i := 9) rfl (by first | exact .inl rfl | exact .inr (.inl rfl) | exact .inr (.inr rfl))))) (it_name (pg_name (i := 11) sc_law_stands.nd rfl (by first | exact .inl rfl | exact .inr rfl))) (is_one (is_if (PW.pt (iw_and (it_c3 (oc_lt hk hr.units) (oc_lt hk hr.units) ip_int (ip_sub (ip_var (pe_var (i := 9) rfl (by first | exact .inl rfl | exact .inr (.inl rfl) | exact .inr (.inr rfl)))) (ip_var (pe_var (i := 11) rfl (by first | exact .inl rfl | exact .inr (.inl rfl) | exact .inr (.inr rfl))))) (ip_sub (ip_var (pe_var (i := 5) rfl (by first | exact .inl rfl | exact .inr (.inl rfl) | exact .inr (.inr rfl)))) ip_int)) (iw_and1 (it_c2 (oc_gt hk hr.units) (ip_bi (bi_len hk rfl) rfl G.n_len (ia_cons (ip_of (ig_lc (own := [("c", 12)]) rfl sc_law_stands.nd (ii_any hk (ip_ix (ip_var (pe_var (i := 6) rfl (by first | exact .inl rfl | exact .inr (.inl rfl) | exact .inr (.inr rfl)))) (ip_var (pe_var (i := 9) rfl (by first | exact .inl rfl | exact .inr (.inl rfl) | exact .inr (.inr rfl)))) (by intro _ _; rfl) hk)) (blk_of (N := ["names", "rows", "kind", "numbers", "columns", "many", "picked", "row", "name", "i", "k", "j", "c"]) (by kernel_rfl)) (fun _ _ _ _ _ => (it_name (pg_name (i := 12) sc_law_stands.nd rfl (by first | exact .inl rfl | exact .inr rfl)))) (fun _ _ _ _ _ => (its_one (it_c2 (oc_in hk hr.units) (ip_var (pe_var (i := 12) rfl (by first | exact .inl rfl | exact .inr (.inl rfl) | exact .inr (.inr rfl)))) (ip_ix (ip_var (pe_var (i := 6) rfl (by first | exact .inl rfl | exact .inr (.inl rfl) | exact .inr (.inr rfl)))) (ip_var (pe_var (i := 11) rfl (by first | exact .inl rfl | exact .inr (.inl rfl) | exact .inr (.inr rfl)))) (by intro _ _; rfl) hk)))) (fun _ _ _ _ _ => (ig0 (ip_var (pe_var (i := 12) rfl (by first | exact .inl rfl | exact .inr (.inl rfl) | exact .inr (.inr rfl)))))) (by decide))) ia_nil)) ip_int)))) (is_one (is_ret (ig0 ip_bl))) is_nil)) PassesOwn.never rfl))) PassesOwn.never rfl)
    (is_one (is_ret (ig0 ip_bl))))) is_nil)
    (is_cons (is_if (PW.pt (iw_or (it_c2 (oc_ne hk hr.units) (ip_var (pe_var (i := 2) rfl (by first | exact .inl rfl | exact .inr (.inl rfl) | exact .inr (.inr rfl)))) ip_str) (iw_or (it_c2 (oc_lt hk hr.units) (ip_var (pe_var (i := 5) rfl (by first | exact .inl rfl | exact .inr (.inl rfl) | exact .inr (.inr rfl)))) ip_int) (iw_or1 (it_c2 (oc_ne hk hr.units) (ip_bi (bi_len hk rfl) rfl G.n_len (ia_cons (ip_var (pe_var (i := 4) rfl (by first | exact .inl rfl | exact .inr (.inl rfl) | exact .inr (.inr rfl)))) ia_nil)) ip_int))))) (is_one (is_ret (ig0 ip_bl))) is_nil)
    (is_cons (is_for (ii_any hk (ip_var (pe_var (i := 6) rfl (by first | exact .inl rfl | exact .inr (.inl rfl) | exact .inr (.inr rfl))))) (it_name (pg_name (i := 7) sc_law_stands.nd rfl (by first | exact .inl rfl | exact .inr rfl))) (is_one (is_if (it_c2 (oc_lt hk hr.units) (ip_bi (bi_len hk rfl) rfl G.n_len (ia_cons (ip_of (ig_lc (own := [("c", 12)]) rfl sc_law_stands.nd (ii_any hk (ip_var (pe_var (i := 4) rfl (by first | exact .inl rfl | exact .inr (.inl rfl) | exact .inr (.inr rfl))))) (blk_of (N := ["names", "rows", "kind", "numbers", "columns", "many", "picked", "row", "name", "i", "k", "j", "c"]) (by kernel_rfl)) (fun _ _ _ _ _ => (it_name (pg_name (i := 12) sc_law_stands.nd rfl (by first | exact .inl rfl | exact .inr rfl)))) (fun _ _ _ _ _ => (its_one (it_c2 (oc_in hk hr.units) (ip_var (pe_var (i := 12) rfl (by first | exact .inl rfl | exact .inr (.inl rfl) | exact .inr (.inr rfl)))) (ip_var (pe_var (i := 7) rfl (by first | exact .inl rfl | exact .inr (.inl rfl) | exact .inr (.inr rfl))))))) (fun _ _ _ _ _ => (ig0 (ip_var (pe_var (i := 12) rfl (by first | exact .inl rfl | exact .inr (.inl rfl) | exact .inr (.inr rfl)))))) (by decide))) ia_nil)) ip_int) (is_one (is_ret (ig0 ip_bl))) is_nil)) PassesOwn.never rfl)
    (is_cons (is_for (ii_any hk (ip_var (pe_var (i := 0) rfl (by first | exact .inl rfl | exact .inr (.inl rfl) | exact .inr (.inr rfl))))) (it_name (pg_name (i := 8) sc_law_stands.nd rfl (by first | exact .inl rfl | exact .inr rfl))) (is_one (is_if (it_c2 (oc_eq hk hr.units) (ip_bi (bi_len hk rfl) rfl G.n_len (ia_cons (ip_of (ig_lc (own := [("row", 7)]) rfl sc_law_stands.nd (ii_any hk (ip_var (pe_var (i := 6) rfl (by first | exact .inl rfl | exact .inr (.inl rfl) | exact .inr (.inr rfl))))) (blk_of (N := ["names", "rows", "kind", "numbers", "columns", "many", "picked", "row", "name", "i", "k", "j", "c"]) (by kernel_rfl)) (fun _ _ _ _ _ => (it_name (pg_name (i := 7) sc_law_stands.nd rfl (by first | exact .inl rfl | exact .inr rfl)))) (fun _ _ _ _ _ => (its_one (it_c2 (oc_in hk hr.units) (ip_var (pe_var (i := 8) rfl (by first | exact .inl rfl | exact .inr (.inl rfl) | exact .inr (.inr rfl)))) (ip_var (pe_var (i := 7) rfl (by first | exact .inl rfl | exact .inr (.inl rfl) | exact .inr (.inr rfl))))))) (fun _ _ _ _ _ => (ig0 (ip_var (pe_var (i := 7) rfl (by first | exact .inl rfl | exact .inr (.inl rfl) | exact .inr (.inr rfl)))))) (by decide))) ia_nil)) (ip_var (pe_var (i := 5) rfl (by first | exact .inl rfl | exact .inr (.inl rfl) | exact .inr (.inr rfl))))) (is_one (is_ret (ig0 ip_bl))) is_nil)) PassesOwn.never rfl)
    (is_one (is_ret (ig0 ip_bl)))))))))))
theorem ok_law_stands (G : Gd P w K mg base k) : OkF P w K mg base k 1 "_law_stands" 5 0 F_law_stands := by
  obtain ⟨f, fd, F, hm⟩ := G.d_law_stands
  exact ok_fn (lv := 0) F sc_law_stands hm (F.bindsN fun _ _ _ _ _ _ us hl => match us, hl with | [_, _, _, _, _], _ => rfl) (fun cdv A outer s H E hr => bd_law_stands G f cdv A outer s H E hr)
theorem sc_law_is_told : FnScope ["told", "due"] ["told", "due"] (defScope s_law_is_told) := ⟨rfl, rfl, rfl, by decide +kernel, rfl, by decide +kernel, by decide +kernel⟩
def b_law_is_told : Sm :=
    (retS 0 (keep0 (andP (una (isiD "bool") (varP 0)) (blP (cmp eqC (varP 0) (varP 1))))))
def F_law_is_told : Ar → Option D := runB 2 2 b_law_is_told
theorem bd_law_is_told (G : Gd P w K mg base k) (f : Addr) (cdv : Value) (A : Around) (outer : List Env) (s : Shared) (H : Hp) (E : XK) (hr : Room 0 (A.deeper (envOfC "_law_is_told" (defScope s_law_is_told) s.heap.objs.size f cdv))) :
    PSs (cxOf CX0 P w K mg base ["told", "due"] "_law_is_told" (defScope s_law_is_told) f cdv A outer s H E).nox (defBody s_law_is_told) (tS k false 0 b_law_is_told) := by
    have hk : k.K = K := G.kK
    exact (is_one (is_ret (ig0 (ip_and (ip_isi (T := "bool") hk (by decide +kernel) rfl G.n_isinstance rfl G.n_bool PyProof.Rows.boot_bool (ip_var (pe_var (i := 0) rfl (by first | exact .inl rfl | exact .inr (.inl rfl) | exact .inr (.inr rfl))))) (ip_one (ip_c2 (oc_eq hk hr.units) (ip_var (pe_var (i := 0) rfl (by first | exact .inl rfl | exact .inr (.inl rfl) | exact .inr (.inr rfl)))) (ip_var (pe_var (i := 1) rfl (by first | exact .inl rfl | exact .inr (.inl rfl) | exact .inr (.inr rfl))))))))))
theorem ok_law_is_told (G : Gd P w K mg base k) : OkF P w K mg base k 1 "_law_is_told" 2 0 F_law_is_told := by
  obtain ⟨f, fd, F, hm⟩ := G.d_law_is_told
  exact ok_fn (lv := 0) F sc_law_is_told hm (F.bindsN fun _ _ _ _ _ _ us hl => match us, hl with | [_, _], _ => rfl) (fun cdv A outer s H E hr => bd_law_is_told G f cdv A outer s H E hr)
theorem sc_Table_plus : FnScope ["self", "rows"] ["self", "rows"] (defScope s_Table_plus) := ⟨rfl, rfl, rfl, by decide +kernel, rfl, by decide +kernel, by decide +kernel⟩
def b_Table_plus : Sm :=
    (retS 0 (callG F_Table_init (aCons (fldP ["Table", "Bar"] "columns" (varP 0)) (aCons (bin addD (fun ρ => ((callN lstD (aCons (fldP ["Table", "Bar"] "rows" (varP 0)) aNil)) ρ).map fun ds => (0, .lst ds)) (fun ρ => ((callN lstD (aCons (varP 1) aNil)) ρ).map fun ds => (0, .lst ds))) aNil))))
def F_Table_plus : Ar → Option D := runB 2 2 b_Table_plus
theorem bd_Table_plus (G : Gd P w K mg base k) (f : Addr) (cdv : Value) (A : Around) (outer : List Env) (s : Shared) (H : Hp) (E : XK) (hr : Room 4 (A.deeper (envOfC "Table.plus" (defScope s_Table_plus) s.heap.objs.size f cdv))) :
    PSs (cxOf CX0 P w K mg base ["self", "rows"] "Table.plus" (defScope s_Table_plus) f cdv A outer s H E).nox (defBody s_Table_plus) (tS k false 0 b_Table_plus) := by
    have hk : k.K = K := G.kK
    have ok_Table_init := ok_Table_init (base := base) (P := P) (w := w) G
    exact (is_one (is_ret (ig_sub (ig_make ok_Table_init (hr.mono (by decide)) rfl (ia_cons (ip_fld (ip_var (pe_var (i := 0) rfl (by first | exact .inl rfl | exact .inr (.inl rfl) | exact .inr (.inr rfl)))) rfl hk (by simp only [List.mem_cons, List.not_mem_nil, or_false, forall_eq_or_imp, forall_eq]; exact ⟨G.a_Table_columns, G.a_Bar_columns⟩)) (ia_cons (ip_add hk (ip_new (in_bn (bn_list hk rfl) rfl G.n_list (ia_cons (ip_fld (ip_var (pe_var (i := 0) rfl (by first | exact .inl rfl | exact .inr (.inl rfl) | exact .inr (.inr rfl)))) rfl hk (by simp only [List.mem_cons, List.not_mem_nil, or_false, forall_eq_or_imp, forall_eq]; exact ⟨G.a_Table_rows, G.a_Bar_rows⟩)) ia_nil))) (ip_new (in_bn (bn_list hk rfl) rfl G.n_list (ia_cons (ip_var (pe_var (i := 1) rfl (by first | exact .inl rfl | exact .inr (.inl rfl) | exact .inr (.inr rfl)))) ia_nil)))) ia_nil))))))
theorem ok_Table_plus (G : Gd P w K mg base k) : OkS P w K mg base k 5 "Table" "plus" 1 0 F_Table_plus := by
  obtain ⟨f, fd, F, hc, M⟩ := G.d_Table_plus
  exact ok_star (lv := 4) (ps := ["self"]) F sc_Table_plus hc M (fun kV doc pm an cdv ct => StX.bind_star1 (B := fun l => bindArgs (PySem.W.fnOf "plus" "Table.plus" (defArgs s_Table_plus) (defBody s_Table_plus) (defScope s_Table_plus) .none kV doc pm an cdv ct) ⟨l, []⟩) (p1 := "self") (pv := "rows") (fun _ => rfl) fun _ _ _ => rfl) (fun cdv A outer s H E hr => bd_Table_plus G f cdv A outer s H E hr)
theorem sc_law_changed_rows : FnScope ["right", "names", "rows", "draws", "kind", "numbers", "columns", "many", "i", "first", "changed", "step", "name", "at", "other", "full", "k"] ["right", "names", "rows", "draws"] (defScope s_law_changed_rows) := ⟨rfl, rfl, rfl, by decide +kernel, rfl, by decide +kernel, by decide +kernel⟩
def l_law_changed_rows_1 : Sm :=
    (iteS (cmp ninC (varP 12) (varP 9)) (appS 10 0 (callG F_law_put (aCons (varP 2) (aCons (ixP (varP 5) (varP 8)) (aCons (bin addD (varP 9) (fun ρ => ((small (kept (aCons (varP 12) aNil))) ρ).map fun ds => (0, .lst ds))) aNil))))) skS)
def l_law_changed_rows_2 : Sm :=
    (seqS (setS 14 (keep0 (ixP (varP 2) (ixP (varP 5) (bin modD (callP (c1 intD) (aCons (bin addD (varP 8) (varP 11)) aNil)) (varP 7))))))
    (forS (anyI (fun ρ => ((small (kept (aCons (ixP (varP 14) (cst (.int 0))) (aCons (ixP (varP 14) (una negD (cst (.int 1)))) aNil)))) ρ).map fun ds => (0, .lst ds))) (bN 12) l_law_changed_rows_1))
def l_law_changed_rows_3 : Sm :=
    (appS 10 0 (callG F_law_put (aCons (varP 2) (aCons (ixP (varP 5) (varP 8)) (aCons (frP (lcG [14] (anyI (varP 9)) (bN 14) (cmp neC (varP 14) (varP 12)) (keep0 (varP 14)))) aNil)))))
def l_law_changed_rows_4 : Sm :=
    (iteS (cmp ninC (varP 12) (ixP (varP 2) (varP 16))) (setS 15 (callG F_law_put (aCons (varP 15) (aCons (varP 16) (aCons (bin addD (ixP (varP 2) (varP 16)) (fun ρ => ((small (kept (aCons (varP 12) aNil))) ρ).map fun ds => (0, .lst ds))) aNil))))) skS)
def l_law_changed_rows_5 : Sm :=
    (seqS (setS 15 (keep0 (fun ρ => ((callN lstD (aCons (varP 2) aNil)) ρ).map fun ds => (0, .lst ds))))
    (seqS (forS (anyI (varP 5)) (bN 16) l_law_changed_rows_4)
    (appS 10 0 (keep0 (varP 15)))))
def b_law_changed_rows : Sm :=
    (seqS (setS 4 (keep0 (ixP (varP 0) (cst (.int 0)))))
    (seqS (setS 5 (keep0 (ixP (varP 0) (cst (.int 1)))))
    (seqS (setS 6 (keep0 (ixP (varP 0) (cst (.int 2)))))
    (seqS (setS 7 (keep0 (callP (c1 lenD) (aCons (varP 5) aNil))))
    (seqS (setS 8 (keep0 (bin modD (callP (c1 intD) (aCons (ixP (varP 3) (cst (.int 0))) aNil)) (varP 7))))
    (seqS (setS 9 (keep0 (ixP (varP 2) (ixP (varP 5) (varP 8)))))
    (seqS (setO 10 1 (fun ρ => ((small (kept aNil)) ρ).map fun ds => .lst ds))
    (seqS (forS (rngI (rg2 (cst (.int 2)) (bin subD (varP 7) (cst (.int 1))))) (bN 11) l_law_changed_rows_2)
    (seqS (forS (anyI (varP 9)) (bN 12) l_law_changed_rows_3)
    (seqS (iteS (cmp eqC (varP 4) (cst (.str "crowd"))) (forS (anyI (varP 1)) (bN 12) l_law_changed_rows_5) skS)
    (seqS (setS 13 (keep0 (bin modD (callP (c1 intD) (aCons (ixP (varP 3) (cst (.int 1))) aNil)) (bin addD (callP (c1 lenD) (aCons (varP 10) aNil)) (cst (.int 1))))))
    (retS 0 (keep0 (cutP (bin addD (cutP (varP 10) (ofO (varP 13)) noO) (cutP (varP 10) noO (ofO (varP 13)))) noO (ofO (cst (.int 9)))))))))))))))))
def F_law_changed_rows : Ar → Option D := runB 4 17 b_law_changed_rows
theorem bd_law_changed_rows (G : Gd P w K mg base k) (f : Addr) (cdv : Value) (A : Around) (outer : List Env) (s : Shared) (H : Hp) (E : XK) (hr : Room 1 (A.deeper (envOfC "_law_changed_rows" (defScope s_law_changed_rows) s.heap.objs.size f cdv))) :
    PSs (cxOf CX0 P w K mg base ["right", "names", "rows", "draws", "kind", "numbers", "columns", "many", "i", "first", "changed", "step", "name", "at", "other", "full", "k"] "_law_changed_rows" (defScope s_law_changed_rows) f cdv A outer s H E).nox (defBody s_law_changed_rows) (tS k false 0 b_law_changed_rows) := by
    have hk : k.K = K := G.kK
    have ok_law_put := ok_law_put (base := base) (P := P) (w := w) G
    exact (is_cons (is_set (i := 4) (ps_set (i := 4) sc_law_changed_rows.nd rfl (by first | exact .inl rfl | exact .inr rfl) (ig0 (ip_ix (ip_var (pe_var (i := 0) rfl (by first | exact .inl rfl | exact .inr (.inl rfl) | exact .inr (.inr rfl)))) ip_int (by intro _ _; rfl) hk))))
    (is_cons (is_set (i := 5) (ps_set (i := 5) sc_law_changed_rows.nd rfl (by first | exact .inl rfl | exact .inr rfl) (ig0 (ip_ix (ip_var (pe_var (i := 0) rfl (by first | exact .inl rfl | exact .inr (.inl rfl) | exact .inr (.inr rfl)))) ip_int (by intro _ _; rfl) hk))))
    (is_cons (is_set (i := 6) (ps_set (i := 6) sc_law_changed_rows.nd rfl (by first | exact .inl rfl | exact .inr rfl) (ig0 (ip_ix (ip_var (pe_var (i := 0) rfl (by first | exact .inl rfl | exact .inr (.inl rfl) | exact .inr (.inr rfl)))) ip_int (by intro _ _; rfl) hk))))
    (is_cons (is_set (i := 7) (ps_set (i := 7) sc_law_changed_rows.nd rfl (by first | exact .inl rfl | exact .inr rfl) (ig0 (ip_bi (bi_len hk rfl) rfl G.n_len (ia_cons (ip_var (pe_var (i := 5) rfl (by first | exact .inl rfl | exact .inr (.inl rfl) | exact .inr (.inr rfl)))) ia_nil)))))
    (is_cons (is_set (i := 8) (ps_set (i := 8) sc_law_changed_rows.nd rfl (by first | exact .inl rfl | exact .inr rfl) (ig0 (ip_mod (ip_bi (bi_int hk rfl) rfl G.n_int (ia_cons (ip_ix (ip_var (pe_var (i := 3) rfl (by first | exact .inl rfl | exact .inr (.inl rfl) | exact .inr (.inr rfl)))) ip_int (by intro _ _; rfl) hk) ia_nil)) (ip_var (pe_var (i := 7) rfl (by first | exact .inl rfl | exact .inr (.inl rfl) | exact .inr (.inr rfl))))))))
    (is_cons (is_set (i := 9) (ps_set (i := 9) sc_law_changed_rows.nd rfl (by first | exact .inl rfl | exact .inr rfl) (ig0 (ip_ix (ip_var (pe_var (i := 2) rfl (by first | exact .inl rfl | exact .inr (.inl rfl) | exact .inr (.inr rfl)))) (ip_ix (ip_var (pe_var (i := 5) rfl (by first | exact .inl rfl | exact .inr (.inl rfl) | exact .inr (.inr rfl)))) (ip_var (pe_var (i := 8) rfl (by first | exact .inl rfl | exact .inr (.inl rfl) | exact .inr (.inr rfl)))) (by intro _ _; rfl) hk) (by intro _ _; rfl) hk))))
    (is_cons (is_setO (i := 10) (ps_set (i := 10) sc_law_changed_rows.nd rfl (by first | exact .inl rfl | exact .inr rfl) (ig_new (in_lst ia_nil))))
    (is_cons (is_for (ii_range2 rfl G.n_range ip_int (ip_sub (ip_var (pe_var (i := 7) rfl (by first | exact .inl rfl | exact .inr (.inl rfl) | exact .inr (.inr rfl)))) ip_int)) (it_name (pg_name (i := 11) sc_law_changed_rows.nd rfl (by first | exact .inl rfl | exact .inr rfl))) (is_cons (is_set (i := 14) (ps_set (i := 14) sc_law_changed_rows.nd rfl (by first | exact .inl rfl | exact .inr rfl) (ig0 (ip_ix (ip_var (pe_var (i := 2) rfl (by first | exact .inl rfl | exact .inr (.inl rfl) | exact .inr (.inr rfl)))) (ip_ix (ip_var (pe_var (i := 5) rfl (by first | exact .inl rfl | exact .inr (.inl rfl) | exact .inr (.inr rfl)))) (ip_mod (ip_bi (bi_int hk rfl) rfl G.n_int (ia_cons (ip_add hk (ip_var (pe_var (i := 8) rfl (by first | exact .inl rfl | exact .inr (.inl rfl) | exact .inr (.inr rfl)))) (ip_var (pe_var (i := 11) rfl (by first | exact .inl rfl | exact .inr (.inl rfl) | exact .inr (.inr rfl))))) ia_nil)) (ip_var (pe_var (i := 7) rfl (by first | exact .inl rfl | exact .inr (.inl rfl) | exact .inr (.inr rfl))))) (by intro _ _; rfl) hk) (by intro _ _; rfl) hk))))
    (is_one (is_for (ii_any hk (ip_new (in_lst (ia_cons (ip_ix (ip_var (pe_var (i := 14) rfl (by first | exact .inl rfl | exact .inr (.inl rfl) | exact .inr (.inr rfl)))) ip_int (by intro _ _; rfl) hk) (ia_cons (ip_ix (ip_var (pe_var (i := 14) rfl (by first | exact .inl rfl | exact .inr (.inl rfl) | exact .inr (.inr rfl)))) (ip_neg ip_int) (by intro _ _; rfl) hk) ia_nil))))) (it_name (pg_name (i := 12) sc_law_changed_rows.nd rfl (by first | exact .inl rfl | exact .inr rfl))) (is_one (is_if (it_c2 (oc_nin hk hr.units) (ip_var (pe_var (i := 12) rfl (by first | exact .inl rfl | exact .inr (.inl rfl) | exact .inr (.inr rfl)))) (ip_var (pe_var (i := 9) rfl (by first | exact .inl rfl | exact .inr (.inl rfl) | exact .inr (.inr rfl))))) (is_one (is_appV hk (pe_var (i := 10) rfl (by first | exact .inl rfl | exact .inr (.inl rfl) | exact .inr (.inr rfl))) (ig_call ok_law_put (hr.mono (by decide)) rfl (ia_cons (ip_var (pe_var (i := 2) rfl (by first | exact .inl rfl | exact .inr (.inl rfl) | exact .inr (.inr rfl)))) (ia_cons (ip_ix (ip_var (pe_var (i := 5) rfl (by first | exact .inl rfl | exact .inr (.inl rfl) | exact .inr (.inr rfl)))) (ip_var (pe_var (i := 8) rfl (by first | exact .inl rfl | exact .inr (.inl rfl) | exact .inr (.inr rfl)))) (by intro _ _; rfl) hk) (ia_cons (ip_add hk (ip_var (pe_var (i := 9) rfl (by first | exact .inl rfl | exact .inr (.inl rfl) | exact .inr (.inr rfl)))) (ip_new (in_lst (ia_cons (ip_var (pe_var (i := 12) rfl (by first | exact .inl rfl | exact .inr (.inl rfl) | exact .inr (.inr rfl)))) ia_nil)))) ia_nil)))))) is_nil)) PassesOwn.never rfl))) PassesOwn.never rfl)
    (is_cons (is_for (ii_any hk (ip_var (pe_var (i := 9) rfl (by first | exact .inl rfl | exact .inr (.inl rfl) | exact .inr (.inr rfl))))) (it_name (pg_name (i := 12) sc_law_changed_rows.nd rfl (by first | exact .inl rfl | exact .inr rfl))) (is_one (is_appV hk (pe_var (i := 10) rfl (by first | exact .inl rfl | exact .inr (.inl rfl) | exact .inr (.inr rfl))) (ig_call ok_law_put (hr.mono (by decide)) rfl (ia_cons (ip_var (pe_var (i := 2) rfl (by first | exact .inl rfl | exact .inr (.inl rfl) | exact .inr (.inr rfl)))) (ia_cons (ip_ix (ip_var (pe_var (i := 5) rfl (by first | exact .inl rfl | exact .inr (.inl rfl) | exact .inr (.inr rfl)))) (ip_var (pe_var (i := 8) rfl (by first | exact .inl rfl | exact .inr (.inl rfl) | exact .inr (.inr rfl)))) (by intro _ _; rfl) hk) (ia_cons (ip_of (ig_lc (own := [("other", 14)]) rfl sc_law_changed_rows.nd (ii_any hk (ip_var (pe_var (i := 9) rfl (by first | exact .inl rfl | exact .inr (.inl rfl) | exact .inr (.inr rfl))))) (blk_of (N := ["right", "names", "rows", "draws", "kind", "numbers", "columns", "many", "i", "first", "changed", "step", "name", "at", "other", "full", "k"]) (by kernel_rfl)) (fun _ _ _ _ _ => (it_name (pg_name (i := 14) sc_law_changed_rows.nd rfl (by first | exact .inl rfl | exact .inr rfl)))) (fun _ _ _ _ _ => (its_one (it_c2 (oc_ne hk hr.units) (ip_var (pe_var (i := 14) rfl (by first | exact .inl rfl | exact .inr (.inl rfl) | exact .inr (.inr rfl)))) (ip_var (pe_var (i := 12) rfl (by first | exact .inl rfl | exact .inr (.inl rfl) | exact .inr (.inr rfl))))))) (fun _ _ _ _ _ => (ig0 (ip_var (pe_var (i := 14) rfl (by first | exact .inl rfl | exact .inr (.inl rfl) | exact .inr (.inr rfl)))))) (by decide))) ia_nil)))))) PassesOwn.never rfl)
    (is_cons (is_if (it_c2 (oc_eq hk hr.units) (ip_var (pe_var (i := 4) rfl (by first | exact .inl rfl | exact .inr (.inl rfl) | exact .inr (.inr rfl)))) ip_str) (is_one (is_for (ii_any hk (ip_var (pe_var (i := 1) rfl (by first | exact .inl rfl | exact .inr (.inl rfl) | exact .inr (.inr rfl))))) (it_name (pg_name (i := 12) sc_law_changed_rows.nd rfl (by first | exact .inl rfl | exact .inr rfl))) (is_cons (is_set (i := 15) (ps_set (i := 15) sc_law_changed_rows.nd rfl (by first | exact .inl rfl | exact .inr rfl) (ig0 (ip_new (in_bn (bn_list hk rfl) rfl G.n_list (ia_cons (ip_var (pe_var (i := 2) rfl (by first | exact .inl rfl | exact .inr (.inl rfl) | exact .inr (.inr rfl)))) ia_nil))))))
    (is_cons (is_for (ii_any hk (ip_var (pe_var (i := 5) rfl (by first | exact .inl rfl | exact .inr (.inl rfl) | exact .inr (.inr rfl))))) (it_name (pg_name (i := 16) sc_law_changed_rows.nd rfl (by first | exact .inl rfl | exact .inr rfl))) (is_one (is_if (it_c2 (oc_nin hk hr.units) (ip_var (pe_var (i := 12) rfl (by first | exact .inl rfl | exact .inr (.inl rfl) | exact .inr (.inr rfl)))) (ip_ix (ip_var (pe_var (i := 2) rfl (by first | exact .inl rfl | exact .inr (.inl rfl) | exact .inr (.inr rfl)))) (ip_var (pe_var (i := 16) rfl (by first | exact .inl rfl | exact .inr (.inl rfl) | exact .inr (.inr rfl)))) (by intro _ _; rfl) hk)) (is_one (is_set (i := 15) (ps_set (i := 15) sc_law_changed_rows.nd rfl (by first | exact .inl rfl | exact .inr rfl) (ig_call ok_law_put (hr.mono (by decide)) rfl (ia_cons (ip_var (pe_var (i := 15) rfl (by first | exact .inl rfl | exact .inr (.inl rfl) | exact .inr (.inr rfl)))) (ia_cons (ip_var (pe_var (i := 16) rfl (by first | exact .inl rfl | exact .inr (.inl rfl) | exact .inr (.inr rfl)))) (ia_cons (ip_add hk (ip_ix (ip_var (pe_var (i := 2) rfl (by first | exact .inl rfl | exact .inr (.inl rfl) | exact .inr (.inr rfl)))) (ip_var (pe_var (i := 16) rfl (by first | exact .inl rfl | exact .inr (.inl rfl) | exact .inr (.inr rfl)))) (by intro _ _; rfl) hk) (ip_new (in_lst (ia_cons (ip_var (pe_var (i := 12) rfl (by first | exact .inl rfl | exact .inr (.inl rfl) | exact .inr (.inr rfl)))) ia_nil)))) ia_nil))))))) is_nil)) PassesOwn.never rfl)
    (is_one (is_appV hk (pe_var (i := 10) rfl (by first | exact .inl rfl | exact .inr (.inl rfl) | exact .inr (.inr rfl))) (ig0 (ip_var (pe_var (i := 15) rfl (by first | exact .inl rfl | exact .inr (.inl rfl) | exact .inr (.inr rfl))))))))) PassesOwn.never rfl)) is_nil)
    (is_cons (is_set (i := 13) (ps_set (i := 13) sc_law_changed_rows.nd rfl (by first | exact .inl rfl | exact .inr rfl) (ig0 (ip_mod (ip_bi (bi_int hk rfl) rfl G.n_int (ia_cons (ip_ix (ip_var (pe_var (i := 3) rfl (by first | exact .inl rfl | exact .inr (.inl rfl) | exact .inr (.inr rfl)))) ip_int (by intro _ _; rfl) hk) ia_nil)) (ip_add hk (ip_bi (bi_len hk rfl) rfl G.n_len (ia_cons (ip_var (pe_var (i := 10) rfl (by first | exact .inl rfl | exact .inr (.inl rfl) | exact .inr (.inr rfl)))) ia_nil)) ip_int)))))
    (is_one (is_ret (ig0 (ip_cut (ip_add hk (ip_cut (ip_var (pe_var (i := 10) rfl (by first | exact .inl rfl | exact .inr (.inl rfl) | exact .inr (.inr rfl)))) (io_some (ip_var (pe_var (i := 13) rfl (by first | exact .inl rfl | exact .inr (.inl rfl) | exact .inr (.inr rfl))))) io_none hk) (ip_cut (ip_var (pe_var (i := 10) rfl (by first | exact .inl rfl | exact .inr (.inl rfl) | exact .inr (.inr rfl)))) io_none (io_some (ip_var (pe_var (i := 13) rfl (by first | exact .inl rfl | exact .inr (.inl rfl) | exact .inr (.inr rfl))))) hk)) io_none (io_some ip_int) hk)))))))))))))))
theorem ok_law_changed_rows (G : Gd P w K mg base k) : OkF P w K mg base k 2 "_law_changed_rows" 4 0 F_law_changed_rows := by
  obtain ⟨f, fd, F, hm⟩ := G.d_law_changed_rows
  exact ok_fn (lv := 1) F sc_law_changed_rows hm (F.bindsN fun _ _ _ _ _ _ us hl => match us, hl with | [_, _, _, _], _ => rfl) (fun cdv A outer s H E hr => bd_law_changed_rows G f cdv A outer s H E hr)
theorem sc_law : FnScope ["script", "pool", "free", "size", "names", "order", "setting", "rows", "table", "k", "right", "bars", "bar", "longer", "other", "due", "row"] ["script"] (defScope s_law) := ⟨rfl, rfl, rfl, by decide +kernel, rfl, by decide +kernel, by decide +kernel⟩
def l_law_1 : Sm :=
    (seqS (setS 15 (callG F_law_stands (aCons (varP 4) (aCons (varP 7) (aCons (ixP (varP 12) (cst (.int 0))) (aCons (ixP (varP 12) (cst (.int 1))) (aCons (ixP (varP 12) (cst (.int 2))) aNil)))))))
    (iteS (notT (asB (frP (callG F_law_is_told (aCons (frP (callG F_stands_in (aCons (varP 8) (aCons (frP (callG F_Bar_init (aCons (ixP (varP 12) (cst (.int 0))) (aCons (callP (tupD) (aCons (ixP (varP 12) (cst (.int 1))) aNil)) (aCons (fun ρ => ((callN lstD (aCons (ixP (varP 12) (cst (.int 2))) aNil)) ρ).map fun ds => (0, .lst ds)) aNil))))) aNil)))) (aCons (varP 15) aNil)))))) (retS 0 (keep0 (cst (.bl false)))) skS))
def l_law_2 : Sm :=
    (seqS (setS 15 (callG F_law_stands (aCons (varP 4) (aCons (varP 14) (aCons (ixP (varP 10) (cst (.int 0))) (aCons (ixP (varP 10) (cst (.int 1))) (aCons (ixP (varP 10) (cst (.int 2))) aNil)))))))
    (iteS (notT (asB (frP (callG F_law_is_told (aCons (frP (callG F_stands_in (aCons (frP (callG F_Table_init (aCons (fun ρ => ((callN lstD (aCons (varP 4) aNil)) ρ).map fun ds => (0, .lst ds)) (aCons (frP (lcG [16] (anyI (varP 14)) (bN 16) yesT (keep0 (fun ρ => ((callN lstD (aCons (varP 16) aNil)) ρ).map fun ds => (0, .lst ds))))) aNil)))) (aCons (frP (callG F_Bar_init (aCons (ixP (varP 10) (cst (.int 0))) (aCons (fun ρ => ((callN lstD (aCons (ixP (varP 10) (cst (.int 1))) aNil)) ρ).map fun ds => (0, .lst ds)) (aCons (fun ρ => ((callN lstD (aCons (ixP (varP 10) (cst (.int 2))) aNil)) ρ).map fun ds => (0, .lst ds)) aNil))))) aNil)))) (aCons (varP 15) aNil)))))) (retS 0 (keep0 (cst (.bl false)))) skS))
def l_law_3 : Sm :=
    (seqS (setS 10 (callG F_law_turned (aCons (varP 6) (aCons (ixP (varP 2) (varP 9)) aNil))))
    (seqS (iteS (notT (asB (frP (callG F_law_kept (aCons (ixP (varP 10) (cst (.int 0))) (aCons (ixP (varP 10) (cst (.int 1))) (aCons (ixP (varP 10) (cst (.int 2))) aNil))))))) (retS 0 (keep0 (cst (.bl false)))) skS)
    (seqS (iteS (cmp isnC (frP (callG F_stands_in (aCons (varP 8) (aCons (frP (callG F_Bar_init (aCons (ixP (varP 10) (cst (.int 0))) (aCons (fun ρ => ((callN lstD (aCons (ixP (varP 10) (cst (.int 1))) aNil)) ρ).map fun ds => (0, .lst ds)) (aCons (callP (tupD) (aCons (ixP (varP 10) (cst (.int 2))) aNil)) aNil))))) aNil)))) (cst (.bl true))) (retS 0 (keep0 (cst (.bl false)))) skS)
    (seqS (setS 11 (callG F_law_near (aCons (varP 10) (aCons (varP 4) (aCons (varP 7) (aCons (cutP (varP 2) (ofO (bin addD (cst (.int 2)) (bin mulD (varP 9) (cst (.int 10))))) noO) aNil))))))
    (seqS (forS (anyI (varP 11)) (bN 12) l_law_1)
    (seqS (setS 13 (methG "Table" "plus" (starF 0 F_Table_plus) (varP 8) (aCons (fun ρ => ((small (kept (aCons (ixP (varP 4) (cst (.int 0))) aNil))) ρ).map fun ds => (0, .lst ds)) (aCons (fun ρ => ((callN lstD (aCons (varP 4) aNil)) ρ).map fun ds => (0, .lst ds)) aNil))))
    (seqS (iteS (cmp isnC (frP (callG F_stands_in (aCons (varP 13) (aCons (frP (callG F_Bar_init (aCons (ixP (varP 10) (cst (.int 0))) (aCons (fun ρ => ((callN lstD (aCons (ixP (varP 10) (cst (.int 1))) aNil)) ρ).map fun ds => (0, .lst ds)) (aCons (fun ρ => ((callN lstD (aCons (ixP (varP 10) (cst (.int 2))) aNil)) ρ).map fun ds => (0, .lst ds)) aNil))))) aNil)))) (cst (.bl true))) (retS 0 (keep0 (cst (.bl false)))) skS)
    (forS (anyI (frP (callG F_law_changed_rows (aCons (varP 10) (aCons (varP 4) (aCons (varP 7) (aCons (cutP (varP 2) (ofO (bin addD (cst (.int 22)) (bin mulD (varP 9) (cst (.int 10))))) noO) aNil))))))) (bN 14) l_law_2))))))))
def b_law : Sm :=
    (seqS (setS 1 (callG F_law_pool (aCons (varP 0) (aCons (cst (.int 0)) (aCons (cst (.int 60)) aNil)))))
    (seqS (setS 2 (callG F_law_pool (aCons (varP 0) (aCons (cst (.int 1)) (aCons (cst (.int 60)) aNil)))))
    (seqS (setS 3 (keep0 (ixP (fun ρ => ((small (kept (aCons (cst (.int 4)) (aCons (cst (.int 5)) (aCons (cst (.int 6)) (aCons (cst (.int 4)) (aCons (cst (.int 7)) (aCons (cst (.int 5)) (aCons (cst (.int 8)) (aCons (cst (.int 6)) (aCons (cst (.int 3)) (aCons (cst (.int 4)) (aCons (cst (.int 12)) (aCons (cst (.int 5)) (aCons (cst (.int 9)) (aCons (cst (.int 6)) (aCons (cst (.int 4)) (aCons (cst (.int 10)) (aCons (cst (.int 7)) (aCons (cst (.int 5)) (aCons (cst (.int 11)) (aCons (cst (.int 8)) (aCons (cst (.int 6)) (aCons (cst (.int 12)) (aCons (cst (.int 4)) (aCons (cst (.int 5)) aNil)))))))))))))))))))))))))) ρ).map fun ds => (0, .lst ds)) (bin modD (callP (c1 intD) (aCons (ixP (varP 1) (cst (.int 0))) aNil)) (cst (.int 24))))))
    (seqS (setS 4 (callG F_law_names (aCons (varP 3) (aCons (ixP (varP 1) (cst (.int 1))) aNil))))
    (seqS (setS 5 (callG F_law_order (aCons (varP 4) (aCons (varP 1) (aCons (cst (.int 2)) aNil)))))
    (seqS (setS 6 (callG F_law_setting (aCons (varP 4) (aCons (varP 5) (aCons (varP 1) aNil)))))
    (seqS (setS 7 (keep0 (ixP (varP 6) (cst (.int 3)))))
    (seqS (setS 8 (callG F_Table_init (aCons (fun ρ => ((callN lstD (aCons (varP 4) aNil)) ρ).map fun ds => (0, .lst ds)) (aCons (frP (lcG [16] (anyI (varP 7)) (bN 16) yesT (keep0 (fun ρ => ((callN lstD (aCons (varP 16) aNil)) ρ).map fun ds => (0, .lst ds))))) aNil))))
    (seqS (forS (rngI (rg1 (cst (.int 2)))) (bN 9) l_law_3)
    (retS 0 (keep0 (blP (cmp isC (frP (callG F_stands_in (aCons (varP 8) (aCons (frP (callG F_Bar_init (aCons (ixP (varP 6) (cst (.int 0))) (aCons (fun ρ => ((callN lstD (aCons (ixP (varP 6) (cst (.int 1))) aNil)) ρ).map fun ds => (0, .lst ds)) (aCons (fun ρ => ((callN lstD (aCons (ixP (varP 6) (cst (.int 2))) aNil)) ρ).map fun ds => (0, .lst ds)) aNil))))) aNil)))) (cst (.bl true)))))))))))))))
def F_law : Ar → Option D := runB 1 17 b_law
theorem bd_law (G : Gd P w K mg base k) (f : Addr) (cdv : Value) (A : Around) (outer : List Env) (s : Shared) (H : Hp) (E : XK) (hr : Room 5 (A.deeper (envOfC "law" (defScope s_law) s.heap.objs.size f cdv))) :
    PSs (cxOf CX0 P w K mg base ["script", "pool", "free", "size", "names", "order", "setting", "rows", "table", "k", "right", "bars", "bar", "longer", "other", "due", "row"] "law" (defScope s_law) f cdv A outer s H E).nox (defBody s_law) (tS k false 0 b_law) := by
    have hk : k.K = K := G.kK
    have ok_law_pool := ok_law_pool (base := base) (P := P) (w := w) G
    have ok_law_names := ok_law_names (base := base) (P := P) (w := w) G
    have ok_law_order := ok_law_order (base := base) (P := P) (w := w) G
    have ok_law_setting := ok_law_setting (base := base) (P := P) (w := w) G
    have ok_Table_init := ok_Table_init (base := base) (P := P) (w := w) G
    have ok_law_turned := ok_law_turned (base := base) (P := P) (w := w) G
    have ok_law_kept := ok_law_kept (base := base) (P := P) (w := w) G
    have ok_stands_in := ok_stands_in (base := base) (P := P) (w := w) G
    have ok_Bar_init := ok_Bar_init (base := base) (P := P) (w := w) G
    have ok_law_near := ok_law_near (base := base) (P := P) (w := w) G
    have ok_law_stands := ok_law_stands (base := base) (P := P) (w := w) G
    have ok_law_is_told := ok_law_is_told (base := base) (P := P) (w := w) G
    have ok_Table_plus := ok_Table_plus (base := base) (P := P) (w := w) G
    have ok_law_changed_rows := ok_law_changed_rows (base := base) (P := P) (w := w) G
    exact (is_cons (is_set (i := 1) (ps_set (i := 1) sc_law.nd rfl (by first | exact .inl rfl | exact .inr rfl) (ig_call ok_law_pool (hr.mono (by decide)) rfl (ia_cons (ip_var (pe_var (i := 0) rfl (by first | exact .inl rfl | exact .inr (.inl rfl) | exact .inr (.inr rfl)))) (ia_cons ip_int (ia_cons ip_int ia_nil))))))
    (is_cons (is_set (i := 2) (ps_set (i := 2) sc_law.nd rfl (by first | exact .inl rfl | exact .inr rfl) (ig_call ok_law_pool (hr.mono (by decide)) rfl (ia_cons (ip_var (pe_var (i := 0) rfl (by first | exact .inl rfl | exact .inr (.inl rfl) | exact .inr (.inr rfl)))) (ia_cons ip_int (ia_cons ip_int ia_nil))))))
    (is_cons (is_set (i := 3) (ps_set (i := 3) sc_law.nd rfl (by first | exact .inl rfl | exact .inr rfl) (ig0 (ip_ix (ip_new (in_lst (ia_cons ip_int (ia_cons ip_int (ia_cons ip_int (ia_cons ip_int (ia_cons ip_int (ia_cons ip_int (ia_cons ip_int (ia_cons ip_int (ia_cons ip_int (ia_cons ip_int (ia_cons ip_int (ia_cons ip_int (ia_cons ip_int (ia_cons ip_int (ia_cons ip_int (ia_cons ip_int (ia_cons ip_int (ia_cons ip_int (ia_cons ip_int (ia_cons ip_int (ia_cons ip_int (ia_cons ip_int (ia_cons ip_int (ia_cons ip_int ia_nil)))))))))))))))))))))))))) (ip_mod (ip_bi (bi_int hk rfl) rfl G.n_int (ia_cons (ip_ix (ip_var (pe_var (i := 1) rfl (by first | exact .inl rfl | exact .inr (.inl rfl) | exact .inr (.inr rfl)))) ip_int (by intro _ _; rfl) hk) ia_nil)) ip_int) (by intro _ _; rfl) hk))))
    (is_cons (is_set (i := 4) (ps_set (i := 4) sc_law.nd rfl (by first | exact .inl rfl | exact .inr rfl) (ig_call ok_law_names (hr.mono (by decide)) rfl (ia_cons (ip_var (pe_var (i := 3) rfl (by first | exact .inl rfl | exact .inr (.inl rfl) | exact .inr (.inr rfl)))) (ia_cons (ip_ix (ip_var (pe_var (i := 1) rfl (by first | exact .inl rfl | exact .inr (.inl rfl) | exact .inr (.inr rfl)))) ip_int (by intro _ _; rfl) hk) ia_nil)))))
    (is_cons (is_set (i := 5) (ps_set (i := 5) sc_law.nd rfl (by first | exact .inl rfl | exact .inr rfl) (ig_call ok_law_order (hr.mono (by decide)) rfl (ia_cons (ip_var (pe_var (i := 4) rfl (by first | exact .inl rfl | exact .inr (.inl rfl) | exact .inr (.inr rfl)))) (ia_cons (ip_var (pe_var (i := 1) rfl (by first | exact .inl rfl | exact .inr (.inl rfl) | exact .inr (.inr rfl)))) (ia_cons ip_int ia_nil))))))
    (is_cons (is_set (i := 6) (ps_set (i := 6) sc_law.nd rfl (by first | exact .inl rfl | exact .inr rfl) (ig_call ok_law_setting (hr.mono (by decide)) rfl (ia_cons (ip_var (pe_var (i := 4) rfl (by first | exact .inl rfl | exact .inr (.inl rfl) | exact .inr (.inr rfl)))) (ia_cons (ip_var (pe_var (i := 5) rfl (by first | exact .inl rfl | exact .inr (.inl rfl) | exact .inr (.inr rfl)))) (ia_cons (ip_var (pe_var (i := 1) rfl (by first | exact .inl rfl | exact .inr (.inl rfl) | exact .inr (.inr rfl)))) ia_nil))))))
    (is_cons (is_set (i := 7) (ps_set (i := 7) sc_law.nd rfl (by first | exact .inl rfl | exact .inr rfl) (ig0 (ip_ix (ip_var (pe_var (i := 6) rfl (by first | exact .inl rfl | exact .inr (.inl rfl) | exact .inr (.inr rfl)))) ip_int (by intro _ _; rfl) hk))))
    (is_cons (is_set (i := 8) (ps_set (i := 8) sc_law.nd rfl (by first | exact .inl rfl | exact .inr rfl) (ig_sub (ig_make ok_Table_init (hr.mono (by decide)) rfl (ia_cons (ip_new (in_bn (bn_list hk rfl) rfl G.n_list (ia_cons (ip_var (pe_var (i := 4) rfl (by first | exact .inl rfl | exact .inr (.inl rfl) | exact .inr (.inr rfl)))) ia_nil))) (ia_cons (ip_of (ig_lc (own := [("row", 16)]) rfl sc_law.nd (ii_any hk (ip_var (pe_var (i := 7) rfl (by first | exact .inl rfl | exact .inr (.inl rfl) | exact .inr (.inr rfl))))) (blk_of (N := ["script", "pool", "free", "size", "names", "order", "setting", "rows", "table", "k", "right", "bars", "bar", "longer", "other", "due", "row"]) (by kernel_rfl)) (fun _ _ _ _ _ => (it_name (pg_name (i := 16) sc_law.nd rfl (by first | exact .inl rfl | exact .inr rfl)))) (fun _ _ _ _ _ => its_yes) (fun _ _ _ _ _ => (ig0 (ip_new (in_bn (bn_list hk rfl) rfl G.n_list (ia_cons (ip_var (pe_var (i := 16) rfl (by first | exact .inl rfl | exact .inr (.inl rfl) | exact .inr (.inr rfl)))) ia_nil))))) (by decide))) ia_nil))))))
    (is_cons (is_for (ii_range1 rfl G.n_range ip_int) (it_name (pg_name (i := 9) sc_law.nd rfl (by first | exact .inl rfl | exact .inr rfl))) (is_cons (is_set (i := 10) (ps_set (i := 10) sc_law.nd rfl (by first | exact .inl rfl | exact .inr rfl) (ig_call ok_law_turned (hr.mono (by decide)) rfl (ia_cons (ip_var (pe_var (i := 6) rfl (by first | exact .inl rfl | exact .inr (.inl rfl) | exact .inr (.inr rfl)))) (ia_cons (ip_ix (ip_var (pe_var (i := 2) rfl (by first | exact .inl rfl | exact .inr (.inl rfl) | exact .inr (.inr rfl)))) (ip_var (pe_var (i := 9) rfl (by first | exact .inl rfl | exact .inr (.inl rfl) | exact .inr (.inr rfl)))) (by intro _ _; rfl) hk) ia_nil)))))
    (is_cons (is_if (it_not (it_b (ip_of (ig_call ok_law_kept (hr.mono (by decide)) rfl (ia_cons (ip_ix (ip_var (pe_var (i := 10) rfl (by first | exact .inl rfl | exact .inr (.inl rfl) | exact .inr (.inr rfl)))) ip_int (by intro _ _; rfl) hk) (ia_cons (ip_ix (ip_var (pe_var (i := 10) rfl (by first | exact .inl rfl | exact .inr (.inl rfl) | exact .inr (.inr rfl)))) ip_int (by intro _ _; rfl) hk) (ia_cons (ip_ix (ip_var (pe_var (i := 10) rfl (by first | exact .inl rfl | exact .inr (.inl rfl) | exact .inr (.inr rfl)))) ip_int (by intro _ _; rfl) hk) ia_nil))))))) (is_one (is_ret (ig0 ip_bl))) is_nil)
    (is_cons (is_if (it_c2 (oc_isn hk hr.units) (ip_of (ig_call ok_stands_in (hr.mono (by decide)) rfl (ia_cons (ip_var (pe_var (i := 8) rfl (by first | exact .inl rfl | exact .inr (.inl rfl) | exact .inr (.inr rfl)))) (ia_cons (ip_of (ig_make ok_Bar_init (hr.mono (by decide)) rfl (ia_cons (ip_ix (ip_var (pe_var (i := 10) rfl (by first | exact .inl rfl | exact .inr (.inl rfl) | exact .inr (.inr rfl)))) ip_int (by intro _ _; rfl) hk) (ia_cons (ip_new (in_bn (bn_list hk rfl) rfl G.n_list (ia_cons (ip_ix (ip_var (pe_var (i := 10) rfl (by first | exact .inl rfl | exact .inr (.inl rfl) | exact .inr (.inr rfl)))) ip_int (by intro _ _; rfl) hk) ia_nil))) (ia_cons (ip_bi (bi_tuple hk rfl) rfl G.n_tuple (ia_cons (ip_ix (ip_var (pe_var (i := 10) rfl (by first | exact .inl rfl | exact .inr (.inl rfl) | exact .inr (.inr rfl)))) ip_int (by intro _ _; rfl) hk) ia_nil)) ia_nil))))) ia_nil)))) ip_bl) (is_one (is_ret (ig0 ip_bl))) is_nil)
    (is_cons (is_set (i := 11) (ps_set (i := 11) sc_law.nd rfl (by first | exact .inl rfl | exact .inr rfl) (ig_call ok_law_near (hr.mono (by decide)) rfl (ia_cons (ip_var (pe_var (i := 10) rfl (by first | exact .inl rfl | exact .inr (.inl rfl) | exact .inr (.inr rfl)))) (ia_cons (ip_var (pe_var (i := 4) rfl (by first | exact .inl rfl | exact .inr (.inl rfl) | exact .inr (.inr rfl)))) (ia_cons (ip_var (pe_var (i := 7) rfl (by first | exact .inl rfl | exact .inr (.inl rfl) | exact .inr (.inr rfl)))) (ia_cons (ip_cut (ip_var (pe_var (i := 2) rfl (by first | exact .inl rfl | exact .inr (.inl rfl) | exact .inr (.inr rfl)))) (io_some (ip_add hk ip_int (ip_mul (ip_var (pe_var (i := 9) rfl (by first | exact .inl rfl | exact .inr (.inl rfl) | exact .inr (.inr rfl)))) ip_int))) io_none hk) ia_nil)))))))
    (is_cons (is_for (ii_any hk (ip_var (pe_var (i := 11) rfl (by first | exact .inl rfl | exact .inr (.inl rfl) | exact .inr (.inr rfl))))) (it_name (pg_name (i := 12) sc_law.nd rfl (by first | exact .inl rfl | exact .inr rfl))) (is_cons (is_set (i := 15) (ps_set (i := 15) sc_law.nd rfl (by first | exact .inl rfl | exact .inr rfl) (ig_call ok_law_stands (hr.mono (by decide)) rfl (ia_cons (ip_var (pe_var (i := 4) rfl (by first | exact .inl rfl | exact .inr (.inl rfl) | exact .inr (.inr rfl)))) (ia_cons (ip_var (pe_var (i := 7) rfl (by first | exact .inl rfl | exact .inr (.inl rfl) | exact .inr (.inr rfl)))) (ia_cons (ip_ix (ip_var (pe_var (i := 12) rfl (by first | exact .inl rfl | exact .inr (.inl rfl) | exact .inr (.inr rfl)))) ip_int (by intro _ _; rfl) hk) (ia_cons (ip_ix (ip_var (pe_var (i := 12) rfl (by first | exact .inl rfl | exact .inr (.inl rfl) | exact .inr (.inr rfl)))) ip_int (by intro _ _; rfl) hk) (ia_cons (ip_ix (ip_var (pe_var (i := 12) rfl (by first | exact .inl rfl | exact .inr (.inl rfl) | exact .inr (.inr rfl)))) ip_int (by intro _ _; rfl) hk) ia_nil))))))))
    (is_one (is_if (it_not (it_b (ip_of (ig_call ok_law_is_told (hr.mono (by decide)) rfl (ia_cons (ip_of (ig_call ok_stands_in (hr.mono (by decide)) rfl (ia_cons (ip_var (pe_var (i := 8) rfl (by first | exact .inl rfl | exact .inr (.inl rfl) | exact .inr (.inr rfl)))) (ia_cons (ip_of (ig_make ok_Bar_init (hr.mono (by decide)) rfl (ia_cons (ip_ix (ip_var (pe_var (i := 12) rfl (by first | exact .inl rfl | exact .inr (.inl rfl) | exact .inr (.inr rfl)))) ip_int (by intro _ _; rfl) hk) (ia_cons (ip_bi (bi_tuple hk rfl) rfl G.n_tuple (ia_cons (ip_ix (ip_var (pe_var (i := 12) rfl (by first | exact .inl rfl | exact .inr (.inl rfl) | exact .inr (.inr rfl)))) ip_int (by intro _ _; rfl) hk) ia_nil)) (ia_cons (ip_new (in_bn (bn_list hk rfl) rfl G.n_list (ia_cons (ip_ix (ip_var (pe_var (i := 12) rfl (by first | exact .inl rfl | exact .inr (.inl rfl) | exact .inr (.inr rfl)))) ip_int (by intro _ _; rfl) hk) ia_nil))) ia_nil))))) ia_nil)))) (ia_cons (ip_var (pe_var (i := 15) rfl (by first | exact .inl rfl | exact .inr (.inl rfl) | exact .inr (.inr rfl)))) ia_nil)))))) (is_one (is_ret (ig0 ip_bl))) is_nil))) PassesOwn.never rfl)
    (is_cons (is_set (i := 13) (ps_set (i := 13) sc_law.nd rfl (by first | exact .inl rfl | exact .inr rfl) (ig_sub (ig_methS ok_Table_plus (hr.mono (by decide)) (ip_var (pe_var (i := 8) rfl (by first | exact .inl rfl | exact .inr (.inl rfl) | exact .inr (.inr rfl)))) (ia_cons (ip_new (in_lst (ia_cons (ip_ix (ip_var (pe_var (i := 4) rfl (by first | exact .inl rfl | exact .inr (.inl rfl) | exact .inr (.inr rfl)))) ip_int (by intro _ _; rfl) hk) ia_nil))) (ia_cons (ip_new (in_bn (bn_list hk rfl) rfl G.n_list (ia_cons (ip_var (pe_var (i := 4) rfl (by first | exact .inl rfl | exact .inr (.inl rfl) | exact .inr (.inr rfl)))) ia_nil))) ia_nil))))))
    (is_cons (is_if (it_c2 (oc_isn hk hr.units) (ip_of (ig_call ok_stands_in (hr.mono (by decide)) rfl (ia_cons (ip_var (pe_var (i := 13) rfl (by first | exact .inl rfl | exact .inr (.inl rfl) | exact .inr (.inr rfl)))) (ia_cons (ip_of (ig_make ok_Bar_init (hr.mono (by decide)) rfl (ia_cons (ip_ix (ip_var (pe_var (i := 10) rfl (by first | exact .inl rfl | exact .inr (.inl rfl) | exact .inr (.inr rfl)))) ip_int (by intro _ _; rfl) hk) (ia_cons (ip_new (in_bn (bn_list hk rfl) rfl G.n_list (ia_cons (ip_ix (ip_var (pe_var (i := 10) rfl (by first | exact .inl rfl | exact .inr (.inl rfl) | exact .inr (.inr rfl)))) ip_int (by intro _ _; rfl) hk) ia_nil))) (ia_cons (ip_new (in_bn (bn_list hk rfl) rfl G.n_list (ia_cons (ip_ix (ip_var (pe_var (i := 10) rfl (by first | exact .inl rfl | exact .inr (.inl rfl) | exact .inr (.inr rfl)))) ip_int (by intro _ _; rfl) hk) ia_nil))) ia_nil))))) ia_nil)))) ip_bl) (is_one (is_ret (ig0 ip_bl))) is_nil)
    (is_one (is_for (ii_any hk (ip_of (ig_call ok_law_changed_rows (hr.mono (by decide)) rfl (ia_cons (ip_var (pe_var (i := 10) rfl (by first | exact .inl rfl | exact .inr (.inl rfl) | exact .inr (.inr rfl)))) (ia_cons (ip_var (pe_var (i := 4) rfl (by first | exact .inl rfl | exact .inr (.inl rfl) | exact .inr (.inr rfl)))) (ia_cons (ip_var (pe_var (i := 7) rfl (by first | exact .inl rfl | exact .inr (.inl rfl) | exact .inr (.inr rfl)))) (ia_cons (ip_cut (ip_var (pe_var (i := 2) rfl (by first | exact .inl rfl | exact .inr (.inl rfl) | exact .inr (.inr rfl)))) (io_some (ip_add hk ip_int (ip_mul (ip_var (pe_var (i := 9) rfl (by first | exact .inl rfl | exact .inr (.inl rfl) | exact .inr (.inr rfl)))) ip_int))) io_none hk) ia_nil))))))) (it_name (pg_name (i := 14) sc_law.nd rfl (by first | exact .inl rfl | exact .inr rfl))) (is_cons (is_set (i := 15) (ps_set (i := 15) sc_law.nd rfl (by first | exact .inl rfl | exact .inr rfl) (ig_call ok_law_stands (hr.mono (by decide)) rfl (ia_cons (ip_var (pe_var (i := 4) rfl (by first | exact .inl rfl | exact .inr (.inl rfl) | exact .inr (.inr rfl)))) (ia_cons (ip_var (pe_var (i := 14) rfl (by first | exact .inl rfl | exact .inr (.inl rfl) | exact .inr (.inr rfl)))) (ia_cons (ip_ix (ip_var (pe_var (i := 10) rfl (by first | exact .inl rfl | exact .inr (.inl rfl) | exact .inr (.inr rfl)))) ip_int (by intro _ _; rfl) hk) (ia_cons (ip_ix (ip_var (pe_var (i := 10) rfl (by first | exact .inl rfl | exact .inr (.inl rfl) | exact .inr (.inr rfl)))) ip_int (by intro _ _; rfl) hk) (ia_cons (ip_ix (ip_var (pe_var (i := 10) rfl (by first | exact .inl rfl | exact .inr (.inl rfl) | exact .inr (.inr rfl)))) ip_int (by intro _ _; rfl) hk) ia_nil))))))))
    (is_one (is_if (it_not (it_b (ip_of (ig_call ok_law_is_told (hr.mono (by decide)) rfl (ia_cons (ip_of (ig_call ok_stands_in (hr.mono (by decide)) rfl (ia_cons (ip_of (ig_make ok_Table_init (hr.mono (by decide)) rfl (ia_cons (ip_new (in_bn (bn_list hk rfl) rfl G.n_list (ia_cons (ip_var (pe_var (i := 4) rfl (by first | exact .inl rfl | exact .inr (.inl rfl) | exact .inr (.inr rfl)))) ia_nil))) (ia_cons (ip_of (ig_lc (own := [("row", 16)]) rfl sc_law.nd (ii_any hk (ip_var (pe_var (i := 14) rfl (by first | exact .inl rfl | exact .inr (.inl rfl) | exact .inr (.inr rfl))))) (blk_of (N := ["script", "pool", "free", "size", "names", "order", "setting", "rows", "table", "k", "right", "bars", "bar", "longer", "other", "due", "row"]) (by kernel_rfl)) (fun _ _ _ _ _ => (it_name (pg_name (i := 16) sc_law.nd rfl (by first | exact .inl rfl | exact .inr rfl)))) (fun _ _ _ _ _ => its_yes) (fun _ _ _ _ _ => (ig0 (ip_new (in_bn (bn_list hk rfl) rfl G.n_list (ia_cons (ip_var (pe_var (i := 16) rfl (by first | exact .inl rfl | exact .inr (.inl rfl) | exact .inr (.inr rfl)))) ia_nil))))) (by decide))) ia_nil)))) (ia_cons (ip_of (ig_make ok_Bar_init (hr.mono (by decide)) rfl (ia_cons (ip_ix (ip_var (pe_var (i := 10) rfl (by first | exact .inl rfl | exact .inr (.inl rfl) | exact .inr (.inr rfl)))) ip_int (by intro _ _; rfl) hk) (ia_cons (ip_new (in_bn (bn_list hk rfl) rfl G.n_list (ia_cons (ip_ix (ip_var (pe_var (i := 10) rfl (by first | exact .inl rfl | exact .inr (.inl rfl) | exact .inr (.inr rfl)))) ip_int (by intro _ _; rfl) hk) ia_nil))) (ia_cons (ip_new (in_bn (bn_list hk rfl) rfl G.n_list (ia_cons (ip_ix (ip_var (pe_var (i := 10) rfl (by first | exact .inl rfl | exact .inr (.inl rfl) | exact .inr (.inr rfl)))) ip_int (by intro _ _; rfl) hk) ia_nil))) ia_nil))))) ia_nil)))) (ia_cons (ip_var (pe_var (i := 15) rfl (by first | exact .inl rfl | exact .inr (.inl rfl) | exact .inr (.inr rfl)))) ia_nil)))))) (is_one (is_ret (ig0 ip_bl))) is_nil))) PassesOwn.never rfl))))))))) PassesOwn.never rfl)
    (is_one (is_ret (ig0 (ip_c2 (oc_is hk hr.units) (ip_of (ig_call ok_stands_in (hr.mono (by decide)) rfl (ia_cons (ip_var (pe_var (i := 8) rfl (by first | exact .inl rfl | exact .inr (.inl rfl) | exact .inr (.inr rfl)))) (ia_cons (ip_of (ig_make ok_Bar_init (hr.mono (by decide)) rfl (ia_cons (ip_ix (ip_var (pe_var (i := 6) rfl (by first | exact .inl rfl | exact .inr (.inl rfl) | exact .inr (.inr rfl)))) ip_int (by intro _ _; rfl) hk) (ia_cons (ip_new (in_bn (bn_list hk rfl) rfl G.n_list (ia_cons (ip_ix (ip_var (pe_var (i := 6) rfl (by first | exact .inl rfl | exact .inr (.inl rfl) | exact .inr (.inr rfl)))) ip_int (by intro _ _; rfl) hk) ia_nil))) (ia_cons (ip_new (in_bn (bn_list hk rfl) rfl G.n_list (ia_cons (ip_ix (ip_var (pe_var (i := 6) rfl (by first | exact .inl rfl | exact .inr (.inl rfl) | exact .inr (.inr rfl)))) ip_int (by intro _ _; rfl) hk) ia_nil))) ia_nil))))) ia_nil)))) ip_bl)))))))))))))
theorem ok_law (G : Gd P w K mg base k) : OkF P w K mg base k 6 "law" 1 0 F_law := by
  obtain ⟨f, fd, F, hm⟩ := G.d_law
  exact ok_fn (lv := 5) F sc_law hm (F.bindsN fun _ _ _ _ _ _ us hl => match us, hl with | [_], _ => rfl) (fun cdv A outer s H E hr => bd_law G f cdv A outer s H E hr)
end
end Gn

set_option Elab.async false
set_option linter.all false
set_option maxRecDepth 100000
set_option maxHeartbeats 2000000
/-! what k44's defs compute -/
namespace Gn
open PySem Iv Pl
theorem e_cell (ns : List Int) (i : Nat) : F_law_cell [(0, .scr ns), (0, .int i)] = some (.int (ns.getD i 0)) := by
  simp only [F_law_cell, b_law_cell, runB, startR, runI, seqS, iteS, skS, noS, cmp, chn, varP, cst, callP, callG, callN, c1, c2, lenD, absD, intD, maxD, minD, tupD, lstD, aCons, aNil, intC, ltC, leC, gtC, geC, retS, retN, keep0, frP, blP, bin, una, addD, subD, mulD, divD, modD, powD, negD, notD, ixP, ixD, setS, setO, setR, frzS, asgS, bN, bT, bCons, bNil, rngI, rgN, rg1, rg2, asI, asB, andT, orT, notT, andP, orP, ifP, small, kept, tupP, dropS, clrS, fldP, fldD, fldS, anyI, seqD, enumI, cutP, cutN, revN, noO, ofO, isC, isnC, isNone, ninC, neC, D.mut, isiD, isoD, isiB, tyD, appS, forS, yesT, lcG, lcN, methG, starF, D.flat, lsetD, Option.bind_some, Option.map_some, Option.bind_none, Option.map_none, List.getElem?_cons_zero, List.getElem?_cons_succ, List.length_cons, List.length_nil, List.map_cons, List.map_nil, List.cons_append, List.nil_append, List.replicate_succ, List.replicate_zero, List.set_cons_zero, List.set_cons_succ, List.all_cons, List.all_nil, if_true, if_false, Bool.true_and, Bool.and_true, beq_self_eq_true, reduceCtorEq, or_true, true_or, or_false, false_or, and_true, true_and, List.length_map, List.length_replicate, Nat.reduceAdd, Nat.reduceSub, Nat.reduceLT, Nat.reduceLeDiff, Nat.reduceEqDiff, Int.reduceNeg, Int.reduceLT, Int.reduceLE, Int.reduceMul, Int.reducePow, decide_true, decide_false, Bool.false_eq_true, if_neg, ite_self, not_true_eq_false, not_false_eq_true, Int.reduceToNat, Int.reduceAdd, Int.reduceSub, ne_eq, Int.reduceAbs, Nat.reducePow, Nat.reduceMul, Int.reduceNegSucc, and_self, or_self, Int.reduceEq, Nat.reduceBEq, Int.reduceBEq, Nat.lt_irrefl, if_pos, decide_eq_true_eq, Bool.not_true, Bool.not_false, Bool.or_true, Bool.or_false, Bool.and_false, Bool.false_and, Bool.true_or, Bool.false_or]
  by_cases h : i < ns.length
  · rw [at_nat _ rfl]
    have h2 : ((i : Int) < (ns.length : Int)) := by omega
    simp [h2, h]
  · have h2 : ¬ ((i : Int) < (ns.length : Int)) := by omega
    simp only [h2, runB, startR, runI, seqS, iteS, skS, noS, cmp, chn, varP, cst, callP, callG, callN, c1, c2, lenD, absD, intD, maxD, minD, tupD, lstD, aCons, aNil, intC, ltC, leC, gtC, geC, retS, retN, keep0, frP, blP, bin, una, addD, subD, mulD, divD, modD, powD, negD, notD, ixP, ixD, setS, setO, setR, frzS, asgS, bN, bT, bCons, bNil, rngI, rgN, rg1, rg2, asI, asB, andT, orT, notT, andP, orP, ifP, small, kept, tupP, dropS, clrS, fldP, fldD, fldS, anyI, seqD, enumI, cutP, cutN, revN, noO, ofO, isC, isnC, isNone, ninC, neC, D.mut, isiD, isoD, isiB, tyD, appS, forS, yesT, lcG, lcN, methG, starF, D.flat, lsetD, Option.bind_some, Option.map_some, Option.bind_none, Option.map_none, List.getElem?_cons_zero, List.getElem?_cons_succ, List.length_cons, List.length_nil, List.map_cons, List.map_nil, List.cons_append, List.nil_append, List.replicate_succ, List.replicate_zero, List.set_cons_zero, List.set_cons_succ, List.all_cons, List.all_nil, if_true, if_false, Bool.true_and, Bool.and_true, beq_self_eq_true, reduceCtorEq, or_true, true_or, or_false, false_or, and_true, true_and, List.length_map, List.length_replicate, Nat.reduceAdd, Nat.reduceSub, Nat.reduceLT, Nat.reduceLeDiff, Nat.reduceEqDiff, Int.reduceNeg, Int.reduceLT, Int.reduceLE, Int.reduceMul, Int.reducePow, decide_true, decide_false, Bool.false_eq_true, if_neg, ite_self, not_true_eq_false, not_false_eq_true, Int.reduceToNat, Int.reduceAdd, Int.reduceSub, ne_eq, Int.reduceAbs, Nat.reducePow, Nat.reduceMul, Int.reduceNegSucc, and_self, or_self, Int.reduceEq, Nat.reduceBEq, Int.reduceBEq, Nat.lt_irrefl, if_pos, decide_eq_true_eq, Bool.not_true, Bool.not_false, Bool.or_true, Bool.or_false, Bool.and_false, Bool.false_and, Bool.true_or, Bool.false_or]
    simp [List.getD, h]
def okI (l : List Int) : Prop := ∀ x ∈ l, 0 ≤ x ∧ x < 27720
def Ip (S K C : Option Sl) (n : Nat) (ρ : Rho) : Prop := ∃ (v : Int) (l : List Int) (a b c d : Option Sl), ρ = [S, K, C, some ⟨false, 0, .int v⟩, some ⟨true, 1, .lst (l.map .int)⟩, a, b, c, d] ∧ l.length = n ∧ okI l ∧ 0 ≤ v
theorem okI_app {l : List Int} {x : Int} (h : okI l) (hx : 0 ≤ x ∧ x < 27720) : okI (l ++ [x]) := fun y hy => by
  rcases List.mem_append.mp hy with z | z
  · exact h y z
  · rw [List.mem_singleton.mp z]; exact hx
theorem s6 (v k z : Int) (a b c d e g : Option Sl) : (setS 6 (keep0 (bin modD (callP (c1 intD) (aCons (bin addD (bin addD (bin addD (bin mulD (varP 3) (cst (.int 48271))) (bin mulD (bin addD (varP 5) (cst (.int 1))) (cst (.int 69621)))) (bin mulD (varP 1) (cst (.int 7919)))) (cst (.int 1234577))) aNil)) (cst (.int 2147483647))))) [a, some ⟨false, 0, .int k⟩, b, some ⟨false, 0, .int v⟩, c, some ⟨false, 0, .int z⟩, d, e, g] =
  some (.nx, [a, some ⟨false, 0, .int k⟩, b, some ⟨false, 0, .int v⟩, c, some ⟨false, 0, .int z⟩, some ⟨false, 0, .int ((v * 48271 + (z + 1) * 69621 + k * 7919 + 1234577) % 2147483647)⟩, e, g]) := by
  simp only [runB, startR, runI, seqS, iteS, skS, noS, cmp, chn, varP, cst, callP, callG, callN, c1, c2, lenD, absD, intD, maxD, minD, tupD, lstD, aCons, aNil, intC, ltC, leC, gtC, geC, retS, retN, keep0, frP, blP, bin, una, addD, subD, mulD, divD, modD, powD, negD, notD, ixP, ixD, setS, setO, setR, frzS, asgS, bN, bT, bCons, bNil, rngI, rgN, rg1, rg2, asI, asB, andT, orT, notT, andP, orP, ifP, small, kept, tupP, dropS, clrS, fldP, fldD, fldS, anyI, seqD, enumI, cutP, cutN, revN, noO, ofO, isC, isnC, isNone, ninC, neC, D.mut, isiD, isoD, isiB, tyD, appS, forS, yesT, lcG, lcN, methG, starF, D.flat, lsetD, Option.bind_some, Option.map_some, Option.bind_none, Option.map_none, List.getElem?_cons_zero, List.getElem?_cons_succ, List.length_cons, List.length_nil, List.map_cons, List.map_nil, List.cons_append, List.nil_append, List.replicate_succ, List.replicate_zero, List.set_cons_zero, List.set_cons_succ, List.all_cons, List.all_nil, if_true, if_false, Bool.true_and, Bool.and_true, beq_self_eq_true, reduceCtorEq, or_true, true_or, or_false, false_or, and_true, true_and, List.length_map, List.length_replicate, Nat.reduceAdd, Nat.reduceSub, Nat.reduceLT, Nat.reduceLeDiff, Nat.reduceEqDiff, Int.reduceNeg, Int.reduceLT, Int.reduceLE, Int.reduceMul, Int.reducePow, decide_true, decide_false, Bool.false_eq_true, if_neg, ite_self, not_true_eq_false, not_false_eq_true, Int.reduceToNat, Int.reduceAdd, Int.reduceSub, ne_eq, Int.reduceAbs, Nat.reducePow, Nat.reduceMul, Int.reduceNegSucc, and_self, or_self, Int.reduceEq, Nat.reduceBEq, Int.reduceBEq, Nat.lt_irrefl, if_pos, decide_eq_true_eq, Bool.not_true, Bool.not_false, Bool.or_true, Bool.or_false, Bool.and_false, Bool.false_and, Bool.true_or, Bool.false_or]
theorem s7 (v f z : Int) (f2 : (-18446744073709551616 : Int) < f) (f3 : f < 18446744073709551616) (a b c d e g : Option Sl) : (setS 7 (keep0 (bin modD (callP (c1 intD) (aCons (bin addD (bin addD (bin mulD (varP 6) (varP 6)) (bin mulD (varP 3) (cst (.int 16807)))) (varP 5)) aNil)) (cst (.int 2147483629))))) [a, d, b, some ⟨false, 0, .int v⟩, c, some ⟨false, 0, .int z⟩, some ⟨false, 0, .int f⟩, e, g] =
  some (.nx, [a, d, b, some ⟨false, 0, .int v⟩, c, some ⟨false, 0, .int z⟩, some ⟨false, 0, .int f⟩, some ⟨false, 0, .int ((f * f + v * 16807 + z) % 2147483629)⟩, g]) := by
  simp only [f2, f3, runB, startR, runI, seqS, iteS, skS, noS, cmp, chn, varP, cst, callP, callG, callN, c1, c2, lenD, absD, intD, maxD, minD, tupD, lstD, aCons, aNil, intC, ltC, leC, gtC, geC, retS, retN, keep0, frP, blP, bin, una, addD, subD, mulD, divD, modD, powD, negD, notD, ixP, ixD, setS, setO, setR, frzS, asgS, bN, bT, bCons, bNil, rngI, rgN, rg1, rg2, asI, asB, andT, orT, notT, andP, orP, ifP, small, kept, tupP, dropS, clrS, fldP, fldD, fldS, anyI, seqD, enumI, cutP, cutN, revN, noO, ofO, isC, isnC, isNone, ninC, neC, D.mut, isiD, isoD, isiB, tyD, appS, forS, yesT, lcG, lcN, methG, starF, D.flat, lsetD, Option.bind_some, Option.map_some, Option.bind_none, Option.map_none, List.getElem?_cons_zero, List.getElem?_cons_succ, List.length_cons, List.length_nil, List.map_cons, List.map_nil, List.cons_append, List.nil_append, List.replicate_succ, List.replicate_zero, List.set_cons_zero, List.set_cons_succ, List.all_cons, List.all_nil, if_true, if_false, Bool.true_and, Bool.and_true, beq_self_eq_true, reduceCtorEq, or_true, true_or, or_false, false_or, and_true, true_and, List.length_map, List.length_replicate, Nat.reduceAdd, Nat.reduceSub, Nat.reduceLT, Nat.reduceLeDiff, Nat.reduceEqDiff, Int.reduceNeg, Int.reduceLT, Int.reduceLE, Int.reduceMul, Int.reducePow, decide_true, decide_false, Bool.false_eq_true, if_neg, ite_self, not_true_eq_false, not_false_eq_true, Int.reduceToNat, Int.reduceAdd, Int.reduceSub, ne_eq, Int.reduceAbs, Nat.reducePow, Nat.reduceMul, Int.reduceNegSucc, and_self, or_self, Int.reduceEq, Nat.reduceBEq, Int.reduceBEq, Nat.lt_irrefl, if_pos, decide_eq_true_eq, Bool.not_true, Bool.not_false, Bool.or_true, Bool.or_false, Bool.and_false, Bool.false_and, Bool.true_or, Bool.false_or]
theorem s8 (f x : Int) (f2 : (-18446744073709551616 : Int) < x) (f3 : x < 18446744073709551616) (a b c d e h g : Option Sl) : (setS 8 (keep0 (bin modD (callP (c1 intD) (aCons (bin addD (bin mulD (varP 7) (varP 7)) (varP 6)) aNil)) (cst (.int 2147483587))))) [a, d, b, h, c, e, some ⟨false, 0, .int f⟩, some ⟨false, 0, .int x⟩, g] =
  some (.nx, [a, d, b, h, c, e, some ⟨false, 0, .int f⟩, some ⟨false, 0, .int x⟩, some ⟨false, 0, .int ((x * x + f) % 2147483587)⟩]) := by
  simp only [f2, f3, runB, startR, runI, seqS, iteS, skS, noS, cmp, chn, varP, cst, callP, callG, callN, c1, c2, lenD, absD, intD, maxD, minD, tupD, lstD, aCons, aNil, intC, ltC, leC, gtC, geC, retS, retN, keep0, frP, blP, bin, una, addD, subD, mulD, divD, modD, powD, negD, notD, ixP, ixD, setS, setO, setR, frzS, asgS, bN, bT, bCons, bNil, rngI, rgN, rg1, rg2, asI, asB, andT, orT, notT, andP, orP, ifP, small, kept, tupP, dropS, clrS, fldP, fldD, fldS, anyI, seqD, enumI, cutP, cutN, revN, noO, ofO, isC, isnC, isNone, ninC, neC, D.mut, isiD, isoD, isiB, tyD, appS, forS, yesT, lcG, lcN, methG, starF, D.flat, lsetD, Option.bind_some, Option.map_some, Option.bind_none, Option.map_none, List.getElem?_cons_zero, List.getElem?_cons_succ, List.length_cons, List.length_nil, List.map_cons, List.map_nil, List.cons_append, List.nil_append, List.replicate_succ, List.replicate_zero, List.set_cons_zero, List.set_cons_succ, List.all_cons, List.all_nil, if_true, if_false, Bool.true_and, Bool.and_true, beq_self_eq_true, reduceCtorEq, or_true, true_or, or_false, false_or, and_true, true_and, List.length_map, List.length_replicate, Nat.reduceAdd, Nat.reduceSub, Nat.reduceLT, Nat.reduceLeDiff, Nat.reduceEqDiff, Int.reduceNeg, Int.reduceLT, Int.reduceLE, Int.reduceMul, Int.reducePow, decide_true, decide_false, Bool.false_eq_true, if_neg, ite_self, not_true_eq_false, not_false_eq_true, Int.reduceToNat, Int.reduceAdd, Int.reduceSub, ne_eq, Int.reduceAbs, Nat.reducePow, Nat.reduceMul, Int.reduceNegSucc, and_self, or_self, Int.reduceEq, Nat.reduceBEq, Int.reduceBEq, Nat.lt_irrefl, if_pos, decide_eq_true_eq, Bool.not_true, Bool.not_false, Bool.or_true, Bool.or_false, Bool.and_false, Bool.false_and, Bool.true_or, Bool.false_or]
theorem s9 (t : Int) (l : List Int) (hl : l.length < 99999) (a b c d e h g i : Option Sl) : (appS 4 0 (keep0 (bin modD (callP (c1 intD) (aCons (bin divD (varP 8) (cst (.int 17))) aNil)) (cst (.int 27720))))) [a, d, b, h, some ⟨true, 1, .lst (l.map .int)⟩, e, g, i, some ⟨false, 0, .int t⟩] =
  some (.nx, [a, d, b, h, some ⟨true, 1, .lst (l.map .int ++ [.int (t / 17 % 27720)])⟩, e, g, i, some ⟨false, 0, .int t⟩]) := by
  simp only [hl, runB, startR, runI, seqS, iteS, skS, noS, cmp, chn, varP, cst, callP, callG, callN, c1, c2, lenD, absD, intD, maxD, minD, tupD, lstD, aCons, aNil, intC, ltC, leC, gtC, geC, retS, retN, keep0, frP, blP, bin, una, addD, subD, mulD, divD, modD, powD, negD, notD, ixP, ixD, setS, setO, setR, frzS, asgS, bN, bT, bCons, bNil, rngI, rgN, rg1, rg2, asI, asB, andT, orT, notT, andP, orP, ifP, small, kept, tupP, dropS, clrS, fldP, fldD, fldS, anyI, seqD, enumI, cutP, cutN, revN, noO, ofO, isC, isnC, isNone, ninC, neC, D.mut, isiD, isoD, isiB, tyD, appS, forS, yesT, lcG, lcN, methG, starF, D.flat, lsetD, Option.bind_some, Option.map_some, Option.bind_none, Option.map_none, List.getElem?_cons_zero, List.getElem?_cons_succ, List.length_cons, List.length_nil, List.map_cons, List.map_nil, List.cons_append, List.nil_append, List.replicate_succ, List.replicate_zero, List.set_cons_zero, List.set_cons_succ, List.all_cons, List.all_nil, if_true, if_false, Bool.true_and, Bool.and_true, beq_self_eq_true, reduceCtorEq, or_true, true_or, or_false, false_or, and_true, true_and, List.length_map, List.length_replicate, Nat.reduceAdd, Nat.reduceSub, Nat.reduceLT, Nat.reduceLeDiff, Nat.reduceEqDiff, Int.reduceNeg, Int.reduceLT, Int.reduceLE, Int.reduceMul, Int.reducePow, decide_true, decide_false, Bool.false_eq_true, if_neg, ite_self, not_true_eq_false, not_false_eq_true, Int.reduceToNat, Int.reduceAdd, Int.reduceSub, ne_eq, Int.reduceAbs, Nat.reducePow, Nat.reduceMul, Int.reduceNegSucc, and_self, or_self, Int.reduceEq, Nat.reduceBEq, Int.reduceBEq, Nat.lt_irrefl, if_pos, decide_eq_true_eq, Bool.not_true, Bool.not_false, Bool.or_true, Bool.or_false, Bool.and_false, Bool.false_and, Bool.true_or, Bool.false_or]
theorem pool_step (v k z : Int) (l : List Int) (S C a b c d : Option Sl) (hl : l.length < 99999) : ∃ (x : Int) (p1 p2 p3 p4 : Option Sl), (0 ≤ x ∧ x < 27720) ∧ ∀ (Pn : Rho → Prop) (Pr : D → Prop), Pn [S, some ⟨false, 0, .int k⟩, C, some ⟨false, 0, .int v⟩, some ⟨true, 1, .lst ((l ++ [x]).map .int)⟩, p1, p2, p3, p4] →
    Wp Pn Pr (l_law_pool_2 [S, some ⟨false, 0, .int k⟩, C, some ⟨false, 0, .int v⟩, some ⟨true, 1, .lst (l.map .int)⟩, some ⟨false, 0, .int z⟩, b, c, d]) := by
  have f1 : ∀ x : Int, 0 ≤ x % 2147483647 ∧ x % 2147483647 < 2147483647 := fun x => by omega
  have g1 : ∀ x : Int, 0 ≤ x % 2147483629 ∧ x % 2147483629 < 2147483629 := fun x => by omega
  have h6 := s6 v k z S C (some ⟨true, 1, .lst (l.map .int)⟩) b c d
  have f1 := f1 (v * 48271 + (z + 1) * 69621 + k * 7919 + 1234577)
  generalize (v * 48271 + (z + 1) * 69621 + k * 7919 + 1234577) % 2147483647 = f at *
  have h7 := s7 v f z (by omega) (by omega) S C (some ⟨true, 1, .lst (l.map .int)⟩) (some ⟨false, 0, .int k⟩) c d
  have g1 := g1 (f * f + v * 16807 + z)
  generalize (f * f + v * 16807 + z) % 2147483629 = g at *
  have h8 := s8 f g (by omega) (by omega) S C (some ⟨true, 1, .lst (l.map .int)⟩) (some ⟨false, 0, .int k⟩) (some ⟨false, 0, .int z⟩) (some ⟨false, 0, .int v⟩) d
  generalize (g * g + f) % 2147483587 = t at *
  have h9 := s9 t l hl S C none (some ⟨false, 0, .int k⟩) (some ⟨false, 0, .int z⟩) (some ⟨false, 0, .int v⟩) (some ⟨false, 0, .int f⟩) (some ⟨false, 0, .int g⟩)
  refine ⟨t / 17 % 27720, some ⟨false, 0, .int z⟩, some ⟨false, 0, .int f⟩, some ⟨false, 0, .int g⟩, some ⟨false, 0, .int t⟩, by omega, fun Pn Pr hp => ?_⟩
  unfold l_law_pool_2
  refine wp_seq (wp_nx h6 (wp_seq (wp_nx h7 (wp_seq (wp_nx h8 (wp_nx h9 ?_))))))
  rw [List.map_append] at hp
  exact hp
theorem e_pool (ns : List Int) (kn count : Nat) (k : Int) (hk : k = kn) (hc : count ≤ 1000) : ∃ l : List Int, F_law_pool [(0, .scr ns), (0, .int k), (0, .int count)] = some (.lst (l.map .int)) ∧ l.length = count ∧ okI l := by
  have ec : F_law_cell [(0, .scr ns), (0, .int k)] = some (.int (ns.getD kn 0)) := by rw [hk]; exact e_cell ns kn
  suffices h : ∃ d, F_law_pool [(0, .scr ns), (0, .int k), (0, .int count)] = some d ∧ ∃ l : List Int, d = .lst (l.map .int) ∧ l.length = count ∧ okI l by
    obtain ⟨d, e, l, rfl, h⟩ := h
    exact ⟨l, e, h⟩
  refine run_wp rfl (wp_seq ?_)
  have hv : (0 : Int) ≤ (if ns.getD kn 0 < 0 then -ns.getD kn 0 else ns.getD kn 0) := by split <;> omega
  refine wp_nx (by simp only [runB, startR, runI, seqS, iteS, skS, noS, cmp, chn, varP, cst, callP, callG, callN, c1, c2, lenD, absD, intD, maxD, minD, tupD, lstD, aCons, aNil, intC, ltC, leC, gtC, geC, retS, retN, keep0, frP, blP, bin, una, addD, subD, mulD, divD, modD, powD, negD, notD, ixP, ixD, setS, setO, setR, frzS, asgS, bN, bT, bCons, bNil, rngI, rgN, rg1, rg2, asI, asB, andT, orT, notT, andP, orP, ifP, small, kept, tupP, dropS, clrS, fldP, fldD, fldS, anyI, seqD, enumI, cutP, cutN, revN, noO, ofO, isC, isnC, isNone, ninC, neC, D.mut, isiD, isoD, isiB, tyD, appS, forS, yesT, lcG, lcN, methG, starF, D.flat, lsetD, Option.bind_some, Option.map_some, Option.bind_none, Option.map_none, List.getElem?_cons_zero, List.getElem?_cons_succ, List.length_cons, List.length_nil, List.map_cons, List.map_nil, List.cons_append, List.nil_append, List.replicate_succ, List.replicate_zero, List.set_cons_zero, List.set_cons_succ, List.all_cons, List.all_nil, if_true, if_false, Bool.true_and, Bool.and_true, beq_self_eq_true, reduceCtorEq, or_true, true_or, or_false, false_or, and_true, true_and, List.length_map, List.length_replicate, Nat.reduceAdd, Nat.reduceSub, Nat.reduceLT, Nat.reduceLeDiff, Nat.reduceEqDiff, Int.reduceNeg, Int.reduceLT, Int.reduceLE, Int.reduceMul, Int.reducePow, decide_true, decide_false, Bool.false_eq_true, if_neg, ite_self, not_true_eq_false, not_false_eq_true, Int.reduceToNat, Int.reduceAdd, Int.reduceSub, ne_eq, Int.reduceAbs, Nat.reducePow, Nat.reduceMul, Int.reduceNegSucc, and_self, or_self, Int.reduceEq, Nat.reduceBEq, Int.reduceBEq, Nat.lt_irrefl, if_pos, decide_eq_true_eq, Bool.not_true, Bool.not_false, Bool.or_true, Bool.or_false, Bool.and_false, Bool.false_and, Bool.true_or, Bool.false_or, ec] <;> exact rfl) ?_
  generalize (if ns.getD kn 0 < 0 then -ns.getD kn 0 else ns.getD kn 0) = v at *
  refine wp_seq (wp_nx (by simp only [runB, startR, runI, seqS, iteS, skS, noS, cmp, chn, varP, cst, callP, callG, callN, c1, c2, lenD, absD, intD, maxD, minD, tupD, lstD, aCons, aNil, intC, ltC, leC, gtC, geC, retS, retN, keep0, frP, blP, bin, una, addD, subD, mulD, divD, modD, powD, negD, notD, ixP, ixD, setS, setO, setR, frzS, asgS, bN, bT, bCons, bNil, rngI, rgN, rg1, rg2, asI, asB, andT, orT, notT, andP, orP, ifP, small, kept, tupP, dropS, clrS, fldP, fldD, fldS, anyI, seqD, enumI, cutP, cutN, revN, noO, ofO, isC, isnC, isNone, ninC, neC, D.mut, isiD, isoD, isiB, tyD, appS, forS, yesT, lcG, lcN, methG, starF, D.flat, lsetD, Option.bind_some, Option.map_some, Option.bind_none, Option.map_none, List.getElem?_cons_zero, List.getElem?_cons_succ, List.length_cons, List.length_nil, List.map_cons, List.map_nil, List.cons_append, List.nil_append, List.replicate_succ, List.replicate_zero, List.set_cons_zero, List.set_cons_succ, List.all_cons, List.all_nil, if_true, if_false, Bool.true_and, Bool.and_true, beq_self_eq_true, reduceCtorEq, or_true, true_or, or_false, false_or, and_true, true_and, List.length_map, List.length_replicate, Nat.reduceAdd, Nat.reduceSub, Nat.reduceLT, Nat.reduceLeDiff, Nat.reduceEqDiff, Int.reduceNeg, Int.reduceLT, Int.reduceLE, Int.reduceMul, Int.reducePow, decide_true, decide_false, Bool.false_eq_true, if_neg, ite_self, not_true_eq_false, not_false_eq_true, Int.reduceToNat, Int.reduceAdd, Int.reduceSub, ne_eq, Int.reduceAbs, Nat.reducePow, Nat.reduceMul, Int.reduceNegSucc, and_self, or_self, Int.reduceEq, Nat.reduceBEq, Int.reduceBEq, Nat.lt_irrefl, if_pos, decide_eq_true_eq, Bool.not_true, Bool.not_false, Bool.or_true, Bool.or_false, Bool.and_false, Bool.false_and, Bool.true_or, Bool.false_or] <;> exact rfl) (wp_seq (wp_ite (b := decide ((1000000000000000000 : Int) ≤ v)) (by simp only [runB, startR, runI, seqS, iteS, skS, noS, cmp, chn, varP, cst, callP, callG, callN, c1, c2, lenD, absD, intD, maxD, minD, tupD, lstD, aCons, aNil, intC, ltC, leC, gtC, geC, retS, retN, keep0, frP, blP, bin, una, addD, subD, mulD, divD, modD, powD, negD, notD, ixP, ixD, setS, setO, setR, frzS, asgS, bN, bT, bCons, bNil, rngI, rgN, rg1, rg2, asI, asB, andT, orT, notT, andP, orP, ifP, small, kept, tupP, dropS, clrS, fldP, fldD, fldS, anyI, seqD, enumI, cutP, cutN, revN, noO, ofO, isC, isnC, isNone, ninC, neC, D.mut, isiD, isoD, isiB, tyD, appS, forS, yesT, lcG, lcN, methG, starF, D.flat, lsetD, Option.bind_some, Option.map_some, Option.bind_none, Option.map_none, List.getElem?_cons_zero, List.getElem?_cons_succ, List.length_cons, List.length_nil, List.map_cons, List.map_nil, List.cons_append, List.nil_append, List.replicate_succ, List.replicate_zero, List.set_cons_zero, List.set_cons_succ, List.all_cons, List.all_nil, if_true, if_false, Bool.true_and, Bool.and_true, beq_self_eq_true, reduceCtorEq, or_true, true_or, or_false, false_or, and_true, true_and, List.length_map, List.length_replicate, Nat.reduceAdd, Nat.reduceSub, Nat.reduceLT, Nat.reduceLeDiff, Nat.reduceEqDiff, Int.reduceNeg, Int.reduceLT, Int.reduceLE, Int.reduceMul, Int.reducePow, decide_true, decide_false, Bool.false_eq_true, if_neg, ite_self, not_true_eq_false, not_false_eq_true, Int.reduceToNat, Int.reduceAdd, Int.reduceSub, ne_eq, Int.reduceAbs, Nat.reducePow, Nat.reduceMul, Int.reduceNegSucc, and_self, or_self, Int.reduceEq, Nat.reduceBEq, Int.reduceBEq, Nat.lt_irrefl, if_pos, decide_eq_true_eq, Bool.not_true, Bool.not_false, Bool.or_true, Bool.or_false, Bool.and_false, Bool.false_and, Bool.true_or, Bool.false_or]) (fun hb => ?_) fun hb => ?_)))
  · have hb := of_decide_eq_true hb
    refine wp_seq (wp_nx (by simp only [runB, startR, runI, seqS, iteS, skS, noS, cmp, chn, varP, cst, callP, callG, callN, c1, c2, lenD, absD, intD, maxD, minD, tupD, lstD, aCons, aNil, intC, ltC, leC, gtC, geC, retS, retN, keep0, frP, blP, bin, una, addD, subD, mulD, divD, modD, powD, negD, notD, ixP, ixD, setS, setO, setR, frzS, asgS, bN, bT, bCons, bNil, rngI, rgN, rg1, rg2, asI, asB, andT, orT, notT, andP, orP, ifP, small, kept, tupP, dropS, clrS, fldP, fldD, fldS, anyI, seqD, enumI, cutP, cutN, revN, noO, ofO, isC, isnC, isNone, ninC, neC, D.mut, isiD, isoD, isiB, tyD, appS, forS, yesT, lcG, lcN, methG, starF, D.flat, lsetD, Option.bind_some, Option.map_some, Option.bind_none, Option.map_none, List.getElem?_cons_zero, List.getElem?_cons_succ, List.length_cons, List.length_nil, List.map_cons, List.map_nil, List.cons_append, List.nil_append, List.replicate_succ, List.replicate_zero, List.set_cons_zero, List.set_cons_succ, List.all_cons, List.all_nil, if_true, if_false, Bool.true_and, Bool.and_true, beq_self_eq_true, reduceCtorEq, or_true, true_or, or_false, false_or, and_true, true_and, List.length_map, List.length_replicate, Nat.reduceAdd, Nat.reduceSub, Nat.reduceLT, Nat.reduceLeDiff, Nat.reduceEqDiff, Int.reduceNeg, Int.reduceLT, Int.reduceLE, Int.reduceMul, Int.reducePow, decide_true, decide_false, Bool.false_eq_true, if_neg, ite_self, not_true_eq_false, not_false_eq_true, Int.reduceToNat, Int.reduceAdd, Int.reduceSub, ne_eq, Int.reduceAbs, Nat.reducePow, Nat.reduceMul, Int.reduceNegSucc, and_self, or_self, Int.reduceEq, Nat.reduceBEq, Int.reduceBEq, Nat.lt_irrefl, if_pos, decide_eq_true_eq, Bool.not_true, Bool.not_false, Bool.or_true, Bool.or_false, Bool.and_false, Bool.false_and, Bool.true_or, Bool.false_or] <;> exact rfl) (wp_seq (wp_for (rng_I (n := count) (by simp only [runB, startR, runI, seqS, iteS, skS, noS, cmp, chn, varP, cst, callP, callG, callN, c1, c2, lenD, absD, intD, maxD, minD, tupD, lstD, aCons, aNil, intC, ltC, leC, gtC, geC, retS, retN, keep0, frP, blP, bin, una, addD, subD, mulD, divD, modD, powD, negD, notD, ixP, ixD, setS, setO, setR, frzS, asgS, bN, bT, bCons, bNil, rngI, rgN, rg1, rg2, asI, asB, andT, orT, notT, andP, orP, ifP, small, kept, tupP, dropS, clrS, fldP, fldD, fldS, anyI, seqD, enumI, cutP, cutN, revN, noO, ofO, isC, isnC, isNone, ninC, neC, D.mut, isiD, isoD, isiB, tyD, appS, forS, yesT, lcG, lcN, methG, starF, D.flat, lsetD, Option.bind_some, Option.map_some, Option.bind_none, Option.map_none, List.getElem?_cons_zero, List.getElem?_cons_succ, List.length_cons, List.length_nil, List.map_cons, List.map_nil, List.cons_append, List.nil_append, List.replicate_succ, List.replicate_zero, List.set_cons_zero, List.set_cons_succ, List.all_cons, List.all_nil, if_true, if_false, Bool.true_and, Bool.and_true, beq_self_eq_true, reduceCtorEq, or_true, true_or, or_false, false_or, and_true, true_and, List.length_map, List.length_replicate, Nat.reduceAdd, Nat.reduceSub, Nat.reduceLT, Nat.reduceLeDiff, Nat.reduceEqDiff, Int.reduceNeg, Int.reduceLT, Int.reduceLE, Int.reduceMul, Int.reducePow, decide_true, decide_false, Bool.false_eq_true, if_neg, ite_self, not_true_eq_false, not_false_eq_true, Int.reduceToNat, Int.reduceAdd, Int.reduceSub, ne_eq, Int.reduceAbs, Nat.reducePow, Nat.reduceMul, Int.reduceNegSucc, and_self, or_self, Int.reduceEq, Nat.reduceBEq, Int.reduceBEq, Nat.lt_irrefl, if_pos, decide_eq_true_eq, Bool.not_true, Bool.not_false, Bool.or_true, Bool.or_false, Bool.and_false, Bool.false_and, Bool.true_or, Bool.false_or] <;> exact rfl) (by omega)) (Ip (some ⟨false, 0, .scr ns⟩) (some ⟨false, 0, .int k⟩) (some ⟨false, 0, .int count⟩)) ⟨v - 1000000000000000000, [], none, none, none, none, rfl, rfl, fun x h => (by cases h), by omega⟩ (fun i d ρ hd ⟨v, l, a, b, c, d', hρ, hl, ho, hv⟩ => ?_) fun ρ' ⟨v', l, a, b, c, d, hρ, hl, ho, hv'⟩ => ?_)))
    · subst hρ
      obtain ⟨hi, hd⟩ := at_rng hd
      subst hd
      generalize hz : (i : Int) = z at *
      have hl2 : l.length < 99999 := by omega
      refine ⟨_, rfl, wp_seq (wp_nx (by simp only [runB, startR, runI, seqS, iteS, skS, noS, cmp, chn, varP, cst, callP, callG, callN, c1, c2, lenD, absD, intD, maxD, minD, tupD, lstD, aCons, aNil, intC, ltC, leC, gtC, geC, retS, retN, keep0, frP, blP, bin, una, addD, subD, mulD, divD, modD, powD, negD, notD, ixP, ixD, setS, setO, setR, frzS, asgS, bN, bT, bCons, bNil, rngI, rgN, rg1, rg2, asI, asB, andT, orT, notT, andP, orP, ifP, small, kept, tupP, dropS, clrS, fldP, fldD, fldS, anyI, seqD, enumI, cutP, cutN, revN, noO, ofO, isC, isnC, isNone, ninC, neC, D.mut, isiD, isoD, isiB, tyD, appS, forS, yesT, lcG, lcN, methG, starF, D.flat, lsetD, Option.bind_some, Option.map_some, Option.bind_none, Option.map_none, List.getElem?_cons_zero, List.getElem?_cons_succ, List.length_cons, List.length_nil, List.map_cons, List.map_nil, List.cons_append, List.nil_append, List.replicate_succ, List.replicate_zero, List.set_cons_zero, List.set_cons_succ, List.all_cons, List.all_nil, if_true, if_false, Bool.true_and, Bool.and_true, beq_self_eq_true, reduceCtorEq, or_true, true_or, or_false, false_or, and_true, true_and, List.length_map, List.length_replicate, Nat.reduceAdd, Nat.reduceSub, Nat.reduceLT, Nat.reduceLeDiff, Nat.reduceEqDiff, Int.reduceNeg, Int.reduceLT, Int.reduceLE, Int.reduceMul, Int.reducePow, decide_true, decide_false, Bool.false_eq_true, if_neg, ite_self, not_true_eq_false, not_false_eq_true, Int.reduceToNat, Int.reduceAdd, Int.reduceSub, ne_eq, Int.reduceAbs, Nat.reducePow, Nat.reduceMul, Int.reduceNegSucc, and_self, or_self, Int.reduceEq, Nat.reduceBEq, Int.reduceBEq, Nat.lt_irrefl, if_pos, decide_eq_true_eq, Bool.not_true, Bool.not_false, Bool.or_true, Bool.or_false, Bool.and_false, Bool.false_and, Bool.true_or, Bool.false_or, hl2] <;> exact rfl) (wp_nx (by simp only [runB, startR, runI, seqS, iteS, skS, noS, cmp, chn, varP, cst, callP, callG, callN, c1, c2, lenD, absD, intD, maxD, minD, tupD, lstD, aCons, aNil, intC, ltC, leC, gtC, geC, retS, retN, keep0, frP, blP, bin, una, addD, subD, mulD, divD, modD, powD, negD, notD, ixP, ixD, setS, setO, setR, frzS, asgS, bN, bT, bCons, bNil, rngI, rgN, rg1, rg2, asI, asB, andT, orT, notT, andP, orP, ifP, small, kept, tupP, dropS, clrS, fldP, fldD, fldS, anyI, seqD, enumI, cutP, cutN, revN, noO, ofO, isC, isnC, isNone, ninC, neC, D.mut, isiD, isoD, isiB, tyD, appS, forS, yesT, lcG, lcN, methG, starF, D.flat, lsetD, Option.bind_some, Option.map_some, Option.bind_none, Option.map_none, List.getElem?_cons_zero, List.getElem?_cons_succ, List.length_cons, List.length_nil, List.map_cons, List.map_nil, List.cons_append, List.nil_append, List.replicate_succ, List.replicate_zero, List.set_cons_zero, List.set_cons_succ, List.all_cons, List.all_nil, if_true, if_false, Bool.true_and, Bool.and_true, beq_self_eq_true, reduceCtorEq, or_true, true_or, or_false, false_or, and_true, true_and, List.length_map, List.length_replicate, Nat.reduceAdd, Nat.reduceSub, Nat.reduceLT, Nat.reduceLeDiff, Nat.reduceEqDiff, Int.reduceNeg, Int.reduceLT, Int.reduceLE, Int.reduceMul, Int.reducePow, decide_true, decide_false, Bool.false_eq_true, if_neg, ite_self, not_true_eq_false, not_false_eq_true, Int.reduceToNat, Int.reduceAdd, Int.reduceSub, ne_eq, Int.reduceAbs, Nat.reducePow, Nat.reduceMul, Int.reduceNegSucc, and_self, or_self, Int.reduceEq, Nat.reduceBEq, Int.reduceBEq, Nat.lt_irrefl, if_pos, decide_eq_true_eq, Bool.not_true, Bool.not_false, Bool.or_true, Bool.or_false, Bool.and_false, Bool.false_and, Bool.true_or, Bool.false_or] <;> exact rfl) ?_))⟩
      exact ⟨v / 27720, l ++ [v % 27720], _, _, _, _, by rw [List.map_append]; rfl, by simp [hl], okI_app ho (by omega), by omega⟩
    · subst hρ
      refine wp_rt (by simp only [runB, startR, runI, seqS, iteS, skS, noS, cmp, chn, varP, cst, callP, callG, callN, c1, c2, lenD, absD, intD, maxD, minD, tupD, lstD, aCons, aNil, intC, ltC, leC, gtC, geC, retS, retN, keep0, frP, blP, bin, una, addD, subD, mulD, divD, modD, powD, negD, notD, ixP, ixD, setS, setO, setR, frzS, asgS, bN, bT, bCons, bNil, rngI, rgN, rg1, rg2, asI, asB, andT, orT, notT, andP, orP, ifP, small, kept, tupP, dropS, clrS, fldP, fldD, fldS, anyI, seqD, enumI, cutP, cutN, revN, noO, ofO, isC, isnC, isNone, ninC, neC, D.mut, isiD, isoD, isiB, tyD, appS, forS, yesT, lcG, lcN, methG, starF, D.flat, lsetD, Option.bind_some, Option.map_some, Option.bind_none, Option.map_none, List.getElem?_cons_zero, List.getElem?_cons_succ, List.length_cons, List.length_nil, List.map_cons, List.map_nil, List.cons_append, List.nil_append, List.replicate_succ, List.replicate_zero, List.set_cons_zero, List.set_cons_succ, List.all_cons, List.all_nil, if_true, if_false, Bool.true_and, Bool.and_true, beq_self_eq_true, reduceCtorEq, or_true, true_or, or_false, false_or, and_true, true_and, List.length_map, List.length_replicate, Nat.reduceAdd, Nat.reduceSub, Nat.reduceLT, Nat.reduceLeDiff, Nat.reduceEqDiff, Int.reduceNeg, Int.reduceLT, Int.reduceLE, Int.reduceMul, Int.reducePow, decide_true, decide_false, Bool.false_eq_true, if_neg, ite_self, not_true_eq_false, not_false_eq_true, Int.reduceToNat, Int.reduceAdd, Int.reduceSub, ne_eq, Int.reduceAbs, Nat.reducePow, Nat.reduceMul, Int.reduceNegSucc, and_self, or_self, Int.reduceEq, Nat.reduceBEq, Int.reduceBEq, Nat.lt_irrefl, if_pos, decide_eq_true_eq, Bool.not_true, Bool.not_false, Bool.or_true, Bool.or_false, Bool.and_false, Bool.false_and, Bool.true_or, Bool.false_or] <;> exact rfl) ⟨l, rfl, by simpa using hl, ho⟩
  · refine wp_nx rfl (wp_seq (wp_for (rng_I (n := count) (by simp only [runB, startR, runI, seqS, iteS, skS, noS, cmp, chn, varP, cst, callP, callG, callN, c1, c2, lenD, absD, intD, maxD, minD, tupD, lstD, aCons, aNil, intC, ltC, leC, gtC, geC, retS, retN, keep0, frP, blP, bin, una, addD, subD, mulD, divD, modD, powD, negD, notD, ixP, ixD, setS, setO, setR, frzS, asgS, bN, bT, bCons, bNil, rngI, rgN, rg1, rg2, asI, asB, andT, orT, notT, andP, orP, ifP, small, kept, tupP, dropS, clrS, fldP, fldD, fldS, anyI, seqD, enumI, cutP, cutN, revN, noO, ofO, isC, isnC, isNone, ninC, neC, D.mut, isiD, isoD, isiB, tyD, appS, forS, yesT, lcG, lcN, methG, starF, D.flat, lsetD, Option.bind_some, Option.map_some, Option.bind_none, Option.map_none, List.getElem?_cons_zero, List.getElem?_cons_succ, List.length_cons, List.length_nil, List.map_cons, List.map_nil, List.cons_append, List.nil_append, List.replicate_succ, List.replicate_zero, List.set_cons_zero, List.set_cons_succ, List.all_cons, List.all_nil, if_true, if_false, Bool.true_and, Bool.and_true, beq_self_eq_true, reduceCtorEq, or_true, true_or, or_false, false_or, and_true, true_and, List.length_map, List.length_replicate, Nat.reduceAdd, Nat.reduceSub, Nat.reduceLT, Nat.reduceLeDiff, Nat.reduceEqDiff, Int.reduceNeg, Int.reduceLT, Int.reduceLE, Int.reduceMul, Int.reducePow, decide_true, decide_false, Bool.false_eq_true, if_neg, ite_self, not_true_eq_false, not_false_eq_true, Int.reduceToNat, Int.reduceAdd, Int.reduceSub, ne_eq, Int.reduceAbs, Nat.reducePow, Nat.reduceMul, Int.reduceNegSucc, and_self, or_self, Int.reduceEq, Nat.reduceBEq, Int.reduceBEq, Nat.lt_irrefl, if_pos, decide_eq_true_eq, Bool.not_true, Bool.not_false, Bool.or_true, Bool.or_false, Bool.and_false, Bool.false_and, Bool.true_or, Bool.false_or] <;> exact rfl) (by omega)) (Ip (some ⟨false, 0, .scr ns⟩) (some ⟨false, 0, .int k⟩) (some ⟨false, 0, .int count⟩)) ⟨v, [], none, none, none, none, rfl, rfl, fun x h => (by cases h), by omega⟩ (fun i d ρ hd ⟨v, l, a, b, c, d', hρ, hl, ho, hv⟩ => ?_) fun ρ' ⟨v', l, a, b, c, d, hρ, hl, ho, hv'⟩ => ?_))
    · subst hρ
      obtain ⟨hi, hd⟩ := at_rng hd
      subst hd
      generalize hz : (i : Int) = z at *
      have hl2 : l.length < 99999 := by omega
      obtain ⟨x, a', b', c', d'', hx, h⟩ := pool_step v k z l (some ⟨false, 0, .scr ns⟩) (some ⟨false, 0, .int count⟩) a b c d' hl2
      refine ⟨_, rfl, h _ _ ?_⟩
      exact ⟨v, l ++ [x], _, _, _, _, rfl, by simp [hl], okI_app ho hx, hv⟩
    · subst hρ
      refine wp_rt (by simp only [runB, startR, runI, seqS, iteS, skS, noS, cmp, chn, varP, cst, callP, callG, callN, c1, c2, lenD, absD, intD, maxD, minD, tupD, lstD, aCons, aNil, intC, ltC, leC, gtC, geC, retS, retN, keep0, frP, blP, bin, una, addD, subD, mulD, divD, modD, powD, negD, notD, ixP, ixD, setS, setO, setR, frzS, asgS, bN, bT, bCons, bNil, rngI, rgN, rg1, rg2, asI, asB, andT, orT, notT, andP, orP, ifP, small, kept, tupP, dropS, clrS, fldP, fldD, fldS, anyI, seqD, enumI, cutP, cutN, revN, noO, ofO, isC, isnC, isNone, ninC, neC, D.mut, isiD, isoD, isiB, tyD, appS, forS, yesT, lcG, lcN, methG, starF, D.flat, lsetD, Option.bind_some, Option.map_some, Option.bind_none, Option.map_none, List.getElem?_cons_zero, List.getElem?_cons_succ, List.length_cons, List.length_nil, List.map_cons, List.map_nil, List.cons_append, List.nil_append, List.replicate_succ, List.replicate_zero, List.set_cons_zero, List.set_cons_succ, List.all_cons, List.all_nil, if_true, if_false, Bool.true_and, Bool.and_true, beq_self_eq_true, reduceCtorEq, or_true, true_or, or_false, false_or, and_true, true_and, List.length_map, List.length_replicate, Nat.reduceAdd, Nat.reduceSub, Nat.reduceLT, Nat.reduceLeDiff, Nat.reduceEqDiff, Int.reduceNeg, Int.reduceLT, Int.reduceLE, Int.reduceMul, Int.reducePow, decide_true, decide_false, Bool.false_eq_true, if_neg, ite_self, not_true_eq_false, not_false_eq_true, Int.reduceToNat, Int.reduceAdd, Int.reduceSub, ne_eq, Int.reduceAbs, Nat.reducePow, Nat.reduceMul, Int.reduceNegSucc, and_self, or_self, Int.reduceEq, Nat.reduceBEq, Int.reduceBEq, Nat.lt_irrefl, if_pos, decide_eq_true_eq, Bool.not_true, Bool.not_false, Bool.or_true, Bool.or_false, Bool.and_false, Bool.false_and, Bool.true_or, Bool.false_or] <;> exact rfl) ⟨l, rfl, by simpa using hl, ho⟩
end Gn

set_option Elab.async false
set_option linter.all false
set_option maxRecDepth 100000
set_option maxHeartbeats 2000000
/-! k44: when a bar stands -/
namespace Gn
open PySem Iv Pl
abbrev LI (xs : List Int) : D := .lst (xs.map .int)
abbrev LS (xs : List Str) : D := .lst (xs.map .str)
abbrev LL (xs : List (List Str)) : D := .lst (xs.map LS)
def e0 : Str := Str.empty
def RingP (picked : List (List Str)) (cols : List Str) : Prop := 4 ≤ picked.length ∧ cols.length = picked.length ∧ ∀ i, i < picked.length →
  (cols.getD i e0 ∈ picked.getD i [] ∧ cols.getD ((i + 1) % picked.length) e0 ∈ picked.getD i []) ∧ ∀ j, j < i → ¬ ((1 < i - j ∧ i - j < picked.length - 1) ∧ ∃ c ∈ picked.getD i [], c ∈ picked.getD j [])
def CrowdP (picked : List (List Str)) (cols names : List Str) : Prop := 3 ≤ picked.length ∧ cols.length = 3 ∧ (∀ row ∈ picked, 2 ≤ (cols.filter fun c => decide (c ∈ row)).length) ∧ ∀ name ∈ names, ∃ row ∈ picked, name ∉ row
def pick (rows : List (List Str)) (nums : List Int) : List (List Str) := nums.map fun k => rows.getD k.toNat []
structure Base (names : List Str) (m : Nat) (nums : List Int) (cols : List Str) : Prop where
  inr : ∀ k ∈ nums, 0 ≤ k ∧ k < (m : Int)
  cn : ∀ c ∈ cols, c ∈ names
  nd : nums.Nodup
  cd : cols.Nodup
def StP (names : List Str) (rows : List (List Str)) (kind : Str) (nums : List Int) (cols : List Str) : Prop :=
  Base names rows.length nums cols ∧ ((kind = "ring" ∧ RingP (pick rows nums) cols) ∨ (kind ≠ "ring" ∧ kind = "crowd" ∧ CrowdP (pick rows nums) cols names))
def Ans (P : Prop) (d : D) : Prop := ∃ b, d = .bl b ∧ (b = true ↔ P)
theorem Ans.no {P : Prop} (h : ¬ P) : Ans P (.bl false) := ⟨false, rfl, by simp [h]⟩
theorem Ans.yes {P : Prop} (h : P) : Ans P (.bl true) := ⟨true, rfl, by simp [h]⟩
theorem okRing : PyData.strOk "ring" = true := by decide +kernel
theorem okCrowd : PyData.strOk "crowd" = true := by decide +kernel
/-- sizes that the model can take -/
structure Sz (names : List Str) (rows : List (List Str)) (kind : Str) (nums : List Int) (cols : List Str) : Prop where
  n : names.length ≤ 1000
  r : rows.length ≤ 1000
  rr : ∀ row ∈ rows, row.length ≤ 1000
  k : PyData.strOk kind = true
  m : nums.length ≤ 1000
  c : cols.length ≤ 1000
theorem getD_map {α β : Type} (f : α → β) (xs : List α) (i : Nat) (a : α) (h : i < xs.length) : (xs.map f)[i]? = some (f (xs.getD i a)) := by
  simp [List.getD, h]
theorem get_some {α : Type} (xs : List α) (i : Nat) (a : α) (h : i < xs.length) : xs[i]? = some (xs.getD i a) := by
  simp [List.getD, h]
theorem getD_mem' {α : Type} {xs : List α} {i : Nat} {a : α} (h : i < xs.length) : xs.getD i a ∈ xs := by
  simp only [List.getD, List.getElem?_eq_getElem h, Option.getD_some]
  exact List.getElem_mem h
section
variable {names : List Str} {rows : List (List Str)} {kind : Str} {nums : List Int} {cols : List Str}
theorem pick_len : (pick rows nums).length = nums.length := by simp [pick]
theorem pick_mem (hb : ∀ k ∈ nums, 0 ≤ k ∧ k < (rows.length : Int)) {row : List Str} (h : row ∈ pick rows nums) : row ∈ rows := by
  obtain ⟨k, hk, rfl⟩ := List.mem_map.mp h
  have := hb k hk
  exact getD_mem' (by omega)
abbrev sl (d : D) : Option Sl := some ⟨false, 0, d⟩
/-- the state when the loops start -/
abbrev ρs (names : List Str) (rows : List (List Str)) (kind : Str) (nums : List Int) (cols : List Str) (a b c d e f : Option Sl) : Rho :=
  [sl (LS names), sl (LL rows), sl (.str kind), sl (LI nums), sl (LS cols), sl (.int nums.length), sl (LL (pick rows nums)), a, b, c, d, e, f]
theorem stands_3 {Pr : D → Prop} {Pn : Rho → Prop} (hc : cols.length ≤ 1000) {row : List Str} (hr : row.length ≤ 1000) {a b c d e f : Option Sl} (h1 : ¬ 2 ≤ (cols.filter fun c => decide (c ∈ row)).length → Pr (.bl false)) (h2 : 2 ≤ (cols.filter fun c => decide (c ∈ row)).length → Pn (ρs names rows kind nums cols (sl (LS row)) b c d e f)) :
    Wp Pn Pr (l_law_stands_3 (ρs names rows kind nums cols (sl (LS row)) b c d e f)) := by
  unfold l_law_stands_3
  refine wp_ite (b := decide (((cols.filter fun c => decide (c ∈ row)).length : Int) < 2)) ?_ (fun hb => ?_) fun hb => ?_
  · refine ev_c2 (ev_lenG (ev_lc D.str (fun c => decide (c ∈ row)) D.str cols rfl (by omega) fun x hx => ⟨_, rfl, ?_, fun _ => rfl⟩)) rfl ?_
    · exact ev_c2 (x := .str x) (y := LS row) rfl rfl (in_lstS x row)
    · rw [List.length_map]
      rfl
  · exact wp_retB (h1 (by have := of_decide_eq_true hb; omega))
  · exact wp_sk (h2 (by have := of_decide_eq_false hb; omega))
theorem stands_4 {Pr : D → Prop} {Pn : Rho → Prop} (hm : nums.length ≤ 1000) {name : Str} {a b c d e f : Option Sl} (h1 : (∀ row ∈ pick rows nums, name ∈ row) → Pr (.bl false)) (h2 : (¬ ∀ row ∈ pick rows nums, name ∈ row) → Pn (ρs names rows kind nums cols a (sl (.str name)) c d e f)) :
    Wp Pn Pr (l_law_stands_4 (ρs names rows kind nums cols a (sl (.str name)) c d e f)) := by
  unfold l_law_stands_4
  have hp : (((pick rows nums).filter fun row => decide (name ∈ row)).length : Int) = (nums.length : Int) ↔ ∀ row ∈ pick rows nums, name ∈ row := by
    rw [← pick_len (rows := rows)]
    have := List.length_filter_eq_length_iff (p := fun row => decide (name ∈ row)) (l := pick rows nums)
    simp only [decide_eq_true_eq] at this
    rw [← this]
    omega
  refine wp_ite (b := decide ((((pick rows nums).filter fun row => decide (name ∈ row)).length : Int) = (nums.length : Int))) ?_ (fun hb => ?_) fun hb => ?_
  · refine ev_c2 (ev_lenG (ev_lc LS (fun row => decide (name ∈ row)) LS (pick rows nums) rfl (by rw [pick_len]; omega) fun x hx => ⟨_, rfl, ?_, fun _ => rfl⟩)) rfl ?_
    · exact ev_c2 (x := .str name) (y := LS x) rfl rfl (in_lstS name x)
    · rw [List.length_map]
      exact eq_int _ _
  · exact wp_retB (h1 (hp.mp (of_decide_eq_true hb)))
  · exact wp_sk (h2 fun z => of_decide_eq_false hb (hp.mpr z))
theorem stands_1 {Pr : D → Prop} {Pn : Rho → Prop} (hl : ∀ row ∈ pick rows nums, row.length ≤ 1000) {i j : Nat} (hi : i < nums.length) (hj : j < nums.length) {a b d f : Option Sl}
    (h1 : ((1 < i - j ∧ i - j < nums.length - 1) ∧ ∃ c ∈ (pick rows nums).getD i [], c ∈ (pick rows nums).getD j []) → j < i → Pr (.bl false))
    (h2 : (j < i → ¬ ((1 < i - j ∧ i - j < nums.length - 1) ∧ ∃ c ∈ (pick rows nums).getD i [], c ∈ (pick rows nums).getD j [])) → Pn (ρs names rows kind nums cols a b (sl (.int i)) d (sl (.int j)) f)) (hji : j < i) :
    Wp Pn Pr (l_law_stands_1 (ρs names rows kind nums cols a b (sl (.int i)) d (sl (.int j)) f)) := by
  unfold l_law_stands_1
  have gi : (pick rows nums)[i]? = some ((pick rows nums).getD i []) := get_some _ _ _ (by rw [pick_len]; exact hi)
  have gj : (pick rows nums)[j]? = some ((pick rows nums).getD j []) := get_some _ _ _ (by rw [pick_len]; exact hj)
  have li := hl _ (List.mem_of_getElem? gi)
  generalize (pick rows nums).getD i [] = ri at *
  generalize (pick rows nums).getD j [] = rj at *
  have e1 : chn ltC ltC (cst (.int 1)) (bin subD (varP 9) (varP 11)) (bin subD (varP 5) (cst (.int 1))) (ρs names rows kind nums cols a b (sl (.int i)) d (sl (.int j)) f) = some (decide ((1 : Int) < (i : Int) - j) && decide ((i : Int) - j < (nums.length : Int) - 1)) := by
    by_cases h : (1 : Int) < (i : Int) - j <;> simp [chn, cst, bin, varP, subD, intC, h]
  have e2 : cmp gtC (callP (c1 lenD) (aCons (frP (lcG [12] (anyI (ixP (varP 6) (varP 9))) (bN 12) (cmp inC (varP 12) (ixP (varP 6) (varP 11))) (keep0 (varP 12)))) aNil)) (cst (.int 0)) (ρs names rows kind nums cols a b (sl (.int i)) d (sl (.int j)) f) = some (decide ((0 : Int) < ((ri.filter fun c => decide (c ∈ rj)).length : Int))) := by
    refine ev_c2 (ev_lenG (ev_lc D.str (fun c => decide (c ∈ rj)) D.str ri (ev_any (ev_ix LS (n := 0) (j := i) rfl rfl rfl gi)) (by omega) fun x hx => ⟨_, rfl, ?_, fun _ => rfl⟩)) rfl ?_
    · exact ev_c2 (x := .str x) (y := LS rj) rfl (ev_ix LS (n := 0) (j := j) rfl rfl rfl gj) (in_lstS x rj)
    · rw [List.length_map]
      rfl
  have hp : (decide ((1 : Int) < (i : Int) - j) && decide ((i : Int) - j < (nums.length : Int) - 1) && decide ((0 : Int) < ((ri.filter fun c => decide (c ∈ rj)).length : Int))) = true ↔ ((1 < i - j ∧ i - j < nums.length - 1) ∧ ∃ c ∈ ri, c ∈ rj) := by
    simp only [Bool.and_eq_true, decide_eq_true_eq, cnt0]
    constructor
    · rintro ⟨⟨q1, q2⟩, q3⟩
      exact ⟨⟨by omega, by omega⟩, q3⟩
    · rintro ⟨⟨q1, q2⟩, q3⟩
      exact ⟨⟨by omega, by omega⟩, q3⟩
  refine wp_ite (ev_and e1 fun _ => e2) (fun hb => ?_) fun hb => ?_
  · exact wp_retB (h1 (hp.mp hb) hji)
  · refine wp_sk (h2 fun _ z => ?_)
    rw [hp.mpr z] at hb
    cases hb
def RingAt (picked : List (List Str)) (cols : List Str) (i : Nat) : Prop :=
  (cols.getD i e0 ∈ picked.getD i [] ∧ cols.getD ((i + 1) % picked.length) e0 ∈ picked.getD i []) ∧ ∀ j, j < i → ¬ ((1 < i - j ∧ i - j < picked.length - 1) ∧ ∃ c ∈ picked.getD i [], c ∈ picked.getD j [])
theorem stands_2 {Pr : D → Prop} {Pn : Rho → Prop} (hm : nums.length ≤ 1000) (hl : ∀ row ∈ pick rows nums, row.length ≤ 1000) (hcl : cols.length = nums.length) {i : Nat} (hi : i < nums.length) {a b d e f : Option Sl}
    (h1 : ¬ RingAt (pick rows nums) cols i → Pr (.bl false)) (h2 : RingAt (pick rows nums) cols i → ∀ e, Pn (ρs names rows kind nums cols a b (sl (.int i)) d e f)) :
    Wp Pn Pr (l_law_stands_2 (ρs names rows kind nums cols a b (sl (.int i)) d e f)) := by
  unfold l_law_stands_2
  have gi : (pick rows nums)[i]? = some ((pick rows nums).getD i []) := get_some _ _ _ (by rw [pick_len]; exact hi)
  have ci : cols[i]? = some (cols.getD i e0) := get_some _ _ _ (by omega)
  have mi : (i + 1) % nums.length < nums.length := Nat.mod_lt _ (by omega)
  have cj : cols[(i + 1) % nums.length]? = some (cols.getD ((i + 1) % nums.length) e0) := get_some _ _ _ (by omega)
  have hpl : (pick rows nums).length = nums.length := pick_len
  have t1 : cmp ninC (ixP (varP 4) (varP 9)) (ixP (varP 6) (varP 9)) (ρs names rows kind nums cols a b (sl (.int i)) d e f) = some (decide (cols.getD i e0 ∉ (pick rows nums).getD i [])) :=
    ev_c2 (ev_ix D.str (n := 0) (j := i) rfl rfl rfl ci) (ev_ix LS (n := 0) (j := i) rfl rfl rfl gi) (nin_lstS _ _)
  have em : bin modD (callP (c1 intD) (aCons (bin addD (varP 9) (cst (.int 1))) aNil)) (varP 5) (ρs names rows kind nums cols a b (sl (.int i)) d e f) = some (0, .int (((i + 1) % nums.length : Nat) : Int)) := by
    have hpos : (0 : Int) < (nums.length : Int) := by omega
    have q : callP (c1 intD) (aCons (bin addD (varP 9) (cst (.int 1))) aNil) (ρs names rows kind nums cols a b (sl (.int i)) d e f) = some (0, .int ((i : Int) + 1)) := rfl
    have q2 : varP 5 (ρs names rows kind nums cols a b (sl (.int i)) d e f) = some (0, .int (nums.length : Int)) := rfl
    simp only [bin, q, q2, Option.bind_some, modD, hpos, if_true, Option.map_some, Nat.zero_le, and_self]
    rw [Int.natCast_emod]
    rfl
  have t2 : cmp ninC (ixP (varP 4) (bin modD (callP (c1 intD) (aCons (bin addD (varP 9) (cst (.int 1))) aNil)) (varP 5))) (ixP (varP 6) (varP 9)) (ρs names rows kind nums cols a b (sl (.int i)) d e f) = some (decide (cols.getD ((i + 1) % nums.length) e0 ∉ (pick rows nums).getD i [])) :=
    ev_c2 (ev_ix D.str (n := 0) (j := (i + 1) % nums.length) rfl em rfl cj) (ev_ix LS (n := 0) (j := i) rfl rfl rfl gi) (nin_lstS _ _)
  have e1 := ev_or t1 fun _ => t2
  refine wp_seq (wp_ite e1 (fun hb => ?_) fun hb => ?_)
  · refine wp_retB (h1 fun z => ?_)
    obtain ⟨⟨z1, z2⟩, _⟩ := z
    rw [hpl] at z2
    simp only [Bool.or_eq_true, decide_eq_true_eq] at hb
    rcases hb with hb | hb
    · exact hb z1
    · exact hb z2
  · simp only [Bool.or_eq_false_iff, decide_eq_false_iff_not, Decidable.not_not] at hb
    refine wp_sk (wp_for (rng_I (n := i) (m := 0) rfl (by omega)) (fun j ρ => (∃ e, ρ = ρs names rows kind nums cols a b (sl (.int i)) d e f) ∧ ∀ j', j' < j → ¬ ((1 < i - j' ∧ i - j' < nums.length - 1) ∧ ∃ c ∈ (pick rows nums).getD i [], c ∈ (pick rows nums).getD j' [])) ⟨⟨e, rfl⟩, fun j' h => by omega⟩ (fun j dd ρ hd ⟨⟨e', hρ⟩, hI⟩ => ?_) fun ρ' ⟨⟨e', hρ⟩, hI⟩ => ?_)
    · subst hρ
      obtain ⟨hj, rfl⟩ := at_rng hd
      refine ⟨_, rfl, stands_1 hl hi (by omega) (fun z hji => h1 fun y => ?_) (fun z => ?_) hj⟩
      · have := y.2 j hji
        rw [hpl] at this
        exact this z
      · refine ⟨⟨_, rfl⟩, fun j' h => ?_⟩
        by_cases hjj : j' = j
        · subst hjj
          exact z hj
        · exact hI j' (by omega)
    · subst hρ
      refine h2 ⟨⟨hb.1, by rw [hpl]; exact hb.2⟩, fun j hj => ?_⟩ e'
      rw [hpl]
      rw [List.length_map, List.length_range] at hI
      exact hI j hj
theorem e_stands (hs : Sz names rows kind nums cols) : ∃ b, F_law_stands [(0, LS names), (0, LL rows), (0, .str kind), (0, LI nums), (0, LS cols)] = some (.bl b) ∧ (b = true ↔ StP names rows kind nums cols) := by
  suffices h : ∃ d, F_law_stands [(0, LS names), (0, LL rows), (0, .str kind), (0, LI nums), (0, LS cols)] = some d ∧ Ans (StP names rows kind nums cols) d by
    obtain ⟨d, e, b, rfl, h⟩ := h
    exact ⟨b, e, h⟩
  have hsm := hs.m
  have hsc := hs.c
  refine run_wp rfl (wp_seq (wp_set (d := .int nums.length) ?_ (by simp [startR]) ?_))
  · refine ev_k0 ((ev_len (n := 0) (xs := nums.map .int) rfl).trans ?_)
    rw [List.length_map]
  show Wp _ _ (seqS _ _ [sl (LS names), sl (LL rows), sl (.str kind), sl (LI nums), sl (LS cols), sl (.int nums.length), none, none, none, none, none, none, none])
  have t1 : cmp gtC (callP (c1 lenD) (aCons (frP (lcG [10] (anyI (varP 3)) (bN 10) (notT (chn leC ltC (cst (.int 0)) (varP 10) (callP (c1 lenD) (aCons (varP 1) aNil)))) (keep0 (varP 10)))) aNil)) (cst (.int 0)) [sl (LS names), sl (LL rows), sl (.str kind), sl (LI nums), sl (LS cols), sl (.int nums.length), none, none, none, none, none, none, none] = some (decide ((0 : Int) < ((nums.filter fun k => !(decide (0 ≤ k) && decide (k < (rows.length : Int)))).length : Int))) := by
    refine ev_c2 (ev_lenG (ev_lc D.int (fun k => !(decide (0 ≤ k) && decide (k < (rows.length : Int)))) D.int nums rfl (by omega) fun x hx => ⟨_, rfl, ?_, fun _ => rfl⟩)) rfl ?_
    · by_cases h : (0 : Int) ≤ x <;> simp [notT, chn, cst, varP, callP, c1, lenD, aCons, aNil, intC, h, wipeR]
    · rw [List.length_map]
      rfl
  have t2 : cmp gtC (callP (c1 lenD) (aCons (frP (lcG [12] (anyI (varP 4)) (bN 12) (cmp ninC (varP 12) (varP 0)) (keep0 (varP 12)))) aNil)) (cst (.int 0)) [sl (LS names), sl (LL rows), sl (.str kind), sl (LI nums), sl (LS cols), sl (.int nums.length), none, none, none, none, none, none, none] = some (decide ((0 : Int) < ((cols.filter fun c => decide (c ∉ names)).length : Int))) := by
    refine ev_c2 (ev_lenG (ev_lc D.str (fun c => decide (c ∉ names)) D.str cols rfl (by omega) fun x hx => ⟨_, rfl, ?_, fun _ => rfl⟩)) rfl ?_
    · exact ev_c2 (x := .str x) (y := LS names) rfl rfl (nin_lstS x names)
    · rw [List.length_map]
      rfl
  refine wp_seq (wp_ite (ev_or t1 fun _ => t2) (fun hb => ?_) fun hb => ?_)
  · refine wp_retB (Ans.no fun z => ?_)
    have hbz := z.1
    simp only [Bool.or_eq_true, decide_eq_true_eq, cnt0] at hb
    rcases hb with ⟨k, hk, h⟩ | ⟨c, hc, h⟩
    · have := hbz.inr k hk
      simp [this.1, this.2] at h
    · exact h (hbz.cn c hc)
  · simp only [Bool.or_eq_false_iff, decide_eq_false_iff_not, cnt0] at hb
    have b1 : ∀ k ∈ nums, 0 ≤ k ∧ k < (rows.length : Int) := fun k hk => by
      by_cases q : 0 ≤ k ∧ k < (rows.length : Int)
      · exact q
      · exact absurd ⟨k, hk, by simp only [Bool.not_eq_true', Bool.and_eq_false_iff, decide_eq_false_iff_not]; omega⟩ hb.1
    have b2 : ∀ c ∈ cols, c ∈ names := fun c hc => by
      by_cases q : c ∈ names
      · exact q
      · exact absurd ⟨c, hc, by simp [q]⟩ hb.2
    clear t1 t2 hb
    refine wp_sk ?_
    have t1 : cmp ltC (una lsetD (varP 3)) (varP 5) [sl (LS names), sl (LL rows), sl (.str kind), sl (LI nums), sl (LS cols), sl (.int nums.length), none, none, none, none, none, none, none] = some (decide (((diffs nums).length : Int) < (nums.length : Int))) := by
      refine ev_c2 (n := 0) (x := .int (diffs nums).length) ?_ rfl rfl
      show (lsetL (nums.map .int)).map _ = _
      rw [lset_I (by omega)]
      rfl
    have t2 : cmp ltC (una lsetD (varP 4)) (callP (c1 lenD) (aCons (varP 4) aNil)) [sl (LS names), sl (LL rows), sl (.str kind), sl (LI nums), sl (LS cols), sl (.int nums.length), none, none, none, none, none, none, none] = some (decide (((diffs cols).length : Int) < (cols.length : Int))) := by
      refine ev_c2 (n := 0) (x := .int (diffs cols).length) ?_ (ev_len (n := 0) (xs := cols.map .str) rfl) ?_
      · show (lsetL (cols.map .str)).map _ = _
        rw [lset_S (by omega)]
        rfl
      · rw [List.length_map]
        rfl
    refine wp_seq (wp_ite (ev_or t1 fun _ => t2) (fun hb => ?_) fun hb => ?_)
    · refine wp_retB (Ans.no fun z => ?_)
      simp only [Bool.or_eq_true, decide_eq_true_eq, diffs_lt] at hb
      rcases hb with h | h
      · exact h z.1.nd
      · exact h z.1.cd
    · simp only [Bool.or_eq_false_iff, decide_eq_false_iff_not, diffs_lt, Decidable.not_not] at hb
      have base : Base names rows.length nums cols := ⟨b1, b2, hb.1, hb.2⟩
      refine wp_sk (wp_seq (wp_set (d := LL (pick rows nums)) ?_ (by simp) ?_))
      · have := ev_all (ρ := [sl (LS names), sl (LL rows), sl (.str kind), sl (LI nums), sl (LS cols), sl (.int nums.length), none, none, none, none, none, none, none]) D.int (fun k => LS (rows.getD k.toNat [])) (fi := anyI (varP 3)) (vs := [10]) (bd := bN 10) (f := keep0 (ixP (varP 1) (varP 10))) nums rfl (by omega) fun x hx => ⟨_, rfl, by
          have hx := b1 x hx
          have g : rows[x.toNat]? = some (rows.getD x.toNat []) := get_some _ _ _ (by omega)
          unfold keep0
          rw [ev_ix LS (n := 0) (m := 0) (xs := rows) (i := x) (j := x.toNat) rfl rfl (by omega) g]
          rfl⟩
        rw [this]
        unfold LL pick
        rw [List.map_map]
        rfl
      · show Wp _ _ (seqS _ _ (ρs names rows kind nums cols none none none none none none))
        have hpl : (pick rows nums).length = nums.length := pick_len
        have hrl : ∀ row ∈ pick rows nums, row.length ≤ 1000 := fun row h => hs.rr row (pick_mem b1 h)
        refine wp_seq (wp_ite (b := decide (kind = "ring")) (ev_c2 (n := 0) (m := 0) (x := .str kind) rfl rfl (eq_str hs.k okRing)) (fun hb => ?_) fun hb => ?_)
        · have hb := of_decide_eq_true hb
          refine wp_seq (wp_ite (b := decide ((nums.length : Int) < 4) || decide ((cols.length : Int) ≠ (nums.length : Int))) (ev_or (ev_c2 (n := 0) (m := 0) (x := .int nums.length) rfl rfl rfl) fun _ => ev_c2 (m := 0) (y := .int nums.length) (ev_len (n := 0) (xs := cols.map .str) rfl) rfl (by rw [List.length_map]; exact ne_int _ _)) (fun hc => ?_) fun hc => ?_)
          · refine wp_retB (Ans.no fun z => ?_)
            rcases z.2 with ⟨_, z1, z2, _⟩ | ⟨z1, _⟩
            · simp only [Bool.or_eq_true, decide_eq_true_eq] at hc
              omega
            · exact z1 hb
          · simp only [Bool.or_eq_false_iff, decide_eq_false_iff_not, Decidable.not_not] at hc
            refine wp_sk (wp_seq (wp_for (rng_I (n := nums.length) (m := 0) rfl (by omega)) (fun i ρ => (∃ c e, ρ = ρs names rows kind nums cols none none c none e none) ∧ ∀ i', i' < i → RingAt (pick rows nums) cols i') ⟨⟨none, none, rfl⟩, fun i' h => by omega⟩ (fun i dd ρ hd ⟨⟨c, e, hρ⟩, hI⟩ => ?_) fun ρ' ⟨⟨c, e, hρ⟩, hI⟩ => ?_))
            · subst hρ
              obtain ⟨hi, rfl⟩ := at_rng hd
              refine ⟨_, rfl, stands_2 hs.m hrl (by omega) hi (fun z => Ans.no fun y => ?_) fun z e => ⟨⟨_, e, rfl⟩, fun i' h => ?_⟩⟩
              · rcases y.2 with ⟨_, _, _, y⟩ | ⟨y1, _⟩
                · exact z (y i (by omega))
                · exact y1 hb
              · by_cases q : i' = i
                · subst q
                  exact z
                · exact hI i' (by omega)
            · subst hρ
              rw [List.length_map, List.length_range] at hI
              exact wp_retB (Ans.yes ⟨base, .inl ⟨hb, by omega, by omega, fun i hi => hI i (by omega)⟩⟩)
        · have hb := of_decide_eq_false hb
          refine wp_sk (wp_seq (wp_ite (b := decide (kind ≠ "crowd") || (decide ((nums.length : Int) < 3) || decide ((cols.length : Int) ≠ 3))) (ev_or (ev_c2 (n := 0) (m := 0) (x := .str kind) rfl rfl (ne_str hs.k okCrowd)) fun _ => ev_or (ev_c2 (n := 0) (m := 0) (x := .int nums.length) rfl rfl rfl) fun _ => ev_c2 (m := 0) (y := .int 3) (ev_len (n := 0) (xs := cols.map .str) rfl) rfl (by rw [List.length_map]; exact ne_int _ _)) (fun hc => ?_) fun hc => ?_))
          · refine wp_retB (Ans.no fun z => ?_)
            rcases z.2 with ⟨z1, _⟩ | ⟨_, z1, z2, z3, _⟩
            · exact hb z1
            · simp only [Bool.or_eq_true, decide_eq_true_eq] at hc
              rcases hc with hc | hc | hc
              · exact hc z1
              · omega
              · omega
          · simp only [Bool.or_eq_false_iff, decide_eq_false_iff_not, Decidable.not_not] at hc
            obtain ⟨hc1, hc2, hc3⟩ := hc
            refine wp_sk (wp_seq (wp_for (ds := (pick rows nums).map LS) (ev_any rfl) (fun i ρ => (∃ a, ρ = ρs names rows kind nums cols a none none none none none) ∧ ∀ row ∈ (pick rows nums).take i, 2 ≤ (cols.filter fun c => decide (c ∈ row)).length) ⟨⟨none, rfl⟩, fun row h => by simp at h⟩ (fun i dd ρ hd ⟨⟨a, hρ⟩, hI⟩ => ?_) fun ρ' ⟨⟨a, hρ⟩, hI⟩ => ?_))
            · subst hρ
              rw [List.getElem?_map] at hd
              obtain ⟨row, hrow, rfl⟩ := Option.map_eq_some_iff.mp hd
              have hm := List.mem_of_getElem? hrow
              refine ⟨_, rfl, stands_3 (a := none) hs.c (hrl row hm) (fun z => Ans.no fun y => ?_) fun z => ⟨⟨_, rfl⟩, fun row' h => ?_⟩⟩
              · rcases y.2 with ⟨y1, _⟩ | ⟨_, _, _, _, y, _⟩
                · exact hb y1
                · exact z (y row hm)
              · rw [List.take_add_one, hrow] at h
                simp only [Option.toList_some, List.mem_append, List.mem_singleton] at h
                rcases h with h | h
                · exact hI row' h
                · rw [h]
                  exact z
            · subst hρ
              rw [List.length_map, List.take_length] at hI
              refine wp_seq (wp_for (ds := names.map .str) (ev_any rfl) (fun i ρ => (∃ b, ρ = ρs names rows kind nums cols a b none none none none) ∧ ∀ name ∈ names.take i, ¬ ∀ row ∈ pick rows nums, name ∈ row) ⟨⟨none, rfl⟩, fun row h => by simp at h⟩ (fun i dd ρ hd ⟨⟨b, hρ⟩, hJ⟩ => ?_) fun ρ' ⟨⟨b, hρ⟩, hJ⟩ => ?_)
              · subst hρ
                rw [List.getElem?_map] at hd
                obtain ⟨name, hname, rfl⟩ := Option.map_eq_some_iff.mp hd
                have hm := List.mem_of_getElem? hname
                refine ⟨_, rfl, stands_4 (b := none) hs.m (fun z => Ans.no fun y => ?_) fun z => ⟨⟨_, rfl⟩, fun name' h => ?_⟩⟩
                · rcases y.2 with ⟨y1, _⟩ | ⟨_, _, _, _, _, y⟩
                  · exact hb y1
                  · obtain ⟨row, q1, q2⟩ := y name hm
                    exact q2 (z row q1)
                · rw [List.take_add_one, hname] at h
                  simp only [Option.toList_some, List.mem_append, List.mem_singleton] at h
                  rcases h with h | h
                  · exact hJ name' h
                  · rw [h]
                    exact z
              · subst hρ
                rw [List.length_map, List.take_length] at hJ
                refine wp_retB (Ans.yes ⟨base, .inr ⟨hb, hc1, by omega, by omega, hI, fun name hn => ?_⟩⟩)
                have := hJ name hn
                simpa using this
end
end Gn

set_option Elab.async false
set_option linter.all false
set_option maxRecDepth 100000
set_option maxHeartbeats 2000000
/-! k44: the program's stands_in -/
namespace Gn
open PySem Iv Pl
abbrev TI (xs : List Int) : D := .tup (xs.map .int)
abbrev TS (xs : List Str) : D := .tup (xs.map .str)
abbrev LT (xs : List (List Str)) : D := .lst (xs.map TS)
abbrev TT (xs : List (List Str)) : D := .tup (xs.map TS)
abbrev Tb (names : List Str) (rows : List (List Str)) : D := .obj "Table" ["columns", "rows"] [TS names, TT rows]
abbrev Br (kind : Str) (nums : List Int) (cols : List Str) : D := .obj "Bar" ["kind", "rows", "columns"] [.str kind, TI nums, TS cols]
theorem ev_anyB {α : Type} (p : α → Bool) {f : Rho → Option D} {ρ : Rho} {xs : List α} (e : f ρ = some (.lst (xs.map fun x => .bl (p x)))) : callP (c1 anyD) (aCons (frP f) aNil) ρ = some (0, .bl (xs.any p)) := by
  have h : xs.map (fun x => D.bl (p x)) = (xs.map p).map .bl := by rw [List.map_map]; rfl
  rw [h] at e
  simp only [callP, aCons, aNil, frP, e, Option.bind_some, Option.map_some, c1, any_map]
  simp
theorem ev_allB {α : Type} (p : α → Bool) {f : Rho → Option D} {ρ : Rho} {xs : List α} (e : f ρ = some (.lst (xs.map fun x => .bl (p x)))) : callP (c1 allD) (aCons (frP f) aNil) ρ = some (0, .bl (xs.all p)) := by
  have h : xs.map (fun x => D.bl (p x)) = (xs.map p).map .bl := by rw [List.map_map]; rfl
  rw [h] at e
  simp only [callP, aCons, aNil, frP, e, Option.bind_some, Option.map_some, c1, all_map]
  simp
theorem ev_bl {t : Rho → Option Bool} {ρ : Rho} {b : Bool} (e : t ρ = some b) : keep0 (blP t) ρ = some (.bl b) := by
  simp only [keep0, blP, e, Option.map_some, Option.bind_some, if_true]
theorem ev_asB {f : Pk} {ρ : Rho} {n : Nat} {b : Bool} (e : f ρ = some (n, .bl b)) : asB f ρ = some b := by
  simp only [asB, e, Option.bind_some]
theorem ev_not {t : Rho → Option Bool} {ρ : Rho} {b : Bool} (e : t ρ = some b) : notT t ρ = some (!b) := by
  simp only [notT, e, Option.map_some]
theorem ev_lenT {f : Pk} {ρ : Rho} {n : Nat} {xs : List D} (e : f ρ = some (n, .tup xs)) : callP (c1 lenD) (aCons f aNil) ρ = some (0, .int xs.length) := by
  simp only [callP, aCons, aNil, e, Option.bind_some, Option.map_some, c1, lenD]
theorem e_share (a b : List Str) (ha : a.length ≤ 1000) : F_share_column [(0, TS a), (0, TS b)] = some (.bl (a.any fun c => decide (c ∈ b))) := by
  refine run_eq rfl (wp_ret0 (ev_k0 (ev_anyB (fun c => decide (c ∈ b)) (ev_all D.str (fun c => .bl (decide (c ∈ b))) a rfl (by omega) fun x hx => ⟨_, rfl, ?_⟩))) rfl)
  exact ev_bl (ev_c2 (x := .str x) (y := TS b) rfl rfl (in_tupS x b))
section
variable {picked : List (List Str)} {cols : List Str}
abbrev ρr (picked : List (List Str)) (cols : List Str) (a b c : Option Sl) : Rho := [sl (LT picked), sl (TS cols), sl (.int picked.length), a, b, c]
theorem ring_1 {Pr : D → Prop} {Pn : Rho → Prop} {i j : Nat} {ri rj : List Str} (hl : ri.length ≤ 1000) (gj : picked[j]? = some rj) (hji : j < i)
    (h1 : ((1 < i - j ∧ i - j < picked.length - 1) ∧ ∃ c ∈ ri, c ∈ rj) → Pr (.bl false)) (h2 : (¬ ((1 < i - j ∧ i - j < picked.length - 1) ∧ ∃ c ∈ ri, c ∈ rj)) → Pn (ρr picked cols (sl (.int i)) (sl (TS ri)) (sl (.int j)))) :
    Wp Pn Pr (l_is_ring_of_1 (ρr picked cols (sl (.int i)) (sl (TS ri)) (sl (.int j)))) := by
  unfold l_is_ring_of_1
  have e1 : chn ltC ltC (cst (.int 1)) (bin subD (varP 3) (varP 5)) (bin subD (varP 2) (cst (.int 1))) (ρr picked cols (sl (.int i)) (sl (TS ri)) (sl (.int j))) = some (decide ((1 : Int) < (i : Int) - j) && decide ((i : Int) - j < (picked.length : Int) - 1)) := by
    by_cases h : (1 : Int) < (i : Int) - j <;> simp [chn, cst, bin, varP, subD, intC, h]
  have e2 : asB (frP (callG F_share_column (aCons (varP 4) (aCons (ixP (varP 0) (varP 5)) aNil)))) (ρr picked cols (sl (.int i)) (sl (TS ri)) (sl (.int j))) = some (ri.any fun c => decide (c ∈ rj)) := by
    have q : ixP (varP 0) (varP 5) (ρr picked cols (sl (.int i)) (sl (TS ri)) (sl (.int j))) = some (0, TS rj) := ev_ix TS (n := 0) (j := j) rfl rfl rfl gj
    have q4 : varP 4 (ρr picked cols (sl (.int i)) (sl (TS ri)) (sl (.int j))) = some (0, TS ri) := rfl
    refine ev_asB (n := 0) ?_
    simp only [frP, callG, aCons, aNil, q, q4, Option.bind_some, Option.map_some, e_share ri rj hl]
  have hp : (decide ((1 : Int) < (i : Int) - j) && decide ((i : Int) - j < (picked.length : Int) - 1) && (ri.any fun c => decide (c ∈ rj))) = true ↔ ((1 < i - j ∧ i - j < picked.length - 1) ∧ ∃ c ∈ ri, c ∈ rj) := by
    simp only [Bool.and_eq_true, decide_eq_true_eq, List.any_eq_true]
    constructor
    · rintro ⟨⟨q1, q2⟩, q3⟩
      exact ⟨⟨by omega, by omega⟩, q3⟩
    · rintro ⟨⟨q1, q2⟩, q3⟩
      exact ⟨⟨by omega, by omega⟩, q3⟩
  refine wp_ite (ev_and e1 fun _ => e2) (fun hb => ?_) fun hb => ?_
  · exact wp_retB (h1 (hp.mp hb))
  · refine wp_sk (h2 fun z => ?_)
    rw [hp.mpr z] at hb
    cases hb
theorem ring_2 {Pr : D → Prop} {Pn : Rho → Prop} (hm : picked.length ≤ 1000) (hl : ∀ row ∈ picked, row.length ≤ 1000) (hcl : cols.length = picked.length) {i : Nat} (hi : i < picked.length) {c : Option Sl}
    (h1 : ¬ RingAt picked cols i → Pr (.bl false)) (h2 : RingAt picked cols i → ∀ e, Pn (ρr picked cols (sl (.int i)) (sl (TS (picked.getD i []))) e)) :
    Wp Pn Pr (l_is_ring_of_2 (ρr picked cols (sl (.int i)) (sl (TS (picked.getD i []))) c)) := by
  unfold l_is_ring_of_2
  have ci : cols[i]? = some (cols.getD i e0) := get_some _ _ _ (by omega)
  have mi : (i + 1) % picked.length < picked.length := Nat.mod_lt _ (by omega)
  have cj : cols[(i + 1) % picked.length]? = some (cols.getD ((i + 1) % picked.length) e0) := get_some _ _ _ (by omega)
  have t1 : cmp ninC (ixP (varP 1) (varP 3)) (varP 4) (ρr picked cols (sl (.int i)) (sl (TS (picked.getD i []))) c) = some (decide (cols.getD i e0 ∉ picked.getD i [])) :=
    ev_c2 (m := 0) (y := TS (picked.getD i [])) (ev_ixT D.str (n := 0) (j := i) rfl rfl rfl ci) rfl (nin_tupS _ _)
  have em : bin modD (bin addD (varP 3) (cst (.int 1))) (varP 2) (ρr picked cols (sl (.int i)) (sl (TS (picked.getD i []))) c) = some (0, .int (((i + 1) % picked.length : Nat) : Int)) := by
    have hpos : (0 : Int) < (picked.length : Int) := by omega
    have q : bin addD (varP 3) (cst (.int 1)) (ρr picked cols (sl (.int i)) (sl (TS (picked.getD i []))) c) = some (0, .int ((i : Int) + 1)) := rfl
    have q2 : varP 2 (ρr picked cols (sl (.int i)) (sl (TS (picked.getD i []))) c) = some (0, .int (picked.length : Int)) := rfl
    rw [show ∀ fa fb, bin modD fa fb = bin modD fa fb from fun _ _ => rfl]
    unfold bin at q ⊢
    simp only [q, q2, Option.bind_some, modD, hpos, if_true, Option.map_some, Nat.zero_le, and_self]
    rw [Int.natCast_emod]
    rfl
  have t2 : cmp ninC (ixP (varP 1) (bin modD (bin addD (varP 3) (cst (.int 1))) (varP 2))) (varP 4) (ρr picked cols (sl (.int i)) (sl (TS (picked.getD i []))) c) = some (decide (cols.getD ((i + 1) % picked.length) e0 ∉ picked.getD i [])) :=
    ev_c2 (m := 0) (y := TS (picked.getD i [])) (ev_ixT D.str (n := 0) (j := (i + 1) % picked.length) rfl em rfl cj) rfl (nin_tupS _ _)
  refine wp_seq (wp_ite (ev_or t1 fun _ => t2) (fun hb => ?_) fun hb => ?_)
  · refine wp_retB (h1 fun z => ?_)
    obtain ⟨⟨z1, z2⟩, _⟩ := z
    simp only [Bool.or_eq_true, decide_eq_true_eq] at hb
    rcases hb with hb | hb
    · exact hb z1
    · exact hb z2
  · simp only [Bool.or_eq_false_iff, decide_eq_false_iff_not, Decidable.not_not] at hb
    refine wp_sk (wp_for (rng_I (n := i) (m := 0) rfl (by omega)) (fun j ρ => (∃ e, ρ = ρr picked cols (sl (.int i)) (sl (TS (picked.getD i []))) e) ∧ ∀ j', j' < j → ¬ ((1 < i - j' ∧ i - j' < picked.length - 1) ∧ ∃ c ∈ picked.getD i [], c ∈ picked.getD j' [])) ⟨⟨c, rfl⟩, fun j' h => by omega⟩ (fun j dd ρ hd ⟨⟨e', hρ⟩, hI⟩ => ?_) fun ρ' ⟨⟨e', hρ⟩, hI⟩ => ?_)
    · subst hρ
      obtain ⟨hj, rfl⟩ := at_rng hd
      refine ⟨_, rfl, ring_1 (hl _ (getD_mem' hi)) (get_some _ _ [] (by omega)) hj (fun z => h1 fun y => y.2 j hj z) (fun z => ⟨⟨_, rfl⟩, fun j' h => ?_⟩)⟩
      by_cases hjj : j' = j
      · subst hjj
        exact z
      · exact hI j' (by omega)
    · subst hρ
      rw [List.length_map, List.length_range] at hI
      exact h2 ⟨hb, hI⟩ e'
theorem e_ring (hm : picked.length ≤ 1000) (hc : cols.length ≤ 1000) (hl : ∀ row ∈ picked, row.length ≤ 1000) : ∃ b, F_is_ring_of [(0, LT picked), (0, TS cols)] = some (.bl b) ∧ (b = true ↔ RingP picked cols) := by
  suffices h : ∃ d, F_is_ring_of [(0, LT picked), (0, TS cols)] = some d ∧ Ans (RingP picked cols) d by
    obtain ⟨d, e, b, rfl, h⟩ := h
    exact ⟨b, e, h⟩
  refine run_wp rfl (wp_seq (wp_set (d := .int picked.length) ?_ (by simp [startR]) ?_))
  · refine ev_k0 ((ev_len (n := 0) (xs := picked.map TS) rfl).trans ?_)
    rw [List.length_map]
  show Wp _ _ (seqS _ _ (ρr picked cols none none none))
  refine wp_seq (wp_ite (b := decide ((picked.length : Int) < 4) || decide ((cols.length : Int) ≠ (picked.length : Int))) (ev_or (ev_c2 (n := 0) (m := 0) (x := .int picked.length) rfl rfl rfl) fun _ => ev_c2 (m := 0) (y := .int picked.length) (ev_lenT (n := 0) (xs := cols.map .str) rfl) rfl (by rw [List.length_map]; exact ne_int _ _)) (fun hc => ?_) fun hc => ?_)
  · refine wp_retB (Ans.no fun z => ?_)
    obtain ⟨z1, z2, _⟩ := z
    simp only [Bool.or_eq_true, decide_eq_true_eq] at hc
    omega
  · simp only [Bool.or_eq_false_iff, decide_eq_false_iff_not, Decidable.not_not] at hc
    refine wp_sk (wp_seq (wp_for (ds := enumD 0 (picked.map TS)) rfl (fun i ρ => (∃ a b c, ρ = ρr picked cols a b c) ∧ ∀ i', i' < i → RingAt picked cols i') ⟨⟨none, none, none, rfl⟩, fun i' h => by omega⟩ (fun i dd ρ hd ⟨⟨a, b, c, hρ⟩, hI⟩ => ?_) fun ρ' ⟨⟨a, b, c, hρ⟩, hI⟩ => ?_))
    · subst hρ
      rw [enumD_get, List.getElem?_map] at hd
      have hi : i < picked.length := by
        cases q : picked[i]? with
        | none => rw [q] at hd; cases hd
        | some r => exact (List.getElem?_eq_some_iff.mp q).1
      rw [get_some _ _ [] hi, Nat.zero_add] at hd
      cases hd
      refine ⟨_, rfl, ring_2 hm hl (by omega) hi (fun z => Ans.no fun y => z (y.2.2 i hi)) fun z e => ⟨⟨_, _, e, rfl⟩, fun i' h => ?_⟩⟩
      by_cases q : i' = i
      · subst q
        exact z
      · exact hI i' (by omega)
    · subst hρ
      rw [enumD_len, List.length_map] at hI
      exact wp_retB (Ans.yes ⟨by omega, by omega, hI⟩)
theorem e_crowd {names : List Str} (hm : picked.length ≤ 1000) (hc : cols.length ≤ 1000) (hn : names.length ≤ 1000) : ∃ b, F_is_crowd_of [(0, LT picked), (0, TS cols), (0, TS names)] = some (.bl b) ∧ (b = true ↔ CrowdP picked cols names) := by
  suffices h : ∃ d, F_is_crowd_of [(0, LT picked), (0, TS cols), (0, TS names)] = some d ∧ Ans (CrowdP picked cols names) d by
    obtain ⟨d, e, b, rfl, h⟩ := h
    exact ⟨b, e, h⟩
  refine run_wp rfl ?_
  show Wp _ _ (seqS _ _ [sl (LT picked), sl (TS cols), sl (TS names), none, none])
  refine wp_seq (wp_ite (b := decide ((picked.length : Int) < 3) || decide ((cols.length : Int) ≠ 3)) (ev_or (ev_c2 (m := 0) (y := .int 3) (ev_len (n := 0) (xs := picked.map TS) rfl) rfl (by rw [List.length_map]; rfl)) fun _ => ev_c2 (m := 0) (y := .int 3) (ev_lenT (n := 0) (xs := cols.map .str) rfl) rfl (by rw [List.length_map]; exact ne_int _ _)) (fun hc => ?_) fun hc => ?_)
  · refine wp_retB (Ans.no fun z => ?_)
    obtain ⟨z1, z2, _⟩ := z
    simp only [Bool.or_eq_true, decide_eq_true_eq] at hc
    omega
  · simp only [Bool.or_eq_false_iff, decide_eq_false_iff_not, Decidable.not_not] at hc
    refine wp_sk (wp_seq (wp_ite (b := picked.any fun row => decide (((cols.filter fun c => decide (c ∈ row)).length : Int) < 2)) (ev_asB (n := 0) (ev_anyB _ (ev_all TS (fun row => .bl (decide (((cols.filter fun c => decide (c ∈ row)).length : Int) < 2))) picked (ev_any rfl) (by omega) fun row hrow => ⟨_, rfl, ?_⟩))) (fun hb => ?_) fun hb => ?_))
    · refine ev_bl (ev_c2 (m := 0) (y := .int 2) (ev_lenG (ev_lc D.str (fun c => decide (c ∈ row)) D.str cols (ev_anyT (n := 0) rfl) (by omega) fun x hx => ⟨_, rfl, ?_, fun _ => rfl⟩)) rfl ?_)
      · exact ev_c2 (x := .str x) (y := TS row) rfl rfl (in_tupS x row)
      · rw [List.length_map]
        rfl
    · refine wp_retB (Ans.no fun z => ?_)
      obtain ⟨row, h1, h2⟩ := List.any_eq_true.mp hb
      have := z.2.2.1 row h1
      have := of_decide_eq_true h2
      omega
    · have hrows : ∀ row ∈ picked, 2 ≤ (cols.filter fun c => decide (c ∈ row)).length := fun row h => by
        have := List.any_eq_false.mp hb row h
        simp only [decide_eq_true_eq] at this
        omega
      have q : callP (c1 anyD) (aCons (frP (lcG [4] (anyI (varP 2)) (bN 4) yesT (keep0 (callP (c1 allD) (aCons (frP (lcG [3] (anyI (varP 0)) (bN 3) yesT (keep0 (blP (cmp inC (varP 4) (varP 3)))))) aNil))))) aNil) [sl (LT picked), sl (TS cols), sl (TS names), none, none] = some (0, .bl (names.any fun name => picked.all fun row => decide (name ∈ row))) := by
        refine ev_anyB (fun name => picked.all fun row => decide (name ∈ row)) (ev_all D.str (fun name => .bl (picked.all fun row => decide (name ∈ row))) names (ev_anyT (n := 0) rfl) (by omega) fun name hname => ⟨_, rfl, ?_⟩)
        refine ev_k0 (ev_allB (fun row => decide (name ∈ row)) (ev_all TS (fun row => .bl (decide (name ∈ row))) picked (ev_any rfl) (by omega) fun row hrow => ⟨_, rfl, ?_⟩))
        exact ev_bl (ev_c2 (x := .str name) (y := TS row) rfl rfl (in_tupS name row))
      refine wp_sk (wp_ret0 (d := .bl (!names.any fun name => picked.all fun row => decide (name ∈ row))) (ev_k0 ?_) ⟨_, rfl, ?_⟩)
      · simp only [una, q, Option.bind_some, notD, Option.map_some]
      · simp only [Bool.not_eq_true', List.any_eq_false, List.all_eq_true, decide_eq_true_eq, Classical.not_forall]
        constructor
        · intro h
          exact ⟨by omega, by omega, hrows, fun name hn => by
            obtain ⟨row, q1, q2⟩ := h name hn
            exact ⟨row, q1, q2⟩⟩
        · rintro ⟨_, _, _, h⟩ name hn
          obtain ⟨row, q1, q2⟩ := h name hn
          exact ⟨row, q1, q2⟩
end
end Gn

set_option Elab.async false
set_option linter.all false
set_option maxRecDepth 100000
set_option maxHeartbeats 2000000
/-! k44: stands_in -/
namespace Gn
open PySem Iv Pl
theorem ev_fld {cs : List Str} {f : Str} {fa : Pk} {ρ : Rho} {n : Nat} {c : Str} {ns : List Str} {xs : List D} {d : D} (e : fa ρ = some (n, .obj c ns xs)) (hc : c ∈ cs) (hl : (ns.zip xs).lookup f = some d) : fldP cs f fa ρ = some (0, d) := by
  simp only [fldP, e, Option.bind_some, fldD, hc, if_true, hl, Option.map_some]
theorem cc1 : (("rows" : Str) == ("kind" : Str)) = false := by decide +kernel
theorem cc2 : (("columns" : Str) == ("kind" : Str)) = false := by decide +kernel
theorem cc3 : (("columns" : Str) == ("rows" : Str)) = false := by decide +kernel
theorem cc4 : (("rows" : Str) == ("columns" : Str)) = false := by decide +kernel
theorem mB : ("Bar" : Str) ∈ [("Table" : Str), "Bar"] := by decide +kernel
theorem mT : ("Table" : Str) ∈ [("Table" : Str), "Bar"] := by decide +kernel
theorem mB1 : ("Bar" : Str) ∈ [("Bar" : Str)] := by decide +kernel
section
variable {fa : Pk} {ρ : Rho} {n : Nat} {kind : Str} {nums : List Int} {cols names : List Str} {rows : List (List Str)}
theorem fB_kind (e : fa ρ = some (n, Br kind nums cols)) : fldP ["Bar"] "kind" fa ρ = some (0, .str kind) := ev_fld e mB1 (by simp [List.lookup])
theorem fB_rows (e : fa ρ = some (n, Br kind nums cols)) : fldP ["Table", "Bar"] "rows" fa ρ = some (0, TI nums) := ev_fld e mB (by simp [List.lookup, cc1])
theorem fB_cols (e : fa ρ = some (n, Br kind nums cols)) : fldP ["Table", "Bar"] "columns" fa ρ = some (0, TS cols) := ev_fld e mB (by simp [List.lookup, cc2, cc3])
theorem fT_cols (e : fa ρ = some (n, Tb names rows)) : fldP ["Table", "Bar"] "columns" fa ρ = some (0, TS names) := ev_fld e mT (by simp [List.lookup])
theorem fT_rows (e : fa ρ = some (n, Tb names rows)) : fldP ["Table", "Bar"] "rows" fa ρ = some (0, TT rows) := ev_fld e mT (by simp [List.lookup, cc4])
theorem all_in {nums : List Int} {m : Nat} : (nums.all fun k => decide (0 ≤ k) && decide (k < (m : Int))) = true ↔ ∀ k ∈ nums, 0 ≤ k ∧ k < (m : Int) := by
  simp [List.all_eq_true]
theorem e_stands_in {l1 l2 : Nat} (hs : Sz names rows kind nums cols) : ∃ b, F_stands_in [(l1, Tb names rows), (l2, Br kind nums cols)] = some (.bl b) ∧ (b = true ↔ StP names rows kind nums cols) := by
  suffices h : ∃ d, F_stands_in [(l1, Tb names rows), (l2, Br kind nums cols)] = some d ∧ Ans (StP names rows kind nums cols) d by
    obtain ⟨d, e, b, rfl, h⟩ := h
    exact ⟨b, e, h⟩
  have hsm := hs.m
  have hsc := hs.c
  have hsn := hs.n
  refine run_wp rfl ?_
  have q0 : ∀ {s2 s3 s4 : Option Sl}, varP 0 [some ⟨false, l1, Tb names rows⟩, some ⟨false, l2, Br kind nums cols⟩, s2, s3, s4] = some (l1, Tb names rows) := rfl
  have q1 : ∀ {s2 s3 s4 : Option Sl}, varP 1 [some ⟨false, l1, Tb names rows⟩, some ⟨false, l2, Br kind nums cols⟩, s2, s3, s4] = some (l2, Br kind nums cols) := rfl
  show Wp _ _ (seqS _ _ [some ⟨false, l1, Tb names rows⟩, some ⟨false, l2, Br kind nums cols⟩, none, none, none])
  refine wp_seq (wp_ite (b := !(nums.all fun k => decide (0 ≤ k) && decide (k < (rows.length : Int)))) (ev_not (ev_asB (n := 0) (ev_allB _ (ev_all D.int (fun k => .bl (decide (0 ≤ k) && decide (k < (rows.length : Int)))) nums (ev_anyT (fB_rows q1)) (by omega) fun k hk => ⟨_, rfl, ?_⟩)))) (fun hb => ?_) fun hb => ?_)
  · have q := ev_lenT (fT_rows (q0 (s2 := none) (s3 := sl (.int k)) (s4 := none)))
    rw [List.length_map] at q
    refine ev_bl ?_
    show chn _ _ _ _ _ [some ⟨false, l1, Tb names rows⟩, some ⟨false, l2, Br kind nums cols⟩, none, sl (.int k), none] = _
    by_cases h : (0 : Int) ≤ k <;> simp [chn, cst, varP, intC, h, q]
  · refine wp_retB (Ans.no fun z => ?_)
    rw [all_in.mpr z.1.inr] at hb
    cases hb
  · have b1 := all_in.mp (by simpa using hb)
    refine wp_sk (wp_seq (wp_ite (b := !(cols.all fun c => decide (c ∈ names))) (ev_not (ev_asB (n := 0) (ev_allB _ (ev_all D.str (fun c => .bl (decide (c ∈ names))) cols (ev_anyT (fB_cols q1)) (by omega) fun c hc => ⟨_, rfl, ?_⟩)))) (fun hb => ?_) fun hb => ?_))
    · refine ev_bl ?_
      show cmp _ _ _ [some ⟨false, l1, Tb names rows⟩, some ⟨false, l2, Br kind nums cols⟩, none, none, sl (.str c)] = _
      exact ev_c2 (n := 0) (x := .str c) rfl (fT_cols q0) (in_tupS c names)
    · refine wp_retB (Ans.no fun z => ?_)
      have : (cols.all fun c => decide (c ∈ names)) = true := by simpa [List.all_eq_true] using z.1.cn
      rw [this] at hb
      cases hb
    · have b2 : ∀ c ∈ cols, c ∈ names := by
        have : (cols.all fun c => decide (c ∈ names)) = true := by simpa using hb
        simpa [List.all_eq_true] using this
      refine wp_sk (wp_seq (wp_ite (ev_or (a := decide (((diffs nums).length : Int) < (nums.length : Int))) (b := decide (((diffs cols).length : Int) < (cols.length : Int))) ?_ fun _ => ?_) (fun hb => ?_) fun hb => ?_))
      · refine ev_c2 (n := 0) (x := .int (diffs nums).length) ?_ (ev_lenT (fB_rows q1)) ?_
        · simp only [una, fB_rows q1, Option.bind_some, lsetD, lset_I (show nums.length ≤ 4000 by omega), Option.map_some]
        · rw [List.length_map]
          rfl
      · refine ev_c2 (n := 0) (x := .int (diffs cols).length) ?_ (ev_lenT (fB_cols q1)) ?_
        · simp only [una, fB_cols q1, Option.bind_some, lsetD, lset_S (show cols.length ≤ 4000 by omega), Option.map_some]
        · rw [List.length_map]
          rfl
      · refine wp_retB (Ans.no fun z => ?_)
        simp only [Bool.or_eq_true, decide_eq_true_eq, diffs_lt] at hb
        rcases hb with h | h
        · exact h z.1.nd
        · exact h z.1.cd
      · simp only [Bool.or_eq_false_iff, decide_eq_false_iff_not, diffs_lt, Decidable.not_not] at hb
        have base : Base names rows.length nums cols := ⟨b1, b2, hb.1, hb.2⟩
        refine wp_sk (wp_seq (wp_set (d := LT (pick rows nums)) ?_ (by simp) ?_))
        · have := ev_all (ρ := [some ⟨false, l1, Tb names rows⟩, some ⟨false, l2, Br kind nums cols⟩, none, none, none]) D.int (fun k => TS (rows.getD k.toNat [])) (fi := anyI (fldP ["Table", "Bar"] "rows" (varP 1))) (vs := [3]) (bd := bN 3) (f := keep0 (ixP (fldP ["Table", "Bar"] "rows" (varP 0)) (varP 3))) nums (ev_anyT (fB_rows q1)) (by omega) fun x hx => ⟨_, rfl, by
            have hx := b1 x hx
            have g : rows[x.toNat]? = some (rows.getD x.toNat []) := get_some _ _ _ (by omega)
            exact ev_k0 (ev_ixT TS (n := 0) (m := 0) (xs := rows) (i := x) (j := x.toNat) (fT_rows q0) rfl (by omega) g)⟩
          rw [this]
          unfold LT pick
          rw [List.map_map]
          rfl
        · show Wp _ _ (seqS _ _ [some ⟨false, l1, Tb names rows⟩, some ⟨false, l2, Br kind nums cols⟩, sl (LT (pick rows nums)), none, none])
          have hpl : (pick rows nums).length = nums.length := pick_len
          have hrl : ∀ row ∈ pick rows nums, row.length ≤ 1000 := fun row h => hs.rr row (pick_mem b1 h)
          have v2 : varP 2 [some ⟨false, l1, Tb names rows⟩, some ⟨false, l2, Br kind nums cols⟩, sl (LT (pick rows nums)), none, none] = some (0, LT (pick rows nums)) := rfl
          refine wp_seq (wp_ite (b := decide (kind = "ring")) (ev_c2 (m := 0) (fB_kind q1) rfl (eq_str hs.k okRing)) (fun hb => ?_) fun hb => ?_)
          · have hb := of_decide_eq_true hb
            obtain ⟨b, e, h⟩ := e_ring (picked := pick rows nums) (cols := cols) (by omega) hs.c hrl
            refine wp_ret0 (d := .bl b) ?_ ⟨b, rfl, h.trans ⟨fun z => ⟨base, .inl ⟨hb, z⟩⟩, fun z => ?_⟩⟩
            · simp only [callG, aCons, aNil, v2, fB_cols q1, Option.bind_some, Option.map_some, e]
            · rcases z.2 with ⟨_, z⟩ | ⟨z, _⟩
              · exact z
              · exact absurd hb z
          · have hb := of_decide_eq_false hb
            obtain ⟨b, e, h⟩ := e_crowd (picked := pick rows nums) (cols := cols) (names := names) (by omega) hs.c hs.n
            have e2 : frP (callG F_is_crowd_of (aCons (varP 2) (aCons (fldP ["Table", "Bar"] "columns" (varP 1)) (aCons (fldP ["Table", "Bar"] "columns" (varP 0)) aNil)))) [some ⟨false, l1, Tb names rows⟩, some ⟨false, l2, Br kind nums cols⟩, sl (LT (pick rows nums)), none, none] = some (0, .bl b) := by
              simp only [frP, callG, aCons, aNil, v2, fB_cols q1, fT_cols q0, Option.bind_some, Option.map_some, e]
            have e3 : blP (cmp eqC (fldP ["Bar"] "kind" (varP 1)) (cst (.str "crowd"))) [some ⟨false, l1, Tb names rows⟩, some ⟨false, l2, Br kind nums cols⟩, sl (LT (pick rows nums)), none, none] = some (0, .bl (decide (kind = "crowd"))) := by
              unfold blP
              rw [ev_c2 (m := 0) (y := .str "crowd") (fB_kind q1) rfl (eq_str hs.k okCrowd)]
              rfl
            refine wp_sk (wp_ret0 (d := .bl (decide (kind = "crowd") && b)) (ev_k0 ?_) ⟨_, rfl, ?_⟩)
            · simp only [andP, ev_asB e3, Option.bind_some]
              by_cases hk : kind = "crowd"
              · simp only [hk, decide_true, if_true, Bool.true_and]
                exact e2
              · simp [hk]
            · rw [Bool.and_eq_true, decide_eq_true_eq, h]
              constructor
              · rintro ⟨z1, z2⟩
                exact ⟨base, .inr ⟨hb, z1, z2⟩⟩
              · rintro ⟨_, ⟨z, _⟩ | ⟨_, z1, z2⟩⟩
                · exact absurd z hb
                · exact ⟨z1, z2⟩
end
end Gn

set_option Elab.async false
set_option linter.all false
set_option maxRecDepth 100000
set_option maxHeartbeats 2000000
/-! k44: tables and bars made -/
namespace Gn
open PySem Iv Pl
/-- a list or a tuple of names -/
abbrev Qs : Type := Bool × List Str
def eQ (p : Qs) : D := if p.1 = true then TS p.2 else LS p.2
theorem in_Q (s : Str) (p : Qs) : inC (.str s) (eQ p) = some (decide (s ∈ p.2)) := by
  unfold eQ
  split
  · exact in_tupS s p.2
  · exact in_lstS s p.2
theorem nin_Q (s : Str) (p : Qs) : ninC (.str s) (eQ p) = some (decide (s ∉ p.2)) := by
  simp [ninC, in_Q]
section
variable {f fi : Pk} {ρ : Rho} {p : Qs} {m : Nat} {i : Int} {j : Nat} {x : Str}
theorem ev_anyQ (e : f ρ = some (0, eQ p)) : anyI f ρ = some (p.2.map .str) := by
  unfold eQ at e
  split at e
  · exact ev_anyT e
  · exact ev_any e
theorem ev_lenQ (e : f ρ = some (0, eQ p)) : callP (c1 lenD) (aCons f aNil) ρ = some (0, .int p.2.length) := by
  unfold eQ at e
  split at e
  · rw [ev_lenT e, List.length_map]
  · rw [ev_len e, List.length_map]
theorem ev_ixQ (e1 : f ρ = some (0, eQ p)) (e2 : fi ρ = some (m, .int i)) (hi : i = j) (hx : p.2[j]? = some x) : ixP f fi ρ = some (0, .str x) := by
  unfold eQ at e1
  split at e1
  · exact ev_ixT D.str e1 e2 hi hx
  · exact ev_ix D.str e1 e2 hi hx
theorem ev_cutQ (e1 : f ρ = some (0, eQ p)) (e2 : fi ρ = some (m, .int i)) (hi : i = j) : cutP f noO (ofO fi) ρ = some (0, eQ (p.1, p.2.take j)) := by
  unfold eQ at *
  simp only at *
  split at e1
  · rename_i h
    simp only [cutP, e1, noO, ofO, e2, Option.bind_some, cut_take D.str p.2 hi, h, if_true]
  · rename_i h
    simp only [cutP, e1, noO, ofO, e2, Option.bind_some, cut_take D.str p.2 hi, h, if_false, Nat.zero_le, if_true]
    rfl
theorem ev_tupQ (e : f ρ = some (0, eQ p)) : callP tupD (aCons f aNil) ρ = some (0, TS p.2) := by
  unfold eQ at e
  split at e <;> simp only [callP, aCons, aNil, e, Option.bind_some, Option.map_some, tupD, Nat.zero_le, if_true]
end
/-- a name -/
def Nm (s : Str) : Prop := (1 ≤ s.length ∧ s.length ≤ 8) ∧ ∀ c ∈ s.cps.toList, 97 ≤ c ∧ c ≤ 122
theorem letters : ("abcdefghijklmnopqrstuvwxyz" : Str).cps.toList = (List.range 26).map (· + 97) := by decide +kernel
theorem Nm.ok {s : Str} (h : Nm s) : PyData.strOk s = true := by
  unfold PyData.strOk
  rw [Array.all_eq_true_iff_forall_mem]
  intro c hc
  have := h.2 c (Array.mem_toList_iff.mpr hc)
  simp only [decide_eq_true_eq]
  omega
theorem e_is_name {s : Str} (h : Nm s) : F_is_name [(0, .str s)] = some (.bl true) := by
  have hl : s.length ≤ 100000 := by have := h.1.2; omega
  refine run_eq rfl ?_
  have q : callP (c1 lenD) (aCons (varP 0) aNil) [sl (.str s), none] = some (0, .int s.length) := by
    have v : varP 0 [sl (.str s), none] = some (0, .str s) := rfl
    simp only [callP, aCons, aNil, v, Option.bind_some, Option.map_some, c1, lenD, hl, if_true]
  have h1 : (1 : Int) ≤ (s.length : Int) := by have := h.1.1; omega
  have h2 : (s.length : Int) ≤ 8 := by have := h.1.2; omega
  show Wp _ _ (seqS _ _ [sl (.str s), none])
  refine wp_seq (wp_ite (b := false) ?_ (fun hb => by cases hb) fun _ => wp_sk ?_)
  · simp only [notT, chn, cst, q, Option.bind_some, intC, h1, h2, decide_true, if_true, Option.map_some, Bool.not_true]
  · refine wp_ret0 (d := .bl (s.cps.toList.all fun c => decide (c ∈ ("abcdefghijklmnopqrstuvwxyz" : Str).cps.toList))) (ev_k0 (ev_allB _ (ev_all (fun c => D.str ⟨#[c]⟩) (fun c => .bl (decide (c ∈ ("abcdefghijklmnopqrstuvwxyz" : Str).cps.toList))) s.cps.toList rfl ?_ fun c hc => ⟨_, rfl, ?_⟩))) ?_
    · rw [Array.length_toList]
      exact Nat.le_trans h.1.2 (by decide)
    · exact ev_bl (ev_c2 (n := 0) (m := 0) (x := .str ⟨#[c]⟩) (y := .str "abcdefghijklmnopqrstuvwxyz") rfl rfl rfl)
    · congr 1
      rw [List.all_eq_true]
      intro c hc
      rw [decide_eq_true_eq, letters, List.mem_map]
      have := h.2 c hc
      exact ⟨c - 97, List.mem_range.mpr (by omega), by omega⟩
theorem take_not_mem {xs : List Str} (h : xs.Nodup) {i : Nat} {x : Str} (e : xs[i]? = some x) : x ∉ xs.take i := fun z => by
  obtain ⟨j, hj, e2⟩ := List.mem_iff_getElem.mp z
  rw [List.length_take] at hj
  rw [List.getElem_take] at e2
  obtain ⟨hi, e⟩ := List.getElem?_eq_some_iff.mp e
  exact List.pairwise_iff_getElem.mp h j i (by omega) hi (by omega) (e2.trans e.symm)
theorem e_misnamed {p : Qs} (h : p.2.Nodup) (hn : ∀ s ∈ p.2, Nm s) (hl : p.2.length ≤ 1000) : F_first_misnamed [(0, eQ p)] = some (.int (-1)) := by
  refine run_eq rfl ?_
  show Wp _ _ (seqS _ _ [sl (eQ p), none])
  refine wp_seq (wp_for (rng_I (n := p.2.length) (m := 0) (by exact ev_lenQ (p := p) rfl) (by omega)) (fun i ρ => ∃ a, ρ = [sl (eQ p), a]) ⟨none, rfl⟩ (fun i dd ρ hd ⟨a, hρ⟩ => ?_) fun ρ' ⟨a, hρ⟩ => ?_)
  · subst hρ
    obtain ⟨hi, rfl⟩ := at_rng hd
    have g : p.2[i]? = some (p.2.getD i e0) := get_some _ _ _ hi
    refine ⟨_, rfl, ?_⟩
    unfold l_first_misnamed_1
    have q : ixP (varP 0) (varP 1) ([sl (eQ p), a].set 1 (some ⟨false, 0, .int i⟩)) = some (0, .str (p.2.getD i e0)) := ev_ixQ (m := 0) (i := i) rfl rfl rfl g
    refine wp_ite (b := false) (ev_or (a := false) (b := false) (ev_not (b := true) (ev_asB (n := 0) ?_)) fun _ => ?_) (fun hb => by cases hb) fun _ => wp_sk ⟨_, rfl⟩
    · simp only [frP, callG, aCons, aNil, q, Option.bind_some, Option.map_some, e_is_name (hn _ (List.mem_of_getElem? g))]
    · refine ev_c2 q (ev_cutQ (m := 0) (i := i) (j := i) rfl rfl rfl) ?_
      rw [in_Q, decide_eq_false (take_not_mem h g)]
  · subst hρ
    exact wp_ret0 (d := .int (-1)) rfl rfl
theorem e_is_row {p q : Qs} (h : q.2.Nodup) (hn : ∀ s ∈ q.2, s ∈ p.2) (hl : q.2.length ≤ 1000) : F_is_row [(0, eQ p), (0, eQ q)] = some (.bl true) := by
  refine run_eq rfl ?_
  show Wp _ _ (seqS _ _ [sl (eQ p), sl (eQ q), none])
  refine wp_seq (wp_for (rng_I (n := q.2.length) (m := 0) (by exact ev_lenQ (p := q) rfl) (by omega)) (fun i ρ => ∃ a, ρ = [sl (eQ p), sl (eQ q), a]) ⟨none, rfl⟩ (fun i dd ρ hd ⟨a, hρ⟩ => ?_) fun ρ' ⟨a, hρ⟩ => ?_)
  · subst hρ
    obtain ⟨hi, rfl⟩ := at_rng hd
    have g : q.2[i]? = some (q.2.getD i e0) := get_some _ _ _ hi
    refine ⟨_, rfl, ?_⟩
    unfold l_is_row_1
    have e : ixP (varP 1) (varP 2) ([sl (eQ p), sl (eQ q), a].set 2 (some ⟨false, 0, .int i⟩)) = some (0, .str (q.2.getD i e0)) := ev_ixQ (m := 0) (i := i) rfl rfl rfl g
    refine wp_ite (b := false) (ev_or (a := false) (b := false) ?_ fun _ => ?_) (fun hb => by cases hb) fun _ => wp_sk ⟨_, rfl⟩
    · refine ev_c2 (m := 0) (y := eQ p) e rfl ?_
      rw [nin_Q, decide_eq_false (fun z => z (hn _ (List.mem_of_getElem? g)))]
    · refine ev_c2 e (ev_cutQ (m := 0) (i := i) (j := i) rfl rfl rfl) ?_
      rw [in_Q, decide_eq_false (take_not_mem h g)]
  · subst hρ
    exact wp_ret0 (d := .bl true) rfl rfl
theorem e_common {p q : Qs} (hl : p.2.length ≤ 1000) : F_common_names [(0, eQ p), (0, eQ q)] = some (LS (p.2.filter fun c => decide (c ∈ q.2))) := by
  refine run_eq rfl (wp_ret0 (ev_lc D.str (fun c => decide (c ∈ q.2)) D.str p.2 (ev_anyQ rfl) (by omega) fun x hx => ⟨_, rfl, ?_, fun _ => rfl⟩) rfl)
  exact ev_c2 (n := 0) (m := 0) (x := .str x) (y := eQ q) rfl rfl (in_Q x q)
theorem wp_fld {Pn : Rho → Prop} {Pr : D → Prop} {ρ : Rho} {i : Nat} {cs : List Str} {f : Str} {g : Rho → Option D} {d : D} {c : Str} {ns : List Str} {xs : List D} (e0 : ρ[i]? = some (some ⟨true, 1, .obj c ns xs⟩)) (hc : c ∈ cs ∧ f ∉ ns ∧ ns.length < 100) (e : g ρ = some d) (h : Pn (ρ.set i (some ⟨true, 1, .obj c (ns ++ [f]) (xs ++ [d])⟩))) : Wp Pn Pr (fldS i cs f g ρ) := by
  have : fldS i cs f g ρ = some (.nx, ρ.set i (some ⟨true, 1, .obj c (ns ++ [f]) (xs ++ [d])⟩)) := by
    simp only [fldS, e0, hc, not_false_eq_true, and_self, if_true, e, Option.map_some]
  rw [this]
  exact h
theorem runI_eq {c : Str} {n N : Nat} {f : Sm} {as : Ar} {ns : List Str} {xs : List D} (h : as.length = n) (w : Wp (fun ρ => ∃ t, ρ = some ⟨true, 1, .obj c ns xs⟩ :: t) (fun _ => False) (f (some ⟨true, 1, .obj c [] []⟩ :: startR (N - 1) as))) : runI c n N f as = some (.obj c ns xs) := by
  unfold runI
  rw [if_pos h]
  match e : f (some ⟨true, 1, .obj c [] []⟩ :: startR (N - 1) as), w with
  | some (.nx, ρ), w =>
    obtain ⟨t, rfl⟩ := w
    rfl
def nmI : List Str := []
theorem tt1 : ("Bar" : Str) ∈ [("Bar" : Str)] ∧ ("kind" : Str) ∉ ([] : List Str) ∧ ([] : List Str).length < 100 := by decide +kernel
theorem tt2 : ("Bar" : Str) ∈ [("Bar" : Str)] ∧ ("rows" : Str) ∉ [("kind" : Str)] ∧ ([("kind" : Str)] : List Str).length < 100 := by decide +kernel
theorem tt3 : ("Bar" : Str) ∈ [("Bar" : Str)] ∧ ("columns" : Str) ∉ [("kind" : Str), "rows"] ∧ ([("kind" : Str), "rows"] : List Str).length < 100 := by decide +kernel
theorem tt4 : ("Table" : Str) ∈ [("Table" : Str)] ∧ ("columns" : Str) ∉ ([] : List Str) ∧ ([] : List Str).length < 100 := by decide +kernel
theorem tt5 : ("Table" : Str) ∈ [("Table" : Str)] ∧ ("rows" : Str) ∉ [("columns" : Str)] ∧ ([("columns" : Str)] : List Str).length < 100 := by decide +kernel
theorem e_bar {kind : Str} {nums : List Int} {cols : List Str} {d2 d3 : D} {n2 n3 : Nat} (h2 : tupD [(n2, d2)] = some (TI nums)) (h3 : tupD [(n3, d3)] = some (TS cols)) : F_Bar_init [(0, .str kind), (n2, d2), (n3, d3)] = some (Br kind nums cols) := by
  refine runI_eq rfl ?_
  show Wp _ _ (seqS _ _ [some ⟨true, 1, .obj "Bar" [] []⟩, sl (.str kind), some ⟨false, n2, d2⟩, some ⟨false, n3, d3⟩])
  refine wp_seq (wp_fld (d := .str kind) rfl tt1 rfl ?_)
  refine wp_seq (wp_fld (d := TI nums) rfl tt2 (ev_k0 ?_) ?_)
  · show (tupD [(n2, d2)]).map _ = _
    rw [h2]
    rfl
  refine wp_fld (d := TS cols) rfl tt3 (ev_k0 ?_) ⟨_, rfl⟩
  show (tupD [(n3, d3)]).map _ = _
  rw [h3]
  rfl
theorem e_table {p : Qs} {rs : List Qs} (h : p.2.Nodup) (hn : ∀ s ∈ p.2, Nm s) (hl : p.2.length ≤ 12) (hr : rs.length ≤ 48) (hq : ∀ q ∈ rs, q.2.Nodup ∧ (∀ s ∈ q.2, s ∈ p.2) ∧ q.2.length ≤ 1000) : F_Table_init [(0, eQ p), (0, .lst (rs.map eQ))] = some (Tb p.2 (rs.map fun q => p.2.filter fun c => decide (c ∈ q.2))) := by
  refine runI_eq rfl ?_
  show Wp _ _ (seqS _ _ [some ⟨true, 1, .obj "Table" [] []⟩, sl (eQ p), sl (.lst (rs.map eQ)), none, none, none])
  refine wp_seq (wp_ite (b := false) ?_ (fun hb => by cases hb) fun _ => wp_sk ?_)
  · refine ev_c2 (m := 0) (y := .int 12) (ev_lenQ (p := p) rfl) rfl ?_
    show some (decide ((12 : Int) < (p.2.length : Int))) = _
    rw [decide_eq_false (by omega)]
  refine wp_seq (wp_set (d := .int (-1)) ?_ (by simp) ?_)
  · show (F_first_misnamed [(0, eQ p)]) = _
    exact e_misnamed h hn (by omega)
  show Wp _ _ (seqS _ _ [some ⟨true, 1, .obj "Table" [] []⟩, sl (eQ p), sl (.lst (rs.map eQ)), sl (.int (-1)), none, none])
  refine wp_seq (wp_ite (b := false) rfl (fun hb => by cases hb) fun _ => wp_sk ?_)
  refine wp_seq (wp_ite (b := false) ?_ (fun hb => by cases hb) fun _ => wp_sk ?_)
  · refine ev_c2 (m := 0) (y := .int 48) (ev_len (n := 0) (xs := rs.map eQ) rfl) rfl ?_
    rw [List.length_map]
    show some (decide ((48 : Int) < (rs.length : Int))) = _
    rw [decide_eq_false (by omega)]
  refine wp_seq (wp_for (rng_I (n := rs.length) (m := 0) (by rw [ev_len (n := 0) (xs := rs.map eQ) rfl, List.length_map]) (by omega)) (fun i ρ => ∃ a, ρ = [some ⟨true, 1, .obj "Table" [] []⟩, sl (eQ p), sl (.lst (rs.map eQ)), sl (.int (-1)), a, none]) ⟨none, rfl⟩ (fun i dd ρ hd ⟨a, hρ⟩ => ?_) fun ρ' ⟨a, hρ⟩ => ?_)
  · subst hρ
    obtain ⟨hi, rfl⟩ := at_rng hd
    have g : rs[i]? = some (rs.getD i (false, [])) := get_some _ _ _ hi
    obtain ⟨q1, q2, q3⟩ := hq _ (List.mem_of_getElem? g)
    refine ⟨_, rfl, ?_⟩
    unfold l_Table_init_1
    have e : ixP (varP 2) (varP 4) ([some ⟨true, 1, .obj "Table" [] []⟩, sl (eQ p), sl (.lst (rs.map eQ)), sl (.int (-1)), a, none].set 4 (some ⟨false, 0, .int i⟩)) = some (0, eQ (rs.getD i (false, []))) := ev_ix eQ (n := 0) (m := 0) (i := i) (j := i) rfl rfl rfl g
    have e1 : varP 1 ([some ⟨true, 1, .obj "Table" [] []⟩, sl (eQ p), sl (.lst (rs.map eQ)), sl (.int (-1)), a, none].set 4 (some ⟨false, 0, .int i⟩)) = some (0, eQ p) := rfl
    refine wp_ite (b := false) (ev_not (b := true) (ev_asB (n := 0) ?_)) (fun hb => by cases hb) fun _ => wp_sk ⟨_, rfl⟩
    simp only [frP, callG, aCons, aNil, e, e1, Option.bind_some, Option.map_some, e_is_row q1 q2 q3]
  · subst hρ
    refine wp_seq (wp_fld (d := TS p.2) rfl tt4 (ev_k0 (ev_tupQ (p := p) rfl)) ?_)
    refine wp_fld (d := TT (rs.map fun q => p.2.filter fun c => decide (c ∈ q.2))) rfl tt5 (ev_k0 ?_) ⟨_, rfl⟩
    have e := ev_all (ρ := [some ⟨true, 1, .obj "Table" ["columns"] [TS p.2]⟩, sl (eQ p), sl (.lst (rs.map eQ)), sl (.int (-1)), a, none]) eQ (fun q => TS (p.2.filter fun c => decide (c ∈ q.2))) (fi := anyI (varP 2)) (vs := [5]) (bd := bN 5) (f := keep0 (callP tupD (aCons (frP (callG F_common_names (aCons (varP 1) (aCons (varP 5) aNil)))) aNil))) rs (ev_any rfl) (by omega) fun q hq' => ⟨_, rfl, ?_⟩
    · show (callP tupD (aCons (frP (lcG [5] (anyI (varP 2)) (bN 5) yesT (keep0 (callP tupD (aCons (frP (callG F_common_names (aCons (varP 1) (aCons (varP 5) aNil)))) aNil))))) aNil)) [some ⟨true, 1, .obj "Table" ["columns"] [TS p.2]⟩, sl (eQ p), sl (.lst (rs.map eQ)), sl (.int (-1)), a, none] = _
      simp only [callP, aCons, aNil, frP] at e ⊢
      rw [e]
      simp only [Option.map_some, Option.bind_some, tupD, Nat.zero_le, if_true]
      unfold TT
      rw [List.map_map]
      rfl
    · refine ev_k0 (ev_tupQ (p := (false, p.2.filter fun c => decide (c ∈ q.2))) ?_)
      show (F_common_names [(0, eQ p), (0, eQ q)]).map _ = _
      rw [e_common (by omega)]
      rfl
end Gn

set_option Elab.async false
set_option linter.all false
set_option maxRecDepth 100000
set_option maxHeartbeats 2000000
/-! k44: plus, rows drawn, a list with one item put -/
namespace Gn
open PySem Iv Pl
theorem ev_bin {g : D → D → Option D} {fa fb : Pk} {ρ : Rho} {x y d : D} (e1 : fa ρ = some (0, x)) (e2 : fb ρ = some (0, y)) (h : g x y = some d) : bin g fa fb ρ = some (0, d) := by
  simp only [bin, e1, e2, Option.bind_some, Nat.zero_le, and_self, if_true, h, Option.map_some]
theorem add_lst {a b : List D} (h : a.length + b.length ≤ 100000) : addD (.lst a) (.lst b) = some (.lst (a ++ b)) := by
  simp only [addD, h, if_true]
theorem e_plus {l : Nat} {names : List Str} {rows : List (List Str)} {qs : List Qs} (h : names.Nodup) (hn : ∀ s ∈ names, Nm s) (hl : names.length ≤ 12) (hr : rows.length + qs.length ≤ 48) (hq : ∀ q ∈ qs, q.2.Nodup ∧ (∀ s ∈ q.2, s ∈ names) ∧ q.2.length ≤ 1000) (hq' : ∀ q ∈ rows, q.Nodup ∧ (∀ s ∈ q, s ∈ names) ∧ q.length ≤ 1000) :
    F_Table_plus [(l, Tb names rows), (0, .tup (qs.map eQ))] = some (Tb names ((rows ++ qs.map (·.2)).map fun q => names.filter fun c => decide (c ∈ q))) := by
  refine run_eq rfl ?_
  have q0 : varP 0 [some ⟨false, l, Tb names rows⟩, sl (.tup (qs.map eQ))] = some (l, Tb names rows) := rfl
  have q1 : varP 1 [some ⟨false, l, Tb names rows⟩, sl (.tup (qs.map eQ))] = some (0, .tup (qs.map eQ)) := rfl
  show Wp _ _ (retS 0 _ [some ⟨false, l, Tb names rows⟩, sl (.tup (qs.map eQ))])
  refine wp_ret0 (d := Tb names ((rows ++ qs.map (·.2)).map fun q => names.filter fun c => decide (c ∈ q))) ?_ rfl
  have e := e_table (p := (true, names)) (rs := rows.map (fun r => (true, r)) ++ qs) h hn hl (by simpa using hr) fun q hq2 => by
    rcases List.mem_append.mp hq2 with z | z
    · obtain ⟨r, hr, rfl⟩ := List.mem_map.mp z
      exact hq' r hr
    · exact hq q z
  have er : (rows.map (fun r => ((true, r) : Qs)) ++ qs).map eQ = rows.map TS ++ qs.map eQ := by
    rw [List.map_append, List.map_map]
    rfl
  rw [er] at e
  have hlen : (rows.map TS).length + (qs.map eQ).length ≤ 100000 := by simp; omega
  show callG F_Table_init _ _ = _
  simp only [callG, aCons, aNil, fT_cols q0, bin, callN, fT_rows q0, q1, Option.bind_some, Option.map_some, lstD, addD, hlen, if_true, Nat.zero_le, and_self]
  have e2 : eQ (true, names) = TS names := rfl
  rw [e2] at e
  rw [e]
  congr 2
  simp [List.map_append, Function.comp_def]
def put {α : Type} (xs : List α) (i : Nat) (x : α) : List α := xs.take i ++ [x] ++ xs.drop (i + 1)
theorem e_put {α : Type} (f : α → D) {xs : List α} {x : α} {i : Int} {j : Nat} (hi : i = j) (hl : xs.length ≤ 1000) : F_law_put [(0, .lst (xs.map f)), (0, .int i), (0, f x)] = some (.lst ((put xs j x).map f)) := by
  refine run_eq rfl ?_
  show Wp _ _ (retS 0 _ [sl (.lst (xs.map f)), sl (.int i), sl (f x)])
  refine wp_ret0 (d := .lst ((put xs j x).map f)) (ev_k0 ?_) rfl
  have v0 : varP 0 [sl (.lst (xs.map f)), sl (.int i), sl (f x)] = some (0, .lst (xs.map f)) := rfl
  have v1 : varP 1 [sl (.lst (xs.map f)), sl (.int i), sl (f x)] = some (0, .int i) := rfl
  have v2 : varP 2 [sl (.lst (xs.map f)), sl (.int i), sl (f x)] = some (0, f x) := rfl
  have h1 : ((xs.take j).map f).length + 1 ≤ 100000 := by simp; omega
  have h2 : ((xs.take j).map f ++ [f x]).length + ((xs.drop (j + 1)).map f).length ≤ 100000 := by simp; omega
  have hi1 : i + 1 = ((j + 1 : Nat) : Int) := by omega
  have c : bin addD (varP 1) (cst (.int 1)) [sl (.lst (xs.map f)), sl (.int i), sl (f x)] = some (0, .int (i + 1)) := rfl
  have t1 : cutP (varP 0) noO (ofO (varP 1)) [sl (.lst (xs.map f)), sl (.int i), sl (f x)] = some (0, .lst ((xs.take j).map f)) := by
    simp only [cutP, v0, v1, noO, ofO, Option.bind_some, cut_take f xs hi, Nat.zero_le, if_true]
  have t2 : cutP (varP 0) (ofO (bin addD (varP 1) (cst (.int 1)))) noO [sl (.lst (xs.map f)), sl (.int i), sl (f x)] = some (0, .lst ((xs.drop (j + 1)).map f)) := by
    simp only [cutP, v0, c, noO, ofO, Option.bind_some, cut_drop f xs hi1, Nat.zero_le, if_true]
  have t3 : (fun ρ => ((small (kept (aCons (varP 2) aNil))) ρ).map fun ds => ((0 : Nat), D.lst ds)) [sl (.lst (xs.map f)), sl (.int i), sl (f x)] = some (0, .lst [f x]) := rfl
  refine (ev_bin (ev_bin t1 t3 (add_lst (b := [f x]) h1)) t2 (add_lst h2)).trans ?_
  simp [put]
theorem put_len {α : Type} {xs : List α} {i : Nat} {x : α} (h : i < xs.length) : (put xs i x).length = xs.length := by
  simp [put]
  omega
theorem put_mem {α : Type} {xs : List α} {i : Nat} {x y : α} (h : y ∈ put xs i x) : y ∈ xs ∨ y = x := by
  simp only [put, List.mem_append, List.mem_singleton] at h
  rcases h with (h | h) | h
  · exact .inl (List.mem_of_mem_take h)
  · exact .inr h
  · exact .inl (List.mem_of_mem_drop h)
/-- a drawn row -/
theorem e_free {names : List Str} {draw : Int} (hl : names.length ≤ 1000) : ∃ r, F_law_free_row [(0, LS names), (0, .int draw)] = some (LS r) ∧ r.Sublist names := by
  suffices h : ∃ d, F_law_free_row [(0, LS names), (0, .int draw)] = some d ∧ ∃ r, d = LS r ∧ r.Sublist names by
    obtain ⟨d, e, r, rfl, h⟩ := h
    exact ⟨r, e, h⟩
  refine run_wp rfl ?_
  show Wp _ _ (seqS _ _ [sl (LS names), sl (.int draw), none, none, none])
  refine wp_seq (wp_setO (d := .lst []) rfl (by simp) ?_)
  show Wp _ _ (seqS _ _ [sl (LS names), sl (.int draw), some ⟨true, 1, .lst []⟩, none, none])
  refine wp_seq (wp_set (d := .int draw) rfl (by simp) ?_)
  show Wp _ _ (seqS _ _ [sl (LS names), sl (.int draw), some ⟨true, 1, .lst []⟩, sl (.int draw), none])
  refine wp_seq (wp_for (ds := names.map .str) (ev_any rfl) (fun i ρ => ∃ r dg a, ρ = [sl (LS names), sl (.int draw), some ⟨true, 1, LS r⟩, sl (.int dg), a] ∧ r.Sublist (names.take i)) ⟨[], draw, none, rfl, List.nil_sublist _⟩ (fun i dd ρ hd ⟨r, dg, a, hρ, hs⟩ => ?_) fun ρ' ⟨r, dg, a, hρ, hs⟩ => ?_)
  · subst hρ
    rw [List.getElem?_map] at hd
    obtain ⟨name, hname, rfl⟩ := Option.map_eq_some_iff.mp hd
    have hi := (List.getElem?_eq_some_iff.mp hname).1
    have hrl : r.length ≤ i := by
      have := hs.length_le
      rw [List.length_take] at this
      omega
    refine ⟨_, rfl, ?_⟩
    unfold l_law_free_row_1
    refine wp_seq (wp_ite (b := decide (dg % 2 = 1)) (ev_c2 (n := 0) (m := 0) (x := .int (dg % 2)) (y := .int 1) rfl rfl (eq_int _ _)) (fun hb => ?_) fun hb => ?_)
    · refine wp_app (m := 0) (ds := r.map .str) (d := .str name) rfl (by rw [List.length_map]; omega) rfl (wp_set (d := .int (dg / 2)) rfl (by simp) ⟨r ++ [name], dg / 2, sl (.str name), ?_, ?_⟩)
      · unfold LS
        rw [List.map_append]
        rfl
      · rw [List.take_add_one, hname]
        exact hs.append (List.Sublist.refl _)
    · refine wp_sk (wp_set (d := .int (dg / 2)) rfl (by simp) ⟨r, dg / 2, sl (.str name), rfl, ?_⟩)
      rw [List.take_add_one, hname]
      exact hs.trans (List.sublist_append_left _ _)
  · subst hρ
    rw [List.length_map, List.take_length] at hs
    exact wp_frz (n := 1) (d := LS r) rfl (wp_ret0 (d := LS r) rfl ⟨r, rfl, hs⟩)
end Gn

set_option Elab.async false
set_option linter.all false
set_option maxRecDepth 100000
set_option maxHeartbeats 2000000
/-! k44: the order, the turned bar -/
namespace Gn
open PySem Iv Pl
theorem ev_intI {fa : Pk} {ρ : Rho} {n : Nat} {i : Int} (e : fa ρ = some (n, .int i)) : callP (c1 intD) (aCons fa aNil) ρ = some (0, .int i) := by
  simp only [callP, aCons, aNil, e, Option.bind_some, Option.map_some, c1, intD]
theorem ev_mod {fa fb : Pk} {ρ : Rho} {a b : Int} (e1 : fa ρ = some (0, .int a)) (e2 : fb ρ = some (0, .int b)) (h : 0 < b) : bin modD fa fb ρ = some (0, .int (a % b)) :=
  ev_bin e1 e2 (by simp only [modD, h, if_true])
theorem ev_div {fa fb : Pk} {ρ : Rho} {a b : Int} (e1 : fa ρ = some (0, .int a)) (e2 : fb ρ = some (0, .int b)) (h : 0 < b ∧ b < 1073741824) : bin divD fa fb ρ = some (0, .int (a / b)) :=
  ev_bin e1 e2 (by simp only [divD, h, and_self, if_true])
theorem ev_mul {fa fb : Pk} {ρ : Rho} {a b : Int} (e1 : fa ρ = some (0, .int a)) (e2 : fb ρ = some (0, .int b)) (h : -1000000 ≤ b ∧ b ≤ 1000000) : bin mulD fa fb ρ = some (0, .int (a * b)) :=
  ev_bin e1 e2 (by
    have h1 : -(2 ^ 64) < b ∧ b < 2 ^ 64 := by omega
    simp only [mulD, h1, and_self, or_true, if_true])
theorem ev_adI {fa fb : Pk} {ρ : Rho} {a b : Int} (e1 : fa ρ = some (0, .int a)) (e2 : fb ρ = some (0, .int b)) : bin addD fa fb ρ = some (0, .int (a + b)) := ev_bin e1 e2 rfl
theorem ev_sbI {fa fb : Pk} {ρ : Rho} {a b : Int} (e1 : fa ρ = some (0, .int a)) (e2 : fb ρ = some (0, .int b)) : bin subD fa fb ρ = some (0, .int (a - b)) := ev_bin e1 e2 rfl
theorem ev_cutTake {α : Type} (f : α → D) {fa fi : Pk} {ρ : Rho} {xs : List α} {i : Int} {j m : Nat} (e1 : fa ρ = some (0, .lst (xs.map f))) (e2 : fi ρ = some (m, .int i)) (hi : i = j) : cutP fa noO (ofO fi) ρ = some (0, .lst ((xs.take j).map f)) := by
  simp only [cutP, e1, e2, noO, ofO, Option.bind_some, cut_take f xs hi, Nat.zero_le, if_true]
theorem ev_cutDrop {α : Type} (f : α → D) {fa fi : Pk} {ρ : Rho} {xs : List α} {i : Int} {j m : Nat} (e1 : fa ρ = some (0, .lst (xs.map f))) (e2 : fi ρ = some (m, .int i)) (hi : i = j) : cutP fa (ofO fi) noO ρ = some (0, .lst ((xs.drop j).map f)) := by
  simp only [cutP, e1, e2, noO, ofO, Option.bind_some, cut_drop f xs hi, Nat.zero_le, if_true]
theorem ev_lenI {fa : Pk} {ρ : Rho} {n : Nat} {α : Type} {f : α → D} {xs : List α} (e : fa ρ = some (n, .lst (xs.map f))) : callP (c1 lenD) (aCons fa aNil) ρ = some (0, .int xs.length) := by
  rw [ev_len e, List.length_map]
theorem nat_mod {a : Int} {n : Nat} (h : 0 < n) : ∃ p : Nat, a % (n : Int) = p ∧ p < n := by
  have h1 := Int.emod_nonneg a (b := (n : Int)) (by omega)
  have h2 := Int.emod_lt_of_pos a (b := (n : Int)) (by omega)
  exact ⟨(a % (n : Int)).toNat, by omega, by omega⟩
theorem split_at {α : Type} {xs : List α} {p : Nat} {x : α} (h : xs[p]? = some x) : xs = xs.take p ++ x :: xs.drop (p + 1) := by
  obtain ⟨hp, rfl⟩ := List.getElem?_eq_some_iff.mp h
  rw [← List.drop_eq_getElem_cons hp, List.take_append_drop]
theorem e_order {names : List Str} {pool : List Int} {start : Int} {s : Nat} (hs : start = s) (hl : names.length ≤ 1000) (hp : s + names.length ≤ pool.length) : ∃ os, F_law_order [(0, LS names), (0, LI pool), (0, .int start)] = some (LS os) ∧ os.Perm names := by
  suffices h : ∃ d, F_law_order [(0, LS names), (0, LI pool), (0, .int start)] = some d ∧ ∃ os, d = LS os ∧ os.Perm names by
    obtain ⟨d, e, os, rfl, h⟩ := h
    exact ⟨os, e, h⟩
  refine run_wp rfl ?_
  show Wp _ _ (seqS _ _ [sl (LS names), sl (LI pool), sl (.int start), none, none, none, none])
  refine wp_seq (wp_set (d := LS names) rfl (by simp) ?_)
  show Wp _ _ (seqS _ _ [sl (LS names), sl (LI pool), sl (.int start), sl (LS names), none, none, none])
  refine wp_seq (wp_setO (d := .lst []) rfl (by simp) ?_)
  show Wp _ _ (seqS _ _ [sl (LS names), sl (LI pool), sl (.int start), sl (LS names), some ⟨true, 1, .lst []⟩, none, none])
  refine wp_seq (wp_for (rng_I (n := names.length) (m := 0) (by exact ev_lenI (f := D.str) (xs := names) rfl) (by omega)) (fun i ρ => ∃ left os a b, ρ = [sl (LS names), sl (LI pool), sl (.int start), sl (LS left), some ⟨true, 1, LS os⟩, a, b] ∧ (os ++ left).Perm names ∧ os.length = i) ⟨names, [], none, none, rfl, List.Perm.refl _, rfl⟩ (fun i dd ρ hd ⟨left, os, a, b, hρ, hpm, hol⟩ => ?_) fun ρ' ⟨left, os, a, b, hρ, hpm, hol⟩ => ?_)
  · subst hρ
    obtain ⟨hi, rfl⟩ := at_rng hd
    have hll := hpm.length_eq
    rw [List.length_append] at hll
    have gp : pool[s + i]? = some (pool.getD (s + i) 0) := get_some _ _ _ (by omega)
    obtain ⟨p, hp1, hp2⟩ := nat_mod (a := pool.getD (s + i) 0) (n := left.length) (by omega)
    have gl : left[p]? = some (left.getD p e0) := get_some _ _ _ hp2
    have hsp := split_at gl
    refine ⟨_, rfl, ?_⟩
    unfold l_law_order_1
    refine wp_seq (wp_set (d := .int p) ?_ (by simp) ?_)
    · rw [← hp1]
      exact ev_k0 (ev_mod (ev_intI (n := 0) (ev_ix D.int (n := 0) (m := 0) (i := start + i) (j := s + i) rfl rfl (by omega) gp)) (ev_lenI (n := 0) (f := D.str) (xs := left) rfl) (by omega))
    show Wp _ _ (seqS _ _ [sl (LS names), sl (LI pool), sl (.int start), sl (LS left), some ⟨true, 1, LS os⟩, sl (.int i), sl (.int p)])
    refine wp_seq (wp_app (m := 0) (ds := os.map .str) (d := .str (left.getD p e0)) rfl (by rw [List.length_map]; omega) (ev_k0 (ev_ix D.str (n := 0) (m := 0) (i := p) (j := p) rfl rfl rfl gl)) ?_)
    have t1 := ev_bin (ρ := [sl (LS names), sl (LI pool), sl (.int start), sl (LS left), some ⟨true, 0 + 1, .lst (os.map .str ++ [.str (left.getD p e0)])⟩, sl (.int i), sl (.int p)]) (ev_cutTake D.str (fa := varP 3) (fi := varP 6) (m := 0) (xs := left) (i := p) (j := p) rfl rfl rfl) (ev_cutDrop D.str (fa := varP 3) (fi := bin addD (varP 6) (cst (.int 1))) (m := 0) (xs := left) (i := (p : Int) + 1) (j := p + 1) rfl rfl (by omega)) (add_lst (by simp; omega))
    refine wp_set (ev_k0 t1) (by simp) ⟨left.take p ++ left.drop (p + 1), os ++ [left.getD p e0], sl (.int i), sl (.int p), ?_, ?_, by simp [hol]⟩
    · rw [← List.map_append]
      unfold LS
      rw [List.map_append (l₁ := os)]
      rfl
    · refine List.Perm.trans ?_ hpm
      conv => rhs; rw [hsp]
      rw [List.append_assoc]
      rw [List.singleton_append]
      exact List.Perm.append_left _ List.perm_middle.symm
  · subst hρ
    rw [List.length_map, List.length_range] at hol
    have hll := hpm.length_eq
    rw [List.length_append] at hll
    have : left = [] := List.eq_nil_of_length_eq_zero (by omega)
    subst this
    rw [List.append_nil] at hpm
    exact wp_frz (n := 1) (d := LS os) rfl (wp_ret0 (d := LS os) rfl ⟨os, rfl, hpm⟩)
def rot {α : Type} (s : Nat) (xs : List α) : List α := xs.drop s ++ xs.take s
theorem rot_len {α : Type} (s : Nat) (xs : List α) : (rot s xs).length = xs.length := by
  simp [rot]
  omega
theorem ev_rot {α : Type} (f : α → D) {fa fi : Pk} {ρ : Rho} {xs : List α} {i : Int} {j m : Nat} (e1 : fa ρ = some (0, .lst (xs.map f))) (e2 : fi ρ = some (m, .int i)) (hi : i = j) (hl : xs.length ≤ 1000) : bin addD (cutP fa (ofO fi) noO) (cutP fa noO (ofO fi)) ρ = some (0, .lst ((rot j xs).map f)) := by
  refine (ev_bin (ev_cutDrop f e1 e2 hi) (ev_cutTake f e1 e2 hi) (add_lst (by simp; omega))).trans ?_
  simp [rot]
theorem ev_rev {α : Type} (f : α → D) {fa : Pk} {ρ : Rho} {xs : List α} {n : Nat} (e1 : fa ρ = some (n, .lst (xs.map f))) (hn : n ≤ 1) : (fun ρ => (revN fa ρ).map fun ds => ((0 : Nat), D.lst ds)) ρ = some (0, .lst (xs.reverse.map f)) := by
  simp only [revN, e1, Option.bind_some, hn, if_true, Option.map_some, List.map_reverse]
/-- the bar, turned -/
structure Turned (kind : Str) (nums : List Int) (cols : List Str) (nums' : List Int) (cols' : List Str) : Prop where
  crowd : kind = "crowd" → ∃ s c, s < nums.length ∧ nums' = rot s nums ∧ (cols' = rot c cols ∨ cols' = (rot c cols).reverse)
  ring : kind ≠ "crowd" → ∃ s, s < nums.length ∧ ((nums' = rot s nums ∧ cols' = rot s cols) ∨ (nums' = (rot s nums).reverse ∧ cols' = (rot s cols).take 1 ++ ((rot s cols).drop 1).reverse))
theorem e_turned {kind : Str} {nums : List Int} {cols : List Str} {rows : List (List Str)} {draw : Int} (hk : PyData.strOk kind = true) (h0 : 0 < nums.length) (hn : nums.length ≤ 1000) (hc : cols.length ≤ 1000) :
    ∃ nums' cols', F_law_turned [(0, .lst [.str kind, LI nums, LS cols, LL rows]), (0, .int draw)] = some (.lst [.str kind, LI nums', LS cols']) ∧ Turned kind nums cols nums' cols' := by
  suffices h : ∃ d, F_law_turned [(0, .lst [.str kind, LI nums, LS cols, LL rows]), (0, .int draw)] = some d ∧ ∃ nums' cols', d = .lst [.str kind, LI nums', LS cols'] ∧ Turned kind nums cols nums' cols' by
    obtain ⟨d, e, a, b, rfl, h⟩ := h
    exact ⟨a, b, e, h⟩
  refine run_wp rfl ?_
  show Wp _ _ (seqS _ _ [sl (.lst [.str kind, LI nums, LS cols, LL rows]), sl (.int draw), none, none, none, none, none])
  refine wp_seq (wp_set (d := .str kind) rfl (by simp) ?_)
  refine wp_seq (wp_set (d := LI nums) rfl (by simp) ?_)
  refine wp_seq (wp_set (d := LS cols) rfl (by simp) ?_)
  show Wp _ _ (seqS _ _ [sl (.lst [.str kind, LI nums, LS cols, LL rows]), sl (.int draw), sl (.str kind), sl (LI nums), sl (LS cols), none, none])
  obtain ⟨s, hs1, hs2⟩ := nat_mod (a := draw) (n := nums.length) h0
  refine wp_seq (wp_set (d := .int s) ?_ (by simp) ?_)
  · rw [← hs1]
    exact ev_k0 (ev_mod (ev_intI (n := 0) rfl) (ev_lenI (n := 0) (f := D.int) (xs := nums) rfl) (by omega))
  show Wp _ _ (seqS _ _ [sl (.lst [.str kind, LI nums, LS cols, LL rows]), sl (.int draw), sl (.str kind), sl (LI nums), sl (LS cols), sl (.int s), none])
  refine wp_seq (wp_ite (b := decide (kind = "crowd")) (ev_c2 (n := 0) (m := 0) (x := .str kind) rfl rfl (eq_str hk okCrowd)) (fun hb => ?_) fun hb => ?_)
  · have hb := of_decide_eq_true hb
    obtain ⟨c, hc1, hc2⟩ := nat_mod (a := draw / 13) (n := 3) (by omega)
    refine wp_seq (wp_set (d := .int c) ?_ (by simp) ?_)
    · rw [← hc1]
      exact ev_k0 (ev_mod (ev_intI (n := 0) (ev_div (a := draw) (b := 13) rfl rfl (by omega))) rfl (by omega))
    show Wp _ _ (seqS _ _ [sl (.lst [.str kind, LI nums, LS cols, LL rows]), sl (.int draw), sl (.str kind), sl (LI nums), sl (LS cols), sl (.int s), sl (.int c)])
    refine wp_seq (wp_set (d := LI (rot s nums)) (ev_k0 (ev_rot D.int (m := 0) (i := s) rfl rfl rfl hn)) (by simp) ?_)
    show Wp _ _ (seqS _ _ [sl (.lst [.str kind, LI nums, LS cols, LL rows]), sl (.int draw), sl (.str kind), sl (LI (rot s nums)), sl (LS cols), sl (.int s), sl (.int c)])
    refine wp_seq (wp_set (d := LS (rot c cols)) (ev_k0 (ev_rot D.str (m := 0) (i := c) rfl rfl rfl hc)) (by simp) ?_)
    show Wp _ _ (seqS _ _ [sl (.lst [.str kind, LI nums, LS cols, LL rows]), sl (.int draw), sl (.str kind), sl (LI (rot s nums)), sl (LS (rot c cols)), sl (.int s), sl (.int c)])
    refine wp_seq (wp_ite (b := decide (draw / 39 % 2 = 0)) (ev_c2 (ev_mod (ev_intI (n := 0) (ev_div (a := draw) (b := 39) rfl rfl (by omega))) (b := 2) rfl (by omega)) (m := 0) (y := .int 0) rfl (eq_int _ _)) (fun hb2 => ?_) fun hb2 => wp_sk ?_)
    · refine wp_set (d := LS (rot c cols).reverse) (ev_k0 (ev_rev D.str (n := 0) rfl (by omega))) (by simp) ?_
      exact wp_ret0 (d := .lst [.str kind, LI (rot s nums), LS (rot c cols).reverse]) rfl ⟨_, _, rfl, fun _ => ⟨s, c, hs2, rfl, .inr rfl⟩, fun z => absurd hb z⟩
    · exact wp_ret0 (d := .lst [.str kind, LI (rot s nums), LS (rot c cols)]) rfl ⟨_, _, rfl, fun _ => ⟨s, c, hs2, rfl, .inl rfl⟩, fun z => absurd hb z⟩
  · have hb := of_decide_eq_false hb
    refine wp_sk (wp_seq (wp_set (d := LI (rot s nums)) (ev_k0 (ev_rot D.int (m := 0) (i := s) rfl rfl rfl hn)) (by simp) ?_))
    show Wp _ _ (seqS _ _ [sl (.lst [.str kind, LI nums, LS cols, LL rows]), sl (.int draw), sl (.str kind), sl (LI (rot s nums)), sl (LS cols), sl (.int s), none])
    refine wp_seq (wp_set (d := LS (rot s cols)) (ev_k0 (ev_rot D.str (m := 0) (i := s) rfl rfl rfl hc)) (by simp) ?_)
    show Wp _ _ (seqS _ _ [sl (.lst [.str kind, LI nums, LS cols, LL rows]), sl (.int draw), sl (.str kind), sl (LI (rot s nums)), sl (LS (rot s cols)), sl (.int s), none])
    refine wp_seq (wp_ite (b := decide (draw / 13 % 2 = 0)) (ev_c2 (ev_mod (ev_intI (n := 0) (ev_div (a := draw) (b := 13) rfl rfl (by omega))) (b := 2) rfl (by omega)) (m := 0) (y := .int 0) rfl (eq_int _ _)) (fun hb2 => ?_) fun hb2 => wp_sk ?_)
    · refine wp_seq (wp_set (d := LI (rot s nums).reverse) (ev_k0 (ev_rev D.int (n := 0) rfl (by omega))) (by simp) ?_)
      show Wp _ _ (setS _ _ [sl (.lst [.str kind, LI nums, LS cols, LL rows]), sl (.int draw), sl (.str kind), sl (LI (rot s nums).reverse), sl (LS (rot s cols)), sl (.int s), none])
      have hrl := rot_len s cols
      have t := ev_bin (fb := fun ρ => (revN (cutP (varP 4) (ofO (cst (.int 1))) noO) ρ).map fun ds => ((0 : Nat), D.lst ds)) (ρ := [sl (.lst [.str kind, LI nums, LS cols, LL rows]), sl (.int draw), sl (.str kind), sl (LI (rot s nums).reverse), sl (LS (rot s cols)), sl (.int s), none]) (ev_cutTake D.str (fa := varP 4) (fi := cst (.int 1)) (m := 0) (xs := rot s cols) (i := 1) (j := 1) rfl rfl rfl) (ev_rev D.str (n := 0) (fa := cutP (varP 4) (ofO (cst (.int 1))) noO) (ev_cutDrop D.str (m := 0) (xs := rot s cols) (i := 1) (j := 1) rfl rfl rfl) (by omega)) (add_lst (a := ((rot s cols).take 1).map .str) (b := ((rot s cols).drop 1).reverse.map .str) (by simp; omega))
      refine wp_set (d := LS ((rot s cols).take 1 ++ ((rot s cols).drop 1).reverse)) (ev_k0 (t.trans (by rw [← List.map_append]))) (by simp) ?_
      exact wp_ret0 (d := .lst [.str kind, LI (rot s nums).reverse, LS ((rot s cols).take 1 ++ ((rot s cols).drop 1).reverse)]) rfl ⟨_, _, rfl, fun z => absurd z hb, fun _ => ⟨s, hs2, .inr ⟨rfl, rfl⟩⟩⟩
    · exact wp_ret0 (d := .lst [.str kind, LI (rot s nums), LS (rot s cols)]) rfl ⟨_, _, rfl, fun z => absurd z hb, fun _ => ⟨s, hs2, .inl ⟨rfl, rfl⟩⟩⟩
end Gn

set_option Elab.async false
set_option linter.all false
set_option maxRecDepth 100000
set_option maxHeartbeats 2000000
/-! k44: bars compared, kept -/
namespace Gn
open PySem Iv Pl
theorem e_num (k : Int) (h : -999 ≤ k ∧ k ≤ 999) : F_law_is_number [(0, .int k), (0, .int (-999)), (0, .int 999)] = some (.bl true) := by
  refine run_eq rfl ?_
  have h1 : decide ((-999 : Int) ≤ k) = true := decide_eq_true h.1
  have h2 : decide (k ≤ (999 : Int)) = true := decide_eq_true h.2
  refine wp_ret0 (d := .bl true) (ev_k0 ?_) rfl
  show (andP (una (isiD "int") (varP 0)) (andP (una notD (una (isiD "bool") (varP 0))) (andP (blP (cmp leC (varP 1) (varP 0))) (blP (cmp leC (varP 0) (varP 2)))))) [sl (.int k), sl (.int (-999)), sl (.int 999)] = _
  have a1 : blP (cmp leC (varP 1) (varP 0)) [sl (.int k), sl (.int (-999)), sl (.int 999)] = some (0, .bl (decide ((-999 : Int) ≤ k))) := rfl
  have a2 : blP (cmp leC (varP 0) (varP 2)) [sl (.int k), sl (.int (-999)), sl (.int 999)] = some (0, .bl (decide (k ≤ (999 : Int)))) := rfl
  have a3 : una (isiD "int") (varP 0) [sl (.int k), sl (.int (-999)), sl (.int 999)] = some (0, .bl true) := rfl
  have a4 : una notD (una (isiD "bool") (varP 0)) [sl (.int k), sl (.int (-999)), sl (.int 999)] = some (0, .bl true) := rfl
  rw [h1] at a1
  rw [h2] at a2
  simp only [andP, asB, a1, a2, a3, a4, Option.bind_some, if_true]
/-- a bar's data fit to be compared -/
structure Fit (kind : Str) (cols : List Str) : Prop where
  k : PyData.strOk kind = true
  c : ∀ c ∈ cols, PyData.strOk c = true
theorem ev_andB {f g : Pk} {ρ : Rho} {a b : Bool} (e1 : f ρ = some (0, .bl a)) (e2 : g ρ = some (0, .bl b)) : andP f g ρ = some (0, .bl (a && b)) := by
  simp only [andP, asB, e1, Option.bind_some]
  cases a with
  | true => simpa using e2
  | false => rfl
theorem ev_blP {t : Rho → Option Bool} {ρ : Rho} {b : Bool} (e : t ρ = some b) : blP t ρ = some (0, .bl b) := by
  simp only [blP, e, Option.map_some]
theorem e_bareq {l1 l2 : Nat} {k1 k2 : Str} {n1 n2 : List Int} {c1 c2 : List Str} (h1 : Fit k1 c1) (h2 : Fit k2 c2) : F_Bar_eq [(l1, Br k1 n1 c1), (l2, Br k2 n2 c2)] = some (.bl (decide (k1 = k2) && (decide (n1 = n2) && decide (c1 = c2)))) := by
  refine run_eq rfl ?_
  have q0 : varP 0 [some ⟨false, l1, Br k1 n1 c1⟩, some ⟨false, l2, Br k2 n2 c2⟩] = some (l1, Br k1 n1 c1) := rfl
  have q1 : varP 1 [some ⟨false, l1, Br k1 n1 c1⟩, some ⟨false, l2, Br k2 n2 c2⟩] = some (l2, Br k2 n2 c2) := rfl
  show Wp _ _ (seqS _ _ [some ⟨false, l1, Br k1 n1 c1⟩, some ⟨false, l2, Br k2 n2 c2⟩])
  refine wp_seq (wp_ite (b := false) (ev_not (b := true) (ev_asB (n := 0) ?_)) (fun hb => by cases hb) fun _ => wp_sk ?_)
  · simp only [una, q1, Option.bind_some, isoD, if_true, Option.map_some]
  · exact wp_ret0 (ev_k0 (ev_andB (ev_blP (ev_c2 (fB_kind q0) (fB_kind q1) (eq_str h1.k h2.k))) (ev_andB (ev_blP (ev_c2 (fB_rows q0) (fB_rows q1) (eq_tupI n1 n2))) (ev_blP (ev_c2 (fB_cols q0) (fB_cols q1) (eq_tupS h1.c h2.c)))))) rfl
theorem own_bar {k1 k2 : Str} {n1 n2 : List Int} {c1 c2 : List Str} (h1 : Fit k1 c1) (h2 : Fit k2 c2) : ownD "Bar" F_Bar_eq (Br k1 n1 c1) (Br k2 n2 c2) = some (decide (k1 = k2) && (decide (n1 = n2) && decide (c1 = c2))) := by
  simp only [ownD, and_self, if_true, e_bareq h1 h2]
theorem e_told {b c : Bool} : F_law_is_told [(0, .bl b), (0, .bl c)] = some (.bl (decide (b = c))) := by
  cases b <;> cases c <;> rfl
theorem okS : PyData.strOk "s" = true := by decide +kernel
theorem okZ : PyData.strOk "zzzzzzzz" = true := by decide +kernel
theorem okZZ : PyData.strOk "zz" = true := by decide +kernel
theorem lenS1 : ("s" : Str).length = 1 := by decide +kernel
theorem app_len (a b : Str) : (a ++ b).length = a.length + b.length := by
  show (a.cps ++ b.cps).size = _
  rw [Array.size_append]
  rfl
theorem app_ok {a b : Str} (ha : PyData.strOk a = true) (hb : PyData.strOk b = true) : PyData.strOk (a ++ b) = true := by
  show (a.cps ++ b.cps).all _ = true
  rw [Array.all_append]
  simp only [PyData.strOk] at ha hb
  rw [ha, hb]
  rfl
theorem ne_app (a b : Str) (h : b.length ≠ 0) : a ≠ a ++ b := fun z => by
  have := congrArg Str.length z
  rw [app_len] at this
  omega
theorem ev_lstN {α : Type} (f : α → D) {fa : Pk} {ρ : Rho} {n : Nat} {xs : List α} (e : fa ρ = some (n, .lst (xs.map f))) (hn : n ≤ 1) : callN lstD (aCons fa aNil) ρ = some (xs.map f) := by
  simp only [callN, aCons, aNil, e, Option.bind_some, Option.map_some, lstD, hn, if_true]
theorem ev_lstT {α : Type} (f : α → D) {fa : Pk} {ρ : Rho} {n : Nat} {xs : List α} (e : fa ρ = some (n, .tup (xs.map f))) : callN lstD (aCons fa aNil) ρ = some (xs.map f) := by
  simp only [callN, aCons, aNil, e, Option.bind_some, Option.map_some, lstD]
end Gn

set_option Elab.async false
set_option linter.all false
set_option maxRecDepth 100000
set_option maxHeartbeats 4000000
/-! k44: _law_kept -/
namespace Gn
open PySem Iv Pl
theorem ev_own {fa fb : Pk} {ρ : Rho} {n m : Nat} {k1 k2 : Str} {n1 n2 : List Int} {c1 c2 : List Str} (e1 : fa ρ = some (n, Br k1 n1 c1)) (e2 : fb ρ = some (m, Br k2 n2 c2)) (h1 : Fit k1 c1) (h2 : Fit k2 c2) : cmp (ownD "Bar" F_Bar_eq) fa fb ρ = some (decide (k1 = k2) && (decide (n1 = n2) && decide (c1 = c2))) :=
  ev_c2 e1 e2 (own_bar h1 h2)
theorem ev_bar {f0 f1 f2 : Pk} {ρ : Rho} {kind : Str} {nums : List Int} {cols : List Str} {n2 n3 : Nat} {d2 d3 : D} (e0 : f0 ρ = some (0, .str kind)) (e1 : f1 ρ = some (n2, d2)) (e2 : f2 ρ = some (n3, d3)) (h2 : tupD [(n2, d2)] = some (TI nums)) (h3 : tupD [(n3, d3)] = some (TS cols)) :
    callG F_Bar_init (aCons f0 (aCons f1 (aCons f2 aNil))) ρ = some (Br kind nums cols) := by
  simp only [callG, aCons, aNil, e0, e1, e2, Option.bind_some, Option.map_some, e_bar h2 h3]
theorem ev_frP {f : Rho → Option D} {ρ : Rho} {d : D} (e : f ρ = some d) : frP f ρ = some (0, d) := by
  simp only [frP, e, Option.map_some]
theorem mapL {g : Rho → Option (List D)} {ρ : Rho} {xs : List D} (e : g ρ = some xs) : (fun ρ => (g ρ).map fun ds => ((0 : Nat), D.lst ds)) ρ = some (0, .lst xs) := by
  simp only [e, Option.map_some]
abbrev lP (i : Nat) : Pk := fun ρ => ((callN lstD (aCons (varP i) aNil)) ρ).map fun ds => ((0 : Nat), D.lst ds)
abbrev zP : Pk := bin addD (varP 2) (fun ρ => ((small (kept (aCons (cst (.str "zz")) aNil))) ρ).map fun ds => ((0 : Nat), D.lst ds))
abbrev rP : Pk := bin addD (fun ρ => ((revN (varP 1)) ρ).map fun ds => ((0 : Nat), D.lst ds)) (fun ρ => ((small (kept (aCons (cst (.int 7)) aNil))) ρ).map fun ds => ((0 : Nat), D.lst ds))
theorem e_kept {kind : Str} {nums : List Int} {cols : List Str} (hf : Fit kind cols) (hkl : kind.length ≤ 1000) (hn : ∀ k ∈ nums, 0 ≤ k ∧ k ≤ 999) (hm : nums.length ≤ 1000) (hc : cols.length ≤ 1000) : F_law_kept [(0, .str kind), (0, LI nums), (0, LS cols)] = some (.bl true) := by
  refine run_eq rfl ?_
  show Wp _ _ (seqS _ _ [sl (.str kind), sl (LI nums), sl (LS cols), none, none, none, none])
  refine wp_seq (wp_setO (d := LI nums) rfl (by simp) ?_)
  refine wp_seq (wp_setO (d := LS cols) rfl (by simp) ?_)
  show Wp _ _ (seqS _ _ [sl (.str kind), sl (LI nums), sl (LS cols), some ⟨true, 1, LI nums⟩, some ⟨true, 1, LS cols⟩, none, none])
  refine wp_seq (wp_set (d := Br kind nums cols) (ev_bar rfl (n2 := 1) (d2 := LI nums) rfl (n3 := 1) (d3 := LS cols) rfl rfl rfl) (by simp) ?_)
  show Wp _ _ (seqS _ _ [sl (.str kind), sl (LI nums), sl (LS cols), some ⟨true, 1, LI nums⟩, some ⟨true, 1, LS cols⟩, sl (Br kind nums cols), none])
  refine wp_seq (wp_ite (b := decide (nums ≠ nums) || decide (cols ≠ cols)) (ev_or (ev_c2 (n := 1) (m := 0) (x := LI nums) (y := LI nums) rfl rfl (ne_lstI _ _)) fun _ => ev_c2 (n := 1) (m := 0) (x := LS cols) (y := LS cols) rfl rfl (ne_lstS hf.c hf.c)) (fun hb => by simp at hb) fun _ => wp_sk ?_)
  refine wp_seq (wp_app (m := 0) (ds := nums.map .int) (d := .int 99) rfl (by rw [List.length_map]; omega) rfl ?_)
  refine wp_seq (wp_app (m := 0) (ds := cols.map .str) (d := .str "zzzzzzzz") rfl (by rw [List.length_map]; omega) rfl ?_)
  generalize hA : (some (⟨true, 0 + 1, .lst (nums.map .int ++ [.int 99])⟩ : Sl)) = A
  generalize hB : (some (⟨true, 0 + 1, .lst (cols.map .str ++ [.str "zzzzzzzz"])⟩ : Sl)) = B
  have q5 : ∀ {C : Option Sl}, varP 5 [sl (.str kind), sl (LI nums), sl (LS cols), A, B, sl (Br kind nums cols), C] = some (0, Br kind nums cols) := rfl
  show Wp _ _ (seqS _ _ [sl (.str kind), sl (LI nums), sl (LS cols), A, B, sl (Br kind nums cols), none])
  refine wp_seq (wp_ite (b := false) (ev_or (a := false) (b := false) (ev_not (b := true) (ev_asB (n := 0) ?_)) fun _ => ev_or (a := false) (b := false) (ev_not (b := true) (ev_asB (n := 0) ?_)) fun _ => ev_not (b := true) (ev_asB (n := 0) ?_)) (fun hb => by cases hb) fun _ => wp_sk ?_)
  · unfold una
    rw [fB_rows q5]
    rfl
  · unfold una
    rw [fB_cols q5]
    rfl
  · unfold una
    rw [fB_kind q5]
    rfl
  refine wp_seq (wp_ite (b := decide (kind ≠ kind) || (decide (nums ≠ nums) || decide (cols ≠ cols))) (ev_or (ev_c2 (m := 0) (y := .str kind) (fB_kind q5) rfl (ne_str hf.k hf.k)) fun _ => ev_or (ev_c2 (n := 0) (m := 0) (x := LI nums) (y := LI nums) (mapL (ev_lstT D.int (fB_rows q5))) rfl (ne_lstI _ _)) fun _ => ev_c2 (n := 0) (m := 0) (x := LS cols) (y := LS cols) (mapL (ev_lstT D.str (fB_cols q5))) rfl (ne_lstS hf.c hf.c)) (fun hb => by simp at hb) fun _ => wp_sk ?_)
  refine wp_seq (wp_ite (b := decide ((0 : Int) < ((nums.filter fun _ => false).length : Int))) (ev_c2 (m := 0) (y := .int 0) (ev_lenG (ev_lc D.int (fun _ => false) D.int nums (ev_anyT (fB_rows q5)) (by omega) fun k hk => ⟨_, rfl, ev_not (b := true) (ev_asB (n := 0) (ev_frP ?_)), fun z => by cases z⟩)) rfl (by rw [List.length_map]; rfl)) (fun hb => by simp at hb) fun _ => wp_sk ?_)
  · have := hn k hk
    exact e_num k (by omega)
  refine wp_seq (wp_ite (b := false) (ev_not (b := true) ((ev_own (m := 0) q5 (ev_frP (ev_bar (kind := kind) (nums := nums) (cols := cols) rfl (n2 := 0) (d2 := TI nums) rfl (n3 := 0) (d3 := TS cols) rfl rfl rfl)) hf hf).trans (by simp))) (fun hb => by cases hb) fun _ => wp_sk ?_)
  have hs : kind ≠ kind ++ "s" := ne_app _ _ (by rw [lenS1]; decide)
  have fs : Fit (kind ++ "s") cols := ⟨app_ok hf.k okS, hf.c⟩
  have fz : Fit kind (cols ++ [("zz" : Str)]) := ⟨hf.k, fun c hc => by
    rcases List.mem_append.mp hc with z | z
    · exact hf.c c z
    · rw [List.mem_singleton.mp z]
      exact okZZ⟩
  have v0 : ∀ {C : Option Sl}, varP 0 [sl (.str kind), sl (LI nums), sl (LS cols), A, B, sl (Br kind nums cols), C] = some (0, .str kind) := rfl
  have v1 : ∀ {C : Option Sl}, varP 1 [sl (.str kind), sl (LI nums), sl (LS cols), A, B, sl (Br kind nums cols), C] = some (0, LI nums) := rfl
  have v2 : ∀ {C : Option Sl}, varP 2 [sl (.str kind), sl (LI nums), sl (LS cols), A, B, sl (Br kind nums cols), C] = some (0, LS cols) := rfl
  have ks : bin addD (varP 0) (cst (.str "s")) [sl (.str kind), sl (LI nums), sl (LS cols), A, B, sl (Br kind nums cols), none] = some (0, .str (kind ++ "s")) := ev_bin v0 rfl (by
    have : kind.length + ("s" : Str).length ≤ 100000 := by rw [lenS1]; omega
    simp only [addD, this, if_true])
  have l1 := mapL (ρ := [sl (.str kind), sl (LI nums), sl (LS cols), A, B, sl (Br kind nums cols), none]) (ev_lstN D.int (n := 0) v1 (by omega))
  have l2 := mapL (ρ := [sl (.str kind), sl (LI nums), sl (LS cols), A, B, sl (Br kind nums cols), none]) (ev_lstN D.str (n := 0) v2 (by omega))
  have n1 : bin addD (varP 1) (fun ρ => ((small (kept (aCons (cst (.int 1)) aNil))) ρ).map fun ds => ((0 : Nat), D.lst ds)) [sl (.str kind), sl (LI nums), sl (LS cols), A, B, sl (Br kind nums cols), none] = some (0, LI (nums ++ [1])) := (ev_bin v1 (y := .lst [.int 1]) rfl (add_lst (by simp; omega))).trans (by simp)
  have n2 : bin addD (varP 2) (fun ρ => ((small (kept (aCons (cst (.str "zz")) aNil))) ρ).map fun ds => ((0 : Nat), D.lst ds)) [sl (.str kind), sl (LI nums), sl (LS cols), A, B, sl (Br kind nums cols), none] = some (0, LS (cols ++ [("zz" : Str)])) := (ev_bin v2 (y := .lst [.str "zz"]) rfl (add_lst (by simp; omega))).trans (by simp)
  have n3 : bin addD (fun ρ => ((revN (varP 1)) ρ).map fun ds => ((0 : Nat), D.lst ds)) (fun ρ => ((small (kept (aCons (cst (.int 7)) aNil))) ρ).map fun ds => ((0 : Nat), D.lst ds)) [sl (.str kind), sl (LI nums), sl (LS cols), A, B, sl (Br kind nums cols), none] = some (0, LI (nums.reverse ++ [7])) := (ev_bin (ev_rev D.int (n := 0) v1 (by omega)) (y := .lst [.int 7]) rfl (add_lst (by simp; omega))).trans (by simp)
  refine wp_seq (wp_ite (b := false) (ev_or (a := false) (b := false) ((ev_own (m := 0) q5 (ev_frP (ev_bar (kind := kind ++ "s") (nums := nums) (cols := cols) ks l1 l2 rfl rfl)) hf fs).trans (by simp [hs])) fun _ => (ev_own (m := 0) q5 (ev_frP (ev_bar (kind := kind) (nums := nums ++ [1]) (cols := cols) v0 n1 l2 rfl rfl)) hf hf).trans (by simp)) (fun hb => by cases hb) fun _ => wp_sk ?_)
  have z1 := (ev_own (m := 0) q5 (ev_frP (ev_bar (kind := kind) (nums := nums) (cols := cols ++ [("zz" : Str)]) (f1 := lP 1) (f2 := zP) (n2 := 0) (d2 := LI nums) v0 l1 n2 rfl rfl)) hf fz).trans (show _ = some false by simp)
  have z2 := (ev_own (n := 0) (ev_frP (ev_bar (kind := kind) (nums := nums.reverse ++ [7]) (cols := cols) (f1 := rP) (f2 := lP 2) v0 n3 l2 rfl rfl)) (q5 (C := none)) hf hf).trans (show _ = some false by
    have : nums.reverse ++ [7] ≠ nums := fun z => by
      have := congrArg List.length z
      simp at this
    simp [this])
  refine wp_ret0 (d := .bl (true && true)) (ev_k0 (ev_andB ?_ ?_)) rfl
  · unfold una
    rw [ev_blP z1]
    rfl
  · unfold una
    rw [ev_blP z2]
    rfl
end Gn

set_option Elab.async false
set_option linter.all false
set_option maxRecDepth 100000
set_option maxHeartbeats 4000000
/-! k44: bars nearby -/
namespace Gn
open PySem Iv Pl
abbrev BarT : Type := Str × List Int × List Str
def encB (b : BarT) : D := .lst [.str b.1, LI b.2.1, LS b.2.2]
structure OkB (b : BarT) : Prop where
  k : PyData.strOk b.1 = true
  kl : b.1.length ≤ 1000
  n : b.2.1.length ≤ 100
  c : b.2.2.length ≤ 100
  cs : ∀ c ∈ b.2.2, PyData.strOk c = true
theorem ev_disp3 {f0 f1 f2 : Pk} {ρ : Rho} {x y z : D} (e0 : f0 ρ = some (0, x)) (e1 : f1 ρ = some (0, y)) (e2 : f2 ρ = some (0, z)) : keep0 (fun ρ => ((small (kept (aCons f0 (aCons f1 (aCons f2 aNil))))) ρ).map fun ds => ((0 : Nat), D.lst ds)) ρ = some (.lst [x, y, z]) := by
  simp only [keep0, small, kept, aCons, aNil, e0, e1, e2, Option.bind_some, Option.map_some]
  rfl
theorem ev_putI {fa fi fx : Pk} {ρ : Rho} {xs : List Int} {x : Int} {i : Nat} (ea : fa ρ = some (0, LI xs)) (ei : fi ρ = some (0, .int (i : Int))) (ex : fx ρ = some (0, .int x)) (hl : xs.length ≤ 1000) : frP (callG F_law_put (aCons fa (aCons fi (aCons fx aNil)))) ρ = some (0, LI (put xs i x)) := by
  simp only [frP, callG, aCons, aNil, ea, ei, ex, Option.bind_some, Option.map_some, e_put D.int rfl hl]
theorem ev_putS {fa fi fx : Pk} {ρ : Rho} {xs : List Str} {x : Str} {i : Nat} (ea : fa ρ = some (0, LS xs)) (ei : fi ρ = some (0, .int (i : Int))) (ex : fx ρ = some (0, .str x)) (hl : xs.length ≤ 1000) : frP (callG F_law_put (aCons fa (aCons fi (aCons fx aNil)))) ρ = some (0, LS (put xs i x)) := by
  simp only [frP, callG, aCons, aNil, ea, ei, ex, Option.bind_some, Option.map_some, e_put D.str rfl hl]
theorem ev_sng {fx : Pk} {ρ : Rho} {x : D} (ex : fx ρ = some (0, x)) : (fun ρ => ((small (kept (aCons fx aNil))) ρ).map fun ds => ((0 : Nat), D.lst ds)) ρ = some (0, .lst [x]) := by
  simp only [small, kept, aCons, aNil, ex, Option.bind_some, Option.map_some]
  rfl
theorem ev_sngL {fx : Pk} {ρ : Rho} {x : D} (ex : fx ρ = some (0, x)) : (fun ρ => ((small (kept (aCons fx aNil))) ρ).map fun ds => D.lst ds) ρ = some (.lst [x]) := by
  simp only [small, kept, aCons, aNil, ex, Option.bind_some, Option.map_some]
  rfl
theorem ev_sng3 {f0 f1 f2 : Pk} {ρ : Rho} {x y z : D} (e0 : f0 ρ = some (0, x)) (e1 : f1 ρ = some (0, y)) (e2 : f2 ρ = some (0, z)) : (fun ρ => ((small (kept (aCons (fun ρ => ((small (kept (aCons f0 (aCons f1 (aCons f2 aNil))))) ρ).map fun ds => ((0 : Nat), D.lst ds)) aNil))) ρ).map fun ds => D.lst ds) ρ = some (.lst [.lst [x, y, z]]) := by
  simp only [small, kept, aCons, aNil, e0, e1, e2, Option.bind_some, Option.map_some]
  rfl
theorem ev_addI {fa fx : Pk} {ρ : Rho} {xs : List Int} {x : Int} (ea : fa ρ = some (0, LI xs)) (ex : fx ρ = some (0, .int x)) (hl : xs.length ≤ 1000) : bin addD fa (fun ρ => ((small (kept (aCons fx aNil))) ρ).map fun ds => ((0 : Nat), D.lst ds)) ρ = some (0, LI (xs ++ [x])) :=
  (ev_bin ea (ev_sng ex) (add_lst (by simp; omega))).trans (by simp)
theorem ev_addS {fa fx : Pk} {ρ : Rho} {xs : List Str} {x : Str} (ea : fa ρ = some (0, LS xs)) (ex : fx ρ = some (0, .str x)) (hl : xs.length ≤ 1000) : bin addD fa (fun ρ => ((small (kept (aCons fx aNil))) ρ).map fun ds => ((0 : Nat), D.lst ds)) ρ = some (0, LS (xs ++ [x])) :=
  (ev_bin ea (ev_sng ex) (add_lst (by simp; omega))).trans (by simp)
theorem ev_init {α : Type} (f : α → D) {fa : Pk} {ρ : Rho} {xs : List α} (e1 : fa ρ = some (0, .lst (xs.map f))) : cutP fa noO (ofO (una negD (cst (.int 1)))) ρ = some (0, .lst ((xs.take (xs.length - 1)).map f)) := by
  have e2 : una negD (cst (.int 1)) ρ = some (0, .int (-1)) := rfl
  simp only [cutP, e1, e2, noO, ofO, Option.bind_some, cut_init f xs, Nat.zero_le, if_true]
section
variable {kind : Str} {nums : List Int} {cols names : List Str} {rows : List (List Str)} {draws : List Int} {i j a b : Nat} {name : Str} {number : Int}
abbrev ρn (kind : Str) (nums : List Int) (cols names : List Str) (rows : List (List Str)) (draws : List Int) (i j a b : Nat) (name : Str) (number : Int) (bars : List BarT) : Rho :=
  [sl (encB (kind, nums, cols)), sl (LS names), sl (LL rows), sl (LI draws), sl (.str kind), sl (LI nums), sl (LS cols), sl (.int i), sl (.int j), sl (.int a), sl (.int b), sl (.str name), sl (.int number), some ⟨true, 1, .lst (bars.map encB)⟩]
theorem near_app {Pn : Rho → Prop} {Pr : D → Prop} {g : Sm} {f0 f1 f2 : Pk} {bars : List BarT} {k' : Str} {ns' : List Int} {cs' : List Str} (h : ∀ b ∈ bars, OkB b) (hl : bars.length ≤ 1000)
    (e0 : f0 (ρn kind nums cols names rows draws i j a b name number bars) = some (0, .str k')) (e1 : f1 (ρn kind nums cols names rows draws i j a b name number bars) = some (0, LI ns')) (e2 : f2 (ρn kind nums cols names rows draws i j a b name number bars) = some (0, LS cs')) (ok : OkB (k', ns', cs'))
    (cont : ∀ bars' : List BarT, (∀ b ∈ bars', OkB b) → bars'.length = bars.length + 1 → Wp Pn Pr (g (ρn kind nums cols names rows draws i j a b name number bars'))) :
    Wp Pn Pr (seqS (appS 13 0 (keep0 (fun ρ => ((small (kept (aCons f0 (aCons f1 (aCons f2 aNil))))) ρ).map fun ds => ((0 : Nat), D.lst ds)))) g (ρn kind nums cols names rows draws i j a b name number bars)) := by
  refine wp_seq (wp_app (m := 0) (ds := bars.map encB) (d := .lst [.str k', LI ns', LS cs']) rfl (by rw [List.length_map]; omega) (ev_disp3 e0 e1 e2) ?_)
  have := cont (bars ++ [(k', ns', cs')]) (fun b hb => by
    rcases List.mem_append.mp hb with z | z
    · exact h b z
    · rw [List.mem_singleton.mp z]
      exact ok) (by simp)
  unfold ρn at this
  rw [List.map_append] at this
  exact this
end
theorem strs4 : ∀ x ∈ [("" : Str), "rings", "Ring", "crow"], PyData.strOk x = true ∧ x.length ≤ 1000 := by decide +kernel
theorem strs2 : ∀ x ∈ [("ring" : Str), "crowd"], PyData.strOk x = true ∧ x.length ≤ 1000 := by decide +kernel
def e0z : Str := Str.empty
section
variable {kind : Str} {nums : List Int} {cols names : List Str} {rows : List (List Str)} {draws : List Int}
theorem near_kind {hk : PyData.strOk kind = true} {ρ : Rho} (e : varP 4 ρ = some (0, .str kind)) : ∃ x ∈ [("ring" : Str), "crowd"], ixP (fun ρ => ((small (kept (aCons (cst (.str "ring")) (aCons (cst (.str "crowd")) aNil)))) ρ).map fun ds => ((0 : Nat), D.lst ds)) (callP (c1 intD) (aCons (blP (cmp eqC (varP 4) (cst (.str "ring")))) aNil)) ρ = some (0, .str x) := by
  have e1 : callP (c1 intD) (aCons (blP (cmp eqC (varP 4) (cst (.str "ring")))) aNil) ρ = some (0, .int (((if kind = "ring" then 1 else 0 : Nat)) : Int)) := by
    have q := ev_blP (ev_c2 (fb := cst (.str "ring")) (m := 0) e rfl (eq_str hk okRing))
    simp only [callP, aCons, aNil, q, Option.bind_some, Option.map_some, c1, intD]
    by_cases h : kind = "ring" <;> simp [h]
  have e0 : (fun ρ => ((small (kept (aCons (cst (.str "ring")) (aCons (cst (.str "crowd")) aNil)))) ρ).map fun ds => ((0 : Nat), D.lst ds)) ρ = some (0, .lst ([("ring" : Str), "crowd"].map D.str)) := rfl
  by_cases h : kind = "ring"
  · rw [if_pos h] at e1
    exact ⟨"crowd", by simp, ev_ix D.str (n := 0) (j := 1) e0 e1 rfl rfl⟩
  · rw [if_neg h] at e1
    exact ⟨"ring", by simp, ev_ix D.str (n := 0) (j := 0) e0 e1 rfl rfl⟩
theorem near_odd {ρ : Rho} {z : Int} (e : varP 3 ρ = some (0, LI draws)) (h6 : draws[6]? = some z) : ∃ x ∈ [("" : Str), "rings", "Ring", "crow"], ixP (fun ρ => ((small (kept (aCons (cst (.str "")) (aCons (cst (.str "rings")) (aCons (cst (.str "Ring")) (aCons (cst (.str "crow")) aNil)))))) ρ).map fun ds => ((0 : Nat), D.lst ds)) (bin modD (callP (c1 intD) (aCons (ixP (varP 3) (cst (.int 6))) aNil)) (cst (.int 4))) ρ = some (0, .str x) := by
  obtain ⟨p, hp1, hp2⟩ := nat_mod (a := z) (n := 4) (by omega)
  have e1 : bin modD (callP (c1 intD) (aCons (ixP (varP 3) (cst (.int 6))) aNil)) (cst (.int 4)) ρ = some (0, .int p) := by
    rw [← hp1]
    exact ev_mod (ev_intI (n := 0) (ev_ix D.int (n := 0) (m := 0) (i := 6) (j := 6) e rfl rfl h6)) rfl (by omega)
  have e0 : (fun ρ => ((small (kept (aCons (cst (.str "")) (aCons (cst (.str "rings")) (aCons (cst (.str "Ring")) (aCons (cst (.str "crow")) aNil)))))) ρ).map fun ds => ((0 : Nat), D.lst ds)) ρ = some (0, .lst ([("" : Str), "rings", "Ring", "crow"].map D.str)) := rfl
  have g : [("" : Str), "rings", "Ring", "crow"][p]? = some ([("" : Str), "rings", "Ring", "crow"].getD p e0z) := get_some _ _ _ hp2
  exact ⟨_, List.mem_of_getElem? g, ev_ix D.str (n := 0) (j := p) e0 e1 rfl g⟩
theorem e_near (hk : PyData.strOk kind = true) (hkl : kind.length ≤ 1000) (hn : 3 ≤ nums.length ∧ nums.length ≤ 50) (hc : 3 ≤ cols.length ∧ cols.length ≤ 50) (hcs : ∀ c ∈ cols, PyData.strOk c = true) (hnm : 1 ≤ names.length) (hns : ∀ c ∈ names, PyData.strOk c = true) (hr : 1 ≤ rows.length) (hd : 7 ≤ draws.length) :
    ∃ bars : List BarT, F_law_near [(0, encB (kind, nums, cols)), (0, LS names), (0, LL rows), (0, LI draws)] = some (.lst (bars.map encB)) ∧ ∀ b ∈ bars, OkB b := by
  suffices h : ∃ d, F_law_near [(0, encB (kind, nums, cols)), (0, LS names), (0, LL rows), (0, LI draws)] = some d ∧ ∃ bars : List BarT, d = .lst (bars.map encB) ∧ ∀ b ∈ bars, OkB b by
    obtain ⟨d, e, bars, rfl, h⟩ := h
    exact ⟨bars, e, h⟩
  have gd : ∀ q, q < 7 → draws[q]? = some (draws.getD q 0) := fun q h => get_some _ _ _ (by omega)
  obtain ⟨i, hi1, hi2⟩ := nat_mod (a := draws.getD 0 0) (n := nums.length) (by omega)
  obtain ⟨j, hj1, hj2⟩ := nat_mod (a := draws.getD 1 0) (n := nums.length) (by omega)
  obtain ⟨a, ha1, ha2⟩ := nat_mod (a := draws.getD 2 0) (n := cols.length) (by omega)
  obtain ⟨b, hb1, hb2⟩ := nat_mod (a := draws.getD 3 0) (n := cols.length) (by omega)
  obtain ⟨p, hp1, hp2⟩ := nat_mod (a := draws.getD 4 0) (n := names.length) (by omega)
  obtain ⟨r, hr1, hr2⟩ := nat_mod (a := draws.getD 5 0) (n := rows.length) (by omega)
  have gp : names[p]? = some (names.getD p e0) := get_some _ _ _ hp2
  have hnp : PyData.strOk (names.getD p e0) = true := hns _ (getD_mem' hp2)
  have gi : nums[i]? = some (nums.getD i 0) := get_some _ _ _ hi2
  have gj : nums[j]? = some (nums.getD j 0) := get_some _ _ _ hj2
  have ga : cols[a]? = some (cols.getD a e0) := get_some _ _ _ ha2
  have gb : cols[b]? = some (cols.getD b e0) := get_some _ _ _ hb2
  have hca := hcs _ (getD_mem' (a := e0) ha2)
  have hcb := hcs _ (getD_mem' (a := e0) hb2)
  refine run_wp rfl ?_
  show Wp _ _ (seqS _ _ [sl (encB (kind, nums, cols)), sl (LS names), sl (LL rows), sl (LI draws), none, none, none, none, none, none, none, none, none, none])
  refine wp_seq (wp_set (d := .str kind) rfl (by simp) ?_)
  refine wp_seq (wp_set (d := LI nums) rfl (by simp) ?_)
  refine wp_seq (wp_set (d := LS cols) rfl (by simp) ?_)
  refine wp_seq (wp_set (d := .int i) ?_ (by simp) ?_)
  · rw [← hi1]
    exact ev_k0 (ev_mod (ev_intI (n := 0) (ev_ix D.int (n := 0) (m := 0) (i := 0) (j := 0) (xs := draws) rfl rfl rfl (gd 0 (by omega)))) (ev_lenI (n := 0) (f := D.int) (xs := nums) rfl) (by omega))
  refine wp_seq (wp_set (d := .int j) ?_ (by simp) ?_)
  · rw [← hj1]
    exact ev_k0 (ev_mod (ev_intI (n := 0) (ev_ix D.int (n := 0) (m := 0) (i := 1) (j := 1) (xs := draws) rfl rfl rfl (gd 1 (by omega)))) (ev_lenI (n := 0) (f := D.int) (xs := nums) rfl) (by omega))
  refine wp_seq (wp_set (d := .int a) ?_ (by simp) ?_)
  · rw [← ha1]
    exact ev_k0 (ev_mod (ev_intI (n := 0) (ev_ix D.int (n := 0) (m := 0) (i := 2) (j := 2) (xs := draws) rfl rfl rfl (gd 2 (by omega)))) (ev_lenI (n := 0) (f := D.str) (xs := cols) rfl) (by omega))
  refine wp_seq (wp_set (d := .int b) ?_ (by simp) ?_)
  · rw [← hb1]
    exact ev_k0 (ev_mod (ev_intI (n := 0) (ev_ix D.int (n := 0) (m := 0) (i := 3) (j := 3) (xs := draws) rfl rfl rfl (gd 3 (by omega)))) (ev_lenI (n := 0) (f := D.str) (xs := cols) rfl) (by omega))
  refine wp_seq (wp_set (d := .str (names.getD p e0)) ?_ (by simp) ?_)
  · refine ev_k0 (ev_ix D.str (n := 0) (m := 0) (i := p) (j := p) (xs := names) rfl ?_ rfl gp)
    rw [← hp1]
    exact ev_mod (ev_intI (n := 0) (ev_ix D.int (n := 0) (m := 0) (i := 4) (j := 4) (xs := draws) rfl rfl rfl (gd 4 (by omega)))) (ev_lenI (n := 0) (f := D.str) (xs := names) rfl) (by omega)
  refine wp_seq (wp_set (d := .int r) ?_ (by simp) ?_)
  · rw [← hr1]
    exact ev_k0 (ev_mod (ev_intI (n := 0) (ev_ix D.int (n := 0) (m := 0) (i := 5) (j := 5) (xs := draws) rfl rfl rfl (gd 5 (by omega)))) (ev_lenI (n := 0) (f := LS) (xs := rows) rfl) (by omega))
  generalize hnum : ((r : Nat) : Int) = number
  generalize names.getD p e0 = name at *
  have v : ∀ bars, varP 4 (ρn kind nums cols names rows draws i j a b name number bars) = some (0, .str kind) ∧ varP 5 (ρn kind nums cols names rows draws i j a b name number bars) = some (0, LI nums) ∧ varP 6 (ρn kind nums cols names rows draws i j a b name number bars) = some (0, LS cols) := fun _ => ⟨rfl, rfl, rfl⟩
  have bp : ∀ (xs : List Int) (q : Nat) (x : Int), (q < xs.length) → xs.length ≤ 90 → (put xs q x).length ≤ 100 := fun xs q x h h2 => by rw [put_len h]; omega
  have sp : ∀ (xs : List Str) (q : Nat) (x : Str), (q < xs.length) → xs.length ≤ 90 → (put xs q x).length ≤ 100 := fun xs q x h h2 => by rw [put_len h]; omega
  have pc : ∀ (xs : List Str) (q : Nat) (x : Str), (∀ c ∈ xs, PyData.strOk c = true) → PyData.strOk x = true → ∀ c ∈ put xs q x, PyData.strOk c = true := fun xs q x h hx c hc => by
    rcases put_mem hc with z | z
    · exact h c z
    · rw [z]; exact hx
  have ac : ∀ (xs : List Str) (x : Str), (∀ c ∈ xs, PyData.strOk c = true) → PyData.strOk x = true → ∀ c ∈ xs ++ [x], PyData.strOk c = true := fun xs x h hx c hc => by
    rcases List.mem_append.mp hc with z | z
    · exact h c z
    · rw [List.mem_singleton.mp z]; exact hx
  have tc : ∀ (q : Nat), ∀ c ∈ cols.take q, PyData.strOk c = true := fun q c h => hcs c (List.mem_of_mem_take h)
  have xi : ∀ bars, ixP (varP 5) (varP 7) (ρn kind nums cols names rows draws i j a b name number bars) = some (0, .int (nums.getD i 0)) := fun _ => ev_ix D.int (n := 0) (m := 0) (i := i) (j := i) rfl rfl rfl gi
  have xj : ∀ bars, ixP (varP 5) (varP 8) (ρn kind nums cols names rows draws i j a b name number bars) = some (0, .int (nums.getD j 0)) := fun _ => ev_ix D.int (n := 0) (m := 0) (i := j) (j := j) rfl rfl rfl gj
  have xa : ∀ bars, ixP (varP 6) (varP 9) (ρn kind nums cols names rows draws i j a b name number bars) = some (0, .str (cols.getD a e0)) := fun _ => ev_ix D.str (n := 0) (m := 0) (i := a) (j := a) rfl rfl rfl ga
  have xb : ∀ bars, ixP (varP 6) (varP 10) (ρn kind nums cols names rows draws i j a b name number bars) = some (0, .str (cols.getD b e0)) := fun _ => ev_ix D.str (n := 0) (m := 0) (i := b) (j := b) rfl rfl rfl gb
  have lr : ∀ bars, callP (c1 lenD) (aCons (varP 2) aNil) (ρn kind nums cols names rows draws i j a b name number bars) = some (0, .int (rows.length : Int)) := fun _ => ev_lenI (n := 0) (f := LS) (xs := rows) rfl
  have hl1 : nums.length ≤ 1000 := by omega
  have hl2 : cols.length ≤ 1000 := by omega
  refine wp_seq (wp_setO (d := .lst [encB (kind, put (put nums i (nums.getD j 0)) j (nums.getD i 0), cols)]) ?_ (by simp) ?_)
  · subst hnum
    exact ev_sng3 (x := .str kind) (z := LS cols) rfl (ev_putI (ev_putI (xs := nums) (i := i) rfl rfl (ev_ix D.int (n := 0) (m := 0) (i := j) (j := j) rfl rfl rfl gj) hl1) (i := j) rfl (ev_ix D.int (n := 0) (m := 0) (i := i) (j := i) rfl rfl rfl gi) (by rw [put_len hi2]; omega)) rfl
  show Wp _ _ (seqS _ _ (ρn kind nums cols names rows draws i j a b name number [(kind, put (put nums i (nums.getD j 0)) j (nums.getD i 0), cols)]))
  have h0 : ∀ b ∈ [((kind, put (put nums i (nums.getD j 0)) j (nums.getD i 0), cols) : BarT)], OkB b := fun b hb => by
    rw [List.mem_singleton.mp hb]
    exact ⟨hk, hkl, bp _ _ _ (by rw [put_len hi2]; exact hj2) (by rw [put_len hi2]; omega), by show cols.length ≤ 100; omega, hcs⟩
  have l0 : [((kind, put (put nums i (nums.getD j 0)) j (nums.getD i 0), cols) : BarT)].length = 1 := rfl
  generalize [((kind, put (put nums i (nums.getD j 0)) j (nums.getD i 0), cols) : BarT)] = bars0 at *
  refine near_app h0 (by omega) (v _).1 ((v _).2.1) (ev_putS (ev_putS (v _).2.2 rfl (xb _) hl2) rfl (xa _) (by rw [put_len ha2]; omega)) ⟨hk, hkl, by show nums.length ≤ 100; omega, sp _ _ _ (by rw [put_len ha2]; exact hb2) (by rw [put_len ha2]; omega), pc _ _ _ (pc _ _ _ hcs hcb) hca⟩ fun bars1 h1 l1 => ?_
  refine near_app h1 (by omega) (v _).1 ((v _).2.1) ((ev_bin (ev_cutDrop D.str (m := 0) (i := 1) (j := 1) (xs := cols) rfl rfl rfl) (ev_cutTake D.str (m := 0) (i := 1) (j := 1) (xs := cols) rfl rfl rfl) (add_lst (by simp; omega))).trans (show _ = some (0, LS (rot 1 cols)) by simp [rot])) ⟨hk, hkl, by show nums.length ≤ 100; omega, by show (rot 1 cols).length ≤ 100; rw [rot_len]; omega, fun c h => by
    simp only [rot, List.mem_append] at h
    rcases h with h | h
    · exact hcs c (List.mem_of_mem_drop h)
    · exact hcs c (List.mem_of_mem_take h)⟩ fun bars2 h2 l2 => ?_
  refine near_app h2 (by omega) (v _).1 ((v _).2.1) (ev_init D.str (xs := cols) rfl) ⟨hk, hkl, by show nums.length ≤ 100; omega, by show (cols.take _).length ≤ 100; rw [List.length_take]; omega, tc _⟩ fun bars3 h3 l3 => ?_
  refine near_app h3 (by omega) (v _).1 (ev_cutDrop D.int (m := 0) (i := 1) (j := 1) (xs := nums) rfl rfl rfl) ((v _).2.2) ⟨hk, hkl, by show (nums.drop 1).length ≤ 100; rw [List.length_drop]; omega, by show cols.length ≤ 100; omega, hcs⟩ fun bars4 h4 l4 => ?_
  refine near_app h4 (by omega) (v _).1 (ev_init D.int (xs := nums) rfl) (ev_init D.str (xs := cols) rfl) ⟨hk, hkl, by show (nums.take _).length ≤ 100; rw [List.length_take]; omega, by show (cols.take _).length ≤ 100; rw [List.length_take]; omega, tc _⟩ fun bars5 h5 l5 => ?_
  refine near_app h5 (by omega) (v _).1 (ev_cutTake D.int (m := 0) (i := 3) (j := 3) (xs := nums) rfl rfl rfl) (ev_cutTake D.str (m := 0) (i := 3) (j := 3) (xs := cols) rfl rfl rfl) ⟨hk, hkl, by show (nums.take _).length ≤ 100; rw [List.length_take]; omega, by show (cols.take _).length ≤ 100; rw [List.length_take]; omega, tc _⟩ fun bars6 h6 l6 => ?_
  refine near_app h6 (by omega) (v _).1 (ev_addI (v _).2.1 (x := number) rfl hl1) ((v _).2.2) ⟨hk, hkl, by show (nums ++ [_]).length ≤ 100; simp; omega, by show cols.length ≤ 100; omega, hcs⟩ fun bars7 h7 l7 => ?_
  refine near_app h7 (by omega) (v _).1 ((v _).2.1) (ev_addS (v _).2.2 (x := name) rfl hl2) ⟨hk, hkl, by show nums.length ≤ 100; omega, by show (cols ++ [_]).length ≤ 100; simp; omega, ac _ _ hcs hnp⟩ fun bars8 h8 l8 => ?_
  refine near_app h8 (by omega) (v _).1 (ev_addI (v _).2.1 (x := number) rfl hl1) (ev_addS (v _).2.2 (x := name) rfl hl2) ⟨hk, hkl, by show (nums ++ [_]).length ≤ 100; simp; omega, by show (cols ++ [_]).length ≤ 100; simp; omega, ac _ _ hcs hnp⟩ fun bars9 h9 l9 => ?_
  refine near_app h9 (by omega) (v _).1 (ev_addI (v _).2.1 (xi _) hl1) ((v _).2.2) ⟨hk, hkl, by show (nums ++ [_]).length ≤ 100; simp; omega, by show cols.length ≤ 100; omega, hcs⟩ fun bars10 h10 l10 => ?_
  refine near_app h10 (by omega) (v _).1 (ev_putI (v _).2.1 (i := i) rfl (xj _) hl1) ((v _).2.2) ⟨hk, hkl, bp _ _ _ hi2 (by omega), by show cols.length ≤ 100; omega, hcs⟩ fun bars11 h11 l11 => ?_
  refine near_app h11 (by omega) (v _).1 (ev_putI (v _).2.1 (i := i) rfl (x := number) rfl hl1) ((v _).2.2) ⟨hk, hkl, bp _ _ _ hi2 (by omega), by show cols.length ≤ 100; omega, hcs⟩ fun bars12 h12 l12 => ?_
  refine near_app h12 (by omega) (v _).1 (ev_putI (v _).2.1 (i := i) rfl (ev_sbI (xi _) (lr _)) hl1) ((v _).2.2) ⟨hk, hkl, bp _ _ _ hi2 (by omega), by show cols.length ≤ 100; omega, hcs⟩ fun bars13 h13 l13 => ?_
  refine near_app h13 (by omega) (v _).1 (ev_putI (v _).2.1 (i := i) rfl (lr _) hl1) ((v _).2.2) ⟨hk, hkl, bp _ _ _ hi2 (by omega), by show cols.length ≤ 100; omega, hcs⟩ fun bars14 h14 l14 => ?_
  refine near_app h14 (by omega) (v _).1 (ev_addI (v _).2.1 (lr _) hl1) ((v _).2.2) ⟨hk, hkl, by show (nums ++ [_]).length ≤ 100; simp; omega, by show cols.length ≤ 100; omega, hcs⟩ fun bars15 h15 l15 => ?_
  refine near_app h15 (by omega) (v _).1 (ev_putI (v _).2.1 (i := i) rfl (x := -1) rfl hl1) ((v _).2.2) ⟨hk, hkl, bp _ _ _ hi2 (by omega), by show cols.length ≤ 100; omega, hcs⟩ fun bars16 h16 l16 => ?_
  refine near_app h16 (by omega) (v _).1 ((v _).2.1) (ev_putS (v _).2.2 (i := a) rfl (x := name) rfl hl2) ⟨hk, hkl, by show nums.length ≤ 100; omega, sp _ _ _ ha2 (by omega), pc _ _ _ hcs hnp⟩ fun bars17 h17 l17 => ?_
  refine near_app h17 (by omega) (v _).1 ((v _).2.1) (ev_putS (v _).2.2 (i := a) rfl (x := "zzzzzzzz") rfl hl2) ⟨hk, hkl, by show nums.length ≤ 100; omega, sp _ _ _ ha2 (by omega), pc _ _ _ hcs okZ⟩ fun bars18 h18 l18 => ?_
  refine near_app h18 (by omega) (v _).1 ((v _).2.1) (ev_putS (v _).2.2 (i := a) rfl (xb _) hl2) ⟨hk, hkl, by show nums.length ≤ 100; omega, sp _ _ _ ha2 (by omega), pc _ _ _ hcs hcb⟩ fun bars19 h19 l19 => ?_
  obtain ⟨x1, m1, e1⟩ := near_kind (hk := hk) (kind := kind) (ρ := ρn kind nums cols names rows draws i j a b name number bars19) rfl
  obtain ⟨s1, s2⟩ := strs2 x1 m1
  refine near_app h19 (by omega) e1 (v _).2.1 (v _).2.2 ⟨s1, s2, by show nums.length ≤ 100; omega, by show cols.length ≤ 100; omega, hcs⟩ fun bars20 h20 l20 => ?_
  obtain ⟨x2, m2, e2⟩ := near_odd (draws := draws) (ρ := ρn kind nums cols names rows draws i j a b name number bars20) rfl (gd 6 (by omega))
  obtain ⟨s3, s4⟩ := strs4 x2 m2
  refine near_app h20 (by omega) e2 (v _).2.1 (v _).2.2 ⟨s3, s4, by show nums.length ≤ 100; omega, by show cols.length ≤ 100; omega, hcs⟩ fun bars21 h21 l21 => ?_
  obtain ⟨x3, m3, e3⟩ := near_kind (hk := hk) (kind := kind) (ρ := ρn kind nums cols names rows draws i j a b name number bars21) rfl
  obtain ⟨s5, s6⟩ := strs2 x3 m3
  refine near_app h21 (by omega) e3 (ev_cutTake D.int (m := 0) (i := 3) (j := 3) (xs := nums) rfl rfl rfl) (ev_cutTake D.str (m := 0) (i := 3) (j := 3) (xs := cols) rfl rfl rfl) ⟨s5, s6, by show (nums.take _).length ≤ 100; rw [List.length_take]; omega, by show (cols.take _).length ≤ 100; rw [List.length_take]; omega, tc _⟩ fun bars22 h22 l22 => ?_
  refine near_app h22 (by omega) (v _).1 (ns' := []) rfl (cs' := []) rfl ⟨hk, hkl, by simp, by simp, by simp⟩ fun bars23 h23 l23 => ?_
  exact wp_frz (n := 1) (d := .lst (bars23.map encB)) rfl (wp_ret0 (d := .lst (bars23.map encB)) rfl ⟨_, rfl, h23⟩)
end
end Gn

set_option Elab.async false
set_option linter.all false
set_option maxRecDepth 100000
set_option maxHeartbeats 4000000
/-! k44: changed rows -/
namespace Gn
open PySem Iv Pl
structure Gr (names : List Str) (m : Nat) (rows : List (List Str)) : Prop where
  len : rows.length = m
  nd : ∀ r ∈ rows, r.Nodup
  sub : ∀ r ∈ rows, ∀ c ∈ r, c ∈ names
theorem Gr.put {names : List Str} {m : Nat} {rows : List (List Str)} (g : Gr names m rows) {i : Nat} {r : List Str} (hi : i < m) (h1 : r.Nodup) (h2 : ∀ c ∈ r, c ∈ names) : Gr names m (Gn.put rows i r) := by
  refine ⟨by rw [put_len (by rw [g.len]; exact hi), g.len], fun q hq => ?_, fun q hq => ?_⟩
  · rcases put_mem hq with z | z
    · exact g.nd q z
    · rw [z]; exact h1
  · rcases put_mem hq with z | z
    · exact g.sub q z
    · rw [z]; exact h2
theorem nd_app {r : List Str} {x : Str} (h : r.Nodup) (hx : x ∉ r) : (r ++ [x]).Nodup := by
  rw [List.nodup_append]
  exact ⟨h, by simp, fun a ha b hb z => hx (by rw [List.mem_singleton.mp hb] at z; rw [← z]; exact ha)⟩
theorem nd_len {r names : List Str} (h : r.Nodup) (hs : ∀ c ∈ r, c ∈ names) : r.length ≤ names.length := List.Nodup.length_le_of_subset h hs
theorem rng_I2 {fa fb : Pk} {ρ : Rho} {m m' a b : Nat} (e1 : fa ρ = some (m, .int (a : Int))) (e2 : fb ρ = some (m', .int (b : Int))) (ha : a ≤ 100000) (hb : b ≤ 100000) : rngI (rg2 fa fb) ρ = some ((List.range (b - a)).map fun (j : Nat) => D.int ((a + j : Nat) : Int)) := by
  have hr : rgOk ((a : Int), (b : Int)) = true := by simp [rgOk]; omega
  simp only [rngI, rgN, rg2, asI, e1, e2, Option.bind_some, Option.map_some, hr, if_true, rgD]
  have : ((b : Int) - (a : Int)).toNat = b - a := by omega
  rw [this]
  simp
theorem ev_putR {fa fi fx : Pk} {ρ : Rho} {xs : List (List Str)} {x : List Str} {i : Nat} (ea : fa ρ = some (0, LL xs)) (ei : fi ρ = some (0, .int (i : Int))) (ex : fx ρ = some (0, LS x)) (hl : xs.length ≤ 1000) : callG F_law_put (aCons fa (aCons fi (aCons fx aNil))) ρ = some (LL (put xs i x)) := by
  simp only [callG, aCons, aNil, ea, ei, ex, Option.bind_some, Option.map_some, e_put LS rfl hl]
section
variable {kind : Str} {nums : List Int} {cols names : List Str} {rows : List (List Str)} {draws : List Int} {i : Nat} {first : List Str}
abbrev ρc (kind : Str) (nums : List Int) (cols names : List Str) (rows : List (List Str)) (draws : List Int) (i : Nat) (first : List Str) (ch : List (List (List Str))) (a b c d e f : Option Sl) : Rho :=
  [sl (encB (kind, nums, cols)), sl (LS names), sl (LL rows), sl (LI draws), sl (.str kind), sl (LI nums), sl (LS cols), sl (.int nums.length), sl (.int i), sl (LS first), some ⟨true, 1, .lst (ch.map LL)⟩, a, b, c, d, e, f]
/-- what is asked -/
structure Cg (names : List Str) (rows : List (List Str)) (nums : List Int) : Prop where
  g : Gr names rows.length rows
  rl : rows.length ≤ 48
  nl : names.length ≤ 12
  inr : ∀ k ∈ nums, 0 ≤ k ∧ k < (rows.length : Int)
  ne : ∀ k ∈ nums, rows.getD k.toNat [] ≠ []
  n3 : 3 ≤ nums.length ∧ nums.length ≤ 50
theorem Cg.row (h : Cg names rows nums) {q : Nat} (hq : q < nums.length) : ∃ k : Nat, nums[q]? = some (k : Int) ∧ k < rows.length ∧ rows[k]? = some (rows.getD k []) ∧ rows.getD k [] ≠ [] ∧ rows.getD k [] ∈ rows := by
  have g := get_some nums q 0 hq
  have m := List.mem_of_getElem? g
  have h1 := h.inr _ m
  have h2 := h.ne _ m
  refine ⟨(nums.getD q 0).toNat, by rw [g]; congr 1; omega, by omega, get_some _ _ _ (by omega), h2, getD_mem' (by omega)⟩
theorem ch_1 {Pn : Rho → Prop} {Pr : D → Prop} {ch : List (List (List Str))} {a b c d e f : Option Sl} {name : Str} (h : Cg names rows nums) {k : Nat} (hk : nums[i]? = some (k : Int)) (hk2 : k < rows.length) (hf : rows[k]? = some first) (hn : name ∈ names) (hch : ∀ R ∈ ch, Gr names rows.length R) (hl : ch.length ≤ 1000)
    (cont : ∀ ch', (∀ R ∈ ch', Gr names rows.length R) → ch'.length ≤ ch.length + 1 → Pn (ρc kind nums cols names rows draws i first ch' a (sl (.str name)) c d e f)) :
    Wp Pn Pr (l_law_changed_rows_1 (ρc kind nums cols names rows draws i first ch a (sl (.str name)) c d e f)) := by
  unfold l_law_changed_rows_1
  have fm := List.mem_of_getElem? hf
  refine wp_ite (b := decide (name ∉ first)) (ev_c2 (n := 0) (m := 0) (x := .str name) (y := LS first) rfl rfl (nin_lstS _ _)) (fun hb => ?_) fun hb => wp_sk (cont ch hch (by omega))
  have hb := of_decide_eq_true hb
  have fl := nd_len (h.g.nd _ fm) (h.g.sub _ fm)
  have := h.nl
  have e1 := ev_putR (ρ := ρc kind nums cols names rows draws i first ch a (sl (.str name)) c d e f) (fa := varP 2) (fi := ixP (varP 5) (varP 8)) (xs := rows) (x := first ++ [name]) (i := k) rfl (ev_ix D.int (n := 0) (m := 0) (i := i) (j := i) (xs := nums) rfl rfl rfl hk) (ev_addS (fa := varP 9) (fx := varP 12) (xs := first) (x := name) rfl rfl (by omega)) (by have := h.rl; omega)
  refine wp_app (m := 0) (ds := ch.map LL) (d := LL (put rows k (first ++ [name]))) rfl (by rw [List.length_map]; omega) e1 ?_
  have := cont (ch ++ [put rows k (first ++ [name])]) (fun R hR => by
    rcases List.mem_append.mp hR with z | z
    · exact hch R z
    · rw [List.mem_singleton.mp z]
      exact h.g.put hk2 (nd_app (h.g.nd _ fm) hb) fun x hx => by
        rcases List.mem_append.mp hx with y | y
        · exact h.g.sub _ fm x y
        · rw [List.mem_singleton.mp y]; exact hn) (by simp)
  unfold ρc at this
  rw [List.map_append] at this
  exact this
theorem ch_3 {Pn : Rho → Prop} {Pr : D → Prop} {ch : List (List (List Str))} {a b c d e f : Option Sl} {name : Str} (h : Cg names rows nums) (hkd : ∀ c ∈ names, PyData.strOk c = true) {k : Nat} (hk : nums[i]? = some (k : Int)) (hk2 : k < rows.length) (hf : rows[k]? = some first) (hn : name ∈ names) (hch : ∀ R ∈ ch, Gr names rows.length R) (hl : ch.length ≤ 1000)
    (cont : ∀ ch', (∀ R ∈ ch', Gr names rows.length R) → ch'.length ≤ ch.length + 1 → Pn (ρc kind nums cols names rows draws i first ch' a (sl (.str name)) c d e f)) :
    Wp Pn Pr (l_law_changed_rows_3 (ρc kind nums cols names rows draws i first ch a (sl (.str name)) c d e f)) := by
  unfold l_law_changed_rows_3
  have fm := List.mem_of_getElem? hf
  have fl := nd_len (h.g.nd _ fm) (h.g.sub _ fm)
  have := h.nl
  have e0 := ev_lc (ρ := ρc kind nums cols names rows draws i first ch a (sl (.str name)) c d e f) D.str (fun x => decide (x ≠ name)) D.str (fi := anyI (varP 9)) (vs := [14]) (bd := bN 14) (t := cmp neC (varP 14) (varP 12)) (f := keep0 (varP 14)) first (ev_any rfl) (by omega) fun x hx => ⟨_, rfl, ev_c2 (n := 0) (m := 0) (x := .str x) (y := .str name) rfl rfl (ne_str (hkd x (h.g.sub _ fm x hx)) (hkd name hn)), fun _ => rfl⟩
  have e1 := ev_putR (ρ := ρc kind nums cols names rows draws i first ch a (sl (.str name)) c d e f) (fa := varP 2) (fi := ixP (varP 5) (varP 8)) (xs := rows) (x := first.filter fun x => decide (x ≠ name)) (i := k) rfl (ev_ix D.int (n := 0) (m := 0) (i := i) (j := i) (xs := nums) rfl rfl rfl hk) (ev_frP e0) (by have := h.rl; omega)
  refine wp_app (m := 0) (ds := ch.map LL) (d := LL (put rows k (first.filter fun x => decide (x ≠ name)))) rfl (by rw [List.length_map]; omega) e1 ?_
  have := cont (ch ++ [put rows k (first.filter fun x => decide (x ≠ name))]) (fun R hR => by
    rcases List.mem_append.mp hR with z | z
    · exact hch R z
    · rw [List.mem_singleton.mp z]
      exact h.g.put hk2 ((h.g.nd _ fm).filter _) fun x hx => h.g.sub _ fm x (List.mem_filter.mp hx).1) (by simp)
  unfold ρc at this
  rw [List.map_append] at this
  exact this
theorem ch_4 {Pn : Rho → Prop} {Pr : D → Prop} {ch full : List (List (List Str))} {fl : List (List Str)} {a b c d e f : Option Sl} {name : Str} (h : Cg names rows nums) {k : Nat} (hk2 : k < rows.length) (hn : name ∈ names) (hfl : Gr names rows.length fl)
    (cont : ∀ fl', Gr names rows.length fl' → Pn (ρc kind nums cols names rows draws i first ch a (sl (.str name)) c d (sl (LL fl')) (sl (.int (k : Int))))) :
    Wp Pn Pr (l_law_changed_rows_4 (ρc kind nums cols names rows draws i first ch a (sl (.str name)) c d (sl (LL fl)) (sl (.int (k : Int))))) := by
  unfold l_law_changed_rows_4
  have g : rows[k]? = some (rows.getD k []) := get_some _ _ _ hk2
  have fm := List.mem_of_getElem? g
  have ei : ixP (varP 2) (varP 16) (ρc kind nums cols names rows draws i first ch a (sl (.str name)) c d (sl (LL fl)) (sl (.int (k : Int)))) = some (0, LS (rows.getD k [])) := ev_ix LS (n := 0) (m := 0) (i := k) (j := k) (xs := rows) rfl rfl rfl g
  refine wp_ite (b := decide (name ∉ rows.getD k [])) (ev_c2 (n := 0) (x := .str name) rfl ei (nin_lstS _ _)) (fun hb => ?_) fun hb => wp_sk (cont fl hfl)
  have hb := of_decide_eq_true hb
  have ll := nd_len (h.g.nd _ fm) (h.g.sub _ fm)
  have := h.nl
  have e1 := ev_putR (ρ := ρc kind nums cols names rows draws i first ch a (sl (.str name)) c d (sl (LL fl)) (sl (.int (k : Int)))) (fa := varP 15) (fi := varP 16) (xs := fl) (x := rows.getD k [] ++ [name]) (i := k) rfl rfl (ev_addS (fa := ixP (varP 2) (varP 16)) (fx := varP 12) (x := name) ei rfl (by omega)) (by rw [hfl.len]; have := h.rl; omega)
  refine wp_set e1 (by simp) (cont _ (hfl.put hk2 (nd_app (h.g.nd _ fm) hb) fun x hx => ?_))
  rcases List.mem_append.mp hx with y | y
  · exact h.g.sub _ fm x y
  · rw [List.mem_singleton.mp y]; exact hn
theorem ch_5 {Pn : Rho → Prop} {Pr : D → Prop} {ch : List (List (List Str))} {a b c d e f : Option Sl} {name : Str} (h : Cg names rows nums) (hn : name ∈ names) (hch : ∀ R ∈ ch, Gr names rows.length R) (hl : ch.length ≤ 1000)
    (cont : ∀ ch' e f, (∀ R ∈ ch', Gr names rows.length R) → ch'.length ≤ ch.length + 1 → Pn (ρc kind nums cols names rows draws i first ch' a (sl (.str name)) c d e f)) :
    Wp Pn Pr (l_law_changed_rows_5 (ρc kind nums cols names rows draws i first ch a (sl (.str name)) c d e f)) := by
  unfold l_law_changed_rows_5
  refine wp_seq (wp_set (d := LL rows) rfl (by simp) ?_)
  show Wp _ _ (seqS _ _ (ρc kind nums cols names rows draws i first ch a (sl (.str name)) c d (sl (LL rows)) f))
  refine wp_seq (wp_for (ds := nums.map .int) (ev_any rfl) (fun q ρ => ∃ fl f', ρ = ρc kind nums cols names rows draws i first ch a (sl (.str name)) c d (sl (LL fl)) f' ∧ Gr names rows.length fl) ⟨rows, f, rfl, h.g⟩ (fun q dd ρ hd ⟨fl, f', hρ, hfl⟩ => ?_) fun ρ' ⟨fl, f', hρ, hfl⟩ => ?_)
  · subst hρ
    rw [List.getElem?_map] at hd
    obtain ⟨z, hz, rfl⟩ := Option.map_eq_some_iff.mp hd
    obtain ⟨k, hk1, hk2, _⟩ := h.row (List.getElem?_eq_some_iff.mp hz).1
    rw [hz] at hk1
    cases hk1
    exact ⟨_, rfl, ch_4 (full := []) (e := none) (f := none) (b := none) h hk2 hn hfl fun fl' h' => ⟨fl', _, rfl, h'⟩⟩
  · subst hρ
    refine wp_app (m := 0) (ds := ch.map LL) (d := LL fl) rfl (by rw [List.length_map]; omega) rfl ?_
    have := cont (ch ++ [fl]) (sl (LL fl)) f' (fun R hR => by
      rcases List.mem_append.mp hR with z | z
      · exact hch R z
      · rw [List.mem_singleton.mp z]
        exact hfl) (by simp)
    unfold ρc at this
    rw [List.map_append] at this
    exact this
theorem e_changed (h : Cg names rows nums) (hk : PyData.strOk kind = true) (hns : ∀ c ∈ names, PyData.strOk c = true) (hd : 2 ≤ draws.length) : ∃ ch : List (List (List Str)), F_law_changed_rows [(0, encB (kind, nums, cols)), (0, LS names), (0, LL rows), (0, LI draws)] = some (.lst (ch.map LL)) ∧ ∀ R ∈ ch, Gr names rows.length R := by
  suffices hh : ∃ d, F_law_changed_rows [(0, encB (kind, nums, cols)), (0, LS names), (0, LL rows), (0, LI draws)] = some d ∧ ∃ ch : List (List (List Str)), d = .lst (ch.map LL) ∧ ∀ R ∈ ch, Gr names rows.length R by
    obtain ⟨d, e, ch, rfl, hh⟩ := hh
    exact ⟨ch, e, hh⟩
  have hn3 := h.n3
  have hnl := h.nl
  obtain ⟨i, hi1, hi2⟩ := nat_mod (a := draws.getD 0 0) (n := nums.length) (by omega)
  obtain ⟨k, hk1, hk2, hk3, hk4, hk5⟩ := h.row hi2
  refine run_wp rfl ?_
  show Wp _ _ (seqS _ _ [sl (encB (kind, nums, cols)), sl (LS names), sl (LL rows), sl (LI draws), none, none, none, none, none, none, none, none, none, none, none, none, none])
  refine wp_seq (wp_set (d := .str kind) rfl (by simp) ?_)
  refine wp_seq (wp_set (d := LI nums) rfl (by simp) ?_)
  refine wp_seq (wp_set (d := LS cols) rfl (by simp) ?_)
  refine wp_seq (wp_set (d := .int nums.length) (ev_k0 (ev_lenI (n := 0) (f := D.int) (xs := nums) rfl)) (by simp) ?_)
  refine wp_seq (wp_set (d := .int i) ?_ (by simp) ?_)
  · rw [← hi1]
    exact ev_k0 (ev_mod (ev_intI (n := 0) (ev_ix D.int (n := 0) (m := 0) (i := 0) (j := 0) (xs := draws) rfl rfl rfl (get_some _ _ 0 (by omega)))) rfl (by omega))
  refine wp_seq (wp_set (d := LS (rows.getD k [])) (ev_k0 (ev_ix LS (n := 0) (m := 0) (i := k) (j := k) (xs := rows) rfl (ev_ix D.int (n := 0) (m := 0) (i := i) (j := i) (xs := nums) rfl rfl rfl hk1) rfl hk3)) (by simp) ?_)
  refine wp_seq (wp_setO (d := .lst []) rfl (by simp) ?_)
  generalize hfirst : rows.getD k [] = first at *
  show Wp _ _ (seqS _ _ (ρc kind nums cols names rows draws i first [] none none none none none none))
  have fl := nd_len (h.g.nd _ hk5) (h.g.sub _ hk5)
  refine wp_seq (wp_for (rng_I2 (a := 2) (b := nums.length - 1) (m := 0) (m' := 0) rfl ((ev_sbI (a := nums.length) (b := 1) rfl rfl).trans (by congr 3; omega)) (by omega) (by omega)) (fun q ρ => ∃ ch a b c d e f, ρ = ρc kind nums cols names rows draws i first ch a b c d e f ∧ (∀ R ∈ ch, Gr names rows.length R) ∧ ch.length ≤ 2 * q) ⟨[], none, none, none, none, none, none, rfl, (fun R z => by cases z), by simp⟩ (fun q dd ρ hd ⟨ch, a, b, c, d, e, f, hρ, hch, hl⟩ => ?_) fun ρ' ⟨ch, a, b, c, d, e, f, hρ, hch, hl⟩ => ?_)
  · subst hρ
    rw [List.getElem?_map] at hd
    obtain ⟨z, hz, rfl⟩ := Option.map_eq_some_iff.mp hd
    obtain ⟨hq1, hq2⟩ := List.getElem?_eq_some_iff.mp hz
    simp only [List.length_range, List.getElem_range] at hq1 hq2
    subst hq2
    obtain ⟨t, ht1, ht2⟩ := nat_mod (a := ((i : Int) + ((2 + q : Nat) : Int))) (n := nums.length) (by omega)
    obtain ⟨k', hk1', hk2', hk3', hk4', hk5'⟩ := h.row ht2
    refine ⟨_, rfl, ?_⟩
    unfold l_law_changed_rows_2
    refine wp_seq (wp_set (d := LS (rows.getD k' [])) (ev_k0 (ev_ix LS (n := 0) (m := 0) (i := k') (j := k') (xs := rows) rfl (ev_ix D.int (n := 0) (m := 0) (i := t) (j := t) (xs := nums) rfl ?_ rfl hk1') rfl hk3')) (by simp) ?_)
    · rw [← ht1]
      exact ev_mod (ev_intI (n := 0) (ev_adI (a := (i : Int)) (b := ((2 + q : Nat) : Int)) rfl rfl)) rfl (by omega)
    generalize hother : rows.getD k' [] = other at *
    show Wp _ _ (forS _ _ _ (ρc kind nums cols names rows draws i first ch (sl (.int ((2 + q : Nat) : Int))) b c (sl (LS other)) e f))
    have hpos : 0 < other.length := List.length_pos_iff.mpr hk4'
    have o0 : other[0]? = some (other.getD 0 e0) := get_some _ _ _ hpos
    have o1 : other[other.length - 1]? = some (other.getD (other.length - 1) e0) := get_some _ _ _ (by omega)
    have ed : anyI (fun ρ => ((small (kept (aCons (ixP (varP 14) (cst (.int 0))) (aCons (ixP (varP 14) (una negD (cst (.int 1)))) aNil)))) ρ).map fun ds => ((0 : Nat), D.lst ds)) (ρc kind nums cols names rows draws i first ch (sl (.int ((2 + q : Nat) : Int))) b c (sl (LS other)) e f) = some ([other.getD 0 e0, other.getD (other.length - 1) e0].map .str) := by
      refine ev_any ?_
      have x0 : ixP (varP 14) (cst (.int 0)) (ρc kind nums cols names rows draws i first ch (sl (.int ((2 + q : Nat) : Int))) b c (sl (LS other)) e f) = some (0, .str (other.getD 0 e0)) := ev_ix D.str (n := 0) (m := 0) (i := 0) (j := 0) (xs := other) rfl rfl rfl o0
      have x1 : ixP (varP 14) (una negD (cst (.int 1))) (ρc kind nums cols names rows draws i first ch (sl (.int ((2 + q : Nat) : Int))) b c (sl (LS other)) e f) = some (0, .str (other.getD (other.length - 1) e0)) := by
        have v : varP 14 (ρc kind nums cols names rows draws i first ch (sl (.int ((2 + q : Nat) : Int))) b c (sl (LS other)) e f) = some (0, LS other) := rfl
        have v2 : una negD (cst (.int 1)) (ρc kind nums cols names rows draws i first ch (sl (.int ((2 + q : Nat) : Int))) b c (sl (LS other)) e f) = some (0, .int (-1)) := rfl
        simp only [ixP, v, v2, Option.bind_some, ixD]
        rw [at_map, at_last, o1]
        rfl
      simp only [small, kept, aCons, aNil, x0, x1, Option.bind_some, Option.map_some]
      rfl
    have oin : ∀ x ∈ [other.getD 0 e0, other.getD (other.length - 1) e0], x ∈ names := fun x hx => by
      simp only [List.mem_cons, List.not_mem_nil, or_false] at hx
      rcases hx with hx | hx
      · rw [hx]; exact h.g.sub _ hk5' _ (getD_mem' hpos)
      · rw [hx]; exact h.g.sub _ hk5' _ (getD_mem' (by omega))
    refine wp_for ed (fun u ρ => ∃ ch b, ρ = ρc kind nums cols names rows draws i first ch (sl (.int ((2 + q : Nat) : Int))) b c (sl (LS other)) e f ∧ (∀ R ∈ ch, Gr names rows.length R) ∧ ch.length ≤ 2 * q + u) ⟨ch, b, rfl, hch, by omega⟩ (fun u dd ρ hd ⟨ch, b, hρ, hch, hl⟩ => ?_) fun ρ' ⟨ch, b, hρ, hch, hl⟩ => ?_
    · subst hρ
      rw [List.getElem?_map] at hd
      obtain ⟨z, hz, rfl⟩ := Option.map_eq_some_iff.mp hd
      have hu := (List.getElem?_eq_some_iff.mp hz).1
      simp at hu
      exact ⟨_, rfl, ch_1 (b := none) h hk1 hk2 hk3 (oin z (List.mem_of_getElem? hz)) hch (by omega) fun ch' h1 h2 => ⟨ch', _, rfl, h1, by omega⟩⟩
    · exact ⟨ch, _, b, c, _, e, f, hρ, hch, by simp at hl; omega⟩
  · subst hρ
    rw [List.length_map, List.length_range] at hl
    refine wp_seq (wp_for (ds := first.map .str) (ev_any rfl) (fun q ρ => ∃ ch b, ρ = ρc kind nums cols names rows draws i first ch a b c d e f ∧ (∀ R ∈ ch, Gr names rows.length R) ∧ ch.length ≤ 100 + q) ⟨ch, b, rfl, hch, by omega⟩ (fun q dd ρ hd ⟨ch, b, hρ, hch, hl⟩ => ?_) fun ρ' ⟨ch, b, hρ, hch, hl⟩ => ?_)
    · subst hρ
      rw [List.getElem?_map] at hd
      obtain ⟨z, hz, rfl⟩ := Option.map_eq_some_iff.mp hd
      have hq := (List.getElem?_eq_some_iff.mp hz).1
      exact ⟨_, rfl, ch_3 (b := none) h hns hk1 hk2 hk3 (h.g.sub _ hk5 z (List.mem_of_getElem? hz)) hch (by omega) fun ch' h1 h2 => ⟨ch', _, rfl, h1, by omega⟩⟩
    · subst hρ
      rw [List.length_map] at hl
      have fin : ∀ {Pr : D → Prop} {ch : List (List (List Str))} {b e f : Option Sl}, (∀ R ∈ ch, Gr names rows.length R) → ch.length ≤ 1000 → (∀ d, (∃ ch : List (List (List Str)), d = .lst (ch.map LL) ∧ ∀ R ∈ ch, Gr names rows.length R) → Pr d) → Wp (fun _ => Pr .non) Pr (seqS (setS 13 (keep0 (bin modD (callP (c1 intD) (aCons (ixP (varP 3) (cst (.int 1))) aNil)) (bin addD (callP (c1 lenD) (aCons (varP 10) aNil)) (cst (.int 1)))))) (retS 0 (keep0 (cutP (bin addD (cutP (varP 10) (ofO (varP 13)) noO) (cutP (varP 10) noO (ofO (varP 13)))) noO (ofO (cst (.int 9)))))) (ρc kind nums cols names rows draws i first ch a b c d e f)) := fun {Pr ch b e f} hch hl hPr => by
        obtain ⟨t, ht1, ht2⟩ := nat_mod (a := draws.getD 1 0) (n := ch.length + 1) (by omega)
        refine wp_seq (wp_set (d := .int t) ?_ (by simp) ?_)
        · rw [← ht1]
          exact ev_k0 (ev_mod (ev_intI (n := 0) (ev_ix D.int (n := 0) (m := 0) (i := 1) (j := 1) (xs := draws) rfl rfl rfl (get_some _ _ 0 (by omega)))) (ev_adI (a := (ch.length : Int)) (b := 1) (ev_lenI (n := 1) (f := LL) (xs := ch) rfl) rfl) (by omega))
        show Wp _ _ (retS 0 _ (ρc kind nums cols names rows draws i first ch a b (sl (.int t)) d e f))
        have v10 : varP 10 (ρc kind nums cols names rows draws i first ch a b (sl (.int t)) d e f) = some (1, .lst (ch.map LL)) := rfl
        have v13 : varP 13 (ρc kind nums cols names rows draws i first ch a b (sl (.int t)) d e f) = some (0, .int (t : Int)) := rfl
        have c1 : cutP (varP 10) (ofO (varP 13)) noO (ρc kind nums cols names rows draws i first ch a b (sl (.int t)) d e f) = some (0, .lst ((ch.drop t).map LL)) := by
          simp only [cutP, v10, v13, noO, ofO, Option.bind_some, cut_drop LL ch rfl, Nat.le_refl, if_true]
        have c2 : cutP (varP 10) noO (ofO (varP 13)) (ρc kind nums cols names rows draws i first ch a b (sl (.int t)) d e f) = some (0, .lst ((ch.take t).map LL)) := by
          simp only [cutP, v10, v13, noO, ofO, Option.bind_some, cut_take LL ch rfl, Nat.le_refl, if_true]
        have c3 := (ev_bin c1 c2 (add_lst (by simp; omega))).trans (show _ = some (0, .lst ((rot t ch).map LL)) by simp [rot])
        refine wp_ret0 (d := .lst (((rot t ch).take 9).map LL)) (ev_k0 (ev_cutTake LL (m := 0) (i := 9) (j := 9) c3 rfl rfl)) (hPr _ ⟨_, rfl, fun R hR => ?_⟩)
        have := List.mem_of_mem_take hR
        simp only [rot, List.mem_append] at this
        rcases this with z | z
        · exact hch R (List.mem_of_mem_drop z)
        · exact hch R (List.mem_of_mem_take z)
      refine wp_seq (wp_ite (b := decide (kind = "crowd")) (ev_c2 (n := 0) (m := 0) (x := .str kind) rfl rfl (eq_str hk okCrowd)) (fun hb => ?_) fun hb => wp_sk (fin hch (by omega) fun d hd => hd))
      refine wp_for (ds := names.map .str) (ev_any rfl) (fun q ρ => ∃ ch b e f, ρ = ρc kind nums cols names rows draws i first ch a b c d e f ∧ (∀ R ∈ ch, Gr names rows.length R) ∧ ch.length ≤ 200 + q) ⟨ch, b, e, f, rfl, hch, by omega⟩ (fun q dd ρ hd ⟨ch, b, e, f, hρ, hch, hl⟩ => ?_) fun ρ' ⟨ch, b, e, f, hρ, hch, hl⟩ => ?_
      · subst hρ
        rw [List.getElem?_map] at hd
        obtain ⟨z, hz, rfl⟩ := Option.map_eq_some_iff.mp hd
        have hq := (List.getElem?_eq_some_iff.mp hz).1
        exact ⟨_, rfl, ch_5 (b := none) h (List.mem_of_getElem? hz) hch (by omega) fun ch' e f h1 h2 => ⟨ch', _, e, f, rfl, h1, by omega⟩⟩
      · subst hρ
        rw [List.length_map] at hl
        exact fin hch (by omega) fun d hd => hd
end
end Gn

set_option Elab.async false
set_option linter.all false
set_option maxRecDepth 100000
set_option maxHeartbeats 4000000
/-! k44: names -/
namespace Gn
open PySem Iv Pl
def hi (c : Nat) : Prop := 109 ≤ c ∧ c ≤ 122
theorem al1 : ("abcdefghijkl" : Str).cps.toList = (List.range 12).map (97 + ·) := by decide +kernel
theorem al2 : ("mnopqrstuvwxyz" : Str).cps.toList.length = 14 ∧ ∀ c ∈ ("mnopqrstuvwxyz" : Str).cps.toList, 109 ≤ c ∧ c ≤ 122 := by decide +kernel
theorem al3 : ("zyxwvutsrqponm" : Str).cps.toList.length = 14 ∧ ∀ c ∈ ("zyxwvutsrqponm" : Str).cps.toList, 109 ≤ c ∧ c ≤ 122 := by decide +kernel
theorem al4 : ("m" : Str) = ⟨#[109]⟩ := by decide +kernel
theorem al5 : ("z" : Str) = ⟨#[122]⟩ := by decide +kernel
theorem rep_l (c : Nat) : ∀ p : Nat, p < 4 → (repS ⟨#[c]⟩ (p : Int)).cps.toList = List.replicate p c
  | 0, _ => rfl
  | 1, _ => rfl
  | 2, _ => by simp [repS]; rfl
  | 3, _ => by simp [repS]; rfl
  | p + 4, h => by omega
theorem ev_ixS {fa fb : Pk} {ρ : Rho} {s : Str} {i : Int} {j : Nat} {c : Nat} (e1 : fa ρ = some (0, .str s)) (e2 : fb ρ = some (0, .int i)) (hs : s.length ≤ 100000) (hi : i = j) (hc : s.cps.toList[j]? = some c) : ixP fa fb ρ = some (0, .str ⟨#[c]⟩) := by
  simp only [ixP, e1, e2, Option.bind_some, ixD, hs, if_true, at_nat _ hi, hc, Option.map_some]
theorem ev_rep {fa fb : Pk} {ρ : Rho} {c : Nat} {n : Int} {p : Nat} (e1 : fa ρ = some (0, .str ⟨#[c]⟩)) (e2 : fb ρ = some (0, .int n)) (hn : n = p) (hp : p < 4) : bin mulD fa fb ρ = some (0, .str (repS ⟨#[c]⟩ (p : Int))) := by
  subst hn
  refine ev_bin e1 e2 ?_
  have h1 : -1000 ≤ (p : Int) ∧ (p : Int) ≤ 1000 ∧ (⟨#[c]⟩ : Str).length ≤ 1000 := ⟨by omega, by omega, by show 1 ≤ 1000; omega⟩
  simp only [mulD, h1, and_self, if_true]
theorem app_l (a b : Str) : (a ++ b).cps.toList = a.cps.toList ++ b.cps.toList := by
  show (a.cps ++ b.cps).toList = _
  simp
structure NmAt (r : Nat) (s : Str) : Prop where
  ex : ∃ l t : List Nat, s.cps.toList = l ++ (97 + r) :: t ∧ l.length ≤ 2 ∧ t.length ≤ 3 ∧ (∀ c ∈ l, 109 ≤ c ∧ c ≤ 122) ∧ ∀ c ∈ t, 109 ≤ c ∧ c ≤ 122
  r : r < 12
theorem NmAt.nm {r : Nat} {s : Str} (h : NmAt r s) : Nm s := by
  obtain ⟨⟨l, t, e, h1, h2, h3, h4⟩, hr⟩ := h
  have hl : s.length = l.length + (t.length + 1) := by
    show s.cps.size = _
    rw [← Array.length_toList, e]
    simp
  refine ⟨by omega, fun c hc => ?_⟩
  rw [e] at hc
  simp only [List.mem_append, List.mem_cons] at hc
  rcases hc with hc | hc | hc
  · have := h3 c hc; omega
  · omega
  · have := h4 c hc; omega
theorem NmAt.inj {r r' : Nat} {s : Str} (h : NmAt r s) (h' : NmAt r' s) : r = r' := by
  obtain ⟨⟨l, t, e, _, _, h3, h4⟩, hr⟩ := h
  obtain ⟨⟨l', t', e', _, _, h3', h4'⟩, hr'⟩ := h'
  have f : ∀ {l t : List Nat} {r : Nat}, r < 12 → (∀ c ∈ l, 109 ≤ c ∧ c ≤ 122) → (∀ c ∈ t, 109 ≤ c ∧ c ≤ 122) → (l ++ (97 + r) :: t).filter (fun c => decide (c < 109)) = [97 + r] := fun {l t r} hr hl ht => by
    rw [List.filter_append, List.filter_cons]
    have e1 : l.filter (fun c => decide (c < 109)) = [] := List.filter_eq_nil_iff.mpr fun c hc => by have := hl c hc; simp; omega
    have e2 : t.filter (fun c => decide (c < 109)) = [] := List.filter_eq_nil_iff.mpr fun c hc => by have := ht c hc; simp; omega
    rw [e1, e2, if_pos (by simp; omega)]
    rfl
  have := f hr h3 h4
  rw [← e, e', f hr' h3' h4'] at this
  have := List.cons.inj this
  omega
def words1 : List Str := ["ab", "a", "abc", "aa", "b", "ba", "aab", "bb", "abcdefg", "abcdefh", "aba", "bab"]
def words2 : List Str := ["first", "row", "end", "near", "span", "last", "before", "window", "over", "column", "not", "ask"]
def nmB (s : Str) : Bool := decide (1 ≤ s.length) && decide (s.length ≤ 8) && s.cps.toList.all fun c => decide (97 ≤ c) && decide (c ≤ 122)
theorem nmB_ok {s : Str} (h : nmB s = true) : Nm s := by
  simp only [nmB, Bool.and_eq_true, decide_eq_true_eq, List.all_eq_true] at h
  exact ⟨h.1, h.2⟩
theorem w1 : words1.Nodup ∧ (words1.all nmB) = true := by decide +kernel
theorem w2 : words2.Nodup ∧ (words2.all nmB) = true := by decide +kernel
structure Names (names : List Str) (n : Nat) : Prop where
  len : names.length = n
  nd : names.Nodup
  nm : ∀ s ∈ names, Nm s
theorem rot_names {ws : List Str} (h1 : ws.Nodup) (h2 : (ws.all nmB) = true) (c n : Nat) (hn : n ≤ ws.length) : Names ((rot c ws).take n) n := by
  have hp : (rot c ws).Perm ws := by
    have := List.perm_append_comm (l₁ := ws.drop c) (l₂ := ws.take c)
    rw [List.take_append_drop] at this
    exact this
  refine ⟨by rw [List.length_take, rot_len]; omega, ((hp.nodup_iff).mpr h1).sublist (List.take_sublist _ _), fun s hs => ?_⟩
  exact nmB_ok (List.all_eq_true.mp h2 s (hp.mem_iff.mp (List.mem_of_mem_take hs)))
theorem wp_some {Pn : Rho → Prop} {Pr : D → Prop} {ρ : Rho} (h : Pn ρ) : Wp Pn Pr (some (.nx, ρ)) := h
theorem set_eq {ρ : Rho} {i : Nat} {f : Rho → Option D} {d : D} (e : f ρ = some d) (h : i < ρ.length) : setS i f ρ = some (.nx, ρ.set i (some ⟨false, 0, d⟩)) := by
  simp only [setS, e, Option.bind_some, setR, h, if_true, Option.map_some]
theorem app_eq {ρ : Rho} {i m : Nat} {f : Rho → Option D} {d : D} {ds : List D} (e0 : ρ[i]? = some (some ⟨true, m + 1, .lst ds⟩)) (hz : ds.length < 99999) (e : f ρ = some d) : appS i m f ρ = some (.nx, ρ.set i (some ⟨true, m + 1, .lst (ds ++ [d])⟩)) := by
  simp only [appS, e0, hz, and_self, if_true, e, Option.map_some]
def HiL (n : Nat) (s : Str) : Prop := ∃ l : List Nat, s.cps.toList = l ∧ l.length ≤ n ∧ ∀ c ∈ l, 109 ≤ c ∧ c ≤ 122
theorem rep_hi {c u n : Nat} (h : 109 ≤ c ∧ c ≤ 122) (hu : u ≤ n) (hn : u < 4) : HiL n (repS ⟨#[c]⟩ (u : Int)) :=
  ⟨_, rep_l c u hn, by rw [List.length_replicate]; exact hu, fun x hx => by rw [List.eq_of_mem_replicate hx]; exact h⟩
section
variable {cnt seed z : Int} {A w c a1 a2 a3 : Option Sl}
theorem n6 {j0 core : Nat} (hj0 : (z * 5 + seed) % 12 = (j0 : Int)) (m12 : j0 < 12) (hcore : 97 + j0 = core) :
    setS 6 (keep0 (ixP (cst (.str "abcdefghijkl")) (bin modD (callP (c1 intD) (aCons (bin addD (bin mulD (varP 3) (cst (.int 5))) (varP 1)) aNil)) (cst (.int 12))))) [sl (.int cnt), sl (.int seed), A, sl (.int z), w, c, a1, a2, a3] = some (.nx, [sl (.int cnt), sl (.int seed), A, sl (.int z), w, c, sl (.str ⟨#[core]⟩), a2, a3]) := by
  have gc : ("abcdefghijkl" : Str).cps.toList[j0]? = some core := by
    rw [al1, List.getElem?_map, List.getElem?_range m12, ← hcore]
    rfl
  have sl1 : ("abcdefghijkl" : Str).length ≤ 100000 := by decide +kernel
  have em : bin modD (callP (c1 intD) (aCons (bin addD (bin mulD (varP 3) (cst (.int 5))) (varP 1)) aNil)) (cst (.int 12)) [sl (.int cnt), sl (.int seed), A, sl (.int z), w, c, a1, a2, a3] = some (0, .int ((z * 5 + seed) % 12)) := ev_mod (ev_intI (n := 0) (ev_adI (ev_mul (a := z) (b := 5) rfl rfl (by omega)) (b := seed) rfl)) (b := 12) rfl (by omega)
  have ec : cst (.str "abcdefghijkl") [sl (.int cnt), sl (.int seed), A, sl (.int z), w, c, a1, a2, a3] = some (0, .str "abcdefghijkl") := rfl
  rw [set_eq (ev_k0 (ev_ixS ec em sl1 hj0 gc)) (by simp)]
  rfl
theorem n7 : ∃ left, HiL 2 left ∧ setS 7 (keep0 (bin mulD (ixP (cst (.str "mnopqrstuvwxyz")) (bin modD (callP (c1 intD) (aCons (bin addD (bin divD (varP 1) (cst (.int 12))) (varP 3)) aNil)) (cst (.int 14)))) (bin modD (callP (c1 intD) (aCons (bin addD (bin divD (varP 1) (cst (.int 5))) (bin mulD (varP 3) (cst (.int 2)))) aNil)) (cst (.int 3))))) [sl (.int cnt), sl (.int seed), A, sl (.int z), w, c, a1, a2, a3] = some (.nx, [sl (.int cnt), sl (.int seed), A, sl (.int z), w, c, a1, sl (.str left), a3]) := by
  obtain ⟨p, hp1, hp2⟩ := nat_mod (a := seed / 12 + z) (n := 14) (by omega)
  obtain ⟨u, hu1, hu2⟩ := nat_mod (a := seed / 5 + z * 2) (n := 3) (by omega)
  obtain ⟨lc, gl⟩ : ∃ lc, ("mnopqrstuvwxyz" : Str).cps.toList[p]? = some lc := ⟨_, get_some _ p 0 (by rw [al2.1]; exact hp2)⟩
  have sl2 : ("mnopqrstuvwxyz" : Str).length ≤ 100000 := by decide +kernel
  have e1 : bin modD (callP (c1 intD) (aCons (bin addD (bin divD (varP 1) (cst (.int 12))) (varP 3)) aNil)) (cst (.int 14)) [sl (.int cnt), sl (.int seed), A, sl (.int z), w, c, a1, a2, a3] = some (0, .int ((seed / 12 + z) % 14)) := ev_mod (ev_intI (n := 0) (ev_adI (ev_div (a := seed) (b := 12) rfl rfl (by omega)) (b := z) rfl)) (b := 14) rfl (by omega)
  have e2 : bin modD (callP (c1 intD) (aCons (bin addD (bin divD (varP 1) (cst (.int 5))) (bin mulD (varP 3) (cst (.int 2)))) aNil)) (cst (.int 3)) [sl (.int cnt), sl (.int seed), A, sl (.int z), w, c, a1, a2, a3] = some (0, .int ((seed / 5 + z * 2) % 3)) := ev_mod (ev_intI (n := 0) (ev_adI (ev_div (a := seed) (b := 5) rfl rfl (by omega)) (ev_mul (a := z) (b := 2) rfl rfl (by omega)))) (b := 3) rfl (by omega)
  have ec : cst (.str "mnopqrstuvwxyz") [sl (.int cnt), sl (.int seed), A, sl (.int z), w, c, a1, a2, a3] = some (0, .str "mnopqrstuvwxyz") := rfl
  refine ⟨repS ⟨#[lc]⟩ (u : Int), rep_hi (al2.2 _ (List.mem_of_getElem? gl)) (by omega) (by omega), ?_⟩
  rw [set_eq (ev_k0 (ev_rep (p := u) (ev_ixS ec e1 sl2 hp1 gl) e2 hu1 (by omega))) (by simp)]
  rfl
theorem n8 : ∃ right, HiL 3 right ∧ setS 8 (keep0 (bin mulD (ixP (cst (.str "zyxwvutsrqponm")) (bin modD (callP (c1 intD) (aCons (bin addD (bin divD (varP 1) (cst (.int 7))) (bin mulD (varP 3) (cst (.int 3)))) aNil)) (cst (.int 14)))) (bin modD (callP (c1 intD) (aCons (bin addD (bin divD (varP 1) (cst (.int 11))) (varP 3)) aNil)) (cst (.int 4))))) [sl (.int cnt), sl (.int seed), A, sl (.int z), w, c, a1, a2, a3] = some (.nx, [sl (.int cnt), sl (.int seed), A, sl (.int z), w, c, a1, a2, sl (.str right)]) := by
  obtain ⟨p, hp1, hp2⟩ := nat_mod (a := seed / 7 + z * 3) (n := 14) (by omega)
  obtain ⟨u, hu1, hu2⟩ := nat_mod (a := seed / 11 + z) (n := 4) (by omega)
  obtain ⟨lc, gl⟩ : ∃ lc, ("zyxwvutsrqponm" : Str).cps.toList[p]? = some lc := ⟨_, get_some _ p 0 (by rw [al3.1]; exact hp2)⟩
  have sl2 : ("zyxwvutsrqponm" : Str).length ≤ 100000 := by decide +kernel
  have e1 : bin modD (callP (c1 intD) (aCons (bin addD (bin divD (varP 1) (cst (.int 7))) (bin mulD (varP 3) (cst (.int 3)))) aNil)) (cst (.int 14)) [sl (.int cnt), sl (.int seed), A, sl (.int z), w, c, a1, a2, a3] = some (0, .int ((seed / 7 + z * 3) % 14)) := ev_mod (ev_intI (n := 0) (ev_adI (ev_div (a := seed) (b := 7) rfl rfl (by omega)) (ev_mul (a := z) (b := 3) rfl rfl (by omega)))) (b := 14) rfl (by omega)
  have e2 : bin modD (callP (c1 intD) (aCons (bin addD (bin divD (varP 1) (cst (.int 11))) (varP 3)) aNil)) (cst (.int 4)) [sl (.int cnt), sl (.int seed), A, sl (.int z), w, c, a1, a2, a3] = some (0, .int ((seed / 11 + z) % 4)) := ev_mod (ev_intI (n := 0) (ev_adI (ev_div (a := seed) (b := 11) rfl rfl (by omega)) (b := z) rfl)) (b := 4) rfl (by omega)
  have ec : cst (.str "zyxwvutsrqponm") [sl (.int cnt), sl (.int seed), A, sl (.int z), w, c, a1, a2, a3] = some (0, .str "zyxwvutsrqponm") := rfl
  refine ⟨repS ⟨#[lc]⟩ (u : Int), rep_hi (al3.2 _ (List.mem_of_getElem? gl)) (by omega) (by omega), ?_⟩
  rw [set_eq (ev_k0 (ev_rep (p := u) (ev_ixS ec e1 sl2 hp1 gl) e2 hu1 (by omega))) (by simp)]
  rfl
theorem n7m : ∃ left, HiL 2 left ∧ setS 7 (keep0 (bin mulD (cst (.str "m")) (bin modD (callP (c1 intD) (aCons (bin divD (varP 1) (cst (.int 2))) aNil)) (cst (.int 3))))) [sl (.int cnt), sl (.int seed), A, sl (.int z), w, c, a1, a2, a3] = some (.nx, [sl (.int cnt), sl (.int seed), A, sl (.int z), w, c, a1, sl (.str left), a3]) := by
  obtain ⟨u, hu1, hu2⟩ := nat_mod (a := seed / 2) (n := 3) (by omega)
  have e2 : bin modD (callP (c1 intD) (aCons (bin divD (varP 1) (cst (.int 2))) aNil)) (cst (.int 3)) [sl (.int cnt), sl (.int seed), A, sl (.int z), w, c, a1, a2, a3] = some (0, .int (seed / 2 % 3)) := ev_mod (ev_intI (n := 0) (ev_div (a := seed) (b := 2) rfl rfl (by omega))) (b := 3) rfl (by omega)
  have ec : cst (.str "m") [sl (.int cnt), sl (.int seed), A, sl (.int z), w, c, a1, a2, a3] = some (0, .str ⟨#[109]⟩) := by
    rw [← al4]
    rfl
  refine ⟨repS ⟨#[109]⟩ (u : Int), rep_hi (by omega) (by omega) (by omega), ?_⟩
  rw [set_eq (ev_k0 (ev_rep (p := u) ec e2 hu1 (by omega))) (by simp)]
  rfl
theorem n8z : ∃ right, HiL 3 right ∧ setS 8 (keep0 (bin mulD (cst (.str "z")) (bin modD (callP (c1 intD) (aCons (bin divD (varP 1) (cst (.int 6))) aNil)) (cst (.int 3))))) [sl (.int cnt), sl (.int seed), A, sl (.int z), w, c, a1, a2, a3] = some (.nx, [sl (.int cnt), sl (.int seed), A, sl (.int z), w, c, a1, a2, sl (.str right)]) := by
  obtain ⟨u, hu1, hu2⟩ := nat_mod (a := seed / 6) (n := 3) (by omega)
  have e2 : bin modD (callP (c1 intD) (aCons (bin divD (varP 1) (cst (.int 6))) aNil)) (cst (.int 3)) [sl (.int cnt), sl (.int seed), A, sl (.int z), w, c, a1, a2, a3] = some (0, .int (seed / 6 % 3)) := ev_mod (ev_intI (n := 0) (ev_div (a := seed) (b := 6) rfl rfl (by omega))) (b := 3) rfl (by omega)
  have ec : cst (.str "z") [sl (.int cnt), sl (.int seed), A, sl (.int z), w, c, a1, a2, a3] = some (0, .str ⟨#[122]⟩) := by
    rw [← al5]
    rfl
  refine ⟨repS ⟨#[122]⟩ (u : Int), rep_hi (by omega) (by omega) (by omega), ?_⟩
  rw [set_eq (ev_k0 (ev_rep (p := u) ec e2 hu1 (by omega))) (by simp)]
  rfl
end
theorem names_1 {Pn : Rho → Prop} {Pr : D → Prop} {cnt seed z : Int} {ns : List Str} {w c a1 a2 a3 : Option Sl} {j0 : Nat} (hj0 : (z * 5 + seed) % 12 = (j0 : Int)) (m12 : j0 < 12) (hl : ns.length ≤ 1000)
    (cont : ∀ s a1 a2 a3, NmAt j0 s → Pn [sl (.int cnt), sl (.int seed), some ⟨true, 1, LS (ns ++ [s])⟩, sl (.int z), w, c, a1, a2, a3]) :
    Wp Pn Pr (l_law_names_1 [sl (.int cnt), sl (.int seed), some ⟨true, 1, LS ns⟩, sl (.int z), w, c, a1, a2, a3]) := by
  have fin : ∀ left right : Str, HiL 2 left → HiL 3 right → Wp Pn Pr (appS 2 0 (keep0 (bin addD (bin addD (varP 7) (varP 6)) (varP 8))) [sl (.int cnt), sl (.int seed), some ⟨true, 1, LS ns⟩, sl (.int z), w, c, sl (.str ⟨#[97 + j0]⟩), sl (.str left), sl (.str right)]) := fun left right ⟨l, e1, l1, l2⟩ ⟨t, e2, t1, t2⟩ => by
    have ll : left.length = l.length := by show left.cps.size = _; rw [← Array.length_toList, e1]
    have rl : right.length = t.length := by show right.cps.size = _; rw [← Array.length_toList, e2]
    have cl : (⟨#[97 + j0]⟩ : Str).length = 1 := rfl
    have b1 : addD (.str left) (.str ⟨#[97 + j0]⟩) = some (.str (left ++ ⟨#[97 + j0]⟩)) := by
      have : left.length + (⟨#[97 + j0]⟩ : Str).length ≤ 100000 := by omega
      simp only [addD, this, if_true]
    have b2 : addD (.str (left ++ ⟨#[97 + j0]⟩)) (.str right) = some (.str (left ++ ⟨#[97 + j0]⟩ ++ right)) := by
      have : (left ++ (⟨#[97 + j0]⟩ : Str)).length + right.length ≤ 100000 := by rw [app_len]; omega
      simp only [addD, this, if_true]
    have v6 : varP 6 [sl (.int cnt), sl (.int seed), some ⟨true, 1, LS ns⟩, sl (.int z), w, c, sl (.str ⟨#[97 + j0]⟩), sl (.str left), sl (.str right)] = some (0, .str ⟨#[97 + j0]⟩) := rfl
    have v7 : varP 7 [sl (.int cnt), sl (.int seed), some ⟨true, 1, LS ns⟩, sl (.int z), w, c, sl (.str ⟨#[97 + j0]⟩), sl (.str left), sl (.str right)] = some (0, .str left) := rfl
    have v8 : varP 8 [sl (.int cnt), sl (.int seed), some ⟨true, 1, LS ns⟩, sl (.int z), w, c, sl (.str ⟨#[97 + j0]⟩), sl (.str left), sl (.str right)] = some (0, .str right) := rfl
    have g : ([sl (.int cnt), sl (.int seed), some ⟨true, 1, LS ns⟩, sl (.int z), w, c, sl (.str ⟨#[97 + j0]⟩), sl (.str left), sl (.str right)] : Rho)[2]? = some (some ⟨true, 0 + 1, .lst (ns.map .str)⟩) := rfl
    rw [app_eq g (by rw [List.length_map]; omega) (ev_k0 (ev_bin (ev_bin v7 v6 b1) v8 b2))]
    have := cont (left ++ ⟨#[97 + j0]⟩ ++ right) (sl (.str ⟨#[97 + j0]⟩)) (sl (.str left)) (sl (.str right)) ⟨⟨l, t, by rw [app_l, app_l, e1, e2]; simp, l1, t1, l2, t2⟩, m12⟩
    unfold LS at this
    rw [List.map_append] at this
    exact this
  unfold l_law_names_1
  refine wp_seq (wp_nx (n6 hj0 m12 rfl) ?_)
  obtain ⟨left, L, el⟩ := n7 (cnt := cnt) (seed := seed) (z := z) (A := some ⟨true, 1, LS ns⟩) (w := w) (c := c) (a1 := sl (.str ⟨#[97 + j0]⟩)) (a2 := a2) (a3 := a3)
  refine wp_seq (wp_nx el ?_)
  obtain ⟨right, R, er⟩ := n8 (cnt := cnt) (seed := seed) (z := z) (A := some ⟨true, 1, LS ns⟩) (w := w) (c := c) (a1 := sl (.str ⟨#[97 + j0]⟩)) (a2 := sl (.str left)) (a3 := a3)
  refine wp_seq (wp_nx er ?_)
  have e2 : cmp eqC (bin modD (callP (c1 intD) (aCons (varP 1) aNil)) (cst (.int 2))) (cst (.int 0)) [sl (.int cnt), sl (.int seed), some ⟨true, 1, LS ns⟩, sl (.int z), w, c, sl (.str ⟨#[97 + j0]⟩), sl (.str left), sl (.str right)] = some (decide (seed % 2 = 0)) := ev_c2 (ev_mod (ev_intI (n := 0) (i := seed) rfl) (b := 2) rfl (by omega)) (m := 0) (y := .int 0) rfl (eq_int _ _)
  refine wp_seq (wp_ite e2 (fun hb => ?_) fun hb => wp_sk (fin left right L R))
  obtain ⟨left', L', el'⟩ := n7m (cnt := cnt) (seed := seed) (z := z) (A := some ⟨true, 1, LS ns⟩) (w := w) (c := c) (a1 := sl (.str ⟨#[97 + j0]⟩)) (a2 := sl (.str left)) (a3 := sl (.str right))
  obtain ⟨right', R', er'⟩ := n8z (cnt := cnt) (seed := seed) (z := z) (A := some ⟨true, 1, LS ns⟩) (w := w) (c := c) (a1 := sl (.str ⟨#[97 + j0]⟩)) (a2 := sl (.str left')) (a3 := sl (.str right))
  exact wp_seq (wp_nx el' (wp_nx er' (fin left' right' L' R')))
theorem names_fin {Pn : Rho → Prop} {Pr : D → Prop} {n : Nat} {seed : Int} {a2 a3 a5 a6 a7 a8 : Option Sl} {ws : List Str} (hw1 : ws.Nodup) (hw2 : (ws.all nmB) = true) (hwl : ws.length = 12) (hn : n ≤ 12) (h : ∀ names, Names names n → Pr (LS names)) :
    Wp Pn Pr (seqS (setS 5 (keep0 (bin modD (callP (c1 intD) (aCons (bin divD (varP 1) (cst (.int 6))) aNil)) (cst (.int 12))))) (retS 0 (keep0 (cutP (bin addD (cutP (varP 4) (ofO (varP 5)) noO) (cutP (varP 4) noO (ofO (varP 5)))) noO (ofO (varP 0))))) [sl (.int (n : Int)), sl (.int seed), a2, a3, sl (LS ws), a5, a6, a7, a8]) := by
  obtain ⟨p, hp1, hp2⟩ := nat_mod (a := seed / 6) (n := 12) (by omega)
  have e1 : bin modD (callP (c1 intD) (aCons (bin divD (varP 1) (cst (.int 6))) aNil)) (cst (.int 12)) [sl (.int (n : Int)), sl (.int seed), a2, a3, sl (LS ws), a5, a6, a7, a8] = some (0, .int (seed / 6 % 12)) := ev_mod (ev_intI (n := 0) (ev_div (a := seed) (b := 6) rfl rfl (by omega))) (b := 12) rfl (by omega)
  have hp1 : seed / 6 % 12 = (p : Int) := hp1
  rw [hp1] at e1
  refine wp_seq (wp_nx (set_eq (ev_k0 e1) (by simp)) ?_)
  show Wp _ _ (retS 0 _ [sl (.int (n : Int)), sl (.int seed), a2, a3, sl (LS ws), sl (.int (p : Int)), a6, a7, a8])
  have r := ev_rot D.str (ρ := [sl (.int (n : Int)), sl (.int seed), a2, a3, sl (LS ws), sl (.int (p : Int)), a6, a7, a8]) (fa := varP 4) (fi := varP 5) (xs := ws) (i := (p : Int)) (j := p) (m := 0) rfl rfl rfl (by omega)
  have t := ev_cutTake D.str (fi := varP 0) (m := 0) (i := (n : Int)) (j := n) r rfl rfl
  exact wp_ret0 (ev_k0 t) (h _ (rot_names hw1 hw2 p n (by omega)))
theorem ws1 : (fun ρ => ((small (kept (aCons (cst (.str "ab")) (aCons (cst (.str "a")) (aCons (cst (.str "abc")) (aCons (cst (.str "aa")) (aCons (cst (.str "b")) (aCons (cst (.str "ba")) (aCons (cst (.str "aab")) (aCons (cst (.str "bb")) (aCons (cst (.str "abcdefg")) (aCons (cst (.str "abcdefh")) (aCons (cst (.str "aba")) (aCons (cst (.str "bab")) aNil)))))))))))))) ρ).map fun ds => ((0 : Nat), D.lst ds)) = fun _ => some (0, LS words1) := rfl
theorem ws2 : (fun ρ => ((small (kept (aCons (cst (.str "first")) (aCons (cst (.str "row")) (aCons (cst (.str "end")) (aCons (cst (.str "near")) (aCons (cst (.str "span")) (aCons (cst (.str "last")) (aCons (cst (.str "before")) (aCons (cst (.str "window")) (aCons (cst (.str "over")) (aCons (cst (.str "column")) (aCons (cst (.str "not")) (aCons (cst (.str "ask")) aNil)))))))))))))) ρ).map fun ds => ((0 : Nat), D.lst ds)) = fun _ => some (0, LS words2) := rfl
def cidx (j sd : Nat) : Nat := (j * 5 + sd) % 12
theorem cidx_lt (j sd : Nat) : cidx j sd < 12 := Nat.mod_lt _ (by omega)
theorem cidx_int (j sd : Nat) {z seed : Int} (hz : z = j) (hs : seed = sd) : (z * 5 + seed) % 12 = ((cidx j sd : Nat) : Int) := by
  unfold cidx
  omega
theorem cidx_inj {i j sd : Nat} (h : cidx i sd = cidx j sd) (hi : i < 12) (hj : j < 12) : i = j := by
  unfold cidx at h
  omega
def In (n : Nat) (seed : Int) (sd i : Nat) (ρ : Rho) : Prop := ∃ ns a3 a6 a7 a8, ρ = [sl (.int (n : Int)), sl (.int seed), some ⟨true, 1, LS ns⟩, a3, none, none, a6, a7, a8] ∧ ns.length = i ∧ ∀ j s, ns[j]? = some s → NmAt (cidx j sd) s
theorem names_turn {Pr : D → Prop} {n i sd : Nat} {seed : Int} {ns : List Str} {a6 a7 a8 : Option Sl} (hs : seed = sd) (hl : ns.length = i) (hi : i ≤ 12) (hI : ∀ j s, ns[j]? = some s → NmAt (cidx j sd) s) :
    Wp (In n seed sd (i + 1)) Pr (l_law_names_1 [sl (.int (n : Int)), sl (.int seed), some ⟨true, 1, LS ns⟩, sl (.int (i : Int)), none, none, a6, a7, a8]) := by
  have cont : ∀ s b1 b2 b3, NmAt (cidx i sd) s → In n seed sd (i + 1) [sl (.int (n : Int)), sl (.int seed), some ⟨true, 1, LS (ns ++ [s])⟩, sl (.int (i : Int)), none, none, b1, b2, b3] := fun s b1 b2 b3 hs => by
    refine ⟨ns ++ [s], _, b1, b2, b3, rfl, by simp [hl], fun j s' h => ?_⟩
    rw [List.getElem?_append] at h
    split at h
    · exact hI j s' h
    · have hj : j = i := by
        have := (List.getElem?_eq_some_iff.mp h).1
        simp at this
        omega
      subst hj
      have : s = s' := by simpa [hl] using h
      rw [← this]
      exact hs
  have h1 : ((i : Int) * 5 + seed) % 12 = ((cidx i sd : Nat) : Int) := cidx_int i sd rfl hs
  have h2 := cidx_lt i sd
  have h3 : ns.length ≤ 1000 := by omega
  generalize cidx i sd = j0 at *
  generalize ((i : Int)) = z at *
  generalize ((n : Int)) = cnt at *
  have key := @names_1 (In n seed sd (i + 1)) Pr cnt seed z ns none none a6 a7 a8 j0 h1 h2 h3
  exact key cont
end Gn

set_option Elab.async false
set_option linter.all false
set_option maxRecDepth 100000
set_option maxHeartbeats 4000000
/-! k44: names, whole -/
namespace Gn
open PySem Iv Pl
theorem bN3 {d : D} {s0 s1 s2 a3 s4 s5 a6 a7 a8 : Option Sl} : bN 3 d [s0, s1, s2, a3, s4, s5, a6, a7, a8] = some [s0, s1, s2, sl d, s4, s5, a6, a7, a8] := rfl
theorem names_step {Pr : D → Prop} {n i sd : Nat} {seed : Int} {ns : List Str} {a3 a6 a7 a8 : Option Sl} (hs : seed = sd) (hl : ns.length = i) (hi : i ≤ 12) (hI : ∀ j s, ns[j]? = some s → NmAt (cidx j sd) s) :
    ∃ ρ1, bN 3 (D.int (i : Int)) [sl (.int (n : Int)), sl (.int seed), some ⟨true, 1, LS ns⟩, a3, none, none, a6, a7, a8] = some ρ1 ∧ Wp (In n seed sd (i + 1)) Pr (l_law_names_1 ρ1) := by
  refine Exists.intro _ (And.intro bN3 ?_)
  with_reducible exact names_turn hs hl hi hI
theorem e_names {n : Nat} {seed : Int} {sd : Nat} (hs : seed = sd) (hn : n ≤ 12) : ∃ names, F_law_names [(0, .int (n : Int)), (0, .int seed)] = some (LS names) ∧ Names names n := by
  suffices h : ∃ d, F_law_names [(0, .int (n : Int)), (0, .int seed)] = some d ∧ ∃ names, d = LS names ∧ Names names n by
    obtain ⟨d, e, names, rfl, h⟩ := h
    exact ⟨names, e, h⟩
  refine run_wp rfl ?_
  show Wp _ _ (seqS _ _ [sl (.int (n : Int)), sl (.int seed), none, none, none, none, none, none, none])
  have m6 : ∀ {a2 a3 a4 a5 a6 a7 a8 : Option Sl}, bin modD (callP (c1 intD) (aCons (varP 1) aNil)) (cst (.int 6)) [sl (.int (n : Int)), sl (.int seed), a2, a3, a4, a5, a6, a7, a8] = some (0, .int (seed % 6)) := fun {_ _ _ _ _ _ _} => ev_mod (ev_intI (n := 0) (i := seed) rfl) (b := 6) rfl (by omega)
  refine wp_seq (wp_ite (b := decide ((3 : Int) < seed % 6)) (ev_c2 (m := 0) (y := .int 3) m6 rfl rfl) (fun hb => ?_) fun hb => wp_sk ?_)
  · have w4 : keep0 (fun ρ => ((small (kept (aCons (cst (.str "ab")) (aCons (cst (.str "a")) (aCons (cst (.str "abc")) (aCons (cst (.str "aa")) (aCons (cst (.str "b")) (aCons (cst (.str "ba")) (aCons (cst (.str "aab")) (aCons (cst (.str "bb")) (aCons (cst (.str "abcdefg")) (aCons (cst (.str "abcdefh")) (aCons (cst (.str "aba")) (aCons (cst (.str "bab")) aNil)))))))))))))) ρ).map fun ds => ((0 : Nat), D.lst ds)) [sl (.int (n : Int)), sl (.int seed), none, none, none, none, none, none, none] = some (LS words1) := by
      rw [ws1]
      rfl
    generalize hw1 : words1 = ww1 at w4
    refine wp_seq ?_
    rw [set_eq w4 (by simp)]
    refine wp_some ?_
    show Wp _ _ (seqS _ _ [sl (.int (n : Int)), sl (.int seed), none, none, sl (LS ww1), none, none, none, none])
    refine wp_seq (wp_ite (b := decide (seed % 6 = 5)) (ev_c2 (m := 0) (y := .int 5) m6 rfl (eq_int _ _)) (fun hb => ?_) fun hb => wp_sk ?_)
    · have w4 : keep0 (fun ρ => ((small (kept (aCons (cst (.str "first")) (aCons (cst (.str "row")) (aCons (cst (.str "end")) (aCons (cst (.str "near")) (aCons (cst (.str "span")) (aCons (cst (.str "last")) (aCons (cst (.str "before")) (aCons (cst (.str "window")) (aCons (cst (.str "over")) (aCons (cst (.str "column")) (aCons (cst (.str "not")) (aCons (cst (.str "ask")) aNil)))))))))))))) ρ).map fun ds => ((0 : Nat), D.lst ds)) [sl (.int (n : Int)), sl (.int seed), none, none, sl (LS ww1), none, none, none, none] = some (LS words2) := by
        rw [ws2]
        rfl
      generalize hw2 : words2 = ww2 at w4
      rw [set_eq w4 (by simp)]
      refine wp_some ?_
      have w2 := w2
      rw [hw2] at w2
      exact names_fin w2.1 w2.2 (by rw [← hw2]; rfl) hn fun names h => ⟨names, rfl, h⟩
    · have w1 := w1
      rw [hw1] at w1
      exact names_fin w1.1 w1.2 (by rw [← hw1]; rfl) hn fun names h => ⟨names, rfl, h⟩
  · refine wp_seq (wp_setO (d := .lst []) rfl (by simp) ?_)
    refine wp_seq (wp_for (rng_I (n := n) (m := 0) rfl (by omega)) (In n seed sd) ⟨[], none, none, none, none, rfl, rfl, fun j s h => by simp at h⟩ (fun i dd ρ hd ⟨ns, a3, a6, a7, a8, hρ, hl, hI⟩ => ?_) fun ρ' ⟨ns, a3, a6, a7, a8, hρ, hl, hI⟩ => ?_)
    · subst hρ
      obtain ⟨hi, rfl⟩ := at_rng hd
      exact names_step hs hl (Nat.le_of_lt (Nat.lt_of_lt_of_le hi hn)) hI
    · subst hρ
      rw [List.length_map, List.length_range] at hl
      refine wp_frz (n := 1) (d := LS ns) rfl (wp_ret0 (d := LS ns) rfl ⟨ns, rfl, hl, ?_, fun s hs => ?_⟩)
      · refine List.pairwise_iff_getElem.mpr fun i j hi hj hij z => ?_
        have h1 := hI i ns[i] (List.getElem?_eq_getElem hi)
        have h2 := hI j ns[j] (List.getElem?_eq_getElem hj)
        rw [z] at h1
        have := cidx_inj (h1.inj h2) (by omega) (by omega)
        omega
      · obtain ⟨j, hj, rfl⟩ := List.mem_iff_getElem.mp hs
        exact (hI j _ (List.getElem?_eq_getElem hj)).nm
end Gn

set_option Elab.async false
set_option linter.all false
set_option maxRecDepth 100000
set_option maxHeartbeats 4000000
/-! k44: the rows of a ring -/
namespace Gn
open PySem Iv Pl
def add1 (rows : List (List Str)) (a : Nat) (x : Str) : List (List Str) := rows.set a (rows.getD a [] ++ [x])
theorem add1_len (rows : List (List Str)) (a : Nat) (x : Str) : (add1 rows a x).length = rows.length := by simp [add1]
theorem add1_get {rows : List (List Str)} {a : Nat} {x : Str} (ha : a < rows.length) (i : Nat) : (add1 rows a x).getD i [] = rows.getD i [] ++ if i = a then [x] else [] := by
  unfold add1
  by_cases h : i = a
  · subst h
    simp [List.getD_eq_getElem?_getD, List.getElem?_set, ha]
  · have h' : ¬ a = i := fun z => h z.symm
    simp [List.getD_eq_getElem?_getD, List.getElem?_set, h, h']
theorem nd_inj {xs : List Str} (h : xs.Nodup) {i j : Nat} (hi : i < xs.length) (hj : j < xs.length) (e : xs.getD i e0 = xs.getD j e0) : i = j := by
  rw [List.getD_eq_getElem?_getD, List.getD_eq_getElem?_getD, List.getElem?_eq_getElem hi, List.getElem?_eq_getElem hj, Option.getD_some, Option.getD_some] at e
  have p := List.pairwise_iff_getElem.mp h
  rcases Nat.lt_trichotomy i j with z | z | z
  · exact absurd e (p i j hi hj z)
  · exact z
  · exact absurd e.symm (p j i hj hi z)
theorem getD_take {xs : List Str} {i k : Nat} (h : i < k) (hi : i < xs.length) : xs.getD i e0 ∈ xs.take k := by
  rw [List.getD_eq_getElem?_getD, List.getElem?_eq_getElem hi, Option.getD_some]
  exact List.mem_take_iff_getElem.mpr ⟨i, by omega, rfl⟩
theorem getD_fresh {xs : List Str} {k : Nat} (h : xs.Nodup) (hk : k < xs.length) : xs.getD k e0 ∉ xs.take k := fun z => by
  obtain ⟨i, hi, e⟩ := List.mem_take_iff_getElem.mp z
  have := nd_inj h (i := i) (j := k) (by omega) hk (by rw [← e, List.getD_eq_getElem?_getD, List.getElem?_eq_getElem (by omega), Option.getD_some])
  omega
theorem mem_getD {rows : List (List Str)} {row : List Str} (h : row ∈ rows) : ∃ i, i < rows.length ∧ row = rows.getD i [] := by
  obtain ⟨i, hi, e⟩ := List.mem_iff_getElem.mp h
  exact ⟨i, hi, by rw [List.getD_eq_getElem?_getD, List.getElem?_eq_getElem hi, Option.getD_some, e]⟩
theorem getD_mem {rows : List (List Str)} {i : Nat} (h : i < rows.length) : rows.getD i [] ∈ rows := by
  rw [List.getD_eq_getElem?_getD, List.getElem?_eq_getElem h, Option.getD_some]
  exact List.getElem_mem h
structure RI (order : List Str) (m k : Nat) (rows : List (List Str)) : Prop where
  len : rows.length = m
  base : ∀ i, i < m → order.getD i e0 ∈ rows.getD i [] ∧ order.getD ((i + 1) % m) e0 ∈ rows.getD i []
  nd : ∀ row ∈ rows, row.Nodup ∧ ∀ x ∈ row, x ∈ order.take k
  far : ∀ i j, i < m → j < i → 1 < i - j → i - j < m - 1 → ∀ c ∈ rows.getD i [], c ∉ rows.getD j []
theorem RI.grow {order : List Str} {m k : Nat} {rows rows' : List (List Str)} (I : RI order m k rows) (ho : order.Nodup) (hk : k < order.length) (S : Nat → Bool) (hS : ∀ i j, i < m → j < i → S i = true → S j = true → 1 < i - j → i - j < m - 1 → False) (hl : rows'.length = m)
    (hg : ∀ i, i < m → rows'.getD i [] = rows.getD i [] ++ if S i = true then [order.getD k e0] else []) : RI order m (k + 1) rows' := by
  have old : ∀ i, i < m → ∀ c ∈ rows.getD i [], c ≠ order.getD k e0 := fun i hi c hc e => by
    have := (I.nd _ (getD_mem (by rw [I.len]; exact hi))).2 c hc
    rw [e] at this
    exact getD_fresh ho hk this
  have inn : ∀ i, i < m → ∀ c ∈ rows'.getD i [], c ∈ rows.getD i [] ∨ (S i = true ∧ c = order.getD k e0) := fun i hi c hc => by
    rw [hg i hi] at hc
    rcases List.mem_append.mp hc with z | z
    · exact .inl z
    · split at z
      · rename_i hs
        exact .inr ⟨hs, by simpa using z⟩
      · cases z
  refine ⟨hl, fun i hi => ?_, fun row hr => ?_, fun i j hi hj h1 h2 c hc hc' => ?_⟩
  · rw [hg i hi]
    exact ⟨List.mem_append_left _ (I.base i hi).1, List.mem_append_left _ (I.base i hi).2⟩
  · obtain ⟨i, hi, rfl⟩ := mem_getD hr
    rw [hl] at hi
    have n0 := I.nd _ (getD_mem (rows := rows) (i := i) (by rw [I.len]; exact hi))
    refine ⟨?_, fun x hx => ?_⟩
    · rw [hg i hi]
      split
      · refine List.nodup_append.mpr ⟨n0.1, by simp, fun a ha b hb => ?_⟩
        rw [List.mem_singleton.mp hb]
        exact old i hi a ha
      · simpa using n0.1
    · rcases inn i hi x hx with z | ⟨_, rfl⟩
      · have := n0.2 x z
        exact List.mem_of_mem_take (i := k) (by rw [List.take_take, Nat.min_eq_left (by omega)]; exact this)
      · exact getD_take (by omega) hk
  · rcases inn i hi c hc with z | ⟨s1, e1⟩
    · rcases inn j (by omega) c hc' with z' | ⟨s2, e2⟩
      · exact I.far i j hi hj h1 h2 c z z'
      · exact old i hi c z e2
    · rcases inn j (by omega) c hc' with z' | ⟨s2, e2⟩
      · exact old j (by omega) c z' e1
      · exact hS i j hi hj s1 s2 h1 h2
theorem RI.skip {order : List Str} {m k : Nat} {rows : List (List Str)} (I : RI order m k rows) (ho : order.Nodup) (hk : k < order.length) : RI order m (k + 1) rows :=
  I.grow ho hk (fun _ => false) (fun _ _ _ _ h => by cases h) I.len fun i hi => by simp
theorem RI.one {order : List Str} {m k a : Nat} {rows : List (List Str)} (I : RI order m k rows) (ho : order.Nodup) (hk : k < order.length) (ha : a < m) : RI order m (k + 1) (add1 rows a (order.getD k e0)) :=
  I.grow ho hk (fun i => decide (i = a)) (fun i j _ h h1 h2 => by
    have := of_decide_eq_true h1
    have := of_decide_eq_true h2
    omega) (by rw [add1_len, I.len]) fun i hi => by rw [add1_get (by rw [I.len]; exact ha)]; simp
theorem RI.two {order : List Str} {m k a : Nat} {rows : List (List Str)} (I : RI order m k rows) (ho : order.Nodup) (hk : k < order.length) (ha : a < m) (hm : 4 ≤ m) : RI order m (k + 1) (add1 (add1 rows a (order.getD k e0)) ((a + 1) % m) (order.getD k e0)) := by
  have hb : (a + 1) % m < m := Nat.mod_lt _ (by omega)
  have hb' : (a + 1 < m ∧ (a + 1) % m = a + 1) ∨ (a + 1 = m ∧ (a + 1) % m = 0) := by
    by_cases h : a + 1 < m
    · exact .inl ⟨h, Nat.mod_eq_of_lt h⟩
    · have : a + 1 = m := by omega
      exact .inr ⟨this, by rw [this, Nat.mod_self]⟩
  generalize (a + 1) % m = b at *
  refine I.grow ho hk (fun i => decide (i = a) || decide (i = b)) (fun i j hi h h1 h2 h3 h4 => ?_) (by rw [add1_len, add1_len, I.len]) fun i hi => ?_
  · simp at h1 h2
    omega
  · rw [add1_get (by rw [add1_len, I.len]; exact hb), add1_get (by rw [I.len]; exact ha), List.append_assoc]
    congr 1
    by_cases h1 : i = a
    · have : ¬ i = b := by omega
      simp [h1] at this ⊢
      simp [this]
    · simp [h1]
theorem RI.start {order : List Str} {m : Nat} (ho : order.Nodup) (hm : 4 ≤ m) (hn : m ≤ order.length) : RI order m m ((List.range m).map fun i => [order.getD i e0, order.getD ((i + 1) % m) e0]) := by
  have g : ∀ i, i < m → ((List.range m).map fun i => [order.getD i e0, order.getD ((i + 1) % m) e0]).getD i [] = [order.getD i e0, order.getD ((i + 1) % m) e0] := fun i hi => by
    simp [List.getD_eq_getElem?_getD, List.getElem?_map, List.getElem?_range hi]
  have md : ∀ i, i < m → (i + 1 < m ∧ (i + 1) % m = i + 1) ∨ (i + 1 = m ∧ (i + 1) % m = 0) := fun i hi => by
    by_cases h : i + 1 < m
    · exact .inl ⟨h, Nat.mod_eq_of_lt h⟩
    · have : i + 1 = m := by omega
      exact .inr ⟨this, by rw [this, Nat.mod_self]⟩
  refine ⟨by simp, fun i hi => ?_, fun row hr => ?_, fun i j hi hj h1 h2 c hc hc' => ?_⟩
  · rw [g i hi]
    simp
  · obtain ⟨i, hi, rfl⟩ := List.mem_map.mp hr
    have hi := List.mem_range.mp hi
    have := md i hi
    refine ⟨?_, fun x hx => ?_⟩
    · simp only [List.nodup_cons, List.mem_singleton, List.not_mem_nil, not_false_eq_true, List.nodup_nil, and_true]
      intro e
      have := nd_inj ho (by omega) (by omega) e
      omega
    · simp at hx
      rcases hx with rfl | rfl
      · exact getD_take hi (by omega)
      · exact getD_take (by omega) (by omega)
  · rw [g i hi] at hc
    rw [g j (by omega)] at hc'
    have mi := md i hi
    have mj := md j (by omega)
    simp only [List.mem_cons, List.not_mem_nil, or_false] at hc hc'
    rcases hc with rfl | rfl
    · rcases hc' with e | e
      · have := nd_inj ho (by omega) (by omega) e
        omega
      · have := nd_inj ho (by omega) (by omega) e
        omega
    · rcases hc' with e | e
      · have := nd_inj ho (by omega) (by omega) e
        omega
      · have := nd_inj ho (by omega) (by omega) e
        omega
end Gn

set_option Elab.async false
set_option linter.all false
set_option maxRecDepth 100000
set_option maxHeartbeats 4000000
/-! k44: the rows of a ring, run -/
namespace Gn
open PySem Iv Pl
theorem nd_le : ∀ (xs ys : List Str), xs.Nodup → (∀ x ∈ xs, x ∈ ys) → xs.length ≤ ys.length
  | [], ys, _, _ => Nat.zero_le _
  | x :: xs, ys, h, hs => by
    have h := List.nodup_cons.mp h
    have hx := hs x (List.mem_cons_self ..)
    have := nd_le xs (ys.erase x) h.2 fun y hy => (List.mem_erase_of_ne (fun e => h.1 (by rw [← e]; exact hy))).mpr (hs y (List.mem_cons_of_mem _ hy))
    rw [List.length_erase_of_mem hx] at this
    have := List.length_pos_of_mem hx
    simp only [List.length_cons]
    omega
theorem wp_app2 {Pn : Rho → Prop} {Pr : D → Prop} {ρ : Rho} {i m n a : Nat} {z : Int} {s : Str} {rows : List (List Str)} {fj : Pk} {f : Rho → Option D} (e0 : ρ[i]? = some (some ⟨true, m + 2, LL rows⟩)) (ez : fj ρ = some (n, .int z)) (hz : z = a) (ha : a < rows.length) (hl : (rows.getD a []).length ≤ 1000) (e : f ρ = some (.str s)) (h : Pn (ρ.set i (some ⟨true, m + 2, LL (add1 rows a s)⟩))) : Wp Pn Pr (app2S i m fj f ρ) := by
  have e1 : (rows.map LS)[a]? = some (LS (rows.getD a [])) := by
    rw [List.getElem?_map, List.getD_eq_getElem?_getD, List.getElem?_eq_getElem ha]
    rfl
  have e2 : L2.ixN (rows.map LS).length z = some a := by
    simp only [L2.ixN, List.length_map]
    rw [if_pos (by omega), if_pos (by omega)]
    congr 1
    omega
  have e3 : (rows.map LS).set a (D.lst ((rows.getD a []).map D.str ++ [D.str s])) = (add1 rows a s).map LS := by
    unfold add1
    rw [List.map_set]
    congr 1
    show D.lst _ = D.lst _
    rw [List.map_append]
    rfl
  have : app2S i m fj f ρ = some (.nx, ρ.set i (some ⟨true, m + 2, LL (add1 rows a s)⟩)) := by
    have hl' : ((rows.getD a []).map D.str).length < 99999 := by rw [List.length_map]; omega
    unfold app2S
    rw [e0]
    simp only [asI, ez, Option.bind_some, e2, e1, hl', and_self, if_true, e, Option.map_some, e3]
  rw [this]
  exact h
theorem e_pow23 {ρ : Rho} : bin powD (cst (.int 2)) (cst (.int 3)) ρ = some (0, .int 8) := ev_bin rfl rfl (by rfl)
theorem ring_turn {Pn : Rho → Prop} {Pr : D → Prop} {order : List Str} {m k : Nat} {M z draw : Int} {rows : List (List Str)} {s5 : Option Sl} (hM : M = m) (hz : z = k) (ho : order.Nodup) (hm : 4 ≤ m) (hk : k < order.length) (hl : order.length ≤ 12) (I : RI order m k rows)
    (cont : ∀ rows' d, RI order m (k + 1) rows' → Pn [sl (LS order), sl (.int M), sl (.int draw), some ⟨true, 2, LL rows'⟩, sl (.int z), d]) :
    Wp Pn Pr (l_law_ring_rows_1 [sl (LS order), sl (.int M), sl (.int draw), some ⟨true, 2, LL rows⟩, sl (.int z), s5]) := by
  have hr : ∀ a, a < m → (rows.getD a []).length ≤ 12 := fun a ha => by
    have := I.nd _ (getD_mem (rows := rows) (i := a) (by rw [I.len]; exact ha))
    have := nd_le _ order this.1 fun x hx => List.mem_of_mem_take (this.2 x hx)
    omega
  obtain ⟨a, ha1, ha2⟩ := nat_mod (a := draw / 8 + z * 5) (n := m + 1) (by omega)
  have ha1 : (draw / 8 + z * 5) % (M + 1) = (a : Int) := by rw [hM]; exact ha1
  unfold l_law_ring_rows_1
  have e1 : ∀ A, bin modD (callP (c1 intD) (aCons (bin addD (bin divD (varP 2) (bin powD (cst (.int 2)) (cst (.int 3)))) (bin mulD (varP 4) (cst (.int 5)))) aNil)) (bin addD (varP 1) (cst (.int 1))) [sl (LS order), sl (.int M), sl (.int draw), A, sl (.int z), s5] = some (0, .int ((draw / 8 + z * 5) % (M + 1))) := fun A =>
    ev_mod (ev_intI (n := 0) (ev_adI (ev_div (a := draw) (b := 8) rfl e_pow23 (by omega)) (ev_mul (a := z) (b := 5) rfl rfl (by omega)))) (ev_adI (a := M) (b := 1) rfl rfl) (by omega)
  have e1 := e1 (some ⟨true, 2, LL rows⟩)
  rw [ha1] at e1
  generalize ez : ((a : Nat) : Int) = az at e1
  refine wp_seq (wp_nx (set_eq (ev_k0 e1) (by simp)) ?_)
  show Wp _ _ (seqS _ _ [sl (LS order), sl (.int M), sl (.int draw), some ⟨true, 2, LL rows⟩, sl (.int z), sl (.int az)])
  have ex : ∀ A, keep0 (ixP (varP 0) (varP 4)) [sl (LS order), sl (.int M), sl (.int draw), A, sl (.int z), sl (.int az)] = some (.str (order.getD k e0)) := fun A =>
    ev_k0 (ev_ix D.str (n := 0) (m := 0) (xs := order) (i := z) (j := k) (x := order.getD k e0) rfl rfl hz (by rw [List.getD_eq_getElem?_getD, List.getElem?_eq_getElem hk, Option.getD_some]))
  have elt : ∀ A, cmp ltC (varP 5) (varP 1) [sl (LS order), sl (.int M), sl (.int draw), A, sl (.int z), sl (.int az)] = some (decide (az < M)) := fun A => ev_c2 (n := 0) (m := 0) (x := .int az) (y := .int M) rfl rfl rfl
  have e3 : ∀ A, cmp eqC (bin modD (callP (c1 intD) (aCons (bin addD (varP 2) (varP 4)) aNil)) (cst (.int 3))) (cst (.int 0)) [sl (LS order), sl (.int M), sl (.int draw), A, sl (.int z), sl (.int az)] = some (decide ((draw + z) % 3 = 0)) := fun A =>
    ev_c2 (ev_mod (ev_intI (n := 0) (ev_adI (a := draw) (b := z) rfl rfl)) (b := 3) rfl (by omega)) (m := 0) (y := .int 0) rfl (eq_int _ _)
  refine wp_seq (wp_ite (elt _) (fun hb => ?_) fun hb => wp_sk ?_)
  · have hb := of_decide_eq_true hb
    have ham : a < m := by omega
    refine wp_app2 (n := 0) (a := a) (z := az) (s := order.getD k e0) (rows := rows) rfl rfl ez.symm (by rw [I.len]; exact ham) (by have := hr a ham; omega) (ex _) ?_
    show Wp _ _ (iteS _ _ _ [sl (LS order), sl (.int M), sl (.int draw), some ⟨true, 2, LL (add1 rows a (order.getD k e0))⟩, sl (.int z), sl (.int az)])
    refine wp_ite (ev_and (elt _) fun _ => e3 _) (fun hb => ?_) fun hb => wp_sk (cont _ _ (I.one ho hk ham))
    have hb2 : (a + 1) % m < m := Nat.mod_lt _ (by omega)
    have e4 : ∀ A, bin modD (callP (c1 intD) (aCons (bin addD (varP 5) (cst (.int 1))) aNil)) (varP 1) [sl (LS order), sl (.int M), sl (.int draw), A, sl (.int z), sl (.int az)] = some (0, .int ((az + 1) % M)) := fun A =>
      ev_mod (ev_intI (n := 0) (ev_adI (a := az) (b := 1) rfl rfl)) (b := M) rfl (by omega)
    refine wp_app2 (n := 0) (a := (a + 1) % m) (z := (az + 1) % M) (s := order.getD k e0) (rows := add1 rows a (order.getD k e0)) rfl (e4 _) ?_ (by rw [add1_len, I.len]; exact hb2) ?_ (ex _) ?_
    · rw [← ez, hM]
      rfl
    · rw [add1_get (by rw [I.len]; exact ham), List.length_append]
      have := hr _ hb2
      split
      · simp only [List.length_cons, List.length_nil]
        omega
      · simp only [List.length_nil]
        omega
    · exact cont _ _ (I.two ho hk ham hm)
  · refine wp_ite (ev_and (elt _) fun _ => e3 _) (fun hb' => ?_) fun hb => wp_sk (cont _ _ (I.skip ho hk))
    rw [hb] at hb'
    cases hb'
end Gn

set_option Elab.async false
set_option linter.all false
set_option maxRecDepth 100000
set_option maxHeartbeats 4000000
/-! k44: the rows of a ring, whole -/
namespace Gn
open PySem Iv Pl
def IR (order : List Str) (m : Nat) (draw : Int) (n : Nat) (ρ : Rho) : Prop := ∃ rows c d, ρ = [sl (LS order), sl (.int (m : Int)), sl (.int draw), some ⟨true, 2, LL rows⟩, c, d] ∧ RI order m (m + n) rows
theorem ring_step {Pr : D → Prop} {order : List Str} {m n i : Nat} {draw : Int} {dd : D} {ρ : Rho} (ho : order.Nodup) (hm : 4 ≤ m) (hn : m + n = order.length) (hl : order.length ≤ 12) (hi : i < n) (hd : dd = .int ((m + i : Nat) : Int)) (h : IR order m draw i ρ) :
    ∃ ρ1, bN 4 dd ρ = some ρ1 ∧ Wp (IR order m draw (i + 1)) Pr (l_law_ring_rows_1 ρ1) := by
  obtain ⟨rows, c, d, hρ, I⟩ := h
  subst hρ
  subst hd
  refine ⟨[sl (LS order), sl (.int (m : Int)), sl (.int draw), some ⟨true, 2, LL rows⟩, sl (.int ((m + i : Nat) : Int)), d], rfl, ?_⟩
  have cont : ∀ rows' d, RI order m (m + i + 1) rows' → IR order m draw (i + 1) [sl (LS order), sl (.int (m : Int)), sl (.int draw), some ⟨true, 2, LL rows'⟩, sl (.int ((m + i : Nat) : Int)), d] := fun rows' d I' => ⟨rows', _, d, rfl, I'⟩
  have hk : m + i < order.length := by omega
  generalize IR order m draw (i + 1) = Q at *
  generalize hM : ((m : Nat) : Int) = M at *
  generalize hz : ((m + i : Nat) : Int) = z at *
  with_reducible exact ring_turn hM.symm hz.symm ho hm hk hl I cont
theorem e_ring_rows {order : List Str} {m : Nat} {draw : Int} (ho : order.Nodup) (hm : 4 ≤ m) (hn : m ≤ order.length) (hl : order.length ≤ 12) : ∃ rows, F_law_ring_rows [(0, LS order), (0, .int (m : Int)), (0, .int draw)] = some (LL rows) ∧ RI order m order.length rows := by
  suffices h : ∃ d, F_law_ring_rows [(0, LS order), (0, .int (m : Int)), (0, .int draw)] = some d ∧ ∃ rows, d = LL rows ∧ RI order m order.length rows by
    obtain ⟨d, e, rows, rfl, h⟩ := h
    exact ⟨rows, e, h⟩
  refine run_wp rfl ?_
  show Wp _ _ (seqS _ _ [sl (LS order), sl (.int (m : Int)), sl (.int draw), none, none, none])
  have g : ∀ i, i < order.length → order[i]? = some (order.getD i e0) := fun i hi => by rw [List.getD_eq_getElem?_getD, List.getElem?_eq_getElem hi, Option.getD_some]
  have e1 : lcG [4] (rngI (rg1 (varP 1))) (bN 4) yesT (fun ρ => ((small (kept (aCons (ixP (varP 0) (varP 4)) (aCons (ixP (varP 0) (bin modD (callP (c1 intD) (aCons (bin addD (varP 4) (cst (.int 1))) aNil)) (varP 1))) aNil)))) ρ).map fun ds => D.lst ds) [sl (LS order), sl (.int (m : Int)), sl (.int draw), none, none, none] = some (LL ((List.range m).map fun i => [order.getD i e0, order.getD ((i + 1) % m) e0])) := by
    have := ev_all (fun (j : Nat) => D.int j) (fun i => LS [order.getD i e0, order.getD ((i + 1) % m) e0]) (fi := rngI (rg1 (varP 1))) (vs := [4]) (bd := bN 4) (f := fun ρ => ((small (kept (aCons (ixP (varP 0) (varP 4)) (aCons (ixP (varP 0) (bin modD (callP (c1 intD) (aCons (bin addD (varP 4) (cst (.int 1))) aNil)) (varP 1))) aNil)))) ρ).map fun ds => D.lst ds) (ρ := [sl (LS order), sl (.int (m : Int)), sl (.int draw), none, none, none]) (List.range m) (rng_I (n := m) (m := 0) rfl (by omega)) (by rw [List.length_range]; omega) fun i hi => ?_
    · rw [this]
      simp only [LL, List.map_map]
      rfl
    · have hi := List.mem_range.mp hi
      have hi2 : (i + 1) % m < m := Nat.mod_lt _ (by omega)
      refine ⟨[sl (LS order), sl (.int (m : Int)), sl (.int draw), none, sl (.int (i : Int)), none], rfl, ?_⟩
      have x1 : ixP (varP 0) (varP 4) [sl (LS order), sl (.int (m : Int)), sl (.int draw), none, sl (.int (i : Int)), none] = some (0, .str (order.getD i e0)) := ev_ix D.str (n := 0) (m := 0) (xs := order) (i := (i : Int)) (j := i) rfl rfl rfl (g i (by omega))
      have x2 : bin modD (callP (c1 intD) (aCons (bin addD (varP 4) (cst (.int 1))) aNil)) (varP 1) [sl (LS order), sl (.int (m : Int)), sl (.int draw), none, sl (.int (i : Int)), none] = some (0, .int (((i : Int) + 1) % m)) := ev_mod (ev_intI (n := 0) (ev_adI (a := (i : Int)) (b := 1) rfl rfl)) (b := (m : Int)) rfl (by omega)
      have x3 := ev_ix D.str (fa := varP 0) (n := 0) (m := 0) (xs := order) (i := ((i : Int) + 1) % m) (j := (i + 1) % m) (x := order.getD ((i + 1) % m) e0) (ρ := [sl (LS order), sl (.int (m : Int)), sl (.int draw), none, sl (.int (i : Int)), none]) rfl x2 rfl (g _ (by omega))
      simp only [small, kept, aCons, aNil, x1, x3, Option.bind_some, Option.map_some]
      rfl
  have e1 := e1
  generalize hr0 : (List.range m).map (fun i => [order.getD i e0, order.getD ((i + 1) % m) e0]) = rows0 at e1
  refine wp_seq (wp_setO e1 (by simp) ?_)
  show Wp _ _ (seqS _ _ [sl (LS order), sl (.int (m : Int)), sl (.int draw), some ⟨true, 2, LL rows0⟩, none, none])
  have er := rng_I2 (fa := varP 1) (fb := callP (c1 lenD) (aCons (varP 0) aNil)) (ρ := [sl (LS order), sl (.int (m : Int)), sl (.int draw), some ⟨true, 2, LL rows0⟩, none, none]) (m := 0) (m' := 0) (a := m) (b := order.length) rfl (ev_lenI (n := 0) (xs := order) rfl) (by omega) (by omega)
  refine wp_seq (wp_for er (IR order m draw) ⟨rows0, none, none, rfl, ?_⟩ (fun i dd ρ hd hI => ?_) fun ρ' hI => ?_)
  · rw [← hr0]
    exact RI.start ho hm hn
  · rw [List.getElem?_map] at hd
    obtain ⟨j, hj, hd⟩ := Option.map_eq_some_iff.mp hd
    obtain ⟨h1, h2⟩ := List.getElem?_eq_some_iff.mp hj
    simp at h1 h2
    subst h2
    exact ring_step (n := order.length - m) ho hm (by omega) hl h1 hd.symm hI
  · obtain ⟨rows, c, d, hρ, I⟩ := hI
    subst hρ
    rw [List.length_map, List.length_range, show m + (order.length - m) = order.length by omega] at I
    exact wp_frz (n := 2) (d := LL rows) rfl (wp_ret0 (d := LL rows) rfl ⟨rows, rfl, I⟩)
end Gn

set_option Elab.async false
set_option linter.all false
set_option maxRecDepth 100000
set_option maxHeartbeats 4000000
/-! k44: the rows of a crowd -/
namespace Gn
open PySem Iv Pl
def cbase (order : List Str) (k : Nat) : List Str := match k % 4 with
  | 0 => [order.getD 0 e0, order.getD 1 e0]
  | 1 => [order.getD 1 e0, order.getD 2 e0]
  | 2 => [order.getD 2 e0, order.getD 0 e0]
  | _ => [order.getD 1 e0, order.getD 0 e0, order.getD 2 e0]
structure CT (order : List Str) (m k i : Nat) (t : List Str) : Prop where
  nd : t.Nodup
  len : t.length ≤ i
  all : ∀ x ∈ t, ∃ j, j < i ∧ 3 + j < order.length ∧ x = order.getD (3 + j) e0 ∧ (j + k) % m ≠ 0
theorem CT.mono {order : List Str} {m k i : Nat} {t : List Str} (h : CT order m k i t) : CT order m k (i + 1) t :=
  ⟨h.nd, by have := h.len; omega, fun x hx => by
    obtain ⟨j, h1, h2⟩ := h.all x hx
    exact ⟨j, by omega, h2⟩⟩
theorem CT.app {order : List Str} {m k i : Nat} {t : List Str} (h : CT order m k i t) (ho : order.Nodup) (hi : 3 + i < order.length) (hm : (i + k) % m ≠ 0) : CT order m k (i + 1) (t ++ [order.getD (3 + i) e0]) := by
  refine ⟨List.nodup_append.mpr ⟨h.nd, by simp, fun a ha b hb => ?_⟩, by have := h.len; simp; omega, fun x hx => ?_⟩
  · rw [List.mem_singleton.mp hb]
    intro e
    obtain ⟨j, h1, h2, h3, _⟩ := h.all a ha
    have := nd_inj ho h2 hi (by rw [← h3, e])
    omega
  · rcases List.mem_append.mp hx with z | z
    · obtain ⟨j, h1, h2⟩ := h.all x z
      exact ⟨j, by omega, h2⟩
    · exact ⟨i, by omega, hi, List.mem_singleton.mp z, hm⟩
theorem cbase_len (order : List Str) (k : Nat) : (cbase order k).length ≤ 3 := by
  unfold cbase
  split <;> simp
theorem crowd_in {Pn : Rho → Prop} {Pr : D → Prop} {order t : List Str} {m k i : Nat} {M z zi draw sh : Int} {A : Option Sl} (hM : M = m) (hz : z = k) (hzi : zi = i) (hm : 3 ≤ m) (ho : order.Nodup) (hi : 3 + i < order.length) (hl : order.length ≤ 12) (I : CT order m k i t)
    (cont : ∀ t', CT order m k (i + 1) t' → Pn [sl (LS order), sl (.int M), sl (.int draw), A, sl (.int z), sl (LS (cbase order k ++ t')), sl (LS (order.drop 3)), sl (.int sh), sl (.int zi)]) :
    Wp Pn Pr (l_law_crowd_rows_1 [sl (LS order), sl (.int M), sl (.int draw), A, sl (.int z), sl (LS (cbase order k ++ t)), sl (LS (order.drop 3)), sl (.int sh), sl (.int zi)]) := by
  have hlen : (cbase order k ++ t).length ≤ 1000 := by
    rw [List.length_append]
    have := cbase_len order k
    have := I.len
    omega
  have hx : (order.drop 3)[i]? = some (order.getD (3 + i) e0) := by
    rw [List.getElem?_drop, List.getD_eq_getElem?_getD, List.getElem?_eq_getElem hi, Option.getD_some]
  have hno : ¬ (decide ((zi + z) % M ≠ 0) = true) ∨ (i + k) % m ≠ 0 := by
    by_cases h : (i + k) % m = 0
    · refine .inl fun hd => of_decide_eq_true hd ?_
      rw [hzi, hz, hM]
      have : (((i + k) % m : Nat) : Int) = 0 := by rw [h]; rfl
      rw [← this]
      rfl
    · exact .inr h
  generalize hr : cbase order k ++ t = row at *
  generalize hrest : order.drop 3 = rest at *
  unfold l_law_crowd_rows_1
  have e1 : ∀ R, cmp neC (bin modD (callP (c1 intD) (aCons (bin addD (bin addD (varP 7) (bin mulD (varP 8) (cst (.int 3)))) (varP 4)) aNil)) (cst (.int 4))) (cst (.int 0)) [sl (LS order), sl (.int M), sl (.int draw), A, sl (.int z), R, sl (LS rest), sl (.int sh), sl (.int zi)] = some (decide ((sh + zi * 3 + z) % 4 ≠ 0)) := fun R =>
    ev_c2 (ev_mod (ev_intI (n := 0) (ev_adI (ev_adI (a := sh) rfl (ev_mul (a := zi) (b := 3) rfl rfl (by omega))) (b := z) rfl)) (b := 4) rfl (by omega)) (m := 0) (y := .int 0) rfl (ne_int _ _)
  have e2 : ∀ R, cmp neC (bin modD (callP (c1 intD) (aCons (bin addD (varP 8) (varP 4)) aNil)) (varP 1)) (cst (.int 0)) [sl (LS order), sl (.int M), sl (.int draw), A, sl (.int z), R, sl (LS rest), sl (.int sh), sl (.int zi)] = some (decide ((zi + z) % M ≠ 0)) := fun R =>
    ev_c2 (ev_mod (ev_intI (n := 0) (ev_adI (a := zi) (b := z) rfl rfl)) (b := M) rfl (by omega)) (m := 0) (y := .int 0) rfl (ne_int _ _)
  refine wp_ite (ev_and (e1 _) fun _ => e2 _) (fun hb => ?_) fun hb => wp_sk ?_
  · have hb2 := (Bool.and_eq_true_iff.mp hb).2
    have hk : (i + k) % m ≠ 0 := by
      rcases hno with h | h
      · exact absurd hb2 h
      · exact h
    have ex : ∀ R, ixP (varP 6) (varP 8) [sl (LS order), sl (.int M), sl (.int draw), A, sl (.int z), R, sl (LS rest), sl (.int sh), sl (.int zi)] = some (0, .str (order.getD (3 + i) e0)) := fun R =>
      ev_ix D.str (n := 0) (m := 0) (xs := rest) (i := zi) (j := i) rfl rfl hzi hx
    have e3 := ev_addS (fa := varP 5) (xs := row) (x := order.getD (3 + i) e0) (ρ := [sl (LS order), sl (.int M), sl (.int draw), A, sl (.int z), sl (LS row), sl (LS rest), sl (.int sh), sl (.int zi)]) rfl (ex _) hlen
    refine wp_nx (set_eq (ev_k0 e3) (by simp)) ?_
    have := cont _ (I.app ho hi hk)
    rw [← List.append_assoc, hr] at this
    exact this
  · have := cont _ I.mono
    rw [hr] at this
    exact this
end Gn

set_option Elab.async false
set_option linter.all false
set_option maxRecDepth 100000
set_option maxHeartbeats 4000000
/-! k44: the rows of a crowd, whole -/
namespace Gn
open PySem Iv Pl
def CW (order : List Str) (m k : Nat) (row : List Str) : Prop := ∃ t, row = cbase order k ++ t ∧ CT order m k (order.length - 3) t
def IC (order : List Str) (m : Nat) (draw : Int) (n : Nat) (ρ : Rho) : Prop := ∃ rows a b c d e, ρ = [sl (LS order), sl (.int (m : Int)), sl (.int draw), some ⟨true, 1, LL rows⟩, a, b, c, d, e] ∧ rows.length = n ∧ ∀ j, j < n → CW order m j (rows.getD j [])
def IJ (order : List Str) (m k : Nat) (draw sh : Int) (A : Option Sl) (n : Nat) (ρ : Rho) : Prop := ∃ t e, ρ = [sl (LS order), sl (.int (m : Int)), sl (.int draw), A, sl (.int (k : Int)), sl (LS (cbase order k ++ t)), sl (LS (order.drop 3)), sl (.int sh), e] ∧ CT order m k n t
theorem crowd_step {Pr : D → Prop} {order : List Str} {m k i : Nat} {draw sh : Int} {A : Option Sl} {dd : D} {ρ : Rho} (hm : 3 ≤ m) (ho : order.Nodup) (hi : 3 + i < order.length) (hl : order.length ≤ 12) (hd : dd = .int (i : Int)) (h : IJ order m k draw sh A i ρ) :
    ∃ ρ1, bN 8 dd ρ = some ρ1 ∧ Wp (IJ order m k draw sh A (i + 1)) Pr (l_law_crowd_rows_1 ρ1) := by
  obtain ⟨t, e, hρ, I⟩ := h
  subst hρ
  subst hd
  refine ⟨[sl (LS order), sl (.int (m : Int)), sl (.int draw), A, sl (.int (k : Int)), sl (LS (cbase order k ++ t)), sl (LS (order.drop 3)), sl (.int sh), sl (.int (i : Int))], rfl, ?_⟩
  have cont : ∀ t', CT order m k (i + 1) t' → IJ order m k draw sh A (i + 1) [sl (LS order), sl (.int (m : Int)), sl (.int draw), A, sl (.int (k : Int)), sl (LS (cbase order k ++ t')), sl (LS (order.drop 3)), sl (.int sh), sl (.int (i : Int))] := fun t' I' => ⟨t', _, rfl, I'⟩
  generalize IJ order m k draw sh A (i + 1) = Q at *
  generalize hM : ((m : Nat) : Int) = M at *
  generalize hz : ((k : Nat) : Int) = z at *
  generalize hzi : ((i : Nat) : Int) = zi at *
  with_reducible exact crowd_in hM.symm hz.symm hzi.symm hm ho hi hl I cont
theorem ev_two {fa fb : Pk} {ρ : Rho} {a b : Str} (ea : fa ρ = some (0, .str a)) (eb : fb ρ = some (0, .str b)) : (fun ρ => ((small (kept (aCons fa (aCons fb aNil)))) ρ).map fun ds => ((0 : Nat), D.lst ds)) ρ = some (0, LS [a, b]) := by
  simp only [small, kept, aCons, aNil, ea, eb, Option.bind_some, Option.map_some]
  rfl
theorem ev_three {fa fb fc : Pk} {ρ : Rho} {a b c : Str} (ea : fa ρ = some (0, .str a)) (eb : fb ρ = some (0, .str b)) (ec : fc ρ = some (0, .str c)) : (fun ρ => ((small (kept (aCons fa (aCons fb (aCons fc aNil))))) ρ).map fun ds => ((0 : Nat), D.lst ds)) ρ = some (0, LS [a, b, c]) := by
  simp only [small, kept, aCons, aNil, ea, eb, ec, Option.bind_some, Option.map_some]
  rfl
theorem ev_four {fa fb fc fd : Pk} {ρ : Rho} {a b c d : List Str} (ea : fa ρ = some (0, LS a)) (eb : fb ρ = some (0, LS b)) (ec : fc ρ = some (0, LS c)) (ed : fd ρ = some (0, LS d)) : (fun ρ => ((small (kept (aCons fa (aCons fb (aCons fc (aCons fd aNil)))))) ρ).map fun ds => ((0 : Nat), D.lst ds)) ρ = some (0, LL [a, b, c, d]) := by
  simp only [small, kept, aCons, aNil, ea, eb, ec, ed, Option.bind_some, Option.map_some]
  rfl
theorem cbase_at (order : List Str) (k : Nat) : [[order.getD 0 e0, order.getD 1 e0], [order.getD 1 e0, order.getD 2 e0], [order.getD 2 e0, order.getD 0 e0], [order.getD 1 e0, order.getD 0 e0, order.getD 2 e0]][k % 4]? = some (cbase order k) := by
  have : k % 4 < 4 := Nat.mod_lt _ (by omega)
  unfold cbase
  generalize k % 4 = r at *
  match r, this with
  | 0, _ => rfl
  | 1, _ => rfl
  | 2, _ => rfl
  | 3, _ => rfl
theorem crowd_turn {Pr : D → Prop} {order : List Str} {m k : Nat} {draw : Int} {rows : List (List Str)} {s5 s6 s7 s8 : Option Sl} (hm : 3 ≤ m) (hk : k ≤ 1000) (ho : order.Nodup) (h3 : 3 ≤ order.length) (hl : order.length ≤ 12) (hr : rows.length = k) (I : ∀ j, j < k → CW order m j (rows.getD j [])) :
    Wp (IC order m draw (k + 1)) Pr (l_law_crowd_rows_2 [sl (LS order), sl (.int (m : Int)), sl (.int draw), some ⟨true, 1, LL rows⟩, sl (.int (k : Int)), s5, s6, s7, s8]) := by
  have g : ∀ i, i < order.length → order[i]? = some (order.getD i e0) := fun i hi => by rw [List.getD_eq_getElem?_getD, List.getElem?_eq_getElem hi, Option.getD_some]
  have fin : ∀ t e sh, CT order m k (order.length - 3) t → IC order m draw (k + 1) [sl (LS order), sl (.int (m : Int)), sl (.int draw), some ⟨true, 1, LL (rows ++ [cbase order k ++ t])⟩, sl (.int (k : Int)), sl (LS (cbase order k ++ t)), sl (LS (order.drop 3)), sl (.int sh), e] := fun t e sh C => by
    refine ⟨_, _, _, _, _, _, rfl, by simp [hr], fun j hj => ?_⟩
    rw [List.getD_eq_getElem?_getD, List.getElem?_append]
    split
    · rw [← List.getD_eq_getElem?_getD]
      exact I j (by omega)
    · have : j = k := by omega
      subst this
      rw [hr, Nat.sub_self]
      exact ⟨t, rfl, C⟩
  have st := fun sh A i dd ρ => @crowd_step Pr order m k i draw sh A dd ρ hm ho
  have st0 : ∀ sh e, CT order m k 0 [] → IJ order m k draw sh (some ⟨true, 1, LL rows⟩) 0 [sl (LS order), sl (.int (m : Int)), sl (.int draw), some ⟨true, 1, LL rows⟩, sl (.int (k : Int)), sl (LS (cbase order k)), sl (LS (order.drop 3)), sl (.int sh), e] := fun sh e C => ⟨[], e, by rw [List.append_nil], C⟩
  unfold l_law_crowd_rows_2
  have x0 : ∀ {a1 a2 a3 a4 a5 a6 a7 a8 : Option Sl}, ixP (varP 0) (cst (.int 0)) [sl (LS order), a1, a2, a3, a4, a5, a6, a7, a8] = some (0, .str (order.getD 0 e0)) := fun {_ _ _ _ _ _ _ _} => ev_ix D.str (n := 0) (m := 0) (xs := order) (i := 0) (j := 0) rfl rfl rfl (g 0 (by omega))
  have x1 : ∀ {a1 a2 a3 a4 a5 a6 a7 a8 : Option Sl}, ixP (varP 0) (cst (.int 1)) [sl (LS order), a1, a2, a3, a4, a5, a6, a7, a8] = some (0, .str (order.getD 1 e0)) := fun {_ _ _ _ _ _ _ _} => ev_ix D.str (n := 0) (m := 0) (xs := order) (i := 1) (j := 1) rfl rfl rfl (g 1 (by omega))
  have x2 : ∀ {a1 a2 a3 a4 a5 a6 a7 a8 : Option Sl}, ixP (varP 0) (cst (.int 2)) [sl (LS order), a1, a2, a3, a4, a5, a6, a7, a8] = some (0, .str (order.getD 2 e0)) := fun {_ _ _ _ _ _ _ _} => ev_ix D.str (n := 0) (m := 0) (xs := order) (i := 2) (j := 2) rfl rfl rfl (g 2 (by omega))
  have hz : ((k : Nat) : Int) % 4 = ((k % 4 : Nat) : Int) := rfl
  have hk1 : (0 : Int) < ((k : Nat) : Int) + 1 ∧ ((k : Nat) : Int) + 1 < 1073741824 := by omega
  have hc3 : ((LS order)) = .lst (order.map D.str) := rfl
  have hrg : (order.drop 3).length ≤ 100000 := by rw [List.length_drop]; omega
  have hrl : (order.drop 3).length = order.length - 3 := List.length_drop
  have e5 := ev_mod (ev_intI (n := 0) (fa := varP 4) (ρ := [sl (LS order), sl (.int (m : Int)), sl (.int draw), some ⟨true, 1, LL rows⟩, sl (.int (k : Int)), s5, s6, s7, s8]) (i := ((k : Nat) : Int)) rfl) (fb := cst (.int 4)) (b := 4) rfl (by omega)
  rw [hz] at e5
  have hcb := cbase_at order k
  generalize hb0 : cbase order k = b0 at *
  generalize hz4 : ((k : Nat) : Int) = z at *
  generalize hM : ((m : Nat) : Int) = M at *
  generalize hk4 : ((k % 4 : Nat) : Int) = z4 at *
  refine wp_seq (wp_nx (set_eq (d := LS b0) (ev_k0 (ev_ix LS (n := 0) (m := 0) (i := z4) (j := k % 4) (ev_four (ev_two x0 x1) (ev_two x1 x2) (ev_two x2 x0) (ev_three x1 x0 x2)) e5 hk4.symm hcb)) (by simp)) ?_)
  have e6 := ev_k0 (ev_cutDrop D.str (fa := varP 0) (fi := cst (.int 3)) (xs := order) (i := 3) (j := 3) (m := 0) (ρ := [sl (LS order), sl (.int M), sl (.int draw), some ⟨true, 1, LL rows⟩, sl (.int z), sl (LS b0), s6, s7, s8]) rfl rfl rfl)
  generalize hrest : order.drop 3 = rest at *
  refine wp_seq (wp_nx (set_eq e6 (by simp)) ?_)
  have e7 := ev_k0 (ev_mod (ev_intI (n := 0) (ev_div (fa := varP 2) (fb := bin addD (varP 4) (cst (.int 1))) (ρ := [sl (LS order), sl (.int M), sl (.int draw), some ⟨true, 1, LL rows⟩, sl (.int z), sl (LS b0), sl (LS rest), s7, s8]) (a := draw) (b := z + 1) rfl (ev_adI (a := z) (b := 1) rfl rfl) hk1)) (fb := cst (.int 7)) (b := 7) rfl (by omega))
  generalize hsh : draw / (z + 1) % 7 = sh at *
  refine wp_seq (wp_nx (set_eq e7 (by simp)) ?_)
  show Wp _ _ (seqS _ _ [sl (LS order), sl (.int M), sl (.int draw), some ⟨true, 1, LL rows⟩, sl (.int z), sl (LS b0), sl (LS rest), sl (.int sh), s8])
  have er := rng_I (n := rest.length) (f := callP (c1 lenD) (aCons (varP 6) aNil)) (ρ := [sl (LS order), sl (.int M), sl (.int draw), some ⟨true, 1, LL rows⟩, sl (.int z), sl (LS b0), sl (LS rest), sl (.int sh), s8]) (m := 0) (ev_lenI (n := 0) (xs := rest) rfl) hrg
  refine wp_seq (wp_for er (IJ order m k draw sh (some ⟨true, 1, LL rows⟩)) (st0 _ _ ⟨List.nodup_nil, Nat.le_refl _, fun x hx => by cases hx⟩) (fun i dd ρ hd hI => ?_) fun ρ' hI => ?_)
  · obtain ⟨hi, hd⟩ := at_rng hd
    exact crowd_step hm ho (by omega) hl hd hI
  · obtain ⟨t, e, hρ, C⟩ := hI
    subst hρ
    rw [List.length_map, List.length_range, hrl] at C
    rw [hb0, hz4, hM, hrest]
    have hf := fin t e sh C
    rw [show LL (rows ++ [b0 ++ t]) = .lst (rows.map LS ++ [LS (b0 ++ t)]) by simp [LL]] at hf
    exact wp_app (m := 0) (ds := rows.map LS) (d := LS (b0 ++ t)) rfl (by rw [List.length_map]; omega) rfl hf
end Gn

set_option Elab.async false
set_option linter.all false
set_option maxRecDepth 100000
set_option maxHeartbeats 4000000
/-! k44: the rows of a crowd, all -/
namespace Gn
open PySem Iv Pl
theorem crowd_turn' {Pr : D → Prop} {order : List Str} {m k : Nat} {draw : Int} {dd : D} {ρ : Rho} (hm : 3 ≤ m) (hk : k ≤ 1000) (ho : order.Nodup) (h3 : 3 ≤ order.length) (hl : order.length ≤ 12) (hd : dd = .int (k : Int)) (h : IC order m draw k ρ) :
    ∃ ρ1, bN 4 dd ρ = some ρ1 ∧ Wp (IC order m draw (k + 1)) Pr (l_law_crowd_rows_2 ρ1) := by
  obtain ⟨rows, a, b, c, d, e, hρ, hr, I⟩ := h
  subst hρ
  subst hd
  refine ⟨[sl (LS order), sl (.int (m : Int)), sl (.int draw), some ⟨true, 1, LL rows⟩, sl (.int (k : Int)), b, c, d, e], rfl, ?_⟩
  with_reducible exact crowd_turn hm hk ho h3 hl hr I
theorem e_crowd_rows {order : List Str} {m : Nat} {draw : Int} (hm : 3 ≤ m) (hm2 : m ≤ 1000) (ho : order.Nodup) (h3 : 3 ≤ order.length) (hl : order.length ≤ 12) :
    ∃ rows, F_law_crowd_rows [(0, LS order), (0, .int (m : Int)), (0, .int draw)] = some (LL rows) ∧ rows.length = m ∧ ∀ j, j < m → CW order m j (rows.getD j []) := by
  suffices h : ∃ d, F_law_crowd_rows [(0, LS order), (0, .int (m : Int)), (0, .int draw)] = some d ∧ ∃ rows, d = LL rows ∧ rows.length = m ∧ ∀ j, j < m → CW order m j (rows.getD j []) by
    obtain ⟨d, e, rows, rfl, h⟩ := h
    exact ⟨rows, e, h⟩
  refine run_wp rfl ?_
  show Wp _ _ (seqS _ _ [sl (LS order), sl (.int (m : Int)), sl (.int draw), none, none, none, none, none, none])
  refine wp_seq (wp_setO (d := .lst []) rfl (by simp) ?_)
  have er := rng_I (n := m) (f := varP 1) (ρ := [sl (LS order), sl (.int (m : Int)), sl (.int draw), some ⟨true, 1, LL []⟩, none, none, none, none, none]) (m := 0) rfl (by omega)
  refine wp_seq (wp_for er (IC order m draw) ⟨[], none, none, none, none, none, rfl, rfl, fun j hj => absurd hj (Nat.not_lt_zero _)⟩ (fun i dd ρ hd hI => ?_) fun ρ' hI => ?_)
  · obtain ⟨hi, hd⟩ := at_rng hd
    exact crowd_turn' hm (by omega) ho h3 hl hd hI
  · obtain ⟨rows, a, b, c, d, e, hρ, hr, I⟩ := hI
    subst hρ
    rw [List.length_map, List.length_range] at hr I
    exact wp_frz (n := 1) (d := LL rows) rfl (wp_ret0 (d := LL rows) rfl ⟨rows, rfl, hr, I⟩)
end Gn

set_option Elab.async false
set_option linter.all false
set_option maxRecDepth 100000
set_option maxHeartbeats 4000000
/-! k44: the setting, plain -/
namespace Gn
open PySem Iv Pl
def ins (rows : List (List Str)) (a : Nat) (x : List Str) : List (List Str) := rows.take a ++ [x] ++ rows.drop a
theorem ins_len {rows : List (List Str)} {a : Nat} {x : List Str} (ha : a ≤ rows.length) : (ins rows a x).length = rows.length + 1 := by
  simp [ins]
  omega
theorem ins_mem {rows : List (List Str)} {a : Nat} {x r : List Str} (h : r ∈ ins rows a x) : r = x ∨ r ∈ rows := by
  unfold ins at h
  simp only [List.mem_append, List.mem_singleton] at h
  rcases h with (z | z) | z
  · exact .inr (List.mem_of_mem_take z)
  · exact .inl z
  · exact .inr (List.mem_of_mem_drop z)
theorem ins_lo {rows : List (List Str)} {a j : Nat} {x : List Str} (ha : a ≤ rows.length) (hj : j < a) : (ins rows a x).getD j [] = rows.getD j [] := by
  unfold ins
  rw [List.getD_eq_getElem?_getD, List.getD_eq_getElem?_getD, List.append_assoc, List.getElem?_append_left (by rw [List.length_take]; omega), List.getElem?_take_of_lt hj]
theorem ins_at {rows : List (List Str)} {a : Nat} {x : List Str} (ha : a ≤ rows.length) : (ins rows a x).getD a [] = x := by
  unfold ins
  have : (rows.take a).length = a := by rw [List.length_take]; omega
  rw [List.getD_eq_getElem?_getD, List.append_assoc, List.getElem?_append_right (by omega), this, Nat.sub_self]
  rfl
theorem ins_hi {rows : List (List Str)} {a j : Nat} {x : List Str} (ha : a ≤ rows.length) (hj : a ≤ j) : (ins rows a x).getD (j + 1) [] = rows.getD j [] := by
  unfold ins
  have : (rows.take a).length = a := by rw [List.length_take]; omega
  rw [List.getD_eq_getElem?_getD, List.getD_eq_getElem?_getD, List.append_assoc, List.getElem?_append_right (by omega), this, show j + 1 - a = (j - a) + 1 by omega]
  show (rows.drop a)[j - a]?.getD [] = _
  rw [List.getElem?_drop, show a + (j - a) = j by omega]
def up (a : Int) (k : Int) : Int := k + if a ≤ k then 1 else 0
structure Sg (P : List Str → Prop) (extra : List (List Str)) (n : Nat) (rows : List (List Str)) (nums : List Int) : Prop where
  len : nums.length = n
  pk : pick rows nums = extra.take n
  nd : nums.Nodup
  inr : ∀ k ∈ nums, 0 ≤ k ∧ k < (rows.length : Int)
  good : ∀ r ∈ rows, P r
theorem Sg.step {P : List Str → Prop} {extra rows : List (List Str)} {n a : Nat} {nums : List Int} {x : List Str} (S : Sg P extra n rows nums) (ha : a ≤ rows.length) (hx : extra[n]? = some x) (hp : P x) :
    Sg P extra (n + 1) (ins rows a x) (nums.map (up a) ++ [(a : Int)]) := by
  have hn := (List.getElem?_eq_some_iff.mp hx)
  refine ⟨by simp [S.len], ?_, ?_, fun k hk => ?_, fun r hr => ?_⟩
  · have e1 : pick (ins rows a x) (nums.map (up a)) = pick rows nums := by
      unfold pick
      rw [List.map_map]
      refine List.map_congr_left fun k hk => ?_
      have := S.inr k hk
      simp only [Function.comp, up]
      split
      · rw [show (k + 1).toNat = k.toNat + 1 by omega]
        exact ins_hi ha (by omega)
      · rw [show (k + 0).toNat = k.toNat by omega]
        exact ins_lo ha (by omega)
    have e2 : pick (ins rows a x) [(a : Int)] = [x] := by
      show [(ins rows a x).getD ((a : Int)).toNat []] = [x]
      rw [Int.toNat_natCast, ins_at ha]
    have e3 : extra.take (n + 1) = extra.take n ++ [x] := by
      rw [List.take_succ, hx]
      rfl
    rw [e3, ← S.pk, ← e1, ← e2]
    unfold pick
    rw [List.map_append]
  · refine List.nodup_append.mpr ⟨?_, by simp, fun k hk b hb => ?_⟩
    · refine List.Pairwise.map _ (fun u v h => ?_) S.nd
      unfold up
      split <;> split <;> omega
    · obtain ⟨k, _, rfl⟩ := List.mem_map.mp hk
      rw [List.mem_singleton.mp hb]
      unfold up
      split <;> omega
  · rw [ins_len ha]
    rcases List.mem_append.mp hk with z | z
    · obtain ⟨k0, hk0, rfl⟩ := List.mem_map.mp z
      have := S.inr k0 hk0
      unfold up
      split <;> omega
    · rw [List.mem_singleton.mp z]
      omega
  · rcases ins_mem hr with rfl | z
    · exact hp
    · exact S.good r z
end Gn

set_option Elab.async false
set_option linter.all false
set_option maxRecDepth 100000
set_option maxHeartbeats 4000000
/-! k44: the setting, run -/
namespace Gn
open PySem Iv Pl
theorem ev_intB {t : Rho → Option Bool} {ρ : Rho} {b : Bool} (e : t ρ = some b) : callP (c1 intD) (aCons (blP t) aNil) ρ = some (0, .int (if b = true then 1 else 0)) := by
  cases b <;> simp [callP, aCons, aNil, blP, e, c1, intD]
theorem set_turn {Pn : Rho → Prop} {Pr : D → Prop} {s0 s1 s3 s7 s8 s9 s10 s11 : Option Sl} {pool : List Int} {rows : List (List Str)} {nums : List Int} {row : List Str} (hp : pool.length = 60) (hn : nums.length ≤ 20) (hr : rows.length ≤ 100)
    (cont : ∀ (a : Nat) s, a ≤ rows.length → Pn [s0, s1, sl (LI pool), s3, sl (LL (ins rows a row)), sl (LI (nums.map (up (a : Int)) ++ [(a : Int)])), sl (LS row), s7, s8, s9, s, s11]) :
    Wp Pn Pr (l_law_setting_1 [s0, s1, sl (LI pool), s3, sl (LL rows), sl (LI nums), sl (LS row), s7, s8, s9, s10, s11]) := by
  have gp : ∀ i, i < 60 → pool[i]? = some (pool.getD i 0) := fun i hi => by rw [List.getD_eq_getElem?_getD, List.getElem?_eq_getElem (by omega), Option.getD_some]
  obtain ⟨a1, ha1, ha2⟩ := nat_mod (a := pool.getD (36 + nums.length) 0) (n := rows.length + 1) (by omega)
  have ha1 : pool.getD (36 + nums.length) 0 % ((rows.length : Int) + 1) = (a1 : Int) := ha1
  have e4 : ∀ {s10 s11 : Option Sl}, callP (c1 lenD) (aCons (varP 4) aNil) [s0, s1, sl (LI pool), s3, sl (LL rows), sl (LI nums), sl (LS row), s7, s8, s9, s10, s11] = some (0, .int rows.length) := fun {_ _} => ev_lenI (n := 0) (f := LS) (xs := rows) rfl
  have e5 : ∀ {s10 s11 : Option Sl}, callP (c1 lenD) (aCons (varP 5) aNil) [s0, s1, sl (LI pool), s3, sl (LL rows), sl (LI nums), sl (LS row), s7, s8, s9, s10, s11] = some (0, .int nums.length) := fun {_ _} => ev_lenI (n := 0) (f := D.int) (xs := nums) rfl
  have rest : ∀ (a : Nat), a ≤ rows.length → Wp Pn Pr ((seqS (setS 4 (keep0 (bin addD (bin addD (cutP (varP 4) noO (ofO (varP 10))) (fun ρ => ((small (kept (aCons (varP 6) aNil))) ρ).map fun ds => ((0 : Nat), D.lst ds))) (cutP (varP 4) (ofO (varP 10)) noO))))
      (setS 5 (keep0 (bin addD (frP (lcG [11] (anyI (varP 5)) (bN 11) yesT (keep0 (bin addD (varP 11) (callP (c1 intD) (aCons (blP (cmp geC (varP 11) (varP 10))) aNil)))))) (fun ρ => ((small (kept (aCons (varP 10) aNil))) ρ).map fun ds => ((0 : Nat), D.lst ds)))))) [s0, s1, sl (LI pool), s3, sl (LL rows), sl (LI nums), sl (LS row), s7, s8, s9, sl (.int (a : Int)), s11]) := fun a ha => by
    have cont := fun s => cont a s ha
    have hio : ((a : Nat) : Int) = a := rfl
    generalize hz : ((a : Nat) : Int) = z at *
    have c1 := ev_cutTake LS (fa := varP 4) (fi := varP 10) (m := 0) (xs := rows) (i := z) (j := a) (ρ := [s0, s1, sl (LI pool), s3, sl (LL rows), sl (LI nums), sl (LS row), s7, s8, s9, sl (.int z), s11]) rfl rfl hz.symm
    have c2 := ev_cutDrop LS (fa := varP 4) (fi := varP 10) (m := 0) (xs := rows) (i := z) (j := a) (ρ := [s0, s1, sl (LI pool), s3, sl (LL rows), sl (LI nums), sl (LS row), s7, s8, s9, sl (.int z), s11]) rfl rfl hz.symm
    have l1 : ((rows.take a).map LS).length + [LS row].length ≤ 100000 := by simp; omega
    have l2 : ((rows.take a).map LS ++ [LS row]).length + ((rows.drop a).map LS).length ≤ 100000 := by simp; omega
    have l3 : (nums.map fun k => D.int (up z k)).length + [D.int z].length ≤ 100000 := by simp; omega
    have e7 : ((rows.take a).map LS ++ [LS row]) ++ (rows.drop a).map LS = (ins rows a row).map LS := by simp [ins]
    refine wp_seq (wp_nx (set_eq (d := LL (ins rows a row)) (ev_k0 ((ev_bin (ev_bin c1 (ev_sng (x := LS row) rfl) (add_lst l1)) c2 (add_lst l2)).trans (by rw [e7]))) (by simp)) ?_)
    have e8 := ev_all D.int (fun k => D.int (up z k)) (fi := anyI (varP 5)) (vs := [11]) (bd := bN 11) (f := keep0 (bin addD (varP 11) (callP (Iv.c1 intD) (aCons (blP (cmp geC (varP 11) (varP 10))) aNil)))) (ρ := [s0, s1, sl (LI pool), s3, sl (LL (ins rows a row)), sl (LI nums), sl (LS row), s7, s8, s9, sl (.int z), s11]) nums (ev_any rfl) (by omega) fun k hk => ⟨[s0, s1, sl (LI pool), s3, sl (LL (ins rows a row)), sl (LI nums), sl (LS row), s7, s8, s9, sl (.int z), sl (.int k)], rfl, by
      have x1 := ev_intB (t := cmp geC (varP 11) (varP 10)) (ρ := [s0, s1, sl (LI pool), s3, sl (LL (ins rows a row)), sl (LI nums), sl (LS row), s7, s8, s9, sl (.int z), sl (.int k)]) (ev_c2 (n := 0) (m := 0) (x := .int k) (y := .int z) (b := decide (z ≤ k)) rfl rfl rfl)
      have x2 := ev_k0 (ev_adI (fa := varP 11) (a := k) rfl x1)
      rw [x2]
      unfold up
      by_cases h : z ≤ k <;> simp [h]⟩
    have e10 : nums.map (fun k => D.int (up z k)) ++ [D.int z] = (nums.map (up z) ++ [z]).map D.int := by simp
    exact wp_nx (set_eq (d := LI (nums.map (up z) ++ [z])) (ev_k0 ((ev_bin (ev_frP e8) (ev_sng (x := .int z) rfl) (add_lst l3)).trans (by rw [e10]))) (by simp)) (cont _)
  unfold l_law_setting_1
  have e1 := ev_mod (ev_intI (ev_ix D.int (fa := varP 2) (n := 0) (m := 0) (xs := pool) (i := 36 + (nums.length : Int)) (j := 36 + nums.length) (ρ := [s0, s1, sl (LI pool), s3, sl (LL rows), sl (LI nums), sl (LS row), s7, s8, s9, s10, s11]) rfl (ev_adI (fa := cst (.int 36)) (a := 36) rfl e5) rfl (gp _ (by omega)))) (ev_adI e4 (fb := cst (.int 1)) (b := 1) rfl) (by omega)
  rw [ha1] at e1
  refine wp_seq (wp_nx (set_eq (ev_k0 e1) (by simp)) ?_)
  have e2 := ev_c2 (g := eqC) (ev_mod (ev_intI (ev_ix D.int (fa := varP 2) (fb := cst (.int 48)) (n := 0) (m := 0) (xs := pool) (i := 48) (j := 48) (ρ := [s0, s1, sl (LI pool), s3, sl (LL rows), sl (LI nums), sl (LS row), s7, s8, s9, sl (.int (a1 : Int)), s11]) rfl rfl rfl (gp _ (by omega)))) (fb := cst (.int 2)) (b := 2) rfl (by omega)) (fb := cst (.int 0)) (m := 0) (y := .int 0) rfl (eq_int _ _)
  refine wp_seq (wp_ite e2 (fun _ => ?_) fun _ => wp_sk ?_)
  · refine wp_nx (set_eq (ev_k0 e4) (by simp)) ?_
    exact rest rows.length (Nat.le_refl _)
  · exact rest a1 (by omega)
end Gn

set_option Elab.async false
set_option linter.all false
set_option maxRecDepth 100000
set_option maxHeartbeats 4000000
/-! k44: the setting, its tail -/
namespace Gn
open PySem Iv Pl
def PR (names : List Str) (r : List Str) : Prop := r.Nodup ∧ ∀ c ∈ r, c ∈ names
def IS (s0 s1 s2 s3 s7 s8 s9 : Option Sl) (P : List Str → Prop) (extra : List (List Str)) (n : Nat) (ρ : Rho) : Prop := ∃ rows nums a b c, ρ = [s0, s1, s2, s3, sl (LL rows), sl (LI nums), a, s7, s8, s9, b, c] ∧ Sg P extra n rows nums ∧ rows.length ≤ 6 + n
theorem set_step {Pr : D → Prop} {s0 s1 s3 s7 s8 s9 : Option Sl} {P : List Str → Prop} {pool : List Int} {extra : List (List Str)} {n : Nat} {dd : D} {ρ : Rho} (hp : pool.length = 60) (hx : extra.length ≤ 20) (hg : ∀ r ∈ extra, P r) (hd : (extra.map LS)[n]? = some dd) (h : IS s0 s1 (sl (LI pool)) s3 s7 s8 s9 P extra n ρ) :
    ∃ ρ1, bN 6 dd ρ = some ρ1 ∧ Wp (IS s0 s1 (sl (LI pool)) s3 s7 s8 s9 P extra (n + 1)) Pr (l_law_setting_1 ρ1) := by
  obtain ⟨rows, nums, a, b, c, hρ, S, hl⟩ := h
  subst hρ
  rw [List.getElem?_map] at hd
  obtain ⟨x, hx1, rfl⟩ := Option.map_eq_some_iff.mp hd
  have hn := (List.getElem?_eq_some_iff.mp hx1).1
  refine ⟨[s0, s1, sl (LI pool), s3, sl (LL rows), sl (LI nums), sl (LS x), s7, s8, s9, b, c], rfl, ?_⟩
  have sl := S.len
  have cont : ∀ (a : Nat) s, a ≤ rows.length → IS s0 s1 (Gn.sl (LI pool)) s3 s7 s8 s9 P extra (n + 1) [s0, s1, Gn.sl (LI pool), s3, Gn.sl (LL (ins rows a x)), Gn.sl (LI (nums.map (up (a : Int)) ++ [(a : Int)])), Gn.sl (LS x), s7, s8, s9, s, c] := fun a s ha =>
    ⟨_, _, _, _, _, rfl, S.step ha hx1 (hg x (List.mem_of_getElem? hx1)), by rw [ins_len ha]; omega⟩
  with_reducible exact set_turn hp (by omega) (by omega) cont
end Gn

set_option Elab.async false
set_option linter.all false
set_option maxRecDepth 100000
set_option maxHeartbeats 4000000
/-! k44: the setting, whole -/
namespace Gn
open PySem Iv Pl
theorem e_frees {names : List Str} {pool : List Int} {ρ : Rho} {s1 s3 s4 s5 s6 s7 s8 s9 s10 s11 : Option Sl} (hl : names.length ≤ 1000) (hp : pool.length = 60) : ∃ fr : List (List Str), lcG [11] (rngI (rg1 (bin modD (callP (c1 intD) (aCons (ixP (varP 2) (cst (.int 35))) aNil)) (cst (.int 7))))) (bN 11) yesT (callG F_law_free_row (aCons (varP 0) (aCons (ixP (varP 2) (bin addD (cst (.int 29)) (varP 11))) aNil))) [sl (LS names), s1, sl (LI pool), s3, s4, s5, s6, s7, s8, s9, s10, s11] = some (LL fr) ∧ fr.length ≤ 6 ∧ ∀ r ∈ fr, r.Sublist names := by
  have gp : ∀ i, i < 60 → pool[i]? = some (pool.getD i 0) := fun i hi => by rw [List.getD_eq_getElem?_getD, List.getElem?_eq_getElem (by omega), Option.getD_some]
  obtain ⟨q, hq1, hq2⟩ := nat_mod (a := pool.getD 35 0) (n := 7) (by omega)
  have hq1 : pool.getD 35 0 % 7 = (q : Int) := hq1
  have hf : ∀ i : Nat, ∃ r, F_law_free_row [(0, LS names), (0, .int (pool.getD (29 + i) 0))] = some (LS r) ∧ r.Sublist names := fun i => e_free hl
  have e1 := ev_mod (ev_intI (ev_ix D.int (fa := varP 2) (fb := cst (.int 35)) (n := 0) (m := 0) (xs := pool) (i := 35) (j := 35) (ρ := [sl (LS names), s1, sl (LI pool), s3, s4, s5, s6, s7, s8, s9, s10, s11]) rfl rfl rfl (gp _ (by omega)))) (fb := cst (.int 7)) (b := 7) rfl (by omega)
  rw [hq1] at e1
  have e2 := ev_all (fun (j : Nat) => D.int j) (fun i => LS (hf i).choose) (vs := [11]) (bd := bN 11) (f := callG F_law_free_row (aCons (varP 0) (aCons (ixP (varP 2) (bin addD (cst (.int 29)) (varP 11))) aNil))) (List.range q) (rng_I (n := q) e1 (by omega)) (by rw [List.length_range]; omega) fun i hi => ⟨[sl (LS names), s1, sl (LI pool), s3, s4, s5, s6, s7, s8, s9, s10, sl (.int (i : Int))], rfl, by
    have hi := List.mem_range.mp hi
    have x1 := ev_ix D.int (fa := varP 2) (n := 0) (m := 0) (xs := pool) (i := 29 + (i : Int)) (j := 29 + i) (ρ := [sl (LS names), s1, sl (LI pool), s3, s4, s5, s6, s7, s8, s9, s10, sl (.int (i : Int))]) rfl (ev_adI (fa := cst (.int 29)) (fb := varP 11) (a := 29) (b := (i : Int)) rfl rfl) rfl (gp _ (by omega))
    have x0 : varP 0 [sl (LS names), s1, sl (LI pool), s3, s4, s5, s6, s7, s8, s9, s10, sl (.int (i : Int))] = some (0, LS names) := rfl
    simp only [callG, aCons, aNil, x0, x1, Option.bind_some, Option.map_some]
    exact (hf i).choose_spec.1⟩
  refine ⟨(List.range q).map fun i => (hf i).choose, ?_, by simp; omega, fun r hr => ?_⟩
  · rw [e2]
    simp only [LL, List.map_map]
    rfl
  · obtain ⟨i, _, rfl⟩ := List.mem_map.mp hr
    exact (hf i).choose_spec.2
end Gn

set_option Elab.async false
set_option linter.all false
set_option maxRecDepth 100000
set_option maxHeartbeats 4000000
/-! k44: the setting, whole -/
namespace Gn
open PySem Iv Pl
def kindOf (ring : Bool) : Str := if ring = true then "ring" else "crowd"
theorem ev_fourD {fa fb fc fd : Pk} {ρ : Rho} {a b c d : D} (ea : fa ρ = some (0, a)) (eb : fb ρ = some (0, b)) (ec : fc ρ = some (0, c)) (ed : fd ρ = some (0, d)) : (fun ρ => ((small (kept (aCons fa (aCons fb (aCons fc (aCons fd aNil)))))) ρ).map fun ds => ((0 : Nat), D.lst ds)) ρ = some (0, .lst [a, b, c, d]) := by
  simp only [small, kept, aCons, aNil, ea, eb, ec, ed, Option.bind_some, Option.map_some]
  rfl
theorem set_tail {Pn : Rho → Prop} {Pr : D → Prop} {names order cols : List Str} {pool : List Int} {extra : List (List Str)} {ring : Bool} {s7 s10 s11 s4 s5 s6 : Option Sl} (hl : names.length ≤ 1000) (hnd : names.Nodup) (hp : pool.length = 60) (hx : extra.length ≤ 20) (hg : ∀ r ∈ extra, PR names r)
    (cont : ∀ rows nums, Sg (PR names) extra extra.length rows nums → rows.length ≤ 6 + extra.length → Pr (.lst [.str (kindOf ring), LI nums, LS cols, LL rows])) :
    Wp Pn Pr ((seqS (setS 4 (lcG [11] (rngI (rg1 (bin modD (callP (c1 intD) (aCons (ixP (varP 2) (cst (.int 35))) aNil)) (cst (.int 7))))) (bN 11) yesT (callG F_law_free_row (aCons (varP 0) (aCons (ixP (varP 2) (bin addD (cst (.int 29)) (varP 11))) aNil)))))
    (seqS (setS 5 (keep0 (fun ρ => ((small (kept aNil)) ρ).map fun ds => (0, .lst ds))))
    (seqS (forS (anyI (varP 8)) (bN 6) l_law_setting_1)
    (retS 0 (keep0 (fun ρ => ((small (kept (aCons (ixP (fun ρ => ((small (kept (aCons (cst (.str "crowd")) (aCons (cst (.str "ring")) aNil)))) ρ).map fun ds => (0, .lst ds)) (callP (c1 intD) (aCons (varP 3) aNil))) (aCons (varP 5) (aCons (fun ρ => ((callN lstD (aCons (varP 9) aNil)) ρ).map fun ds => (0, .lst ds)) (aCons (varP 4) aNil)))))) ρ).map fun ds => (0, .lst ds))))))) [sl (LS names), sl (LS order), sl (LI pool), sl (.bl ring), s4, s5, s6, s7, sl (LL extra), sl (LS cols), s10, s11]) := by
  obtain ⟨fr, e1, hf1, hf2⟩ := e_frees (names := names) (pool := pool) (s1 := sl (LS order)) (s3 := sl (.bl ring)) (s4 := s4) (s5 := s5) (s6 := s6) (s7 := s7) (s8 := sl (LL extra)) (s9 := sl (LS cols)) (s10 := s10) (s11 := s11) (ρ := []) hl hp
  refine wp_seq (wp_nx (set_eq e1 (by simp)) ?_)
  refine wp_seq (wp_set (d := LI []) rfl (by simp) ?_)
  show Wp _ _ (seqS _ _ [sl (LS names), sl (LS order), sl (LI pool), sl (.bl ring), sl (LL fr), sl (LI []), s6, s7, sl (LL extra), sl (LS cols), s10, s11])
  have h0 : Sg (PR names) extra 0 fr [] := ⟨rfl, by simp [pick], List.nodup_nil, fun k hk => (by cases hk), fun r hr => ⟨hnd.sublist (hf2 r hr), fun c hc => (hf2 r hr).subset hc⟩⟩
  refine wp_seq (wp_for (ds := extra.map LS) (ev_any rfl) (IS (sl (LS names)) (sl (LS order)) (sl (LI pool)) (sl (.bl ring)) s7 (sl (LL extra)) (sl (LS cols)) (PR names) extra) ⟨fr, [], s6, s10, s11, rfl, h0, by omega⟩ (fun i dd ρ hd hI => set_step hp hx hg hd hI) fun ρ' hI => ?_)
  obtain ⟨rows, nums, a, b, c, hρ, S, hr⟩ := hI
  subst hρ
  rw [List.length_map] at S hr
  refine wp_ret0 (ev_k0 (d := .lst [.str (kindOf ring), LI nums, LS cols, LL rows]) ?_) (cont rows nums S hr)
  have x0 : ixP (fun ρ => ((small (kept (aCons (cst (.str "crowd")) (aCons (cst (.str "ring")) aNil)))) ρ).map fun ds => ((0 : Nat), D.lst ds)) (callP (c1 intD) (aCons (varP 3) aNil)) [sl (LS names), sl (LS order), sl (LI pool), sl (.bl ring), sl (LL rows), sl (LI nums), a, s7, sl (LL extra), sl (LS cols), b, c] = some (0, .str (kindOf ring)) := by
    cases ring <;> rfl
  have x5 : varP 5 [sl (LS names), sl (LS order), sl (LI pool), sl (.bl ring), sl (LL rows), sl (LI nums), a, s7, sl (LL extra), sl (LS cols), b, c] = some (0, LI nums) := rfl
  have x4 : varP 4 [sl (LS names), sl (LS order), sl (LI pool), sl (.bl ring), sl (LL rows), sl (LI nums), a, s7, sl (LL extra), sl (LS cols), b, c] = some (0, LL rows) := rfl
  have x9 := ev_lstN D.str (fa := varP 9) (n := 0) (xs := cols) (ρ := [sl (LS names), sl (LS order), sl (LI pool), sl (.bl ring), sl (LL rows), sl (LI nums), a, s7, sl (LL extra), sl (LS cols), b, c]) rfl (by omega)
  exact ev_fourD x0 x5 (by show Option.map _ (callN lstD _ _) = _; rw [x9]; rfl) x4
end Gn

set_option Elab.async false
set_option linter.all false
set_option maxRecDepth 100000
set_option maxHeartbeats 4000000
/-! k44: the bar that is laid stands, turned and among more rows too; plain -/
namespace Gn
open PySem Iv Pl
theorem rot_get {α : Type} {s i : Nat} {xs : List α} {a : α} (hs : s ≤ xs.length) (hi : i < xs.length) : (rot s xs).getD i a = xs.getD (if i + s < xs.length then i + s else i + s - xs.length) a := by
  unfold rot
  rw [List.getD_eq_getElem?_getD, List.getD_eq_getElem?_getD]
  split
  · rw [List.getElem?_append_left (by rw [List.length_drop]; omega), List.getElem?_drop, Nat.add_comm]
  · rw [List.getElem?_append_right (by rw [List.length_drop]; omega), List.length_drop, List.getElem?_take_of_lt (by omega)]
    congr 2
    omega
theorem rev_get {α : Type} {i : Nat} {xs : List α} {a : α} (hi : i < xs.length) : xs.reverse.getD i a = xs.getD (xs.length - 1 - i) a := by
  rw [List.getD_eq_getElem?_getD, List.getD_eq_getElem?_getD, List.getElem?_reverse hi]
theorem turn_get {α : Type} {i : Nat} {xs : List α} {a : α} (hi : i < xs.length) : (xs.take 1 ++ (xs.drop 1).reverse).getD i a = xs.getD (if i = 0 then 0 else xs.length - i) a := by
  cases xs with
  | nil => cases hi
  | cons x xs =>
    simp only [List.length_cons] at hi
    cases i with
    | zero => rfl
    | succ i =>
      rw [if_neg (by omega)]
      show ([x] ++ xs.reverse).getD (i + 1) a = _
      show xs.reverse.getD i a = _
      rw [rev_get (by omega)]
      rw [show (x :: xs).length - (i + 1) = (xs.length - 1 - i) + 1 by simp only [List.length_cons]; omega]
      rfl
theorem wrap_mod {i n : Nat} (h : i < n) : (i + 1) % n = if i + 1 < n then i + 1 else 0 := by
  split
  · exact Nat.mod_eq_of_lt (by omega)
  · rw [show i + 1 = n by omega, Nat.mod_self]
/-- rings, with the far rows in both directions -/
theorem RingP.sym {p : List (List Str)} {c : List Str} (h : RingP p c) {i j : Nat} (hi : i < p.length) (hj : j < p.length) (h1 : 1 < i - j ∨ 1 < j - i) (h2 : i - j < p.length - 1) (h3 : j - i < p.length - 1) : ¬ ∃ x ∈ p.getD i [], x ∈ p.getD j [] := by
  intro ⟨x, hx, hx2⟩
  by_cases hij : j < i
  · exact (h.2.2 i hi).2 j hij ⟨⟨by omega, h2⟩, x, hx, hx2⟩
  · exact (h.2.2 j hj).2 i (by omega) ⟨⟨by omega, h3⟩, x, hx2, hx⟩
theorem RingP.rot {p : List (List Str)} {c : List Str} {s : Nat} (h : RingP p c) (hs : s < p.length) : RingP (rot s p) (rot s c) := by
  obtain ⟨h4, hl, hb⟩ := id h
  refine ⟨by rw [rot_len]; exact h4, by rw [rot_len, rot_len, hl], fun i hi => ?_⟩
  rw [rot_len] at hi ⊢
  refine ⟨?_, fun j hj hc => ?_⟩
  · rw [wrap_mod hi, rot_get (by omega) hi, rot_get (by omega) (by omega), rot_get (by omega) (by split <;> omega), hl]
    have hi' : (if i + s < p.length then i + s else i + s - p.length) < p.length := by split <;> omega
    have := (hb _ hi').1
    refine ⟨this.1, ?_⟩
    rw [wrap_mod hi'] at this
    have e : (if (if i + 1 < p.length then i + 1 else 0) + s < p.length then (if i + 1 < p.length then i + 1 else 0) + s else (if i + 1 < p.length then i + 1 else 0) + s - p.length) = (if (if i + s < p.length then i + s else i + s - p.length) + 1 < p.length then (if i + s < p.length then i + s else i + s - p.length) + 1 else 0) := by
      split <;> split <;> split <;> (try split) <;> omega
    rw [e]
    exact this.2
  · rw [rot_get (by omega) hi, rot_get (by omega) (by omega)] at hc
    refine h.sym ?_ ?_ ?_ ?_ ?_ hc.2 <;> split <;> (try split) <;> omega
theorem RingP.turn {p : List (List Str)} {c : List Str} (h : RingP p c) : RingP p.reverse (c.take 1 ++ (c.drop 1).reverse) := by
  obtain ⟨h4, hl, hb⟩ := id h
  refine ⟨by rw [List.length_reverse]; exact h4, by simp; omega, fun i hi => ?_⟩
  rw [List.length_reverse] at hi ⊢
  refine ⟨?_, fun j hj hc => ?_⟩
  · rw [wrap_mod hi, rev_get hi, turn_get (by omega), turn_get (by split <;> omega), hl]
    have := (hb (p.length - 1 - i) (by omega)).1
    rw [wrap_mod (by omega)] at this
    refine ⟨?_, ?_⟩
    · have e : (if i = 0 then 0 else p.length - i) = (if p.length - 1 - i + 1 < p.length then p.length - 1 - i + 1 else 0) := by
        split <;> split <;> omega
      rw [e]
      exact this.2
    · have e : (if (if i + 1 < p.length then i + 1 else 0) = 0 then 0 else p.length - (if i + 1 < p.length then i + 1 else 0)) = p.length - 1 - i := by
        by_cases q : i + 1 < p.length
        · rw [if_pos q, if_neg (by omega)]
          omega
        · rw [if_neg q, if_pos rfl]
          omega
      rw [e]
      exact this.1
  · rw [rev_get hi, rev_get (by omega)] at hc
    refine h.sym ?_ ?_ ?_ ?_ ?_ hc.2 <;> omega
theorem rot_perm {α : Type} (s : Nat) (xs : List α) : (rot s xs).Perm xs := by
  unfold rot
  exact List.perm_append_comm.trans (by rw [List.take_append_drop])
theorem CrowdP.perm {p p' : List (List Str)} {c c' names : List Str} (h : CrowdP p c names) (hp : p'.Perm p) (hc : c'.Perm c) : CrowdP p' c' names := by
  obtain ⟨h1, h2, h3, h4⟩ := h
  refine ⟨by rw [hp.length_eq]; exact h1, by rw [hc.length_eq]; exact h2, fun row hr => ?_, fun n hn => ?_⟩
  · rw [(hc.filter _).length_eq]
    exact h3 row (hp.mem_iff.mp hr)
  · obtain ⟨row, hr, hx⟩ := h4 n hn
    exact ⟨row, hp.mem_iff.mpr hr, hx⟩
theorem pick_rot {rows : List (List Str)} {nums : List Int} (s : Nat) : pick rows (rot s nums) = rot s (pick rows nums) := by
  simp [pick, rot]
theorem pick_rev {rows : List (List Str)} {nums : List Int} : pick rows nums.reverse = (pick rows nums).reverse := by
  simp [pick]
theorem turn_perm {α : Type} (xs : List α) : (xs.take 1 ++ (xs.drop 1).reverse).Perm xs := by
  have : (xs.take 1 ++ (xs.drop 1).reverse).Perm (xs.take 1 ++ xs.drop 1) := List.Perm.append_left _ (List.reverse_perm _)
  rwa [List.take_append_drop] at this
theorem Turned.perm {kind : Str} {nums nums' : List Int} {cols cols' : List Str} (T : Turned kind nums cols nums' cols') : nums'.Perm nums ∧ cols'.Perm cols := by
  by_cases hk : kind = "crowd"
  · obtain ⟨s, c, _, rfl, rfl | rfl⟩ := T.crowd hk
    · exact ⟨rot_perm _ _, rot_perm _ _⟩
    · exact ⟨rot_perm _ _, (List.reverse_perm _).trans (rot_perm _ _)⟩
  · obtain ⟨s, _, ⟨rfl, rfl⟩ | ⟨rfl, rfl⟩⟩ := T.ring hk
    · exact ⟨rot_perm _ _, rot_perm _ _⟩
    · exact ⟨(List.reverse_perm _).trans (rot_perm _ _), (turn_perm _).trans (rot_perm _ _)⟩
theorem Base.perm {names : List Str} {m : Nat} {nums nums' : List Int} {cols cols' : List Str} (h : Base names m nums cols) (hn : nums'.Perm nums) (hc : cols'.Perm cols) : Base names m nums' cols' :=
  ⟨fun k hk => h.inr k (hn.mem_iff.mp hk), fun c z => h.cn c (hc.mem_iff.mp z), hn.nodup_iff.mpr h.nd, hc.nodup_iff.mpr h.cd⟩
theorem pick_perm {rows : List (List Str)} {nums nums' : List Int} (h : nums'.Perm nums) : (pick rows nums').Perm (pick rows nums) := h.map _
theorem StP.turned {names : List Str} {rows : List (List Str)} {kind : Str} {nums nums' : List Int} {cols cols' : List Str} (h : StP names rows kind nums cols) (T : Turned kind nums cols nums' cols') (hrc : ("ring" : Str) ≠ "crowd") : StP names rows kind nums' cols' := by
  obtain ⟨hb, h⟩ := h
  refine ⟨hb.perm T.perm.1 T.perm.2, ?_⟩
  rcases h with ⟨rfl, h⟩ | ⟨h1, rfl, h⟩
  · refine .inl ⟨rfl, ?_⟩
    obtain ⟨s, hs, ⟨rfl, rfl⟩ | ⟨rfl, rfl⟩⟩ := T.ring hrc
    · rw [pick_rot]
      exact h.rot (by rw [pick_len]; exact hs)
    · rw [pick_rev, pick_rot]
      exact (h.rot (by rw [pick_len]; exact hs)).turn
  · exact .inr ⟨h1, rfl, h.perm (pick_perm T.perm.1) T.perm.2⟩
/-! rows with the same names -/
def Same (p p' : List (List Str)) : Prop := p'.length = p.length ∧ ∀ i x, x ∈ p'.getD i [] ↔ x ∈ p.getD i []
theorem RingP.same {p p' : List (List Str)} {c : List Str} (h : RingP p c) (e : Same p p') : RingP p' c := by
  obtain ⟨h4, hl, hb⟩ := h
  refine ⟨by rw [e.1]; exact h4, by rw [e.1]; exact hl, fun i hi => ?_⟩
  rw [e.1] at hi ⊢
  simp only [e.2]
  exact hb i hi
theorem CrowdP.same {p p' : List (List Str)} {c names : List Str} (h : CrowdP p c names) (e : Same p p') : CrowdP p' c names := by
  obtain ⟨h1, h2, h3, h4⟩ := h
  refine ⟨by rw [e.1]; exact h1, h2, fun row hr => ?_, fun n hn => ?_⟩
  · obtain ⟨i, hi, rfl⟩ := mem_getD hr
    simp only [e.2]
    exact h3 _ (getD_mem (by rw [← e.1]; exact hi))
  · obtain ⟨row, hr, hx⟩ := h4 n hn
    obtain ⟨i, hi, rfl⟩ := mem_getD hr
    exact ⟨_, getD_mem (by rw [e.1]; exact hi), by rw [e.2]; exact hx⟩
/-- rows', of at least as many rows -/
theorem StP.more {names : List Str} {rows rows' : List (List Str)} {kind : Str} {nums : List Int} {cols : List Str} (h : StP names rows kind nums cols) (hl : rows.length ≤ rows'.length) (hx : ∀ i, i < rows.length → ∀ x, x ∈ rows'.getD i [] ↔ x ∈ rows.getD i []) : StP names rows' kind nums cols := by
  obtain ⟨hb, h⟩ := h
  have s : Same (pick rows nums) (pick rows' nums) := by
    refine ⟨by rw [pick_len, pick_len], fun i x => ?_⟩
    by_cases hi : i < nums.length
    · have gi := get_some nums i 0 hi
      have hk := hb.inr _ (getD_mem' (a := 0) hi)
      have g : ∀ rows : List (List Str), (pick rows nums).getD i [] = rows.getD (nums.getD i 0).toNat [] := fun rows => by
        unfold pick
        rw [List.getD_eq_getElem?_getD, List.getElem?_map, gi]
        rfl
      rw [g, g]
      exact hx _ (by omega) x
    · have g : ∀ rows : List (List Str), (pick rows nums).getD i [] = [] := fun rows => by
        rw [List.getD_eq_getElem?_getD, List.getElem?_eq_none (by rw [pick_len]; omega)]
        rfl
      rw [g, g]
  refine ⟨⟨fun k hk => ?_, hb.cn, hb.nd, hb.cd⟩, ?_⟩
  · have := hb.inr k hk
    omega
  · rcases h with ⟨e, h⟩ | ⟨e1, e2, h⟩
    · exact .inl ⟨e, h.same s⟩
    · exact .inr ⟨e1, e2, h.same s⟩
abbrev tbl (names : List Str) (rows : List (List Str)) : List (List Str) := rows.map fun q => names.filter fun c => decide (c ∈ q)
theorem tbl_get {names : List Str} {rows : List (List Str)} (h : ∀ r ∈ rows, ∀ c ∈ r, c ∈ names) (i : Nat) (x : Str) : x ∈ (tbl names rows).getD i [] ↔ x ∈ rows.getD i [] := by
  by_cases hi : i < rows.length
  · have gi := get_some rows i [] hi
    rw [List.getD_eq_getElem?_getD, List.getElem?_map, gi]
    simp only [Option.map_some, Option.getD_some, List.mem_filter, decide_eq_true_eq]
    exact ⟨fun z => z.2, fun z => ⟨h _ (getD_mem hi) x z, z⟩⟩
  · have g : ∀ rows' : List (List Str), rows'.length = rows.length → rows'.getD i [] = [] := fun rows' e => by
      rw [List.getD_eq_getElem?_getD, List.getElem?_eq_none (by omega)]
      rfl
    rw [g _ (by simp), g _ rfl]
theorem StP.tbl {names : List Str} {rows : List (List Str)} {kind : Str} {nums : List Int} {cols : List Str} (h : ∀ r ∈ rows, ∀ c ∈ r, c ∈ names) : StP names (tbl names rows) kind nums cols ↔ StP names rows kind nums cols :=
  ⟨fun z => z.more (by simp) fun i _ x => (tbl_get h i x).symm, fun z => z.more (by simp) fun i _ x => tbl_get h i x⟩
/-! the rows made are a bar -/
theorem RI.ringP {order : List Str} {m : Nat} {rows : List (List Str)} (h : RI order m order.length rows) (hm : 4 ≤ m) (hl : m ≤ order.length) : RingP rows (order.take m) := by
  have g : ∀ i, i < m → (order.take m).getD i e0 = order.getD i e0 := fun i hi => by
    rw [List.getD_eq_getElem?_getD, List.getD_eq_getElem?_getD, List.getElem?_take_of_lt hi]
  refine ⟨by rw [h.len]; exact hm, by rw [h.len, List.length_take]; omega, fun i hi => ?_⟩
  rw [h.len] at hi ⊢
  rw [g i hi, g _ (Nat.mod_lt _ (by omega))]
  exact ⟨h.base i hi, fun j hj ⟨⟨h1, h2⟩, x, hx, hx2⟩ => h.far i j hi hj h1 h2 x hx hx2⟩
theorem take3 {order : List Str} (h3 : 3 ≤ order.length) : order.take 3 = [order.getD 0 e0, order.getD 1 e0, order.getD 2 e0] := by
  match order, h3 with
  | a :: b :: c :: l, _ => rfl
theorem cbase_at_most {order : List Str} {k : Nat} {x : Str} (h : x ∈ cbase order k) : ∃ j, j < 3 ∧ x = order.getD j e0 := by
  unfold cbase at h
  split at h <;> simp only [List.mem_cons, List.not_mem_nil, or_false] at h
  · rcases h with rfl | rfl
    · exact ⟨0, by omega, rfl⟩
    · exact ⟨1, by omega, rfl⟩
  · rcases h with rfl | rfl
    · exact ⟨1, by omega, rfl⟩
    · exact ⟨2, by omega, rfl⟩
  · rcases h with rfl | rfl
    · exact ⟨2, by omega, rfl⟩
    · exact ⟨0, by omega, rfl⟩
  · rcases h with rfl | rfl | rfl
    · exact ⟨1, by omega, rfl⟩
    · exact ⟨0, by omega, rfl⟩
    · exact ⟨2, by omega, rfl⟩
theorem cbase_nd {order : List Str} {k : Nat} (ho : order.Nodup) (h3 : 3 ≤ order.length) : (cbase order k).Nodup := by
  have n01 : order.getD 0 e0 ≠ order.getD 1 e0 := fun z => by have := nd_inj ho (by omega) (by omega) z; omega
  have n12 : order.getD 1 e0 ≠ order.getD 2 e0 := fun z => by have := nd_inj ho (by omega) (by omega) z; omega
  have n02 : order.getD 0 e0 ≠ order.getD 2 e0 := fun z => by have := nd_inj ho (by omega) (by omega) z; omega
  unfold cbase
  split <;> simp only [List.nodup_cons, List.mem_cons, List.not_mem_nil, or_false, not_or, List.nodup_nil, and_true, not_false_eq_true]
  · exact n01
  · exact n12
  · exact Ne.symm n02
  · exact ⟨⟨Ne.symm n01, n12⟩, n02⟩
theorem CW.pr {order names : List Str} {m k : Nat} {row : List Str} (h : CW order m k row) (ho : order.Nodup) (h3 : 3 ≤ order.length) (hn : ∀ c ∈ order, c ∈ names) : PR names row := by
  obtain ⟨t, rfl, ht⟩ := h
  refine ⟨List.nodup_append.mpr ⟨cbase_nd ho h3, ht.nd, fun a ha b hb e => ?_⟩, fun c hc => ?_⟩
  · obtain ⟨j, hj, ea⟩ := cbase_at_most ha
    obtain ⟨i, _, hi2, hi3, _⟩ := ht.all b hb
    have := nd_inj ho (i := j) (j := 3 + i) (by omega) hi2 (by rw [← ea, ← hi3, e])
    omega
  · refine hn c ?_
    rcases List.mem_append.mp hc with z | z
    · obtain ⟨j, hj, ea⟩ := cbase_at_most z
      rw [ea]
      exact getD_mem' (by omega)
    · obtain ⟨i, _, hi2, hi3, _⟩ := ht.all c z
      rw [hi3]
      exact getD_mem' hi2
theorem CW.crowdP {order names : List Str} {m : Nat} {rows : List (List Str)} (hm : 3 ≤ m) (ho : order.Nodup) (h3 : 3 ≤ order.length) (hn : ∀ c ∈ names, c ∈ order) (hl : rows.length = m) (h : ∀ j, j < m → CW order m j (rows.getD j [])) : CrowdP rows (order.take 3) names := by
  have no : ∀ k t x j, CT order m k (order.length - 3) t → x = order.getD j e0 → j < 3 → x ∉ t := fun k t x j ht hx hj z => by
    obtain ⟨i, _, hi2, hi3, _⟩ := ht.all x z
    have := nd_inj ho (i := j) (j := 3 + i) (by omega) hi2 (by rw [← hx, hi3])
    omega
  have n01 : order.getD 0 e0 ≠ order.getD 1 e0 := fun z => by have := nd_inj ho (by omega) (by omega) z; omega
  have n12 : order.getD 1 e0 ≠ order.getD 2 e0 := fun z => by have := nd_inj ho (by omega) (by omega) z; omega
  have n02 : order.getD 0 e0 ≠ order.getD 2 e0 := fun z => by have := nd_inj ho (by omega) (by omega) z; omega
  refine ⟨by omega, by rw [List.length_take]; omega, fun row hr => ?_, fun x hx => ?_⟩
  · obtain ⟨k, hk, rfl⟩ := mem_getD hr
    obtain ⟨t, e, _⟩ := h k (by omega)
    rw [e, take3 h3]
    unfold cbase
    split <;> simp [List.filter_cons] <;> (try split) <;> simp
  · obtain ⟨j, hj, e⟩ := List.mem_iff_getElem.mp (hn x hx)
    have e : x = order.getD j e0 := by rw [List.getD_eq_getElem?_getD, List.getElem?_eq_getElem hj, Option.getD_some, e]
    by_cases h0 : j < 3
    · have q : ∀ k, k < m → x ∉ cbase order k → ∃ row ∈ rows, x ∉ row := fun k hk hb => by
        obtain ⟨t, e2, ht⟩ := h k hk
        refine ⟨_, getD_mem (by rw [hl]; exact hk), ?_⟩
        rw [e2]
        intro z
        rcases List.mem_append.mp z with z | z
        · exact hb z
        · exact no k t x j ht e h0 z
      match j, h0 with
      | 0, _ => exact q 1 (by omega) (by rw [e]; show _ ∉ [_, _]; simp only [List.mem_cons, List.not_mem_nil, or_false, not_or]; exact ⟨n01, n02⟩)
      | 1, _ => exact q 2 (by omega) (by rw [e]; show _ ∉ [_, _]; simp only [List.mem_cons, List.not_mem_nil, or_false, not_or]; exact ⟨n12, Ne.symm n01⟩)
      | 2, _ => exact q 0 (by omega) (by rw [e]; show _ ∉ [_, _]; simp only [List.mem_cons, List.not_mem_nil, or_false, not_or]; exact ⟨Ne.symm n02, Ne.symm n12⟩)
    · have hk : (m - (j - 3) % m) % m < m := Nat.mod_lt _ (by omega)
      obtain ⟨t, e2, ht⟩ := h _ hk
      refine ⟨_, getD_mem (by rw [hl]; exact hk), ?_⟩
      rw [e2]
      intro z
      rcases List.mem_append.mp z with z | z
      · obtain ⟨i, hi, e3⟩ := cbase_at_most z
        have := nd_inj ho (i := j) (j := i) (by omega) (by omega) (by rw [← e, e3])
        omega
      · obtain ⟨i, _, hi2, hi3, hi4⟩ := ht.all x z
        have := nd_inj ho (i := j) (j := 3 + i) (by omega) (by omega) (by rw [← e, hi3])
        refine hi4 ?_
        have h1 : i = j - 3 := by omega
        subst h1
        have h2 := Nat.mod_lt (j - 3) (show 0 < m by omega)
        rw [Nat.add_mod, Nat.mod_mod]
        by_cases h5 : (j - 3) % m = 0
        · rw [h5, Nat.sub_zero, Nat.mod_self, Nat.zero_add, Nat.zero_mod]
        · rw [Nat.mod_eq_of_lt (show m - (j - 3) % m < m by omega), show (j - 3) % m + (m - (j - 3) % m) = m by omega, Nat.mod_self]
theorem RI.pr {order names : List Str} {m k : Nat} {rows : List (List Str)} (h : RI order m k rows) (hn : ∀ c ∈ order, c ∈ names) : ∀ r ∈ rows, PR names r := fun r hr =>
  ⟨(h.nd r hr).1, fun c hc => hn c (List.mem_of_mem_take ((h.nd r hr).2 c hc))⟩
/-- no row of a bar is empty -/
theorem StP.ne {names : List Str} {rows : List (List Str)} {kind : Str} {nums : List Int} {cols : List Str} (h : StP names rows kind nums cols) : ∀ k ∈ nums, rows.getD k.toNat [] ≠ [] := by
  intro k hk e
  have hm : rows.getD k.toNat [] ∈ pick rows nums := List.mem_map.mpr ⟨k, hk, rfl⟩
  rcases h.2 with ⟨_, h⟩ | ⟨_, _, h⟩
  · obtain ⟨i, hi, e2⟩ := mem_getD hm
    have := (h.2.2 i hi).1.1
    rw [← e2, e] at this
    cases this
  · have := h.2.2.1 _ hm
    rw [e, List.filter_eq_nil_iff.mpr (by simp)] at this
    exact absurd this (by simp)
end Gn

set_option Elab.async false
set_option linter.all false
set_option maxRecDepth 100000
set_option maxHeartbeats 4000000
/-! k44: the setting -/
namespace Gn
open PySem Iv Pl
structure Laid (names : List Str) (ring : Bool) (nums : List Int) (cols : List Str) (rows : List (List Str)) : Prop where
  st : StP names rows (kindOf ring) nums cols
  good : ∀ r ∈ rows, PR names r
  rl : rows.length ≤ 18
  n3 : 3 ≤ nums.length ∧ nums.length ≤ 12
  c3 : 3 ≤ cols.length ∧ cols.length ≤ 12
theorem nrc : ("ring" : Str) ≠ "crowd" := by decide +kernel
theorem nrc' : ("crowd" : Str) ≠ "ring" := by decide +kernel
theorem e_setting {names order : List Str} {pool : List Int} {n : Nat} (N : Names names n) (h3 : 3 ≤ n) (hn : n ≤ 12) (ho : order.Perm names) (hp : pool.length = 60) :
    ∃ ring nums cols rows, F_law_setting [(0, LS names), (0, LS order), (0, LI pool)] = some (.lst [.str (kindOf ring), LI nums, LS cols, LL rows]) ∧ Laid names ring nums cols rows := by
  suffices h : ∃ d, F_law_setting [(0, LS names), (0, LS order), (0, LI pool)] = some d ∧ ∃ ring nums cols rows, d = .lst [.str (kindOf ring), LI nums, LS cols, LL rows] ∧ Laid names ring nums cols rows by
    obtain ⟨d, e, ring, nums, cols, rows, rfl, h⟩ := h
    exact ⟨ring, nums, cols, rows, e, h⟩
  have gp : ∀ i, i < 60 → pool[i]? = some (pool.getD i 0) := fun i hi => by rw [List.getD_eq_getElem?_getD, List.getElem?_eq_getElem (by omega), Option.getD_some]
  have nl := N.len
  have ol : order.length = n := by rw [ho.length_eq, nl]
  have ond : order.Nodup := ho.nodup_iff.mpr N.nd
  have om : ∀ c ∈ order, c ∈ names := fun c hc => ho.mem_iff.mp hc
  have om' : ∀ c ∈ names, c ∈ order := fun c hc => ho.mem_iff.mpr hc
  refine run_wp rfl ?_
  show Wp _ _ (seqS _ _ [sl (LS names), sl (LS order), sl (LI pool), none, none, none, none, none, none, none, none, none])
  have ei : ∀ (ρ : Rho) (i : Nat) (z : Int), varP 2 ρ = some (0, LI pool) → z = i → i < 60 → callP (c1 intD) (aCons (ixP (varP 2) (cst (.int z))) aNil) ρ = some (0, .int (pool.getD i 0)) := fun ρ i z e hz hi => ev_intI (ev_ix D.int (fa := varP 2) (fb := cst (.int z)) (n := 0) (m := 0) (xs := pool) (i := z) (j := i) e rfl hz (gp i hi))
  have b1 := ev_blP (ev_c2 (g := eqC) (ev_mod (ei [sl (LS names), sl (LS order), sl (LI pool), none, none, none, none, none, none, none, none, none] 26 26 rfl rfl (by omega)) (fb := cst (.int 2)) (b := 2) rfl (by omega)) (fb := cst (.int 0)) (m := 0) (y := .int 0) rfl (eq_int _ _))
  have b2 := ev_blP (ev_c2 (g := gtC) (fa := callP (c1 lenD) (aCons (varP 0) aNil)) (fb := cst (.int 3)) (ρ := [sl (LS names), sl (LS order), sl (LI pool), none, none, none, none, none, none, none, none, none]) (n := 0) (m := 0) (x := .int names.length) (y := .int 3) (b := decide ((3 : Int) < names.length)) (ev_lenI (n := 0) (f := D.str) (xs := names) rfl) rfl rfl)
  refine wp_seq (wp_nx (set_eq (ev_k0 (ev_andB b1 b2)) (by simp)) ?_)
  generalize hring : (decide (pool.getD 26 0 % 2 = 0) && decide ((3 : Int) < names.length)) = ring
  show Wp _ _ (seqS _ _ [sl (LS names), sl (LS order), sl (LI pool), sl (.bl ring), none, none, none, none, none, none, none, none])
  refine wp_seq (wp_ite (b := ring) (ev_asB (n := 0) rfl) (fun hb => ?_) fun hb => ?_)
  · rw [hb] at hring ⊢
    have hb : 3 < n := by
      rw [Bool.and_eq_true, decide_eq_true_eq, decide_eq_true_eq] at hring
      omega
    obtain ⟨q, hq1, hq2⟩ := nat_mod (a := pool.getD 27 0) (n := n - 3) (by omega)
    have hs : ((n - 3 : Nat) : Int) = (names.length : Int) - 3 := by omega
    rw [hs] at hq1
    have e7 := ev_adI (fa := cst (.int 4)) (a := 4) rfl (ev_mod (ei [sl (LS names), sl (LS order), sl (LI pool), sl (.bl true), none, none, none, none, none, none, none, none] 27 27 rfl rfl (by omega)) (ev_sbI (ev_lenI (n := 0) (fa := varP 0) (f := D.str) (xs := names) rfl) (fb := cst (.int 3)) (b := 3) rfl) (by omega))
    rw [hq1] at e7
    refine wp_seq (wp_nx (set_eq (ev_k0 e7) (by simp)) ?_)
    have hm : (4 : Int) + (q : Int) = ((4 + q : Nat) : Int) := by omega
    rw [hm]
    generalize hm' : 4 + q = m at *
    show Wp _ _ (seqS _ _ [sl (LS names), sl (LS order), sl (LI pool), sl (.bl true), none, none, none, sl (.int (m : Int)), none, none, none, none])
    obtain ⟨extra, he, RIx⟩ := e_ring_rows (order := order) (m := m) (draw := pool.getD 28 0) ond (by omega) (by omega) (by omega)
    have e8 : callG F_law_ring_rows (aCons (varP 1) (aCons (varP 7) (aCons (ixP (varP 2) (cst (.int 28))) aNil))) [sl (LS names), sl (LS order), sl (LI pool), sl (.bl true), none, none, none, sl (.int (m : Int)), none, none, none, none] = some (LL extra) := by
      have x1 : varP 1 [sl (LS names), sl (LS order), sl (LI pool), sl (.bl true), none, none, none, sl (.int (m : Int)), none, none, none, none] = some (0, LS order) := rfl
      have x7 : varP 7 [sl (LS names), sl (LS order), sl (LI pool), sl (.bl true), none, none, none, sl (.int (m : Int)), none, none, none, none] = some (0, .int (m : Int)) := rfl
      have x2 := ev_ix D.int (fa := varP 2) (fb := cst (.int 28)) (n := 0) (m := 0) (xs := pool) (i := 28) (j := 28) (ρ := [sl (LS names), sl (LS order), sl (LI pool), sl (.bl true), none, none, none, sl (.int (m : Int)), none, none, none, none]) rfl rfl rfl (gp 28 (by omega))
      simp only [callG, aCons, aNil, x1, x7, x2, Option.bind_some, Option.map_some]
      exact he
    refine wp_seq (wp_nx (set_eq e8 (by simp)) ?_)
    refine wp_nx (set_eq (d := LS (order.take m)) (ev_k0 (ev_cutTake D.str (fa := varP 1) (fi := varP 7) (m := 0) (xs := order) (i := (m : Int)) (j := m) rfl rfl rfl)) (by simp)) ?_
    have xl := RIx.len
    refine set_tail (by omega) N.nd hp (by omega) (RIx.pr om) fun rows nums S hl => ⟨_, _, _, _, rfl, ?_⟩
    have pk := S.pk
    rw [List.take_length] at pk
    refine ⟨⟨⟨S.inr, fun c hc => om c (List.mem_of_mem_take hc), S.nd, ond.sublist (List.take_sublist _ _)⟩, .inl ⟨rfl, ?_⟩⟩, S.good, by omega, by have := S.len; omega, by rw [List.length_take]; omega⟩
    rw [pk]
    exact RIx.ringP (by omega) (by omega)
  · rw [hb]
    clear hring
    obtain ⟨q, hq1, hq2⟩ := nat_mod (a := pool.getD 27 0) (n := 6) (by omega)
    have hq1 : pool.getD 27 0 % 6 = (q : Int) := hq1
    have e7 := ev_adI (fa := cst (.int 3)) (a := 3) rfl (ev_mod (ei [sl (LS names), sl (LS order), sl (LI pool), sl (.bl false), none, none, none, none, none, none, none, none] 27 27 rfl rfl (by omega)) (fb := cst (.int 6)) (b := 6) rfl (by omega))
    rw [hq1] at e7
    refine wp_seq (wp_nx (set_eq (ev_k0 e7) (by simp)) ?_)
    have hm : (3 : Int) + (q : Int) = ((3 + q : Nat) : Int) := by omega
    rw [hm]
    generalize hm' : 3 + q = m at *
    show Wp _ _ (seqS _ _ [sl (LS names), sl (LS order), sl (LI pool), sl (.bl false), none, none, none, sl (.int (m : Int)), none, none, none, none])
    obtain ⟨extra, he, xl, CWx⟩ := e_crowd_rows (order := order) (m := m) (draw := pool.getD 28 0) (by omega) (by omega) ond (by omega) (by omega)
    have e8 : callG F_law_crowd_rows (aCons (varP 1) (aCons (varP 7) (aCons (ixP (varP 2) (cst (.int 28))) aNil))) [sl (LS names), sl (LS order), sl (LI pool), sl (.bl false), none, none, none, sl (.int (m : Int)), none, none, none, none] = some (LL extra) := by
      have x1 : varP 1 [sl (LS names), sl (LS order), sl (LI pool), sl (.bl false), none, none, none, sl (.int (m : Int)), none, none, none, none] = some (0, LS order) := rfl
      have x7 : varP 7 [sl (LS names), sl (LS order), sl (LI pool), sl (.bl false), none, none, none, sl (.int (m : Int)), none, none, none, none] = some (0, .int (m : Int)) := rfl
      have x2 := ev_ix D.int (fa := varP 2) (fb := cst (.int 28)) (n := 0) (m := 0) (xs := pool) (i := 28) (j := 28) (ρ := [sl (LS names), sl (LS order), sl (LI pool), sl (.bl false), none, none, none, sl (.int (m : Int)), none, none, none, none]) rfl rfl rfl (gp 28 (by omega))
      simp only [callG, aCons, aNil, x1, x7, x2, Option.bind_some, Option.map_some]
      exact he
    refine wp_seq (wp_nx (set_eq e8 (by simp)) ?_)
    refine wp_nx (set_eq (d := LS (order.take 3)) (ev_k0 (ev_cutTake D.str (fa := varP 1) (fi := cst (.int 3)) (m := 0) (xs := order) (i := 3) (j := 3) rfl rfl rfl)) (by simp)) ?_
    have hpr : ∀ r ∈ extra, PR names r := fun r hr => by
      obtain ⟨j, hj, e⟩ := mem_getD hr
      rw [e]
      exact (CWx j (by omega)).pr ond (by omega) om
    refine set_tail (by omega) N.nd hp (by omega) hpr fun rows nums S hl => ⟨_, _, _, _, rfl, ?_⟩
    have pk := S.pk
    rw [List.take_length] at pk
    refine ⟨⟨⟨S.inr, fun c hc => om c (List.mem_of_mem_take hc), S.nd, ond.sublist (List.take_sublist _ _)⟩, .inr ⟨nrc', rfl, ?_⟩⟩, S.good, by omega, by have := S.len; omega, by rw [List.length_take]; omega⟩
    rw [pk]
    exact CW.crowdP (by omega) ond (by omega) om' xl CWx
end Gn

set_option Elab.async false
set_option linter.all false
set_option maxRecDepth 100000
set_option maxHeartbeats 4000000
/-! k44: parts of the law's own body -/
namespace Gn
open PySem Iv Pl
theorem ev_mkT {names : List Str} {rows : List (List Str)} {ρ : Rho} {fr : Rho → Option (List D)} (e4 : varP 4 ρ = some (0, LS names)) (er : fr ρ = some (rows.map LS)) (eb : ∀ row : List Str, ∃ ρ1, bN 16 (LS row) (wipeR ρ [16]) = some ρ1 ∧ varP 16 ρ1 = some (0, LS row))
    (h : names.Nodup) (hn : ∀ s ∈ names, Nm s) (hl : names.length ≤ 12) (hr : rows.length ≤ 48) (hq : ∀ q ∈ rows, q.Nodup ∧ ∀ s ∈ q, s ∈ names) :
    callG F_Table_init (aCons (fun ρ => ((callN lstD (aCons (varP 4) aNil)) ρ).map fun ds => ((0 : Nat), D.lst ds)) (aCons (frP (lcG [16] fr (bN 16) yesT (keep0 (fun ρ => ((callN lstD (aCons (varP 16) aNil)) ρ).map fun ds => ((0 : Nat), D.lst ds))))) aNil)) ρ = some (Tb names (tbl names rows)) := by
  have q1 : (fun ρ => ((callN lstD (aCons (varP 4) aNil)) ρ).map fun ds => ((0 : Nat), D.lst ds)) ρ = some (0, LS names) := mapL (ev_lstN D.str e4 (by omega))
  have q2 : lcG [16] fr (bN 16) yesT (keep0 (fun ρ => ((callN lstD (aCons (varP 16) aNil)) ρ).map fun ds => ((0 : Nat), D.lst ds))) ρ = some (LL rows) := ev_all LS LS rows er (by omega) fun row _ => by
    obtain ⟨ρ1, e1, e2⟩ := eb row
    exact ⟨ρ1, e1, ev_k0 (mapL (ev_lstN D.str e2 (by omega)))⟩
  have q3 := e_table (p := (false, names)) (rs := rows.map fun r => (false, r)) h hn hl (by simp; omega) fun q hq' => by
    obtain ⟨r, hr, rfl⟩ := List.mem_map.mp hq'
    exact ⟨(hq r hr).1, (hq r hr).2, Nat.le_trans (nd_len (hq r hr).1 (hq r hr).2) (by omega)⟩
  have q4 : (D.lst ((rows.map fun r => (false, r)).map eQ)) = LL rows := by
    rw [List.map_map]
    rfl
  rw [q4] at q3
  have q5 : ((rows.map fun r => (false, r)).map fun q : Qs => names.filter fun c => decide (c ∈ q.2)) = tbl names rows := by
    rw [List.map_map]
    rfl
  simp only [callG, aCons, aNil, q1, ev_frP q2, Option.bind_some, Option.map_some]
  rw [← q5]
  exact q3
theorem ev_st {names cols : List Str} {rows : List (List Str)} {kind : Str} {nums : List Int} {l1 l2 : Nat} {ft fb : Pk} {ρ : Rho} (et : ft ρ = some (l1, Tb names rows)) (eb : fb ρ = some (l2, Br kind nums cols)) (hs : Sz names rows kind nums cols) : ∃ b, callG F_stands_in (aCons ft (aCons fb aNil)) ρ = some (.bl b) ∧ (b = true ↔ StP names rows kind nums cols) := by
  obtain ⟨b, e, h⟩ := e_stands_in (l1 := l1) (l2 := l2) hs
  refine ⟨b, ?_, h⟩
  simp only [callG, aCons, aNil, et, eb, Option.bind_some, Option.map_some, e]
theorem ev_isn {f : Rho → Option D} {ρ : Rho} (e : f ρ = some (.bl true)) : cmp isnC (frP f) (cst (.bl true)) ρ = some false :=
  ev_c2 (ev_frP e) (m := 0) (y := .bl true) rfl rfl
/-- bar i, column c of a bar in slot s -/
theorem ev_b0 {s : Nat} {b : BarT} {ρ : Rho} (e : varP s ρ = some (0, encB b)) : ixP (varP s) (cst (.int 0)) ρ = some (0, .str b.1) := by
  unfold ixP
  rw [e]
  rfl
theorem ev_b1 {s : Nat} {b : BarT} {ρ : Rho} (e : varP s ρ = some (0, encB b)) : ixP (varP s) (cst (.int 1)) ρ = some (0, LI b.2.1) := by
  unfold ixP
  rw [e]
  rfl
theorem ev_b2 {s : Nat} {b : BarT} {ρ : Rho} (e : varP s ρ = some (0, encB b)) : ixP (varP s) (cst (.int 2)) ρ = some (0, LS b.2.2) := by
  unfold ixP
  rw [e]
  rfl
theorem ev_tup1 {α : Type} (f : α → D) {fa : Pk} {ρ : Rho} {xs : List α} (e : fa ρ = some (0, .lst (xs.map f))) : callP tupD (aCons fa aNil) ρ = some (0, .tup (xs.map f)) := by
  simp only [callP, aCons, aNil, e, Option.bind_some, Option.map_some]
  rfl
abbrev lstP (f : Pk) : Pk := fun ρ => ((callN lstD (aCons f aNil)) ρ).map fun ds => ((0 : Nat), D.lst ds)
/-- the bar made of lists -/
theorem ev_mkLL {s : Nat} {b : BarT} {ρ : Rho} (e : varP s ρ = some (0, encB b)) : frP (callG F_Bar_init (aCons (ixP (varP s) (cst (.int 0))) (aCons (lstP (ixP (varP s) (cst (.int 1)))) (aCons (lstP (ixP (varP s) (cst (.int 2)))) aNil)))) ρ = some (0, Br b.1 b.2.1 b.2.2) :=
  ev_frP (ev_bar (ev_b0 e) (n2 := 0) (d2 := LI b.2.1) (mapL (ev_lstN D.int (ev_b1 e) (by omega))) (n3 := 0) (d3 := LS b.2.2) (mapL (ev_lstN D.str (ev_b2 e) (by omega))) rfl rfl)
theorem ev_mkLT {s : Nat} {b : BarT} {ρ : Rho} (e : varP s ρ = some (0, encB b)) : frP (callG F_Bar_init (aCons (ixP (varP s) (cst (.int 0))) (aCons (lstP (ixP (varP s) (cst (.int 1)))) (aCons (callP tupD (aCons (ixP (varP s) (cst (.int 2))) aNil)) aNil)))) ρ = some (0, Br b.1 b.2.1 b.2.2) :=
  ev_frP (ev_bar (ev_b0 e) (n2 := 0) (d2 := LI b.2.1) (mapL (ev_lstN D.int (ev_b1 e) (by omega))) (n3 := 0) (d3 := TS b.2.2) (ev_tup1 D.str (ev_b2 e)) rfl rfl)
theorem ev_mkTL {s : Nat} {b : BarT} {ρ : Rho} (e : varP s ρ = some (0, encB b)) : frP (callG F_Bar_init (aCons (ixP (varP s) (cst (.int 0))) (aCons (callP tupD (aCons (ixP (varP s) (cst (.int 1))) aNil)) (aCons (lstP (ixP (varP s) (cst (.int 2)))) aNil)))) ρ = some (0, Br b.1 b.2.1 b.2.2) :=
  ev_frP (ev_bar (ev_b0 e) (n2 := 0) (d2 := TI b.2.1) (ev_tup1 D.int (ev_b1 e)) (n3 := 0) (d3 := LS b.2.2) (mapL (ev_lstN D.str (ev_b2 e) (by omega))) rfl rfl)
theorem ev_told {f : Rho → Option D} {fb : Pk} {ρ : Rho} {b : Bool} (e1 : f ρ = some (.bl b)) (e2 : fb ρ = some (0, .bl b)) : notT (asB (frP (callG F_law_is_told (aCons (frP f) (aCons fb aNil))))) ρ = some false := by
  have : callG F_law_is_told (aCons (frP f) (aCons fb aNil)) ρ = some (.bl true) := by
    simp only [callG, aCons, aNil, ev_frP e1, e2, Option.bind_some, Option.map_some, e_told, decide_true]
  exact ev_not (ev_asB (ev_frP this))
/-- rows of a table -/
structure Rw (names : List Str) (rows : List (List Str)) : Prop where
  nd : names.Nodup
  nm : ∀ s ∈ names, Nm s
  nl : 3 ≤ names.length ∧ names.length ≤ 12
  rl : rows.length ≤ 18
  q : ∀ q ∈ rows, q.Nodup ∧ ∀ s ∈ q, s ∈ names
theorem tbl_len {names : List Str} {rows : List (List Str)} : ∀ r ∈ tbl names rows, r.length ≤ names.length := fun r hr => by
  obtain ⟨q, _, rfl⟩ := List.mem_map.mp hr
  exact List.length_filter_le _ _
theorem Rw.sz {names : List Str} {rows : List (List Str)} (h : Rw names rows) {b : BarT} (hb : OkB b) : Sz names rows b.1 b.2.1 b.2.2 :=
  ⟨by have := h.nl; omega, by have := h.rl; omega, fun r hr => Nat.le_trans (nd_len (h.q r hr).1 (h.q r hr).2) (by have := h.nl; omega), hb.k, by have := hb.n; omega, by have := hb.c; omega⟩
theorem Rw.szT {names : List Str} {rows : List (List Str)} (h : Rw names rows) {b : BarT} (hb : OkB b) : Sz names (tbl names rows) b.1 b.2.1 b.2.2 :=
  ⟨by have := h.nl; omega, by have := h.rl; simp; omega, fun r hr => Nat.le_trans (tbl_len r hr) (by have := h.nl; omega), hb.k, by have := hb.n; omega, by have := hb.c; omega⟩
theorem Rw.both {names : List Str} {rows : List (List Str)} (h : Rw names rows) {b : BarT} : StP names (tbl names rows) b.1 b.2.1 b.2.2 ↔ StP names rows b.1 b.2.1 b.2.2 := StP.tbl fun r hr => (h.q r hr).2
section
variable {names : List Str} {rows : List (List Str)} {s0 s1 s2 s3 s5 s6 s9 s10 s11 s12 s13 s14 s15 s16 : Option Sl} {Pn : Rho → Prop} {Pr : D → Prop}
theorem law_1 {b : BarT} (h : Rw names rows) (hb : OkB b) (cont : ∀ s, Pn [s0, s1, s2, s3, sl (LS names), s5, s6, sl (LL rows), sl (Tb names (tbl names rows)), s9, s10, s11, sl (encB b), s13, s14, s, s16]) :
    Wp Pn Pr (l_law_1 [s0, s1, s2, s3, sl (LS names), s5, s6, sl (LL rows), sl (Tb names (tbl names rows)), s9, s10, s11, sl (encB b), s13, s14, s15, s16]) := by
  obtain ⟨d, ed, hd⟩ := e_stands (h.sz hb)
  unfold l_law_1
  have e1 : callG F_law_stands (aCons (varP 4) (aCons (varP 7) (aCons (ixP (varP 12) (cst (.int 0))) (aCons (ixP (varP 12) (cst (.int 1))) (aCons (ixP (varP 12) (cst (.int 2))) aNil))))) [s0, s1, s2, s3, sl (LS names), s5, s6, sl (LL rows), sl (Tb names (tbl names rows)), s9, s10, s11, sl (encB b), s13, s14, s15, s16] = some (.bl d) := by
    have x4 : varP 4 [s0, s1, s2, s3, sl (LS names), s5, s6, sl (LL rows), sl (Tb names (tbl names rows)), s9, s10, s11, sl (encB b), s13, s14, s15, s16] = some (0, LS names) := rfl
    have x7 : varP 7 [s0, s1, s2, s3, sl (LS names), s5, s6, sl (LL rows), sl (Tb names (tbl names rows)), s9, s10, s11, sl (encB b), s13, s14, s15, s16] = some (0, LL rows) := rfl
    have x12 : varP 12 [s0, s1, s2, s3, sl (LS names), s5, s6, sl (LL rows), sl (Tb names (tbl names rows)), s9, s10, s11, sl (encB b), s13, s14, s15, s16] = some (0, encB b) := rfl
    simp only [callG, aCons, aNil, x4, x7, ev_b0 x12, ev_b1 x12, ev_b2 x12, Option.bind_some, Option.map_some]
    exact ed
  refine wp_seq (wp_nx (set_eq e1 (by simp)) ?_)
  obtain ⟨c, ec, hc⟩ := ev_st (ft := varP 8) (l1 := 0) (ρ := [s0, s1, s2, s3, sl (LS names), s5, s6, sl (LL rows), sl (Tb names (tbl names rows)), s9, s10, s11, sl (encB b), s13, s14, sl (.bl d), s16]) rfl (ev_mkTL (s := 12) (b := b) rfl) (h.szT hb)
  have hcd : c = d := by
    rw [Bool.eq_iff_iff, hc, hd]
    exact h.both
  rw [hcd] at ec
  exact wp_ite (ev_told ec (fb := varP 15) rfl) (fun z => by cases z) fun _ => wp_sk (cont _)
theorem law_2 {b : BarT} {other : List (List Str)} (h : Rw names other) (hb : OkB b) {s7 s8 s12 : Option Sl} (cont : ∀ s, Pn [s0, s1, s2, s3, sl (LS names), s5, s6, s7, s8, s9, sl (encB b), s11, s12, s13, sl (LL other), s, s16]) :
    Wp Pn Pr (l_law_2 [s0, s1, s2, s3, sl (LS names), s5, s6, s7, s8, s9, sl (encB b), s11, s12, s13, sl (LL other), s15, s16]) := by
  obtain ⟨d, ed, hd⟩ := e_stands (h.sz hb)
  unfold l_law_2
  have e1 : callG F_law_stands (aCons (varP 4) (aCons (varP 14) (aCons (ixP (varP 10) (cst (.int 0))) (aCons (ixP (varP 10) (cst (.int 1))) (aCons (ixP (varP 10) (cst (.int 2))) aNil))))) [s0, s1, s2, s3, sl (LS names), s5, s6, s7, s8, s9, sl (encB b), s11, s12, s13, sl (LL other), s15, s16] = some (.bl d) := by
    have x4 : varP 4 [s0, s1, s2, s3, sl (LS names), s5, s6, s7, s8, s9, sl (encB b), s11, s12, s13, sl (LL other), s15, s16] = some (0, LS names) := rfl
    have x7 : varP 14 [s0, s1, s2, s3, sl (LS names), s5, s6, s7, s8, s9, sl (encB b), s11, s12, s13, sl (LL other), s15, s16] = some (0, LL other) := rfl
    have x12 : varP 10 [s0, s1, s2, s3, sl (LS names), s5, s6, s7, s8, s9, sl (encB b), s11, s12, s13, sl (LL other), s15, s16] = some (0, encB b) := rfl
    simp only [callG, aCons, aNil, x4, x7, ev_b0 x12, ev_b1 x12, ev_b2 x12, Option.bind_some, Option.map_some]
    exact ed
  refine wp_seq (wp_nx (set_eq e1 (by simp)) ?_)
  have eT := ev_mkT (names := names) (rows := other) (fr := anyI (varP 14)) (ρ := [s0, s1, s2, s3, sl (LS names), s5, s6, s7, s8, s9, sl (encB b), s11, s12, s13, sl (LL other), sl (.bl d), s16]) rfl (ev_any rfl) (fun row => ⟨[s0, s1, s2, s3, sl (LS names), s5, s6, s7, s8, s9, sl (encB b), s11, s12, s13, sl (LL other), sl (.bl d), sl (LS row)], rfl, rfl⟩) h.nd h.nm h.nl.2 (by have := h.rl; omega) h.q
  obtain ⟨c, ec, hc⟩ := ev_st (ev_frP eT) (ev_mkLL (s := 10) (b := b) rfl) (h.szT hb)
  have hcd : c = d := by
    rw [Bool.eq_iff_iff, hc, hd]
    exact h.both
  rw [hcd] at ec
  exact wp_ite (ev_told ec (fb := varP 15) rfl) (fun z => by cases z) fun _ => wp_sk (cont _)
end
end Gn

set_option Elab.async false
set_option linter.all false
set_option maxRecDepth 100000
set_option maxHeartbeats 4000000
/-! k44: the law's own body -/
namespace Gn
open PySem Iv Pl
theorem Laid.rw {names : List Str} {n : Nat} {ring : Bool} {nums : List Int} {cols : List Str} {rows : List (List Str)} (h : Laid names ring nums cols rows) (N : Names names n) (h3 : 3 ≤ n) (hn : n ≤ 12) : Rw names rows :=
  ⟨N.nd, N.nm, by have := N.len; omega, h.rl, h.good⟩
theorem kindOf_ok (ring : Bool) : PyData.strOk (kindOf ring) = true := by cases ring <;> decide +kernel
theorem kindOf_len (ring : Bool) : (kindOf ring).length ≤ 1000 := by cases ring <;> decide +kernel
theorem StP.okB {names : List Str} {n : Nat} (N : Names names n) {rows : List (List Str)} {ring : Bool} {nums : List Int} {cols : List Str} (h : StP names rows (kindOf ring) nums cols) (hn : nums.length ≤ 12) (hc : cols.length ≤ 12) : OkB (kindOf ring, nums, cols) :=
  ⟨kindOf_ok ring, kindOf_len ring, by show nums.length ≤ 100; omega, by show cols.length ≤ 100; omega, fun c hc => (N.nm c (h.1.cn c hc)).ok⟩
theorem longer_st {names : List Str} {rows more : List (List Str)} {kind : Str} {nums : List Int} {cols : List Str} (hq : ∀ r ∈ rows, ∀ c ∈ r, c ∈ names) (hm : ∀ r ∈ more, ∀ c ∈ r, c ∈ names) (h : StP names rows kind nums cols) : StP names (tbl names (tbl names rows ++ more)) kind nums cols := by
  refine h.more (by simp) fun i hi x => ?_
  rw [tbl_get (fun r hr => ?_), ← tbl_get hq i x]
  · rw [List.getD_eq_getElem?_getD, List.getD_eq_getElem?_getD, List.getElem?_append_left (by simpa using hi)]
  · rcases List.mem_append.mp hr with z | z
    · obtain ⟨q, _, rfl⟩ := List.mem_map.mp z
      exact fun c hc => (List.mem_filter.mp hc).1
    · exact hm r z
theorem plus_no : ("plus" : Str) ∉ [("columns" : Str), "rows"] := by decide +kernel
theorem ev_plus {names : List Str} {rows : List (List Str)} {ρ : Rho} (h : Rw names rows) (e4 : varP 4 ρ = some (0, LS names)) (e8 : varP 8 ρ = some (0, Tb names (tbl names rows))) :
    methG "Table" "plus" (starF 0 F_Table_plus) (varP 8) (aCons (fun ρ => ((small (kept (aCons (ixP (varP 4) (cst (.int 0))) aNil))) ρ).map fun ds => ((0 : Nat), D.lst ds)) (aCons (lstP (varP 4)) aNil)) ρ = some (Tb names (tbl names (tbl names rows ++ [[names.getD 0 e0], names]))) := by
  have hl := h.nl
  have q1 := ev_sng (ev_ix D.str (fb := cst (.int 0)) (m := 0) (i := 0) (j := 0) e4 rfl rfl (get_some names 0 e0 (by omega)))
  have q2 : lstP (varP 4) ρ = some (0, LS names) := mapL (ev_lstN D.str e4 (by omega))
  have hs : ∀ q : List Str, (names.filter fun c => decide (c ∈ q)).Nodup ∧ (∀ s ∈ names.filter fun c => decide (c ∈ q), s ∈ names) ∧ (names.filter fun c => decide (c ∈ q)).length ≤ 1000 := fun q =>
    ⟨h.nd.sublist List.filter_sublist, fun s z => (List.mem_filter.mp z).1, Nat.le_trans (List.length_filter_le _ _) (by omega)⟩
  have q3 := e_plus (l := 0) (names := names) (rows := tbl names rows) (qs := [(false, [names.getD 0 e0]), (false, names)]) h.nd h.nm hl.2 (by have := h.rl; simp; omega)
    (fun q hq => by
      simp only [List.mem_cons, List.not_mem_nil, or_false] at hq
      rcases hq with rfl | rfl
      · exact ⟨by simp, fun s hs => by rw [List.mem_singleton.mp hs]; exact getD_mem' (by omega), by simp⟩
      · exact ⟨h.nd, fun s hs => hs, by show names.length ≤ 1000; omega⟩)
    (fun q hq => by
      obtain ⟨r, _, rfl⟩ := List.mem_map.mp hq
      exact hs r)
  unfold methG
  rw [e8]
  rw [Option.bind_some]
  show (if ("Table" : Str) = "Table" ∧ ("plus" : Str) ∉ [("columns" : Str), "rows"] then _ else none) = _
  rw [if_pos ⟨rfl, plus_no⟩]
  simp only [aCons, aNil, q1, q2, Option.bind_some, Option.map_some]
  unfold starF
  rw [if_pos ⟨by simp, by simp, rfl⟩]
  exact q3
section
variable {names cols : List Str} {rows : List (List Str)} {ring : Bool} {nums : List Int} {free : List Int} {n : Nat} {s0 s1 s3 s5 s9 s10 s11 s12 s13 s14 s15 s16 : Option Sl} {Pn : Rho → Prop} {Pr : D → Prop}
abbrev enc4 (ring : Bool) (nums : List Int) (cols : List Str) (rows : List (List Str)) : D := .lst [.str (kindOf ring), LI nums, LS cols, LL rows]
abbrev IB1 (s0 s1 s2 s3 : Option Sl) (names : List Str) (s5 s6 : Option Sl) (rows : List (List Str)) (s9 s10 s11 s13 s14 s16 : Option Sl) (ρ : Rho) : Prop := ∃ a b, ρ = [s0, s1, s2, s3, sl (LS names), s5, s6, sl (LL rows), sl (Tb names (tbl names rows)), s9, s10, s11, a, s13, s14, b, s16]
theorem law_near_loop {s2 s6 : Option Sl} {bars : List BarT} (R : Rw names rows) (hb : ∀ b ∈ bars, OkB b) (cont : ∀ a b, Pn [s0, s1, s2, s3, sl (LS names), s5, s6, sl (LL rows), sl (Tb names (tbl names rows)), s9, s10, sl (.lst (bars.map encB)), a, s13, s14, b, s16]) :
    Wp Pn Pr (forS (anyI (varP 11)) (bN 12) l_law_1 [s0, s1, s2, s3, sl (LS names), s5, s6, sl (LL rows), sl (Tb names (tbl names rows)), s9, s10, sl (.lst (bars.map encB)), s12, s13, s14, s15, s16]) := by
  refine wp_for (ds := bars.map encB) (ev_any rfl) (fun _ => IB1 s0 s1 s2 s3 names s5 s6 rows s9 s10 (sl (.lst (bars.map encB))) s13 s14 s16) ⟨s12, s15, rfl⟩ (fun i dd ρ hd hI => ?_) fun ρ' hI => ?_
  · obtain ⟨a, b, rfl⟩ := hI
    rw [List.getElem?_map] at hd
    obtain ⟨x, hx, rfl⟩ := Option.map_eq_some_iff.mp hd
    exact ⟨_, rfl, law_1 R (hb x (List.mem_of_getElem? hx)) fun s => ⟨_, _, rfl⟩⟩
  · obtain ⟨a, b, rfl⟩ := hI
    exact cont _ _
abbrev IB2 (s0 s1 s2 s3 : Option Sl) (names : List Str) (s5 s6 s7 s8 s9 : Option Sl) (b : BarT) (s11 s12 s13 s16 : Option Sl) (ρ : Rho) : Prop := ∃ u v, ρ = [s0, s1, s2, s3, sl (LS names), s5, s6, s7, s8, s9, sl (encB b), s11, s12, s13, u, v, s16]
theorem law_changed_loop {s2 s6 s7 s8 : Option Sl} {b : BarT} {ch : List (List (List Str))} {fi : Rho → Option (List D)} (hb : OkB b) (hch : ∀ r ∈ ch, Rw names r) (e : fi [s0, s1, s2, s3, sl (LS names), s5, s6, s7, s8, s9, sl (encB b), s11, s12, s13, s14, s15, s16] = some (ch.map LL)) (cont : ∀ u v, Pn [s0, s1, s2, s3, sl (LS names), s5, s6, s7, s8, s9, sl (encB b), s11, s12, s13, u, v, s16]) :
    Wp Pn Pr (forS fi (bN 14) l_law_2 [s0, s1, s2, s3, sl (LS names), s5, s6, s7, s8, s9, sl (encB b), s11, s12, s13, s14, s15, s16]) := by
  refine wp_for (ds := ch.map LL) e (fun _ => IB2 s0 s1 s2 s3 names s5 s6 s7 s8 s9 b s11 s12 s13 s16) ⟨s14, s15, rfl⟩ (fun i dd ρ hd hI => ?_) fun ρ' hI => ?_
  · obtain ⟨u, v, rfl⟩ := hI
    rw [List.getElem?_map] at hd
    obtain ⟨x, hx, rfl⟩ := Option.map_eq_some_iff.mp hd
    exact ⟨_, rfl, law_2 (hch x (List.mem_of_getElem? hx)) hb fun s => ⟨_, _, rfl⟩⟩
  · obtain ⟨u, v, rfl⟩ := hI
    exact cont _ _
theorem law_3 {k : Nat} (hk : k < 2) (N : Names names n) (h3 : 3 ≤ n) (hn : n ≤ 12) (L : Laid names ring nums cols rows) (hf : free.length = 60)
    (cont : ∀ a b c d e f, Pn [s0, s1, sl (LI free), s3, sl (LS names), s5, sl (enc4 ring nums cols rows), sl (LL rows), sl (Tb names (tbl names rows)), sl (.int (k : Int)), a, b, c, d, e, f, s16]) :
    Wp Pn Pr (l_law_3 [s0, s1, sl (LI free), s3, sl (LS names), s5, sl (enc4 ring nums cols rows), sl (LL rows), sl (Tb names (tbl names rows)), sl (.int (k : Int)), s10, s11, s12, s13, s14, s15, s16]) := by
  have R := L.rw N h3 hn
  have l1 := L.n3
  have l2 := L.c3
  have rl := L.rl
  have nl := N.len
  have gf : ∀ i, i < 60 → free[i]? = some (free.getD i 0) := fun i hi => by rw [List.getD_eq_getElem?_getD, List.getElem?_eq_getElem (by omega), Option.getD_some]
  obtain ⟨nums', cols', et, T⟩ := e_turned (kind := kindOf ring) (nums := nums) (cols := cols) (rows := rows) (draw := free.getD k 0) (kindOf_ok ring) (by omega) (by omega) (by omega)
  have St := L.st.turned T nrc
  have ln := T.perm.1.length_eq
  have lc := T.perm.2.length_eq
  have OB := StP.okB N St (by omega) (by omega)
  have Fi : Fit (kindOf ring) cols' := ⟨OB.k, OB.cs⟩
  obtain ⟨bars, eb, hb⟩ := e_near (kind := kindOf ring) (nums := nums') (cols := cols') (names := names) (rows := rows) (draws := free.drop (2 + k * 10)) OB.k OB.kl (by omega) (by omega) OB.cs (by omega) (fun c hc => (N.nm c hc).ok) (by
    have g := get_some nums' 0 0 (by omega)
    have := St.1.inr _ (List.mem_of_getElem? g)
    omega) (by rw [List.length_drop]; omega)
  have Ch : Cg names rows nums' := ⟨⟨rfl, fun r hr => (R.q r hr).1, fun r hr => (R.q r hr).2⟩, by omega, by omega, St.1.inr, St.ne, by omega⟩
  obtain ⟨ch, ech, hch⟩ := e_changed (kind := kindOf ring) (cols := cols') (draws := free.drop (22 + k * 10)) Ch OB.k (fun c hc => (N.nm c hc).ok) (by rw [List.length_drop]; omega)
  obtain ⟨longer, hlg⟩ : ∃ longer, tbl names (tbl names rows ++ [[names.getD 0 e0], names]) = longer := ⟨_, rfl⟩
  have Stl : StP names longer (kindOf ring) nums' cols' := by
    rw [← hlg]
    refine longer_st (fun r hr => (R.q r hr).2) (fun r hr => ?_) St
    simp only [List.mem_cons, List.not_mem_nil, or_false] at hr
    rcases hr with rfl | rfl
    · exact fun c hc => by rw [List.mem_singleton.mp hc]; exact getD_mem' (by omega)
    · exact fun c hc => hc
  have Szl : Sz names longer (kindOf ring) nums' cols' := by
    rw [← hlg]
    exact ⟨by omega, by simp; omega, fun r hr => Nat.le_trans (tbl_len r hr) (by omega), OB.k, by omega, by omega⟩
  unfold l_law_3
  have e1 : callG F_law_turned (aCons (varP 6) (aCons (ixP (varP 2) (varP 9)) aNil)) [s0, s1, sl (LI free), s3, sl (LS names), s5, sl (enc4 ring nums cols rows), sl (LL rows), sl (Tb names (tbl names rows)), sl (.int (k : Int)), s10, s11, s12, s13, s14, s15, s16] = some (encB (kindOf ring, nums', cols')) := by
    have x6 : varP 6 [s0, s1, sl (LI free), s3, sl (LS names), s5, sl (enc4 ring nums cols rows), sl (LL rows), sl (Tb names (tbl names rows)), sl (.int (k : Int)), s10, s11, s12, s13, s14, s15, s16] = some (0, enc4 ring nums cols rows) := rfl
    have x2 := ev_ix D.int (fa := varP 2) (fb := varP 9) (n := 0) (m := 0) (xs := free) (i := (k : Int)) (j := k) (ρ := [s0, s1, sl (LI free), s3, sl (LS names), s5, sl (enc4 ring nums cols rows), sl (LL rows), sl (Tb names (tbl names rows)), sl (.int (k : Int)), s10, s11, s12, s13, s14, s15, s16]) rfl rfl rfl (gf k (by omega))
    simp only [callG, aCons, aNil, x6, x2, Option.bind_some, Option.map_some]
    exact et
  refine wp_seq (wp_nx (set_eq e1 (by simp)) ?_)
  show Wp _ _ (seqS _ _ [s0, s1, sl (LI free), s3, sl (LS names), s5, sl (enc4 ring nums cols rows), sl (LL rows), sl (Tb names (tbl names rows)), sl (.int (k : Int)), sl (encB (kindOf ring, nums', cols')), s11, s12, s13, s14, s15, s16])
  have hk0 : ∀ k ∈ nums', 0 ≤ k ∧ k ≤ 999 := fun k hk => by have := St.1.inr k hk; omega
  have ekp := e_kept Fi (kindOf_len ring) hk0 (by omega) (by omega)
  have e2 : callG F_law_kept (aCons (ixP (varP 10) (cst (.int 0))) (aCons (ixP (varP 10) (cst (.int 1))) (aCons (ixP (varP 10) (cst (.int 2))) aNil))) [s0, s1, sl (LI free), s3, sl (LS names), s5, sl (enc4 ring nums cols rows), sl (LL rows), sl (Tb names (tbl names rows)), sl (.int (k : Int)), sl (encB (kindOf ring, nums', cols')), s11, s12, s13, s14, s15, s16] = some (.bl true) := by
    have x : varP 10 [s0, s1, sl (LI free), s3, sl (LS names), s5, sl (enc4 ring nums cols rows), sl (LL rows), sl (Tb names (tbl names rows)), sl (.int (k : Int)), sl (encB (kindOf ring, nums', cols')), s11, s12, s13, s14, s15, s16] = some (0, encB (kindOf ring, nums', cols')) := rfl
    simp only [callG, aCons, aNil, ev_b0 x, ev_b1 x, ev_b2 x, Option.bind_some, Option.map_some]
    exact ekp
  refine wp_seq (wp_ite (ev_not (ev_asB (ev_frP e2))) (fun z => by cases z) fun _ => wp_sk ?_)
  obtain ⟨c1, ec1, hc1⟩ := ev_st (ft := varP 8) (l1 := 0) (ρ := [s0, s1, sl (LI free), s3, sl (LS names), s5, sl (enc4 ring nums cols rows), sl (LL rows), sl (Tb names (tbl names rows)), sl (.int (k : Int)), sl (encB (kindOf ring, nums', cols')), s11, s12, s13, s14, s15, s16]) rfl (ev_mkLT (s := 10) (b := (kindOf ring, nums', cols')) rfl) (R.szT OB)
  have hc1 : c1 = true := hc1.mpr ((R.both (b := (kindOf ring, nums', cols'))).mpr St)
  rw [hc1] at ec1
  refine wp_seq ?_
  refine wp_ite (b := false) (ev_isn ec1) (fun z => by cases z) (fun _ => ?_)
  with_reducible refine wp_sk ?_
  show Wp _ _ (seqS _ _ [s0, s1, sl (LI free), s3, sl (LS names), s5, sl (enc4 ring nums cols rows), sl (LL rows), sl (Tb names (tbl names rows)), sl (.int (k : Int)), sl (encB (kindOf ring, nums', cols')), s11, s12, s13, s14, s15, s16])
  have ed : ∀ (u : Int) (w : Nat) {a : Option Sl}, u = w → cutP (varP 2) (ofO (bin addD (cst (.int u)) (bin mulD (varP 9) (cst (.int 10))))) noO [s0, s1, sl (LI free), s3, sl (LS names), s5, sl (enc4 ring nums cols rows), sl (LL rows), sl (Tb names (tbl names rows)), sl (.int (k : Int)), sl (encB (kindOf ring, nums', cols')), a, s12, s13, s14, s15, s16] = some (0, LI (free.drop (w + k * 10))) := fun u w {a} hu =>
    ev_cutDrop D.int (fa := varP 2) (m := 0) (xs := free) (i := u + (k : Int) * 10) (j := w + k * 10) rfl (ev_adI (fa := cst (.int u)) (a := u) rfl (ev_mul (fa := varP 9) (a := (k : Int)) (b := 10) rfl rfl (by omega))) (by omega)
  have e3 : callG F_law_near (aCons (varP 10) (aCons (varP 4) (aCons (varP 7) (aCons (cutP (varP 2) (ofO (bin addD (cst (.int 2)) (bin mulD (varP 9) (cst (.int 10))))) noO) aNil)))) [s0, s1, sl (LI free), s3, sl (LS names), s5, sl (enc4 ring nums cols rows), sl (LL rows), sl (Tb names (tbl names rows)), sl (.int (k : Int)), sl (encB (kindOf ring, nums', cols')), s11, s12, s13, s14, s15, s16] = some (.lst (bars.map encB)) := by
    have x10 : varP 10 [s0, s1, sl (LI free), s3, sl (LS names), s5, sl (enc4 ring nums cols rows), sl (LL rows), sl (Tb names (tbl names rows)), sl (.int (k : Int)), sl (encB (kindOf ring, nums', cols')), s11, s12, s13, s14, s15, s16] = some (0, encB (kindOf ring, nums', cols')) := rfl
    have x4 : varP 4 [s0, s1, sl (LI free), s3, sl (LS names), s5, sl (enc4 ring nums cols rows), sl (LL rows), sl (Tb names (tbl names rows)), sl (.int (k : Int)), sl (encB (kindOf ring, nums', cols')), s11, s12, s13, s14, s15, s16] = some (0, LS names) := rfl
    have x7 : varP 7 [s0, s1, sl (LI free), s3, sl (LS names), s5, sl (enc4 ring nums cols rows), sl (LL rows), sl (Tb names (tbl names rows)), sl (.int (k : Int)), sl (encB (kindOf ring, nums', cols')), s11, s12, s13, s14, s15, s16] = some (0, LL rows) := rfl
    simp only [callG, aCons, aNil, x10, x4, x7, ed 2 2 rfl, Option.bind_some, Option.map_some]
    exact eb
  with_reducible refine wp_seq ?_
  rw [set_eq e3 (by simp)]
  show Wp _ _ (seqS _ _ [s0, s1, sl (LI free), s3, sl (LS names), s5, sl (enc4 ring nums cols rows), sl (LL rows), sl (Tb names (tbl names rows)), sl (.int (k : Int)), sl (encB (kindOf ring, nums', cols')), sl (.lst (bars.map encB)), s12, s13, s14, s15, s16])
  with_reducible refine wp_seq ?_
  with_reducible refine law_near_loop R hb fun t12 t15 => ?_
  have e4 := ev_plus (names := names) (rows := rows) (ρ := [s0, s1, sl (LI free), s3, sl (LS names), s5, sl (enc4 ring nums cols rows), sl (LL rows), sl (Tb names (tbl names rows)), sl (.int (k : Int)), sl (encB (kindOf ring, nums', cols')), sl (.lst (bars.map encB)), t12, s13, s14, t15, s16]) R rfl rfl
  rw [hlg] at e4
  with_reducible refine wp_seq ?_
  rw [set_eq e4 (by simp)]
  show Wp _ _ (seqS _ _ [s0, s1, sl (LI free), s3, sl (LS names), s5, sl (enc4 ring nums cols rows), sl (LL rows), sl (Tb names (tbl names rows)), sl (.int (k : Int)), sl (encB (kindOf ring, nums', cols')), sl (.lst (bars.map encB)), t12, sl (Tb names longer), s14, t15, s16])
  obtain ⟨c2, ec2, hc2⟩ := ev_st (ft := varP 13) (l1 := 0) (ρ := [s0, s1, sl (LI free), s3, sl (LS names), s5, sl (enc4 ring nums cols rows), sl (LL rows), sl (Tb names (tbl names rows)), sl (.int (k : Int)), sl (encB (kindOf ring, nums', cols')), sl (.lst (bars.map encB)), t12, sl (Tb names longer), s14, t15, s16]) rfl (ev_mkLL (s := 10) (b := (kindOf ring, nums', cols')) rfl) Szl
  rw [hc2.mpr Stl] at ec2
  refine wp_seq ?_
  refine wp_ite (b := false) (ev_isn ec2) (fun z => by cases z) (fun _ => ?_)
  with_reducible refine wp_sk ?_
  show Wp _ _ (forS _ _ _ [s0, s1, sl (LI free), s3, sl (LS names), s5, sl (enc4 ring nums cols rows), sl (LL rows), sl (Tb names (tbl names rows)), sl (.int (k : Int)), sl (encB (kindOf ring, nums', cols')), sl (.lst (bars.map encB)), t12, sl (Tb names longer), s14, t15, s16])
  have e5 : callG F_law_changed_rows (aCons (varP 10) (aCons (varP 4) (aCons (varP 7) (aCons (cutP (varP 2) (ofO (bin addD (cst (.int 22)) (bin mulD (varP 9) (cst (.int 10))))) noO) aNil)))) [s0, s1, sl (LI free), s3, sl (LS names), s5, sl (enc4 ring nums cols rows), sl (LL rows), sl (Tb names (tbl names rows)), sl (.int (k : Int)), sl (encB (kindOf ring, nums', cols')), sl (.lst (bars.map encB)), t12, sl (Tb names longer), s14, t15, s16] = some (.lst (ch.map LL)) := by
    have x10 : varP 10 [s0, s1, sl (LI free), s3, sl (LS names), s5, sl (enc4 ring nums cols rows), sl (LL rows), sl (Tb names (tbl names rows)), sl (.int (k : Int)), sl (encB (kindOf ring, nums', cols')), sl (.lst (bars.map encB)), t12, sl (Tb names longer), s14, t15, s16] = some (0, encB (kindOf ring, nums', cols')) := rfl
    have x4 : varP 4 [s0, s1, sl (LI free), s3, sl (LS names), s5, sl (enc4 ring nums cols rows), sl (LL rows), sl (Tb names (tbl names rows)), sl (.int (k : Int)), sl (encB (kindOf ring, nums', cols')), sl (.lst (bars.map encB)), t12, sl (Tb names longer), s14, t15, s16] = some (0, LS names) := rfl
    have x7 : varP 7 [s0, s1, sl (LI free), s3, sl (LS names), s5, sl (enc4 ring nums cols rows), sl (LL rows), sl (Tb names (tbl names rows)), sl (.int (k : Int)), sl (encB (kindOf ring, nums', cols')), sl (.lst (bars.map encB)), t12, sl (Tb names longer), s14, t15, s16] = some (0, LL rows) := rfl
    have xd : cutP (varP 2) (ofO (bin addD (cst (.int 22)) (bin mulD (varP 9) (cst (.int 10))))) noO [s0, s1, sl (LI free), s3, sl (LS names), s5, sl (enc4 ring nums cols rows), sl (LL rows), sl (Tb names (tbl names rows)), sl (.int (k : Int)), sl (encB (kindOf ring, nums', cols')), sl (.lst (bars.map encB)), t12, sl (Tb names longer), s14, t15, s16] = some (0, LI (free.drop (22 + k * 10))) :=
      ev_cutDrop D.int (fa := varP 2) (m := 0) (xs := free) (i := 22 + (k : Int) * 10) (j := 22 + k * 10) rfl (ev_adI (fa := cst (.int 22)) (a := 22) rfl (ev_mul (fa := varP 9) (a := (k : Int)) (b := 10) rfl rfl (by omega))) (by omega)
    simp only [callG, aCons, aNil, x10, x4, x7, xd, Option.bind_some, Option.map_some]
    exact ech
  have Hch : ∀ r ∈ ch, Rw names r := fun r hr => ⟨N.nd, N.nm, by omega, by rw [(hch r hr).len]; omega, fun q hq => ⟨(hch r hr).nd q hq, (hch r hr).sub q hq⟩⟩
  have e6 := ev_any (ev_frP e5)
  have fin := fun u v => cont (sl (encB (kindOf ring, nums', cols'))) (sl (.lst (bars.map encB))) t12 (sl (Tb names longer)) u v
  with_reducible exact law_changed_loop OB Hch e6 fin
end
def sizes : List Int := [4, 5, 6, 4, 7, 5, 8, 6, 3, 4, 12, 5, 9, 6, 4, 10, 7, 5, 11, 8, 6, 12, 4, 5]
theorem sizes_ok : ∀ x ∈ sizes, ∃ n : Nat, x = (n : Int) ∧ 3 ≤ n ∧ n ≤ 12 := fun x hx => by
  have : ∀ x ∈ sizes, 3 ≤ x ∧ x ≤ 12 := by decide
  have := this x hx
  exact ⟨x.toNat, by omega, by omega, by omega⟩
abbrev IK (s0 s1 s2 s3 s4 s5 s6 s7 s8 : Option Sl) (ρ : Rho) : Prop := ∃ a b c d e f g h, ρ = [s0, s1, s2, s3, s4, s5, s6, s7, s8, a, b, c, d, e, f, g, h]
theorem e_law (ns : List Int) : F_law [(0, .scr ns)] = some (.bl true) := by
  obtain ⟨pool, ep, pl, po⟩ := e_pool ns 0 60 0 rfl (by omega)
  obtain ⟨free, ef, fl, fo⟩ := e_pool ns 1 60 1 rfl (by omega)
  have gp : ∀ i, i < 60 → pool[i]? = some (pool.getD i 0) := fun i hi => by rw [List.getD_eq_getElem?_getD, List.getElem?_eq_getElem (by omega), Option.getD_some]
  refine run_eq rfl ?_
  unfold b_law
  show Wp _ _ (seqS _ _ [sl (.scr ns), none, none, none, none, none, none, none, none, none, none, none, none, none, none, none, none])
  refine wp_seq (wp_nx (set_eq (d := LI pool) ep (by simp)) ?_)
  refine wp_seq (wp_nx (set_eq (d := LI free) ef (by simp)) ?_)
  show Wp _ _ (seqS _ _ [sl (.scr ns), sl (LI pool), sl (LI free), none, none, none, none, none, none, none, none, none, none, none, none, none, none])
  obtain ⟨q, hq1, hq2⟩ := nat_mod (a := pool.getD 0 0) (n := 24) (by omega)
  have hq1 : pool.getD 0 0 % 24 = (q : Int) := hq1
  have e0' := ev_mod (ev_intI (ev_ix D.int (fa := varP 1) (fb := cst (.int 0)) (n := 0) (m := 0) (xs := pool) (i := 0) (j := 0) (ρ := [sl (.scr ns), sl (LI pool), sl (LI free), none, none, none, none, none, none, none, none, none, none, none, none, none, none]) rfl rfl rfl (gp 0 (by omega)))) (fb := cst (.int 24)) (b := 24) rfl (by omega)
  rw [hq1] at e0'
  have hsq : sizes[q]? = some (sizes.getD q 0) := get_some sizes q 0 hq2
  obtain ⟨n, hn0, h3, hn⟩ := sizes_ok _ (getD_mem' (a := 0) (show q < sizes.length from hq2))
  rw [hn0] at hsq
  have e1 := ev_ix D.int (n := 0) (m := 0) (xs := sizes) (i := (q : Int)) (j := q) (fa := fun _ => some (0, LI sizes)) (x := (n : Int)) rfl e0' rfl hsq
  refine wp_seq (wp_nx (set_eq (d := .int (n : Int)) (ev_k0 e1) (by simp)) ?_)
  show Wp _ _ (seqS _ _ [sl (.scr ns), sl (LI pool), sl (LI free), sl (.int (n : Int)), none, none, none, none, none, none, none, none, none, none, none, none, none])
  have hp1 := (po (pool.getD 1 0) (List.mem_of_getElem? (gp 1 (by omega)))).1
  obtain ⟨names, en, N⟩ := e_names (n := n) (seed := pool.getD 1 0) (sd := (pool.getD 1 0).toNat) (by omega) hn
  have e4 : callG F_law_names (aCons (varP 3) (aCons (ixP (varP 1) (cst (.int 1))) aNil)) [sl (.scr ns), sl (LI pool), sl (LI free), sl (.int (n : Int)), none, none, none, none, none, none, none, none, none, none, none, none, none] = some (LS names) := by
    have x3 : varP 3 [sl (.scr ns), sl (LI pool), sl (LI free), sl (.int (n : Int)), none, none, none, none, none, none, none, none, none, none, none, none, none] = some (0, .int (n : Int)) := rfl
    have x1 := ev_ix D.int (fa := varP 1) (fb := cst (.int 1)) (n := 0) (m := 0) (xs := pool) (i := 1) (j := 1) (ρ := [sl (.scr ns), sl (LI pool), sl (LI free), sl (.int (n : Int)), none, none, none, none, none, none, none, none, none, none, none, none, none]) rfl rfl rfl (gp 1 (by omega))
    simp only [callG, aCons, aNil, x3, x1, Option.bind_some, Option.map_some]
    exact en
  refine wp_seq (wp_nx (set_eq e4 (by simp)) ?_)
  show Wp _ _ (seqS _ _ [sl (.scr ns), sl (LI pool), sl (LI free), sl (.int (n : Int)), sl (LS names), none, none, none, none, none, none, none, none, none, none, none, none])
  have nl := N.len
  obtain ⟨order, eo, hop⟩ := e_order (names := names) (pool := pool) (start := 2) (s := 2) rfl (by omega) (by omega)
  refine wp_seq (wp_nx (set_eq (d := LS order) eo (by simp)) ?_)
  show Wp _ _ (seqS _ _ [sl (.scr ns), sl (LI pool), sl (LI free), sl (.int (n : Int)), sl (LS names), sl (LS order), none, none, none, none, none, none, none, none, none, none, none])
  obtain ⟨ring, nums, cols, rows, es, L⟩ := e_setting N h3 hn hop pl
  refine wp_seq (wp_nx (set_eq (d := enc4 ring nums cols rows) es (by simp)) ?_)
  refine wp_seq (wp_nx (set_eq (d := LL rows) rfl (by simp)) ?_)
  show Wp _ _ (seqS _ _ [sl (.scr ns), sl (LI pool), sl (LI free), sl (.int (n : Int)), sl (LS names), sl (LS order), sl (enc4 ring nums cols rows), sl (LL rows), none, none, none, none, none, none, none, none, none])
  have R := L.rw N h3 hn
  have eT := ev_mkT (names := names) (rows := rows) (fr := anyI (varP 7)) (ρ := [sl (.scr ns), sl (LI pool), sl (LI free), sl (.int (n : Int)), sl (LS names), sl (LS order), sl (enc4 ring nums cols rows), sl (LL rows), none, none, none, none, none, none, none, none, none]) rfl (ev_any rfl) (fun row => ⟨[sl (.scr ns), sl (LI pool), sl (LI free), sl (.int (n : Int)), sl (LS names), sl (LS order), sl (enc4 ring nums cols rows), sl (LL rows), none, none, none, none, none, none, none, none, sl (LS row)], rfl, rfl⟩) R.nd R.nm R.nl.2 (by have := R.rl; omega) R.q
  refine wp_seq (wp_nx (set_eq eT (by simp)) ?_)
  show Wp _ _ (seqS _ _ [sl (.scr ns), sl (LI pool), sl (LI free), sl (.int (n : Int)), sl (LS names), sl (LS order), sl (enc4 ring nums cols rows), sl (LL rows), sl (Tb names (tbl names rows)), none, none, none, none, none, none, none, none])
  refine wp_seq (wp_for (ds := (List.range 2).map fun (j : Nat) => D.int j) (rng_I (m := 0) (n := 2) rfl (by omega)) (fun _ => IK (sl (.scr ns)) (sl (LI pool)) (sl (LI free)) (sl (.int (n : Int))) (sl (LS names)) (sl (LS order)) (sl (enc4 ring nums cols rows)) (sl (LL rows)) (sl (Tb names (tbl names rows)))) ⟨none, none, none, none, none, none, none, none, rfl⟩ (fun i dd ρ hd hI => ?_) fun ρ' hI => ?_)
  · obtain ⟨a, b, c, d, e, f, g, h, rfl⟩ := hI
    obtain ⟨hi, rfl⟩ := at_rng hd
    exact ⟨_, rfl, law_3 hi N h3 hn L fl fun _ _ _ _ _ _ => ⟨_, _, _, _, _, _, _, _, rfl⟩⟩
  · obtain ⟨a, b, c, d, e, f, g, h, rfl⟩ := hI
    have OB := StP.okB N L.st (by have := L.n3; omega) (by have := L.c3; omega)
    have y : ∀ (i : Nat) (z : Int) (x : D), z = i → [D.str (kindOf ring), LI nums, LS cols, LL rows][i]? = some x → ixP (varP 6) (cst (.int z)) [sl (.scr ns), sl (LI pool), sl (LI free), sl (.int (n : Int)), sl (LS names), sl (LS order), sl (enc4 ring nums cols rows), sl (LL rows), sl (Tb names (tbl names rows)), a, b, c, d, e, f, g, h] = some (0, x) := fun i z x hz hx =>
      ev_ix (fun x : D => x) (n := 0) (m := 0) (xs := [D.str (kindOf ring), LI nums, LS cols, LL rows]) (i := z) (j := i) rfl rfl hz hx
    have eb : frP (callG F_Bar_init (aCons (ixP (varP 6) (cst (.int 0))) (aCons (lstP (ixP (varP 6) (cst (.int 1)))) (aCons (lstP (ixP (varP 6) (cst (.int 2)))) aNil)))) [sl (.scr ns), sl (LI pool), sl (LI free), sl (.int (n : Int)), sl (LS names), sl (LS order), sl (enc4 ring nums cols rows), sl (LL rows), sl (Tb names (tbl names rows)), a, b, c, d, e, f, g, h] = some (0, Br (kindOf ring) nums cols) :=
      ev_frP (ev_bar (y 0 0 _ rfl rfl) (n2 := 0) (d2 := LI nums) (mapL (ev_lstN D.int (y 1 1 _ rfl rfl) (by omega))) (n3 := 0) (d3 := LS cols) (mapL (ev_lstN D.str (y 2 2 _ rfl rfl) (by omega))) rfl rfl)
    obtain ⟨z, ez, hz⟩ := ev_st (ft := varP 8) (l1 := 0) (ρ := [sl (.scr ns), sl (LI pool), sl (LI free), sl (.int (n : Int)), sl (LS names), sl (LS order), sl (enc4 ring nums cols rows), sl (LL rows), sl (Tb names (tbl names rows)), a, b, c, d, e, f, g, h]) rfl eb (R.szT OB)
    rw [hz.mpr ((R.both (b := (kindOf ring, nums, cols))).mpr L.st)] at ez
    exact wp_ret0 (ev_bl (ev_c2 (ev_frP ez) (m := 0) (y := .bl true) rfl rfl)) rfl
end Gn

set_option Elab.async false
set_option linter.all false
set_option maxRecDepth 100000
set_option maxHeartbeats 0
namespace Gh
open PySem PySem.Spec PyProof.Rows L2 Iv Gn
def e_law_cell : He.DefD := ⟨("_law_cell", none), "_law_cell", "_law_cell", defArgs s_law_cell, defBody s_law_cell, defScope s_law_cell, [], []⟩
def e_law_pool : He.DefD := ⟨("_law_pool", none), "_law_pool", "_law_pool", defArgs s_law_pool, defBody s_law_pool, defScope s_law_pool, [], []⟩
def e_law_names : He.DefD := ⟨("_law_names", none), "_law_names", "_law_names", defArgs s_law_names, defBody s_law_names, defScope s_law_names, [], []⟩
def e_law_order : He.DefD := ⟨("_law_order", none), "_law_order", "_law_order", defArgs s_law_order, defBody s_law_order, defScope s_law_order, [], []⟩
def e_law_ring_rows : He.DefD := ⟨("_law_ring_rows", none), "_law_ring_rows", "_law_ring_rows", defArgs s_law_ring_rows, defBody s_law_ring_rows, defScope s_law_ring_rows, [], []⟩
def e_law_crowd_rows : He.DefD := ⟨("_law_crowd_rows", none), "_law_crowd_rows", "_law_crowd_rows", defArgs s_law_crowd_rows, defBody s_law_crowd_rows, defScope s_law_crowd_rows, [], []⟩
def e_law_free_row : He.DefD := ⟨("_law_free_row", none), "_law_free_row", "_law_free_row", defArgs s_law_free_row, defBody s_law_free_row, defScope s_law_free_row, [], []⟩
def e_law_setting : He.DefD := ⟨("_law_setting", none), "_law_setting", "_law_setting", defArgs s_law_setting, defBody s_law_setting, defScope s_law_setting, [], []⟩
def e_is_name : He.DefD := ⟨("is_name", none), "is_name", "is_name", defArgs s_is_name, defBody s_is_name, defScope s_is_name, [], []⟩
def e_first_misnamed : He.DefD := ⟨("first_misnamed", none), "first_misnamed", "first_misnamed", defArgs s_first_misnamed, defBody s_first_misnamed, defScope s_first_misnamed, [], []⟩
def e_is_row : He.DefD := ⟨("is_row", none), "is_row", "is_row", defArgs s_is_row, defBody s_is_row, defScope s_is_row, [], []⟩
def e_common_names : He.DefD := ⟨("common_names", none), "common_names", "common_names", defArgs s_common_names, defBody s_common_names, defScope s_common_names, [], []⟩
def e_Table_init : He.DefD := ⟨("Table", some "__init__"), "__init__", "Table.__init__", defArgs s_Table_init, defBody s_Table_init, defScope s_Table_init, [.adr (He.dflAt ("Table", some "__init__") 0)], []⟩
def e_law_turned : He.DefD := ⟨("_law_turned", none), "_law_turned", "_law_turned", defArgs s_law_turned, defBody s_law_turned, defScope s_law_turned, [], []⟩
def e_Bar_init : He.DefD := ⟨("Bar", some "__init__"), "__init__", "Bar.__init__", defArgs s_Bar_init, defBody s_Bar_init, defScope s_Bar_init, [], []⟩
def e_law_is_number : He.DefD := ⟨("_law_is_number", none), "_law_is_number", "_law_is_number", defArgs s_law_is_number, defBody s_law_is_number, defScope s_law_is_number, [], []⟩
def e_Bar_eq : He.DefD := ⟨("Bar", some "__eq__"), "__eq__", "Bar.__eq__", defArgs s_Bar_eq, defBody s_Bar_eq, defScope s_Bar_eq, [], []⟩
def e_law_kept : He.DefD := ⟨("_law_kept", none), "_law_kept", "_law_kept", defArgs s_law_kept, defBody s_law_kept, defScope s_law_kept, [], []⟩
def e_share_column : He.DefD := ⟨("share_column", none), "share_column", "share_column", defArgs s_share_column, defBody s_share_column, defScope s_share_column, [], []⟩
def e_is_ring_of : He.DefD := ⟨("is_ring_of", none), "is_ring_of", "is_ring_of", defArgs s_is_ring_of, defBody s_is_ring_of, defScope s_is_ring_of, [], []⟩
def e_is_crowd_of : He.DefD := ⟨("is_crowd_of", none), "is_crowd_of", "is_crowd_of", defArgs s_is_crowd_of, defBody s_is_crowd_of, defScope s_is_crowd_of, [], []⟩
def e_stands_in : He.DefD := ⟨("stands_in", none), "stands_in", "stands_in", defArgs s_stands_in, defBody s_stands_in, defScope s_stands_in, [], []⟩
def e_law_put : He.DefD := ⟨("_law_put", none), "_law_put", "_law_put", defArgs s_law_put, defBody s_law_put, defScope s_law_put, [], []⟩
def e_law_near : He.DefD := ⟨("_law_near", none), "_law_near", "_law_near", defArgs s_law_near, defBody s_law_near, defScope s_law_near, [], []⟩
def e_law_stands : He.DefD := ⟨("_law_stands", none), "_law_stands", "_law_stands", defArgs s_law_stands, defBody s_law_stands, defScope s_law_stands, [], []⟩
def e_law_is_told : He.DefD := ⟨("_law_is_told", none), "_law_is_told", "_law_is_told", defArgs s_law_is_told, defBody s_law_is_told, defScope s_law_is_told, [], []⟩
def e_Table_plus : He.DefD := ⟨("Table", some "plus"), "plus", "Table.plus", defArgs s_Table_plus, defBody s_Table_plus, defScope s_Table_plus, [], []⟩
def e_law_changed_rows : He.DefD := ⟨("_law_changed_rows", none), "_law_changed_rows", "_law_changed_rows", defArgs s_law_changed_rows, defBody s_law_changed_rows, defScope s_law_changed_rows, [], []⟩
def e_law : He.DefD := ⟨("law", none), "law", "law", defArgs s_law, defBody s_law, defScope s_law, [], []⟩
def fn : List He.DefD := [e_law_cell, e_law_pool, e_law_names, e_law_order, e_law_ring_rows, e_law_crowd_rows, e_law_free_row, e_law_setting, e_is_name, e_first_misnamed, e_is_row, e_common_names, e_Table_init, e_law_turned, e_Bar_init, e_law_is_number, e_Bar_eq, e_law_kept, e_share_column, e_is_ring_of, e_is_crowd_of, e_stands_in, e_law_put, e_law_near, e_law_stands, e_law_is_told, e_Table_plus, e_law_changed_rows, e_law]
def fa : List He.Fa := [.free "abs", .free "all", .free "any", .free "bool", .free "enumerate", .free "int", .free "isinstance", .free "len", .free "list", .free "range", .free "set", .free "str", .free "tuple", .str "LETTERS" "abcdefghijklmnopqrstuvwxyz", .int "LONGEST_NAME" 8, .glo "Table", .glo "Bar", .cls "Bar", .noat "Bar" "columns", .noat "Bar" "kind", .noat "Bar" "rows", .cls "Table", .noat "Table" "columns", .noat "Table" "rows", .glo "_law_cell", .glo "_law_pool", .glo "_law_names", .glo "_law_order", .glo "_law_ring_rows", .glo "_law_crowd_rows", .glo "_law_free_row", .glo "_law_setting", .glo "is_name", .glo "first_misnamed", .glo "is_row", .glo "common_names", .mkr "Table", .glo "_law_turned", .mkr "Bar", .glo "_law_is_number", .meth "Bar" "__eq__", .glo "_law_kept", .glo "share_column", .glo "is_ring_of", .glo "is_crowd_of", .glo "stands_in", .glo "_law_put", .glo "_law_near", .glo "_law_stands", .glo "_law_is_told", .meth "Table" "plus", .glo "_law_changed_rows", .glo "law"]
def exl (K : PySem.W.Frag) : List Bool := [insB K "Bar", ccB K "Table" "MOST_COLUMNS" 12, ccB K "Table" "MOST_ROWS" 48]
def ex (K : PySem.W.Frag) : Bool := (exl K).all id
theorem exs {K : PySem.W.Frag} (h : ex K = true) (i : Nat) (hi : i < (exl K).length) : (exl K)[i] = true := List.all_eq_true.mp h _ (List.getElem_mem hi)
def loose0 : List PySem.Str := ["BadTable", "Bar", "LETTERS", "LONGEST_NAME", "RowsError", "Table", "Unknown", "UnknownColumn", "UnknownRow", "__name__", "_law_cell", "_law_changed_rows", "_law_crowd_rows", "_law_free_row", "_law_is_number", "_law_is_told", "_law_kept", "_law_names", "_law_near", "_law_order", "_law_pool", "_law_put", "_law_ring_rows", "_law_setting", "_law_stands", "_law_turned", "_wall", "check_known", "common_names", "first_misnamed"]
def loose1 : List PySem.Str := ["is_crowd_of", "is_name", "is_ring_of", "is_row", "other_names", "share_column", "stands_in"]
def loose : List PySem.Str := loose0 ++ loose1
abbrev R : PySem.W.OpenRow := PySem.W.OpenLaw.row PySem.Challenge.rw_standingrows_k44_bars_judged
abbrev hk : PySem.W.Hook := hookV 4 fa fn ex
def ob (s : PySem.W.SharedT) : AlV := obsV 4 fa fn ex (HandSHeadRun.getT s)
theorem ob_eq (s : PySem.W.SharedT) : ob s = hk.obs s.abs := obsV_eq (HandSHeadRun.getT_eq s)
theorem run (w : World) : HandSHeadRun.RunEq R (PySem.W.view R.prog [41]) hk ob 6000 loose w := by
  intro os
  kernel_rfl
theorem gd {P : Program} {w : World} {K : PySem.W.Frag} {mg : Str → Option Value} {base h : Heap} (X : K.In h) (G : h.Ns mainGlobals mg) (c : He.SaysD fa fn K) (x : ex K = true) : Gd P w K mg base (wd K) where
  kK := rfl
  n_abs := He.free_ok X G (c.fact 0 (f := .free "abs") rfl)
  n_all := He.free_ok X G (c.fact 1 (f := .free "all") rfl)
  n_any := He.free_ok X G (c.fact 2 (f := .free "any") rfl)
  n_bool := He.free_ok X G (c.fact 3 (f := .free "bool") rfl)
  n_enumerate := He.free_ok X G (c.fact 4 (f := .free "enumerate") rfl)
  n_int := He.free_ok X G (c.fact 5 (f := .free "int") rfl)
  n_isinstance := He.free_ok X G (c.fact 6 (f := .free "isinstance") rfl)
  n_len := He.free_ok X G (c.fact 7 (f := .free "len") rfl)
  n_list := He.free_ok X G (c.fact 8 (f := .free "list") rfl)
  n_range := He.free_ok X G (c.fact 9 (f := .free "range") rfl)
  n_set := He.free_ok X G (c.fact 10 (f := .free "set") rfl)
  n_str := He.free_ok X G (c.fact 11 (f := .free "str") rfl)
  n_tuple := He.free_ok X G (c.fact 12 (f := .free "tuple") rfl)
  v_LETTERS := He.str_ok X G (c.fact 13 (f := .str "LETTERS" "abcdefghijklmnopqrstuvwxyz") rfl)
  v_LONGEST_NAME := He.int_ok X G (c.fact 14 (f := .int "LONGEST_NAME" 8) rfl)
  c_Table := He.glo_ok X G (c.fact 15 (f := .glo "Table") rfl)
  c_Bar := He.glo_ok X G (c.fact 16 (f := .glo "Bar") rfl)
  a_Bar_columns := ⟨(He.cls_ok (c.fact 17 (f := .cls "Bar") rfl)), He.noat_ok (c.fact 18 (f := .noat "Bar" "columns") rfl)⟩
  a_Bar_kind := ⟨(He.cls_ok (c.fact 17 (f := .cls "Bar") rfl)), He.noat_ok (c.fact 19 (f := .noat "Bar" "kind") rfl)⟩
  a_Bar_rows := ⟨(He.cls_ok (c.fact 17 (f := .cls "Bar") rfl)), He.noat_ok (c.fact 20 (f := .noat "Bar" "rows") rfl)⟩
  a_Table_columns := ⟨(He.cls_ok (c.fact 21 (f := .cls "Table") rfl)), He.noat_ok (c.fact 22 (f := .noat "Table" "columns") rfl)⟩
  a_Table_rows := ⟨(He.cls_ok (c.fact 21 (f := .cls "Table") rfl)), He.noat_ok (c.fact 23 (f := .noat "Table" "rows") rfl)⟩
  i_Bar := insB_ok (exs x 0 (by simp [exl])) (He.cls_ok (c.fact 17 (f := .cls "Bar") rfl))
  k_Table_MOST_COLUMNS := ccB_ok (exs x 1 (by simp [exl]))
  k_Table_MOST_ROWS := ccB_ok (exs x 2 (by simp [exl]))
  d_law_cell := let ⟨fd, F⟩ := c.def_ 0 (d := e_law_cell) rfl; ⟨_, fd, F, He.glo_ok X G (c.fact 24 (f := .glo "_law_cell") rfl)⟩
  d_law_pool := let ⟨fd, F⟩ := c.def_ 1 (d := e_law_pool) rfl; ⟨_, fd, F, He.glo_ok X G (c.fact 25 (f := .glo "_law_pool") rfl)⟩
  d_law_names := let ⟨fd, F⟩ := c.def_ 2 (d := e_law_names) rfl; ⟨_, fd, F, He.glo_ok X G (c.fact 26 (f := .glo "_law_names") rfl)⟩
  d_law_order := let ⟨fd, F⟩ := c.def_ 3 (d := e_law_order) rfl; ⟨_, fd, F, He.glo_ok X G (c.fact 27 (f := .glo "_law_order") rfl)⟩
  d_law_ring_rows := let ⟨fd, F⟩ := c.def_ 4 (d := e_law_ring_rows) rfl; ⟨_, fd, F, He.glo_ok X G (c.fact 28 (f := .glo "_law_ring_rows") rfl)⟩
  d_law_crowd_rows := let ⟨fd, F⟩ := c.def_ 5 (d := e_law_crowd_rows) rfl; ⟨_, fd, F, He.glo_ok X G (c.fact 29 (f := .glo "_law_crowd_rows") rfl)⟩
  d_law_free_row := let ⟨fd, F⟩ := c.def_ 6 (d := e_law_free_row) rfl; ⟨_, fd, F, He.glo_ok X G (c.fact 30 (f := .glo "_law_free_row") rfl)⟩
  d_law_setting := let ⟨fd, F⟩ := c.def_ 7 (d := e_law_setting) rfl; ⟨_, fd, F, He.glo_ok X G (c.fact 31 (f := .glo "_law_setting") rfl)⟩
  d_is_name := let ⟨fd, F⟩ := c.def_ 8 (d := e_is_name) rfl; ⟨_, fd, F, He.glo_ok X G (c.fact 32 (f := .glo "is_name") rfl)⟩
  d_first_misnamed := let ⟨fd, F⟩ := c.def_ 9 (d := e_first_misnamed) rfl; ⟨_, fd, F, He.glo_ok X G (c.fact 33 (f := .glo "first_misnamed") rfl)⟩
  d_is_row := let ⟨fd, F⟩ := c.def_ 10 (d := e_is_row) rfl; ⟨_, fd, F, He.glo_ok X G (c.fact 34 (f := .glo "is_row") rfl)⟩
  d_common_names := let ⟨fd, F⟩ := c.def_ 11 (d := e_common_names) rfl; ⟨_, fd, F, He.glo_ok X G (c.fact 35 (f := .glo "common_names") rfl)⟩
  d_Table_init := let ⟨fd, F⟩ := c.def_ 12 (d := e_Table_init) rfl; ⟨_, fd, _, F, rfl, (He.cls_ok (c.fact 21 (f := .cls "Table") rfl)), He.mkr_ok (c.fact 36 (f := .mkr "Table") rfl)⟩
  d_law_turned := let ⟨fd, F⟩ := c.def_ 13 (d := e_law_turned) rfl; ⟨_, fd, F, He.glo_ok X G (c.fact 37 (f := .glo "_law_turned") rfl)⟩
  d_Bar_init := let ⟨fd, F⟩ := c.def_ 14 (d := e_Bar_init) rfl; ⟨_, fd, F, (He.cls_ok (c.fact 17 (f := .cls "Bar") rfl)), He.mkr_ok (c.fact 38 (f := .mkr "Bar") rfl)⟩
  d_law_is_number := let ⟨fd, F⟩ := c.def_ 15 (d := e_law_is_number) rfl; ⟨_, fd, F, He.glo_ok X G (c.fact 39 (f := .glo "_law_is_number") rfl)⟩
  d_Bar_eq := let ⟨fd, F⟩ := c.def_ 16 (d := e_Bar_eq) rfl; ⟨_, fd, F, (He.cls_ok (c.fact 17 (f := .cls "Bar") rfl)), He.meth_ok (c.fact 40 (f := .meth "Bar" "__eq__") rfl)⟩
  d_law_kept := let ⟨fd, F⟩ := c.def_ 17 (d := e_law_kept) rfl; ⟨_, fd, F, He.glo_ok X G (c.fact 41 (f := .glo "_law_kept") rfl)⟩
  d_share_column := let ⟨fd, F⟩ := c.def_ 18 (d := e_share_column) rfl; ⟨_, fd, F, He.glo_ok X G (c.fact 42 (f := .glo "share_column") rfl)⟩
  d_is_ring_of := let ⟨fd, F⟩ := c.def_ 19 (d := e_is_ring_of) rfl; ⟨_, fd, F, He.glo_ok X G (c.fact 43 (f := .glo "is_ring_of") rfl)⟩
  d_is_crowd_of := let ⟨fd, F⟩ := c.def_ 20 (d := e_is_crowd_of) rfl; ⟨_, fd, F, He.glo_ok X G (c.fact 44 (f := .glo "is_crowd_of") rfl)⟩
  d_stands_in := let ⟨fd, F⟩ := c.def_ 21 (d := e_stands_in) rfl; ⟨_, fd, F, He.glo_ok X G (c.fact 45 (f := .glo "stands_in") rfl)⟩
  d_law_put := let ⟨fd, F⟩ := c.def_ 22 (d := e_law_put) rfl; ⟨_, fd, F, He.glo_ok X G (c.fact 46 (f := .glo "_law_put") rfl)⟩
  d_law_near := let ⟨fd, F⟩ := c.def_ 23 (d := e_law_near) rfl; ⟨_, fd, F, He.glo_ok X G (c.fact 47 (f := .glo "_law_near") rfl)⟩
  d_law_stands := let ⟨fd, F⟩ := c.def_ 24 (d := e_law_stands) rfl; ⟨_, fd, F, He.glo_ok X G (c.fact 48 (f := .glo "_law_stands") rfl)⟩
  d_law_is_told := let ⟨fd, F⟩ := c.def_ 25 (d := e_law_is_told) rfl; ⟨_, fd, F, He.glo_ok X G (c.fact 49 (f := .glo "_law_is_told") rfl)⟩
  d_Table_plus := let ⟨fd, F⟩ := c.def_ 26 (d := e_Table_plus) rfl; ⟨_, fd, F, (He.cls_ok (c.fact 21 (f := .cls "Table") rfl)), He.meth_ok (c.fact 50 (f := .meth "Table" "plus") rfl)⟩
  d_law_changed_rows := let ⟨fd, F⟩ := c.def_ 27 (d := e_law_changed_rows) rfl; ⟨_, fd, F, He.glo_ok X G (c.fact 51 (f := .glo "_law_changed_rows") rfl)⟩
  d_law := let ⟨fd, F⟩ := c.def_ 28 (d := e_law) rfl; ⟨_, fd, F, He.glo_ok X G (c.fact 52 (f := .glo "law") rfl)⟩
theorem facts {P : Program} {w : World} {K : PySem.W.Frag} {h : Heap} {mg : Str → Option Value} {f : Addr} (X : K.In h) (G : h.Ns mainGlobals mg) (hfa : mg ("law" : Str) = some (.ref f)) (c : He.SaysD fa fn K) (x : ex K = true) :
    ∃ fd : FuncData, (∀ (s : Shared) (v : Value), BindsTo s fd ⟨[v], []⟩ [("script", v)]) ∧ ∀ base : Heap, K.In base → base.Ns mainGlobals mg → FnOk P w K mg base CX0 6 f fd ["script"] (spF (wd K) 1 0 F_law) := by
  obtain ⟨fd, F⟩ := c.def_ 28 (d := e_law) rfl
  have e := hfa.symm.trans (He.glo_ok X G (c.fact 52 (f := .glo "law") rfl))
  cases e
  have b := FunD.bindsA (ps := ["script"]) F fun _ _ _ _ _ _ us hl => match us, hl with | [_], _ => rfl
  refine ⟨fd, fun s v => b s [v] rfl, fun base _ _ => ?_⟩
  exact F.ok sc_law (fun vs H Q E h => by
    obtain ⟨as, C, d, hl, _⟩ := h
    exact hl) fun cdv A outer s H vs Q E hr h => ⟨_, PSs.nox (bd_law (gd X G c x) _ cdv A outer s H E hr), run_spF h⟩
/-- the law from its mirror -/
theorem holds_of (M : ∀ ns : List Int, F_law [(0, .scr ns)] = some (.bl true)) : PySem.Challenge.rw_standingrows_k44_bars_judged.Holds := by
  w_on; o_law
  refine HandSHeadRun.head_any (r := PySem.W.OpenLaw.row PySem.Challenge.rw_standingrows_k44_bars_judged) (q := PySem.W.view (PySem.W.OpenLaw.row PySem.Challenge.rw_standingrows_k44_bars_judged).prog [41]) (H := hk) (ob := ob) (M := 6000) (loose := loose) (d := HandSHeadRun.topDef (PySem.W.OpenLaw.row PySem.Challenge.rw_standingrows_k44_bars_judged).prog 41) (kwd := []) ob_eq
    (by kernel_rfl) (fun s => by kernel_rfl) run (by kernel_rfl) (by kernel_rfl) (by kernel_rfl) (by rfl) (by first | assumption | decide +kernel) (by decide +kernel) ⟨rfl, rfl, rfl, rfl, rfl, by decide +kernel⟩ ?hw ?hc
  case hw => w_witness2
  case hc =>
    refine L2.walk_ofE (l := PySem.Challenge.rw_standingrows_k44_bars_judged) (n := 63) (k := 6) (x := "script") (CX := L2.CX0) rfl (by decide) (by kernel_rfl) ⟨rfl, by decide, by decide⟩ ?F (fun _ _ _ _ z => z)
    intro w mg fa h Y G hmg0
    obtain ⟨K, KX, c, x⟩ := Y
    have hmg : mg ("law" : PySem.Str) = some (.ref fa) := by
      have e : (HandSHeadRun.topDef (PySem.W.OpenLaw.row PySem.Challenge.rw_standingrows_k44_bars_judged).prog 41).name = ("law" : PySem.Str) := by kernel_rfl
      rw [← e]
      exact hmg0
    obtain ⟨fd, hb, hF⟩ := facts (P := (PySem.Challenge.rw_standingrows_k44_bars_judged).prog) (w := w) KX G hmg c x
    exact ⟨K, fd, spF (wd K) 1 0 F_law, KX, hb, fun H a ns hl _ hS => law_sp 63 (hF h KX G) (fun ns _ => M ns) H a ns hl hS, hF⟩
end Gh

set_option maxRecDepth 100000 in
set_option maxHeartbeats 0 in
theorem PySem.Challenge.cw_standingrows_k44_bars_judged_holds : PySem.Challenge.rw_standingrows_k44_bars_judged.Holds :=
  Gh.holds_of Gn.e_law
