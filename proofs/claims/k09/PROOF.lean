import PyProof.Rows.All
import Wide.All
import OpenK.AllK
import Wide.FinOn
import HandS.ForMost
import HandS.IsInst
import HandS.Wide
import HandS.TupAny
import HandS.TupLe
import HandS.SortInts
import HandS.Zip
import KE.KDictPairs
import HandS.More
import HandS.SetKeys
import HandS.NoneIn
import HandS.DictComp
import HandS.Style
import HandS.Defaults
import HandS.Star
import HandS.Strs
import HandS.Gcd
import HandS.DictTup
import HandS.ListItems
import PyProof.ReprRoads
import PyProof.ReprLen
import PySem.Challenge.RW_everystepheld_k09_whole_times_or_prices
set_option Elab.async false
set_option linter.all false
set_option maxRecDepth 100000
set_option maxHeartbeats 1000000
/-! DL1: the data layer: data, the store, what they stand for. -/
namespace DL
open PySem L2

/-- a datum: immutable things by value; a mutable thing by its address -/
inductive D where
  | non | bl (b : Bool) | int (i : Int) | str (s : Str)
  | tup (xs : List D) | lst (xs : List D) | dct (kvs : List (Key × D)) | ins (c : Str) (fs : List (Str × D))
  | ref (a : Addr) | scr (ns : List Int)
instance : Inhabited D := ⟨.non⟩

/-- a mutable thing -/
inductive O where
  | lst (xs : List D) | dct (kvs : List (Key × D)) | ins (c : Str) (fs : List (Str × D))
abbrev Store := Addr → Option O
def sup (S : Store) (a : Addr) (o : O) : Store := fun b => if b = a then some o else S b
theorem sup_same {S : Store} {a : Addr} {o : O} : sup S a o a = some o := if_pos rfl
theorem sup_ne {S : Store} {a b : Addr} {o : O} (h : b ≠ a) : sup S a o b = S b := if_neg h
theorem sup_sup {S : Store} {a : Addr} {o u : O} : sup (sup S a o) a u = sup S a u := by
  funext b; unfold sup; split <;> rfl
def sdel (S : Store) (a : Addr) : Store := fun b => if b = a then none else S b

abbrev DQ := D → Store → Prop
abbrev Slots := List (Option D)
abbrev DE := Slots → Store → DQ → Prop
abbrev DT := Slots → Store → (Bool → Store → Prop) → Prop
abbrev DA := Slots → Store → (List D → Store → Prop) → Prop

/-- the written part, the classes' addresses -/
structure Wd where
  K : PySem.W.Frag
  cm : Str → Option Addr

/-- a plain tuple: known as an object without a dict, or of the written part -/
def TupP (K : PySem.W.Frag) (F : Hp) (a : Addr) (vs : List V) : Prop :=
  (∃ o, F a = some (.frz o (.tup vs)) ∧ o.dict = none) ∨
    ∃ (o : Obj) (its : Array Value) (n : Nat), K.lookup a = some o ∧ o.cls = .type "tuple" ∧ o.dict = none ∧ o.data = .seq its n ∧ its.size ≤ sizeLine ∧ Vals vs its.toList
theorem TupP.sqt {K : PySem.W.Frag} {F : Hp} {a : Addr} {vs : List V} (h : TupP K F a vs) : SqT K F a vs := by
  rcases h with ⟨o, h, _⟩ | ⟨o, its, n, h1, h2, h3, h4, h5, h6⟩
  · exact .inl (.inr ⟨o, h⟩)
  · exact .inr ⟨o, its, n, h1, h2, h4, h5, h6⟩
mutual
inductive Rp (W : Wd) (F : Hp) : D → V → Prop
  | non : Rp W F .non .non
  | bl (b : Bool) : Rp W F (.bl b) (.bl b)
  | int (i : Int) : Rp W F (.int i) (.int i)
  | str (s : Str) : Rp W F (.str s) (.str s)
  | tup {xs : List D} {vs : List V} {a : Addr} (h : TupP W.K F a vs) (r : Rps W F xs vs) : Rp W F (.tup xs) (.ref a)
  | lst {xs : List D} {vs : List V} {a : Addr} (h : Rd F a (.lst vs)) (r : Rps W F xs vs) : Rp W F (.lst xs) (.ref a)
  | dct {kvs : List (Key × D)} {ws : List (Key × V)} {a : Addr} (h : Rd F a (.dK ws)) (r : RpK W F kvs ws) : Rp W F (.dct kvs) (.ref a)
  | ins {c : Str} {fs : List (Str × D)} {gs : List (Str × V)} {a C dx : Addr} (h : F a = some (.ins C dx gs)) (hc : W.cm c = some C) (r : RpF W F fs gs) : Rp W F (.ins c fs) (.ref a)
  | ref (a : Addr) : Rp W F (.ref a) (.ref a)
  | scr {ns : List Int} {a : Addr} (h : SqL W.K F a (ns.map V.int)) : Rp W F (.scr ns) (.ref a)
inductive Rps (W : Wd) (F : Hp) : List D → List V → Prop
  | nil : Rps W F [] []
  | cons {d : D} {v : V} {ds : List D} {vs : List V} (h : Rp W F d v) (t : Rps W F ds vs) : Rps W F (d :: ds) (v :: vs)
inductive RpK (W : Wd) (F : Hp) : List (Key × D) → List (Key × V) → Prop
  | nil : RpK W F [] []
  | cons {k : Key} {d : D} {v : V} {ds : List (Key × D)} {vs : List (Key × V)} (h : Rp W F d v) (t : RpK W F ds vs) : RpK W F ((k, d) :: ds) ((k, v) :: vs)
inductive RpF (W : Wd) (F : Hp) : List (Str × D) → List (Str × V) → Prop
  | nil : RpF W F [] []
  | cons {k : Str} {d : D} {v : V} {ds : List (Str × D)} {vs : List (Str × V)} (h : Rp W F d v) (t : RpF W F ds vs) : RpF W F ((k, d) :: ds) ((k, v) :: vs)
end

def Le (F F' : Hp) : Prop := ∀ a o, F a = some o → F' a = some o
theorem Le.refl (F : Hp) : Le F F := fun _ _ h => h
theorem Le.trans {F F' F'' : Hp} (a : Le F F') (b : Le F' F'') : Le F F'' := fun c o h => b c o (a c o h)
theorem Le.rd {F F' : Hp} (e : Le F F') {a : Addr} {u : HO} (h : Rd F a u) : Rd F' a u := by
  rcases h with h | ⟨o, h⟩
  · exact .inl (e _ _ h)
  · exact .inr ⟨o, e _ _ h⟩
theorem Le.sqt {F F' : Hp} (e : Le F F') {K : PySem.W.Frag} {a : Addr} {vs : List V} (h : SqT K F a vs) : SqT K F' a vs := by
  rcases h with h | h
  · exact .inl (e.rd h)
  · exact .inr h
theorem Le.sql {F F' : Hp} (e : Le F F') {K : PySem.W.Frag} {a : Addr} {vs : List V} (h : SqL K F a vs) : SqL K F' a vs := by
  rcases h with h | h
  · exact .inl (e.rd h)
  · exact .inr h

theorem Le.tupP {F F' : Hp} (e : Le F F') {K : PySem.W.Frag} {a : Addr} {vs : List V} (h : TupP K F a vs) : TupP K F' a vs := by
  rcases h with ⟨o, h, z⟩ | h
  · exact .inl ⟨o, e _ _ h, z⟩
  · exact .inr h

variable {W : Wd} {F F' F'' P : Hp} {S S' : Store} {H H' : Hp}
mutual
theorem Rp.mono (e : Le F F') : ∀ {d : D} {v : V}, Rp W F d v → Rp W F' d v
  | _, _, .non => .non
  | _, _, .bl b => .bl b
  | _, _, .int i => .int i
  | _, _, .str s => .str s
  | _, _, .tup h r => .tup (e.tupP h) (Rps.mono e r)
  | _, _, .lst h r => .lst (e.rd h) (Rps.mono e r)
  | _, _, .dct h r => .dct (e.rd h) (RpK.mono e r)
  | _, _, .ins h c r => .ins (e _ _ h) c (RpF.mono e r)
  | _, _, .ref a => .ref a
  | _, _, .scr h => .scr (e.sql h)
theorem Rps.mono (e : Le F F') : ∀ {d : List D} {v : List V}, Rps W F d v → Rps W F' d v
  | _, _, .nil => .nil
  | _, _, .cons h t => .cons (Rp.mono e h) (Rps.mono e t)
theorem RpK.mono (e : Le F F') : ∀ {d : List (Key × D)} {v : List (Key × V)}, RpK W F d v → RpK W F' d v
  | _, _, .nil => .nil
  | _, _, .cons h t => .cons (Rp.mono e h) (RpK.mono e t)
theorem RpF.mono (e : Le F F') : ∀ {d : List (Str × D)} {v : List (Str × V)}, RpF W F d v → RpF W F' d v
  | _, _, .nil => .nil
  | _, _, .cons h t => .cons (Rp.mono e h) (RpF.mono e t)
end

inductive RpO (W : Wd) (F : Hp) : O → HO → Prop
  | lst {xs : List D} {vs : List V} (r : Rps W F xs vs) : RpO W F (.lst xs) (.lst vs)
  | dct {kvs : List (Key × D)} {ws : List (Key × V)} (r : RpK W F kvs ws) : RpO W F (.dct kvs) (.dK ws)
  | ins {c : Str} {fs : List (Str × D)} {gs : List (Str × V)} {C dx : Addr} (hc : W.cm c = some C) (r : RpF W F fs gs) : RpO W F (.ins c fs) (.ins C dx gs)
theorem RpO.mono (e : Le F F') {o : O} {u : HO} (r : RpO W F o u) : RpO W F' o u := by
  cases r with
  | lst r => exact .lst (r.mono e)
  | dct r => exact .dct (r.mono e)
  | ins c r => exact .ins c (r.mono e)

/-- F: what never changes (and is read as data); P: what must stand as it stands; S: what may change. F stands in H (a dict of it may be locked while a loop walks it) -/
def Sub (F H : Hp) : Prop := ∀ a o, F a = some o → H a = some o ∨ ∃ ob kvs, o = .dK kvs ∧ H a = some (.frz ob o)
def szO : HO → Prop
  | .lst vs => vs.length ≤ sizeLine
  | .tup vs => vs.length ≤ sizeLine
  | .dK kvs => kvs.length ≤ sizeLine
  | .frz _ u => szO u
  | _ => True
structure RS (W : Wd) (F P : Hp) (S : Store) (H : Hp) : Prop where
  sz : ∀ a o, H a = some o → szO o
  sub : Sub F H
  prs : Le P H
  dis : ∀ a o, P a = some o → S a = none ∧ (F a = none ∨ ∃ ob u, o = .frz ob u)
  obj : ∀ a o, S a = some o → F a = none ∧ ∃ u, H a = some u ∧ RpO W F o u

structure RSl (W : Wd) (F : Hp) (sd : Slots) (σ : St) : Prop where
  len : sd.length = σ.length
  at_ : ∀ (i : Nat) (d : D), sd[i]? = some (some d) → ∃ v, σ[i]? = some (some v) ∧ Rp W F d v
theorem RSl.mono (e : Le F F') {sd : Slots} {σ : St} (r : RSl W F sd σ) : RSl W F' sd σ :=
  ⟨r.len, fun i d h => let ⟨v, h1, h2⟩ := r.at_ i d h; ⟨v, h1, h2.mono e⟩⟩

/-- what a continuation is given -/
def Kont (W : Wd) (F P : Hp) (Qd : DQ) (Q : VK) : Prop := ∀ F' S' H' d v, Le F F' → RS W F' P S' H' → Rp W F' d v → Qd d S' → Q v H'
theorem Kont.le {Qd : DQ} {Q : VK} (k : Kont W F P Qd Q) (e : Le F F') : Kont W F' P Qd Q := fun F1 S1 H1 d v l => k F1 S1 H1 d v (e.trans l)

def LE (W : Wd) (d : DE) : TE := fun σ H Q => ∃ F P sd S Qd, RS W F P S H ∧ RSl W F sd σ ∧ d sd S Qd ∧ Kont W F P Qd Q
def LT (W : Wd) (d : DT) : TT := fun σ H Q => ∃ F P sd S Qd, RS W F P S H ∧ RSl W F sd σ ∧ d sd S Qd ∧ ∀ F' S' H' b, Le F F' → RS W F' P S' H' → Qd b S' → Q b H'
def LA (W : Wd) (d : DA) : TA := fun σ H Q => ∃ F P sd S Qd, RS W F P S H ∧ RSl W F sd σ ∧ d sd S Qd ∧ ∀ F' S' H' ds vs, Le F F' → RS W F' P S' H' → Rps W F' ds vs → Qd ds S' → Q vs H'

theorem LE.mk {d : DE} {σ : St} {Q : VK} {sd : Slots} {Qd : DQ} (rs : RS W F P S H) (rl : RSl W F sd σ) (h : d sd S Qd) (k : Kont W F P Qd Q) : LE W d σ H Q := ⟨F, P, sd, S, Qd, rs, rl, h, k⟩

end DL

namespace L2
theorem PE.mono {X : Cx} {e : PySem.Expr} {t t' : TE} (h : PE X e t) (m : ∀ σ H Q, t' σ H Q → t σ H Q) : PE X e t' := ⟨fun pins s σ H Q I q => h.run pins s σ H Q I (m σ H Q q)⟩
theorem PT.mono {X : Cx} {e : PySem.Expr} {t t' : TT} (h : PT X e t) (m : ∀ σ H Q, t' σ H Q → t σ H Q) : PT X e t' := ⟨fun pins s σ H Q I q => h.run pins s σ H Q I (m σ H Q q)⟩
theorem PW.mono {X : Cx} {e : PySem.Expr} {t t' : TT} (h : PW X e t) (m : ∀ σ H Q, t' σ H Q → t σ H Q) : PW X e t' := ⟨fun wh pins s σ H Q I q => h.run wh pins s σ H Q I (m σ H Q q)⟩
theorem PA.mono {X : Cx} {e : List PySem.Expr} {t t' : TA} (h : PA X e t) (m : ∀ σ H Q, t' σ H Q → t σ H Q) : PA X e t' := ⟨fun pos pins s σ H Q I q => h.run pos pins s σ H Q I (m σ H Q q)⟩
theorem PS.mono {X : Cx} {e : PySem.Stmt} {t t' : TS} (h : PS X e t) (m : ∀ D σ H, t' D σ H → t D σ H) : PS X e t' := ⟨fun pins s σ H D I q => h.run pins s σ H D I (m D σ H q)⟩
theorem PSs.mono {X : Cx} {e : List PySem.Stmt} {t t' : TS} (h : PSs X e t) (m : ∀ D σ H, t' D σ H → t D σ H) : PSs X e t' := ⟨fun pins s σ H D I q => h.run pins s σ H D I (m D σ H q)⟩
end L2

namespace DL
open PySem L2
variable {W : Wd} {F F' F'' P : Hp} {S S' : Store} {H H' : Hp} {X : Cx}

/-! ### lists of data -/
theorem Rps.length : ∀ {ds : List D} {vs : List V}, Rps W F ds vs → ds.length = vs.length
  | _, _, .nil => rfl
  | _, _, .cons _ t => by rw [List.length_cons, List.length_cons, Rps.length t]
theorem Rps.get : ∀ {ds : List D} {vs : List V} {i : Nat} {d : D}, Rps W F ds vs → ds[i]? = some d → ∃ v, vs[i]? = some v ∧ Rp W F d v
  | _, _, _, _, .nil, e => by simp at e
  | _, _, 0, _, .cons r _, e => by simp at e; subst e; exact ⟨_, rfl, r⟩
  | _, _, i + 1, d, .cons _ t, e => by
    obtain ⟨u, h1, h2⟩ := Rps.get (i := i) (d := d) t (by simpa using e)
    exact ⟨u, by simpa using h1, h2⟩
theorem Rps.app : ∀ {ds es : List D} {vs us : List V}, Rps W F ds vs → Rps W F es us → Rps W F (ds ++ es) (vs ++ us)
  | _, _, _, _, .nil, s => s
  | _, _, _, _, .cons r t, s => .cons r (Rps.app t s)
theorem Rps.set {d : D} {v : V} (r : Rp W F d v) : ∀ {ds : List D} {vs : List V} (i : Nat), Rps W F ds vs → Rps W F (ds.set i d) (vs.set i v)
  | _, _, _, .nil => .nil
  | _, _, 0, .cons _ t => .cons r t
  | _, _, i + 1, .cons q t => .cons q (Rps.set r i t)
theorem Rps.take : ∀ {ds : List D} {vs : List V} (n : Nat), Rps W F ds vs → Rps W F (ds.take n) (vs.take n)
  | _, _, 0, _ => .nil
  | _, _, _ + 1, .nil => .nil
  | _, _, n + 1, .cons r t => .cons r (Rps.take n t)
theorem Rps.drop : ∀ {ds : List D} {vs : List V} (n : Nat), Rps W F ds vs → Rps W F (ds.drop n) (vs.drop n)
  | _, _, 0, r => r
  | _, _, _ + 1, .nil => .nil
  | _, _, n + 1, .cons _ t => Rps.drop n t
theorem Rps.ints : ∀ {ns : List Int} {vs : List V}, Rps W F (ns.map D.int) vs → vs = ns.map V.int
  | [], _, .nil => rfl
  | _ :: _, _, .cons r t => by cases r; rw [Rps.ints t]; rfl
theorem Rps.bls : ∀ {ns : List Bool} {vs : List V}, Rps W F (ns.map D.bl) vs → vs = ns.map V.bl
  | [], _, .nil => rfl
  | _ :: _, _, .cons r t => by cases r; rw [Rps.bls t]; rfl
theorem Rps.strs : ∀ {ns : List Str} {vs : List V}, Rps W F (ns.map D.str) vs → vs = ns.map V.str
  | [], _, .nil => rfl
  | _ :: _, _, .cons r t => by cases r; rw [Rps.strs t]; rfl

/-! ### a new thing -/
theorem Sub.none (h : Sub F H) {p : Addr} (n : H p = Option.none) : F p = Option.none := by
  cases e : F p with
  | none => rfl
  | some o =>
    rcases h _ _ e with h | ⟨_, _, _, h⟩ <;> (rw [n] at h; cases h)
theorem Sub.ne (h : Sub F H) {a p : Addr} {o : HO} (e : F a = some o) (n : H p = Option.none) : a ≠ p := ne_of_none e (h.none n)
theorem Sub.rd (h : Sub F H) {a : Addr} {u : HO} (r : Rd F a u) : Rd H a u := by
  rcases r with r | ⟨ob, r⟩
  · rcases h _ _ r with h | ⟨ob, _, _, h⟩
    · exact .inl h
    · exact .inr ⟨ob, h⟩
  · rcases h _ _ r with h | ⟨_, _, z, _⟩
    · exact .inr ⟨ob, h⟩
    · cases z
theorem Sub.sqt (e : Sub F H) {K : PySem.W.Frag} {a : Addr} {vs : List V} (h : SqT K F a vs) : SqT K H a vs := by
  rcases h with h | h
  · exact .inl (e.rd h)
  · exact .inr h
theorem Sub.sql (e : Sub F H) {K : PySem.W.Frag} {a : Addr} {vs : List V} (h : SqL K F a vs) : SqL K H a vs := by
  rcases h with h | h
  · exact .inl (e.rd h)
  · exact .inr h
theorem Sub.tupP (e : Sub F H) {K : PySem.W.Frag} {a : Addr} {vs : List V} (h : TupP K F a vs) : TupP K H a vs := by
  rcases h with ⟨o, h, z⟩ | h
  · rcases e _ _ h with h | ⟨_, _, q, _⟩
    · exact .inl ⟨o, h, z⟩
    · cases q
  · exact .inr h
theorem Sub.upd (h : Sub F H) {p : Addr} {u : HO} (n : F p = Option.none) : Sub F (upd H p u) := fun a o e => by
  have ne : a ≠ p := ne_of_none e n
  rw [upd_ne ne]
  exact h a o e
theorem Sub.upd2 (h : Sub F H) {p : Addr} {u : HO} : Sub (L2.upd F p u) (L2.upd H p u) := fun a o e => by
  by_cases z : a = p
  · subst z; rw [upd_same] at e ⊢; exact .inl e
  · rw [upd_ne z] at e ⊢; exact h a o e
theorem RS.none (rs : RS W F P S H) {p : Addr} (n : H p = Option.none) : F p = Option.none ∧ P p = Option.none ∧ S p = Option.none := by
  refine ⟨rs.sub.none n, ?_, ?_⟩
  · cases e : P p with
    | none => rfl
    | some o => have := rs.prs _ _ e; rw [n] at this; cases this
  · cases e : S p with
    | none => rfl
    | some o => obtain ⟨_, u, h, _⟩ := rs.obj _ _ e; rw [n] at h; cases h
theorem Le.upd {p : Addr} {u : HO} (n : F p = none) : Le F (upd F p u) := fun a o h => by rw [upd_ne (ne_of_none h n)]; exact h
/-- laid as a value -/
theorem sz_upd {p : Addr} {u : HO} (h : ∀ a o, H a = some o → szO o) (z : szO u) : ∀ a o, upd H p u a = some o → szO o := fun a o e => by
  by_cases q : a = p
  · subst q; rw [upd_same] at e; cases e; exact z
  · rw [upd_ne q] at e; exact h a o e
theorem RS.frozen (rs : RS W F P S H) {p : Addr} {u : HO} (n : H p = Option.none) (z : szO u) : Le F (upd F p u) ∧ RS W (upd F p u) P S (upd H p u) := by
  obtain ⟨nF, nP, nS⟩ := rs.none n
  refine ⟨Le.upd nF, ⟨sz_upd rs.sz z, rs.sub.upd2, fun a o h => ?_, fun a o h => ?_, fun a o h => ?_⟩⟩
  · rw [upd_ne (ne_of_none (rs.prs _ _ h) n)]; exact rs.prs _ _ h
  · rw [upd_ne (ne_of_none (rs.prs _ _ h) n)]; exact rs.dis _ _ h
  · obtain ⟨h1, w, h2, h3⟩ := rs.obj _ _ h
    have ne : a ≠ p := ne_of_none h2 n
    refine ⟨by rw [upd_ne ne]; exact h1, w, by rw [upd_ne ne]; exact h2, h3.mono (Le.upd nF)⟩
/-- laid as a mutable thing -/
theorem RS.laid (rs : RS W F P S H) {p : Addr} {o : O} {u : HO} (n : H p = Option.none) (z : szO u) (r : RpO W F o u) : RS W F P (sup S p o) (upd H p u) := by
  obtain ⟨nF, nP, nS⟩ := rs.none n
  refine ⟨sz_upd rs.sz z, rs.sub.upd nF, fun a o h => ?_, fun a o h => ?_, fun a q h => ?_⟩
  · rw [upd_ne (ne_of_none (rs.prs _ _ h) n)]; exact rs.prs _ _ h
  · have ne : a ≠ p := ne_of_none (rs.prs _ _ h) n
    rw [sup_ne ne]; exact rs.dis _ _ h
  · by_cases e : a = p
    · subst e; rw [sup_same] at h; cases h; exact ⟨nF, u, upd_same, r⟩
    · rw [sup_ne e] at h
      obtain ⟨h1, w, h2, h3⟩ := rs.obj _ _ h
      exact ⟨h1, w, by rw [upd_ne e]; exact h2, h3⟩
/-- written -/
theorem RS.wrote (rs : RS W F P S H) {p : Addr} {o o' : O} {u : HO} (h : S p = some o) (z : szO u) (r : RpO W F o' u) : RS W F P (sup S p o') (upd H p u) := by
  obtain ⟨nF, _⟩ := rs.obj _ _ h
  refine ⟨sz_upd rs.sz z, rs.sub.upd nF, fun a q hq => ?_, fun a q hq => ?_, fun a q hq => ?_⟩
  · have ne : a ≠ p := by rintro rfl; rw [(rs.dis _ _ hq).1] at h; cases h
    rw [upd_ne ne]; exact rs.prs _ _ hq
  · have ne : a ≠ p := by rintro rfl; rw [(rs.dis _ _ hq).1] at h; cases h
    rw [sup_ne ne]; exact rs.dis _ _ hq
  · by_cases e : a = p
    · subst e; rw [sup_same] at hq; cases hq; exact ⟨nF, u, upd_same, r⟩
    · rw [sup_ne e] at hq
      obtain ⟨h1, w, h2, h3⟩ := rs.obj _ _ hq
      exact ⟨h1, w, by rw [upd_ne e]; exact h2, h3⟩
/-- some of the store forgotten -/
def SLe (S S' : Store) : Prop := ∀ a o, S a = some o → S' a = some o
theorem RS.forget (rs : RS W F P S' H) (h : SLe S S') : RS W F P S H :=
  ⟨rs.sz, rs.sub, rs.prs, fun a o e => ⟨(by
    cases q : S a with
    | none => rfl
    | some w => have := h _ _ q; rw [(rs.dis a o e).1] at this; cases this), (rs.dis a o e).2⟩, fun a o e => rs.obj a o (h a o e)⟩

theorem szRd {u : HO} (h : ∀ a o, H a = some o → szO o) {a : Addr} (r : Rd H a u) : szO u := by
  rcases r with r | ⟨o, r⟩
  · exact h _ _ r
  · exact h _ (.frz o u) r

/-! ### names, constants -/
def dVar (i : Nat) : DE := fun sd S Q => match sd[i]? with
  | some (some d) => Q d S
  | _ => False
def dC (d : D) : DE := fun _ S Q => Q d S
theorem le_var {i : Nat} {x : Str} {pos : Pos} (hN : X.N[i]? = some x) (hv : Vis X.env.scope x) (hd : (x == ("__debug__" : Str)) = false) (hcd : (x == ("__classdict__" : Str)) = false) : PE X (.Name x pos) (LE W (dVar i)) := by
  refine (pe_var hN hv hd hcd).mono fun σ H Q ⟨F, P, sd, S, Qd, rs, rl, h, k⟩ => ?_
  unfold dVar at h
  split at h
  · rename_i d e
    obtain ⟨v, h1, h2⟩ := rl.at_ i d e
    exact ⟨v, h1, k F S H d v (Le.refl F) rs h2 h⟩
  · exact h.elim
theorem le_const {e : Expr} {v : V} {d : D} (h : PE X e (tC v)) (r : ∀ F, Rp W F d v) : PE X e (LE W (dC d)) :=
  h.mono fun σ H Q ⟨F, P, sd, S, Qd, rs, rl, q, k⟩ => k F S H d v (Le.refl F) rs (r F) q

/-! ### two-place and one-place operations -/
abbrev F2 := D → D → Store → DQ → Prop
def R2Ok (W : Wd) (r : R2) (f : F2) : Prop := ∀ F P S H dx dy x y Qd Q, RS W F P S H → Rp W F dx x → Rp W F dy y → f dx dy S Qd → Kont W F P Qd Q → r x y H Q
def dOp (f : F2) (da db : DE) : DE := fun sd S Q => da sd S fun x S1 => db sd S1 fun y S2 => f x y S2 Q
theorem lift2 {r : R2} {f : F2} {da db : DE} (hr : R2Ok W r f) : ∀ σ H Q, LE W (dOp f da db) σ H Q → tOp r (LE W da) (LE W db) σ H Q := by
  rintro σ H Q ⟨F, P, sd, S, Qd, rs, rl, h, k⟩
  refine ⟨F, P, sd, S, _, rs, rl, h, fun F1 S1 H1 dx x l1 rs1 rx q1 => ?_⟩
  refine ⟨F1, P, sd, S1, _, rs1, rl.mono l1, q1, fun F2 S2 H2 dy y l2 rs2 ry q2 => ?_⟩
  exact hr F2 P S2 H2 dx dy x y Qd Q rs2 (rx.mono l2) ry q2 (k.le (l1.trans l2))
theorem le_op {op : Operator} {r : R2} {f : F2} {a b : Expr} {pos : Pos} {da db : DE} (ho : OpR X (binaryOp op) r) (hr : R2Ok W r f) (ha : PE X a (LE W da)) (hb : PE X b (LE W db)) : PE X (.BinOp a op b pos) (LE W (dOp f da db)) :=
  (pe_op ho ha hb).mono (lift2 hr)
theorem le_cmp {op : CmpOp} {r : R2} {f : F2} {a b : Expr} {pos : Pos} {da db : DE} (ho : OpR X (compareOp op) r) (hr : R2Ok W r f) (ha : PE X a (LE W da)) (hb : PE X b (LE W db)) (hm : behindInMarks op b = false) : PE X (.Compare a [op] [b] pos) (LE W (dOp f da db)) :=
  (pe_cmpR ho ha hb hm).mono (lift2 hr)
abbrev F1 := D → Store → DQ → Prop
def dUn (f : F1) (da : DE) : DE := fun sd S Q => da sd S fun x S1 => f x S1 Q
end DL
set_option Elab.async false
set_option linter.all false
set_option maxRecDepth 100000
set_option maxHeartbeats 1000000
/-! DL2: operators on data. -/
namespace DL
open PySem L2
variable {W : Wd} {F F' F'' P : Hp} {S S' : Store} {H H' : Hp} {X : Cx}

/-- a list, mutable or not -/
def asL (S : Store) : D → Option (List D)
  | .lst xs => some xs
  | .ref a => match S a with | some (.lst xs) => some xs | _ => none
  | _ => none
def asD (S : Store) : D → Option (List (Key × D))
  | .dct xs => some xs
  | .ref a => match S a with | some (.dct xs) => some xs | _ => none
  | _ => none
theorem asL_ok {d : D} {v : V} {xs : List D} (rs : RS W F P S H) (r : Rp W F d v) (h : asL S d = some xs) : ∃ a vs, v = .ref a ∧ Rd H a (.lst vs) ∧ Rps W F xs vs := by
  cases r with
  | lst h1 h2 => cases h; exact ⟨_, _, rfl, rs.sub.rd h1, h2⟩
  | ref a =>
    simp only [asL] at h
    split at h
    · rename_i ys e
      cases h
      obtain ⟨_, u, hu, ru⟩ := rs.obj _ _ e
      cases ru with
      | lst r => exact ⟨_, _, rfl, .inl hu, r⟩
    · cases h
  | _ => cases h
theorem asD_ok {d : D} {v : V} {xs : List (Key × D)} (rs : RS W F P S H) (r : Rp W F d v) (h : asD S d = some xs) : ∃ a vs, v = .ref a ∧ Rd H a (.dK vs) ∧ RpK W F xs vs := by
  cases r with
  | dct h1 h2 => cases h; exact ⟨_, _, rfl, rs.sub.rd h1, h2⟩
  | ref a =>
    simp only [asD] at h
    split at h
    · rename_i ys e
      cases h
      obtain ⟨_, u, hu, ru⟩ := rs.obj _ _ e
      cases ru with
      | dct r => exact ⟨_, _, rfl, .inl hu, r⟩
    · cases h
  | _ => cases h
theorem Rd.sql {K : PySem.W.Frag} {a : Addr} {vs : List V} (h : Rd H a (.lst vs)) : SqL K H a vs := .inl h

/-- a new list: a value, or a mutable thing -/
def mkL (own : Bool) (xs : List D) (S : Store) (Q : DQ) : Prop := if own = true then ∀ p, S p = none → Q (.ref p) (sup S p (.lst xs)) else Q (.lst xs) S
def mkD (own : Bool) (xs : List (Key × D)) (S : Store) (Q : DQ) : Prop := if own = true then ∀ p, S p = none → Q (.ref p) (sup S p (.dct xs)) else Q (.dct xs) S
theorem mkL_ok {own : Bool} {xs : List D} {vs : List V} {Qd : DQ} {Q : VK} (rs : RS W F P S H) (z : vs.length ≤ sizeLine) (r : Rps W F xs vs) (h : mkL own xs S Qd) (k : Kont W F P Qd Q) : ∀ p, H p = none → Q (.ref p) (upd H p (.lst vs)) := by
  intro p n
  unfold mkL at h
  split at h
  · exact k F _ _ _ _ (Le.refl F) (rs.laid n z (.lst r)) (.ref p) (h p (rs.none n).2.2)
  · obtain ⟨l, rs'⟩ := rs.frozen (u := .lst vs) n z
    exact k _ _ _ _ _ l rs' (.lst (.inl upd_same) (r.mono l)) h
theorem mkD_ok {own : Bool} {xs : List (Key × D)} {vs : List (Key × V)} {Qd : DQ} {Q : VK} (rs : RS W F P S H) (z : vs.length ≤ sizeLine) (r : RpK W F xs vs) (h : mkD own xs S Qd) (k : Kont W F P Qd Q) : ∀ p, H p = none → Q (.ref p) (upd H p (.dK vs)) := by
  intro p n
  unfold mkD at h
  split at h
  · exact k F _ _ _ _ (Le.refl F) (rs.laid n z (.dct r)) (.ref p) (h p (rs.none n).2.2)
  · obtain ⟨l, rs'⟩ := rs.frozen (u := .dK vs) n z
    exact k _ _ _ _ _ l rs' (.dct (.inl upd_same) (r.mono l)) h
/-- a new plain tuple, by values -/
def NewT (Q : VK) (H : Hp) (vs : List V) : Prop := ∀ p o, H p = none → o.dict = none → Q (.ref p) (upd H p (.frz o (.tup vs)))
theorem mkT_ok {xs : List D} {vs : List V} {Qd : DQ} {Q : VK} (rs : RS W F P S H) (z : vs.length ≤ sizeLine) (r : Rps W F xs vs) (h : Qd (.tup xs) S) (k : Kont W F P Qd Q) : NewT Q H vs := by
  intro p o n hd
  obtain ⟨l, rs'⟩ := rs.frozen (u := .frz o (.tup vs)) n z
  exact k _ _ _ _ _ l rs' (.tup (.inl ⟨o, upd_same, hd⟩) (r.mono l)) h
theorem tup_new {pins : List (Addr × Obj)} {σ : St} {s : Shared} {ys : List V} {us : List Value} {n : Nat} {t' : Nat} {Q : VK} (I : Inv X pins σ H s) (r : Vals ys us) (z : ys.length ≤ sizeLine) (q : NewT Q H ys) :
    EP X pins σ Q (.ref s.heap.objs.size) { s with heap := s.heap.push { cls := .type "tuple", data := .seq us.toArray n }, toks := t' } := by
  refine ⟨.ref s.heap.objs.size, upd H s.heap.objs.size (.frz { cls := .type "tuple", data := .seq us.toArray n } (.tup ys)), I.laid (fun b u e => Heap.get?_push_of_some _ e) (Nat.le_refl _) ?_, rfl, q _ _ (I.hok.fresh (Nat.le_refl _)) rfl⟩
  exact ⟨Heap.get?_push_size _ rfl, z, us, r, ⟨_, Heap.get?_push_size _ rfl, rfl, _, rfl⟩⟩

/-! ### + -/
def rCatR : R2 := fun x y H Q => ∃ l b xs zs, x = .ref l ∧ y = .ref b ∧ Rd H l (.lst xs) ∧ Rd H b (.lst zs) ∧ xs.length + zs.length ≤ sizeLine ∧ ∀ p, H p = none → Q (.ref p) (upd H p (.lst (xs ++ zs)))
theorem lst_at {pins : List (Addr × Obj)} {σ : St} {s : Shared} {l : Addr} {xs : List V} (I : Inv X pins σ H s) (h : Rd H l (.lst xs)) : xs.length ≤ sizeLine ∧ ∃ (its : List Value) (n : Nat), Vals xs its ∧ xs.length = its.length ∧ s.heap.get? l = some { cls := .type "list", data := .seq its.toArray n } := by
  obtain ⟨z, its, n, r, e⟩ := h.ok I.hok
  exact ⟨z, its, n, r, r.length, e⟩
theorem op_catR : OpR X (binaryOp .Add) rCatR := by
  intro pins s σ H x y v u Q I rx ry h
  obtain ⟨l, b, xs, zs, rfl, rfl, hH, hB, hz, q⟩ := h
  cases rx
  cases ry
  obtain ⟨z, its, n, r, hl, e⟩ := lst_at I hH
  obtain ⟨z2, its2, n2, r2, hl2, e2⟩ := lst_at I hB
  refine PySem.P.add_list e e2 ?_ (by rw [List.size_toArray, List.size_toArray]; omega)
  have ea : its.toArray ++ its2.toArray = (its ++ its2).toArray := by simp
  rw [ea]
  exact ⟨.ref _, _, I.lnew (t' := s.toks) (r.append r2) (by rw [List.length_append]; omega), rfl, q _ I.fresh⟩
def rCatP (K : PySem.W.Frag) : R2 := fun x y H Q => ∃ a b xs ys, x = .ref a ∧ y = .ref b ∧ SqT K H a xs ∧ SqT K H b ys ∧ xs.length + ys.length ≤ sizeLine ∧
  (xs = [] → Q (.ref b) H) ∧ (xs ≠ [] → ys = [] → Q (.ref a) H) ∧ (xs ≠ [] → ys ≠ [] → NewT Q H (xs ++ ys))
theorem op_catP : OpR X (binaryOp .Add) (rCatP X.K) := by
  intro pins s σ H x y v u Q I rx ry h
  obtain ⟨a, b, xs, ys, rfl, rfl, ha, hb, hz, q0, q1, q2⟩ := h
  cases rx
  cases ry
  obtain ⟨its, r1, p1, _⟩ := I.tuple ha
  obtain ⟨its2, r2, p2, _⟩ := I.tuple hb
  by_cases hx : xs = []
  · subst hx
    cases r1
    exact cat_tup0 p1 p2 ⟨.ref b, H, I, rfl, q0 rfl⟩
  · refine HT.cat_tup p1 p2 (fun z => hx (r1.nil_iff.mp z)) (fun z => ⟨.ref a, H, I, rfl, q1 hx (r2.nil_iff.mp z)⟩) (fun z => ?_) (by rw [← r1.length, ← r2.length]; exact hz)
    exact tup_new (t' := s.toks) I (r1.append r2) (by rw [List.length_append]; exact hz) (q2 hx fun w => z (r2.nil_iff.mpr w))
def fAdd (own : Bool) : F2 := fun dx dy S Q => match dx, dy with
  | .int i, .int j => Q (.int (i + j)) S
  | .str x, .str y => x.length + y.length ≤ sizeLine ∧ Q (.str (x ++ y)) S
  | .tup xs, .tup ys => xs.length + ys.length ≤ sizeLine ∧ Q (.tup (xs ++ ys)) S
  | dx, dy => match asL S dx, asL S dy with
    | some xs, some ys => xs.length + ys.length ≤ sizeLine ∧ mkL own (xs ++ ys) S Q
    | _, _ => False
def rAddA (K : PySem.W.Frag) : R2 := fun x y H Q => rI0 (fun i j => .int (i + j)) x y H Q ∨ (∃ i j, x = V.str i ∧ y = V.str j ∧ i.length + j.length ≤ sizeLine ∧ Q (.str (i ++ j)) H) ∨ rCatP K x y H Q ∨ rCatR x y H Q
theorem op_addA : OpR X (binaryOp .Add) (rAddA X.K) := op_add.or (op_add_str.or (op_catP.or op_catR))
theorem ok_add {own : Bool} : R2Ok W (rAddA W.K) (fAdd own) := by
  intro F P S H dx dy x y Qd Q rs rx ry h k
  have lists : ∀ {xs ys : List D}, asL S dx = some xs → asL S dy = some ys → xs.length + ys.length ≤ sizeLine ∧ mkL own (xs ++ ys) S Qd → rAddA W.K x y H Q := by
    rintro xs ys e1 e2 ⟨hz, hq⟩
    obtain ⟨a, vs, rfl, h1, r1⟩ := asL_ok rs rx e1
    obtain ⟨b, us, rfl, h2, r2⟩ := asL_ok rs ry e2
    exact .inr (.inr (.inr ⟨a, b, vs, us, rfl, rfl, h1, h2, by rw [← r1.length, ← r2.length]; exact hz, mkL_ok rs (by rw [List.length_append, ← r1.length, ← r2.length]; exact hz) (r1.app r2) hq k⟩))
  unfold fAdd at h
  split at h
  · cases rx; cases ry
    exact .inl ⟨_, _, rfl, rfl, k F S H _ _ (Le.refl F) rs (.int _) h⟩
  · cases rx; cases ry
    exact .inr (.inl ⟨_, _, rfl, rfl, h.1, k F S H _ _ (Le.refl F) rs (.str _) h.2⟩)
  · rename_i xs ys
    have rx0 := rx
    have ry0 := ry
    cases rx with
    | tup h1 r1 =>
      rename_i us a
      cases ry with
      | tup h2 r2 =>
        rename_i ws b
        refine .inr (.inr (.inl ⟨a, b, us, ws, rfl, rfl, (rs.sub.tupP h1).sqt, (rs.sub.tupP h2).sqt, by rw [← r1.length, ← r2.length]; exact h.1, fun e => ?_, fun _ e => ?_, fun _ _ => mkT_ok rs (by rw [List.length_append, ← r1.length, ← r2.length]; exact h.1) (r1.app r2) h.2 k⟩))
        · subst e
          cases r1
          exact k F S H _ _ (Le.refl F) rs ry0 h.2
        · subst e
          cases r2
          have hq := h.2
          rw [List.append_nil] at hq
          exact k F S H _ _ (Le.refl F) rs rx0 hq
  · split at h
    · rename_i e1 e2
      exact lists e1 e2 h
    · exact h.elim

/-! ### -, *, //, %, ** -/
def fInt (C : Int → Int → Prop) (g : Int → Int → Int) : F2 := fun dx dy S Q => match dx, dy with
  | .int i, .int j => C i j ∧ Q (.int (g i j)) S
  | _, _ => False
theorem ok_int {C : Int → Int → Prop} {g : Int → Int → Int} : R2Ok W (rI C fun i j => .int (g i j)) (fInt C g) := by
  intro F P S H dx dy x y Qd Q rs rx ry h k
  unfold fInt at h
  split at h
  · cases rx; cases ry
    exact ⟨_, _, rfl, rfl, h.1, k F S H _ _ (Le.refl F) rs (.int _) h.2⟩
  · exact h.elim
def fInt0 (g : Int → Int → D) : F2 := fun dx dy S Q => match dx, dy with
  | .int i, .int j => Q (g i j) S
  | _, _ => False
theorem ok_int0 {g : Int → Int → D} {g' : Int → Int → V} (hg : ∀ F i j, Rp W F (g i j) (g' i j)) : R2Ok W (rI0 g') (fInt0 g) := by
  intro F P S H dx dy x y Qd Q rs rx ry h k
  unfold fInt0 at h
  split at h
  · cases rx; cases ry
    exact ⟨_, _, rfl, rfl, k F S H _ _ (Le.refl F) rs (hg _ _ _) h⟩
  · exact h.elim
def fSub : F2 := fInt0 fun i j => .int (i - j)
theorem ok_sub : R2Ok W (rI0 fun i j => .int (i - j)) fSub := ok_int0 fun _ _ _ => .int _
def fLt : F2 := fInt0 fun i j => .bl (decide (i < j))
def fLe : F2 := fInt0 fun i j => .bl (decide (i ≤ j))
def fGt : F2 := fInt0 fun i j => .bl (decide (j < i))
def fGe : F2 := fInt0 fun i j => .bl (decide (j ≤ i))
theorem ok_lt : R2Ok W (rI0 fun i j => .bl (decide (i < j))) fLt := ok_int0 fun _ _ _ => .bl _
theorem ok_le : R2Ok W (rI0 fun i j => .bl (decide (i ≤ j))) fLe := ok_int0 fun _ _ _ => .bl _
theorem ok_gt : R2Ok W (rI0 fun i j => .bl (decide (j < i))) fGt := ok_int0 fun _ _ _ => .bl _
theorem ok_ge : R2Ok W (rI0 fun i j => .bl (decide (j ≤ i))) fGe := ok_int0 fun _ _ _ => .bl _
def fMod : F2 := fInt (fun _ j => 0 < j) fun i j => i % j
def fDiv : F2 := fInt CDivW fun i j => i / j
def fPow : F2 := fInt CPow fun i j => i ^ j.toNat
/-- list * int -/
def rRepR : R2 := fun x y H Q => ∃ l k xs, x = .ref l ∧ y = .int k ∧ Rd H l (.lst xs) ∧ -(2 ^ 63) ≤ k ∧ k < 2 ^ 63 ∧ xs.length * k.toNat ≤ sizeLine ∧
  ∀ p, H p = none → Q (.ref p) (upd H p (.lst (List.replicate k.toNat xs).flatten))
theorem op_repR : OpR X (binaryOp .Mult) rRepR := by
  intro pins s σ H x y v u Q I rx ry h
  obtain ⟨l, k, xs, rfl, rfl, hH, h1, h2, hz, q⟩ := h
  cases rx
  obtain ⟨t, rfl⟩ := ry
  obtain ⟨z, its, n, r, hl, e⟩ := lst_at I hH
  have hlen : its.toArray.size * k.toNat ≤ sizeLine := by rw [List.size_toArray, ← hl]; exact hz
  have hcap : ¬ its.toArray.size * k.toNat > (2 ^ 63 - 1) / 8 := by
    have : (sizeLine : Nat) ≤ (2 ^ 63 - 1) / 8 := by decide
    omega
  have hfit : ¬ (!Builtin.List.listFitsIndex k) = true := by
    rw [fitsIndex_both h1 h2]
    exact Bool.false_ne_true
  have hlong : ¬ Builtin.List.listTooLong (its.toArray.size * k.toNat) = true := by
    rw [notLongL hlen]
    exact Bool.false_ne_true
  have hnew : List.foldl (fun x1 x2 => x1 ++ x2) #[] (List.replicate (if its.toArray.isEmpty = true then 0 else k.toNat) its.toArray) = (List.replicate k.toNat its).flatten.toArray := by
    have f0 : ∀ m : Nat, List.foldl (fun x1 x2 => x1 ++ x2) #[] (List.replicate m its.toArray) = (List.replicate m its).flatten.toArray := fun m => by
      have := foldl_rep its m []
      rw [List.nil_append] at this
      exact this
    rw [f0]
    cases its with
    | nil => simp
    | cons a r' => rw [if_neg (by simp)]
  refine wpAny_binaryOp_repeat_ref (T := "list") (U := "int") (by decide) ⟨_, e, rfl⟩ (fun s' => typeIs_int s' k t) noFill_list_mul F.fills_int_mul F.slot_int_rmul repeat_list F.slot_int_index.lookup
    (call_meets F.slot_int_rmul (typeIs_int s k t) F.entry_int_rmul (F.args_int_rmul_2 _ _) (int___rmul___int_list k t l its.toArray n)
      ⟨e, rfl, ⟨_, e, rfl⟩, call_meets F.slot_list_mul ⟨_, e, rfl⟩ F.entry_list_mul (F.args_list_mul_2 _ _) (AutoListH.list___mul___list_int_3 l its.toArray n k t hfit hcap hlong) ⟨e, ?_⟩⟩)
  rw [hnew]
  exact ⟨.ref _, _, I.lnew (t' := s.toks) (r.rep k.toNat) (by rw [PyProof.Rows.lm_len_rep_flat, Nat.mul_comm]; exact hz), rfl, q _ I.fresh⟩
def fMul (own : Bool) : F2 := fun dx dy S Q => match dx, dy with
  | .int i, .int j => CMulW i j ∧ Q (.int (i * j)) S
  | dx, .int k => match asL S dx with
    | some xs => xs.length * k.toNat ≤ sizeLine ∧ -(2 ^ 63) ≤ k ∧ k < 2 ^ 63 ∧ mkL own (List.replicate k.toNat xs).flatten S Q
    | _ => False
  | _, _ => False
theorem Rps.rep {xs : List D} {vs : List V} (r : Rps W F xs vs) : ∀ n : Nat, Rps W F (List.replicate n xs).flatten (List.replicate n vs).flatten
  | 0 => .nil
  | n + 1 => by rw [List.replicate_succ, List.replicate_succ, List.flatten_cons, List.flatten_cons]; exact r.app (Rps.rep r n)
def rMulA : R2 := fun x y H Q => rI CMulW (fun i j => .int (i * j)) x y H Q ∨ rRepR x y H Q
theorem op_mulA : OpR X (binaryOp .Mult) rMulA := op_mulW.or op_repR
theorem ok_mul {own : Bool} : R2Ok W rMulA (fMul own) := by
  intro F P S H dx dy x y Qd Q rs rx ry h k
  unfold fMul at h
  split at h
  · cases rx; cases ry
    exact .inl ⟨_, _, rfl, rfl, h.1, k F S H _ _ (Le.refl F) rs (.int _) h.2⟩
  · cases ry
    split at h
    · rename_i xs e
      obtain ⟨h1, h2, h3, h4⟩ := h
      obtain ⟨a, vs, rfl, ha, r1⟩ := asL_ok rs rx e
      exact .inr ⟨a, _, vs, rfl, rfl, ha, h2, h3, by rw [← r1.length]; exact h1, mkL_ok rs (by rw [PyProof.Rows.lm_len_rep_flat, Nat.mul_comm, ← r1.length]; exact h1) (r1.rep _) h4 k⟩
    · exact h.elim
  · exact h.elim

/-! ### is -/
def isNon : D → Bool | .non => true | _ => false
def fIs : F2 := fun dx dy S Q => match dx, dy with
  | d, .non => Q (.bl (isNon d)) S
  | .bl a, .bl b => Q (.bl (decide (a = b))) S
  | _, _ => False
def fIsNot : F2 := fun dx dy S Q => match dx, dy with
  | d, .non => Q (.bl (!isNon d)) S
  | .bl a, .bl b => Q (.bl (!decide (a = b))) S
  | _, _ => False
theorem Rp.isNon {d : D} {v : V} (r : Rp W F d v) : decide (v = .non) = DL.isNon d := by cases r <;> simp [DL.isNon]
def rIsA : R2 := fun x y H Q => (y = .non ∧ Q (.bl (decide (x = .non))) H) ∨ (∃ a b, x = .bl a ∧ y = .bl b ∧ Q (.bl (decide (a = b))) H)
def rIsNotA : R2 := fun x y H Q => (y = .non ∧ Q (.bl (!decide (x = .non))) H) ∨ (∃ a b, x = .bl a ∧ y = .bl b ∧ Q (.bl (!decide (a = b))) H)
theorem op_isA : OpR X (compareOp .Is) rIsA := op_isN.or op_is_bl
theorem op_isNotA : OpR X (compareOp .IsNot) rIsNotA := op_notN.or op_isnot_bl
theorem ok_is : R2Ok W rIsA fIs := by
  intro F P S H dx dy x y Qd Q rs rx ry h k
  unfold fIs at h
  split at h
  · cases ry
    exact .inl ⟨rfl, k F S H _ _ (Le.refl F) rs (by rw [rx.isNon]; exact .bl _) h⟩
  · cases rx; cases ry
    exact .inr ⟨_, _, rfl, rfl, k F S H _ _ (Le.refl F) rs (.bl _) h⟩
  · exact h.elim
theorem ok_isNot : R2Ok W rIsNotA fIsNot := by
  intro F P S H dx dy x y Qd Q rs rx ry h k
  unfold fIsNot at h
  split at h
  · cases ry
    exact .inl ⟨rfl, k F S H _ _ (Le.refl F) rs (by rw [rx.isNon]; exact .bl _) h⟩
  · cases rx; cases ry
    exact .inr ⟨_, _, rfl, rfl, k F S H _ _ (Le.refl F) rs (.bl _) h⟩
  · exact h.elim

/-! ### ==, != -/
mutual
def toPy (S : Store) : D → Option PyData
  | .non => some .none
  | .bl b => some (.bool b)
  | .int i => some (.int i)
  | .str x => some (.str x)
  | .tup xs => (toPys S xs).map .tuple
  | .lst xs => (toPys S xs).map .list
  | _ => none
def toPys (S : Store) : List D → Option (List PyData)
  | [] => some []
  | d :: ds => match toPy S d, toPys S ds with
    | some e, some es => some (e :: es)
    | _, _ => none
end
/-- .. a mutable list at the top -/
def toPyR (S : Store) (d : D) : Option PyData := match d with
  | .ref a => match S a with | some (.lst xs) => (toPys S xs).map .list | _ => none
  | d => toPy S d
mutual
theorem toPy_ok (rs : RS W F P S H) : ∀ {d : D} {v : V} {e : PyData}, Rp W F d v → toPy S d = some e → Dp W.K H v e
  | _, _, _, .non, h => by simp only [toPy] at h; cases h; exact .non
  | _, _, _, .bl b, h => by simp only [toPy] at h; cases h; exact .bl b
  | _, _, _, .int b, h => by simp only [toPy] at h; cases h; exact .int b
  | _, _, _, .str b, h => by simp only [toPy] at h; cases h; exact .str b
  | _, _, _, .tup h1 r, h => by
    simp only [toPy] at h
    obtain ⟨es, e1, rfl⟩ := Option.map_eq_some_iff.mp h
    exact .tup (rs.sub.tupP h1).sqt (toPys_ok rs r e1)
  | _, _, _, .lst h1 r, h => by
    simp only [toPy] at h
    obtain ⟨es, e1, rfl⟩ := Option.map_eq_some_iff.mp h
    exact .lst (.inl (rs.sub.rd h1)) (toPys_ok rs r e1)
  | _, _, _, .dct h1 r, h => by simp only [toPy] at h; cases h
  | _, _, _, .ins h1 c r, h => by simp only [toPy] at h; cases h
  | _, _, _, .ref a, h => by simp only [toPy] at h; cases h
  | _, _, _, .scr h1, h => by simp only [toPy] at h; cases h
theorem toPys_ok (rs : RS W F P S H) : ∀ {ds : List D} {vs : List V} {es : List PyData}, Rps W F ds vs → toPys S ds = some es → DpAll W.K H vs es
  | _, _, _, .nil, h => by simp only [toPys] at h; cases h; exact .nil
  | _, _, _, .cons r t, h => by
    simp only [toPys] at h
    split at h
    · rename_i e es h1 h2
      cases h
      exact .cons (toPy_ok rs r h1) (toPys_ok rs t h2)
    · cases h
end
theorem toPyR_ok (rs : RS W F P S H) {d : D} {v : V} {e : PyData} (r : Rp W F d v) (h : toPyR S d = some e) : Dp W.K H v e := by
  unfold toPyR at h
  split at h
  · cases r
    split at h
    · rename_i xs q
      obtain ⟨_, u, hu, ru⟩ := rs.obj _ _ q
      cases ru with
      | lst r =>
        obtain ⟨es, e1, rfl⟩ := Option.map_eq_some_iff.mp h
        exact .lst (.of hu) (toPys_ok rs r e1)
    · cases h
  · exact toPy_ok rs r h
def fEq : F2 := fun dx dy S Q => ∃ d e, toPyR S dx = some d ∧ toPyR S dy = some e ∧ SeqAt.shaped d = true ∧ SeqAt.shaped e = true ∧ Q (.bl (PyData.eqv d e)) S
def fNe : F2 := fun dx dy S Q => ∃ d e, toPyR S dx = some d ∧ toPyR S dy = some e ∧ SeqAt.shaped d = true ∧ SeqAt.shaped e = true ∧ Q (.bl (!PyData.eqv d e)) S
theorem ok_eq : R2Ok W (rEqD W.K) fEq := by
  rintro F P S H dx dy x y Qd Q rs rx ry ⟨d, e, h1, h2, s1, s2, q⟩ k
  exact ⟨d, e, toPyR_ok rs rx h1, toPyR_ok rs ry h2, s1, s2, k F S H _ _ (Le.refl F) rs (.bl _) q⟩
theorem ok_ne : R2Ok W (rNeD W.K) fNe := by
  rintro F P S H dx dy x y Qd Q rs rx ry ⟨d, e, h1, h2, s1, s2, q⟩ k
  exact ⟨d, e, toPyR_ok rs rx h1, toPyR_ok rs ry h2, s1, s2, k F S H _ _ (Le.refl F) rs (.bl _) q⟩

/-! ### in, not in: dicts by key -/
def keyD : D → Option Key
  | .int i => some (.inl i)
  | .str x => some (.inr x)
  | _ => none
def dget (kvs : List (Key × D)) (k : Key) : Option D := (kvs.find? fun kv => decide (kv.1 = k)).map (·.2)
theorem keyD_ok {d : D} {v : V} {k : Key} (r : Rp W F d v) (h : keyD d = some k) : v = kV k := by
  cases r <;> simp only [keyD] at h <;> cases h <;> rfl
theorem dget_ok {kvs : List (Key × D)} {ws : List (Key × V)} (r : RpK W F kvs ws) (k : Key) : (∀ d, dget kvs k = some d → ∃ v, valV ws k = some v ∧ Rp W F d v) ∧ (dget kvs k = none → valV ws k = none) := by
  induction kvs generalizing ws with
  | nil => cases r; exact ⟨fun d h => by simp [dget] at h, fun _ => rfl⟩
  | cons p kvs ih =>
    cases r with
    | cons h t =>
      rename_i k0 d0 v0 vs
      have ih := ih t
      by_cases e : k0 = k
      · subst e
        refine ⟨fun d q => ?_, fun q => ?_⟩
        · simp [dget, List.find?_cons] at q
          subst q
          exact ⟨v0, valV_pos rfl, h⟩
        · simp [dget, List.find?_cons] at q
      · have e2 : dget ((k0, d0) :: kvs) k = dget kvs k := by simp [dget, List.find?_cons, e]
        rw [e2, valV_neg (by simpa using e)]
        exact ih
theorem dget_some {kvs : List (Key × D)} {ws : List (Key × V)} (r : RpK W F kvs ws) (k : Key) : (valV ws k).isSome = (dget kvs k).isSome := by
  obtain ⟨h1, h2⟩ := dget_ok r k
  cases e : dget kvs k with
  | none => rw [h2 e]; rfl
  | some d => obtain ⟨v, hv, _⟩ := h1 d e; rw [hv]; rfl
def rInD : R2 := fun y x H Q => ∃ a o, x = .ref a ∧ DGet H a y o ∧ Q (.bl o.isSome) H
def rNotInD : R2 := fun y x H Q => ∃ a o, x = .ref a ∧ DGet H a y o ∧ Q (.bl (!o.isSome)) H
theorem op_inD (hu : X.A.units + 1 < cLine) : OpR X (compareOp .In) rInD := by
  intro pins s σ H x y v u Q I rx ry h
  obtain ⟨a, o, rfl, g, q⟩ := h
  cases ry
  exact d_in hu I g rx fun s' I' => ⟨.bl _, H, I', rfl, q⟩
theorem op_notInD (hu : X.A.units + 1 < cLine) : OpR X (compareOp .NotIn) rNotInD := by
  intro pins s σ H x y v u Q I rx ry h
  obtain ⟨a, o, rfl, g, q⟩ := h
  cases ry
  exact d_notIn hu I g rx fun s' I' => ⟨.bl _, H, I', rfl, q⟩
def flatD : D → Bool
  | .int _ => true | .str _ => true | .bl _ => true | .non => true | _ => false
end DL
set_option Elab.async false
set_option linter.all false
set_option maxRecDepth 100000
set_option maxHeartbeats 1000000
/-! DL3: displays, subscripts, slices, built-in functions on data. -/
namespace DL
open PySem L2
variable {W : Wd} {F F' F'' P : Hp} {S S' : Store} {H H' : Hp} {X : Cx}

/-! ### argument lists, displays -/
def dNil : DA := fun _ S Q => Q [] S
def dCons (d : DE) (r : DA) : DA := fun sd S Q => d sd S fun x S1 => r sd S1 fun xs S2 => Q (x :: xs) S2
theorem la_nil : PA X [] (LA W dNil) := pa_nil.mono fun σ H Q ⟨F, P, sd, S, Qd, rs, rl, h, k⟩ => k F S H _ _ (Le.refl F) rs .nil h
theorem la_cons {e : Expr} {es : List Expr} {d : DE} {r : DA} (ha : PE X e (LE W d)) (hr : PA X es (LA W r)) (hs : starEach (e :: es) X.env = (false, eval e X.env) :: starEach es X.env) : PA X (e :: es) (LA W (dCons d r)) :=
  (pa_cons ha hr hs).mono fun σ H Q ⟨F, P, sd, S, Qd, rs, rl, h, k⟩ =>
    ⟨F, P, sd, S, _, rs, rl, h, fun F1 S1 H1 dx x l1 rs1 rx q1 => ⟨F1, P, sd, S1, _, rs1, rl.mono l1, q1, fun F2 S2 H2 ds vs l2 rs2 rr q2 => k F2 S2 H2 _ _ (l1.trans l2) rs2 (.cons (rx.mono l2) rr) q2⟩⟩
def dTup (r : DA) : DE := fun sd S Q => r sd S fun xs S1 => xs.length ≤ sizeLine ∧ Q (.tup xs) S1
def dLst (own : Bool) (r : DA) : DE := fun sd S Q => r sd S fun xs S1 => xs.length ≤ sizeLine ∧ mkL own xs S1 Q
theorem pe_tupP {es : List Expr} {x1} {pos : Pos} {t : TA} (h : PA X es t) : PE X (.Tuple es x1 pos) (fun σ H Q => t σ H fun xs H1 => xs.length ≤ sizeLine ∧ NewT Q H1 xs) := by
  refine ⟨fun pins s σ H Q I hq => ?_⟩
  refine wpAny_Tuple_spliced (thn (h.run pos pins s σ H _ I hq) fun us s1 ⟨xs, H1, I1, r, z, q⟩ => ⟨by rw [← r.length]; exact z, ?_⟩)
  exact tup_new (t' := s1.toks) I1 r z q
theorem le_tup {es : List Expr} {x1} {pos : Pos} {r : DA} (h : PA X es (LA W r)) : PE X (.Tuple es x1 pos) (LE W (dTup r)) :=
  (pe_tupP h).mono fun σ H Q ⟨F, P, sd, S, Qd, rs, rl, h, k⟩ => ⟨F, P, sd, S, _, rs, rl, h, fun F1 S1 H1 ds vs l1 rs1 rr q => ⟨by rw [← rr.length]; exact q.1, mkT_ok rs1 (by rw [← rr.length]; exact q.1) rr q.2 (k.le l1)⟩⟩
theorem le_lst {es : List Expr} {pos : Pos} {r : DA} {own : Bool} (h : PA X es (LA W r)) : PE X (.List es pos) (LE W (dLst own r)) :=
  (pe_lst h).mono fun σ H Q ⟨F, P, sd, S, Qd, rs, rl, h, k⟩ => ⟨F, P, sd, S, _, rs, rl, h, fun F1 S1 H1 ds vs l1 rs1 rr q => ⟨by rw [← rr.length]; exact q.1, mkL_ok rs1 (by rw [← rr.length]; exact q.1) rr q.2 (k.le l1)⟩⟩

/-! ### subscripts -/
def rIxD : R2 := fun x y H Q => ∃ a v, x = .ref a ∧ DGet H a y (some v) ∧ Q v H
theorem ix_dict (hu : X.A.units + 1 < cLine) : IxR X rIxD := by
  intro value slice pins s σ H x y v u Q I rx ry h hs
  obtain ⟨a, w, rfl, g, q⟩ := h
  cases rx
  exact PyProof.Rows.tail_any (dict_typeIs I g) PySem.F.slot_dict_getitem.lookup (d_getItem hu I g ry fun w' s' I' r => ⟨w, H, I', r, q⟩) hs
def fIx : F2 := fun dx dy S Q => match dx, dy with
  | .scr ns, .int i => match atI ns i with | some n => Q (.int n) S | none => False
  | .tup xs, .int i => match atI xs i with | some d => Q d S | none => False
  | .str z, .int i => match atI z.cps.toList i with | some c => z.length ≤ sizeLine ∧ Q (.str ⟨#[c]⟩) S | none => False
  | dx, dy => match asL S dx, dy with
    | some xs, .int i => match atI xs i with | some d => Q d S | none => False
    | _, _ => match asD S dx, keyD dy with
      | some kvs, some k => match dget kvs k with | some d => Q d S | none => False
      | _, _ => False
def rIxA (K : PySem.W.Frag) : R2 := fun x y H Q => rIx K x y H Q ∨ rIxD x y H Q
theorem ix_all (hu : X.A.units + 1 < cLine) : IxR X (rIxA X.K) := ix_seq.or (ix_dict hu)
theorem atI_rp {xs : List D} {vs : List V} {i : Int} {d : D} (r : Rps W F xs vs) (h : atI xs i = some d) : ∃ v, atI vs i = some v ∧ Rp W F d v := by
  unfold atI at h ⊢
  rw [← r.length]
  cases e : ixN xs.length i with
  | none => rw [e] at h; cases h
  | some j =>
    rw [e] at h
    exact r.get h
theorem DGet.rd {a : Addr} {kvs : List (Key × V)} {k : Key} (e : Rd H a (.dK kvs)) : DGet H a (kV k) (valV kvs k) := .inl ⟨kvs, k, e, rfl, rfl⟩
theorem atI_mapV {ns : List Int} {i : Int} : atI (ns.map V.int) i = (atI ns i).map V.int := by
  unfold atI
  rw [List.length_map]
  cases ixN ns.length i with
  | none => rfl
  | some j => exact List.getElem?_map
theorem ok_ix : R2Ok W (rIxA W.K) fIx := by
  intro F P S H dx dy x y Qd Q rs rx ry h k
  have fin : ∀ {d : D} {v : V}, Rp W F d v → Qd d S → Q v H := fun r q => k F S H _ _ (Le.refl F) rs r q
  unfold fIx at h
  split at h
  · split at h
    · rename_i ns i n e
      cases rx with
      | @scr _ a h1 =>
        cases ry
        refine .inl (.inl ⟨_, _, _, .int n, rfl, rfl, rs.sub.sql h1, ?_, fin (.int _) h⟩)
        rw [atI_mapV, e]; rfl
    · exact h.elim
  · split at h
    · rename_i xs i d e
      cases rx with
      | tup h1 r1 =>
        cases ry
        obtain ⟨v, ev, rv⟩ := atI_rp r1 e
        exact .inl (.inr (.inl ⟨_, _, _, v, rfl, rfl, (rs.sub.tupP h1).sqt, ev, fin rv h⟩))
    · exact h.elim
  · split at h
    · cases rx; cases ry
      rename_i c e
      exact .inl (.inr (.inr ⟨_, _, c, rfl, rfl, h.1, e, fin (.str _) h.2⟩))
    · exact h.elim
  · split at h
    · rename_i xs i e1 _ _ _
      split at h
      · rename_i d e
        cases ry
        obtain ⟨a, vs, rfl, h1, r1⟩ := asL_ok rs rx e1
        obtain ⟨v, ev, rv⟩ := atI_rp r1 e
        exact .inl (.inl ⟨_, _, _, v, rfl, rfl, .inl h1, ev, fin rv h⟩)
      · exact h.elim
    · split at h
      · rename_i kvs kk e1 e2
        obtain ⟨a, vs, rfl, h1, r1⟩ := asD_ok rs rx e1
        cases keyD_ok ry e2
        split at h
        · rename_i d ed
          obtain ⟨v, hv, rv⟩ := (dget_ok r1 kk).1 d ed
          exact .inr ⟨a, v, rfl, by rw [← hv]; exact DGet.rd h1, fin rv h⟩
        · exact h.elim
      · exact h.elim
theorem le_ix {a b : Expr} {pos : Pos} {da db : DE} (hu : X.A.units + 1 < cLine) (hK : X.K = W.K) (ha : PE X a (LE W da)) (hb : PE X b (LE W db)) (hs : PlainIx b) : PE X (.Subscript a b pos) (LE W (dOp fIx da db)) := by
  have h := pe_ix (ix_all hu) ha hb hs (pos := pos)
  rw [hK] at h
  exact h.mono (lift2 ok_ix)

/-! ### slices -/
abbrev DO := Slots → Store → (Option Int → Store → Prop) → Prop
def dNoPart : DO := fun _ S Q => Q none S
def dPart (d : DE) : DO := fun sd S Q => d sd S fun x S1 => match x with | .int i => Q (some i) S1 | _ => False
def LO (W : Wd) (d : DO) : TO := fun σ H Q => ∃ F P sd S Qd, RS W F P S H ∧ RSl W F sd σ ∧ d sd S Qd ∧ ∀ F' S' H' o, Le F F' → RS W F' P S' H' → Qd o S' → Q o H'
theorem PO.mono {e : Option Expr} {t t' : TO} (h : PO X e t) (m : ∀ σ H Q, t' σ H Q → t σ H Q) : PO X e t' := ⟨fun pins s σ H Q I q => h.run pins s σ H Q I (m σ H Q q)⟩
theorem lo_none : PO X none (LO W dNoPart) := PO.mono po_none fun σ H Q ⟨F, P, sd, S, Qd, rs, rl, h, k⟩ => k F S H none (Le.refl F) rs h
theorem lo_some {e : Expr} {d : DE} (h : PE X e (LE W d)) : PO X (some e) (LO W (dPart d)) := PO.mono (po_some h) fun σ H Q ⟨F, P, sd, S, Qd, rs, rl, h, k⟩ =>
  ⟨F, P, sd, S, _, rs, rl, h, fun F1 S1 H1 dx x l1 rs1 rx q => by
    split at q
    · cases rx; exact ⟨_, rfl, k F1 S1 H1 _ l1 rs1 q⟩
    · exact q.elim⟩
def cutD (xs : List D) (lo hi : Option Int) : List D := (xs.drop (HT.sIx xs.length 0 lo)).take (HT.sIx xs.length xs.length hi - HT.sIx xs.length 0 lo)
theorem cut_rp {xs : List D} {vs : List V} (r : Rps W F xs vs) (lo hi : Option Int) : Rps W F (cutD xs lo hi) (cutV vs lo hi) := by
  unfold cutD cutV
  rw [← r.length]
  exact (r.drop _).take _
abbrev F3 := D → Option Int → Option Int → Store → DQ → Prop
def fCut (own : Bool) : F3 := fun dx lo hi S Q => match dx with
  | .scr ns => mkL own (cutD (ns.map D.int) lo hi) S Q
  | .tup xs => Q (.tup (cutD xs lo hi)) S
  | dx => match asL S dx with
    | some xs => mkL own (cutD xs lo hi) S Q
    | none => False
def rSlP (K : PySem.W.Frag) : V → Option Int → Option Int → Hp → VK → Prop := fun x lo hi H Q => ∃ a xs, x = .ref a ∧ SqT K H a xs ∧
  (HT.sIx xs.length 0 lo = 0 ∧ HT.sIx xs.length xs.length hi = xs.length → Q (.ref a) H) ∧ (¬ (HT.sIx xs.length 0 lo = 0 ∧ HT.sIx xs.length xs.length hi = xs.length) → NewT Q H (cutV xs lo hi))
theorem sl_tupP : SlR X (rSlP X.K) := by
  intro pins s σ H x v vl vu lo hi sl Q I rx hs pl pu h
  obtain ⟨a, xs, rfl, hx, q1, q2⟩ := h
  cases rx
  obtain ⟨its, r, ht, hz⟩ := I.tuple hx
  have hlen : its.toArray.size = xs.length := by rw [List.size_toArray]; exact r.length.symm
  refine ⟨"tuple", _, PyProof.Rows.slot_tuple_getitem.lookup, ht.typeIs, ?_⟩
  by_cases hw : HT.sIx xs.length 0 lo = 0 ∧ HT.sIx xs.length xs.length hi = xs.length
  · exact getItem_tuple_whole ht hs pl pu (by rw [hlen]; exact hw) ⟨.ref a, H, I, rfl, q1 hw⟩
  · refine HT.getItem_tuple_cut ht hs pl pu (by rw [hlen]; exact hw) ?_ (by rw [hlen]; exact hz)
    rw [hlen]
    exact tup_new (t' := s.toks) I ((r.drop (HT.sIx xs.length 0 lo)).take (HT.sIx xs.length xs.length hi - HT.sIx xs.length 0 lo)) (Nat.le_trans (cutV_length xs lo hi) hz) (q2 hw)
theorem cut_whole {xs : List D} {lo hi : Option Int} (h : HT.sIx xs.length 0 lo = 0 ∧ HT.sIx xs.length xs.length hi = xs.length) : cutD xs lo hi = xs := by
  unfold cutD; rw [h.1, h.2]; simp
def dCut (own : Bool) (d : DE) (lo hi : DO) : DE := fun sd S Q => d sd S fun x S1 => lo sd S1 fun l S2 => hi sd S2 fun u S3 => fCut own x l u S3 Q
theorem sql_sz {a : Addr} {vs : List V} {K : PySem.W.Frag} (rs : RS W F P S H) (h : SqL K H a vs) : vs.length ≤ sizeLine := by
  rcases h with h | ⟨o, its, n, _, _, _, _, z, rv⟩
  · exact szRd rs.sz h
  · have e2 := rv.length
    simp only [Array.length_toList] at e2
    omega
theorem rps_ints (ns : List Int) : Rps W F (ns.map D.int) (ns.map V.int) := by
  induction ns with
  | nil => exact .nil
  | cons n r ih => exact .cons (.int n) ih
theorem le_cut {a : Expr} {lo hi : Option Expr} {pos p2 : Pos} {d : DE} {dl dh : DO} {own : Bool} (hK : X.K = W.K) (ha : PE X a (LE W d)) (hl : PO X lo (LO W dl)) (hh : PO X hi (LO W dh)) : PE X (.Subscript a (.Slice lo hi none p2) pos) (LE W (dCut own d dl dh)) := by
  have h := pe_slice (pos := pos) (p2 := p2) (sl_list.or sl_tupP) ha hl hh
  rw [hK] at h
  refine h.mono fun σ H Q ⟨F, P, sd, S, Qd, rs, rl, h, k⟩ => ?_
  refine ⟨F, P, sd, S, _, rs, rl, h, fun F1 S1 H1 dx x l1 rs1 rx q1 => ⟨F1, P, sd, S1, _, rs1, rl.mono l1, q1, fun F2 S2 H2 lo l2 rs2 q2 => ⟨F2, P, sd, S2, _, rs2, (rl.mono l1).mono l2, q2, fun F3 S3 H3 hi l3 rs3 q3 => ?_⟩⟩⟩
  have rx3 := (rx.mono l2).mono l3
  have k3 := ((k.le l1).le l2).le l3
  unfold fCut at q3
  split at q3
  · rename_i ns
    cases rx3 with
    | @scr _ a h1 =>
      have z : (ns.map V.int).length ≤ sizeLine := sql_sz rs3 (rs3.sub.sql h1)
      exact .inl ⟨a, _, rfl, rs3.sub.sql h1, mkL_ok rs3 (Nat.le_trans (cutV_length _ lo hi) z) (cut_rp (rps_ints ns) lo hi) q3 k3⟩
  · have rx0 := rx3
    cases rx3 with
    | tup h1 r1 =>
      rename_i xs vs a
      have e := r1.length
      refine .inr ⟨a, vs, rfl, (rs3.sub.tupP h1).sqt, fun w => ?_, fun w => ?_⟩
      · rw [cut_whole (by rw [e]; exact w)] at q3
        exact k3 F3 S3 H3 _ _ (Le.refl F3) rs3 rx0 q3
      · have z : vs.length ≤ sizeLine := by
          rcases rs3.sub.tupP h1 with ⟨o, h, _⟩ | ⟨o, its, n, _, _, _, _, z, rv⟩
          · exact rs3.sz _ _ h
          · have e2 := rv.length
            simp only [Array.length_toList] at e2
            omega
        exact mkT_ok rs3 (Nat.le_trans (cutV_length vs lo hi) z) (cut_rp r1 lo hi) q3 k3
  · split at q3
    · rename_i xs e
      obtain ⟨a, vs, rfl, h1, r1⟩ := asL_ok rs3 rx3 e
      exact .inl ⟨a, vs, rfl, .inl h1, mkL_ok rs3 (Nat.le_trans (cutV_length vs lo hi) (szRd rs3.sz h1)) (cut_rp r1 lo hi) q3 k3⟩
    · exact q3.elim

/-! ### calls by values -/
abbrev FA := List D → Store → DQ → Prop
def RAOk (W : Wd) (r : List V → Hp → VK → Prop) (f : FA) : Prop := ∀ F P S H ds vs Qd Q, RS W F P S H → Rps W F ds vs → f ds S Qd → Kont W F P Qd Q → r vs H Q
def dCall (f : FA) (a : DA) : DE := fun sd S Q => a sd S fun xs S1 => f xs S1 Q
theorem liftA {r : List V → Hp → VK → Prop} {f : FA} {a : DA} (hr : RAOk W r f) : ∀ σ H Q, LE W (dCall f a) σ H Q → tCB r (LA W a) σ H Q := by
  rintro σ H Q ⟨F, P, sd, S, Qd, rs, rl, h, k⟩
  exact ⟨F, P, sd, S, _, rs, rl, h, fun F1 S1 H1 ds vs l1 rs1 rr q => hr F1 P S1 H1 ds vs Qd Q rs1 rr q (k.le l1)⟩

def asInts : List D → Option (List Int)
  | [] => some []
  | .int i :: r => (asInts r).map (i :: ·)
  | _ :: _ => none
def asBls : List D → Option (List Bool)
  | [] => some []
  | .bl i :: r => (asBls r).map (i :: ·)
  | _ :: _ => none
def asStrs : List D → Option (List Str)
  | [] => some []
  | .str i :: r => (asStrs r).map (i :: ·)
  | _ :: _ => none
theorem asInts_eq : ∀ {xs : List D} {ns : List Int}, asInts xs = some ns → xs = ns.map D.int
  | [], ns, h => by simp only [asInts] at h; cases h; rfl
  | .int i :: r, ns, h => by
    simp only [asInts] at h
    obtain ⟨m, e, rfl⟩ := Option.map_eq_some_iff.mp h
    rw [asInts_eq e]; rfl
  | .non :: _, _, h | .bl _ :: _, _, h | .str _ :: _, _, h | .tup _ :: _, _, h | .lst _ :: _, _, h | .dct _ :: _, _, h | .ins _ _ :: _, _, h | .ref _ :: _, _, h => by simp only [asInts] at h; cases h
theorem asBls_eq : ∀ {xs : List D} {ns : List Bool}, asBls xs = some ns → xs = ns.map D.bl
  | [], ns, h => by simp only [asBls] at h; cases h; rfl
  | .bl i :: r, ns, h => by
    simp only [asBls] at h
    obtain ⟨m, e, rfl⟩ := Option.map_eq_some_iff.mp h
    rw [asBls_eq e]; rfl
  | .non :: _, _, h | .int _ :: _, _, h | .str _ :: _, _, h | .tup _ :: _, _, h | .lst _ :: _, _, h | .dct _ :: _, _, h | .ins _ _ :: _, _, h | .ref _ :: _, _, h => by simp only [asBls] at h; cases h
theorem asStrs_eq : ∀ {xs : List D} {ns : List Str}, asStrs xs = some ns → xs = ns.map D.str
  | [], ns, h => by simp only [asStrs] at h; cases h; rfl
  | .str i :: r, ns, h => by
    simp only [asStrs] at h
    obtain ⟨m, e, rfl⟩ := Option.map_eq_some_iff.mp h
    rw [asStrs_eq e]; rfl
  | .non :: _, _, h | .int _ :: _, _, h | .bl _ :: _, _, h | .tup _ :: _, _, h | .lst _ :: _, _, h | .dct _ :: _, _, h | .ins _ _ :: _, _, h | .ref _ :: _, _, h => by simp only [asStrs] at h; cases h
theorem asInts_map : ∀ ns : List Int, asInts (ns.map D.int) = some ns
  | [] => rfl
  | n :: ns => by rw [List.map_cons]; simp only [asInts, asInts_map ns]; rfl
theorem asBls_map : ∀ ns : List Bool, asBls (ns.map D.bl) = some ns
  | [] => rfl
  | n :: ns => by rw [List.map_cons]; simp only [asBls, asBls_map ns]; rfl
theorem asStrs_map : ∀ ns : List Str, asStrs (ns.map D.str) = some ns
  | [] => rfl
  | n :: ns => by rw [List.map_cons]; simp only [asStrs, asStrs_map ns]; rfl

theorem CallR.mono {f : Value} {r r' : List V → Hp → VK → Prop} (h : CallR X f r) (m : ∀ xs H Q, r' xs H Q → r xs H Q) : CallR X f r' := fun pins s σ H xs us Q I rr q => h pins s σ H xs us Q I rr (m xs H Q q)
/-- the built-in functions -/
inductive Blt where
  | len | abs | int | sum | all | any | sorted | tuple | list | dict | max | min
  deriving DecidableEq

/-- len -/
def fLen : FA := fun ds S Q => match ds with
  | [.scr ns] => Q (.int ns.length) S
  | [.str z] => z.length ≤ sizeLine ∧ Q (.int z.length) S
  | [.tup xs] => Q (.int xs.length) S
  | [d] => match asL S d with
    | some xs => Q (.int xs.length) S
    | none => match asD S d with
      | some kvs => Q (.int kvs.length) S
      | none => False
  | _ => False
def rLenA (K : PySem.W.Frag) : List V → Hp → VK → Prop := fun xs H Q => (∃ p ys, xs = [.ref p] ∧ (SqL K H p ys ∨ SqT K H p ys) ∧ Q (.int ys.length) H) ∨ (∃ z, xs = [.str z] ∧ z.length ≤ sizeLine ∧ Q (.int z.length) H) ∨ (∃ a kvs, xs = [V.ref a] ∧ Rd H a (.dK kvs) ∧ Q (.int kvs.length) H)
theorem cr_lenD : CallR X (.builtin "len") (fun xs H Q => ∃ a kvs, xs = [V.ref a] ∧ Rd H a (.dK kvs) ∧ Q (.int kvs.length) H) := by
  intro pins s σ H xs us Q I r h
  obtain ⟨a, kvs, rfl, ha, q⟩ := h
  obtain ⟨u, rfl, ru⟩ := vals1 r
  cases ru
  exact d_len I ha fun t s' I' => ⟨.int kvs.length, H, I', ⟨t, rfl⟩, q⟩
theorem cr_len : CallR X (.builtin "len") (rLenA X.K) := CallR.or call_len_seq (CallR.or call_len_str cr_lenD)
theorem RpK.length : ∀ {ds : List (Key × D)} {vs : List (Key × V)}, RpK W F ds vs → ds.length = vs.length
  | _, _, .nil => rfl
  | _, _, .cons _ t => by rw [List.length_cons, List.length_cons, RpK.length t]
theorem ok_len : RAOk W (rLenA W.K) fLen := by
  intro F P S H ds vs Qd Q rs rr h k
  have fin : ∀ {d : D} {v : V}, Rp W F d v → Qd d S → Q v H := fun r q => k F S H _ _ (Le.refl F) rs r q
  unfold fLen at h
  split at h
  · cases rr with
    | cons r t =>
      cases t
      cases r with
      | scr h1 => exact .inl ⟨_, _, rfl, .inl (rs.sub.sql h1), by rw [List.length_map]; exact fin (.int _) h⟩
  · cases rr with
    | cons r t => cases t; cases r; exact .inr (.inl ⟨_, rfl, h.1, fin (.int _) h.2⟩)
  · cases rr with
    | cons r t =>
      cases t
      cases r with
      | tup h1 r1 => exact .inl ⟨_, _, rfl, .inr (rs.sub.tupP h1).sqt, by rw [← r1.length]; exact fin (.int _) h⟩
  · cases rr with
    | cons r t =>
      cases t
      split at h
      · rename_i e
        obtain ⟨a, vs, rfl, h1, r1⟩ := asL_ok rs r e
        exact .inl ⟨_, _, rfl, .inl (.inl h1), by rw [← r1.length]; exact fin (.int _) h⟩
      · split at h
        · rename_i e
          obtain ⟨a, vs, rfl, h1, r1⟩ := asD_ok rs r e
          exact .inr (.inr ⟨_, _, rfl, h1, by rw [← r1.length]; exact fin (.int _) h⟩)
        · exact h.elim
  · exact h.elim
/-- abs, int, max, min -/
def fAbs : FA := fun ds S Q => match ds with | [.int i] => Q (.int (if i < 0 then -i else i)) S | _ => False
def fInt1 : FA := fun ds S Q => match ds with | [.int i] => Q (.int i) S | [.bl k] => Q (.int (if k then 1 else 0)) S | _ => False
def fMax : FA := fun ds S Q => match ds with | [.int i, .int j] => Q (.int (if j > i then j else i)) S | _ => False
def fMin : FA := fun ds S Q => match ds with | [.int i, .int j] => Q (.int (if j < i then j else i)) S | _ => False
theorem ok_abs : RAOk W (fun xs H Q => ∃ i, xs = [.int i] ∧ Q (.int (if i < 0 then -i else i)) H) fAbs := by
  intro F P S H ds vs Qd Q rs rr h k
  unfold fAbs at h
  split at h
  · cases rr with
    | cons r t => cases t; cases r; exact ⟨_, rfl, k F S H _ _ (Le.refl F) rs (.int _) h⟩
  · exact h.elim
theorem ok_int1 : RAOk W (fun xs H Q => (∃ i, xs = [.int i] ∧ Q (.int i) H) ∨ ∃ k, xs = [.bl k] ∧ Q (.int (if k then 1 else 0)) H) fInt1 := by
  intro F P S H ds vs Qd Q rs rr h k
  unfold fInt1 at h
  split at h
  · cases rr with
    | cons r t => cases t; cases r; exact .inl ⟨_, rfl, k F S H _ _ (Le.refl F) rs (.int _) h⟩
  · cases rr with
    | cons r t => cases t; cases r; exact .inr ⟨_, rfl, k F S H _ _ (Le.refl F) rs (.int _) h⟩
  · exact h.elim
theorem ok_max : RAOk W (fun xs H Q => ∃ i j, xs = [.int i, .int j] ∧ Q (.int (if j > i then j else i)) H) fMax := by
  intro F P S H ds vs Qd Q rs rr h k
  unfold fMax at h
  split at h
  · cases rr with
    | cons r t => cases t with
      | cons r2 t => cases t; cases r; cases r2; exact ⟨_, _, rfl, k F S H _ _ (Le.refl F) rs (.int _) h⟩
  · exact h.elim
theorem ok_min : RAOk W (fun xs H Q => ∃ i j, xs = [.int i, .int j] ∧ Q (.int (if j < i then j else i)) H) fMin := by
  intro F P S H ds vs Qd Q rs rr h k
  unfold fMin at h
  split at h
  · cases rr with
    | cons r t => cases t with
      | cons r2 t => cases t; cases r; cases r2; exact ⟨_, _, rfl, k F S H _ _ (Le.refl F) rs (.int _) h⟩
  · exact h.elim
/-- sum, all, any -/
def fL1 {α : Type} (g : List D → Option α) (f : α → D) : FA := fun ds S Q => match ds with
  | [d] => match asL S d with
    | some xs => match g xs with | some a => Q (f a) S | none => False
    | none => False
  | _ => False
theorem ok_sum : RAOk W (rSum W.K) (fL1 asInts fun ns => .int ns.sum) := by
  intro F P S H ds vs Qd Q rs rr h k
  unfold fL1 at h
  split at h
  · cases rr with
    | cons r t =>
      cases t
      split at h
      · rename_i xs e
        split at h
        · rename_i ns e2
          obtain ⟨a, vs, rfl, h1, r1⟩ := asL_ok rs r e
          rw [asInts_eq e2] at r1
          cases r1.ints
          exact ⟨a, ns, rfl, .inl h1, k F S H _ _ (Le.refl F) rs (.int _) h⟩
        · exact h.elim
      · exact h.elim
  · exact h.elim
theorem ok_all : RAOk W (rAll W.K) (fL1 asBls fun ns => .bl (ns.all id)) := by
  intro F P S H ds vs Qd Q rs rr h k
  unfold fL1 at h
  split at h
  · cases rr with
    | cons r t =>
      cases t
      split at h
      · rename_i xs e
        split at h
        · rename_i ns e2
          obtain ⟨a, vs, rfl, h1, r1⟩ := asL_ok rs r e
          rw [asBls_eq e2] at r1
          cases r1.bls
          exact ⟨a, ns, rfl, .inl h1, k F S H _ _ (Le.refl F) rs (.bl _) h⟩
        · exact h.elim
      · exact h.elim
  · exact h.elim
theorem ok_any : RAOk W (rAny W.K) (fL1 asBls fun ns => .bl (ns.any id)) := by
  intro F P S H ds vs Qd Q rs rr h k
  unfold fL1 at h
  split at h
  · cases rr with
    | cons r t =>
      cases t
      split at h
      · rename_i xs e
        split at h
        · rename_i ns e2
          obtain ⟨a, vs, rfl, h1, r1⟩ := asL_ok rs r e
          rw [asBls_eq e2] at r1
          cases r1.bls
          exact ⟨a, ns, rfl, .inl h1, k F S H _ _ (Le.refl F) rs (.bl _) h⟩
        · exact h.elim
      · exact h.elim
  · exact h.elim
/-- tuple, list -/
theorem cr_tupleP : CallR X (.type "tuple") (fun xs H Q => ∃ p ys, xs = [.ref p] ∧ ((SqL X.K H p ys ∧ NewT Q H ys) ∨ (SqT X.K H p ys ∧ Q (.ref p) H))) := by
  intro pins s σ H xs us Q I r h
  obtain ⟨p, ys, rfl, h⟩ := h
  obtain ⟨u, rfl, rx⟩ := vals1 r
  cases rx
  rcases h with ⟨hq, q⟩ | ⟨hq, q⟩
  · obtain ⟨its, r', pl, hz⟩ := I.list hq
    have hlen := r'.length
    refine call_tuple_list pl.isList (fun h' kp => ?_) (by simp only [List.size_toArray] <;> omega)
    have I1 : Inv X pins σ H { s with heap := h' } := I.kept (t' := s.toks) kp
    exact tup_new (t' := s.toks) I1 r' hz q
  · obtain ⟨its, r', pl, hz⟩ := I.tuple hq
    exact call_tuple_same pl ⟨.ref p, H, I, rfl, q⟩
def fTuple : FA := fun ds S Q => match ds with
  | [.tup xs] => Q (.tup xs) S
  | [d] => match asL S d with
    | some xs => Q (.tup xs) S
    | none => False
  | _ => False
theorem ok_tuple : RAOk W (fun xs H Q => ∃ p ys, xs = [.ref p] ∧ ((SqL W.K H p ys ∧ NewT Q H ys) ∨ (SqT W.K H p ys ∧ Q (.ref p) H))) fTuple := by
  intro F P S H ds vs Qd Q rs rr h k
  unfold fTuple at h
  split at h
  · cases rr with
    | cons r t =>
      cases t
      have r0 := r
      cases r with
      | tup h1 r1 => exact ⟨_, _, rfl, .inr ⟨(rs.sub.tupP h1).sqt, k F S H _ _ (Le.refl F) rs r0 h⟩⟩
  · cases rr with
    | cons r t =>
      cases t
      split at h
      · rename_i e
        obtain ⟨a, vs, rfl, h1, r1⟩ := asL_ok rs r e
        exact ⟨_, _, rfl, .inl ⟨.inl h1, mkT_ok rs (szRd rs.sz h1) r1 h k⟩⟩
      · exact h.elim
  · exact h.elim
def fList (own : Bool) : FA := fun ds S Q => match ds with
  | [.tup xs] => mkL own xs S Q
  | [d] => match asL S d with
    | some xs => mkL own xs S Q
    | none => False
  | _ => False
theorem tup_sz {xs : List D} {vs : List V} {a : Addr} (rs : RS W F P S H) (h1 : TupP W.K F a vs) : vs.length ≤ sizeLine := by
  rcases rs.sub.tupP h1 with ⟨o, h, _⟩ | ⟨o, its, n, _, _, _, _, z, rv⟩
  · exact rs.sz _ _ h
  · have e2 := rv.length
    simp only [Array.length_toList] at e2
    omega
theorem ok_list {own : Bool} : RAOk W (fun xs H Q => ∃ p ys, xs = [.ref p] ∧ (SqL W.K H p ys ∨ SqT W.K H p ys) ∧ ∀ l, H l = none → Q (.ref l) (upd H l (.lst ys))) (fList own) := by
  intro F P S H ds vs Qd Q rs rr h k
  unfold fList at h
  split at h
  · cases rr with
    | cons r t =>
      cases t
      cases r with
      | tup h1 r1 => exact ⟨_, _, rfl, .inr (rs.sub.tupP h1).sqt, mkL_ok rs (tup_sz (xs := []) rs h1) r1 h k⟩
  · cases rr with
    | cons r t =>
      cases t
      split at h
      · rename_i e
        obtain ⟨a, vs, rfl, h1, r1⟩ := asL_ok rs r e
        exact ⟨_, _, rfl, .inl (.inl h1), mkL_ok rs (szRd rs.sz h1) r1 h k⟩
      · exact h.elim
  · exact h.elim
end DL
set_option Elab.async false
set_option linter.all false
set_option maxRecDepth 100000
set_option maxHeartbeats 1000000
/-! DL4: sorted, dicts, isinstance, methods on data. -/
namespace DL
open PySem L2
variable {W : Wd} {F F' F'' P : Hp} {S S' : Store} {H H' : Hp} {X : Cx}

/-! ### sorting ints -/
def insI (a : Int) : List Int → List Int
  | [] => [a]
  | b :: r => if a ≤ b then a :: b :: r else b :: insI a r
def isort : List Int → List Int
  | [] => []
  | a :: r => insI a (isort r)
theorem insI_perm (a : Int) : ∀ l, (insI a l).Perm (a :: l)
  | [] => .refl _
  | b :: r => by
    unfold insI
    split
    · exact .refl _
    · exact ((insI_perm a r).cons b).trans (List.Perm.swap a b r)
theorem isort_perm : ∀ l, (isort l).Perm l
  | [] => .refl _
  | a :: r => (insI_perm a (isort r)).trans ((isort_perm r).cons a)
theorem insI_sorted (a : Int) : ∀ {l : List Int}, l.Pairwise (· ≤ ·) → (insI a l).Pairwise (· ≤ ·)
  | [], _ => List.pairwise_singleton _ _
  | b :: r, h => by
    unfold insI
    have h0 := List.pairwise_cons.mp h
    split
    · rename_i hab
      exact List.pairwise_cons.mpr ⟨fun x hx => by
        rcases List.mem_cons.mp hx with rfl | hx
        · exact hab
        · exact Int.le_trans hab (h0.1 x hx), h⟩
    · rename_i hab
      refine List.pairwise_cons.mpr ⟨fun x hx => ?_, insI_sorted a h0.2⟩
      have := (insI_perm a r).mem_iff.mp hx
      rcases List.mem_cons.mp this with rfl | hx
      · omega
      · exact h0.1 x hx
theorem isort_sorted : ∀ l, (isort l).Pairwise (· ≤ ·)
  | [] => .nil
  | a :: r => insI_sorted a (isort_sorted r)
theorem sorted_uniq : ∀ {a b : List Int}, a.Pairwise (· ≤ ·) → b.Pairwise (· ≤ ·) → a.Perm b → a = b
  | [], b, _, _, p => p.nil_eq
  | x :: a, [], _, _, p => absurd p.length_eq (by simp)
  | x :: a, y :: b, ha, hb, p => by
    have h1 := List.pairwise_cons.mp ha
    have h2 := List.pairwise_cons.mp hb
    have e : x = y := by
      have m1 : x ∈ y :: b := p.mem_iff.mp List.mem_cons_self
      have m2 : y ∈ x :: a := p.mem_iff.mpr List.mem_cons_self
      rcases List.mem_cons.mp m1 with e | m1
      · exact e
      · rcases List.mem_cons.mp m2 with e | m2
        · exact e.symm
        · exact Int.le_antisymm (h1.1 _ m2) (h2.1 _ m1)
    subst e
    rw [sorted_uniq h1.2 h2.2 ((List.perm_cons x).mp p)]
theorem sorted_is {ns ys : List Int} (p : ys.Perm ns) (s : ys.Pairwise (· ≤ ·)) : ys = isort ns := sorted_uniq s (isort_sorted ns) (p.trans (isort_perm ns).symm)
/-- the keys, all ints -/
def intKeys : List (Key × D) → Option (List Int)
  | [] => some []
  | (.inl i, _) :: r => (intKeys r).map (i :: ·)
  | (.inr _, _) :: _ => none
theorem intKeys_ok : ∀ {kvs : List (Key × D)} {ws : List (Key × V)} {ks : List Int}, RpK W F kvs ws → intKeys kvs = some ks → ws.map (·.1) = ks.map Sum.inl
  | _, _, _, .nil, h => by simp only [intKeys] at h; cases h; rfl
  | _, _, _, .cons (k := .inl i) r t, h => by
    simp only [intKeys] at h
    obtain ⟨m, e, rfl⟩ := Option.map_eq_some_iff.mp h
    rw [List.map_cons, List.map_cons, intKeys_ok t e]
  | _, _, _, .cons (k := .inr i) r t, h => by simp only [intKeys] at h; cases h
def rSortA (K : PySem.W.Frag) : List V → Hp → VK → Prop := fun xs H Q => rSortedI K xs H Q ∨ (∃ (a : Addr) (kvs : List (Key × V)) (ks : List Int), xs = [.ref a] ∧ Rd H a (.dK kvs) ∧ kvs.map (·.1) = ks.map Sum.inl ∧ ks.length < 64 ∧
    ∀ (ys : List Int) (p : Addr), ys.Perm ks → ys.Pairwise (· ≤ ·) → H p = none → Q (.ref p) (upd H p (.lst (ys.map V.int))))
theorem cr_sortA (hc : X.calm = true) : CallR X (.builtin "sorted") (rSortA X.K) := CallR.or cr_sortedI (call_sortedDI hc)
theorem Rps.of_ints (ns : List Int) : Rps W F (ns.map D.int) (ns.map V.int) := by
  induction ns with
  | nil => exact .nil
  | cons n ns ih => exact .cons (.int n) ih
def fSorted (own : Bool) : FA := fun ds S Q => match ds with
  | [d] => match asL S d with
    | some xs => match asInts xs with
      | some ns => mkL own ((isort ns).map D.int) S Q
      | none => False
    | none => match asD S d with
      | some kvs => match intKeys kvs with
        | some ks => ks.length < 64 ∧ mkL own ((isort ks).map D.int) S Q
        | none => False
      | none => False
  | _ => False
theorem ok_sorted {own : Bool} : RAOk W (rSortA W.K) (fSorted own) := by
  intro F P S H ds vs Qd Q rs rr h k
  unfold fSorted at h
  split at h
  · cases rr with
    | cons r t =>
      cases t
      split at h
      · rename_i xs e
        split at h
        · rename_i ns e2
          obtain ⟨a, vs, rfl, h1, r1⟩ := asL_ok rs r e
          rw [asInts_eq e2] at r1
          have z := szRd rs.sz h1
          cases r1.ints
          refine .inl ⟨a, ns, rfl, .inl h1, fun ns' p hp hs hn => ?_⟩
          rw [sorted_is hp hs]
          refine mkL_ok rs ?_ (Rps.of_ints _) h k p hn
          rw [List.length_map, (isort_perm ns).length_eq]
          have z' : (ns.map V.int).length ≤ sizeLine := z
          rw [List.length_map] at z'
          exact z'
        · exact h.elim
      · split at h
        · rename_i kvs e
          split at h
          · rename_i ks e2
            obtain ⟨a, vs, rfl, h1, r1⟩ := asD_ok rs r e
            refine .inr ⟨a, vs, ks, rfl, h1, intKeys_ok r1 e2, h.1, fun ns' p hp hs hn => ?_⟩
            rw [sorted_is hp hs]
            refine mkL_ok rs ?_ (Rps.of_ints _) h.2 k p hn
            rw [List.length_map, (isort_perm ks).length_eq]
            have := h.1
            exact small64 this
          · exact h.elim
        · exact h.elim
  · exact h.elim

/-! ### dicts by their entries -/
def dput (kvs : List (Key × D)) (k : Key) (v : D) : List (Key × D) :=
  if (kvs.any fun kv => decide (kv.1 = k)) = true then kvs.map (fun kv => if kv.1 = k then (kv.1, v) else kv) else kvs ++ [(k, v)]
def dmerge (kvs more : List (Key × D)) : List (Key × D) := more.foldl (fun acc kv => dput acc kv.1 kv.2) kvs
def ddrop (kvs : List (Key × D)) (k : Key) : List (Key × D) := kvs.filter fun kv => decide (kv.1 ≠ k)
theorem RpK.any (k : Key) : ∀ {kvs : List (Key × D)} {ws : List (Key × V)}, RpK W F kvs ws → (kvs.any fun kv => decide (kv.1 = k)) = (ws.any fun kv => decide (kv.1 = k))
  | _, _, .nil => rfl
  | _, _, .cons _ t => by rw [List.any_cons, List.any_cons, RpK.any k t]
theorem RpK.app : ∀ {kvs more : List (Key × D)} {ws us : List (Key × V)}, RpK W F kvs ws → RpK W F more us → RpK W F (kvs ++ more) (ws ++ us)
  | _, _, _, _, .nil, q => q
  | _, _, _, _, .cons r t, q => .cons r (RpK.app t q)
theorem RpK.repl {k : Key} {d : D} {v : V} (rv : Rp W F d v) : ∀ {kvs : List (Key × D)} {ws : List (Key × V)}, RpK W F kvs ws → RpK W F (kvs.map (fun kv => if kv.1 = k then (kv.1, d) else kv)) (ws.map (fun kv => if kv.1 = k then (kv.1, v) else kv))
  | _, _, .nil => .nil
  | _, _, .cons (k := k0) r t => by
    rw [List.map_cons, List.map_cons]
    by_cases e : k0 = k
    · rw [if_pos e, if_pos e]; exact .cons rv (RpK.repl rv t)
    · rw [if_neg e, if_neg e]; exact .cons r (RpK.repl rv t)
theorem RpK.put {k : Key} {d : D} {v : V} (rv : Rp W F d v) {kvs : List (Key × D)} {ws : List (Key × V)} (r : RpK W F kvs ws) : RpK W F (dput kvs k d) (putK ws k v) := by
  unfold dput putK
  rw [r.any k]
  split
  · exact r.repl rv
  · exact r.app (.cons rv .nil)
theorem RpK.drop {k : Key} : ∀ {kvs : List (Key × D)} {ws : List (Key × V)}, RpK W F kvs ws → RpK W F (ddrop kvs k) (dropK ws k)
  | _, _, .nil => .nil
  | _, _, .cons (k := k0) r t => by
    unfold ddrop dropK
    rw [List.filter_cons, List.filter_cons]
    by_cases e : k0 = k
    · simp only [ne_eq, e, not_true_eq_false, decide_false, Bool.false_eq_true, if_false]; exact RpK.drop t
    · simp only [ne_eq, e, not_false_eq_true, decide_true, if_true]; exact .cons r (RpK.drop t)
theorem RpK.merge : ∀ {more : List (Key × D)} {us : List (Key × V)} {kvs : List (Key × D)} {ws : List (Key × V)}, RpK W F more us → RpK W F kvs ws → RpK W F (dmerge kvs more) (mergeK ws us)
  | _, _, _, _, .nil, q => q
  | (k, d) :: ds, (_, v) :: vs, kvs, ws, .cons r t, q => by
    show RpK W F (dmerge (dput kvs k d) ds) (mergeK (putK ws k v) vs)
    exact RpK.merge t (q.put r)
/-- a list's items as pairs with keys -/
def asPairs : List D → Option (List (Key × D))
  | [] => some []
  | .tup [k, v] :: r => match keyD k with
    | some kk => (asPairs r).map ((kk, v) :: ·)
    | none => none
  | _ :: _ => none
theorem asPairs_ok (sub : Sub F H) : ∀ {xs : List D} {vs : List V} {kvs : List (Key × D)}, Rps W F xs vs → asPairs xs = some kvs →
    ∃ (ps : List Addr) (ws : List (Key × V)), vs = ps.map V.ref ∧ RpK W F kvs ws ∧ Paired (fun p kv => SqT W.K H p [kV kv.1, kv.2]) ps ws
  | _, _, _, .nil, h => by simp only [asPairs] at h; cases h; exact ⟨[], [], rfl, .nil, .nil⟩
  | _, _, _, .cons (d := d) (v := v) r t, h => by
    unfold asPairs at h
    split at h
    · rename_i e; cases e
    · rename_i k x rest e
      cases e
      split at h
      · rename_i kk ek
        obtain ⟨m, em, rfl⟩ := Option.map_eq_some_iff.mp h
        obtain ⟨ps, ws, rfl, rk, pp⟩ := asPairs_ok sub t em
        cases r with
        | tup h1 r1 =>
          rename_i us a
          cases r1 with
          | cons ra rb =>
            cases rb with
            | cons rc rd =>
              cases rd
              cases keyD_ok ra ek
              exact ⟨a :: ps, (kk, _) :: ws, rfl, .cons rc rk, .cons (sub.tupP h1).sqt pp⟩
      · cases h
    · cases h
def NewD (Q : VK) (H : Hp) (kvs : List (Key × V)) : Prop := ∀ p, H p = none → Q (.ref p) (upd H p (.dK kvs))
theorem pairs_val {pins : List (Addr × Obj)} {σ : St} {H : Hp} {s : Shared} (I : Inv X pins σ H s) : ∀ {ps : List Addr} {kvs : List (Key × V)}, Paired (fun p kv => SqT X.K H p [kV kv.1, kv.2]) ps kvs →
    ∃ (pv : List (Value × Value)) (prs : List (Key × Value)), KV kvs prs ∧ pv.length = ps.length ∧ prs.length = ps.length ∧ ∀ (j : Nat) (k v : Value), pv[j]? = some (k, v) → ∃ (b : Addr) (kk : Key), ps[j]? = some b ∧ PyProof.Rows.IsTup s.heap b #[k, v] ∧ prs[j]? = some (kk, v) ∧ keyIs kk k = true
  | _, _, .nil => ⟨[], [], .nil, rfl, rfl, fun j k v e => by simp at e⟩
  | _, _, .cons (a := p) (b := kv) h t => by
    obtain ⟨pv, prs, r, hl, hl2, hp⟩ := pairs_val I t
    obtain ⟨its, rv, ht, _⟩ := I.tuple h
    obtain ⟨u, y, ei, ru, ry⟩ := vals2 rv
    subst ei
    refine ⟨(u, y) :: pv, (kv.1, y) :: prs, .cons ⟨rfl, ry⟩ r, by rw [List.length_cons, List.length_cons, hl], by rw [List.length_cons, List.length_cons, hl2], fun j k v e => ?_⟩
    cases j with
    | zero =>
      have e' : (u, y) = (k, v) := Option.some.inj e
      cases e'
      exact ⟨p, kv.1, rfl, ht, rfl, kV_is (P := X.prog) (w := X.w) ru⟩
    | succ j =>
      obtain ⟨b, kk, e1, e2, e3, e4⟩ := hp j k v (by simpa using e)
      exact ⟨b, kk, by simpa using e1, e2, by simpa using e3, e4⟩
theorem I_tupP {pins : List (Addr × Obj)} {σ : St} {H : Hp} {s : Shared} {a : Addr} {vs : List V} (I : Inv X pins σ H s) (h : TupP X.K H a vs) : ∃ its : List Value, Vals vs its ∧ PySem.PlainSeq "tuple" s.heap a its.toArray ∧ vs.length ≤ sizeLine := by
  rcases h with ⟨o, h, hd⟩ | ⟨o, its, n, h1, h2, h3, h4, h5, h6⟩
  · obtain ⟨e, z, its, rv, o', e', c', n, d'⟩ := I.hok a _ h
    rw [e] at e'; cases e'
    exact ⟨its, rv, ⟨o, n, e, c', hd, d'⟩, z⟩
  · refine ⟨its.toList, h6, ⟨o, n, I.kIn a o h1, h2, h3, by simpa using h4⟩, ?_⟩
    have e2 := h6.length
    simp only [Array.length_toList] at e2
    omega
/-- dict(t), t a tuple of pairs -/
theorem cr_dictT (hcalm : X.calm = true) : CallR X (.type "dict") (fun xs H Q => ∃ (a : Addr) (ps : List Addr) (kvs : List (Key × V)), xs = [.ref a] ∧ TupP X.K H a (ps.map V.ref) ∧ Paired (fun p kv => SqT X.K H p [kV kv.1, kv.2]) ps kvs ∧ NewD Q H (mergeK [] kvs)) := by
  intro pins s σ H xs us Q I r q
  obtain ⟨a, ps, kvs, ex, hq, hp, q⟩ := q
  subst ex
  obtain ⟨u, eu, rx⟩ := vals1 r
  subst eu
  cases rx
  obtain ⟨its, rv, pl, hz⟩ := I_tupP I hq
  have ei := refs_at rv
  subst ei
  rw [List.length_map] at hz
  obtain ⟨pv, prs, rel, hl, hl2, hpr⟩ := pairs_val I hp
  refine PySem.call_dict_pairs (knd := mixKind X.prog X.w) (kvs := prs) (PySem.PairArg.tuple a (ps.map Value.ref).toArray (fun j => ps.getD j 0) pv) (I.ok.hd hcalm) ⟨pl, by simp [hl], fun j k v e => ?_⟩ ⟨by rw [hl2, hl], fun i k v e => ?_⟩ (by rw [hl]; exact hz) fun h' tk hd' k => ?_
  · obtain ⟨b, kk, e1, e2, _⟩ := hpr j k v e
    have eg : ps.getD j 0 = b := by rw [List.getD_eq_getElem?_getD, e1]; rfl
    refine ⟨by simp [e1], ?_⟩
    show PySem.PairAt s.heap (ps.getD j 0) k v
    rw [eg]
    exact .inl e2
  · obtain ⟨b, kk, e1, e2, e3, e4⟩ := hpr i k v e
    exact ⟨kk, e3, e4⟩
  · have hm : (s.heap.objs.size == sysModules) = false := beq_eq_false_iff_ne.mpr (Nat.ne_of_gt I.big)
    have hlen : (mergeK [] kvs).length ≤ sizeLine := by
      refine Nat.le_trans (length_mergeK kvs []) ?_
      rw [List.length_nil, Nat.zero_add, rel.length, hl2]
      exact hz
    exact ⟨.ref s.heap.objs.size, upd H s.heap.objs.size (.dK (mergeK [] kvs)), I.laid (t' := tk) (fun b o e => k b o (by simp) e) (Nat.le_refl _) (show ObjOk X.prog X.w _ _ _ (.dK (mergeK [] kvs)) from ⟨hlen, hm, merged [] prs, KV.merge rel .nil, hd'⟩), rfl, q _ (I.hok.fresh (Nat.le_refl _))⟩
theorem cr_dictC : CallR X (.type "dict") (fun xs H Q => ∃ (a : Addr) (kvs : List (Key × V)), xs = [.ref a] ∧ Rd H a (.dK kvs) ∧ NewD Q H kvs) := by
  intro pins s σ H xs us Q I r q
  obtain ⟨a, kvs, ex, hq, q⟩ := q
  subst ex
  obtain ⟨u, eu, rx⟩ := vals1 r
  subst eu
  cases rx
  exact d_copyOf I hq fun p s' hp I' => ⟨.ref p, _, I', rfl, q p hp⟩
def rDictA (K : PySem.W.Frag) : List V → Hp → VK → Prop := fun xs H Q =>
  (∃ (a : Addr) (ps : List Addr) (kvs : List (Key × V)), xs = [.ref a] ∧ SqL K H a (ps.map V.ref) ∧ Paired (fun p kv => SqT K H p [kV kv.1, kv.2]) ps kvs ∧ ∀ p, H p = none → Q (.ref p) (upd H p (.dK (mergeK [] kvs)))) ∨
  (∃ (a : Addr) (ps : List Addr) (kvs : List (Key × V)), xs = [.ref a] ∧ TupP K H a (ps.map V.ref) ∧ Paired (fun p kv => SqT K H p [kV kv.1, kv.2]) ps kvs ∧ NewD Q H (mergeK [] kvs)) ∨
  (∃ (a : Addr) (kvs : List (Key × V)), xs = [.ref a] ∧ Rd H a (.dK kvs) ∧ NewD Q H kvs)
theorem cr_dictA (hc : X.calm = true) : CallR X (.type "dict") (rDictA X.K) := CallR.or (call_dictP hc) (CallR.or (cr_dictT hc) cr_dictC)
def fDict (own : Bool) : FA := fun ds S Q => match ds with
  | [.tup xs] => match asPairs xs with | some kvs => mkD own (dmerge [] kvs) S Q | none => False
  | [d] => match asL S d with
    | some xs => match asPairs xs with | some kvs => mkD own (dmerge [] kvs) S Q | none => False
    | none => match asD S d with
      | some kvs => mkD own kvs S Q
      | none => False
  | _ => False
theorem dmerge_sz {ws : List (Key × V)} {n : Nat} (h : ws.length ≤ n) : (mergeK [] ws).length ≤ n := by
  have := length_mergeK ws []
  rw [List.length_nil, Nat.zero_add] at this
  omega
theorem Paired.len {α β : Type} {R : α → β → Prop} {l : List α} {m : List β} (h : Paired R l m) : m.length = l.length := (Paired.length h).symm
theorem ok_dict {own : Bool} : RAOk W (rDictA W.K) (fDict own) := by
  intro F P S H ds vs Qd Q rs rr h k
  unfold fDict at h
  split at h
  · cases rr with
    | cons r t =>
      cases t
      split at h
      · rename_i kvs e
        cases r with
        | tup h1 r1 =>
          have z := tup_sz (xs := []) rs h1
          obtain ⟨ps, ws, rfl, rk, pp⟩ := asPairs_ok rs.sub r1 e
          rw [List.length_map] at z
          exact .inr (.inl ⟨_, ps, ws, rfl, rs.sub.tupP h1, pp, mkD_ok rs (dmerge_sz (by rw [Paired.len pp]; exact z)) (RpK.merge rk .nil) h k⟩)
      · exact h.elim
  · cases rr with
    | cons r t =>
      cases t
      split at h
      · rename_i xs e
        split at h
        · rename_i kvs e2
          obtain ⟨a, us, rfl, h1, r1⟩ := asL_ok rs r e
          have z := szRd rs.sz h1
          obtain ⟨ps, ws, rfl, rk, pp⟩ := asPairs_ok rs.sub r1 e2
          have z' : (ps.map V.ref).length ≤ sizeLine := z
          rw [List.length_map] at z'
          exact .inl ⟨_, ps, ws, rfl, .inl h1, pp, mkD_ok rs (dmerge_sz (by rw [Paired.len pp]; exact z')) (RpK.merge rk .nil) h k⟩
        · exact h.elim
      · split at h
        · rename_i kvs e
          obtain ⟨a, ws, rfl, h1, r1⟩ := asD_ok rs r e
          exact .inr (.inr ⟨a, ws, rfl, h1, mkD_ok rs (szRd rs.sz h1) r1 h k⟩)
        · exact h.elim
  · exact h.elim

/-! ### isinstance, one built-in class -/
def tyD (S : Store) : D → Option String
  | .non => some "NoneType"
  | .bl _ => some "bool"
  | .int _ => some "int"
  | .str _ => some "str"
  | .tup _ => some "tuple"
  | .lst _ => some "list"
  | .dct _ => some "dict"
  | .ins _ _ => none
  | .scr _ => none
  | .ref a => match S a with
    | some (.lst _) => some "list"
    | some (.dct _) => some "dict"
    | _ => none
theorem tyD_ok {d : D} {v : V} {T : String} (rs : RS W F P S H) (r : Rp W F d v) (h : tyD S d = some T) : TyX W.K H v (.type T) := by
  cases r with
  | non => cases h; exact .base .non
  | bl b => cases h; exact .base (.bl b)
  | int b => cases h; exact .base (.int b)
  | str b => cases h; exact .base (.str b)
  | tup h1 r1 =>
    cases h
    rcases rs.sub.tupP h1 with ⟨o, h, _⟩ | ⟨o, its, n, h1, h2, _⟩
    · exact .fTuple h
    · exact .kTuple h1 h2
  | lst h1 r1 =>
    cases h
    rcases rs.sub.rd h1 with h | ⟨o, h⟩
    · exact .base (.lst h)
    · exact .base (.frz h)
  | dct h1 r1 =>
    cases h
    rcases rs.sub.rd h1 with h | ⟨o, h⟩
    · exact .base (.dK h)
    · exact .fDict h
  | ins h1 c r1 => cases h
  | scr h1 => cases h
  | ref a =>
    simp only [tyD] at h
    split at h
    · rename_i xs e
      cases h
      obtain ⟨_, u, hu, ru⟩ := rs.obj _ _ e
      cases ru with
      | lst r => exact .base (.lst hu)
    · rename_i xs e
      cases h
      obtain ⟨_, u, hu, ru⟩ := rs.obj _ _ e
      cases ru with
      | dct r => exact .base (.dK hu)
    · cases h
def isiB (T C : String) : Bool := decide (T = C) || (decide (T = "bool") && decide (C = "int"))
def isiT : List String := ["NoneType", "bool", "int", "str", "tuple", "list", "dict"]
theorem isi_all : ∀ T ∈ isiT, ∀ C ∈ ["bool", "int", "str", "tuple", "list", "dict"], kitB T C = some (isiB T C) := by decide +kernel
theorem tyD_mem {d : D} {T : String} (h : tyD S d = some T) : T ∈ isiT := by
  cases d <;> simp only [tyD] at h
  case ref a =>
    split at h <;> first | (cases h; decide) | cases h
  all_goals first | (cases h; decide) | cases h
def fIsi (C : String) : F1 := fun d S Q => match tyD S d with
  | some T => Q (.bl (isiB T C)) S
  | none => False
theorem pe_isi {x p p2 pos e d} {C : String} (hu : Gl X "isinstance") (hm : X.mg "isinstance" = none) (hT : Gl X x) (hTm : X.mg x = none) (hTb : bootBuiltins x = some (.type C)) (hx : x ≠ "__name__") (hxd : (x == ("__debug__" : Str)) = false)
    (hC : C ∈ ["bool", "int", "str", "tuple", "list", "dict"]) (hK : X.K = W.K) (he : PE X e (LE W d)) (hs : starEach [e, .Name x p2] X.env = (false, eval e X.env) :: starEach [.Name x p2] X.env) : PE X (.Call (.Name "isinstance" p) [e, .Name x p2] [] pos) (LE W (dUn (fIsi C) d)) := by
  have hb : PE X (.Name x p2) (tC (.ty C)) := pe_bltn (v := .ty C) (u := .type C) hT hTm hTb rfl hx hxd
  have h := pe_callB (pos := pos) (p := p) (call_isi (X := X)) hu hm (show bootBuiltins "isinstance" = some (.builtin "isinstance") by decide +kernel) (pa_cons he (pa_cons hb pa_nil rfl) hs) (by decide) (by decide) hs rfl
  refine h.mono fun σ H Q ⟨F, P, sd, S, Qd, rs, rl, q, k⟩ => ?_
  refine ⟨F, P, sd, S, _, rs, rl, q, fun F1 S1 H1 dx x l1 rs1 rx q1 => ?_⟩
  show ∃ (x_1 c : V) (t u : Value) (b : Bool), [x, .ty C] = [x_1, c] ∧ ClsV c u ∧ TyX X.K H1 x_1 t ∧ PySem.W.kitOne X.K t u = some b ∧ Q (.bl b) H1
  unfold fIsi at q1
  split at q1
  · rename_i T e
    rw [hK]
    exact ⟨x, .ty C, .type T, .type C, isiB T C, rfl, .ty C, tyD_ok rs1 rx e, kit_ty (isi_all T (tyD_mem e) C hC), k F1 S1 H1 _ _ l1 rs1 (.bl _) q1⟩
  · exact q1.elim
end DL
set_option Elab.async false
set_option linter.all false
set_option maxRecDepth 100000
set_option maxHeartbeats 1000000
/-! DL5: tests, targets, statements, loops, comprehensions on data. -/
namespace DL
open PySem L2
variable {W : Wd} {F F' F'' P : Hp} {S S' : Store} {H H' : Hp} {X : Cx}

/-! ### tests -/
def truD (S : Store) : D → Option Bool
  | .non => some false
  | .bl b => some b
  | .int i => some (i != 0)
  | .tup xs => some (!xs.isEmpty)
  | .lst xs => some (!xs.isEmpty)
  | .dct xs => some (!xs.isEmpty)
  | .str x => if x.length ≤ sizeLine then some ((x.length : Int) != 0) else none
  | .ins _ _ => none
  | .scr _ => none
  | .ref a => match S a with
    | some (.lst xs) => some (!xs.isEmpty)
    | _ => none
theorem Rps.isEmpty : ∀ {ds : List D} {vs : List V}, Rps W F ds vs → ds.isEmpty = vs.isEmpty
  | _, _, .nil => rfl
  | _, _, .cons _ _ => rfl
theorem RpK.isEmpty : ∀ {ds : List (Key × D)} {vs : List (Key × V)}, RpK W F ds vs → ds.isEmpty = vs.isEmpty
  | _, _, .nil => rfl
  | _, _, .cons _ _ => rfl
/-- a dict's truth, locked or not -/
def TruX (K : PySem.W.Frag) (x : V) (H : Hp) (k : Bool) : Prop := TruV K x H k ∨ ∃ a kvs, x = .ref a ∧ Rd H a (.dK kvs) ∧ k = !kvs.isEmpty
theorem pt_truthX {a : Expr} {ta : TE} (ha : PE X a ta) (he : ∀ whole, isTrue a X.env whole = (do let v ← whole; standAt a.pos; holding [v] (truthy v))) :
    PT X a (fun σ H Q => ta σ H fun x H' => ∃ k, TruX X.K x H' k ∧ Q k H') := by
  refine ⟨fun pins s σ H Q I h => ?_⟩
  refine PyProof.Rows.isTrue_plain (thn (ha.run pins s σ H _ I h) fun v s1 ⟨x, H1, I1, r1, k, q1, q2⟩ => ?_) (he _)
  rcases q1 with q1 | ⟨p, kvs, rfl, hd, rfl⟩
  · exact tru_ok pins s1 σ H1 x v Q I1 r1 ⟨k, q1, q2⟩
  · cases r1
    exact d_truth I1 hd fun s' I' => ⟨H1, I', q2⟩
theorem truD_ok {d : D} {v : V} {k : Bool} (rs : RS W F P S H) (r : Rp W F d v) (h : truD S d = some k) : TruX W.K v H k := by
  cases r with
  | non => cases h; exact .inl rfl
  | bl b => cases h; exact .inl rfl
  | int i => cases h; exact .inl rfl
  | str x =>
    simp only [truD] at h
    split at h
    · cases h; exact .inl ⟨by assumption, rfl⟩
    · cases h
  | tup h1 r1 => cases h; exact .inl (.inr (.inl ⟨_, (rs.sub.tupP h1).sqt, by rw [r1.isEmpty]⟩))
  | lst h1 r1 => cases h; exact .inl (.inl ⟨_, .inl (rs.sub.rd h1), by rw [r1.isEmpty]⟩)
  | dct h1 r1 => cases h; exact .inr ⟨_, _, rfl, rs.sub.rd h1, by rw [r1.isEmpty]⟩
  | ins h1 c r1 => cases h
  | scr h1 => cases h
  | ref a =>
    simp only [truD] at h
    split at h
    · rename_i xs e
      cases h
      obtain ⟨_, u, hu, ru⟩ := rs.obj _ _ e
      cases ru with
      | lst r => exact .inl (.inl ⟨_, .of hu, by rw [r.isEmpty]⟩)
    · cases h
def tOf (d : DE) : DT := fun sd S Q => d sd S fun x S1 => match truD S1 x with | some k => Q k S1 | none => False
def tOfB (d : DE) : DT := fun sd S Q => d sd S fun x S1 => match x with | .bl k => Q k S1 | _ => False
theorem lt_truth {a : Expr} {d : DE} (hK : X.K = W.K) (ha : PE X a (LE W d)) (he : ∀ whole, isTrue a X.env whole = (do let v ← whole; standAt a.pos; holding [v] (truthy v))) : PT X a (LT W (tOf d)) :=
  (pt_truthX ha he).mono fun σ H Q ⟨F, P, sd, S, Qd, rs, rl, h, k⟩ => ⟨F, P, sd, S, _, rs, rl, h, fun F1 S1 H1 dv v l1 rs1 rv q => by
    split at q
    · rename_i b e
      exact ⟨b, by rw [hK]; exact truD_ok rs1 rv e, k F1 S1 H1 b l1 rs1 q⟩
    · exact q.elim⟩
theorem lt_cmp {op : CmpOp} {r : R2} {f : F2} {a b : Expr} {pos : Pos} {da db : DE} (ho : OpR X (compareOp op) r) (hr : R2Ok W r f) (ha : PE X a (LE W da)) (hb : PE X b (LE W db)) (hm : behindInMarks op b = false) : PT X (.Compare a [op] [b] pos) (LT W (tOfB (dOp f da db))) :=
  (pt_cmpR ho ha hb hm).mono fun σ H Q ⟨F, P, sd, S, Qd, rs, rl, h, k⟩ => lift2 hr σ H _ ⟨F, P, sd, S, _, rs, rl, h, fun F1 S1 H1 dv v l1 rs1 rv q => by
    split at q
    · cases rv; exact ⟨_, rfl, k F1 S1 H1 _ l1 rs1 q⟩
    · exact q.elim⟩
def dChain (f f' : F2) (da db dc : DE) : DE := fun sd S Q => da sd S fun x S1 => db sd S1 fun y S2 => f x y S2 fun z S3 => match z with
  | .bl k => if k = true then dc sd S3 fun w S4 => f' y w S4 Q else Q (.bl false) S3
  | _ => False
theorem lift_chain {r r' : R2} {f f' : F2} {da db dc : DE} (hr : R2Ok W r f) (hr' : R2Ok W r' f') : ∀ σ H Q, LE W (dChain f f' da db dc) σ H Q → tChain r r' (LE W da) (LE W db) (LE W dc) σ H Q := by
  rintro σ H Q ⟨F, P, sd, S, Qd, rs, rl, h, k⟩
  refine ⟨F, P, sd, S, _, rs, rl, h, fun F1 S1 H1 dx x l1 rs1 rx q1 => ⟨F1, P, sd, S1, _, rs1, rl.mono l1, q1, fun F2 S2 H2 dy y l2 rs2 ry q2 => ?_⟩⟩
  refine hr F2 P S2 H2 dx dy x y _ _ rs2 (rx.mono l2) ry q2 fun F3 S3 H3 dz z l3 rs3 rz q3 => ?_
  split at q3
  · cases rz
    rename_i kk
    refine ⟨kk, rfl, ?_⟩
    cases kk with
    | true =>
      simp only [if_true] at q3 ⊢
      exact ⟨F3, P, sd, S3, _, rs3, ((rl.mono l1).mono l2).mono l3, q3, fun F4 S4 H4 dw w l4 rs4 rw' q4 => hr' F4 P S4 H4 dy dw y w Qd Q rs4 ((ry.mono l3).mono l4) rw' q4 ((((k.le l1).le l2).le l3).le l4)⟩
    | false =>
      simp only [Bool.false_eq_true, if_false] at q3 ⊢
      exact k F3 S3 H3 _ _ ((l1.trans l2).trans l3) rs3 (.bl false) q3
  · exact q3.elim
theorem le_chain {op op' : CmpOp} {r r' : R2} {f f' : F2} {a b c : Expr} {pos : Pos} {da db dc : DE} (ho : OpR X (compareOp op) r) (ho' : OpR X (compareOp op') r') (hr : R2Ok W r f) (hr' : R2Ok W r' f') (ha : PE X a (LE W da)) (hb : PE X b (LE W db)) (hc : PE X c (LE W dc))
    (hm : lastMarks [op, op'] [b, c] = false) : PE X (.Compare a [op, op'] [b, c] pos) (LE W (dChain f f' da db dc)) := (pe_chain ho ho' ha hb hc hm).mono (lift_chain hr hr')
theorem lt_chain {op op' : CmpOp} {r r' : R2} {f f' : F2} {a b c : Expr} {pos : Pos} {da db dc : DE} (ho : OpR X (compareOp op) r) (ho' : OpR X (compareOp op') r') (hr : R2Ok W r f) (hr' : R2Ok W r' f') (ha : PE X a (LE W da)) (hb : PE X b (LE W db)) (hc : PE X c (LE W dc))
    (hm : lastMarks [op, op'] [b, c] = false) : PT X (.Compare a [op, op'] [b, c] pos) (LT W (tOfB (dChain f f' da db dc))) :=
  (pt_chain ho ho' ha hb hc hm).mono fun σ H Q ⟨F, P, sd, S, Qd, rs, rl, h, k⟩ => lift_chain hr hr' σ H _ ⟨F, P, sd, S, _, rs, rl, h, fun F1 S1 H1 dv v l1 rs1 rv q => by
    split at q
    · cases rv; exact ⟨_, rfl, k F1 S1 H1 _ l1 rs1 q⟩
    · exact q.elim⟩
def dNotT (t : DT) : DT := fun sd S Q => t sd S fun k S1 => Q (!k) S1
def dAndT (t u : DT) : DT := fun sd S Q => t sd S fun k S1 => if k = true then u sd S1 Q else Q false S1
def dOrT (t u : DT) : DT := fun sd S Q => t sd S fun k S1 => if k = true then Q true S1 else u sd S1 Q
theorem lt_not {a : Expr} {pos : Pos} {t : DT} (h : PT X a (LT W t)) : PT X (.UnaryOp .Not a pos) (LT W (dNotT t)) :=
  (pt_not h).mono fun σ H Q ⟨F, P, sd, S, Qd, rs, rl, h, k⟩ => ⟨F, P, sd, S, _, rs, rl, h, fun F1 S1 H1 b l1 rs1 q => k F1 S1 H1 _ l1 rs1 q⟩
theorem lw_and {a b : Expr} {rest : List Expr} {pos : Pos} {t u : DT} (ha : PT X a (LT W t)) (hb : PW X (.BoolOp .And (b :: rest) pos) (LT W u)) : PW X (.BoolOp .And (a :: b :: rest) pos) (LT W (dAndT t u)) :=
  (pw_and ha hb).mono fun σ H Q ⟨F, P, sd, S, Qd, rs, rl, h, k⟩ => ⟨F, P, sd, S, _, rs, rl, h, fun F1 S1 H1 b l1 rs1 q => by
    cases b with
    | true =>
      simp only [if_true] at q ⊢
      exact ⟨F1, P, sd, S1, _, rs1, rl.mono l1, q, fun F2 S2 H2 b l2 rs2 q2 => k F2 S2 H2 b (l1.trans l2) rs2 q2⟩
    | false =>
      simp only [Bool.false_eq_true, if_false] at q ⊢
      exact k F1 S1 H1 _ l1 rs1 q⟩
theorem lw_or {a b : Expr} {rest : List Expr} {pos : Pos} {t u : DT} (ha : PT X a (LT W t)) (hb : PW X (.BoolOp .Or (b :: rest) pos) (LT W u)) : PW X (.BoolOp .Or (a :: b :: rest) pos) (LT W (dOrT t u)) :=
  (pw_or ha hb).mono fun σ H Q ⟨F, P, sd, S, Qd, rs, rl, h, k⟩ => ⟨F, P, sd, S, _, rs, rl, h, fun F1 S1 H1 b l1 rs1 q => by
    cases b with
    | true =>
      simp only [if_true] at q ⊢
      exact k F1 S1 H1 _ l1 rs1 q
    | false =>
      simp only [Bool.false_eq_true, if_false] at q ⊢
      exact ⟨F1, P, sd, S1, _, rs1, rl.mono l1, q, fun F2 S2 H2 b l2 rs2 q2 => k F2 S2 H2 b (l1.trans l2) rs2 q2⟩⟩
/-- .. as values -/
def dNot (d : DE) : DE := fun sd S Q => d sd S fun x S1 => match x with | .bl k => Q (.bl (!k)) S1 | _ => False
def dAnd (d e : DE) : DE := fun sd S Q => d sd S fun x S1 => match x with | .bl k => if k = true then e sd S1 Q else Q (.bl false) S1 | _ => False
def dOr (d e : DE) : DE := fun sd S Q => d sd S fun x S1 => match x with | .bl k => if k = true then Q (.bl true) S1 else e sd S1 Q | _ => False
theorem le_not {a : Expr} {pos : Pos} {d : DE} (h : PE X a (LE W d)) : PE X (.UnaryOp .Not a pos) (LE W (dNot d)) :=
  (pe_not h).mono fun σ H Q ⟨F, P, sd, S, Qd, rs, rl, h, k⟩ => ⟨F, P, sd, S, _, rs, rl, h, fun F1 S1 H1 dv v l1 rs1 rv q => by
    split at q
    · cases rv; exact ⟨_, rfl, k F1 S1 H1 _ _ l1 rs1 (.bl _) q⟩
    · exact q.elim⟩
theorem le_and {a b : Expr} {rest : List Expr} {pos : Pos} {d e : DE} (ha : PE X a (LE W d)) (hb : PE X (.BoolOp .And (b :: rest) pos) (LE W e)) : PE X (.BoolOp .And (a :: b :: rest) pos) (LE W (dAnd d e)) :=
  (pe_and ha hb).mono fun σ H Q ⟨F, P, sd, S, Qd, rs, rl, h, k⟩ => ⟨F, P, sd, S, _, rs, rl, h, fun F1 S1 H1 dv v l1 rs1 rv q => by
    split at q
    · cases rv
      rename_i c
      refine ⟨_, rfl, ?_⟩
      cases c with
      | true =>
        simp only [if_true] at q ⊢
        exact ⟨F1, P, sd, S1, _, rs1, rl.mono l1, q, k.le l1⟩
      | false =>
        simp only [Bool.false_eq_true, if_false] at q ⊢
        exact k F1 S1 H1 _ _ l1 rs1 (.bl _) q
    · exact q.elim⟩
theorem le_or {a b : Expr} {rest : List Expr} {pos : Pos} {d e : DE} (ha : PE X a (LE W d)) (hb : PE X (.BoolOp .Or (b :: rest) pos) (LE W e)) : PE X (.BoolOp .Or (a :: b :: rest) pos) (LE W (dOr d e)) :=
  (pe_or ha hb).mono fun σ H Q ⟨F, P, sd, S, Qd, rs, rl, h, k⟩ => ⟨F, P, sd, S, _, rs, rl, h, fun F1 S1 H1 dv v l1 rs1 rv q => by
    split at q
    · cases rv
      rename_i c
      refine ⟨_, rfl, ?_⟩
      cases c with
      | true =>
        simp only [if_true] at q ⊢
        exact k F1 S1 H1 _ _ l1 rs1 (.bl _) q
      | false =>
        simp only [Bool.false_eq_true, if_false] at q ⊢
        exact ⟨F1, P, sd, S1, _, rs1, rl.mono l1, q, k.le l1⟩
    · exact q.elim⟩
def dIte (t : DT) (d e : DE) : DE := fun sd S Q => t sd S fun k S1 => if k = true then d sd S1 Q else e sd S1 Q
theorem le_ite {c a b : Expr} {pos : Pos} {t : DT} {d e : DE} (hc : PT X c (LT W t)) (ha : PE X a (LE W d)) (hb : PE X b (LE W e)) : PE X (.IfExp c a b pos) (LE W (dIte t d e)) :=
  (pe_ifExp hc ha hb).mono fun σ H Q ⟨F, P, sd, S, Qd, rs, rl, h, k⟩ => ⟨F, P, sd, S, _, rs, rl, h, fun F1 S1 H1 b l1 rs1 q => by
    cases b with
    | true =>
      simp only [if_true] at q ⊢
      exact ⟨F1, P, sd, S1, _, rs1, rl.mono l1, q, k.le l1⟩
    | false =>
      simp only [Bool.false_eq_true, if_false] at q ⊢
      exact ⟨F1, P, sd, S1, _, rs1, rl.mono l1, q, k.le l1⟩⟩
theorem le_un {op : UnaryOp} {r : V → Hp → VK → Prop} {f : F1} {a : Expr} {pos : Pos} {d : DE} (ho : UnR X (unaryOp op) r)
    (hr : ∀ F P S H dx x Qd Q, RS W F P S H → Rp W F dx x → f dx S Qd → Kont W F P Qd Q → r x H Q) (ha : PE X a (LE W d)) : PE X (.UnaryOp op a pos) (LE W (dUn f d)) :=
  (pe_un ho ha).mono fun σ H Q ⟨F, P, sd, S, Qd, rs, rl, h, k⟩ => ⟨F, P, sd, S, _, rs, rl, h, fun F1 S1 H1 dv v l1 rs1 rv q => hr F1 P S1 H1 dv v Qd Q rs1 rv q (k.le l1)⟩
def fNeg : F1 := fun d S Q => match d with | .int i => Q (.int (-i)) S | _ => False
theorem ok_neg : ∀ F P S H dx x Qd Q, RS W F P S H → Rp W F dx x → fNeg dx S Qd → Kont W F P Qd Q → rU (fun i => .int (-i)) x H Q := by
  intro F P S H dx x Qd Q rs rx h k
  unfold fNeg at h
  split at h
  · cases rx; exact ⟨_, rfl, k F S H _ _ (Le.refl F) rs (.int _) h⟩
  · exact h.elim

/-! ### targets: names and tuples of names -/
mutual
inductive CG where
  | slot (i : Nat)
  | tup (gs : CGs)
inductive CGs where
  | nil
  | cons (g : CG) (r : CGs)
end
mutual
def gset : CG → D → Slots → Option Slots
  | .slot i, d, sd => some (sd.set i (some d))
  | .tup gs, .tup xs, sd => gsets gs xs sd
  | .tup gs, .lst xs, sd => gsets gs xs sd
  | _, _, _ => none
def gsets : CGs → List D → Slots → Option Slots
  | .nil, [], sd => some sd
  | .cons g r, x :: xs, sd => match gset g x sd with
    | some sd' => gsets r xs sd'
    | none => none
  | _, _, _ => none
end
mutual
def gslots : CG → List Nat
  | .slot i => [i]
  | .tup gs => gslotss gs
def gslotss : CGs → List Nat
  | .nil => []
  | .cons g r => gslots g ++ gslotss r
end
/-- what stands behind a store into g's names: all others are as they were -/
def Off (is : List Nat) (σ σ' : St) : Prop := σ'.length = σ.length ∧ ∀ i, i ∉ is → σ'[i]? = σ[i]?
theorem Off.refl {is : List Nat} {σ : St} : Off is σ σ := ⟨rfl, fun _ _ => rfl⟩
theorem Off.trans {is js : List Nat} {σ σ1 σ2 : St} (a : Off is σ σ1) (b : Off js σ1 σ2) : Off (is ++ js) σ σ2 :=
  ⟨b.1.trans a.1, fun i h => by
    rw [b.2 i (fun z => h (List.mem_append_right _ z)), a.2 i (fun z => h (List.mem_append_left _ z))]⟩
theorem wipe_get {σ : St} {i : Nat} : ∀ {vs : List Nat}, i ∉ vs → (wipe σ vs)[i]? = σ[i]?
  | [], _ => rfl
  | v :: vs, h => by
    unfold wipe
    rw [List.getElem?_set_ne (fun e => h (by simp [e])), wipe_get fun z => h (List.mem_cons_of_mem _ z)]
theorem wipe_at {σ : St} {i : Nat} : ∀ {vs : List Nat}, i ∈ vs → i < σ.length → (wipe σ vs)[i]? = some none
  | v :: vs, h, hl => by
    unfold wipe
    by_cases e : v = i
    · subst e; rw [List.getElem?_set_self (by rw [wipe_length]; exact hl)]
    · rw [List.getElem?_set_ne e]
      exact wipe_at ((List.mem_cons.mp h).resolve_left fun z => e z.symm) hl
theorem Off.wipe {is vs : List Nat} {σ σ' : St} (o : Off is σ σ') (h : ∀ i ∈ is, i ∈ vs) : wipe σ' vs = wipe σ vs := by
  apply List.ext_getElem?
  intro i
  by_cases hi : i ∈ vs
  · by_cases hl : i < σ.length
    · rw [wipe_at hi hl, wipe_at hi (by rw [o.1]; exact hl)]
    · rw [List.getElem?_eq_none (by rw [wipe_length, o.1]; omega), List.getElem?_eq_none (by rw [wipe_length]; omega)]
  · rw [wipe_get hi, wipe_get hi]
    exact o.2 i fun z => hi (h i z)
/-- an item that a loop gives: a datum, or a tuple that is only taken apart -/
def RpI (W : Wd) (F : Hp) (d : D) (v : V) : Prop := Rp W F d v ∨ ∃ a vs xs, d = .tup xs ∧ v = .ref a ∧ SqT W.K F a vs ∧ Rps W F xs vs
theorem RpI.mono (e : Le F F') {d : D} {v : V} (r : RpI W F d v) : RpI W F' d v := by
  rcases r with r | ⟨a, vs, xs, e1, e2, h, r⟩
  · exact .inl (r.mono e)
  · exact .inr ⟨a, vs, xs, e1, e2, e.sqt h, r.mono e⟩
theorem RSl.set {sd : Slots} {σ : St} (rl : RSl W F sd σ) {d : D} {v : V} (r : Rp W F d v) (i : Nat) : RSl W F (sd.set i (some d)) (σ.set i (some v)) := by
  refine ⟨by rw [List.length_set, List.length_set]; exact rl.len, fun j e h => ?_⟩
  by_cases hj : j = i
  · subst hj
    by_cases hl : j < sd.length
    · rw [List.getElem?_set_self hl] at h
      cases h
      exact ⟨v, by rw [List.getElem?_set_self (by rw [← rl.len]; exact hl)], r⟩
    · rw [List.getElem?_eq_none (by rw [List.length_set]; omega)] at h; cases h
  · rw [List.getElem?_set_ne (Ne.symm hj)] at h ⊢
    exact rl.at_ j e h
def isTupG : CG → Bool | .tup _ => true | _ => false
def LG (W : Wd) (g : CG) : TG := fun v σ H Q => ∃ F sd d sd', Sub F H ∧ RSl W F sd σ ∧ (Rp W F d v ∨ (isTupG g = true ∧ RpI W F d v)) ∧ gset g d sd = some sd' ∧ ∀ σ', RSl W F sd' σ' → Off (gslots g) σ σ' → Q σ' H
def LGs (W : Wd) (g : CGs) : TGs := fun vs σ H Q => ∃ F sd ds sd', Sub F H ∧ RSl W F sd σ ∧ Rps W F ds vs ∧ gsets g ds sd = some sd' ∧ ∀ σ', RSl W F sd' σ' → Off (gslotss g) σ σ' → Q σ' H
theorem PG.mono {e : Expr} {t t' : TG} (h : PG X e t) (m : ∀ v σ H Q, t' v σ H Q → t v σ H Q) : PG X e t' := ⟨fun pins s σ H v u Q I r q => h.run pins s σ H v u Q I r (m v σ H Q q)⟩
theorem PGs.mono {e : List Expr} {t t' : TGs} (h : PGs X e t) (m : ∀ v σ H Q, t' v σ H Q → t v σ H Q) : PGs X e t' := ⟨fun pins s σ H v u Q I r q => h.run pins s σ H v u Q I r (m v σ H Q q)⟩
theorem lg_name {i : Nat} {x : Str} {pos : Pos} (hN : X.N.Nodup) (hi : X.N[i]? = some x) (hx : Loc X.env.scope x) (hf : X.fn x = true ∨ X.env.scope.names.lookup x = some .local) : PG X (.Name x pos) (LG W (.slot i)) :=
  PG.mono (pg_name hN hi hx hf) fun v σ H Q ⟨F, sd, d, sd', sub, rl, r, e, k⟩ => by
    simp only [gset] at e
    cases e
    have r : Rp W F d v := by
      rcases r with r | ⟨z, _⟩
      · exact r
      · cases z
    exact k _ (rl.set r i) ⟨by rw [List.length_set], fun j hj => by rw [List.getElem?_set_ne (fun z => hj (by simp [gslots, z]))]⟩
theorem lgs_nil : PGs X [] (LGs W .nil) := PGs.mono pgs_nil fun vs σ H Q ⟨F, sd, ds, sd', sub, rl, r, e, k⟩ => by
  cases r with
  | nil => simp only [gsets] at e; cases e; exact ⟨rfl, k σ rl .refl⟩
  | cons _ _ => simp [gsets] at e
theorem lgs_cons {e : Expr} {es : List Expr} {g : CG} {r : CGs} (h1 : PG X e (LG W g)) (h2 : PGs X es (LGs W r)) (hs : (assignEach (e :: es) X.env).map (·.2) = assign e X.env :: (assignEach es X.env).map (·.2)) : PGs X (e :: es) (LGs W (.cons g r)) :=
  PGs.mono (pgs_cons h1 h2 hs) fun vs σ H Q ⟨F, sd, ds, sd', sub, rl, rr, e, k⟩ => by
    cases rr with
    | nil => simp [gsets] at e
    | cons rd rt =>
      simp only [gsets] at e
      split at e
      · rename_i sd1 e1
        exact ⟨_, _, rfl, F, sd, _, sd1, sub, rl, .inl rd, e1, fun σ1 rl1 o1 => ⟨F, sd1, _, sd', sub, rl1, rt, e, fun σ2 rl2 o2 => k σ2 rl2 (o1.trans o2)⟩⟩
      · cases e
theorem gsets_len : ∀ {g : CGs} {ds : List D} {sd sd' : Slots}, gsets g ds sd = some sd' → ∀ {es : List Expr} , True := fun _ => fun {_} => trivial
def glen : CGs → Nat
  | .nil => 0
  | .cons _ r => glen r + 1
theorem glen_of : ∀ {g : CGs} {ds : List D} {sd sd' : Slots}, gsets g ds sd = some sd' → ds.length = glen g
  | .nil, [], _, _, _ => rfl
  | .nil, _ :: _, _, _, h => by simp [gsets] at h
  | .cons _ _, [], _, _, h => by simp [gsets] at h
  | .cons g r, d :: ds, sd, sd', h => by
    simp only [gsets] at h
    split at h
    · rw [List.length_cons, glen_of h]; rfl
    · cases h
theorem PG.or {e : Expr} {t t' : TG} (h : PG X e t) (h' : PG X e t') : PG X e (fun v σ H Q => t v σ H Q ∨ t' v σ H Q) := ⟨fun pins s σ H v u Q I r q => q.elim (h.run pins s σ H v u Q I r) (h'.run pins s σ H v u Q I r)⟩
theorem lg_tup {es : List Expr} {k : Nat} {pos : Pos} {g : CGs} (hc : X.calm = true) (hK : X.K = W.K) (h : PGs X es (LGs W g)) (hn : (assignEach es X.env).length = glen g) (hst : (assignEach es X.env).findIdx? (·.1) = none) : PG X (.Tuple es k pos) (LG W (.tup g)) :=
  PG.mono (PG.or (pg_tup hc h hn hst) (pg_unl hc h hn hst)) fun v σ H Q ⟨F, sd, d, sd', sub, rl, r, e, k⟩ => by
    have r : RpI W F d v := by
      rcases r with r | ⟨_, r⟩
      · exact .inl r
      · exact r
    have fin : ∀ {a : Addr} {vs : List V} {xs : List D}, d = .tup xs → v = .ref a → SqT W.K F a vs → Rps W F xs vs → gTup X.K (glen g) (LGs W g) v σ H Q := by
      rintro a vs xs rfl rfl hq rr
      simp only [gset] at e
      exact ⟨a, vs, rfl, by rw [hK]; exact sub.sqt hq, by rw [← rr.length]; exact glen_of e, F, sd, xs, sd', sub, rl, rr, e, k⟩
    rcases r with r | ⟨a, vs, xs, e1, e2, hq, rr⟩
    · cases r with
      | tup h1 r1 => exact .inl (fin rfl rfl h1.sqt r1)
      | lst h1 rr =>
        simp only [gset] at e
        exact .inr ⟨_, _, rfl, by rw [hK]; exact sub.sql (.inl h1), by rw [← rr.length]; exact glen_of e, F, sd, _, sd', sub, rl, rr, e, k⟩
      | _ => simp [gset] at e
    · exact .inl (fin e1 e2 hq rr)
end DL
set_option Elab.async false
set_option linter.all false
set_option maxRecDepth 100000
set_option maxHeartbeats 1000000
/-! DL6: what is walked, loops, comprehensions, statements on data. -/
namespace DL
open PySem L2
variable {W : Wd} {F F' F'' P : Hp} {S S' : Store} {H H' : Hp} {X : Cx}

/-! ### sources -/
structure Src where
  chk : Store → Prop
  xs : List D
abbrev DI := Slots → Store → (Src → Store → Prop) → Prop
structure SrcOk (W : Wd) (F P : Hp) (J : It) (src : Src) : Prop where
  len : src.xs.length ≤ sizeLine
  go : ∀ F' P' S' H' i d, Le F F' → RS W F' P' S' H' → src.chk S' → src.xs[i]? = some d → J.go i H' ∧ ∀ x H'', J.yld i H' x H'' → ∃ F'', Le F' F'' ∧ RS W F'' P' S' H'' ∧ RpI W F'' d x
  stop : ∀ F' P' S' H', Le F F' → RS W F' P' S' H' → src.chk S' → J.stop src.xs.length H'
def LI (W : Wd) (tupOk : Bool) (d : DI) : TI := fun σ H R => ∃ F P sd S Rd, RS W F P S H ∧ RSl W F sd σ ∧ d sd S Rd ∧ ∀ F' S' H' J src, Le F F' → RS W F' P S' H' → SrcOk W F' P J src →
  (tupOk = false → ∀ F'' P' S'' H'' i d, Le F' F'' → RS W F'' P' S'' H'' → src.chk S'' → src.xs[i]? = some d → ∀ x H3, J.yld i H'' x H3 → ∃ F3, Le F'' F3 ∧ RS W F3 P' S'' H3 ∧ Rp W F3 d x) → Rd src S' → R J H'
theorem PI.mono {tg it : Expr} {t t' : TI} (h : PI X tg it t) (m : ∀ σ H R, t' σ H R → t σ H R) : PI X tg it t' := ⟨fun pins s σ H R I q => h.run pins s σ H R I (m σ H R q)⟩

/-- a list or a tuple -/
def fSeq : D → Store → (Src → Store → Prop) → Prop := fun d S R => match d with
  | .scr ns => R ⟨fun _ => True, ns.map D.int⟩ S
  | .tup xs => R ⟨fun _ => True, xs⟩ S
  | .lst xs => R ⟨fun _ => True, xs⟩ S
  | .ref a => match S a with
    | some (.lst xs) => R ⟨fun S' => S' a = some (.lst xs), xs⟩ S
    | _ => False
  | _ => False
def dSeq1 (d : DE) : DI := fun sd S R => d sd S fun x S1 => fSeq x S1 R
/-- over a list or a tuple, at once -/
def Itlt (K : PySem.W.Frag) (a : Addr) (tup : Bool) : It := if tup = true then Itt K a else Itl K a
theorem sqt_inj {K : PySem.W.Frag} {a : Addr} {xs ys : List V} (h : Rd H a (.lst xs)) (h' : Rd H a (.lst ys)) : xs = ys := by
  rcases h with h | ⟨_, h⟩ <;> rcases h' with h' | ⟨_, h'⟩ <;> rw [h] at h' <;> cases h' <;> rfl
/-- the items that a list gives (told by one of its readings: all are the same) -/
def Itl2 (K : PySem.W.Frag) (a : Addr) : It := Itl K a
theorem pi_listX {tg l : Expr} {tl : TE} (hl : PE X l tl) : PI X tg l (fun σ H R => tl σ H fun x H1 => ∃ a, x = .ref a ∧ ((∃ xs, SqL X.K H1 a xs) ∧ R (Itl X.K a) H1 ∨ (∃ xs, SqT X.K H1 a xs) ∧ R (Itt X.K a) H1)) := by
  refine ⟨fun pins s σ H R I h => ?_⟩
  refine thn (hl.run pins s σ H _ I h) fun v s1 ⟨x, H1, I1, r1, q1⟩ => ?_
  obtain ⟨a, e, q⟩ := q1
  subst e
  cases r1
  rcases q with ⟨⟨xs, hq⟩, q⟩ | ⟨⟨xs, hq⟩, q⟩
  · obtain ⟨its, rv, p, hz⟩ := I1.list hq
    refine wpAny_pyIter_list p.isList ?_
    refine ⟨s1.heap.objs.size, [s1.heap.objs.size], _, _, H1, rfl, I1.kept (t' := s1.toks) fun b o e => Heap.get?_push_of_some _ e, turn_list a _, ⟨_, Heap.get?_push_size _ rfl, rfl, rfl⟩, fun b hb => ?_, q⟩
    have e : b = s1.heap.objs.size := by simpa using hb
    subst e
    exact I1.fpOk (Nat.le_refl _) (I1.hok.fresh (Nat.le_refl _))
  · obtain ⟨its, rv, p, hz⟩ := I1.tuple hq
    refine wpAny_pyIter_tuple (show s1.heap.IsTuple a its.toArray from p) ?_
    refine ⟨s1.heap.objs.size, [s1.heap.objs.size], _, _, H1, rfl, I1.kept (t' := s1.toks) fun b o e => Heap.get?_push_of_some _ e, turn_tuple a _, ⟨_, Heap.get?_push_size _ rfl, rfl, rfl⟩, fun b hb => ?_, q⟩
    have e : b = s1.heap.objs.size := by simpa using hb
    subst e
    exact I1.fpOk (Nat.le_refl _) (I1.hok.fresh (Nat.le_refl _))
/-- a walk that leaves the heap as it is and gives at turn i what stands there -/
theorem SrcOk.list {K : PySem.W.Frag} {a : Addr} {xs : List D} {chk : Store → Prop} (hz : xs.length ≤ sizeLine)
    (h : ∀ F' P' S' H', Le F F' → RS W F' P' S' H' → chk S' → ∃ vs, SqL K H' a vs ∧ Rps W F' xs vs) : SrcOk W F P (Itl K a) ⟨chk, xs⟩ ∧
    ∀ F'' P' S'' H'' i d, Le F F'' → RS W F'' P' S'' H'' → chk S'' → xs[i]? = some d → ∀ x H3, (Itl K a).yld i H'' x H3 → ∃ F3, Le F'' F3 ∧ RS W F3 P' S'' H3 ∧ Rp W F3 d x := by
  have key : ∀ F'' P' S'' H'' i d, Le F F'' → RS W F'' P' S'' H'' → chk S'' → xs[i]? = some d → ∀ x H3, (Itl K a).yld i H'' x H3 → ∃ F3, Le F'' F3 ∧ RS W F3 P' S'' H3 ∧ Rp W F3 d x := by
    rintro F'' P' S'' H'' i d l rs c e x H3 ⟨rfl, y⟩
    obtain ⟨vs, hq, rr⟩ := h F'' P' S'' H3 l rs c
    obtain ⟨v, hv, rv⟩ := rr.get e
    have := y vs hq
    rw [hv] at this; cases this
    exact ⟨F'', Le.refl _, rs, rv⟩
  refine ⟨⟨hz, fun F' P' S' H' i d l rs c e => ?_, fun F' P' S' H' l rs c => ?_⟩, key⟩
  · obtain ⟨vs, hq, rr⟩ := h F' P' S' H' l rs c
    obtain ⟨v, hv, rv⟩ := rr.get e
    refine ⟨⟨vs, v, hq, hv⟩, fun x H'' y => ?_⟩
    obtain ⟨F3, l3, rs3, r3⟩ := key F' P' S' H' i d l rs c e x H'' y
    exact ⟨F3, l3, rs3, .inl r3⟩
  · obtain ⟨vs, hq, rr⟩ := h F' P' S' H' l rs c
    exact ⟨vs, hq, by rw [← rr.length]; exact Nat.le_refl _⟩
theorem SrcOk.tupl {K : PySem.W.Frag} {a : Addr} {xs : List D} {chk : Store → Prop} (hz : xs.length ≤ sizeLine)
    (h : ∀ F' P' S' H', Le F F' → RS W F' P' S' H' → chk S' → ∃ vs, SqT K H' a vs ∧ Rps W F' xs vs) : SrcOk W F P (Itt K a) ⟨chk, xs⟩ ∧
    ∀ F'' P' S'' H'' i d, Le F F'' → RS W F'' P' S'' H'' → chk S'' → xs[i]? = some d → ∀ x H3, (Itt K a).yld i H'' x H3 → ∃ F3, Le F'' F3 ∧ RS W F3 P' S'' H3 ∧ Rp W F3 d x := by
  have key : ∀ F'' P' S'' H'' i d, Le F F'' → RS W F'' P' S'' H'' → chk S'' → xs[i]? = some d → ∀ x H3, (Itt K a).yld i H'' x H3 → ∃ F3, Le F'' F3 ∧ RS W F3 P' S'' H3 ∧ Rp W F3 d x := by
    rintro F'' P' S'' H'' i d l rs c e x H3 ⟨rfl, y⟩
    obtain ⟨vs, hq, rr⟩ := h F'' P' S'' H3 l rs c
    obtain ⟨v, hv, rv⟩ := rr.get e
    have := y vs hq
    rw [hv] at this; cases this
    exact ⟨F'', Le.refl _, rs, rv⟩
  refine ⟨⟨hz, fun F' P' S' H' i d l rs c e => ?_, fun F' P' S' H' l rs c => ?_⟩, key⟩
  · obtain ⟨vs, hq, rr⟩ := h F' P' S' H' l rs c
    obtain ⟨v, hv, rv⟩ := rr.get e
    refine ⟨⟨vs, v, hq, hv⟩, fun x H'' y => ?_⟩
    obtain ⟨F3, l3, rs3, r3⟩ := key F' P' S' H' i d l rs c e x H'' y
    exact ⟨F3, l3, rs3, .inl r3⟩
  · obtain ⟨vs, hq, rr⟩ := h F' P' S' H' l rs c
    exact ⟨vs, hq, by rw [← rr.length]; exact Nat.le_refl _⟩
theorem li_seq {tg e : Expr} {d : DE} (hK : X.K = W.K) (h : PE X e (LE W d)) : PI X tg e (LI W false (dSeq1 d)) := by
  refine PI.mono (pi_listX h) fun σ H R ⟨F, P, sd, S, Rd, rs, rl, q, k⟩ => ?_
  refine ⟨F, P, sd, S, _, rs, rl, q, fun F1 S1 H1 dx x l1 rs1 rx q1 => ?_⟩
  unfold fSeq at q1
  split at q1
  · rename_i ns
    cases rx with
    | @scr _ a h1 =>
      have hz : (ns.map D.int).length ≤ sizeLine := by
        have z : (ns.map V.int).length ≤ sizeLine := sql_sz rs1 (rs1.sub.sql h1)
        rw [List.length_map] at z ⊢; exact z
      obtain ⟨ok, key⟩ := SrcOk.list (W := W) (F := F1) (P := P) (K := X.K) (a := a) (chk := fun _ => True) hz (fun F' P' S' H' l rs' _ => ⟨ns.map V.int, by rw [hK]; exact rs'.sub.sql (l.sql h1), rps_ints ns⟩)
      exact ⟨_, rfl, .inl ⟨⟨_, by rw [hK]; exact rs1.sub.sql h1⟩, k F1 S1 H1 _ _ l1 rs1 ok (fun _ => key) q1⟩⟩
  · cases rx with
    | tup h1 r1 =>
      have hz : _ ≤ sizeLine := Nat.le_trans (Nat.le_of_eq r1.length) (tup_sz (xs := []) rs1 h1)
      obtain ⟨ok, key⟩ := SrcOk.tupl (P := P) (K := X.K) (chk := fun _ => True) hz (fun F' P' S' H' l rs' _ => ⟨_, by rw [hK]; exact (rs'.sub.tupP (l.tupP h1)).sqt, r1.mono l⟩)
      exact ⟨_, rfl, .inr ⟨⟨_, by rw [hK]; exact (rs1.sub.tupP h1).sqt⟩, k F1 S1 H1 _ _ l1 rs1 ok (fun _ => key) q1⟩⟩
  · cases rx with
    | lst h1 r1 =>
      have hz : _ ≤ sizeLine := Nat.le_trans (Nat.le_of_eq r1.length) (szRd rs1.sz (rs1.sub.rd h1))
      obtain ⟨ok, key⟩ := SrcOk.list (P := P) (K := X.K) (chk := fun _ => True) hz (fun F' P' S' H' l rs' _ => ⟨_, .inl (rs'.sub.rd (l.rd h1)), r1.mono l⟩)
      exact ⟨_, rfl, .inl ⟨⟨_, .inl (rs1.sub.rd h1)⟩, k F1 S1 H1 _ _ l1 rs1 ok (fun _ => key) q1⟩⟩
  · cases rx
    rename_i a
    split at q1
    · rename_i xs e
      obtain ⟨_, u, hu, ru⟩ := rs1.obj _ _ e
      cases ru with
      | lst r1 =>
        have hz : _ ≤ sizeLine := Nat.le_trans (Nat.le_of_eq r1.length) (rs1.sz _ _ hu)
        obtain ⟨ok, key⟩ := SrcOk.list (F := F1) (P := P) (K := X.K) (a := a) (chk := fun S' => S' a = some (.lst xs)) hz (fun F' P' S' H' l rs' c => by
          obtain ⟨_, u', hu', ru'⟩ := rs'.obj _ _ c
          cases ru' with
          | lst r' => exact ⟨_, .of hu', r'⟩)
        exact ⟨_, rfl, .inl ⟨⟨_, .of hu⟩, k F1 S1 H1 _ _ l1 rs1 ok (fun _ => key) q1⟩⟩
    · exact q1.elim
  · exact q1.elim
/-- a range -/
def rangeD (lo hi : Int) : List D := (List.range (hi - lo).toNat).map fun i : Nat => D.int (lo + (i : Int))
def fRange1 : D → Store → (Src → Store → Prop) → Prop := fun x S R => match x with
  | .int j => j ≤ sizeLine ∧ -(2 ^ 62) ≤ j ∧ R ⟨fun _ => True, rangeD 0 j⟩ S
  | _ => False
def fRange2 : D → D → Store → (Src → Store → Prop) → Prop := fun x y S R => match x, y with
  | .int i, .int j => j - i ≤ sizeLine ∧ (-(2 ^ 62) ≤ i ∧ i < 2 ^ 62 ∧ -(2 ^ 62) ≤ j ∧ j < 2 ^ 62) ∧ R ⟨fun _ => True, rangeD i j⟩ S
  | _, _ => False
def dRange1 (d : DE) : DI := fun sd S R => d sd S fun x S1 => fRange1 x S1 R
def dRange2 (d e : DE) : DI := fun sd S R => d sd S fun x S1 => e sd S1 fun y S2 => fRange2 x y S2 R
theorem rangeD_get {lo hi : Int} {i : Nat} {d : D} (h : (rangeD lo hi)[i]? = some d) : d = .int (lo + i) ∧ i < (hi - lo).toNat := by
  unfold rangeD at h
  rw [List.getElem?_map] at h
  obtain ⟨j, e, rfl⟩ := Option.map_eq_some_iff.mp h
  obtain ⟨hj, e⟩ := List.getElem?_eq_some_iff.mp e
  rw [List.length_range] at hj
  rw [List.getElem_range] at e
  subst e
  exact ⟨rfl, hj⟩
theorem rangeD_len {lo hi : Int} : (rangeD lo hi).length = (hi - lo).toNat := by unfold rangeD; rw [List.length_map, List.length_range]
theorem SrcOk.range {lo hi : Int} (hz : hi - lo ≤ sizeLine) : SrcOk W F P (Itr lo (hi - lo).toNat) ⟨fun _ => True, rangeD lo hi⟩ ∧
    ∀ F'' P' S'' H'' i d, Le F F'' → RS W F'' P' S'' H'' → True → (rangeD lo hi)[i]? = some d → ∀ x H3, (Itr lo (hi - lo).toNat).yld i H'' x H3 → ∃ F3, Le F'' F3 ∧ RS W F3 P' S'' H3 ∧ Rp W F3 d x := by
  have key : ∀ F'' P' S'' H'' i d, Le F F'' → RS W F'' P' S'' H'' → True → (rangeD lo hi)[i]? = some d → ∀ x H3, (Itr lo (hi - lo).toNat).yld i H'' x H3 → ∃ F3, Le F'' F3 ∧ RS W F3 P' S'' H3 ∧ Rp W F3 d x := by
    rintro F'' P' S'' H'' i d l rs c e x H3 ⟨rfl, rfl⟩
    obtain ⟨rfl, _⟩ := rangeD_get e
    exact ⟨F'', Le.refl _, rs, .int _⟩
  refine ⟨⟨by show (rangeD lo hi).length ≤ _; rw [rangeD_len]; omega, fun F' P' S' H' i d l rs c e => ?_, fun F' P' S' H' l rs c => ?_⟩, key⟩
  · refine ⟨(rangeD_get e).2, fun x H'' y => ?_⟩
    obtain ⟨F3, l3, rs3, r3⟩ := key F' P' S' H' i d l rs c e x H'' y
    exact ⟨F3, l3, rs3, .inl r3⟩
  · show (hi - lo).toNat ≤ (rangeD lo hi).length
    rw [rangeD_len]; exact Nat.le_refl _
theorem sizeLine62 : (sizeLine : Int) < 2 ^ 62 := by rw [sizeLine_eq]; decide
theorem li_range1 {tg a : Expr} {d : DE} {p pos : Pos} (hg : Gl X "range") (hm : X.mg "range" = none) (ha : PE X a (LE W d)) (hs : starEach [a] X.env = [(false, eval a X.env)]) : PI X tg (.Call (.Name "range" p) [a] [] pos) (LI W false (dRange1 d)) := by
  refine PI.mono (pi_range1 hg hm (pa_cons ha pa_nil hs) hs) fun σ H R ⟨F, P, sd, S, Rd, rs, rl, q, k⟩ => ?_
  refine ⟨F, P, sd, S, _, rs, rl, q, fun F1 S1 H1 dx x l1 rs1 rx q1 => ?_⟩
  unfold fRange1 at q1
  split at q1
  · cases rx
    rename_i j
    obtain ⟨h1, h2, q1⟩ := q1
    have h62 := sizeLine62
    have e : j = j - 0 := by omega
    obtain ⟨ok, key⟩ := SrcOk.range (W := W) (F := F1) (P := P) (lo := 0) (hi := j) (by omega)
    refine ⟨j, rfl, h2, by omega, ?_⟩
    have z := k F1 S1 H1 (Itr 0 (j - 0).toNat) _ l1 rs1 ok (fun _ => key) q1
    rw [← e] at z
    exact z
  · exact q1.elim
theorem li_range2 {tg a b : Expr} {d e : DE} {p pos : Pos} (hg : Gl X "range") (hm : X.mg "range" = none) (ha : PE X a (LE W d)) (hb : PE X b (LE W e)) (hs : starEach [a, b] X.env = [(false, eval a X.env), (false, eval b X.env)]) (hs2 : starEach [b] X.env = [(false, eval b X.env)]) :
    PI X tg (.Call (.Name "range" p) [a, b] [] pos) (LI W false (dRange2 d e)) := by
  refine PI.mono (pi_range2 hg hm (pa_cons ha (pa_cons hb pa_nil hs2) (by rw [hs, hs2])) hs hs2) fun σ H R ⟨F, P, sd, S, Rd, rs, rl, q, k⟩ => ?_
  refine ⟨F, P, sd, S, _, rs, rl, q, fun F1 S1 H1 dx x l1 rs1 rx q1 => ⟨F1, P, sd, S1, _, rs1, rl.mono l1, q1, fun F2 S2 H2 dy y l2 rs2 ry q2 => ?_⟩⟩
  unfold fRange2 at q2
  split at q2
  · cases rx; cases ry
    obtain ⟨h1, h2, q2⟩ := q2
    obtain ⟨ok, key⟩ := SrcOk.range (W := W) (F := F2) (P := P) h1
    exact ⟨_, _, rfl, h2, k F2 S2 H2 _ _ (l1.trans l2) rs2 ok (fun _ => key) q2⟩
  · exact q2.elim

/-! ### statements -/
structure DEnds where
  nx : Slots → Store → Prop
  rt : DQ
  bk : Slots → Store → Prop := fun _ _ => False
  ct : Slots → Store → Prop := fun _ _ => False
abbrev DSt := DEnds → Slots → Store → Prop
structure KS (W : Wd) (F P : Hp) (Dd : DEnds) (D : Ends) : Prop where
  nx : ∀ F' sd S σ H, Le F F' → RS W F' P S H → RSl W F' sd σ → Dd.nx sd S → D.nx σ H
  rt : Kont W F P Dd.rt D.rt
  bk : ∀ F' sd S σ H, Le F F' → RS W F' P S H → RSl W F' sd σ → Dd.bk sd S → D.bk σ H
  ct : ∀ F' sd S σ H, Le F F' → RS W F' P S H → RSl W F' sd σ → Dd.ct sd S → D.ct σ H
theorem KS.le {Dd : DEnds} {D : Ends} (k : KS W F P Dd D) (e : Le F F') : KS W F' P Dd D :=
  ⟨fun F1 sd S σ H l => k.nx F1 sd S σ H (e.trans l), k.rt.le e, fun F1 sd S σ H l => k.bk F1 sd S σ H (e.trans l), fun F1 sd S σ H l => k.ct F1 sd S σ H (e.trans l)⟩
def LS (W : Wd) (d : DSt) : TS := fun D σ H => ∃ F P sd S Dd, RS W F P S H ∧ RSl W F sd σ ∧ d Dd sd S ∧ KS W F P Dd D
def sNext : DSt := fun D sd S => D.nx sd S
def sSeq (a b : DSt) : DSt := fun D sd S => a { D with nx := fun sd' S' => b D sd' S' } sd S
theorem ls_nil : PSs X [] (LS W sNext) := pss_nil.mono fun D σ H ⟨F, P, sd, S, Dd, rs, rl, h, k⟩ => k.nx F sd S σ H (Le.refl F) rs rl h
theorem ls_cons {st : Stmt} {rest : List Stmt} {a b : DSt} (h1 : PS X st (LS W a)) (h2 : PSs X rest (LS W b)) : PSs X (st :: rest) (LS W (sSeq a b)) :=
  (pss_cons h1 h2).mono fun D σ H ⟨F, P, sd, S, Dd, rs, rl, h, k⟩ => ⟨F, P, sd, S, _, rs, rl, h, ⟨fun F' sd' S' σ' H' l rs' rl' q => ⟨F', P, sd', S', Dd, rs', rl', q, k.le l⟩, k.rt, k.bk, k.ct⟩⟩
theorem ls_one {st : Stmt} {a : DSt} (h1 : PS X st (LS W a)) : PSs X [st] (LS W a) := pss_one h1
def sDrop (d : DE) : DSt := fun D sd S => d sd S fun _ S1 => D.nx sd S1
theorem ls_expr {e : Expr} {d : DE} {pos : Pos} (h : PE X e (LE W d)) (hs : swapsWith e none pos.line X.env = pure false) : PS X (.Expr e pos) (LS W (sDrop d)) :=
  (ps_expr h hs).mono fun D σ H ⟨F, P, sd, S, Dd, rs, rl, h, k⟩ => ⟨F, P, sd, S, _, rs, rl, h, fun F1 S1 H1 dv v l1 rs1 rv q => k.nx F1 sd S1 σ H1 l1 rs1 (rl.mono l1) q⟩
def sRet (d : DE) : DSt := fun D sd S => d sd S D.rt
theorem ls_ret {e : Expr} {d : DE} {pos : Pos} (h : PE X e (LE W d)) : PS X (.Return (some e) pos) (LS W (sRet d)) :=
  (ps_ret h).mono fun D σ H ⟨F, P, sd, S, Dd, rs, rl, h, k⟩ => ⟨F, P, sd, S, _, rs, rl, h, k.rt⟩
def sRetN : DSt := fun D _ S => D.rt .non S
theorem ls_retN {pos : Pos} : PS X (.Return none pos) (LS W sRetN) :=
  ps_retN.mono fun D σ H ⟨F, P, sd, S, Dd, rs, rl, h, k⟩ => k.rt F S H _ _ (Le.refl F) rs .non h
def sIf (t : DT) (a b : DSt) : DSt := fun D sd S => t sd S fun k S1 => if k = true then a D sd S1 else b D sd S1
theorem ls_if {c : Expr} {a b : List Stmt} {t : DT} {da db : DSt} {pos : Pos} (hc : PT X c (LT W t)) (ha : PSs X a (LS W da)) (hb : PSs X b (LS W db)) : PS X (.If c a b pos) (LS W (sIf t da db)) :=
  (ps_if hc ha hb).mono fun D σ H ⟨F, P, sd, S, Dd, rs, rl, h, k⟩ => ⟨F, P, sd, S, _, rs, rl, h, fun F1 S1 H1 b l1 rs1 q => by
    cases b with
    | true =>
      simp only [if_true] at q ⊢
      exact ⟨F1, P, sd, S1, Dd, rs1, rl.mono l1, q, k.le l1⟩
    | false =>
      simp only [Bool.false_eq_true, if_false] at q ⊢
      exact ⟨F1, P, sd, S1, Dd, rs1, rl.mono l1, q, k.le l1⟩⟩
def sBreak : DSt := fun D sd S => D.bk sd S
def sCont : DSt := fun D sd S => D.ct sd S
theorem ls_pass {pos : Pos} : PS X (.Pass pos) (LS W sNext) := ps_pass.mono fun D σ H ⟨F, P, sd, S, Dd, rs, rl, h, k⟩ => k.nx F sd S σ H (Le.refl F) rs rl h
theorem ls_break {pos : Pos} : PS X (.Break pos) (LS W sBreak) := ps_break.mono fun D σ H ⟨F, P, sd, S, Dd, rs, rl, h, k⟩ => k.bk F sd S σ H (Le.refl F) rs rl h
theorem ls_cont {pos : Pos} : PS X (.Continue pos) (LS W sCont) := ps_continue.mono fun D σ H ⟨F, P, sd, S, Dd, rs, rl, h, k⟩ => k.ct F sd S σ H (Le.refl F) rs rl h
/-- x = e -/
def sSet (i : Nat) (d : DE) : DSt := fun D sd S => d sd S fun x S1 => D.nx (sd.set i (some x)) S1
theorem ls_setT {i : Nat} {d : DE} : ∀ D σ H, LS W (sSet i d) D σ H → tAsg (LE W d) (gName i) D σ H := fun D σ H ⟨F, P, sd, S, Dd, rs, rl, h, k⟩ =>
  ⟨F, P, sd, S, _, rs, rl, h, fun F1 S1 H1 dv v l1 rs1 rv q => k.nx F1 _ S1 _ H1 l1 rs1 ((rl.mono l1).set rv i) q⟩
theorem ls_set {i : Nat} {x : Str} {e : Expr} {d : DE} {pos pos' : Pos} (hN : X.N.Nodup) (hi : X.N[i]? = some x) (hx : Loc X.env.scope x) (h : PE X e (LE W d)) (hs : swapsWith e (some (.Name x pos')) pos.line X.env = pure false) (hf : X.fn x = true ∨ X.env.scope.names.lookup x = some .local) :
    PS X (.Assign [.Name x pos'] e pos) (LS W (sSet i d)) := (ps_set hN hi hx h hs hf).mono ls_setT
/-- (a, b) = e -/
def sSetG (g : CG) (d : DE) : DSt := fun D sd S => d sd S fun x S1 => match gset g x sd with | some sd' => D.nx sd' S1 | none => False
theorem ls_setG {tg e : Expr} {g : CG} {d : DE} {pos : Pos} (h : PE X e (LE W d)) (hg : PG X tg (LG W g)) (hs : swapsWithSole [tg] e pos.line X.env = pure false) (hw : swappedStores [tg] e X.env = pure none)
    (h1 : (assignEach [tg] X.env).map (·.2) = [assign tg X.env]) : PS X (.Assign [tg] e pos) (LS W (sSetG g d)) :=
  (ps_asg h hg hs hw h1).mono fun D σ H ⟨F, P, sd, S, Dd, rs, rl, h, k⟩ => ⟨F, P, sd, S, _, rs, rl, h, fun F1 S1 H1 dv v l1 rs1 rv q => by
    split at q
    · rename_i sd' e
      exact ⟨F1, sd, dv, sd', rs1.sub, rl.mono l1, .inl rv, e, fun σ' rl' _ => k.nx F1 sd' S1 σ' H1 l1 rs1 rl' q⟩
    · exact q.elim⟩
/-- a, b = x, y: two plain local names -/
def sPar (i j : Nat) (d e : DE) : DSt := fun D sd S => d sd S fun x S1 => e sd S1 fun y S2 => D.nx ((sd.set i (some x)).set j (some y)) S2
theorem ls_par {i j : Nat} {x y : Str} {a b : Expr} {da db : DE} {px py pt pos : Pos} {kt k2 pt2} (hc : X.calm = true) (hN : X.N.Nodup) (hi : X.N[i]? = some x) (hj : X.N[j]? = some y) (hij : i ≠ j)
    (hx : X.env.scope.names.lookup x = some .local) (hy : X.env.scope.names.lookup y = some .local) (ha : PE X a (LE W da)) (hb : PE X b (LE W db)) (hs1 : starEach [a, b] X.env = (false, eval a X.env) :: starEach [b] X.env) (hs2 : starEach [b] X.env = (false, eval b X.env) :: starEach [] X.env)
    (hw : swappedStores [.Tuple [.Name x px, .Name y py] kt pt] (.Tuple [a, b] k2 pt2) X.env = pure (some [x, y]))
    (hs : swapsWithSole [.Tuple [.Name x px, .Name y py] kt pt] (.Tuple [a, b] k2 pt2) pos.line X.env = pure false) :
    PS X (.Assign [.Tuple [.Name x px, .Name y py] kt pt] (.Tuple [a, b] k2 pt2) pos) (LS W (sPar i j da db)) :=
  (ps_par hc hN hi hj hij hx hy (pa_cons ha (pa_cons hb pa_nil hs2) hs1) hw hs).mono fun D σ H ⟨F, P, sd, S, Dd, rs, rl, h, k⟩ => by
    refine ⟨F, P, sd, S, _, rs, rl, h, fun F1 S1 H1 dx x l1 rs1 rx q1 => ⟨F1, P, sd, S1, _, rs1, rl.mono l1, q1, fun F2 S2 H2 dy y l2 rs2 ry q2 => ⟨x, y, rfl, ?_⟩⟩⟩
    exact k.nx F2 _ S2 _ H2 (l1.trans l2) rs2 ((((rl.mono l1).mono l2).set (rx.mono l2) i).set ry j) q2
/-- x op= e -/
def sAug (i : Nat) (f : F2) (d : DE) : DSt := fun D sd S => match sd[i]? with
  | some (some x) => d sd S fun y S1 => f x y S1 fun z S2 => D.nx (sd.set i (some z)) S2
  | _ => False
theorem ls_aug {i : Nat} {x : Str} {e : Expr} {d : DE} {op : Operator} {r : R2} {f : F2} {pos pos' : Pos} (hN : X.N.Nodup) (hi : X.N[i]? = some x) (hx : Loc X.env.scope x) (h : PE X e (LE W d)) (ho : OpR X (inplaceOp op) r) (hr : R2Ok W r f) (hf : X.fn x = true ∨ X.env.scope.names.lookup x = some .local) :
    PS X (.AugAssign (.Name x pos') op e pos) (LS W (sAug i f d)) := by
  refine (ps_aug (ti := r) hN hi hx h (fun pins s σ H x y v u Q I rx ry q => ho pins s σ H x y v u Q I rx ry q) hf).mono fun D σ H ⟨F, P, sd, S, Dd, rs, rl, h, k⟩ => ?_
  unfold sAug at h
  split at h
  · rename_i dx e
    obtain ⟨v, hv, rv⟩ := rl.at_ i dx e
    refine ⟨v, hv, F, P, sd, S, _, rs, rl, h, fun F1 S1 H1 dy y l1 rs1 ry q1 => ?_⟩
    exact hr F1 P S1 H1 dx dy v y _ _ rs1 (rv.mono l1) ry q1 fun F2 S2 H2 dz z l2 rs2 rz q2 => k.nx F2 _ S2 _ H2 (l1.trans l2) rs2 (((rl.mono l1).mono l2).set rz i) q2
  · exact h.elim
/-- o[i] = e: a list, a dict -/
def fSetIx : D → D → D → Store → (Store → Prop) → Prop := fun o i v S Q => match o with
  | .ref a => match S a with
    | some (.lst xs) => match i with
      | .int k => match ixN xs.length k with
        | some j => Q (sup S a (.lst (xs.set j v)))
        | none => False
      | _ => False
    | some (.dct kvs) => match keyD i with
      | some k => kvs.length < sizeLine ∧ Q (sup S a (.dct (dput kvs k v)))
      | none => False
    | _ => False
  | _ => False
def sSetIx (o i d : DE) : DSt := fun D sd S => d sd S fun v S1 => o sd S1 fun x S2 => i sd S2 fun y S3 => fSetIx x y v S3 fun S4 => D.nx sd S4
def rSetA : TSet := fun o i v H Q => rSetL o i v H Q ∨ ∃ a H4, o = .ref a ∧ DPut H a i v H4 ∧ Q H4
theorem set_all (hu : X.A.units + 1 < cLine) : PSet X rSetA := by
  intro pins s σ H o i v ov iv u Q I ro ri rv h
  rcases h with h | ⟨a, H4, rfl, g, q⟩
  · exact set_list pins s σ H o i v ov iv u Q I ro ri rv h
  · cases ro
    exact d_setItem hu I g ri rv fun s' I' => ⟨H4, I', q⟩
theorem ls_setIx {o i e : Expr} {do_ di d : DE} {pos pos' : Pos} (hu : X.A.units + 1 < cLine) (ho : PE X o (LE W do_)) (hi : PE X i (LE W di)) (h : PE X e (LE W d))
    (ha : ∀ v, assign (.Subscript o i pos') X.env v = (do
      let ov ← holding [v] (eval o X.env)
      let iv ← holding [v, ov] (eval i X.env)
      standAt pos'
      holding [v, ov, iv] (setItem ov iv v)
      release [v, ov, iv] []))
    (hs : swapsWithSole [.Subscript o i pos'] e pos.line X.env = pure false) (hw : swappedStores [.Subscript o i pos'] e X.env = pure none)
    (h1 : (assignEach [.Subscript o i pos'] X.env).map (·.2) = [assign (.Subscript o i pos') X.env]) : PS X (.Assign [.Subscript o i pos'] e pos) (LS W (sSetIx do_ di d)) := by
  refine (ps_asg h (pg_sub ho hi (set_all hu) ha) hs hw h1).mono fun D σ H ⟨F, P, sd, S, Dd, rs, rl, h, k⟩ => ?_
  refine ⟨F, P, sd, S, _, rs, rl, h, fun F1 S1 H1 dv v l1 rs1 rv q1 => ⟨F1, P, sd, S1, _, rs1, rl.mono l1, q1, fun F2 S2 H2 dx x l2 rs2 rx q2 => ⟨F2, P, sd, S2, _, rs2, (rl.mono l1).mono l2, q2, fun F3 S3 H3 dy y l3 rs3 ry q3 => ?_⟩⟩⟩
  have rv3 := (rv.mono l2).mono l3
  have fin := fun S4 H4 rs4 q => k.nx F3 sd S4 σ H4 ((l1.trans l2).trans l3) rs4 (((rl.mono l1).mono l2).mono l3) q
  unfold fSetIx at q3
  split at q3
  · cases rx
    rename_i a
    split at q3
    · rename_i xs es
      split at q3
      · cases ry
        split at q3
        · rename_i j ej
          obtain ⟨_, u, hu', ru⟩ := rs3.obj _ _ es
          cases ru with
          | lst r =>
            refine .inl ⟨a, _, _, j, rfl, rfl, hu', by rw [← r.length]; exact ej, fin _ _ (rs3.wrote es ?_ (.lst (r.set rv3 j))) q3⟩
            show (_ : List V).length ≤ _
            rw [List.length_set]
            exact rs3.sz _ _ hu'
        · exact q3.elim
      · exact q3.elim
    · rename_i kvs es
      split at q3
      · rename_i kk ek
        obtain ⟨_, u, hu', ru⟩ := rs3.obj _ _ es
        cases ru with
        | dct r =>
          rename_i ws
          have hl : ws.length < sizeLine := by have := q3.1; rw [r.length] at this; exact this
          cases keyD_ok ry ek
          refine .inr ⟨a, _, rfl, DPut.k hu' hl, fin _ _ (rs3.wrote es ?_ (.dct (r.put rv3))) q3.2⟩
          show (_ : List (Key × V)).length ≤ _
          exact Nat.le_trans (length_putK _ _ _) hl
      · exact q3.elim
    · exact q3.elim
  · exact q3.elim
/-- while: some number of turns -/
def whileN (c : DT) (b : DSt) (D : DEnds) : Nat → Slots → Store → Prop
  | 0, _, _ => False
  | n + 1, sd, S => c sd S fun k S1 => if k = true then b { D with nx := fun sd' S' => whileN c b D n sd' S', ct := fun sd' S' => whileN c b D n sd' S', bk := D.nx } sd S1 else D.nx sd S1
def sWhile (c : DT) (b : DSt) : DSt := fun D sd S => ∃ n, whileN c b D n sd S
theorem ls_while {c : Expr} {body : List Stmt} {t : DT} {b : DSt} {pos : Pos} (hp : PassesOwn (model X.prog X.w) X.A X.env X.xe) (hc : PT X c (LT W t)) (hb : PSs X body (LS W b)) : PS X (.While c body [] pos) (LS W (sWhile t b)) := by
  refine (ps_while hp hc hb).mono fun D σ H ⟨F, P, sd, S, Dd, rs, rl, ⟨n, h⟩, k⟩ => ?_
  refine ⟨fun m σ H => ∃ F' sd' S', Le F F' ∧ RS W F' P S' H ∧ RSl W F' sd' σ ∧ whileN t b Dd m sd' S', ⟨n, F, sd, S, Le.refl F, rs, rl, h⟩, ?_⟩
  rintro m σ H ⟨F1, sd1, S1, l1, rs1, rl1, h1⟩
  cases m with
  | zero => exact h1.elim
  | succ m =>
    refine ⟨F1, P, sd1, S1, _, rs1, rl1, h1, fun F2 S2 H2 kk l2 rs2 q => ?_⟩
    cases kk with
    | false =>
      simp only [Bool.false_eq_true, if_false] at q ⊢
      exact k.nx F2 sd1 S2 σ H2 (l1.trans l2) rs2 (rl1.mono l2) q
    | true =>
      simp only [if_true] at q ⊢
      refine ⟨fun σ' H' => ∃ F' sd' S', Le F F' ∧ RS W F' P S' H' ∧ RSl W F' sd' σ' ∧ whileN t b Dd m sd' S', fun σ' H' w => ⟨m, Nat.lt_succ_self m, w⟩, ?_⟩
      have nxt : ∀ F' sd' S' σ' H', Le F2 F' → RS W F' P S' H' → RSl W F' sd' σ' → whileN t b Dd m sd' S' → ∃ F' sd' S', Le F F' ∧ RS W F' P S' H' ∧ RSl W F' sd' σ' ∧ whileN t b Dd m sd' S' :=
        fun F' sd' S' σ' H' l rs' rl' w => ⟨F', sd', S', (l1.trans l2).trans l, rs', rl', w⟩
      exact ⟨F2, P, sd1, S2, _, rs2, rl1.mono l2, q, ⟨nxt, (k.rt.le l1).le l2, fun F' sd' S' σ' H' l => k.nx F' sd' S' σ' H' ((l1.trans l2).trans l), nxt⟩⟩
/-- for -/
def forL (chk : Store → Prop) (g : CG) (b : DSt) (E : DEnds) : List D → Slots → Store → Prop
  | [], sd, S => chk S ∧ E.nx sd S
  | x :: xs, sd, S => chk S ∧ match gset g x sd with
    | some sd' => b { E with nx := fun sd2 S2 => forL chk g b E xs sd2 S2, ct := fun sd2 S2 => forL chk g b E xs sd2 S2, bk := E.nx } sd' S
    | none => False
def sFor (i : DI) (g : CG) (b : DSt) : DSt := fun D sd S => i sd S fun src S1 => forL src.chk g b D src.xs sd S1
theorem drop_cons {α : Type} {xs : List α} {i : Nat} (h : i < xs.length) : ∃ x, xs[i]? = some x ∧ xs.drop i = x :: xs.drop (i + 1) := ⟨xs[i], List.getElem?_eq_getElem h, List.drop_eq_getElem_cons h⟩
theorem ls_for {tg iter : Expr} {body : List Stmt} {g : CG} {di : DI} {b : DSt} {pos : Pos} {tk : Bool} (hp : PassesOwn (model X.prog X.w) X.A X.env X.xe) (hc : X.calm = true) (hi : PI X tg iter (LI W tk di)) (hg : PG X tg (LG W g)) (hb : PSs X body (LS W b)) (htk : tk = false ∨ isTupG g = true)
    (hs : ∀ x, foldedSetIterable iter X.env x = pure x) : PS X (.For tg iter body [] pos) (LS W (sFor di g b)) := by
  refine (ps_for hp hc hi hg hb hs).mono fun D σ H ⟨F, P, sd, S, Dd, rs, rl, h, k⟩ => ?_
  refine ⟨F, P, sd, S, _, rs, rl, h, fun F0 S0 H0 J src l0 rs0 ok key q0 => ?_⟩
  refine ⟨fun i m σ H => i ≤ src.xs.length ∧ m = src.xs.length - i ∧ ∃ F' sd' S', Le F0 F' ∧ RS W F' P S' H ∧ RSl W F' sd' σ ∧ forL src.chk g b Dd (src.xs.drop i) sd' S', ⟨src.xs.length, Nat.zero_le _, by simp, F0, sd, S0, Le.refl _, rs0, rl.mono l0, by simpa using q0⟩, ?_⟩
  rintro i m σ H ⟨hi, rfl, F1, sd1, S1, l1, rs1, rl1, h1⟩
  by_cases hlt : i < src.xs.length
  · obtain ⟨x, ex, ed⟩ := drop_cons hlt
    rw [ed] at h1
    obtain ⟨hchk, h1⟩ := h1
    obtain ⟨hgo, hy⟩ := ok.go F1 P S1 H i x l1 rs1 hchk ex
    refine .inr ⟨hgo, fun σ' H' => ∃ F' sd' S', Le F0 F' ∧ RS W F' P S' H' ∧ RSl W F' sd' σ' ∧ forL src.chk g b Dd (src.xs.drop (i + 1)) sd' S', fun σ' H' w => ⟨src.xs.length - (i + 1), by omega, hlt, rfl, w⟩, fun v H' y => ?_⟩
    split at h1
    · rename_i sd2 eg
      have fin : ∀ F2, Le F1 F2 → RS W F2 P S1 H' → (Rp W F2 x v ∨ (isTupG g = true ∧ RpI W F2 x v)) → LG W g v σ H' fun σ2 H2 => LS W b ⟨fun σ' H' => ∃ F' sd' S', Le F0 F' ∧ RS W F' P S' H' ∧ RSl W F' sd' σ' ∧ forL src.chk g b Dd (src.xs.drop (i + 1)) sd' S', D.rt, D.nx, fun σ' H' => ∃ F' sd' S', Le F0 F' ∧ RS W F' P S' H' ∧ RSl W F' sd' σ' ∧ forL src.chk g b Dd (src.xs.drop (i + 1)) sd' S'⟩ σ2 H2 := by
        intro F2 l2 rs2 r2
        refine ⟨F2, sd1, x, sd2, rs2.sub, rl1.mono l2, r2, eg, fun σ' rl' _ => ⟨F2, P, sd2, S1, _, rs2, rl', h1, ?_⟩⟩
        have l02 := l1.trans l2
        exact ⟨fun F' sd' S' σ' H' l rs' rl' w => ⟨F', sd', S', l02.trans l, rs', rl', w⟩, (k.rt.le l0).le l02, fun F' sd' S' σ' H' l => k.nx F' sd' S' σ' H' ((l0.trans l02).trans l), fun F' sd' S' σ' H' l rs' rl' w => ⟨F', sd', S', l02.trans l, rs', rl', w⟩⟩
      rcases htk with htk | htk
      · obtain ⟨F2, l2, rs2, r2⟩ := key htk F1 P S1 H i x l1 rs1 hchk ex v H' y
        exact fin F2 l2 rs2 (.inl r2)
      · obtain ⟨F2, l2, rs2, r2⟩ := hy v H' y
        exact fin F2 l2 rs2 (.inr ⟨htk, r2⟩)
    · exact h1.elim
  · have e : i = src.xs.length := by omega
    subst e
    rw [List.drop_length] at h1
    obtain ⟨hchk, h1⟩ := h1
    exact .inl ⟨ok.stop F1 P S1 H l1 rs1 hchk, k.nx F1 sd1 S1 σ H (l0.trans l1) rs1 rl1 h1⟩
/-- a name's mutable thing becomes a value (nothing of the text) -/
def frzD (S : Store) (a : Addr) : Option D := match S a with
  | some (.lst xs) => some (.lst xs)
  | some (.dct kvs) => some (.dct kvs)
  | _ => none
def sFrz (i : Nat) : DSt := fun D sd S => match sd[i]? with
  | some (some (.ref a)) => match frzD S a with
    | some d => D.nx (sd.set i (some d)) (sdel S a)
    | none => False
  | _ => False
theorem RS.frz (rs : RS W F P S H) {a : Addr} {d : D} (h : frzD S a = some d) : ∃ F', Le F F' ∧ RS W F' P (sdel S a) H ∧ Rp W F' d (.ref a) := by
  unfold frzD at h
  have go : ∀ (o : O) (u : HO), S a = some o → H a = some u → F a = Option.none → RpO W F o u → RS W (upd F a u) P (sdel S a) H := by
    intro o u hs hu nF r
    refine ⟨rs.sz, fun b q e => ?_, rs.prs, fun b q e => ?_, fun b q e => ?_⟩
    · by_cases z : b = a
      · subst z; rw [upd_same] at e; cases e; exact .inl hu
      · rw [upd_ne z] at e; exact rs.sub b q e
    · obtain ⟨h1, h2⟩ := rs.dis b q e
      have z : b ≠ a := by rintro rfl; rw [h1] at hs; cases hs
      refine ⟨by unfold sdel; rw [if_neg z]; exact h1, ?_⟩
      rw [upd_ne z]; exact h2
    · unfold sdel at e
      split at e
      · cases e
      · rename_i z
        obtain ⟨h1, w, h2, h3⟩ := rs.obj b q e
        exact ⟨by rw [upd_ne z]; exact h1, w, h2, h3.mono (Le.upd nF)⟩
  split at h
  · rename_i xs e
    cases h
    obtain ⟨nF, u, hu, ru⟩ := rs.obj _ _ e
    have rs' := go _ u e hu nF ru
    cases ru with
    | lst r => exact ⟨_, Le.upd nF, rs', .lst (.inl upd_same) (r.mono (Le.upd nF))⟩
  · rename_i xs e
    cases h
    obtain ⟨nF, u, hu, ru⟩ := rs.obj _ _ e
    have rs' := go _ u e hu nF ru
    cases ru with
    | dct r => exact ⟨_, Le.upd nF, rs', .dct (.inl upd_same) (r.mono (Le.upd nF))⟩
  · cases h
theorem ls_frz {i : Nat} {sts : List Stmt} {b : DSt} (h : PSs X sts (LS W b)) : PSs X sts (LS W (sSeq (sFrz i) b)) :=
  h.mono fun D σ H ⟨F, P, sd, S, Dd, rs, rl, q, k⟩ => by
    unfold sSeq sFrz at q
    split at q
    · rename_i a e
      split at q
      · rename_i d ed
        obtain ⟨F', l, rs', r⟩ := rs.frz ed
        obtain ⟨v, hv, rv⟩ := rl.at_ i _ e
        cases rv
        have hl : i < σ.length := (List.getElem?_eq_some_iff.mp hv).1
        have e2 : σ.set i (some (.ref a)) = σ := by
          apply List.ext_getElem?
          intro j
          by_cases z : j = i
          · subst z; rw [List.getElem?_set_self hl, hv]
          · rw [List.getElem?_set_ne (Ne.symm z)]
        have rl' := (rl.mono l).set r i
        rw [e2] at rl'
        exact ⟨F', P, _, _, Dd, rs', rl', q, k.le l⟩
      · exact q.elim
    · exact q.elim
end DL
set_option Elab.async false
set_option linter.all false
set_option maxRecDepth 100000
set_option maxHeartbeats 1000000
/-! DL7: comprehensions, enumerate, zip, calls of one's own defs, a def by its body. -/
namespace DL
open PySem L2
variable {W : Wd} {F F' F'' P : Hp} {S S' : Store} {H H' : Hp} {X : Cx}

/-! ### enumerate, zip: lists -/
def fEnum : D → Store → (Src → Store → Prop) → Prop := fun d S R => match d with
  | .lst xs => R ⟨fun _ => True, xs.zipIdx.map fun p => .tup [.int (p.2 : Nat), p.1]⟩ S
  | .ref a => match S a with
    | some (.lst xs) => R ⟨fun S' => S' a = some (.lst xs), xs.zipIdx.map fun p => .tup [.int (p.2 : Nat), p.1]⟩ S
    | _ => False
  | _ => False
def dEnum (d : DE) : DI := fun sd S R => d sd S fun x S1 => fEnum x S1 R
theorem enum_get {xs : List D} {i : Nat} {d : D} (h : (xs.zipIdx.map fun p => D.tup [.int (p.2 : Nat), p.1])[i]? = some d) : ∃ x, xs[i]? = some x ∧ d = .tup [.int (i : Nat), x] := by
  rw [List.getElem?_map, List.getElem?_zipIdx] at h
  cases e : xs[i]? with
  | none => rw [e] at h; cases h
  | some x => rw [e] at h; simp at h; exact ⟨x, rfl, h.symm⟩
/-- a new tuple that is only taken apart -/
theorem yld_tup (rs : RS W F P S H) {T : Addr} {ds : List D} {vs : List V} (n : H T = none) (z : vs.length ≤ sizeLine) (r : Rps W F ds vs) : ∃ F'', Le F F'' ∧ RS W F'' P S (upd H T (.tup vs)) ∧ RpI W F'' (.tup ds) (.ref T) := by
  obtain ⟨l, rs'⟩ := rs.frozen (u := .tup vs) n z
  exact ⟨_, l, rs', .inr ⟨T, vs, ds, rfl, rfl, .of upd_same, r.mono l⟩⟩
theorem two_sz {a b : V} : [a, b].length ≤ sizeLine := by show 2 ≤ sizeLine; decide
theorem SrcOk.enum {K : PySem.W.Frag} {a : Addr} {xs : List D} {chk : Store → Prop} (hz : xs.length ≤ sizeLine)
    (h : ∀ F' P' S' H', Le F F' → RS W F' P' S' H' → chk S' → ∃ vs, SqL K H' a vs ∧ Rps W F' xs vs) : SrcOk W F P (Ite K a) ⟨chk, xs.zipIdx.map fun p => .tup [.int (p.2 : Nat), p.1]⟩ := by
  refine ⟨by simpa using hz, fun F' P' S' H' i d l rs c e => ?_, fun F' P' S' H' l rs c => ?_⟩
  · obtain ⟨x, ex, rfl⟩ := enum_get e
    obtain ⟨vs, hq, rr⟩ := h F' P' S' H' l rs c
    obtain ⟨v, hv, rv⟩ := rr.get ex
    refine ⟨⟨vs, v, hq, hv⟩, ?_⟩
    rintro y H'' ⟨T, w, rfl, hT, rfl, hy⟩
    have := hy vs hq
    rw [hv] at this; cases this
    exact yld_tup rs hT two_sz (.cons (.int _) (.cons rv .nil))
  · obtain ⟨vs, hq, rr⟩ := h F' P' S' H' l rs c
    exact ⟨vs, hq, by simp [rr.length]⟩
theorem li_enum {e : Expr} {d : DE} {elts : List Expr} {kk : Nat} {tpos p pos : Pos} (hK : X.K = W.K) (hg : Gl X "enumerate") (hm : X.mg "enumerate" = none) (h : PE X e (LE W d)) (hs : starEach [e] X.env = [(false, eval e X.env)]) :
    PI X (.Tuple elts kk tpos) (.Call (.Name "enumerate" p) [e] [] pos) (LI W true (dEnum d)) := by
  refine PI.mono (pi_enum hg hm (pa_cons h pa_nil hs) hs) fun σ H R ⟨F, P, sd, S, Rd, rs, rl, q, k⟩ => ?_
  refine ⟨F, P, sd, S, _, rs, rl, q, fun F1 S1 H1 dx x l1 rs1 rx q1 => ?_⟩
  unfold fEnum at q1
  split at q1
  · cases rx with
    | lst h1 r1 =>
      have hz : _ ≤ sizeLine := Nat.le_trans (Nat.le_of_eq r1.length) (szRd rs1.sz (rs1.sub.rd h1))
      exact ⟨_, _, rfl, .inl (rs1.sub.rd h1), k F1 S1 H1 _ _ l1 rs1 (SrcOk.enum (P := P) (K := X.K) (chk := fun _ => True) hz (fun F' P' S' H' l rs' _ => ⟨_, .inl (rs'.sub.rd (l.rd h1)), r1.mono l⟩)) (fun z => nomatch z) q1⟩
  · cases rx
    rename_i a
    split at q1
    · rename_i xs e
      obtain ⟨_, u, hu, ru⟩ := rs1.obj _ _ e
      cases ru with
      | lst r1 =>
        have hz : _ ≤ sizeLine := Nat.le_trans (Nat.le_of_eq r1.length) (rs1.sz _ _ hu)
        exact ⟨_, _, rfl, .of hu, k F1 S1 H1 _ _ l1 rs1 (SrcOk.enum (F := F1) (P := P) (K := X.K) (a := a) (chk := fun S' => S' a = some (.lst xs)) hz (fun F' P' S' H' l rs' c => by
          obtain ⟨_, u', hu', ru'⟩ := rs'.obj _ _ c
          cases ru' with
          | lst r' => exact ⟨_, .of hu', r'⟩)) (fun z => nomatch z) q1⟩
    · exact q1.elim
  · exact q1.elim
def zipD : List D → List D → List D
  | x :: xs, y :: ys => .tup [x, y] :: zipD xs ys
  | _, _ => []
/-- a list, the state it must be in -/
def asLc (S : Store) : D → Option ((Store → Prop) × List D)
  | .lst xs => some (fun _ => True, xs)
  | .ref a => match S a with | some (.lst xs) => some (fun S' => S' a = some (.lst xs), xs) | _ => none
  | _ => none
theorem asLc_ok {d : D} {v : V} {c : Store → Prop} {xs : List D} (rs : RS W F P S H) (r : Rp W F d v) (h : asLc S d = some (c, xs)) : ∃ a, v = .ref a ∧ xs.length ≤ sizeLine ∧ c S ∧ ∀ F' P' S' H', Le F F' → RS W F' P' S' H' → c S' → ∃ vs, Rd H' a (.lst vs) ∧ Rps W F' xs vs := by
  cases r with
  | lst h1 r1 =>
    simp only [asLc] at h
    cases h
    exact ⟨_, rfl, Nat.le_trans (Nat.le_of_eq r1.length) (szRd rs.sz (rs.sub.rd h1)), trivial, fun F' P' S' H' l rs' _ => ⟨_, rs'.sub.rd (l.rd h1), r1.mono l⟩⟩
  | ref a =>
    simp only [asLc] at h
    split at h
    · rename_i ys e
      cases h
      obtain ⟨_, u, hu, ru⟩ := rs.obj _ _ e
      cases ru with
      | lst r1 =>
        refine ⟨a, rfl, Nat.le_trans (Nat.le_of_eq r1.length) (rs.sz _ _ hu), e, fun F' P' S' H' l rs' c => ?_⟩
        obtain ⟨_, u', hu', ru'⟩ := rs'.obj _ _ c
        cases ru' with
        | lst r' => exact ⟨_, .inl hu', r'⟩
    · cases h
  | _ => simp only [asLc] at h; cases h
def fZip : D → D → Store → (Src → Store → Prop) → Prop := fun x y S R => match asLc S x, asLc S y with
  | some (c, xs), some (c', ys) => R ⟨fun S' => c S' ∧ c' S', zipD xs ys⟩ S
  | _, _ => False
def dZip (d e : DE) : DI := fun sd S R => d sd S fun x S1 => e sd S1 fun y S2 => fZip x y S2 R
theorem zipD_get : ∀ {xs ys : List D} {i : Nat} {d : D}, (zipD xs ys)[i]? = some d → ∃ x y, xs[i]? = some x ∧ ys[i]? = some y ∧ d = .tup [x, y]
  | [], _, _, _, h => by simp [zipD] at h
  | _ :: _, [], _, _, h => by simp [zipD] at h
  | x :: xs, y :: ys, 0, d, h => by simp [zipD] at h; exact ⟨x, y, rfl, rfl, h.symm⟩
  | x :: xs, y :: ys, i + 1, d, h => by
    have h : (zipD xs ys)[i]? = some d := by simpa [zipD] using h
    obtain ⟨a, b, e1, e2, e3⟩ := zipD_get h
    exact ⟨a, b, by simpa using e1, by simpa using e2, e3⟩
theorem zipD_len : ∀ {xs ys : List D}, (zipD xs ys).length = min xs.length ys.length
  | [], _ => by simp [zipD]
  | _ :: _, [] => by simp [zipD]
  | x :: xs, y :: ys => by simp [zipD, zipD_len (xs := xs) (ys := ys)] <;> omega
theorem li_zip {e e2 : Expr} {d d2 : DE} {elts : List Expr} {kk : Nat} {tpos p pos : Pos} (hK : X.K = W.K) (hg : Gl X "zip") (hm : X.mg "zip" = none) (h : PE X e (LE W d)) (h2 : PE X e2 (LE W d2)) (hs : starEach [e, e2] X.env = (false, eval e X.env) :: starEach [e2] X.env) (hs2 : starEach [e2] X.env = (false, eval e2 X.env) :: starEach [] X.env) :
    PI X (.Tuple elts kk tpos) (.Call (.Name "zip" p) [e, e2] [] pos) (LI W true (dZip d d2)) := by
  refine PI.mono (pi_zip hg hm (pa_cons h (pa_cons h2 pa_nil hs2) hs) hs (by rw [hs2]; rfl)) fun σ H R ⟨F, P, sd, S, Rd, rs, rl, q, k⟩ => ?_
  refine ⟨F, P, sd, S, _, rs, rl, q, fun F1 S1 H1 dx x l1 rs1 rx q1 => ⟨F1, P, sd, S1, _, rs1, rl.mono l1, q1, fun F2 S2 H2 dy y l2 rs2 ry q2 => ?_⟩⟩
  unfold fZip at q2
  split at q2
  · rename_i c xs c' ys e1 e2
    obtain ⟨a, rfl, z1, c1, g1⟩ := asLc_ok rs2 (rx.mono l2) e1
    obtain ⟨b, rfl, z2, c2, g2⟩ := asLc_ok rs2 ry e2
    obtain ⟨vs, hv, rv⟩ := g1 F2 P S2 H2 (Le.refl _) rs2 c1
    obtain ⟨us, hu, ru⟩ := g2 F2 P S2 H2 (Le.refl _) rs2 c2
    refine ⟨a, b, vs, us, rfl, .inl hv, .inl hu, k F2 S2 H2 _ _ (l1.trans l2) rs2 ⟨?_, ?_, ?_⟩ (fun z => nomatch z) q2⟩
    · show (zipD xs ys).length ≤ _
      rw [zipD_len]; omega
    · intro F' P' S' H' i d l rs' c e
      obtain ⟨x, y, ex, ey, rfl⟩ := zipD_get e
      obtain ⟨vs', hv', rv'⟩ := g1 F' P' S' H' l rs' c.1
      obtain ⟨us', hu', ru'⟩ := g2 F' P' S' H' l rs' c.2
      obtain ⟨v, hv2, rv2⟩ := rv'.get ex
      obtain ⟨u, hu2, ru2⟩ := ru'.get ey
      refine ⟨⟨vs', us', v, u, .inl hv', .inl hu', hv2, hu2⟩, ?_⟩
      rintro z H'' ⟨T, x1, y1, rfl, hT, rfl, hy1, hy2⟩
      have t1 := hy1 vs' (.inl hv')
      have t2 := hy2 us' (.inl hu')
      rw [hv2] at t1; cases t1
      rw [hu2] at t2; cases t2
      exact yld_tup rs' hT two_sz (.cons rv2 (.cons ru2 .nil))
    · intro F' P' S' H' l rs' c
      obtain ⟨vs', hv', rv'⟩ := g1 F' P' S' H' l rs' c.1
      obtain ⟨us', hu', ru'⟩ := g2 F' P' S' H' l rs' c.2
      refine ⟨vs', us', .inl hv', .inl hu', ?_⟩
      show _ ≤ (zipD xs ys).length ∨ _
      rw [zipD_len, rv'.length, ru'.length]
      omega
  · exact q2.elim

/-! ### comprehensions -/
def dwipe (sd : Slots) : List Nat → Slots
  | [] => sd
  | v :: vs => (dwipe sd vs).set v none
theorem dwipe_len (sd : Slots) : ∀ vs, (dwipe sd vs).length = sd.length
  | [] => rfl
  | v :: vs => by unfold dwipe; rw [List.length_set, dwipe_len sd vs]
theorem RSl.wipe {sd : Slots} {σ : St} (rl : RSl W F sd σ) : ∀ vs, RSl W F (dwipe sd vs) (wipe σ vs)
  | [] => rl
  | v :: vs => by
    have ih := RSl.wipe rl vs
    refine ⟨by rw [dwipe_len, wipe_length]; exact rl.len, fun i d h => ?_⟩
    unfold dwipe at h
    unfold L2.wipe
    by_cases e : v = i
    · subst e
      by_cases hl : v < (dwipe sd vs).length
      · rw [List.getElem?_set_self hl] at h; cases h
      · rw [List.getElem?_eq_none (by rw [List.length_set]; omega)] at h; cases h
    · rw [List.getElem?_set_ne e] at h ⊢
      exact ih.at_ i d h
theorem RS.pin (rs : RS W F P S H) {p : Addr} {u : HO} (n : H p = Option.none) (z : szO u) : RS W F (upd P p u) S (upd H p u) := by
  obtain ⟨nF, nP, nS⟩ := rs.none n
  refine ⟨sz_upd rs.sz z, rs.sub.upd nF, fun a o h => ?_, fun a o h => ?_, fun a q h => ?_⟩
  · by_cases e : a = p
    · subst e; rw [upd_same] at h ⊢; exact h
    · rw [upd_ne e] at h ⊢; exact rs.prs _ _ h
  · by_cases e : a = p
    · subst e; exact ⟨nS, .inl nF⟩
    · rw [upd_ne e] at h; exact rs.dis _ _ h
  · obtain ⟨h1, w, h2, h3⟩ := rs.obj _ _ h
    exact ⟨h1, w, by rw [upd_ne (ne_of_none h2 n)]; exact h2, h3⟩
theorem RS.repin {p : Addr} {u u' : HO} (rs : RS W F (upd P p u) S H) (nf : ∀ o v, u ≠ .frz o v) (z : szO u') : RS W F (upd P p u') S (upd H p u') := by
  obtain ⟨nS, nF⟩ := rs.dis p u upd_same
  have nF : F p = Option.none := nF.resolve_right fun ⟨o, v, e⟩ => nf o v e
  refine ⟨sz_upd rs.sz z, rs.sub.upd nF, fun a o h => ?_, fun a o h => ?_, fun a q h => ?_⟩
  · by_cases e : a = p
    · subst e; rw [upd_same] at h ⊢; exact h
    · rw [upd_ne e] at h ⊢; exact rs.prs _ _ (by rw [upd_ne e]; exact h)
  · by_cases e : a = p
    · subst e; exact ⟨nS, .inl nF⟩
    · rw [upd_ne e] at h; exact rs.dis _ _ (by rw [upd_ne e]; exact h)
  · have e : a ≠ p := by rintro rfl; rw [nS] at h; cases h
    obtain ⟨h1, w, h2, h3⟩ := rs.obj _ _ h
    exact ⟨h1, w, by rw [upd_ne e]; exact h2, h3⟩
/-- the pinned thing is let loose: as a value -/
theorem RS.unpinF {p : Addr} {u : HO} (rs : RS W F (upd P p u) S H) (nP : P p = Option.none) (nf : ∀ o v, u ≠ .frz o v) : Le F (upd F p u) ∧ RS W (upd F p u) P S H := by
  obtain ⟨nS, nF⟩ := rs.dis p u upd_same
  have nF : F p = Option.none := nF.resolve_right fun ⟨o, v, e⟩ => nf o v e
  have hp : H p = some u := rs.prs p u upd_same
  refine ⟨Le.upd nF, rs.sz, fun a o h => ?_, fun a o h => ?_, fun a o h => ?_, fun a q h => ?_⟩
  · by_cases e : a = p
    · subst e; rw [upd_same] at h; cases h; exact .inl hp
    · rw [upd_ne e] at h; exact rs.sub _ _ h
  · exact rs.prs _ _ (by rw [upd_ne (ne_of_none h nP)]; exact h)
  · have e := ne_of_none h nP
    rw [upd_ne e]
    exact rs.dis _ _ (by rw [upd_ne e]; exact h)
  · have e : a ≠ p := by rintro rfl; rw [nS] at h; cases h
    obtain ⟨h1, w, h2, h3⟩ := rs.obj _ _ h
    exact ⟨by rw [upd_ne e]; exact h1, w, h2, h3.mono (Le.upd nF)⟩
/-- .. as a mutable thing -/
theorem RS.unpinS {p : Addr} {u : HO} {o : O} (rs : RS W F (upd P p u) S H) (nP : P p = Option.none) (nf : ∀ o v, u ≠ .frz o v) (r : RpO W F o u) : RS W F P (sup S p o) H := by
  obtain ⟨nS, nF⟩ := rs.dis p u upd_same
  have nF : F p = Option.none := nF.resolve_right fun ⟨o, v, e⟩ => nf o v e
  have hp : H p = some u := rs.prs p u upd_same
  refine ⟨rs.sz, rs.sub, fun a o h => ?_, fun a o h => ?_, fun a q h => ?_⟩
  · exact rs.prs _ _ (by rw [upd_ne (ne_of_none h nP)]; exact h)
  · have e := ne_of_none h nP
    rw [sup_ne e]
    exact rs.dis _ _ (by rw [upd_ne e]; exact h)
  · by_cases e : a = p
    · subst e; rw [sup_same] at h; cases h; exact ⟨nF, u, hp, r⟩
    · rw [sup_ne e] at h; exact rs.obj _ _ h
theorem RS.pinned {p : Addr} {u : HO} (rs : RS W F (upd P p u) S H) : H p = some u := rs.prs p u upd_same

def lcL (chk : Store → Prop) (g : CG) (vs : List Nat) (t : DT) (e : DE) (sd : Slots) : List D → List D → Store → (List D → Store → Prop) → Prop
  | [], acc, S, Q => chk S ∧ Q acc S
  | x :: xs, acc, S, Q => chk S ∧ match gset g x (dwipe sd vs) with
    | some sd' => t sd' S fun k S1 => if k = true then e sd' S1 fun y S2 => lcL chk g vs t e sd xs (acc ++ [y]) S2 Q else lcL chk g vs t e sd xs acc S1 Q
    | none => False
def dLc (own : Bool) (i : DI) (g : CG) (vs : List Nat) (t : DT) (e : DE) : DE := fun sd S Q => i sd S fun src S1 => lcL src.chk g vs t e sd src.xs [] S1 fun ys S2 => mkL own ys S2 Q
theorem nfrz_lst {vs : List V} : ∀ o v, HO.lst vs ≠ .frz o v := fun o v z => by cases z
theorem nfrz_dK {vs : List (Key × V)} : ∀ o v, HO.dK vs ≠ .frz o v := fun o v z => by cases z
theorem lift_lc {own : Bool} {tk : Bool} {di : DI} {g : CG} {vs : List Nat} {t : DT} {e : DE} (hsub : ∀ i ∈ gslots g, i ∈ vs) (htk : tk = false ∨ isTupG g = true) :
    ∀ σ H Q, LE W (dLc own di g vs t e) σ H Q → tLc (LI W tk di) (LG W g) (LT W t) (LE W e) vs σ H Q := by
  rintro σ H Q ⟨F, P, sd, S, Qd, rs, rl, h, k⟩
  refine ⟨F, P, sd, S, _, rs, rl, h, fun F0 S0 H0 J src l0 rs0 ok key q0 p hp => ?_⟩
  obtain ⟨nF0, nP0, nS0⟩ := rs0.none hp
  refine ⟨fun i m H => i ≤ src.xs.length ∧ m = src.xs.length - i ∧ ∃ F' S' acc us, Le F0 F' ∧ RS W F' (upd P p (.lst us)) S' H ∧ Rps W F' acc us ∧ acc.length ≤ i ∧
    lcL src.chk g vs t e sd (src.xs.drop i) acc S' (fun ys S2 => mkL own ys S2 Qd), ⟨src.xs.length, Nat.zero_le _, by simp, F0, S0, [], [], Le.refl _, rs0.pin hp (Nat.zero_le _), .nil, Nat.zero_le _, by simpa using q0⟩, ?_⟩
  rintro i m H ⟨hi, rfl, F1, S1, acc, us, l1, rs1, ra, hal, h1⟩
  by_cases hlt : i < src.xs.length
  · obtain ⟨x, ex, ed⟩ := drop_cons hlt
    rw [ed] at h1
    obtain ⟨hchk, h1⟩ := h1
    obtain ⟨hgo, hy⟩ := ok.go F1 _ S1 H i x l1 rs1 hchk ex
    refine .inr ⟨hgo, fun H' => ∃ F' S' acc us, Le F0 F' ∧ RS W F' (upd P p (.lst us)) S' H' ∧ Rps W F' acc us ∧ acc.length ≤ i + 1 ∧
      lcL src.chk g vs t e sd (src.xs.drop (i + 1)) acc S' (fun ys S2 => mkL own ys S2 Qd), fun H' w => ⟨src.xs.length - (i + 1), by omega, hlt, rfl, w⟩, fun v H' y => ?_⟩
    split at h1
    · rename_i sd2 eg
      have fin : ∀ F2, Le F1 F2 → RS W F2 (upd P p (.lst us)) S1 H' → (Rp W F2 x v ∨ (isTupG g = true ∧ RpI W F2 x v)) → LG W g v (wipe σ vs) H' fun σ2 H2 => wipe σ2 vs = wipe σ vs ∧ LT W t σ2 H2 fun b H3 =>
          if b = true then LE W e σ2 H3 fun y H4 => ∃ acc, H4 p = some (.lst acc) ∧ acc.length < sizeLine ∧ ∃ F' S' acc' us, Le F0 F' ∧ RS W F' (upd P p (.lst us)) S' (upd H4 p (.lst (acc ++ [y]))) ∧ Rps W F' acc' us ∧ acc'.length ≤ i + 1 ∧ lcL src.chk g vs t e sd (src.xs.drop (i + 1)) acc' S' (fun ys S2 => mkL own ys S2 Qd)
          else ∃ F' S' acc' us, Le F0 F' ∧ RS W F' (upd P p (.lst us)) S' H3 ∧ Rps W F' acc' us ∧ acc'.length ≤ i + 1 ∧ lcL src.chk g vs t e sd (src.xs.drop (i + 1)) acc' S' (fun ys S2 => mkL own ys S2 Qd) := by
        intro F2 l2 rs2 r2
        have l02 := l1.trans l2
        have rlw := ((rl.mono l0).mono l02).wipe vs
        refine ⟨F2, dwipe sd vs, x, sd2, rs2.sub, rlw, r2, eg, fun σ2 rl2 off => ⟨?_, F2, _, sd2, S1, _, rs2, rl2, h1, fun F3 S3 H3 b l3 rs3 q3 => ?_⟩⟩
        · rw [off.wipe hsub]
          apply List.ext_getElem?
          intro j
          by_cases hj : j ∈ vs
          · by_cases hl : j < σ.length
            · rw [wipe_at hj (by rw [wipe_length]; exact hl), wipe_at hj hl]
            · rw [List.getElem?_eq_none (by rw [wipe_length, wipe_length]; omega), List.getElem?_eq_none (by rw [wipe_length]; omega)]
          · rw [wipe_get hj]
        · cases b with
          | false =>
            simp only [Bool.false_eq_true, if_false] at q3 ⊢
            exact ⟨F3, S3, acc, us, l02.trans l3, rs3, (ra.mono l2).mono l3, by omega, q3⟩
          | true =>
            simp only [if_true] at q3 ⊢
            refine ⟨F3, _, sd2, S3, _, rs3, rl2.mono l3, q3, fun F4 S4 H4 dy y l4 rs4 ry q4 => ?_⟩
            have ra4 := ((ra.mono l2).mono l3).mono l4
            have hz : us.length < sizeLine := by
              have := ok.len
              rw [← ra4.length]; omega
            refine ⟨us, rs4.pinned, hz, F4, S4, acc ++ [dy], us ++ [y], (l02.trans l3).trans l4, rs4.repin nfrz_lst ?_, ra4.app (.cons ry .nil), by rw [List.length_append]; simp; omega, q4⟩
            show (us ++ [y]).length ≤ _
            rw [List.length_append]; exact hz
      rcases htk with htk | htk
      · obtain ⟨F2, l2, rs2, r2⟩ := key htk F1 _ S1 H i x l1 rs1 hchk ex v H' y
        exact fin F2 l2 rs2 (.inl r2)
      · obtain ⟨F2, l2, rs2, r2⟩ := hy v H' y
        exact fin F2 l2 rs2 (.inr ⟨htk, r2⟩)
    · exact h1.elim
  · have ei : i = src.xs.length := by omega
    subst ei
    rw [List.drop_length] at h1
    obtain ⟨hchk, h1⟩ := h1
    refine .inl ⟨ok.stop F1 _ S1 H l1 rs1 hchk, ?_⟩
    have k1 := (k.le l0).le l1
    unfold mkL at h1
    split at h1
    · exact k1 F1 _ _ _ _ (Le.refl _) (rs1.unpinS nP0 nfrz_lst (.lst ra)) (.ref p) (h1 p (rs1.dis p _ upd_same).1)
    · obtain ⟨l2, rs2⟩ := rs1.unpinF nP0 nfrz_lst
      exact k1 _ _ _ _ _ l2 rs2 (.lst (.inl upd_same) (ra.mono l2)) h1
/-- dict comprehensions -/
def dcL (chk : Store → Prop) (g : CG) (vs : List Nat) (t : DT) (ek ev : DE) (sd : Slots) : List D → List (Key × D) → Store → (List (Key × D) → Store → Prop) → Prop
  | [], acc, S, Q => chk S ∧ Q acc S
  | x :: xs, acc, S, Q => chk S ∧ match gset g x (dwipe sd vs) with
    | some sd' => t sd' S fun k S1 => if k = true then ek sd' S1 fun y S2 => ev sd' S2 fun z S3 => match keyD y with
        | some kk => dcL chk g vs t ek ev sd xs (dput acc kk z) S3 Q
        | none => False
      else dcL chk g vs t ek ev sd xs acc S1 Q
    | none => False
def dDc (own : Bool) (i : DI) (g : CG) (vs : List Nat) (t : DT) (ek ev : DE) : DE := fun sd S Q => i sd S fun src S1 => dcL src.chk g vs t ek ev sd src.xs [] S1 fun ys S2 => mkD own ys S2 Q
theorem length_dput (kvs : List (Key × D)) (k : Key) (v : D) : (dput kvs k v).length ≤ kvs.length + 1 := by
  unfold dput
  split
  · rw [List.length_map]; exact Nat.le_succ _
  · rw [List.length_append]; exact Nat.le_refl _
theorem lift_dc {own : Bool} {tk : Bool} {di : DI} {g : CG} {vs : List Nat} {t : DT} {e e2 : DE} (hsub : ∀ i ∈ gslots g, i ∈ vs) (htk : tk = false ∨ isTupG g = true) :
    ∀ σ H Q, LE W (dDc own di g vs t e e2) σ H Q → tDc (LI W tk di) (LG W g) (LT W t) (LE W e) (LE W e2) vs σ H Q := by
  rintro σ H Q ⟨F, P, sd, S, Qd, rs, rl, h, k⟩
  refine ⟨F, P, sd, S, _, rs, rl, h, fun F0 S0 H0 J src l0 rs0 ok key q0 p hp => ?_⟩
  obtain ⟨nF0, nP0, nS0⟩ := rs0.none hp
  refine ⟨fun i m H => i ≤ src.xs.length ∧ m = src.xs.length - i ∧ ∃ F' S' acc us, Le F0 F' ∧ RS W F' (upd P p (.dK us)) S' H ∧ RpK W F' acc us ∧ acc.length ≤ i ∧
    dcL src.chk g vs t e e2 sd (src.xs.drop i) acc S' (fun ys S2 => mkD own ys S2 Qd), ⟨src.xs.length, Nat.zero_le _, by simp, F0, S0, [], [], Le.refl _, rs0.pin hp (Nat.zero_le _), .nil, Nat.zero_le _, by simpa using q0⟩, ?_⟩
  rintro i m H ⟨hi, rfl, F1, S1, acc, us, l1, rs1, ra, hal, h1⟩
  by_cases hlt : i < src.xs.length
  · obtain ⟨x, ex, ed⟩ := drop_cons hlt
    rw [ed] at h1
    obtain ⟨hchk, h1⟩ := h1
    obtain ⟨hgo, hy⟩ := ok.go F1 _ S1 H i x l1 rs1 hchk ex
    refine .inr ⟨hgo, fun H' => ∃ F' S' acc us, Le F0 F' ∧ RS W F' (upd P p (.dK us)) S' H' ∧ RpK W F' acc us ∧ acc.length ≤ i + 1 ∧
      dcL src.chk g vs t e e2 sd (src.xs.drop (i + 1)) acc S' (fun ys S2 => mkD own ys S2 Qd), fun H' w => ⟨src.xs.length - (i + 1), by omega, hlt, rfl, w⟩, fun v H' y => ?_⟩
    split at h1
    · rename_i sd2 eg
      have fin : ∀ F2, Le F1 F2 → RS W F2 (upd P p (.dK us)) S1 H' → (Rp W F2 x v ∨ (isTupG g = true ∧ RpI W F2 x v)) → LG W g v (wipe σ vs) H' fun σ2 H2 => wipe σ2 vs = wipe σ vs ∧ LT W t σ2 H2 fun b H3 =>
          if b = true then LE W e σ2 H3 fun y H4 => LE W e2 σ2 H4 fun z H5 => ∃ kvs kk, y = kV kk ∧ H5 p = some (.dK kvs) ∧ kvs.length < sizeLine ∧ ∃ F' S' acc' us, Le F0 F' ∧ RS W F' (upd P p (.dK us)) S' (upd H5 p (.dK (putK kvs kk z))) ∧ RpK W F' acc' us ∧ acc'.length ≤ i + 1 ∧ dcL src.chk g vs t e e2 sd (src.xs.drop (i + 1)) acc' S' (fun ys S2 => mkD own ys S2 Qd)
          else ∃ F' S' acc' us, Le F0 F' ∧ RS W F' (upd P p (.dK us)) S' H3 ∧ RpK W F' acc' us ∧ acc'.length ≤ i + 1 ∧ dcL src.chk g vs t e e2 sd (src.xs.drop (i + 1)) acc' S' (fun ys S2 => mkD own ys S2 Qd) := by
        intro F2 l2 rs2 r2
        have l02 := l1.trans l2
        have rlw := ((rl.mono l0).mono l02).wipe vs
        refine ⟨F2, dwipe sd vs, x, sd2, rs2.sub, rlw, r2, eg, fun σ2 rl2 off => ⟨?_, F2, _, sd2, S1, _, rs2, rl2, h1, fun F3 S3 H3 b l3 rs3 q3 => ?_⟩⟩
        · rw [off.wipe hsub]
          apply List.ext_getElem?
          intro j
          by_cases hj : j ∈ vs
          · by_cases hl : j < σ.length
            · rw [wipe_at hj (by rw [wipe_length]; exact hl), wipe_at hj hl]
            · rw [List.getElem?_eq_none (by rw [wipe_length, wipe_length]; omega), List.getElem?_eq_none (by rw [wipe_length]; omega)]
          · rw [wipe_get hj]
        · cases b with
          | false =>
            simp only [Bool.false_eq_true, if_false] at q3 ⊢
            exact ⟨F3, S3, acc, us, l02.trans l3, rs3, (ra.mono l2).mono l3, by omega, q3⟩
          | true =>
            simp only [if_true] at q3 ⊢
            refine ⟨F3, _, sd2, S3, _, rs3, rl2.mono l3, q3, fun F4 S4 H4 dy y l4 rs4 ry q4 => ⟨F4, _, sd2, S4, _, rs4, (rl2.mono l3).mono l4, q4, fun F5 S5 H5 dz z l5 rs5 rz q5 => ?_⟩⟩
            split at q5
            · rename_i kk ek
              have ra5 := (((ra.mono l2).mono l3).mono l4).mono l5
              have hz : us.length < sizeLine := by
                have := ok.len
                rw [← ra5.length]; omega
              refine ⟨us, kk, keyD_ok (ry.mono l5) ek, rs5.pinned, hz, F5, S5, dput acc kk dz, putK us kk z, ((l02.trans l3).trans l4).trans l5, rs5.repin nfrz_dK ?_, ra5.put rz, ?_, q5⟩
              · show (putK us kk z).length ≤ _
                have := length_putK us kk z; omega
              · have := length_dput acc kk dz; omega
            · exact q5.elim
      rcases htk with htk | htk
      · obtain ⟨F2, l2, rs2, r2⟩ := key htk F1 _ S1 H i x l1 rs1 hchk ex v H' y
        exact fin F2 l2 rs2 (.inl r2)
      · obtain ⟨F2, l2, rs2, r2⟩ := hy v H' y
        exact fin F2 l2 rs2 (.inr ⟨htk, r2⟩)
    · exact h1.elim
  · have ei : i = src.xs.length := by omega
    subst ei
    rw [List.drop_length] at h1
    obtain ⟨hchk, h1⟩ := h1
    refine .inl ⟨ok.stop F1 _ S1 H l1 rs1 hchk, ?_⟩
    have k1 := (k.le l0).le l1
    unfold mkD at h1
    split at h1
    · exact k1 F1 _ _ _ _ (Le.refl _) (rs1.unpinS nP0 nfrz_dK (.dct ra)) (.ref p) (h1 p (rs1.dis p _ upd_same).1)
    · obtain ⟨l2, rs2⟩ := rs1.unpinF nP0 nfrz_dK
      exact k1 _ _ _ _ _ l2 rs2 (.dct (.inl upd_same) (ra.mono l2)) h1

/-! ### calls of one's own defs -/
abbrev DSp := List D → Store → DQ → Prop
def LSp (W : Wd) (n : Nat) (sp : DSp) : Sp := fun vs H Q _ => ∃ F P ds S Qd, RS W F P S H ∧ Rps W F ds vs ∧ ds.length = n ∧ sp ds S Qd ∧ Kont W F P Qd Q
def guardN (n : Nat) (sp : DSp) : FA := fun ds S Q => ds.length = n ∧ sp ds S Q
theorem le_call {k : Nat} {f : Addr} {fd : FuncData} {ps : List Str} {sp : DSp} {x : Str} {p pos : Pos} {e : Expr} {es : List Expr} {a : DA} {n : Nat} (G : FnOk X.prog X.w X.K X.mg X.base CX0 k f fd ps (LSp W n sp)) (hr : Room k X.A) (hg : Gl X x) (hm : X.mg x = some (.ref f)) (hk : PySem.W.keepIn X.K (.ref f) = true)
    (hb : Binds X.K fd ps []) (ha : PA X (e :: es) (LA W a)) (hdb : (x == ("__debug__" : Str)) = false) (he : starEach (e :: es) X.env = (false, eval e X.env) :: starEach es X.env) (hpl : (backTo pos (starEach es X.env)).any (·.1) = false) :
    PE X (.Call (.Name x p) (e :: es) [] pos) (LE W (dCall (guardN n sp) a)) :=
  (pe_call G hr hg hm hk hb .nil pass0 ha hdb he hpl).mono fun σ H Q ⟨F, P, sd, S, Qd, rs, rl, h, k⟩ => ⟨F, P, sd, S, _, rs, rl, h, fun F1 S1 H1 ds vs l1 rs1 rr q => by
    show LSp W n sp (vs ++ []) H1 Q E0
    rw [List.append_nil]
    exact ⟨F1, P, ds, S1, Qd, rs1, rr, q.1, q.2, k.le l1⟩⟩
theorem le_call0 {k : Nat} {f : Addr} {fd : FuncData} {ps : List Str} {sp : DSp} {x : Str} {p pos : Pos} {n : Nat} (G : FnOk X.prog X.w X.K X.mg X.base CX0 k f fd ps (LSp W n sp)) (hr : Room k X.A) (hg : Gl X x) (hm : X.mg x = some (.ref f)) (hk : PySem.W.keepIn X.K (.ref f) = true)
    (hb : Binds X.K fd ps []) (hdb : (x == ("__debug__" : Str)) = false) :
    PE X (.Call (.Name x p) [] [] pos) (LE W (dCall (guardN n sp) dNil)) :=
  (pe_call0 G hr hg hm hk hb .nil pass0 hdb).mono fun σ H Q ⟨F, P, sd, S, Qd, rs, rl, h, k⟩ => ⟨F, P, [], S, Qd, rs, .nil, h.1, h.2, k⟩

/-- what may be done to a result: some of the store forgotten, a mutable thing made a value -/
inductive Gh : D → Store → D → Store → Prop
  | refl {d : D} {S : Store} : Gh d S d S
  | forget {d d' : D} {S S1 S' : Store} (h : SLe S1 S) (t : Gh d S1 d' S') : Gh d S d' S'
  | frz {a : Addr} {d d' : D} {S S' : Store} (h : frzD S a = some d) (t : Gh d (sdel S a) d' S') : Gh (.ref a) S d' S'
theorem Gh.ok {P : Hp} {H : Hp} {v : V} {d d' : D} {S S' : Store} (g : Gh d S d' S') : ∀ {F : Hp}, RS W F P S H → Rp W F d v → ∃ F', Le F F' ∧ RS W F' P S' H ∧ Rp W F' d' v := by
  induction g with
  | refl => exact fun rs r => ⟨_, Le.refl _, rs, r⟩
  | forget h t ih => exact fun rs r => ih (rs.forget h) r
  | frz h t ih =>
    intro F rs r
    cases r
    obtain ⟨F1, l1, rs1, r1⟩ := rs.frz h
    obtain ⟨F2, l2, rs2, r2⟩ := ih rs1 r1
    exact ⟨F2, l1.trans l2, rs2, r2⟩
/-- the wish about a def's answer -/
def rtQ (Q : DQ) : DQ := fun d S => ∃ d' S', Gh d S d' S' ∧ Q d' S'
theorem rtQ.of {Q : DQ} {d : D} {S : Store} (h : Q d S) : rtQ Q d S := ⟨d, S, .refl, h⟩
def start0 (n : Nat) (ds : List D) : Slots := ds.map some ++ List.replicate (n - ds.length) none
theorem start_ok {N : List Str} {ds : List D} {vs : List V} (r : Rps W F ds vs) : RSl W F (start0 N.length ds) (L2.start N vs) := by
  have hl := r.length
  refine ⟨by unfold start0 L2.start; simp [hl], fun i d h => ?_⟩
  unfold start0 at h
  by_cases hi : i < ds.length
  · rw [List.getElem?_append_left (by simpa using hi), List.getElem?_map] at h
    cases e : ds[i]? with
    | none => rw [e] at h; cases h
    | some x =>
      rw [e] at h
      cases h
      obtain ⟨v, hv, rv⟩ := r.get e
      refine ⟨v, ?_, rv⟩
      unfold L2.start
      rw [List.getElem?_append_left (by simp; omega), List.getElem?_map, hv]
      rfl
  · rw [List.getElem?_append_right (by simpa using hi), List.getElem?_replicate] at h
    split at h <;> cases h
section
variable {P : Program} {w : World} {K : PySem.W.Frag} {mg : Str → Option Value} {base : Heap}
/-- THE RULE for a def: its body's reading on data -/
theorem fn_rule {x qual : Str} {st : Stmt} {f : Addr} {fd : FuncData} {N ps : List Str} {k : Nat} {sp : DSp} {b : DSt} (Fn : Fun K x qual st f fd) (Sc : FnScope N ps (defScope st))
    (hb : ∀ (cdv : Value) (A : Around) (outer : List Env) (s : Shared) (H : Hp) (E : XK), Room k (A.deeper (PyProof.Rows.envOfC qual (defScope st) s.heap.objs.size f cdv)) → PSs (cxOf CX0 P w K mg base N qual (defScope st) f cdv A outer s H E).nox (defBody st) (LS W b))
    (hsp : ∀ ds S Q, sp ds S Q → ds.length = ps.length → b { nx := fun _ S' => rtQ Q .non S', rt := rtQ Q } (start0 N.length ds) S) : FnOk P w K mg base CX0 (k + 1) f fd ps (LSp W ps.length sp) := by
  refine Fn.ok Sc (fun vs H Q E h => ?_) (fun cdv A outer s H vs Q E hr h => ?_)
  · obtain ⟨F, P', ds, S, Qd, rs, rr, hl, h, kk⟩ := h
    rw [← rr.length]; exact hl
  · obtain ⟨F, P', ds, S, Qd, rs, rr, hl, h, kk⟩ := h
    refine ⟨_, hb cdv A outer s H E hr, F, P', _, S, _, rs, start_ok rr, hsp ds S Qd h hl, ?_⟩
    refine ⟨fun F' sd S' σ H' l rs' rl' q => ?_, fun F' S' H' d v l rs' r q => ?_, fun _ _ _ _ _ _ _ _ q => q.elim, fun _ _ _ _ _ _ _ _ q => q.elim⟩
    · obtain ⟨d', S2, g, q⟩ := q
      obtain ⟨F2, l2, rs2, r2⟩ := g.ok rs' (.non : Rp W F' .non .non)
      exact kk F2 S2 H' d' _ (l.trans l2) rs2 r2 q
    · obtain ⟨d', S2, g, q⟩ := q
      obtain ⟨F2, l2, rs2, r2⟩ := g.ok rs' r
      exact kk F2 S2 H' d' _ (l.trans l2) rs2 r2 q
end
end DL
set_option Elab.async false
set_option linter.all false
set_option maxRecDepth 100000
set_option maxHeartbeats 1000000
/-! DL8: the core: a def's text without places, its check against the text, its reading on data. -/
namespace DL
open PySem L2

/-! ### what is seen of a piece of text -/
def noStar : Expr → Bool
  | .Starred .. => false
  | _ => true
theorem star_cons {e : Expr} {es : List Expr} {env : Env} (h : noStar e = true) : starEach (e :: es) env = (false, eval e env) :: starEach es env := by
  cases e <;> first | rfl | (cases h)
theorem star_plain {pos : Pos} {env : Env} : ∀ {es : List Expr}, (es.all noStar) = true → (backTo pos (starEach es env)).any (·.1) = false
  | [], _ => rfl
  | e :: es, h => by
    simp only [List.all_cons, Bool.and_eq_true] at h
    rw [star_cons h.1]
    show (false || (backTo pos (starEach es env)).any (·.1)) = false
    rw [star_plain h.2, Bool.false_or]
def plainT : Expr → Bool
  | .UnaryOp op _ _ => decide (op ≠ .Not)
  | .BoolOp .. => false
  | .IfExp .. => false
  | .Compare .. => false
  | _ => true
theorem plainT_is {e : Expr} {env : Env} (h : plainT e = true) : ∀ whole, isTrue e env whole = (do let v ← whole; standAt e.pos; holding [v] (truthy v)) := by
  intro whole
  cases e <;> first
    | rfl
    | (rename_i op x p; cases op <;> first | rfl | (cases h))
    | (cases h)
def noSuper : Expr → Bool
  | .Call (.Name _ _) [] [] _ => false
  | _ => true
theorem noSuper_is {e : Expr} {attr : Str} {env : Env} (h : noSuper e = true) : attributeBase e attr env (eval e env) = eval e env := by
  unfold attributeBase
  split
  · cases h
  · rfl
def noSet : Expr → Bool
  | .Set .. => false
  | _ => true
theorem noSet_iter {e : Expr} {env : Env} (h : noSet e = true) : ∀ x, foldedSetIterable e env x = pure x := by
  intro x
  cases e <;> first | rfl | (cases h)
theorem noSet_mark {e : Expr} {op : CmpOp} (h : noSet e = true) : behindInMarks op e = false := by
  cases e <;> first | rfl | (cases h)
def noSlice : Expr → Bool
  | .Slice .. => false
  | _ => true
theorem noSlice_is {e : Expr} (h : noSlice e = true) : PlainIx e := by
  intro o i
  cases e <;> first | rfl | (cases h)
def noComp : Expr → Bool
  | .ListComp .. => false | .SetComp .. => false | .DictComp .. => false
  | _ => true
theorem noComp_is {e : Expr} {t : Option Expr} {n : Nat} {env : Env} (h : noComp e = true) : swapsWith e t n env = pure false := by
  cases e <;> first | rfl | (cases h)
def noTup : Expr → Bool
  | .Tuple .. => false
  | _ => true

/-! ### the core -/
structure Cc where
  sc : Scope
  N : List Str
  fn : Str → Bool
  bl : List Str
  fns : List Str
  gls : List Str
  mts : List Str := []
  mks : List Str := []
  gcd : Bool := false
def Cc.blk (c : Cc) (scope : Scope) : Cc := { c with sc := relS scope c.sc, fn := fun x => scope.names.lookup x == some .cell }
def Cc.vis (c : Cc) (x : Str) : Bool := match c.sc.names.lookup x with
  | some .local => true | some .cell => true | some .free => true | _ => false
def Cc.loc (c : Cc) (x : Str) : Bool := match c.sc.names.lookup x with
  | some .local => true | some .cell => true | _ => false
def Cc.isLocal (c : Cc) (x : Str) : Bool := match c.sc.names.lookup x with
  | some .local => true | _ => false
def Cc.gl (c : Cc) (x : Str) : Bool := match c.sc.names.lookup x with
  | some .globalImplicit => true | _ => false
def Cc.isFn (c : Cc) : Bool := match c.sc.kind with | .function => true | _ => false
def okName (x : Str) : Bool := !(x == ("__debug__" : Str)) && !(x == ("__classdict__" : Str)) && decide (x ≠ "__name__")

structure Tb where
  fn : Nat → Option (Nat × DSp)
  kw : Nat → List (List Str × List Nat)
  glb : Nat → Option D
  gd : Bool
  fld : Str → List Str := fun _ => []
  mt : Nat → Option (Str × Str × Nat × DSp) := fun _ => none
  mks : Nat → Option (Str × Nat × DSp) := fun _ => none
  gcd : Bool := false

inductive TyC where | bool | int | str | tuple | list | dict
  deriving DecidableEq
def TyC.name : TyC → String
  | .bool => "bool" | .int => "int" | .str => "str" | .tuple => "tuple" | .list => "list" | .dict => "dict"
theorem TyC.boot (t : TyC) : bootBuiltins (Str.ofString t.name) = some (.type t.name) := by cases t <;> decide +kernel
theorem TyC.mem (t : TyC) : t.name ∈ ["bool", "int", "str", "tuple", "list", "dict"] := by cases t <;> decide
def Blt.name : Blt → String
  | .len => "len" | .abs => "abs" | .int => "int" | .sum => "sum" | .all => "all" | .any => "any" | .sorted => "sorted" | .tuple => "tuple" | .list => "list" | .dict => "dict" | .max => "max" | .min => "min"
def Blt.isTy : Blt → Bool
  | .int => true | .tuple => true | .list => true | .dict => true | _ => false
theorem Blt.boot (b : Blt) : bootBuiltins (Str.ofString b.name) = some (if b.isTy = true then .type b.name else .builtin b.name) := by cases b <;> decide +kernel
def fBlt (own : Bool) : Blt → FA
  | .len => fLen | .abs => fAbs | .int => fInt1 | .sum => fL1 asInts fun ns => .int ns.sum
  | .all => fL1 asBls fun ns => .bl (ns.all id) | .any => fL1 asBls fun ns => .bl (ns.any id)
  | .sorted => fSorted own | .tuple => fTuple | .list => fList own | .dict => fDict own | .max => fMax | .min => fMin
def fBin (own : Bool) : Operator → F2
  | .Add => fAdd own | .Sub => fSub | .Mult => fMul own | .FloorDiv => fDiv | .Mod => fMod | .Pow => fPow
  | _ => fun _ _ _ _ => False
def okAug : Operator → Bool
  | .Add => true | .Sub => true | _ => false
def okBin : Operator → Bool
  | .Add => true | .Sub => true | .Mult => true | .FloorDiv => true | .Mod => true | .Pow => true | _ => false
def fInD (neg : Bool) : F2 := fun dx dy S Q => match asD S dy, keyD dx with
  | some kvs, some k => Q (.bl (if neg = true then !(dget kvs k).isSome else (dget kvs k).isSome)) S
  | _, _ => False
def fCmp : CmpOp → F2
  | .Eq => fEq | .NotEq => fNe | .Lt => fLt | .LtE => fLe | .Gt => fGt | .GtE => fGe | .Is => fIs | .IsNot => fIsNot | .In => fInD false | .NotIn => fInD true
def fGet (dflt : Option D) : D → D → Store → DQ → Prop := fun o k S Q => match asD S o, keyD k with
  | some kvs, some kk => Q ((dget kvs kk).getD (dflt.getD .non)) S
  | _, _ => False
def fApp : D → D → Store → DQ → Prop := fun o x S Q => match o with
  | .ref a => match S a with
    | some (.lst xs) => xs.length < sizeLine ∧ Q .non (sup S a (.lst (xs ++ [x])))
    | _ => False
  | _ => False
def dGet1 (d e : DE) : DE := fun sd S Q => d sd S fun x S1 => (asD S1 x).isSome = true ∧ e sd S1 fun y S2 => fGet none x y S2 Q
def dGet2 (d e f : DE) : DE := fun sd S Q => d sd S fun x S1 => (asD S1 x).isSome = true ∧ e sd S1 fun y S2 => f sd S2 fun z S3 => fGet (some z) x y S3 Q
def isLs (S : Store) : D → Bool
  | .ref a => match S a with | some (.lst _) => true | _ => false
  | _ => false
def dApp (d e : DE) : DE := fun sd S Q => d sd S fun x S1 => isLs S1 x = true ∧ e sd S1 fun y S2 => fApp x y S2 Q
def keyDat : Key → D
  | .inl i => .int i
  | .inr s => .str s
def fLenSet : D → Store → DQ → Prop := fun d S Q => match asL S d with
  | some xs => match asInts xs with
    | some ns => ns.length ≤ 4000 ∧ Q (.int (PyProof.Rows.firstMet (fun i => ns.getD i 0) ns.length).length) S
    | none => False
  | none => False
/-- sorted(d.items()), int keys -/
def refD : D → Bool
  | .tup _ => true | .lst _ => true | .dct _ => true | .ref _ => true | .scr _ => true | .ins .. => true
  | _ => false
def fSItems (own : Bool) : D → Store → DQ → Prop := fun d S Q => match asD S d with
  | some kvs => match intKeys kvs with
    | some ks => own = false ∧ ks.Nodup ∧ ks.length < 64 ∧ kvs.all (fun kv => refD kv.2) = true ∧ Q (.lst ((isort ks).map fun k => .tup [.int k, (dget kvs (.inl k)).getD .non])) S
    | none => False
  | none => False
/-- xs[::-1] -/
def fRev (own : Bool) : D → Store → DQ → Prop := fun d S Q => match asL S d with
  | some xs => mkL own xs.reverse S Q
  | none => False
/-- str(i) -/
def fStrI : D → Store → DQ → Prop := fun d S Q => match d with
  | .int i => i.natAbs.log2 < 1920 ∧ Q (.str (toString i)) S
  | _ => False
/-- repr of data -/
def fRepr : D → Store → DQ → Prop := fun d S Q => refD d = true ∧ match toPyR S d with
  | some e => e.showable = true ∧ e.shown.length ≤ sizeLine ∧ e.depth ≤ 40 ∧ Q (.str e.shown) S
  | none => False
def asTL (S : Store) : D → Option (List D)
  | .tup xs => some xs
  | d => asL S d
/-- *e ahead of the rest -/
def dStar (d : DE) (r : DA) : DA := fun sd S Q => d sd S fun x S1 => match asTL S1 x with
  | some xs => r sd S1 fun ys S2 => Q (xs ++ ys) S2
  | none => False
def f1A (f : D → Store → DQ → Prop) : FA := fun ds S Q => match ds with
  | [d] => f d S Q
  | _ => False
/-- how many different ones -/
def dedupI : List Int → List Int
  | [] => []
  | x :: r => if r.contains x = true then dedupI r else x :: dedupI r

/-! ### instances -/
def putD (f : Str) (v : D) : List (Str × D) → List (Str × D)
  | [] => [(f, v)]
  | (g, x) :: r => if g = f then (g, v) :: r else (g, x) :: putD f v r
def fFld (fl : Str → List Str) (f : Str) : D → Store → DQ → Prop := fun x S Q => match x with
  | .ref a => match S a with
    | some (.ins c fs) => (fl c).contains f = true ∧ match fs.lookup f with | some v => Q v S | none => False
    | _ => False
  | _ => False
def dMeth (m : Option (Str × Str × Nat × DSp)) (d : DE) (a : DA) : DE := fun sd S Q => match m with
  | some (c, nm, n, sp) => d sd S fun x S1 => (∃ b fs, x = .ref b ∧ S1 b = some (.ins c fs) ∧ fs.lookup nm = none) ∧ a sd S1 fun ys S2 => guardN n sp (x :: ys) S2 Q
  | none => False
def dMake (m : Option (Str × Nat × DSp)) (a : DA) : DE := fun sd S Q => match m with
  | some (c, n, sp) => a sd S fun ys S1 => ∀ p, S1 p = none → guardN n sp (.ref p :: ys) (sup S1 p (.ins c [])) fun d S2 => d = .non ∧ Q (.ref p) S2
  | none => False
def fGcd : FA := fun ds S Q => match ds with
  | [.int i, .int j] => Q (.int ((Nat.gcd i.natAbs j.natAbs : Nat) : Int)) S
  | _ => False
mutual
inductive CE where
  | slot (i : Nat) | int (i : Int) | bl (b : Bool) | non | str (s : Str) | glb (j : Nat)
  | op (own : Bool) (o : Operator) (a b : CE) | neg (a : CE)
  | cmp (o : CmpOp) (a b : CE) | chain (o o' : CmpOp) (a b c : CE)
  | not (a : CE) | and (a b : CE) | or (a b : CE) | last (a : CE) | ite (c a b : CE)
  | tup (es : CEs) | lst (own : Bool) (es : CEs)
  | ix (a b : CE) | cut (own : Bool) (a : CE) (lo hi : CO)
  | call (j : Nat) (es : CEs) | callk (j : Nat) (ks : List Str) (perm : List Nat) (es : CEs)
  | blt (own : Bool) (b : Blt) (es : CEs) | isi (t : TyC) (a : CE)
  | get1 (o k : CE) | get2 (o k d : CE) | app (o x : CE)
  | dict0 (own : Bool) | lenset (a : CE) | sitems (own : Bool) (a : CE)
  | rev (own : Bool) (a : CE) | strI (a : CE) | repr (a : CE)
  | fld (o : CE) (f : Str) | meth (j : Nat) (o : CE) (es : CEs) | make (j : Nat) (es : CEs) | gcd (es : CEs)
  | lc (own : Bool) (vs : List (Str × Nat)) (g : CG) (it : CI) (t : CT) (e : CE)
  | dc (own : Bool) (vs : List (Str × Nat)) (g : CG) (it : CI) (t : CT) (k v : CE)
inductive CEs where | nil | cons (e : CE) (r : CEs) | star (e : CE) (r : CEs)
inductive CO where | no | one (e : CE)
inductive CT where | no | one (e : CE)
inductive CI where | seq (e : CE) | range1 (e : CE) | range2 (e f : CE) | enum (e : CE) | zip (e f : CE)
end
structure DV where
  v : DE
  t : DT
def DV.of (d : DE) : DV := ⟨d, tOf d⟩
def DV.ofB (d : DE) : DV := ⟨d, tOfB d⟩
def dFail : DE := fun _ _ _ => False
def permV {α : Type} (perm : List Nat) (us ws : List α) : List α := perm.filterMap fun i => ws[i]?
def dOp3 (f : D → D → D → Store → DQ → Prop) (a b c : DE) : DE := fun sd S Q => a sd S fun x S1 => b sd S1 fun y S2 => c sd S2 fun z S3 => f x y z S3 Q
mutual
def den (T : Tb) : CE → DV
  | .slot i => .of (dVar i) | .int i => .of (dC (.int i)) | .bl b => .of (dC (.bl b)) | .non => .of (dC .non) | .str s => .of (dC (.str s))
  | .glb j => .of (match T.glb j with | some d => dC d | none => dFail)
  | .op own o a b => .of (dOp (fBin own o) (den T a).v (den T b).v)
  | .neg a => .of (dUn fNeg (den T a).v)
  | .cmp o a b => .ofB (dOp (fCmp o) (den T a).v (den T b).v)
  | .chain o o' a b c => .ofB (dChain (fCmp o) (fCmp o') (den T a).v (den T b).v (den T c).v)
  | .not a => ⟨dNot (den T a).v, dNotT (den T a).t⟩
  | .and a b => ⟨dAnd (den T a).v (den T b).v, dAndT (den T a).t (den T b).t⟩
  | .or a b => ⟨dOr (den T a).v (den T b).v, dOrT (den T a).t (den T b).t⟩
  | .last a => den T a
  | .ite c a b => ⟨dIte (den T c).t (den T a).v (den T b).v, fun _ _ _ => False⟩
  | .tup es => .of (dTup (dens T es))
  | .lst own es => .of (dLst own (dens T es))
  | .ix a b => .of (dOp fIx (den T a).v (den T b).v)
  | .cut own a lo hi => .of (dCut own (den T a).v (denO T lo) (denO T hi))
  | .call j es => .of (match T.fn j with | some (n, sp) => dCall (guardN n sp) (dens T es) | none => dFail)
  | .callk j ks perm es => .of (match T.fn j with | some (n, sp) => if (T.kw j).contains (ks, perm) = true then dCall (fun ds S Q => ds.length = ks.length ∧ guardN n sp (permV perm [] ds) S Q) (dens T es) else dFail | none => dFail)
  | .blt own b es => .of (dCall (fBlt own b) (dens T es))
  | .isi t a => .of (dUn (fIsi t.name) (den T a).v)
  | .get1 o k => .of (dGet1 (den T o).v (den T k).v)
  | .get2 o k d => .of (dGet2 (den T o).v (den T k).v (den T d).v)
  | .app o x => .of (dApp (den T o).v (den T x).v)
  | .dict0 own => .of (fun _ S Q => mkD own [] S Q)
  | .lenset a => .of (dUn fLenSet (den T a).v)
  | .sitems own a => .of (dUn (fSItems own) (den T a).v)
  | .rev own a => .of (dUn (fRev own) (den T a).v)
  | .strI a => .of (dUn fStrI (den T a).v)
  | .repr a => .of (if T.gd = true then dUn fRepr (den T a).v else dFail)
  | .fld o f => .of (dUn (fFld T.fld f) (den T o).v)
  | .meth j o es => .of (dMeth (T.mt j) (den T o).v (dens T es))
  | .make j es => .of (dMake (T.mks j) (dens T es))
  | .gcd es => .of (if T.gcd = true then dCall fGcd (dens T es) else dFail)
  | .lc own vs g it t e => .of (dLc own (denI T it) g (vs.map (·.2)) (denT T t) (den T e).v)
  | .dc own vs g it t k v => .of (dDc own (denI T it) g (vs.map (·.2)) (denT T t) (den T k).v (den T v).v)
def dens (T : Tb) : CEs → DA
  | .nil => dNil
  | .cons e r => dCons (den T e).v (dens T r)
  | .star e r => dStar (den T e).v (dens T r)
def denO (T : Tb) : CO → DO
  | .no => dNoPart
  | .one e => dPart (den T e).v
def denT (T : Tb) : CT → DT
  | .no => fun _ S Q => Q true S
  | .one e => (den T e).t
def denI (T : Tb) : CI → DI
  | .seq e => dSeq1 (den T e).v
  | .range1 e => dRange1 (den T e).v
  | .range2 e f => dRange2 (den T e).v (den T f).v
  | .enum e => dEnum (den T e).v
  | .zip e f => dZip (den T e).v (den T f).v
end
def CI.tk : CI → Bool
  | .enum _ => true | .zip _ _ => true | _ => false

/-! ### statements -/
mutual
inductive CS where
  | expr (e : CE) | ret (e : CE) | retn | set (i : Nat) (e : CE)
  | setlc (i : Nat) (own : Bool) (vs : List (Str × Nat)) (g : CG) (it : CI) (t : CT) (e : CE)
  | setg (g : CG) (e : CE) | par (i j : Nat) (a b : CE) | par3 (i j l : Nat) (a b c : CE) | setix (o i e : CE)
  | aug (i : Nat) (o : Operator) (e : CE)
  | setfld (o : CE) (f : Str) (e : CE) | setfld2 (o : CE) (f g : Str) (a b : CE)
  | ifs (c : CE) (a b : CSs) | for_ (g : CG) (it : CI) (b : CSs) | forkeys (g : CG) (i : Nat) (b : CSs) | while_ (c : CE) (b : CSs) | pass | brk | cont
inductive CSs where
  | nil | cons (s : CS) (r : CSs) | frz (i : Nat) (r : CSs)
end
def sPar3 (i j l : Nat) (d e f : DE) : DSt := fun D sd S => d sd S fun x S1 => e sd S1 fun y S2 => f sd S2 fun z S3 => D.nx (((sd.set i (some x)).set j (some y)).set l (some z)) S3
def sForKeys (i : Nat) (g : CG) (b : DSt) : DSt := fun D sd S => match sd[i]? with
  | some (some (.dct kvs)) => forL (fun _ => True) g b D (kvs.map fun kv => keyDat kv.1) sd S
  | _ => False
def fSetFld (fl : Str → List Str) (f : Str) (y x : D) (S : Store) (K : Store → Prop) : Prop := match x with
  | .ref a => match S a with
    | some (.ins c fs) => (fl c).contains f = true ∧ fs.length < 1000 ∧ K (sup S a (.ins c (putD f y fs)))
    | _ => False
  | _ => False
def sSetFld (fl : Str → List Str) (f : Str) (d e : DE) : DSt := fun D sd S => e sd S fun y S1 => d sd S1 fun x S2 => fSetFld fl f y x S2 fun S3 => D.nx sd S3
def sSetFld2 (fl : Str → List Str) (f g : Str) (d e1 e2 : DE) : DSt := fun D sd S => e1 sd S fun y S1 => e2 sd S1 fun z S2 => [y, z].length ≤ sizeLine ∧ d sd S2 fun x S3 => fSetFld fl f y x S3 fun S4 => d sd S4 fun x' S5 => fSetFld fl g z x' S5 fun S6 => D.nx sd S6
def fAug : Operator → F2
  | .Add => fInt0 fun i j => .int (i + j) | .Sub => fSub | _ => fun _ _ _ _ => False
mutual
def denS (T : Tb) : CS → DSt
  | .expr e => sDrop (den T e).v
  | .ret e => sRet (den T e).v
  | .retn => sRetN
  | .set i e => sSet i (den T e).v
  | .setlc i own vs g it t e => sSet i (dLc own (denI T it) g (vs.map (·.2)) (denT T t) (den T e).v)
  | .setg g e => sSetG g (den T e).v
  | .par i j a b => sPar i j (den T a).v (den T b).v
  | .par3 i j l a b c => sPar3 i j l (den T a).v (den T b).v (den T c).v
  | .setix o i e => sSetIx (den T o).v (den T i).v (den T e).v
  | .aug i o e => sAug i (fAug o) (den T e).v
  | .setfld o f e => sSetFld T.fld f (den T o).v (den T e).v
  | .setfld2 o f g a b => sSetFld2 T.fld f g (den T o).v (den T a).v (den T b).v
  | .ifs c a b => sIf (den T c).t (denSs T a) (denSs T b)
  | .for_ g it b => sFor (denI T it) g (denSs T b)
  | .forkeys g i b => sForKeys i g (denSs T b)
  | .while_ c b => sWhile (den T c).t (denSs T b)
  | .pass => sNext | .brk => sBreak | .cont => sCont
def denSs (T : Tb) : CSs → DSt
  | .nil => sNext
  | .cons s r => sSeq (denS T s) (denSs T r)
  | .frz i r => sSeq (sFrz i) (denSs T r)
end

/-! ### the check -/
mutual
def chkG : CG → Cc → Expr → Bool
  | .slot i, c, .Name x _ => decide (c.N[i]? = some x) && c.loc x && (c.fn x || c.isLocal x)
  | .tup gs, c, .Tuple es _ _ => es.all noStar && chkGs gs c es
  | _, _, _ => false
def chkGs : CGs → Cc → List Expr → Bool
  | .nil, _, [] => true
  | .cons g r, c, e :: es => chkG g c e && chkGs r c es
  | _, _, _ => false
end
mutual
def chk : CE → Cc → Expr → Bool
  | .slot i, c, .Name x _ => decide (c.N[i]? = some x) && c.vis x && okName x
  | .int i, _, .Constant (.int j) _ _ => decide (i = j)
  | .bl i, _, .Constant (.bool j) _ _ => decide (i = j)
  | .non, _, .Constant .none _ _ => true
  | .str i, _, .Constant (.str j) _ _ => decide (i = j)
  | .glb j, c, .Name y _ => decide (c.gls[j]? = some y) && c.gl y && okName y
  | .op _ o a b, c, .BinOp l o' r _ => decide (o = o') && okBin o && chk a c l && chk b c r
  | .neg a, c, .UnaryOp .USub l _ => chk a c l
  | .cmp o a b, c, .Compare l [o'] [r] _ => decide (o = o') && noSet r && chk a c l && chk b c r
  | .chain o o2 a b d, c, .Compare l [o', o2'] [r, r2] _ => decide (o = o') && decide (o2 = o2') && noSet r2 && chk a c l && chk b c r && chk d c r2
  | .not a, c, .UnaryOp .Not l _ => chk a c l
  | .and a b, c, .BoolOp .And (x :: y :: r) pos => chk a c x && chk b c (.BoolOp .And (y :: r) pos)
  | .or a b, c, .BoolOp .Or (x :: y :: r) pos => chk a c x && chk b c (.BoolOp .Or (y :: r) pos)
  | .last a, c, .BoolOp _ [x] _ => chk a c x
  | .ite t a b, c, .IfExp t' x y _ => chk t c t' && chk a c x && chk b c y
  | .tup es, c, .Tuple xs _ _ => chks es c xs
  | .lst _ es, c, .List xs _ => chks es c xs
  | .ix a b, c, .Subscript x y _ => noSlice y && chk a c x && chk b c y
  | .cut _ a lo hi, c, .Subscript x (.Slice l h none _) _ => chk a c x && chkO lo c l && chkO hi c h
  | .call j es, c, .Call (.Name x _) args [] _ => decide (c.fns[j]? = some x) && c.gl x && okName x && args.all noStar && chks es c args
  | .callk j ks perm es, c, .Call (.Name x _) [] kws _ => decide (c.fns[j]? = some x) && c.gl x && okName x && decide (kws.map (·.arg) = ks.map some) && (kws.map (·.value)).all noStar && chks es c (kws.map (·.value))
  | .blt _ b es, c, .Call (.Name x _) args [] _ => decide (x = Str.ofString b.name) && c.gl x && c.bl.contains x && !args.isEmpty && args.all noStar && chks es c args
  | .isi t a, c, .Call (.Name f _) [e, .Name x _] [] _ => decide (f = "isinstance") && c.gl f && c.bl.contains f && decide (x = Str.ofString t.name) && c.gl x && c.bl.contains x && noStar e && chk a c e
  | .get1 o k, c, .Call (.Attribute e m ap) [x] [] cp => decide (m = "get") && noSuper e && noStar x && (ap.endLine == cp.line) && chk o c e && chk k c x
  | .get2 o k d, c, .Call (.Attribute e m ap) [x, y] [] cp => decide (m = "get") && noSuper e && noStar x && noStar y && (ap.endLine == cp.line) && chk o c e && chk k c x && chk d c y
  | .app o k, c, .Call (.Attribute e m ap) [x] [] cp => decide (m = "append") && noSuper e && noStar x && (ap.endLine == cp.line) && chk o c e && chk k c x
  | .dict0 _, _, .Dict [] [] _ => true
  | .lenset a, c, .Call (.Name f _) [.Call (.Name g _) [x] [] _] [] _ => decide (f = "len") && c.gl f && c.bl.contains f && decide (g = "set") && c.gl g && c.bl.contains g && noStar x && chk a c x
  | .sitems _ a, c, .Call (.Name f _) [.Call (.Attribute e m ap) [] [] cp] [] _ => decide (f = "sorted") && c.gl f && c.bl.contains f && decide (m = "items") && noSuper e && (ap.endLine == cp.line) && chk a c e
  | .rev _ a, c, .Subscript x (.Slice none none (some (.UnaryOp .USub (.Constant (.int 1) _ _) _)) _) _ => chk a c x
  | .strI a, c, .Call (.Name f _) [x] [] _ => decide (f = "str") && c.gl f && c.bl.contains f && noStar x && chk a c x
  | .repr a, c, .Call (.Name f _) [x] [] _ => decide (f = "repr") && c.gl f && c.bl.contains f && noStar x && chk a c x
  | .fld o f, c, .Attribute e m _ => decide (m = f) && noSuper e && chk o c e
  | .meth j o es, c, .Call (.Attribute e m ap) args [] cp => decide (c.mts[j]? = some m) && noSuper e && args.all noStar && decide (args.length < 30) && (ap.endLine == cp.line) && chk o c e && chks es c args
  | .make j es, c, .Call (.Name x _) args [] _ => decide (c.mks[j]? = some x) && c.gl x && okName x && !args.isEmpty && args.all noStar && chks es c args
  | .gcd es, c, .Call (.Name x _) args [] _ => decide (x = "gcd") && c.gcd && c.gl x && !args.isEmpty && args.all noStar && chks es c args
  | .lc _ vs g it t e, c, .ListComp elt [⟨tg, iter, ifs, a⟩] scope _ =>
    (a == 0) && blkC c.N c.sc scope vs && noSet iter && (gslots g).all (fun i => (vs.map (·.2)).contains i) && (!it.tk || isTupG g) &&
    chkI it c tg iter && chkG g (c.blk scope) tg && chkT t (c.blk scope) ifs && chk e (c.blk scope) elt
  | .dc _ vs g it t k v, c, .DictComp kx vx [⟨tg, iter, ifs, a⟩] scope _ =>
    (a == 0) && blkC c.N c.sc scope vs && noSet iter && (gslots g).all (fun i => (vs.map (·.2)).contains i) && (!it.tk || isTupG g) &&
    chkI it c tg iter && chkG g (c.blk scope) tg && chkT t (c.blk scope) ifs && chk k (c.blk scope) kx && chk v (c.blk scope) vx
  | _, _, _ => false
def chks : CEs → Cc → List Expr → Bool
  | .nil, _, [] => true
  | .cons e r, c, x :: xs => noStar x && chk e c x && chks r c xs
  | .star e r, c, .Starred x _ :: xs => chk e c x && chks r c xs
  | _, _, _ => false
def chkO : CO → Cc → Option Expr → Bool
  | .no, _, none => true
  | .one e, c, some x => chk e c x
  | _, _, _ => false
def chkT : CT → Cc → List Expr → Bool
  | .no, _, [] => true
  | .one e, c, [x] => chk e c x
  | _, _, _ => false
def chkI : CI → Cc → Expr → Expr → Bool
  | .seq e, c, _, x => chk e c x
  | .range1 e, c, _, .Call (.Name f _) [x] [] _ => decide (f = "range") && c.gl f && c.bl.contains f && noStar x && chk e c x
  | .range2 e e2, c, _, .Call (.Name f _) [x, y] [] _ => decide (f = "range") && c.gl f && c.bl.contains f && noStar x && noStar y && chk e c x && chk e2 c y
  | .enum e, c, .Tuple _ _ _, .Call (.Name f _) [x] [] _ => decide (f = "enumerate") && c.gl f && c.bl.contains f && noStar x && chk e c x
  | .zip e e2, c, .Tuple _ _ _, .Call (.Name f _) [x, y] [] _ => decide (f = "zip") && c.gl f && c.bl.contains f && noStar x && noStar y && chk e c x && chk e2 c y
  | _, _, _, _ => false
end
/-- the stores of (a, b) = x, y are turned about: both sides written, all plain locals on one line, not all constants -/
def swp (c : Cc) (ts vs : List Expr) (names : List Str) : Bool :=
  c.isFn && (ts.length == 2 || ts.length == 3) && vs.length == ts.length && vs.all noStar && ts.all (fun t => match t with | .Name id pos => c.isLocal id && (pos.line == (ts.head?.map (·.pos.line)).getD 0) | _ => false) &&
    decide (names = ts.filterMap fun t => match t with | .Name id _ => some id | _ => none) && decide (names.eraseDups.length = names.length) && !(vs.all (foldedForSure 8)) && !(vs.all (constantsAlone 8))
/-- .. or they are not -/
def noSwp (tg e : Expr) : Bool := noTup e || (match tg with | .Tuple ts _ _ => !(ts.length == 2 || ts.length == 3) | _ => false)
/-- .. or one target is no plain local -/
def noSwpC (c : Cc) (tg e : Expr) : Bool := noSwp tg e || (match tg with | .Tuple ts _ _ => ts.any (fun t => match t with | .Name id _ => !c.isLocal id | _ => true) | _ => false)
mutual
def chkS : CS → Cc → Stmt → Bool
  | .expr e, c, .Expr x _ => noComp x && chk e c x
  | .ret e, c, .Return (some x) _ => chk e c x
  | .retn, _, .Return none _ => true
  | .set i e, c, .Assign [.Name x _] y _ => decide (c.N[i]? = some x) && c.loc x && (c.fn x || c.isLocal x) && (noComp y || !c.isLocal x) && chk e c y
  | .setlc i _ vs g it t e, c, .Assign [.Name x px] (.ListComp elt [⟨tg, iter, ifs, a⟩] scope pos) _ =>
    decide (c.N[i]? = some x) && c.isLocal x && c.isFn && (px.line == pos.line) && !(scope.names.any fun (n, k) => n == x && (k == .local || k == .cell)) &&
    (a == 0) && blkC c.N c.sc scope vs && noSet iter && (gslots g).all (fun i => (vs.map (·.2)).contains i) && (!it.tk || isTupG g) &&
    chkI it c tg iter && chkG g (c.blk scope) tg && chkT t (c.blk scope) ifs && chk e (c.blk scope) elt
  | .setg g e, c, .Assign [tg] y _ => isTupG g && chkG g c tg && noComp y && noSwpC c tg y && chk e c y
  | .par i j a b, c, .Assign [.Tuple [.Name x px, .Name y py] _ _] (.Tuple [u, v] _ _) _ => decide (c.N[i]? = some x) && decide (c.N[j]? = some y) && decide (i ≠ j) && noStar u && noStar v && swp c [.Name x px, .Name y py] [u, v] [x, y] && chk a c u && chk b c v
  | .par3 i j l a b d, c, .Assign [.Tuple [.Name x px, .Name y py, .Name z pz] _ _] (.Tuple [u, v, w] _ _) _ => decide (c.N[i]? = some x) && decide (c.N[j]? = some y) && decide (c.N[l]? = some z) && decide (i ≠ j) && decide (i ≠ l) && decide (j ≠ l) &&
    noStar u && noStar v && noStar w && swp c [.Name x px, .Name y py, .Name z pz] [u, v, w] [x, y, z] && chk a c u && chk b c v && chk d c w
  | .setix o i e, c, .Assign [.Subscript x y _] z _ => noSlice y && noComp z && chk o c x && chk i c y && chk e c z
  | .setfld o f e, c, .Assign [.Attribute x m _] y _ => decide (m = f) && chk o c x && chk e c y
  | .setfld2 o f g a b, c, .Assign [.Tuple [.Attribute x m _, .Attribute x' m' _] _ _] (.Tuple [u, v] _ _) _ => decide (m = f) && decide (m' = g) && noStar u && noStar v && chk o c x && chk o c x' && chk a c u && chk b c v
  | .aug i o e, c, .AugAssign (.Name x _) o' y _ => decide (o = o') && okAug o && decide (c.N[i]? = some x) && c.loc x && (c.fn x || c.isLocal x) && chk e c y
  | .ifs t a b, c, .If t' x y _ => chk t c t' && chkSs a c x && chkSs b c y
  | .for_ g it b, c, .For tg iter body [] _ => noSet iter && (!it.tk || isTupG g) && chkI it c tg iter && chkG g c tg && chkSs b c body
  | .forkeys g i b, c, .For tg (.Name x _) body [] _ => decide (c.N[i]? = some x) && c.vis x && okName x && chkG g c tg && chkSs b c body
  | .while_ t b, c, .While t' body [] _ => chk t c t' && chkSs b c body
  | .pass, _, .Pass _ => true
  | .brk, _, .Break _ => true
  | .cont, _, .Continue _ => true
  | _, _, _ => false
def chkSs : CSs → Cc → List Stmt → Bool
  | .nil, _, [] => true
  | .cons s r, c, x :: xs => chkS s c x && chkSs r c xs
  | .frz _ r, c, xs => chkSs r c xs
  | _, _, _ => false
end
end DL
set_option Elab.async false
set_option linter.all false
set_option maxRecDepth 100000
set_option maxHeartbeats 1000000
/-! DL9: the check is sound: expressions. -/
namespace DL
open PySem L2

theorem Vals.getI {zs : List V} {ws : List Value} (r : Vals zs ws) (i : Nat) : (∃ v u, zs[i]? = some v ∧ ws[i]? = some u ∧ RelV v u) ∨ (zs[i]? = none ∧ ws[i]? = none) := by
  cases e : zs[i]? with
  | none => exact .inr ⟨rfl, r.none_of e⟩
  | some v => obtain ⟨u, h1, h2⟩ := r.get e; exact .inl ⟨v, u, rfl, h1, h2⟩
theorem permV_rel {vs : List V} {us : List Value} {zs : List V} {ws : List Value} (r : Vals zs ws) : ∀ perm : List Nat, Vals (permV perm vs zs) (permV perm us ws)
  | [] => .nil
  | i :: p => by
    unfold permV
    rcases Vals.getI r i with ⟨v, u, e1, e2, rv⟩ | ⟨e1, e2⟩
    · rw [List.filterMap_cons_some e1, List.filterMap_cons_some e2]; exact .cons rv (permV_rel (vs := vs) (us := us) r p)
    · rw [List.filterMap_cons_none e1, List.filterMap_cons_none e2]; exact permV_rel (vs := vs) (us := us) r p
theorem permD_rel {W : Wd} {F : Hp} {zs : List D} {ws : List V} (r : Rps W F zs ws) : ∀ perm : List Nat, Rps W F (permV perm [] zs) (permV perm [] ws)
  | [] => .nil
  | i :: p => by
    unfold permV
    cases e : zs[i]? with
    | none =>
      have e2 : ws[i]? = none := by
        have := List.getElem?_eq_none_iff.mp e
        exact List.getElem?_eq_none_iff.mpr (by rw [← r.length]; exact this)
      rw [List.filterMap_cons_none e, List.filterMap_cons_none e2]; exact permD_rel r p
    | some d =>
      obtain ⟨u, h1, h2⟩ := r.get e
      rw [List.filterMap_cons_some e, List.filterMap_cons_some h1]; exact .cons h2 (permD_rel r p)

structure Ok (W : Wd) (T : Tb) (X : Cx) (c : Cc) : Prop where
  K : X.K = W.K
  sc : X.env.scope = c.sc
  N : X.N = c.N
  nd : c.N.Nodup
  calm : X.calm = true
  hu : X.A.units + 64 < cLine
  fnm : ∀ x, c.fn x = true → X.fn x = true
  xe : X.xe = fun _ _ => False
  fns : ∀ j f n sp, T.fn j = some (n, sp) → c.fns[j]? = some f → ∃ k a fd ps, FnOk X.prog X.w X.K X.mg X.base CX0 k a fd ps (LSp W n sp) ∧ Room k X.A ∧ X.mg f = some (.ref a) ∧ PySem.W.keepIn X.K (.ref a) = true ∧ Binds X.K fd ps [] ∧
    ∀ kp ∈ T.kw j, KBn X.K fd ps 0 kp.1 (permV kp.2) (permV kp.2)
  glb : ∀ j x d, T.glb j = some d → c.gls[j]? = some x → ∃ u v, X.mg x = some u ∧ RelV v u ∧ ∀ F, Rp W F d v
  blt : ∀ x, c.bl.contains x = true → X.mg x = none
  gd : T.gd = true → X.A.guards = some []
  fld : ∀ cl f, (T.fld cl).contains f = true → ∃ C, W.cm cl = some C ∧ Cls X.K C ∧ NoAttr X.K C f
  mts : ∀ j m cl m' n sp, c.mts[j]? = some m → T.mt j = some (cl, m', n, sp) → m' = m ∧ ∃ k C a fd ps, W.cm cl = some C ∧ Cls X.K C ∧ Meth X.K C m a ∧ FnOk X.prog X.w X.K X.mg X.base CX0 k a fd ps (LSp W n sp) ∧ Room k X.A ∧ Binds X.K fd ps []
  mks : ∀ j x cl n sp, c.mks[j]? = some x → T.mks j = some (cl, n, sp) → ∃ k C a fd ps, W.cm cl = some C ∧ Mk X.K C a ∧ FnOk X.prog X.w X.K X.mg X.base CX0 k a fd ps (LSp W n sp) ∧ Room (k + 1) X.A ∧ X.mg x = some (.ref C) ∧ Binds X.K fd ps []
  gcd : c.gcd = true → X.mg "gcd" = some (.builtin "math.gcd")
section
variable {W : Wd} {T : Tb} {X : Cx} {c : Cc}
theorem Ok.blk (h : Ok W T X c) (s : Shared) (H : Hp) (scope : Scope) (cl : List (Str × Addr)) (C : Addr) (fp : List Addr) : Ok W T (X.blk s H scope (compEnvC scope cl C X.env) fp) (c.blk scope) :=
  ⟨h.K, by show relS scope X.env.scope = relS scope c.sc; rw [h.sc], h.N, h.nd, h.calm, h.hu, fun x z => z, rfl, h.fns, h.glb, h.blt, h.gd, h.fld, h.mts, h.mks, h.gcd⟩
theorem Ok.hu1 (h : Ok W T X c) : X.A.units + 1 < cLine := Nat.lt_of_le_of_lt (Nat.add_le_add_left (by decide) _) h.hu
theorem Ok.gl (h : Ok W T X c) {x : Str} (g : c.gl x = true) : Gl X x := by
  unfold Cc.gl at g
  show X.env.scope.names.lookup x = some .globalImplicit
  rw [h.sc]
  split at g
  · assumption
  · cases g
theorem Ok.vis (h : Ok W T X c) {x : Str} (g : c.vis x = true) : Vis X.env.scope x := by
  unfold Cc.vis at g
  rw [h.sc]
  split at g
  · exact .inl (by assumption)
  · exact .inr (.inl (by assumption))
  · exact .inr (.inr (by assumption))
  · cases g
theorem Ok.loc (h : Ok W T X c) {x : Str} (g : c.loc x = true) : Loc X.env.scope x := by
  unfold Cc.loc at g
  rw [h.sc]
  split at g
  · exact .inl (by assumption)
  · exact .inr (by assumption)
  · cases g
theorem Ok.isLocal (h : Ok W T X c) {x : Str} (g : c.isLocal x = true) : X.env.scope.names.lookup x = some .local := by
  unfold Cc.isLocal at g
  rw [h.sc]
  split at g
  · assumption
  · cases g
theorem Ok.isFn (h : Ok W T X c) (g : c.isFn = true) : X.env.scope.kind = .function := by
  unfold Cc.isFn at g
  rw [h.sc]
  split at g
  · assumption
  · cases g
theorem Ok.fnl (h : Ok W T X c) {x : Str} (g : (c.fn x || c.isLocal x) = true) : X.fn x = true ∨ X.env.scope.names.lookup x = some .local := by
  rw [Bool.or_eq_true] at g
  rcases g with g | g
  · exact .inl (h.fnm x g)
  · exact .inr (h.isLocal g)
end
theorem okName_is {x : Str} (h : okName x = true) : (x == ("__debug__" : Str)) = false ∧ (x == ("__classdict__" : Str)) = false ∧ x ≠ "__name__" := by
  unfold okName at h
  simp only [Bool.and_eq_true, Bool.not_eq_true', decide_eq_true_eq] at h
  exact ⟨h.1.1, h.1.2, h.2⟩

section
variable (W : Wd) (T : Tb)
structure SE1 (X : Cx) (e : Expr) (d : DV) : Prop where
  v : PE X e (LE W d.v)
  t : PT X e (LT W d.t)
  w : ∀ o es pos, e = .BoolOp o es pos → PW X e (LT W d.t)
def SE (ce : CE) : Prop := ∀ X c e, Ok W T X c → chk ce c e = true → SE1 W X e (den T ce)
def SEs (ces : CEs) : Prop := ∀ X c es, Ok W T X c → chks ces c es = true → PA X es (LA W (dens T ces))
def SO (co : CO) : Prop := ∀ X c e, Ok W T X c → chkO co c e = true → PO X e (LO W (denO T co))
def ST (ct : CT) : Prop := ∀ X c es, Ok W T X c → chkT ct c es = true → PTs X es (LT W (denT T ct))
def SI (ci : CI) : Prop := ∀ X c tg e, Ok W T X c → chkI ci c tg e = true → PI X tg e (LI W ci.tk (denI T ci))
end
section
variable {W : Wd} {T : Tb} {X : Cx} {c : Cc}
/-- an expression whose test is its value's truth -/
theorem SE1.of {e : Expr} {d : DE} (ok : Ok W T X c) (h : PE X e (LE W d)) (p : plainT e = true) : SE1 W X e (.of d) :=
  ⟨h, lt_truth ok.K h (plainT_is p), fun o es pos z => by subst z; cases p⟩

/-! ### targets -/
theorem assignEach_len {env : Env} : ∀ {es : List Expr}, es.all noStar = true → (assignEach es env).length = es.length ∧ (assignEach es env).findIdx? (·.1) = none
  | [], _ => ⟨rfl, rfl⟩
  | e :: es, h => by
    simp only [List.all_cons, Bool.and_eq_true] at h
    obtain ⟨h1, h2⟩ := assignEach_len (env := env) h.2
    have e2 : assignEach (e :: es) env = (false, assign e env) :: assignEach es env := by cases e <;> first | rfl | (cases h.1)
    rw [e2]
    refine ⟨by rw [List.length_cons, List.length_cons, h1], ?_⟩
    rw [List.findIdx?_cons, h2]
    rfl
theorem assignEach_map {env : Env} {e : Expr} {es : List Expr} (h : noStar e = true) : (assignEach (e :: es) env).map (·.2) = assign e env :: (assignEach es env).map (·.2) := by
  cases e <;> first | rfl | (cases h)
theorem chkGs_len : ∀ {gs : CGs} {es : List Expr}, chkGs gs c es = true → glen gs = es.length
  | .nil, [], _ => rfl
  | .nil, _ :: _, h => by cases h
  | .cons _ _, [], h => by cases h
  | .cons g r, e :: es, h => by
    have h : (chkG g c e && chkGs r c es) = true := h
    simp only [Bool.and_eq_true] at h
    show glen r + 1 = es.length + 1
    rw [chkGs_len h.2]
theorem chkG_star : ∀ {g : CG} {e : Expr}, chkG g c e = true → noStar e = true
  | .slot _, e, h => by cases e <;> first | rfl | (cases h)
  | .tup _, e, h => by cases e <;> first | rfl | (cases h)
mutual
theorem sG (ok : Ok W T X c) : ∀ {g : CG} {e : Expr}, chkG g c e = true → PG X e (LG W g)
  | .slot i, e, h => by
    cases e <;> first | (cases h; done) | skip
    rename_i x p
    have h : (decide (c.N[i]? = some x) && c.loc x && (c.fn x || c.isLocal x)) = true := h
    simp only [Bool.and_eq_true, decide_eq_true_eq] at h
    exact lg_name (by rw [ok.N]; exact ok.nd) (by rw [ok.N]; exact h.1.1) (ok.loc h.1.2) (ok.fnl h.2)
  | .tup gs, e, h => by
    cases e <;> first | (cases h; done) | skip
    rename_i es k p
    have h : (es.all noStar && chkGs gs c es) = true := h
    simp only [Bool.and_eq_true] at h
    obtain ⟨h1, h2⟩ := assignEach_len (env := X.env) h.1
    exact lg_tup ok.calm ok.K (sGs ok h.2) (by rw [h1, chkGs_len h.2]) h2
theorem sGs (ok : Ok W T X c) : ∀ {g : CGs} {es : List Expr}, chkGs g c es = true → PGs X es (LGs W g)
  | .nil, [], _ => lgs_nil
  | .nil, _ :: _, h => by cases h
  | .cons _ _, [], h => by cases h
  | .cons g r, e :: es, h => by
    have h : (chkG g c e && chkGs r c es) = true := h
    simp only [Bool.and_eq_true] at h
    exact lgs_cons (sG ok h.1) (sGs ok h.2) (assignEach_map (chkG_star h.1))
end

/-! ### one lemma a construct -/
theorem se_slot {i : Nat} : SE W T (.slot i) := fun X c e ok h => by
  cases e <;> first | (cases h; done) | skip
  rename_i x p
  have h : (decide (c.N[i]? = some x) && c.vis x && okName x) = true := h
  simp only [Bool.and_eq_true, decide_eq_true_eq] at h
  obtain ⟨n1, n2, _⟩ := okName_is h.2
  exact .of ok (le_var (by rw [ok.N]; exact h.1.1) (ok.vis h.1.2) n1 n2) rfl
theorem se_int {i : Int} : SE W T (.int i) := fun X c e ok h => by
  cases e <;> first | (cases h; done) | skip
  rename_i k n p
  cases k <;> first | (cases h; done) | skip
  cases of_decide_eq_true h
  exact .of ok (le_const pe_int fun _ => .int _) rfl
theorem se_bl {i : Bool} : SE W T (.bl i) := fun X c e ok h => by
  cases e <;> first | (cases h; done) | skip
  rename_i k n p
  cases k <;> first | (cases h; done) | skip
  cases of_decide_eq_true h
  exact .of ok (le_const pe_bl fun _ => .bl _) rfl
theorem se_non : SE W T .non := fun X c e ok h => by
  cases e <;> first | (cases h; done) | skip
  rename_i k n p
  cases k <;> first | (cases h; done) | skip
  exact .of ok (le_const pe_non fun _ => .non) rfl
theorem se_str {i : Str} : SE W T (.str i) := fun X c e ok h => by
  cases e <;> first | (cases h; done) | skip
  rename_i k n p
  cases k <;> first | (cases h; done) | skip
  cases of_decide_eq_true h
  exact .of ok (le_const pe_str fun _ => .str _) rfl
theorem le_fail {e : Expr} : PE X e (LE W dFail) := ⟨fun pins s σ H Q I ⟨F, P, sd, S, Qd, rs, rl, h, k⟩ => h.elim⟩
theorem se_glb {j : Nat} : SE W T (.glb j) := fun X c e ok h => by
  cases e <;> first | (cases h; done) | skip
  rename_i y p
  have h : (decide (c.gls[j]? = some y) && c.gl y && okName y) = true := h
  simp only [Bool.and_eq_true, decide_eq_true_eq] at h
  obtain ⟨⟨h0, h1⟩, h2⟩ := h
  refine .of ok ?_ rfl
  show PE X _ (LE W (match T.glb j with | some d => dC d | none => dFail))
  cases e : T.glb j with
  | none => exact le_fail
  | some d =>
    obtain ⟨u, v, hm, r, hr⟩ := ok.glb j y d e h0
    exact le_const (pe_glob (ok.gl h1) hm r (okName_is h2).1) hr
theorem se_op {own : Bool} {o : Operator} {a b : CE} (ha : SE W T a) (hb : SE W T b) : SE W T (.op own o a b) := fun X c e ok h => by
  cases e <;> first | (cases h; done) | skip
  rename_i l o' r p
  have h : (decide (o = o') && okBin o && chk a c l && chk b c r) = true := h
  simp only [Bool.and_eq_true, decide_eq_true_eq] at h
  obtain ⟨⟨⟨rfl, h1⟩, h2⟩, h3⟩ := h
  have pa := (ha X c l ok h2).v
  have pb := (hb X c r ok h3).v
  refine .of ok ?_ rfl
  cases o <;> first | (cases h1; done) | skip
  · exact le_op (op := .Add) op_addA (by rw [ok.K]; exact ok_add) pa pb
  · exact le_op (op := .Sub) op_sub ok_sub pa pb
  · exact le_op (op := .Mult) op_mulA ok_mul pa pb
  · exact le_op (op := .Mod) op_mod ok_int pa pb
  · exact le_op (op := .Pow) op_pow ok_int pa pb
  · exact le_op (op := .FloorDiv) op_fdivW ok_int pa pb
theorem se_neg {a : CE} (ha : SE W T a) : SE W T (.neg a) := fun X c e ok h => by
  cases e <;> first | (cases h; done) | skip
  rename_i o l p
  cases o <;> first | (cases h; done) | skip
  exact .of ok (le_un un_neg ok_neg (ha X c l ok h).v) rfl
theorem ok_inD {neg : Bool} : R2Ok W (fun y x H Q => ∃ a o, x = .ref a ∧ DGet H a y o ∧ Q (.bl (if neg = true then !o.isSome else o.isSome)) H) (fInD neg) := by
  intro F P S H dx dy x y Qd Q rs rx ry h k
  unfold fInD at h
  split at h
  · rename_i kvs kk e1 e2
    obtain ⟨a, ws, rfl, h1, r1⟩ := asD_ok rs ry e1
    cases keyD_ok rx e2
    refine ⟨a, _, rfl, DGet.rd h1, k F S H _ _ (Le.refl F) rs ?_ h⟩
    rw [dget_some r1]
    exact .bl _
  · exact h.elim
theorem cmp_rule (ok : Ok W T X c) (o : CmpOp) : ∃ r : R2, OpR X (compareOp o) r ∧ R2Ok W r (fCmp o) := by
  cases o
  · exact ⟨_, op_eqD ok.hu, by rw [ok.K]; exact ok_eq⟩
  · exact ⟨_, op_neD ok.hu, by rw [ok.K]; exact ok_ne⟩
  · exact ⟨_, op_lt, ok_lt⟩
  · exact ⟨_, op_le, ok_le⟩
  · exact ⟨_, op_gt, ok_gt⟩
  · exact ⟨_, op_ge, ok_ge⟩
  · exact ⟨_, op_isA, ok_is⟩
  · exact ⟨_, op_isNotA, ok_isNot⟩
  · exact ⟨_, op_inD ok.hu1, ok_inD (neg := false)⟩
  · exact ⟨_, op_notInD ok.hu1, ok_inD (neg := true)⟩
theorem se_cmp {o : CmpOp} {a b : CE} (ha : SE W T a) (hb : SE W T b) : SE W T (.cmp o a b) := fun X c e ok h => by
  cases e <;> first | (cases h; done) | skip
  rename_i l ops rs pos
  rcases ops with _ | ⟨o', _ | ⟨_, _⟩⟩ <;> rcases rs with _ | ⟨r, _ | ⟨_, _⟩⟩ <;> first | (cases h; done) | skip
  have h : (decide (o = o') && noSet r && chk a c l && chk b c r) = true := h
  simp only [Bool.and_eq_true, decide_eq_true_eq] at h
  obtain ⟨⟨⟨rfl, h1⟩, h2⟩, h3⟩ := h
  obtain ⟨r, ho, hr⟩ := cmp_rule ok o
  have pa := (ha X c _ ok h2).v
  have pb := (hb X c _ ok h3).v
  exact ⟨le_cmp ho hr pa pb (noSet_mark h1), lt_cmp ho hr pa pb (noSet_mark h1), fun _ _ _ z => nomatch z⟩
theorem se_chain {o o2 : CmpOp} {a b d : CE} (ha : SE W T a) (hb : SE W T b) (hd : SE W T d) : SE W T (.chain o o2 a b d) := fun X c e ok h => by
  cases e <;> first | (cases h; done) | skip
  rename_i l ops rs pos
  rcases ops with _ | ⟨o', _ | ⟨o2', _ | ⟨_, _⟩⟩⟩ <;> rcases rs with _ | ⟨r, _ | ⟨r2, _ | ⟨_, _⟩⟩⟩ <;> first | (cases h; done) | skip
  have h : (decide (o = o') && decide (o2 = o2') && noSet r2 && chk a c l && chk b c r && chk d c r2) = true := h
  simp only [Bool.and_eq_true, decide_eq_true_eq] at h
  obtain ⟨⟨⟨⟨⟨rfl, rfl⟩, h1⟩, h2⟩, h3⟩, h4⟩ := h
  obtain ⟨_, ho, hr⟩ := cmp_rule ok o
  obtain ⟨_, ho2, hr2⟩ := cmp_rule ok o2
  have pa := (ha X c _ ok h2).v
  have pb := (hb X c _ ok h3).v
  have pd := (hd X c _ ok h4).v
  have m : lastMarks [o, o2] [r, r2] = false := by
    show behindInMarks o2 r2 = false
    exact noSet_mark h1
  exact ⟨le_chain ho ho2 hr hr2 pa pb pd m, lt_chain ho ho2 hr hr2 pa pb pd m, fun _ _ _ z => nomatch z⟩
theorem se_not {a : CE} (ha : SE W T a) : SE W T (.not a) := fun X c e ok h => by
  cases e <;> first | (cases h; done) | skip
  rename_i o l p
  cases o <;> first | (cases h; done) | skip
  have s := ha X c l ok h
  exact ⟨le_not s.v, lt_not s.t, fun _ _ _ z => nomatch z⟩
theorem se_and {a b : CE} (ha : SE W T a) (hb : SE W T b) : SE W T (.and a b) := fun X c e ok h => by
  cases e <;> first | (cases h; done) | skip
  rename_i o es p
  cases o <;> first | (cases h; done) | skip
  rcases es with _ | ⟨x, _ | ⟨y, r⟩⟩ <;> first | (cases h; done) | skip
  have h : (chk a c x && chk b c (.BoolOp .And (y :: r) p)) = true := h
  simp only [Bool.and_eq_true] at h
  have s1 := ha X c x ok h.1
  have s2 := hb X c _ ok h.2
  have w := lw_and s1.t (s2.w _ _ _ rfl)
  exact ⟨le_and s1.v s2.v, w.pt, fun _ _ _ _ => w⟩
theorem se_or {a b : CE} (ha : SE W T a) (hb : SE W T b) : SE W T (.or a b) := fun X c e ok h => by
  cases e <;> first | (cases h; done) | skip
  rename_i o es p
  cases o <;> first | (cases h; done) | skip
  rcases es with _ | ⟨x, _ | ⟨y, r⟩⟩ <;> first | (cases h; done) | skip
  have h : (chk a c x && chk b c (.BoolOp .Or (y :: r) p)) = true := h
  simp only [Bool.and_eq_true] at h
  have s1 := ha X c x ok h.1
  have s2 := hb X c _ ok h.2
  have w := lw_or s1.t (s2.w _ _ _ rfl)
  exact ⟨le_or s1.v s2.v, w.pt, fun _ _ _ _ => w⟩
theorem se_last {a : CE} (ha : SE W T a) : SE W T (.last a) := fun X c e ok h => by
  cases e <;> first | (cases h; done) | skip
  rename_i o es p
  rcases es with _ | ⟨x, _ | ⟨_, _⟩⟩ <;> first | (cases h; done) | skip
  have s := ha X c x ok h
  have w : PW X (.BoolOp o [x] p) (LT W (den T a).t) := by
    cases o
    · exact pw_and1 s.t
    · exact pw_or1 s.t
  exact ⟨pe_one s.v, w.pt, fun _ _ _ _ => w⟩
theorem se_ite {t a b : CE} (ht : SE W T t) (ha : SE W T a) (hb : SE W T b) : SE W T (.ite t a b) := fun X c e ok h => by
  cases e <;> first | (cases h; done) | skip
  rename_i t' x y p
  have h : (chk t c t' && chk a c x && chk b c y) = true := h
  simp only [Bool.and_eq_true] at h
  exact ⟨le_ite (ht X c _ ok h.1.1).t (ha X c _ ok h.1.2).v (hb X c _ ok h.2).v, ⟨fun pins s σ H Q I ⟨F, P, sd, S, Qd, rs, rl, h, k⟩ => h.elim⟩, fun _ _ _ z => nomatch z⟩
theorem se_tup {es : CEs} (hs : SEs W T es) : SE W T (.tup es) := fun X c e ok h => by
  cases e <;> first | (cases h; done) | skip
  exact .of ok (le_tup (hs X c _ ok h)) rfl
theorem se_lst {own : Bool} {es : CEs} (hs : SEs W T es) : SE W T (.lst own es) := fun X c e ok h => by
  cases e <;> first | (cases h; done) | skip
  exact .of ok (le_lst (hs X c _ ok h)) rfl
theorem se_ix {a b : CE} (ha : SE W T a) (hb : SE W T b) : SE W T (.ix a b) := fun X c e ok h => by
  cases e <;> first | (cases h; done) | skip
  rename_i x y p
  have h' : noSlice y = true ∧ chk a c x = true ∧ chk b c y = true := by
    have h : (noSlice y && chk a c x && chk b c y) = true := h
    simp only [Bool.and_eq_true] at h
    exact ⟨h.1.1, h.1.2, h.2⟩
  exact .of ok (le_ix ok.hu1 ok.K (ha X c _ ok h'.2.1).v (hb X c _ ok h'.2.2).v (noSlice_is h'.1)) rfl
theorem se_cut {own : Bool} {a : CE} {lo hi : CO} (ha : SE W T a) (hl : SO W T lo) (hh : SO W T hi) : SE W T (.cut own a lo hi) := fun X c e ok h => by
  cases e <;> first | (cases h; done) | skip
  rename_i x y p
  cases y <;> first | (cases h; done) | skip
  rename_i l u st p2
  cases st <;> first | (cases h; done) | skip
  have h : (chk a c x && chkO lo c l && chkO hi c u) = true := h
  simp only [Bool.and_eq_true] at h
  exact .of ok (le_cut ok.K (ha X c _ ok h.1.1).v (hl X c _ ok h.1.2) (hh X c _ ok h.2)) rfl
theorem ses_nil : SEs W T .nil := fun X c es ok h => by
  cases es with
  | nil => exact la_nil
  | cons _ _ => cases h
theorem ses_cons {e : CE} {r : CEs} (he : SE W T e) (hr : SEs W T r) : SEs W T (.cons e r) := fun X c es ok h => by
  cases es with
  | nil => cases h
  | cons x xs =>
    have h : (noStar x && chk e c x && chks r c xs) = true := h
    simp only [Bool.and_eq_true] at h
    have s := hr X c xs ok h.2
    exact la_cons (he X c x ok h.1.2).v s (star_cons h.1.1)
theorem asTL_ok {F P : Hp} {S : Store} {H : Hp} {d : D} {v : V} {xs : List D} (rs : RS W F P S H) (r : Rp W F d v) (h : asTL S d = some xs) : ∃ a vs, v = .ref a ∧ (SqT W.K H a vs ∨ SqL W.K H a vs) ∧ Rps W F xs vs := by
  unfold asTL at h
  split at h
  · cases h
    cases r with
    | tup h1 r1 => exact ⟨_, _, rfl, .inl (rs.sub.tupP h1).sqt, r1⟩
  · obtain ⟨a, vs, rfl, h1, r1⟩ := asL_ok rs r h
    exact ⟨a, vs, rfl, .inr (.inl h1), r1⟩
theorem rps_append {F : Hp} {xs ys : List D} {vs ws : List V} (a : Rps W F xs vs) (b : Rps W F ys ws) : Rps W F (xs ++ ys) (vs ++ ws) := match a with
  | .nil => b
  | .cons r t => .cons r (rps_append t b)
theorem la_star {e : Expr} {es : List Expr} {p : Pos} {d : DE} {r : DA} (hK : X.K = W.K) (ha : PE X e (LE W d)) (hr : PA X es (LA W r)) : PA X (.Starred e p :: es) (LA W (dStar d r)) :=
  (StX.pa_star ha hr).mono fun σ H Q ⟨F, P, sd, S, Qd, rs, rl, h, k⟩ => ⟨F, P, sd, S, _, rs, rl, h, fun F1 S1 H1 dx x l1 rs1 rx q1 => by
    split at q1
    · rename_i xs e1
      obtain ⟨a, vs, rfl, h1, r1⟩ := asTL_ok rs1 rx e1
      exact ⟨a, vs, rfl, by rw [hK]; exact h1, F1, P, sd, S1, _, rs1, rl.mono l1, q1, fun F2 S2 H2 ds us l2 rs2 rr q2 => k F2 S2 H2 _ _ (l1.trans l2) rs2 (rps_append (r1.mono l2) rr) q2⟩
    · exact q1.elim⟩
theorem ses_star {e : CE} {r : CEs} (he : SE W T e) (hr : SEs W T r) : SEs W T (.star e r) := fun X c es ok h => by
  cases es with
  | nil => cases h
  | cons x xs =>
    cases x <;> first | (cases h; done) | skip
    rename_i x p
    have h : (chk e c x && chks r c xs) = true := h
    simp only [Bool.and_eq_true] at h
    exact la_star ok.K (he X c x ok h.1).v (hr X c xs ok h.2)
theorem so_no : SO W T .no := fun X c e ok h => by
  cases e with
  | none => exact lo_none
  | some _ => cases h
theorem so_one {e : CE} (he : SE W T e) : SO W T (.one e) := fun X c x ok h => by
  cases x with
  | none => cases h
  | some y => exact lo_some (he X c y ok h).v
theorem st_no : ST W T .no := fun X c es ok h => by
  cases es with
  | nil => exact ⟨fun pins s σ H Q I ⟨F, P, sd, S, Qd, rs, rl, h, k⟩ => pts_nil.run pins s σ H Q I (k F S H true (Le.refl F) rs h)⟩
  | cons _ _ => cases h
theorem st_one {e : CE} (he : SE W T e) : ST W T (.one e) := fun X c es ok h => by
  rcases es with _ | ⟨x, _ | ⟨_, _⟩⟩ <;> first | (cases h; done) | skip
  exact pts_one (he X c x ok h).t
theorem se_call {j : Nat} {es : CEs} (hs : SEs W T es) : SE W T (.call j es) := fun X c e ok h => by
  cases e <;> first | (cases h; done) | skip
  rename_i g args kws p
  cases g <;> first | (cases h; done) | skip
  cases kws <;> first | (cases h; done) | skip
  rename_i x xp
  have h : (decide (c.fns[j]? = some x) && c.gl x && okName x && args.all noStar && chks es c args) = true := h
  simp only [Bool.and_eq_true, decide_eq_true_eq] at h
  obtain ⟨⟨⟨⟨h0, h1⟩, h2⟩, al⟩, h3⟩ := h
  have s := hs X c args ok h3
  refine .of ok ?_ rfl
  show PE X _ (LE W (match T.fn j with | some (n, sp) => dCall (guardN n sp) (dens T es) | none => dFail))
  cases e : T.fn j with
  | none => exact le_fail
  | some ns =>
    obtain ⟨n, sp⟩ := ns
    obtain ⟨k, a, fd, ps, G, hr, hm, hk, hb, _⟩ := ok.fns j x n sp e h0
    cases args with
    | nil =>
      cases es with
      | nil => exact le_call0 G hr (ok.gl h1) hm hk hb (okName_is h2).1
      | cons _ _ => cases h3
      | star _ _ => cases h3
    | cons x xs =>
      simp only [List.all_cons, Bool.and_eq_true] at al
      exact le_call G hr (ok.gl h1) hm hk hb s (okName_is h2).1 (star_cons al.1) (star_plain al.2)
end
end DL
set_option Elab.async false
set_option linter.all false
set_option maxRecDepth 100000
set_option maxHeartbeats 1000000
/-! DL10: the check is sound: calls, comprehensions, sources; all expressions. -/
namespace DL
open PySem L2
section
variable {X : Cx}
theorem kw_some {pos : Pos} {env : Env} : ∀ {kws : List Keyword} {ks : List Str}, kws.map (·.arg) = ks.map some →
    ((backToKw pos (keywordEach kws env)).all (·.1.isSome)) = true ∧ (backToKw pos (keywordEach kws env)).filterMap (·.1) = ks ∧ (backToKw pos (keywordEach kws env)).any (·.1.isNone) = false
  | [], [], _ => ⟨rfl, rfl, rfl⟩
  | [], _ :: _, h => by cases h
  | _ :: _, [], h => by cases h
  | ⟨a, v, p⟩ :: kws, k :: ks, h => by
    have h1 : a = some k := (List.cons.inj h).1
    have h2 := (List.cons.inj h).2
    subst h1
    obtain ⟨e1, e2, e3⟩ := kw_some (pos := pos) (env := env) h2
    have u : keywordEach (⟨some k, v, p⟩ :: kws) env = (some k, eval v env) :: keywordEach kws env := by rfl
    rw [u]
    have w : backToKw pos ((some k, eval v env) :: keywordEach kws env) = (some k, do let x ← eval v env; standAt pos; pure x) :: backToKw pos (keywordEach kws env) := rfl
    rw [w]
    refine ⟨?_, ?_, ?_⟩
    · rw [List.all_cons, e1]; rfl
    · show k :: List.filterMap _ _ = _
      rw [e2]
    · rw [List.any_cons, e3]; rfl
theorem pe_callK0 {k : Nat} {f : Addr} {fd : FuncData} {ps ks : List Str} {sp : Sp} {x : Str} {p pos : Pos} {kws : List Keyword} {tk : TA} {g : List Value → List Value → List Value} {gV : List V → List V → List V}
    (F : FnOk X.prog X.w X.K X.mg X.base CX0 k f fd ps sp) (hr : Room k X.A) (hg : Gl X x) (hm : X.mg x = some (.ref f)) (hk : PySem.W.keepIn X.K (.ref f) = true) (hb : KBn X.K fd ps 0 ks g gV)
    (hkw : PK X kws tk) (hks : kws.map (·.arg) = ks.map some) (hdb : (x == ("__debug__" : Str)) = false) :
    PE X (.Call (.Name x p) [] kws pos) (fun σ H Q => tk σ H fun zs H1 => zs.length = ks.length ∧ sp (gV [] zs) H1 Q E0) := by
  obtain ⟨e1, e2, e3⟩ := kw_some (pos := pos) (env := X.env) hks
  refine ⟨fun pins s σ H Q I h => ?_⟩
  refine wpAny_Call_Name_kw (ld_glob I hg hm ?_ hdb)
  refine PySem.W.callWith_KW0 (h₀ := X.base) I.ok.mod.kin hk e1 (thn (hkw.run pos pins s σ H _ I h) fun ws s2 ⟨zs, H2, I2, rz, l2, q2⟩ => ⟨I2.kIn, ?_⟩) (by rw [e3]; rfl)
  rw [e2]
  exact run_fnN (us := []) (vs := []) F hr hb pass0 I2 .nil rz rfl l2 q2
end
/-- the values of keywords, as expressions of one's own -/
inductive AllSE (W : Wd) (T : Tb) : CEs → Prop
  | nil : AllSE W T .nil
  | cons {e : CE} {r : CEs} (h : SE W T e) (t : AllSE W T r) : AllSE W T (.cons e r)
  | star {e : CE} {r : CEs} (h : SE W T e) (t : AllSE W T r) : AllSE W T (.star e r)
section
variable {W : Wd} {T : Tb}
theorem pk_all {X : Cx} {c : Cc} (ok : Ok W T X c) : ∀ {es : CEs}, AllSE W T es → ∀ {kws : List Keyword}, (kws.map (·.value)).all noStar = true → chks es c (kws.map (·.value)) = true → PK X kws (LA W (dens T es)) := by
  intro es a
  induction a with
  | nil =>
    intro kws al h
    cases kws with
    | nil => exact ⟨fun pos pins s σ H Q I q => (pk_nil (X := X)).run pos pins s σ H Q I (by obtain ⟨F, P, sd, S, Qd, rs, rl, h, k⟩ := q; exact k F S H _ _ (Le.refl F) rs .nil h)⟩
    | cons _ _ => cases h
  | @star e es he _ ih =>
    intro kws al h
    cases kws with
    | nil => cases h
    | cons kw r =>
      obtain ⟨nm, v, kp⟩ := kw
      have al : (noStar v && (r.map (·.value)).all noStar) = true := al
      cases v <;> first | (cases h; done) | skip
      cases al
  | @cons e es he _ ih =>
    intro kws al h
    cases kws with
    | nil => cases h
    | cons kw r =>
      obtain ⟨nm, v, kp⟩ := kw
      have h : (noStar v && chk e c v && chks es c (r.map (·.value))) = true := h
      simp only [Bool.and_eq_true] at h
      have h1 := (he X c v ok h.1.2).v
      have al : (noStar v && (r.map (·.value)).all noStar) = true := al
      rw [Bool.and_eq_true] at al
      have h2 := ih al.2 h.2
      exact ⟨fun pos pins s σ Hh Q I ⟨F, P, sd, S, Qd, rs, rl, q, k⟩ => (pk_cons (nm := nm) (kpos := kp) h1 h2).run pos pins s σ Hh Q I ⟨F, P, sd, S, _, rs, rl, q, fun F1 S1 H1 d v l1 rs1 rv q1 =>
        ⟨F1, P, sd, S1, _, rs1, rl.mono l1, q1, fun F2 S2 H2 ds vs l2 rs2 rvs q2 => k F2 S2 H2 _ _ (l1.trans l2) rs2 (.cons (rv.mono l2) rvs) q2⟩⟩⟩
theorem AllSE.ses {es : CEs} (a : AllSE W T es) : SEs W T es := by
  induction a with
  | nil => exact ses_nil
  | cons h _ ih => exact ses_cons h ih
  | star h _ ih => exact ses_star h ih

theorem se_callk {j : Nat} {ks : List Str} {perm : List Nat} {es : CEs} (hs : AllSE W T es) : SE W T (.callk j ks perm es) := fun X c e ok h => by
  cases e <;> first | (cases h; done) | skip
  rename_i g args kws p
  cases g <;> first | (cases h; done) | skip
  cases args <;> first | (cases h; done) | skip
  rename_i x xp
  have h : (decide (c.fns[j]? = some x) && c.gl x && okName x && decide (kws.map (·.arg) = ks.map some) && (kws.map (·.value)).all noStar && chks es c (kws.map (·.value))) = true := h
  simp only [Bool.and_eq_true, decide_eq_true_eq] at h
  obtain ⟨⟨⟨⟨⟨h0, h1⟩, h2⟩, h3⟩, al⟩, h4⟩ := h
  have pk := pk_all ok hs al h4
  refine .of ok ?_ rfl
  show PE X _ (LE W (match T.fn j with | some (n, sp) => if (T.kw j).contains (ks, perm) = true then dCall (fun ds S Q => ds.length = ks.length ∧ guardN n sp (permV perm [] ds) S Q) (dens T es) else dFail | none => dFail))
  cases e : T.fn j with
  | none => exact le_fail
  | some ns =>
    obtain ⟨n, sp⟩ := ns
    obtain ⟨k, a, fd, ps, G, hr, hm, hk, hb, hkb⟩ := ok.fns j x n sp e h0
    show PE X _ (LE W (if (T.kw j).contains (ks, perm) = true then _ else dFail))
    split
    · rename_i hc
      have hb0 := hkb (ks, perm) (List.contains_iff_mem.mp hc)
      refine (pe_callK0 G hr (ok.gl h1) hm hk hb0 pk h3 (okName_is h2).1).mono fun σ H Q ⟨F, P, sd, S, Qd, rs, rl, q, k⟩ => ?_
      refine ⟨F, P, sd, S, _, rs, rl, q, fun F1 S1 H1 ds vs l1 rs1 rr q1 => ⟨rr.length.symm.trans q1.1, ?_⟩⟩
      exact ⟨F1, P, _, S1, Qd, rs1, permD_rel rr perm, q1.2.1, q1.2.2, k.le l1⟩
    · exact le_fail
theorem blt_rule {X : Cx} {c : Cc} (ok : Ok W T X c) (own : Bool) (b : Blt) : ∃ r, CallR X (if b.isTy = true then .type b.name else .builtin b.name) r ∧ RAOk W r (fBlt own b) := by
  cases b
  · exact ⟨_, cr_len, by rw [ok.K]; exact ok_len⟩
  · exact ⟨_, call_abs, ok_abs⟩
  · exact ⟨_, call_int1, ok_int1⟩
  · exact ⟨_, cr_sum ok.calm, by rw [ok.K]; exact ok_sum⟩
  · exact ⟨_, cr_all ok.calm, by rw [ok.K]; exact ok_all⟩
  · exact ⟨_, cr_any ok.calm, by rw [ok.K]; exact ok_any⟩
  · exact ⟨_, cr_sortA ok.calm, by rw [ok.K]; exact ok_sorted⟩
  · exact ⟨_, cr_tupleP, by rw [ok.K]; exact ok_tuple⟩
  · exact ⟨_, call_list_of, by rw [ok.K]; exact ok_list⟩
  · exact ⟨_, cr_dictA ok.calm, by rw [ok.K]; exact ok_dict⟩
  · exact ⟨_, call_max2 ok.calm, ok_max⟩
  · exact ⟨_, call_min2 ok.calm, ok_min⟩
theorem blt_name (b : Blt) : Str.ofString b.name ≠ "__name__" ∧ (Str.ofString b.name == ("__debug__" : Str)) = false := by cases b <;> decide +kernel
theorem ty_name (b : TyC) : Str.ofString b.name ≠ "__name__" ∧ (Str.ofString b.name == ("__debug__" : Str)) = false := by cases b <;> decide +kernel
theorem se_blt {own : Bool} {b : Blt} {es : CEs} (hs : SEs W T es) : SE W T (.blt own b es) := fun X c e ok h => by
  cases e <;> first | (cases h; done) | skip
  rename_i g args kws p
  cases g <;> first | (cases h; done) | skip
  cases kws <;> first | (cases h; done) | skip
  rename_i x xp
  have h : (decide (x = Str.ofString b.name) && c.gl x && c.bl.contains x && !args.isEmpty && args.all noStar && chks es c args) = true := h
  simp only [Bool.and_eq_true, decide_eq_true_eq] at h
  obtain ⟨⟨⟨⟨⟨rfl, h1⟩, h2⟩, h3⟩, al⟩, h4⟩ := h
  have s := hs X c args ok h4
  refine .of ok ?_ rfl
  cases args with
  | nil => cases h3
  | cons y ys =>
    obtain ⟨r, hc, hr⟩ := blt_rule ok own b
    obtain ⟨n1, n2⟩ := blt_name b
    simp only [List.all_cons, Bool.and_eq_true] at al
    have bt := b.boot
    cases e : b.isTy
    · rw [e] at hc bt
      simp only [Bool.false_eq_true, if_false] at hc bt
      exact (pe_callB hc (ok.gl h1) (ok.blt _ h2) bt s n1 n2 (star_cons al.1) (star_plain al.2)).mono (liftA hr)
    · rw [e] at hc bt
      simp only [if_true] at hc bt
      exact (pe_callTy hc (ok.gl h1) (ok.blt _ h2) bt s n1 n2 (star_cons al.1) (star_plain al.2)).mono (liftA hr)
theorem se_isi {t : TyC} {a : CE} (ha : SE W T a) : SE W T (.isi t a) := fun X c e ok h => by
  cases e <;> first | (cases h; done) | skip
  rename_i g args kws p
  cases g <;> first | (cases h; done) | skip
  rename_i f fp
  rcases args with _ | ⟨y, _ | ⟨z, _ | ⟨_, _⟩⟩⟩ <;> first | (cases h; done) | (cases z <;> first | (cases h; done) | skip)
  cases kws <;> first | (cases h; done) | skip
  rename_i x xp
  have h : (decide (f = "isinstance") && c.gl f && c.bl.contains f && decide (x = Str.ofString t.name) && c.gl x && c.bl.contains x && noStar y && chk a c y) = true := h
  simp only [Bool.and_eq_true, decide_eq_true_eq] at h
  obtain ⟨⟨⟨⟨⟨⟨⟨rfl, h1⟩, h2⟩, rfl⟩, h3⟩, h4⟩, h5⟩, h6⟩ := h
  obtain ⟨n1, n2⟩ := ty_name t
  exact .of ok (pe_isi (ok.gl h1) (ok.blt _ h2) (ok.gl h3) (ok.blt _ h4) t.boot n1 n2 t.mem ok.K (ha X c y ok h6).v (star_cons h5)) rfl
theorem asD_IsD {F P H : Hp} {S : Store} {d : D} {v : V} (rs : RS W F P S H) (r : Rp W F d v) (h : (asD S d).isSome = true) : ∃ a, v = .ref a ∧ IsD H a := by
  cases e : asD S d with
  | none => rw [e] at h; cases h
  | some kvs =>
    obtain ⟨a, ws, rfl, h1, _⟩ := asD_ok rs r e
    exact ⟨a, rfl, .inl ⟨ws, h1⟩⟩
theorem se_get1 {o k : CE} (ho : SE W T o) (hk : SE W T k) : SE W T (.get1 o k) := fun X c e ok h => by
  cases e <;> first | (cases h; done) | skip
  rename_i g args kws p
  cases g <;> first | (cases h; done) | skip
  rename_i e m ap
  rcases args with _ | ⟨y, _ | ⟨_, _⟩⟩ <;> first | (cases h; done) | skip
  cases kws <;> first | (cases h; done) | skip
  have h : (decide (m = "get") && noSuper e && noStar y && (ap.endLine == p.line) && chk o c e && chk k c y) = true := h
  simp only [Bool.and_eq_true, decide_eq_true_eq] at h
  obtain ⟨⟨⟨⟨⟨rfl, h1⟩, h2⟩, h3⟩, h4⟩, h5⟩ := h
  have tr : starEach [y] X.env = [(false, eval y X.env)] := star_cons h2
  refine .of ok ((pe_dget1 ok.hu1 (ho X c e ok h4).v (hk X c y ok h5).v ⟨noSuper_is h1, by rw [tr]; rfl, h3, by rw [tr]; rfl⟩).mono fun σ H Q ⟨F, P, sd, S, Qd, rs, rl, q, kt⟩ => ?_) rfl
  refine ⟨F, P, sd, S, _, rs, rl, q, fun F1 S1 H1 dx x l1 rs1 rx q1 => ?_⟩
  obtain ⟨a, rfl, hd⟩ := asD_IsD rs1 rx q1.1
  refine ⟨a, rfl, hd, F1, P, sd, S1, _, rs1, rl.mono l1, q1.2, fun F2 S2 H2 dy y l2 rs2 ry q2 => ?_⟩
  unfold fGet at q2
  split at q2
  · rename_i kvs kk e1 e2
    obtain ⟨b, ws, eb, h1, r1⟩ := asD_ok rs2 (rx.mono l2) e1
    cases eb
    cases keyD_ok ry e2
    refine ⟨_, DGet.rd h1, kt F2 S2 H2 _ _ (l1.trans l2) rs2 ?_ q2⟩
    cases eq : dget kvs kk with
    | none => rw [(dget_ok r1 kk).2 eq]; exact .non
    | some d => obtain ⟨v, h1, h2⟩ := (dget_ok r1 kk).1 d eq; rw [h1]; exact h2
  · exact q2.elim
theorem se_get2 {o k dd : CE} (ho : SE W T o) (hk : SE W T k) (hd : SE W T dd) : SE W T (.get2 o k dd) := fun X c e ok h => by
  cases e <;> first | (cases h; done) | skip
  rename_i g args kws p
  cases g <;> first | (cases h; done) | skip
  rename_i e m ap
  rcases args with _ | ⟨y, _ | ⟨z, _ | ⟨_, _⟩⟩⟩ <;> first | (cases h; done) | skip
  cases kws <;> first | (cases h; done) | skip
  have h : (decide (m = "get") && noSuper e && noStar y && noStar z && (ap.endLine == p.line) && chk o c e && chk k c y && chk dd c z) = true := h
  simp only [Bool.and_eq_true, decide_eq_true_eq] at h
  obtain ⟨⟨⟨⟨⟨⟨⟨rfl, h1⟩, h2⟩, h2b⟩, h3⟩, h4⟩, h5⟩, h6⟩ := h
  have tr1 : starEach [z] X.env = [(false, eval z X.env)] := star_cons h2b
  have tr : starEach [y, z] X.env = [(false, eval y X.env), (false, eval z X.env)] := by rw [star_cons h2, tr1]
  refine .of ok ((pe_dget2 ok.hu1 (ho X c e ok h4).v (hk X c y ok h5).v (hd X c z ok h6).v ⟨noSuper_is h1, by rw [tr]; rfl, h3, by rw [tr]; rfl⟩).mono fun σ H Q ⟨F, P, sd, S, Qd, rs, rl, q, kt⟩ => ?_) rfl
  refine ⟨F, P, sd, S, _, rs, rl, q, fun F1 S1 H1 dx x l1 rs1 rx q1 => ?_⟩
  obtain ⟨a, rfl, hdd⟩ := asD_IsD rs1 rx q1.1
  refine ⟨a, rfl, hdd, F1, P, sd, S1, _, rs1, rl.mono l1, q1.2, fun F2 S2 H2 dy y l2 rs2 ry q2 => ⟨F2, P, sd, S2, _, rs2, (rl.mono l1).mono l2, q2, fun F3 S3 H3 dz z l3 rs3 rz q3 => ?_⟩⟩
  unfold fGet at q3
  split at q3
  · rename_i kvs kk e1 e2
    obtain ⟨b, ws, eb, h1, r1⟩ := asD_ok rs3 ((rx.mono l2).mono l3) e1
    cases eb
    cases keyD_ok ry e2
    refine ⟨_, DGet.rd h1, kt F3 S3 H3 _ _ ((l1.trans l2).trans l3) rs3 ?_ q3⟩
    cases eq : dget kvs kk with
    | none => rw [(dget_ok r1 kk).2 eq]; exact rz
    | some d => obtain ⟨v, h1, h2⟩ := (dget_ok r1 kk).1 d eq; rw [h1]; exact h2
  · exact q3.elim
theorem few_one {X : Cx} {y : Expr} {cpos : Pos} (h : noStar y = true) : ((backTo cpos (starEach [y] X.env)).all (fun x => !x.1) && (backToKw cpos (keywordEach [] X.env)).all (fun x => x.1.isSome)
      && decide (([y] : List Expr).length + ([] : List Keyword).length + (if ([] : List Keyword).isEmpty then 0 else 1) < 30)) = true := by
  rw [star_cons h]; rfl
theorem se_app {o k : CE} (ho : SE W T o) (hk : SE W T k) : SE W T (.app o k) := fun X c e ok h => by
  cases e <;> first | (cases h; done) | skip
  rename_i g args kws p
  cases g <;> first | (cases h; done) | skip
  rename_i e m ap
  rcases args with _ | ⟨y, _ | ⟨_, _⟩⟩ <;> first | (cases h; done) | skip
  cases kws <;> first | (cases h; done) | skip
  have h : (decide (m = "append") && noSuper e && noStar y && (ap.endLine == p.line) && chk o c e && chk k c y) = true := h
  simp only [Bool.and_eq_true, decide_eq_true_eq] at h
  obtain ⟨⟨⟨⟨⟨rfl, h1⟩, h2⟩, h3⟩, h4⟩, h5⟩ := h
  refine .of ok ((pe_bm PySem.F.plainAttrs_list PySem.F.slot_list_append PySem.F.type_list_append mt_append (ho X c e ok h4).v (pa_cons (hk X c y ok h5).v pa_nil (star_cons h2)) (noSuper_is h1) (few_one h2) h3 (star_cons h2) (star_plain (es := []) rfl)).mono fun σ H Q ⟨F, P, sd, S, Qd, rs, rl, q, kt⟩ => ?_) rfl
  refine ⟨F, P, sd, S, _, rs, rl, q, fun F1 S1 H1 dx x l1 rs1 rx q1 => ?_⟩
  have hx := q1.1
  unfold isLs at hx
  split at hx <;> first | (cases hx; done) | skip
  rename_i a
  split at hx <;> first | (cases hx; done) | skip
  rename_i xs es
  cases rx
  obtain ⟨_, u, hu, ro⟩ := rs1.obj _ _ es
  cases ro with
  | lst r0 =>
    refine ⟨.inl ⟨rfl, _, .inl (.inl hu)⟩, F1, P, sd, S1, _, rs1, rl.mono l1, q1.2, fun F2 S2 H2 dy y l2 rs2 ry q2 => ?_⟩
    unfold fApp at q2
    simp only at q2
    split at q2
    · rename_i xs2 es2
      obtain ⟨nF, u2, hu2, ro2⟩ := rs2.obj _ _ es2
      cases ro2 with
      | lst r2 =>
        refine ⟨a, _, y, rfl, rfl, hu2, by rw [← r2.length]; exact q2.1, ?_⟩
        exact kt F2 _ _ _ _ (l1.trans l2) (rs2.wrote es2 (by show (_ ++ [y]).length ≤ sizeLine; rw [List.length_append, ← r2.length]; exact q2.1) (.lst (r2.app (.cons ry .nil)))) .non q2.2
    · exact q2.elim
theorem se_dict0 {own : Bool} : SE W T (.dict0 own) := fun X c e ok h => by
  cases e <;> first | (cases h; done) | skip
  rename_i ks vs p
  cases ks <;> first | (cases h; done) | skip
  cases vs <;> first | (cases h; done) | skip
  exact .of ok (pe_dnewK.mono fun σ H Q ⟨F, P, sd, S, Qd, rs, rl, q, kt⟩ => mkD_ok rs (Nat.zero_le _) .nil q kt) rfl
end
end DL
set_option Elab.async false
set_option linter.all false
set_option maxRecDepth 100000
set_option maxHeartbeats 1000000
/-! DL25: instances, their fields and methods; gcd. -/
namespace L2
open PySem PySem.Spec PyProof.Rows
section
variable {X : Cx} {o : Expr} {f : Str} {pos : Pos} {to : TE}
/-- o.f = .., a target -/
def gFld (K : PySem.W.Frag) (to : TE) (f : Str) : TG := fun v σ H Q => to σ H fun x H1 => ∃ a C dx fs, x = .ref a ∧ H1 a = some (.ins C dx fs) ∧ Cls K C ∧ NoAttr K C f ∧ fs.length < 1000 ∧ Q σ (upd H1 a (.ins C dx (putF f v fs)))
theorem pg_fld (ho : PE X o to) : PG X (.Attribute o f pos) (gFld X.K to f) := by
  refine ⟨fun pins s σ H v u Q I r h => ?_⟩
  rw [assign_Attribute]
  refine wpAny_bind (wpAny_holding (thn (ho.run pins s σ H _ I h) fun ov s1 ⟨x, H1, I1, r1, a, C, dx, fs, ex, ea, c, n, l, q⟩ => ?_))
  subst ex
  obtain rfl : ov = Value.ref a := r1
  refine wpAny_bind (wpAny_standAt (wpAny_bind (wpAny_holding ?_)))
  refine setattr_ok I1 ea c n l r fun s3 I3 => ?_
  exact wpAny_release ⟨σ, _, I3, q⟩
end
end L2
namespace DL
open PySem L2
section
variable {W : Wd} {F F' P : Hp} {S S' : Store} {H H' : Hp} {X : Cx}
theorem RpF.look {f : Str} : ∀ {fs : List (Str × D)} {gs : List (Str × V)}, RpF W F fs gs → (∀ d, fs.lookup f = some d → ∃ v, gs.lookup f = some v ∧ Rp W F d v) ∧ (fs.lookup f = none → gs.lookup f = none)
  | _, _, .nil => ⟨fun d h => (by cases h), fun _ => rfl⟩
  | (k, d) :: fs, (_, v) :: gs, .cons h t => by
    obtain ⟨h1, h2⟩ := RpF.look (f := f) t
    unfold List.lookup
    cases e : f == k with
    | true => exact ⟨fun d' z => by cases z; exact ⟨v, rfl, h⟩, fun z => by cases z⟩
    | false => exact ⟨h1, h2⟩
theorem RpF.put {f : Str} {d : D} {v : V} (r : Rp W F d v) : ∀ {fs : List (Str × D)} {gs : List (Str × V)}, RpF W F fs gs → RpF W F (putD f d fs) (putF f v gs)
  | _, _, .nil => .cons r .nil
  | (k, x) :: fs, (_, y) :: gs, .cons h t => by
    unfold putD putF
    split
    · exact .cons r t
    · exact .cons h (RpF.put r t)
theorem RpF.len : ∀ {fs : List (Str × D)} {gs : List (Str × V)}, RpF W F fs gs → fs.length = gs.length
  | _, _, .nil => rfl
  | _ :: _, _ :: _, .cons h t => by rw [List.length_cons, List.length_cons, RpF.len t]
end
section
variable {W : Wd} {T : Tb} {X : Cx} {c : Cc}
theorem ins_of {F P : Hp} {S : Store} {H : Hp} {a : Addr} {cl : Str} {fs : List (Str × D)} (rs : RS W F P S H) (e : S a = some (.ins cl fs)) : ∃ C dx gs, H a = some (.ins C dx gs) ∧ W.cm cl = some C ∧ RpF W F fs gs := by
  obtain ⟨_, u, h1, h2⟩ := rs.obj _ _ e
  cases h2 with
  | @ins _ _ gs C dx hc r => exact ⟨C, dx, gs, h1, hc, r⟩
theorem se_fld {o : CE} {f : Str} (ho : SE W T o) : SE W T (.fld o f) := fun X c e ok h => by
  cases e <;> first | (cases h; done) | skip
  rename_i e m p
  have h : (decide (m = f) && noSuper e && chk o c e) = true := h
  simp only [Bool.and_eq_true, decide_eq_true_eq] at h
  obtain ⟨⟨rfl, h1⟩, h2⟩ := h
  refine .of ok ((pe_fld (ho X c e ok h2).v (noSuper_is h1)).mono fun σ H Q ⟨F, P, sd, S, Qd, rs, rl, q, kt⟩ => ?_) rfl
  refine ⟨F, P, sd, S, _, rs, rl, q, fun F1 S1 H1 dx x l1 rs1 rx q1 => ?_⟩
  unfold fFld at q1
  split at q1
  · rename_i a
    cases rx
    split at q1
    · rename_i cl fs es
      obtain ⟨q1, q2⟩ := q1
      obtain ⟨C, dx, gs, hH, hc, r⟩ := ins_of rs1 es
      obtain ⟨C', hc', k1, k2⟩ := ok.fld cl m q1
      cases hc.symm.trans hc'
      split at q2
      · rename_i d ed
        obtain ⟨v, hv, rv⟩ := (RpF.look r).1 d ed
        exact ⟨a, C, dx, gs, v, rfl, hH, k1, k2, hv, kt F1 S1 H1 d v l1 rs1 rv q2⟩
      · exact q2.elim
    · exact q1.elim
  · exact q1.elim
theorem meth_tree {o : Expr} {m : Str} {apos pos : Pos} {args : List Expr} {env : Env} (h1 : noSuper o = true) (h2 : args.all noStar = true) (h3 : args.length < 30) (h4 : (apos.endLine == pos.line) = true) :
    eval (.Call (.Attribute o m apos) args [] pos) env = (do
      let ov ← eval o env
      standAt apos.atName
      let (f, first) ← holding [ov] (getMethod ov m (do return (← importBound o env).getD true))
      callWith pos f first (backTo pos (starEach args env)) (backToKw pos (keywordEach [] env))) := by
  have few : methodCallForm args.length (backTo pos (starEach args env)) (backToKw pos (keywordEach [] env)) = true := by
    unfold methodCallForm
    have a1 : (backTo pos (starEach args env)).all (fun x => !x.1) = true := by
      have := star_plain (pos := pos) (env := env) h2
      rw [List.any_eq_false] at this
      rw [List.all_eq_true]
      intro x hx
      have := this x hx
      simpa using this
    rw [a1]
    show (true && true && decide (args.length + 0 < 30)) = true
    rw [decide_eq_true (by omega)]; rfl
  show (do
    let ov ← attributeBase o m env (eval o env)
    standAt apos.atName
    methodCall o m apos pos env ov (args.length + ([] : List Keyword).length) (backTo pos (starEach args env)) (backToKw pos (keywordEach [] env))) = _
  rw [noSuper_is h1]
  unfold methodCall calleeOf methodCallPos
  rw [show args.length + ([] : List Keyword).length = args.length from rfl, few]
  simp only [h4, Bool.not_true, Bool.false_or, if_true, pure_bind]
theorem se_meth {j : Nat} {o : CE} {es : CEs} (ho : SE W T o) (hs : SEs W T es) : SE W T (.meth j o es) := fun X c e ok h => by
  cases e <;> first | (cases h; done) | skip
  rename_i g args kws p
  cases g <;> first | (cases h; done) | skip
  rename_i e m ap
  cases kws <;> first | (cases h; done) | skip
  have h : (decide (c.mts[j]? = some m) && noSuper e && args.all noStar && decide (args.length < 30) && (ap.endLine == p.line) && chk o c e && chks es c args) = true := h
  simp only [Bool.and_eq_true, decide_eq_true_eq] at h
  obtain ⟨⟨⟨⟨⟨⟨h1, h2⟩, h3⟩, h4⟩, h5⟩, h6⟩, h7⟩ := h
  refine .of ok ?_ rfl
  show PE X _ (LE W (dMeth (T.mt j) (den T o).v (dens T es)))
  cases em : T.mt j with
  | none => exact ⟨fun pins s σ H Q I ⟨F, P, sd, S, Qd, rs, rl, h, k⟩ => h.elim⟩
  | some q4 =>
    obtain ⟨cl, m', n, sp⟩ := q4
    obtain ⟨rfl, k, C, a, fd, ps, hc, kc, km, G, hr, hb⟩ := ok.mts j m cl m' n sp h1 em
    have pa := hs X c args ok h7
    have po := (ho X c e ok h6).v
    have tr := meth_tree (m := m') (env := X.env) h2 h3 h4 h5
    have fin : ∀ σ H Q, LE W (dMeth (some (cl, m', n, sp)) (den T o).v (dens T es)) σ H Q → tMeth C m' (LSp W n sp) [] E0 (LE W (den T o).v) (LA W (dens T es)) σ H Q := by
      rintro σ H Q ⟨F, P, sd, S, Qd, rs, rl, q, kt⟩
      refine ⟨F, P, sd, S, _, rs, rl, q, fun F1 S1 H1 dx x l1 rs1 rx q1 => ?_⟩
      obtain ⟨⟨b, fs, rfl, e1, e2⟩, q2⟩ := q1
      cases rx
      obtain ⟨C', dx', gs, hH, hc', r⟩ := ins_of rs1 e1
      cases hc.symm.trans hc'
      refine ⟨b, dx', gs, rfl, hH, (RpF.look r).2 e2, F1, P, sd, S1, _, rs1, rl.mono l1, q2, fun F2 S2 H2 ds vs l2 rs2 rr q3 => ?_⟩
      show LSp W n sp (V.ref b :: (vs ++ [])) H2 Q E0
      rw [List.append_nil]
      exact ⟨F2, P, _, S2, Qd, rs2, .cons (.ref b) rr, q3.1, q3.2, kt.le (l1.trans l2)⟩
    cases args with
    | nil =>
      have a0 : ∀ σ H (Q : List V → Hp → Prop), LA W (dens T es) σ H Q → tNil σ H Q := by
        cases es with
        | nil =>
          rintro σ H Q ⟨F, P, sd, S, Qd, rs, rl, q, kt⟩
          exact kt F S H [] [] (Le.refl F) rs .nil q
        | cons _ _ => cases h7
        | star _ _ => cases h7
      refine (pe_meth0 po kc km G hr hb .nil pass0 tr).mono fun σ H Q hq => ?_
      obtain hq := fin σ H Q hq
      obtain ⟨F, P, sd, S, Qd, rs, rl, q, kt⟩ := hq
      refine ⟨F, P, sd, S, Qd, rs, rl, q, fun F1 S1 H1 dx x l1 rs1 rx q1 => ?_⟩
      obtain ⟨a, dx, fs, z1, z2, z3, z4⟩ := kt F1 S1 H1 dx x l1 rs1 rx q1
      exact ⟨a, dx, fs, z1, z2, z3, a0 _ _ _ z4⟩
    | cons y ys =>
      simp only [List.all_cons, Bool.and_eq_true] at h3
      exact (pe_meth po kc km G hr hb .nil pass0 pa (star_cons h3.1) (star_plain h3.2) tr).mono fin
theorem RS.made {F P : Hp} {S : Store} {H : Hp} (rs : RS W F P S H) {x dx C : Addr} {cl : Str} (hx : H x = Option.none) (hd : H dx = Option.none) (ne : dx ≠ x) (hc : W.cm cl = some C) : RS W F P (sup S x (.ins cl [])) (upd (upd H dx (.own x)) x (.ins C dx [])) := by
  have nx := rs.none hx
  have nd := rs.none hd
  have rs1 : RS W F P S (upd H dx (.own x)) := by
    refine ⟨sz_upd rs.sz trivial, rs.sub.upd nd.1, fun a o h => ?_, fun a o h => rs.dis a o h, fun a o h => ?_⟩
    · rw [upd_ne (ne_of_none (rs.prs _ _ h) hd)]; exact rs.prs _ _ h
    · obtain ⟨h1, w, h2, h3⟩ := rs.obj _ _ h
      exact ⟨h1, w, by rw [upd_ne (ne_of_none h2 hd)]; exact h2, h3⟩
  exact rs1.laid (by rw [upd_ne (Ne.symm ne)]; exact hx) trivial (.ins hc .nil)
theorem se_make {j : Nat} {es : CEs} (hs : SEs W T es) : SE W T (.make j es) := fun X c e ok h => by
  cases e <;> first | (cases h; done) | skip
  rename_i g args kws p
  cases g <;> first | (cases h; done) | skip
  rename_i x xp
  cases kws <;> first | (cases h; done) | skip
  have h : (decide (c.mks[j]? = some x) && c.gl x && okName x && !args.isEmpty && args.all noStar && chks es c args) = true := h
  simp only [Bool.and_eq_true, decide_eq_true_eq] at h
  obtain ⟨⟨⟨⟨⟨h1, h2⟩, h3⟩, h4⟩, h5⟩, h6⟩ := h
  refine .of ok ?_ rfl
  show PE X _ (LE W (dMake (T.mks j) (dens T es)))
  cases em : T.mks j with
  | none => exact ⟨fun pins s σ H Q I ⟨F, P, sd, S, Qd, rs, rl, h, k⟩ => h.elim⟩
  | some q4 =>
    obtain ⟨cl, n, sp⟩ := q4
    obtain ⟨k, C, a, fd, ps, hc, M, G, hr, hm, hb⟩ := ok.mks j x cl n sp h1 em
    have pa := hs X c args ok h6
    cases args with
    | nil => cases h4
    | cons y ys =>
      simp only [List.all_cons, Bool.and_eq_true] at h5
      refine (pe_make M G hr (ok.gl h2) hm hb .nil pass0 pa (okName_is h3).1 (star_cons h5.1) (star_plain h5.2)).mono fun σ H Q ⟨F, P, sd, S, Qd, rs, rl, q, kt⟩ => ?_
      refine ⟨F, P, sd, S, _, rs, rl, q, fun F1 S1 H1 ds vs l1 rs1 rr q1 => ?_⟩
      intro p dx hp hd ne
      rw [List.append_nil]
      have nS := (rs1.none hp).2.2
      have q2 := q1 p nS
      refine ⟨F1, P, _, _, _, rs1.made hp hd ne hc, .cons (.ref p) rr, q2.1, q2.2, fun F2 S2 H2 d v l2 rs2 rv q3 => ?_⟩
      obtain ⟨rfl, q3⟩ := q3
      cases rv
      exact ⟨rfl, kt F2 S2 H2 _ _ (l1.trans l2) rs2 (.ref p) q3⟩
theorem ok_gcd : RAOk W rGcd fGcd := by
  intro F P S H ds vs Qd Q rs rr h k
  unfold fGcd at h
  split at h
  · cases rr with
    | cons r1 t =>
      cases t with
      | cons r2 t =>
        cases t
        cases r1; cases r2
        exact ⟨_, _, rfl, k F S H _ _ (Le.refl F) rs (.int _) h⟩
  · exact h.elim
theorem se_gcd {es : CEs} (hs : SEs W T es) : SE W T (.gcd es) := fun X c e ok h => by
  cases e <;> first | (cases h; done) | skip
  rename_i g args kws p
  cases g <;> first | (cases h; done) | skip
  rename_i x xp
  cases kws <;> first | (cases h; done) | skip
  have h : (decide (x = "gcd") && c.gcd && c.gl x && !args.isEmpty && args.all noStar && chks es c args) = true := h
  simp only [Bool.and_eq_true, decide_eq_true_eq] at h
  obtain ⟨⟨⟨⟨⟨rfl, h2⟩, h3⟩, h4⟩, h5⟩, h6⟩ := h
  refine .of ok ?_ rfl
  show PE X _ (LE W (if T.gcd = true then dCall fGcd (dens T es) else dFail))
  split
  · have pa := hs X c args ok h6
    cases args with
    | nil => cases h4
    | cons y ys =>
      simp only [List.all_cons, Bool.and_eq_true] at h5
      exact (pe_callBfun cr_gcd (ok.gl h3) (ok.gcd h2) pa (by decide +kernel) (star_cons h5.1) (star_plain h5.2)).mono (liftA ok_gcd)
  · exact le_fail
end
end DL
set_option Elab.async false
set_option linter.all false
set_option maxRecDepth 100000
set_option maxHeartbeats 1000000
/-! DL19: sorted(d.items()), the keys whole numbers. -/
namespace DL
open PySem L2 PyProof.Rows
section
variable {prog : Program} {w : World} {A : Around} {E : Value → Shared → Prop} {s : Shared}
theorem eqb_ref {b : Addr} {Q : Bool → Shared → Prop} (h : Q true s) : wpAny (model prog w) A (eqBool (.ref b) (.ref b)) Q E s := by
  unfold eqBool
  refine wpAny_holding ?_
  have e : (Value.ref b == Value.ref b) = true := by simp
  rw [if_pos e]
  exact wpAny_bind (wpAny_rule (wpAny_pure h))
/-- v is a pair of the whole number i and the thing at b -/
def PairI (h : Heap) (v : Value) (i : Int) (b : Addr) : Prop := ∃ (a : Addr) (o : Obj) (n : Nat) (t : Tok), v = .ref a ∧ h.get? a = some o ∧ o.cls = .type "tuple" ∧ o.data = .seq #[.int i t, .ref b] n
theorem firsts_i {h : Heap} : ∀ vs : List Value, (∀ v ∈ vs, ∃ i b, PairI h v i b) → ∃ fs : List Value, PySem.W.KatTups h vs fs ∧ fs.length = vs.length ∧ ∀ f ∈ fs, ∃ i t, f = Value.int i t
  | [], _ => ⟨[], PySem.W.KatTups.nil, rfl, fun f hf => by simp at hf⟩
  | v :: vs, x => by
    obtain ⟨fs, k, hl, hi⟩ := firsts_i vs fun u hu => x u (List.mem_cons_of_mem _ hu)
    obtain ⟨i, b, a, o, n, t, rfl, ho, hc, hd⟩ := x v List.mem_cons_self
    refine ⟨.int i t :: fs, PySem.W.KatTups.cons ho hc hd rfl k, by rw [List.length_cons, List.length_cons, hl], fun f hf => ?_⟩
    rcases List.mem_cons.mp hf with rfl | hf
    · exact ⟨i, t, rfl⟩
    · exact hi f hf
theorem mem_zs {α : Type} {p : α × α} : ∀ {vs : List α}, p ∈ vs.zip vs → p.1 ∈ vs
  | [], h => by cases h
  | v :: vs, h => by
    rcases List.mem_cons.mp h with rfl | h
    · exact List.mem_cons_self
    · exact List.mem_cons_of_mem _ (mem_zs h)
theorem kind_i {vs : List Value} {r : Value → Int} (h2 : 2 ≤ vs.length) (x : ∀ v ∈ vs, ∃ b, PairI s.heap v (r v) b) (inj : ∀ v ∈ vs, ∀ u ∈ vs, r v = r u → v = u) (Q : SortKind → Shared → Prop)
    (h : ∀ κ, TS.Cmp prog w A s κ (pairsOf vs) r → Q κ s) : wpAny (model prog w) A (keyKind' vs.toArray) Q E s := by
  obtain ⟨fs, k, hl, hi⟩ := firsts_i vs fun v hv => let ⟨b, hb⟩ := x v hv; ⟨r v, b, hb⟩
  refine PySem.W.kat_kind (T := Value.type "int") k (by omega) (fun f hf => ?_) rfl (h _ ?_)
  · obtain ⟨n, t, rfl⟩ := hi f hf
    exact PySem.W.Looks.of_pure rfl
  · intro p q hp hq Q' E' hQ
    rw [pairsOf_toList] at hp hq
    have mp := mem_zs hp
    have mq := mem_zs hq
    obtain ⟨b, a, o, n, t, e1, ho, hc, hd⟩ := x _ mp
    obtain ⟨b', a', o', n', t', e2, ho', hc', hd'⟩ := x _ mq
    have hQ : Q' (decide (r p.1 < r q.1)) s := hQ
    by_cases e : r p.1 = r q.1
    · have epq := inj _ mp _ mq e
      rw [← epq] at e2 hQ
      rw [epq] at e1
      have ea : a = a' := by
        have := (epq ▸ e1 : q.1 = .ref a)
        rw [epq] at e2
        rw [this] at e2
        cases e2; rfl
      subst ea
      rw [ho] at ho'; cases ho'
      rw [hd] at hd'
      rw [epq, e1]
      refine PySem.W.kat_lt ho hd ho hd ?_
      rw [decide_eq_false (Int.lt_irrefl _)] at hQ
      show PySem.W.KatLex prog w A _ (decide (2 < 2)) Q' [(Value.int _ t, Value.int _ t), (Value.ref b, Value.ref b)] 0 s
      refine PySem.W.kat_cons (wpAny_eqBool_int ?_)
      rw [beq_self_eq_true]
      refine PySem.W.kat_yes (PySem.W.kat_cons (eqb_ref ?_))
      exact PySem.W.kat_yes (PySem.W.kat_nil hQ)
    · rw [e1, e2]
      refine PySem.W.kat_lt ho hd ho' hd' ?_
      show PySem.W.KatLex prog w A _ (decide (2 < 2)) Q' [(Value.int (r p.1) t, Value.int (r q.1) t'), (Value.ref b, Value.ref b')] 0 s
      refine PySem.W.kat_cons (wpAny_eqBool_int ?_)
      rw [show (r p.1 == r q.1) = false from beq_eq_false_iff_ne.mpr e]
      exact PySem.W.kat_no (TS.oneLt_ints _ hQ)
end
/-! ### the walk -/
def kI : Key → Int
  | .inl i => i
  | .inr _ => 0
/-- what is behind: a new list l of new pairs ps -/
structure Sorted (H : Hp) (kvs : List (Key × V)) (H' : Hp) (l : Addr) (ps : List (Addr × Key × V)) : Prop where
  keep : ∀ b o, H b = some o → H' b = some o
  perm : (ps.map (·.2)).Perm kvs
  up : ps.Pairwise fun x y => kI x.2.1 ≤ kI y.2.1
  l0 : H l = none
  l1 : H' l = some (.lst (ps.map fun z => V.ref z.1))
  at_ : ∀ z ∈ ps, H z.1 = none ∧ z.1 ≠ l ∧ ∃ o, H' z.1 = some (.frz o (.tup [kV z.2.1, z.2.2])) ∧ o.dict = none
  sz : ∀ b o, H' b = some o → szO o
def rSItems : V → Hp → VK → Prop := fun x H Q => ∃ (d : Addr) (kvs : List (Key × V)), x = .ref d ∧ Rd H d (.dK kvs) ∧ (∀ kv ∈ kvs, ∃ i b, kv = (.inl i, .ref b)) ∧ kvs.length < 64 ∧ (∀ b o, H b = some o → szO o) ∧
  ∀ H' l ps, Sorted H kvs H' l ps → Q (.ref l) H'
theorem pairs_at {P : Program} {w : World} : ∀ {es : List DictEntry} {vs : List (Key × Value)} {j : Nat} {e : DictEntry}, Pairs (mixKind P w) es vs → es[j]? = some e → ∃ k v, vs[j]? = some (k, v) ∧ (mixKind P w).is k e.key = true ∧ e.val = v
  | _, _, _, _, .nil, h => by simp at h
  | _, _, 0, e, .cons h1 h2 t, h => by simp at h; subst h; exact ⟨_, _, rfl, h1, h2⟩
  | _, _, j + 1, e, .cons h1 h2 t, h => by
    obtain ⟨k, v, e1, e2⟩ := pairs_at (j := j) t (by simpa using h)
    exact ⟨k, v, by simpa using e1, e2⟩
theorem szO_of {P : Program} {w : World} {H : Hp} {h : Heap} {a : Addr} (o : HO) : ObjOk P w H h a o → szO o := by
  induction o with
  | lst xs => exact fun k => k.1
  | tup xs => exact fun k => k.1
  | dK xs => exact fun k => k.1
  | frz o u ih => exact fun k => ih k.2
  | _ => intro _; trivial
end DL
set_option Elab.async false
set_option linter.all false
set_option maxRecDepth 100000
set_option maxHeartbeats 1000000
/-! DL20: sorted(d.items()): the walk. -/
namespace DL
open PySem L2 PyProof.Rows
def rkOf (l : List (Addr × Key × V)) : Value → Int
  | .ref a => ((l.find? fun z => decide (z.1 = a)).map fun z => kI z.2.1).getD 0
  | _ => 0
theorem rk_at {l : List (Addr × Key × V)} {z : Addr × Key × V} (hn : (l.map (·.1)).Nodup) (hz : z ∈ l) : rkOf l (.ref z.1) = kI z.2.1 := by
  induction l with
  | nil => cases hz
  | cons y l ih =>
    have hn : (y.1 :: l.map (·.1)).Nodup := hn
    obtain ⟨h1, h2⟩ := List.nodup_cons.mp hn
    show (((y :: l).find? fun q => decide (q.1 = z.1)).map fun q => kI q.2.1).getD 0 = _
    by_cases e : y.1 = z.1
    · rw [List.find?_cons_of_pos (by simpa using e)]
      rcases List.mem_cons.mp hz with rfl | hz
      · rfl
      · exact absurd (by rw [e]; exact List.mem_map_of_mem hz) h1
    · rw [List.find?_cons_of_neg (by simpa using e)]
      rcases List.mem_cons.mp hz with rfl | hz
      · exact absurd rfl e
      · exact ih h2 hz
/-- tuples already laid are tracked, as objects -/
theorem takeF {X : Cx} {pins : List (Addr × Obj)} {σ : L2.St} {H0 : Hp} {s : Shared} {h' : Heap} {tk : Nat} {P : Addr → List V → Prop} (I0 : L2.Inv X pins σ H0 s) : ∀ (L : List Addr) (H1 : Hp), L2.Inv X pins σ H1 { s with heap := h', toks := tk } → L.Nodup →
    (∀ a ∈ L, s.heap.objs.size ≤ a ∧ H1 a = none ∧ ∃ o vs, P a vs ∧ o.dict = none ∧ ∀ H2, ObjOk X.prog X.w H2 h' a (.frz o (.tup vs))) →
    ∃ H2, L2.Inv X pins σ H2 { s with heap := h', toks := tk } ∧ (∀ b o, H1 b = some o → H2 b = some o) ∧ ∀ a ∈ L, ∃ o vs, P a vs ∧ o.dict = none ∧ H2 a = some (.frz o (.tup vs))
  | [], H1, I1, _, _ => ⟨H1, I1, fun _ _ e => e, fun _ h => nomatch h⟩
  | a :: L, H1, I1, hn, h => by
    obtain ⟨hb, hnone, o, vs, hP, hd, ok⟩ := h a List.mem_cons_self
    have I2 : L2.Inv X pins σ (upd H1 a (.frz o (.tup vs))) { s with heap := h', toks := tk } := I1.take (h' := h') (t' := tk) (fun b ob _ e => e) (I0.fpOk hb hnone) (ok _)
    obtain ⟨n1, n2⟩ := List.nodup_cons.mp hn
    obtain ⟨H2, I3, g, q⟩ := takeF I0 L (upd H1 a (.frz o (.tup vs))) I2 n2 fun c hc => by
      obtain ⟨c1, c2, c3⟩ := h c (List.mem_cons_of_mem _ hc)
      exact ⟨c1, by rw [upd_ne (fun z => n1 (by rw [← z]; exact hc))]; exact c2, c3⟩
    refine ⟨H2, I3, fun b u e => g b u (by rw [upd_ne (ne_of_none e hnone)]; exact e), fun c hc => ?_⟩
    rcases List.mem_cons.mp hc with rfl | hc
    · exact ⟨o, vs, hP, hd, g _ _ upd_same⟩
    · exact q c hc
theorem kv_keys : ∀ {kvs : List (Key × V)} {vs : List (Key × Value)}, KV kvs vs → kvs.map (·.1) = vs.map (·.1)
  | _, _, .nil => rfl
  | _, _, .cons h t => by rw [List.map_cons, List.map_cons, h.1, kv_keys t]
section
variable {X : Cx} {e : Expr} {te : TE} {p apos cpos pos : Pos}
theorem pe_sitems (hc : X.calm = true) (he : PE X e te) (hg : Gl X "sorted") (hm : X.mg "sorted" = none) (hbase : attributeBase e "items" X.env (eval e X.env) = eval e X.env) (hline : (apos.endLine == cpos.line) = true) :
    PE X (.Call (.Name "sorted" p) [.Call (.Attribute e "items" apos) [] [] cpos] [] pos) (fun σ H Q => te σ H fun x H1 => rSItems x H1 Q) := by
  refine ⟨fun pins s0 σ H0 Q I0 hq => ?_⟩
  have hs : starEach [.Call (.Attribute e "items" apos) [] [] cpos] X.env = (false, eval (.Call (.Attribute e "items" apos) [] [] cpos) X.env) :: starEach [] X.env := rfl
  refine wpAny_Call_Name_kw (ld_blt I0 hg hm boot_sorted ?_)
  refine PyProof.Rows.callWith_builtin1 ?_ hs rfl
  rw [hs]
  show wpAny _ _ (spliced ((false, eval (.Call (.Attribute e "items" apos) [] [] cpos) X.env) :: backTo pos (starEach [] X.env))) _ _ s0
  refine Calls.spliced_cons ?_
  refine wpAny_Call_method (T := "dict") (id := "dict.items") hbase rfl hline F.plainAttrs_dict F.slot_dict_items F.type_dict_items (thn (he.run pins s0 σ H0 _ I0 hq) fun u s1 ⟨x, H, I1, rx, d, kvs, ex, hd, hkv, h64, hsz, q⟩ => ?_)
  subst ex
  obtain rfl : u = Value.ref d := rx
  obtain ⟨hz, hs0, vs, kv, hdo⟩ := dk_rd I1.hok hd
  obtain ⟨o, es, ep, ho, hx, hdat, hkeys, hprs, hnd⟩ := id hdo
  have lk : kvs.length = vs.length := Paired.length kv
  have le : es.size = vs.length := by rw [← Array.length_toList]; exact hprs.length
  have I : Inv X pins σ H { s1 with heap := s1.heap.push { cls := .type "dict_items", data := .fields #[.ref d] } } := I1.kept (t' := s1.toks) fun b ob q => Heap.get?_push_of_some _ q
  refine ⟨hdo.typeIs, hdo.mapOf.noDict, ?_⟩
  show wpAny _ _ (callWith cpos (.builtin "dict.items") [.ref d] [] []) _ X.xe s1
  refine method_meetsIn F.slot_dict_items F.entry_dict_items rfl (PySem.evalArgs_none ⟨rfl, hdo.typeIs, F.args_dict_items_1 _, _, meets_dict_items (mixKind X.prog X.w) d hs0, ⟨vs, hdo⟩, ?_⟩)
  refine Calls.spliced_nil ?_
  have hview : (s1.heap.push { cls := .type "dict_items", data := .fields #[.ref d] }).IsItemsView s1.heap.objs.size d := ⟨_, Heap.get?_push_size _ rfl, rfl, rfl⟩
  have hraw : DT.Raw (s1.heap.push { cls := .type "dict_items", data := .fields #[.ref d] }) d es ep := ⟨o, Heap.get?_push_of_some _ ho, hx, hdat⟩
  generalize hS : ({ s1 with heap := s1.heap.push { cls := .type "dict_items", data := .fields #[.ref d] } } : Shared) = s at I ⊢
  have hview : s.heap.IsItemsView s1.heap.objs.size d := by rw [← hS]; exact hview
  have hraw : DT.Raw s.heap d es ep := by rw [← hS]; exact hraw
  refine DT.sortedI (es := es) (ep := ep) (I1.ok.hd hc) hview hraw (by omega) fun h' tk as hk hlt hl hG => ?_
  have lak : as.length = kvs.length := by omega
  have nd : as.Nodup := List.Pairwise.imp (fun h => Nat.ne_of_lt h) hG.rise
  have pr : ∀ (j : Nat) (b : Addr), as[j]? = some b → ∃ (i : Int) (bv : Addr) (t : Tok), kvs[j]? = some (.inl i, .ref bv) ∧ h'.get? b = some { cls := .type "tuple", data := .seq #[Value.int i t, Value.ref bv] } := by
    intro j b hj
    obtain ⟨en, hen, hgt⟩ := hG.pairs j b hj
    rw [← Array.getElem?_toList] at hen
    obtain ⟨k, v, e1, e2, e3⟩ := pairs_at hprs hen
    have hjl : j < kvs.length := by rw [← lak]; exact (List.getElem?_eq_some_iff.mp hj).1
    have ek : kvs[j]? = some kvs[j] := List.getElem?_eq_getElem hjl
    obtain ⟨qv, g1, g2, g3⟩ := LiI.paired_get kv ek
    rw [e1] at g1; cases g1
    obtain ⟨i, bv, ei⟩ := hkv _ (List.getElem_mem hjl)
    rw [ei] at g2 g3 ek
    have g2 : (Sum.inl i : Key) = k := g2
    subst g2
    obtain ⟨t, ht⟩ := (show RelV (V.int i) en.key from relV_key (show keyIs (.inl i) en.key = true from e2))
    have g3 : v = Value.ref bv := g3
    refine ⟨i, bv, t, ek, ?_⟩
    rw [hgt, ht, e3, g3]
  have zipn : ((as.zip kvs).map (·.1)).Nodup := by rw [List.map_fst_zip (by omega)]; exact nd
  have rk : ∀ (j : Nat) (b : Addr) (i : Int) (bv : Addr), as[j]? = some b → kvs[j]? = some (.inl i, .ref bv) → rkOf (as.zip kvs) (.ref b) = i := fun j b i bv h1 h2 =>
    rk_at (z := (b, .inl i, .ref bv)) zipn (List.mem_of_getElem? (i := j) (List.getElem?_zip_eq_some.mpr ⟨h1, h2⟩))
  have hob : (h'.push { cls := .type "list", data := .seq (as.map Value.ref).toArray }).get? h'.objs.size = some (seqObj "list" (as.map Value.ref).toArray 0) := Heap.get?_push_size _ rfl
  have ne0 : ∀ b o, h'.get? b = some o → b ≠ h'.objs.size := fun b o e => Nat.ne_of_lt (Heap.lt_size e)
  generalize hh2 : h'.push { cls := .type "list", data := .seq (as.map Value.ref).toArray } = h2 at hob ⊢
  have ka : ∀ b o, h'.get? b = some o → h2.get? b = some o := fun b o e => by rw [← hh2]; exact Heap.get?_push_of_some _ e
  have at_ : ∀ v ∈ as.map Value.ref, ∃ (j : Nat) (b : Addr) (i : Int) (bv : Addr) (t : Tok), v = .ref b ∧ as[j]? = some b ∧ kvs[j]? = some (.inl i, .ref bv) ∧ h'.get? b = some { cls := .type "tuple", data := .seq #[Value.int i t, Value.ref bv] } := by
    intro v hv'
    obtain ⟨b, hb, rfl⟩ := List.mem_map.mp hv'
    obtain ⟨j, hj⟩ := List.mem_iff_getElem?.mp hb
    obtain ⟨i, bv, t, h1, h2⟩ := pr j b hj
    exact ⟨j, b, i, bv, t, rfl, hj, h1, h2⟩
  have kn : (kvs.map (·.1)).Nodup := by
    rw [kv_keys kv]; exact hnd
  refine wpAny_call_entry PyProof.Rows.slot_list_sort ⟨_, hob, rfl⟩ PyProof.Rows.entry_list_sort
    (SK.plain_sort (s := { s with heap := h2, toks := tk }) (r := rkOf (as.zip kvs)) hob (by rw [List.length_map]; omega) (fun h2' Qk hQk => ?_) fun ps out o1 o2 o3 => ⟨.none, rfl, ?_⟩) (PyProof.Rows.args_list_sort _)
  · refine kind_i (s := { s with heap := TS.midHeap h2 h'.objs.size (as.map Value.ref), toks := tk }) h2' (fun v hv' => ?_) (fun v hv' u hu' hr => ?_) Qk hQk
    · obtain ⟨j, b, i, bv, t, rfl, hj, h1, h2⟩ := at_ v hv'
      rw [rk j b i bv hj h1]
      exact ⟨bv, b, _, 0, t, rfl, TS.midHeap_old (ne0 _ _ h2) (ka _ _ h2), rfl, rfl⟩
    · obtain ⟨j, b, i, bv, t, rfl, hj, h1, h2⟩ := at_ v hv'
      obtain ⟨j2, b2, i2, bv2, t2, rfl, hj2, h12, h22⟩ := at_ u hu'
      rw [rk j b i bv hj h1, rk j2 b2 i2 bv2 hj2 h12] at hr
      subst hr
      have g1 : (kvs.map (·.1))[j]? = some (.inl i) := by rw [List.getElem?_map, h1]; rfl
      have g2 : (kvs.map (·.1))[j2]? = some (.inl i) := by rw [List.getElem?_map, h12]; rfl
      have ej : j = j2 := (List.getElem?_inj (List.getElem?_eq_some_iff.mp g1).1 kn).mp (g1.trans g2.symm)
      subst ej
      rw [hj] at hj2; cases hj2
      rfl
  · show EP X pins σ Q (.ref h'.objs.size) { s with heap := sortedHeap h2 h'.objs.size (as.map Value.ref) out, toks := tk }
    obtain ⟨zs, pz, ez⟩ := perm_lift (fun z : Addr × Key × V => (Value.ref z.1, Value.ref z.1)) o2 (as.zip kvs) (DX.zip_self Value.ref as kvs lak)
    have idx : ∀ z ∈ zs, ∃ j : Nat, as[j]? = some z.1 ∧ kvs[j]? = some z.2 := by
      intro z' hz'
      obtain ⟨j, hj⟩ := List.mem_iff_getElem?.mp (pz.mem_iff.mp hz')
      exact ⟨j, List.getElem?_zip_eq_some.mp hj⟩
    have hout : out.toList = zs.map fun z => Value.ref z.1 := by
      rw [o1, ← ez, List.map_map]; rfl
    have hperm : (zs.map (·.2)).Perm kvs := by
      have e := pz.map (·.2)
      have m2 : (as.zip kvs).map (·.2) = kvs := List.map_snd_zip (by rw [lak]; exact Nat.le_refl _)
      rw [m2] at e
      exact e
    have rkz : ∀ z ∈ zs, rkOf (as.zip kvs) (.ref z.1) = kI z.2.1 := fun z hz => rk_at zipn (pz.mem_iff.mp hz)
    have hsort : zs.Pairwise fun x y => kI x.2.1 ≤ kI y.2.1 := by
      rw [← ez, List.pairwise_map] at o3
      refine List.Pairwise.imp_of_mem (fun {x y} hx hy h => ?_) o3
      have h : rkOf (as.zip kvs) (.ref x.1) ≤ rkOf (as.zip kvs) (.ref y.1) := h
      rwa [rkz x hx, rkz y hy] at h
    have kF : ∀ b o, b ≠ h'.objs.size → h2.get? b = some o → (sortedHeap h2 h'.objs.size (as.map Value.ref) out).get? b = some o := fun b o hb e => (PyProof.Rows.sortedHeap_old hb (Heap.lt_size e)).trans e
    have kS : ∀ b o, s.heap.get? b = some o → (sortedHeap h2 h'.objs.size (as.map Value.ref) out).get? b = some o := fun b o e => kF b o (ne0 _ _ (hk b o e)) (ka _ _ (hk b o e))
    obtain ⟨eF, heF⟩ := PyProof.Rows.sortedHeap_at (vs := as.map Value.ref) (out := out) hob
    have I1 : Inv X pins σ H { s with heap := sortedHeap h2 h'.objs.size (as.map Value.ref) out, toks := tk } := I.kept (t' := tk) kS
    have hn0 : H h'.objs.size = none := I.hok.fresh (Nat.le_of_lt hlt)
    have hlen : (zs.map fun z => V.ref z.1).length ≤ sizeLine := by
      have e := hperm.length_eq
      rw [List.length_map] at e
      rw [List.length_map, sizeLine_eq]
      omega
    have rv : Vals (zs.map fun z => V.ref z.1) out.toList := by
      rw [hout]
      exact vals_maps (fun z : Addr × Key × V => V.ref z.1) (fun z => Value.ref z.1) zs fun _ _ => rfl
    have I2 : Inv X pins σ (upd H h'.objs.size (.lst (zs.map fun z => V.ref z.1))) { s with heap := sortedHeap h2 h'.objs.size (as.map Value.ref) out, toks := tk } :=
      I1.take (h' := sortedHeap h2 h'.objs.size (as.map Value.ref) out) (t' := tk) (fun b ob _ e => e) (I.fpOk (Nat.le_of_lt hlt) hn0) ⟨hlen, out.toList, eF, rv, heF⟩
    obtain ⟨H2, I3, g, qt⟩ := takeF (P := fun b vs => ∃ (j : Nat) (k : Key) (x : V), as[j]? = some b ∧ kvs[j]? = some (k, x) ∧ vs = [kV k, x]) I as _ I2 nd fun b hb => by
      obtain ⟨j, hj⟩ := List.mem_iff_getElem?.mp hb
      obtain ⟨i, bv, t, h1, h2⟩ := pr j b hj
      have hbl : s.heap.objs.size ≤ b := Nat.le_of_lt (hG.above b hb)
      refine ⟨hbl, ?_, _, [.int i, .ref bv], ⟨j, .inl i, .ref bv, hj, h1, rfl⟩, rfl, fun H3 => ⟨kF _ _ (ne0 _ _ h2) (ka _ _ h2), (by show 2 ≤ sizeLine; decide), [Value.int i t, Value.ref bv], .cons ⟨t, rfl⟩ (.cons rfl .nil), ⟨_, kF _ _ (ne0 _ _ h2) (ka _ _ h2), rfl, 0, rfl⟩⟩⟩
      rw [upd_ne (ne0 _ _ h2)]
      exact I.hok.fresh hbl
    have gr : ∀ b o, H b = some o → H2 b = some o := fun b o e => g b o (by rw [upd_ne (ne_of_none e hn0)]; exact e)
    refine ⟨.ref h'.objs.size, H2, I3, rfl, q H2 h'.objs.size zs ⟨gr, hperm, hsort, hn0, g _ _ upd_same, fun z' hz' => ?_, fun b o e => szO_of o (I3.hok b o e)⟩⟩
    obtain ⟨i, i1, i2⟩ := idx z' hz'
    obtain ⟨oo, ws, ⟨j, k, x, j1, j2, ev⟩, hdn, hH⟩ := qt z'.1 (List.mem_of_getElem? i1)
    have eij : i = j := (List.getElem?_inj (List.getElem?_eq_some_iff.mp i1).1 nd).mp (i1.trans j1.symm)
    subst eij
    obtain ⟨_, _, _, _, h2⟩ := pr i z'.1 i1
    have ee : (k, x) = z'.2 := Option.some.inj (j2.symm.trans i2)
    rw [ev] at hH
    refine ⟨I.hok.fresh (Nat.le_of_lt (hG.above _ (List.mem_of_getElem? i1))), ne0 _ _ h2, oo, ?_, hdn⟩
    rw [hH, ← ee]
end
/-! ### on data -/
section
variable {W : Wd} {F P H H' : Hp} {S : Store}
/-- what is new is read as data -/
def grow (H F H' : Hp) : Hp := fun b => if H b = none then H' b else F b
theorem RS.grow (rs : RS W F P S H) (hk : ∀ b o, H b = some o → H' b = some o) (hz : ∀ b o, H' b = some o → szO o) : Le F (grow H F H') ∧ RS W (grow H F H') P S H' := by
  have old : ∀ b o, H b = some o → DL.grow H F H' b = F b := fun b o e => by unfold DL.grow; rw [if_neg (by rw [e]; exact fun z => nomatch z)]
  have hF : ∀ b o, F b = some o → DL.grow H F H' b = some o := fun b o e => by
    cases eH : H b with
    | none => have := rs.sub.none eH; rw [this] at e; cases e
    | some u => rw [old b u eH]; exact e
  refine ⟨hF, hz, fun b o e => ?_, fun b o e => hk _ _ (rs.prs _ _ e), fun b o e => ?_, fun b o e => ?_⟩
  · cases eH : H b with
    | none =>
      unfold DL.grow at e
      rw [if_pos eH] at e
      exact .inl e
    | some u =>
      rw [old b u eH] at e
      rcases rs.sub b o e with q | ⟨ob, kvs, q1, q2⟩
      · exact .inl (hk _ _ q)
      · exact .inr ⟨ob, kvs, q1, hk _ _ q2⟩
  · rw [old b o (rs.prs _ _ e)]; exact rs.dis _ _ e
  · obtain ⟨h1, u, h2, h3⟩ := rs.obj _ _ e
    rw [old b u h2]
    exact ⟨h1, u, hk _ _ h2, h3.mono hF⟩
theorem Rp.isRef {d : D} {v : V} (r : Rp W F d v) (h : refD d = true) : ∃ b, v = .ref b := by cases r <;> first | (cases h; done) | exact ⟨_, rfl⟩
/-- pairs of two readings, in any order -/
theorem RpK.mem : ∀ {kvs : List (Key × D)} {ws : List (Key × V)} {kw : Key × V}, RpK W F kvs ws → kw ∈ ws → ∃ d, (kw.1, d) ∈ kvs ∧ Rp W F d kw.2
  | _, _, _, .nil, h => by cases h
  | _, _, kw, .cons r t, h => by
    rcases List.mem_cons.mp h with rfl | h
    · exact ⟨_, List.mem_cons_self, r⟩
    · obtain ⟨d, h1, h2⟩ := RpK.mem t h
      exact ⟨d, List.mem_cons_of_mem _ h1, h2⟩
theorem intKeys_map : ∀ {kvs : List (Key × D)} {ks : List Int}, intKeys kvs = some ks → kvs.map (·.1) = ks.map Sum.inl
  | [], ks, h => by simp only [intKeys] at h; cases h; rfl
  | (.inl i, d) :: r, ks, h => by
    simp only [intKeys] at h
    obtain ⟨m, em, rfl⟩ := Option.map_eq_some_iff.mp h
    rw [List.map_cons, List.map_cons, intKeys_map em]
  | (.inr _, _) :: _, ks, h => by simp only [intKeys] at h; cases h
theorem dget_of {kvs : List (Key × D)} {k : Key} {d : D} (hn : (kvs.map (·.1)).Nodup) (h : (k, d) ∈ kvs) : dget kvs k = some d := by
  induction kvs with
  | nil => cases h
  | cons y l ih =>
    have hn : (y.1 :: l.map (·.1)).Nodup := hn
    obtain ⟨h1, h2⟩ := List.nodup_cons.mp hn
    unfold dget at ih ⊢
    by_cases e : y.1 = k
    · rw [List.find?_cons_of_pos (by simpa using e)]
      rcases List.mem_cons.mp h with rfl | h
      · rfl
      · exact absurd (by rw [e]; exact List.mem_map_of_mem (f := (·.1)) h) h1
    · rw [List.find?_cons_of_neg (by simpa using e)]
      rcases List.mem_cons.mp h with rfl | h
      · exact absurd rfl e
      · exact ih h2 h
theorem rps_pairs {F2 : Hp} {kvs : List (Key × D)} {ws : List (Key × V)} {ks : List Int} (hn : (kvs.map (·.1)).Nodup) (hk : kvs.map (·.1) = ks.map Sum.inl) (rk : RpK W F kvs ws) (l : Le F F2) : ∀ ps : List (Addr × Key × V), (∀ z ∈ ps, z.2 ∈ ws) →
    (∀ z ∈ ps, ∃ o, F2 z.1 = some (.frz o (.tup [kV z.2.1, z.2.2])) ∧ o.dict = none) → Rps W F2 ((ps.map fun z => kI z.2.1).map fun k => D.tup [.int k, (dget kvs (.inl k)).getD .non]) (ps.map fun z => V.ref z.1)
  | [], _, _ => .nil
  | z :: ps, h1, h2 => by
    refine .cons ?_ (rps_pairs hn hk rk l ps (fun y hy => h1 y (List.mem_cons_of_mem _ hy)) fun y hy => h2 y (List.mem_cons_of_mem _ hy))
    obtain ⟨d, hd, rd⟩ := rk.mem (h1 z List.mem_cons_self)
    have hm : z.2.1 ∈ kvs.map (·.1) := List.mem_map_of_mem (f := (·.1)) hd
    rw [hk] at hm
    obtain ⟨i, _, ei⟩ := List.mem_map.mp hm
    obtain ⟨o, ho, hdn⟩ := h2 z List.mem_cons_self
    show Rp W F2 (.tup [.int (kI z.2.1), (dget kvs (.inl (kI z.2.1))).getD .non]) (.ref z.1)
    rw [← ei] at hd ho ⊢
    show Rp W F2 (.tup [.int i, (dget kvs (.inl i)).getD .non]) (.ref z.1)
    rw [dget_of hn hd]
    exact .tup (.inl ⟨o, ho, hdn⟩) (.cons (.int i) (.cons (rd.mono l) .nil))
theorem le_sitems {X : Cx} {e : Expr} {p apos cpos pos : Pos} {d : DE} {own : Bool} (hc : X.calm = true) (he : PE X e (LE W d)) (hg : Gl X "sorted") (hm : X.mg "sorted" = none) (hbase : attributeBase e "items" X.env (eval e X.env) = eval e X.env) (hline : (apos.endLine == cpos.line) = true) :
    PE X (.Call (.Name "sorted" p) [.Call (.Attribute e "items" apos) [] [] cpos] [] pos) (LE W (dUn (fSItems own) d)) := by
  refine (pe_sitems (p := p) (pos := pos) hc he hg hm hbase hline).mono fun σ H Q ⟨F, P, sd, S, Qd, rs, rl, q, kt⟩ => ?_
  refine ⟨F, P, sd, S, _, rs, rl, q, fun F1 S1 H1 dx x l1 rs1 rx q1 => ?_⟩
  unfold fSItems at q1
  split at q1
  · rename_i kvs e1
    split at q1
    · rename_i ks e2
      obtain ⟨_, g1, g2, g3, g4⟩ := q1
      obtain ⟨a, ws, rfl, hR, rK⟩ := asD_ok rs1 rx e1
      have hk := intKeys_map e2
      have hw := intKeys_ok rK e2
      have hn : (kvs.map (·.1)).Nodup := by
        rw [hk]
        exact List.Pairwise.map _ (fun a b h z => h (Sum.inl.inj z)) g1
      have hlen : ws.length = ks.length := by have := congrArg List.length hw; simpa using this
      refine ⟨a, ws, rfl, hR, fun kv hkv => ?_, by omega, rs1.sz, fun H' l ps st => ?_⟩
      · obtain ⟨d, hd, rd⟩ := rK.mem hkv
        have hm : kv.1 ∈ kvs.map (·.1) := List.mem_map_of_mem (f := (·.1)) hd
        rw [hk] at hm
        obtain ⟨i, _, ei⟩ := List.mem_map.mp hm
        obtain ⟨b, eb⟩ := rd.isRef (List.all_eq_true.mp g3 _ hd)
        exact ⟨i, b, Prod.ext ei.symm eb⟩
      · obtain ⟨l2, rs2⟩ := rs1.grow st.keep st.sz
        have e3 : ps.map (fun z => kI z.2.1) = isort ks := by
          refine sorted_is ?_ ?_
          · have h1 := st.perm.map (fun z : Key × V => kI z.1)
            rw [List.map_map] at h1
            have h2 : ws.map (fun z => kI z.1) = ks := by
              have := congrArg (List.map kI) hw
              rw [List.map_map, List.map_map] at this
              have h3 : ks.map (kI ∘ Sum.inl) = ks := List.map_id ks
              rw [h3] at this
              exact this
            rw [h2] at h1
            exact h1
          · rw [List.pairwise_map]; exact st.up
        rw [← e3] at g4
        have new : ∀ b o, H1 b = none → H' b = some o → grow H1 F1 H' b = some o := fun b o h1 h2 => by unfold grow; rw [if_pos h1]; exact h2
        refine kt _ _ _ _ _ (l1.trans l2) rs2 (.lst (.inl (new l _ st.l0 st.l1)) (rps_pairs hn hk rK l2 ps (fun z hz => st.perm.mem_iff.mp (List.mem_map_of_mem (f := (·.2)) hz)) fun z hz => ?_)) g4
        obtain ⟨z1, _, o, z3, z4⟩ := st.at_ z hz
        exact ⟨o, new _ _ z1 z3, z4⟩
    · exact q1.elim
  · exact q1.elim
end
end DL
set_option Elab.async false
set_option linter.all false
set_option maxRecDepth 100000
set_option maxHeartbeats 1000000
/-! DL11: len(set(..)), comprehensions, sources; all expressions. -/
namespace DL
open PySem L2
section
variable {X : Cx}
def tLenSetL (K : PySem.W.Frag) (ta : TE) : TE := fun σ H Q => ta σ H fun x H1 => ∃ (l : Addr) (ns : List Int), x = .ref l ∧ SqL K H1 l (ns.map V.int) ∧ ns.length ≤ 4000 ∧ Q (.int (PyProof.Rows.firstMet (fun i => ns.getD i 0) ns.length).length) H1
theorem firstMet_le (f : Nat → Int) : ∀ n, (PyProof.Rows.firstMet f n).length ≤ n
  | 0 => Nat.le_refl _
  | n + 1 => by
    rw [PyProof.Rows.firstMet_succ]
    have := firstMet_le f n
    unfold PyProof.Rows.step_dedup
    split
    · omega
    · rw [List.length_append, List.length_singleton]; omega
theorem pe_lenSetL {a : Expr} {ta : TE} {p p2 q pos : Pos} (hg : Gl X "len") (hm : X.mg "len" = none) (hg2 : Gl X "set") (hm2 : X.mg "set" = none) (ha : PE X a ta) (hc : X.calm = true)
    (na : starEach [a] X.env = (false, eval a X.env) :: starEach [] X.env) : PE X (.Call (.Name "len" p) [.Call (.Name "set" p2) [a] [] q] [] pos) (tLenSetL X.K ta) := by
  refine ⟨fun pins s σ H Q I h => ?_⟩
  refine PyProof.Rows.Call_ (ld_blt I hg hm PySem.boot_len ?_)
  refine PyProof.Rows.callWith_builtin1 (PyProof.Rows.args_cons ?_ rfl) rfl rfl
  refine PyProof.Rows.Call_ (ld_blt I hg2 hm2 PyProof.Rows.boot_set ?_)
  refine PyProof.Rows.callWith_type1 (PyProof.Rows.args_cons (thn (ha.run pins s σ H _ I h) fun v s1 ⟨x, H1, I1, r1, q1⟩ => PyProof.Rows.args_nil ?_) na) na rfl
  obtain ⟨l, ns, rfl, hq, hlen, q1⟩ := q1
  cases r1
  obtain ⟨its, r, pl, hz⟩ := I1.list hq
  have hl : its.toArray.size = ns.length := by rw [List.size_toArray, ← r.length, List.length_map]
  refine PySem.call_set_list (I1.ok.hd hc) pl.isList (ns := ns) (by simpa using r.ints) (by unfold PySem.scanBound; omega) fun h' tk hS hk => ?_
  rw [hl] at hS
  refine PyProof.Rows.args_nil ?_
  obtain ⟨o, es, ep, t, ho, hex, hd, _, _, _, hf, hn⟩ := hS
  have I2 : Inv X pins σ H1 { s1 with heap := h', toks := tk } := I1.kept fun b o e => hk b o (Heap.lt_size e) e
  have hle := firstMet_le (fun i => ns.getD i 0) ns.length
  refine PySem.call_len_set ho hex hd hf (by rw [hn]; omega) ⟨.int _, H1, I2.tok _, ⟨_, by rw [hn]⟩, q1⟩
end
section
variable {W : Wd} {T : Tb}
theorem se_lenset {a : CE} (ha : SE W T a) : SE W T (.lenset a) := fun X c e ok h => by
  cases e <;> first | (cases h; done) | skip
  rename_i g args kws p
  cases g <;> first | (cases h; done) | skip
  rename_i f fp
  rcases args with _ | ⟨y, rest⟩ <;> first | (cases h; done) | skip
  cases y <;> first | (cases h; done) | skip
  rename_i g2 args2 kws2 p2
  cases g2 <;> first | (cases h; done) | skip
  rename_i f2 fp2
  rcases args2 with _ | ⟨x, _ | ⟨_, _⟩⟩ <;> first | (cases h; done) | skip
  cases kws2 <;> first | (cases h; done) | skip
  cases rest <;> first | (cases h; done) | skip
  cases kws <;> first | (cases h; done) | skip
  have h : (decide (f = "len") && c.gl f && c.bl.contains f && decide (f2 = "set") && c.gl f2 && c.bl.contains f2 && noStar x && chk a c x) = true := h
  simp only [Bool.and_eq_true, decide_eq_true_eq] at h
  obtain ⟨⟨⟨⟨⟨⟨⟨rfl, h1⟩, h2⟩, rfl⟩, h3⟩, h4⟩, h5⟩, h6⟩ := h
  refine .of ok ((pe_lenSetL (ok.gl h1) (ok.blt _ h2) (ok.gl h3) (ok.blt _ h4) (ha X c x ok h6).v ok.calm (star_cons h5)).mono fun σ H Q ⟨F, P, sd, S, Qd, rs, rl, q, kt⟩ => ?_) rfl
  refine ⟨F, P, sd, S, _, rs, rl, q, fun F1 S1 H1 dx x l1 rs1 rx q1 => ?_⟩
  unfold fLenSet at q1
  split at q1
  · rename_i xs e1
    split at q1
    · rename_i ns e2
      obtain ⟨b, vs, rfl, hb, rr⟩ := asL_ok rs1 rx e1
      cases asInts_eq e2
      cases rr.ints
      refine ⟨b, ns, rfl, .inl hb, q1.1, kt F1 S1 H1 _ _ l1 rs1 (.int _) q1.2⟩
    · exact q1.elim
  · exact q1.elim
theorem se_sitems {own : Bool} {a : CE} (ha : SE W T a) : SE W T (.sitems own a) := fun X c e ok h => by
  cases e <;> first | (cases h; done) | skip
  rename_i g args kws p
  cases g <;> first | (cases h; done) | skip
  rename_i f fp
  rcases args with _ | ⟨y, rest⟩ <;> first | (cases h; done) | skip
  cases y <;> first | (cases h; done) | skip
  rename_i g2 args2 kws2 p2
  cases g2 <;> first | (cases h; done) | skip
  rename_i e m ap
  cases args2 <;> first | (cases h; done) | skip
  cases kws2 <;> first | (cases h; done) | skip
  cases rest <;> first | (cases h; done) | skip
  cases kws <;> first | (cases h; done) | skip
  have h : (decide (f = "sorted") && c.gl f && c.bl.contains f && decide (m = "items") && noSuper e && (ap.endLine == p2.line) && chk a c e) = true := h
  simp only [Bool.and_eq_true, decide_eq_true_eq] at h
  obtain ⟨⟨⟨⟨⟨⟨rfl, h1⟩, h2⟩, rfl⟩, h3⟩, h4⟩, h5⟩ := h
  exact .of ok (le_sitems ok.calm (ha X c e ok h5).v (ok.gl h1) (ok.blt _ h2) (noSuper_is h3) h4) rfl
theorem gs_sub {g : CG} {vs : List (Str × Nat)} (h : (gslots g).all (fun i => (vs.map (·.2)).contains i) = true) : ∀ i ∈ gslots g, i ∈ vs.map (·.2) := fun i hi => List.contains_iff_mem.mp (List.all_eq_true.mp h i hi)
theorem tk_of {b : Bool} {g : CG} (h : (!b || isTupG g) = true) : b = false ∨ isTupG g = true := by
  cases b
  · exact .inl rfl
  · exact .inr (by simpa using h)
theorem se_lc {own : Bool} {vs : List (Str × Nat)} {g : CG} {it : CI} {t : CT} {e : CE} (hi : SI W T it) (ht : ST W T t) (he : SE W T e) : SE W T (.lc own vs g it t e) := fun X c x ok h => by
  cases x <;> first | (cases h; done) | skip
  rename_i elt gens scope pos
  rcases gens with _ | ⟨⟨tg, iter, ifs, a⟩, _ | ⟨_, _⟩⟩ <;> first | (cases h; done) | skip
  have h : ((a == 0) && blkC c.N c.sc scope vs && noSet iter && (gslots g).all (fun i => (vs.map (·.2)).contains i) && (!it.tk || isTupG g) &&
    chkI it c tg iter && chkG g (c.blk scope) tg && chkT t (c.blk scope) ifs && chk e (c.blk scope) elt) = true := h
  simp only [Bool.and_eq_true, beq_iff_eq] at h
  obtain ⟨⟨⟨⟨⟨⟨⟨⟨rfl, h1⟩, h2⟩, h3⟩, h4⟩, h5⟩, h6⟩, h7⟩, h8⟩ := h
  refine .of ok ((pe_lc ok.calm (by rw [ok.N]; exact ok.nd) (hi X c tg iter ok h5) (blkOk_by (by rw [ok.N, ok.sc]; exact h1)) (fun s H C cl fp => sG (ok.blk s H scope cl C fp) h6) (fun s H C cl fp => ht _ _ ifs (ok.blk s H scope cl C fp) h7)
    (fun s H C cl fp => (he _ _ elt (ok.blk s H scope cl C fp) h8).v) (noSet_iter h2)).mono (lift_lc (gs_sub h3) (tk_of h4))) rfl
theorem se_dc {own : Bool} {vs : List (Str × Nat)} {g : CG} {it : CI} {t : CT} {e e2 : CE} (hi : SI W T it) (ht : ST W T t) (he : SE W T e) (he2 : SE W T e2) : SE W T (.dc own vs g it t e e2) := fun X c x ok h => by
  cases x <;> first | (cases h; done) | skip
  rename_i kx vx gens scope pos
  rcases gens with _ | ⟨⟨tg, iter, ifs, a⟩, _ | ⟨_, _⟩⟩ <;> first | (cases h; done) | skip
  have h : ((a == 0) && blkC c.N c.sc scope vs && noSet iter && (gslots g).all (fun i => (vs.map (·.2)).contains i) && (!it.tk || isTupG g) &&
    chkI it c tg iter && chkG g (c.blk scope) tg && chkT t (c.blk scope) ifs && chk e (c.blk scope) kx && chk e2 (c.blk scope) vx) = true := h
  simp only [Bool.and_eq_true, beq_iff_eq] at h
  obtain ⟨⟨⟨⟨⟨⟨⟨⟨⟨rfl, h1⟩, h2⟩, h3⟩, h4⟩, h5⟩, h6⟩, h7⟩, h8⟩, h9⟩ := h
  refine .of ok ((pe_dc ok.calm (by rw [ok.N]; exact ok.nd) (hi X c tg iter ok h5) (blkOk_by (by rw [ok.N, ok.sc]; exact h1)) (fun s H C cl fp => sG (ok.blk s H scope cl C fp) h6) (fun s H C cl fp => ht _ _ ifs (ok.blk s H scope cl C fp) h7)
    (fun s H C cl fp => (he _ _ kx (ok.blk s H scope cl C fp) h8).v) (fun s H C cl fp => (he2 _ _ vx (ok.blk s H scope cl C fp) h9).v) (noSet_iter h2)).mono (lift_dc (gs_sub h3) (tk_of h4))) rfl
theorem si_seq {e : CE} (he : SE W T e) : SI W T (.seq e) := fun X c tg x ok h => li_seq ok.K (he X c x ok h).v
theorem si_range1 {e : CE} (he : SE W T e) : SI W T (.range1 e) := fun X c tg x ok h => by
  cases x <;> first | (cases h; done) | skip
  rename_i g args kws p
  cases g <;> first | (cases h; done) | skip
  rename_i f fp
  rcases args with _ | ⟨y, _ | ⟨_, _⟩⟩ <;> first | (cases h; done) | skip
  cases kws <;> first | (cases h; done) | skip
  have h : (decide (f = "range") && c.gl f && c.bl.contains f && noStar y && chk e c y) = true := h
  simp only [Bool.and_eq_true, decide_eq_true_eq] at h
  obtain ⟨⟨⟨⟨rfl, h1⟩, h2⟩, h3⟩, h4⟩ := h
  exact li_range1 (ok.gl h1) (ok.blt _ h2) (he X c y ok h4).v (star_cons h3)
theorem si_range2 {e e2 : CE} (he : SE W T e) (he2 : SE W T e2) : SI W T (.range2 e e2) := fun X c tg x ok h => by
  cases x <;> first | (cases h; done) | skip
  rename_i g args kws p
  cases g <;> first | (cases h; done) | skip
  rename_i f fp
  rcases args with _ | ⟨y, _ | ⟨z, _ | ⟨_, _⟩⟩⟩ <;> first | (cases h; done) | skip
  cases kws <;> first | (cases h; done) | skip
  have h : (decide (f = "range") && c.gl f && c.bl.contains f && noStar y && noStar z && chk e c y && chk e2 c z) = true := h
  simp only [Bool.and_eq_true, decide_eq_true_eq] at h
  obtain ⟨⟨⟨⟨⟨⟨rfl, h1⟩, h2⟩, h3⟩, h3b⟩, h4⟩, h5⟩ := h
  exact li_range2 (ok.gl h1) (ok.blt _ h2) (he X c y ok h4).v (he2 X c z ok h5).v (by rw [star_cons h3, star_cons h3b]; rfl) (star_cons h3b)
theorem si_enum {e : CE} (he : SE W T e) : SI W T (.enum e) := fun X c tg x ok h => by
  cases tg <;> first | (cases h; done) | skip
  cases x <;> first | (cases h; done) | skip
  rename_i g args kws p
  cases g <;> first | (cases h; done) | skip
  rename_i f fp
  rcases args with _ | ⟨y, _ | ⟨_, _⟩⟩ <;> first | (cases h; done) | skip
  cases kws <;> first | (cases h; done) | skip
  have h : (decide (f = "enumerate") && c.gl f && c.bl.contains f && noStar y && chk e c y) = true := h
  simp only [Bool.and_eq_true, decide_eq_true_eq] at h
  obtain ⟨⟨⟨⟨rfl, h1⟩, h2⟩, h3⟩, h4⟩ := h
  exact li_enum ok.K (ok.gl h1) (ok.blt _ h2) (he X c y ok h4).v (star_cons h3)
theorem si_zip {e e2 : CE} (he : SE W T e) (he2 : SE W T e2) : SI W T (.zip e e2) := fun X c tg x ok h => by
  cases tg <;> first | (cases h; done) | skip
  cases x <;> first | (cases h; done) | skip
  rename_i g args kws p
  cases g <;> first | (cases h; done) | skip
  rename_i f fp
  rcases args with _ | ⟨y, _ | ⟨z, _ | ⟨_, _⟩⟩⟩ <;> first | (cases h; done) | skip
  cases kws <;> first | (cases h; done) | skip
  have h : (decide (f = "zip") && c.gl f && c.bl.contains f && noStar y && noStar z && chk e c y && chk e2 c z) = true := h
  simp only [Bool.and_eq_true, decide_eq_true_eq] at h
  obtain ⟨⟨⟨⟨⟨⟨rfl, h1⟩, h2⟩, h3⟩, h3b⟩, h4⟩, h5⟩ := h
  exact li_zip ok.K (ok.gl h1) (ok.blt _ h2) (he X c y ok h4).v (he2 X c z ok h5).v (star_cons h3) (star_cons h3b)
theorem rps_rev {F : Hp} : ∀ {xs : List D} {vs : List V}, Rps W F xs vs → Rps W F xs.reverse vs.reverse
  | _, _, .nil => .nil
  | _, _, .cons r t => by
    rw [List.reverse_cons, List.reverse_cons]
    exact rps_append (rps_rev t) (.cons r .nil)
theorem se_rev {own : Bool} {a : CE} (ha : SE W T a) : SE W T (.rev own a) := fun X c e ok h => by
  cases e <;> first | (cases h; done) | skip
  rename_i x y p
  cases y <;> first | (cases h; done) | skip
  rename_i l u st p2
  cases l <;> first | (cases h; done) | skip
  cases u <;> first | (cases h; done) | skip
  cases st <;> first | (cases h; done) | skip
  rename_i st
  cases st <;> first | (cases h; done) | skip
  rename_i o n p3
  cases o <;> first | (cases h; done) | skip
  cases n <;> first | (cases h; done) | skip
  rename_i cst k1 p4
  cases cst <;> first | (cases h; done) | skip
  rename_i i
  by_cases hi : i = 1
  · subst hi
    have h : chk a c x = true := h
    refine .of ok ((pe_revL (ha X c x ok h).v).mono fun σ H Q ⟨F, P, sd, S, Qd, rs, rl, q, kt⟩ => ?_) rfl
    refine ⟨F, P, sd, S, _, rs, rl, q, fun F1 S1 H1 dx x l1 rs1 rx q1 => ?_⟩
    unfold fRev at q1
    split at q1
    · rename_i xs e1
      obtain ⟨b, vs, rfl, hb, rr⟩ := asL_ok rs1 rx e1
      refine ⟨b, vs, rfl, by rw [ok.K]; exact .inl hb, mkL_ok rs1 (by rw [List.length_reverse]; exact szRd rs1.sz hb) (rps_rev rr) q1 (kt.le l1)⟩
    · exact q1.elim
  · exfalso
    unfold chk at h
    split at h <;> first | (cases h; done) | skip
    all_goals simp_all
theorem ok_strI : RAOk W (fun xs H Q => ∃ i, xs = [.int i] ∧ i.natAbs.log2 < 1920 ∧ Q (.str (toString i)) H) (f1A fStrI) := by
  intro F P S H ds vs Qd Q rs rr h k
  unfold f1A at h
  split at h
  · cases rr with
    | cons r t =>
      cases t
      unfold fStrI at h
      split at h
      · cases r
        exact ⟨_, rfl, h.1, k F S H _ _ (Le.refl F) rs (.str _) h.2⟩
      · exact h.elim
  · exact h.elim
mutual
theorem dp_nd {K : PySem.W.Frag} {H : Hp} : ∀ (d : PyData) (v : V), Dp K H v d → d.hasDict = false
  | .none, _, _ => by simp only [PyData.hasDict]
  | .bool _, _, _ => by simp only [PyData.hasDict]
  | .int _, _, _ => by simp only [PyData.hasDict]
  | .str _, _, _ => by simp only [PyData.hasDict]
  | .list ds, _, h => by
    simp only [PyData.hasDict]
    cases h with
    | lst h1 h2 => exact dps_nd ds _ h2
  | .tuple ds, _, h => by
    simp only [PyData.hasDict]
    cases h with
    | tup h1 h2 => exact dps_nd ds _ h2
  | .dict _, _, h => by cases h
theorem dps_nd {K : PySem.W.Frag} {H : Hp} : ∀ (ds : List PyData) (vs : List V), DpAll K H vs ds → PyData.hasDictAll ds = false
  | [], _, _ => by simp only [PyData.hasDictAll]
  | d :: ds, _, h => by
    cases h with
    | cons a b => simp only [PyData.hasDictAll, dp_nd d _ a, dps_nd ds _ b, Bool.or_self]
end
theorem call_reprD {X : Cx} (hg : X.A.guards = some []) (hu : X.A.units + 64 < cLine) : CallR X (.builtin "repr") (fun xs H Q => ∃ a d, xs = [.ref a] ∧ Dp X.K H (.ref a) d ∧ d.showable = true ∧ d.shown.length ≤ sizeLine ∧ d.depth ≤ 40 ∧ Q (.str d.shown) H) := by
  intro pins s σ H xs us Q I r h
  obtain ⟨a, d, rfl, hd, h1, h2, h3, q⟩ := h
  rw [Vals.ref1 r]
  obtain ⟨as, hr⟩ := Dp.reads I d (.ref a) (.ref a) hd rfl
  obtain ⟨T, idr, SB⟩ := PySem.showsBy_of_reads (prog := X.prog) (w := X.w) hr h1 (PyData.noDict_hsm (dp_nd d _ hd)) h2
  refine PySem.call_repr_slot (by omega) (SB.typeIs s fun b o e => e) SB.slotRepr ?_
  refine SB.call X.A.in1 _ s _ hg ?_ (fun b o e => e) fun h' u tk hk => ⟨_, _, rfl, .str d.shown, H, I.kept (t' := tk) hk, ⟨_, rfl⟩, q⟩
  show X.A.units + 1 + d.depth < cLine
  omega
theorem rp_ref {F : Hp} {d : D} {v : V} (r : Rp W F d v) (h0 : refD d = true) : ∃ a, v = V.ref a := by
  cases r <;> first | exact ⟨_, rfl⟩ | (cases h0; done)
theorem ok_reprD : RAOk W (fun xs H Q => ∃ a d, xs = [.ref a] ∧ Dp W.K H (.ref a) d ∧ d.showable = true ∧ d.shown.length ≤ sizeLine ∧ d.depth ≤ 40 ∧ Q (.str d.shown) H) (f1A fRepr) := by
  intro F P S H ds vs Qd Q rs rr h k
  unfold f1A at h
  split at h
  · cases rr with
    | cons r t =>
      cases t
      unfold fRepr at h
      obtain ⟨h0, h⟩ := h
      split at h
      · rename_i e he
        have dp := toPyR_ok rs r he
        obtain ⟨a, rfl⟩ := rp_ref r h0
        exact ⟨a, e, rfl, dp, h.1, h.2.1, h.2.2.1, k F S H _ _ (Le.refl F) rs (.str _) h.2.2.2⟩
      · exact h.elim
  · exact h.elim
theorem se_strI {a : CE} (ha : SE W T a) : SE W T (.strI a) := fun X c e ok h => by
  cases e <;> first | (cases h; done) | skip
  rename_i g args kws p
  cases g <;> first | (cases h; done) | skip
  rename_i f fp
  rcases args with _ | ⟨x, _ | ⟨_, _⟩⟩ <;> first | (cases h; done) | skip
  cases kws <;> first | (cases h; done) | skip
  have h : (decide (f = "str") && c.gl f && c.bl.contains f && noStar x && chk a c x) = true := h
  simp only [Bool.and_eq_true, decide_eq_true_eq] at h
  obtain ⟨⟨⟨⟨rfl, h1⟩, h2⟩, h3⟩, h4⟩ := h
  exact .of ok ((pe_callTy call_str_int (ok.gl h1) (ok.blt _ h2) (by decide +kernel) (la_cons (ha X c x ok h4).v la_nil (star_cons h3)) (by decide) (by decide) (star_cons h3) rfl).mono fun σ H Q q => liftA (a := dCons (den T a).v dNil) ok_strI σ H Q q) rfl
theorem se_repr {a : CE} (ha : SE W T a) : SE W T (.repr a) := fun X c e ok h => by
  cases e <;> first | (cases h; done) | skip
  rename_i g args kws p
  cases g <;> first | (cases h; done) | skip
  rename_i f fp
  rcases args with _ | ⟨x, _ | ⟨_, _⟩⟩ <;> first | (cases h; done) | skip
  cases kws <;> first | (cases h; done) | skip
  have h : (decide (f = "repr") && c.gl f && c.bl.contains f && noStar x && chk a c x) = true := h
  simp only [Bool.and_eq_true, decide_eq_true_eq] at h
  obtain ⟨⟨⟨⟨rfl, h1⟩, h2⟩, h3⟩, h4⟩ := h
  refine .of ok ?_ rfl
  show PE X _ (LE W (if T.gd = true then dUn fRepr (den T a).v else dFail))
  split
  · rename_i hgd
    exact (pe_callB (call_reprD (ok.gd hgd) ok.hu) (ok.gl h1) (ok.blt _ h2) (by decide +kernel) (la_cons (ha X c x ok h4).v la_nil (star_cons h3)) (by decide) (by decide) (star_cons h3) rfl).mono fun σ H Q q => by rw [ok.K]; exact liftA (a := dCons (den T a).v dNil) ok_reprD σ H Q q
  · exact le_fail
mutual
theorem se_all (W : Wd) (T : Tb) : ∀ ce : CE, SE W T ce
  | .slot _ => se_slot | .int _ => se_int | .bl _ => se_bl | .non => se_non | .str _ => se_str | .glb _ => se_glb
  | .op _ _ a b => se_op (se_all W T a) (se_all W T b)
  | .neg a => se_neg (se_all W T a)
  | .cmp _ a b => se_cmp (se_all W T a) (se_all W T b)
  | .chain _ _ a b c => se_chain (se_all W T a) (se_all W T b) (se_all W T c)
  | .not a => se_not (se_all W T a)
  | .and a b => se_and (se_all W T a) (se_all W T b)
  | .or a b => se_or (se_all W T a) (se_all W T b)
  | .last a => se_last (se_all W T a)
  | .ite c a b => se_ite (se_all W T c) (se_all W T a) (se_all W T b)
  | .tup es => se_tup (ses_all W T es).ses
  | .lst _ es => se_lst (ses_all W T es).ses
  | .ix a b => se_ix (se_all W T a) (se_all W T b)
  | .cut _ a lo hi => se_cut (se_all W T a) (so_all W T lo) (so_all W T hi)
  | .call _ es => se_call (ses_all W T es).ses
  | .callk _ _ _ es => se_callk (ses_all W T es)
  | .blt _ _ es => se_blt (ses_all W T es).ses
  | .isi _ a => se_isi (se_all W T a)
  | .get1 o k => se_get1 (se_all W T o) (se_all W T k)
  | .get2 o k d => se_get2 (se_all W T o) (se_all W T k) (se_all W T d)
  | .app o x => se_app (se_all W T o) (se_all W T x)
  | .dict0 _ => se_dict0
  | .lenset a => se_lenset (se_all W T a)
  | .sitems _ a => se_sitems (se_all W T a)
  | .rev _ a => se_rev (se_all W T a)
  | .strI a => se_strI (se_all W T a)
  | .repr a => se_repr (se_all W T a)
  | .fld o _ => se_fld (se_all W T o)
  | .meth _ o es => se_meth (se_all W T o) (ses_all W T es).ses
  | .make _ es => se_make (ses_all W T es).ses
  | .gcd es => se_gcd (ses_all W T es).ses
  | .lc _ _ _ it t e => se_lc (si_all W T it) (st_all W T t) (se_all W T e)
  | .dc _ _ _ it t k v => se_dc (si_all W T it) (st_all W T t) (se_all W T k) (se_all W T v)
theorem ses_all (W : Wd) (T : Tb) : ∀ ces : CEs, AllSE W T ces
  | .nil => .nil
  | .cons e r => .cons (se_all W T e) (ses_all W T r)
  | .star e r => .star (se_all W T e) (ses_all W T r)
theorem so_all (W : Wd) (T : Tb) : ∀ co : CO, SO W T co
  | .no => so_no
  | .one e => so_one (se_all W T e)
theorem st_all (W : Wd) (T : Tb) : ∀ ct : CT, ST W T ct
  | .no => st_no
  | .one e => st_one (se_all W T e)
theorem si_all (W : Wd) (T : Tb) : ∀ ci : CI, SI W T ci
  | .seq e => si_seq (se_all W T e)
  | .range1 e => si_range1 (se_all W T e)
  | .range2 e f => si_range2 (se_all W T e) (se_all W T f)
  | .enum e => si_enum (se_all W T e)
  | .zip e f => si_zip (se_all W T e) (se_all W T f)
end
end
end DL
set_option Elab.async false
set_option linter.all false
set_option maxRecDepth 100000
set_option maxHeartbeats 1000000
/-! DL12: the check is sound: statements. -/
namespace DL
open PySem L2
section
variable {W : Wd} {T : Tb}
def SSt (W : Wd) (T : Tb) (cs : CS) : Prop := ∀ X c st, Ok W T X c → chkS cs c st = true → PS X st (LS W (denS T cs))
def SSs (W : Wd) (T : Tb) (cs : CSs) : Prop := ∀ X c sts, Ok W T X c → chkSs cs c sts = true → PSs X sts (LS W (denSs T cs))
variable {X : Cx} {c : Cc}
theorem Ok.po (ok : Ok W T X c) : PassesOwn (model X.prog X.w) X.A X.env X.xe := by rw [ok.xe]; exact .never
theorem sw_sole {tg e : Expr} {l : Nat} {env : Env} (h : noComp e = true) : swapsWithSole [tg] e l env = pure false := noComp_is h
theorem noSwp_is {tg e : Expr} {env : Env} (h : noSwp tg e = true) : swappedStores [tg] e env = pure none := by
  unfold noSwp at h
  rw [Bool.or_eq_true] at h
  rcases h with h | h
  · cases tg <;> cases e <;> first | rfl | (cases h)
  · cases tg <;> first | (cases h; done) | skip
    rename_i ts k p
    cases e <;> first | rfl | skip
    rename_i vs k2 p2
    have h : (!(ts.length == 2 || ts.length == 3)) = true := h
    unfold swappedStores
    show (if !(ts.length == 2 || ts.length == 3) || vs.length != ts.length || env.blockKind != .function then (return none : Sem (Option (List Str))) else _) = _
    rw [h]
    rfl
theorem sub_swp {o i e : Expr} {p : Pos} {env : Env} : swappedStores [.Subscript o i p] e env = pure none := by cases e <;> rfl
theorem star_any : ∀ {vs : List Expr}, vs.all noStar = true → (vs.any fun | .Starred .. => true | _ => false) = false
  | [], _ => rfl
  | v :: vs, h => by
    simp only [List.all_cons, Bool.and_eq_true] at h
    rw [List.any_cons, star_any h.2]
    cases v <;> first | rfl | (cases h.1)
theorem names_len {p : Expr → Option Str} : ∀ {ts : List Expr}, (∀ t ∈ ts, ∃ x, p t = some x) → (ts.filterMap p).length = ts.length
  | [], _ => rfl
  | t :: ts, h => by
    obtain ⟨x, hx⟩ := h t List.mem_cons_self
    rw [List.filterMap_cons_some hx, List.length_cons, List.length_cons, names_len fun u hu => h u (List.mem_cons_of_mem _ hu)]
theorem fm_congr {α β : Type} {p q : α → Option β} : ∀ {ts : List α}, (∀ t ∈ ts, p t = q t) → ts.filterMap p = ts.filterMap q
  | [], _ => rfl
  | t :: ts, h => by
    have h1 := h t List.mem_cons_self
    have h2 := fm_congr (p := p) (q := q) (ts := ts) fun u hu => h u (List.mem_cons_of_mem _ hu)
    cases e : q t with
    | none => rw [List.filterMap_cons_none (h1.trans e), List.filterMap_cons_none e, h2]
    | some x => rw [List.filterMap_cons_some (h1.trans e), List.filterMap_cons_some e, h2]
theorem fm_lt {α β : Type} {p : α → Option β} : ∀ {ts : List α}, (∃ t ∈ ts, p t = none) → (ts.filterMap p).length < ts.length
  | [], ⟨_, h, _⟩ => nomatch h
  | t :: ts, ⟨u, hu, e⟩ => by
    cases e2 : p t with
    | none =>
      rw [List.filterMap_cons_none e2, List.length_cons]
      exact Nat.lt_succ_of_le (List.length_filterMap_le _ _)
    | some x =>
      rw [List.filterMap_cons_some e2, List.length_cons, List.length_cons]
      rcases List.mem_cons.mp hu with rfl | hu
      · cases e.symm.trans e2
      · exact Nat.succ_lt_succ (fm_lt ⟨u, hu, e⟩)
theorem noSwpC_is (ok : Ok W T X c) {tg e : Expr} (h : noSwpC c tg e = true) : swappedStores [tg] e X.env = pure none := by
  unfold noSwpC at h
  rw [Bool.or_eq_true] at h
  rcases h with h | h
  · exact noSwp_is h
  · cases tg <;> first | (cases h; done) | skip
    rename_i ts k p
    cases e <;> first | rfl | skip
    rename_i vs k2 p2
    obtain ⟨t, ht, hp⟩ := List.any_eq_true.mp h
    have hlt : (ts.filterMap (fun | .Name id pos => if X.env.kindOf id == some .local && pos.line == (ts.head?.map (·.pos.line)).getD 0 then some id else none | _ => none)).length < ts.length := by
      refine fm_lt ⟨t, ht, ?_⟩
      cases t <;> first | rfl | skip
      rename_i id pos
      have hp : (!c.isLocal id) = true := hp
      show (if X.env.kindOf id == some .local && pos.line == _ then some id else none) = none
      have e1 : (X.env.kindOf id == some NameKind.local) = false := by
        show (X.env.scope.names.lookup id == some NameKind.local) = false
        rw [ok.sc]
        unfold Cc.isLocal at hp
        split at hp
        · cases hp
        · rename_i hn
          cases e3 : (c.sc.names.lookup id == some NameKind.local) with
          | false => rfl
          | true => exact absurd (eq_of_beq e3) hn
      rw [e1]; rfl
    unfold swappedStores
    show (if !(ts.length == 2 || ts.length == 3) || vs.length != ts.length || X.env.blockKind != .function then (return none : Sem (Option (List Str))) else
      if vs.any (fun | .Starred .. => true | _ => false) then return none else
        if (ts.filterMap (fun | .Name id pos => if X.env.kindOf id == some .local && pos.line == (ts.head?.map (·.pos.line)).getD 0 then some id else none | _ => none)).length != ts.length || _ then return none else _) = _
    split
    · rfl
    · split
      · rfl
      · have e4 : ((ts.filterMap (fun | .Name id pos => if X.env.kindOf id == some .local && pos.line == (ts.head?.map (·.pos.line)).getD 0 then some id else none | _ => none)).length != ts.length) = true := by
          simp only [bne_iff_ne]
          exact Nat.ne_of_lt hlt
        rw [e4, Bool.true_or]
        rfl
theorem swp_is (ok : Ok W T X c) {ts vs : List Expr} {names : List Str} {k k2 : Nat} {p p2 : Pos} (h : swp c ts vs names = true) : swappedStores [.Tuple ts k p] (.Tuple vs k2 p2) X.env = pure (some names) := by
  unfold swp at h
  simp only [Bool.and_eq_true, decide_eq_true_eq] at h
  obtain ⟨⟨⟨⟨⟨⟨⟨⟨h1, h2⟩, h3⟩, h4⟩, h5⟩, h6⟩, h7⟩, h8⟩, h9⟩ := h
  have hb : X.env.blockKind = .function := by
    have := ok.isFn h1
    unfold Env.blockKind; rw [this]; rfl
  have hat : ∀ t ∈ ts, ∃ id pos, t = .Name id pos ∧ X.env.kindOf id = some .local ∧ (pos.line == (ts.head?.map (·.pos.line)).getD 0) = true := by
    intro t ht
    have := List.all_eq_true.mp h5 t ht
    cases t <;> first | (cases this; done) | skip
    rename_i id pos
    have this : (c.isLocal id && (pos.line == (ts.head?.map (·.pos.line)).getD 0)) = true := this
    rw [Bool.and_eq_true] at this
    exact ⟨id, pos, rfl, ok.isLocal this.1, this.2⟩
  have hn : ts.filterMap (fun | .Name id pos => if X.env.kindOf id == some .local && pos.line == (ts.head?.map (·.pos.line)).getD 0 then some id else none | _ => none) = names := by
    rw [h6]
    refine fm_congr fun t ht => ?_
    obtain ⟨id, pos, rfl, e1, e2⟩ := hat t ht
    show (if X.env.kindOf id == some .local && pos.line == _ then some id else none) = some id
    rw [e1, e2]; rfl
  have hl : names.length = ts.length := by
    rw [h6]
    refine names_len fun t ht => ?_
    obtain ⟨id, pos, rfl, _⟩ := hat t ht
    exact ⟨id, rfl⟩
  unfold swappedStores
  show (if !(ts.length == 2 || ts.length == 3) || vs.length != ts.length || X.env.blockKind != .function then (return none : Sem (Option (List Str))) else
    if vs.any (fun | .Starred .. => true | _ => false) then return none else
      if (ts.filterMap (fun | .Name id pos => if X.env.kindOf id == some .local && pos.line == (ts.head?.map (·.pos.line)).getD 0 then some id else none | _ => none)).length != ts.length ||
        (ts.filterMap (fun | .Name id pos => if X.env.kindOf id == some .local && pos.line == (ts.head?.map (·.pos.line)).getD 0 then some id else none | _ => none)).eraseDups.length !=
          (ts.filterMap (fun | .Name id pos => if X.env.kindOf id == some .local && pos.line == (ts.head?.map (·.pos.line)).getD 0 then some id else none | _ => none)).length then return none else
        if vs.all (foldedForSure 8) then return none else
          if vs.all (constantsAlone 8) then do unsupported "assign.tuple-of-constant-expressions:order-of-the-stores"; return some (ts.filterMap (fun | .Name id pos => if X.env.kindOf id == some .local && pos.line == (ts.head?.map (·.pos.line)).getD 0 then some id else none | _ => none)) else return some (ts.filterMap (fun | .Name id pos => if X.env.kindOf id == some .local && pos.line == (ts.head?.map (·.pos.line)).getD 0 then some id else none | _ => none))) = _
  rw [hn, h2, hb, hl, h7, hl, star_any h4]
  have e3 : (vs.length != ts.length) = false := by rw [bne, h3]; rfl
  have e8 : vs.all (foldedForSure 8) = false := by simpa using h8
  have e9 : vs.all (constantsAlone 8) = false := by simpa using h9
  rw [e3, e8, e9]
  have e4 : (ScopeKind.function != ScopeKind.function) = false := by decide
  have e5 : (ts.length != ts.length) = false := by simp
  rw [e4, e5]
  rfl
theorem sw_set (ok : Ok W T X c) {e : Expr} {x : Str} {px : Pos} {l : Nat} (h : (noComp e || !c.isLocal x) = true) : swapsWith e (some (.Name x px)) l X.env = pure false := by
  rw [Bool.or_eq_true] at h
  rcases h with h | h
  · exact noComp_is h
  · have hk : (X.env.kindOf x == some .local) = false := by
      have e1 : X.env.kindOf x = c.sc.names.lookup x := by show X.env.scope.names.lookup x = _; rw [ok.sc]
      rw [e1]
      unfold Cc.isLocal at h
      split at h
      · cases h
      · rename_i ne
        cases e2 : c.sc.names.lookup x with
        | none => rfl
        | some k => cases k <;> first | rfl | exact absurd e2 ne
    cases e <;> first
      | rfl
      | (unfold swapsWith
         simp only [hk]
         simp)
theorem ss_set {i : Nat} {e : CE} : SSt W T (.set i e) := fun X c st ok h => by
  cases st <;> first | (cases h; done) | skip
  rename_i tgs y p
  rcases tgs with _ | ⟨tg, _ | ⟨_, _⟩⟩ <;> first | (cases h; done) | (cases tg <;> first | (cases h; done) | skip)
  rename_i x px
  have h : (decide (c.N[i]? = some x) && c.loc x && (c.fn x || c.isLocal x) && (noComp y || !c.isLocal x) && chk e c y) = true := h
  simp only [Bool.and_eq_true, decide_eq_true_eq] at h
  obtain ⟨⟨⟨⟨h1, h2⟩, h3⟩, h4⟩, h5⟩ := h
  exact ls_set (by rw [ok.N]; exact ok.nd) (by rw [ok.N]; exact h1) (ok.loc h2) (se_all W T e X c y ok h5).v (sw_set ok h4) (ok.fnl h3)
theorem ss_setlc {i : Nat} {own : Bool} {vs : List (Str × Nat)} {g : CG} {it : CI} {t : CT} {e : CE} : SSt W T (.setlc i own vs g it t e) := fun X c st ok h => by
  cases st <;> first | (cases h; done) | skip
  rename_i tgs y p
  rcases tgs with _ | ⟨tg, _ | ⟨_, _⟩⟩ <;> first | (cases h; done) | (cases tg <;> first | (cases h; done) | skip)
  cases y <;> first | (cases h; done) | skip
  rename_i x px elt gens scope pos
  rcases gens with _ | ⟨⟨tg, iter, ifs, a⟩, _ | ⟨_, _⟩⟩ <;> first | (cases h; done) | skip
  have h : (decide (c.N[i]? = some x) && c.isLocal x && c.isFn && (px.line == pos.line) && !(scope.names.any fun (n, k) => n == x && (k == .local || k == .cell)) &&
    (a == 0) && blkC c.N c.sc scope vs && noSet iter && (gslots g).all (fun i => (vs.map (·.2)).contains i) && (!it.tk || isTupG g) &&
    chkI it c tg iter && chkG g (c.blk scope) tg && chkT t (c.blk scope) ifs && chk e (c.blk scope) elt) = true := h
  simp only [Bool.and_eq_true, beq_iff_eq, decide_eq_true_eq, Bool.not_eq_true'] at h
  obtain ⟨⟨⟨⟨⟨⟨⟨⟨⟨⟨⟨⟨⟨k1, k2⟩, k3⟩, k4⟩, k5⟩, rfl⟩, h1⟩, h2⟩, h3⟩, h4⟩, h5⟩, h6⟩, h7⟩, h8⟩ := h
  refine (ps_setLc ok.calm (by rw [ok.N]; exact ok.nd) (by rw [ok.N]; exact k1) (ok.isLocal k2) (sw_true (ok.isFn k3) (ok.isLocal k2) (by simpa using k4) k5) (si_all W T it X c tg iter ok h5) (blkOk_by (by rw [ok.N, ok.sc]; exact h1))
    (fun s H C cl fp => sG (ok.blk s H scope cl C fp) h6) (fun s H C cl fp => st_all W T t _ _ ifs (ok.blk s H scope cl C fp) h7)
    (fun s H C cl fp => (se_all W T e _ _ elt (ok.blk s H scope cl C fp) h8).v) (noSet_iter h2)).mono fun D σ H ⟨F, P, sd, S, Dd, rs, rl, q, k⟩ => ?_
  exact lift_lc (own := own) (gs_sub h3) (tk_of h4) σ H _ ⟨F, P, sd, S, _, rs, rl, q, fun F1 S1 H1 dv v l1 rs1 rv q => k.nx F1 _ S1 _ H1 l1 rs1 ((rl.mono l1).set rv i) q⟩
theorem asg1 {tg : Expr} {env : Env} (h : noStar tg = true) : (assignEach [tg] env).map (·.2) = [assign tg env] := assignEach_map h
theorem ss_setg {g : CG} {e : CE} : SSt W T (.setg g e) := fun X c st ok h => by
  cases st <;> first | (cases h; done) | skip
  rename_i tgs y p
  rcases tgs with _ | ⟨tg, _ | ⟨_, _⟩⟩ <;> first | (cases h; done) | skip
  have h : (isTupG g && chkG g c tg && noComp y && noSwpC c tg y && chk e c y) = true := h
  simp only [Bool.and_eq_true] at h
  obtain ⟨⟨⟨⟨h1, h2⟩, h3⟩, h4⟩, h5⟩ := h
  exact ls_setG (se_all W T e X c y ok h5).v (sG ok h2) (sw_sole h3) (noSwpC_is ok h4) (asg1 (chkG_star h2))
theorem ss_par {i j : Nat} {a b : CE} : SSt W T (.par i j a b) := fun X c st ok h => by
  cases st <;> first | (cases h; done) | skip
  rename_i tgs rhs p
  cases tgs <;> first | (cases h; done) | skip
  rename_i tg rest
  cases tg <;> first | (cases h; done) | skip
  rename_i ts k1 p1
  cases ts <;> first | (cases h; done) | skip
  rename_i t1 r1
  cases t1 <;> first | (cases h; done) | skip
  rename_i x px
  cases r1 <;> first | (cases h; done) | skip
  rename_i t2 r2
  cases t2 <;> first | (cases h; done) | skip
  rename_i y py
  cases r2 <;> first | (cases h; done) | skip
  cases rest <;> first | (cases h; done) | skip
  cases rhs <;> first | (cases h; done) | skip
  rename_i vs k2 p2
  rcases vs with _ | ⟨u, _ | ⟨v, _ | ⟨_, _⟩⟩⟩ <;> first | (cases h; done) | skip
  have h : (decide (c.N[i]? = some x) && decide (c.N[j]? = some y) && decide (i ≠ j) && noStar u && noStar v && swp c [.Name x px, .Name y py] [u, v] [x, y] && chk a c u && chk b c v) = true := h
  simp only [Bool.and_eq_true, decide_eq_true_eq] at h
  obtain ⟨⟨⟨⟨⟨⟨⟨h1, h2⟩, h3⟩, h4⟩, h5⟩, h6⟩, h7⟩, h8⟩ := h
  have hs := h6
  unfold swp at hs
  simp only [Bool.and_eq_true, List.all_cons] at hs
  exact ls_par ok.calm (by rw [ok.N]; exact ok.nd) (by rw [ok.N]; exact h1) (by rw [ok.N]; exact h2) h3 (ok.isLocal hs.1.1.1.1.2.1.1) (ok.isLocal hs.1.1.1.1.2.2.1.1) (se_all W T a X c u ok h7).v (se_all W T b X c v ok h8).v (star_cons h4) (star_cons h5) (swp_is ok h6) rfl
theorem ss_par3 {i j l : Nat} {a b d : CE} : SSt W T (.par3 i j l a b d) := fun X c st ok h => by
  cases st <;> first | (cases h; done) | skip
  rename_i tgs rhs p
  cases tgs <;> first | (cases h; done) | skip
  rename_i tg rest
  cases tg <;> first | (cases h; done) | skip
  rename_i ts k1 p1
  cases ts <;> first | (cases h; done) | skip
  rename_i t1 r1
  cases t1 <;> first | (cases h; done) | skip
  rename_i x px
  cases r1 <;> first | (cases h; done) | skip
  rename_i t2 r2
  cases t2 <;> first | (cases h; done) | skip
  rename_i y py
  cases r2 <;> first | (cases h; done) | skip
  rename_i t3 r3
  cases t3 <;> first | (cases h; done) | skip
  rename_i z pz
  cases r3 <;> first | (cases h; done) | skip
  cases rest <;> first | (cases h; done) | skip
  cases rhs <;> first | (cases h; done) | skip
  rename_i vs k2 p2
  rcases vs with _ | ⟨u, _ | ⟨v, _ | ⟨w, _ | ⟨_, _⟩⟩⟩⟩ <;> first | (cases h; done) | skip
  have h : (decide (c.N[i]? = some x) && decide (c.N[j]? = some y) && decide (c.N[l]? = some z) && decide (i ≠ j) && decide (i ≠ l) && decide (j ≠ l) &&
    noStar u && noStar v && noStar w && swp c [.Name x px, .Name y py, .Name z pz] [u, v, w] [x, y, z] && chk a c u && chk b c v && chk d c w) = true := h
  simp only [Bool.and_eq_true, decide_eq_true_eq] at h
  obtain ⟨⟨⟨⟨⟨⟨⟨⟨⟨⟨⟨⟨h1, h2⟩, h2b⟩, h3⟩, h3b⟩, h3c⟩, h4⟩, h5⟩, h5b⟩, h6⟩, h7⟩, h8⟩, h9⟩ := h
  have hs := h6
  unfold swp at hs
  simp only [Bool.and_eq_true, List.all_cons] at hs
  refine (ps_par3 ok.calm (by rw [ok.N]; exact ok.nd) (by rw [ok.N]; exact h1) (by rw [ok.N]; exact h2) (by rw [ok.N]; exact h2b) h3 h3b h3c (ok.isLocal hs.1.1.1.1.2.1.1) (ok.isLocal hs.1.1.1.1.2.2.1.1) (ok.isLocal hs.1.1.1.1.2.2.2.1.1)
    (la_cons (se_all W T a X c u ok h7).v (la_cons (se_all W T b X c v ok h8).v (la_cons (se_all W T d X c w ok h9).v la_nil (star_cons h5b)) (star_cons h5)) (star_cons h4)) (swp_is ok h6) rfl).mono fun D σ H ⟨F, P, sd, S, Dd, rs, rl, q, k⟩ => ?_
  refine ⟨F, P, sd, S, fun ds S' => match ds with | [x, y, z] => Dd.nx (((sd.set i (some x)).set j (some y)).set l (some z)) S' | _ => False, rs, rl, ?_, fun F1 S1 H1 ds vs l1 rs1 rr q1 => ?_⟩
  · exact q
  · dsimp only at q1
    split at q1
    · cases rr with
      | cons r1 rr =>
        cases rr with
        | cons r2 rr =>
          cases rr with
          | cons r3 rr =>
            cases rr
            exact ⟨_, _, _, rfl, k.nx F1 _ S1 _ H1 l1 rs1 ((((rl.mono l1).set r1 i).set r2 j).set r3 l) q1⟩
    · exact q1.elim
theorem asg_sub {o i : Expr} {pos' : Pos} {env : Env} (h : noSlice i = true) : ∀ v, assign (.Subscript o i pos') env v = (do
      let ov ← holding [v] (eval o env)
      let iv ← holding [v, ov] (eval i env)
      standAt pos'
      holding [v, ov, iv] (setItem ov iv v)
      release [v, ov, iv] []) := by
  intro v
  cases i <;> first | rfl | (cases h)
theorem ss_setix {o i e : CE} : SSt W T (.setix o i e) := fun X c st ok h => by
  cases st <;> first | (cases h; done) | skip
  rename_i tgs y p
  cases tgs <;> first | (cases h; done) | skip
  rename_i tg rest
  cases tg <;> first | (cases h; done) | skip
  rename_i x z pp
  cases rest <;> first | (cases h; done) | skip
  have h : (noSlice z && noComp y && chk o c x && chk i c z && chk e c y) = true := h
  simp only [Bool.and_eq_true] at h
  obtain ⟨⟨⟨⟨h1, h2⟩, h3⟩, h4⟩, h5⟩ := h
  exact ls_setIx ok.hu1 (se_all W T o X c x ok h3).v (se_all W T i X c z ok h4).v (se_all W T e X c y ok h5).v (asg_sub h1) (sw_sole h2) sub_swp (asg1 rfl)
theorem setfld_ok {F P : Hp} {S : Store} {H : Hp} {f : Str} {y x : D} {vy vx : V} {K : Store → Prop} (ok : Ok W T X c) (rs : RS W F P S H) (ry : Rp W F y vy) (rx : Rp W F x vx) (h : fSetFld T.fld f y x S K) :
    ∃ a C dx gs, vx = .ref a ∧ H a = some (.ins C dx gs) ∧ Cls X.K C ∧ NoAttr X.K C f ∧ gs.length < 1000 ∧ ∃ S', K S' ∧ RS W F P S' (upd H a (.ins C dx (putF f vy gs))) := by
  unfold fSetFld at h
  split at h
  · rename_i a
    cases rx
    split at h
    · rename_i cl fs es
      obtain ⟨h1, h2, h3⟩ := h
      obtain ⟨C, dx, gs, hH, hc, r⟩ := ins_of rs es
      obtain ⟨C', hc', k1, k2⟩ := ok.fld cl f h1
      cases hc.symm.trans hc'
      exact ⟨a, C, dx, gs, rfl, hH, k1, k2, by rw [← r.len]; exact h2, _, h3, rs.wrote es trivial (.ins hc (RpF.put ry r))⟩
    · exact h.elim
  · exact h.elim
theorem sw_attr {y x : Expr} {m : Str} {pp : Pos} {l : Nat} {env : Env} : swapsWith y (some (.Attribute x m pp)) l env = pure false := by cases y <;> rfl
theorem ss_setfld {o e : CE} {f : Str} : SSt W T (.setfld o f e) := fun X c st ok h => by
  cases st <;> first | (cases h; done) | skip
  rename_i tgs y p
  cases tgs <;> first | (cases h; done) | skip
  rename_i tg rest
  cases tg <;> first | (cases h; done) | skip
  rename_i x m pp
  cases rest <;> first | (cases h; done) | skip
  have h : (decide (m = f) && chk o c x && chk e c y) = true := h
  simp only [Bool.and_eq_true, decide_eq_true_eq] at h
  obtain ⟨⟨rfl, h3⟩, h4⟩ := h
  refine (ps_fld (se_all W T o X c x ok h3).v (se_all W T e X c y ok h4).v sw_attr).mono fun D σ H ⟨F, P, sd, S, Dd, rs, rl, q, k⟩ => ?_
  refine ⟨F, P, sd, S, _, rs, rl, q, fun F1 S1 H1 dy y l1 rs1 ry q1 => ?_⟩
  refine ⟨F1, P, sd, S1, _, rs1, rl.mono l1, q1, fun F2 S2 H2 dx x l2 rs2 rx q2 => ?_⟩
  obtain ⟨a, C, dx, gs, h1, h2, h3, h4, h5, S', hk, rs3⟩ := setfld_ok ok rs2 (ry.mono l2) rx q2
  exact ⟨a, C, dx, gs, h1, h2, h3, h4, h5, k.nx F2 sd S' σ _ (l1.trans l2) rs3 (rl.mono (l1.trans l2)) hk⟩
theorem attr_swp {o o' : Expr} {f g : Str} {p1 p2 pt : Pos} {k : Nat} {e : Expr} {env : Env} : swappedStores [.Tuple [.Attribute o f p1, .Attribute o' g p2] k pt] e env = pure none := by
  cases e <;> first | rfl | skip
  rename_i vs k2 p2
  unfold swappedStores
  show (if !(([.Attribute o f p1, .Attribute o' g p2] : List Expr).length == 2 || ([.Attribute o f p1, .Attribute o' g p2] : List Expr).length == 3) || vs.length != ([.Attribute o f p1, .Attribute o' g p2] : List Expr).length || env.blockKind != .function then (return none : Sem (Option (List Str))) else
    if vs.any (fun | .Starred .. => true | _ => false) then return none else _) = _
  split
  · rfl
  · split
    · rfl
    · rfl
theorem ss_setfld2 {o a b : CE} {f g : Str} : SSt W T (.setfld2 o f g a b) := fun X c st ok h => by
  cases st <;> first | (cases h; done) | skip
  rename_i tgs rhs p
  cases tgs <;> first | (cases h; done) | skip
  rename_i tg rest
  cases tg <;> first | (cases h; done) | skip
  rename_i ts k1 p1
  cases ts <;> first | (cases h; done) | skip
  rename_i t1 r1
  cases t1 <;> first | (cases h; done) | skip
  rename_i x m px
  cases r1 <;> first | (cases h; done) | skip
  rename_i t2 r2
  cases t2 <;> first | (cases h; done) | skip
  rename_i x' m' py
  cases r2 <;> first | (cases h; done) | skip
  cases rest <;> first | (cases h; done) | skip
  cases rhs <;> first | (cases h; done) | skip
  rename_i vs k2 p2
  rcases vs with _ | ⟨u, _ | ⟨v, _ | ⟨_, _⟩⟩⟩ <;> first | (cases h; done) | skip
  have h : (decide (m = f) && decide (m' = g) && noStar u && noStar v && chk o c x && chk o c x' && chk a c u && chk b c v) = true := h
  simp only [Bool.and_eq_true, decide_eq_true_eq] at h
  obtain ⟨⟨⟨⟨⟨⟨⟨rfl, rfl⟩, h3⟩, h4⟩, h5⟩, h6⟩, h7⟩, h8⟩ := h
  have pt : PE X (.Tuple [u, v] k2 p2) (LE W (dTup (dCons (den T a).v (dCons (den T b).v dNil)))) := le_tup (la_cons (se_all W T a X c u ok h7).v (la_cons (se_all W T b X c v ok h8).v la_nil (star_cons h4)) (star_cons h3))
  have pg : PG X (.Tuple [.Attribute x m px, .Attribute x' m' py] k1 p1) _ := pg_tup ok.calm (pgs_cons (pg_fld (f := m) (pos := px) (se_all W T o X c x ok h5).v) (pgs_cons (pg_fld (f := m') (pos := py) (se_all W T o X c x' ok h6).v) pgs_nil rfl) rfl) rfl rfl
  refine (ps_asg pt pg rfl attr_swp rfl).mono fun D σ H ⟨F, P, sd, S, Dd, rs, rl, q, k⟩ => ?_
  refine ⟨F, P, sd, S, fun d S2 => match d with
    | .tup [y, z] => (den T o).v sd S2 fun x S3 => fSetFld T.fld m y x S3 fun S4 => (den T o).v sd S4 fun x' S5 => fSetFld T.fld m' z x' S5 fun S6 => Dd.nx sd S6
    | _ => False, rs, rl, q, fun F1 S1 H1 dv v l1 rs1 rv q1 => ?_⟩
  dsimp only at q1 ⊢
  split at q1
  · rename_i y z
    cases rv with
    | @tup _ vs av ht rr =>
      cases rr with
      | @cons _ vy _ _ ry rr =>
        cases rr with
        | @cons _ vz _ _ rz rr =>
          cases rr
          refine ⟨av, [vy, vz], rfl, by rw [ok.K]; exact (rs1.sub.tupP ht).sqt, rfl, ?_⟩
          refine ⟨vy, [vz], rfl, F1, P, sd, S1, _, rs1, rl.mono l1, q1, fun F2 S2 H2 dx x l2 rs2 rx q2 => ?_⟩
          obtain ⟨a, C, dx, gs, h1, h2, h3, h4, h5, S', hk, rs3⟩ := setfld_ok ok rs2 (ry.mono l2) rx q2
          refine ⟨a, C, dx, gs, h1, h2, h3, h4, h5, ?_⟩
          refine ⟨vz, [], rfl, F2, P, sd, S', _, rs3, rl.mono (l1.trans l2), hk, fun F4 S4 H4 dx2 x2 l4 rs4 rx4 q4 => ?_⟩
          obtain ⟨a2, C2, dx2, gs2, h1, h2, h3, h4, h5, S6, hk6, rs6⟩ := setfld_ok ok rs4 (rz.mono (l2.trans l4)) rx4 q4
          exact ⟨a2, C2, dx2, gs2, h1, h2, h3, h4, h5, rfl, k.nx F4 sd S6 σ _ ((l1.trans l2).trans l4) rs6 (rl.mono ((l1.trans l2).trans l4)) hk6⟩
  · exact q1.elim
theorem ss_aug {i : Nat} {o : Operator} {e : CE} : SSt W T (.aug i o e) := fun X c st ok h => by
  cases st <;> first | (cases h; done) | skip
  rename_i tg o' y p
  cases tg <;> first | (cases h; done) | skip
  rename_i x px
  have h : (decide (o = o') && okAug o && decide (c.N[i]? = some x) && c.loc x && (c.fn x || c.isLocal x) && chk e c y) = true := h
  simp only [Bool.and_eq_true, decide_eq_true_eq] at h
  obtain ⟨⟨⟨⟨⟨rfl, h0⟩, h1⟩, h2⟩, h3⟩, h5⟩ := h
  have hN : X.N.Nodup := by rw [ok.N]; exact ok.nd
  have hi : X.N[i]? = some x := by rw [ok.N]; exact h1
  cases o <;> first | (cases h0; done) | skip
  · exact ls_aug hN hi (ok.loc h2) (se_all W T e X c y ok h5).v iop_add (ok_int0 fun _ _ _ => .int _) (ok.fnl h3)
  · exact ls_aug hN hi (ok.loc h2) (se_all W T e X c y ok h5).v iop_sub ok_sub (ok.fnl h3)
theorem ss_expr {e : CE} : SSt W T (.expr e) := fun X c st ok h => by
  cases st <;> first | (cases h; done) | skip
  rename_i x p
  have h : (noComp x && chk e c x) = true := h
  rw [Bool.and_eq_true] at h
  exact ls_expr (se_all W T e X c x ok h.2).v (noComp_is h.1)
theorem ss_ret {e : CE} : SSt W T (.ret e) := fun X c st ok h => by
  cases st <;> first | (cases h; done) | skip
  rename_i x p
  cases x <;> first | (cases h; done) | skip
  exact ls_ret (se_all W T e X c _ ok h).v
theorem ss_retn : SSt W T .retn := fun X c st ok h => by
  cases st <;> first | (cases h; done) | skip
  rename_i x p
  cases x <;> first | (cases h; done) | skip
  exact ls_retN
theorem ss_ifs {t : CE} {a b : CSs} (ha : SSs W T a) (hb : SSs W T b) : SSt W T (.ifs t a b) := fun X c st ok h => by
  cases st <;> first | (cases h; done) | skip
  rename_i t' x y p
  have h : (chk t c t' && chkSs a c x && chkSs b c y) = true := h
  simp only [Bool.and_eq_true] at h
  exact ls_if (se_all W T t X c t' ok h.1.1).t (ha X c x ok h.1.2) (hb X c y ok h.2)
theorem ss_for {g : CG} {it : CI} {b : CSs} (hb : SSs W T b) : SSt W T (.for_ g it b) := fun X c st ok h => by
  cases st <;> first | (cases h; done) | skip
  rename_i tg iter body els p
  cases els <;> first | (cases h; done) | skip
  have h : (noSet iter && (!it.tk || isTupG g) && chkI it c tg iter && chkG g c tg && chkSs b c body) = true := h
  simp only [Bool.and_eq_true] at h
  obtain ⟨⟨⟨⟨h1, h2⟩, h3⟩, h4⟩, h5⟩ := h
  exact ls_for ok.po ok.calm (si_all W T it X c tg iter ok h3) (sG ok h4) (hb X c body ok h5) (tk_of h2) (noSet_iter h1)
theorem ss_while {t : CE} {b : CSs} (hb : SSs W T b) : SSt W T (.while_ t b) := fun X c st ok h => by
  cases st <;> first | (cases h; done) | skip
  rename_i t' body els p
  cases els <;> first | (cases h; done) | skip
  have h : (chk t c t' && chkSs b c body) = true := h
  rw [Bool.and_eq_true] at h
  exact ls_while ok.po (se_all W T t X c t' ok h.1).t (hb X c body ok h.2)
theorem ss_pass : SSt W T .pass := fun X c st ok h => by
  cases st <;> first | (cases h; done) | skip
  exact ls_pass
theorem ss_brk : SSt W T .brk := fun X c st ok h => by
  cases st <;> first | (cases h; done) | skip
  exact ls_break
theorem ss_cont : SSt W T .cont := fun X c st ok h => by
  cases st <;> first | (cases h; done) | skip
  exact ls_cont
theorem sss_nil : SSs W T .nil := fun X c sts ok h => by
  cases sts with
  | nil => exact ls_nil
  | cons _ _ => cases h
theorem sss_cons {s : CS} {r : CSs} (hs : SSt W T s) (hr : SSs W T r) : SSs W T (.cons s r) := fun X c sts ok h => by
  cases sts with
  | nil => cases h
  | cons x xs =>
    have h : (chkS s c x && chkSs r c xs) = true := h
    rw [Bool.and_eq_true] at h
    exact ls_cons (hs X c x ok h.1) (hr X c xs ok h.2)
theorem chk_frz {i : Nat} {r : CSs} {c : Cc} {sts : List Stmt} (h : chkSs (.frz i r) c sts = true) : chkSs r c sts = true := by
  cases sts <;> exact h
theorem sss_frz {i : Nat} {r : CSs} (hr : SSs W T r) : SSs W T (.frz i r) := fun X c sts ok h => ls_frz (hr X c sts ok (chk_frz h))
end
end DL
set_option Elab.async false
set_option linter.all false
set_option maxRecDepth 100000
set_option maxHeartbeats 1000000
/-! DL13: a loop over a dict's keys; all statements. -/
namespace DL
open PySem L2
section
variable {W : Wd} {F F' P : Hp} {S S' : Store} {H H' : Hp} {X : Cx}
theorem RS.lock (rs : RS W F P S H) {a : Addr} {od : Obj} {ws : List (Key × V)} (hF : F a = some (.dK ws)) (hH : H a = some (.dK ws)) : RS W F (upd P a (.frz od (.dK ws))) S (upd H a (.frz od (.dK ws))) := by
  refine ⟨sz_upd rs.sz (show szO (.dK ws) from by have := rs.sz _ _ hH; exact this), fun b o e => ?_, fun b o e => ?_, fun b o e => ?_, fun b o e => ?_⟩
  · by_cases z : b = a
    · subst z
      rw [hF] at e; cases e
      exact .inr ⟨od, ws, rfl, upd_same⟩
    · rw [upd_ne z]; exact rs.sub _ _ e
  · by_cases z : b = a
    · subst z; rw [upd_same] at e ⊢; exact e
    · rw [upd_ne z] at e ⊢; exact rs.prs _ _ e
  · by_cases z : b = a
    · subst z
      rw [upd_same] at e; cases e
      refine ⟨?_, .inr ⟨od, _, rfl⟩⟩
      cases eS : S b with
      | none => rfl
      | some u => have := (rs.obj _ _ eS).1; rw [hF] at this; cases this
    · rw [upd_ne z] at e; exact rs.dis _ _ e
  · obtain ⟨h1, u, h2, h3⟩ := rs.obj _ _ e
    have z : b ≠ a := by rintro rfl; rw [hF] at h1; cases h1
    exact ⟨h1, u, by rw [upd_ne z]; exact h2, h3⟩
theorem RS.unlock {a : Addr} {od : Obj} {ws : List (Key × V)} (rs : RS W F' (upd P a (.frz od (.dK ws))) S' H') (hF : F' a = some (.dK ws)) (hP : P a = Option.none) : RS W F' P S' (upd H' a (.dK ws)) := by
  have hH := rs.prs a _ upd_same
  refine ⟨sz_upd rs.sz (show szO (.dK ws) from by have := rs.sz _ _ hH; exact this), fun b o e => ?_, fun b o e => ?_, fun b o e => ?_, fun b o e => ?_⟩
  · by_cases z : b = a
    · subst z
      rw [hF] at e; cases e
      exact .inl upd_same
    · rw [upd_ne z]; exact rs.sub _ _ e
  · have z : b ≠ a := ne_of_none e hP
    rw [upd_ne z]; exact rs.prs _ _ (by rw [upd_ne z]; exact e)
  · have z : b ≠ a := ne_of_none e hP
    exact rs.dis _ _ (by rw [upd_ne z]; exact e)
  · obtain ⟨h1, u, h2, h3⟩ := rs.obj _ _ e
    have z : b ≠ a := by rintro rfl; rw [hF] at h1; cases h1
    exact ⟨h1, u, by rw [upd_ne z]; exact h2, h3⟩
theorem RS.lessP {P0 : Hp} (rs : RS W F P0 S H) (l : Le P P0) : RS W F P S H := ⟨rs.sz, rs.sub, fun a o e => rs.prs _ _ (l _ _ e), fun a o e => rs.dis _ _ (l _ _ e), rs.obj⟩
theorem keyDat_rp (k : Key) : Rp W F (keyDat k) (kV k) := by
  cases k
  · exact .int _
  · exact .str _
theorem RpK.keys : ∀ {kvs : List (Key × D)} {ws : List (Key × V)}, RpK W F kvs ws → kvs.map (fun kv => keyDat kv.1) = ws.map (fun kv => keyDat kv.1)
  | _, _, .nil => rfl
  | _, _, .cons _ t => by rw [List.map_cons, List.map_cons, RpK.keys t]
theorem keys_core {tv : TE} {a : Addr} {ob : Obj} {ws : List (Key × V)} {g : CG} {b : DSt} {sd : Slots} {σ : St} {Dd : DEnds} {D : Ends} (htv : ∀ H Q, Q (.ref a) H → tv σ H Q) (hP : P a = some (.frz ob (.dK ws))) (rs : RS W F P S H) (rl : RSl W F sd σ) (k : KS W F P Dd D)
    (h : forL (fun _ => True) g b Dd (ws.map fun kv => keyDat kv.1) sd S) : tFor (iKeys tv) (LG W g) (LS W b) D σ H := by
  refine htv H _ ⟨a, ob, rfl, .inl ⟨ws, rs.prs _ _ hP, ?_⟩⟩
  refine ⟨fun i m σ H => i ≤ ws.length ∧ m = ws.length - i ∧ ∃ F' sd' S', Le F F' ∧ RS W F' P S' H ∧ RSl W F' sd' σ ∧ forL (fun _ => True) g b Dd ((ws.map fun kv => keyDat kv.1).drop i) sd' S', ⟨ws.length, Nat.zero_le _, by simp, F, sd, S, Le.refl _, rs, rl, by simpa using h⟩, ?_⟩
  rintro i m σ1 H1 ⟨hi, rfl, F1, sd1, S1, l1, rs1, rl1, h1⟩
  have hH := rs1.prs _ _ hP
  by_cases hlt : i < ws.length
  · obtain ⟨x, ex, ed⟩ := drop_cons (xs := ws.map fun kv => keyDat kv.1) (i := i) (by rw [List.length_map]; exact hlt)
    rw [ed] at h1
    obtain ⟨_, h1⟩ := h1
    refine .inr ⟨⟨hH, hlt⟩, fun σ' H' => ∃ F' sd' S', Le F F' ∧ RS W F' P S' H' ∧ RSl W F' sd' σ' ∧ forL (fun _ => True) g b Dd ((ws.map fun kv => keyDat kv.1).drop (i + 1)) sd' S', fun σ' H' w => ⟨ws.length - (i + 1), by omega, hlt, rfl, w⟩, fun v H' y => ?_⟩
    obtain ⟨rfl, kk, vv, ek, rfl⟩ := y
    rw [List.getElem?_map, ek] at ex
    cases ex
    split at h1
    · rename_i sd2 eg
      refine ⟨F1, sd1, _, sd2, rs1.sub, rl1, .inl (keyDat_rp kk), eg, fun σ' rl' _ => ⟨F1, P, sd2, S1, _, rs1, rl', h1, ?_⟩⟩
      exact ⟨fun F' sd' S' σ' H' l rs' rl' w => ⟨F', sd', S', l1.trans l, rs', rl', w⟩, k.rt.le l1, fun F' sd' S' σ' H' l => k.nx F' sd' S' σ' H' (l1.trans l), fun F' sd' S' σ' H' l rs' rl' w => ⟨F', sd', S', l1.trans l, rs', rl', w⟩⟩
    · exact h1.elim
  · have e : i = ws.length := by omega
    subst e
    rw [List.drop_eq_nil_of_le (by rw [List.length_map]; exact Nat.le_refl _)] at h1
    exact .inl ⟨⟨hH, Nat.le_refl _⟩, k.nx F1 sd1 S1 σ1 H1 l1 rs1 rl1 h1.2⟩
theorem ls_forkeys {tg : Expr} {x : Str} {px : Pos} {body : List Stmt} {g : CG} {i : Nat} {b : DSt} {pos : Pos} (hp : PassesOwn (model X.prog X.w) X.A X.env X.xe) (hc : X.calm = true) (hN : X.N[i]? = some x) (hv : Vis X.env.scope x) (hd : (x == ("__debug__" : Str)) = false) (hcd : (x == ("__classdict__" : Str)) = false)
    (hg : PG X tg (LG W g)) (hb : PSs X body (LS W b)) : PS X (.For tg (.Name x px) body [] pos) (LS W (sForKeys i g b)) := by
  have h0 := ps_for (pos := pos) hp hc (pi_keys (pe_var (pos := px) hN hv hd hcd)) hg hb (fun _ => rfl)
  have h1 := ps_lock h0
  refine ⟨fun pins s σ H D I ⟨F, P, sd, S, Dd, rs, rl, h, k⟩ => ?_⟩
  unfold sForKeys at h
  split at h
  · rename_i kvs e
    obtain ⟨v, hv, rv⟩ := rl.at_ i _ e
    cases rv with
    | @dct _ ws a hR r =>
      rw [r.keys] at h
      have htv : ∀ H Q, Q (.ref a) H → tVar i σ H Q := fun H Q q => ⟨.ref a, hv, q⟩
      have hRH := rs.sub.rd hR
      have two : (∃ ob, H a = some (.frz ob (.dK ws))) ∨ (F a = some (.dK ws) ∧ H a = some (.dK ws)) := by
        rcases hRH with hH | ⟨ob, hH⟩
        · rcases hR with hF | ⟨o', hF⟩
          · exact .inr ⟨hF, hH⟩
          · rcases rs.sub _ _ hF with q | ⟨_, _, q, _⟩
            · rw [hH] at q; cases q
            · cases q
        · exact .inl ⟨ob, hH⟩
      rcases two with ⟨ob, hH⟩ | ⟨hF, hH⟩
      · have l : Le P (upd P a (.frz ob (.dK ws))) := fun b o e => by
          by_cases z : b = a
          · subst z; rw [upd_same, ← rs.prs _ _ e, hH]
          · rw [upd_ne z]; exact e
        have nS : S a = none := by
          cases eS : S a with
          | none => rfl
          | some u =>
            have := (rs.obj _ _ eS).1
            rcases hR with q | ⟨_, q⟩ <;> (rw [this] at q; cases q)
        have rs0 : RS W F (upd P a (.frz ob (.dK ws))) S H := by
          refine ⟨rs.sz, rs.sub, fun b o e => ?_, fun b o e => ?_, rs.obj⟩
          · by_cases z : b = a
            · subst z; rw [upd_same] at e; cases e; exact hH
            · rw [upd_ne z] at e; exact rs.prs _ _ e
          · by_cases z : b = a
            · subst z; rw [upd_same] at e; cases e; exact ⟨nS, .inr ⟨_, _, rfl⟩⟩
            · rw [upd_ne z] at e; exact rs.dis _ _ e
        refine h0.run pins s σ H D I (keys_core htv upd_same rs0 rl ⟨fun F' sd' S' σ' H' l' rs' rl' q => k.nx F' sd' S' σ' H' l' (rs'.lessP l) rl' q, fun F' S' H' d v l' rs' rv q => k.rt F' S' H' d v l' (rs'.lessP l) rv q,
          fun F' sd' S' σ' H' l' rs' rl' q => k.bk F' sd' S' σ' H' l' (rs'.lessP l) rl' q, fun F' sd' S' σ' H' l' rs' rl' q => k.ct F' sd' S' σ' H' l' (rs'.lessP l) rl' q⟩ h)
      · have hP : P a = none := by
          cases eP : P a with
          | none => rfl
          | some o =>
            have := rs.prs _ _ eP
            rw [hH] at this; cases this
            rcases (rs.dis _ _ eP).2 with q | ⟨_, _, q⟩
            · rw [hF] at q; cases q
            · cases q
        refine h1.run pins s σ H D I ⟨a, .dK ws, hH, trivial, fun od => keys_core htv upd_same (rs.lock (od := od) hF hH) rl ?_ h⟩
        exact ⟨fun F' sd' S' σ' H' l' rs' rl' q => ⟨rs'.prs _ _ upd_same, k.nx F' sd' S' σ' _ l' (rs'.unlock (l' _ _ hF) hP) rl' q⟩, fun F' S' H' d v l' rs' rv q => ⟨rs'.prs _ _ upd_same, k.rt F' S' _ d v l' (rs'.unlock (l' _ _ hF) hP) rv q⟩,
          fun F' sd' S' σ' H' l' rs' rl' q => ⟨rs'.prs _ _ upd_same, k.bk F' sd' S' σ' _ l' (rs'.unlock (l' _ _ hF) hP) rl' q⟩, fun F' sd' S' σ' H' l' rs' rl' q => ⟨rs'.prs _ _ upd_same, k.ct F' sd' S' σ' _ l' (rs'.unlock (l' _ _ hF) hP) rl' q⟩⟩
  · exact h.elim
end
section
variable {W : Wd} {T : Tb}
theorem ss_forkeys {g : CG} {i : Nat} {b : CSs} (hb : SSs W T b) : SSt W T (.forkeys g i b) := fun X c st ok h => by
  cases st <;> first | (cases h; done) | skip
  rename_i tg iter body els p
  cases iter <;> first | (cases h; done) | skip
  rename_i x px
  cases els <;> first | (cases h; done) | skip
  have h : (decide (c.N[i]? = some x) && c.vis x && okName x && chkG g c tg && chkSs b c body) = true := h
  simp only [Bool.and_eq_true, decide_eq_true_eq] at h
  obtain ⟨⟨⟨⟨h1, h2⟩, h3⟩, h4⟩, h5⟩ := h
  obtain ⟨n1, n2, _⟩ := okName_is h3
  exact ls_forkeys ok.po ok.calm (by rw [ok.N]; exact h1) (ok.vis h2) n1 n2 (sG ok h4) (hb X c body ok h5)
mutual
theorem ss_all (W : Wd) (T : Tb) : ∀ cs : CS, SSt W T cs
  | .expr _ => ss_expr | .ret _ => ss_ret | .retn => ss_retn | .set _ _ => ss_set | .setlc .. => ss_setlc | .setg _ _ => ss_setg | .par .. => ss_par | .par3 .. => ss_par3 | .setix .. => ss_setix | .aug .. => ss_aug | .setfld .. => ss_setfld | .setfld2 .. => ss_setfld2
  | .ifs _ a b => ss_ifs (sss_all W T a) (sss_all W T b)
  | .for_ _ _ b => ss_for (sss_all W T b)
  | .forkeys _ _ b => ss_forkeys (sss_all W T b)
  | .while_ _ b => ss_while (sss_all W T b)
  | .pass => ss_pass | .brk => ss_brk | .cont => ss_cont
theorem sss_all (W : Wd) (T : Tb) : ∀ cs : CSs, SSs W T cs
  | .nil => sss_nil
  | .cons s r => sss_cons (ss_all W T s) (sss_all W T r)
  | .frz _ r => sss_frz (sss_all W T r)
end
end
end DL
set_option Elab.async false
set_option linter.all false
set_option maxRecDepth 100000
set_option maxHeartbeats 1000000
/-! DL14: defs by their core; lists of defs; the law's end. -/
namespace DL
open PySem L2
/-- a def that keeps its promise, and is known to the others -/
structure Fk (P : Program) (w : World) (mg : Str → Option Value) (base : Heap) (W : Wd) (k : Nat) (x : Str) (n : Nat) (kws : List (List Str × List Nat)) (sp : DSp) : Prop where
  ex : ∃ a fd ps, FnOk P w W.K mg base CX0 k a fd ps (LSp W n sp) ∧ mg x = some (.ref a) ∧ PySem.W.keepIn W.K (.ref a) = true ∧ Binds W.K fd ps [] ∧ ∀ kp ∈ kws, KBn W.K fd ps 0 kp.1 (permV kp.2) (permV kp.2)
structure Fe where
  x : Str
  n : Nat
  kws : List (List Str × List Nat)
  sp : DSp
def Fks (P : Program) (w : World) (mg : Str → Option Value) (base : Heap) (W : Wd) (k : Nat) (xs : List Fe) : Prop := ∀ (j : Nat) (e : Fe), xs[j]? = some e → Fk P w mg base W k e.x e.n e.kws e.sp
def mkT (xs : List Fe) (g : List D) : Tb := { fn := fun j => (xs[j]?).map fun e => (e.n, e.sp), kw := fun j => ((xs[j]?).map (·.kws)).getD [], glb := fun j => g[j]?, gd := false }
section
variable {P : Program} {w : World} {mg : Str → Option Value} {base : Heap} {W : Wd} {k : Nat}
theorem Fk.mono {j : Nat} {x : Str} {n : Nat} {kws : List (List Str × List Nat)} {sp : DSp} (f : Fk P w mg base W j x n kws sp) (h : j ≤ k) : Fk P w mg base W k x n kws sp :=
  let ⟨a, fd, ps, G, r⟩ := f.ex; ⟨a, fd, ps, G.mono h, r⟩
theorem Fk.imp {x : Str} {n : Nat} {kws : List (List Str × List Nat)} {sp sp' : DSp} (f : Fk P w mg base W k x n kws sp) (h : ∀ ds S Q, sp' ds S Q → sp ds S Q) : Fk P w mg base W k x n kws sp' :=
  let ⟨a, fd, ps, G, r⟩ := f.ex; ⟨a, fd, ps, G.imp fun vs H Q E ⟨F, P', ds, S, Qd, h1, h2, h3, h4, h5⟩ => ⟨F, P', ds, S, Qd, h1, h2, h3, h _ _ _ h4, h5⟩, r⟩
theorem Fks.nil : Fks P w mg base W k [] := fun j e h => by cases j <;> cases h
theorem Fks.snoc {xs : List Fe} {e : Fe} (h : Fks P w mg base W k xs) (f : Fk P w mg base W (k + 1) e.x e.n e.kws e.sp) : Fks P w mg base W (k + 1) (xs ++ [e]) := fun j e' he => by
  rcases Nat.lt_trichotomy j xs.length with q | q | q
  · rw [List.getElem?_append_left q] at he
    exact (h j e' he).mono (Nat.le_succ _)
  · subst q
    rw [List.getElem?_append_right (Nat.le_refl _), Nat.sub_self] at he
    cases he
    exact f
  · rw [List.getElem?_append_right (Nat.le_of_lt q)] at he
    have : 1 ≤ j - xs.length := by omega
    cases e2 : j - xs.length with
    | zero => omega
    | succ m => rw [e2] at he; cases he
theorem Fks.mono {j : Nat} {xs : List Fe} (h : Fks P w mg base W j xs) (l : j ≤ k) : Fks P w mg base W k xs := fun i e he => (h i e he).mono l
/-- the module's own names -/
structure Gs (mg : Str → Option Value) (W : Wd) (gls : List Str) (g : List D) (bl : List Str) : Prop where
  glb : ∀ (j : Nat) (x : Str) (d : D), g[j]? = some d → gls[j]? = some x → ∃ u v, mg x = some u ∧ RelV v u ∧ ∀ F, Rp W F d v
  blt : ∀ x, bl.contains x = true → mg x = none
def ccOf (st : Stmt) (N : List Str) (bl : List Str) (xs : List Fe) (gls : List Str) : Cc := { sc := defScope st, N := N, fn := fun _ => true, bl := bl, fns := xs.map (·.x), gls := gls }
/-- what is told of a def's place -/
structure Dd (K : PySem.W.Frag) (mg : Str → Option Value) (x : Str) (st : Stmt) (ps : List Str) (kws : List (List Str × List Nat)) : Prop where
  ex : ∃ a fd, Fun K x x st a fd ∧ mg x = some (.ref a) ∧ Binds K fd ps [] ∧ ∀ kp ∈ kws, KBn K fd ps 0 kp.1 (permV kp.2) (permV kp.2)
theorem def_fn {x : Str} {st : Stmt} {N ps : List Str} {sp : DSp} {core : CSs} {xs : List Fe} {g : List D} {gls bl : List Str} {a : Addr} {fd : FuncData} (Fn : Fun W.K x x st a fd) (Sc : FnScope N ps (defScope st)) (L : Fks P w mg base W k xs) (G : Gs mg W gls g bl)
    (hchk : chkSs core (ccOf st N bl xs gls) (defBody st) = true)
    (hsp : ∀ ds S Q, sp ds S Q → ds.length = ps.length → denSs (mkT xs g) core { nx := fun _ S' => rtQ Q .non S', rt := rtQ Q } (start0 N.length ds) S) : FnOk P w W.K mg base CX0 (k + 1) a fd ps (LSp W ps.length sp) := by
  refine fn_rule Fn Sc (fun cdv A outer s H E hr => ?_) hsp
  refine sss_all W (mkT xs g) core _ _ _ ?_ hchk
  refine ⟨rfl, rfl, rfl, Sc.nd, rfl, hr.units, fun x z => rfl, rfl, fun j f n sp h1 h2 => ?_, fun j x d h1 h2 => G.glb j x d h1 h2, G.blt, (fun z => nomatch z), fun _ _ z => (by cases z), fun _ _ _ _ _ _ _ z => (by cases z), fun _ _ _ _ _ _ z => (by cases z), fun z => (by cases z)⟩
  cases e : xs[j]? with
  | none =>
    have h1 : (xs[j]?).map (fun e => (e.n, e.sp)) = some (n, sp) := h1
    rw [e] at h1; cases h1
  | some u =>
    have h1 : (xs[j]?).map (fun e => (e.n, e.sp)) = some (n, sp) := h1
    have h2 : (xs.map (·.x))[j]? = some f := h2
    rw [List.getElem?_map] at h2
    rw [e] at h1 h2
    cases h1
    cases h2
    obtain ⟨a, fd, ps, G, hm, hk, hb, hkb⟩ := (L j u e).ex
    refine ⟨k, a, fd, ps, G, hr, hm, hk, hb, fun kp hkp => hkb kp ?_⟩
    have hkp : kp ∈ ((xs[j]?).map (·.kws)).getD [] := hkp
    rw [e] at hkp
    exact hkp
theorem def_rule {x : Str} {st : Stmt} {N ps : List Str} {kws : List (List Str × List Nat)} {sp : DSp} {core : CSs} {xs : List Fe} {g : List D} {gls bl : List Str} (dd : Dd W.K mg x st ps kws) (Sc : FnScope N ps (defScope st)) (L : Fks P w mg base W k xs) (G : Gs mg W gls g bl)
    (hchk : chkSs core (ccOf st N bl xs gls) (defBody st) = true)
    (hsp : ∀ ds S Q, sp ds S Q → ds.length = ps.length → denSs (mkT xs g) core { nx := fun _ S' => rtQ Q .non S', rt := rtQ Q } (start0 N.length ds) S) : Fk P w mg base W (k + 1) x ps.length kws sp := by
  obtain ⟨a, fd, Fn, hm, hb, hk⟩ := dd.ex
  exact ⟨a, fd, ps, def_fn Fn Sc L G hchk hsp, hm, Fn.kp, hb, hk⟩
/-- a promise that is never asked for -/
theorem Fk.never {x : Str} {st : Stmt} {ps : List Str} {kws : List (List Str × List Nat)} (dd : Dd W.K mg x st ps kws) : Fk P w mg base W k x ps.length kws (fun _ _ _ => False) :=
  let ⟨a, fd, Fn, hm, hb, hk⟩ := dd.ex
  ⟨a, fd, ps, ⟨fun vs H Q E ⟨_, _, _, _, _, _, _, _, h, _⟩ => h.elim, fun A outer s H args us vs Q E _ _ _ _ ⟨_, _, _, _, _, _, _, _, h, _⟩ => h.elim⟩, hm, Fn.kp, hb, hk⟩
end
/-- the law's promise, as its head asks it -/
def spLaw0 (n : Nat) (K : PySem.W.Frag) : Sp := fun vs H Q _ => ∃ (a : Addr) (ns : List Int), vs = [.ref a] ∧ Only H ∧ SqL K H a (ns.map V.int) ∧ ns.length ≤ n ∧ ∀ H', Q (.bl true) H'
/-- the law's promise on data: the script, True -/
def spLawD (n : Nat) : DSp := fun ds S Q => ∃ ns : List Int, ds = [.scr ns] ∧ ns.length ≤ n ∧ (∀ a, S a = none) ∧ ∀ S', Q (.bl true) S'
theorem law_fn {P : Program} {w : World} {mg : Str → Option Value} {base : Heap} {W : Wd} {k : Nat} {x : Str} {st : Stmt} {ps : List Str} {n : Nat} {fd : FuncData} {f : Addr} (F : FnOk P w W.K mg base CX0 k f fd ps (LSp W 1 (spLawD n))) (hps : ps.length = 1) : FnOk P w W.K mg base CX0 k f fd ps (spLaw0 n W.K) := by
  refine ⟨fun vs H Q E ⟨a, ns, h, _⟩ => by rw [h, hps]; rfl, fun A outer s H args us vs Q E hr e0 hb r ⟨a, ns, h1, h2, h3, h4, h5⟩ => ?_⟩
  refine F.run A outer s H args us vs Q E hr e0 hb r ⟨H, fun _ => none, [.scr ns], fun _ => none, fun d _ => d = .bl true, ?_, ?_, rfl, ⟨ns, rfl, h4, fun _ => rfl, fun _ => rfl⟩, ?_⟩
  · refine ⟨fun b o e => ?_, fun b o e => .inl e, fun b o e => (by cases e), fun b o e => (by cases e), fun b o e => (by cases e)⟩
    rcases h2 b with z | ⟨ob, xs, z⟩
    · rw [z] at e; cases e
    · rw [z] at e; cases e
      have ho := e0.hok b _ z
      exact ho.2.1
  · subst h1
    exact .cons (.scr h3) .nil
  · intro F' S' H' d v l rs' rv q
    subst q
    cases rv
    exact h5 H'
section
variable {K : PySem.W.Frag} {h : Heap} {mg : Str → Option Value}
theorem dd_mk {x : Str} {st : Stmt} {f : Addr} {oc : Value} {od an : Option Addr} {osl : Array (Option Value)} {kV doc pm cdv ct : Value} {ps : List Str} {kws : List (List Str × List Nat)} (X : K.In h) (G : h.Ns mainGlobals mg)
    (a : PySem.W.nsIn K mainGlobals x = some (some (.ref f))) (l : K.lookup f = some ⟨oc, od, .func (PySem.W.fnOf x x (defArgs st) (defBody st) (defScope st) .none kV doc pm an cdv ct), osl⟩) (c : PySem.W.codeIn K cdv x = true) (k : PySem.W.keepIn K (.ref f) = true)
    (hb : ∀ (kV doc pm : Value) (an : Option Addr) (cdv ct : Value) (us : List Value), us.length = ps.length → bindArgs (PySem.W.fnOf x x (defArgs st) (defBody st) (defScope st) .none kV doc pm an cdv ct) ⟨us, []⟩ = pure (ps.zip us))
    (hk : ∀ kp ∈ kws, ∀ (kV doc pm : Value) (an : Option Addr) (cdv ct : Value) (ws : List Value), ws.length = kp.1.length → bindArgs (PySem.W.fnOf x x (defArgs st) (defBody st) (defScope st) .none kV doc pm an cdv ct) ⟨[], kp.1.zip ws⟩ = pure (ps.zip (permV kp.2 [] ws))) : Dd K mg x st ps kws := by
  refine ⟨f, _, fun_mk (st := st) l c k, PySem.W.mg_of X G a, (fun_mk (st := st) l c k).binds hb, fun kp hkp => ⟨fun s us ws hX h1 h2 => ?_, fun {vs us zs ws} r1 r2 => ?_⟩⟩
  · have e : us = [] := List.length_eq_zero_iff.mp h1
    subst e
    exact .of_eq (hk kp hkp kV doc pm an cdv ct ws h2)
  · exact permV_rel r2 kp.2
end
theorem law_walk {l : PySem.W.OpenLaw} {q : Program} {loose : List Str} {XP : (Str → Option Value) → Heap → Prop} {YP : World → Heap → Prop} {d : DefRec} {K : Params → PySem.W.Frag} {k : Nat} {cm : PySem.W.Frag → Str → Option Addr} (hn : l.most = some 63) (hdf : d.params.defaults = []) (hr : Room k callerA)
    (hY : ∀ (w : World) (h : Heap), YP w h → (K w.params).In h)
    (F : ∀ (w : World) (mg : Str → Option Value) (fa : Addr) (h : Heap), (K w.params).In h → h.Ns mainGlobals mg → mg d.name = some (.ref fa) →
      ∃ fd : FuncData, (∀ (s : Shared) (u : Value), BindsTo s fd ⟨[u], []⟩ [("script", u)]) ∧ ∀ base : Heap, (K w.params).In base → base.Ns mainGlobals mg → FnOk l.prog w (K w.params) mg base CX0 k fa fd ["script"] (spLaw0 63 (K w.params))) :
    PySem.W.WalkO q loose XP YP l.row.toRowW d [] (fun f vs => PySem.call f vs) :=
  L2.walk_of (n := 63) (k := k) (x := "script") (CX := fun _ => CX0) (sp := fun w => spLaw0 63 (K w.params)) hn (by decide) hdf hr hY F (fun w H a ns hl hO hS => ⟨a, ns, rfl, hO, hS, hl, fun _ => rfl⟩) fun _ _ _ _ _ z => z
/-- from the law's def to its head -/
theorem law_end {P : Program} {w : World} {mg : Str → Option Value} {W : Wd} {k : Nat} {fa : Addr} {st : Stmt} {h : Heap} {oc : Value} {od an : Option Addr} {osl : Array (Option Value)} {kV doc pm cdv ct : Value} {f : Addr} (X : W.K.In h) (G : h.Ns mainGlobals mg) (hfa : mg "law" = some (.ref fa))
    (a : PySem.W.nsIn W.K mainGlobals "law" = some (some (.ref f))) (l : W.K.lookup f = some ⟨oc, od, .func (PySem.W.fnOf "law" "law" (defArgs st) (defBody st) (defScope st) .none kV doc pm an cdv ct), osl⟩)
    (hb : ∀ (kV doc pm : Value) (an : Option Addr) (cdv ct : Value) (us : List Value), us.length = 1 → bindArgs (PySem.W.fnOf "law" "law" (defArgs st) (defBody st) (defScope st) .none kV doc pm an cdv ct) ⟨us, []⟩ = pure ((["script"] : List Str).zip us))
    (c : PySem.W.codeIn W.K cdv "law" = true) (kp : PySem.W.keepIn W.K (.ref f) = true)
    (F : ∀ (base : Heap) (a : Addr) (fd : FuncData), W.K.In base → base.Ns mainGlobals mg → Fun W.K "law" "law" st a fd → FnOk P w W.K mg base CX0 k a fd ["script"] (LSp W 1 (spLawD 63))) :
    ∃ fd : FuncData, (∀ (s : Shared) (u : Value), BindsTo s fd ⟨[u], []⟩ [("script", u)]) ∧ ∀ base : Heap, W.K.In base → base.Ns mainGlobals mg → FnOk P w W.K mg base CX0 k fa fd ["script"] (spLaw0 63 W.K) := by
  have e := hfa.symm.trans (PySem.W.mg_of X G a)
  cases e
  exact ⟨_, fun s v => .of_eq (hb kV doc pm an cdv ct [v] rfl), fun base h1 h2 => law_fn (st := st) (x := "law") (F base _ _ h1 h2 (fun_mk (st := st) l c kp)) rfl⟩
end DL
set_option Elab.async false
set_option linter.all false
set_option maxRecDepth 100000
set_option maxHeartbeats 1000000
/-! DL21: the law's own def, run from where a claim is asked (no guard stands there): it may ask repr. -/
namespace DL
open PySem PySem.Spec PyProof.Rows L2
def mkTG (xs : List Fe) (g : List D) : Tb := { mkT xs g with gd := true }
section
variable {P : Program} {w : World} {K : PySem.W.Frag} {mg : Str → Option Value} {base : Heap}
abbrev EF : XK := fun _ _ _ => False
/-- one call from the asker's own place, by the body's reading -/
theorem run_top {k : Nat} {f : Addr} {x qual : Str} {st : Stmt} {fd : FuncData} {N ps : List Str} {s : Shared} {H : Hp} {us : List Value} {vs : List V} {Q : VK} (Fn : Fun K x qual st f fd) (S : FnScope N ps (defScope st)) (hr : Room (k + 1) callerA)
    (e0 : Env0 P w K mg base callerA [] s H) (hb : BindsTo s fd ⟨us, []⟩ (ps.zip us)) (r : Vals vs us) (hl : vs.length = ps.length)
    (hbody : ∀ cdv : Value, ∃ t, PSs (cxOf CX0 P w K mg base N qual (defScope st) f cdv callerA [] s H EF).nox (defBody st) t ∧ t { nx := fun _ H' => Q .non H', rt := Q } (L2.start N vs) H) :
    codeAny (model P w) callerA (.call (.ref f) ⟨us, []⟩) (CR CX0 [] P w H s Q EF) s := by
  obtain ⟨oc, od, kV, doc, pm, an, cdv, ct, osl, hfd, lk, hcd⟩ := Fn.ex
  subst hfd
  have inK : K.In s.heap := e0.mod.kin.keeps fun b o z => (e0.bs b o z).1
  refine codeAny_call_function hr.depth (inK _ _ lk) rfl S.co S.gen rfl (PySem.W.codeRec_of inK hcd) (hb _ _ _ _ ?_)
  refine wpAny_newFunctionEnv_cells S.kind (fun y hy => ?_) fun env he s1 fr => ?_
  · obtain ⟨n, v⟩ := y
    exact (S.par n (List.of_mem_zip hy).1).elim .inl fun q => .inr ⟨q, PySem.W.cellsFrom_some _ _ _ (.inl q)⟩
  · subst he
    obtain ⟨t, ht, hq⟩ := hbody cdv
    have J : Inv (cxOf CX0 P w K mg base N qual (defScope st) f cdv callerA [] s H EF) [] (L2.start N vs) H s1 := inv_start S hr.hd e0 hl r fr
    have lim : s.heap.NoLimit := e0.mod.nolimit.keeps fun b o z => (e0.bs b o z).1
    refine ⟨lim.keeps fr.toInCall.keep, codeAny_func (wpAny_mono (ht.nox.run [] s1 (L2.start N vs) H _ J hq) (fun fl s' z => ?_) fun e s' z => z)⟩
    cases fl with
    | next =>
      obtain ⟨σ', H', I, q⟩ := z
      exact ⟨.non, H', I.os, I.bare, I.base, I.hok, rfl, q⟩
    | ret u =>
      obtain ⟨v, σ', H', I, rv, q⟩ := z
      exact ⟨v, H', I.os, I.bare, I.base, I.hok, rv, q⟩
    | brk => exact z.choose_spec.choose_spec.2.elim
    | cont => exact z.choose_spec.choose_spec.2.elim
/-- the place from which the law is asked: nothing but its script may be tracked -/
theorem top_env {mb : Str → Option Value} {s : Shared} {H : Hp} {a : Addr} {ob : Obj} {its : Array Value} {n : Nat} (inK : K.In s.heap) (gn : s.heap.Ns mainGlobals mg) (bn : s.heap.Ns builtinsNs mb) (boot : ∀ x : Str, x ≠ "__name__" → mb x = bootBuiltins x)
    (nol : s.heap.NoLimit) (ng : s.gens = #[]) (ha : s.heap.get? a = some ob) (hd : ob.data = .seq its n) (one : ∀ b, H b ≠ none → b = a ∧ K.lookup a = none) (hk : HOk P w H s.heap) :
    K.In (hidT s.heap H) ∧ (hidT s.heap H).Ns mainGlobals mg ∧ Env0 P w K mg (hidT s.heap H) callerA [] s H := by
  have old : ∀ {b o}, s.heap.get? b = some o → b ≠ a → (hidT s.heap H).get? b = some o := fun {b o} z nb => hidT_get z (by
    cases q : H b with
    | none => rfl
    | some u => exact absurd (one b (by rw [q]; exact nofun)).1 nb)
  have ns' : ∀ {b : Addr} {m : Str → Option Value}, s.heap.Ns b m → (hidT s.heap H).Ns b m := by
    rintro b m ⟨o, es, ep, z, dz, rest⟩
    refine ⟨o, es, ep, old z ?_, dz, rest⟩
    rintro rfl
    cases ha.symm.trans z
    cases hd.symm.trans dz
  have k' : K.In (hidT s.heap H) := fun b o z => by
    by_cases q : H b = none
    · exact hidT_get (inK b o z) q
    · obtain ⟨rfl, none'⟩ := one b q
      cases none'.symm.trans z
  obtain ⟨mc, c1, c2⟩ := nol
  exact ⟨k', ns' gn, rfl, ⟨k', ns' gn, ⟨mb, ns' bn, boot⟩, ⟨mc, ns' c1, c2⟩⟩, fun b o z => of_hidT z, Nat.le_of_eq (hidT_size _ _), trivial, fun b hb => (by cases hb), hk, .of_eq ng⟩
/-- what is left behind when it told True -/
theorem top_out {s : Shared} {H : Hp} (hO : Only H) (hk : HOk P w H s.heap) {r : Except Value Flow} {s' : Shared} (h : CR CX0 [] P w H s (fun v _ => v = .bl true) EF r s') :
    r = .ok (.ret (.bool true)) ∧ OldK s.heap s'.heap ∧ s'.os = s.os ∧ AllBare s'.gens := by
  cases r with
  | error e => exact False.elim h
  | ok fl =>
    cases fl <;> first | exact False.elim h | skip
    obtain ⟨v, H2, h1, h2, un, hk2, rv, rfl⟩ := h
    cases (show _ = Value.bool true from rv)
    refine ⟨rfl, OldK.of_keep fun b o z => ?_, h1, h2⟩
    cases q : H b with
    | none => exact un.keep b o z q (fun m => by cases m) (fun m => by cases m)
    | some u =>
      obtain y | ⟨o2, xs, y⟩ := hO b
      · cases q.symm.trans y
      · cases z.symm.trans (hk b _ y).1
        exact (hk2 b _ (un.frzs b _ _ y)).1
theorem lsp_start {W : Wd} {N ps : List Str} {sp : DSp} {b : DSt} {vs : List V} {H : Hp} {Q : VK} {E : XK} (hsp : ∀ ds S Q, sp ds S Q → ds.length = ps.length → b { nx := fun _ S' => rtQ Q .non S', rt := rtQ Q } (start0 N.length ds) S) (h : LSp W ps.length sp vs H Q E) :
    LS W b { nx := fun _ H' => Q .non H', rt := Q } (L2.start N vs) H := by
  obtain ⟨F, P', ds, S, Qd, rs, rr, hl, h, kk⟩ := h
  refine ⟨F, P', _, S, _, rs, start_ok rr, hsp ds S Qd h hl, ⟨fun F' sd S' σ H' l rs' rl' q => ?_, fun F' S' H' d v l rs' r q => ?_, fun _ _ _ _ _ _ _ _ q => q.elim, fun _ _ _ _ _ _ _ _ q => q.elim⟩⟩
  all_goals obtain ⟨d', S2, g, q⟩ := q
  · obtain ⟨F2, l2, rs2, r2⟩ := g.ok rs' (.non : Rp W F' .non .non)
    exact kk F2 S2 H' d' _ (l.trans l2) rs2 r2 q
  · obtain ⟨F2, l2, rs2, r2⟩ := g.ok rs' r
    exact kk F2 S2 H' d' _ (l.trans l2) rs2 r2 q
/-- the script alone, as data -/
theorem lsp_script {W : Wd} {H : Hp} {a : Addr} {ns : List Int} {n : Nat} {P : Program} {w : World} {h : Heap} (hO : Only H) (hS : SqL W.K H a (ns.map V.int)) (hl : ns.length ≤ n) (hk : HOk P w H h) : LSp W 1 (spLawD n) [.ref a] H (fun v _ => v = .bl true) EF := by
  refine ⟨H, fun _ => none, [.scr ns], fun _ => none, fun d _ => d = .bl true, ?_, .cons (.scr hS) .nil, rfl, ⟨ns, rfl, hl, fun _ => rfl, fun _ => rfl⟩, fun F' S' H' d v l rs' rv q => ?_⟩
  · refine ⟨fun b o e => ?_, fun b o e => .inl e, fun b o e => (by cases e), fun b o e => (by cases e), fun b o e => (by cases e)⟩
    rcases hO b with z | ⟨ob, xs, z⟩ <;> cases z.symm.trans e
    exact (hk b _ z).2.1
  · subst q
    cases rv
    rfl
theorem body_topG {W : Wd} {k : Nat} {x : Str} {st : Stmt} {N ps : List Str} {core : CSs} {xs : List Fe} {g : List D} {gls bl : List Str} {a : Addr} (hr : Room (k + 1) callerA) (Sc : FnScope N ps (defScope st)) (L : Fks P w mg base W k xs) (G : Gs mg W gls g bl)
    (hchk : chkSs core (ccOf st N bl xs gls) (defBody st) = true) (s : Shared) (H : Hp) (cdv : Value) : PSs (cxOf CX0 P w W.K mg base N x (defScope st) a cdv callerA [] s H EF).nox (defBody st) (LS W (denSs (mkTG xs g) core)) := by
  have hr' : Room k (callerA.deeper (envOfC x (defScope st) s.heap.objs.size a cdv)) := hr.deeper _
  refine sss_all W (mkTG xs g) core _ _ _ ?_ hchk
  refine ⟨rfl, rfl, rfl, Sc.nd, rfl, hr'.units, fun x z => rfl, rfl, fun j f n sp h1 h2 => ?_, fun j x d h1 h2 => G.glb j x d h1 h2, G.blt, fun _ => rfl, fun _ _ z => (by cases z), fun _ _ _ _ _ _ _ z => (by cases z), fun _ _ _ _ _ _ z => (by cases z), fun z => (by cases z)⟩
  have h1 : (xs[j]?).map (fun e => (e.n, e.sp)) = some (n, sp) := h1
  have h2 : (xs.map (·.x))[j]? = some f := h2
  rw [List.getElem?_map] at h2
  cases e : xs[j]? with
  | none => rw [e] at h1; cases h1
  | some u =>
    rw [e] at h1 h2
    cases h1
    cases h2
    obtain ⟨b, fd, qs, Fo, hm, hk, hb, hkb⟩ := (L j u e).ex
    refine ⟨k, b, fd, qs, Fo, hr', hm, hk, hb, fun kp hkp => hkb kp ?_⟩
    have hkp : kp ∈ ((xs[j]?).map (·.kws)).getD [] := hkp
    rw [e] at hkp
    exact hkp
end
/-- the head's last goal, from a run of the law's def at the asker's place -/
theorem law_walkG {l : PySem.W.OpenLaw} {q : Program} {loose : List Str} {XP : (Str → Option Value) → Heap → Prop} {YP : World → Heap → Prop} {d : DefRec} {K : Params → PySem.W.Frag} (hn : l.most = some 63) (hdf : d.params.defaults = [])
    (hY : ∀ (w : World) (h : Heap), YP w h → (K w.params).In h)
    (F : ∀ (w : World) (mg : Str → Option Value) (fa : Addr) (base : Heap), (K w.params).In base → base.Ns mainGlobals mg → mg d.name = some (.ref fa) → ∀ (s : Shared) (H : Hp) (a : Addr) (ns : List Int), Env0 l.prog w (K w.params) mg base callerA [] s H → Only H → SqL (K w.params) H a (ns.map V.int) → ns.length ≤ 63 →
      codeAny (model l.prog w) callerA (.call (.ref fa) ⟨[.ref a], []⟩) (CR CX0 [] l.prog w H s (fun v _ => v = .bl true) EF) s) :
    PySem.W.WalkO q loose XP YP l.row.toRowW d [] (fun f vs => PySem.call f vs) := by
  refine Att.attach_call hn hdf fun w s₀ s mg mb fa o pm cd doc a vs ns Gr Y ho hd hcd hmg hobj hints hlen hg => ?_
  have inK := hY w _ Y
  have rv := vals_ints hints
  have go : ∀ H : Hp, Only H → SqL (K w.params) H a (ns.map V.int) → (∀ b, H b ≠ none → b = a ∧ (K w.params).lookup a = none) → HOk l.prog w H s.heap →
      codeAny (model l.prog w) callerA (.call (.ref fa) ⟨[.ref a], []⟩) (fun r s' => r = .ok (.ret (.bool true)) ∧ OldK s.heap s'.heap ∧ s'.os = s.os ∧ AllBare s'.gens) s := fun H hO hS one hk => by
    obtain ⟨k1, k2, e0⟩ := top_env inK Gr.T.g Gr.T.b Gr.T.builtins Gr.T.nolimit hg hobj rfl one hk
    exact codeAny_mono (F w mg fa _ k1 k2 hmg s H a ns e0 hO hS hlen) fun r s' z => top_out hO hk z
  cases hk : (K w.params).lookup a with
  | none =>
    refine go (fun b => if b = a then some (.frz { cls := .type "list", data := .seq vs.toArray } (.lst (ns.map V.int))) else none) (fun b => ?_) (.inl (.inr ⟨_, if_pos rfl⟩)) (fun b z => ⟨Classical.byContradiction fun nb => z (if_neg nb), hk⟩) fun b u z => ?_
    · rcases Classical.em (b = a) with e | e
      · exact .inr ⟨_, _, if_pos e⟩
      · exact .inl (if_neg e)
    · rcases Classical.em (b = a) with e | e
      · subst e
        cases (if_pos rfl).symm.trans z
        exact ⟨hobj, Nat.le_trans (by rw [List.length_map]; exact hlen) (by decide), vs, _, rv, hobj⟩
      · cases (if_neg e).symm.trans z
  | some o2 =>
    cases hobj.symm.trans (inK a o2 hk)
    exact go (fun _ => none) (fun _ => .inl rfl) (.inr ⟨_, vs.toArray, _, hk, rfl, rfl, rfl, by rw [List.size_toArray, hints.length]; exact Nat.le_trans hlen (by decide), by simpa using rv⟩) (fun b z => absurd rfl z) fun b u z => nomatch z
end DL
set_option Elab.async false
set_option linter.all false
set_option maxRecDepth 100000
set_option maxHeartbeats 1000000
/-! DL26: defs and methods of a program with classes. -/
namespace DL
open PySem PySem.Spec PyProof.Rows L2
structure Me where
  c : Str
  m : Str
  n : Nat
  sp : DSp
structure Ma where
  x : Str
  c : Str
  n : Nat
  sp : DSp
structure Clt where
  fld : Str → List Str
  ms : List Me
  mks : List Ma
  gcd : Bool
def mkTC (xs : List Fe) (g : List D) (K : Clt) : Tb := { mkT xs g with fld := K.fld, mt := fun j => (K.ms[j]?).map fun q => (q.c, q.m, q.n, q.sp), mks := fun j => (K.mks[j]?).map fun q => (q.c, q.n, q.sp), gcd := K.gcd }
def mkTCG (xs : List Fe) (g : List D) (K : Clt) : Tb := { mkTC xs g K with gd := true }
def ccOfC (st : Stmt) (N : List Str) (bl : List Str) (xs : List Fe) (gls : List Str) (K : Clt) : Cc := { sc := defScope st, N := N, fn := fun _ => true, bl := bl, fns := xs.map (·.x), gls := gls, mts := K.ms.map (·.m), mks := K.mks.map (·.x), gcd := K.gcd }
structure ClOk (P : Program) (w : World) (mg : Str → Option Value) (base : Heap) (W : Wd) (k : Nat) (K : Clt) : Prop where
  fld : ∀ cl f, (K.fld cl).contains f = true → ∃ C, W.cm cl = some C ∧ Cls W.K C ∧ NoAttr W.K C f
  ms : ∀ (j : Nat) (q : Me), K.ms[j]? = some q → ∃ C a fd ps, W.cm q.c = some C ∧ Cls W.K C ∧ Meth W.K C q.m a ∧ FnOk P w W.K mg base CX0 k a fd ps (LSp W q.n q.sp) ∧ Binds W.K fd ps []
  mks : ∀ (j : Nat) (q : Ma), K.mks[j]? = some q → ∃ k' C a fd ps, k' < k ∧ W.cm q.c = some C ∧ Mk W.K C a ∧ FnOk P w W.K mg base CX0 k' a fd ps (LSp W q.n q.sp) ∧ mg q.x = some (.ref C) ∧ Binds W.K fd ps []
  gcd : K.gcd = true → mg "gcd" = some (.builtin "math.gcd")
section
variable {P : Program} {w : World} {mg : Str → Option Value} {base : Heap} {W : Wd} {k : Nat} {K : Clt}
theorem ClOk.mono {j : Nat} (h : ClOk P w mg base W j K) (l : j ≤ k) : ClOk P w mg base W k K := by
  refine ⟨h.fld, fun i q e => ?_, fun i q e => ?_, h.gcd⟩
  · obtain ⟨C, a, fd, ps, h1, h2, h3, h4, h5⟩ := h.ms i q e
    exact ⟨C, a, fd, ps, h1, h2, h3, h4.mono l, h5⟩
  · obtain ⟨k', C, a, fd, ps, h0, h1⟩ := h.mks i q e
    exact ⟨k', C, a, fd, ps, by omega, h1⟩
theorem snoc_get {α : Type} {xs : List α} {x y : α} {j : Nat} (h : (xs ++ [x])[j]? = some y) : xs[j]? = some y ∨ y = x := by
  rcases Nat.lt_trichotomy j xs.length with q | q | q
  · rw [List.getElem?_append_left q] at h; exact .inl h
  · subst q
    rw [List.getElem?_append_right (Nat.le_refl _), Nat.sub_self] at h
    cases h; exact .inr rfl
  · rw [List.getElem?_append_right (Nat.le_of_lt q)] at h
    cases e2 : j - xs.length with
    | zero => omega
    | succ m => rw [e2] at h; cases h
theorem ClOk.addM (h : ClOk P w mg base W k K) {q : Me} {C a : Addr} {fd : FuncData} {ps : List Str} (h1 : W.cm q.c = some C) (h2 : Cls W.K C) (h3 : Meth W.K C q.m a) (h4 : FnOk P w W.K mg base CX0 k a fd ps (LSp W q.n q.sp)) (h5 : Binds W.K fd ps []) : ClOk P w mg base W k { K with ms := K.ms ++ [q] } :=
  ⟨h.fld, fun j q' e => (snoc_get e).elim (h.ms j q') fun z => by subst z; exact ⟨C, a, fd, ps, h1, h2, h3, h4, h5⟩, h.mks, h.gcd⟩
theorem ClOk.addC (h : ClOk P w mg base W (k + 1) K) {q : Ma} {C a : Addr} {fd : FuncData} {ps : List Str} (h1 : W.cm q.c = some C) (h3 : Mk W.K C a) (h4 : FnOk P w W.K mg base CX0 k a fd ps (LSp W q.n q.sp)) (h2 : mg q.x = some (.ref C)) (h5 : Binds W.K fd ps []) : ClOk P w mg base W (k + 1) { K with mks := K.mks ++ [q] } :=
  ⟨h.fld, h.ms, fun j q' e => (snoc_get e).elim (h.mks j q') fun z => by subst z; exact ⟨k, C, a, fd, ps, Nat.lt_succ_self k, h1, h3, h4, h2, h5⟩, h.gcd⟩
/-- the checks' ground -/
theorem okC {T : Tb} {X : Cx} {N : List Str} {st : Stmt} {gls bl : List Str} {xs : List Fe} {g : List D} (hT : T = mkTC xs g K ∨ (T = mkTCG xs g K ∧ X.A.guards = some [])) (hK : X.K = W.K) (hsc : X.env.scope = defScope st) (hN : X.N = N) (nd : N.Nodup) (calm : X.calm = true) (hr : Room k X.A) (hfn : ∀ x, X.fn x = true) (hxe : X.xe = fun _ _ => False)
    (hp : X.prog = P) (hw : X.w = w) (hm : X.mg = mg) (hb : X.base = base) (L : Fks P w mg base W k xs) (G : Gs mg W gls g bl) (C : ClOk P w mg base W k K) : Ok W T X (ccOfC st N bl xs gls K) := by
  subst hp; subst hw; subst hm; subst hb
  have eT : T.fn = (mkT xs g).fn ∧ T.kw = (mkT xs g).kw ∧ T.glb = (mkT xs g).glb ∧ T.fld = K.fld ∧ T.mt = (mkTC xs g K).mt ∧ T.mks = (mkTC xs g K).mks := by
    rcases hT with rfl | ⟨rfl, _⟩ <;> exact ⟨rfl, rfl, rfl, rfl, rfl, rfl⟩
  obtain ⟨t1, t2, t3, t4, t5, t6⟩ := eT
  refine ⟨hK, hsc, hN, nd, calm, hr.units, fun x _ => hfn x, hxe, fun j f n sp h1 h2 => ?_, fun j x d h1 h2 => ?_, G.blt, fun z => ?_, fun cl f z => ?_, fun j m cl m' n sp h1 h2 => ?_, fun j x cl n sp h1 h2 => ?_, fun z => C.gcd z⟩
  · rw [t1] at h1
    have h1 : (xs[j]?).map (fun e => (e.n, e.sp)) = some (n, sp) := h1
    have h2 : (xs.map (·.x))[j]? = some f := h2
    rw [List.getElem?_map] at h2
    cases e : xs[j]? with
    | none => rw [e] at h1; cases h1
    | some u =>
      rw [e] at h1 h2
      cases h1
      cases h2
      obtain ⟨a, fd, ps, G, hm, hk, hb, hkb⟩ := (L j u e).ex
      refine ⟨k, a, fd, ps, by rw [hK]; exact G, hr, hm, by rw [hK]; exact hk, by rw [hK]; exact hb, fun kp hkp => ?_⟩
      rw [hK]
      refine hkb kp ?_
      rw [t2] at hkp
      have hkp : kp ∈ ((xs[j]?).map (·.kws)).getD [] := hkp
      rw [e] at hkp
      exact hkp
  · rw [t3] at h1
    exact G.glb j x d h1 h2
  · rcases hT with rfl | ⟨rfl, hg⟩
    · cases z
    · exact hg
  · rw [t4] at z
    rw [hK]; exact C.fld cl f z
  · rw [t5] at h2
    have h1 : (K.ms.map (·.m))[j]? = some m := h1
    have h2 : (K.ms[j]?).map (fun q => (q.c, q.m, q.n, q.sp)) = some (cl, m', n, sp) := h2
    rw [List.getElem?_map] at h1
    cases e : K.ms[j]? with
    | none => rw [e] at h1; cases h1
    | some q =>
      rw [e] at h1 h2
      cases h1
      cases h2
      obtain ⟨C', a, fd, ps, z1, z2, z3, z4, z5⟩ := C.ms j q e
      rw [hK]
      exact ⟨rfl, k, C', a, fd, ps, z1, z2, z3, z4, hr, z5⟩
  · rw [t6] at h2
    have h1 : (K.mks.map (·.x))[j]? = some x := h1
    have h2 : (K.mks[j]?).map (fun q => (q.c, q.n, q.sp)) = some (cl, n, sp) := h2
    rw [List.getElem?_map] at h1
    cases e : K.mks[j]? with
    | none => rw [e] at h1; cases h1
    | some q =>
      rw [e] at h1 h2
      cases h1
      cases h2
      obtain ⟨k', C', a, fd, ps, z0, z1, z2, z3, z4, z5⟩ := C.mks j q e
      rw [hK]
      exact ⟨k', C', a, fd, ps, z1, z2, z3, hr.mono (by omega), z4, z5⟩
theorem def_fnC {x qual : Str} {st : Stmt} {N ps : List Str} {sp : DSp} {core : CSs} {xs : List Fe} {g : List D} {gls bl : List Str} {a : Addr} {fd : FuncData} (Fn : Fun W.K x qual st a fd) (Sc : FnScope N ps (defScope st)) (L : Fks P w mg base W k xs) (G : Gs mg W gls g bl) (C : ClOk P w mg base W k K)
    (hchk : chkSs core (ccOfC st N bl xs gls K) (defBody st) = true)
    (hsp : ∀ ds S Q, sp ds S Q → ds.length = ps.length → denSs (mkTC xs g K) core { nx := fun _ S' => rtQ Q .non S', rt := rtQ Q } (start0 N.length ds) S) : FnOk P w W.K mg base CX0 (k + 1) a fd ps (LSp W ps.length sp) := by
  refine fn_rule Fn Sc (fun cdv A outer s H E hr => ?_) hsp
  exact sss_all W (mkTC xs g K) core _ _ _ (okC (.inl rfl) rfl rfl rfl Sc.nd rfl hr (fun _ => rfl) rfl rfl rfl rfl rfl L G C) hchk
theorem def_ruleC {x : Str} {st : Stmt} {N ps : List Str} {kws : List (List Str × List Nat)} {sp : DSp} {core : CSs} {xs : List Fe} {g : List D} {gls bl : List Str} (dd : Dd W.K mg x st ps kws) (Sc : FnScope N ps (defScope st)) (L : Fks P w mg base W k xs) (G : Gs mg W gls g bl) (C : ClOk P w mg base W k K)
    (hchk : chkSs core (ccOfC st N bl xs gls K) (defBody st) = true)
    (hsp : ∀ ds S Q, sp ds S Q → ds.length = ps.length → denSs (mkTC xs g K) core { nx := fun _ S' => rtQ Q .non S', rt := rtQ Q } (start0 N.length ds) S) : Fk P w mg base W (k + 1) x ps.length kws sp := by
  obtain ⟨a, fd, Fn, hm, hb, hk⟩ := dd.ex
  exact ⟨a, fd, ps, def_fnC Fn Sc L G C hchk hsp, hm, Fn.kp, hb, hk⟩
theorem body_topC {x : Str} {st : Stmt} {N ps : List Str} {core : CSs} {xs : List Fe} {g : List D} {gls bl : List Str} {a : Addr} (hr : Room (k + 1) callerA) (Sc : FnScope N ps (defScope st)) (L : Fks P w mg base W k xs) (G : Gs mg W gls g bl) (C : ClOk P w mg base W k K)
    (hchk : chkSs core (ccOfC st N bl xs gls K) (defBody st) = true) (s : Shared) (H : Hp) (cdv : Value) : PSs (cxOf CX0 P w W.K mg base N x (defScope st) a cdv callerA [] s H EF).nox (defBody st) (LS W (denSs (mkTCG xs g K) core)) := by
  have hr' : Room k (callerA.deeper (envOfC x (defScope st) s.heap.objs.size a cdv)) := hr.deeper _
  exact sss_all W (mkTCG xs g K) core _ _ _ (okC (.inr ⟨rfl, rfl⟩) rfl rfl rfl Sc.nd rfl hr' (fun _ => rfl) rfl rfl rfl rfl rfl L G C) hchk
/-- what is told of a method's place -/
structure Dm (K : PySem.W.Frag) (C : Addr) (x qual : Str) (st : Stmt) (ps : List Str) : Prop where
  ex : ∃ a fd, Fun K x qual st a fd ∧ Meth K C x a ∧ Binds K fd ps []
end
section
variable {K : PySem.W.Frag}
theorem dm_mk {x qual : Str} {st : Stmt} {C f : Addr} {oc : Value} {od an : Option Addr} {osl : Array (Option Value)} {kV doc pm cdv ct : Value} {ps : List Str}
    (a : PySem.W.findIn K (.ref C) x = some (some (.ref f))) (i : PySem.W.isFn K (.ref f) = true) (l : K.lookup f = some ⟨oc, od, .func (PySem.W.fnOf x qual (defArgs st) (defBody st) (defScope st) .none kV doc pm an cdv ct), osl⟩) (c : PySem.W.codeIn K cdv qual = true) (k : PySem.W.keepIn K (.ref f) = true)
    (hb : ∀ (kV doc pm : Value) (an : Option Addr) (cdv ct : Value) (us : List Value), us.length = ps.length → bindArgs (PySem.W.fnOf x qual (defArgs st) (defBody st) (defScope st) .none kV doc pm an cdv ct) ⟨us, []⟩ = pure (ps.zip us)) : Dm K C x qual st ps :=
  ⟨f, _, fun_mk (st := st) l c k, ⟨a, i, k⟩, (fun_mk (st := st) l c k).binds hb⟩
end
section
variable {P : Program} {w : World} {mg : Str → Option Value} {base : Heap} {W : Wd} {k : Nat} {K : Clt}
/-- a method more -/
theorem addMeth {q : Me} {qual : Str} {st : Stmt} {N ps : List Str} {core : CSs} {xs : List Fe} {g : List D} {gls bl : List Str} {C : Addr} (dd : Dm W.K C q.m qual st ps) (hc : W.cm q.c = some C) (hC : Cls W.K C) (hn : ps.length = q.n) (Sc : FnScope N ps (defScope st)) (L : Fks P w mg base W k xs) (G : Gs mg W gls g bl) (O : ClOk P w mg base W k K)
    (hchk : chkSs core (ccOfC st N bl xs gls K) (defBody st) = true)
    (hsp : ∀ ds S Q, q.sp ds S Q → ds.length = ps.length → denSs (mkTC xs g K) core { nx := fun _ S' => rtQ Q .non S', rt := rtQ Q } (start0 N.length ds) S) : ClOk P w mg base W (k + 1) { K with ms := K.ms ++ [q] } := by
  obtain ⟨a, fd, Fn, hm, hb⟩ := dd.ex
  have f := def_fnC Fn Sc L G O hchk hsp
  rw [hn] at f
  exact (O.mono (Nat.le_succ k)).addM hc hC hm f hb
/-- a class's __init__ -/
theorem addInit {q : Ma} {qual : Str} {st : Stmt} {N ps : List Str} {core : CSs} {xs : List Fe} {g : List D} {gls bl : List Str} {C : Addr} (dd : Dm W.K C "__init__" qual st ps) (hc : W.cm q.c = some C) (hmk : PySem.W.makesIn W.K C = true) (hkp : PySem.W.keepIn W.K (.ref C) = true) (hmg : mg q.x = some (.ref C)) (hn : ps.length = q.n) (Sc : FnScope N ps (defScope st)) (L : Fks P w mg base W k xs) (G : Gs mg W gls g bl) (O : ClOk P w mg base W k K)
    (hchk : chkSs core (ccOfC st N bl xs gls K) (defBody st) = true)
    (hsp : ∀ ds S Q, q.sp ds S Q → ds.length = ps.length → denSs (mkTC xs g K) core { nx := fun _ S' => rtQ Q .non S', rt := rtQ Q } (start0 N.length ds) S) : ClOk P w mg base W (k + 2) { K with mks := K.mks ++ [q] } := by
  obtain ⟨a, fd, Fn, hm, hb⟩ := dd.ex
  have f := def_fnC Fn Sc L G O hchk hsp
  rw [hn] at f
  exact (O.mono (Nat.le_add_right k 2)).addC (k := k + 1) hc ⟨hmk, hm.at_, hm.fn, hkp⟩ f hmg hb
end
end DL
set_option Elab.async false
set_option linter.all false
set_option maxRecDepth 100000
set_option maxHeartbeats 1000000
/-! DL15: small equations by which readings are worked out. -/
namespace DL
open PySem L2
variable {S : Store}
theorem tyD_non  : tyD S .non = some "NoneType" := rfl
theorem tyD_bl {b : Bool} : tyD S (.bl b) = some "bool" := rfl
theorem tyD_int {i : Int} : tyD S (.int i) = some "int" := rfl
theorem tyD_str {s : Str} : tyD S (.str s) = some "str" := rfl
theorem tyD_tup {xs : List D} : tyD S (.tup xs) = some "tuple" := rfl
theorem tyD_lst {xs : List D} : tyD S (.lst xs) = some "list" := rfl
theorem tyD_dct {xs : List (Key × D)} : tyD S (.dct xs) = some "dict" := rfl
theorem truD_non  : truD S .non = some false := rfl
theorem truD_bl {b : Bool} : truD S (.bl b) = some b := rfl
theorem truD_int {i : Int} : truD S (.int i) = some (i != 0) := rfl
theorem truD_tup {xs : List D} : truD S (.tup xs) = some (!xs.isEmpty) := rfl
theorem truD_lst {xs : List D} : truD S (.lst xs) = some (!xs.isEmpty) := rfl
theorem truD_dct {xs : List (Key × D)} : truD S (.dct xs) = some (!xs.isEmpty) := rfl
theorem asL_non  : asL S .non = none := rfl
theorem asD_non  : asD S .non = none := rfl
theorem keyD_non  : keyD .non = none := rfl
theorem asL_bl {b : Bool} : asL S (.bl b) = none := rfl
theorem asD_bl {b : Bool} : asD S (.bl b) = none := rfl
theorem keyD_bl {b : Bool} : keyD (.bl b) = none := rfl
theorem asL_int {i : Int} : asL S (.int i) = none := rfl
theorem asD_int {i : Int} : asD S (.int i) = none := rfl
theorem keyD_int {i : Int} : keyD (.int i) = some (.inl i) := rfl
theorem asL_str {s : Str} : asL S (.str s) = none := rfl
theorem asD_str {s : Str} : asD S (.str s) = none := rfl
theorem keyD_str {s : Str} : keyD (.str s) = some (.inr s) := rfl
theorem asL_tup {xs : List D} : asL S (.tup xs) = none := rfl
theorem asD_tup {xs : List D} : asD S (.tup xs) = none := rfl
theorem keyD_tup {xs : List D} : keyD (.tup xs) = none := rfl
theorem asL_lst {xs : List D} : asL S (.lst xs) = some xs := rfl
theorem asD_lst {xs : List D} : asD S (.lst xs) = none := rfl
theorem keyD_lst {xs : List D} : keyD (.lst xs) = none := rfl
theorem asL_dct {xs : List (Key × D)} : asL S (.dct xs) = none := rfl
theorem asD_dct {xs : List (Key × D)} : asD S (.dct xs) = some xs := rfl
theorem keyD_dct {xs : List (Key × D)} : keyD (.dct xs) = none := rfl
theorem asL_scr {xs : List Int} : asL S (.scr xs) = none := rfl
theorem asD_scr {xs : List Int} : asD S (.scr xs) = none := rfl
theorem keyD_scr {xs : List Int} : keyD (.scr xs) = none := rfl
theorem asL_ref {a : Addr} {xs : List D} (h : S a = some (.lst xs)) : asL S (.ref a) = some xs := by simp only [asL, h]
theorem asL_refD {a : Addr} {xs : List (Key × D)} (h : S a = some (.dct xs)) : asL S (.ref a) = none := by simp only [asL, h]
theorem asD_ref {a : Addr} {xs : List (Key × D)} (h : S a = some (.dct xs)) : asD S (.ref a) = some xs := by simp only [asD, h]
theorem isLs_ref {a : Addr} {xs : List D} (h : S a = some (.lst xs)) : isLs S (.ref a) = true := by simp only [isLs, h]
theorem tyD_refL {a : Addr} {xs : List D} (h : S a = some (.lst xs)) : tyD S (.ref a) = some "list" := by simp only [tyD, h]
theorem tyD_refD {a : Addr} {xs : List (Key × D)} (h : S a = some (.dct xs)) : tyD S (.ref a) = some "dict" := by simp only [tyD, h]
theorem asL_sup {a : Addr} {xs : List D} : asL (sup S a (.lst xs)) (.ref a) = some xs := asL_ref sup_same
theorem asD_sup {a : Addr} {xs : List (Key × D)} : asD (sup S a (.dct xs)) (.ref a) = some xs := asD_ref sup_same
theorem asL_supD {a : Addr} {xs : List (Key × D)} : asL (sup S a (.dct xs)) (.ref a) = none := asL_refD sup_same
theorem isLs_sup {a : Addr} {xs : List D} : isLs (sup S a (.lst xs)) (.ref a) = true := isLs_ref sup_same
theorem tyD_supL {a : Addr} {xs : List D} : tyD (sup S a (.lst xs)) (.ref a) = some "list" := tyD_refL sup_same
theorem tyD_supD {a : Addr} {xs : List (Key × D)} : tyD (sup S a (.dct xs)) (.ref a) = some "dict" := tyD_refD sup_same
theorem ixN_1_0 : ixN 1 0 = some 0 := rfl
theorem ixN_2_0 : ixN 2 0 = some 0 := rfl
theorem ixN_2_1 : ixN 2 1 = some 1 := rfl
theorem ixN_3_0 : ixN 3 0 = some 0 := rfl
theorem ixN_3_1 : ixN 3 1 = some 1 := rfl
theorem ixN_3_2 : ixN 3 2 = some 2 := rfl
theorem ixN_4_0 : ixN 4 0 = some 0 := rfl
theorem ixN_4_1 : ixN 4 1 = some 1 := rfl
theorem ixN_4_2 : ixN 4 2 = some 2 := rfl
theorem ixN_4_3 : ixN 4 3 = some 3 := rfl
theorem ixN_5_0 : ixN 5 0 = some 0 := rfl
theorem ixN_5_1 : ixN 5 1 = some 1 := rfl
theorem ixN_5_2 : ixN 5 2 = some 2 := rfl
theorem ixN_5_3 : ixN 5 3 = some 3 := rfl
theorem ixN_5_4 : ixN 5 4 = some 4 := rfl
theorem ixN_6_0 : ixN 6 0 = some 0 := rfl
theorem ixN_6_1 : ixN 6 1 = some 1 := rfl
theorem ixN_6_2 : ixN 6 2 = some 2 := rfl
theorem ixN_6_3 : ixN 6 3 = some 3 := rfl
theorem ixN_6_4 : ixN 6 4 = some 4 := rfl
theorem ixN_6_5 : ixN 6 5 = some 5 := rfl
theorem ixN_7_0 : ixN 7 0 = some 0 := rfl
theorem ixN_7_1 : ixN 7 1 = some 1 := rfl
theorem ixN_7_2 : ixN 7 2 = some 2 := rfl
theorem ixN_7_3 : ixN 7 3 = some 3 := rfl
theorem ixN_7_4 : ixN 7 4 = some 4 := rfl
theorem ixN_7_5 : ixN 7 5 = some 5 := rfl
theorem ixN_7_6 : ixN 7 6 = some 6 := rfl
theorem ixN_8_0 : ixN 8 0 = some 0 := rfl
theorem ixN_8_1 : ixN 8 1 = some 1 := rfl
theorem ixN_8_2 : ixN 8 2 = some 2 := rfl
theorem ixN_8_3 : ixN 8 3 = some 3 := rfl
theorem ixN_8_4 : ixN 8 4 = some 4 := rfl
theorem ixN_8_5 : ixN 8 5 = some 5 := rfl
theorem ixN_8_6 : ixN 8 6 = some 6 := rfl
theorem ixN_8_7 : ixN 8 7 = some 7 := rfl
theorem atI_0 {α : Type} {x0 : α} {r : List α} : atI (x0 :: r) 0 = some x0 := by
  unfold atI ixN
  rw [if_pos (by decide), if_pos (by simp only [List.length_cons]; omega)]; rfl
theorem atI_1 {α : Type} {x0 x1 : α} {r : List α} : atI (x0 :: x1 :: r) 1 = some x1 := by
  unfold atI ixN
  rw [if_pos (by decide), if_pos (by simp only [List.length_cons]; omega)]; rfl
theorem atI_2 {α : Type} {x0 x1 x2 : α} {r : List α} : atI (x0 :: x1 :: x2 :: r) 2 = some x2 := by
  unfold atI ixN
  rw [if_pos (by decide), if_pos (by simp only [List.length_cons]; omega)]; rfl
theorem atI_3 {α : Type} {x0 x1 x2 x3 : α} {r : List α} : atI (x0 :: x1 :: x2 :: x3 :: r) 3 = some x3 := by
  unfold atI ixN
  rw [if_pos (by decide), if_pos (by simp only [List.length_cons]; omega)]; rfl
theorem atI_4 {α : Type} {x0 x1 x2 x3 x4 : α} {r : List α} : atI (x0 :: x1 :: x2 :: x3 :: x4 :: r) 4 = some x4 := by
  unfold atI ixN
  rw [if_pos (by decide), if_pos (by simp only [List.length_cons]; omega)]; rfl
theorem atI_5 {α : Type} {x0 x1 x2 x3 x4 x5 : α} {r : List α} : atI (x0 :: x1 :: x2 :: x3 :: x4 :: x5 :: r) 5 = some x5 := by
  unfold atI ixN
  rw [if_pos (by decide), if_pos (by simp only [List.length_cons]; omega)]; rfl
theorem atI_6 {α : Type} {x0 x1 x2 x3 x4 x5 x6 : α} {r : List α} : atI (x0 :: x1 :: x2 :: x3 :: x4 :: x5 :: x6 :: r) 6 = some x6 := by
  unfold atI ixN
  rw [if_pos (by decide), if_pos (by simp only [List.length_cons]; omega)]; rfl
theorem atI_7 {α : Type} {x0 x1 x2 x3 x4 x5 x6 x7 : α} {r : List α} : atI (x0 :: x1 :: x2 :: x3 :: x4 :: x5 :: x6 :: x7 :: r) 7 = some x7 := by
  unfold atI ixN
  rw [if_pos (by decide), if_pos (by simp only [List.length_cons]; omega)]; rfl
theorem atI_8 {α : Type} {x0 x1 x2 x3 x4 x5 x6 x7 x8 : α} {r : List α} : atI (x0 :: x1 :: x2 :: x3 :: x4 :: x5 :: x6 :: x7 :: x8 :: r) 8 = some x8 := by
  unfold atI ixN
  rw [if_pos (by decide), if_pos (by simp only [List.length_cons]; omega)]; rfl
theorem isi_NoneType_bool : isiB "NoneType" "bool" = false := by decide
theorem isi_NoneType_int : isiB "NoneType" "int" = false := by decide
theorem isi_NoneType_str : isiB "NoneType" "str" = false := by decide
theorem isi_NoneType_tuple : isiB "NoneType" "tuple" = false := by decide
theorem isi_NoneType_list : isiB "NoneType" "list" = false := by decide
theorem isi_NoneType_dict : isiB "NoneType" "dict" = false := by decide
theorem isi_bool_bool : isiB "bool" "bool" = true := by decide
theorem isi_bool_int : isiB "bool" "int" = true := by decide
theorem isi_bool_str : isiB "bool" "str" = false := by decide
theorem isi_bool_tuple : isiB "bool" "tuple" = false := by decide
theorem isi_bool_list : isiB "bool" "list" = false := by decide
theorem isi_bool_dict : isiB "bool" "dict" = false := by decide
theorem isi_int_bool : isiB "int" "bool" = false := by decide
theorem isi_int_int : isiB "int" "int" = true := by decide
theorem isi_int_str : isiB "int" "str" = false := by decide
theorem isi_int_tuple : isiB "int" "tuple" = false := by decide
theorem isi_int_list : isiB "int" "list" = false := by decide
theorem isi_int_dict : isiB "int" "dict" = false := by decide
theorem isi_str_bool : isiB "str" "bool" = false := by decide
theorem isi_str_int : isiB "str" "int" = false := by decide
theorem isi_str_str : isiB "str" "str" = true := by decide
theorem isi_str_tuple : isiB "str" "tuple" = false := by decide
theorem isi_str_list : isiB "str" "list" = false := by decide
theorem isi_str_dict : isiB "str" "dict" = false := by decide
theorem isi_tuple_bool : isiB "tuple" "bool" = false := by decide
theorem isi_tuple_int : isiB "tuple" "int" = false := by decide
theorem isi_tuple_str : isiB "tuple" "str" = false := by decide
theorem isi_tuple_tuple : isiB "tuple" "tuple" = true := by decide
theorem isi_tuple_list : isiB "tuple" "list" = false := by decide
theorem isi_tuple_dict : isiB "tuple" "dict" = false := by decide
theorem isi_list_bool : isiB "list" "bool" = false := by decide
theorem isi_list_int : isiB "list" "int" = false := by decide
theorem isi_list_str : isiB "list" "str" = false := by decide
theorem isi_list_tuple : isiB "list" "tuple" = false := by decide
theorem isi_list_list : isiB "list" "list" = true := by decide
theorem isi_list_dict : isiB "list" "dict" = false := by decide
theorem isi_dict_bool : isiB "dict" "bool" = false := by decide
theorem isi_dict_int : isiB "dict" "int" = false := by decide
theorem isi_dict_str : isiB "dict" "str" = false := by decide
theorem isi_dict_tuple : isiB "dict" "tuple" = false := by decide
theorem isi_dict_list : isiB "dict" "list" = false := by decide
theorem isi_dict_dict : isiB "dict" "dict" = true := by decide
end DL
set_option Elab.async false
set_option linter.all false
set_option maxRecDepth 100000
set_option maxHeartbeats 1000000
/-! DL16: loops and comprehensions by invariants; sizes of numbers. -/
namespace DL
open PySem L2

/-- a for loop, by what is left -/
theorem forL_ind {chk : Store → Prop} {g : CG} {b : DSt} {E : DEnds} (I : List D → Slots → Store → Prop)
    (step : ∀ x xs sd S, I (x :: xs) sd S → chk S ∧ ∃ sd', gset g x sd = some sd' ∧ ∀ K : Slots → Store → Prop, (∀ sd2 S2, I xs sd2 S2 → K sd2 S2) → b { E with nx := K, ct := K, bk := E.nx } sd' S)
    (done : ∀ sd S, I [] sd S → chk S ∧ E.nx sd S) : ∀ xs sd S, I xs sd S → forL chk g b E xs sd S
  | [], sd, S, h => done sd S h
  | x :: xs, sd, S, h => by
    obtain ⟨h1, sd', e, h2⟩ := step x xs sd S h
    refine ⟨h1, ?_⟩
    rw [e]
    exact h2 _ fun sd2 S2 q => forL_ind I step done xs sd2 S2 q
/-- the same with breaks left open (the loop's end and the break's meet) -/
theorem lcL_ind {chk : Store → Prop} {g : CG} {vs : List Nat} {t : DT} {e : DE} {sd : Slots} {Q : List D → Store → Prop} (I : List D → List D → Store → Prop)
    (step : ∀ x xs acc S, I (x :: xs) acc S → chk S ∧ ∃ sd', gset g x (dwipe sd vs) = some sd' ∧ ∀ K : List D → Store → Prop, (∀ acc2 S2, I xs acc2 S2 → K acc2 S2) → t sd' S fun k S1 => if k = true then e sd' S1 fun y S2 => K (acc ++ [y]) S2 else K acc S1)
    (done : ∀ acc S, I [] acc S → chk S ∧ Q acc S) : ∀ xs acc S, I xs acc S → lcL chk g vs t e sd xs acc S Q
  | [], acc, S, h => done acc S h
  | x :: xs, acc, S, h => by
    obtain ⟨h1, sd', e', h2⟩ := step x xs acc S h
    refine ⟨h1, ?_⟩
    rw [e']
    exact h2 (fun acc2 S2 => lcL chk g vs t e sd xs acc2 S2 Q) fun acc2 S2 q => lcL_ind I step done xs acc2 S2 q
/-- a comprehension that changes nothing -/
theorem lcL_pure {chk : Store → Prop} {g : CG} {vs : List Nat} {t : DT} {e : DE} {sd : Slots} {S : Store} {Q : List D → Store → Prop} {p : D → Bool} {f : D → D} (hc : chk S) :
    ∀ (xs acc : List D), (∀ x ∈ xs, ∃ sd', gset g x (dwipe sd vs) = some sd' ∧ (∀ Q', Q' (p x) S → t sd' S Q') ∧ (p x = true → ∀ Q', Q' (f x) S → e sd' S Q')) → Q (acc ++ (xs.filter p).map f) S → lcL chk g vs t e sd xs acc S Q
  | [], acc, _, q => ⟨hc, by simpa using q⟩
  | x :: xs, acc, h, q => by
    obtain ⟨sd', e1, e2, e3⟩ := h x List.mem_cons_self
    have ih := fun (acc : List D) (q : Q (acc ++ (xs.filter p).map f) S) => lcL_pure (Q := Q) hc xs acc (fun y hy => h y (List.mem_cons_of_mem _ hy)) q
    refine ⟨hc, ?_⟩
    rw [e1]
    refine e2 _ ?_
    cases ep : p x with
    | true =>
      rw [if_pos rfl]
      refine e3 ep _ (ih _ ?_)
      rw [List.filter_cons_of_pos ep, List.map_cons] at q
      rw [List.append_assoc]; exact q
    | false =>
      rw [if_neg (by decide)]
      refine ih _ ?_
      rw [List.filter_cons_of_neg (by rw [ep]; decide)] at q
      exact q
/-- without a test -/
theorem lcL_map {chk : Store → Prop} {g : CG} {vs : List Nat} {e : DE} {sd : Slots} {S : Store} {Q : List D → Store → Prop} {f : D → D} (hc : chk S) {xs : List D}
    (h : ∀ x ∈ xs, ∃ sd', gset g x (dwipe sd vs) = some sd' ∧ (∀ Q', Q' (f x) S → e sd' S Q')) (q : Q (xs.map f) S) : lcL chk g vs (fun _ S Q => Q true S) e sd xs [] S Q :=
  lcL_pure (p := fun _ => true) hc xs [] (fun x hx => let ⟨sd', e1, e2⟩ := h x hx; ⟨sd', e1, fun Q' q => q, fun _ => e2⟩) (by rw [List.nil_append, List.filter_eq_self.mpr fun _ _ => rfl]; exact q)
/-- a dict comprehension that changes nothing -/
theorem dcL_map {chk : Store → Prop} {g : CG} {vs : List Nat} {ek ev : DE} {sd : Slots} {S : Store} {Q : List (Key × D) → Store → Prop} {fk : D → D} {kk : D → Key} {fv : D → D} (hc : chk S) :
    ∀ (xs : List D) (acc : List (Key × D)), (∀ x ∈ xs, ∃ sd', gset g x (dwipe sd vs) = some sd' ∧ (∀ Q', Q' (fk x) S → ek sd' S Q') ∧ (∀ Q', Q' (fv x) S → ev sd' S Q') ∧ keyD (fk x) = some (kk x)) →
      Q ((xs.map fun x => (kk x, fv x)).foldl (fun a kv => dput a kv.1 kv.2) acc) S → dcL chk g vs (fun _ S Q => Q true S) ek ev sd xs acc S Q
  | [], acc, _, q => ⟨hc, q⟩
  | x :: xs, acc, h, q => by
    obtain ⟨sd', e1, e2, e3, e4⟩ := h x List.mem_cons_self
    refine ⟨hc, ?_⟩
    rw [e1]
    show if true = true then _ else _
    rw [if_pos rfl]
    refine e2 _ (e3 _ ?_)
    rw [e4]
    exact dcL_map hc xs _ (fun y hy => h y (List.mem_cons_of_mem _ hy)) q

theorem atI_pos {α : Type} {xs : List α} {k : Int} (h : 0 ≤ k) (h2 : k < xs.length) : atI xs k = some (xs[k.toNat]'(by omega)) := by
  unfold atI ixN
  rw [if_pos h, if_pos h2]
  exact List.getElem?_eq_getElem (by omega)
theorem atI_getD {ns : List Int} {i : Nat} (h : i < ns.length) : atI (ns.map D.int) (i : Int) = some (.int (ns.getD i 0)) := by
  rw [atI_pos (Int.natCast_nonneg i) (by rw [List.length_map]; omega)]
  simp [List.getD_eq_getElem?_getD, List.getElem?_eq_getElem h]
/-! ### == worked out -/
section
variable {S : Store} {Q : DQ}
theorem shp_int (i : Int) : SeqAt.shaped (.int i) = true := by rfl
theorem shp_bl (i : Bool) : SeqAt.shaped (.bool i) = true := by rfl
theorem fEq_int {i j : Int} : fEq (.int i) (.int j) S Q = Q (.bl (decide (i = j))) S := by
  refine propext ⟨fun ⟨d, e, h1, h2, _, _, q⟩ => ?_, fun q => ⟨.int i, .int j, rfl, rfl, rfl, rfl, ?_⟩⟩
  · cases h1; cases h2; exact q
  · exact q
theorem fNe_int {i j : Int} : fNe (.int i) (.int j) S Q = Q (.bl (!decide (i = j))) S := by
  refine propext ⟨fun ⟨d, e, h1, h2, _, _, q⟩ => ?_, fun q => ⟨.int i, .int j, rfl, rfl, rfl, rfl, ?_⟩⟩
  · cases h1; cases h2; exact q
  · exact q
theorem fEq_bl {i j : Bool} : fEq (.bl i) (.bl j) S Q = Q (.bl (i == j)) S := by
  refine propext ⟨fun ⟨d, e, h1, h2, _, _, q⟩ => ?_, fun q => ⟨.bool i, .bool j, rfl, rfl, rfl, rfl, ?_⟩⟩
  · cases h1; cases h2; exact q
  · exact q
theorem fNe_bl {i j : Bool} : fNe (.bl i) (.bl j) S Q = Q (.bl (!(i == j))) S := by
  refine propext ⟨fun ⟨d, e, h1, h2, _, _, q⟩ => ?_, fun q => ⟨.bool i, .bool j, rfl, rfl, rfl, rfl, ?_⟩⟩
  · cases h1; cases h2; exact q
  · exact q
theorem fEq_nil : fEq (.lst []) (.lst []) S Q = Q (.bl true) S := by
  refine propext ⟨fun ⟨d, e, h1, h2, _, _, q⟩ => ?_, fun q => ⟨.list [], .list [], rfl, rfl, rfl, rfl, ?_⟩⟩
  · cases h1; cases h2; exact q
  · exact q
theorem fNe_nil : fNe (.lst []) (.lst []) S Q = Q (.bl false) S := by
  refine propext ⟨fun ⟨d, e, h1, h2, _, _, q⟩ => ?_, fun q => ⟨.list [], .list [], rfl, rfl, rfl, rfl, ?_⟩⟩
  · cases h1; cases h2; exact q
  · exact q
theorem toPys_ints : ∀ ns : List Int, toPys S (ns.map D.int) = some (ns.map PyData.int)
  | [] => rfl
  | n :: ns => by
    show (match toPy S (.int n), toPys S (ns.map D.int) with | some e, some es => some (e :: es) | _, _ => none) = _
    rw [toPys_ints ns]; rfl
theorem can_ints : ∀ ns : List Int, PyData.canLayAll0 (ns.map PyData.int) = true
  | [] => rfl
  | n :: ns => by
    show (PyData.canLay0 (.int n) && PyData.canLayAll0 (ns.map PyData.int)) = true
    rw [can_ints ns]; rfl
theorem depthAll_ints : ∀ ns : List Int, PyData.depthAll (ns.map PyData.int) ≤ 1
  | [] => by simp [PyData.depthAll]
  | n :: ns => by
    have := depthAll_ints ns
    simp only [List.map_cons, PyData.depthAll, PyData.depth]
    omega
theorem shp_ints (ns : List Int) : SeqAt.shaped (.list (ns.map PyData.int)) = true := by
  have h1 := can_ints ns
  have h2 := depthAll_ints ns
  unfold SeqAt.shaped
  rw [Bool.and_eq_true]
  refine ⟨h1, decide_eq_true ?_⟩
  simp only [PyData.depth]
  omega
theorem eqv_ints : ∀ ns ms : List Int, PyData.eqvAll (ns.map PyData.int) (ms.map PyData.int) = decide (ns = ms)
  | [], [] => rfl
  | [], _ :: _ => rfl
  | _ :: _, [] => rfl
  | n :: ns, m :: ms => by
    show ((n == m) && PyData.eqvAll (ns.map PyData.int) (ms.map PyData.int)) = _
    rw [eqv_ints ns ms]
    by_cases h : n = m <;> by_cases h2 : ns = ms <;> simp [h, h2]
theorem fEq_ints {ns ms : List Int} : fEq (.lst (ns.map D.int)) (.lst (ms.map D.int)) S Q = Q (.bl (decide (ns = ms))) S := by
  have a : ∀ ns : List Int, toPyR S (.lst (ns.map D.int)) = some (.list (ns.map PyData.int)) := fun ns => by
    show (toPys S (ns.map D.int)).map PyData.list = _
    rw [toPys_ints]; rfl
  have e : PyData.eqv (.list (ns.map PyData.int)) (.list (ms.map PyData.int)) = decide (ns = ms) := eqv_ints ns ms
  refine propext ⟨fun ⟨d, e', h1, h2, _, _, q⟩ => ?_, fun q => ⟨_, _, a ns, a ms, shp_ints ns, shp_ints ms, by rw [e]; exact q⟩⟩
  rw [a] at h1 h2
  cases h1; cases h2
  rw [e] at q; exact q
theorem fEq_str {x y : Str} (hx : PyData.strOk x = true) (hy : PyData.strOk y = true) : fEq (.str x) (.str y) S Q = Q (.bl (x == y)) S := by
  refine propext ⟨fun ⟨d, e, h1, h2, _, _, q⟩ => ?_, fun q => ⟨.str x, .str y, rfl, rfl, ?_, ?_, ?_⟩⟩
  · cases h1; cases h2; exact q
  · unfold SeqAt.shaped; rw [Bool.and_eq_true]; exact ⟨hx, by simp [PyData.depth]⟩
  · unfold SeqAt.shaped; rw [Bool.and_eq_true]; exact ⟨hy, by simp [PyData.depth]⟩
  · exact q
end
/-! ### what was laid is forgotten at the return -/
theorem rt_drop {Q : DQ} {d : D} {S S1 : Store} (h : ∀ a o, S a = some o → S1 a = some o) (q : Q d S) : rtQ Q d S1 := ⟨d, S, .forget h .refl, q⟩
theorem frz_dct {S : Store} {p : Addr} {kvs : List (Key × D)} : frzD (sup S p (.dct kvs)) p = some (.dct kvs) := by unfold frzD; rw [sup_same]
theorem frz_lst {S : Store} {p : Addr} {kvs : List D} : frzD (sup S p (.lst kvs)) p = some (.lst kvs) := by unfold frzD; rw [sup_same]
theorem sdel_sup {S : Store} {p : Addr} {o : O} (h : S p = none) : sdel (sup S p o) p = S := by
  funext b
  unfold sdel sup
  by_cases e : b = p
  · subst e; rw [if_pos rfl, h]
  · rw [if_neg e, if_neg e]
/-! ### numbers -/
/-- less than a thousand bits -/
def kilo : Nat := 1000
def Sml (x : Int) : Prop := x.natAbs < 2 ^ kilo
theorem Sml.log {x : Int} (h : Sml x) : x.natAbs.log2 < 1000 := by
  by_cases z : x.natAbs = 0
  · rw [z]; decide
  · exact (Nat.log2_lt z).mpr h
theorem cmulW {i j : Int} (hi : Sml i) (hj : Sml j) : CMulW i j := by
  have h1 := hi.log
  have h2 := hj.log
  unfold CMulW; omega
theorem cdivW {i j : Int} (h : 0 < j) (hj : Sml j) : CDivW i j := by
  have h2 := hj.log
  exact ⟨h, by omega⟩
theorem two1000 : (2 : Nat) ^ 64 ≤ 2 ^ kilo := Nat.pow_le_pow_right (by decide) (by decide)
theorem Sml.of {x : Int} (h : -18446744073709551616 < x) (h' : x < 18446744073709551616) : Sml x := by
  refine Nat.lt_of_lt_of_le ?_ two1000
  omega
theorem Sml.bits {x : Int} {n k : Nat} (h : x.natAbs ≤ n) (hn : n < 2 ^ k) (hk : k ≤ kilo) : Sml x := Nat.lt_of_le_of_lt h (Nat.lt_of_lt_of_le hn (Nat.pow_le_pow_right (by decide) hk))
theorem cpow {i j : Int} (h : -18446744073709551616 < i) (h' : i < 18446744073709551616) (h0 : 0 ≤ j) (h1 : j ≤ 1000000) : CPow i j := by
  refine ⟨h0, h1, ?_⟩
  omega
end DL
set_option Elab.async false
set_option linter.all false
set_option maxRecDepth 100000
set_option maxHeartbeats 1000000
/-! DL17: large displays, piece by piece. -/
namespace DL
open PySem L2
section
variable {T : Tb} {sd : Slots} {S : Store}
def Ve (T : Tb) (sd : Slots) (S : Store) (e : CE) (x : D) : Prop := ∀ Q : DQ, Q x S → (den T e).v sd S Q
def Vs (T : Tb) (sd : Slots) (S : Store) (es : CEs) (xs : List D) : Prop := ∀ Q : List D → Store → Prop, Q xs S → dens T es sd S Q
theorem small100 {n : Nat} (h : Nat.ble n 100 = true) : n ≤ sizeLine := Nat.le_trans (Nat.le_of_ble_eq_true h) (by decide)
theorem ve_slot {i : Nat} {d : D} (h : sd[i]? = some (some d)) : Ve T sd S (.slot i) d := fun Q q => by
  show (match sd[i]? with | some (some d) => Q d S | _ => False)
  rw [h]; exact q
theorem ve_int {i : Int} : Ve T sd S (.int i) (.int i) := fun Q q => q
theorem ve_neg {i : Int} : Ve T sd S (.neg (.int i)) (.int (-i)) := fun Q q => q
theorem ve_bl {i : Bool} : Ve T sd S (.bl i) (.bl i) := fun Q q => q
theorem ve_non : Ve T sd S .non .non := fun Q q => q
theorem ve_str {s : Str} : Ve T sd S (.str s) (.str s) := fun Q q => q
theorem vs_nil : Vs T sd S .nil [] := fun Q q => q
theorem vs_cons {e : CE} {r : CEs} {x : D} {xs : List D} (h : Ve T sd S e x) (t : Vs T sd S r xs) : Vs T sd S (.cons e r) (x :: xs) := fun Q q => h _ (t _ q)
theorem ve_tup {es : CEs} {xs : List D} (h : Vs T sd S es xs) (z : Nat.ble xs.length 100 = true) : Ve T sd S (.tup es) (.tup xs) := fun Q q => h _ ⟨small100 z, q⟩
theorem ve_lst {es : CEs} {xs : List D} (h : Vs T sd S es xs) (z : Nat.ble xs.length 100 = true) : Ve T sd S (.lst false es) (.lst xs) := fun Q q => h _ ⟨small100 z, q⟩
theorem ve_dict0 : Ve T sd S (.dict0 false) (.dct []) := fun Q q => q
theorem ve_addT {a b : CE} {w : Bool} {xs ys : List D} (ha : Ve T sd S a (.tup xs)) (hb : Ve T sd S b (.tup ys)) (z : xs.length + ys.length ≤ sizeLine) : Ve T sd S (.op w .Add a b) (.tup (xs ++ ys)) := fun Q q => ha _ (hb _ ⟨z, q⟩)
theorem ve_addL {a b : CE} {xs ys : List D} (ha : Ve T sd S a (.lst xs)) (hb : Ve T sd S b (.lst ys)) (z : xs.length + ys.length ≤ sizeLine) : Ve T sd S (.op false .Add a b) (.lst (xs ++ ys)) := fun Q q => ha _ (hb _ ⟨z, q⟩)
theorem ve_list {a : CE} {xs : List D} (ha : Ve T sd S a (.tup xs)) : Ve T sd S (.blt false .list (.cons a .nil)) (.lst xs) := fun Q q => ha _ q
theorem vs_set {i : Nat} {e : CE} {x : D} {r : CSs} {Dd : DEnds} (h : Ve T sd S e x) (q : denSs T r Dd (sd.set i (some x)) S) : denSs T (.cons (.set i e) r) Dd sd S := h _ q
end
end DL
set_option Elab.async false
set_option linter.all false
set_option maxRecDepth 100000
set_option maxHeartbeats 1000000
/-! DL18: statements one by one, calls of what keeps its promise. -/
namespace DL
open PySem L2
section
variable {T : Tb} {sd : Slots} {S : Store} {Dd : DEnds} {r : CSs}
theorem call_run {j n : Nat} {sp : DSp} {es : CEs} {xs : List D} {K : DQ} (hf : T.fn j = some (n, sp)) (hs : Vs T sd S es xs) (hl : xs.length = n) (h : sp xs S K) : (den T (.call j es)).v sd S K := by
  show (match T.fn j with | some (n, sp) => dCall (guardN n sp) (dens T es) | none => dFail) sd S K
  rw [hf]
  exact hs _ ⟨hl, h⟩
theorem ve_call {j n : Nat} {sp : DSp} {es : CEs} {xs : List D} {y : D} (hf : T.fn j = some (n, sp)) (hs : Vs T sd S es xs) (hl : xs.length = n) (h : ∀ Q : DQ, Q y S → sp xs S Q) : Ve T sd S (.call j es) y := fun Q q => call_run hf hs hl (h Q q)
theorem callk_run {j n : Nat} {sp : DSp} {ks : List Str} {perm : List Nat} {es : CEs} {xs : List D} {K : DQ} (hf : T.fn j = some (n, sp)) (hk : (T.kw j).contains (ks, perm) = true) (hs : Vs T sd S es xs) (hl : xs.length = ks.length) (hn : (permV perm [] xs).length = n) (h : sp (permV perm [] xs) S K) : (den T (.callk j ks perm es)).v sd S K := by
  show (match T.fn j with | some (n, sp) => if (T.kw j).contains (ks, perm) = true then dCall (fun ds S Q => ds.length = ks.length ∧ guardN n sp (permV perm [] ds) S Q) (dens T es) else dFail | none => dFail) sd S K
  rw [hf]
  show (if (T.kw j).contains (ks, perm) = true then dCall (fun ds S Q => ds.length = ks.length ∧ guardN n sp (permV perm [] ds) S Q) (dens T es) else dFail) sd S K
  rw [if_pos hk]
  exact hs _ ⟨hl, hn, h⟩
theorem ve_callk {j n : Nat} {sp : DSp} {ks : List Str} {perm : List Nat} {es : CEs} {xs : List D} {y : D} (hf : T.fn j = some (n, sp)) (hk : (T.kw j).contains (ks, perm) = true) (hs : Vs T sd S es xs) (hl : xs.length = ks.length) (hn : (permV perm [] xs).length = n) (h : ∀ Q : DQ, Q y S → sp (permV perm [] xs) S Q) : Ve T sd S (.callk j ks perm es) y := fun Q q => callk_run hf hk hs hl hn (h Q q)
theorem ve_ixL {a : CE} {xs : List D} {i : Int} {x : D} (ha : Ve T sd S a (.lst xs)) (h : atI xs i = some x) : Ve T sd S (.ix a (.int i)) x := fun Q q => ha _ (by
  show (match atI xs i with | some d => Q d S | none => False)
  rw [h]; exact q)
theorem ve_ixT {a : CE} {xs : List D} {i : Int} {x : D} (ha : Ve T sd S a (.tup xs)) (h : atI xs i = some x) : Ve T sd S (.ix a (.int i)) x := fun Q q => ha _ (by
  show (match atI xs i with | some d => Q d S | none => False)
  rw [h]; exact q)
theorem ve_addI {a b : CE} {w : Bool} {i j : Int} (ha : Ve T sd S a (.int i)) (hb : Ve T sd S b (.int j)) : Ve T sd S (.op w .Add a b) (.int (i + j)) := fun Q q => ha _ (hb _ q)
theorem ve_subI {a b : CE} {w : Bool} {i j : Int} (ha : Ve T sd S a (.int i)) (hb : Ve T sd S b (.int j)) : Ve T sd S (.op w .Sub a b) (.int (i - j)) := fun Q q => ha _ (hb _ q)
theorem ve_mulI {a b : CE} {w : Bool} {i j : Int} (ha : Ve T sd S a (.int i)) (hb : Ve T sd S b (.int j)) (h : CMulW i j) : Ve T sd S (.op w .Mult a b) (.int (i * j)) := fun Q q => ha _ (hb _ ⟨h, q⟩)
/-- statements -/
theorem vs_setE {i : Nat} {e : CE} (h : (den T e).v sd S fun x S1 => denSs T r Dd (sd.set i (some x)) S1) : denSs T (.cons (.set i e) r) Dd sd S := h
theorem vs_par {i j : Nat} {a b : CE} (h : (den T a).v sd S fun x S1 => (den T b).v sd S1 fun y S2 => denSs T r Dd ((sd.set i (some x)).set j (some y)) S2) : denSs T (.cons (.par i j a b) r) Dd sd S := h
theorem vs_par3 {i j l : Nat} {a b c : CE} (h : (den T a).v sd S fun x S1 => (den T b).v sd S1 fun y S2 => (den T c).v sd S2 fun z S3 => denSs T r Dd (((sd.set i (some x)).set j (some y)).set l (some z)) S3) : denSs T (.cons (.par3 i j l a b c) r) Dd sd S := h
theorem vs_ifsF {c : CE} {a : CSs} (h : ∀ K : Bool → Store → Prop, K false S → (den T c).t sd S K) (q : denSs T r Dd sd S) : denSs T (.cons (.ifs c a .nil) r) Dd sd S := h _ q
theorem vs_ifsE {c : CE} {a b : CSs} (h : (den T c).t sd S fun k S1 => if k = true then denSs T a { Dd with nx := fun sd' S' => denSs T r Dd sd' S' } sd S1 else denSs T b { Dd with nx := fun sd' S' => denSs T r Dd sd' S' } sd S1) : denSs T (.cons (.ifs c a b) r) Dd sd S := h
theorem vs_ret {e : CE} {x : D} (h : Ve T sd S e x) (q : Dd.rt x S) : denSs T (.cons (.ret e) r) Dd sd S := h _ q
theorem vs_retE {e : CE} (h : (den T e).v sd S Dd.rt) : denSs T (.cons (.ret e) r) Dd sd S := h
theorem vs_exprE {e : CE} (h : (den T e).v sd S fun _ S1 => denSs T r Dd sd S1) : denSs T (.cons (.expr e) r) Dd sd S := h
end
end DL
set_option Elab.async false
set_option linter.all false
set_option maxRecDepth 100000
set_option maxHeartbeats 4000000
/-! DL22: rules of statements that grew in K00i, K00j. -/
namespace DL
open PySem L2
section
variable {T : Tb} {sd : Slots} {S : Store} {Dd : DEnds} {r : CSs}
theorem vs_forL {g : CG} {e : CE} {b : CSs} {xs : List D} (hs : Ve T sd S e (.lst xs)) (h : forL (fun _ => True) g (denSs T b) { Dd with nx := fun sd' S' => denSs T r Dd sd' S' } xs sd S) : denSs T (.cons (.for_ g (.seq e) b) r) Dd sd S := hs _ h
theorem vs_frz {i : Nat} {a : Addr} {d : D} (h1 : sd[i]? = some (some (.ref a))) (h2 : frzD S a = some d) (h : denSs T r Dd (sd.set i (some d)) (sdel S a)) : denSs T (.frz i r) Dd sd S := by
  show (match sd[i]? with | some (some (.ref a)) => (match frzD S a with | some d => denSs T r Dd (sd.set i (some d)) (sdel S a) | none => False) | _ => False)
  rw [h1]
  show (match frzD S a with | some d => denSs T r Dd (sd.set i (some d)) (sdel S a) | none => False)
  rw [h2]; exact h
theorem vs_keys {g : CG} {i : Nat} {b : CSs} {kvs : List (Key × D)} (h1 : sd[i]? = some (some (.dct kvs))) (h : forL (fun _ => True) g (denSs T b) { Dd with nx := fun sd' S' => denSs T r Dd sd' S' } (kvs.map fun kv => keyDat kv.1) sd S) : denSs T (.cons (.forkeys g i b) r) Dd sd S := by
  show (match sd[i]? with | some (some (.dct kvs)) => forL (fun _ => True) g (denSs T b) { Dd with nx := fun sd' S' => denSs T r Dd sd' S' } (kvs.map fun kv => keyDat kv.1) sd S | _ => False)
  rw [h1]; exact h
theorem vs_dict0 {i : Nat} (h : ∀ p, S p = none → denSs T r Dd (sd.set i (some (.ref p))) (sup S p (.dct []))) : denSs T (.cons (.set i (.dict0 true)) r) Dd sd S := fun p hp => h p hp
theorem ve_dictD {a : CE} {kvs : List (Key × D)} (ha : Ve T sd S a (.dct kvs)) : Ve T sd S (.blt false .dict (.cons a .nil)) (.dct kvs) := fun Q q => ha _ q
theorem ve_sitems {a : CE} {kvs : List (Key × D)} {ks : List Int} (ha : Ve T sd S a (.dct kvs)) (hk : intKeys kvs = some ks) (hn : ks.Nodup) (hl : ks.length < 64) (hr : kvs.all (fun kv => refD kv.2) = true) :
    Ve T sd S (.sitems false a) (.lst ((isort ks).map fun k => .tup [.int k, (dget kvs (.inl k)).getD .non])) := fun Q q => ha _ (by
  show (match intKeys kvs with | some ks => _ | none => False)
  rw [hk]
  exact ⟨rfl, hn, hl, hr, q⟩)
theorem t_orNN {i j : Nat} {es fs : CEs} {K : Bool → Store → Prop} (h1 : Ve T sd S (.call i es) (.bl true)) (h2 : Ve T sd S (.call j fs) (.bl true)) (hK : K false S) : (den T (.or (.not (.call i es)) (.last (.not (.call j fs))))).t sd S K := h1 _ (h2 _ hK)
theorem vs_dictC {i : Nat} {a : CE} {kvs : List (Key × D)} (ha : Ve T sd S a (.dct kvs)) (h : ∀ p, S p = none → denSs T r Dd (sd.set i (some (.ref p))) (sup S p (.dct kvs))) : denSs T (.cons (.set i (.blt true .dict (.cons a .nil))) r) Dd sd S := ha _ fun p hp => h p hp
theorem dput_new {kvs : List (Key × D)} {k : Key} {v : D} (h : k ∉ kvs.map (·.1)) : dput kvs k v = kvs ++ [(k, v)] := by
  unfold dput
  rw [if_neg]
  intro z
  obtain ⟨p, hp, e⟩ := List.any_eq_true.mp z
  rw [decide_eq_true_eq] at e
  exact h (by rw [← e]; exact List.mem_map_of_mem (f := (·.1)) hp)
end
end DL
namespace DL
open PySem L2
section
variable {T : Tb} {sd : Slots} {S : Store} {Dd : DEnds} {r : CSs}
theorem ve_glb {j : Nat} {d : D} (h : T.glb j = some d) : Ve T sd S (.glb j) d := fun Q q => by
  show (match T.glb j with | some d => dC d | none => dFail) sd S Q
  rw [h]; exact q
theorem t_not {i : Nat} {es : CEs} {K : Bool → Store → Prop} (h : Ve T sd S (.call i es) (.bl true)) (hK : K false S) : (den T (.not (.call i es))).t sd S K := h _ hK
theorem vs_ifsR {c : CE} {a : CSs} (P : Store → Prop) (h : ∀ K : Bool → Store → Prop, (∀ S1, P S1 → K false S1) → (den T c).t sd S K) (q : ∀ S1, P S1 → denSs T r Dd sd S1) : denSs T (.cons (.ifs c a .nil) r) Dd sd S := h _ fun S1 p => q S1 p
theorem vs_setlc {i : Nat} {own : Bool} {vs : List (Str × Nat)} {g : CG} {it : CI} {t : CT} {e : CE} (h : (den T (.lc own vs g it t e)).v sd S fun x S1 => denSs T r Dd (sd.set i (some x)) S1) : denSs T (.cons (.setlc i own vs g it t e) r) Dd sd S := h
theorem vs_forR {g : CG} {e : CE} {b : CSs} (h : (den T e).v sd S fun x S1 => ∃ n : Int, x = .int n ∧ n ≤ sizeLine ∧ -2 ^ 62 ≤ n ∧ forL (fun _ => True) g (denSs T b) { Dd with nx := fun sd' S' => denSs T r Dd sd' S' } (rangeD 0 n) sd S1) (mono : ∀ K K' : DQ, (∀ x S, K x S → K' x S) → (den T e).v sd S K → (den T e).v sd S K') : denSs T (.cons (.for_ g (.range1 e) b) r) Dd sd S :=
  mono _ (fun x S1 => fRange1 x S1 fun src S2 => forL src.chk g (denSs T b) { Dd with nx := fun sd' S' => denSs T r Dd sd' S' } src.xs sd S2) (fun x S1 ⟨n, hx, h1, h2, h3⟩ => by subst hx; exact ⟨h1, h2, h3⟩) h
theorem vs_forI {g : CG} {e : CE} {b : CSs} {n : Int} (he : Ve T sd S e (.int n)) (h1 : n ≤ sizeLine) (h2 : -2 ^ 62 ≤ n) (h : forL (fun _ => True) g (denSs T b) { Dd with nx := fun sd' S' => denSs T r Dd sd' S' } (rangeD 0 n) sd S) : denSs T (.cons (.for_ g (.range1 e) b) r) Dd sd S := he _ ⟨h1, h2, h⟩
end
def cI (ns : List Int) (lo hi : Option Int) : List Int := (ns.drop (HT.sIx ns.length 0 lo)).take (HT.sIx ns.length ns.length hi - HT.sIx ns.length 0 lo)
theorem cutD_ints (ns : List Int) (lo hi : Option Int) : cutD (ns.map D.int) lo hi = (cI ns lo hi).map D.int := by
  unfold cutD cI
  rw [List.length_map, List.map_take, List.map_drop]
theorem rangeD_mem {n : Int} {x : D} (h : x ∈ rangeD 0 n) : ∃ i : Int, x = .int i ∧ 0 ≤ i ∧ i < n := by
  unfold rangeD at h
  obtain ⟨i, hi, rfl⟩ := List.mem_map.mp h
  rw [List.mem_range] at hi
  exact ⟨0 + (i : Int), rfl, by omega, by omega⟩
end DL
set_option Elab.async false
set_option linter.all false
set_option maxRecDepth 100000
set_option maxHeartbeats 1000000
/-! DL23: plain data that == may be asked of. -/
namespace DL
open PySem L2
def baseD : D → Bool
  | .non => true | .bl _ => true | .int _ => true | .str x => PyData.strOk x
  | _ => false
def pyD : Nat → D → Bool
  | 0, d => baseD d
  | n + 1, d => match d with
    | .tup xs => xs.all (pyD n)
    | .lst xs => xs.all (pyD n)
    | d => baseD d
def PyOk (n : Nat) (e : PyData) : Prop := e.canLay0 = true ∧ e.depth ≤ n
def PysOk (n : Nat) (e : List PyData) : Prop := PyData.canLayAll0 e = true ∧ PyData.depthAll e ≤ n
theorem toPy_base {S : Store} {d : D} (h : baseD d = true) : ∃ e, toPy S d = some e ∧ PyOk 0 e := by
  cases d <;> first | (cases h; done) | skip
  · exact ⟨_, rfl, rfl, Nat.le_refl 0⟩
  · exact ⟨_, rfl, rfl, Nat.le_refl 0⟩
  · exact ⟨_, rfl, rfl, Nat.le_refl 0⟩
  · exact ⟨_, rfl, h, Nat.le_refl 0⟩
theorem toPys_all {S : Store} {n : Nat} {p : D → Bool} (h : ∀ d, p d = true → ∃ e, toPy S d = some e ∧ PyOk n e) : ∀ xs : List D, xs.all p = true → ∃ es, toPys S xs = some es ∧ PysOk n es ∧ es.length = xs.length
  | [], _ => ⟨[], rfl, ⟨rfl, Nat.zero_le _⟩, rfl⟩
  | x :: xs, hx => by
    have hx : (p x && xs.all p) = true := hx
    rw [Bool.and_eq_true] at hx
    obtain ⟨e, e1, e2, e3⟩ := h x hx.1
    obtain ⟨es, f1, ⟨f2, f3⟩, f4⟩ := toPys_all h xs hx.2
    refine ⟨e :: es, ?_, ⟨?_, ?_⟩, ?_⟩
    · show (match toPy S x, toPys S xs with | some e, some es => some (e :: es) | _, _ => none) = _
      rw [e1, f1]
    · show (e.canLay0 && PyData.canLayAll0 es) = true
      rw [e2, f2]; rfl
    · show max e.depth (PyData.depthAll es) ≤ n
      omega
    · rw [List.length_cons, List.length_cons, f4]
theorem toPy_pyD {S : Store} : ∀ (n : Nat) (d : D), pyD n d = true → ∃ e, toPy S d = some e ∧ PyOk n e
  | 0, d, h => toPy_base h
  | n + 1, d, h => by
    cases d <;> first | (cases h; done) | skip
    · exact ⟨_, rfl, rfl, Nat.zero_le _⟩
    · exact ⟨_, rfl, rfl, Nat.zero_le _⟩
    · exact ⟨_, rfl, rfl, Nat.zero_le _⟩
    · exact ⟨_, rfl, h, Nat.zero_le _⟩
    · rename_i xs
      obtain ⟨es, f1, ⟨f2, f3⟩, f4⟩ := toPys_all (toPy_pyD n) xs h
      refine ⟨.tuple es, ?_, f2, Nat.succ_le_succ f3⟩
      show (toPys S xs).map PyData.tuple = _
      rw [f1]; rfl
    · rename_i xs
      obtain ⟨es, f1, ⟨f2, f3⟩, f4⟩ := toPys_all (toPy_pyD n) xs h
      refine ⟨.list es, ?_, f2, Nat.succ_le_succ f3⟩
      show (toPys S xs).map PyData.list = _
      rw [f1]; rfl
theorem PyOk.shaped {n : Nat} {e : PyData} (h : PyOk n e) (hn : n ≤ 64) : SeqAt.shaped e = true := by
  unfold SeqAt.shaped
  rw [Bool.and_eq_true]
  exact ⟨h.1, decide_eq_true (Nat.le_trans h.2 hn)⟩
theorem toPyR_pyD {S : Store} {n : Nat} {d : D} (h : pyD n d = true) (hn : n ≤ 64) : ∃ e, toPyR S d = some e ∧ SeqAt.shaped e = true := by
  obtain ⟨e, h1, h2⟩ := toPy_pyD (S := S) n d h
  refine ⟨e, ?_, h2.shaped hn⟩
  cases d <;> first | exact h1 | (cases n <;> cases h)
/-- against [] -/
theorem py_list {S : Store} {n : Nat} {xs : List D} (h : xs.all (pyD n) = true) (hn : n < 64) : ∃ es, toPyR S (.lst xs) = some (.list es) ∧ SeqAt.shaped (.list es) = true ∧ es.length = xs.length := by
  obtain ⟨es, f1, ⟨f2, f3⟩, f4⟩ := toPys_all (S := S) (toPy_pyD n) xs h
  refine ⟨es, ?_, PyOk.shaped (n := n + 1) ⟨f2, Nat.succ_le_succ f3⟩ hn, f4⟩
  show (toPys S xs).map PyData.list = _
  rw [f1]; rfl
theorem py_tuple {S : Store} {n : Nat} {xs : List D} (h : xs.all (pyD n) = true) (hn : n < 64) : ∃ es, toPyR S (.tup xs) = some (.tuple es) ∧ SeqAt.shaped (.tuple es) = true ∧ es.length = xs.length := by
  obtain ⟨es, f1, ⟨f2, f3⟩, f4⟩ := toPys_all (S := S) (toPy_pyD n) xs h
  refine ⟨es, ?_, PyOk.shaped (n := n + 1) ⟨f2, Nat.succ_le_succ f3⟩ hn, f4⟩
  show (toPys S xs).map PyData.tuple = _
  rw [f1]; rfl
theorem fNe_nilL {S : Store} {Q : DQ} {n : Nat} {xs : List D} (h : xs.all (pyD n) = true) (hn : n < 64) (q : Q (.bl (!xs.isEmpty)) S) : fNe (.lst xs) (.lst []) S Q := by
  obtain ⟨es, f1, f2, f3⟩ := py_list (S := S) h hn
  refine ⟨_, _, f1, rfl, f2, by rfl, ?_⟩
  have e : PyData.eqv (.list es) (.list []) = xs.isEmpty := by
    cases xs with
    | nil => cases es with | nil => rfl | cons _ _ => cases f3
    | cons _ _ => cases es with | nil => cases f3 | cons _ _ => rfl
  rw [e]; exact q
theorem fEq_nilL {S : Store} {Q : DQ} {n : Nat} {xs : List D} (h : xs.all (pyD n) = true) (hn : n < 64) (q : Q (.bl xs.isEmpty) S) : fEq (.lst xs) (.lst []) S Q := by
  obtain ⟨es, f1, f2, f3⟩ := py_list (S := S) h hn
  refine ⟨_, _, f1, rfl, f2, by rfl, ?_⟩
  have e : PyData.eqv (.list es) (.list []) = xs.isEmpty := by
    cases xs with
    | nil => cases es with | nil => rfl | cons _ _ => cases f3
    | cons _ _ => cases es with | nil => cases f3 | cons _ _ => rfl
  rw [e]; exact q
theorem fEq_nilT {S : Store} {Q : DQ} {n : Nat} {xs : List D} (h : xs.all (pyD n) = true) (hn : n < 64) (q : Q (.bl xs.isEmpty) S) : fEq (.tup xs) (.tup []) S Q := by
  obtain ⟨es, f1, f2, f3⟩ := py_tuple (S := S) h hn
  refine ⟨_, _, f1, rfl, f2, by rfl, ?_⟩
  have e : PyData.eqv (.tuple es) (.tuple []) = xs.isEmpty := by
    cases xs with
    | nil => cases es with | nil => rfl | cons _ _ => cases f3
    | cons _ _ => cases es with | nil => cases f3 | cons _ _ => rfl
  rw [e]; exact q
/-- the same thing on both sides -/
theorem eqvAll_self : ∀ {es : List PyData}, (∀ e ∈ es, PyData.eqv e e = true) → PyData.eqvAll es es = true
  | [], _ => rfl
  | e :: es, h => by
    show (PyData.eqv e e && PyData.eqvAll es es) = true
    rw [h e List.mem_cons_self, eqvAll_self fun x hx => h x (List.mem_cons_of_mem _ hx)]; rfl
theorem fNe_intsR {S : Store} {Q : DQ} {ns ms : List Int} {p : Addr} (hp : S p = some (.lst (ms.map D.int))) (q : Q (.bl (!decide (ns = ms))) S) : fNe (.lst (ns.map D.int)) (.ref p) S Q := by
  have a : toPyR S (.lst (ns.map D.int)) = some (.list (ns.map PyData.int)) := by
    show (toPys S (ns.map D.int)).map PyData.list = _
    rw [toPys_ints]; rfl
  have b : toPyR S (.ref p) = some (.list (ms.map PyData.int)) := by
    show (match S p with | some (.lst xs) => (toPys S xs).map PyData.list | _ => none) = _
    rw [hp]
    show (toPys S (ms.map D.int)).map PyData.list = _
    rw [toPys_ints]; rfl
  refine ⟨_, _, a, b, shp_ints ns, shp_ints ms, ?_⟩
  have e : PyData.eqv (.list (ns.map PyData.int)) (.list (ms.map PyData.int)) = decide (ns = ms) := eqv_ints ns ms
  rw [e]; exact q
theorem fNe_intsL {S : Store} {Q : DQ} {ns ms : List Int} (q : Q (.bl (!decide (ns = ms))) S) : fNe (.lst (ns.map D.int)) (.lst (ms.map D.int)) S Q := by
  have a : ∀ ns : List Int, toPyR S (.lst (ns.map D.int)) = some (.list (ns.map PyData.int)) := fun ns => by
    show (toPys S (ns.map D.int)).map PyData.list = _
    rw [toPys_ints]; rfl
  refine ⟨_, _, a ns, a ms, shp_ints ns, shp_ints ms, ?_⟩
  have e : PyData.eqv (.list (ns.map PyData.int)) (.list (ms.map PyData.int)) = decide (ns = ms) := eqv_ints ns ms
  rw [e]; exact q
/-- a comprehension over things of one sort -/
theorem lcL_gen {α : Type} {toD : α → D} {chk : Store → Prop} {g : CG} {vs : List Nat} {t : DT} {e : DE} {sd : Slots} {S : Store} {Q : List D → Store → Prop} {p : α → Bool} {f : α → D} (hc : chk S) :
    ∀ (xs : List α) (acc : List D), (∀ x ∈ xs, ∃ sd', gset g (toD x) (dwipe sd vs) = some sd' ∧ (∀ Q', Q' (p x) S → t sd' S Q') ∧ (p x = true → ∀ Q', Q' (f x) S → e sd' S Q')) → Q (acc ++ (xs.filter p).map f) S → lcL chk g vs t e sd (xs.map toD) acc S Q
  | [], acc, _, q => ⟨hc, by simpa using q⟩
  | x :: xs, acc, h, q => by
    obtain ⟨sd', e1, e2, e3⟩ := h x List.mem_cons_self
    have ih := fun (acc : List D) (q : Q (acc ++ (xs.filter p).map f) S) => lcL_gen (Q := Q) hc xs acc (fun y hy => h y (List.mem_cons_of_mem _ hy)) q
    refine ⟨hc, ?_⟩
    rw [e1]
    refine e2 _ ?_
    cases ep : p x with
    | true =>
      rw [if_pos rfl]
      refine e3 ep _ (ih _ ?_)
      rw [List.filter_cons_of_pos ep, List.map_cons] at q
      rw [List.append_assoc]; exact q
    | false =>
      rw [if_neg (by decide)]
      refine ih _ ?_
      rw [List.filter_cons_of_neg (by rw [ep]; decide)] at q
      exact q
theorem lcL_mapA {α : Type} {toD : α → D} {chk : Store → Prop} {g : CG} {vs : List Nat} {e : DE} {sd : Slots} {S : Store} {Q : List D → Store → Prop} {f : α → D} (hc : chk S) {xs : List α}
    (h : ∀ x ∈ xs, ∃ sd', gset g (toD x) (dwipe sd vs) = some sd' ∧ (∀ Q', Q' (f x) S → e sd' S Q')) (q : Q (xs.map f) S) : lcL chk g vs (fun _ S Q => Q true S) e sd (xs.map toD) [] S Q :=
  lcL_gen (p := fun _ => true) hc xs [] (fun x hx => let ⟨sd', e1, e2⟩ := h x hx; ⟨sd', e1, fun Q' q => q, fun _ => e2⟩) (by rw [List.nil_append, List.filter_eq_self.mpr fun _ _ => rfl]; exact q)
theorem nil_nx {T : Tb} {E : DEnds} {sd : Slots} {S : Store} (h : E.nx sd S) : denSs T .nil E sd S := h
theorem run_lst1 {T : Tb} {sd : Slots} {S : Store} {e : CE} {r : CEs} {K : DQ} (h : (den T e).v sd S fun x S1 => dens T r sd S1 fun xs S2 => (x :: xs).length ≤ sizeLine ∧ K (.lst (x :: xs)) S2) : (den T (.lst false (.cons e r))).v sd S K := h
theorem run_tup1 {T : Tb} {sd : Slots} {S : Store} {e : CE} {r : CEs} {K : DQ} (h : (den T e).v sd S fun x S1 => dens T r sd S1 fun xs S2 => (x :: xs).length ≤ sizeLine ∧ K (.tup (x :: xs)) S2) : (den T (.tup (.cons e r))).v sd S K := h
theorem sup_id {S : Store} {a : Addr} {o : O} (h : S a = some o) : S = sup S a o := by
  funext b
  unfold sup
  split
  · rename_i e; rw [e]; exact h
  · rfl
end DL
set_option Elab.async false
set_option linter.all false
set_option maxRecDepth 100000
set_option maxHeartbeats 1000000
/-! DL24: how long what repr tells is. -/
namespace DL
open PySem L2
theorem strOk_app {x y : Str} (hx : PyData.strOk x = true) (hy : PyData.strOk y = true) : PyData.strOk (x ++ y) = true := by
  have e : (x ++ y).cps = x.cps ++ y.cps := rfl
  unfold PyData.strOk at hx hy ⊢
  rw [e, Array.all_append, hx, hy]; rfl
theorem strOk_of (s : String) : PyData.strOk (Str.ofString s) = true := by
  unfold PyData.strOk
  rw [Str.ofString_eq_toList]
  rw [Array.all_eq_true_iff_forall_mem]
  intro c hc
  simp only [List.mem_toArray, List.mem_map] at hc
  obtain ⟨ch, _, rfl⟩ := hc
  have hv := ch.valid
  have : ch.toNat < 0x110000 := by
    have h2 : ch.val.toNat.isValidChar := hv
    rcases h2 with h2 | ⟨_, h2⟩
    · show ch.val.toNat < _; omega
    · exact h2
  exact decide_eq_true this
theorem strOk_join {sep : Str} (hs : PyData.strOk sep = true) : ∀ {ts : List Str}, (∀ t ∈ ts, PyData.strOk t = true) → PyData.strOk (Str.join sep ts) = true
  | [], _ => by unfold Str.join Str.empty PyData.strOk; simp
  | [x], h => h x List.mem_cons_self
  | x :: y :: r, h => strOk_app (strOk_app (h x List.mem_cons_self) hs) (strOk_join hs fun t ht => h t (List.mem_cons_of_mem _ ht))
theorem strOk_textFrom : ∀ {ts : List Str} {k : Nat} {acc : Str}, PyData.strOk acc = true → (∀ t ∈ ts, PyData.strOk t = true) → PyData.strOk (textFrom k acc ts) = true
  | [], _, _, h, _ => h
  | t :: ts, k, acc, h, ht => strOk_textFrom (ts := ts) (strOk_app (strOk_app h (strOk_of _)) (ht t List.mem_cons_self)) fun u hu => ht u (List.mem_cons_of_mem _ hu)
structure Sho (n : Nat) (d : PyData) : Prop where
  s : d.showable = true
  o : PyData.strOk d.shown = true
  l : d.shown.length ≤ n
structure Shos (n : Nat) (ds : List PyData) : Prop where
  s : PyData.showableAll ds = true
  o : ∀ t ∈ PyData.shownAll ds, PyData.strOk t = true
  l : ((PyData.shownAll ds).map (·.length)).sum ≤ n * ds.length
  k : (PyData.shownAll ds).length = ds.length
theorem shos_nil {n : Nat} : Shos n [] := ⟨rfl, (fun t h => by cases h), Nat.zero_le _, rfl⟩
theorem shos_cons {n : Nat} {d : PyData} {ds : List PyData} (h : Sho n d) (t : Shos n ds) : Shos n (d :: ds) := by
  refine ⟨?_, fun u hu => ?_, ?_, ?_⟩
  · show (d.showable && PyData.showableAll ds) = true
    rw [h.s, t.s]; rfl
  · rcases List.mem_cons.mp (show u ∈ d.shown :: PyData.shownAll ds from hu) with rfl | hu
    · exact h.o
    · exact t.o u hu
  · show d.shown.length + ((PyData.shownAll ds).map (·.length)).sum ≤ n * (ds.length + 1)
    have := h.l
    have := t.l
    rw [Nat.mul_add]; omega
  · show (PyData.shownAll ds).length + 1 = ds.length + 1
    rw [t.k]
theorem shos_map {α : Type} {n : Nat} {f : α → PyData} : ∀ {xs : List α}, (∀ x ∈ xs, Sho n (f x)) → Shos n (xs.map f)
  | [], _ => shos_nil
  | x :: xs, h => shos_cons (h x List.mem_cons_self) (shos_map fun y hy => h y (List.mem_cons_of_mem _ hy))
theorem Sho.mono {n m : Nat} {d : PyData} (h : Sho n d) (l : n ≤ m) : Sho m d := ⟨h.s, h.o, Nat.le_trans h.l l⟩
theorem sho_int {i : Int} (h : i.natAbs.log2 < 1920) : Sho 1921 (.int i) := ⟨decide_eq_true h, strOk_of _, PyProof.Rows.int_text_len_1921 h⟩
theorem join_len_le {ts : List Str} : (Str.join ", " ts).length ≤ (ts.map (·.length)).sum + 2 * ts.length := by
  induction ts with
  | nil => exact Nat.zero_le _
  | cons x r ih =>
    cases r with
    | nil => show x.length ≤ _; simp
    | cons y r =>
      show (x ++ ", " ++ Str.join ", " (y :: r)).length ≤ _
      rw [strLen_append, strLen_append]
      have e2 : ((", " : String) : Str).length = 2 := rfl
      rw [e2]
      simp only [List.map_cons, List.sum_cons, List.length_cons] at ih ⊢
      omega
theorem sho_tuple {n : Nat} {ds : List PyData} (h : Shos n ds) : Sho ((n + 2) * ds.length + 4) (.tuple ds) := by
  refine ⟨h.s, ?_, ?_⟩
  · show PyData.strOk (("(" : Str) ++ Str.join ", " (PyData.shownAll ds) ++ (if (PyData.shownAll ds).length == 1 then ",)" else ")" : String)) = true
    exact strOk_app (strOk_app (strOk_of _) (strOk_join (strOk_of _) h.o)) (strOk_of _)
  · show (("(" : Str) ++ Str.join ", " (PyData.shownAll ds) ++ (if (PyData.shownAll ds).length == 1 then ",)" else ")" : String)).length ≤ _
    rw [strLen_append, strLen_append]
    have h1 := join_len_le (ts := PyData.shownAll ds)
    have h2 := h.l
    have h3 := h.k
    have e1 : (("(" : String) : Str).length = 1 := rfl
    have e2 : ((if (PyData.shownAll ds).length == 1 then ",)" else ")" : String) : Str).length ≤ 2 := by split <;> decide
    rw [e1, Nat.add_mul]
    omega
theorem sho_list {n : Nat} {ds : List PyData} (h : Shos n ds) : Sho ((n + 2) * ds.length + 4) (.list ds) := by
  refine ⟨h.s, ?_, ?_⟩
  · show PyData.strOk (textFrom 0 "[" (PyData.shownAll ds) ++ "]") = true
    exact strOk_app (strOk_textFrom (strOk_of _) h.o) (strOk_of _)
  · show (listText (PyData.shownAll ds)).length ≤ _
    have h1 := listText_len_le (PyData.shownAll ds)
    have h2 := h.l
    have h3 := h.k
    rw [Nat.add_mul]
    omega
end DL
set_option Elab.async false
set_option linter.all false
set_option maxRecDepth 100000
set_option maxHeartbeats 1000000
/-! DL27: rules of statements that grew in K08. -/
namespace DL
open PySem L2
section
variable {T : Tb} {Dd : DEnds} {sd : Slots} {S : Store} {r : CSs}
theorem vs_ifsT {c : CE} {a : CSs} (h : ∀ K : Bool → Store → Prop, K true S → (den T c).t sd S K) (q : denSs T a { Dd with nx := fun sd' S' => denSs T r Dd sd' S' } sd S) : denSs T (.cons (.ifs c a .nil) r) Dd sd S := h _ q
theorem vs_setg {g : CG} {e : CE} {d : D} {sd2 : Slots} (he : Ve T sd S e d) (hg : gset g d sd = some sd2) (h : denSs T r Dd sd2 S) : denSs T (.cons (.setg g e) r) Dd sd S := he _ (by
  show (match gset g d sd with | some sd' => denSs T r Dd sd' S | none => False)
  rw [hg]; exact h)
theorem vs_ifR {c : CE} {b : Bool} (h : ∀ K : Bool → Store → Prop, K true S → (den T c).t sd S K) (q : Dd.rt (.bl b) S) : denSs T (.cons (.ifs c (.cons (.ret (.bl b)) .nil) .nil) r) Dd sd S := h _ q
end
section
variable {T : Tb} {sd : Slots} {S : Store}
theorem ve_rev {a : CE} {xs : List D} (ha : Ve T sd S a (.lst xs)) : Ve T sd S (.rev false a) (.lst xs.reverse) := fun Q q => ha _ q
theorem ve_tuple {a : CE} {xs : List D} (ha : Ve T sd S a (.lst xs)) : Ve T sd S (.blt false .tuple (.cons a .nil)) (.tup xs) := fun Q q => ha _ q
theorem ve_cutLo {a b : CE} {xs : List D} {i : Int} (ha : Ve T sd S a (.lst xs)) (hb : Ve T sd S b (.int i)) : Ve T sd S (.cut false a .no (.one b)) (.lst (cutD xs none (some i))) := fun Q q => ha _ (hb _ q)
theorem ve_cutHi {a b : CE} {xs : List D} {i : Int} (ha : Ve T sd S a (.lst xs)) (hb : Ve T sd S b (.int i)) : Ve T sd S (.cut false a (.one b) .no) (.lst (cutD xs (some i) none)) := fun Q q => ha _ (hb _ q)
theorem run_addO {a b : CE} {xs ys : List D} {K : DQ} (ha : Ve T sd S a (.lst xs)) (hb : Ve T sd S b (.lst ys)) (z : xs.length + ys.length ≤ sizeLine) (h : ∀ p, S p = none → K (.ref p) (sup S p (.lst (xs ++ ys)))) : (den T (.op true .Add a b)).v sd S K := ha _ (hb _ ⟨z, h⟩)
end
end DL
set_option linter.all false
set_option Elab.async false
/-! Piv1: tables of whole numbers, their exchanges: what stays. Plain. -/
namespace Piv
/-- the sum of the first n -/
def S : Nat → (Nat → Int) → Int
  | 0, _ => 0
  | n + 1, f => S n f + f n
theorem S_congr {f g : Nat → Int} : ∀ {n : Nat}, (∀ i, i < n → f i = g i) → S n f = S n g
  | 0, _ => rfl
  | n + 1, h => by
    show S n f + f n = S n g + g n
    rw [S_congr fun i hi => h i (Nat.lt_succ_of_lt hi), h n (Nat.lt_succ_self n)]
theorem S_zero {f : Nat → Int} : ∀ {n : Nat}, (∀ i, i < n → f i = 0) → S n f = 0
  | 0, _ => rfl
  | n + 1, h => by
    show S n f + f n = 0
    rw [S_zero fun i hi => h i (Nat.lt_succ_of_lt hi), h n (Nat.lt_succ_self n)]; rfl
theorem S_add {f g : Nat → Int} : ∀ n : Nat, S n (fun i => f i + g i) = S n f + S n g
  | 0 => rfl
  | n + 1 => by
    show S n (fun i => f i + g i) + (f n + g n) = S n f + f n + (S n g + g n)
    rw [S_add n]; omega
theorem S_sub {f g : Nat → Int} : ∀ n : Nat, S n (fun i => f i - g i) = S n f - S n g
  | 0 => rfl
  | n + 1 => by
    show S n (fun i => f i - g i) + (f n - g n) = S n f + f n - (S n g + g n)
    rw [S_sub n]; omega
theorem S_mul {f : Nat → Int} (c : Int) : ∀ n : Nat, S n (fun i => c * f i) = c * S n f
  | 0 => (Int.mul_zero c).symm
  | n + 1 => by
    show S n (fun i => c * f i) + c * f n = c * (S n f + f n)
    rw [S_mul c n, Int.mul_add]
theorem S_neg {f : Nat → Int} : ∀ n : Nat, S n (fun i => - f i) = - S n f
  | 0 => rfl
  | n + 1 => by
    show S n (fun i => - f i) + - f n = - (S n f + f n)
    rw [S_neg n]; omega
theorem S_pos {f : Nat → Int} : ∀ {n : Nat}, 0 < S n f → ∃ i, i < n ∧ 0 < f i
  | 0, h => absurd (show (0 : Int) < 0 from h) (by decide)
  | n + 1, h => by
    have h : 0 < S n f + f n := h
    by_cases z : 0 < f n
    · exact ⟨n, Nat.lt_succ_self n, z⟩
    · obtain ⟨i, hi, hp⟩ := S_pos (n := n) (f := f) (by omega)
      exact ⟨i, Nat.lt_succ_of_lt hi, hp⟩
theorem S_nonneg {f : Nat → Int} : ∀ {n : Nat}, (∀ i, i < n → 0 ≤ f i) → 0 ≤ S n f
  | 0, _ => Int.le_refl 0
  | n + 1, h => by
    show 0 ≤ S n f + f n
    have h1 := S_nonneg fun i hi => h i (Nat.lt_succ_of_lt hi)
    have h2 := h n (Nat.lt_succ_self n)
    omega
theorem S_each {f : Nat → Int} : ∀ {n : Nat}, (∀ i, i < n → 0 ≤ f i) → S n f = 0 → ∀ i, i < n → f i = 0
  | 0, _, _, i, hi => absurd hi (Nat.not_lt_zero i)
  | n + 1, h, e, i, hi => by
    have e : S n f + f n = 0 := e
    have h1 := S_nonneg fun i hi => h i (Nat.lt_succ_of_lt hi)
    have h2 := h n (Nat.lt_succ_self n)
    rcases Nat.lt_or_eq_of_le (Nat.le_of_lt_succ hi) with hi | rfl
    · exact S_each (fun i hi => h i (Nat.lt_succ_of_lt hi)) (by omega) i hi
    · omega
theorem S_single {f : Nat → Int} {j : Nat} : ∀ {n : Nat}, j < n → (∀ i, i < n → i ≠ j → f i = 0) → S n f = f j
  | 0, hj, _ => absurd hj (Nat.not_lt_zero j)
  | n + 1, hj, h => by
    show S n f + f n = f j
    by_cases e : j = n
    · subst e
      rw [S_zero fun i hi => h i (Nat.lt_succ_of_lt hi) (Nat.ne_of_lt hi)]; omega
    · rw [S_single (n := n) (by omega) fun i hi ne => h i (Nat.lt_succ_of_lt hi) ne, h n (Nat.lt_succ_self n) (fun z => e z.symm)]; omega
theorem S_abs {f : Nat → Int} {B : Nat} : ∀ {n : Nat}, (∀ i, i < n → (f i).natAbs ≤ B) → (S n f).natAbs ≤ n * B
  | 0, _ => Nat.zero_le _
  | n + 1, h => by
    show (S n f + f n).natAbs ≤ (n + 1) * B
    have h1 := S_abs fun i hi => h i (Nat.lt_succ_of_lt hi)
    have h2 := h n (Nat.lt_succ_self n)
    rw [Nat.add_mul, Nat.one_mul]; omega
theorem S_comm {f : Nat → Nat → Int} (m : Nat) : ∀ n : Nat, S n (fun i => S m fun j => f i j) = S m fun j => S n fun i => f i j
  | 0 => (S_zero fun _ _ => rfl).symm
  | n + 1 => by
    show S n (fun i => S m fun j => f i j) + S m (fun j => f n j) = S m fun j => S n (fun i => f i j) + f n j
    rw [S_comm m n, S_add]
/-! ### the problem -/
structure Prob where
  m : Nat
  h : Nat
  A : Nat → Nat → Int
def Prob.N (p : Prob) : Nat := p.h + p.m
structure Prob.Ok (p : Prob) : Prop where
  hlp : ∀ a, a < p.m → ∀ b, b < p.m → p.A a (p.h + b) = if a = b then 1 else 0
  rhs : ∀ a, a < p.m → 0 ≤ p.A a p.N
/-- a sum of the first rows -/
def Prob.span (p : Prob) (w : Nat → Int) : Prop := ∀ c, c ≤ p.N → w c = S p.m fun a => w (p.h + a) * p.A a c
/-- what a column costs: a helper 1 -/
def Prob.e (p : Prob) (c : Nat) : Int := if p.h ≤ c ∧ c < p.N then 1 else 0
section
variable {p : Prob} {v w : Nat → Int}
theorem helper_lt {a : Nat} (h : a < p.m) : p.h + a ≤ p.N := by unfold Prob.N; omega
theorem span_comb (x y : Int) (hw : p.span w) (hv : p.span v) : p.span fun c => x * w c + y * v c := fun c hc => by
  show x * w c + y * v c = S p.m fun a => (x * w (p.h + a) + y * v (p.h + a)) * p.A a c
  rw [hw c hc, hv c hc, ← S_mul, ← S_mul, ← S_add]
  exact S_congr fun i _ => by grind
theorem span_zero : p.span fun _ => 0 := fun c hc => (S_zero fun i _ => Int.zero_mul _).symm
theorem span_cancel {g : Int} (hg : g ≠ 0) (hw : p.span fun c => g * w c) : p.span w := fun c hc => by
  have h := hw c hc
  have h : g * w c = S p.m fun a => (g * w (p.h + a)) * p.A a c := h
  have e : S p.m (fun a => (g * w (p.h + a)) * p.A a c) = g * S p.m fun a => w (p.h + a) * p.A a c := by
    rw [← S_mul]; exact S_congr fun i _ => Int.mul_assoc _ _ _
  rw [e] at h
  exact Int.eq_of_mul_eq_mul_left hg h
theorem span_congr (hw : p.span w) (h : ∀ c, c ≤ p.N → v c = w c) : p.span v := fun c hc => by
  rw [h c hc, hw c hc]
  exact S_congr fun i hi => by rw [h _ (helper_lt hi)]
theorem span_S {f : Nat → Nat → Int} {x : Nat → Int} : ∀ {n : Nat}, (∀ j, j < n → p.span (f j)) → p.span fun c => S n fun j => x j * f j c
  | 0, _ => span_zero
  | n + 1, h => by
    have h1 := span_S (x := x) (n := n) fun j hj => h j (Nat.lt_succ_of_lt hj)
    refine span_congr (span_comb 1 (x n) h1 (h n (Nat.lt_succ_self n))) fun c _ => ?_
    show S n (fun j => x j * f j c) + x n * f n c = 1 * S n (fun j => x j * f j c) + x n * f n c
    omega
theorem span_A (ok : p.Ok) {a : Nat} (ha : a < p.m) : p.span (p.A a) := fun c hc => by
  rw [S_single ha fun i hi ne => by rw [ok.hlp a ha i hi, if_neg (Ne.symm ne)]; exact Int.zero_mul _]
  rw [ok.hlp a ha a ha, if_pos rfl]; omega
end
/-! ### a table -/
structure St where
  R : Nat → Nat → Int
  b : Nat → Nat
  c : Nat → Int
  sc : Int
structure Inv (p : Prob) (s : St) : Prop where
  row : ∀ i, i < p.m → p.span (s.R i)
  bl : ∀ i, i < p.m → s.b i < p.N
  pos : ∀ i, i < p.m → 0 < s.R i (s.b i)
  zero : ∀ i, i < p.m → ∀ j, j < p.m → i ≠ j → s.R j (s.b i) = 0
  rhs : ∀ i, i < p.m → 0 ≤ s.R i p.N
  cb : ∀ i, i < p.m → s.c (s.b i) = 0
  cs : p.span fun k => s.c k - s.sc * p.e k
  sp : 0 < s.sc
  K : ∀ w, p.span w → (∀ i, i < p.m → w (s.b i) = 0) → ∀ c, c ≤ p.N → w c = 0
structure Step (p : Prob) (s s' : St) (r q : Nat) : Prop where
  hr : r < p.m
  hq : q < p.N
  hp : 0 < s.R r q
  rows : ∀ i, i < p.m → i ≠ r → ∃ g : Int, 0 < g ∧ ∀ c, c ≤ p.N → g * s'.R i c = s.R r q * s.R i c - s.R i q * s.R r c
  rowr : ∀ c, c ≤ p.N → s'.R r c = s.R r c
  cost : ∃ g : Int, 0 < g ∧ (∀ c, c ≤ p.N → g * s'.c c = s.R r q * s.c c - s.c q * s.R r c) ∧ g * s'.sc = s.R r q * s.sc
  base : ∀ i, i < p.m → s'.b i = if i = r then q else s.b i
  min : ∀ i, i < p.m → 0 < s.R i q → s.R r p.N * s.R i q ≤ s.R i p.N * s.R r q
section
variable {p : Prob} {s s' : St} {r q : Nat}
theorem eq0_of_mul {g x : Int} (hg : 0 < g) (h : g * x = 0) : x = 0 := (Int.mul_eq_zero.mp h).resolve_left (by omega)
theorem pos_of_mul {g x : Int} (hg : 0 < g) (h : 0 < g * x) : 0 < x := by
  rcases Int.lt_trichotomy x 0 with z | z | z
  · have := Int.mul_neg_of_pos_of_neg hg z; omega
  · rw [z, Int.mul_zero] at h; omega
  · exact z
theorem nonneg_of_mul {g x : Int} (hg : 0 < g) (h : 0 ≤ g * x) : 0 ≤ x := by
  by_cases z : x < 0
  · have := Int.mul_neg_of_pos_of_neg hg z; omega
  · omega
theorem Inv.base_le (I : Inv p s) {i : Nat} (hi : i < p.m) : s.b i ≤ p.N := Nat.le_of_lt (I.bl i hi)
theorem base_inj (I : Inv p s) {i j : Nat} (hi : i < p.m) (hj : j < p.m) (e : s.b i = s.b j) : i = j := Classical.byContradiction fun ne => by
  have h1 := I.zero i hi j hj ne
  have h2 := I.pos j hj
  rw [e] at h1; omega
theorem step_inv (I : Inv p s) (T : Step p s s' r q) : Inv p s' := by
  have hqN := Nat.le_of_lt T.hq
  have bq : ∀ i, i < p.m → i ≠ r → s'.b i = s.b i := fun i hi ne => by rw [T.base i hi, if_neg ne]
  have br : s'.b r = q := by rw [T.base r T.hr, if_pos rfl]
  have rowq : ∀ i, i < p.m → i ≠ r → s'.R i q = 0 := fun i hi ne => by
    obtain ⟨g, hg, e⟩ := T.rows i hi ne
    have := e q hqN
    exact eq0_of_mul hg (by rw [this, Int.mul_comm]; omega)
  refine ⟨fun i hi => ?_, fun i hi => ?_, fun i hi => ?_, fun i hi j hj ne => ?_, fun i hi => ?_, fun i hi => ?_, ?_, ?_, fun w hw hb => ?_⟩
  · by_cases e : i = r
    · subst e; exact span_congr (I.row i hi) T.rowr
    · obtain ⟨g, hg, h⟩ := T.rows i hi e
      refine span_cancel (g := g) (by omega) (span_congr (span_comb (s.R r q) (-(s.R i q)) (I.row i hi) (I.row r T.hr)) fun c hc => ?_)
      rw [h c hc]; grind
  · rw [T.base i hi]; split
    · exact T.hq
    · exact I.bl i hi
  · by_cases e : i = r
    · subst e; rw [br, T.rowr q hqN]; exact T.hp
    · rw [bq i hi e]
      obtain ⟨g, hg, h⟩ := T.rows i hi e
      have h1 := h (s.b i) (I.base_le hi)
      rw [I.zero i hi r T.hr e, Int.mul_zero, Int.sub_zero] at h1
      exact pos_of_mul hg (by rw [h1]; exact Int.mul_pos T.hp (I.pos i hi))
  · by_cases e : i = r
    · subst e; rw [br]; exact rowq j hj (Ne.symm ne)
    · rw [bq i hi e]
      by_cases e2 : j = r
      · subst e2; rw [T.rowr _ (I.base_le hi)]; exact I.zero i hi j hj ne
      · obtain ⟨g, hg, h⟩ := T.rows j hj e2
        have h1 := h (s.b i) (I.base_le hi)
        rw [I.zero i hi r T.hr e, I.zero i hi j hj ne] at h1
        exact eq0_of_mul hg (by rw [h1]; omega)
  · by_cases e : i = r
    · subst e; rw [T.rowr _ (Nat.le_refl _)]; exact I.rhs i hi
    · obtain ⟨g, hg, h⟩ := T.rows i hi e
      have h1 := h p.N (Nat.le_refl _)
      refine nonneg_of_mul hg ?_
      rw [h1]
      have hN := I.rhs i hi
      have hR := I.rhs r T.hr
      by_cases z : 0 < s.R i q
      · have := T.min i hi z
        rw [Int.mul_comm (s.R r q), Int.mul_comm (s.R i q)]; omega
      · have h2 : 0 ≤ s.R r q * s.R i p.N := Int.mul_nonneg (Int.le_of_lt T.hp) hN
        have h3 : s.R i q * s.R r p.N ≤ 0 := Int.mul_nonpos_of_nonpos_of_nonneg (by omega) hR
        omega
  · obtain ⟨g, hg, h, _⟩ := T.cost
    by_cases e : i = r
    · subst e; rw [br]
      have h1 := h q hqN
      exact eq0_of_mul hg (by rw [h1, Int.mul_comm]; omega)
    · rw [bq i hi e]
      have h1 := h (s.b i) (I.base_le hi)
      rw [I.cb i hi, I.zero i hi r T.hr e] at h1
      exact eq0_of_mul hg (by rw [h1]; omega)
  · obtain ⟨g, hg, h, h2⟩ := T.cost
    refine span_cancel (g := g) (by omega) (span_congr (span_comb (s.R r q) (-(s.c q)) I.cs (I.row r T.hr)) fun c hc => ?_)
    have h1 := h c hc
    have e : g * (s'.c c - s'.sc * p.e c) = g * s'.c c - (g * s'.sc) * p.e c := by grind
    rw [e, h1, h2]; grind
  · obtain ⟨g, hg, _, h2⟩ := T.cost
    exact pos_of_mul hg (by rw [h2]; exact Int.mul_pos T.hp I.sp)
  · -- w vanishes on the new base
    have wq : w q = 0 := by have := hb r T.hr; rwa [br] at this
    have v0 : ∀ c, c ≤ p.N → s.R r (s.b r) * w c + (-(w (s.b r))) * s.R r c = 0 := I.K (fun c => s.R r (s.b r) * w c + (-(w (s.b r))) * s.R r c) (span_comb _ _ hw (I.row r T.hr)) fun i hi => by
      show s.R r (s.b r) * w (s.b i) + (-(w (s.b r))) * s.R r (s.b i) = 0
      by_cases e : i = r
      · subst e; grind
      · have h1 := hb i hi
        rw [bq i hi e] at h1
        rw [h1, I.zero i hi r T.hr e]; omega
    have h1 := v0 q hqN
    rw [wq, Int.mul_zero, Int.zero_add, Int.neg_mul] at h1
    have h2 : w (s.b r) = 0 := (Int.mul_eq_zero.mp (show w (s.b r) * s.R r q = 0 by omega)).resolve_right (by have := T.hp; omega)
    refine I.K w hw fun i hi => ?_
    by_cases e : i = r
    · subst e; exact h2
    · have h1 := hb i hi
      rwa [bq i hi e] at h1
/-! ### all told by the base's columns -/
theorem prods (x : Nat → Int) : ∀ n : Nat, (∀ j, j < n → 0 < x j) → ∃ (P : Int) (Q : Nat → Int), 0 < P ∧ ∀ j, j < n → 0 < Q j ∧ Q j * x j = P
  | 0, _ => ⟨1, fun _ => 1, by decide, fun j hj => absurd hj (Nat.not_lt_zero j)⟩
  | n + 1, h => by
    obtain ⟨P, Q, hP, hQ⟩ := prods x n fun j hj => h j (Nat.lt_succ_of_lt hj)
    have hn := h n (Nat.lt_succ_self n)
    refine ⟨P * x n, fun j => if j < n then Q j * x n else P, Int.mul_pos hP hn, fun j hj => ?_⟩
    by_cases e : j < n
    · obtain ⟨h1, h2⟩ := hQ j e
      show 0 < (if j < n then Q j * x n else P) ∧ (if j < n then Q j * x n else P) * x j = _
      rw [if_pos e]
      exact ⟨Int.mul_pos h1 hn, by rw [← h2]; grind⟩
    · have : j = n := by omega
      subst this
      show 0 < (if j < j then Q j * x j else P) ∧ (if j < j then Q j * x j else P) * x j = _
      rw [if_neg e]
      exact ⟨hP, rfl⟩
theorem expand (I : Inv p s) {w : Nat → Int} (hw : p.span w) {P : Int} {Q : Nat → Int} (hQ : ∀ j, j < p.m → Q j * s.R j (s.b j) = P) : ∀ k, k ≤ p.N → P * w k = S p.m fun j => w (s.b j) * Q j * s.R j k := by
  have h := I.K (fun k => P * w k + (-1) * S p.m fun j => w (s.b j) * Q j * s.R j k) (span_comb P (-1) hw (span_S fun j hj => I.row j hj)) fun i hi => by
    show P * w (s.b i) + (-1) * S p.m (fun j => w (s.b j) * Q j * s.R j (s.b i)) = 0
    rw [S_single hi fun j hj ne => by rw [I.zero i hi j hj (Ne.symm ne)]; exact Int.mul_zero _]
    rw [← hQ i hi]; grind
  intro k hk
  have := h k hk
  have : P * w k + (-1) * S p.m (fun j => w (s.b j) * Q j * s.R j k) = 0 := this
  omega
theorem leave_ex (I : Inv p s) (hq : q < p.h) (hc : s.c q < 0) : ∃ i, i < p.m ∧ 0 < s.R i q := by
  obtain ⟨P, Q, hP, hQ⟩ := prods (fun j => s.R j (s.b j)) p.m I.pos
  have hqN : q ≤ p.N := by unfold Prob.N; omega
  have h := expand I I.cs (fun j hj => (hQ j hj).2) q hqN
  have eq0 : p.e q = 0 := if_neg fun z => by omega
  rw [eq0, Int.mul_zero, Int.sub_zero] at h
  have h1 : P * s.c q < 0 := Int.mul_neg_of_pos_of_neg hP hc
  have h2 : 0 < S p.m fun j => - ((s.c (s.b j) - s.sc * p.e (s.b j)) * Q j * s.R j q) := by rw [S_neg]; omega
  obtain ⟨i, hi, hp⟩ := S_pos h2
  refine ⟨i, hi, ?_⟩
  rw [I.cb i hi] at hp
  have ee : p.e (s.b i) = 0 ∨ p.e (s.b i) = 1 := by unfold Prob.e; split <;> simp
  have hsp := I.sp
  obtain ⟨hQ1, _⟩ := hQ i hi
  rcases ee with ee | ee
  · rw [ee] at hp; simp at hp
  · rw [ee] at hp
    have : 0 < (s.sc * Q i) * s.R i q := by
      have e : - ((0 - s.sc * 1) * Q i * s.R i q) = (s.sc * Q i) * s.R i q := by grind
      omega
    exact pos_of_mul (Int.mul_pos hsp hQ1) this
/-- the end's costs -/
theorem cost_end (I : Inv p s) : s.c p.N ≤ 0 ∧ (s.c p.N = 0 → ∀ i, i < p.m → p.h ≤ s.b i → s.R i p.N = 0) := by
  obtain ⟨P, Q, hP, hQ⟩ := prods (fun j => s.R j (s.b j)) p.m I.pos
  have h := expand I I.cs (fun j hj => (hQ j hj).2) p.N (Nat.le_refl _)
  have eq0 : p.e p.N = 0 := if_neg fun z => by omega
  rw [eq0, Int.mul_zero, Int.sub_zero] at h
  have ee : ∀ i, p.e (s.b i) = 0 ∨ p.e (s.b i) = 1 := fun i => by unfold Prob.e; split <;> simp
  have each : ∀ i, i < p.m → 0 ≤ - ((s.c (s.b i) - s.sc * p.e (s.b i)) * Q i * s.R i p.N) := fun i hi => by
    rw [I.cb i hi]
    have e : - ((0 - s.sc * p.e (s.b i)) * Q i * s.R i p.N) = (s.sc * Q i * s.R i p.N) * p.e (s.b i) := by grind
    rw [e]
    have h1 : 0 ≤ s.sc * Q i * s.R i p.N := Int.mul_nonneg (Int.le_of_lt (Int.mul_pos I.sp (hQ i hi).1)) (I.rhs i hi)
    rcases ee i with ee | ee <;> rw [ee] <;> omega
  have hs := S_nonneg each
  have e2 : S p.m (fun i => - ((s.c (s.b i) - s.sc * p.e (s.b i)) * Q i * s.R i p.N)) = - (P * s.c p.N) := by rw [S_neg, h]
  rw [e2] at hs
  refine ⟨?_, fun e i hi hb => ?_⟩
  · by_cases z : 0 < s.c p.N
    · have := Int.mul_pos hP z; omega
    · omega
  · rw [e, Int.mul_zero] at e2
    have h0 := S_each each e2 i hi
    rw [I.cb i hi] at h0
    have e1 : p.e (s.b i) = 1 := if_pos ⟨hb, I.bl i hi⟩
    rw [e1] at h0
    have e3 : (s.sc * Q i) * s.R i p.N = 0 := by
      have e : - ((0 - s.sc * 1) * Q i * s.R i p.N) = (s.sc * Q i) * s.R i p.N := by grind
      omega
    exact eq0_of_mul (Int.mul_pos I.sp (hQ i hi).1) e3
/-- prices -/
theorem prices (I : Inv p s) (k : Nat) (hk : k ≤ p.N) (he : p.e k = 0) : S p.m (fun a => (s.sc - s.c (p.h + a)) * p.A a k) = - s.c k := by
  have h := I.cs k hk
  have h : s.c k - s.sc * p.e k = S p.m fun a => (s.c (p.h + a) - s.sc * p.e (p.h + a)) * p.A a k := h
  rw [he, Int.mul_zero, Int.sub_zero] at h
  rw [h, ← S_neg]
  refine S_congr fun a ha => ?_
  have e1 : p.e (p.h + a) = 1 := if_pos ⟨by omega, by unfold Prob.N; omega⟩
  rw [e1]; grind
end
end Piv
set_option linter.all false
set_option Elab.async false
/-! Piv2: no base comes twice (the least column enters, of the rows that bound it the one with the least column leaves). -/
namespace Piv
/-- a run of exchanges -/
structure Run (p : Prob) (n : Nat) (st : Nat → St) (r q : Nat → Nat) : Prop where
  inv : ∀ k, k ≤ n → Inv p (st k)
  step : ∀ k, k < n → Step p (st k) (st (k + 1)) (r k) (q k)
  neg : ∀ k, k < n → (st k).c (q k) < 0
  qh : ∀ k, k < n → q k < p.h
  first : ∀ k, k < n → ∀ t, t < q k → 0 ≤ (st k).c t
  tie : ∀ k, k < n → ∀ i, i < p.m → 0 < (st k).R i (q k) → (st k).R (r k) p.N * (st k).R i (q k) = (st k).R i p.N * (st k).R (r k) (q k) → (st k).b (r k) ≤ (st k).b i
section
variable {p : Prob} {n : Nat} {st : Nat → St} {r q : Nat → Nat}
def inB (p : Prob) (s : St) (v : Nat) : Prop := ∃ i, i < p.m ∧ s.b i = v
theorem base_next (T : Run p n st r q) {k i : Nat} (hk : k < n) (hi : i < p.m) : (st (k + 1)).b i = if i = r k then q k else (st k).b i := (T.step k hk).base i hi
/-- a column that comes into the base enters -/
theorem enters (T : Run p n st r q) {v x : Nat} : ∀ y, x ≤ y → y ≤ n → ¬ inB p (st x) v → inB p (st y) v → ∃ k, x ≤ k ∧ k < y ∧ q k = v
  | 0, h, _, h1, h2 => by
    have : x = 0 := by omega
    subst this; exact absurd h2 h1
  | y + 1, h, hy, h1, h2 => by
    by_cases e : x = y + 1
    · subst e; exact absurd h2 h1
    · by_cases z : inB p (st y) v
      · obtain ⟨k, k1, k2, k3⟩ := enters T y (by omega) (by omega) h1 z
        exact ⟨k, k1, by omega, k3⟩
      · obtain ⟨i, hi, e2⟩ := h2
        rw [base_next T (by omega) hi] at e2
        split at e2
        · exact ⟨y, by omega, by omega, e2⟩
        · exact absurd ⟨i, hi, e2⟩ z
/-- a column that goes out of the base leaves -/
theorem leaves (T : Run p n st r q) {v x : Nat} : ∀ y, x ≤ y → y ≤ n → inB p (st x) v → ¬ inB p (st y) v → ∃ k, x ≤ k ∧ k < y ∧ (st k).b (r k) = v
  | 0, h, _, h1, h2 => by
    have : x = 0 := by omega
    subst this; exact absurd h1 h2
  | y + 1, h, hy, h1, h2 => by
    by_cases e : x = y + 1
    · subst e; exact absurd h1 h2
    · by_cases z : inB p (st y) v
      · obtain ⟨i, hi, e2⟩ := z
        refine ⟨y, by omega, by omega, ?_⟩
        by_cases e3 : i = r y
        · rw [← e3]; exact e2
        · exact absurd ⟨i, hi, by rw [base_next T (by omega) hi, if_neg e3]; exact e2⟩ h2
      · obtain ⟨k, k1, k2, k3⟩ := leaves T y (by omega) (by omega) h1 z
        exact ⟨k, k1, by omega, k3⟩
/-- a row whose base is another one later was exchanged -/
theorem turned (T : Run p n st r q) {j x : Nat} (hj : j < p.m) : ∀ y, x ≤ y → y ≤ n → (st x).b j ≠ (st y).b j → ∃ k, x ≤ k ∧ k < y ∧ r k = j
  | 0, h, _, h1 => by
    have : x = 0 := by omega
    subst this; exact absurd rfl h1
  | y + 1, h, hy, h1 => by
    by_cases e : x = y + 1
    · subst e; exact absurd rfl h1
    · by_cases z : r y = j
      · exact ⟨y, by omega, by omega, z⟩
      · rw [base_next T (by omega) hj, if_neg (Ne.symm z)] at h1
        obtain ⟨k, k1, k2, k3⟩ := turned T hj y (by omega) (by omega) h1
        exact ⟨k, k1, by omega, k3⟩
def rat (p : Prob) (s t : St) : Int := t.c p.N * s.sc - s.c p.N * t.sc
theorem rat_step (T : Run p n st r q) {k : Nat} (hk : k < n) : 0 ≤ rat p (st k) (st (k + 1)) ∧ (rat p (st k) (st (k + 1)) = 0 → (st k).R (r k) p.N = 0) := by
  obtain ⟨g, hg, h, h2⟩ := (T.step k hk).cost
  have h1 := h p.N (Nat.le_refl _)
  have I := T.inv k (by omega)
  have hR := I.rhs (r k) (T.step k hk).hr
  have e : g * rat p (st k) (st (k + 1)) = (- (st k).c (q k) * (st k).sc) * (st k).R (r k) p.N := by
    unfold rat
    have e1 : g * ((st (k + 1)).c p.N * (st k).sc - (st k).c p.N * (st (k + 1)).sc) = (g * (st (k + 1)).c p.N) * (st k).sc - (st k).c p.N * (g * (st (k + 1)).sc) := by grind
    rw [e1, h1, h2]; grind
  have hpos : 0 < - (st k).c (q k) * (st k).sc := Int.mul_pos (by have := T.neg k hk; omega) I.sp
  refine ⟨nonneg_of_mul hg (by rw [e]; exact Int.mul_nonneg (Int.le_of_lt hpos) hR), fun z => ?_⟩
  rw [z, Int.mul_zero] at e
  exact eq0_of_mul hpos e.symm
theorem rat_trans (T : Run p n st r q) {x y z : Nat} (hx : x ≤ n) (hy : y ≤ n) (hz : z ≤ n) (h1 : 0 ≤ rat p (st x) (st y)) (h2 : 0 ≤ rat p (st y) (st z)) : 0 ≤ rat p (st x) (st z) ∧ (rat p (st x) (st z) = 0 → rat p (st x) (st y) = 0 ∧ rat p (st y) (st z) = 0) := by
  have e : (st y).sc * rat p (st x) (st z) = (st x).sc * rat p (st y) (st z) + (st z).sc * rat p (st x) (st y) := by unfold rat; grind
  have a := Int.mul_nonneg (Int.le_of_lt (T.inv x hx).sp) h2
  have b := Int.mul_nonneg (Int.le_of_lt (T.inv z hz).sp) h1
  refine ⟨nonneg_of_mul (T.inv y hy).sp (by omega), fun z0 => ?_⟩
  rw [z0, Int.mul_zero] at e
  exact ⟨eq0_of_mul (T.inv z hz).sp (by omega), eq0_of_mul (T.inv x hx).sp (by omega)⟩
theorem rat_mono (T : Run p n st r q) {x : Nat} : ∀ y, x ≤ y → y ≤ n → 0 ≤ rat p (st x) (st y)
  | 0, h, _ => by
    have : x = 0 := by omega
    subst this; unfold rat; omega
  | y + 1, h, hy => by
    by_cases e : x = y + 1
    · subst e; unfold rat; omega
    · exact (rat_trans T (by omega) (by omega) hy (rat_mono T y (by omega) (by omega)) (rat_step T (by omega)).1).1
theorem still (T : Run p n st r q) {x z : Nat} (hz : z ≤ n) (e : rat p (st x) (st z) = 0) {k : Nat} (h1 : x ≤ k) (h2 : k < z) : (st k).R (r k) p.N = 0 := by
  have a := rat_mono T k h1 (by omega)
  have b := rat_step T (k := k) (by omega)
  have c := rat_mono T (x := k + 1) z (by omega) hz
  have t1 := rat_trans T (x := x) (y := k) (z := k + 1) (by omega) (by omega) (by omega) a b.1
  have t2 := (rat_trans T (x := x) (y := k + 1) (z := z) (by omega) (by omega) hz t1.1 c).2 e
  exact b.2 (t1.2 t2.1).2
theorem zero_next (T : Run p n st r q) {k : Nat} (hk : k < n) (h0 : (st k).R (r k) p.N = 0) {j : Nat} (hj : j < p.m) : (st (k + 1)).R j p.N = 0 ↔ (st k).R j p.N = 0 := by
  have P := T.step k hk
  by_cases e : j = r k
  · rw [e, P.rowr _ (Nat.le_refl _)]
  · obtain ⟨g, hg, h⟩ := P.rows j hj e
    have h1 := h p.N (Nat.le_refl _)
    rw [h0, Int.mul_zero, Int.sub_zero] at h1
    constructor
    · intro z
      rw [z, Int.mul_zero] at h1
      exact eq0_of_mul P.hp h1.symm
    · intro z
      rw [z, Int.mul_zero] at h1
      exact eq0_of_mul hg h1
theorem zero_on (T : Run p n st r q) {x z : Nat} (hz : z ≤ n) (h0 : ∀ k, x ≤ k → k < z → (st k).R (r k) p.N = 0) {j : Nat} (hj : j < p.m) : ∀ y, x ≤ y → y ≤ z → ((st y).R j p.N = 0 ↔ (st x).R j p.N = 0)
  | 0, h, _ => by
    have : x = 0 := by omega
    subst this; exact Iff.rfl
  | y + 1, h, hy => by
    by_cases e : x = y + 1
    · subst e; exact Iff.rfl
    · exact (zero_next T (k := y) (by omega) (h0 y (by omega) (by omega)) hj).trans (zero_on T hz h0 hj y (by omega) (by omega))
/-- the greatest column that enters on the way -/
theorem greatest (q : Nat → Nat) (x : Nat) : ∀ z, x < z → ∃ k, x ≤ k ∧ k < z ∧ ∀ j, x ≤ j → j < z → q j ≤ q k
  | 0, h => absurd h (Nat.not_lt_zero x)
  | z + 1, h => by
    by_cases e : x = z
    · subst e
      exact ⟨x, Nat.le_refl _, Nat.lt_succ_self _, fun j h1 h2 => by rw [show j = x by omega]; exact Nat.le_refl _⟩
    · obtain ⟨k, k1, k2, k3⟩ := greatest q x z (by omega)
      by_cases h3 : q z ≤ q k
      · refine ⟨k, k1, by omega, fun j h1 h2 => ?_⟩
        by_cases e : j = z
        · rw [e]; exact h3
        · exact k3 j h1 (by omega)
      · refine ⟨z, by omega, by omega, fun j h1 h2 => ?_⟩
        by_cases e : j = z
        · rw [e]; exact Nat.le_refl _
        · have := k3 j h1 (by omega); omega
/-- no base comes twice -/
theorem bland (T : Run p n st r q) {x z : Nat} (hxz : x < z) (hz : z ≤ n) (same : ∀ i, i < p.m → (st x).b i = (st z).b i) : False := by
  have Ix := T.inv x (by omega)
  have Iz := T.inv z hz
  -- the costs of the ends agree
  have r0 : rat p (st x) (st z) = 0 := by
    have sp : p.span fun k => (st x).sc * (st z).c k + (-(st z).sc) * (st x).c k := by
      refine span_congr (span_comb (st x).sc (-(st z).sc) Iz.cs Ix.cs) fun c hc => ?_
      show (st x).sc * (st z).c c + (-(st z).sc) * (st x).c c = (st x).sc * ((st z).c c - (st z).sc * p.e c) + (-(st z).sc) * ((st x).c c - (st x).sc * p.e c)
      grind
    have h := Ix.K _ sp (fun i hi => by
      show (st x).sc * (st z).c ((st x).b i) + (-(st z).sc) * (st x).c ((st x).b i) = 0
      rw [Ix.cb i hi, same i hi, Iz.cb i hi]; omega) p.N (Nat.le_refl _)
    have h : (st x).sc * (st z).c p.N + (-(st z).sc) * (st x).c p.N = 0 := h
    unfold rat
    grind
  have h0 : ∀ k, x ≤ k → k < z → (st k).R (r k) p.N = 0 := fun k h1 h2 => still T hz r0 h1 h2
  have z0 : ∀ {j : Nat}, j < p.m → ∀ a b, x ≤ a → a ≤ z → x ≤ b → b ≤ z → (st a).R j p.N = 0 → (st b).R j p.N = 0 := fun hj a b a1 a2 b1 b2 h =>
    (zero_on T hz h0 hj b b1 b2).mpr ((zero_on T hz h0 hj a a1 a2).mp h)
  have sameB : ∀ v, inB p (st x) v ↔ inB p (st z) v := fun v => ⟨fun ⟨i, hi, e⟩ => ⟨i, hi, by rw [← same i hi]; exact e⟩, fun ⟨i, hi, e⟩ => ⟨i, hi, by rw [same i hi]; exact e⟩⟩
  -- the greatest that enters, at a
  obtain ⟨a, a1, a2, amax⟩ := greatest q x z hxz
  have Ia := T.inv a (by omega)
  have nota : ¬ inB p (st a) (q a) := fun ⟨i, hi, e⟩ => by
    have := Ia.cb i hi
    have := T.neg a (by omega)
    rw [e] at *; omega
  -- it leaves at b
  have inx : inB p (st (a + 1)) (q a) := ⟨r a, (T.step a (by omega)).hr, by rw [base_next T (by omega) (T.step a (by omega)).hr, if_pos rfl]⟩
  obtain ⟨b, b1, b2, b3⟩ : ∃ b, x ≤ b ∧ b < z ∧ (st b).b (r b) = q a := by
    by_cases y : inB p (st z) (q a)
    · obtain ⟨k, k1, k2, k3⟩ := leaves T a a1 (by omega) ((sameB _).mpr y) nota
      exact ⟨k, k1, by omega, k3⟩
    · obtain ⟨k, k1, k2, k3⟩ := leaves T z (by omega) hz inx y
      exact ⟨k, by omega, k2, k3⟩
  have Ib := T.inv b (by omega)
  have Sb := T.step b (by omega)
  have sb := amax b b1 b2
  have sne : q b ≠ q a := fun e => by
    have h1 := Ib.cb (r b) Sb.hr
    have h2 := T.neg b (by omega)
    rw [b3, ← e] at h1; omega
  have ca : 0 ≤ (st a).c (q b) := T.first a (by omega) (q b) (by omega)
  obtain ⟨P, Q, hP, hQ⟩ := prods (fun j => (st b).R j ((st b).b j)) p.m Ib.pos
  have sp : p.span fun k => (st b).sc * (st a).c k + (-(st a).sc) * (st b).c k := by
    refine span_congr (span_comb (st b).sc (-(st a).sc) Ia.cs Ib.cs) fun c hc => ?_
    show (st b).sc * (st a).c c + (-(st a).sc) * (st b).c c = (st b).sc * ((st a).c c - (st a).sc * p.e c) + (-(st a).sc) * ((st b).c c - (st b).sc * p.e c)
    grind
  have ex := expand Ib sp (fun j hj => (hQ j hj).2) (q b) (Nat.le_of_lt Sb.hq)
  have ex : P * ((st b).sc * (st a).c (q b) + (-(st a).sc) * (st b).c (q b)) = S p.m fun j => ((st b).sc * (st a).c ((st b).b j) + (-(st a).sc) * (st b).c ((st b).b j)) * Q j * (st b).R j (q b) := ex
  have lp : 0 < (st b).sc * (st a).c (q b) + (-(st a).sc) * (st b).c (q b) := by
    have h1 := Int.mul_nonneg (Int.le_of_lt Ib.sp) ca
    have h2 : (st a).sc * (st b).c (q b) < 0 := Int.mul_neg_of_pos_of_neg Ia.sp (T.neg b (by omega))
    rw [Int.neg_mul]; omega
  have lp := Int.mul_pos hP lp
  rw [ex] at lp
  obtain ⟨j, hj, hp⟩ := S_pos lp
  have hp : 0 < ((st b).sc * (st a).c ((st b).b j) + (-(st a).sc) * (st b).c ((st b).b j)) * Q j * (st b).R j (q b) := hp
  rw [Ib.cb j hj, Int.mul_zero, Int.add_zero] at hp
  have hp2 : 0 < (st a).c ((st b).b j) * (st b).R j (q b) := by
    refine pos_of_mul (Int.mul_pos Ib.sp (hQ j hj).1) ?_
    have e : (st b).sc * Q j * ((st a).c ((st b).b j) * (st b).R j (q b)) = (st b).sc * (st a).c ((st b).b j) * Q j * (st b).R j (q b) := by grind
    rw [e]; exact hp
  -- j is not the row that is exchanged
  have jne : j ≠ r b := fun e => by
    rw [e, b3] at hp2
    have h1 := T.neg a (by omega)
    have h2 := Int.mul_neg_of_neg_of_pos h1 Sb.hp
    omega
  -- its column is not in the base at a
  have cne : (st a).c ((st b).b j) ≠ 0 := fun e => by rw [e, Int.zero_mul] at hp2; omega
  have notA : ¬ inB p (st a) ((st b).b j) := fun ⟨i, hi, e⟩ => cne (by rw [← e]; exact Ia.cb i hi)
  have inBb : inB p (st b) ((st b).b j) := ⟨j, hj, rfl⟩
  -- so it enters on the way
  obtain ⟨k, k1, k2, k3⟩ : ∃ k, x ≤ k ∧ k < z ∧ q k = (st b).b j := by
    by_cases lt : a < b
    · obtain ⟨k, k1, k2, k3⟩ := enters T b (by omega) (by omega) notA inBb
      exact ⟨k, by omega, by omega, k3⟩
    · by_cases y : inB p (st x) ((st b).b j)
      · obtain ⟨k, k1, k2, k3⟩ := enters T z (by omega) hz notA ((sameB _).mp y)
        exact ⟨k, by omega, k2, k3⟩
      · obtain ⟨k, k1, k2, k3⟩ := enters T b b1 (by omega) y inBb
        exact ⟨k, k1, by omega, k3⟩
  have le : (st b).b j ≤ q a := by rw [← k3]; exact amax k k1 k2
  have lt : (st b).b j < q a := by
    rcases Nat.lt_or_eq_of_le le with h | h
    · exact h
    · exact absurd (base_inj Ib hj Sb.hr (by rw [h, b3])) jne
  have cpos : 0 ≤ (st a).c ((st b).b j) := T.first a (by omega) _ lt
  have rpos : 0 < (st b).R j (q b) := pos_of_mul (g := (st a).c ((st b).b j)) (by omega) hp2
  -- its side is 0
  have side : (st b).R j p.N = 0 := by
    have dif : (st a).b j ≠ (st b).b j := fun e => notA ⟨j, hj, e⟩
    obtain ⟨k, k1, k2, k3⟩ : ∃ k, x ≤ k ∧ k < z ∧ r k = j := by
      by_cases lt : a ≤ b
      · obtain ⟨k, k1, k2, k3⟩ := turned T hj b lt (by omega) dif
        exact ⟨k, by omega, by omega, k3⟩
      · obtain ⟨k, k1, k2, k3⟩ := turned T hj a (by omega) (by omega) (Ne.symm dif)
        exact ⟨k, by omega, by omega, k3⟩
    have := h0 k k1 k2
    rw [k3] at this
    exact z0 hj k b k1 (by omega) b1 (by omega) this
  have := T.tie b (by omega) j hj rpos (by rw [side, h0 b b1 b2]; omega)
  rw [b3] at this
  omega
end
end Piv
set_option linter.all false
set_option Elab.async false
/-! Piv3: a run of exchanges ends; how great the numbers are. -/
namespace Piv
/-! ### lists of digits -/
def enc (Y : Nat) : Nat → (Nat → Nat) → Nat
  | 0, _ => 0
  | k + 1, v => enc Y k v + Y ^ k * v k
theorem enc_lt {Y : Nat} {v : Nat → Nat} : ∀ {k : Nat}, (∀ e, e < k → v e < Y) → enc Y k v < Y ^ k
  | 0, _ => Nat.one_pos
  | k + 1, h => by
    have h1 := enc_lt fun e he => h e (Nat.lt_succ_of_lt he)
    have h2 := h k (Nat.lt_succ_self k)
    show enc Y k v + Y ^ k * v k < Y ^ (k + 1)
    have h3 : Y ^ k * v k + Y ^ k ≤ Y ^ k * Y := by
      rw [← Nat.mul_succ]; exact Nat.mul_le_mul_left _ h2
    rw [Nat.pow_succ]; omega
theorem enc_inj {Y : Nat} {v u : Nat → Nat} : ∀ {k : Nat}, (∀ e, e < k → v e < Y) → (∀ e, e < k → u e < Y) → enc Y k v = enc Y k u → ∀ e, e < k → v e = u e
  | 0, _, _, _, e, he => absurd he (Nat.not_lt_zero e)
  | k + 1, hv, hu, h, e, he => by
    have h : enc Y k v + Y ^ k * v k = enc Y k u + Y ^ k * u k := h
    have h1 := enc_lt fun e he => hv e (Nat.lt_succ_of_lt he)
    have h2 := enc_lt fun e he => hu e (Nat.lt_succ_of_lt he)
    have e1 : (enc Y k v + Y ^ k * v k) / Y ^ k = v k := by rw [Nat.add_mul_div_left _ _ (by omega), Nat.div_eq_of_lt h1]; omega
    have e2 : (enc Y k u + Y ^ k * u k) / Y ^ k = u k := by rw [Nat.add_mul_div_left _ _ (by omega), Nat.div_eq_of_lt h2]; omega
    have e3 : v k = u k := by rw [← e1, ← e2, h]
    rw [e3] at h
    rcases Nat.lt_or_eq_of_le (Nat.le_of_lt_succ he) with he | rfl
    · exact enc_inj (fun e he => hv e (Nat.lt_succ_of_lt he)) (fun e he => hu e (Nat.lt_succ_of_lt he)) (by omega) e he
    · exact e3
def dig (b i a : Nat) : Nat := i / b ^ a % b
theorem enc_dig (b i : Nat) : ∀ n : Nat, enc b n (dig b i) = i % b ^ n
  | 0 => by simp [enc, Nat.mod_one]
  | n + 1 => by
    show enc b n (dig b i) + b ^ n * dig b i n = _
    rw [enc_dig b i n, Nat.mod_pow_succ]; rfl
theorem nodup_len {α : Type} [DecidableEq α] : ∀ {l ns : List α}, l.Nodup → (∀ k ∈ l, k ∈ ns) → l.length ≤ ns.length
  | [], _, _, _ => Nat.zero_le _
  | a :: l, ns, h, hs => by
    obtain ⟨h1, h2⟩ := List.nodup_cons.mp h
    have ha : a ∈ ns := hs a List.mem_cons_self
    have ih := nodup_len (ns := ns.erase a) h2 fun k hk => by
      refine (List.mem_erase_of_ne ?_).mpr (hs k (List.mem_cons_of_mem _ hk))
      rintro rfl; exact h1 hk
    have := List.length_erase_of_mem ha
    have pos : 0 < ns.length := List.length_pos_of_mem ha
    rw [List.length_cons]; omega
/-- more than there is room for: two alike -/
theorem pigeon {X Y : Nat} {f : Nat → Nat} (h : ∀ i, i < X → f i < Y) (hXY : Y < X) : ∃ i j, i < j ∧ j < X ∧ f i = f j := Classical.byContradiction fun no => by
  have nd : ((List.range X).map f).Nodup := by
    rw [List.Nodup, List.pairwise_map]
    refine List.Pairwise.imp_of_mem (R := fun a b => a < b) (fun {a b} ha hb lt e => no ⟨a, b, lt, List.mem_range.mp hb, e⟩) List.pairwise_lt_range
  have := nodup_len (ns := List.range Y) nd fun k hk => by
    obtain ⟨i, hi, rfl⟩ := List.mem_map.mp hk
    exact List.mem_range.mpr (h i (List.mem_range.mp hi))
  rw [List.length_map, List.length_range, List.length_range] at this
  omega
/-! ### a run ends -/
theorem run_short {p : Prob} {n : Nat} {st : Nat → St} {r q : Nat → Nat} (T : Run p n st r q) : n < p.N ^ p.m := Classical.byContradiction fun h => by
  obtain ⟨i, j, hij, hj, e⟩ := pigeon (X := n + 1) (Y := p.N ^ p.m) (f := fun k => enc p.N p.m (st (min k n)).b) (fun k _ => enc_lt fun a ha => (T.inv (min k n) (by omega)).bl a ha) (by omega)
  have ei : min i n = i := by omega
  have ej : min j n = j := by omega
  simp only [ei, ej] at e
  exact bland T hij (by omega) fun a ha => enc_inj (fun a ha => (T.inv i (by omega)).bl a ha) (fun a ha => (T.inv j (by omega)).bl a ha) e a ha
/-! ### small numbers that solve few equations -/
theorem siegel {k n M : Nat} {C : Nat → Nat → Int} (hC : ∀ e, e < k → ∀ a, a < n → (C e a).natAbs ≤ M) (hkn : k < n) (hM : 0 < M) :
    ∃ x : Nat → Int, (∃ a, a < n ∧ x a ≠ 0) ∧ (∀ a, a < n → (x a).natAbs ≤ (n * M) ^ k) ∧ ∀ e, e < k → S n (fun a => C e a * x a) = 0 := by
  generalize hB : (n * M) ^ k = B
  have hnM : 0 < n * M := Nat.mul_pos (by omega) hM
  -- what is added so that nothing is below 0
  let neg : Nat → Int := fun e => S n fun a => (if C e a < 0 then - C e a else 0) * B
  let F : Nat → Nat → Int := fun i e => S n (fun a => C e a * (dig (B + 1) i a : Int)) + neg e
  have hd : ∀ i a, dig (B + 1) i a ≤ B := fun i a => Nat.le_of_lt_succ (Nat.mod_lt _ (Nat.succ_pos B))
  have F0 : ∀ i e, e < k → 0 ≤ F i e ∧ F i e ≤ ((n * M * B : Nat) : Int) := fun i e he => by
    have e1 : F i e = S n fun a => C e a * (dig (B + 1) i a : Int) + (if C e a < 0 then - C e a else 0) * B := (S_add n).symm
    rw [e1]
    have each : ∀ a, a < n → 0 ≤ C e a * (dig (B + 1) i a : Int) + (if C e a < 0 then - C e a else 0) * (B : Int) ∧ C e a * (dig (B + 1) i a : Int) + (if C e a < 0 then - C e a else 0) * (B : Int) ≤ ((M * B : Nat) : Int) := fun a ha => by
      have h1 := hd i a
      have h2 := hC e he a ha
      generalize dig (B + 1) i a = d at h1
      generalize C e a = c at h2
      have h3 : ((M * B : Nat) : Int) = (M : Int) * (B : Int) := by simp
      rw [h3]
      split
      · have e2 : c * (d : Int) + -c * (B : Int) = (-c) * ((B : Int) - d) := by grind
        rw [e2]
        refine ⟨Int.mul_nonneg (by omega) (by omega), ?_⟩
        have a1 : (-c) * ((B : Int) - d) ≤ (M : Int) * ((B : Int) - d) := Int.mul_le_mul_of_nonneg_right (by omega) (by omega)
        have a2 : (M : Int) * ((B : Int) - d) ≤ (M : Int) * (B : Int) := Int.mul_le_mul_of_nonneg_left (by omega) (by omega)
        omega
      · rw [Int.zero_mul, Int.add_zero]
        refine ⟨Int.mul_nonneg (by omega) (by omega), ?_⟩
        have a1 : c * (d : Int) ≤ (M : Int) * (d : Int) := Int.mul_le_mul_of_nonneg_right (by omega) (by omega)
        have a2 : (M : Int) * (d : Int) ≤ (M : Int) * (B : Int) := Int.mul_le_mul_of_nonneg_left (by omega) (by omega)
        omega
    have s0 := S_nonneg fun a ha => (each a ha).1
    refine ⟨s0, ?_⟩
    have s1 := S_abs (B := M * B) (n := n) fun a ha => (by have := each a ha; omega : (C e a * (dig (B + 1) i a : Int) + (if C e a < 0 then - C e a else 0) * (B : Int)).natAbs ≤ M * B)
    rw [← Nat.mul_assoc] at s1
    omega
  have hlt : (n * M * B + 1) ^ k < (B + 1) ^ n := by
    have h1 : n * M * B + 1 ≤ n * M * (B + 1) := by rw [Nat.mul_add, Nat.mul_one]; omega
    have h2 : (n * M * B + 1) ^ k ≤ (n * M) ^ k * (B + 1) ^ k := by rw [← Nat.mul_pow]; exact Nat.pow_le_pow_left h1 k
    have h3 : (n * M) ^ k * (B + 1) ^ k < (B + 1) * (B + 1) ^ k := by
      rw [hB]; exact Nat.mul_lt_mul_of_pos_right (Nat.lt_succ_self B) (Nat.pow_pos (Nat.succ_pos B))
    have h4 : (B + 1) * (B + 1) ^ k = (B + 1) ^ (k + 1) := by rw [Nat.pow_succ, Nat.mul_comm]
    have h5 : (B + 1) ^ (k + 1) ≤ (B + 1) ^ n := Nat.pow_le_pow_right (Nat.succ_pos B) hkn
    omega
  obtain ⟨i, j, hij, hj, eij⟩ := pigeon (X := (B + 1) ^ n) (f := fun i => enc (n * M * B + 1) k fun e => (F i e).toNat) (fun i _ => enc_lt fun e he => by have := F0 i e he; omega) hlt
  have Feq : ∀ e, e < k → F i e = F j e := fun e he => by
    have := enc_inj (fun e he => by have := F0 i e he; omega) (fun e he => by have := F0 j e he; omega) eij e he
    have h1 := F0 i e he
    have h2 := F0 j e he
    have this : (F i e).toNat = (F j e).toNat := this
    omega
  refine ⟨fun a => (dig (B + 1) j a : Int) - (dig (B + 1) i a : Int), Classical.byContradiction fun no => ?_, fun a ha => ?_, fun e he => ?_⟩
  · have same : ∀ a, a < n → dig (B + 1) i a = dig (B + 1) j a := fun a ha => Classical.byContradiction fun ne => no ⟨a, ha, fun z => ne (by
      have z : (dig (B + 1) j a : Int) - (dig (B + 1) i a : Int) = 0 := z
      omega)⟩
    have e1 : enc (B + 1) n (dig (B + 1) i) = enc (B + 1) n (dig (B + 1) j) := by
      have : ∀ m, m ≤ n → enc (B + 1) m (dig (B + 1) i) = enc (B + 1) m (dig (B + 1) j) := fun m => by
        induction m with
        | zero => intro _; rfl
        | succ m ih =>
          intro hm
          show enc (B + 1) m _ + (B + 1) ^ m * dig (B + 1) i m = enc (B + 1) m _ + (B + 1) ^ m * dig (B + 1) j m
          rw [ih (by omega), same m (by omega)]
      exact this n (Nat.le_refl n)
    rw [enc_dig, enc_dig, Nat.mod_eq_of_lt (by omega), Nat.mod_eq_of_lt hj] at e1
    omega
  · have h1 := hd i a
    have h2 := hd j a
    show ((dig (B + 1) j a : Int) - (dig (B + 1) i a : Int)).natAbs ≤ B
    omega
  · have h := Feq e he
    have h : S n (fun a => C e a * (dig (B + 1) i a : Int)) + neg e = S n (fun a => C e a * (dig (B + 1) j a : Int)) + neg e := h
    have e1 : S n (fun a => C e a * ((dig (B + 1) j a : Int) - (dig (B + 1) i a : Int))) = S n (fun a => C e a * (dig (B + 1) j a : Int)) - S n (fun a => C e a * (dig (B + 1) i a : Int)) := by
      rw [← S_sub]; exact S_congr fun a _ => Int.mul_sub _ _ _
    rw [e1]; omega
/-- what shares nothing, times something -/
theorem prim_dvd {n : Nat} {l u : Nat → Int} {p κ : Int} (hl : ∀ d : Int, 0 < d → (∀ a, a < n → d ∣ l a) → d = 1) (hp : 0 < p) (h : ∀ a, a < n → p * u a = κ * l a) : ∃ t : Int, κ = t * p ∧ ∀ a, a < n → u a = t * l a := by
  have hg : 0 < Int.gcd p κ := Int.gcd_pos_of_ne_zero_left _ (by omega)
  obtain ⟨p', hp'⟩ := Int.gcd_dvd_left p κ
  obtain ⟨κ', hκ'⟩ := Int.gcd_dvd_right p κ
  have cop : Int.gcd p' κ' = 1 := by
    have e : Int.gcd ((Int.gcd p κ : Int) * p') ((Int.gcd p κ : Int) * κ') = (Int.gcd p κ) * Int.gcd p' κ' := by
      rw [Int.gcd_mul_left]; simp
    rw [← hp', ← hκ'] at e
    have : Int.gcd p κ * Int.gcd p' κ' = Int.gcd p κ * 1 := by rw [Nat.mul_one]; exact e.symm
    exact Nat.eq_of_mul_eq_mul_left hg this
  have gz : (Int.gcd p κ : Int) ≠ 0 := by omega
  have p'pos : 0 < p' := by
    rw [hp'] at hp
    exact (by
      rcases Int.lt_trichotomy p' 0 with z | z | z
      · have := Int.mul_neg_of_pos_of_neg (show (0 : Int) < (Int.gcd p κ : Int) by omega) z; omega
      · rw [z, Int.mul_zero] at hp; omega
      · exact z)
  have dv : ∀ a, a < n → p' ∣ l a := fun a ha => by
    have h1 := h a ha
    have h2 : (Int.gcd p κ : Int) * (p' * u a) = (Int.gcd p κ : Int) * (κ' * l a) := by rw [← Int.mul_assoc, ← Int.mul_assoc, ← hp', ← hκ']; exact h1
    have h3 := Int.eq_of_mul_eq_mul_left gz h2
    have h4 : p' ∣ κ' * l a := ⟨u a, h3.symm⟩
    have h5 : p'.natAbs ∣ κ'.natAbs * (l a).natAbs := by rw [← Int.natAbs_mul]; exact Int.natAbs_dvd_natAbs.mpr h4
    exact Int.natAbs_dvd_natAbs.mp (Nat.Coprime.dvd_of_dvd_mul_left (show Nat.Coprime p'.natAbs κ'.natAbs from cop) h5)
  have one := hl p' p'pos dv
  refine ⟨κ', ?_, fun a ha => ?_⟩
  · rw [one, Int.mul_one] at hp'
    rw [← hp'] at hκ'
    rw [Int.mul_comm]; exact hκ'
  · have h1 := h a ha
    rw [one, Int.mul_one] at hp'
    rw [← hp'] at hκ'
    have h2 : p * u a = p * (κ' * l a) := by rw [h1, ← Int.mul_assoc, ← hκ']
    exact Int.eq_of_mul_eq_mul_left (by omega) h2
theorem natAbs_le_mul {t x : Int} (h : t ≠ 0) : x.natAbs ≤ (t * x).natAbs := by
  rw [Int.natAbs_mul]
  exact Nat.le_mul_of_pos_left _ (by omega)
section
variable {p : Prob} {s : St}
/-- nothing is shared by a row -/
def Prim (p : Prob) (f : Nat → Int) : Prop := ∀ d : Int, 0 < d → (∀ c, c ≤ p.N → d ∣ f c) → d = 1
theorem S_dvd {d : Int} {f : Nat → Int} : ∀ {n : Nat}, (∀ i, i < n → d ∣ f i) → d ∣ S n f
  | 0, _ => ⟨0, (Int.mul_zero d).symm⟩
  | n + 1, h => Int.dvd_add (S_dvd fun i hi => h i (Nat.lt_succ_of_lt hi)) (h n (Nat.lt_succ_self n))
theorem row_bound (ok : p.Ok) (I : Inv p s) {M : Nat} (hM : 0 < M) (hA : ∀ a, a < p.m → ∀ c, c < p.N → (p.A a c).natAbs ≤ M) {i : Nat} (hi : i < p.m) (hP : Prim p (s.R i)) : ∀ a, a < p.m → (s.R i (p.h + a)).natAbs ≤ (p.m * M) ^ (p.m - 1) := by
  let jj : Nat → Nat := fun e => if e < i then e else e + 1
  have hj : ∀ e, e < p.m - 1 → jj e < p.m ∧ jj e ≠ i := fun e he => by
    show (if e < i then e else e + 1) < p.m ∧ (if e < i then e else e + 1) ≠ i
    split <;> omega
  obtain ⟨x, ⟨a0, ha0, hx0⟩, hxB, hx⟩ := siegel (k := p.m - 1) (n := p.m) (M := M) (C := fun e a => p.A a (s.b (jj e))) (fun e he a ha => hA a ha _ (I.bl _ (hj e he).1)) (by omega) hM
  -- the sum of the first rows by x
  have wsp : p.span fun c => S p.m fun a => x a * p.A a c := span_S fun a ha => span_A ok ha
  have wh : ∀ a, a < p.m → S p.m (fun b => x b * p.A b (p.h + a)) = x a := fun a ha => by
    rw [S_single ha fun b hb ne => by rw [ok.hlp b hb a ha, if_neg ne]; exact Int.mul_zero _, ok.hlp a ha a ha, if_pos rfl]; omega
  have wb : ∀ j, j < p.m → j ≠ i → S p.m (fun a => x a * p.A a (s.b j)) = 0 := fun j hj' ne => by
    have : ∃ e, e < p.m - 1 ∧ jj e = j := by
      by_cases z : j < i
      · exact ⟨j, by omega, if_pos z⟩
      · refine ⟨j - 1, by omega, ?_⟩
        show (if j - 1 < i then j - 1 else j - 1 + 1) = j
        rw [if_neg (by omega)]; omega
    obtain ⟨e, he, ej⟩ := this
    have := hx e he
    rw [← this]
    exact S_congr fun a _ => by rw [← ej, Int.mul_comm]
  have z0 := I.K (fun c => s.R i (s.b i) * (S p.m fun a => x a * p.A a c) + (-(S p.m fun a => x a * p.A a (s.b i))) * s.R i c) (span_comb _ _ wsp (I.row i hi)) fun j hj' => by
    show s.R i (s.b i) * (S p.m fun a => x a * p.A a (s.b j)) + (-(S p.m fun a => x a * p.A a (s.b i))) * s.R i (s.b j) = 0
    by_cases e : j = i
    · subst e; grind
    · rw [wb j hj' e, I.zero j hj' i hi e]; omega
  obtain ⟨t, t1, t2⟩ := prim_dvd (n := p.m) (l := fun a => s.R i (p.h + a)) (u := x) (p := s.R i (s.b i)) (κ := S p.m fun a => x a * p.A a (s.b i)) (fun d hd h => hP d hd fun c hc => by
      rw [I.row i hi c hc]
      exact S_dvd fun a ha => by
        obtain ⟨y, hy⟩ := h a ha
        exact ⟨y * p.A a c, by rw [hy, Int.mul_assoc]⟩) (I.pos i hi) fun a ha => by
    have := z0 (p.h + a) (helper_lt ha)
    have this : s.R i (s.b i) * (S p.m fun b => x b * p.A b (p.h + a)) + (-(S p.m fun a => x a * p.A a (s.b i))) * s.R i (p.h + a) = 0 := this
    rw [wh a ha] at this
    rw [Int.neg_mul] at this
    omega
  have tne : t ≠ 0 := fun e => hx0 (by rw [t2 a0 ha0, e]; exact Int.zero_mul _)
  exact fun a ha => Nat.le_trans (natAbs_le_mul tne) (by rw [← t2 a ha]; exact hxB a ha)
theorem row_bound' (ok : p.Ok) (I : Inv p s) {M B : Nat} {i : Nat} (hi : i < p.m) (hB : ∀ a, a < p.m → (s.R i (p.h + a)).natAbs ≤ B) {c : Nat} (hc : c ≤ p.N) (hA : ∀ a, a < p.m → (p.A a c).natAbs ≤ M) : (s.R i c).natAbs ≤ p.m * (B * M) := by
  rw [I.row i hi c hc]
  exact S_abs fun a ha => by rw [Int.natAbs_mul]; exact Nat.mul_le_mul (hB a ha) (hA a ha)
/-- nothing is shared by the costs and their scale -/
def PrimC (p : Prob) (s : St) : Prop := ∀ d : Int, 0 < d → d ∣ s.sc → (∀ c, c ≤ p.N → d ∣ s.c c) → d = 1
theorem cost_bound (ok : p.Ok) (I : Inv p s) {M : Nat} (hM : 0 < M) (hA : ∀ a, a < p.m → ∀ c, c < p.N → (p.A a c).natAbs ≤ M) (hP : PrimC p s) :
    s.sc.natAbs ≤ ((p.m + 1) * (p.m * M + 1)) ^ p.m ∧ ∀ a, a < p.m → (s.c (p.h + a)).natAbs ≤ ((p.m + 1) * (p.m * M + 1)) ^ p.m := by
  let c0 : Nat → Int := fun k => p.e k - S p.m fun a => p.A a k
  have e1 : ∀ a, a < p.m → p.e (p.h + a) = 1 := fun a ha => if_pos ⟨by omega, by unfold Prob.N; omega⟩
  have sA : ∀ a, a < p.m → S p.m (fun b => p.A b (p.h + a)) = 1 := fun a ha => by
    rw [S_single ha fun b hb ne => by rw [ok.hlp b hb a ha, if_neg ne], ok.hlp a ha a ha, if_pos rfl]
  have c0h : ∀ a, a < p.m → c0 (p.h + a) = 0 := fun a ha => by
    show p.e (p.h + a) - S p.m (fun b => p.A b (p.h + a)) = 0
    rw [e1 a ha, sA a ha]; rfl
  have c0B : ∀ k, k < p.N → (c0 k).natAbs ≤ p.m * M + 1 := fun k hk => by
    have h1 := S_abs (B := M) (n := p.m) fun a ha => hA a ha k hk
    have h2 : (p.e k).natAbs ≤ 1 := by unfold Prob.e; split <;> decide
    show (p.e k - S p.m fun a => p.A a k).natAbs ≤ _
    omega
  obtain ⟨x, ⟨a0, ha0, hx0⟩, hxB, hx⟩ := siegel (k := p.m) (n := p.m + 1) (M := p.m * M + 1) (C := fun e a => if a < p.m then p.A a (s.b e) else c0 (s.b e)) (fun e he a ha => by
      show (if a < p.m then p.A a (s.b e) else c0 (s.b e)).natAbs ≤ _
      split
      · rename_i z
        have h1 := hA a z _ (I.bl e he)
        have h2 : M ≤ p.m * M := Nat.le_mul_of_pos_left _ (by omega)
        omega
      · exact c0B _ (I.bl e he)) (Nat.lt_succ_self _) (Nat.succ_pos _)
  have hxe : ∀ e, e < p.m → S p.m (fun a => x a * p.A a (s.b e)) + x p.m * c0 (s.b e) = 0 := fun e he => by
    have h := hx e he
    have h : S p.m (fun a => (if a < p.m then p.A a (s.b e) else c0 (s.b e)) * x a) + (if p.m < p.m then p.A p.m (s.b e) else c0 (s.b e)) * x p.m = 0 := h
    rw [if_neg (Nat.lt_irrefl _)] at h
    rw [← h]
    congr 1
    · exact S_congr fun a ha => by rw [if_pos ha, Int.mul_comm]
    · exact Int.mul_comm _ _
  -- w = sc (x0 c0 + sum x A) - x0 c
  have wsp : p.span fun c => s.sc * (S p.m fun a => x a * p.A a c) + (s.sc * x p.m) * (S p.m fun a => (-1) * p.A a c) - x p.m * (s.c c - s.sc * p.e c) := by
    have a1 : p.span fun c => S p.m fun a => x a * p.A a c := span_S fun a ha => span_A ok ha
    have a2 : p.span fun c => S p.m fun a => (-1) * p.A a c := span_S fun a ha => span_A ok ha
    refine span_congr (span_comb 1 (-(x p.m)) (span_comb s.sc (s.sc * x p.m) a1 a2) I.cs) fun c hc => ?_
    grind
  have wis : ∀ c, s.sc * (S p.m fun a => x a * p.A a c) + (s.sc * x p.m) * (S p.m fun a => (-1) * p.A a c) - x p.m * (s.c c - s.sc * p.e c) = s.sc * (S p.m (fun a => x a * p.A a c) + x p.m * c0 c) - x p.m * s.c c := fun c => by
    have e2 : S p.m (fun a => (-1) * p.A a c) = - S p.m fun a => p.A a c := by rw [S_mul]; omega
    rw [e2]
    show _ = s.sc * (S p.m (fun a => x a * p.A a c) + x p.m * (p.e c - S p.m fun a => p.A a c)) - x p.m * s.c c
    grind
  have z0 := I.K _ wsp fun i hi => by
    rw [wis, hxe i hi, I.cb i hi]; omega
  have z1 : ∀ a, a < p.m → s.sc * x a = x p.m * s.c (p.h + a) := fun a ha => by
    have := z0 (p.h + a) (helper_lt ha)
    rw [wis, c0h a ha] at this
    have e3 : S p.m (fun b => x b * p.A b (p.h + a)) = x a := by
      rw [S_single ha fun b hb ne => by rw [ok.hlp b hb a ha, if_neg ne]; exact Int.mul_zero _, ok.hlp a ha a ha, if_pos rfl]; omega
    rw [e3] at this
    rw [Int.mul_zero, Int.add_zero] at this
    omega
  obtain ⟨t, t1, t2⟩ := prim_dvd (n := p.m + 1) (l := fun a => if a < p.m then s.c (p.h + a) else s.sc) (u := x) (p := s.sc) (κ := x p.m) (fun d hd h => by
      have hs : d ∣ s.sc := by have := h p.m (Nat.lt_succ_self _); rwa [if_neg (Nat.lt_irrefl _)] at this
      refine hP d hd hs fun c hc => ?_
      have hcs := I.cs c hc
      have hcs : s.c c - s.sc * p.e c = S p.m fun a => (s.c (p.h + a) - s.sc * p.e (p.h + a)) * p.A a c := hcs
      have e4 : s.c c = s.sc * p.e c + S p.m fun a => (s.c (p.h + a) - s.sc * p.e (p.h + a)) * p.A a c := by omega
      rw [e4]
      have d1 : d ∣ s.sc * p.e c := by obtain ⟨y, hy⟩ := hs; exact ⟨y * p.e c, by rw [hy, Int.mul_assoc]⟩
      refine Int.dvd_add d1 (S_dvd fun a ha => ?_)
      have d2 : d ∣ s.c (p.h + a) := by have := h a (Nat.lt_succ_of_lt ha); rwa [if_pos ha] at this
      obtain ⟨y, hy⟩ := d2
      obtain ⟨y2, hy2⟩ := hs
      exact ⟨(y - y2 * p.e (p.h + a)) * p.A a c, by rw [hy, hy2]; grind⟩) I.sp fun a ha => by
    show s.sc * x a = x p.m * (if a < p.m then s.c (p.h + a) else s.sc)
    by_cases z : a < p.m
    · rw [if_pos z]; exact z1 a z
    · have : a = p.m := by omega
      subst this
      rw [if_neg z, Int.mul_comm]
  have tne : t ≠ 0 := fun e => by
    refine hx0 ?_
    rw [t2 a0 ha0, e]; exact Int.zero_mul _
  refine ⟨?_, fun a ha => ?_⟩
  · refine Nat.le_trans (natAbs_le_mul tne) ?_
    have h1 := hxB p.m (Nat.lt_succ_self _)
    have h2 := t2 p.m (Nat.lt_succ_self _)
    rw [if_neg (Nat.lt_irrefl _)] at h2
    rwa [h2] at h1
  · refine Nat.le_trans (natAbs_le_mul tne) ?_
    have h1 := hxB a (Nat.lt_succ_of_lt ha)
    have h2 := t2 a (Nat.lt_succ_of_lt ha)
    rw [if_pos ha] at h2
    rwa [h2] at h1
end
end Piv
set_option linter.all false
set_option Elab.async false
/-! Piv4: tables as lists, what the program does with them. -/
namespace Piv
def gt (l : List Int) (c : Nat) : Int := l.getD c 0
theorem gt_lt {l : List Int} {c : Nat} (h : c < l.length) : gt l c = l[c] := by
  unfold gt; rw [List.getD_eq_getElem?_getD, List.getElem?_eq_getElem h]; rfl
theorem gt_ge {l : List Int} {c : Nat} (h : l.length ≤ c) : gt l c = 0 := by
  unfold gt; rw [List.getD_eq_getElem?_getD, List.getElem?_eq_none h]; rfl
theorem gt_map {f : Int → Int} {l : List Int} {c : Nat} (h : c < l.length) : gt (l.map f) c = f (gt l c) := by
  rw [gt_lt (by rw [List.length_map]; exact h), List.getElem_map, gt_lt h]
theorem gt_app_l {l m : List Int} {c : Nat} (h : c < l.length) : gt (l ++ m) c = gt l c := by
  unfold gt; rw [List.getD_eq_getElem?_getD, List.getElem?_append_left h, List.getD_eq_getElem?_getD]
theorem gt_app_r {l m : List Int} {c : Nat} : gt (l ++ m) (l.length + c) = gt m c := by
  unfold gt; rw [List.getD_eq_getElem?_getD, List.getElem?_append_right (by omega), List.getD_eq_getElem?_getD]; congr 2; omega
theorem gt_mem {l : List Int} {x : Int} (h : x ∈ l) : ∃ c, c < l.length ∧ gt l c = x := by
  obtain ⟨c, hc, e⟩ := List.mem_iff_getElem.mp h
  exact ⟨c, hc, by rw [gt_lt hc]; exact e⟩
/-! ### what all numbers share -/
def gcdF (g : Nat) (ns : List Int) : Nat := ns.foldl (fun g n => Nat.gcd g n.natAbs) g
theorem gcdF_dvd : ∀ {ns : List Int} {g : Nat}, gcdF g ns ∣ g ∧ ∀ x ∈ ns, gcdF g ns ∣ x.natAbs
  | [], g => ⟨Nat.dvd_refl g, fun x h => nomatch h⟩
  | n :: ns, g => by
    obtain ⟨h1, h2⟩ := gcdF_dvd (ns := ns) (g := Nat.gcd g n.natAbs)
    refine ⟨Nat.dvd_trans h1 (Nat.gcd_dvd_left _ _), fun x hx => ?_⟩
    rcases List.mem_cons.mp hx with rfl | hx
    · exact Nat.dvd_trans h1 (Nat.gcd_dvd_right _ _)
    · exact h2 x hx
theorem dvd_gcdF {d : Nat} : ∀ {ns : List Int} {g : Nat}, d ∣ g → (∀ x ∈ ns, d ∣ x.natAbs) → d ∣ gcdF g ns
  | [], g, h, _ => h
  | n :: ns, g, h, hx => dvd_gcdF (ns := ns) (Nat.dvd_gcd h (hx n List.mem_cons_self)) fun x hm => hx x (List.mem_cons_of_mem _ hm)
def sh (ns : List Int) : Int := ((max (gcdF 0 ns) 1 : Nat) : Int)
def lowest (ns : List Int) : List Int := ns.map fun x => x / sh ns
theorem sh_pos (ns : List Int) : 0 < sh ns := by unfold sh; omega
theorem lowest_len (ns : List Int) : (lowest ns).length = ns.length := List.length_map _
theorem sh_dvd {ns : List Int} {x : Int} (h : x ∈ ns) : sh ns ∣ x := by
  have h1 := (gcdF_dvd (ns := ns) (g := 0)).2 x h
  unfold sh
  by_cases z : gcdF 0 ns = 0
  · rw [z]; exact Int.one_dvd x
  · rw [show max (gcdF 0 ns) 1 = gcdF 0 ns by omega]
    exact Int.ofNat_dvd_left.mpr h1
theorem lowest_mul (ns : List Int) (c : Nat) : sh ns * gt (lowest ns) c = gt ns c := by
  by_cases h : c < ns.length
  · unfold lowest
    rw [gt_map h, gt_lt h]
    exact Int.mul_ediv_cancel' (sh_dvd (List.getElem_mem h))
  · rw [gt_ge (by rw [lowest_len]; omega), gt_ge (by omega), Int.mul_zero]
theorem lowest_prim {ns : List Int} {c0 : Nat} (hc : c0 < ns.length) (h0 : gt ns c0 ≠ 0) (d : Int) (hd : 0 < d) (h : ∀ c, c < ns.length → d ∣ gt (lowest ns) c) : d = 1 := by
  have e1 : ∀ x ∈ ns, (d.natAbs * gcdF 0 ns) ∣ x.natAbs := fun x hx => by
    obtain ⟨c, hc, e⟩ := gt_mem hx
    obtain ⟨y, hy⟩ := h c hc
    have h2 := lowest_mul ns c
    have gz : gcdF 0 ns ≠ 0 := fun z => by
      have h3 := (gcdF_dvd (ns := ns) (g := 0)).2 _ (List.getElem_mem ‹c0 < ns.length›)
      rw [z, Nat.zero_dvd] at h3
      apply h0
      rw [gt_lt ‹c0 < ns.length›]; omega
    have es : sh ns = (gcdF 0 ns : Int) := by unfold sh; rw [show max (gcdF 0 ns) 1 = gcdF 0 ns by omega]
    rw [es, hy, e] at h2
    rw [← h2, Int.natAbs_mul, Int.natAbs_mul, Int.natAbs_natCast]
    exact ⟨y.natAbs, by rw [Nat.mul_comm d.natAbs (gcdF 0 ns), Nat.mul_assoc]⟩
  have h2 := dvd_gcdF (Nat.dvd_zero _) e1
  have gpos : 0 < gcdF 0 ns := Nat.pos_of_ne_zero fun z => by
    have h3 := (gcdF_dvd (ns := ns) (g := 0)).2 _ (List.getElem_mem hc)
    rw [z, Nat.zero_dvd] at h3
    apply h0
    rw [gt_lt hc]; omega
  have h3 := Nat.le_of_dvd gpos h2
  have : d.natAbs ≤ 1 := by
    by_cases z : 2 ≤ d.natAbs
    · have := Nat.mul_le_mul_right (gcdF 0 ns) z; omega
    · omega
  omega
def comb (r s : List Int) (p b : Int) : List Int := List.zipWith (fun e o => e * p - b * o) r s
theorem comb_len {r s : List Int} {p b : Int} (h : r.length = s.length) : (comb r s p b).length = r.length := by unfold comb; rw [List.length_zipWith]; omega
theorem gt_comb {r s : List Int} {p b : Int} (h : r.length = s.length) {c : Nat} : gt (comb r s p b) c = gt r c * p - b * gt s c := by
  by_cases hc : c < r.length
  · rw [gt_lt (by rw [comb_len h]; exact hc), gt_lt hc, gt_lt (by omega)]
    unfold comb
    rw [List.getElem_zipWith]
  · rw [gt_ge (by rw [comb_len h]; omega), gt_ge (by omega), gt_ge (by omega)]; simp
/-! ### tables -/
structure Tab where
  many : Nat
  signs : List Int
  rows : List (List Int)
  costs : List Int
  base : List Nat
  scale : Int
def Tab.row (t : Tab) (i : Nat) : List Int := t.rows.getD i []
def Tab.st (t : Tab) : St := ⟨fun i c => gt (t.row i) c, fun i => t.base.getD i 0, fun c => gt t.costs c, t.scale⟩
def Tab.whole (t : Tab) (at_ q : Nat) : List Int := lowest (comb (t.costs ++ [t.scale]) (t.row at_ ++ [0]) (gt (t.row at_) q) (gt t.costs q))
def Tab.ex (t : Tab) (at_ q : Nat) : Tab :=
  { t with
    rows := t.rows.mapIdx fun i row => if i ≠ at_ ∧ gt row q ≠ 0 then lowest (comb row (t.row at_) (gt (t.row at_) q) (gt row q)) else row
    costs := (t.whole at_ q).dropLast
    scale := (t.whole at_ q).getLastD 0
    base := t.base.set at_ q }
/-- the first column that lessens the costs -/
def entF (cs : List Int) : Nat → Nat → Option Nat
  | 0, _ => none
  | n + 1, k => if gt cs k < 0 then some k else entF cs n (k + 1)
def Tab.ent (t : Tab) : Option Nat := entF t.costs t.many 0
theorem entF_none {cs : List Int} : ∀ {n k : Nat}, entF cs n k = none → ∀ j, k ≤ j → j < k + n → 0 ≤ gt cs j
  | 0, k, _, j, h1, h2 => by omega
  | n + 1, k, h, j, h1, h2 => by
    unfold entF at h
    split at h
    · cases h
    · by_cases e : j = k
      · subst e; omega
      · exact entF_none h j (by omega) (by omega)
theorem entF_some {cs : List Int} {q : Nat} : ∀ {n k : Nat}, entF cs n k = some q → k ≤ q ∧ q < k + n ∧ gt cs q < 0 ∧ ∀ j, k ≤ j → j < q → 0 ≤ gt cs j
  | 0, k, h => nomatch h
  | n + 1, k, h => by
    unfold entF at h
    split at h
    · cases h; exact ⟨Nat.le_refl _, by omega, by assumption, fun j h1 h2 => by omega⟩
    · obtain ⟨h1, h2, h3, h4⟩ := entF_some h
      refine ⟨by omega, by omega, h3, fun j h5 h6 => ?_⟩
      by_cases e : j = k
      · subst e; omega
      · exact h4 j (by omega) h6
/-- the row that bounds it first -/
def leaveStep (t : Tab) (N q : Nat) (found : Option Nat) (k : Nat) : Option Nat :=
  if 0 < gt (t.row k) q then
    match found with
    | none => some k
    | some f => if gt (t.row k) N * gt (t.row f) q < gt (t.row f) N * gt (t.row k) q ∨ (gt (t.row k) N * gt (t.row f) q = gt (t.row f) N * gt (t.row k) q ∧ t.base.getD k 0 < t.base.getD f 0) then some k else some f
  else found
def leaveF (t : Tab) (N q : Nat) : Nat → Option Nat
  | 0 => none
  | k + 1 => leaveStep t N q (leaveF t N q k) k
def Best (t : Tab) (N q n f : Nat) : Prop := f < n ∧ 0 < gt (t.row f) q ∧ ∀ i, i < n → 0 < gt (t.row i) q →
  gt (t.row f) N * gt (t.row i) q ≤ gt (t.row i) N * gt (t.row f) q ∧ (gt (t.row f) N * gt (t.row i) q = gt (t.row i) N * gt (t.row f) q → t.base.getD f 0 ≤ t.base.getD i 0)
theorem le_of_mul_right {a b c : Int} (hc : 0 < c) (h : a * c ≤ b * c) : a ≤ b := Int.le_of_mul_le_mul_right h hc
theorem leaveF_ok (t : Tab) (N q : Nat) : ∀ n, (leaveF t N q n = none → ∀ i, i < n → ¬ 0 < gt (t.row i) q) ∧ ∀ f, leaveF t N q n = some f → Best t N q n f
  | 0 => ⟨fun _ i h => absurd h (Nat.not_lt_zero i), fun f h => nomatch h⟩
  | n + 1 => by
    obtain ⟨h1, h2⟩ := leaveF_ok t N q n
    show (leaveStep t N q (leaveF t N q n) n = none → _) ∧ ∀ f, leaveStep t N q (leaveF t N q n) n = some f → _
    unfold leaveStep
    by_cases hp : 0 < gt (t.row n) q
    · rw [if_pos hp]
      cases e : leaveF t N q n with
      | none =>
        refine ⟨(fun z => nomatch z), fun f z => ?_⟩
        cases z
        refine ⟨Nat.lt_succ_self _, hp, fun i hi hpi => ?_⟩
        by_cases e2 : i = n
        · subst e2; exact ⟨Int.le_refl _, fun _ => Nat.le_refl _⟩
        · exact absurd hpi (h1 e i (by omega))
      | some f0 =>
        obtain ⟨b1, b2, b3⟩ := h2 f0 e
        dsimp only
        split
        · rename_i hc
          refine ⟨(fun z => nomatch z), fun f z => ?_⟩
          cases z
          refine ⟨Nat.lt_succ_self _, hp, fun i hi hpi => ?_⟩
          by_cases e2 : i = n
          · subst e2; exact ⟨Int.le_refl _, fun _ => Nat.le_refl _⟩
          · obtain ⟨c1, c2⟩ := b3 i (by omega) hpi
            generalize gt (t.row n) N = nN at *
            generalize gt (t.row n) q = nq at *
            generalize gt (t.row f0) N = fN at *
            generalize gt (t.row f0) q = fq at *
            generalize gt (t.row i) N = iN at *
            generalize gt (t.row i) q = iq at *
            have a1 : nN * fq ≤ fN * nq := by rcases hc with h | h <;> omega
            have m1 : (nN * fq) * iq ≤ (fN * nq) * iq := Int.mul_le_mul_of_nonneg_right a1 (by omega)
            have m2 : (fN * iq) * nq ≤ (iN * fq) * nq := Int.mul_le_mul_of_nonneg_right c1 (by omega)
            have e3 : (fN * nq) * iq = (fN * iq) * nq := by grind
            have e4 : (nN * fq) * iq = (nN * iq) * fq := by grind
            have e5 : (iN * fq) * nq = (iN * nq) * fq := by grind
            refine ⟨le_of_mul_right b2 (by omega), fun z => ?_⟩
            have z2 : (nN * iq) * fq = (iN * nq) * fq := by rw [z]
            have t1 : nN * fq = fN * nq := Int.le_antisymm a1 (le_of_mul_right hpi (by omega))
            have t2 : fN * iq = iN * fq := Int.le_antisymm c1 (le_of_mul_right hp (by omega))
            have := c2 t2
            rcases hc with h | h
            · omega
            · omega
        · rename_i hc
          refine ⟨(fun z => nomatch z), fun f z => ?_⟩
          cases z
          refine ⟨by omega, b2, fun i hi hpi => ?_⟩
          by_cases e2 : i = n
          · subst e2
            have hc1 : ¬ gt (t.row i) N * gt (t.row f0) q < gt (t.row f0) N * gt (t.row i) q := fun z => hc (.inl z)
            refine ⟨by omega, fun z => ?_⟩
            have hc2 : ¬ (t.base.getD i 0 < t.base.getD f0 0) := fun y => hc (.inr ⟨z.symm, y⟩)
            omega
          · exact b3 i (by omega) hpi
    · rw [if_neg hp]
      refine ⟨fun z i hi => ?_, fun f z => ?_⟩
      · by_cases e2 : i = n
        · subst e2; exact hp
        · exact h1 z i (by omega)
      · obtain ⟨b1, b2, b3⟩ := h2 f z
        refine ⟨by omega, b2, fun i hi hpi => ?_⟩
        by_cases e2 : i = n
        · subst e2; exact absurd hpi hp
        · exact b3 i (by omega) hpi
/-! ### a table that stands for its problem -/
structure TabOk (p : Prob) (t : Tab) : Prop where
  many : t.many = p.h
  rl : t.rows.length = p.m
  bl : t.base.length = p.m
  sl : t.signs.length = p.m
  row : ∀ i, i < p.m → (t.row i).length = p.N + 1
  cl : t.costs.length = p.N + 1
  inv : Inv p t.st
  prim : ∀ i, i < p.m → Prim p (t.st.R i)
  primC : PrimC p t.st
section
variable {p : Prob} {t : Tab} {r q : Nat}
theorem ex_row (h : TabOk p t) {i : Nat} (hi : i < p.m) : (t.ex r q).row i = if i ≠ r ∧ gt (t.row i) q ≠ 0 then lowest (comb (t.row i) (t.row r) (gt (t.row r) q) (gt (t.row i) q)) else t.row i := by
  unfold Tab.row Tab.ex
  simp only [List.getD_eq_getElem?_getD, List.getElem?_mapIdx]
  rw [List.getElem?_eq_getElem (by rw [h.rl]; exact hi)]
  rfl
theorem whole_len (h : TabOk p t) (hr : r < p.m) : (t.whole r q).length = p.N + 2 := by
  unfold Tab.whole
  rw [lowest_len, comb_len (by rw [List.length_append, List.length_append, h.cl, h.row r hr]; rfl), List.length_append, h.cl]; rfl
theorem ex_cost (h : TabOk p t) (hr : r < p.m) {c : Nat} (hc : c ≤ p.N) : gt (t.ex r q).costs c = gt (t.whole r q) c := by
  have hl := whole_len (q := q) h hr
  show gt (t.whole r q).dropLast c = _
  unfold gt
  rw [List.getD_eq_getElem?_getD, List.getD_eq_getElem?_getD, List.getElem?_dropLast, if_pos (by omega)]
theorem ex_scale (h : TabOk p t) (hr : r < p.m) : (t.ex r q).scale = gt (t.whole r q) (p.N + 1) := by
  have hl := whole_len (q := q) h hr
  show (t.whole r q).getLastD 0 = _
  unfold gt
  rw [List.getLastD_eq_getLast?, List.getLast?_eq_getElem?, List.getD_eq_getElem?_getD, hl]; rfl
theorem ex_ok (h : TabOk p t) (hq : q < p.h) (hb : Best t p.N q p.m r) : Step p t.st (t.ex r q).st r q ∧ TabOk p (t.ex r q) := by
  obtain ⟨hr, hp, hm⟩ := hb
  have hqN : q < p.N := by unfold Prob.N; omega
  have hmr : 0 < p.m := by omega
  have eqR : ∀ i, i < p.m → ∀ c, (t.ex r q).st.R i c = gt (if i ≠ r ∧ gt (t.row i) q ≠ 0 then lowest (comb (t.row i) (t.row r) (gt (t.row r) q) (gt (t.row i) q)) else t.row i) c := fun i hi c => by
    show gt ((t.ex r q).row i) c = _
    rw [ex_row h hi]
  have cl : ∀ i, i < p.m → (t.row i).length = (t.row r).length := fun i hi => by rw [h.row i hi, h.row r hr]
  have cw : (t.costs ++ [t.scale]).length = (t.row r ++ [0]).length := by rw [List.length_append, List.length_append, h.cl, h.row r hr]; rfl
  have wc : ∀ c, c ≤ p.N → sh (comb (t.costs ++ [t.scale]) (t.row r ++ [0]) (gt (t.row r) q) (gt t.costs q)) * gt (t.whole r q) c = gt (t.row r) q * gt t.costs c - gt t.costs q * gt (t.row r) c := fun c hc => by
    unfold Tab.whole
    rw [lowest_mul, gt_comb cw, gt_app_l (by rw [h.cl]; omega), gt_app_l (by rw [h.row r hr]; omega), Int.mul_comm (gt t.costs c)]
  have ws : sh (comb (t.costs ++ [t.scale]) (t.row r ++ [0]) (gt (t.row r) q) (gt t.costs q)) * gt (t.whole r q) (p.N + 1) = gt (t.row r) q * t.scale := by
    unfold Tab.whole
    rw [lowest_mul, gt_comb cw]
    have e1 : gt (t.costs ++ [t.scale]) (p.N + 1) = t.scale := by
      have := gt_app_r (l := t.costs) (m := [t.scale]) (c := 0)
      rw [h.cl] at this
      exact this
    have e2 : gt (t.row r ++ [0]) (p.N + 1) = 0 := by
      have := gt_app_r (l := t.row r) (m := [0]) (c := 0)
      rw [h.row r hr] at this
      exact this
    rw [e1, e2, Int.mul_zero, Int.sub_zero, Int.mul_comm]
  have P : Step p t.st (t.ex r q).st r q := by
    refine ⟨hr, hqN, hp, fun i hi ne => ?_, fun c hc => ?_, ?_, fun i hi => ?_, fun i hi hpi => (hm i hi hpi).1⟩
    · by_cases z : gt (t.row i) q ≠ 0
      · refine ⟨_, sh_pos (comb (t.row i) (t.row r) (gt (t.row r) q) (gt (t.row i) q)), fun c hc => ?_⟩
        rw [eqR i hi, if_pos ⟨ne, z⟩, lowest_mul, gt_comb (cl i hi)]
        show _ = gt (t.row r) q * gt (t.row i) c - gt (t.row i) q * gt (t.row r) c
        rw [Int.mul_comm (gt (t.row i) c)]
      · have z : gt (t.row i) q = 0 := Classical.byContradiction fun y => z y
        refine ⟨gt (t.row r) q, hp, fun c hc => ?_⟩
        rw [eqR i hi, if_neg (fun y => y.2 z)]
        show _ = gt (t.row r) q * gt (t.row i) c - gt (t.row i) q * gt (t.row r) c
        rw [z]; omega
    · rw [eqR r hr, if_neg (fun y => y.1 rfl)]; rfl
    · refine ⟨_, sh_pos (comb (t.costs ++ [t.scale]) (t.row r ++ [0]) (gt (t.row r) q) (gt t.costs q)), fun c hc => ?_, ?_⟩
      · show _ * gt (t.ex r q).costs c = _
        rw [ex_cost h hr hc]; exact wc c hc
      · show _ * (t.ex r q).scale = _
        rw [ex_scale h hr]; exact ws
    · show (t.base.set r q).getD i 0 = if i = r then q else t.base.getD i 0
      rw [List.getD_eq_getElem?_getD, List.getElem?_set]
      by_cases e : r = i
      · subst e
        rw [if_pos rfl, if_pos rfl, if_pos (by rw [h.bl]; exact hr)]; rfl
      · rw [if_neg e, if_neg (Ne.symm e), List.getD_eq_getElem?_getD]
  have I' := step_inv h.inv P
  refine ⟨P, ⟨h.many, ?_, ?_, h.sl, fun i hi => ?_, ?_, I', fun i hi => ?_, fun d hd hds hdc => ?_⟩⟩
  · show (t.rows.mapIdx _).length = p.m
    rw [List.length_mapIdx]; exact h.rl
  · show (t.base.set r q).length = p.m
    rw [List.length_set]; exact h.bl
  · rw [ex_row h hi]
    split
    · rw [lowest_len, comb_len (cl i hi)]; exact h.row i hi
    · exact h.row i hi
  · show (t.whole r q).dropLast.length = _
    rw [List.length_dropLast, whole_len h hr]; omega
  · by_cases z : i ≠ r ∧ gt (t.row i) q ≠ 0
    · intro d hd hdv
      have hbN := I'.bl i hi
      have hpos := I'.pos i hi
      rw [eqR i hi, if_pos z] at hpos
      have hlen : (comb (t.row i) (t.row r) (gt (t.row r) q) (gt (t.row i) q)).length = p.N + 1 := by rw [comb_len (cl i hi)]; exact h.row i hi
      refine lowest_prim (ns := comb (t.row i) (t.row r) (gt (t.row r) q) (gt (t.row i) q)) (c0 := (t.ex r q).st.b i) (by omega) (fun e => ?_) d hd fun c hc => ?_
      · have := lowest_mul (comb (t.row i) (t.row r) (gt (t.row r) q) (gt (t.row i) q)) ((t.ex r q).st.b i)
        rw [e] at this
        have h0 := eq0_of_mul (sh_pos _) this
        omega
      · have := hdv c (by omega)
        rw [eqR i hi, if_pos z] at this
        exact this
    · intro d hd hdv
      refine h.prim i hi d hd fun c hc => ?_
      have := hdv c hc
      rw [eqR i hi, if_neg z] at this
      exact this
  · have hlen : (comb (t.costs ++ [t.scale]) (t.row r ++ [0]) (gt (t.row r) q) (gt t.costs q)).length = p.N + 2 := by
      have := whole_len (q := q) h hr
      unfold Tab.whole at this
      rwa [lowest_len] at this
    refine lowest_prim (ns := comb (t.costs ++ [t.scale]) (t.row r ++ [0]) (gt (t.row r) q) (gt t.costs q)) (c0 := p.N + 1) (by omega) (fun e => ?_) d hd fun c hc => ?_
    · have hs := ws
      unfold Tab.whole at hs
      rw [lowest_mul, e] at hs
      have := Int.mul_pos hp h.inv.sp
      have this : 0 < gt (t.row r) q * t.scale := this
      omega
    · by_cases e : c = p.N + 1
      · have hds : d ∣ (t.ex r q).scale := hds
        rw [ex_scale h hr] at hds
        rw [e]; exact hds
      · have := hdc c (by omega)
        have this : d ∣ gt (t.ex r q).costs c := this
        rw [ex_cost h hr (by omega)] at this
        exact this
/-! ### till it ends -/
def Tab.next (t : Tab) : Option Tab := match t.ent with
  | none => none
  | some q => match leaveF t (t.many + t.rows.length) q t.rows.length with
    | none => none
    | some r => some (t.ex r q)
def Tab.run : Nat → Tab → Tab
  | 0, t => t
  | n + 1, t => match t.next with
    | none => t
    | some t' => Tab.run n t'
theorem next_ok (h : TabOk p t) {q : Nat} (he : t.ent = some q) : ∃ r, leaveF t (t.many + t.rows.length) q t.rows.length = some r ∧ t.next = some (t.ex r q) ∧ q < p.h ∧ gt t.costs q < 0 ∧ (∀ j, j < q → 0 ≤ gt t.costs j) ∧ Best t p.N q p.m r ∧ Step p t.st (t.ex r q).st r q ∧ TabOk p (t.ex r q) := by
  obtain ⟨e1, e2, e3, e4⟩ := entF_some he
  rw [h.many] at e2
  have hq : q < p.h := by omega
  have eN : t.many + t.rows.length = p.N := by rw [h.many, h.rl]; rfl
  have eN2 : leaveF t (t.many + t.rows.length) q t.rows.length = leaveF t p.N q p.m := by rw [eN, h.rl]
  cases el : leaveF t p.N q p.m with
  | none =>
    obtain ⟨i, hi, hp⟩ := leave_ex h.inv hq e3
    exact absurd hp ((leaveF_ok t p.N q p.m).1 el i hi)
  | some r =>
    have b := (leaveF_ok t p.N q p.m).2 r el
    have x := ex_ok h hq b
    refine ⟨r, by rw [eN2, el], ?_, hq, e3, fun j hj => e4 j (Nat.zero_le _) hj, b, x.1, x.2⟩
    unfold Tab.next
    rw [he]
    dsimp only
    rw [eN2, el]
theorem run_succ : ∀ (n : Nat) (t : Tab), Tab.run (n + 1) t = match (Tab.run n t).next with | none => Tab.run n t | some t' => t'
  | 0, t => by
    show (match t.next with | none => t | some t' => Tab.run 0 t') = match t.next with | none => t | some t' => t'
    cases t.next <;> rfl
  | n + 1, t => by
    show (match t.next with | none => t | some t' => Tab.run (n + 1) t') = _
    cases e : t.next with
    | none =>
      have e2 : Tab.run (n + 1) t = t := by show (match t.next with | none => t | some t' => Tab.run n t') = t; rw [e]
      rw [e2, e]
    | some t' =>
      have e2 : Tab.run (n + 1) t = Tab.run n t' := by show (match t.next with | none => t | some t' => Tab.run n t') = _; rw [e]
      rw [e2]
      exact run_succ n t'
theorem run_ok (h : TabOk p t) : ∀ n, TabOk p (Tab.run n t)
  | 0 => h
  | n + 1 => by
    have ih := run_ok h n
    rw [run_succ]
    cases e : (Tab.run n t).ent with
    | none =>
      have : (Tab.run n t).next = none := by unfold Tab.next; rw [e]
      rw [this]; exact ih
    | some q =>
      obtain ⟨r, _, e2, _, _, _, _, _, ok⟩ := next_ok ih e
      rw [e2]; exact ok
theorem run_stays (t : Tab) {k : Nat} (h : (Tab.run k t).ent = none) : ∀ n, k ≤ n → Tab.run n t = Tab.run k t
  | 0, hn => by have : k = 0 := by omega
                subst this; rfl
  | n + 1, hn => by
    by_cases e : k = n + 1
    · subst e; rfl
    · have ih := run_stays t h n (by omega)
      rw [run_succ, ih]
      have : (Tab.run k t).next = none := by unfold Tab.next; rw [h]
      rw [this]
/-- it ends -/
theorem run_ends (h : TabOk p t) : (Tab.run (p.N ^ p.m) t).ent = none := by
  cases e : (Tab.run (p.N ^ p.m) t).ent with
  | none => rfl
  | some q0 =>
    exfalso
    have each : ∀ k, k ≤ p.N ^ p.m → (Tab.run k t).ent ≠ none := fun k hk z => by
      rw [run_stays t z _ hk, z] at e; cases e
    let qq : Nat → Nat := fun k => (Tab.run k t).ent.getD 0
    let rr : Nat → Nat := fun k => (leaveF (Tab.run k t) ((Tab.run k t).many + (Tab.run k t).rows.length) (qq k) (Tab.run k t).rows.length).getD 0
    have at_ : ∀ k, k < p.N ^ p.m → Tab.run (k + 1) t = (Tab.run k t).ex (rr k) (qq k) ∧ qq k < p.h ∧ gt (Tab.run k t).costs (qq k) < 0 ∧ (∀ j, j < qq k → 0 ≤ gt (Tab.run k t).costs j) ∧ Best (Tab.run k t) p.N (qq k) p.m (rr k) ∧ Step p (Tab.run k t).st ((Tab.run k t).ex (rr k) (qq k)).st (rr k) (qq k) := fun k hk => by
      cases ek : (Tab.run k t).ent with
      | none => exact absurd ek (each k (by omega))
      | some q =>
        obtain ⟨r, z1, z2, z3, z4, z5, z6, z7, z8⟩ := next_ok (run_ok h k) ek
        have e1 : qq k = q := by show (Tab.run k t).ent.getD 0 = q; rw [ek]; rfl
        have e2 : rr k = r := by show (leaveF (Tab.run k t) ((Tab.run k t).many + (Tab.run k t).rows.length) (qq k) (Tab.run k t).rows.length).getD 0 = r; rw [e1, z1]; rfl
        rw [e1, e2]
        refine ⟨?_, z3, z4, z5, z6, z7⟩
        rw [run_succ, z2]
    have R : Run p (p.N ^ p.m) (fun k => (Tab.run k t).st) rr qq := by
      refine ⟨fun k _ => (run_ok h k).inv, fun k hk => ?_, fun k hk => (at_ k hk).2.2.1, fun k hk => (at_ k hk).2.1, fun k hk j hj => (at_ k hk).2.2.2.1 j hj, fun k hk i hi hpi z => ?_⟩
      · have := (at_ k hk).2.2.2.2.2
        rw [← (at_ k hk).1] at this
        exact this
      · exact ((at_ k hk).2.2.2.2.1.2.2 i hi hpi).2 z
    have := run_short R
    omega
def Tab.fin (t : Tab) : Tab := Tab.run ((t.many + t.rows.length) ^ t.rows.length) t
theorem fin_ok (h : TabOk p t) : TabOk p t.fin ∧ t.fin.ent = none := by
  unfold Tab.fin
  rw [h.many, h.rl]
  exact ⟨run_ok h _, run_ends h⟩
end
end Piv
set_option linter.all false
set_option Elab.async false
/-! Piv5: the first table; times, prices; sizes. -/
namespace Piv
def sgn (x : Int) : Int := if x < 0 then -1 else 1
theorem sgn_sq (x : Int) : sgn x * sgn x = 1 := by unfold sgn; split <;> rfl
theorem sgn_mul (x : Int) : 0 ≤ sgn x * x := by unfold sgn; split <;> omega
theorem sum_range (f : Nat → Int) : ∀ n, ((List.range n).map f).sum = S n f
  | 0 => rfl
  | n + 1 => by
    rw [List.range_succ, List.map_append, List.sum_append, sum_range f n]
    show S n f + (f n + 0) = S n f + f n
    omega
theorem gt_range (f : Nat → Int) {n c : Nat} (h : c < n) : gt ((List.range n).map f) c = f c := by
  rw [gt_lt (by rw [List.length_map, List.length_range]; exact h), List.getElem_map, List.getElem_range]
theorem gt_cols (f : List Int → Int) {cols : List (List Int)} {c : Nat} (h : c < cols.length) : gt (cols.map f) c = f (cols.getD c []) := by
  rw [gt_lt (by rw [List.length_map]; exact h), List.getElem_map, List.getD_eq_getElem?_getD, List.getElem?_eq_getElem h]; rfl
def row0 (cols : List (List Int)) (side : List Int) (a : Nat) : List Int :=
  cols.map (fun col => sgn (gt side a) * gt col a) ++ (List.range side.length).map (fun o => if o = a then 1 else 0) ++ [sgn (gt side a) * gt side a]
def cost0 (cols : List (List Int)) (side : List Int) : List Int :=
  (List.range cols.length).map (fun k => - ((List.range side.length).map fun a => gt (row0 cols side a) k).sum) ++ List.replicate side.length 0 ++ [- ((List.range side.length).map fun a => gt (row0 cols side a) (cols.length + side.length)).sum]
def init (cols : List (List Int)) (side : List Int) : Tab :=
  { many := cols.length, signs := side.map sgn, rows := (List.range side.length).map (row0 cols side), costs := cost0 cols side, base := (List.range side.length).map (cols.length + ·), scale := 1 }
def prob (cols : List (List Int)) (side : List Int) : Prob := ⟨side.length, cols.length, fun a c => gt (row0 cols side a) c⟩
section
variable {cols : List (List Int)} {side : List Int}
theorem row0_len (a : Nat) : (row0 cols side a).length = cols.length + side.length + 1 := by
  unfold row0; rw [List.length_append, List.length_append, List.length_map, List.length_map, List.length_range]; rfl
theorem row0_col {a k : Nat} (hk : k < cols.length) : gt (row0 cols side a) k = sgn (gt side a) * gt (cols.getD k []) a := by
  unfold row0
  rw [gt_app_l (by rw [List.length_append, List.length_map]; omega), gt_app_l (by rw [List.length_map]; exact hk), gt_cols _ hk]
theorem row0_hlp {a b : Nat} (hb : b < side.length) : gt (row0 cols side a) (cols.length + b) = if b = a then 1 else 0 := by
  unfold row0
  rw [gt_app_l (by rw [List.length_append, List.length_map, List.length_map, List.length_range]; omega)]
  have := gt_app_r (l := cols.map (fun col => sgn (gt side a) * gt col a)) (m := (List.range side.length).map (fun o => if o = a then (1 : Int) else 0)) (c := b)
  rw [List.length_map] at this
  rw [this, gt_range _ hb]
theorem row0_end {a : Nat} : gt (row0 cols side a) (cols.length + side.length) = sgn (gt side a) * gt side a := by
  unfold row0
  have := gt_app_r (l := cols.map (fun col => sgn (gt side a) * gt col a) ++ (List.range side.length).map (fun o => if o = a then (1 : Int) else 0)) (m := [sgn (gt side a) * gt side a]) (c := 0)
  rw [List.length_append, List.length_map, List.length_map, List.length_range] at this
  exact this
theorem prob_ok : (prob cols side).Ok := by
  refine ⟨fun a ha b hb => ?_, fun a ha => ?_⟩
  · show gt (row0 cols side a) (cols.length + b) = _
    rw [row0_hlp hb]
    by_cases e : a = b
    · subst e; rw [if_pos rfl]
    · rw [if_neg e, if_neg (Ne.symm e)]
  · show 0 ≤ gt (row0 cols side a) (cols.length + side.length)
    rw [row0_end]; exact sgn_mul _
theorem init_row {i : Nat} (hi : i < side.length) : (init cols side).row i = row0 cols side i := by
  show ((List.range side.length).map (row0 cols side)).getD i [] = _
  rw [List.getD_eq_getElem?_getD, List.getElem?_map, List.getElem?_range hi]; rfl
theorem init_base {i : Nat} (hi : i < side.length) : (init cols side).base.getD i 0 = cols.length + i := by
  show ((List.range side.length).map (cols.length + ·)).getD i 0 = _
  rw [List.getD_eq_getElem?_getD, List.getElem?_map, List.getElem?_range hi]; rfl
theorem cost0_len : (cost0 cols side).length = cols.length + side.length + 1 := by
  unfold cost0; rw [List.length_append, List.length_append, List.length_map, List.length_range, List.length_replicate]; rfl
theorem cost0_col {k : Nat} (hk : k < cols.length) : gt (cost0 cols side) k = - S side.length fun a => gt (row0 cols side a) k := by
  unfold cost0
  rw [gt_app_l (by rw [List.length_append, List.length_map, List.length_range]; omega), gt_app_l (by rw [List.length_map, List.length_range]; exact hk), gt_range _ hk, sum_range]
theorem cost0_hlp {b : Nat} (hb : b < side.length) : gt (cost0 cols side) (cols.length + b) = 0 := by
  unfold cost0
  rw [gt_app_l (by rw [List.length_append, List.length_map, List.length_range, List.length_replicate]; omega)]
  have := gt_app_r (l := (List.range cols.length).map (fun k => - ((List.range side.length).map fun a => gt (row0 cols side a) k).sum)) (m := List.replicate side.length 0) (c := b)
  rw [List.length_map, List.length_range] at this
  rw [this, gt_lt (by rw [List.length_replicate]; exact hb), List.getElem_replicate]
theorem cost0_end : gt (cost0 cols side) (cols.length + side.length) = - S side.length fun a => gt (row0 cols side a) (cols.length + side.length) := by
  unfold cost0
  have := gt_app_r (l := (List.range cols.length).map (fun k => - ((List.range side.length).map fun a => gt (row0 cols side a) k).sum) ++ List.replicate side.length 0) (m := [- ((List.range side.length).map fun a => gt (row0 cols side a) (cols.length + side.length)).sum]) (c := 0)
  rw [List.length_append, List.length_map, List.length_range, List.length_replicate] at this
  refine this.trans ?_
  show - _ = - _
  rw [sum_range]
theorem dvd_one {d : Int} (hd : 0 < d) (h : d ∣ 1) : d = 1 := by
  have := Int.le_of_dvd (by decide) h
  omega
theorem init_ok : TabOk (prob cols side) (init cols side) := by
  have ok := prob_ok (cols := cols) (side := side)
  have eR : ∀ i, i < side.length → (init cols side).st.R i = (prob cols side).A i := fun i hi => by
    funext c
    show gt ((init cols side).row i) c = gt (row0 cols side i) c
    rw [init_row hi]
  have eb : ∀ i, i < side.length → (init cols side).st.b i = cols.length + i := fun i hi => init_base hi
  have eN : (prob cols side).N = cols.length + side.length := rfl
  have hA : ∀ i, i < side.length → ∀ j, j < side.length → (prob cols side).A i (cols.length + j) = if i = j then 1 else 0 := fun i hi j hj => ok.hlp i hi j hj
  refine ⟨rfl, ?_, ?_, List.length_map _, fun i hi => ?_, cost0_len, ⟨fun i hi => ?_, fun i hi => ?_, fun i hi => ?_, fun i hi j hj ne => ?_, fun i hi => ?_, fun i hi => ?_, ?_, ?_, fun w hw hb c hc => ?_⟩, fun i hi d hd h => ?_, fun d hd hs _ => dvd_one hd hs⟩
  · show ((List.range side.length).map (row0 cols side)).length = _
    rw [List.length_map, List.length_range]; rfl
  · show ((List.range side.length).map (cols.length + ·)).length = _
    rw [List.length_map, List.length_range]; rfl
  · rw [init_row hi, row0_len]; rfl
  · rw [eR i hi]; exact span_A ok hi
  · rw [eb i hi, eN]; have : i < side.length := hi; omega
  · rw [eR i hi, eb i hi, hA i hi i hi, if_pos rfl]; decide
  · rw [eR j hj, eb i hi, hA j hj i hi, if_neg (Ne.symm ne)]
  · rw [eR i hi]; exact ok.rhs i hi
  · rw [eb i hi]; exact cost0_hlp hi
  · refine span_congr (w := fun c => S side.length fun a => (-1) * (prob cols side).A a c) (span_S fun a ha => span_A ok ha) fun c hc => ?_
    have es : S side.length (fun a => (-1) * (prob cols side).A a c) = - S side.length fun a => gt (row0 cols side a) c := by rw [S_mul]; show -1 * S side.length (fun a => gt (row0 cols side a) c) = _; omega
    rw [es]
    show gt (cost0 cols side) c - 1 * (prob cols side).e c = _
    rw [eN] at hc
    rcases Nat.lt_or_ge c cols.length with h1 | h1
    · have e0 : (prob cols side).e c = 0 := if_neg fun z => by have : cols.length ≤ c := z.1; omega
      rw [cost0_col h1, e0]; omega
    · by_cases h2 : c = cols.length + side.length
      · have e0 : (prob cols side).e c = 0 := if_neg fun z => by have := z.2; rw [eN] at this; omega
        rw [e0, h2, cost0_end]; omega
      · obtain ⟨b, rfl⟩ : ∃ b, c = cols.length + b := ⟨c - cols.length, by omega⟩
        have hb : b < side.length := by omega
        have e1 : (prob cols side).e (cols.length + b) = 1 := if_pos ⟨h1, by rw [eN]; omega⟩
        rw [e1, cost0_hlp hb, S_single hb fun i hi ne => by rw [row0_hlp hb, if_neg (Ne.symm ne)], row0_hlp hb, if_pos rfl]; omega
  · show (0 : Int) < 1; decide
  · rw [hw c hc]
    refine S_zero fun a ha => ?_
    have := hb a ha
    rw [eb a ha] at this
    rw [show (prob cols side).h + a = cols.length + a from rfl, this, Int.zero_mul]
  · have := h (cols.length + i) (by rw [eN]; have : i < side.length := hi; omega)
    rw [eR i hi, hA i hi i hi, if_pos rfl] at this
    exact dvd_one hd this
end
/-! ### times -/
def Tab.own (t : Tab) : List (Nat × List Int) := (t.base.zip t.rows).filter fun q => decide (q.1 < t.many)
def divF (d : Int) (own : List (Nat × List Int)) : Int := own.foldl (fun d q => d * gt q.2 q.1 / ((Nat.gcd d.natAbs (gt q.2 q.1).natAbs : Nat) : Int)) d
def setF (D : Int) (N : Nat) (f : List Int) (own : List (Nat × List Int)) : List Int := own.foldl (fun f q => f.set q.1 (gt q.2 N * D / gt q.2 q.1)) f
def Tab.times (t : Tab) : Int × List Int := (divF 1 t.own, setF (divF 1 t.own) (t.many + t.rows.length) (List.replicate t.many 0) t.own)
def Tab.prices (t : Tab) : List Int := (List.range t.rows.length).map fun a => gt t.signs a * (t.scale - gt t.costs (t.many + a))
theorem div_step {d x : Int} (hd : 0 < d) (hx : 0 < x) : 0 < d * x / ((Nat.gcd d.natAbs x.natAbs : Nat) : Int) ∧ d ∣ d * x / ((Nat.gcd d.natAbs x.natAbs : Nat) : Int) ∧ x ∣ d * x / ((Nat.gcd d.natAbs x.natAbs : Nat) : Int) := by
  have g0 : 0 < Nat.gcd d.natAbs x.natAbs := Nat.gcd_pos_of_pos_left _ (by omega)
  obtain ⟨u, hu⟩ := Nat.gcd_dvd_left d.natAbs x.natAbs
  obtain ⟨v, hv⟩ := Nat.gcd_dvd_right d.natAbs x.natAbs
  generalize Nat.gcd d.natAbs x.natAbs = g at *
  have ed : d = (g : Int) * u := by have : (d.natAbs : Int) = ((g * u : Nat) : Int) := by rw [hu]
                                    rw [Int.natCast_mul] at this; omega
  have ex : x = (g : Int) * v := by have : (x.natAbs : Int) = ((g * v : Nat) : Int) := by rw [hv]
                                    rw [Int.natCast_mul] at this; omega
  have e1 : d * x / (g : Int) = d * v := by
    have : d * x = (g : Int) * (d * v) := by rw [ex]; grind
    rw [this, Int.mul_ediv_cancel_left _ (by omega)]
  have e2 : d * (v : Int) = x * u := by rw [ed, ex]; grind
  have vp : 0 < (v : Int) := by
    rcases Nat.eq_zero_or_pos v with z | z
    · rw [z] at ex; simp at ex; omega
    · omega
  rw [e1]
  exact ⟨Int.mul_pos hd vp, ⟨v, rfl⟩, ⟨u, by rw [e2]⟩⟩
theorem divF_ok : ∀ {own : List (Nat × List Int)} {d : Int}, 0 < d → (∀ q ∈ own, 0 < gt q.2 q.1) → 0 < divF d own ∧ d ∣ divF d own ∧ ∀ q ∈ own, gt q.2 q.1 ∣ divF d own
  | [], d, hd, _ => ⟨hd, Int.dvd_refl d, fun q h => nomatch h⟩
  | q :: own, d, hd, h => by
    obtain ⟨s1, s2, s3⟩ := div_step hd (h q List.mem_cons_self)
    obtain ⟨r1, r2, r3⟩ := divF_ok (own := own) s1 fun x hx => h x (List.mem_cons_of_mem _ hx)
    refine ⟨r1, Int.dvd_trans s2 r2, fun x hx => ?_⟩
    rcases List.mem_cons.mp hx with rfl | hx
    · exact Int.dvd_trans s3 r2
    · exact r3 x hx
theorem setF_len (D : Int) (N : Nat) : ∀ (own : List (Nat × List Int)) (f : List Int), (setF D N f own).length = f.length
  | [], f => rfl
  | q :: own, f => by
    show (setF D N (f.set q.1 _) own).length = _
    rw [setF_len D N own, List.length_set]
theorem setF_out (D : Int) (N : Nat) {k : Nat} : ∀ (own : List (Nat × List Int)) (f : List Int), (∀ q ∈ own, q.1 ≠ k) → gt (setF D N f own) k = gt f k
  | [], f, _ => rfl
  | q :: own, f, h => by
    show gt (setF D N (f.set q.1 _) own) k = _
    rw [setF_out D N own _ fun x hx => h x (List.mem_cons_of_mem _ hx)]
    unfold gt
    rw [List.getD_eq_getElem?_getD, List.getElem?_set_ne (h q List.mem_cons_self), List.getD_eq_getElem?_getD]
theorem setF_in (D : Int) (N : Nat) {p : Nat × List Int} : ∀ (own : List (Nat × List Int)) (f : List Int), p ∈ own → (own.map (·.1)).Nodup → p.1 < f.length → gt (setF D N f own) p.1 = gt p.2 N * D / gt p.2 p.1
  | [], f, h, _, _ => nomatch h
  | q :: own, f, h, nd, hl => by
    have nd : (q.1 :: own.map (·.1)).Nodup := nd
    obtain ⟨n1, n2⟩ := List.nodup_cons.mp nd
    show gt (setF D N (f.set q.1 (gt q.2 N * D / gt q.2 q.1)) own) p.1 = _
    rcases List.mem_cons.mp h with rfl | h
    · rw [setF_out D N own _ fun x hx e => n1 (by rw [← e]; exact List.mem_map_of_mem hx)]
      unfold gt
      rw [List.getD_eq_getElem?_getD, List.getElem?_set_self hl]; rfl
    · exact setF_in D N own _ h n2 (by rw [List.length_set]; exact hl)
section
variable {p : Prob} {t : Tab}
theorem own_mem (h : TabOk p t) {q : Nat × List Int} : q ∈ t.own ↔ ∃ i, i < p.m ∧ q = (t.base.getD i 0, t.row i) ∧ q.1 < p.h := by
  unfold Tab.own
  rw [List.mem_filter, decide_eq_true_eq, h.many]
  constructor
  · rintro ⟨h1, h2⟩
    obtain ⟨i, hi, e⟩ := List.mem_iff_getElem.mp h1
    rw [List.length_zip, h.bl, h.rl] at hi
    rw [List.getElem_zip] at e
    refine ⟨i, by omega, ?_, h2⟩
    rw [← e]
    unfold Tab.row
    rw [List.getD_eq_getElem?_getD, List.getElem?_eq_getElem (by rw [h.bl]; omega), List.getD_eq_getElem?_getD, List.getElem?_eq_getElem (by rw [h.rl]; omega)]; rfl
  · rintro ⟨i, hi, e, h2⟩
    refine ⟨?_, h2⟩
    refine List.mem_iff_getElem.mpr ⟨i, by rw [List.length_zip, h.bl, h.rl]; omega, ?_⟩
    rw [List.getElem_zip, e]
    unfold Tab.row
    rw [List.getD_eq_getElem?_getD, List.getElem?_eq_getElem (by rw [h.bl]; omega), List.getD_eq_getElem?_getD, List.getElem?_eq_getElem (by rw [h.rl]; omega)]; rfl
theorem base_nodup (h : TabOk p t) : t.base.Nodup := by
  rw [List.Nodup, List.pairwise_iff_getElem]
  intro i j hi hj lt e
  rw [h.bl] at hi hj
  have ei : t.base.getD i 0 = t.base[i] := by rw [List.getD_eq_getElem?_getD, List.getElem?_eq_getElem (by rw [h.bl]; exact hi)]; rfl
  have ej : t.base.getD j 0 = t.base[j] := by rw [List.getD_eq_getElem?_getD, List.getElem?_eq_getElem (by rw [h.bl]; exact hj)]; rfl
  have := base_inj h.inv hi hj (by show t.base.getD i 0 = t.base.getD j 0; rw [ei, ej]; exact e)
  omega
theorem own_nodup (h : TabOk p t) : (t.own.map (·.1)).Nodup := by
  have h1 : ((t.base.zip t.rows).map (·.1)).Nodup := by
    rw [List.map_fst_zip (by rw [h.bl, h.rl]; exact Nat.le_refl _)]
    exact base_nodup h
  unfold Tab.own
  exact List.Nodup.sublist (List.Sublist.map _ List.filter_sublist) h1
theorem times_ok (h : TabOk p t) (hz : gt t.costs p.N = 0) (ok : p.Ok) : 0 < t.times.1 ∧ t.times.2.length = p.h ∧ (∀ k, 0 ≤ gt t.times.2 k) ∧ ∀ a, a < p.m → S p.h (fun k => gt t.times.2 k * p.A a k) = t.times.1 * p.A a p.N := by
  have I := h.inv
  have opos : ∀ q ∈ t.own, 0 < gt q.2 q.1 := fun q hq => by
    obtain ⟨i, hi, rfl, _⟩ := (own_mem h).mp hq
    exact I.pos i hi
  obtain ⟨d1, _, d3⟩ := divF_ok (own := t.own) (d := 1) (by decide) opos
  have eN : t.many + t.rows.length = p.N := by rw [h.many, h.rl]; rfl
  have et : t.times = (divF 1 t.own, setF (divF 1 t.own) p.N (List.replicate p.h 0) t.own) := by unfold Tab.times; rw [eN, h.many]
  rw [et]
  dsimp only
  generalize divF 1 t.own = D at d1 d3
  generalize hX : setF D p.N (List.replicate p.h 0) t.own = X
  have Xl : X.length = p.h := by rw [← hX, setF_len, List.length_replicate]
  have Xin : ∀ i, i < p.m → t.st.b i < p.h → D * t.st.R i p.N = gt X (t.st.b i) * t.st.R i (t.st.b i) := fun i hi hb => by
    have hm : (t.base.getD i 0, t.row i) ∈ t.own := (own_mem h).mpr ⟨i, hi, rfl, hb⟩
    have e1 := setF_in D p.N t.own (List.replicate p.h 0) hm (own_nodup h) (by rw [List.length_replicate]; exact hb)
    rw [hX] at e1
    have e1 : gt X (t.st.b i) = t.st.R i p.N * D / t.st.R i (t.st.b i) := e1
    obtain ⟨y, hy⟩ := d3 _ hm
    have hy : D = t.st.R i (t.st.b i) * y := hy
    have pp := I.pos i hi
    rw [e1, hy]
    have e2 : t.st.R i p.N * (t.st.R i (t.st.b i) * y) = t.st.R i (t.st.b i) * (t.st.R i p.N * y) := by grind
    rw [e2, Int.mul_ediv_cancel_left _ (by omega)]; grind
  have Xout : ∀ k, (∀ i, i < p.m → t.st.b i ≠ k) → gt X k = 0 := fun k hk => by
    rw [← hX, setF_out D p.N t.own _ fun q hq => by
      obtain ⟨i, hi, rfl, _⟩ := (own_mem h).mp hq
      exact hk i hi]
    by_cases z : k < p.h
    · rw [gt_lt (by rw [List.length_replicate]; exact z), List.getElem_replicate]
    · rw [gt_ge (by rw [List.length_replicate]; omega)]
  refine ⟨d1, Xl, fun k => ?_, fun a ha => ?_⟩
  · by_cases z : ∃ i, i < p.m ∧ t.st.b i = k
    · obtain ⟨i, hi, e⟩ := z
      by_cases hk : k < p.h
      · have := Xin i hi (by rw [e]; exact hk)
        have h2 := Int.mul_nonneg (Int.le_of_lt d1) (I.rhs i hi)
        rw [this, e] at h2
        have pp := I.pos i hi
        rw [e] at pp
        rw [Int.mul_comm] at h2
        exact nonneg_of_mul pp h2
      · rw [gt_ge (by omega)]; decide
    · rw [Xout k fun i hi e => z ⟨i, hi, e⟩]; decide
  · obtain ⟨P, Q, hP, hQ⟩ := prods (fun j => t.st.R j (t.st.b j)) p.m I.pos
    have ex := expand I (span_A ok ha) (fun j hj => (hQ j hj).2) p.N (Nat.le_refl _)
    have ce := (cost_end I).2 hz
    -- by rows
    have e1 : P * (D * p.A a p.N) = P * S p.m fun j => (if t.st.b j < p.h then gt X (t.st.b j) else 0) * p.A a (t.st.b j) := by
      rw [← S_mul]
      have e0 : P * (D * p.A a p.N) = D * (P * p.A a p.N) := by grind
      rw [e0, ex, ← S_mul]
      refine S_congr fun j hj => ?_
      have hq := (hQ j hj).2
      by_cases z : t.st.b j < p.h
      · rw [if_pos z]
        have x := Xin j hj z
        have e3 : D * (p.A a (t.st.b j) * Q j * t.st.R j p.N) = p.A a (t.st.b j) * Q j * (D * t.st.R j p.N) := by grind
        rw [e3, x, ← hq]; grind
      · rw [if_neg z, ce j hj (by omega)]; simp
    have e2 := Int.eq_of_mul_eq_mul_left (show P ≠ 0 by omega) e1
    rw [e2]
    -- by columns
    have e3 : ∀ k, k < p.h → gt X k * p.A a k = S p.m fun j => if t.st.b j = k then gt X k * p.A a k else 0 := fun k hk => by
      by_cases z : ∃ i, i < p.m ∧ t.st.b i = k
      · obtain ⟨i, hi, e⟩ := z
        rw [S_single hi fun j hj ne => if_neg fun y => ne (base_inj I hj hi (by rw [y, e])), if_pos e]
      · rw [Xout k fun i hi e => z ⟨i, hi, e⟩, S_zero fun j hj => if_neg fun y => z ⟨j, hj, y⟩]; omega
    rw [S_congr e3, S_comm]
    refine S_congr fun j hj => ?_
    by_cases z : t.st.b j < p.h
    · rw [if_pos z, S_single z fun k hk ne => if_neg (Ne.symm ne), if_pos rfl]
    · rw [if_neg z, S_zero fun k hk => if_neg fun y => z (by omega)]; omega
end
/-! ### what solved tells -/
def solF (cols : List (List Int)) (side : List Int) : Int × List Int :=
  if gt (init cols side).fin.costs (cols.length + side.length) = 0 then (init cols side).fin.times else (0, (init cols side).fin.prices)
section
variable {cols : List (List Int)} {side : List Int}
theorem run_signs : ∀ (n : Nat) (t : Tab), (Tab.run n t).signs = t.signs ∧ (Tab.run n t).many = t.many
  | 0, t => ⟨rfl, rfl⟩
  | n + 1, t => by
    show (match t.next with | none => t | some t' => Tab.run n t').signs = _ ∧ (match t.next with | none => t | some t' => Tab.run n t').many = _
    cases e : t.next with
    | none => exact ⟨rfl, rfl⟩
    | some t' =>
      obtain ⟨h1, h2⟩ := run_signs n t'
      have : t'.signs = t.signs ∧ t'.many = t.many := by
        unfold Tab.next at e
        split at e
        · cases e
        · split at e
          · cases e
          · cases e; exact ⟨rfl, rfl⟩
      exact ⟨h1.trans this.1, h2.trans this.2⟩
/-- times, or prices -/
theorem solF_ok : (0 < (solF cols side).1 ∧ (solF cols side).2.length = cols.length ∧ (∀ k, 0 ≤ gt (solF cols side).2 k) ∧ ∀ a, a < side.length → S cols.length (fun k => gt (solF cols side).2 k * gt (cols.getD k []) a) = (solF cols side).1 * gt side a) ∨
    ((solF cols side).1 = 0 ∧ (solF cols side).2.length = side.length ∧ (∀ k, k < cols.length → S side.length (fun a => gt (solF cols side).2 a * gt (cols.getD k []) a) ≤ 0) ∧ 0 < S side.length fun a => gt (solF cols side).2 a * gt side a) := by
  have h0 := init_ok (cols := cols) (side := side)
  obtain ⟨ok, en⟩ := fin_ok h0
  have po := prob_ok (cols := cols) (side := side)
  have eN : (prob cols side).N = cols.length + side.length := rfl
  have sg : ∀ a, a < side.length → gt (init cols side).fin.signs a = sgn (gt side a) := fun a ha => by
    have : (init cols side).fin.signs = side.map sgn := (run_signs _ _).1
    rw [this, gt_map ha]
  unfold solF
  by_cases hz : gt (init cols side).fin.costs (cols.length + side.length) = 0
  · rw [if_pos hz]
    obtain ⟨t1, t2, t3, t4⟩ := times_ok ok hz po
    refine .inl ⟨t1, t2, t3, fun a ha => ?_⟩
    have := t4 a ha
    have e1 : (prob cols side).A a (prob cols side).N = sgn (gt side a) * gt side a := row0_end
    have e2 : S (prob cols side).h (fun k => gt (init cols side).fin.times.2 k * (prob cols side).A a k) = sgn (gt side a) * S cols.length (fun k => gt (init cols side).fin.times.2 k * gt (cols.getD k []) a) := by
      rw [← S_mul]
      refine S_congr fun k hk => ?_
      have e3 : (prob cols side).A a k = sgn (gt side a) * gt (cols.getD k []) a := row0_col hk
      rw [e3]; grind
    rw [e1, e2] at this
    have sq := sgn_sq (gt side a)
    have m := congrArg (fun x => sgn (gt side a) * x) this
    have m : sgn (gt side a) * (sgn (gt side a) * S cols.length fun k => gt (init cols side).fin.times.2 k * gt (cols.getD k []) a) = sgn (gt side a) * ((init cols side).fin.times.1 * (sgn (gt side a) * gt side a)) := m
    rw [← Int.mul_assoc, sq, Int.one_mul] at m
    rw [m]
    have : sgn (gt side a) * ((init cols side).fin.times.1 * (sgn (gt side a) * gt side a)) = (sgn (gt side a) * sgn (gt side a)) * ((init cols side).fin.times.1 * gt side a) := by grind
    rw [this, sq, Int.one_mul]
  · rw [if_neg hz]
    have rl : (init cols side).fin.rows.length = side.length := ok.rl
    have ml : (init cols side).fin.many = cols.length := ok.many
    have yl : (init cols side).fin.prices.length = side.length := by unfold Tab.prices; rw [List.length_map, List.length_range, rl]
    have ya : ∀ a, a < side.length → gt (init cols side).fin.prices a = sgn (gt side a) * ((init cols side).fin.scale - gt (init cols side).fin.costs (cols.length + a)) := fun a ha => by
      unfold Tab.prices
      rw [rl, gt_range _ ha, sg a ha, ml]
    have pr := fun k hk he => prices ok.inv k hk he
    refine .inr ⟨rfl, yl, fun k hk => ?_, ?_⟩
    · have e0 : (prob cols side).e k = 0 := if_neg fun z => by have : cols.length ≤ k := z.1; omega
      have := pr k (by rw [eN]; omega) e0
      have e1 : S side.length (fun a => gt (init cols side).fin.prices a * gt (cols.getD k []) a) = - gt (init cols side).fin.costs k := by
        have this : S side.length (fun a => ((init cols side).fin.scale - gt (init cols side).fin.costs (cols.length + a)) * gt (row0 cols side a) k) = - gt (init cols side).fin.costs k := this
        rw [← this]
        refine S_congr fun a ha => ?_
        rw [ya a ha, row0_col hk]; grind
      show S side.length (fun a => gt (init cols side).fin.prices a * gt (cols.getD k []) a) ≤ 0
      rw [e1]
      have : 0 ≤ gt (init cols side).fin.costs k := entF_none (n := (init cols side).fin.many) (k := 0) en k (Nat.zero_le _) (by rw [ml]; omega)
      omega
    · have e0 : (prob cols side).e (prob cols side).N = 0 := if_neg fun z => by have := z.2; omega
      have := pr _ (Nat.le_refl _) e0
      have e1 : S side.length (fun a => gt (init cols side).fin.prices a * gt side a) = - gt (init cols side).fin.costs (cols.length + side.length) := by
        have this : S side.length (fun a => ((init cols side).fin.scale - gt (init cols side).fin.costs (cols.length + a)) * gt (row0 cols side a) (cols.length + side.length)) = - gt (init cols side).fin.costs (cols.length + side.length) := this
        rw [← this]
        refine S_congr fun a ha => ?_
        rw [ya a ha, row0_end]
        have sq := sgn_sq (gt side a)
        grind
      show 0 < S side.length (fun a => gt (init cols side).fin.prices a * gt side a)
      rw [e1]
      have c0 := (cost_end ok.inv).1
      have c0 : gt (init cols side).fin.costs (cols.length + side.length) ≤ 0 := c0
      omega
/-- where there are times, times are told -/
theorem solF_sure {x : Nat → Int} {d : Int} (hd : 0 < d) (hx : ∀ k, k < cols.length → 0 ≤ x k) (h : ∀ a, a < side.length → S cols.length (fun k => x k * gt (cols.getD k []) a) = d * gt side a) : 0 < (solF cols side).1 := by
  rcases solF_ok (cols := cols) (side := side) with ⟨h1, _⟩ | ⟨_, _, h3, h4⟩
  · exact h1
  · exfalso
    have e1 : d * S side.length (fun a => gt (solF cols side).2 a * gt side a) = S cols.length fun k => x k * S side.length (fun a => gt (solF cols side).2 a * gt (cols.getD k []) a) := by
      rw [← S_mul]
      have : ∀ a, a < side.length → d * (gt (solF cols side).2 a * gt side a) = S cols.length (fun k => x k * (gt (solF cols side).2 a * gt (cols.getD k []) a)) := fun a ha => by
        have e : d * (gt (solF cols side).2 a * gt side a) = gt (solF cols side).2 a * (d * gt side a) := by grind
        rw [e, ← h a ha, ← S_mul]
        exact S_congr fun k _ => by grind
      rw [S_congr this, S_comm]
      exact S_congr fun k _ => S_mul _ _
    have e2 : 0 < d * S side.length (fun a => gt (solF cols side).2 a * gt side a) := Int.mul_pos hd h4
    rw [e1] at e2
    obtain ⟨k, hk, hp⟩ := S_pos e2
    have := Int.mul_nonneg (hx k hk) (show 0 ≤ - S side.length (fun a => gt (solF cols side).2 a * gt (cols.getD k []) a) by have := h3 k hk; omega)
    rw [Int.mul_neg] at this
    omega
end
end Piv
set_option linter.all false
set_option Elab.async false
/-! Piv6: how large the numbers of a table can be. -/
namespace Piv
theorem pw {a b n k : Nat} (h1 : a ≤ b) (h2 : n ≤ k) (h3 : 0 < b) : a ^ n ≤ b ^ k := Nat.le_trans (Nat.pow_le_pow_left h1 n) (Nat.pow_le_pow_right h3 h2)
theorem fin_add {a b : Int} {z y x : Nat} (h1 : (a - b).natAbs ≤ y) (h2 : b.natAbs ≤ z) (h3 : z + y < x) : a.natAbs < x := by omega
theorem fin_sub {a b : Int} {z : Nat} (h1 : a.natAbs ≤ z) (h2 : b.natAbs ≤ z) : (a - b).natAbs ≤ 2 * z := by omega
section
variable {p : Prob} {t : Tab}
theorem row_small (ok : p.Ok) (h : TabOk p t) (hm : p.m ≤ 8) (hA : ∀ a, a < p.m → ∀ c, c ≤ p.N → (p.A a c).natAbs ≤ 2 ^ 60) {i : Nat} (hi : i < p.m) {c : Nat} (hc : c ≤ p.N) : (gt (t.row i) c).natAbs < 2 ^ 700 := by
  have h1 := row_bound ok h.inv (M := 2 ^ 60) (by decide) (fun a ha c hc => hA a ha c (Nat.le_of_lt hc)) hi (h.prim i hi)
  have hB : (p.m * 2 ^ 60) ^ (p.m - 1) ≤ 2 ^ 441 := Nat.le_trans (pw (b := 8 * 2 ^ 60) (k := 7) (Nat.mul_le_mul_right _ hm) (by omega) (by decide)) (by decide +kernel)
  have h2 := row_bound' ok h.inv hi (B := 2 ^ 441) (fun a ha => Nat.le_trans (h1 a ha) hB) hc (fun a ha => hA a ha c hc)
  have h3 : (gt (t.row i) c).natAbs ≤ p.m * (2 ^ 441 * 2 ^ 60) := h2
  have h4 : p.m * (2 ^ 441 * 2 ^ 60) ≤ 8 * (2 ^ 441 * 2 ^ 60) := Nat.mul_le_mul_right _ hm
  have h5 : 8 * (2 ^ 441 * 2 ^ 60) < 2 ^ 700 := by decide +kernel
  exact Nat.lt_of_le_of_lt (Nat.le_trans h3 h4) h5
theorem cost_small (ok : p.Ok) (h : TabOk p t) (hm : p.m ≤ 8) (hA : ∀ a, a < p.m → ∀ c, c ≤ p.N → (p.A a c).natAbs ≤ 2 ^ 60) : t.scale.natAbs < 2 ^ 700 ∧ ∀ c, c ≤ p.N → (gt t.costs c).natAbs < 2 ^ 700 := by
  obtain ⟨h1, h2⟩ := cost_bound ok h.inv (M := 2 ^ 60) (by decide) (fun a ha c hc => hA a ha c (Nat.le_of_lt hc)) h.primC
  have hB : ((p.m + 1) * (p.m * 2 ^ 60 + 1)) ^ p.m ≤ 2 ^ 544 := by
    refine Nat.le_trans (pw (b := 9 * (8 * 2 ^ 60 + 1)) (k := 8) (Nat.mul_le_mul (by omega) (Nat.succ_le_succ (Nat.mul_le_mul_right _ hm))) hm (by decide)) (by decide +kernel)
  have h1 : t.scale.natAbs ≤ 2 ^ 544 := Nat.le_trans h1 hB
  have h2 : ∀ a, a < p.m → (gt t.costs (p.h + a)).natAbs ≤ 2 ^ 544 := fun a ha => Nat.le_trans (h2 a ha) hB
  have e700 : 2 ^ 544 + 8 * (2 * 2 ^ 544 * 2 ^ 60) < 2 ^ 700 := by decide +kernel
  have e5 : 2 ^ 544 < 2 ^ 700 := by decide +kernel
  refine ⟨Nat.lt_of_le_of_lt h1 e5, fun c hc => ?_⟩
  have e : ∀ k, (t.scale * p.e k).natAbs ≤ 2 ^ 544 := fun k => by
    unfold Prob.e
    split
    · rw [Int.mul_one]; exact h1
    · rw [Int.mul_zero]; exact Nat.zero_le _
  have h3 : gt t.costs c - t.scale * p.e c = S p.m fun a => (gt t.costs (p.h + a) - t.scale * p.e (p.h + a)) * p.A a c := h.inv.cs c hc
  have h4 : (S p.m fun a => (gt t.costs (p.h + a) - t.scale * p.e (p.h + a)) * p.A a c).natAbs ≤ p.m * (2 * 2 ^ 544 * 2 ^ 60) := S_abs fun a ha => by
    rw [Int.natAbs_mul]
    refine Nat.mul_le_mul ?_ (hA a ha c hc)
    have x1 := h2 a ha
    have x2 := e (p.h + a)
    exact fin_sub x1 x2
  rw [← h3] at h4
  have h5 : p.m * (2 * 2 ^ 544 * 2 ^ 60) ≤ 8 * (2 * 2 ^ 544 * 2 ^ 60) := Nat.mul_le_mul_right _ hm
  have x2 := e c
  have h6 := Nat.le_trans h4 h5
  exact fin_add h6 x2 e700
end
section
variable {cols : List (List Int)} {side : List Int}
theorem prob_small (hc : ∀ c ∈ cols, ∀ x ∈ c, x.natAbs ≤ 2 ^ 60) (hs : ∀ x ∈ side, x.natAbs ≤ 2 ^ 60) : ∀ a, a < (prob cols side).m → ∀ c, c ≤ (prob cols side).N → ((prob cols side).A a c).natAbs ≤ 2 ^ 60 := by
  intro a ha c hcN
  show (gt (row0 cols side a) c).natAbs ≤ 2 ^ 60
  have ha : a < side.length := ha
  have hcN : c ≤ cols.length + side.length := hcN
  have sg : ∀ x y : Int, (sgn x * y).natAbs = y.natAbs := fun x y => by
    rw [Int.natAbs_mul]
    unfold sgn
    split
    · show 1 * _ = _; omega
    · show 1 * _ = _; omega
  have g : ∀ (l : List Int) k, (∀ x ∈ l, x.natAbs ≤ 2 ^ 60) → (gt l k).natAbs ≤ 2 ^ 60 := fun l k h => by
    by_cases z : k < l.length
    · rw [gt_lt z]; exact h _ (List.getElem_mem _)
    · rw [gt_ge (by omega)]; decide
  rcases Nat.lt_or_ge c cols.length with h1 | h1
  · rw [row0_col h1, sg]
    refine g _ _ ?_
    rw [List.getD_eq_getElem?_getD, List.getElem?_eq_getElem h1]
    exact hc _ (List.getElem_mem _)
  · by_cases h2 : c = cols.length + side.length
    · rw [h2, row0_end, sg]; exact g _ _ hs
    · obtain ⟨b, rfl⟩ : ∃ b, c = cols.length + b := ⟨c - cols.length, by omega⟩
      rw [row0_hlp (by omega)]
      split <;> decide
end
end Piv
set_option Elab.async false
set_option linter.all false
set_option maxRecDepth 100000
set_option maxHeartbeats 1000000
namespace K09
open PySem L2 DL
def top (i : Nat) : Stmt := PySem.Challenge.pw_everystepheld_k09_whole_times_or_prices.main.body.getD i (.Pass ⟨0, 0, 0, 0⟩)
def bl : List Str := ["abs", "bool", "dict", "enumerate", "int", "isinstance", "len", "list", "max", "min", "range", "repr", "str", "sum", "tuple", "zip"]
def gls : List Str := []

-- lowest
def N_lowest : List Str := ["numbers", "shared", "number"]
def fns_lowest : List Str := []
def core_lowest : CSs := (.cons (.set 1 (.int 0))
      (.cons (.for_ (.slot 2) (.seq (.slot 0)) (.cons (.set 1 (.gcd (.cons (.slot 1) (.cons (.slot 2) .nil))))
      (.cons (.ifs (.cmp .Eq (.slot 1) (.int 1)) (.cons (.ret (.blt false .list (.cons (.slot 0) .nil)))
      .nil) .nil)
      .nil)))
      (.cons (.ret (.lc false [("number", 2)] (.slot 2) (.seq (.slot 0)) .no (.op false .FloorDiv (.slot 2) (.blt false .max (.cons (.slot 1) (.cons (.int 1) .nil))))))
      .nil)))
theorem sc_lowest : FnScope N_lowest ["numbers"] (defScope (top 2)) := ⟨rfl, rfl, rfl, by decide +kernel, rfl, by decide +kernel, by decide +kernel⟩
theorem chk_lowest : chkSs core_lowest { sc := defScope (top 2), N := N_lowest, fn := fun _ => true, bl := bl, fns := fns_lowest, gls := gls, mts := [], mks := [], gcd := true } (defBody (top 2)) = true := by decide +kernel

-- Pivots.__init__
def N_Pivots___init__ : List Str := ["self", "columns", "side", "number", "at", "sign", "helpers", "other", "column", "sums", "row", "place", "ends"]
def fns_Pivots___init__ : List Str := ["lowest"]
def core_Pivots___init__ : CSs := (.cons (.setfld (.slot 0) "many" (.blt false .len (.cons (.slot 1) .nil)))
      (.cons (.setfld (.slot 0) "signs" (.lc false [("number", 3)] (.slot 3) (.seq (.slot 2)) .no (.ite (.cmp .Lt (.slot 3) (.int 0)) (.neg (.int 1)) (.int 1))))
      (.cons (.setfld (.slot 0) "rows" (.lst true .nil))
      (.cons (.for_ (.tup (.cons (.slot 4) (.cons (.slot 5) .nil))) (.enum (.fld (.slot 0) "signs")) (.cons (.setlc 6 false [("other", 7)] (.slot 7) (.range1 (.blt false .len (.cons (.slot 2) .nil))) .no (.blt false .int (.cons (.cmp .Eq (.slot 7) (.slot 4)) .nil)))
      (.cons (.expr (.app (.fld (.slot 0) "rows") (.op false .Add (.op false .Add (.lc false [("column", 8)] (.slot 8) (.seq (.slot 1)) .no (.op false .Mult (.slot 5) (.ix (.slot 8) (.slot 4)))) (.slot 6)) (.lst false (.cons (.op false .Mult (.slot 5) (.ix (.slot 2) (.slot 4))) .nil)))))
      .nil)))
      (.cons (.setlc 9 false [("place", 11)] (.slot 11) (.range1 (.fld (.slot 0) "many")) .no (.blt false .sum (.cons (.lc false [("row", 10)] (.slot 10) (.seq (.fld (.slot 0) "rows")) .no (.ix (.slot 10) (.slot 11))) .nil)))
      (.cons (.set 12 (.blt false .sum (.cons (.lc false [("row", 10)] (.slot 10) (.seq (.fld (.slot 0) "rows")) .no (.ix (.slot 10) (.neg (.int 1)))) .nil)))
      (.cons (.setfld (.slot 0) "costs" (.op false .Add (.op false .Add (.lc false [("number", 3)] (.slot 3) (.seq (.slot 9)) .no (.neg (.slot 3))) (.op false .Mult (.lst false (.cons (.int 0) .nil)) (.blt false .len (.cons (.slot 2) .nil)))) (.lst false (.cons (.neg (.slot 12)) .nil))))
      (.cons (.setfld (.slot 0) "base" (.lc true [("at", 4)] (.slot 4) (.range1 (.blt false .len (.cons (.slot 2) .nil))) .no (.op false .Add (.fld (.slot 0) "many") (.slot 4))))
      (.cons (.setfld (.slot 0) "scale" (.int 1))
      .nil)))))))))
theorem sc_Pivots___init__ : FnScope N_Pivots___init__ ["self", "columns", "side"] (defScope (inClass (top 3) 0)) := ⟨rfl, rfl, rfl, by decide +kernel, rfl, by decide +kernel, by decide +kernel⟩
theorem chk_Pivots___init__ : chkSs core_Pivots___init__ { sc := defScope (inClass (top 3) 0), N := N_Pivots___init__, fn := fun _ => true, bl := bl, fns := fns_Pivots___init__, gls := gls, mts := [], mks := [], gcd := true } (defBody (inClass (top 3) 0)) = true := by decide +kernel

-- Pivots.entering
def N_Pivots_entering : List Str := ["self", "place"]
def fns_Pivots_entering : List Str := ["lowest"]
def core_Pivots_entering : CSs := (.cons (.for_ (.slot 1) (.range1 (.fld (.slot 0) "many")) (.cons (.ifs (.cmp .Lt (.ix (.fld (.slot 0) "costs") (.slot 1)) (.int 0)) (.cons (.ret (.slot 1))
      .nil) .nil)
      .nil))
      (.cons (.ret .non)
      .nil))
theorem sc_Pivots_entering : FnScope N_Pivots_entering ["self"] (defScope (inClass (top 3) 1)) := ⟨rfl, rfl, rfl, by decide +kernel, rfl, by decide +kernel, by decide +kernel⟩
theorem chk_Pivots_entering : chkSs core_Pivots_entering { sc := defScope (inClass (top 3) 1), N := N_Pivots_entering, fn := fun _ => true, bl := bl, fns := fns_Pivots_entering, gls := gls, mts := [], mks := ["Pivots"], gcd := true } (defBody (inClass (top 3) 1)) = true := by decide +kernel

-- Pivots.leaving
def N_Pivots_leaving : List Str := ["self", "place", "found", "at", "row", "best", "here", "there"]
def fns_Pivots_leaving : List Str := ["lowest"]
def core_Pivots_leaving : CSs := (.cons (.set 2 .non)
      (.cons (.for_ (.tup (.cons (.slot 3) (.cons (.slot 4) .nil))) (.enum (.fld (.slot 0) "rows")) (.cons (.ifs (.cmp .Gt (.ix (.slot 4) (.slot 1)) (.int 0)) (.cons (.set 5 (.ite (.cmp .Is (.slot 2) .non) (.slot 4) (.ix (.fld (.slot 0) "rows") (.slot 2))))
      (.cons (.par 6 7 (.op false .Mult (.ix (.slot 4) (.neg (.int 1))) (.ix (.slot 5) (.slot 1))) (.op false .Mult (.ix (.slot 5) (.neg (.int 1))) (.ix (.slot 4) (.slot 1))))
      (.cons (.ifs (.or (.cmp .Is (.slot 2) .non) (.or (.cmp .Lt (.slot 6) (.slot 7)) (.last (.and (.cmp .Eq (.slot 6) (.slot 7)) (.last (.cmp .Lt (.ix (.fld (.slot 0) "base") (.slot 3)) (.ix (.fld (.slot 0) "base") (.slot 2)))))))) (.cons (.set 2 (.slot 3))
      .nil) .nil)
      .nil))) .nil)
      .nil))
      (.cons (.ret (.slot 2))
      .nil)))
theorem sc_Pivots_leaving : FnScope N_Pivots_leaving ["self", "place"] (defScope (inClass (top 3) 2)) := ⟨rfl, rfl, rfl, by decide +kernel, rfl, by decide +kernel, by decide +kernel⟩
theorem chk_Pivots_leaving : chkSs core_Pivots_leaving { sc := defScope (inClass (top 3) 2), N := N_Pivots_leaving, fn := fun _ => true, bl := bl, fns := fns_Pivots_leaving, gls := gls, mts := ["entering"], mks := ["Pivots"], gcd := true } (defBody (inClass (top 3) 2)) = true := by decide +kernel

-- Pivots.exchange
def N_Pivots_exchange : List Str := ["self", "at", "place", "chosen", "pivot", "other", "row", "by", "entry", "own", "whole"]
def fns_Pivots_exchange : List Str := ["lowest"]
def core_Pivots_exchange : CSs := (.cons (.setg (.tup (.cons (.slot 3) (.cons (.slot 4) .nil))) (.tup (.cons (.ix (.fld (.slot 0) "rows") (.slot 1)) (.cons (.ix (.ix (.fld (.slot 0) "rows") (.slot 1)) (.slot 2)) .nil))))
      (.cons (.for_ (.tup (.cons (.slot 5) (.cons (.slot 6) .nil))) (.enum (.blt false .list (.cons (.fld (.slot 0) "rows") .nil))) (.cons (.set 7 (.ix (.slot 6) (.slot 2)))
      (.cons (.ifs (.and (.cmp .NotEq (.slot 5) (.slot 1)) (.last (.cmp .NotEq (.slot 7) (.int 0)))) (.cons (.setix (.fld (.slot 0) "rows") (.slot 5) (.call 0 (.cons (.lc false [("entry", 8), ("own", 9)] (.tup (.cons (.slot 8) (.cons (.slot 9) .nil))) (.zip (.slot 6) (.slot 3)) .no (.op false .Sub (.op false .Mult (.slot 8) (.slot 4)) (.op false .Mult (.slot 7) (.slot 9)))) .nil)))
      .nil) .nil)
      .nil)))
      (.cons (.set 7 (.ix (.fld (.slot 0) "costs") (.slot 2)))
      (.cons (.set 10 (.call 0 (.cons (.lc false [("entry", 8), ("own", 9)] (.tup (.cons (.slot 8) (.cons (.slot 9) .nil))) (.zip (.lst false (.star (.fld (.slot 0) "costs") (.cons (.fld (.slot 0) "scale") .nil))) (.lst false (.star (.slot 3) (.cons (.int 0) .nil)))) .no (.op false .Sub (.op false .Mult (.slot 8) (.slot 4)) (.op false .Mult (.slot 7) (.slot 9)))) .nil)))
      (.cons (.setfld2 (.slot 0) "costs" "scale" (.cut false (.slot 10) .no (.one (.neg (.int 1)))) (.ix (.slot 10) (.neg (.int 1))))
      (.cons (.setix (.fld (.slot 0) "base") (.slot 1) (.slot 2))
      .nil))))))
theorem sc_Pivots_exchange : FnScope N_Pivots_exchange ["self", "at", "place"] (defScope (inClass (top 3) 3)) := ⟨rfl, rfl, rfl, by decide +kernel, rfl, by decide +kernel, by decide +kernel⟩
theorem chk_Pivots_exchange : chkSs core_Pivots_exchange { sc := defScope (inClass (top 3) 3), N := N_Pivots_exchange, fn := fun _ => true, bl := bl, fns := fns_Pivots_exchange, gls := gls, mts := ["entering", "leaving"], mks := ["Pivots"], gcd := true } (defBody (inClass (top 3) 3)) = true := by decide +kernel

-- Pivots.settle
def N_Pivots_settle : List Str := ["self", "place"]
def fns_Pivots_settle : List Str := ["lowest"]
def core_Pivots_settle : CSs := (.cons (.set 1 (.meth 0 (.slot 0) .nil))
      (.cons (.while_ (.cmp .IsNot (.slot 1) .non) (.cons (.expr (.meth 2 (.slot 0) (.cons (.meth 1 (.slot 0) (.cons (.slot 1) .nil)) (.cons (.slot 1) .nil))))
      (.cons (.set 1 (.meth 0 (.slot 0) .nil))
      .nil)))
      (.cons (.ret (.cmp .Eq (.ix (.fld (.slot 0) "costs") (.neg (.int 1))) (.int 0)))
      .nil)))
theorem sc_Pivots_settle : FnScope N_Pivots_settle ["self"] (defScope (inClass (top 3) 4)) := ⟨rfl, rfl, rfl, by decide +kernel, rfl, by decide +kernel, by decide +kernel⟩
theorem chk_Pivots_settle : chkSs core_Pivots_settle { sc := defScope (inClass (top 3) 4), N := N_Pivots_settle, fn := fun _ => true, bl := bl, fns := fns_Pivots_settle, gls := gls, mts := ["entering", "leaving", "exchange"], mks := ["Pivots"], gcd := true } (defBody (inClass (top 3) 4)) = true := by decide +kernel

-- Pivots.times
def N_Pivots_times : List Str := ["self", "found", "divisor", "own", "column", "row"]
def fns_Pivots_times : List Str := ["lowest"]
def core_Pivots_times : CSs := (.cons (.par 1 2 (.op true .Mult (.lst false (.cons (.int 0) .nil)) (.fld (.slot 0) "many")) (.int 1))
      (.cons (.setlc 3 false [("column", 4), ("row", 5)] (.tup (.cons (.slot 4) (.cons (.slot 5) .nil))) (.zip (.fld (.slot 0) "base") (.fld (.slot 0) "rows")) (.one (.cmp .Lt (.slot 4) (.fld (.slot 0) "many"))) (.tup (.cons (.slot 4) (.cons (.slot 5) .nil))))
      (.cons (.for_ (.tup (.cons (.slot 4) (.cons (.slot 5) .nil))) (.seq (.slot 3)) (.cons (.set 2 (.op false .FloorDiv (.op false .Mult (.slot 2) (.ix (.slot 5) (.slot 4))) (.gcd (.cons (.slot 2) (.cons (.ix (.slot 5) (.slot 4)) .nil)))))
      .nil))
      (.cons (.for_ (.tup (.cons (.slot 4) (.cons (.slot 5) .nil))) (.seq (.slot 3)) (.cons (.setix (.slot 1) (.slot 4) (.op false .FloorDiv (.op false .Mult (.ix (.slot 5) (.neg (.int 1))) (.slot 2)) (.ix (.slot 5) (.slot 4))))
      .nil))
      (.frz 1 (.cons (.ret (.tup (.cons (.slot 2) (.cons (.slot 1) .nil))))
      .nil))))))
theorem sc_Pivots_times : FnScope N_Pivots_times ["self"] (defScope (inClass (top 3) 5)) := ⟨rfl, rfl, rfl, by decide +kernel, rfl, by decide +kernel, by decide +kernel⟩
theorem chk_Pivots_times : chkSs core_Pivots_times { sc := defScope (inClass (top 3) 5), N := N_Pivots_times, fn := fun _ => true, bl := bl, fns := fns_Pivots_times, gls := gls, mts := ["entering", "leaving", "exchange", "settle"], mks := ["Pivots"], gcd := true } (defBody (inClass (top 3) 5)) = true := by decide +kernel

-- Pivots.prices
def N_Pivots_prices : List Str := ["self", "at", "sign"]
def fns_Pivots_prices : List Str := ["lowest"]
def core_Pivots_prices : CSs := (.cons (.ret (.lc false [("at", 1), ("sign", 2)] (.tup (.cons (.slot 1) (.cons (.slot 2) .nil))) (.enum (.fld (.slot 0) "signs")) .no (.op false .Mult (.slot 2) (.op false .Sub (.fld (.slot 0) "scale") (.ix (.fld (.slot 0) "costs") (.op false .Add (.fld (.slot 0) "many") (.slot 1)))))))
      .nil)
theorem sc_Pivots_prices : FnScope N_Pivots_prices ["self"] (defScope (inClass (top 3) 6)) := ⟨rfl, rfl, rfl, by decide +kernel, rfl, by decide +kernel, by decide +kernel⟩
theorem chk_Pivots_prices : chkSs core_Pivots_prices { sc := defScope (inClass (top 3) 6), N := N_Pivots_prices, fn := fun _ => true, bl := bl, fns := fns_Pivots_prices, gls := gls, mts := ["entering", "leaving", "exchange", "settle", "times"], mks := ["Pivots"], gcd := true } (defBody (inClass (top 3) 6)) = true := by decide +kernel

-- solved
def N_solved : List Str := ["columns", "side", "table"]
def fns_solved : List Str := ["lowest"]
def core_solved : CSs := (.cons (.set 2 (.make 0 (.cons (.slot 0) (.cons (.slot 1) .nil))))
      (.cons (.ifs (.meth 3 (.slot 2) .nil) (.cons (.ret (.meth 4 (.slot 2) .nil))
      .nil) .nil)
      (.cons (.ret (.tup (.cons (.int 0) (.cons (.meth 5 (.slot 2) .nil) .nil))))
      .nil)))
theorem sc_solved : FnScope N_solved ["columns", "side"] (defScope (top 4)) := ⟨rfl, rfl, rfl, by decide +kernel, rfl, by decide +kernel, by decide +kernel⟩
theorem chk_solved : chkSs core_solved { sc := defScope (top 4), N := N_solved, fn := fun _ => true, bl := bl, fns := fns_solved, gls := gls, mts := ["entering", "leaving", "exchange", "settle", "times", "prices"], mks := ["Pivots"], gcd := true } (defBody (top 4)) = true := by decide +kernel

-- _law_cell
def N__law_cell : List Str := ["script", "k"]
def fns__law_cell : List Str := ["lowest", "solved"]
def core__law_cell : CSs := (.cons (.ret (.ite (.cmp .Lt (.slot 1) (.blt false .len (.cons (.slot 0) .nil))) (.ix (.slot 0) (.slot 1)) (.op false .Add (.op false .Mult (.int 4987) (.slot 1)) (.op false .Mod (.blt false .int (.cons (.blt false .sum (.cons (.cut false (.slot 0) .no (.one (.int 1))) .nil)) .nil)) (.int 1000081)))))
      .nil)
theorem sc__law_cell : FnScope N__law_cell ["script", "k"] (defScope (top 6)) := ⟨rfl, rfl, rfl, by decide +kernel, rfl, by decide +kernel, by decide +kernel⟩
theorem chk__law_cell : chkSs core__law_cell { sc := defScope (top 6), N := N__law_cell, fn := fun _ => true, bl := bl, fns := fns__law_cell, gls := gls, mts := ["entering", "leaving", "exchange", "settle", "times", "prices"], mks := ["Pivots"], gcd := true } (defBody (top 6)) = true := by decide +kernel

-- _law_take
def N__law_take : List Str := ["box", "many", "digit", "mixed"]
def fns__law_take : List Str := ["lowest", "solved", "_law_cell"]
def core__law_take : CSs := (.cons (.ifs (.and (.ix (.slot 0) (.int 1)) (.last (.cmp .Gt (.ix (.slot 0) (.int 0)) (.int 0)))) (.cons (.set 2 (.op false .Mod (.blt false .int (.cons (.ix (.slot 0) (.int 0)) .nil)) (.slot 1)))
      (.cons (.setix (.slot 0) (.int 0) (.op false .FloorDiv (.ix (.slot 0) (.int 0)) (.slot 1)))
      (.cons (.ret (.slot 2))
      .nil))) .nil)
      (.cons (.setix (.slot 0) (.int 3) (.op false .Add (.ix (.slot 0) (.int 3)) (.int 1)))
      (.cons (.set 3 (.op false .Mod (.blt false .int (.cons (.op false .Pow (.op false .Add (.op false .Add (.ix (.slot 0) (.int 2)) (.op false .Mult (.int 15489221) (.ix (.slot 0) (.int 3)))) (.int 179426549)) (.int 5)) .nil)) (.int 2147483647)))
      (.cons (.ret (.op false .Mod (.blt false .int (.cons (.op false .FloorDiv (.op false .Mod (.blt false .int (.cons (.op false .Pow (.op false .Add (.op false .Mult (.slot 3) (.int 48271)) (.op false .Mult (.int 104917) (.ix (.slot 0) (.int 3)))) (.int 3)) .nil)) (.int 2147483587)) (.int 64)) .nil)) (.slot 1)))
      .nil))))
theorem sc__law_take : FnScope N__law_take ["box", "many"] (defScope (top 7)) := ⟨rfl, rfl, rfl, by decide +kernel, rfl, by decide +kernel, by decide +kernel⟩
theorem chk__law_take : chkSs core__law_take { sc := defScope (top 7), N := N__law_take, fn := fun _ => true, bl := bl, fns := fns__law_take, gls := gls, mts := ["entering", "leaving", "exchange", "settle", "times", "prices"], mks := ["Pivots"], gcd := true } (defBody (top 7)) = true := by decide +kernel

-- _law_box
def N__law_box : List Str := ["great"]
def fns__law_box : List Str := ["lowest", "solved", "_law_cell", "_law_take"]
def core__law_box : CSs := (.cons (.ret (.lst true (.cons (.blt false .abs (.cons (.slot 0) .nil)) (.cons (.cmp .GtE (.blt false .abs (.cons (.slot 0) .nil)) (.op false .Pow (.int 10) (.int 18))) (.cons (.op false .Mod (.blt false .int (.cons (.blt false .abs (.cons (.slot 0) .nil)) .nil)) (.int 2147483629)) (.cons (.int 0) .nil))))))
      .nil)
theorem sc__law_box : FnScope N__law_box ["great"] (defScope (top 8)) := ⟨rfl, rfl, rfl, by decide +kernel, rfl, by decide +kernel, by decide +kernel⟩
theorem chk__law_box : chkSs core__law_box { sc := defScope (top 8), N := N__law_box, fn := fun _ => true, bl := bl, fns := fns__law_box, gls := gls, mts := ["entering", "leaving", "exchange", "settle", "times", "prices"], mks := ["Pivots"], gcd := true } (defBody (top 8)) = true := by decide +kernel

-- _law_same
def N__law_same : List Str := ["told", "due", "k"]
def fns__law_same : List Str := ["lowest", "solved", "_law_cell", "_law_take", "_law_box", "_law_same"]
def core__law_same : CSs := (.cons (.ifs (.or (.cmp .Is (.slot 1) .non) (.last (.isi .bool (.slot 1)))) (.cons (.ret (.ite (.cmp .Is (.slot 1) .non) (.cmp .Is (.slot 0) .non) (.and (.isi .bool (.slot 0)) (.last (.cmp .Eq (.cmp .Is (.slot 0) (.bl true)) (.cmp .Is (.slot 1) (.bl true)))))))
      .nil) .nil)
      (.cons (.ifs (.isi .int (.slot 1)) (.cons (.ret (.and (.isi .int (.slot 0)) (.and (.not (.isi .bool (.slot 0))) (.last (.cmp .Eq (.op false .Sub (.blt false .int (.cons (.slot 0) .nil)) (.slot 1)) (.int 0))))))
      .nil) .nil)
      (.cons (.ifs (.isi .str (.slot 1)) (.cons (.ret (.and (.isi .str (.slot 0)) (.last (.cmp .Eq (.slot 0) (.slot 1)))))
      .nil) .nil)
      (.cons (.ifs (.isi .dict (.slot 1)) (.cons (.ret (.and (.isi .dict (.slot 0)) (.last (.cmp .Eq (.slot 0) (.slot 1)))))
      .nil) .nil)
      (.cons (.ifs (.or (.cmp .NotEq (.isi .list (.slot 0)) (.isi .list (.slot 1))) (.last (.cmp .NotEq (.isi .tuple (.slot 0)) (.isi .tuple (.slot 1))))) (.cons (.ret (.bl false))
      .nil) .nil)
      (.cons (.ret (.and (.cmp .Eq (.blt false .len (.cons (.slot 0) .nil)) (.blt false .len (.cons (.slot 1) .nil))) (.last (.cmp .Eq (.lc false [("k", 2)] (.slot 2) (.range1 (.blt false .len (.cons (.slot 1) .nil))) (.one (.not (.call 5 (.cons (.ix (.slot 0) (.slot 2)) (.cons (.ix (.slot 1) (.slot 2)) .nil))))) (.slot 2)) (.lst false .nil)))))
      .nil))))))
theorem sc__law_same : FnScope N__law_same ["told", "due"] (defScope (top 9)) := ⟨rfl, rfl, rfl, by decide +kernel, rfl, by decide +kernel, by decide +kernel⟩
theorem chk__law_same : chkSs core__law_same { sc := defScope (top 9), N := N__law_same, fn := fun _ => true, bl := bl, fns := fns__law_same, gls := gls, mts := ["entering", "leaving", "exchange", "settle", "times", "prices"], mks := ["Pivots"], gcd := true } (defBody (top 9)) = true := by decide +kernel

-- _law_int
def N__law_int : List Str := ["thing"]
def fns__law_int : List Str := ["lowest", "solved", "_law_cell", "_law_take", "_law_box", "_law_same"]
def core__law_int : CSs := (.cons (.ret (.and (.isi .int (.slot 0)) (.last (.not (.isi .bool (.slot 0))))))
      .nil)
theorem sc__law_int : FnScope N__law_int ["thing"] (defScope (top 10)) := ⟨rfl, rfl, rfl, by decide +kernel, rfl, by decide +kernel, by decide +kernel⟩
theorem chk__law_int : chkSs core__law_int { sc := defScope (top 10), N := N__law_int, fn := fun _ => true, bl := bl, fns := fns__law_int, gls := gls, mts := ["entering", "leaving", "exchange", "settle", "times", "prices"], mks := ["Pivots"], gcd := true } (defBody (top 10)) = true := by decide +kernel

-- _law_columns
def N__law_columns : List Str := ["box", "many", "size", "found", "turn", "column", "place", "entry"]
def fns__law_columns : List Str := ["lowest", "solved", "_law_cell", "_law_take", "_law_box", "_law_same", "_law_int"]
def core__law_columns : CSs := (.cons (.set 3 (.lst true .nil))
      (.cons (.for_ (.slot 4) (.range1 (.call 3 (.cons (.slot 0) (.cons (.int 9) .nil)))) (.cons (.setlc 5 false [("place", 6)] (.slot 6) (.range1 (.slot 1)) .no (.op false .Mult (.ix (.lst false (.cons (.int 0) (.cons (.int 1) (.cons (.neg (.int 1)) (.cons (.int 2) (.cons (.int 3) (.cons (.neg (.int 4)) (.cons (.int 0) .nil)))))))) (.call 3 (.cons (.slot 0) (.cons (.int 7) .nil)))) (.slot 2)))
      (.cons (.ifs (.and (.cmp .NotEq (.slot 3) (.lst false .nil)) (.last (.cmp .Eq (.call 3 (.cons (.slot 0) (.cons (.int 6) .nil))) (.int 0)))) (.cons (.setlc 5 false [("entry", 7)] (.slot 7) (.seq (.ix (.slot 3) (.neg (.int 1)))) .no (.neg (.slot 7)))
      .nil) .nil)
      (.cons (.expr (.app (.slot 3) (.slot 5)))
      .nil))))
      (.frz 3 (.cons (.ret (.slot 3))
      .nil))))
theorem sc__law_columns : FnScope N__law_columns ["box", "many", "size"] (defScope (top 11)) := ⟨rfl, rfl, rfl, by decide +kernel, rfl, by decide +kernel, by decide +kernel⟩
theorem chk__law_columns : chkSs core__law_columns { sc := defScope (top 11), N := N__law_columns, fn := fun _ => true, bl := bl, fns := fns__law_columns, gls := gls, mts := ["entering", "leaving", "exchange", "settle", "times", "prices"], mks := ["Pivots"], gcd := true } (defBody (top 11)) = true := by decide +kernel

-- _law_side
def N__law_side : List Str := ["box", "columns", "many", "size", "place", "side", "column", "times", "one", "other", "entry"]
def fns__law_side : List Str := ["lowest", "solved", "_law_cell", "_law_take", "_law_box", "_law_same", "_law_int", "_law_columns"]
def core__law_side : CSs := (.cons (.ifs (.or (.cmp .Eq (.call 3 (.cons (.slot 0) (.cons (.int 2) .nil))) (.int 0)) (.last (.cmp .Eq (.slot 1) (.lst false .nil)))) (.cons (.ret (.lst false (.cons (.lc false [("place", 4)] (.slot 4) (.range1 (.slot 2)) .no (.op false .Mult (.ix (.lst false (.cons (.int 0) (.cons (.int 1) (.cons (.neg (.int 1)) (.cons (.int 5) (.cons (.neg (.int 2)) .nil)))))) (.call 3 (.cons (.slot 0) (.cons (.int 5) .nil)))) (.slot 3))) (.cons (.bl false) .nil))))
      .nil) .nil)
      (.cons (.set 5 (.op false .Mult (.lst false (.cons (.int 0) .nil)) (.slot 2)))
      (.cons (.for_ (.slot 6) (.seq (.slot 1)) (.cons (.set 7 (.ix (.lst false (.cons (.int 0) (.cons (.int 0) (.cons (.int 1) (.cons (.int 2) (.cons (.int 5) .nil)))))) (.call 3 (.cons (.slot 0) (.cons (.int 5) .nil)))))
      (.cons (.setlc 5 false [("one", 8), ("other", 9)] (.tup (.cons (.slot 8) (.cons (.slot 9) .nil))) (.zip (.slot 5) (.slot 6)) .no (.op false .Add (.slot 8) (.op false .Mult (.slot 7) (.slot 9))))
      .nil)))
      (.cons (.ifs (.and (.cmp .Eq (.lc false [("entry", 10)] (.slot 10) (.seq (.slot 5)) (.one (.cmp .NotEq (.op false .Mod (.blt false .int (.cons (.slot 10) .nil)) (.int 3)) (.int 0))) (.slot 10)) (.lst false .nil)) (.last (.cmp .Eq (.call 3 (.cons (.slot 0) (.cons (.int 2) .nil))) (.int 0)))) (.cons (.setlc 5 false [("entry", 10)] (.slot 10) (.seq (.slot 5)) .no (.op false .FloorDiv (.slot 10) (.int 3)))
      .nil) .nil)
      (.cons (.ret (.lst false (.cons (.slot 5) (.cons (.bl true) .nil))))
      .nil)))))
theorem sc__law_side : FnScope N__law_side ["box", "columns", "many", "size"] (defScope (top 12)) := ⟨rfl, rfl, rfl, by decide +kernel, rfl, by decide +kernel, by decide +kernel⟩
theorem chk__law_side : chkSs core__law_side { sc := defScope (top 12), N := N__law_side, fn := fun _ => true, bl := bl, fns := fns__law_side, gls := gls, mts := ["entering", "leaving", "exchange", "settle", "times", "prices"], mks := ["Pivots"], gcd := true } (defBody (top 12)) = true := by decide +kernel

-- law
def N_law : List Str := ["script", "k", "box", "many", "size", "named", "columns", "side", "sure", "shown", "found", "number", "place", "column", "price", "entry"]
def fns_law : List Str := ["lowest", "solved", "_law_cell", "_law_take", "_law_box", "_law_same", "_law_int", "_law_columns", "_law_side"]
def core_law : CSs := (.cons (.for_ (.slot 1) (.range1 (.blt false .max (.cons (.int 2) (.cons (.blt false .min (.cons (.int 6) (.cons (.blt false .len (.cons (.slot 0) .nil)) .nil))) .nil)))) (.cons (.set 2 (.call 4 (.cons (.call 2 (.cons (.slot 0) (.cons (.slot 1) .nil))) .nil)))
      (.cons (.par3 3 4 5 (.op false .Add (.int 1) (.call 3 (.cons (.slot 2) (.cons (.int 5) .nil)))) (.ix (.lst false (.cons (.int 1) (.cons (.int 1) (.cons (.op false .Add (.op false .Pow (.int 10) (.int 12)) (.int 7)) .nil)))) (.call 3 (.cons (.slot 2) (.cons (.int 3) .nil)))) (.cmp .Eq (.call 3 (.cons (.slot 2) (.cons (.int 2) .nil))) (.int 0)))
      (.cons (.set 6 (.call 7 (.cons (.slot 2) (.cons (.slot 3) (.cons (.slot 4) .nil)))))
      (.cons (.setg (.tup (.cons (.slot 7) (.cons (.slot 8) .nil))) (.call 8 (.cons (.slot 2) (.cons (.slot 6) (.cons (.slot 3) (.cons (.slot 4) .nil))))))
      (.cons (.set 9 (.repr (.lst false (.cons (.slot 6) (.cons (.slot 7) .nil)))))
      (.cons (.set 10 (.ite (.slot 5) (.callk 1 ["side", "columns"] [1, 0] (.cons (.slot 7) (.cons (.slot 6) .nil))) (.call 1 (.cons (.slot 6) (.cons (.slot 7) .nil)))))
      (.cons (.ifs (.or (.not (.isi .tuple (.slot 10))) (.or (.cmp .NotEq (.blt false .len (.cons (.slot 10) .nil)) (.int 2)) (.or (.not (.call 6 (.cons (.ix (.slot 10) (.int 0)) .nil))) (.or (.cmp .Lt (.ix (.slot 10) (.int 0)) (.int 0)) (.last (.not (.isi .list (.ix (.slot 10) (.int 1))))))))) (.cons (.ret (.bl false))
      .nil) .nil)
      (.cons (.ifs (.or (.cmp .NotEq (.lc false [("number", 11)] (.slot 11) (.seq (.ix (.slot 10) (.int 1))) (.one (.or (.not (.isi .int (.slot 11))) (.last (.isi .bool (.slot 11))))) (.slot 11)) (.lst false .nil)) (.last (.and (.slot 8) (.last (.cmp .Eq (.ix (.slot 10) (.int 0)) (.int 0)))))) (.cons (.ret (.bl false))
      .nil) .nil)
      (.cons (.ifs (.cmp .Gt (.ix (.slot 10) (.int 0)) (.int 0)) (.cons (.ifs (.or (.cmp .NotEq (.blt false .len (.cons (.ix (.slot 10) (.int 1)) .nil)) (.blt false .len (.cons (.slot 6) .nil))) (.last (.cmp .NotEq (.lc false [("number", 11)] (.slot 11) (.seq (.ix (.slot 10) (.int 1))) (.one (.cmp .Lt (.slot 11) (.int 0))) (.slot 11)) (.lst false .nil)))) (.cons (.ret (.bl false))
      .nil) .nil)
      (.cons (.for_ (.slot 12) (.range1 (.slot 3)) (.cons (.ifs (.cmp .NotEq (.blt false .sum (.cons (.lc false [("number", 11), ("column", 13)] (.tup (.cons (.slot 11) (.cons (.slot 13) .nil))) (.zip (.ix (.slot 10) (.int 1)) (.slot 6)) .no (.op false .Mult (.slot 11) (.ix (.slot 13) (.slot 12)))) .nil)) (.op false .Mult (.ix (.slot 10) (.int 0)) (.ix (.slot 7) (.slot 12)))) (.cons (.ret (.bl false))
      .nil) .nil)
      .nil))
      .nil)) (.cons (.ifs (.or (.cmp .NotEq (.blt false .len (.cons (.ix (.slot 10) (.int 1)) .nil)) (.slot 3)) (.last (.cmp .LtE (.blt false .sum (.cons (.lc false [("price", 14), ("entry", 15)] (.tup (.cons (.slot 14) (.cons (.slot 15) .nil))) (.zip (.ix (.slot 10) (.int 1)) (.slot 7)) .no (.op false .Mult (.slot 14) (.slot 15))) .nil)) (.int 0)))) (.cons (.ret (.bl false))
      .nil) .nil)
      (.cons (.for_ (.slot 13) (.seq (.slot 6)) (.cons (.ifs (.cmp .Gt (.blt false .sum (.cons (.lc false [("price", 14), ("entry", 15)] (.tup (.cons (.slot 14) (.cons (.slot 15) .nil))) (.zip (.ix (.slot 10) (.int 1)) (.slot 13)) .no (.op false .Mult (.slot 14) (.slot 15))) .nil)) (.int 0)) (.cons (.ret (.bl false))
      .nil) .nil)
      .nil))
      .nil)))
      (.cons (.ifs (.or (.not (.call 5 (.cons (.call 1 (.cons (.lc false [("column", 13)] (.slot 13) (.seq (.slot 6)) .no (.blt false .list (.cons (.slot 13) .nil))) (.cons (.blt false .list (.cons (.slot 7) .nil)) .nil))) (.cons (.slot 10) .nil)))) (.last (.cmp .NotEq (.repr (.lst false (.cons (.slot 6) (.cons (.slot 7) .nil)))) (.slot 9)))) (.cons (.ret (.bl false))
      .nil) .nil)
      .nil)))))))))))
      (.cons (.ret (.bl true))
      .nil))
theorem sc_law : FnScope N_law ["script"] (defScope (top 13)) := ⟨rfl, rfl, rfl, by decide +kernel, rfl, by decide +kernel, by decide +kernel⟩
theorem chk_law : chkSs core_law { sc := defScope (top 13), N := N_law, fn := fun _ => true, bl := bl, fns := fns_law, gls := gls, mts := ["entering", "leaving", "exchange", "settle", "times", "prices"], mks := ["Pivots"], gcd := true } (defBody (top 13)) = true := by decide +kernel
-- kws: {'solved': [(['side', 'columns'], [1, 0])]}
end K09
set_option Elab.async false
set_option linter.all false
set_option maxRecDepth 100000
set_option maxHeartbeats 1000000
namespace DL
open PySem L2
/-- a for loop, by the place -/
theorem forL_at {chk : Store → Prop} {g : CG} {b : DSt} {E : DEnds} {xs : List D} (I : Nat → Slots → Store → Prop)
    (step : ∀ k x sd S, xs[k]? = some x → I k sd S → chk S ∧ ∃ sd', gset g x sd = some sd' ∧ ∀ K : Slots → Store → Prop, (∀ sd2 S2, I (k + 1) sd2 S2 → K sd2 S2) → b { E with nx := K, ct := K, bk := E.nx } sd' S)
    (done : ∀ sd S, I xs.length sd S → chk S ∧ E.nx sd S) (sd : Slots) (S : Store) (h : I 0 sd S) : forL chk g b E xs sd S := by
  refine forL_ind (fun ys sd S => ∃ k, ys = xs.drop k ∧ k ≤ xs.length ∧ I k sd S) ?_ ?_ xs sd S ⟨0, by simp, Nat.zero_le _, h⟩
  · rintro x ys sd S ⟨k, e, hk, hI⟩
    have hlt : k < xs.length := by
      rcases Nat.lt_or_eq_of_le hk with z | z
      · exact z
      · subst z; rw [List.drop_length] at e; cases e
    rw [List.drop_eq_getElem_cons hlt] at e
    cases e
    obtain ⟨h1, sd', h2, h3⟩ := step k _ sd S (List.getElem?_eq_getElem hlt) hI
    exact ⟨h1, sd', h2, fun K hK => h3 K fun sd2 S2 i2 => hK sd2 S2 ⟨k + 1, rfl, hlt, i2⟩⟩
  · rintro sd S ⟨k, e, hk, hI⟩
    have : k = xs.length := by
      have := congrArg List.length e
      rw [List.length_nil, List.length_drop] at this; omega
    subst this
    exact done sd S hI
theorem rangeD_at {n : Int} {k : Nat} {x : D} (h : (rangeD 0 n)[k]? = some x) : x = .int (k : Int) ∧ (k : Int) < n := by
  obtain ⟨h1, h2⟩ := rangeD_get h
  exact ⟨by rw [h1]; congr 1; omega, by omega⟩
end DL
namespace K09
open PySem L2 DL Piv
def DD (Q : DQ) : DEnds := { nx := fun _ S' => rtQ Q .non S', rt := rtQ Q }
def rowD (r : List Int) : D := .lst (r.map D.int)
def natD (n : Nat) : D := .int (n : Int)
def fldP : Str → List Str := fun c => if c = "Pivots" then ["many", "signs", "rows", "costs", "base", "scale"] else []
def fldsP (t : Tab) (r b : Addr) : List (Str × D) := [("many", .int t.many), ("signs", .lst (t.signs.map D.int)), ("rows", .ref r), ("costs", .lst (t.costs.map D.int)), ("base", .ref b), ("scale", .int t.scale)]
def insO (t : Tab) (r b : Addr) : O := .ins "Pivots" (fldsP t r b)
structure At (S : Store) (a r b : Addr) (t : Tab) : Prop where
  o : S a = some (insO t r b)
  rw_ : S r = some (.lst (t.rows.map rowD))
  bs : S b = some (.lst (t.base.map natD))
  ar : a ≠ r
  ab : a ≠ b
  rb : r ≠ b
section
variable {T : Tb} {S : Store} {a r b : Addr} {t : Tab} {Q : DQ}
theorem At.fld (h : At S a r b t) (hF : T.fld = fldP) {f : Str} {v : D} (hf : (fldP "Pivots").contains f = true) (hl : (fldsP t r b).lookup f = some v) : fFld T.fld f (.ref a) S Q = Q v S := by
  unfold fFld
  dsimp only
  rw [h.o, hF]
  show ((fldP "Pivots").contains f = true ∧ match (fldsP t r b).lookup f with | some v => Q v S | none => False) = _
  rw [hl]
  exact propext ⟨fun z => z.2, fun q => ⟨hf, q⟩⟩
theorem At.many (h : At S a r b t) (hF : T.fld = fldP) : fFld T.fld "many" (.ref a) S Q = Q (.int t.many) S := h.fld hF (by decide +kernel) rfl
theorem At.signs (h : At S a r b t) (hF : T.fld = fldP) : fFld T.fld "signs" (.ref a) S Q = Q (.lst (t.signs.map D.int)) S := h.fld hF (by decide +kernel) rfl
theorem At.rows (h : At S a r b t) (hF : T.fld = fldP) : fFld T.fld "rows" (.ref a) S Q = Q (.ref r) S := h.fld hF (by decide +kernel) rfl
theorem At.costs (h : At S a r b t) (hF : T.fld = fldP) : fFld T.fld "costs" (.ref a) S Q = Q (.lst (t.costs.map D.int)) S := h.fld hF (by decide +kernel) rfl
theorem At.base (h : At S a r b t) (hF : T.fld = fldP) : fFld T.fld "base" (.ref a) S Q = Q (.ref b) S := h.fld hF (by decide +kernel) rfl
theorem At.scale (h : At S a r b t) (hF : T.fld = fldP) : fFld T.fld "scale" (.ref a) S Q = Q (.int t.scale) S := h.fld hF (by decide +kernel) rfl
theorem At.congr (h : At S a r b t) {S' : Store} (ha : S' a = S a) (hr : S' r = S r) (hb : S' b = S b) : At S' a r b t := ⟨ha.trans h.o, hr.trans h.rw_, hb.trans h.bs, h.ar, h.ab, h.rb⟩
end
theorem atI_gt {l : List Int} {c : Nat} (h : c < l.length) : atI (l.map D.int) (c : Int) = some (.int (gt l c)) := atI_getD h
theorem atI_end {l : List Int} {n : Nat} (h : l.length = n + 1) : atI (l.map D.int) (-1) = some (.int (gt l n)) := by
  unfold atI ixN
  rw [if_neg (by decide), List.length_map, h, if_pos (by omega)]
  show (l.map D.int)[((-1 : Int) + ((n + 1 : Nat) : Int)).toNat]? = _
  rw [show ((-1 : Int) + ((n + 1 : Nat) : Int)).toNat = n by omega, List.getElem?_map, List.getElem?_eq_getElem (by omega), gt_lt (by omega)]; rfl
theorem atI_row {t : Tab} {i : Nat} (h : i < t.rows.length) : atI (t.rows.map rowD) (i : Int) = some (rowD (t.row i)) := by
  rw [atI_pos (Int.natCast_nonneg i) (by rw [List.length_map]; omega)]
  unfold Tab.row
  simp [List.getD_eq_getElem?_getD, List.getElem?_eq_getElem h]
theorem atI_base {t : Tab} {i : Nat} (h : i < t.base.length) : atI (t.base.map natD) (i : Int) = some (natD (t.base.getD i 0)) := by
  rw [atI_pos (Int.natCast_nonneg i) (by rw [List.length_map]; omega)]
  simp [List.getD_eq_getElem?_getD, List.getElem?_eq_getElem h]
/-! ### gcd, lowest -/
def Md (x : Int) : Prop := x.natAbs < 2 ^ 2100
def spLowest : DSp := fun ds S Q => ∃ ns : List Int, ds = [.lst (ns.map D.int)] ∧ ns.length ≤ 1000 ∧ (∀ x ∈ ns, Md x) ∧ Q (.lst ((lowest ns).map D.int)) S
theorem gcdF_app (g : Nat) (a b : List Int) : gcdF g (a ++ b) = gcdF (gcdF g a) b := List.foldl_append
theorem gcdF_one (ns : List Int) : gcdF 1 ns = 1 := Nat.dvd_one.mp (gcdF_dvd (ns := ns) (g := 1)).1
theorem lowest_one {ns : List Int} (h : gcdF 0 ns = 1) : lowest ns = ns := by
  unfold lowest sh
  rw [h]
  show ns.map (fun x => x / ((max 1 1 : Nat) : Int)) = ns
  have : (fun x : Int => x / ((max 1 1 : Nat) : Int)) = id := by funext x; exact Int.ediv_one x
  rw [this, List.map_id]
theorem sh_md {ns : List Int} (h : ∀ x ∈ ns, Md x) : (sh ns).natAbs < 2 ^ 2100 := by
  unfold sh
  by_cases z : gcdF 0 ns = 0
  · rw [z]; exact Nat.one_lt_two_pow (by decide)
  · have : ∃ x ∈ ns, x ≠ 0 := Classical.byContradiction fun no => by
      have : ∀ x ∈ ns, x.natAbs = 0 := fun x hx => Classical.byContradiction fun y => no ⟨x, hx, by omega⟩
      have h2 : 0 ∣ gcdF 0 ns := dvd_gcdF (Nat.dvd_refl 0) fun x hx => by rw [this x hx]; exact Nat.dvd_refl 0
      exact z (Nat.zero_dvd.mp h2)
    obtain ⟨x, hx, x0⟩ := this
    have h1 := Nat.le_of_dvd (by omega) ((gcdF_dvd (ns := ns) (g := 0)).2 x hx)
    have h2 := h x hx
    unfold Md at h2
    rw [show max (gcdF 0 ns) 1 = gcdF 0 ns by omega, Int.natAbs_natCast]
    omega
theorem log_md {n : Nat} (h : n < 2 ^ 2100) : n.log2 < 9000 := by
  by_cases z : n = 0
  · rw [z]; decide
  · have := (Nat.log2_lt z).mpr h
    omega
theorem r_lowest {T : Tb} (hg : T.gcd = true) {ds : List D} {S : Store} {Q : DQ} (h : spLowest ds S Q) : denSs T core_lowest (DD Q) (start0 N_lowest.length ds) S := by
  obtain ⟨ns, rfl, hl, hm, q⟩ := h
  simp only [core_lowest, N_lowest, DD, denSs, denS, den, dens, denO, denT, denI, DV.of, DV.ofB, sSeq, sRet, sRetN, sNext, sIf, sSet, sSetG, sPar, sPar3, sSetIx, sDrop, sFor, sForKeys, sBreak, sCont, dAnd, dOr, dNot, dAndT, dOrT, dNotT, dUn, dOp, dIte, dVar, dC, dTup, dLst, dNil, dCons, dCall, dCut, dPart, dNoPart, dGet1, dGet2, dApp,
  dSeq1, dRange1, dRange2, dEnum, dZip, dLc, dDc, dChain, fIsi, fBlt, fLen, fAbs, fInt1, fMax, fMin, fL1, fTuple, fList, fSorted, fDict, fBin, fCmp, fNeg, fAdd, fSub, fMul, fMod, fDiv, fPow, fInt, fInt0, fLt, fLe, fGt, fGe, fIs, fIsNot, fInD, fIx, fCut, fSeq, fRange1, fRange2, fEnum, fZip, fSetIx, fGet, fApp, fLenSet, fAug, sAug, tOf, tOfB, guardN, gset, gsets, sFrz, frz_dct, frz_lst, fEq_int, fNe_int, fEq_bl, fNe_bl, fEq_nil, fNe_nil, fEq_ints,
  TyC.name, DL.isNon, start0, List.length_cons, List.length_nil, List.map_cons, List.map_nil, List.cons_append, List.nil_append, List.getElem?_cons_zero, List.getElem?_cons_succ, List.getElem?_nil, List.set_cons_zero, List.set_cons_succ, List.set_nil, List.replicate, Nat.reduceSub, Nat.reduceAdd, mkL, mkD, dwipe, Bool.false_eq_true, if_true, if_false, ite_true, ite_false, true_and, and_true, Option.isSome_some, Option.isSome_none, Option.map_some, Option.map_none, Option.getD_some, Option.getD_none,
  tyD_non, tyD_bl, tyD_int, tyD_str, tyD_tup, tyD_lst, tyD_dct, truD_non, truD_bl, truD_int, truD_tup, truD_lst, truD_dct, asL_non, asD_non, keyD_non, asL_bl, asD_bl, keyD_bl, asL_int, asD_int, keyD_int, asL_str, asD_str, keyD_str, asL_tup, asD_tup, keyD_tup, asL_lst, asD_lst, keyD_lst, asL_dct, asD_dct, keyD_dct, asL_scr, asD_scr, keyD_scr, asL_sup, asD_sup, asL_supD, isLs_sup, tyD_supL, tyD_supD, sup_same, sup_sup, ixN_1_0, ixN_2_0, ixN_2_1, ixN_3_0, ixN_3_1, ixN_3_2, ixN_4_0, ixN_4_1, ixN_4_2, ixN_4_3, ixN_5_0, ixN_5_1, ixN_5_2, ixN_5_3, ixN_5_4, ixN_6_0, ixN_6_1, ixN_6_2, ixN_6_3, ixN_6_4, ixN_6_5, ixN_7_0, ixN_7_1, ixN_7_2, ixN_7_3, ixN_7_4, ixN_7_5, ixN_7_6, ixN_8_0, ixN_8_1, ixN_8_2, ixN_8_3, ixN_8_4, ixN_8_5, ixN_8_6, ixN_8_7, atI_0, atI_1, atI_2, atI_3, atI_4, atI_5, atI_6, atI_7, atI_8, isi_NoneType_bool, isi_NoneType_int, isi_NoneType_str, isi_NoneType_tuple, isi_NoneType_list, isi_NoneType_dict, isi_bool_bool, isi_bool_int, isi_bool_str, isi_bool_tuple, isi_bool_list, isi_bool_dict, isi_int_bool, isi_int_int, isi_int_str, isi_int_tuple, isi_int_list, isi_int_dict, isi_str_bool, isi_str_int, isi_str_str, isi_str_tuple, isi_str_list, isi_str_dict, isi_tuple_bool, isi_tuple_int, isi_tuple_str, isi_tuple_tuple, isi_tuple_list, isi_tuple_dict, isi_list_bool, isi_list_int, isi_list_str, isi_list_tuple, isi_list_list, isi_list_dict, isi_dict_bool, isi_dict_int, isi_dict_str, isi_dict_tuple, isi_dict_list, isi_dict_dict, hg, fGcd]
  refine forL_at (fun k sd S' => S' = S ∧ ∃ o2, sd = [some (.lst (ns.map D.int)), some (.int (gcdF 0 (ns.take k) : Nat)), o2]) ?_ ?_ _ _ ⟨rfl, none, rfl⟩
  · rintro k x sd S' hx ⟨rfl, o2, rfl⟩
    rw [List.getElem?_map] at hx
    cases e : ns[k]? with
    | none => rw [e] at hx; cases hx
    | some n =>
      rw [e] at hx
      cases hx
      have hk : k < ns.length := (List.getElem?_eq_some_iff.mp e).1
      have e2 : ns.take (k + 1) = ns.take k ++ [n] := by rw [List.take_add_one, e]; rfl
      have e3 : gcdF 0 (ns.take (k + 1)) = Nat.gcd (gcdF 0 (ns.take k)) n.natAbs := by rw [e2, gcdF_app]; rfl
      refine ⟨trivial, _, rfl, fun K hK => ?_⟩
      simp only [denSs, denS, den, dens, denO, denT, denI, DV.of, DV.ofB, sSeq, sRet, sRetN, sNext, sIf, sSet, sSetG, sPar, sPar3, sSetIx, sDrop, sFor, sForKeys, sBreak, sCont, dAnd, dOr, dNot, dAndT, dOrT, dNotT, dUn, dOp, dIte, dVar, dC, dTup, dLst, dNil, dCons, dCall, dCut, dPart, dNoPart, dGet1, dGet2, dApp,
  dSeq1, dRange1, dRange2, dEnum, dZip, dLc, dDc, dChain, fIsi, fBlt, fLen, fAbs, fInt1, fMax, fMin, fL1, fTuple, fList, fSorted, fDict, fBin, fCmp, fNeg, fAdd, fSub, fMul, fMod, fDiv, fPow, fInt, fInt0, fLt, fLe, fGt, fGe, fIs, fIsNot, fInD, fIx, fCut, fSeq, fRange1, fRange2, fEnum, fZip, fSetIx, fGet, fApp, fLenSet, fAug, sAug, tOf, tOfB, guardN, gset, gsets, sFrz, frz_dct, frz_lst, fEq_int, fNe_int, fEq_bl, fNe_bl, fEq_nil, fNe_nil, fEq_ints,
  TyC.name, DL.isNon, start0, List.length_cons, List.length_nil, List.map_cons, List.map_nil, List.cons_append, List.nil_append, List.getElem?_cons_zero, List.getElem?_cons_succ, List.getElem?_nil, List.set_cons_zero, List.set_cons_succ, List.set_nil, List.replicate, Nat.reduceSub, Nat.reduceAdd, mkL, mkD, dwipe, Bool.false_eq_true, if_true, if_false, ite_true, ite_false, true_and, and_true, Option.isSome_some, Option.isSome_none, Option.map_some, Option.map_none, Option.getD_some, Option.getD_none,
  tyD_non, tyD_bl, tyD_int, tyD_str, tyD_tup, tyD_lst, tyD_dct, truD_non, truD_bl, truD_int, truD_tup, truD_lst, truD_dct, asL_non, asD_non, keyD_non, asL_bl, asD_bl, keyD_bl, asL_int, asD_int, keyD_int, asL_str, asD_str, keyD_str, asL_tup, asD_tup, keyD_tup, asL_lst, asD_lst, keyD_lst, asL_dct, asD_dct, keyD_dct, asL_scr, asD_scr, keyD_scr, asL_sup, asD_sup, asL_supD, isLs_sup, tyD_supL, tyD_supD, sup_same, sup_sup, ixN_1_0, ixN_2_0, ixN_2_1, ixN_3_0, ixN_3_1, ixN_3_2, ixN_4_0, ixN_4_1, ixN_4_2, ixN_4_3, ixN_5_0, ixN_5_1, ixN_5_2, ixN_5_3, ixN_5_4, ixN_6_0, ixN_6_1, ixN_6_2, ixN_6_3, ixN_6_4, ixN_6_5, ixN_7_0, ixN_7_1, ixN_7_2, ixN_7_3, ixN_7_4, ixN_7_5, ixN_7_6, ixN_8_0, ixN_8_1, ixN_8_2, ixN_8_3, ixN_8_4, ixN_8_5, ixN_8_6, ixN_8_7, atI_0, atI_1, atI_2, atI_3, atI_4, atI_5, atI_6, atI_7, atI_8, isi_NoneType_bool, isi_NoneType_int, isi_NoneType_str, isi_NoneType_tuple, isi_NoneType_list, isi_NoneType_dict, isi_bool_bool, isi_bool_int, isi_bool_str, isi_bool_tuple, isi_bool_list, isi_bool_dict, isi_int_bool, isi_int_int, isi_int_str, isi_int_tuple, isi_int_list, isi_int_dict, isi_str_bool, isi_str_int, isi_str_str, isi_str_tuple, isi_str_list, isi_str_dict, isi_tuple_bool, isi_tuple_int, isi_tuple_str, isi_tuple_tuple, isi_tuple_list, isi_tuple_dict, isi_list_bool, isi_list_int, isi_list_str, isi_list_tuple, isi_list_list, isi_list_dict, isi_dict_bool, isi_dict_int, isi_dict_str, isi_dict_tuple, isi_dict_list, isi_dict_dict, fGcd, hg, Int.natAbs_natCast]
      split
      · rename_i h1
        rw [decide_eq_true_eq] at h1
        have h2 : gcdF 0 ns = 1 := by
          have : gcdF 0 (ns.take (k + 1)) = 1 := by rw [e3]; omega
          rw [← List.take_append_drop (k + 1) ns, gcdF_app, this]
          exact gcdF_one _
        rw [lowest_one h2] at q
        exact .of q
      · exact hK _ _ ⟨rfl, _, by rw [e3]⟩
  · rintro sd S' ⟨rfl, o2, rfl⟩
    rw [List.length_map, List.take_length]
    refine ⟨trivial, ?_⟩
    have es : (if (1 : Int) > (gcdF 0 ns : Nat) then (1 : Int) else (gcdF 0 ns : Nat)) = sh ns := by unfold sh; split <;> omega
    simp only [denSs, denS, den, dens, denO, denT, denI, DV.of, DV.ofB, sSeq, sRet, sRetN, sNext, sIf, sSet, sSetG, sPar, sPar3, sSetIx, sDrop, sFor, sForKeys, sBreak, sCont, dAnd, dOr, dNot, dAndT, dOrT, dNotT, dUn, dOp, dIte, dVar, dC, dTup, dLst, dNil, dCons, dCall, dCut, dPart, dNoPart, dGet1, dGet2, dApp,
  dSeq1, dRange1, dRange2, dEnum, dZip, dLc, dDc, dChain, fIsi, fBlt, fLen, fAbs, fInt1, fMax, fMin, fL1, fTuple, fList, fSorted, fDict, fBin, fCmp, fNeg, fAdd, fSub, fMul, fMod, fDiv, fPow, fInt, fInt0, fLt, fLe, fGt, fGe, fIs, fIsNot, fInD, fIx, fCut, fSeq, fRange1, fRange2, fEnum, fZip, fSetIx, fGet, fApp, fLenSet, fAug, sAug, tOf, tOfB, guardN, gset, gsets, sFrz, frz_dct, frz_lst, fEq_int, fNe_int, fEq_bl, fNe_bl, fEq_nil, fNe_nil, fEq_ints,
  TyC.name, DL.isNon, start0, List.length_cons, List.length_nil, List.map_cons, List.map_nil, List.cons_append, List.nil_append, List.getElem?_cons_zero, List.getElem?_cons_succ, List.getElem?_nil, List.set_cons_zero, List.set_cons_succ, List.set_nil, List.replicate, Nat.reduceSub, Nat.reduceAdd, mkL, mkD, dwipe, Bool.false_eq_true, if_true, if_false, ite_true, ite_false, true_and, and_true, Option.isSome_some, Option.isSome_none, Option.map_some, Option.map_none, Option.getD_some, Option.getD_none,
  tyD_non, tyD_bl, tyD_int, tyD_str, tyD_tup, tyD_lst, tyD_dct, truD_non, truD_bl, truD_int, truD_tup, truD_lst, truD_dct, asL_non, asD_non, keyD_non, asL_bl, asD_bl, keyD_bl, asL_int, asD_int, keyD_int, asL_str, asD_str, keyD_str, asL_tup, asD_tup, keyD_tup, asL_lst, asD_lst, keyD_lst, asL_dct, asD_dct, keyD_dct, asL_scr, asD_scr, keyD_scr, asL_sup, asD_sup, asL_supD, isLs_sup, tyD_supL, tyD_supD, sup_same, sup_sup, ixN_1_0, ixN_2_0, ixN_2_1, ixN_3_0, ixN_3_1, ixN_3_2, ixN_4_0, ixN_4_1, ixN_4_2, ixN_4_3, ixN_5_0, ixN_5_1, ixN_5_2, ixN_5_3, ixN_5_4, ixN_6_0, ixN_6_1, ixN_6_2, ixN_6_3, ixN_6_4, ixN_6_5, ixN_7_0, ixN_7_1, ixN_7_2, ixN_7_3, ixN_7_4, ixN_7_5, ixN_7_6, ixN_8_0, ixN_8_1, ixN_8_2, ixN_8_3, ixN_8_4, ixN_8_5, ixN_8_6, ixN_8_7, atI_0, atI_1, atI_2, atI_3, atI_4, atI_5, atI_6, atI_7, atI_8, isi_NoneType_bool, isi_NoneType_int, isi_NoneType_str, isi_NoneType_tuple, isi_NoneType_list, isi_NoneType_dict, isi_bool_bool, isi_bool_int, isi_bool_str, isi_bool_tuple, isi_bool_list, isi_bool_dict, isi_int_bool, isi_int_int, isi_int_str, isi_int_tuple, isi_int_list, isi_int_dict, isi_str_bool, isi_str_int, isi_str_str, isi_str_tuple, isi_str_list, isi_str_dict, isi_tuple_bool, isi_tuple_int, isi_tuple_str, isi_tuple_tuple, isi_tuple_list, isi_tuple_dict, isi_list_bool, isi_list_int, isi_list_str, isi_list_tuple, isi_list_list, isi_list_dict, isi_dict_bool, isi_dict_int, isi_dict_str, isi_dict_tuple, isi_dict_list, isi_dict_dict]
    refine lcL_mapA (toD := D.int) (f := fun x => .int (x / sh ns)) trivial (fun x hx => ⟨_, rfl, fun Q' q' => ?_⟩) ?_
    · simp only [denSs, denS, den, dens, denO, denT, denI, DV.of, DV.ofB, sSeq, sRet, sRetN, sNext, sIf, sSet, sSetG, sPar, sPar3, sSetIx, sDrop, sFor, sForKeys, sBreak, sCont, dAnd, dOr, dNot, dAndT, dOrT, dNotT, dUn, dOp, dIte, dVar, dC, dTup, dLst, dNil, dCons, dCall, dCut, dPart, dNoPart, dGet1, dGet2, dApp,
  dSeq1, dRange1, dRange2, dEnum, dZip, dLc, dDc, dChain, fIsi, fBlt, fLen, fAbs, fInt1, fMax, fMin, fL1, fTuple, fList, fSorted, fDict, fBin, fCmp, fNeg, fAdd, fSub, fMul, fMod, fDiv, fPow, fInt, fInt0, fLt, fLe, fGt, fGe, fIs, fIsNot, fInD, fIx, fCut, fSeq, fRange1, fRange2, fEnum, fZip, fSetIx, fGet, fApp, fLenSet, fAug, sAug, tOf, tOfB, guardN, gset, gsets, sFrz, frz_dct, frz_lst, fEq_int, fNe_int, fEq_bl, fNe_bl, fEq_nil, fNe_nil, fEq_ints,
  TyC.name, DL.isNon, start0, List.length_cons, List.length_nil, List.map_cons, List.map_nil, List.cons_append, List.nil_append, List.getElem?_cons_zero, List.getElem?_cons_succ, List.getElem?_nil, List.set_cons_zero, List.set_cons_succ, List.set_nil, List.replicate, Nat.reduceSub, Nat.reduceAdd, mkL, mkD, dwipe, Bool.false_eq_true, if_true, if_false, ite_true, ite_false, true_and, and_true, Option.isSome_some, Option.isSome_none, Option.map_some, Option.map_none, Option.getD_some, Option.getD_none,
  tyD_non, tyD_bl, tyD_int, tyD_str, tyD_tup, tyD_lst, tyD_dct, truD_non, truD_bl, truD_int, truD_tup, truD_lst, truD_dct, asL_non, asD_non, keyD_non, asL_bl, asD_bl, keyD_bl, asL_int, asD_int, keyD_int, asL_str, asD_str, keyD_str, asL_tup, asD_tup, keyD_tup, asL_lst, asD_lst, keyD_lst, asL_dct, asD_dct, keyD_dct, asL_scr, asD_scr, keyD_scr, asL_sup, asD_sup, asL_supD, isLs_sup, tyD_supL, tyD_supD, sup_same, sup_sup, ixN_1_0, ixN_2_0, ixN_2_1, ixN_3_0, ixN_3_1, ixN_3_2, ixN_4_0, ixN_4_1, ixN_4_2, ixN_4_3, ixN_5_0, ixN_5_1, ixN_5_2, ixN_5_3, ixN_5_4, ixN_6_0, ixN_6_1, ixN_6_2, ixN_6_3, ixN_6_4, ixN_6_5, ixN_7_0, ixN_7_1, ixN_7_2, ixN_7_3, ixN_7_4, ixN_7_5, ixN_7_6, ixN_8_0, ixN_8_1, ixN_8_2, ixN_8_3, ixN_8_4, ixN_8_5, ixN_8_6, ixN_8_7, atI_0, atI_1, atI_2, atI_3, atI_4, atI_5, atI_6, atI_7, atI_8, isi_NoneType_bool, isi_NoneType_int, isi_NoneType_str, isi_NoneType_tuple, isi_NoneType_list, isi_NoneType_dict, isi_bool_bool, isi_bool_int, isi_bool_str, isi_bool_tuple, isi_bool_list, isi_bool_dict, isi_int_bool, isi_int_int, isi_int_str, isi_int_tuple, isi_int_list, isi_int_dict, isi_str_bool, isi_str_int, isi_str_str, isi_str_tuple, isi_str_list, isi_str_dict, isi_tuple_bool, isi_tuple_int, isi_tuple_str, isi_tuple_tuple, isi_tuple_list, isi_tuple_dict, isi_list_bool, isi_list_int, isi_list_str, isi_list_tuple, isi_list_list, isi_list_dict, isi_dict_bool, isi_dict_int, isi_dict_str, isi_dict_tuple, isi_dict_list, isi_dict_dict, es]
      exact ⟨⟨sh_pos ns, log_md (sh_md hm)⟩, q'⟩
    · have e : (ns.map fun x => D.int (x / sh ns)) = (lowest ns).map D.int := by unfold lowest; rw [List.map_map]; rfl
      rw [e]; exact .of q
/-! ### entering -/
/-- the shape of a table -/
structure Wf (t : Tab) (m h : Nat) : Prop where
  many : t.many = h
  rl : t.rows.length = m
  bl : t.base.length = m
  sl : t.signs.length = m
  row : ∀ row ∈ t.rows, row.length = h + m + 1 ∧ ∀ x ∈ row, Sml x
  cl : t.costs.length = h + m + 1
  cs : ∀ x ∈ t.costs, Sml x
  ss : Sml t.scale
  hs : h ≤ 100
  ms : m ≤ 100
theorem Wf.row_mem {t : Tab} {m h : Nat} (w : Wf t m h) {i : Nat} (hi : i < m) : t.row i ∈ t.rows := by
  unfold Tab.row
  rw [List.getD_eq_getElem?_getD, List.getElem?_eq_getElem (by rw [w.rl]; exact hi)]
  exact List.getElem_mem _
theorem Wf.rlen {t : Tab} {m h : Nat} (w : Wf t m h) {i : Nat} (hi : i < m) : (t.row i).length = h + m + 1 := (w.row _ (w.row_mem hi)).1
theorem Wf.rsml {t : Tab} {m h : Nat} (w : Wf t m h) {i : Nat} (hi : i < m) (c : Nat) : Sml (gt (t.row i) c) := by
  by_cases z : c < (t.row i).length
  · rw [gt_lt z]; exact (w.row _ (w.row_mem hi)).2 _ (List.getElem_mem _)
  · rw [gt_ge (by omega)]; exact .of (by decide) (by decide)
theorem Wf.csml {t : Tab} {m h : Nat} (w : Wf t m h) (c : Nat) : Sml (gt t.costs c) := by
  by_cases z : c < t.costs.length
  · rw [gt_lt z]; exact w.cs _ (List.getElem_mem _)
  · rw [gt_ge (by omega)]; exact .of (by decide) (by decide)
def optD : Option Nat → D
  | none => .non
  | some k => .int (k : Int)
def spEntering : DSp := fun ds S Q => ∃ (a r b : Addr) (t : Tab) (m h : Nat), ds = [.ref a] ∧ At S a r b t ∧ Wf t m h ∧ Q (optD t.ent) S
theorem r_entering {T : Tb} (hF : T.fld = fldP) {ds : List D} {S : Store} {Q : DQ} (h : spEntering ds S Q) : denSs T core_Pivots_entering (DD Q) (start0 N_Pivots_entering.length ds) S := by
  obtain ⟨a, r, b, t, m, h, rfl, A, w, q⟩ := h
  have hsz : (1000 : Nat) ≤ sizeLine := by decide
  have hm := w.many
  have h1 := w.hs
  simp only [core_Pivots_entering, N_Pivots_entering, DD, denSs, denS, den, dens, denO, denT, denI, DV.of, DV.ofB, sSeq, sRet, sRetN, sNext, sIf, sSet, sSetG, sPar, sPar3, sSetIx, sDrop, sFor, sForKeys, sBreak, sCont, dAnd, dOr, dNot, dAndT, dOrT, dNotT, dUn, dOp, dIte, dVar, dC, dTup, dLst, dNil, dCons, dCall, dCut, dPart, dNoPart, dGet1, dGet2, dApp,
  dSeq1, dRange1, dRange2, dEnum, dZip, dLc, dDc, dChain, fIsi, fBlt, fLen, fAbs, fInt1, fMax, fMin, fL1, fTuple, fList, fSorted, fDict, fBin, fCmp, fNeg, fAdd, fSub, fMul, fMod, fDiv, fPow, fInt, fInt0, fLt, fLe, fGt, fGe, fIs, fIsNot, fInD, fIx, fCut, fSeq, fRange1, fRange2, fEnum, fZip, fSetIx, fGet, fApp, fLenSet, fAug, sAug, tOf, tOfB, guardN, gset, gsets, sFrz, frz_dct, frz_lst, fEq_int, fNe_int, fEq_bl, fNe_bl, fEq_nil, fNe_nil, fEq_ints,
  TyC.name, DL.isNon, start0, List.length_cons, List.length_nil, List.map_cons, List.map_nil, List.cons_append, List.nil_append, List.getElem?_cons_zero, List.getElem?_cons_succ, List.getElem?_nil, List.set_cons_zero, List.set_cons_succ, List.set_nil, List.replicate, Nat.reduceSub, Nat.reduceAdd, mkL, mkD, dwipe, Bool.false_eq_true, if_true, if_false, ite_true, ite_false, true_and, and_true, Option.isSome_some, Option.isSome_none, Option.map_some, Option.map_none, Option.getD_some, Option.getD_none,
  tyD_non, tyD_bl, tyD_int, tyD_str, tyD_tup, tyD_lst, tyD_dct, truD_non, truD_bl, truD_int, truD_tup, truD_lst, truD_dct, asL_non, asD_non, keyD_non, asL_bl, asD_bl, keyD_bl, asL_int, asD_int, keyD_int, asL_str, asD_str, keyD_str, asL_tup, asD_tup, keyD_tup, asL_lst, asD_lst, keyD_lst, asL_dct, asD_dct, keyD_dct, asL_scr, asD_scr, keyD_scr, asL_sup, asD_sup, asL_supD, isLs_sup, tyD_supL, tyD_supD, sup_same, sup_sup, ixN_1_0, ixN_2_0, ixN_2_1, ixN_3_0, ixN_3_1, ixN_3_2, ixN_4_0, ixN_4_1, ixN_4_2, ixN_4_3, ixN_5_0, ixN_5_1, ixN_5_2, ixN_5_3, ixN_5_4, ixN_6_0, ixN_6_1, ixN_6_2, ixN_6_3, ixN_6_4, ixN_6_5, ixN_7_0, ixN_7_1, ixN_7_2, ixN_7_3, ixN_7_4, ixN_7_5, ixN_7_6, ixN_8_0, ixN_8_1, ixN_8_2, ixN_8_3, ixN_8_4, ixN_8_5, ixN_8_6, ixN_8_7, atI_0, atI_1, atI_2, atI_3, atI_4, atI_5, atI_6, atI_7, atI_8, isi_NoneType_bool, isi_NoneType_int, isi_NoneType_str, isi_NoneType_tuple, isi_NoneType_list, isi_NoneType_dict, isi_bool_bool, isi_bool_int, isi_bool_str, isi_bool_tuple, isi_bool_list, isi_bool_dict, isi_int_bool, isi_int_int, isi_int_str, isi_int_tuple, isi_int_list, isi_int_dict, isi_str_bool, isi_str_int, isi_str_str, isi_str_tuple, isi_str_list, isi_str_dict, isi_tuple_bool, isi_tuple_int, isi_tuple_str, isi_tuple_tuple, isi_tuple_list, isi_tuple_dict, isi_list_bool, isi_list_int, isi_list_str, isi_list_tuple, isi_list_list, isi_list_dict, isi_dict_bool, isi_dict_int, isi_dict_str, isi_dict_tuple, isi_dict_list, isi_dict_dict, A.many hF]
  refine ⟨by omega, by omega, ?_⟩
  refine forL_at (fun k sd S' => S' = S ∧ ∃ o1, sd = [some (.ref a), o1] ∧ entF t.costs (t.many - k) k = t.ent) ?_ ?_ _ _ ⟨rfl, none, rfl, rfl⟩
  · rintro k x sd S' hx ⟨rfl, o1, rfl, g⟩
    obtain ⟨rfl, hk⟩ := rangeD_at hx
    refine ⟨trivial, _, rfl, fun K hK => ?_⟩
    have hk2 : k < t.many := by omega
    simp only [denSs, denS, den, dens, denO, denT, denI, DV.of, DV.ofB, sSeq, sRet, sRetN, sNext, sIf, sSet, sSetG, sPar, sPar3, sSetIx, sDrop, sFor, sForKeys, sBreak, sCont, dAnd, dOr, dNot, dAndT, dOrT, dNotT, dUn, dOp, dIte, dVar, dC, dTup, dLst, dNil, dCons, dCall, dCut, dPart, dNoPart, dGet1, dGet2, dApp,
  dSeq1, dRange1, dRange2, dEnum, dZip, dLc, dDc, dChain, fIsi, fBlt, fLen, fAbs, fInt1, fMax, fMin, fL1, fTuple, fList, fSorted, fDict, fBin, fCmp, fNeg, fAdd, fSub, fMul, fMod, fDiv, fPow, fInt, fInt0, fLt, fLe, fGt, fGe, fIs, fIsNot, fInD, fIx, fCut, fSeq, fRange1, fRange2, fEnum, fZip, fSetIx, fGet, fApp, fLenSet, fAug, sAug, tOf, tOfB, guardN, gset, gsets, sFrz, frz_dct, frz_lst, fEq_int, fNe_int, fEq_bl, fNe_bl, fEq_nil, fNe_nil, fEq_ints,
  TyC.name, DL.isNon, start0, List.length_cons, List.length_nil, List.map_cons, List.map_nil, List.cons_append, List.nil_append, List.getElem?_cons_zero, List.getElem?_cons_succ, List.getElem?_nil, List.set_cons_zero, List.set_cons_succ, List.set_nil, List.replicate, Nat.reduceSub, Nat.reduceAdd, mkL, mkD, dwipe, Bool.false_eq_true, if_true, if_false, ite_true, ite_false, true_and, and_true, Option.isSome_some, Option.isSome_none, Option.map_some, Option.map_none, Option.getD_some, Option.getD_none,
  tyD_non, tyD_bl, tyD_int, tyD_str, tyD_tup, tyD_lst, tyD_dct, truD_non, truD_bl, truD_int, truD_tup, truD_lst, truD_dct, asL_non, asD_non, keyD_non, asL_bl, asD_bl, keyD_bl, asL_int, asD_int, keyD_int, asL_str, asD_str, keyD_str, asL_tup, asD_tup, keyD_tup, asL_lst, asD_lst, keyD_lst, asL_dct, asD_dct, keyD_dct, asL_scr, asD_scr, keyD_scr, asL_sup, asD_sup, asL_supD, isLs_sup, tyD_supL, tyD_supD, sup_same, sup_sup, ixN_1_0, ixN_2_0, ixN_2_1, ixN_3_0, ixN_3_1, ixN_3_2, ixN_4_0, ixN_4_1, ixN_4_2, ixN_4_3, ixN_5_0, ixN_5_1, ixN_5_2, ixN_5_3, ixN_5_4, ixN_6_0, ixN_6_1, ixN_6_2, ixN_6_3, ixN_6_4, ixN_6_5, ixN_7_0, ixN_7_1, ixN_7_2, ixN_7_3, ixN_7_4, ixN_7_5, ixN_7_6, ixN_8_0, ixN_8_1, ixN_8_2, ixN_8_3, ixN_8_4, ixN_8_5, ixN_8_6, ixN_8_7, atI_0, atI_1, atI_2, atI_3, atI_4, atI_5, atI_6, atI_7, atI_8, isi_NoneType_bool, isi_NoneType_int, isi_NoneType_str, isi_NoneType_tuple, isi_NoneType_list, isi_NoneType_dict, isi_bool_bool, isi_bool_int, isi_bool_str, isi_bool_tuple, isi_bool_list, isi_bool_dict, isi_int_bool, isi_int_int, isi_int_str, isi_int_tuple, isi_int_list, isi_int_dict, isi_str_bool, isi_str_int, isi_str_str, isi_str_tuple, isi_str_list, isi_str_dict, isi_tuple_bool, isi_tuple_int, isi_tuple_str, isi_tuple_tuple, isi_tuple_list, isi_tuple_dict, isi_list_bool, isi_list_int, isi_list_str, isi_list_tuple, isi_list_list, isi_list_dict, isi_dict_bool, isi_dict_int, isi_dict_str, isi_dict_tuple, isi_dict_list, isi_dict_dict, A.costs hF, atI_gt (show k < t.costs.length by rw [w.cl]; omega)]
    rw [show t.many - k = (t.many - (k + 1)) + 1 by omega] at g
    unfold entF at g
    split
    · rename_i hc
      rw [decide_eq_true_eq] at hc
      rw [if_pos hc] at g
      rw [← g] at q
      exact .of q
    · rename_i hc
      rw [decide_eq_true_eq] at hc
      rw [if_neg hc] at g
      exact hK _ _ ⟨rfl, _, rfl, g⟩
  · rintro sd S' ⟨rfl, o1, rfl, g⟩
    rw [rangeD_len, show ((t.many : Int) - 0).toNat = t.many by omega, Nat.sub_self] at g
    have g : none = t.ent := g
    rw [← g] at q
    refine ⟨trivial, ?_⟩
    exact .of q
/-! ### leaving -/
def spLeaving : DSp := fun ds S Q => ∃ (a r b : Addr) (t : Tab) (m h p : Nat), ds = [.ref a, .int (p : Int)] ∧ At S a r b t ∧ Wf t m h ∧ p < h ∧ Q (optD (leaveF t (h + m) p m)) S
theorem r_leaving {T : Tb} (hF : T.fld = fldP) {ds : List D} {S : Store} {Q : DQ} (h : spLeaving ds S Q) : denSs T core_Pivots_leaving (DD Q) (start0 N_Pivots_leaving.length ds) S := by
  obtain ⟨a, r, b, t, m, h, p, rfl, A, w, hp, q⟩ := h
  have aR := asL_ref A.rw_
  simp only [core_Pivots_leaving, N_Pivots_leaving, DD, denSs, denS, den, dens, denO, denT, denI, DV.of, DV.ofB, sSeq, sRet, sRetN, sNext, sIf, sSet, sSetG, sPar, sPar3, sSetIx, sDrop, sFor, sForKeys, sBreak, sCont, dAnd, dOr, dNot, dAndT, dOrT, dNotT, dUn, dOp, dIte, dVar, dC, dTup, dLst, dNil, dCons, dCall, dCut, dPart, dNoPart, dGet1, dGet2, dApp,
  dSeq1, dRange1, dRange2, dEnum, dZip, dLc, dDc, dChain, fIsi, fBlt, fLen, fAbs, fInt1, fMax, fMin, fL1, fTuple, fList, fSorted, fDict, fBin, fCmp, fNeg, fAdd, fSub, fMul, fMod, fDiv, fPow, fInt, fInt0, fLt, fLe, fGt, fGe, fIs, fIsNot, fInD, fIx, fCut, fSeq, fRange1, fRange2, fEnum, fZip, fSetIx, fGet, fApp, fLenSet, fAug, sAug, tOf, tOfB, guardN, gset, gsets, sFrz, frz_dct, frz_lst, fEq_int, fNe_int, fEq_bl, fNe_bl, fEq_nil, fNe_nil, fEq_ints,
  TyC.name, DL.isNon, start0, List.length_cons, List.length_nil, List.map_cons, List.map_nil, List.cons_append, List.nil_append, List.getElem?_cons_zero, List.getElem?_cons_succ, List.getElem?_nil, List.set_cons_zero, List.set_cons_succ, List.set_nil, List.replicate, Nat.reduceSub, Nat.reduceAdd, mkL, mkD, dwipe, Bool.false_eq_true, if_true, if_false, ite_true, ite_false, true_and, and_true, Option.isSome_some, Option.isSome_none, Option.map_some, Option.map_none, Option.getD_some, Option.getD_none,
  tyD_non, tyD_bl, tyD_int, tyD_str, tyD_tup, tyD_lst, tyD_dct, truD_non, truD_bl, truD_int, truD_tup, truD_lst, truD_dct, asL_non, asD_non, keyD_non, asL_bl, asD_bl, keyD_bl, asL_int, asD_int, keyD_int, asL_str, asD_str, keyD_str, asL_tup, asD_tup, keyD_tup, asL_lst, asD_lst, keyD_lst, asL_dct, asD_dct, keyD_dct, asL_scr, asD_scr, keyD_scr, asL_sup, asD_sup, asL_supD, isLs_sup, tyD_supL, tyD_supD, sup_same, sup_sup, ixN_1_0, ixN_2_0, ixN_2_1, ixN_3_0, ixN_3_1, ixN_3_2, ixN_4_0, ixN_4_1, ixN_4_2, ixN_4_3, ixN_5_0, ixN_5_1, ixN_5_2, ixN_5_3, ixN_5_4, ixN_6_0, ixN_6_1, ixN_6_2, ixN_6_3, ixN_6_4, ixN_6_5, ixN_7_0, ixN_7_1, ixN_7_2, ixN_7_3, ixN_7_4, ixN_7_5, ixN_7_6, ixN_8_0, ixN_8_1, ixN_8_2, ixN_8_3, ixN_8_4, ixN_8_5, ixN_8_6, ixN_8_7, atI_0, atI_1, atI_2, atI_3, atI_4, atI_5, atI_6, atI_7, atI_8, isi_NoneType_bool, isi_NoneType_int, isi_NoneType_str, isi_NoneType_tuple, isi_NoneType_list, isi_NoneType_dict, isi_bool_bool, isi_bool_int, isi_bool_str, isi_bool_tuple, isi_bool_list, isi_bool_dict, isi_int_bool, isi_int_int, isi_int_str, isi_int_tuple, isi_int_list, isi_int_dict, isi_str_bool, isi_str_int, isi_str_str, isi_str_tuple, isi_str_list, isi_str_dict, isi_tuple_bool, isi_tuple_int, isi_tuple_str, isi_tuple_tuple, isi_tuple_list, isi_tuple_dict, isi_list_bool, isi_list_int, isi_list_str, isi_list_tuple, isi_list_list, isi_list_dict, isi_dict_bool, isi_dict_int, isi_dict_str, isi_dict_tuple, isi_dict_list, isi_dict_dict, A.rows hF, A.rw_]
  refine forL_at (fun k sd S' => S' = S ∧ ∃ o3 o4 o5 o6 o7, sd = [some (.ref a), some (.int (p : Int)), some (optD (leaveF t (h + m) p k)), o3, o4, o5, o6, o7]) ?_ ?_ _ _ ⟨rfl, none, none, none, none, none, rfl⟩
  · rintro k x sd S' hx ⟨rfl, o3, o4, o5, o6, o7, rfl⟩
    obtain ⟨x0, e0, rfl⟩ := enum_get hx
    rw [List.getElem?_map] at e0
    cases e : t.rows[k]? with
    | none => rw [e] at e0; cases e0
    | some row =>
      rw [e] at e0
      cases e0
      have hk : k < m := by rw [← w.rl]; exact (List.getElem?_eq_some_iff.mp e).1
      have er : row = t.row k := by unfold Tab.row; rw [List.getD_eq_getElem?_getD, e]; rfl
      subst er
      refine ⟨A.rw_, _, rfl, fun K hK => ?_⟩
      have s1 : leaveF t (h + m) p (k + 1) = leaveStep t (h + m) p (leaveF t (h + m) p k) k := rfl
      rw [s1] at hK
      have i1 := atI_gt (l := t.row k) (c := p) (by rw [w.rlen hk]; omega)
      have i2 := atI_end (w.rlen hk)
      simp only [denSs, denS, den, dens, denO, denT, denI, DV.of, DV.ofB, sSeq, sRet, sRetN, sNext, sIf, sSet, sSetG, sPar, sPar3, sSetIx, sDrop, sFor, sForKeys, sBreak, sCont, dAnd, dOr, dNot, dAndT, dOrT, dNotT, dUn, dOp, dIte, dVar, dC, dTup, dLst, dNil, dCons, dCall, dCut, dPart, dNoPart, dGet1, dGet2, dApp,
  dSeq1, dRange1, dRange2, dEnum, dZip, dLc, dDc, dChain, fIsi, fBlt, fLen, fAbs, fInt1, fMax, fMin, fL1, fTuple, fList, fSorted, fDict, fBin, fCmp, fNeg, fAdd, fSub, fMul, fMod, fDiv, fPow, fInt, fInt0, fLt, fLe, fGt, fGe, fIs, fIsNot, fInD, fIx, fCut, fSeq, fRange1, fRange2, fEnum, fZip, fSetIx, fGet, fApp, fLenSet, fAug, sAug, tOf, tOfB, guardN, gset, gsets, sFrz, frz_dct, frz_lst, fEq_int, fNe_int, fEq_bl, fNe_bl, fEq_nil, fNe_nil, fEq_ints,
  TyC.name, DL.isNon, start0, List.length_cons, List.length_nil, List.map_cons, List.map_nil, List.cons_append, List.nil_append, List.getElem?_cons_zero, List.getElem?_cons_succ, List.getElem?_nil, List.set_cons_zero, List.set_cons_succ, List.set_nil, List.replicate, Nat.reduceSub, Nat.reduceAdd, mkL, mkD, dwipe, Bool.false_eq_true, if_true, if_false, ite_true, ite_false, true_and, and_true, Option.isSome_some, Option.isSome_none, Option.map_some, Option.map_none, Option.getD_some, Option.getD_none,
  tyD_non, tyD_bl, tyD_int, tyD_str, tyD_tup, tyD_lst, tyD_dct, truD_non, truD_bl, truD_int, truD_tup, truD_lst, truD_dct, asL_non, asD_non, keyD_non, asL_bl, asD_bl, keyD_bl, asL_int, asD_int, keyD_int, asL_str, asD_str, keyD_str, asL_tup, asD_tup, keyD_tup, asL_lst, asD_lst, keyD_lst, asL_dct, asD_dct, keyD_dct, asL_scr, asD_scr, keyD_scr, asL_sup, asD_sup, asL_supD, isLs_sup, tyD_supL, tyD_supD, sup_same, sup_sup, ixN_1_0, ixN_2_0, ixN_2_1, ixN_3_0, ixN_3_1, ixN_3_2, ixN_4_0, ixN_4_1, ixN_4_2, ixN_4_3, ixN_5_0, ixN_5_1, ixN_5_2, ixN_5_3, ixN_5_4, ixN_6_0, ixN_6_1, ixN_6_2, ixN_6_3, ixN_6_4, ixN_6_5, ixN_7_0, ixN_7_1, ixN_7_2, ixN_7_3, ixN_7_4, ixN_7_5, ixN_7_6, ixN_8_0, ixN_8_1, ixN_8_2, ixN_8_3, ixN_8_4, ixN_8_5, ixN_8_6, ixN_8_7, atI_0, atI_1, atI_2, atI_3, atI_4, atI_5, atI_6, atI_7, atI_8, isi_NoneType_bool, isi_NoneType_int, isi_NoneType_str, isi_NoneType_tuple, isi_NoneType_list, isi_NoneType_dict, isi_bool_bool, isi_bool_int, isi_bool_str, isi_bool_tuple, isi_bool_list, isi_bool_dict, isi_int_bool, isi_int_int, isi_int_str, isi_int_tuple, isi_int_list, isi_int_dict, isi_str_bool, isi_str_int, isi_str_str, isi_str_tuple, isi_str_list, isi_str_dict, isi_tuple_bool, isi_tuple_int, isi_tuple_str, isi_tuple_tuple, isi_tuple_list, isi_tuple_dict, isi_list_bool, isi_list_int, isi_list_str, isi_list_tuple, isi_list_list, isi_list_dict, isi_dict_bool, isi_dict_int, isi_dict_str, isi_dict_tuple, isi_dict_list, isi_dict_dict, rowD, i1]
      unfold leaveStep at hK
      by_cases hpos : 0 < gt (t.row k) p
      · rw [if_pos hpos] at hK
        rw [if_pos (decide_eq_true hpos)]
        cases el : leaveF t (h + m) p k with
        | none =>
          rw [el] at hK
          simp only [optD, denSs, denS, den, dens, denO, denT, denI, DV.of, DV.ofB, sSeq, sRet, sRetN, sNext, sIf, sSet, sSetG, sPar, sPar3, sSetIx, sDrop, sFor, sForKeys, sBreak, sCont, dAnd, dOr, dNot, dAndT, dOrT, dNotT, dUn, dOp, dIte, dVar, dC, dTup, dLst, dNil, dCons, dCall, dCut, dPart, dNoPart, dGet1, dGet2, dApp,
  dSeq1, dRange1, dRange2, dEnum, dZip, dLc, dDc, dChain, fIsi, fBlt, fLen, fAbs, fInt1, fMax, fMin, fL1, fTuple, fList, fSorted, fDict, fBin, fCmp, fNeg, fAdd, fSub, fMul, fMod, fDiv, fPow, fInt, fInt0, fLt, fLe, fGt, fGe, fIs, fIsNot, fInD, fIx, fCut, fSeq, fRange1, fRange2, fEnum, fZip, fSetIx, fGet, fApp, fLenSet, fAug, sAug, tOf, tOfB, guardN, gset, gsets, sFrz, frz_dct, frz_lst, fEq_int, fNe_int, fEq_bl, fNe_bl, fEq_nil, fNe_nil, fEq_ints,
  TyC.name, DL.isNon, start0, List.length_cons, List.length_nil, List.map_cons, List.map_nil, List.cons_append, List.nil_append, List.getElem?_cons_zero, List.getElem?_cons_succ, List.getElem?_nil, List.set_cons_zero, List.set_cons_succ, List.set_nil, List.replicate, Nat.reduceSub, Nat.reduceAdd, mkL, mkD, dwipe, Bool.false_eq_true, if_true, if_false, ite_true, ite_false, true_and, and_true, Option.isSome_some, Option.isSome_none, Option.map_some, Option.map_none, Option.getD_some, Option.getD_none,
  tyD_non, tyD_bl, tyD_int, tyD_str, tyD_tup, tyD_lst, tyD_dct, truD_non, truD_bl, truD_int, truD_tup, truD_lst, truD_dct, asL_non, asD_non, keyD_non, asL_bl, asD_bl, keyD_bl, asL_int, asD_int, keyD_int, asL_str, asD_str, keyD_str, asL_tup, asD_tup, keyD_tup, asL_lst, asD_lst, keyD_lst, asL_dct, asD_dct, keyD_dct, asL_scr, asD_scr, keyD_scr, asL_sup, asD_sup, asL_supD, isLs_sup, tyD_supL, tyD_supD, sup_same, sup_sup, ixN_1_0, ixN_2_0, ixN_2_1, ixN_3_0, ixN_3_1, ixN_3_2, ixN_4_0, ixN_4_1, ixN_4_2, ixN_4_3, ixN_5_0, ixN_5_1, ixN_5_2, ixN_5_3, ixN_5_4, ixN_6_0, ixN_6_1, ixN_6_2, ixN_6_3, ixN_6_4, ixN_6_5, ixN_7_0, ixN_7_1, ixN_7_2, ixN_7_3, ixN_7_4, ixN_7_5, ixN_7_6, ixN_8_0, ixN_8_1, ixN_8_2, ixN_8_3, ixN_8_4, ixN_8_5, ixN_8_6, ixN_8_7, atI_0, atI_1, atI_2, atI_3, atI_4, atI_5, atI_6, atI_7, atI_8, isi_NoneType_bool, isi_NoneType_int, isi_NoneType_str, isi_NoneType_tuple, isi_NoneType_list, isi_NoneType_dict, isi_bool_bool, isi_bool_int, isi_bool_str, isi_bool_tuple, isi_bool_list, isi_bool_dict, isi_int_bool, isi_int_int, isi_int_str, isi_int_tuple, isi_int_list, isi_int_dict, isi_str_bool, isi_str_int, isi_str_str, isi_str_tuple, isi_str_list, isi_str_dict, isi_tuple_bool, isi_tuple_int, isi_tuple_str, isi_tuple_tuple, isi_tuple_list, isi_tuple_dict, isi_list_bool, isi_list_int, isi_list_str, isi_list_tuple, isi_list_list, isi_list_dict, isi_dict_bool, isi_dict_int, isi_dict_str, isi_dict_tuple, isi_dict_list, isi_dict_dict, i1, i2] at hK ⊢
          exact ⟨cmulW (w.rsml hk _) (w.rsml hk _), cmulW (w.rsml hk _) (w.rsml hk _), hK _ _ ⟨rfl, _, _, _, _, _, rfl⟩⟩
        | some f =>
          rw [el] at hK
          have hf : f < m := Nat.lt_trans ((leaveF_ok t (h + m) p k).2 f el).1 hk
          have j1 := atI_gt (l := t.row f) (c := p) (by rw [w.rlen hf]; omega)
          have j2 := atI_end (w.rlen hf)
          have j3 := atI_row (t := t) (i := f) (by rw [w.rl]; exact hf)
          have j4 := atI_base (t := t) (i := f) (by rw [w.bl]; exact hf)
          have j5 := atI_base (t := t) (i := k) (by rw [w.bl]; exact hk)
          have aB := asL_ref A.bs
          simp only [optD, denSs, denS, den, dens, denO, denT, denI, DV.of, DV.ofB, sSeq, sRet, sRetN, sNext, sIf, sSet, sSetG, sPar, sPar3, sSetIx, sDrop, sFor, sForKeys, sBreak, sCont, dAnd, dOr, dNot, dAndT, dOrT, dNotT, dUn, dOp, dIte, dVar, dC, dTup, dLst, dNil, dCons, dCall, dCut, dPart, dNoPart, dGet1, dGet2, dApp,
  dSeq1, dRange1, dRange2, dEnum, dZip, dLc, dDc, dChain, fIsi, fBlt, fLen, fAbs, fInt1, fMax, fMin, fL1, fTuple, fList, fSorted, fDict, fBin, fCmp, fNeg, fAdd, fSub, fMul, fMod, fDiv, fPow, fInt, fInt0, fLt, fLe, fGt, fGe, fIs, fIsNot, fInD, fIx, fCut, fSeq, fRange1, fRange2, fEnum, fZip, fSetIx, fGet, fApp, fLenSet, fAug, sAug, tOf, tOfB, guardN, gset, gsets, sFrz, frz_dct, frz_lst, fEq_int, fNe_int, fEq_bl, fNe_bl, fEq_nil, fNe_nil, fEq_ints,
  TyC.name, DL.isNon, start0, List.length_cons, List.length_nil, List.map_cons, List.map_nil, List.cons_append, List.nil_append, List.getElem?_cons_zero, List.getElem?_cons_succ, List.getElem?_nil, List.set_cons_zero, List.set_cons_succ, List.set_nil, List.replicate, Nat.reduceSub, Nat.reduceAdd, mkL, mkD, dwipe, Bool.false_eq_true, if_true, if_false, ite_true, ite_false, true_and, and_true, Option.isSome_some, Option.isSome_none, Option.map_some, Option.map_none, Option.getD_some, Option.getD_none,
  tyD_non, tyD_bl, tyD_int, tyD_str, tyD_tup, tyD_lst, tyD_dct, truD_non, truD_bl, truD_int, truD_tup, truD_lst, truD_dct, asL_non, asD_non, keyD_non, asL_bl, asD_bl, keyD_bl, asL_int, asD_int, keyD_int, asL_str, asD_str, keyD_str, asL_tup, asD_tup, keyD_tup, asL_lst, asD_lst, keyD_lst, asL_dct, asD_dct, keyD_dct, asL_scr, asD_scr, keyD_scr, asL_sup, asD_sup, asL_supD, isLs_sup, tyD_supL, tyD_supD, sup_same, sup_sup, ixN_1_0, ixN_2_0, ixN_2_1, ixN_3_0, ixN_3_1, ixN_3_2, ixN_4_0, ixN_4_1, ixN_4_2, ixN_4_3, ixN_5_0, ixN_5_1, ixN_5_2, ixN_5_3, ixN_5_4, ixN_6_0, ixN_6_1, ixN_6_2, ixN_6_3, ixN_6_4, ixN_6_5, ixN_7_0, ixN_7_1, ixN_7_2, ixN_7_3, ixN_7_4, ixN_7_5, ixN_7_6, ixN_8_0, ixN_8_1, ixN_8_2, ixN_8_3, ixN_8_4, ixN_8_5, ixN_8_6, ixN_8_7, atI_0, atI_1, atI_2, atI_3, atI_4, atI_5, atI_6, atI_7, atI_8, isi_NoneType_bool, isi_NoneType_int, isi_NoneType_str, isi_NoneType_tuple, isi_NoneType_list, isi_NoneType_dict, isi_bool_bool, isi_bool_int, isi_bool_str, isi_bool_tuple, isi_bool_list, isi_bool_dict, isi_int_bool, isi_int_int, isi_int_str, isi_int_tuple, isi_int_list, isi_int_dict, isi_str_bool, isi_str_int, isi_str_str, isi_str_tuple, isi_str_list, isi_str_dict, isi_tuple_bool, isi_tuple_int, isi_tuple_str, isi_tuple_tuple, isi_tuple_list, isi_tuple_dict, isi_list_bool, isi_list_int, isi_list_str, isi_list_tuple, isi_list_list, isi_list_dict, isi_dict_bool, isi_dict_int, isi_dict_str, isi_dict_tuple, isi_dict_list, isi_dict_dict, i1, i2, j1, j2, j3, j4, j5, rowD, natD, A.rows hF, A.base hF, aR, aB] at hK ⊢
          refine ⟨cmulW (w.rsml hk _) (w.rsml hf _), cmulW (w.rsml hf _) (w.rsml hk _), ?_⟩
          generalize gt (t.row k) (h + m) * gt (t.row f) p = u at hK ⊢
          generalize gt (t.row f) (h + m) * gt (t.row k) p = v at hK ⊢
          by_cases c1 : u < v
          · rw [if_pos (.inl c1)] at hK
            rw [if_pos (decide_eq_true c1)]
            exact hK _ _ ⟨rfl, _, _, _, _, _, rfl⟩
          · rw [if_neg (by rw [decide_eq_true_eq]; exact c1)]
            by_cases c2 : u = v
            · rw [if_pos (decide_eq_true c2)]
              by_cases c3 : t.base.getD k 0 < t.base.getD f 0
              · rw [if_pos (.inr ⟨c2, c3⟩)] at hK
                rw [if_pos (decide_eq_true (by omega))]
                exact hK _ _ ⟨rfl, _, _, _, _, _, rfl⟩
              · rw [if_neg (fun z => z.elim c1 fun z => c3 z.2)] at hK
                rw [if_neg (by rw [decide_eq_true_eq]; omega)]
                exact hK _ _ ⟨rfl, _, _, _, _, _, rfl⟩
            · rw [if_neg (fun z => z.elim c1 fun z => c2 z.1)] at hK
              rw [if_neg (by rw [decide_eq_true_eq]; exact c2)]
              exact hK _ _ ⟨rfl, _, _, _, _, _, rfl⟩
      · rw [if_neg hpos] at hK
        rw [if_neg (by rw [decide_eq_true_eq]; exact hpos)]
        exact hK _ _ ⟨rfl, _, _, _, _, _, rfl⟩
  · rintro sd S' ⟨rfl, o3, o4, o5, o6, o7, rfl⟩
    rw [List.length_map, List.length_zipIdx, List.length_map, w.rl]
    refine ⟨A.rw_, ?_⟩
    exact .of q
end K09
set_option Elab.async false
set_option linter.all false
set_option maxRecDepth 100000
set_option maxHeartbeats 1000000
namespace K09
open PySem L2 DL Piv
/-! ### exchange -/
theorem zipD_ints : ∀ (xs ys : List Int), zipD (xs.map D.int) (ys.map D.int) = (xs.zip ys).map fun p => .tup [.int p.1, .int p.2]
  | [], ys => by simp [zipD]
  | _ :: _, [] => by simp [zipD]
  | x :: xs, y :: ys => by rw [List.zip_cons_cons, List.map_cons, List.map_cons, List.map_cons, zipD, zipD_ints xs ys]
theorem comb_zip (xs ys : List Int) (p b : Int) : (xs.zip ys).map (fun q => q.1 * p - b * q.2) = comb xs ys p b := by
  unfold comb
  rw [List.zip_eq_zipWith, List.map_zipWith]
theorem two_pow_lt : 2 * (2 ^ kilo * 2 ^ kilo) < 2 ^ 2100 := by
  unfold kilo
  rw [← Nat.pow_add]
  have : 2 * 2 ^ (1000 + 1000) = 2 ^ 2001 := by rw [← Nat.pow_succ']
  rw [this]
  exact Nat.pow_lt_pow_right (by decide) (by decide)
theorem md_comb {e p b o : Int} (h1 : Sml e) (h2 : Sml p) (h3 : Sml b) (h4 : Sml o) : Md (e * p - b * o) := by
  unfold Sml at h1 h2 h3 h4
  unfold Md
  have a1 : (e * p).natAbs < 2 ^ kilo * 2 ^ kilo := by rw [Int.natAbs_mul]; exact Nat.mul_lt_mul'' h1 h2
  have a2 : (b * o).natAbs < 2 ^ kilo * 2 ^ kilo := by rw [Int.natAbs_mul]; exact Nat.mul_lt_mul'' h3 h4
  have := two_pow_lt
  omega
/-- a row of two, worked out -/
theorem lc_comb {T : Tb} {v8 v9 : Nat} {xs ys : List Int} {p b : Int} {S : Store} {chk : Store → Prop} {sd : Slots} {Q : List D → Store → Prop} {e : DE} (hc : chk S) (h : ∀ q ∈ xs.zip ys, ∃ sd', gset (.tup (.cons (.slot v8) (.cons (.slot v9) .nil))) (.tup [.int q.1, .int q.2]) (dwipe sd [v8, v9]) = some sd' ∧ ∀ Q' : DQ, Q' (.int (q.1 * p - b * q.2)) S → e sd' S Q')
    (q : Q ((comb xs ys p b).map D.int) S) : lcL chk (.tup (.cons (.slot v8) (.cons (.slot v9) .nil))) [v8, v9] (fun _ S Q => Q true S) e sd (zipD (xs.map D.int) (ys.map D.int)) [] S Q := by
  rw [zipD_ints]
  refine lcL_mapA (f := fun q => .int (q.1 * p - b * q.2)) hc h ?_
  have : ((xs.zip ys).map fun q => D.int (q.1 * p - b * q.2)) = (comb xs ys p b).map D.int := by rw [← comb_zip, List.map_map]; rfl
  rw [this]; exact q
def newRow (t : Tab) (at_ q : Nat) (i : Nat) (row : List Int) : List Int := if i ≠ at_ ∧ gt row q ≠ 0 then lowest (comb row (t.row at_) (gt (t.row at_) q) (gt row q)) else row
def rowsK (t : Tab) (at_ q k : Nat) : List (List Int) := t.rows.mapIdx fun i row => if i < k then newRow t at_ q i row else row
theorem rowsK_len (t : Tab) (at_ q k : Nat) : (rowsK t at_ q k).length = t.rows.length := List.length_mapIdx
theorem rowsK_get {t : Tab} {at_ q k i : Nat} (h : i < (rowsK t at_ q k).length) : (rowsK t at_ q k)[i] = if i < k then newRow t at_ q i (t.row i) else t.row i := by
  have h2 : i < t.rows.length := by rw [rowsK_len] at h; exact h
  have er : t.rows[i] = t.row i := by unfold Tab.row; rw [List.getD_eq_getElem?_getD, List.getElem?_eq_getElem h2]; rfl
  have : (rowsK t at_ q k)[i] = if i < k then newRow t at_ q i t.rows[i] else t.rows[i] := List.getElem_mapIdx
  rw [this, er]
theorem rowsK_0 (t : Tab) (at_ q : Nat) : rowsK t at_ q 0 = t.rows := by
  refine List.ext_getElem (rowsK_len ..) fun i h1 h2 => ?_
  have er : t.rows[i] = t.row i := by unfold Tab.row; rw [List.getD_eq_getElem?_getD, List.getElem?_eq_getElem h2]; rfl
  rw [rowsK_get, if_neg (Nat.not_lt_zero i), er]
theorem rowsK_end (t : Tab) (at_ q : Nat) : rowsK t at_ q t.rows.length = (t.ex at_ q).rows := by
  refine List.ext_getElem ?_ fun i h1 h2 => ?_
  · rw [rowsK_len]; exact (List.length_mapIdx).symm
  · have h3 : i < t.rows.length := by rw [rowsK_len] at h1; exact h1
    have er : t.rows[i] = t.row i := by unfold Tab.row; rw [List.getD_eq_getElem?_getD, List.getElem?_eq_getElem h3]; rfl
    rw [rowsK_get, if_pos h3]
    have : (t.ex at_ q).rows[i] = newRow t at_ q i t.rows[i] := List.getElem_mapIdx
    rw [this, er]
theorem rowsK_set {t : Tab} {at_ q k : Nat} (hk : k < t.rows.length) : (rowsK t at_ q k).set k (newRow t at_ q k (t.row k)) = rowsK t at_ q (k + 1) := by
  refine List.ext_getElem (by rw [List.length_set, rowsK_len, rowsK_len]) fun i h1 h2 => ?_
  rw [List.getElem_set, rowsK_get]
  by_cases e : k = i
  · subst e
    rw [if_pos rfl, rowsK_get, if_pos (Nat.lt_succ_self _)]
  · rw [if_neg e, rowsK_get]
    by_cases z : i < k
    · rw [if_pos z, if_pos (by omega)]
    · rw [if_neg z, if_neg (by omega)]
theorem rowsK_keep {t : Tab} {at_ q k : Nat} (hk : k < t.rows.length) (h : newRow t at_ q k (t.row k) = t.row k) : rowsK t at_ q k = rowsK t at_ q (k + 1) := by
  refine List.ext_getElem (by rw [rowsK_len, rowsK_len]) fun i h1 h2 => ?_
  rw [rowsK_get, rowsK_get]
  by_cases e : i = k
  · subst e
    rw [if_neg (Nat.lt_irrefl _), if_pos (Nat.lt_succ_self _), h]
  · by_cases z : i < k
    · rw [if_pos z, if_pos (by omega)]
    · rw [if_neg z, if_neg (by omega)]
theorem ve_ixEnd {T : Tb} {sd : Slots} {S : Store} {a : CE} {xs : List D} {d : D} (ha : Ve T sd S a (.lst xs)) (h : atI xs (-1) = some d) : Ve T sd S (.ix a (.neg (.int 1))) d := fun Q q => ha _ (by
  show (match atI xs (-1) with | some d => Q d S | none => False)
  rw [h]; exact q)
def spExchange : DSp := fun ds S Q => ∃ (a r b : Addr) (t : Tab) (m h at_ p : Nat), ds = [.ref a, .int (at_ : Int), .int (p : Int)] ∧ At S a r b t ∧ Wf t m h ∧ at_ < m ∧ p < h ∧ ∀ S', At S' a r b (t.ex at_ p) → (∀ c, c ≠ a → c ≠ r → c ≠ b → S' c = S c) → Q .non S'
theorem r_exchange {T : Tb} (hF : T.fld = fldP) (h0 : T.fn 0 = some (1, spLowest)) {ds : List D} {S : Store} {Q : DQ} (h : spExchange ds S Q) : denSs T core_Pivots_exchange (DD Q) (start0 N_Pivots_exchange.length ds) S := by
  obtain ⟨a, r, b, t, m, h, at_, p, rfl, A, w, hat, hp, q⟩ := h
  have hsz : (1000 : Nat) ≤ sizeLine := by decide
  have h1 := w.hs
  have h2 := w.ms
  have aR := asL_ref A.rw_
  have i0 := atI_row (t := t) (i := at_) (by rw [w.rl]; exact hat)
  have i1 := atI_gt (l := t.row at_) (c := p) (by rw [w.rlen hat]; omega)
  unfold core_Pivots_exchange
  refine vs_setg (d := .tup [rowD (t.row at_), .int (gt (t.row at_) p)]) (sd2 := [some (.ref a), some (.int (at_ : Int)), some (.int (p : Int)), some (rowD (t.row at_)), some (.int (gt (t.row at_) p)), none, none, none, none, none, none]) (fun Q' q' => ?_) rfl ?_
  · show (den T _).v [some (.ref a), some (.int (at_ : Int)), some (.int (p : Int)), none, none, none, none, none, none, none, none] S Q'
    simp only [denSs, denS, den, dens, denO, denT, denI, DV.of, DV.ofB, sSeq, sRet, sRetN, sNext, sIf, sSet, sSetG, sPar, sPar3, sSetIx, sDrop, sFor, sForKeys, sBreak, sCont, dAnd, dOr, dNot, dAndT, dOrT, dNotT, dUn, dOp, dIte, dVar, dC, dTup, dLst, dNil, dCons, dCall, dCut, dPart, dNoPart, dGet1, dGet2, dApp,
  dSeq1, dRange1, dRange2, dEnum, dZip, dLc, dDc, dChain, fIsi, fBlt, fLen, fAbs, fInt1, fMax, fMin, fL1, fTuple, fList, fSorted, fDict, fBin, fCmp, fNeg, fAdd, fSub, fMul, fMod, fDiv, fPow, fInt, fInt0, fLt, fLe, fGt, fGe, fIs, fIsNot, fInD, fIx, fCut, fSeq, fRange1, fRange2, fEnum, fZip, fSetIx, fGet, fApp, fLenSet, fAug, sAug, tOf, tOfB, guardN, gset, gsets, sFrz, frz_dct, frz_lst, fEq_int, fNe_int, fEq_bl, fNe_bl, fEq_nil, fNe_nil, fEq_ints,
  TyC.name, DL.isNon, start0, List.length_cons, List.length_nil, List.map_cons, List.map_nil, List.cons_append, List.nil_append, List.getElem?_cons_zero, List.getElem?_cons_succ, List.getElem?_nil, List.set_cons_zero, List.set_cons_succ, List.set_nil, List.replicate, Nat.reduceSub, Nat.reduceAdd, mkL, mkD, dwipe, Bool.false_eq_true, if_true, if_false, ite_true, ite_false, true_and, and_true, Option.isSome_some, Option.isSome_none, Option.map_some, Option.map_none, Option.getD_some, Option.getD_none,
  tyD_non, tyD_bl, tyD_int, tyD_str, tyD_tup, tyD_lst, tyD_dct, truD_non, truD_bl, truD_int, truD_tup, truD_lst, truD_dct, asL_non, asD_non, keyD_non, asL_bl, asD_bl, keyD_bl, asL_int, asD_int, keyD_int, asL_str, asD_str, keyD_str, asL_tup, asD_tup, keyD_tup, asL_lst, asD_lst, keyD_lst, asL_dct, asD_dct, keyD_dct, asL_scr, asD_scr, keyD_scr, asL_sup, asD_sup, asL_supD, isLs_sup, tyD_supL, tyD_supD, sup_same, sup_sup, ixN_1_0, ixN_2_0, ixN_2_1, ixN_3_0, ixN_3_1, ixN_3_2, ixN_4_0, ixN_4_1, ixN_4_2, ixN_4_3, ixN_5_0, ixN_5_1, ixN_5_2, ixN_5_3, ixN_5_4, ixN_6_0, ixN_6_1, ixN_6_2, ixN_6_3, ixN_6_4, ixN_6_5, ixN_7_0, ixN_7_1, ixN_7_2, ixN_7_3, ixN_7_4, ixN_7_5, ixN_7_6, ixN_8_0, ixN_8_1, ixN_8_2, ixN_8_3, ixN_8_4, ixN_8_5, ixN_8_6, ixN_8_7, atI_0, atI_1, atI_2, atI_3, atI_4, atI_5, atI_6, atI_7, atI_8, isi_NoneType_bool, isi_NoneType_int, isi_NoneType_str, isi_NoneType_tuple, isi_NoneType_list, isi_NoneType_dict, isi_bool_bool, isi_bool_int, isi_bool_str, isi_bool_tuple, isi_bool_list, isi_bool_dict, isi_int_bool, isi_int_int, isi_int_str, isi_int_tuple, isi_int_list, isi_int_dict, isi_str_bool, isi_str_int, isi_str_str, isi_str_tuple, isi_str_list, isi_str_dict, isi_tuple_bool, isi_tuple_int, isi_tuple_str, isi_tuple_tuple, isi_tuple_list, isi_tuple_dict, isi_list_bool, isi_list_int, isi_list_str, isi_list_tuple, isi_list_list, isi_list_dict, isi_dict_bool, isi_dict_int, isi_dict_str, isi_dict_tuple, isi_dict_list, isi_dict_dict, A.rows hF, aR, i0, rowD, i1]
    exact ⟨by decide, q'⟩
  -- the rows
  have loop : ∀ rest : CSs, (∀ o5 o6 o7, denSs T rest (DD Q) [some (.ref a), some (.int (at_ : Int)), some (.int (p : Int)), some (rowD (t.row at_)), some (.int (gt (t.row at_) p)), o5, o6, o7, none, none, none] (sup S r (.lst ((t.ex at_ p).rows.map rowD)))) →
      denSs T (.cons (.for_ (.tup (.cons (.slot 5) (.cons (.slot 6) .nil))) (.enum (.blt false .list (.cons (.fld (.slot 0) "rows") .nil))) (.cons (.set 7 (.ix (.slot 6) (.slot 2)))
      (.cons (.ifs (.and (.cmp .NotEq (.slot 5) (.slot 1)) (.last (.cmp .NotEq (.slot 7) (.int 0)))) (.cons (.setix (.fld (.slot 0) "rows") (.slot 5) (.call 0 (.cons (.lc false [("entry", 8), ("own", 9)] (.tup (.cons (.slot 8) (.cons (.slot 9) .nil))) (.zip (.slot 6) (.slot 3)) .no (.op false .Sub (.op false .Mult (.slot 8) (.slot 4)) (.op false .Mult (.slot 7) (.slot 9)))) .nil))) .nil) .nil) .nil))) rest) (DD Q)
      [some (.ref a), some (.int (at_ : Int)), some (.int (p : Int)), some (rowD (t.row at_)), some (.int (gt (t.row at_) p)), none, none, none, none, none, none] S := by
    intro rest hrest
    show denS T (.for_ (.tup (.cons (.slot 5) (.cons (.slot 6) .nil))) (.enum (.blt false .list (.cons (.fld (.slot 0) "rows") .nil))) _) { DD Q with nx := fun sd' S' => denSs T rest (DD Q) sd' S' } _ S
    have hrest : ∀ o5 o6 o7, (fun sd' S' => denSs T rest (DD Q) sd' S') [some (.ref a), some (.int (at_ : Int)), some (.int (p : Int)), some (rowD (t.row at_)), some (.int (gt (t.row at_) p)), o5, o6, o7, none, none, none] (sup S r (.lst ((t.ex at_ p).rows.map rowD))) := hrest
    generalize (fun sd' S' => denSs T rest (DD Q) sd' S') = nx at hrest
    simp only [denSs, denS, den, dens, denO, denT, denI, DV.of, DV.ofB, sSeq, sRet, sRetN, sNext, sIf, sSet, sSetG, sPar, sPar3, sSetIx, sDrop, sFor, sForKeys, sBreak, sCont, dAnd, dOr, dNot, dAndT, dOrT, dNotT, dUn, dOp, dIte, dVar, dC, dTup, dLst, dNil, dCons, dCall, dCut, dPart, dNoPart, dGet1, dGet2, dApp,
  dSeq1, dRange1, dRange2, dEnum, dZip, dLc, dDc, dChain, fIsi, fBlt, fLen, fAbs, fInt1, fMax, fMin, fL1, fTuple, fList, fSorted, fDict, fBin, fCmp, fNeg, fAdd, fSub, fMul, fMod, fDiv, fPow, fInt, fInt0, fLt, fLe, fGt, fGe, fIs, fIsNot, fInD, fIx, fCut, fSeq, fRange1, fRange2, fEnum, fZip, fSetIx, fGet, fApp, fLenSet, fAug, sAug, tOf, tOfB, guardN, gset, gsets, sFrz, frz_dct, frz_lst, fEq_int, fNe_int, fEq_bl, fNe_bl, fEq_nil, fNe_nil, fEq_ints,
  TyC.name, DL.isNon, start0, List.length_cons, List.length_nil, List.map_cons, List.map_nil, List.cons_append, List.nil_append, List.getElem?_cons_zero, List.getElem?_cons_succ, List.getElem?_nil, List.set_cons_zero, List.set_cons_succ, List.set_nil, List.replicate, Nat.reduceSub, Nat.reduceAdd, mkL, mkD, dwipe, Bool.false_eq_true, if_true, if_false, ite_true, ite_false, true_and, and_true, Option.isSome_some, Option.isSome_none, Option.map_some, Option.map_none, Option.getD_some, Option.getD_none,
  tyD_non, tyD_bl, tyD_int, tyD_str, tyD_tup, tyD_lst, tyD_dct, truD_non, truD_bl, truD_int, truD_tup, truD_lst, truD_dct, asL_non, asD_non, keyD_non, asL_bl, asD_bl, keyD_bl, asL_int, asD_int, keyD_int, asL_str, asD_str, keyD_str, asL_tup, asD_tup, keyD_tup, asL_lst, asD_lst, keyD_lst, asL_dct, asD_dct, keyD_dct, asL_scr, asD_scr, keyD_scr, asL_sup, asD_sup, asL_supD, isLs_sup, tyD_supL, tyD_supD, sup_same, sup_sup, ixN_1_0, ixN_2_0, ixN_2_1, ixN_3_0, ixN_3_1, ixN_3_2, ixN_4_0, ixN_4_1, ixN_4_2, ixN_4_3, ixN_5_0, ixN_5_1, ixN_5_2, ixN_5_3, ixN_5_4, ixN_6_0, ixN_6_1, ixN_6_2, ixN_6_3, ixN_6_4, ixN_6_5, ixN_7_0, ixN_7_1, ixN_7_2, ixN_7_3, ixN_7_4, ixN_7_5, ixN_7_6, ixN_8_0, ixN_8_1, ixN_8_2, ixN_8_3, ixN_8_4, ixN_8_5, ixN_8_6, ixN_8_7, atI_0, atI_1, atI_2, atI_3, atI_4, atI_5, atI_6, atI_7, atI_8, isi_NoneType_bool, isi_NoneType_int, isi_NoneType_str, isi_NoneType_tuple, isi_NoneType_list, isi_NoneType_dict, isi_bool_bool, isi_bool_int, isi_bool_str, isi_bool_tuple, isi_bool_list, isi_bool_dict, isi_int_bool, isi_int_int, isi_int_str, isi_int_tuple, isi_int_list, isi_int_dict, isi_str_bool, isi_str_int, isi_str_str, isi_str_tuple, isi_str_list, isi_str_dict, isi_tuple_bool, isi_tuple_int, isi_tuple_str, isi_tuple_tuple, isi_tuple_list, isi_tuple_dict, isi_list_bool, isi_list_int, isi_list_str, isi_list_tuple, isi_list_list, isi_list_dict, isi_dict_bool, isi_dict_int, isi_dict_str, isi_dict_tuple, isi_dict_list, isi_dict_dict, A.rows hF, aR]
    refine forL_at (fun k sd S' => ∃ o5 o6 o7, sd = [some (.ref a), some (.int (at_ : Int)), some (.int (p : Int)), some (rowD (t.row at_)), some (.int (gt (t.row at_) p)), o5, o6, o7, none, none, none] ∧ S' = sup S r (.lst ((rowsK t at_ p k).map rowD))) ?_ ?_ _ _ ⟨none, none, none, rfl, by rw [rowsK_0]; exact sup_id A.rw_⟩
    · rintro k x sd S' hx ⟨o5, o6, o7, rfl, rfl⟩
      obtain ⟨x0, e0, rfl⟩ := enum_get hx
      rw [List.getElem?_map] at e0
      cases e : t.rows[k]? with
      | none => rw [e] at e0; cases e0
      | some row =>
        rw [e] at e0
        cases e0
        have hk2 : k < t.rows.length := (List.getElem?_eq_some_iff.mp e).1
        have hk : k < m := by rw [← w.rl]; exact hk2
        have er : row = t.row k := by unfold Tab.row; rw [List.getD_eq_getElem?_getD, e]; rfl
        subst er
        refine ⟨trivial, _, rfl, fun K hK => ?_⟩
        have i2 := atI_gt (l := t.row k) (c := p) (by rw [w.rlen hk]; omega)
        have oA : (sup S r (.lst ((rowsK t at_ p k).map rowD))) a = some (insO t r b) := by rw [sup_ne A.ar]; exact A.o
        have fR : ∀ Q' : DQ, fFld T.fld "rows" (.ref a) (sup S r (.lst ((rowsK t at_ p k).map rowD))) Q' = Q' (.ref r) (sup S r (.lst ((rowsK t at_ p k).map rowD))) := fun Q' => by
          unfold fFld
          dsimp only
          rw [oA, hF]
          show ((fldP "Pivots").contains "rows" = true ∧ match (fldsP t r b).lookup ("rows" : Str) with | some v => _ | none => False) = _
          exact propext ⟨fun z => z.2, fun q => ⟨by decide +kernel, q⟩⟩
        have hz : ((t.row k).zip (t.row at_)).length = (t.row k).length := by rw [List.length_zip, w.rlen hk, w.rlen hat]; omega
        simp only [denSs, denS, den, dens, denO, denT, denI, DV.of, DV.ofB, sSeq, sRet, sRetN, sNext, sIf, sSet, sSetG, sPar, sPar3, sSetIx, sDrop, sFor, sForKeys, sBreak, sCont, dAnd, dOr, dNot, dAndT, dOrT, dNotT, dUn, dOp, dIte, dVar, dC, dTup, dLst, dNil, dCons, dCall, dCut, dPart, dNoPart, dGet1, dGet2, dApp,
  dSeq1, dRange1, dRange2, dEnum, dZip, dLc, dDc, dChain, fIsi, fBlt, fLen, fAbs, fInt1, fMax, fMin, fL1, fTuple, fList, fSorted, fDict, fBin, fCmp, fNeg, fAdd, fSub, fMul, fMod, fDiv, fPow, fInt, fInt0, fLt, fLe, fGt, fGe, fIs, fIsNot, fInD, fIx, fCut, fSeq, fRange1, fRange2, fEnum, fZip, fSetIx, fGet, fApp, fLenSet, fAug, sAug, tOf, tOfB, guardN, gset, gsets, sFrz, frz_dct, frz_lst, fEq_int, fNe_int, fEq_bl, fNe_bl, fEq_nil, fNe_nil, fEq_ints,
  TyC.name, DL.isNon, start0, List.length_cons, List.length_nil, List.map_cons, List.map_nil, List.cons_append, List.nil_append, List.getElem?_cons_zero, List.getElem?_cons_succ, List.getElem?_nil, List.set_cons_zero, List.set_cons_succ, List.set_nil, List.replicate, Nat.reduceSub, Nat.reduceAdd, mkL, mkD, dwipe, Bool.false_eq_true, if_true, if_false, ite_true, ite_false, true_and, and_true, Option.isSome_some, Option.isSome_none, Option.map_some, Option.map_none, Option.getD_some, Option.getD_none,
  tyD_non, tyD_bl, tyD_int, tyD_str, tyD_tup, tyD_lst, tyD_dct, truD_non, truD_bl, truD_int, truD_tup, truD_lst, truD_dct, asL_non, asD_non, keyD_non, asL_bl, asD_bl, keyD_bl, asL_int, asD_int, keyD_int, asL_str, asD_str, keyD_str, asL_tup, asD_tup, keyD_tup, asL_lst, asD_lst, keyD_lst, asL_dct, asD_dct, keyD_dct, asL_scr, asD_scr, keyD_scr, asL_sup, asD_sup, asL_supD, isLs_sup, tyD_supL, tyD_supD, sup_same, sup_sup, ixN_1_0, ixN_2_0, ixN_2_1, ixN_3_0, ixN_3_1, ixN_3_2, ixN_4_0, ixN_4_1, ixN_4_2, ixN_4_3, ixN_5_0, ixN_5_1, ixN_5_2, ixN_5_3, ixN_5_4, ixN_6_0, ixN_6_1, ixN_6_2, ixN_6_3, ixN_6_4, ixN_6_5, ixN_7_0, ixN_7_1, ixN_7_2, ixN_7_3, ixN_7_4, ixN_7_5, ixN_7_6, ixN_8_0, ixN_8_1, ixN_8_2, ixN_8_3, ixN_8_4, ixN_8_5, ixN_8_6, ixN_8_7, atI_0, atI_1, atI_2, atI_3, atI_4, atI_5, atI_6, atI_7, atI_8, isi_NoneType_bool, isi_NoneType_int, isi_NoneType_str, isi_NoneType_tuple, isi_NoneType_list, isi_NoneType_dict, isi_bool_bool, isi_bool_int, isi_bool_str, isi_bool_tuple, isi_bool_list, isi_bool_dict, isi_int_bool, isi_int_int, isi_int_str, isi_int_tuple, isi_int_list, isi_int_dict, isi_str_bool, isi_str_int, isi_str_str, isi_str_tuple, isi_str_list, isi_str_dict, isi_tuple_bool, isi_tuple_int, isi_tuple_str, isi_tuple_tuple, isi_tuple_list, isi_tuple_dict, isi_list_bool, isi_list_int, isi_list_str, isi_list_tuple, isi_list_list, isi_list_dict, isi_dict_bool, isi_dict_int, isi_dict_str, isi_dict_tuple, isi_dict_list, isi_dict_dict, rowD, i2]
        by_cases c1 : (k : Int) = (at_ : Int)
        · rw [decide_eq_true c1, Bool.not_true, if_neg (by decide)]
          have nr : newRow t at_ p k (t.row k) = t.row k := if_neg fun z => z.1 (by omega)
          exact hK _ _ ⟨_, _, _, rfl, by rw [rowsK_keep hk2 nr]⟩
        · rw [decide_eq_false c1, Bool.not_false, if_pos rfl]
          by_cases c2 : gt (t.row k) p = 0
          · rw [decide_eq_true c2, Bool.not_true, if_neg (by decide)]
            have nr : newRow t at_ p k (t.row k) = t.row k := if_neg fun z => z.2 c2
            exact hK _ _ ⟨_, _, _, rfl, by rw [rowsK_keep hk2 nr]⟩
          · rw [decide_eq_false c2, Bool.not_false, if_pos rfl]
            have nr : newRow t at_ p k (t.row k) = lowest (comb (t.row k) (t.row at_) (gt (t.row at_) p) (gt (t.row k) p)) := if_pos ⟨by omega, c2⟩
            simp only [asLc, h0, denSs, denS, den, dens, denO, denT, denI, DV.of, DV.ofB, sSeq, sRet, sRetN, sNext, sIf, sSet, sSetG, sPar, sPar3, sSetIx, sDrop, sFor, sForKeys, sBreak, sCont, dAnd, dOr, dNot, dAndT, dOrT, dNotT, dUn, dOp, dIte, dVar, dC, dTup, dLst, dNil, dCons, dCall, dCut, dPart, dNoPart, dGet1, dGet2, dApp,
  dSeq1, dRange1, dRange2, dEnum, dZip, dLc, dDc, dChain, fIsi, fBlt, fLen, fAbs, fInt1, fMax, fMin, fL1, fTuple, fList, fSorted, fDict, fBin, fCmp, fNeg, fAdd, fSub, fMul, fMod, fDiv, fPow, fInt, fInt0, fLt, fLe, fGt, fGe, fIs, fIsNot, fInD, fIx, fCut, fSeq, fRange1, fRange2, fEnum, fZip, fSetIx, fGet, fApp, fLenSet, fAug, sAug, tOf, tOfB, guardN, gset, gsets, sFrz, frz_dct, frz_lst, fEq_int, fNe_int, fEq_bl, fNe_bl, fEq_nil, fNe_nil, fEq_ints,
  TyC.name, DL.isNon, start0, List.length_cons, List.length_nil, List.map_cons, List.map_nil, List.cons_append, List.nil_append, List.getElem?_cons_zero, List.getElem?_cons_succ, List.getElem?_nil, List.set_cons_zero, List.set_cons_succ, List.set_nil, List.replicate, Nat.reduceSub, Nat.reduceAdd, mkL, mkD, dwipe, Bool.false_eq_true, if_true, if_false, ite_true, ite_false, true_and, and_true, Option.isSome_some, Option.isSome_none, Option.map_some, Option.map_none, Option.getD_some, Option.getD_none,
  tyD_non, tyD_bl, tyD_int, tyD_str, tyD_tup, tyD_lst, tyD_dct, truD_non, truD_bl, truD_int, truD_tup, truD_lst, truD_dct, asL_non, asD_non, keyD_non, asL_bl, asD_bl, keyD_bl, asL_int, asD_int, keyD_int, asL_str, asD_str, keyD_str, asL_tup, asD_tup, keyD_tup, asL_lst, asD_lst, keyD_lst, asL_dct, asD_dct, keyD_dct, asL_scr, asD_scr, keyD_scr, asL_sup, asD_sup, asL_supD, isLs_sup, tyD_supL, tyD_supD, sup_same, sup_sup, ixN_1_0, ixN_2_0, ixN_2_1, ixN_3_0, ixN_3_1, ixN_3_2, ixN_4_0, ixN_4_1, ixN_4_2, ixN_4_3, ixN_5_0, ixN_5_1, ixN_5_2, ixN_5_3, ixN_5_4, ixN_6_0, ixN_6_1, ixN_6_2, ixN_6_3, ixN_6_4, ixN_6_5, ixN_7_0, ixN_7_1, ixN_7_2, ixN_7_3, ixN_7_4, ixN_7_5, ixN_7_6, ixN_8_0, ixN_8_1, ixN_8_2, ixN_8_3, ixN_8_4, ixN_8_5, ixN_8_6, ixN_8_7, atI_0, atI_1, atI_2, atI_3, atI_4, atI_5, atI_6, atI_7, atI_8, isi_NoneType_bool, isi_NoneType_int, isi_NoneType_str, isi_NoneType_tuple, isi_NoneType_list, isi_NoneType_dict, isi_bool_bool, isi_bool_int, isi_bool_str, isi_bool_tuple, isi_bool_list, isi_bool_dict, isi_int_bool, isi_int_int, isi_int_str, isi_int_tuple, isi_int_list, isi_int_dict, isi_str_bool, isi_str_int, isi_str_str, isi_str_tuple, isi_str_list, isi_str_dict, isi_tuple_bool, isi_tuple_int, isi_tuple_str, isi_tuple_tuple, isi_tuple_list, isi_tuple_dict, isi_list_bool, isi_list_int, isi_list_str, isi_list_tuple, isi_list_list, isi_list_dict, isi_dict_bool, isi_dict_int, isi_dict_str, isi_dict_tuple, isi_dict_list, isi_dict_dict]
            refine lc_comb (T := T) (p := gt (t.row at_) p) (b := gt (t.row k) p) trivial (fun z hz => ⟨_, rfl, fun Q' q' => ?_⟩) ?_
            · obtain ⟨z1, z2⟩ := List.of_mem_zip hz
              have s1 := (w.row _ (w.row_mem hk)).2 _ z1
              have s2 := (w.row _ (w.row_mem hat)).2 _ z2
              simp only [denSs, denS, den, dens, denO, denT, denI, DV.of, DV.ofB, sSeq, sRet, sRetN, sNext, sIf, sSet, sSetG, sPar, sPar3, sSetIx, sDrop, sFor, sForKeys, sBreak, sCont, dAnd, dOr, dNot, dAndT, dOrT, dNotT, dUn, dOp, dIte, dVar, dC, dTup, dLst, dNil, dCons, dCall, dCut, dPart, dNoPart, dGet1, dGet2, dApp,
  dSeq1, dRange1, dRange2, dEnum, dZip, dLc, dDc, dChain, fIsi, fBlt, fLen, fAbs, fInt1, fMax, fMin, fL1, fTuple, fList, fSorted, fDict, fBin, fCmp, fNeg, fAdd, fSub, fMul, fMod, fDiv, fPow, fInt, fInt0, fLt, fLe, fGt, fGe, fIs, fIsNot, fInD, fIx, fCut, fSeq, fRange1, fRange2, fEnum, fZip, fSetIx, fGet, fApp, fLenSet, fAug, sAug, tOf, tOfB, guardN, gset, gsets, sFrz, frz_dct, frz_lst, fEq_int, fNe_int, fEq_bl, fNe_bl, fEq_nil, fNe_nil, fEq_ints,
  TyC.name, DL.isNon, start0, List.length_cons, List.length_nil, List.map_cons, List.map_nil, List.cons_append, List.nil_append, List.getElem?_cons_zero, List.getElem?_cons_succ, List.getElem?_nil, List.set_cons_zero, List.set_cons_succ, List.set_nil, List.replicate, Nat.reduceSub, Nat.reduceAdd, mkL, mkD, dwipe, Bool.false_eq_true, if_true, if_false, ite_true, ite_false, true_and, and_true, Option.isSome_some, Option.isSome_none, Option.map_some, Option.map_none, Option.getD_some, Option.getD_none,
  tyD_non, tyD_bl, tyD_int, tyD_str, tyD_tup, tyD_lst, tyD_dct, truD_non, truD_bl, truD_int, truD_tup, truD_lst, truD_dct, asL_non, asD_non, keyD_non, asL_bl, asD_bl, keyD_bl, asL_int, asD_int, keyD_int, asL_str, asD_str, keyD_str, asL_tup, asD_tup, keyD_tup, asL_lst, asD_lst, keyD_lst, asL_dct, asD_dct, keyD_dct, asL_scr, asD_scr, keyD_scr, asL_sup, asD_sup, asL_supD, isLs_sup, tyD_supL, tyD_supD, sup_same, sup_sup, ixN_1_0, ixN_2_0, ixN_2_1, ixN_3_0, ixN_3_1, ixN_3_2, ixN_4_0, ixN_4_1, ixN_4_2, ixN_4_3, ixN_5_0, ixN_5_1, ixN_5_2, ixN_5_3, ixN_5_4, ixN_6_0, ixN_6_1, ixN_6_2, ixN_6_3, ixN_6_4, ixN_6_5, ixN_7_0, ixN_7_1, ixN_7_2, ixN_7_3, ixN_7_4, ixN_7_5, ixN_7_6, ixN_8_0, ixN_8_1, ixN_8_2, ixN_8_3, ixN_8_4, ixN_8_5, ixN_8_6, ixN_8_7, atI_0, atI_1, atI_2, atI_3, atI_4, atI_5, atI_6, atI_7, atI_8, isi_NoneType_bool, isi_NoneType_int, isi_NoneType_str, isi_NoneType_tuple, isi_NoneType_list, isi_NoneType_dict, isi_bool_bool, isi_bool_int, isi_bool_str, isi_bool_tuple, isi_bool_list, isi_bool_dict, isi_int_bool, isi_int_int, isi_int_str, isi_int_tuple, isi_int_list, isi_int_dict, isi_str_bool, isi_str_int, isi_str_str, isi_str_tuple, isi_str_list, isi_str_dict, isi_tuple_bool, isi_tuple_int, isi_tuple_str, isi_tuple_tuple, isi_tuple_list, isi_tuple_dict, isi_list_bool, isi_list_int, isi_list_str, isi_list_tuple, isi_list_list, isi_list_dict, isi_dict_bool, isi_dict_int, isi_dict_str, isi_dict_tuple, isi_dict_list, isi_dict_dict]
              exact ⟨cmulW s1 (w.rsml hat _), cmulW (w.rsml hk _) s2, q'⟩
            · refine ⟨_, rfl, ?_, fun x hx => ?_, ?_⟩
              · rw [comb_len (by rw [w.rlen hk, w.rlen hat]), w.rlen hk]; omega
              · rw [← comb_zip] at hx
                obtain ⟨z, hz, rfl⟩ := List.mem_map.mp hx
                obtain ⟨z1, z2⟩ := List.of_mem_zip hz
                exact md_comb ((w.row _ (w.row_mem hk)).2 _ z1) (w.rsml hat _) (w.rsml hk _) ((w.row _ (w.row_mem hat)).2 _ z2)
              · rw [← nr]
                show fFld T.fld "rows" (.ref a) _ _
                rw [fR]
                dsimp only
                have ix : ixN ((rowsK t at_ p k).map rowD).length (k : Int) = some k := by
                  unfold ixN
                  rw [if_pos (by omega), List.length_map, rowsK_len, if_pos (by omega)]; simp
                rw [sup_same]
                dsimp only
                rw [ix]
                dsimp only
                rw [sup_sup]
                refine hK _ _ ⟨_, _, _, rfl, ?_⟩
                rw [← rowsK_set hk2, List.map_set]
                rfl
    · rintro sd S' ⟨o5, o6, o7, rfl, rfl⟩
      refine ⟨trivial, ?_⟩
      rw [List.length_map, List.length_zipIdx, List.length_map, rowsK_end]
      exact hrest _ _ _
  refine loop _ fun o5 o6 o7 => ?_
  clear loop
  -- the costs
  have A1o : (sup S r (.lst ((t.ex at_ p).rows.map rowD))) a = some (insO t r b) := by rw [sup_ne A.ar]; exact A.o
  have A1b : (sup S r (.lst ((t.ex at_ p).rows.map rowD))) b = some (.lst (t.base.map natD)) := by rw [sup_ne (Ne.symm A.rb)]; exact A.bs
  have A1r : (sup S r (.lst ((t.ex at_ p).rows.map rowD))) r = some (.lst ((t.ex at_ p).rows.map rowD)) := sup_same
  have A1e : ∀ c, c ≠ r → (sup S r (.lst ((t.ex at_ p).rows.map rowD))) c = S c := fun c h => sup_ne h
  generalize sup S r (.lst ((t.ex at_ p).rows.map rowD)) = S1 at A1o A1b A1r A1e
  have fC : ∀ {f : Str} {v : D}, (fldP "Pivots").contains f = true → (fldsP t r b).lookup f = some v → ∀ Q' : DQ, fFld T.fld f (.ref a) S1 Q' = Q' v S1 := fun {f v} hf hl Q' => by
    unfold fFld
    dsimp only
    rw [A1o, hF]
    show ((fldP "Pivots").contains f = true ∧ match (fldsP t r b).lookup f with | some v => Q' v S1 | none => False) = _
    rw [hl]
    exact propext ⟨fun z => z.2, fun q => ⟨hf, q⟩⟩
  have fCc := fC (f := "costs") (v := .lst (t.costs.map D.int)) (by decide +kernel) rfl
  have fCs := fC (f := "scale") (v := .int t.scale) (by decide +kernel) rfl
  have ic := atI_gt (l := t.costs) (c := p) (by rw [w.cl]; omega)
  refine vs_set (x := .int (gt t.costs p)) (fun Q' q' => ?_) ?_
  · simp only [denSs, denS, den, dens, denO, denT, denI, DV.of, DV.ofB, sSeq, sRet, sRetN, sNext, sIf, sSet, sSetG, sPar, sPar3, sSetIx, sDrop, sFor, sForKeys, sBreak, sCont, dAnd, dOr, dNot, dAndT, dOrT, dNotT, dUn, dOp, dIte, dVar, dC, dTup, dLst, dNil, dCons, dCall, dCut, dPart, dNoPart, dGet1, dGet2, dApp,
  dSeq1, dRange1, dRange2, dEnum, dZip, dLc, dDc, dChain, fIsi, fBlt, fLen, fAbs, fInt1, fMax, fMin, fL1, fTuple, fList, fSorted, fDict, fBin, fCmp, fNeg, fAdd, fSub, fMul, fMod, fDiv, fPow, fInt, fInt0, fLt, fLe, fGt, fGe, fIs, fIsNot, fInD, fIx, fCut, fSeq, fRange1, fRange2, fEnum, fZip, fSetIx, fGet, fApp, fLenSet, fAug, sAug, tOf, tOfB, guardN, gset, gsets, sFrz, frz_dct, frz_lst, fEq_int, fNe_int, fEq_bl, fNe_bl, fEq_nil, fNe_nil, fEq_ints,
  TyC.name, DL.isNon, start0, List.length_cons, List.length_nil, List.map_cons, List.map_nil, List.cons_append, List.nil_append, List.getElem?_cons_zero, List.getElem?_cons_succ, List.getElem?_nil, List.set_cons_zero, List.set_cons_succ, List.set_nil, List.replicate, Nat.reduceSub, Nat.reduceAdd, mkL, mkD, dwipe, Bool.false_eq_true, if_true, if_false, ite_true, ite_false, true_and, and_true, Option.isSome_some, Option.isSome_none, Option.map_some, Option.map_none, Option.getD_some, Option.getD_none,
  tyD_non, tyD_bl, tyD_int, tyD_str, tyD_tup, tyD_lst, tyD_dct, truD_non, truD_bl, truD_int, truD_tup, truD_lst, truD_dct, asL_non, asD_non, keyD_non, asL_bl, asD_bl, keyD_bl, asL_int, asD_int, keyD_int, asL_str, asD_str, keyD_str, asL_tup, asD_tup, keyD_tup, asL_lst, asD_lst, keyD_lst, asL_dct, asD_dct, keyD_dct, asL_scr, asD_scr, keyD_scr, asL_sup, asD_sup, asL_supD, isLs_sup, tyD_supL, tyD_supD, sup_same, sup_sup, ixN_1_0, ixN_2_0, ixN_2_1, ixN_3_0, ixN_3_1, ixN_3_2, ixN_4_0, ixN_4_1, ixN_4_2, ixN_4_3, ixN_5_0, ixN_5_1, ixN_5_2, ixN_5_3, ixN_5_4, ixN_6_0, ixN_6_1, ixN_6_2, ixN_6_3, ixN_6_4, ixN_6_5, ixN_7_0, ixN_7_1, ixN_7_2, ixN_7_3, ixN_7_4, ixN_7_5, ixN_7_6, ixN_8_0, ixN_8_1, ixN_8_2, ixN_8_3, ixN_8_4, ixN_8_5, ixN_8_6, ixN_8_7, atI_0, atI_1, atI_2, atI_3, atI_4, atI_5, atI_6, atI_7, atI_8, isi_NoneType_bool, isi_NoneType_int, isi_NoneType_str, isi_NoneType_tuple, isi_NoneType_list, isi_NoneType_dict, isi_bool_bool, isi_bool_int, isi_bool_str, isi_bool_tuple, isi_bool_list, isi_bool_dict, isi_int_bool, isi_int_int, isi_int_str, isi_int_tuple, isi_int_list, isi_int_dict, isi_str_bool, isi_str_int, isi_str_str, isi_str_tuple, isi_str_list, isi_str_dict, isi_tuple_bool, isi_tuple_int, isi_tuple_str, isi_tuple_tuple, isi_tuple_list, isi_tuple_dict, isi_list_bool, isi_list_int, isi_list_str, isi_list_tuple, isi_list_list, isi_list_dict, isi_dict_bool, isi_dict_int, isi_dict_str, isi_dict_tuple, isi_dict_list, isi_dict_dict, fCc, ic]
    exact q'
  show denSs T _ (DD Q) [some (.ref a), some (.int (at_ : Int)), some (.int (p : Int)), some (rowD (t.row at_)), some (.int (gt (t.row at_) p)), o5, o6, some (.int (gt t.costs p)), none, none, none] S1
  have cw : (t.costs ++ [t.scale]).length = (t.row at_ ++ [0]).length := by rw [List.length_append, List.length_append, w.cl, w.rlen hat]; rfl
  refine vs_set (x := .lst ((t.whole at_ p).map D.int)) (fun Q' q' => ?_) ?_
  · simp only [denSs, denS, den, dens, denO, denT, denI, DV.of, DV.ofB, sSeq, sRet, sRetN, sNext, sIf, sSet, sSetG, sPar, sPar3, sSetIx, sDrop, sFor, sForKeys, sBreak, sCont, dAnd, dOr, dNot, dAndT, dOrT, dNotT, dUn, dOp, dIte, dVar, dC, dTup, dLst, dNil, dCons, dCall, dCut, dPart, dNoPart, dGet1, dGet2, dApp,
  dSeq1, dRange1, dRange2, dEnum, dZip, dLc, dDc, dChain, fIsi, fBlt, fLen, fAbs, fInt1, fMax, fMin, fL1, fTuple, fList, fSorted, fDict, fBin, fCmp, fNeg, fAdd, fSub, fMul, fMod, fDiv, fPow, fInt, fInt0, fLt, fLe, fGt, fGe, fIs, fIsNot, fInD, fIx, fCut, fSeq, fRange1, fRange2, fEnum, fZip, fSetIx, fGet, fApp, fLenSet, fAug, sAug, tOf, tOfB, guardN, gset, gsets, sFrz, frz_dct, frz_lst, fEq_int, fNe_int, fEq_bl, fNe_bl, fEq_nil, fNe_nil, fEq_ints,
  TyC.name, DL.isNon, start0, List.length_cons, List.length_nil, List.map_cons, List.map_nil, List.cons_append, List.nil_append, List.getElem?_cons_zero, List.getElem?_cons_succ, List.getElem?_nil, List.set_cons_zero, List.set_cons_succ, List.set_nil, List.replicate, Nat.reduceSub, Nat.reduceAdd, mkL, mkD, dwipe, Bool.false_eq_true, if_true, if_false, ite_true, ite_false, true_and, and_true, Option.isSome_some, Option.isSome_none, Option.map_some, Option.map_none, Option.getD_some, Option.getD_none,
  tyD_non, tyD_bl, tyD_int, tyD_str, tyD_tup, tyD_lst, tyD_dct, truD_non, truD_bl, truD_int, truD_tup, truD_lst, truD_dct, asL_non, asD_non, keyD_non, asL_bl, asD_bl, keyD_bl, asL_int, asD_int, keyD_int, asL_str, asD_str, keyD_str, asL_tup, asD_tup, keyD_tup, asL_lst, asD_lst, keyD_lst, asL_dct, asD_dct, keyD_dct, asL_scr, asD_scr, keyD_scr, asL_sup, asD_sup, asL_supD, isLs_sup, tyD_supL, tyD_supD, sup_same, sup_sup, ixN_1_0, ixN_2_0, ixN_2_1, ixN_3_0, ixN_3_1, ixN_3_2, ixN_4_0, ixN_4_1, ixN_4_2, ixN_4_3, ixN_5_0, ixN_5_1, ixN_5_2, ixN_5_3, ixN_5_4, ixN_6_0, ixN_6_1, ixN_6_2, ixN_6_3, ixN_6_4, ixN_6_5, ixN_7_0, ixN_7_1, ixN_7_2, ixN_7_3, ixN_7_4, ixN_7_5, ixN_7_6, ixN_8_0, ixN_8_1, ixN_8_2, ixN_8_3, ixN_8_4, ixN_8_5, ixN_8_6, ixN_8_7, atI_0, atI_1, atI_2, atI_3, atI_4, atI_5, atI_6, atI_7, atI_8, isi_NoneType_bool, isi_NoneType_int, isi_NoneType_str, isi_NoneType_tuple, isi_NoneType_list, isi_NoneType_dict, isi_bool_bool, isi_bool_int, isi_bool_str, isi_bool_tuple, isi_bool_list, isi_bool_dict, isi_int_bool, isi_int_int, isi_int_str, isi_int_tuple, isi_int_list, isi_int_dict, isi_str_bool, isi_str_int, isi_str_str, isi_str_tuple, isi_str_list, isi_str_dict, isi_tuple_bool, isi_tuple_int, isi_tuple_str, isi_tuple_tuple, isi_tuple_list, isi_tuple_dict, isi_list_bool, isi_list_int, isi_list_str, isi_list_tuple, isi_list_list, isi_list_dict, isi_dict_bool, isi_dict_int, isi_dict_str, isi_dict_tuple, isi_dict_list, isi_dict_dict, fCc, fCs, h0, rowD, dStar, asTL]
    have e1 : t.costs.map D.int ++ [.int t.scale] = (t.costs ++ [t.scale]).map D.int := by rw [List.map_append]; rfl
    have e2 : (t.row at_).map D.int ++ [.int 0] = (t.row at_ ++ [0]).map D.int := by rw [List.map_append]; rfl
    rw [e1, e2]
    refine ⟨by rw [List.length_map, List.length_append, w.cl]; show h + m + 1 + 1 ≤ sizeLine; omega, by rw [List.length_map, List.length_append, w.rlen hat]; show h + m + 1 + 1 ≤ sizeLine; omega, ?_⟩
    have sc : ∀ x ∈ t.costs ++ [t.scale], Sml x := fun x hx => by
      rcases List.mem_append.mp hx with hx | hx
      · exact w.cs x hx
      · rw [List.mem_singleton.mp hx]; exact w.ss
    have sr : ∀ x ∈ t.row at_ ++ [0], Sml x := fun x hx => by
      rcases List.mem_append.mp hx with hx | hx
      · exact (w.row _ (w.row_mem hat)).2 x hx
      · rw [List.mem_singleton.mp hx]; exact .of (by decide) (by decide)
    refine lc_comb (T := T) (p := gt (t.row at_) p) (b := gt t.costs p) ⟨trivial, trivial⟩ (fun z hz => ⟨_, rfl, fun Q2 q2 => ?_⟩) ?_
    · obtain ⟨z1, z2⟩ := List.of_mem_zip hz
      simp only [denSs, denS, den, dens, denO, denT, denI, DV.of, DV.ofB, sSeq, sRet, sRetN, sNext, sIf, sSet, sSetG, sPar, sPar3, sSetIx, sDrop, sFor, sForKeys, sBreak, sCont, dAnd, dOr, dNot, dAndT, dOrT, dNotT, dUn, dOp, dIte, dVar, dC, dTup, dLst, dNil, dCons, dCall, dCut, dPart, dNoPart, dGet1, dGet2, dApp,
  dSeq1, dRange1, dRange2, dEnum, dZip, dLc, dDc, dChain, fIsi, fBlt, fLen, fAbs, fInt1, fMax, fMin, fL1, fTuple, fList, fSorted, fDict, fBin, fCmp, fNeg, fAdd, fSub, fMul, fMod, fDiv, fPow, fInt, fInt0, fLt, fLe, fGt, fGe, fIs, fIsNot, fInD, fIx, fCut, fSeq, fRange1, fRange2, fEnum, fZip, fSetIx, fGet, fApp, fLenSet, fAug, sAug, tOf, tOfB, guardN, gset, gsets, sFrz, frz_dct, frz_lst, fEq_int, fNe_int, fEq_bl, fNe_bl, fEq_nil, fNe_nil, fEq_ints,
  TyC.name, DL.isNon, start0, List.length_cons, List.length_nil, List.map_cons, List.map_nil, List.cons_append, List.nil_append, List.getElem?_cons_zero, List.getElem?_cons_succ, List.getElem?_nil, List.set_cons_zero, List.set_cons_succ, List.set_nil, List.replicate, Nat.reduceSub, Nat.reduceAdd, mkL, mkD, dwipe, Bool.false_eq_true, if_true, if_false, ite_true, ite_false, true_and, and_true, Option.isSome_some, Option.isSome_none, Option.map_some, Option.map_none, Option.getD_some, Option.getD_none,
  tyD_non, tyD_bl, tyD_int, tyD_str, tyD_tup, tyD_lst, tyD_dct, truD_non, truD_bl, truD_int, truD_tup, truD_lst, truD_dct, asL_non, asD_non, keyD_non, asL_bl, asD_bl, keyD_bl, asL_int, asD_int, keyD_int, asL_str, asD_str, keyD_str, asL_tup, asD_tup, keyD_tup, asL_lst, asD_lst, keyD_lst, asL_dct, asD_dct, keyD_dct, asL_scr, asD_scr, keyD_scr, asL_sup, asD_sup, asL_supD, isLs_sup, tyD_supL, tyD_supD, sup_same, sup_sup, ixN_1_0, ixN_2_0, ixN_2_1, ixN_3_0, ixN_3_1, ixN_3_2, ixN_4_0, ixN_4_1, ixN_4_2, ixN_4_3, ixN_5_0, ixN_5_1, ixN_5_2, ixN_5_3, ixN_5_4, ixN_6_0, ixN_6_1, ixN_6_2, ixN_6_3, ixN_6_4, ixN_6_5, ixN_7_0, ixN_7_1, ixN_7_2, ixN_7_3, ixN_7_4, ixN_7_5, ixN_7_6, ixN_8_0, ixN_8_1, ixN_8_2, ixN_8_3, ixN_8_4, ixN_8_5, ixN_8_6, ixN_8_7, atI_0, atI_1, atI_2, atI_3, atI_4, atI_5, atI_6, atI_7, atI_8, isi_NoneType_bool, isi_NoneType_int, isi_NoneType_str, isi_NoneType_tuple, isi_NoneType_list, isi_NoneType_dict, isi_bool_bool, isi_bool_int, isi_bool_str, isi_bool_tuple, isi_bool_list, isi_bool_dict, isi_int_bool, isi_int_int, isi_int_str, isi_int_tuple, isi_int_list, isi_int_dict, isi_str_bool, isi_str_int, isi_str_str, isi_str_tuple, isi_str_list, isi_str_dict, isi_tuple_bool, isi_tuple_int, isi_tuple_str, isi_tuple_tuple, isi_tuple_list, isi_tuple_dict, isi_list_bool, isi_list_int, isi_list_str, isi_list_tuple, isi_list_list, isi_list_dict, isi_dict_bool, isi_dict_int, isi_dict_str, isi_dict_tuple, isi_dict_list, isi_dict_dict]
      exact ⟨cmulW (sc _ z1) (w.rsml hat _), cmulW (w.csml _) (sr _ z2), q2⟩
    · refine ⟨_, rfl, ?_, fun x hx => ?_, q'⟩
      · rw [comb_len cw, List.length_append, w.cl]; show h + m + 1 + 1 ≤ 1000; omega
      · rw [← comb_zip] at hx
        obtain ⟨z, hz, rfl⟩ := List.mem_map.mp hx
        obtain ⟨z1, z2⟩ := List.of_mem_zip hz
        exact md_comb (sc _ z1) (w.rsml hat _) (w.csml _) (sr _ z2)
  show denSs T _ (DD Q) [some (.ref a), some (.int (at_ : Int)), some (.int (p : Int)), some (rowD (t.row at_)), some (.int (gt (t.row at_) p)), o5, o6, some (.int (gt t.costs p)), none, none, some (.lst ((t.whole at_ p).map D.int))] S1
  have wl : (t.whole at_ p).length = h + m + 1 + 1 := by
    unfold Tab.whole
    rw [lowest_len, comb_len cw, List.length_append, w.cl]; rfl
  have iw := atI_end wl
  have cw1 : cutD ((t.whole at_ p).map D.int) none (some (-1)) = ((t.ex at_ p).costs).map D.int := by
    rw [cutD_ints]
    congr 1
    show _ = (t.whole at_ p).dropLast
    unfold cI
    have e1 : HT.sIx (t.whole at_ p).length 0 none = 0 := rfl
    have e2 : HT.sIx (t.whole at_ p).length (t.whole at_ p).length (some (-1)) = (t.whole at_ p).length - 1 := by
      unfold HT.sIx
      show (if (-1 : Int) < 0 then _ else _) = _
      rw [if_pos (by decide)]
      omega
    rw [e1, e2, List.drop_zero, Nat.sub_zero, List.dropLast_eq_take]
  have esc : (t.ex at_ p).scale = gt (t.whole at_ p) (h + m + 1) := by
    show (t.whole at_ p).getLastD 0 = _
    unfold gt
    rw [List.getLastD_eq_getLast?, List.getLast?_eq_getElem?, List.getD_eq_getElem?_getD, wl]; rfl
  -- both stored
  show denS T (.setfld2 (.slot 0) "costs" "scale" (.cut false (.slot 10) .no (.one (.neg (.int 1)))) (.ix (.slot 10) (.neg (.int 1)))) _ _ S1
  have store : ∀ (t1 : Tab) (S2 : Store) (f : Str) (y : D) (t2 : Tab) (K : Store → Prop), S2 a = some (insO t1 r b) → (fldP "Pivots").contains f = true → putD f y (fldsP t1 r b) = fldsP t2 r b → K (sup S2 a (insO t2 r b)) → fSetFld T.fld f y (.ref a) S2 K := fun t1 S2 f y t2 K ho hf hp k => by
    unfold fSetFld
    dsimp only
    rw [ho, hF]
    show (fldP "Pivots").contains f = true ∧ (fldsP t1 r b).length < 1000 ∧ K (sup S2 a (.ins "Pivots" (putD f y (fldsP t1 r b))))
    rw [hp]
    exact ⟨hf, (by decide : 6 < 1000), k⟩
  show (den T (.cut false (.slot 10) .no (.one (.neg (.int 1))))).v [some (.ref a), some (.int (at_ : Int)), some (.int (p : Int)), some (rowD (t.row at_)), some (.int (gt (t.row at_) p)), o5, o6, some (.int (gt t.costs p)), none, none, some (.lst ((t.whole at_ p).map D.int))] S1 _
  refine (ve_cutLo (ve_slot rfl) ve_neg : Ve T _ S1 (.cut false (.slot 10) .no (.one (.neg (.int 1)))) _) _ ?_
  rw [cw1]
  refine (ve_ixEnd (ve_slot rfl) iw : Ve T _ S1 (.ix (.slot 10) (.neg (.int 1))) _) _ ?_
  refine ⟨by show 2 ≤ sizeLine; omega, ?_⟩
  refine (ve_slot rfl : Ve T _ S1 (.slot 0) (.ref a)) _ ?_
  refine store t S1 "costs" _ { t with costs := (t.ex at_ p).costs } _ A1o (by decide +kernel) rfl ?_
  refine (ve_slot rfl : Ve T _ _ (.slot 0) (.ref a)) _ ?_
  refine store { t with costs := (t.ex at_ p).costs } _ "scale" _ { t with costs := (t.ex at_ p).costs, scale := (t.ex at_ p).scale } _ sup_same (by decide +kernel) (by rw [← esc]; rfl) ?_
  rw [sup_sup]
  -- the base
  generalize hS2 : sup S1 a (insO { t with costs := (t.ex at_ p).costs, scale := (t.ex at_ p).scale } r b) = S2
  have B2a : S2 a = some (insO { t with costs := (t.ex at_ p).costs, scale := (t.ex at_ p).scale } r b) := by rw [← hS2]; exact sup_same
  have B2b : S2 b = some (.lst (t.base.map natD)) := by rw [← hS2, sup_ne (Ne.symm A.ab)]; exact A1b
  have B2r : S2 r = some (.lst ((t.ex at_ p).rows.map rowD)) := by rw [← hS2, sup_ne (Ne.symm A.ar)]; exact A1r
  have B2e : ∀ c, c ≠ a → c ≠ r → S2 c = S c := fun c h1 h2 => by rw [← hS2, sup_ne h1]; exact A1e c h2
  show (den T (.slot 2)).v [some (.ref a), some (.int (at_ : Int)), some (.int (p : Int)), some (rowD (t.row at_)), some (.int (gt (t.row at_) p)), o5, o6, some (.int (gt t.costs p)), none, none, some (.lst ((t.whole at_ p).map D.int))] S2 fun y S3 => fFld T.fld "base" (.ref a) S3 fun x S4 => fSetIx x (.int (at_ : Int)) y S4 fun S5 => rtQ Q .non S5
  show fFld T.fld "base" (.ref a) S2 fun x S4 => fSetIx x (.int (at_ : Int)) (.int (p : Int)) S4 fun S5 => rtQ Q .non S5
  unfold fFld
  dsimp only
  rw [B2a, hF]
  show (fldP "Pivots").contains "base" = true ∧ fSetIx (.ref b) (.int (at_ : Int)) (.int (p : Int)) S2 fun S5 => rtQ Q .non S5
  refine ⟨by decide +kernel, ?_⟩
  have ix : ixN (t.base.map natD).length (at_ : Int) = some at_ := by
    unfold ixN
    rw [if_pos (by omega), List.length_map, w.bl, if_pos (by omega)]; simp
  simp only [fSetIx, B2b, ix]
  refine .of (q _ ⟨?_, ?_, ?_, A.ar, A.ab, A.rb⟩ fun c c1 c2 c3 => ?_)
  · rw [sup_ne A.ab]; exact B2a
  · rw [sup_ne A.rb]; exact B2r
  · rw [sup_same]
    show some (O.lst ((t.base.map natD).set at_ (.int (p : Int)))) = some (.lst ((t.base.set at_ p).map natD))
    rw [List.map_set]; rfl
  · rw [sup_ne c3]; exact B2e c c1 c2
end K09
set_option Elab.async false
set_option linter.all false
set_option maxRecDepth 100000
set_option maxHeartbeats 1000000
namespace DL
open PySem L2
section
variable {T : Tb} {sd : Slots} {S : Store}
theorem meth_run {j n : Nat} {c nm : Str} {sp : DSp} {o : CE} {es : CEs} {xs : List D} {a : Addr} {fs : List (Str × D)} {Q : DQ} (hm : T.mt j = some (c, nm, n, sp)) (ho : Ve T sd S o (.ref a)) (hi : S a = some (.ins c fs)) (hl : fs.lookup nm = none) (hs : Vs T sd S es xs) (hn : xs.length + 1 = n) (h : sp (.ref a :: xs) S Q) : (den T (.meth j o es)).v sd S Q := by
  show dMeth (T.mt j) (den T o).v (dens T es) sd S Q
  unfold dMeth
  rw [hm]
  exact ho _ ⟨⟨a, fs, rfl, hi, hl⟩, hs _ ⟨hn, h⟩⟩
end
end DL
namespace K09
open PySem L2 DL Piv
/-! ### settle -/
def Fr (S S' : Store) (a r b : Addr) : Prop := ∀ c, c ≠ a → c ≠ r → c ≠ b → S' c = S c
def spSettle : DSp := fun ds S Q => ∃ (a r b : Addr) (t : Tab) (m h : Nat) (p : Prob), ds = [.ref a] ∧ At S a r b t ∧ TabOk p t ∧ (∀ n, Wf (Tab.run n t) m h) ∧ ∀ S', At S' a r b t.fin → Fr S S' a r b → Q (.bl (decide (gt t.fin.costs (h + m) = 0))) S'
theorem next_none {t : Tab} (h : t.ent = none) : t.next = none := by unfold Tab.next; rw [h]
theorem run_none {t : Tab} (h : t.ent = none) : ∀ n, Tab.run n t = t
  | 0 => rfl
  | n + 1 => by show (match t.next with | none => t | some t' => Tab.run n t') = t; rw [next_none h]
theorem run_some {t t' : Tab} (h : t.next = some t') (n : Nat) : Tab.run (n + 1) t = Tab.run n t' := by show (match t.next with | none => t | some t' => Tab.run n t') = _; rw [h]
theorem r_settle {T : Tb} (hF : T.fld = fldP) (m0 : T.mt 0 = some (("Pivots" : Str), ("entering" : Str), 1, spEntering)) (m1 : T.mt 1 = some (("Pivots" : Str), ("leaving" : Str), 2, spLeaving)) (m2 : T.mt 2 = some (("Pivots" : Str), ("exchange" : Str), 3, spExchange)) {ds : List D} {S : Store} {Q : DQ} (h : spSettle ds S Q) : denSs T core_Pivots_settle (DD Q) (start0 N_Pivots_settle.length ds) S := by
  obtain ⟨a, r, b, t, m, h, p, rfl, A, ok, w, q⟩ := h
  have ent : ∀ {sd : Slots} {S : Store} {u : Tab} {rest : CSs} {E : DEnds}, At S a r b u → Wf u m h → sd[0]? = some (some (.ref a)) → denSs T rest E (sd.set 1 (some (optD u.ent))) S → denSs T (.cons (.set 1 (.meth 0 (.slot 0) .nil)) rest) E sd S := fun {sd S u rest E} A w h0 q => by
    refine vs_setE (meth_run m0 (ve_slot h0) A.o rfl vs_nil rfl ?_)
    exact ⟨a, r, b, u, m, h, rfl, A, w, q⟩
  unfold core_Pivots_settle
  refine ent (sd := start0 N_Pivots_settle.length [.ref a]) A (w 0) rfl ?_
  show sWhile _ _ { DD Q with nx := fun sd' S' => denSs T _ (DD Q) sd' S' } [some (.ref a), some (optD t.ent)] S
  have fin : ∀ S', At S' a r b t.fin → Fr S S' a r b → denSs T (.cons (.ret (.cmp .Eq (.ix (.fld (.slot 0) "costs") (.neg (.int 1))) (.int 0))) .nil) (DD Q) [some (.ref a), some .non] S' := fun S' A' fr => by
    have i1 : atI (t.fin.costs.map D.int) (-1) = some (.int (gt t.fin.costs (h + m))) := atI_end (w ((t.many + t.rows.length) ^ t.rows.length)).cl
    simp only [denSs, denS, den, dens, denO, denT, denI, DV.of, DV.ofB, sSeq, sRet, sRetN, sNext, sIf, sSet, sSetG, sPar, sPar3, sSetIx, sDrop, sFor, sForKeys, sBreak, sCont, dAnd, dOr, dNot, dAndT, dOrT, dNotT, dUn, dOp, dIte, dVar, dC, dTup, dLst, dNil, dCons, dCall, dCut, dPart, dNoPart, dGet1, dGet2, dApp,
  dSeq1, dRange1, dRange2, dEnum, dZip, dLc, dDc, dChain, fIsi, fBlt, fLen, fAbs, fInt1, fMax, fMin, fL1, fTuple, fList, fSorted, fDict, fBin, fCmp, fNeg, fAdd, fSub, fMul, fMod, fDiv, fPow, fInt, fInt0, fLt, fLe, fGt, fGe, fIs, fIsNot, fInD, fIx, fCut, fSeq, fRange1, fRange2, fEnum, fZip, fSetIx, fGet, fApp, fLenSet, fAug, sAug, tOf, tOfB, guardN, gset, gsets, sFrz, frz_dct, frz_lst, fEq_int, fNe_int, fEq_bl, fNe_bl, fEq_nil, fNe_nil, fEq_ints,
  TyC.name, DL.isNon, start0, List.length_cons, List.length_nil, List.map_cons, List.map_nil, List.cons_append, List.nil_append, List.getElem?_cons_zero, List.getElem?_cons_succ, List.getElem?_nil, List.set_cons_zero, List.set_cons_succ, List.set_nil, List.replicate, Nat.reduceSub, Nat.reduceAdd, mkL, mkD, dwipe, Bool.false_eq_true, if_true, if_false, ite_true, ite_false, true_and, and_true, Option.isSome_some, Option.isSome_none, Option.map_some, Option.map_none, Option.getD_some, Option.getD_none,
  tyD_non, tyD_bl, tyD_int, tyD_str, tyD_tup, tyD_lst, tyD_dct, truD_non, truD_bl, truD_int, truD_tup, truD_lst, truD_dct, asL_non, asD_non, keyD_non, asL_bl, asD_bl, keyD_bl, asL_int, asD_int, keyD_int, asL_str, asD_str, keyD_str, asL_tup, asD_tup, keyD_tup, asL_lst, asD_lst, keyD_lst, asL_dct, asD_dct, keyD_dct, asL_scr, asD_scr, keyD_scr, asL_sup, asD_sup, asL_supD, isLs_sup, tyD_supL, tyD_supD, sup_same, sup_sup, ixN_1_0, ixN_2_0, ixN_2_1, ixN_3_0, ixN_3_1, ixN_3_2, ixN_4_0, ixN_4_1, ixN_4_2, ixN_4_3, ixN_5_0, ixN_5_1, ixN_5_2, ixN_5_3, ixN_5_4, ixN_6_0, ixN_6_1, ixN_6_2, ixN_6_3, ixN_6_4, ixN_6_5, ixN_7_0, ixN_7_1, ixN_7_2, ixN_7_3, ixN_7_4, ixN_7_5, ixN_7_6, ixN_8_0, ixN_8_1, ixN_8_2, ixN_8_3, ixN_8_4, ixN_8_5, ixN_8_6, ixN_8_7, atI_0, atI_1, atI_2, atI_3, atI_4, atI_5, atI_6, atI_7, atI_8, isi_NoneType_bool, isi_NoneType_int, isi_NoneType_str, isi_NoneType_tuple, isi_NoneType_list, isi_NoneType_dict, isi_bool_bool, isi_bool_int, isi_bool_str, isi_bool_tuple, isi_bool_list, isi_bool_dict, isi_int_bool, isi_int_int, isi_int_str, isi_int_tuple, isi_int_list, isi_int_dict, isi_str_bool, isi_str_int, isi_str_str, isi_str_tuple, isi_str_list, isi_str_dict, isi_tuple_bool, isi_tuple_int, isi_tuple_str, isi_tuple_tuple, isi_tuple_list, isi_tuple_dict, isi_list_bool, isi_list_int, isi_list_str, isi_list_tuple, isi_list_list, isi_list_dict, isi_dict_bool, isi_dict_int, isi_dict_str, isi_dict_tuple, isi_dict_list, isi_dict_dict, A'.costs hF, i1]
    exact .of (q S' A' fr)
  generalize hE : ({ DD Q with nx := fun sd' S' => denSs T (.cons (.ret (.cmp .Eq (.ix (.fld (.slot 0) "costs") (.neg (.int 1))) (.int 0))) .nil) (DD Q) sd' S' } : DEnds) = E
  have fin : ∀ S', At S' a r b t.fin → Fr S S' a r b → E.nx [some (.ref a), some .non] S' := by rw [← hE]; exact fin
  clear hE
  have eN : t.fin = Tab.run (p.N ^ p.m) t := by
    unfold Tab.fin Prob.N
    rw [ok.many, ok.rl]
  have stop := run_ends ok
  rw [eN] at fin
  refine ⟨p.N ^ p.m + 1, ?_⟩
  generalize p.N ^ p.m = n at fin stop
  have go : ∀ (n : Nat) (u : Tab) (S1 : Store), At S1 a r b u → Fr S S1 a r b → TabOk p u → (∀ k, Wf (Tab.run k u) m h) → (Tab.run n u).ent = none → (∀ S', At S' a r b (Tab.run n u) → Fr S S' a r b → E.nx [some (.ref a), some .non] S') →
      whileN (den T (.cmp .IsNot (.slot 1) .non)).t (denSs T (.cons (.expr (.meth 2 (.slot 0) (.cons (.meth 1 (.slot 0) (.cons (.slot 1) .nil)) (.cons (.slot 1) .nil)))) (.cons (.set 1 (.meth 0 (.slot 0) .nil)) .nil))) E (n + 1) [some (.ref a), some (optD u.ent)] S1 := by
    intro n
    induction n with
    | zero =>
      intro u S1 A1 fr ok1 w1 st fin
      have st : u.ent = none := st
      rw [st]
      unfold whileN
      simp only [optD, denSs, denS, den, dens, denO, denT, denI, DV.of, DV.ofB, sSeq, sRet, sRetN, sNext, sIf, sSet, sSetG, sPar, sPar3, sSetIx, sDrop, sFor, sForKeys, sBreak, sCont, dAnd, dOr, dNot, dAndT, dOrT, dNotT, dUn, dOp, dIte, dVar, dC, dTup, dLst, dNil, dCons, dCall, dCut, dPart, dNoPart, dGet1, dGet2, dApp,
  dSeq1, dRange1, dRange2, dEnum, dZip, dLc, dDc, dChain, fIsi, fBlt, fLen, fAbs, fInt1, fMax, fMin, fL1, fTuple, fList, fSorted, fDict, fBin, fCmp, fNeg, fAdd, fSub, fMul, fMod, fDiv, fPow, fInt, fInt0, fLt, fLe, fGt, fGe, fIs, fIsNot, fInD, fIx, fCut, fSeq, fRange1, fRange2, fEnum, fZip, fSetIx, fGet, fApp, fLenSet, fAug, sAug, tOf, tOfB, guardN, gset, gsets, sFrz, frz_dct, frz_lst, fEq_int, fNe_int, fEq_bl, fNe_bl, fEq_nil, fNe_nil, fEq_ints,
  TyC.name, DL.isNon, start0, List.length_cons, List.length_nil, List.map_cons, List.map_nil, List.cons_append, List.nil_append, List.getElem?_cons_zero, List.getElem?_cons_succ, List.getElem?_nil, List.set_cons_zero, List.set_cons_succ, List.set_nil, List.replicate, Nat.reduceSub, Nat.reduceAdd, mkL, mkD, dwipe, Bool.false_eq_true, if_true, if_false, ite_true, ite_false, true_and, and_true, Option.isSome_some, Option.isSome_none, Option.map_some, Option.map_none, Option.getD_some, Option.getD_none,
  tyD_non, tyD_bl, tyD_int, tyD_str, tyD_tup, tyD_lst, tyD_dct, truD_non, truD_bl, truD_int, truD_tup, truD_lst, truD_dct, asL_non, asD_non, keyD_non, asL_bl, asD_bl, keyD_bl, asL_int, asD_int, keyD_int, asL_str, asD_str, keyD_str, asL_tup, asD_tup, keyD_tup, asL_lst, asD_lst, keyD_lst, asL_dct, asD_dct, keyD_dct, asL_scr, asD_scr, keyD_scr, asL_sup, asD_sup, asL_supD, isLs_sup, tyD_supL, tyD_supD, sup_same, sup_sup, ixN_1_0, ixN_2_0, ixN_2_1, ixN_3_0, ixN_3_1, ixN_3_2, ixN_4_0, ixN_4_1, ixN_4_2, ixN_4_3, ixN_5_0, ixN_5_1, ixN_5_2, ixN_5_3, ixN_5_4, ixN_6_0, ixN_6_1, ixN_6_2, ixN_6_3, ixN_6_4, ixN_6_5, ixN_7_0, ixN_7_1, ixN_7_2, ixN_7_3, ixN_7_4, ixN_7_5, ixN_7_6, ixN_8_0, ixN_8_1, ixN_8_2, ixN_8_3, ixN_8_4, ixN_8_5, ixN_8_6, ixN_8_7, atI_0, atI_1, atI_2, atI_3, atI_4, atI_5, atI_6, atI_7, atI_8, isi_NoneType_bool, isi_NoneType_int, isi_NoneType_str, isi_NoneType_tuple, isi_NoneType_list, isi_NoneType_dict, isi_bool_bool, isi_bool_int, isi_bool_str, isi_bool_tuple, isi_bool_list, isi_bool_dict, isi_int_bool, isi_int_int, isi_int_str, isi_int_tuple, isi_int_list, isi_int_dict, isi_str_bool, isi_str_int, isi_str_str, isi_str_tuple, isi_str_list, isi_str_dict, isi_tuple_bool, isi_tuple_int, isi_tuple_str, isi_tuple_tuple, isi_tuple_list, isi_tuple_dict, isi_list_bool, isi_list_int, isi_list_str, isi_list_tuple, isi_list_list, isi_list_dict, isi_dict_bool, isi_dict_int, isi_dict_str, isi_dict_tuple, isi_dict_list, isi_dict_dict]
      exact fin S1 A1 fr
    | succ n ih =>
      intro u S1 A1 fr ok1 w1 st fin
      unfold whileN
      cases e : u.ent with
      | none =>
        rw [run_none e] at fin
        simp only [optD, denSs, denS, den, dens, denO, denT, denI, DV.of, DV.ofB, sSeq, sRet, sRetN, sNext, sIf, sSet, sSetG, sPar, sPar3, sSetIx, sDrop, sFor, sForKeys, sBreak, sCont, dAnd, dOr, dNot, dAndT, dOrT, dNotT, dUn, dOp, dIte, dVar, dC, dTup, dLst, dNil, dCons, dCall, dCut, dPart, dNoPart, dGet1, dGet2, dApp,
  dSeq1, dRange1, dRange2, dEnum, dZip, dLc, dDc, dChain, fIsi, fBlt, fLen, fAbs, fInt1, fMax, fMin, fL1, fTuple, fList, fSorted, fDict, fBin, fCmp, fNeg, fAdd, fSub, fMul, fMod, fDiv, fPow, fInt, fInt0, fLt, fLe, fGt, fGe, fIs, fIsNot, fInD, fIx, fCut, fSeq, fRange1, fRange2, fEnum, fZip, fSetIx, fGet, fApp, fLenSet, fAug, sAug, tOf, tOfB, guardN, gset, gsets, sFrz, frz_dct, frz_lst, fEq_int, fNe_int, fEq_bl, fNe_bl, fEq_nil, fNe_nil, fEq_ints,
  TyC.name, DL.isNon, start0, List.length_cons, List.length_nil, List.map_cons, List.map_nil, List.cons_append, List.nil_append, List.getElem?_cons_zero, List.getElem?_cons_succ, List.getElem?_nil, List.set_cons_zero, List.set_cons_succ, List.set_nil, List.replicate, Nat.reduceSub, Nat.reduceAdd, mkL, mkD, dwipe, Bool.false_eq_true, if_true, if_false, ite_true, ite_false, true_and, and_true, Option.isSome_some, Option.isSome_none, Option.map_some, Option.map_none, Option.getD_some, Option.getD_none,
  tyD_non, tyD_bl, tyD_int, tyD_str, tyD_tup, tyD_lst, tyD_dct, truD_non, truD_bl, truD_int, truD_tup, truD_lst, truD_dct, asL_non, asD_non, keyD_non, asL_bl, asD_bl, keyD_bl, asL_int, asD_int, keyD_int, asL_str, asD_str, keyD_str, asL_tup, asD_tup, keyD_tup, asL_lst, asD_lst, keyD_lst, asL_dct, asD_dct, keyD_dct, asL_scr, asD_scr, keyD_scr, asL_sup, asD_sup, asL_supD, isLs_sup, tyD_supL, tyD_supD, sup_same, sup_sup, ixN_1_0, ixN_2_0, ixN_2_1, ixN_3_0, ixN_3_1, ixN_3_2, ixN_4_0, ixN_4_1, ixN_4_2, ixN_4_3, ixN_5_0, ixN_5_1, ixN_5_2, ixN_5_3, ixN_5_4, ixN_6_0, ixN_6_1, ixN_6_2, ixN_6_3, ixN_6_4, ixN_6_5, ixN_7_0, ixN_7_1, ixN_7_2, ixN_7_3, ixN_7_4, ixN_7_5, ixN_7_6, ixN_8_0, ixN_8_1, ixN_8_2, ixN_8_3, ixN_8_4, ixN_8_5, ixN_8_6, ixN_8_7, atI_0, atI_1, atI_2, atI_3, atI_4, atI_5, atI_6, atI_7, atI_8, isi_NoneType_bool, isi_NoneType_int, isi_NoneType_str, isi_NoneType_tuple, isi_NoneType_list, isi_NoneType_dict, isi_bool_bool, isi_bool_int, isi_bool_str, isi_bool_tuple, isi_bool_list, isi_bool_dict, isi_int_bool, isi_int_int, isi_int_str, isi_int_tuple, isi_int_list, isi_int_dict, isi_str_bool, isi_str_int, isi_str_str, isi_str_tuple, isi_str_list, isi_str_dict, isi_tuple_bool, isi_tuple_int, isi_tuple_str, isi_tuple_tuple, isi_tuple_list, isi_tuple_dict, isi_list_bool, isi_list_int, isi_list_str, isi_list_tuple, isi_list_list, isi_list_dict, isi_dict_bool, isi_dict_int, isi_dict_str, isi_dict_tuple, isi_dict_list, isi_dict_dict]
        exact fin S1 A1 fr
      | some c =>
        obtain ⟨f, l1, nx, hq, _, _, best, _, ok2⟩ := next_ok ok1 e
        have w0 := w1 0
        have w0 : Wf u m h := w0
        rw [w0.many, w0.rl] at l1
        have hc : c < h := by rw [← w0.many, ok1.many]; exact hq
        have hf : f < m := by rw [← w0.rl, ok1.rl]; exact best.1
        show (den T (.cmp .IsNot (.slot 1) .non)).t [some (.ref a), some (.int (c : Int))] S1 _
        have tst : ∀ K : Bool → Store → Prop, K true S1 → (den T (.cmp .IsNot (.slot 1) .non)).t [some (.ref a), some (.int (c : Int))] S1 K := fun K k => by
          simp only [denSs, denS, den, dens, denO, denT, denI, DV.of, DV.ofB, sSeq, sRet, sRetN, sNext, sIf, sSet, sSetG, sPar, sPar3, sSetIx, sDrop, sFor, sForKeys, sBreak, sCont, dAnd, dOr, dNot, dAndT, dOrT, dNotT, dUn, dOp, dIte, dVar, dC, dTup, dLst, dNil, dCons, dCall, dCut, dPart, dNoPart, dGet1, dGet2, dApp,
  dSeq1, dRange1, dRange2, dEnum, dZip, dLc, dDc, dChain, fIsi, fBlt, fLen, fAbs, fInt1, fMax, fMin, fL1, fTuple, fList, fSorted, fDict, fBin, fCmp, fNeg, fAdd, fSub, fMul, fMod, fDiv, fPow, fInt, fInt0, fLt, fLe, fGt, fGe, fIs, fIsNot, fInD, fIx, fCut, fSeq, fRange1, fRange2, fEnum, fZip, fSetIx, fGet, fApp, fLenSet, fAug, sAug, tOf, tOfB, guardN, gset, gsets, sFrz, frz_dct, frz_lst, fEq_int, fNe_int, fEq_bl, fNe_bl, fEq_nil, fNe_nil, fEq_ints,
  TyC.name, DL.isNon, start0, List.length_cons, List.length_nil, List.map_cons, List.map_nil, List.cons_append, List.nil_append, List.getElem?_cons_zero, List.getElem?_cons_succ, List.getElem?_nil, List.set_cons_zero, List.set_cons_succ, List.set_nil, List.replicate, Nat.reduceSub, Nat.reduceAdd, mkL, mkD, dwipe, Bool.false_eq_true, if_true, if_false, ite_true, ite_false, true_and, and_true, Option.isSome_some, Option.isSome_none, Option.map_some, Option.map_none, Option.getD_some, Option.getD_none,
  tyD_non, tyD_bl, tyD_int, tyD_str, tyD_tup, tyD_lst, tyD_dct, truD_non, truD_bl, truD_int, truD_tup, truD_lst, truD_dct, asL_non, asD_non, keyD_non, asL_bl, asD_bl, keyD_bl, asL_int, asD_int, keyD_int, asL_str, asD_str, keyD_str, asL_tup, asD_tup, keyD_tup, asL_lst, asD_lst, keyD_lst, asL_dct, asD_dct, keyD_dct, asL_scr, asD_scr, keyD_scr, asL_sup, asD_sup, asL_supD, isLs_sup, tyD_supL, tyD_supD, sup_same, sup_sup, ixN_1_0, ixN_2_0, ixN_2_1, ixN_3_0, ixN_3_1, ixN_3_2, ixN_4_0, ixN_4_1, ixN_4_2, ixN_4_3, ixN_5_0, ixN_5_1, ixN_5_2, ixN_5_3, ixN_5_4, ixN_6_0, ixN_6_1, ixN_6_2, ixN_6_3, ixN_6_4, ixN_6_5, ixN_7_0, ixN_7_1, ixN_7_2, ixN_7_3, ixN_7_4, ixN_7_5, ixN_7_6, ixN_8_0, ixN_8_1, ixN_8_2, ixN_8_3, ixN_8_4, ixN_8_5, ixN_8_6, ixN_8_7, atI_0, atI_1, atI_2, atI_3, atI_4, atI_5, atI_6, atI_7, atI_8, isi_NoneType_bool, isi_NoneType_int, isi_NoneType_str, isi_NoneType_tuple, isi_NoneType_list, isi_NoneType_dict, isi_bool_bool, isi_bool_int, isi_bool_str, isi_bool_tuple, isi_bool_list, isi_bool_dict, isi_int_bool, isi_int_int, isi_int_str, isi_int_tuple, isi_int_list, isi_int_dict, isi_str_bool, isi_str_int, isi_str_str, isi_str_tuple, isi_str_list, isi_str_dict, isi_tuple_bool, isi_tuple_int, isi_tuple_str, isi_tuple_tuple, isi_tuple_list, isi_tuple_dict, isi_list_bool, isi_list_int, isi_list_str, isi_list_tuple, isi_list_list, isi_list_dict, isi_dict_bool, isi_dict_int, isi_dict_str, isi_dict_tuple, isi_dict_list, isi_dict_dict]
          exact k
        refine tst _ ?_
        rw [if_pos rfl]
        refine vs_exprE (meth_run m2 (ve_slot rfl) A1.o rfl (xs := [.int (f : Int), .int (c : Int)]) (vs_cons (fun Q' q' => ?_) (vs_cons (ve_slot rfl) vs_nil)) rfl ?_)
        · refine meth_run m1 (ve_slot rfl) A1.o rfl (vs_cons (ve_slot rfl) vs_nil) rfl ?_
          exact ⟨a, r, b, u, m, h, c, rfl, A1, w0, hc, by rw [l1]; exact q'⟩
        · refine ⟨a, r, b, u, m, h, f, c, rfl, A1, w0, hf, hc, fun S2 A2 fr2 => ?_⟩
          have w2 : ∀ k, Wf (Tab.run k (u.ex f c)) m h := fun k => by rw [← run_some nx]; exact w1 _
          refine ent A2 (w2 0) rfl ?_
          rw [run_some nx] at st fin
          exact ih (u.ex f c) S2 A2 (fun x x1 x2 x3 => (fr2 x x1 x2 x3).trans (fr x x1 x2 x3)) ok2 w2 st fin
  exact go n t S A (fun _ _ _ _ => rfl) ok w stop fin
/-! ### prices -/
def spPrices : DSp := fun ds S Q => ∃ (a r b : Addr) (t : Tab) (m h : Nat), ds = [.ref a] ∧ At S a r b t ∧ Wf t m h ∧ (∀ x ∈ t.signs, Sml x) ∧ Q (.lst (t.prices.map D.int)) S
theorem sml_sub {x y : Int} (hx : Sml x) (hy : Sml y) : (x - y).natAbs.log2 < 1001 := by
  by_cases z : (x - y).natAbs = 0
  · rw [z]; decide
  · refine (Nat.log2_lt z).mpr ?_
    unfold Sml kilo at hx hy
    rw [Nat.pow_succ]
    omega
theorem r_prices {T : Tb} (hF : T.fld = fldP) {ds : List D} {S : Store} {Q : DQ} (h : spPrices ds S Q) : denSs T core_Pivots_prices (DD Q) (start0 N_Pivots_prices.length ds) S := by
  obtain ⟨a, r, b, t, m, h, rfl, A, w, sg, q⟩ := h
  have hsz : (1000 : Nat) ≤ sizeLine := by decide
  simp only [core_Pivots_prices, N_Pivots_prices, DD, denSs, denS, den, dens, denO, denT, denI, DV.of, DV.ofB, sSeq, sRet, sRetN, sNext, sIf, sSet, sSetG, sPar, sPar3, sSetIx, sDrop, sFor, sForKeys, sBreak, sCont, dAnd, dOr, dNot, dAndT, dOrT, dNotT, dUn, dOp, dIte, dVar, dC, dTup, dLst, dNil, dCons, dCall, dCut, dPart, dNoPart, dGet1, dGet2, dApp,
  dSeq1, dRange1, dRange2, dEnum, dZip, dLc, dDc, dChain, fIsi, fBlt, fLen, fAbs, fInt1, fMax, fMin, fL1, fTuple, fList, fSorted, fDict, fBin, fCmp, fNeg, fAdd, fSub, fMul, fMod, fDiv, fPow, fInt, fInt0, fLt, fLe, fGt, fGe, fIs, fIsNot, fInD, fIx, fCut, fSeq, fRange1, fRange2, fEnum, fZip, fSetIx, fGet, fApp, fLenSet, fAug, sAug, tOf, tOfB, guardN, gset, gsets, sFrz, frz_dct, frz_lst, fEq_int, fNe_int, fEq_bl, fNe_bl, fEq_nil, fNe_nil, fEq_ints,
  TyC.name, DL.isNon, start0, List.length_cons, List.length_nil, List.map_cons, List.map_nil, List.cons_append, List.nil_append, List.getElem?_cons_zero, List.getElem?_cons_succ, List.getElem?_nil, List.set_cons_zero, List.set_cons_succ, List.set_nil, List.replicate, Nat.reduceSub, Nat.reduceAdd, mkL, mkD, dwipe, Bool.false_eq_true, if_true, if_false, ite_true, ite_false, true_and, and_true, Option.isSome_some, Option.isSome_none, Option.map_some, Option.map_none, Option.getD_some, Option.getD_none,
  tyD_non, tyD_bl, tyD_int, tyD_str, tyD_tup, tyD_lst, tyD_dct, truD_non, truD_bl, truD_int, truD_tup, truD_lst, truD_dct, asL_non, asD_non, keyD_non, asL_bl, asD_bl, keyD_bl, asL_int, asD_int, keyD_int, asL_str, asD_str, keyD_str, asL_tup, asD_tup, keyD_tup, asL_lst, asD_lst, keyD_lst, asL_dct, asD_dct, keyD_dct, asL_scr, asD_scr, keyD_scr, asL_sup, asD_sup, asL_supD, isLs_sup, tyD_supL, tyD_supD, sup_same, sup_sup, ixN_1_0, ixN_2_0, ixN_2_1, ixN_3_0, ixN_3_1, ixN_3_2, ixN_4_0, ixN_4_1, ixN_4_2, ixN_4_3, ixN_5_0, ixN_5_1, ixN_5_2, ixN_5_3, ixN_5_4, ixN_6_0, ixN_6_1, ixN_6_2, ixN_6_3, ixN_6_4, ixN_6_5, ixN_7_0, ixN_7_1, ixN_7_2, ixN_7_3, ixN_7_4, ixN_7_5, ixN_7_6, ixN_8_0, ixN_8_1, ixN_8_2, ixN_8_3, ixN_8_4, ixN_8_5, ixN_8_6, ixN_8_7, atI_0, atI_1, atI_2, atI_3, atI_4, atI_5, atI_6, atI_7, atI_8, isi_NoneType_bool, isi_NoneType_int, isi_NoneType_str, isi_NoneType_tuple, isi_NoneType_list, isi_NoneType_dict, isi_bool_bool, isi_bool_int, isi_bool_str, isi_bool_tuple, isi_bool_list, isi_bool_dict, isi_int_bool, isi_int_int, isi_int_str, isi_int_tuple, isi_int_list, isi_int_dict, isi_str_bool, isi_str_int, isi_str_str, isi_str_tuple, isi_str_list, isi_str_dict, isi_tuple_bool, isi_tuple_int, isi_tuple_str, isi_tuple_tuple, isi_tuple_list, isi_tuple_dict, isi_list_bool, isi_list_int, isi_list_str, isi_list_tuple, isi_list_list, isi_list_dict, isi_dict_bool, isi_dict_int, isi_dict_str, isi_dict_tuple, isi_dict_list, isi_dict_dict, A.signs hF]
  have e1 : (t.signs.map D.int).zipIdx.map (fun p => D.tup [.int (p.2 : Int), p.1]) = t.signs.zipIdx.map fun q => .tup [.int (q.2 : Int), .int q.1] := by
    rw [List.zipIdx_map, List.map_map]; rfl
  rw [e1]
  refine lcL_mapA (f := fun q => .int (q.1 * (t.scale - gt t.costs (t.many + q.2)))) trivial (fun x hx => ⟨_, rfl, fun Q' q' => ?_⟩) ?_
  · obtain ⟨i1, i2⟩ := List.mem_zipIdx_iff_getElem?.mp hx |> fun z => (List.getElem?_eq_some_iff.mp z)
    have hi : x.2 < m := by rw [← w.sl]; exact i1
    have ic := atI_gt (l := t.costs) (c := t.many + x.2) (by rw [w.cl, w.many]; omega)
    rw [Int.natCast_add] at ic
    simp only [denSs, denS, den, dens, denO, denT, denI, DV.of, DV.ofB, sSeq, sRet, sRetN, sNext, sIf, sSet, sSetG, sPar, sPar3, sSetIx, sDrop, sFor, sForKeys, sBreak, sCont, dAnd, dOr, dNot, dAndT, dOrT, dNotT, dUn, dOp, dIte, dVar, dC, dTup, dLst, dNil, dCons, dCall, dCut, dPart, dNoPart, dGet1, dGet2, dApp,
  dSeq1, dRange1, dRange2, dEnum, dZip, dLc, dDc, dChain, fIsi, fBlt, fLen, fAbs, fInt1, fMax, fMin, fL1, fTuple, fList, fSorted, fDict, fBin, fCmp, fNeg, fAdd, fSub, fMul, fMod, fDiv, fPow, fInt, fInt0, fLt, fLe, fGt, fGe, fIs, fIsNot, fInD, fIx, fCut, fSeq, fRange1, fRange2, fEnum, fZip, fSetIx, fGet, fApp, fLenSet, fAug, sAug, tOf, tOfB, guardN, gset, gsets, sFrz, frz_dct, frz_lst, fEq_int, fNe_int, fEq_bl, fNe_bl, fEq_nil, fNe_nil, fEq_ints,
  TyC.name, DL.isNon, start0, List.length_cons, List.length_nil, List.map_cons, List.map_nil, List.cons_append, List.nil_append, List.getElem?_cons_zero, List.getElem?_cons_succ, List.getElem?_nil, List.set_cons_zero, List.set_cons_succ, List.set_nil, List.replicate, Nat.reduceSub, Nat.reduceAdd, mkL, mkD, dwipe, Bool.false_eq_true, if_true, if_false, ite_true, ite_false, true_and, and_true, Option.isSome_some, Option.isSome_none, Option.map_some, Option.map_none, Option.getD_some, Option.getD_none,
  tyD_non, tyD_bl, tyD_int, tyD_str, tyD_tup, tyD_lst, tyD_dct, truD_non, truD_bl, truD_int, truD_tup, truD_lst, truD_dct, asL_non, asD_non, keyD_non, asL_bl, asD_bl, keyD_bl, asL_int, asD_int, keyD_int, asL_str, asD_str, keyD_str, asL_tup, asD_tup, keyD_tup, asL_lst, asD_lst, keyD_lst, asL_dct, asD_dct, keyD_dct, asL_scr, asD_scr, keyD_scr, asL_sup, asD_sup, asL_supD, isLs_sup, tyD_supL, tyD_supD, sup_same, sup_sup, ixN_1_0, ixN_2_0, ixN_2_1, ixN_3_0, ixN_3_1, ixN_3_2, ixN_4_0, ixN_4_1, ixN_4_2, ixN_4_3, ixN_5_0, ixN_5_1, ixN_5_2, ixN_5_3, ixN_5_4, ixN_6_0, ixN_6_1, ixN_6_2, ixN_6_3, ixN_6_4, ixN_6_5, ixN_7_0, ixN_7_1, ixN_7_2, ixN_7_3, ixN_7_4, ixN_7_5, ixN_7_6, ixN_8_0, ixN_8_1, ixN_8_2, ixN_8_3, ixN_8_4, ixN_8_5, ixN_8_6, ixN_8_7, atI_0, atI_1, atI_2, atI_3, atI_4, atI_5, atI_6, atI_7, atI_8, isi_NoneType_bool, isi_NoneType_int, isi_NoneType_str, isi_NoneType_tuple, isi_NoneType_list, isi_NoneType_dict, isi_bool_bool, isi_bool_int, isi_bool_str, isi_bool_tuple, isi_bool_list, isi_bool_dict, isi_int_bool, isi_int_int, isi_int_str, isi_int_tuple, isi_int_list, isi_int_dict, isi_str_bool, isi_str_int, isi_str_str, isi_str_tuple, isi_str_list, isi_str_dict, isi_tuple_bool, isi_tuple_int, isi_tuple_str, isi_tuple_tuple, isi_tuple_list, isi_tuple_dict, isi_list_bool, isi_list_int, isi_list_str, isi_list_tuple, isi_list_list, isi_list_dict, isi_dict_bool, isi_dict_int, isi_dict_str, isi_dict_tuple, isi_dict_list, isi_dict_dict, A.many hF, A.scale hF, A.costs hF, ic]
    refine ⟨?_, q'⟩
    have s1 := (sg x.1 (by rw [← i2]; exact List.getElem_mem _)).log
    have s2 := sml_sub w.ss (w.csml (t.many + x.2))
    unfold CMulW; omega
  · have e2 : (t.signs.zipIdx.map fun q => D.int (q.1 * (t.scale - gt t.costs (t.many + q.2)))) = t.prices.map D.int := by
      unfold Tab.prices
      refine List.ext_getElem ?_ fun i h1 h2 => ?_
      · rw [List.length_map, List.length_zipIdx, List.length_map, List.length_map, List.length_range, w.sl, w.rl]
      · rw [List.length_map, List.length_zipIdx] at h1
        simp only [List.getElem_map, List.getElem_zipIdx, List.getElem_range, Nat.zero_add]
        rw [gt_lt h1]
    rw [e2]; exact .of q
end K09
set_option Elab.async false
set_option linter.all false
set_option maxRecDepth 100000
set_option maxHeartbeats 1000000
namespace K09
open PySem L2 DL Piv
/-! ### times -/
def mega : Nat := 300000
def Big (x : Int) : Prop := x.natAbs < 2 ^ mega
theorem Big.log {x : Int} (h : Big x) : x.natAbs.log2 < mega := by
  by_cases z : x.natAbs = 0
  · rw [z]; decide
  · exact (Nat.log2_lt z).mpr h
theorem pow_big {x : Int} {k : Nat} (h : x.natAbs < 2 ^ k) (hk : k ≤ mega) : Big x := Nat.lt_of_lt_of_le h (Nat.pow_le_pow_right (by decide) hk)
theorem cmulB {i j : Int} (hi : Big i) (hj : Sml j) : CMulW i j := by
  have h1 := hi.log
  have h2 := hj.log
  unfold mega at h1
  unfold CMulW; omega
theorem cmulB' {i j : Int} (hi : Sml i) (hj : Big j) : CMulW i j := by
  have h1 := hi.log
  have h2 := hj.log
  unfold mega at h2
  unfold CMulW; omega
def ownD (q : Nat × List Int) : D := .tup [natD q.1, rowD q.2]
theorem zipD_own : ∀ (xs : List Nat) (ys : List (List Int)), zipD (xs.map natD) (ys.map rowD) = (xs.zip ys).map ownD
  | [], ys => by simp [zipD]
  | _ :: _, [] => by simp [zipD]
  | x :: xs, y :: ys => by rw [List.zip_cons_cons, List.map_cons, List.map_cons, List.map_cons, zipD, zipD_own xs ys]; rfl
theorem mul_lt_pow {x y : Int} {a b : Nat} (h1 : x.natAbs < 2 ^ a) (h2 : y.natAbs < 2 ^ b) : (x * y).natAbs < 2 ^ (a + b) := by
  rw [Int.natAbs_mul, Nat.pow_add]
  exact Nat.mul_lt_mul'' h1 h2
theorem ediv_lt_pow {x y : Int} {a : Nat} (h : x.natAbs < 2 ^ a) (hx : 0 ≤ x) (hy : 0 ≤ y) : (x / y).natAbs < 2 ^ a := by
  have h1 := Int.ediv_le_self y hx
  have h2 := Int.ediv_nonneg hx hy
  omega
theorem ediv_abs {x y : Int} (hy : 0 < y) : (x / y).natAbs ≤ x.natAbs + 1 := by
  rcases Int.le_total 0 x with z | z
  · have h1 := Int.ediv_le_self y z
    have h2 := Int.ediv_nonneg z (Int.le_of_lt hy)
    omega
  · have h3 : x / y ≤ 0 := by
      have := Int.ediv_le_ediv hy z
      rw [Int.zero_ediv] at this; exact this
    have h4 : x ≤ x / y := by
      rw [Int.le_ediv_iff_mul_le hy]
      have := Int.mul_nonneg (show 0 ≤ -x by omega) (show 0 ≤ y - 1 by omega)
      rw [Int.mul_sub, Int.neg_mul, Int.mul_one] at this
      omega
    omega
def spTimes : DSp := fun ds S Q => ∃ (a r b : Addr) (t : Tab) (m h : Nat), ds = [.ref a] ∧ At S a r b t ∧ Wf t m h ∧ (∀ q ∈ t.own, 0 < gt q.2 q.1) ∧ Q (.tup [.int t.times.1, .lst (t.times.2.map D.int)]) S
theorem own_wf {t : Tab} {m h : Nat} (w : Wf t m h) {q : Nat × List Int} (hq : q ∈ t.own) : q.1 < h ∧ q.2.length = h + m + 1 ∧ ∀ c, Sml (gt q.2 c) := by
  unfold Tab.own at hq
  rw [List.mem_filter, decide_eq_true_eq, w.many] at hq
  obtain ⟨hq, hl⟩ := hq
  have hr := (List.of_mem_zip (show (q.1, q.2) ∈ t.base.zip t.rows from hq)).2
  obtain ⟨i, hi, e⟩ := List.mem_iff_getElem.mp hr
  rw [w.rl] at hi
  have er : q.2 = t.row i := by unfold Tab.row; rw [List.getD_eq_getElem?_getD, List.getElem?_eq_getElem (by rw [w.rl]; exact hi)]; exact e.symm
  rw [er]
  exact ⟨hl, w.rlen hi, w.rsml hi⟩
theorem own_len {t : Tab} {m h : Nat} (w : Wf t m h) : t.own.length ≤ m := by
  unfold Tab.own
  refine Nat.le_trans (List.length_filter_le ..) ?_
  rw [List.length_zip, w.bl, w.rl]; omega
theorem divF_snoc (d : Int) (o : List (Nat × List Int)) (q : Nat × List Int) : divF d (o ++ [q]) = divF d o * gt q.2 q.1 / ((Nat.gcd (divF d o).natAbs (gt q.2 q.1).natAbs : Nat) : Int) := by
  unfold divF; rw [List.foldl_append]; rfl
theorem setF_snoc (D : Int) (N : Nat) (f : List Int) (o : List (Nat × List Int)) (q : Nat × List Int) : setF D N f (o ++ [q]) = (setF D N f o).set q.1 (gt q.2 N * D / gt q.2 q.1) := by
  unfold setF; rw [List.foldl_append]; rfl
theorem divF_lt {t : Tab} {m h : Nat} (w : Wf t m h) (pos : ∀ q ∈ t.own, 0 < gt q.2 q.1) : ∀ k, k ≤ t.own.length → 0 < divF 1 (t.own.take k) ∧ (divF 1 (t.own.take k)).natAbs < 2 ^ (1000 * k + 1)
  | 0, _ => ⟨by show (0 : Int) < 1; decide, by show (1 : Int).natAbs < 2 ^ (1000 * 0 + 1); decide⟩
  | k + 1, hk => by
    obtain ⟨h1, h2⟩ := divF_lt w pos k (by omega)
    have e : t.own.take (k + 1) = t.own.take k ++ [t.own[k]] := by rw [List.take_add_one, List.getElem?_eq_getElem (by omega)]; rfl
    have hm : t.own[k] ∈ t.own := List.getElem_mem _
    have hp := pos _ hm
    have hs := (own_wf w hm).2.2 (t.own[k]).1
    rw [e, divF_snoc]
    refine ⟨(div_step h1 hp).1, ?_⟩
    refine ediv_lt_pow ?_ (Int.le_of_lt (Int.mul_pos h1 hp)) (Int.natCast_nonneg _)
    rw [show 1000 * (k + 1) + 1 = (1000 * k + 1) + 1000 by omega]
    exact mul_lt_pow h2 hs
theorem divF_big {t : Tab} {m h : Nat} (w : Wf t m h) (pos : ∀ q ∈ t.own, 0 < gt q.2 q.1) {k : Nat} (hk : k ≤ t.own.length) : Big (divF 1 (t.own.take k)) := by
  refine pow_big (divF_lt w pos k hk).2 ?_
  have := own_len w
  have := w.ms
  unfold mega; omega
theorem take_step {α : Type} {l : List α} {k : Nat} {x : α} (h : l[k]? = some x) : l.take (k + 1) = l.take k ++ [x] := by rw [List.take_add_one, h]; rfl
theorem r_times {T : Tb} (hg : T.gcd = true) (hF : T.fld = fldP) {ds : List D} {S : Store} {Q : DQ} (h : spTimes ds S Q) : denSs T core_Pivots_times (DD Q) (start0 N_Pivots_times.length ds) S := by
  obtain ⟨a, r, b, t, m, h, rfl, A, w, pos, q⟩ := h
  have hsz : (1000 : Nat) ≤ sizeLine := by decide
  have hh := w.hs
  have hmm := w.ms
  have aR := asLc
  simp only [core_Pivots_times, N_Pivots_times, DD, denSs, denS, den, dens, denO, denT, denI, DV.of, DV.ofB, sSeq, sRet, sRetN, sNext, sIf, sSet, sSetG, sPar, sPar3, sSetIx, sDrop, sFor, sForKeys, sBreak, sCont, dAnd, dOr, dNot, dAndT, dOrT, dNotT, dUn, dOp, dIte, dVar, dC, dTup, dLst, dNil, dCons, dCall, dCut, dPart, dNoPart, dGet1, dGet2, dApp,
  dSeq1, dRange1, dRange2, dEnum, dZip, dLc, dDc, dChain, fIsi, fBlt, fLen, fAbs, fInt1, fMax, fMin, fL1, fTuple, fList, fSorted, fDict, fBin, fCmp, fNeg, fAdd, fSub, fMul, fMod, fDiv, fPow, fInt, fInt0, fLt, fLe, fGt, fGe, fIs, fIsNot, fInD, fIx, fCut, fSeq, fRange1, fRange2, fEnum, fZip, fSetIx, fGet, fApp, fLenSet, fAug, sAug, tOf, tOfB, guardN, gset, gsets, sFrz, frz_dct, frz_lst, fEq_int, fNe_int, fEq_bl, fNe_bl, fEq_nil, fNe_nil, fEq_ints,
  TyC.name, DL.isNon, start0, List.length_cons, List.length_nil, List.map_cons, List.map_nil, List.cons_append, List.nil_append, List.getElem?_cons_zero, List.getElem?_cons_succ, List.getElem?_nil, List.set_cons_zero, List.set_cons_succ, List.set_nil, List.replicate, Nat.reduceSub, Nat.reduceAdd, mkL, mkD, dwipe, Bool.false_eq_true, if_true, if_false, ite_true, ite_false, true_and, and_true, Option.isSome_some, Option.isSome_none, Option.map_some, Option.map_none, Option.getD_some, Option.getD_none,
  tyD_non, tyD_bl, tyD_int, tyD_str, tyD_tup, tyD_lst, tyD_dct, truD_non, truD_bl, truD_int, truD_tup, truD_lst, truD_dct, asL_non, asD_non, keyD_non, asL_bl, asD_bl, keyD_bl, asL_int, asD_int, keyD_int, asL_str, asD_str, keyD_str, asL_tup, asD_tup, keyD_tup, asL_lst, asD_lst, keyD_lst, asL_dct, asD_dct, keyD_dct, asL_scr, asD_scr, keyD_scr, asL_sup, asD_sup, asL_supD, isLs_sup, tyD_supL, tyD_supD, sup_same, sup_sup, ixN_1_0, ixN_2_0, ixN_2_1, ixN_3_0, ixN_3_1, ixN_3_2, ixN_4_0, ixN_4_1, ixN_4_2, ixN_4_3, ixN_5_0, ixN_5_1, ixN_5_2, ixN_5_3, ixN_5_4, ixN_6_0, ixN_6_1, ixN_6_2, ixN_6_3, ixN_6_4, ixN_6_5, ixN_7_0, ixN_7_1, ixN_7_2, ixN_7_3, ixN_7_4, ixN_7_5, ixN_7_6, ixN_8_0, ixN_8_1, ixN_8_2, ixN_8_3, ixN_8_4, ixN_8_5, ixN_8_6, ixN_8_7, atI_0, atI_1, atI_2, atI_3, atI_4, atI_5, atI_6, atI_7, atI_8, isi_NoneType_bool, isi_NoneType_int, isi_NoneType_str, isi_NoneType_tuple, isi_NoneType_list, isi_NoneType_dict, isi_bool_bool, isi_bool_int, isi_bool_str, isi_bool_tuple, isi_bool_list, isi_bool_dict, isi_int_bool, isi_int_int, isi_int_str, isi_int_tuple, isi_int_list, isi_int_dict, isi_str_bool, isi_str_int, isi_str_str, isi_str_tuple, isi_str_list, isi_str_dict, isi_tuple_bool, isi_tuple_int, isi_tuple_str, isi_tuple_tuple, isi_tuple_list, isi_tuple_dict, isi_list_bool, isi_list_int, isi_list_str, isi_list_tuple, isi_list_list, isi_list_dict, isi_dict_bool, isi_dict_int, isi_dict_str, isi_dict_tuple, isi_dict_list, isi_dict_dict, A.many hF]
  refine ⟨by omega, by rw [w.many]; omega, by rw [w.many]; omega, by rw [w.many]; omega, fun p hp => ?_⟩
  have pa : a ≠ p := fun e => by have := A.o; rw [e, hp] at this; cases this
  have pr : r ≠ p := fun e => by have := A.rw_; rw [e, hp] at this; cases this
  have pb : b ≠ p := fun e => by have := A.bs; rw [e, hp] at this; cases this
  have ez : (List.replicate ((t.many : Int)).toNat [D.int 0]).flatten = (List.replicate t.many 0).map D.int := by
    rw [Int.toNat_natCast, List.map_replicate]
    induction t.many with
    | zero => rfl
    | succ n ih => rw [List.replicate_succ, List.flatten_cons, ih]; rfl
  rw [ez]
  have A1 : ∀ o, At (sup S p o) a r b t := fun o => A.congr (sup_ne pa) (sup_ne pr) (sup_ne pb)
  simp only [(A1 _).base hF, (A1 _).rows hF, asLc, (A1 _).bs, (A1 _).rw_, zipD_own]
  refine lcL_gen (toD := ownD) (p := fun q => decide ((q.1 : Int) < t.many)) (f := ownD) ⟨(A1 _).bs, (A1 _).rw_⟩ _ [] (fun x hx => ⟨_, rfl, fun Q' q' => ?_, fun _ Q' q' => ?_⟩) ?_
  · simp only [denSs, denS, den, dens, denO, denT, denI, DV.of, DV.ofB, sSeq, sRet, sRetN, sNext, sIf, sSet, sSetG, sPar, sPar3, sSetIx, sDrop, sFor, sForKeys, sBreak, sCont, dAnd, dOr, dNot, dAndT, dOrT, dNotT, dUn, dOp, dIte, dVar, dC, dTup, dLst, dNil, dCons, dCall, dCut, dPart, dNoPart, dGet1, dGet2, dApp,
  dSeq1, dRange1, dRange2, dEnum, dZip, dLc, dDc, dChain, fIsi, fBlt, fLen, fAbs, fInt1, fMax, fMin, fL1, fTuple, fList, fSorted, fDict, fBin, fCmp, fNeg, fAdd, fSub, fMul, fMod, fDiv, fPow, fInt, fInt0, fLt, fLe, fGt, fGe, fIs, fIsNot, fInD, fIx, fCut, fSeq, fRange1, fRange2, fEnum, fZip, fSetIx, fGet, fApp, fLenSet, fAug, sAug, tOf, tOfB, guardN, gset, gsets, sFrz, frz_dct, frz_lst, fEq_int, fNe_int, fEq_bl, fNe_bl, fEq_nil, fNe_nil, fEq_ints,
  TyC.name, DL.isNon, start0, List.length_cons, List.length_nil, List.map_cons, List.map_nil, List.cons_append, List.nil_append, List.getElem?_cons_zero, List.getElem?_cons_succ, List.getElem?_nil, List.set_cons_zero, List.set_cons_succ, List.set_nil, List.replicate, Nat.reduceSub, Nat.reduceAdd, mkL, mkD, dwipe, Bool.false_eq_true, if_true, if_false, ite_true, ite_false, true_and, and_true, Option.isSome_some, Option.isSome_none, Option.map_some, Option.map_none, Option.getD_some, Option.getD_none,
  tyD_non, tyD_bl, tyD_int, tyD_str, tyD_tup, tyD_lst, tyD_dct, truD_non, truD_bl, truD_int, truD_tup, truD_lst, truD_dct, asL_non, asD_non, keyD_non, asL_bl, asD_bl, keyD_bl, asL_int, asD_int, keyD_int, asL_str, asD_str, keyD_str, asL_tup, asD_tup, keyD_tup, asL_lst, asD_lst, keyD_lst, asL_dct, asD_dct, keyD_dct, asL_scr, asD_scr, keyD_scr, asL_sup, asD_sup, asL_supD, isLs_sup, tyD_supL, tyD_supD, sup_same, sup_sup, ixN_1_0, ixN_2_0, ixN_2_1, ixN_3_0, ixN_3_1, ixN_3_2, ixN_4_0, ixN_4_1, ixN_4_2, ixN_4_3, ixN_5_0, ixN_5_1, ixN_5_2, ixN_5_3, ixN_5_4, ixN_6_0, ixN_6_1, ixN_6_2, ixN_6_3, ixN_6_4, ixN_6_5, ixN_7_0, ixN_7_1, ixN_7_2, ixN_7_3, ixN_7_4, ixN_7_5, ixN_7_6, ixN_8_0, ixN_8_1, ixN_8_2, ixN_8_3, ixN_8_4, ixN_8_5, ixN_8_6, ixN_8_7, atI_0, atI_1, atI_2, atI_3, atI_4, atI_5, atI_6, atI_7, atI_8, isi_NoneType_bool, isi_NoneType_int, isi_NoneType_str, isi_NoneType_tuple, isi_NoneType_list, isi_NoneType_dict, isi_bool_bool, isi_bool_int, isi_bool_str, isi_bool_tuple, isi_bool_list, isi_bool_dict, isi_int_bool, isi_int_int, isi_int_str, isi_int_tuple, isi_int_list, isi_int_dict, isi_str_bool, isi_str_int, isi_str_str, isi_str_tuple, isi_str_list, isi_str_dict, isi_tuple_bool, isi_tuple_int, isi_tuple_str, isi_tuple_tuple, isi_tuple_list, isi_tuple_dict, isi_list_bool, isi_list_int, isi_list_str, isi_list_tuple, isi_list_list, isi_list_dict, isi_dict_bool, isi_dict_int, isi_dict_str, isi_dict_tuple, isi_dict_list, isi_dict_dict, natD, (A1 _).many hF]
    exact q'
  · simp only [denSs, denS, den, dens, denO, denT, denI, DV.of, DV.ofB, sSeq, sRet, sRetN, sNext, sIf, sSet, sSetG, sPar, sPar3, sSetIx, sDrop, sFor, sForKeys, sBreak, sCont, dAnd, dOr, dNot, dAndT, dOrT, dNotT, dUn, dOp, dIte, dVar, dC, dTup, dLst, dNil, dCons, dCall, dCut, dPart, dNoPart, dGet1, dGet2, dApp,
  dSeq1, dRange1, dRange2, dEnum, dZip, dLc, dDc, dChain, fIsi, fBlt, fLen, fAbs, fInt1, fMax, fMin, fL1, fTuple, fList, fSorted, fDict, fBin, fCmp, fNeg, fAdd, fSub, fMul, fMod, fDiv, fPow, fInt, fInt0, fLt, fLe, fGt, fGe, fIs, fIsNot, fInD, fIx, fCut, fSeq, fRange1, fRange2, fEnum, fZip, fSetIx, fGet, fApp, fLenSet, fAug, sAug, tOf, tOfB, guardN, gset, gsets, sFrz, frz_dct, frz_lst, fEq_int, fNe_int, fEq_bl, fNe_bl, fEq_nil, fNe_nil, fEq_ints,
  TyC.name, DL.isNon, start0, List.length_cons, List.length_nil, List.map_cons, List.map_nil, List.cons_append, List.nil_append, List.getElem?_cons_zero, List.getElem?_cons_succ, List.getElem?_nil, List.set_cons_zero, List.set_cons_succ, List.set_nil, List.replicate, Nat.reduceSub, Nat.reduceAdd, mkL, mkD, dwipe, Bool.false_eq_true, if_true, if_false, ite_true, ite_false, true_and, and_true, Option.isSome_some, Option.isSome_none, Option.map_some, Option.map_none, Option.getD_some, Option.getD_none,
  tyD_non, tyD_bl, tyD_int, tyD_str, tyD_tup, tyD_lst, tyD_dct, truD_non, truD_bl, truD_int, truD_tup, truD_lst, truD_dct, asL_non, asD_non, keyD_non, asL_bl, asD_bl, keyD_bl, asL_int, asD_int, keyD_int, asL_str, asD_str, keyD_str, asL_tup, asD_tup, keyD_tup, asL_lst, asD_lst, keyD_lst, asL_dct, asD_dct, keyD_dct, asL_scr, asD_scr, keyD_scr, asL_sup, asD_sup, asL_supD, isLs_sup, tyD_supL, tyD_supD, sup_same, sup_sup, ixN_1_0, ixN_2_0, ixN_2_1, ixN_3_0, ixN_3_1, ixN_3_2, ixN_4_0, ixN_4_1, ixN_4_2, ixN_4_3, ixN_5_0, ixN_5_1, ixN_5_2, ixN_5_3, ixN_5_4, ixN_6_0, ixN_6_1, ixN_6_2, ixN_6_3, ixN_6_4, ixN_6_5, ixN_7_0, ixN_7_1, ixN_7_2, ixN_7_3, ixN_7_4, ixN_7_5, ixN_7_6, ixN_8_0, ixN_8_1, ixN_8_2, ixN_8_3, ixN_8_4, ixN_8_5, ixN_8_6, ixN_8_7, atI_0, atI_1, atI_2, atI_3, atI_4, atI_5, atI_6, atI_7, atI_8, isi_NoneType_bool, isi_NoneType_int, isi_NoneType_str, isi_NoneType_tuple, isi_NoneType_list, isi_NoneType_dict, isi_bool_bool, isi_bool_int, isi_bool_str, isi_bool_tuple, isi_bool_list, isi_bool_dict, isi_int_bool, isi_int_int, isi_int_str, isi_int_tuple, isi_int_list, isi_int_dict, isi_str_bool, isi_str_int, isi_str_str, isi_str_tuple, isi_str_list, isi_str_dict, isi_tuple_bool, isi_tuple_int, isi_tuple_str, isi_tuple_tuple, isi_tuple_list, isi_tuple_dict, isi_list_bool, isi_list_int, isi_list_str, isi_list_tuple, isi_list_list, isi_list_dict, isi_dict_bool, isi_dict_int, isi_dict_str, isi_dict_tuple, isi_dict_list, isi_dict_dict]
    exact ⟨by omega, q'⟩
  have eo : (t.base.zip t.rows).filter (fun q => decide ((q.1 : Int) < t.many)) = t.own := by
    unfold Tab.own
    refine List.filter_congr fun q _ => ?_
    rw [decide_eq_decide]; omega
  rw [eo, List.nil_append]
  have ol := own_len w
  have dv := fun k hk => divF_lt w pos k hk
  have db := fun {k} hk => divF_big (k := k) w pos hk
  have ow := fun {q} hq => own_wf (q := q) w hq
  have eT : t.times = (divF 1 t.own, setF (divF 1 t.own) (h + m) (List.replicate h 0) t.own) := by unfold Tab.times; rw [w.many, w.rl]
  rw [eT] at q
  rw [w.many]
  generalize t.own = own at pos ol dv db ow q
  refine forL_at (fun k sd S' => S' = sup S p (.lst ((List.replicate h 0).map D.int)) ∧ ∃ o4 o5, sd = [some (.ref a), some (.ref p), some (.int (divF 1 (own.take k))), some (.lst (own.map ownD)), o4, o5]) ?_ ?_ _ _ ⟨rfl, none, none, rfl⟩
  · rintro k x sd S' hx ⟨rfl, o4, o5, rfl⟩
    rw [List.getElem?_map] at hx
    cases e : own[k]? with
    | none => rw [e] at hx; cases hx
    | some y =>
      rw [e] at hx
      cases hx
      obtain ⟨hk, ey⟩ := List.getElem?_eq_some_iff.mp e
      have hy : y ∈ own := by rw [← ey]; exact List.getElem_mem _
      obtain ⟨y1, y2, y3⟩ := ow hy
      have iy := atI_gt (l := y.2) (c := y.1) (by omega)
      refine ⟨trivial, _, rfl, fun K hK => ?_⟩
      simp only [denSs, denS, den, dens, denO, denT, denI, DV.of, DV.ofB, sSeq, sRet, sRetN, sNext, sIf, sSet, sSetG, sPar, sPar3, sSetIx, sDrop, sFor, sForKeys, sBreak, sCont, dAnd, dOr, dNot, dAndT, dOrT, dNotT, dUn, dOp, dIte, dVar, dC, dTup, dLst, dNil, dCons, dCall, dCut, dPart, dNoPart, dGet1, dGet2, dApp,
  dSeq1, dRange1, dRange2, dEnum, dZip, dLc, dDc, dChain, fIsi, fBlt, fLen, fAbs, fInt1, fMax, fMin, fL1, fTuple, fList, fSorted, fDict, fBin, fCmp, fNeg, fAdd, fSub, fMul, fMod, fDiv, fPow, fInt, fInt0, fLt, fLe, fGt, fGe, fIs, fIsNot, fInD, fIx, fCut, fSeq, fRange1, fRange2, fEnum, fZip, fSetIx, fGet, fApp, fLenSet, fAug, sAug, tOf, tOfB, guardN, gset, gsets, sFrz, frz_dct, frz_lst, fEq_int, fNe_int, fEq_bl, fNe_bl, fEq_nil, fNe_nil, fEq_ints,
  TyC.name, DL.isNon, start0, List.length_cons, List.length_nil, List.map_cons, List.map_nil, List.cons_append, List.nil_append, List.getElem?_cons_zero, List.getElem?_cons_succ, List.getElem?_nil, List.set_cons_zero, List.set_cons_succ, List.set_nil, List.replicate, Nat.reduceSub, Nat.reduceAdd, mkL, mkD, dwipe, Bool.false_eq_true, if_true, if_false, ite_true, ite_false, true_and, and_true, Option.isSome_some, Option.isSome_none, Option.map_some, Option.map_none, Option.getD_some, Option.getD_none,
  tyD_non, tyD_bl, tyD_int, tyD_str, tyD_tup, tyD_lst, tyD_dct, truD_non, truD_bl, truD_int, truD_tup, truD_lst, truD_dct, asL_non, asD_non, keyD_non, asL_bl, asD_bl, keyD_bl, asL_int, asD_int, keyD_int, asL_str, asD_str, keyD_str, asL_tup, asD_tup, keyD_tup, asL_lst, asD_lst, keyD_lst, asL_dct, asD_dct, keyD_dct, asL_scr, asD_scr, keyD_scr, asL_sup, asD_sup, asL_supD, isLs_sup, tyD_supL, tyD_supD, sup_same, sup_sup, ixN_1_0, ixN_2_0, ixN_2_1, ixN_3_0, ixN_3_1, ixN_3_2, ixN_4_0, ixN_4_1, ixN_4_2, ixN_4_3, ixN_5_0, ixN_5_1, ixN_5_2, ixN_5_3, ixN_5_4, ixN_6_0, ixN_6_1, ixN_6_2, ixN_6_3, ixN_6_4, ixN_6_5, ixN_7_0, ixN_7_1, ixN_7_2, ixN_7_3, ixN_7_4, ixN_7_5, ixN_7_6, ixN_8_0, ixN_8_1, ixN_8_2, ixN_8_3, ixN_8_4, ixN_8_5, ixN_8_6, ixN_8_7, atI_0, atI_1, atI_2, atI_3, atI_4, atI_5, atI_6, atI_7, atI_8, isi_NoneType_bool, isi_NoneType_int, isi_NoneType_str, isi_NoneType_tuple, isi_NoneType_list, isi_NoneType_dict, isi_bool_bool, isi_bool_int, isi_bool_str, isi_bool_tuple, isi_bool_list, isi_bool_dict, isi_int_bool, isi_int_int, isi_int_str, isi_int_tuple, isi_int_list, isi_int_dict, isi_str_bool, isi_str_int, isi_str_str, isi_str_tuple, isi_str_list, isi_str_dict, isi_tuple_bool, isi_tuple_int, isi_tuple_str, isi_tuple_tuple, isi_tuple_list, isi_tuple_dict, isi_list_bool, isi_list_int, isi_list_str, isi_list_tuple, isi_list_list, isi_list_dict, isi_dict_bool, isi_dict_int, isi_dict_str, isi_dict_tuple, isi_dict_list, isi_dict_dict, hg, fGcd, natD, rowD, iy]
      have d0 := (dv k (by omega)).1
      have g0 : 0 < Nat.gcd (divF 1 (own.take k)).natAbs (gt y.2 y.1).natAbs := Nat.gcd_pos_of_pos_left _ (by omega)
      have gy := pos y hy
      have gl : Nat.gcd (divF 1 (own.take k)).natAbs (gt y.2 y.1).natAbs ≤ (gt y.2 y.1).natAbs := Nat.gcd_le_right _ (by omega)
      refine ⟨cmulB (db (by omega)) (y3 _), cdivW (by omega) ?_, hK _ _ ⟨rfl, _, _, by rw [take_step e, divF_snoc]⟩⟩
      have := y3 y.1
      unfold Sml at this ⊢
      omega
  · rintro sd S' ⟨rfl, o4, o5, rfl⟩
    rw [List.length_map, List.take_length]
    refine ⟨trivial, ?_⟩
    simp only [denSs, denS, den, dens, denO, denT, denI, DV.of, DV.ofB, sSeq, sRet, sRetN, sNext, sIf, sSet, sSetG, sPar, sPar3, sSetIx, sDrop, sFor, sForKeys, sBreak, sCont, dAnd, dOr, dNot, dAndT, dOrT, dNotT, dUn, dOp, dIte, dVar, dC, dTup, dLst, dNil, dCons, dCall, dCut, dPart, dNoPart, dGet1, dGet2, dApp,
  dSeq1, dRange1, dRange2, dEnum, dZip, dLc, dDc, dChain, fIsi, fBlt, fLen, fAbs, fInt1, fMax, fMin, fL1, fTuple, fList, fSorted, fDict, fBin, fCmp, fNeg, fAdd, fSub, fMul, fMod, fDiv, fPow, fInt, fInt0, fLt, fLe, fGt, fGe, fIs, fIsNot, fInD, fIx, fCut, fSeq, fRange1, fRange2, fEnum, fZip, fSetIx, fGet, fApp, fLenSet, fAug, sAug, tOf, tOfB, guardN, gset, gsets, sFrz, frz_dct, frz_lst, fEq_int, fNe_int, fEq_bl, fNe_bl, fEq_nil, fNe_nil, fEq_ints,
  TyC.name, DL.isNon, start0, List.length_cons, List.length_nil, List.map_cons, List.map_nil, List.cons_append, List.nil_append, List.getElem?_cons_zero, List.getElem?_cons_succ, List.getElem?_nil, List.set_cons_zero, List.set_cons_succ, List.set_nil, List.replicate, Nat.reduceSub, Nat.reduceAdd, mkL, mkD, dwipe, Bool.false_eq_true, if_true, if_false, ite_true, ite_false, true_and, and_true, Option.isSome_some, Option.isSome_none, Option.map_some, Option.map_none, Option.getD_some, Option.getD_none,
  tyD_non, tyD_bl, tyD_int, tyD_str, tyD_tup, tyD_lst, tyD_dct, truD_non, truD_bl, truD_int, truD_tup, truD_lst, truD_dct, asL_non, asD_non, keyD_non, asL_bl, asD_bl, keyD_bl, asL_int, asD_int, keyD_int, asL_str, asD_str, keyD_str, asL_tup, asD_tup, keyD_tup, asL_lst, asD_lst, keyD_lst, asL_dct, asD_dct, keyD_dct, asL_scr, asD_scr, keyD_scr, asL_sup, asD_sup, asL_supD, isLs_sup, tyD_supL, tyD_supD, sup_same, sup_sup, ixN_1_0, ixN_2_0, ixN_2_1, ixN_3_0, ixN_3_1, ixN_3_2, ixN_4_0, ixN_4_1, ixN_4_2, ixN_4_3, ixN_5_0, ixN_5_1, ixN_5_2, ixN_5_3, ixN_5_4, ixN_6_0, ixN_6_1, ixN_6_2, ixN_6_3, ixN_6_4, ixN_6_5, ixN_7_0, ixN_7_1, ixN_7_2, ixN_7_3, ixN_7_4, ixN_7_5, ixN_7_6, ixN_8_0, ixN_8_1, ixN_8_2, ixN_8_3, ixN_8_4, ixN_8_5, ixN_8_6, ixN_8_7, atI_0, atI_1, atI_2, atI_3, atI_4, atI_5, atI_6, atI_7, atI_8, isi_NoneType_bool, isi_NoneType_int, isi_NoneType_str, isi_NoneType_tuple, isi_NoneType_list, isi_NoneType_dict, isi_bool_bool, isi_bool_int, isi_bool_str, isi_bool_tuple, isi_bool_list, isi_bool_dict, isi_int_bool, isi_int_int, isi_int_str, isi_int_tuple, isi_int_list, isi_int_dict, isi_str_bool, isi_str_int, isi_str_str, isi_str_tuple, isi_str_list, isi_str_dict, isi_tuple_bool, isi_tuple_int, isi_tuple_str, isi_tuple_tuple, isi_tuple_list, isi_tuple_dict, isi_list_bool, isi_list_int, isi_list_str, isi_list_tuple, isi_list_list, isi_list_dict, isi_dict_bool, isi_dict_int, isi_dict_str, isi_dict_tuple, isi_dict_list, isi_dict_dict]
    refine forL_at (fun k sd S' => S' = sup S p (.lst ((setF (divF 1 own) (h + m) (List.replicate h 0) (own.take k)).map D.int)) ∧ ∃ o4 o5, sd = [some (.ref a), some (.ref p), some (.int (divF 1 own)), some (.lst (own.map ownD)), o4, o5]) ?_ ?_ _ _ ⟨rfl, _, _, rfl⟩
    · rintro k x sd S' hx ⟨rfl, o4, o5, rfl⟩
      rw [List.getElem?_map] at hx
      cases e : own[k]? with
      | none => rw [e] at hx; cases hx
      | some y =>
        rw [e] at hx
        cases hx
        obtain ⟨hk, ey⟩ := List.getElem?_eq_some_iff.mp e
        have hy : y ∈ own := by rw [← ey]; exact List.getElem_mem _
        obtain ⟨y1, y2, y3⟩ := ow hy
        have iy := atI_gt (l := y.2) (c := y.1) (by omega)
        have ie := atI_end y2
        have D1 : Big (divF 1 own) := by
          have := db (k := own.length) (Nat.le_refl _)
          rw [List.take_length] at this; exact this
        refine ⟨trivial, _, rfl, fun K hK => ?_⟩
        have ix : ixN ((setF (divF 1 own) (h + m) (List.replicate h 0) (own.take k)).map D.int).length (y.1 : Int) = some y.1 := by
          unfold ixN
          rw [if_pos (by omega), List.length_map, setF_len, List.length_replicate, if_pos (by omega)]; simp
        simp only [denSs, denS, den, dens, denO, denT, denI, DV.of, DV.ofB, sSeq, sRet, sRetN, sNext, sIf, sSet, sSetG, sPar, sPar3, sSetIx, sDrop, sFor, sForKeys, sBreak, sCont, dAnd, dOr, dNot, dAndT, dOrT, dNotT, dUn, dOp, dIte, dVar, dC, dTup, dLst, dNil, dCons, dCall, dCut, dPart, dNoPart, dGet1, dGet2, dApp,
  dSeq1, dRange1, dRange2, dEnum, dZip, dLc, dDc, dChain, fIsi, fBlt, fLen, fAbs, fInt1, fMax, fMin, fL1, fTuple, fList, fSorted, fDict, fBin, fCmp, fNeg, fAdd, fSub, fMul, fMod, fDiv, fPow, fInt, fInt0, fLt, fLe, fGt, fGe, fIs, fIsNot, fInD, fIx, fCut, fSeq, fRange1, fRange2, fEnum, fZip, fSetIx, fGet, fApp, fLenSet, fAug, sAug, tOf, tOfB, guardN, gset, gsets, sFrz, frz_dct, frz_lst, fEq_int, fNe_int, fEq_bl, fNe_bl, fEq_nil, fNe_nil, fEq_ints,
  TyC.name, DL.isNon, start0, List.length_cons, List.length_nil, List.map_cons, List.map_nil, List.cons_append, List.nil_append, List.getElem?_cons_zero, List.getElem?_cons_succ, List.getElem?_nil, List.set_cons_zero, List.set_cons_succ, List.set_nil, List.replicate, Nat.reduceSub, Nat.reduceAdd, mkL, mkD, dwipe, Bool.false_eq_true, if_true, if_false, ite_true, ite_false, true_and, and_true, Option.isSome_some, Option.isSome_none, Option.map_some, Option.map_none, Option.getD_some, Option.getD_none,
  tyD_non, tyD_bl, tyD_int, tyD_str, tyD_tup, tyD_lst, tyD_dct, truD_non, truD_bl, truD_int, truD_tup, truD_lst, truD_dct, asL_non, asD_non, keyD_non, asL_bl, asD_bl, keyD_bl, asL_int, asD_int, keyD_int, asL_str, asD_str, keyD_str, asL_tup, asD_tup, keyD_tup, asL_lst, asD_lst, keyD_lst, asL_dct, asD_dct, keyD_dct, asL_scr, asD_scr, keyD_scr, asL_sup, asD_sup, asL_supD, isLs_sup, tyD_supL, tyD_supD, sup_same, sup_sup, ixN_1_0, ixN_2_0, ixN_2_1, ixN_3_0, ixN_3_1, ixN_3_2, ixN_4_0, ixN_4_1, ixN_4_2, ixN_4_3, ixN_5_0, ixN_5_1, ixN_5_2, ixN_5_3, ixN_5_4, ixN_6_0, ixN_6_1, ixN_6_2, ixN_6_3, ixN_6_4, ixN_6_5, ixN_7_0, ixN_7_1, ixN_7_2, ixN_7_3, ixN_7_4, ixN_7_5, ixN_7_6, ixN_8_0, ixN_8_1, ixN_8_2, ixN_8_3, ixN_8_4, ixN_8_5, ixN_8_6, ixN_8_7, atI_0, atI_1, atI_2, atI_3, atI_4, atI_5, atI_6, atI_7, atI_8, isi_NoneType_bool, isi_NoneType_int, isi_NoneType_str, isi_NoneType_tuple, isi_NoneType_list, isi_NoneType_dict, isi_bool_bool, isi_bool_int, isi_bool_str, isi_bool_tuple, isi_bool_list, isi_bool_dict, isi_int_bool, isi_int_int, isi_int_str, isi_int_tuple, isi_int_list, isi_int_dict, isi_str_bool, isi_str_int, isi_str_str, isi_str_tuple, isi_str_list, isi_str_dict, isi_tuple_bool, isi_tuple_int, isi_tuple_str, isi_tuple_tuple, isi_tuple_list, isi_tuple_dict, isi_list_bool, isi_list_int, isi_list_str, isi_list_tuple, isi_list_list, isi_list_dict, isi_dict_bool, isi_dict_int, isi_dict_str, isi_dict_tuple, isi_dict_list, isi_dict_dict, natD, rowD, iy, ie, sup_same, ix, sup_sup]
        refine ⟨cmulB' (y3 _) D1, cdivW (pos y hy) (y3 _), hK _ _ ⟨?_, _, _, rfl⟩⟩
        rw [take_step e, setF_snoc, List.map_set]
    · rintro sd S' ⟨rfl, o4, o5, rfl⟩
      rw [List.length_map, List.take_length]
      refine ⟨trivial, ?_⟩
      simp only [denSs, denS, den, dens, denO, denT, denI, DV.of, DV.ofB, sSeq, sRet, sRetN, sNext, sIf, sSet, sSetG, sPar, sPar3, sSetIx, sDrop, sFor, sForKeys, sBreak, sCont, dAnd, dOr, dNot, dAndT, dOrT, dNotT, dUn, dOp, dIte, dVar, dC, dTup, dLst, dNil, dCons, dCall, dCut, dPart, dNoPart, dGet1, dGet2, dApp,
  dSeq1, dRange1, dRange2, dEnum, dZip, dLc, dDc, dChain, fIsi, fBlt, fLen, fAbs, fInt1, fMax, fMin, fL1, fTuple, fList, fSorted, fDict, fBin, fCmp, fNeg, fAdd, fSub, fMul, fMod, fDiv, fPow, fInt, fInt0, fLt, fLe, fGt, fGe, fIs, fIsNot, fInD, fIx, fCut, fSeq, fRange1, fRange2, fEnum, fZip, fSetIx, fGet, fApp, fLenSet, fAug, sAug, tOf, tOfB, guardN, gset, gsets, sFrz, frz_dct, frz_lst, fEq_int, fNe_int, fEq_bl, fNe_bl, fEq_nil, fNe_nil, fEq_ints,
  TyC.name, DL.isNon, start0, List.length_cons, List.length_nil, List.map_cons, List.map_nil, List.cons_append, List.nil_append, List.getElem?_cons_zero, List.getElem?_cons_succ, List.getElem?_nil, List.set_cons_zero, List.set_cons_succ, List.set_nil, List.replicate, Nat.reduceSub, Nat.reduceAdd, mkL, mkD, dwipe, Bool.false_eq_true, if_true, if_false, ite_true, ite_false, true_and, and_true, Option.isSome_some, Option.isSome_none, Option.map_some, Option.map_none, Option.getD_some, Option.getD_none,
  tyD_non, tyD_bl, tyD_int, tyD_str, tyD_tup, tyD_lst, tyD_dct, truD_non, truD_bl, truD_int, truD_tup, truD_lst, truD_dct, asL_non, asD_non, keyD_non, asL_bl, asD_bl, keyD_bl, asL_int, asD_int, keyD_int, asL_str, asD_str, keyD_str, asL_tup, asD_tup, keyD_tup, asL_lst, asD_lst, keyD_lst, asL_dct, asD_dct, keyD_dct, asL_scr, asD_scr, keyD_scr, asL_sup, asD_sup, asL_supD, isLs_sup, tyD_supL, tyD_supD, sup_same, sup_sup, ixN_1_0, ixN_2_0, ixN_2_1, ixN_3_0, ixN_3_1, ixN_3_2, ixN_4_0, ixN_4_1, ixN_4_2, ixN_4_3, ixN_5_0, ixN_5_1, ixN_5_2, ixN_5_3, ixN_5_4, ixN_6_0, ixN_6_1, ixN_6_2, ixN_6_3, ixN_6_4, ixN_6_5, ixN_7_0, ixN_7_1, ixN_7_2, ixN_7_3, ixN_7_4, ixN_7_5, ixN_7_6, ixN_8_0, ixN_8_1, ixN_8_2, ixN_8_3, ixN_8_4, ixN_8_5, ixN_8_6, ixN_8_7, atI_0, atI_1, atI_2, atI_3, atI_4, atI_5, atI_6, atI_7, atI_8, isi_NoneType_bool, isi_NoneType_int, isi_NoneType_str, isi_NoneType_tuple, isi_NoneType_list, isi_NoneType_dict, isi_bool_bool, isi_bool_int, isi_bool_str, isi_bool_tuple, isi_bool_list, isi_bool_dict, isi_int_bool, isi_int_int, isi_int_str, isi_int_tuple, isi_int_list, isi_int_dict, isi_str_bool, isi_str_int, isi_str_str, isi_str_tuple, isi_str_list, isi_str_dict, isi_tuple_bool, isi_tuple_int, isi_tuple_str, isi_tuple_tuple, isi_tuple_list, isi_tuple_dict, isi_list_bool, isi_list_int, isi_list_str, isi_list_tuple, isi_list_list, isi_list_dict, isi_dict_bool, isi_dict_int, isi_dict_str, isi_dict_tuple, isi_dict_list, isi_dict_dict, sdel_sup hp]
      refine ⟨by omega, .of q⟩
end K09
set_option Elab.async false
set_option linter.all false
set_option maxRecDepth 100000
set_option maxHeartbeats 1000000
namespace DL
open PySem L2
section
variable {T : Tb} {sd : Slots} {S : Store} {r : CSs} {Dd : DEnds}
theorem vs_setfldE {o e : CE} {f : Str} (h : (den T e).v sd S fun y S1 => (den T o).v sd S1 fun x S2 => fSetFld T.fld f y x S2 fun S3 => denSs T r Dd sd S3) : denSs T (.cons (.setfld o f e) r) Dd sd S := h
theorem setFld_run {f c : Str} {y : D} {a : Addr} {fs : List (Str × D)} {K : Store → Prop} (hi : S a = some (.ins c fs)) (hc : (T.fld c).contains f = true) (hl : fs.length < 1000) (k : K (sup S a (.ins c (putD f y fs)))) : fSetFld T.fld f y (.ref a) S K := by
  unfold fSetFld
  dsimp only
  rw [hi]
  exact ⟨hc, hl, k⟩
theorem run_lstN {K : DQ} (h : ∀ p, S p = none → K (.ref p) (sup S p (.lst []))) : (den T (.lst true .nil)).v sd S K := by
  simp only [denSs, denS, den, dens, denO, denT, denI, DV.of, DV.ofB, sSeq, sRet, sRetN, sNext, sIf, sSet, sSetG, sPar, sPar3, sSetIx, sDrop, sFor, sForKeys, sBreak, sCont, dAnd, dOr, dNot, dAndT, dOrT, dNotT, dUn, dOp, dIte, dVar, dC, dTup, dLst, dNil, dCons, dCall, dCut, dPart, dNoPart, dGet1, dGet2, dApp,
  dSeq1, dRange1, dRange2, dEnum, dZip, dLc, dDc, dChain, fIsi, fBlt, fLen, fAbs, fInt1, fMax, fMin, fL1, fTuple, fList, fSorted, fDict, fBin, fCmp, fNeg, fAdd, fSub, fMul, fMod, fDiv, fPow, fInt, fInt0, fLt, fLe, fGt, fGe, fIs, fIsNot, fInD, fIx, fCut, fSeq, fRange1, fRange2, fEnum, fZip, fSetIx, fGet, fApp, fLenSet, fAug, sAug, tOf, tOfB, guardN, gset, gsets, sFrz, frz_dct, frz_lst, fEq_int, fNe_int, fEq_bl, fNe_bl, fEq_nil, fNe_nil, fEq_ints,
  TyC.name, DL.isNon, start0, List.length_cons, List.length_nil, List.map_cons, List.map_nil, List.cons_append, List.nil_append, List.getElem?_cons_zero, List.getElem?_cons_succ, List.getElem?_nil, List.set_cons_zero, List.set_cons_succ, List.set_nil, List.replicate, Nat.reduceSub, Nat.reduceAdd, mkL, mkD, dwipe, Bool.false_eq_true, if_true, if_false, ite_true, ite_false, true_and, and_true, Option.isSome_some, Option.isSome_none, Option.map_some, Option.map_none, Option.getD_some, Option.getD_none,
  tyD_non, tyD_bl, tyD_int, tyD_str, tyD_tup, tyD_lst, tyD_dct, truD_non, truD_bl, truD_int, truD_tup, truD_lst, truD_dct, asL_non, asD_non, keyD_non, asL_bl, asD_bl, keyD_bl, asL_int, asD_int, keyD_int, asL_str, asD_str, keyD_str, asL_tup, asD_tup, keyD_tup, asL_lst, asD_lst, keyD_lst, asL_dct, asD_dct, keyD_dct, asL_scr, asD_scr, keyD_scr, asL_sup, asD_sup, asL_supD, isLs_sup, tyD_supL, tyD_supD, sup_same, sup_sup, ixN_1_0, ixN_2_0, ixN_2_1, ixN_3_0, ixN_3_1, ixN_3_2, ixN_4_0, ixN_4_1, ixN_4_2, ixN_4_3, ixN_5_0, ixN_5_1, ixN_5_2, ixN_5_3, ixN_5_4, ixN_6_0, ixN_6_1, ixN_6_2, ixN_6_3, ixN_6_4, ixN_6_5, ixN_7_0, ixN_7_1, ixN_7_2, ixN_7_3, ixN_7_4, ixN_7_5, ixN_7_6, ixN_8_0, ixN_8_1, ixN_8_2, ixN_8_3, ixN_8_4, ixN_8_5, ixN_8_6, ixN_8_7, atI_0, atI_1, atI_2, atI_3, atI_4, atI_5, atI_6, atI_7, atI_8, isi_NoneType_bool, isi_NoneType_int, isi_NoneType_str, isi_NoneType_tuple, isi_NoneType_list, isi_NoneType_dict, isi_bool_bool, isi_bool_int, isi_bool_str, isi_bool_tuple, isi_bool_list, isi_bool_dict, isi_int_bool, isi_int_int, isi_int_str, isi_int_tuple, isi_int_list, isi_int_dict, isi_str_bool, isi_str_int, isi_str_str, isi_str_tuple, isi_str_list, isi_str_dict, isi_tuple_bool, isi_tuple_int, isi_tuple_str, isi_tuple_tuple, isi_tuple_list, isi_tuple_dict, isi_list_bool, isi_list_int, isi_list_str, isi_list_tuple, isi_list_list, isi_list_dict, isi_dict_bool, isi_dict_int, isi_dict_str, isi_dict_tuple, isi_dict_list, isi_dict_dict]
  exact ⟨Nat.zero_le _, h⟩
theorem vs_setfld {o e : CE} {f c : Str} {x : D} {a : Addr} {fs : List (Str × D)} (he : Ve T sd S e x) (ho : Ve T sd S o (.ref a)) (hi : S a = some (.ins c fs)) (hc : (T.fld c).contains f = true) (hl : fs.length < 1000) (k : denSs T r Dd sd (sup S a (.ins c (putD f x fs)))) : denSs T (.cons (.setfld o f e) r) Dd sd S :=
  he _ (ho _ (setFld_run hi hc hl k))
theorem ve_fld {o : CE} {f c : Str} {x : D} {a : Addr} {fs : List (Str × D)} (ho : Ve T sd S o (.ref a)) (hi : S a = some (.ins c fs)) (hc : (T.fld c).contains f = true) (hl : fs.lookup f = some x) : Ve T sd S (.fld o f) x := fun Q q => ho _ (by
  unfold fFld
  dsimp only
  rw [hi]
  show _ ∧ (match fs.lookup f with | some v => Q v S | none => False)
  rw [hl]
  exact ⟨hc, q⟩)
end
end DL
namespace K09
open PySem L2 DL Piv
def spInit : DSp := fun ds S Q => ∃ (a : Addr) (cols : List (List Int)) (side : List Int), ds = [.ref a, .lst (cols.map rowD), .lst (side.map D.int)] ∧ S a = some (.ins "Pivots" []) ∧ (∀ c ∈ cols, c.length = side.length ∧ ∀ x ∈ c, Sml x) ∧ (∀ x ∈ side, Sml x) ∧ cols.length ≤ 40 ∧ side.length ≤ 40 ∧
  ∀ r b S', S r = none → S b = none → At S' a r b (init cols side) → (∀ c, S c ≠ none → c ≠ a → S' c = S c) → Q .non S'
theorem rangeD_nat (n : Nat) : rangeD 0 (n : Int) = (List.range n).map natD := by
  unfold rangeD
  rw [show ((n : Int) - 0).toNat = n by omega]
  exact List.map_congr_left fun i _ => by rw [Int.zero_add]; rfl
theorem sgn_sml (x : Int) : Sml (sgn x) := by unfold sgn; split <;> exact .of (by decide) (by decide)
theorem r_init {T : Tb} (hF : T.fld = fldP) {ds : List D} {S : Store} {Q : DQ} (h : spInit ds S Q) : denSs T core_Pivots___init__ (DD Q) (start0 N_Pivots___init__.length ds) S := by
  obtain ⟨a, cols, side, rfl, ha, hc, hs, c1, s1, q⟩ := h
  have hsz : (1000 : Nat) ≤ sizeLine := by decide
  have hf : ∀ {f : Str}, (fldP "Pivots").contains f = true → (T.fld "Pivots").contains f = true := by rw [hF]; exact id
  unfold core_Pivots___init__
  refine vs_setfld (x := .int (cols.length : Int)) (fun Q' q' => ?_) (ve_slot rfl) ha (hf (by decide +kernel)) (by decide) ?_
  · simp only [N_Pivots___init__, denSs, denS, den, dens, denO, denT, denI, DV.of, DV.ofB, sSeq, sRet, sRetN, sNext, sIf, sSet, sSetG, sPar, sPar3, sSetIx, sDrop, sFor, sForKeys, sBreak, sCont, dAnd, dOr, dNot, dAndT, dOrT, dNotT, dUn, dOp, dIte, dVar, dC, dTup, dLst, dNil, dCons, dCall, dCut, dPart, dNoPart, dGet1, dGet2, dApp,
  dSeq1, dRange1, dRange2, dEnum, dZip, dLc, dDc, dChain, fIsi, fBlt, fLen, fAbs, fInt1, fMax, fMin, fL1, fTuple, fList, fSorted, fDict, fBin, fCmp, fNeg, fAdd, fSub, fMul, fMod, fDiv, fPow, fInt, fInt0, fLt, fLe, fGt, fGe, fIs, fIsNot, fInD, fIx, fCut, fSeq, fRange1, fRange2, fEnum, fZip, fSetIx, fGet, fApp, fLenSet, fAug, sAug, tOf, tOfB, guardN, gset, gsets, sFrz, frz_dct, frz_lst, fEq_int, fNe_int, fEq_bl, fNe_bl, fEq_nil, fNe_nil, fEq_ints,
  TyC.name, DL.isNon, start0, List.length_cons, List.length_nil, List.map_cons, List.map_nil, List.cons_append, List.nil_append, List.getElem?_cons_zero, List.getElem?_cons_succ, List.getElem?_nil, List.set_cons_zero, List.set_cons_succ, List.set_nil, List.replicate, Nat.reduceSub, Nat.reduceAdd, mkL, mkD, dwipe, Bool.false_eq_true, if_true, if_false, ite_true, ite_false, true_and, and_true, Option.isSome_some, Option.isSome_none, Option.map_some, Option.map_none, Option.getD_some, Option.getD_none,
  tyD_non, tyD_bl, tyD_int, tyD_str, tyD_tup, tyD_lst, tyD_dct, truD_non, truD_bl, truD_int, truD_tup, truD_lst, truD_dct, asL_non, asD_non, keyD_non, asL_bl, asD_bl, keyD_bl, asL_int, asD_int, keyD_int, asL_str, asD_str, keyD_str, asL_tup, asD_tup, keyD_tup, asL_lst, asD_lst, keyD_lst, asL_dct, asD_dct, keyD_dct, asL_scr, asD_scr, keyD_scr, asL_sup, asD_sup, asL_supD, isLs_sup, tyD_supL, tyD_supD, sup_same, sup_sup, ixN_1_0, ixN_2_0, ixN_2_1, ixN_3_0, ixN_3_1, ixN_3_2, ixN_4_0, ixN_4_1, ixN_4_2, ixN_4_3, ixN_5_0, ixN_5_1, ixN_5_2, ixN_5_3, ixN_5_4, ixN_6_0, ixN_6_1, ixN_6_2, ixN_6_3, ixN_6_4, ixN_6_5, ixN_7_0, ixN_7_1, ixN_7_2, ixN_7_3, ixN_7_4, ixN_7_5, ixN_7_6, ixN_8_0, ixN_8_1, ixN_8_2, ixN_8_3, ixN_8_4, ixN_8_5, ixN_8_6, ixN_8_7, atI_0, atI_1, atI_2, atI_3, atI_4, atI_5, atI_6, atI_7, atI_8, isi_NoneType_bool, isi_NoneType_int, isi_NoneType_str, isi_NoneType_tuple, isi_NoneType_list, isi_NoneType_dict, isi_bool_bool, isi_bool_int, isi_bool_str, isi_bool_tuple, isi_bool_list, isi_bool_dict, isi_int_bool, isi_int_int, isi_int_str, isi_int_tuple, isi_int_list, isi_int_dict, isi_str_bool, isi_str_int, isi_str_str, isi_str_tuple, isi_str_list, isi_str_dict, isi_tuple_bool, isi_tuple_int, isi_tuple_str, isi_tuple_tuple, isi_tuple_list, isi_tuple_dict, isi_list_bool, isi_list_int, isi_list_str, isi_list_tuple, isi_list_list, isi_list_dict, isi_dict_bool, isi_dict_int, isi_dict_str, isi_dict_tuple, isi_dict_list, isi_dict_dict, List.length_map]; exact q'
  refine vs_setfld (x := .lst ((side.map sgn).map D.int)) (fun Q' q' => ?_) (ve_slot rfl) sup_same (hf (by decide +kernel)) (by show 1 < 1000; decide) ?_
  · simp only [N_Pivots___init__, denSs, denS, den, dens, denO, denT, denI, DV.of, DV.ofB, sSeq, sRet, sRetN, sNext, sIf, sSet, sSetG, sPar, sPar3, sSetIx, sDrop, sFor, sForKeys, sBreak, sCont, dAnd, dOr, dNot, dAndT, dOrT, dNotT, dUn, dOp, dIte, dVar, dC, dTup, dLst, dNil, dCons, dCall, dCut, dPart, dNoPart, dGet1, dGet2, dApp,
  dSeq1, dRange1, dRange2, dEnum, dZip, dLc, dDc, dChain, fIsi, fBlt, fLen, fAbs, fInt1, fMax, fMin, fL1, fTuple, fList, fSorted, fDict, fBin, fCmp, fNeg, fAdd, fSub, fMul, fMod, fDiv, fPow, fInt, fInt0, fLt, fLe, fGt, fGe, fIs, fIsNot, fInD, fIx, fCut, fSeq, fRange1, fRange2, fEnum, fZip, fSetIx, fGet, fApp, fLenSet, fAug, sAug, tOf, tOfB, guardN, gset, gsets, sFrz, frz_dct, frz_lst, fEq_int, fNe_int, fEq_bl, fNe_bl, fEq_nil, fNe_nil, fEq_ints,
  TyC.name, DL.isNon, start0, List.length_cons, List.length_nil, List.map_cons, List.map_nil, List.cons_append, List.nil_append, List.getElem?_cons_zero, List.getElem?_cons_succ, List.getElem?_nil, List.set_cons_zero, List.set_cons_succ, List.set_nil, List.replicate, Nat.reduceSub, Nat.reduceAdd, mkL, mkD, dwipe, Bool.false_eq_true, if_true, if_false, ite_true, ite_false, true_and, and_true, Option.isSome_some, Option.isSome_none, Option.map_some, Option.map_none, Option.getD_some, Option.getD_none,
  tyD_non, tyD_bl, tyD_int, tyD_str, tyD_tup, tyD_lst, tyD_dct, truD_non, truD_bl, truD_int, truD_tup, truD_lst, truD_dct, asL_non, asD_non, keyD_non, asL_bl, asD_bl, keyD_bl, asL_int, asD_int, keyD_int, asL_str, asD_str, keyD_str, asL_tup, asD_tup, keyD_tup, asL_lst, asD_lst, keyD_lst, asL_dct, asD_dct, keyD_dct, asL_scr, asD_scr, keyD_scr, asL_sup, asD_sup, asL_supD, isLs_sup, tyD_supL, tyD_supD, sup_same, sup_sup, ixN_1_0, ixN_2_0, ixN_2_1, ixN_3_0, ixN_3_1, ixN_3_2, ixN_4_0, ixN_4_1, ixN_4_2, ixN_4_3, ixN_5_0, ixN_5_1, ixN_5_2, ixN_5_3, ixN_5_4, ixN_6_0, ixN_6_1, ixN_6_2, ixN_6_3, ixN_6_4, ixN_6_5, ixN_7_0, ixN_7_1, ixN_7_2, ixN_7_3, ixN_7_4, ixN_7_5, ixN_7_6, ixN_8_0, ixN_8_1, ixN_8_2, ixN_8_3, ixN_8_4, ixN_8_5, ixN_8_6, ixN_8_7, atI_0, atI_1, atI_2, atI_3, atI_4, atI_5, atI_6, atI_7, atI_8, isi_NoneType_bool, isi_NoneType_int, isi_NoneType_str, isi_NoneType_tuple, isi_NoneType_list, isi_NoneType_dict, isi_bool_bool, isi_bool_int, isi_bool_str, isi_bool_tuple, isi_bool_list, isi_bool_dict, isi_int_bool, isi_int_int, isi_int_str, isi_int_tuple, isi_int_list, isi_int_dict, isi_str_bool, isi_str_int, isi_str_str, isi_str_tuple, isi_str_list, isi_str_dict, isi_tuple_bool, isi_tuple_int, isi_tuple_str, isi_tuple_tuple, isi_tuple_list, isi_tuple_dict, isi_list_bool, isi_list_int, isi_list_str, isi_list_tuple, isi_list_list, isi_list_dict, isi_dict_bool, isi_dict_int, isi_dict_str, isi_dict_tuple, isi_dict_list, isi_dict_dict]
    refine lcL_mapA (toD := D.int) (f := fun x => .int (sgn x)) trivial (fun x hx => ⟨_, rfl, fun Q' q' => ?_⟩) ?_
    · simp only [denSs, denS, den, dens, denO, denT, denI, DV.of, DV.ofB, sSeq, sRet, sRetN, sNext, sIf, sSet, sSetG, sPar, sPar3, sSetIx, sDrop, sFor, sForKeys, sBreak, sCont, dAnd, dOr, dNot, dAndT, dOrT, dNotT, dUn, dOp, dIte, dVar, dC, dTup, dLst, dNil, dCons, dCall, dCut, dPart, dNoPart, dGet1, dGet2, dApp,
  dSeq1, dRange1, dRange2, dEnum, dZip, dLc, dDc, dChain, fIsi, fBlt, fLen, fAbs, fInt1, fMax, fMin, fL1, fTuple, fList, fSorted, fDict, fBin, fCmp, fNeg, fAdd, fSub, fMul, fMod, fDiv, fPow, fInt, fInt0, fLt, fLe, fGt, fGe, fIs, fIsNot, fInD, fIx, fCut, fSeq, fRange1, fRange2, fEnum, fZip, fSetIx, fGet, fApp, fLenSet, fAug, sAug, tOf, tOfB, guardN, gset, gsets, sFrz, frz_dct, frz_lst, fEq_int, fNe_int, fEq_bl, fNe_bl, fEq_nil, fNe_nil, fEq_ints,
  TyC.name, DL.isNon, start0, List.length_cons, List.length_nil, List.map_cons, List.map_nil, List.cons_append, List.nil_append, List.getElem?_cons_zero, List.getElem?_cons_succ, List.getElem?_nil, List.set_cons_zero, List.set_cons_succ, List.set_nil, List.replicate, Nat.reduceSub, Nat.reduceAdd, mkL, mkD, dwipe, Bool.false_eq_true, if_true, if_false, ite_true, ite_false, true_and, and_true, Option.isSome_some, Option.isSome_none, Option.map_some, Option.map_none, Option.getD_some, Option.getD_none,
  tyD_non, tyD_bl, tyD_int, tyD_str, tyD_tup, tyD_lst, tyD_dct, truD_non, truD_bl, truD_int, truD_tup, truD_lst, truD_dct, asL_non, asD_non, keyD_non, asL_bl, asD_bl, keyD_bl, asL_int, asD_int, keyD_int, asL_str, asD_str, keyD_str, asL_tup, asD_tup, keyD_tup, asL_lst, asD_lst, keyD_lst, asL_dct, asD_dct, keyD_dct, asL_scr, asD_scr, keyD_scr, asL_sup, asD_sup, asL_supD, isLs_sup, tyD_supL, tyD_supD, sup_same, sup_sup, ixN_1_0, ixN_2_0, ixN_2_1, ixN_3_0, ixN_3_1, ixN_3_2, ixN_4_0, ixN_4_1, ixN_4_2, ixN_4_3, ixN_5_0, ixN_5_1, ixN_5_2, ixN_5_3, ixN_5_4, ixN_6_0, ixN_6_1, ixN_6_2, ixN_6_3, ixN_6_4, ixN_6_5, ixN_7_0, ixN_7_1, ixN_7_2, ixN_7_3, ixN_7_4, ixN_7_5, ixN_7_6, ixN_8_0, ixN_8_1, ixN_8_2, ixN_8_3, ixN_8_4, ixN_8_5, ixN_8_6, ixN_8_7, atI_0, atI_1, atI_2, atI_3, atI_4, atI_5, atI_6, atI_7, atI_8, isi_NoneType_bool, isi_NoneType_int, isi_NoneType_str, isi_NoneType_tuple, isi_NoneType_list, isi_NoneType_dict, isi_bool_bool, isi_bool_int, isi_bool_str, isi_bool_tuple, isi_bool_list, isi_bool_dict, isi_int_bool, isi_int_int, isi_int_str, isi_int_tuple, isi_int_list, isi_int_dict, isi_str_bool, isi_str_int, isi_str_str, isi_str_tuple, isi_str_list, isi_str_dict, isi_tuple_bool, isi_tuple_int, isi_tuple_str, isi_tuple_tuple, isi_tuple_list, isi_tuple_dict, isi_list_bool, isi_list_int, isi_list_str, isi_list_tuple, isi_list_list, isi_list_dict, isi_dict_bool, isi_dict_int, isi_dict_str, isi_dict_tuple, isi_dict_list, isi_dict_dict]
      unfold sgn at q'
      by_cases z : x < 0
      · rw [if_pos z] at q'; rw [if_pos (decide_eq_true z)]; exact q'
      · rw [if_neg z] at q'; rw [if_neg (by rw [decide_eq_true_eq]; exact z)]; exact q'
    · rw [List.map_map] at q'; exact q'
  rw [sup_sup]
  generalize hS1 : sup S a (.ins "Pivots" (putD "signs" (.lst ((side.map sgn).map D.int)) (putD "many" (.int (cols.length : Int)) []))) = S1
  have f1 : ∀ c, c ≠ a → S1 c = S c := fun c h => by rw [← hS1, sup_ne h]
  have a1 : S1 a = some (.ins "Pivots" [("many", .int (cols.length : Int)), ("signs", .lst ((side.map sgn).map D.int))]) := by rw [← hS1]; exact sup_same
  clear hS1
  refine vs_setfldE (run_lstN fun r hr => ?_)
  have ra : a ≠ r := fun e => by rw [e, hr] at a1; cases a1
  refine (ve_slot rfl : Ve T _ _ (.slot 0) (.ref a)) _ ?_
  refine setFld_run (S := sup S1 r (.lst [])) (a := a) (by rw [sup_ne ra]; exact a1) (hf (by decide +kernel)) (by show 2 < 1000; decide) ?_
  generalize hS2 : sup (sup S1 r (.lst [])) a (.ins "Pivots" (putD "rows" (.ref r) [("many", .int (cols.length : Int)), ("signs", .lst ((side.map sgn).map D.int))])) = S2
  have a2 : S2 a = some (.ins "Pivots" [("many", .int (cols.length : Int)), ("signs", .lst ((side.map sgn).map D.int)), ("rows", .ref r)]) := by rw [← hS2]; exact sup_same
  have r2 : S2 r = some (.lst []) := by rw [← hS2, sup_ne (Ne.symm ra)]; exact sup_same
  have f2 : ∀ c, S c ≠ none → c ≠ a → S2 c = S c := fun c h1 h2 => by
    have : c ≠ r := fun e => h1 (by rw [← f1 c h2, e]; exact hr)
    rw [← hS2, sup_ne h2, sup_ne this]; exact f1 c h2
  have ha' : S a ≠ none := by rw [ha]; simp
  have hr0 : S r = none := by rw [← f1 r (Ne.symm ra)]; exact hr
  clear hS2 f1 a1 hr
  show denSs T _ (DD Q) [some (.ref a), some (.lst (cols.map rowD)), some (.lst (side.map D.int)), none, none, none, none, none, none, none, none, none, none] S2
  -- the rows
  have loop : ∀ rest : CSs, (∀ o4 o5 o6, denSs T rest (DD Q) [some (.ref a), some (.lst (cols.map rowD)), some (.lst (side.map D.int)), none, o4, o5, o6, none, none, none, none, none, none] (sup S2 r (.lst (((List.range side.length).map (row0 cols side)).map rowD)))) →
      denSs T (.cons (.for_ (.tup (.cons (.slot 4) (.cons (.slot 5) .nil))) (.enum (.fld (.slot 0) "signs")) (.cons (.setlc 6 false [("other", 7)] (.slot 7) (.range1 (.blt false .len (.cons (.slot 2) .nil))) .no (.blt false .int (.cons (.cmp .Eq (.slot 7) (.slot 4)) .nil)))
      (.cons (.expr (.app (.fld (.slot 0) "rows") (.op false .Add (.op false .Add (.lc false [("column", 8)] (.slot 8) (.seq (.slot 1)) .no (.op false .Mult (.slot 5) (.ix (.slot 8) (.slot 4)))) (.slot 6)) (.lst false (.cons (.op false .Mult (.slot 5) (.ix (.slot 2) (.slot 4))) .nil)))))
      .nil))) rest) (DD Q) [some (.ref a), some (.lst (cols.map rowD)), some (.lst (side.map D.int)), none, none, none, none, none, none, none, none, none, none] S2 := by
    intro rest hrest
    show denS T (.for_ (.tup (.cons (.slot 4) (.cons (.slot 5) .nil))) (.enum (.fld (.slot 0) "signs")) _) { DD Q with nx := fun sd' S' => denSs T rest (DD Q) sd' S' } _ S2
    have hrest : ∀ o4 o5 o6, (fun sd' S' => denSs T rest (DD Q) sd' S') [some (.ref a), some (.lst (cols.map rowD)), some (.lst (side.map D.int)), none, o4, o5, o6, none, none, none, none, none, none] (sup S2 r (.lst (((List.range side.length).map (row0 cols side)).map rowD))) := hrest
    generalize (fun sd' S' => denSs T rest (DD Q) sd' S') = nx at hrest
    have fR : ∀ (f : Str) (v : D) (sd : Slots) (o : O), (fldP "Pivots").contains f = true → ([("many", .int (cols.length : Int)), ("signs", .lst ((side.map sgn).map D.int)), ("rows", .ref r)] : List (Str × D)).lookup f = some v → ∀ Q' : DQ, fFld T.fld f (.ref a) (sup S2 r o) Q' = Q' v (sup S2 r o) := fun f v sd o hc hl Q' => by
      unfold fFld
      dsimp only
      rw [sup_ne ra, a2, hF]
      show ((fldP "Pivots").contains f = true ∧ match List.lookup f _ with | some v => Q' v _ | none => False) = _
      rw [hl]
      exact propext ⟨fun z => z.2, fun q => ⟨hc, q⟩⟩
    have fS := fR "signs" _ [] (.lst []) (by decide +kernel) rfl
    have e0 : sup S2 r (.lst []) = S2 := (sup_id r2).symm
    rw [e0] at fS
    simp only [denSs, denS, den, dens, denO, denT, denI, DV.of, DV.ofB, sSeq, sRet, sRetN, sNext, sIf, sSet, sSetG, sPar, sPar3, sSetIx, sDrop, sFor, sForKeys, sBreak, sCont, dAnd, dOr, dNot, dAndT, dOrT, dNotT, dUn, dOp, dIte, dVar, dC, dTup, dLst, dNil, dCons, dCall, dCut, dPart, dNoPart, dGet1, dGet2, dApp,
  dSeq1, dRange1, dRange2, dEnum, dZip, dLc, dDc, dChain, fIsi, fBlt, fLen, fAbs, fInt1, fMax, fMin, fL1, fTuple, fList, fSorted, fDict, fBin, fCmp, fNeg, fAdd, fSub, fMul, fMod, fDiv, fPow, fInt, fInt0, fLt, fLe, fGt, fGe, fIs, fIsNot, fInD, fIx, fCut, fSeq, fRange1, fRange2, fEnum, fZip, fSetIx, fGet, fApp, fLenSet, fAug, sAug, tOf, tOfB, guardN, gset, gsets, sFrz, frz_dct, frz_lst, fEq_int, fNe_int, fEq_bl, fNe_bl, fEq_nil, fNe_nil, fEq_ints,
  TyC.name, DL.isNon, start0, List.length_cons, List.length_nil, List.map_cons, List.map_nil, List.cons_append, List.nil_append, List.getElem?_cons_zero, List.getElem?_cons_succ, List.getElem?_nil, List.set_cons_zero, List.set_cons_succ, List.set_nil, List.replicate, Nat.reduceSub, Nat.reduceAdd, mkL, mkD, dwipe, Bool.false_eq_true, if_true, if_false, ite_true, ite_false, true_and, and_true, Option.isSome_some, Option.isSome_none, Option.map_some, Option.map_none, Option.getD_some, Option.getD_none,
  tyD_non, tyD_bl, tyD_int, tyD_str, tyD_tup, tyD_lst, tyD_dct, truD_non, truD_bl, truD_int, truD_tup, truD_lst, truD_dct, asL_non, asD_non, keyD_non, asL_bl, asD_bl, keyD_bl, asL_int, asD_int, keyD_int, asL_str, asD_str, keyD_str, asL_tup, asD_tup, keyD_tup, asL_lst, asD_lst, keyD_lst, asL_dct, asD_dct, keyD_dct, asL_scr, asD_scr, keyD_scr, asL_sup, asD_sup, asL_supD, isLs_sup, tyD_supL, tyD_supD, sup_same, sup_sup, ixN_1_0, ixN_2_0, ixN_2_1, ixN_3_0, ixN_3_1, ixN_3_2, ixN_4_0, ixN_4_1, ixN_4_2, ixN_4_3, ixN_5_0, ixN_5_1, ixN_5_2, ixN_5_3, ixN_5_4, ixN_6_0, ixN_6_1, ixN_6_2, ixN_6_3, ixN_6_4, ixN_6_5, ixN_7_0, ixN_7_1, ixN_7_2, ixN_7_3, ixN_7_4, ixN_7_5, ixN_7_6, ixN_8_0, ixN_8_1, ixN_8_2, ixN_8_3, ixN_8_4, ixN_8_5, ixN_8_6, ixN_8_7, atI_0, atI_1, atI_2, atI_3, atI_4, atI_5, atI_6, atI_7, atI_8, isi_NoneType_bool, isi_NoneType_int, isi_NoneType_str, isi_NoneType_tuple, isi_NoneType_list, isi_NoneType_dict, isi_bool_bool, isi_bool_int, isi_bool_str, isi_bool_tuple, isi_bool_list, isi_bool_dict, isi_int_bool, isi_int_int, isi_int_str, isi_int_tuple, isi_int_list, isi_int_dict, isi_str_bool, isi_str_int, isi_str_str, isi_str_tuple, isi_str_list, isi_str_dict, isi_tuple_bool, isi_tuple_int, isi_tuple_str, isi_tuple_tuple, isi_tuple_list, isi_tuple_dict, isi_list_bool, isi_list_int, isi_list_str, isi_list_tuple, isi_list_list, isi_list_dict, isi_dict_bool, isi_dict_int, isi_dict_str, isi_dict_tuple, isi_dict_list, isi_dict_dict, fS]
    have hlen : ((((side.map sgn).map D.int).zipIdx).map (fun p => D.tup [.int (p.2 : Int), p.1])).length = side.length := by
      rw [List.length_map, List.length_zipIdx, List.length_map, List.length_map]
    refine forL_at (fun k sd S' => ∃ o4 o5 o6, sd = [some (.ref a), some (.lst (cols.map rowD)), some (.lst (side.map D.int)), none, o4, o5, o6, none, none, none, none, none, none] ∧ S' = sup S2 r (.lst (((List.range k).map (row0 cols side)).map rowD))) ?_ ?_ _ _ ⟨none, none, none, rfl, e0.symm⟩
    · rintro k x sd S' hx ⟨o4, o5, o6, rfl, rfl⟩
      obtain ⟨x0, e0, rfl⟩ := enum_get hx
      rw [List.getElem?_map, List.getElem?_map] at e0
      cases e : side[k]? with
      | none => rw [e] at e0; cases e0
      | some y =>
        rw [e] at e0
        cases e0
        obtain ⟨hk, ey⟩ := List.getElem?_eq_some_iff.mp e
        have gy : gt side k = y := by rw [gt_lt hk]; exact ey
        have ik := atI_gt (l := side) (c := k) hk
        rw [gy] at ik
        refine ⟨trivial, _, rfl, fun K hK => ?_⟩
        have fRr := fun o => fR "rows" _ [] o (by decide +kernel) rfl
        simp only [denSs, denS, den, dens, denO, denT, denI, DV.of, DV.ofB, sSeq, sRet, sRetN, sNext, sIf, sSet, sSetG, sPar, sPar3, sSetIx, sDrop, sFor, sForKeys, sBreak, sCont, dAnd, dOr, dNot, dAndT, dOrT, dNotT, dUn, dOp, dIte, dVar, dC, dTup, dLst, dNil, dCons, dCall, dCut, dPart, dNoPart, dGet1, dGet2, dApp,
  dSeq1, dRange1, dRange2, dEnum, dZip, dLc, dDc, dChain, fIsi, fBlt, fLen, fAbs, fInt1, fMax, fMin, fL1, fTuple, fList, fSorted, fDict, fBin, fCmp, fNeg, fAdd, fSub, fMul, fMod, fDiv, fPow, fInt, fInt0, fLt, fLe, fGt, fGe, fIs, fIsNot, fInD, fIx, fCut, fSeq, fRange1, fRange2, fEnum, fZip, fSetIx, fGet, fApp, fLenSet, fAug, sAug, tOf, tOfB, guardN, gset, gsets, sFrz, frz_dct, frz_lst, fEq_int, fNe_int, fEq_bl, fNe_bl, fEq_nil, fNe_nil, fEq_ints,
  TyC.name, DL.isNon, start0, List.length_cons, List.length_nil, List.map_cons, List.map_nil, List.cons_append, List.nil_append, List.getElem?_cons_zero, List.getElem?_cons_succ, List.getElem?_nil, List.set_cons_zero, List.set_cons_succ, List.set_nil, List.replicate, Nat.reduceSub, Nat.reduceAdd, mkL, mkD, dwipe, Bool.false_eq_true, if_true, if_false, ite_true, ite_false, true_and, and_true, Option.isSome_some, Option.isSome_none, Option.map_some, Option.map_none, Option.getD_some, Option.getD_none,
  tyD_non, tyD_bl, tyD_int, tyD_str, tyD_tup, tyD_lst, tyD_dct, truD_non, truD_bl, truD_int, truD_tup, truD_lst, truD_dct, asL_non, asD_non, keyD_non, asL_bl, asD_bl, keyD_bl, asL_int, asD_int, keyD_int, asL_str, asD_str, keyD_str, asL_tup, asD_tup, keyD_tup, asL_lst, asD_lst, keyD_lst, asL_dct, asD_dct, keyD_dct, asL_scr, asD_scr, keyD_scr, asL_sup, asD_sup, asL_supD, isLs_sup, tyD_supL, tyD_supD, sup_same, sup_sup, ixN_1_0, ixN_2_0, ixN_2_1, ixN_3_0, ixN_3_1, ixN_3_2, ixN_4_0, ixN_4_1, ixN_4_2, ixN_4_3, ixN_5_0, ixN_5_1, ixN_5_2, ixN_5_3, ixN_5_4, ixN_6_0, ixN_6_1, ixN_6_2, ixN_6_3, ixN_6_4, ixN_6_5, ixN_7_0, ixN_7_1, ixN_7_2, ixN_7_3, ixN_7_4, ixN_7_5, ixN_7_6, ixN_8_0, ixN_8_1, ixN_8_2, ixN_8_3, ixN_8_4, ixN_8_5, ixN_8_6, ixN_8_7, atI_0, atI_1, atI_2, atI_3, atI_4, atI_5, atI_6, atI_7, atI_8, isi_NoneType_bool, isi_NoneType_int, isi_NoneType_str, isi_NoneType_tuple, isi_NoneType_list, isi_NoneType_dict, isi_bool_bool, isi_bool_int, isi_bool_str, isi_bool_tuple, isi_bool_list, isi_bool_dict, isi_int_bool, isi_int_int, isi_int_str, isi_int_tuple, isi_int_list, isi_int_dict, isi_str_bool, isi_str_int, isi_str_str, isi_str_tuple, isi_str_list, isi_str_dict, isi_tuple_bool, isi_tuple_int, isi_tuple_str, isi_tuple_tuple, isi_tuple_list, isi_tuple_dict, isi_list_bool, isi_list_int, isi_list_str, isi_list_tuple, isi_list_list, isi_list_dict, isi_dict_bool, isi_dict_int, isi_dict_str, isi_dict_tuple, isi_dict_list, isi_dict_dict, fRr]
        refine ⟨by rw [List.length_map]; omega, by omega, ?_⟩
        rw [List.length_map, rangeD_nat]
        refine lcL_mapA (toD := natD) (f := fun o => .int (if o = k then 1 else 0)) trivial (fun o ho => ⟨_, rfl, fun Q' q' => ?_⟩) ?_
        · simp only [denSs, denS, den, dens, denO, denT, denI, DV.of, DV.ofB, sSeq, sRet, sRetN, sNext, sIf, sSet, sSetG, sPar, sPar3, sSetIx, sDrop, sFor, sForKeys, sBreak, sCont, dAnd, dOr, dNot, dAndT, dOrT, dNotT, dUn, dOp, dIte, dVar, dC, dTup, dLst, dNil, dCons, dCall, dCut, dPart, dNoPart, dGet1, dGet2, dApp,
  dSeq1, dRange1, dRange2, dEnum, dZip, dLc, dDc, dChain, fIsi, fBlt, fLen, fAbs, fInt1, fMax, fMin, fL1, fTuple, fList, fSorted, fDict, fBin, fCmp, fNeg, fAdd, fSub, fMul, fMod, fDiv, fPow, fInt, fInt0, fLt, fLe, fGt, fGe, fIs, fIsNot, fInD, fIx, fCut, fSeq, fRange1, fRange2, fEnum, fZip, fSetIx, fGet, fApp, fLenSet, fAug, sAug, tOf, tOfB, guardN, gset, gsets, sFrz, frz_dct, frz_lst, fEq_int, fNe_int, fEq_bl, fNe_bl, fEq_nil, fNe_nil, fEq_ints,
  TyC.name, DL.isNon, start0, List.length_cons, List.length_nil, List.map_cons, List.map_nil, List.cons_append, List.nil_append, List.getElem?_cons_zero, List.getElem?_cons_succ, List.getElem?_nil, List.set_cons_zero, List.set_cons_succ, List.set_nil, List.replicate, Nat.reduceSub, Nat.reduceAdd, mkL, mkD, dwipe, Bool.false_eq_true, if_true, if_false, ite_true, ite_false, true_and, and_true, Option.isSome_some, Option.isSome_none, Option.map_some, Option.map_none, Option.getD_some, Option.getD_none,
  tyD_non, tyD_bl, tyD_int, tyD_str, tyD_tup, tyD_lst, tyD_dct, truD_non, truD_bl, truD_int, truD_tup, truD_lst, truD_dct, asL_non, asD_non, keyD_non, asL_bl, asD_bl, keyD_bl, asL_int, asD_int, keyD_int, asL_str, asD_str, keyD_str, asL_tup, asD_tup, keyD_tup, asL_lst, asD_lst, keyD_lst, asL_dct, asD_dct, keyD_dct, asL_scr, asD_scr, keyD_scr, asL_sup, asD_sup, asL_supD, isLs_sup, tyD_supL, tyD_supD, sup_same, sup_sup, ixN_1_0, ixN_2_0, ixN_2_1, ixN_3_0, ixN_3_1, ixN_3_2, ixN_4_0, ixN_4_1, ixN_4_2, ixN_4_3, ixN_5_0, ixN_5_1, ixN_5_2, ixN_5_3, ixN_5_4, ixN_6_0, ixN_6_1, ixN_6_2, ixN_6_3, ixN_6_4, ixN_6_5, ixN_7_0, ixN_7_1, ixN_7_2, ixN_7_3, ixN_7_4, ixN_7_5, ixN_7_6, ixN_8_0, ixN_8_1, ixN_8_2, ixN_8_3, ixN_8_4, ixN_8_5, ixN_8_6, ixN_8_7, atI_0, atI_1, atI_2, atI_3, atI_4, atI_5, atI_6, atI_7, atI_8, isi_NoneType_bool, isi_NoneType_int, isi_NoneType_str, isi_NoneType_tuple, isi_NoneType_list, isi_NoneType_dict, isi_bool_bool, isi_bool_int, isi_bool_str, isi_bool_tuple, isi_bool_list, isi_bool_dict, isi_int_bool, isi_int_int, isi_int_str, isi_int_tuple, isi_int_list, isi_int_dict, isi_str_bool, isi_str_int, isi_str_str, isi_str_tuple, isi_str_list, isi_str_dict, isi_tuple_bool, isi_tuple_int, isi_tuple_str, isi_tuple_tuple, isi_tuple_list, isi_tuple_dict, isi_list_bool, isi_list_int, isi_list_str, isi_list_tuple, isi_list_list, isi_list_dict, isi_dict_bool, isi_dict_int, isi_dict_str, isi_dict_tuple, isi_dict_list, isi_dict_dict, natD]
          by_cases z : o = k
          · rw [if_pos z] at q'
            rw [decide_eq_true (by omega : (o : Int) = (k : Int))]; exact q'
          · rw [if_neg z] at q'
            rw [decide_eq_false (by omega : ¬ (o : Int) = (k : Int))]; exact q'
        rw [fRr]
        refine ⟨by unfold isLs; dsimp only; rw [sup_same], ?_⟩
        refine lcL_mapA (toD := rowD) (f := fun col => .int (sgn y * gt col k)) trivial (fun col hcol => ⟨_, rfl, fun Q' q' => ?_⟩) ?_
        · obtain ⟨l1, l2⟩ := hc col hcol
          have ic := atI_gt (l := col) (c := k) (by omega)
          simp only [denSs, denS, den, dens, denO, denT, denI, DV.of, DV.ofB, sSeq, sRet, sRetN, sNext, sIf, sSet, sSetG, sPar, sPar3, sSetIx, sDrop, sFor, sForKeys, sBreak, sCont, dAnd, dOr, dNot, dAndT, dOrT, dNotT, dUn, dOp, dIte, dVar, dC, dTup, dLst, dNil, dCons, dCall, dCut, dPart, dNoPart, dGet1, dGet2, dApp,
  dSeq1, dRange1, dRange2, dEnum, dZip, dLc, dDc, dChain, fIsi, fBlt, fLen, fAbs, fInt1, fMax, fMin, fL1, fTuple, fList, fSorted, fDict, fBin, fCmp, fNeg, fAdd, fSub, fMul, fMod, fDiv, fPow, fInt, fInt0, fLt, fLe, fGt, fGe, fIs, fIsNot, fInD, fIx, fCut, fSeq, fRange1, fRange2, fEnum, fZip, fSetIx, fGet, fApp, fLenSet, fAug, sAug, tOf, tOfB, guardN, gset, gsets, sFrz, frz_dct, frz_lst, fEq_int, fNe_int, fEq_bl, fNe_bl, fEq_nil, fNe_nil, fEq_ints,
  TyC.name, DL.isNon, start0, List.length_cons, List.length_nil, List.map_cons, List.map_nil, List.cons_append, List.nil_append, List.getElem?_cons_zero, List.getElem?_cons_succ, List.getElem?_nil, List.set_cons_zero, List.set_cons_succ, List.set_nil, List.replicate, Nat.reduceSub, Nat.reduceAdd, mkL, mkD, dwipe, Bool.false_eq_true, if_true, if_false, ite_true, ite_false, true_and, and_true, Option.isSome_some, Option.isSome_none, Option.map_some, Option.map_none, Option.getD_some, Option.getD_none,
  tyD_non, tyD_bl, tyD_int, tyD_str, tyD_tup, tyD_lst, tyD_dct, truD_non, truD_bl, truD_int, truD_tup, truD_lst, truD_dct, asL_non, asD_non, keyD_non, asL_bl, asD_bl, keyD_bl, asL_int, asD_int, keyD_int, asL_str, asD_str, keyD_str, asL_tup, asD_tup, keyD_tup, asL_lst, asD_lst, keyD_lst, asL_dct, asD_dct, keyD_dct, asL_scr, asD_scr, keyD_scr, asL_sup, asD_sup, asL_supD, isLs_sup, tyD_supL, tyD_supD, sup_same, sup_sup, ixN_1_0, ixN_2_0, ixN_2_1, ixN_3_0, ixN_3_1, ixN_3_2, ixN_4_0, ixN_4_1, ixN_4_2, ixN_4_3, ixN_5_0, ixN_5_1, ixN_5_2, ixN_5_3, ixN_5_4, ixN_6_0, ixN_6_1, ixN_6_2, ixN_6_3, ixN_6_4, ixN_6_5, ixN_7_0, ixN_7_1, ixN_7_2, ixN_7_3, ixN_7_4, ixN_7_5, ixN_7_6, ixN_8_0, ixN_8_1, ixN_8_2, ixN_8_3, ixN_8_4, ixN_8_5, ixN_8_6, ixN_8_7, atI_0, atI_1, atI_2, atI_3, atI_4, atI_5, atI_6, atI_7, atI_8, isi_NoneType_bool, isi_NoneType_int, isi_NoneType_str, isi_NoneType_tuple, isi_NoneType_list, isi_NoneType_dict, isi_bool_bool, isi_bool_int, isi_bool_str, isi_bool_tuple, isi_bool_list, isi_bool_dict, isi_int_bool, isi_int_int, isi_int_str, isi_int_tuple, isi_int_list, isi_int_dict, isi_str_bool, isi_str_int, isi_str_str, isi_str_tuple, isi_str_list, isi_str_dict, isi_tuple_bool, isi_tuple_int, isi_tuple_str, isi_tuple_tuple, isi_tuple_list, isi_tuple_dict, isi_list_bool, isi_list_int, isi_list_str, isi_list_tuple, isi_list_list, isi_list_dict, isi_dict_bool, isi_dict_int, isi_dict_str, isi_dict_tuple, isi_dict_list, isi_dict_dict, rowD, ic]
          exact ⟨cmulW (sgn_sml _) (by rw [gt_lt (by omega)]; exact l2 _ (List.getElem_mem _)), q'⟩
        simp only [ik, sup_same, sup_sup, List.length_append, List.length_map, List.length_range]
        refine ⟨by omega, cmulW (sgn_sml _) (hs _ (by rw [← ey]; exact List.getElem_mem _)), by omega, by omega, by omega, hK _ _ ⟨_, _, _, rfl, ?_⟩⟩
        have er : rowD (row0 cols side k) = .lst (cols.map (fun col => D.int (sgn y * gt col k)) ++ (List.range side.length).map (fun o => D.int (if o = k then 1 else 0)) ++ [.int (sgn y * y)]) := by
          unfold rowD row0
          rw [gy, List.map_append, List.map_append, List.map_map, List.map_map]; rfl
        rw [List.range_succ, List.map_append, List.map_append, ← er]; rfl
    · rintro sd S' ⟨o4, o5, o6, rfl, rfl⟩
      rw [hlen]
      exact ⟨trivial, hrest _ _ _⟩
  refine loop _ fun o4 o5 o6 => ?_
  clear loop
  generalize hS3 : sup S2 r (.lst (((List.range side.length).map (row0 cols side)).map rowD)) = S3
  have a3 : S3 a = some (.ins "Pivots" [("many", .int (cols.length : Int)), ("signs", .lst ((side.map sgn).map D.int)), ("rows", .ref r)]) := by rw [← hS3, sup_ne ra]; exact a2
  have r3 : S3 r = some (.lst (((List.range side.length).map (row0 cols side)).map rowD)) := by rw [← hS3]; exact sup_same
  have f3 : ∀ c, S c ≠ none → c ≠ a → S3 c = S c := fun c h1 h2 => by
    have : c ≠ r := fun e => h1 (by rw [e]; exact hr0)
    rw [← hS3, sup_ne this]; exact f2 c h1 h2
  clear hS3 a2 r2 f2 S2
  have fM : ∀ Q' : DQ, fFld T.fld "many" (.ref a) S3 Q' = Q' (.int (cols.length : Int)) S3 := fun Q' => by
    unfold fFld
    dsimp only
    rw [a3, hF]
    exact propext ⟨fun z => z.2, fun q => ⟨by decide +kernel, q⟩⟩
  have fR : ∀ Q' : DQ, fFld T.fld "rows" (.ref a) S3 Q' = Q' (.ref r) S3 := fun Q' => by
    unfold fFld
    dsimp only
    rw [a3, hF]
    exact propext ⟨fun z => z.2, fun q => ⟨by decide +kernel, q⟩⟩
  rw [List.map_map] at r3
  have rl : ∀ k, (row0 cols side k).length = cols.length + side.length + 1 := fun k => row0_len k
  refine vs_setlc ?_
  refine (fun Q' q' => ?_ : Ve T [some (.ref a), some (.lst (cols.map rowD)), some (.lst (side.map D.int)), none, o4, o5, o6, none, none, none, none, none, none] S3 _ (.lst (((List.range cols.length).map fun k => ((List.range side.length).map fun a => gt (row0 cols side a) k).sum).map D.int))) _ ?_
  · simp only [denSs, denS, den, dens, denO, denT, denI, DV.of, DV.ofB, sSeq, sRet, sRetN, sNext, sIf, sSet, sSetG, sPar, sPar3, sSetIx, sDrop, sFor, sForKeys, sBreak, sCont, dAnd, dOr, dNot, dAndT, dOrT, dNotT, dUn, dOp, dIte, dVar, dC, dTup, dLst, dNil, dCons, dCall, dCut, dPart, dNoPart, dGet1, dGet2, dApp,
  dSeq1, dRange1, dRange2, dEnum, dZip, dLc, dDc, dChain, fIsi, fBlt, fLen, fAbs, fInt1, fMax, fMin, fL1, fTuple, fList, fSorted, fDict, fBin, fCmp, fNeg, fAdd, fSub, fMul, fMod, fDiv, fPow, fInt, fInt0, fLt, fLe, fGt, fGe, fIs, fIsNot, fInD, fIx, fCut, fSeq, fRange1, fRange2, fEnum, fZip, fSetIx, fGet, fApp, fLenSet, fAug, sAug, tOf, tOfB, guardN, gset, gsets, sFrz, frz_dct, frz_lst, fEq_int, fNe_int, fEq_bl, fNe_bl, fEq_nil, fNe_nil, fEq_ints,
  TyC.name, DL.isNon, start0, List.length_cons, List.length_nil, List.map_cons, List.map_nil, List.cons_append, List.nil_append, List.getElem?_cons_zero, List.getElem?_cons_succ, List.getElem?_nil, List.set_cons_zero, List.set_cons_succ, List.set_nil, List.replicate, Nat.reduceSub, Nat.reduceAdd, mkL, mkD, dwipe, Bool.false_eq_true, if_true, if_false, ite_true, ite_false, true_and, and_true, Option.isSome_some, Option.isSome_none, Option.map_some, Option.map_none, Option.getD_some, Option.getD_none,
  tyD_non, tyD_bl, tyD_int, tyD_str, tyD_tup, tyD_lst, tyD_dct, truD_non, truD_bl, truD_int, truD_tup, truD_lst, truD_dct, asL_non, asD_non, keyD_non, asL_bl, asD_bl, keyD_bl, asL_int, asD_int, keyD_int, asL_str, asD_str, keyD_str, asL_tup, asD_tup, keyD_tup, asL_lst, asD_lst, keyD_lst, asL_dct, asD_dct, keyD_dct, asL_scr, asD_scr, keyD_scr, asL_sup, asD_sup, asL_supD, isLs_sup, tyD_supL, tyD_supD, sup_same, sup_sup, ixN_1_0, ixN_2_0, ixN_2_1, ixN_3_0, ixN_3_1, ixN_3_2, ixN_4_0, ixN_4_1, ixN_4_2, ixN_4_3, ixN_5_0, ixN_5_1, ixN_5_2, ixN_5_3, ixN_5_4, ixN_6_0, ixN_6_1, ixN_6_2, ixN_6_3, ixN_6_4, ixN_6_5, ixN_7_0, ixN_7_1, ixN_7_2, ixN_7_3, ixN_7_4, ixN_7_5, ixN_7_6, ixN_8_0, ixN_8_1, ixN_8_2, ixN_8_3, ixN_8_4, ixN_8_5, ixN_8_6, ixN_8_7, atI_0, atI_1, atI_2, atI_3, atI_4, atI_5, atI_6, atI_7, atI_8, isi_NoneType_bool, isi_NoneType_int, isi_NoneType_str, isi_NoneType_tuple, isi_NoneType_list, isi_NoneType_dict, isi_bool_bool, isi_bool_int, isi_bool_str, isi_bool_tuple, isi_bool_list, isi_bool_dict, isi_int_bool, isi_int_int, isi_int_str, isi_int_tuple, isi_int_list, isi_int_dict, isi_str_bool, isi_str_int, isi_str_str, isi_str_tuple, isi_str_list, isi_str_dict, isi_tuple_bool, isi_tuple_int, isi_tuple_str, isi_tuple_tuple, isi_tuple_list, isi_tuple_dict, isi_list_bool, isi_list_int, isi_list_str, isi_list_tuple, isi_list_list, isi_list_dict, isi_dict_bool, isi_dict_int, isi_dict_str, isi_dict_tuple, isi_dict_list, isi_dict_dict, fM]
    refine ⟨by omega, by omega, ?_⟩
    rw [rangeD_nat]
    refine lcL_mapA (toD := natD) (f := fun k => .int ((List.range side.length).map fun a => gt (row0 cols side a) k).sum) trivial (fun k hk => ⟨_, rfl, fun Q' q' => ?_⟩) ?_
    · have hk := List.mem_range.mp hk
      simp only [denSs, denS, den, dens, denO, denT, denI, DV.of, DV.ofB, sSeq, sRet, sRetN, sNext, sIf, sSet, sSetG, sPar, sPar3, sSetIx, sDrop, sFor, sForKeys, sBreak, sCont, dAnd, dOr, dNot, dAndT, dOrT, dNotT, dUn, dOp, dIte, dVar, dC, dTup, dLst, dNil, dCons, dCall, dCut, dPart, dNoPart, dGet1, dGet2, dApp,
  dSeq1, dRange1, dRange2, dEnum, dZip, dLc, dDc, dChain, fIsi, fBlt, fLen, fAbs, fInt1, fMax, fMin, fL1, fTuple, fList, fSorted, fDict, fBin, fCmp, fNeg, fAdd, fSub, fMul, fMod, fDiv, fPow, fInt, fInt0, fLt, fLe, fGt, fGe, fIs, fIsNot, fInD, fIx, fCut, fSeq, fRange1, fRange2, fEnum, fZip, fSetIx, fGet, fApp, fLenSet, fAug, sAug, tOf, tOfB, guardN, gset, gsets, sFrz, frz_dct, frz_lst, fEq_int, fNe_int, fEq_bl, fNe_bl, fEq_nil, fNe_nil, fEq_ints,
  TyC.name, DL.isNon, start0, List.length_cons, List.length_nil, List.map_cons, List.map_nil, List.cons_append, List.nil_append, List.getElem?_cons_zero, List.getElem?_cons_succ, List.getElem?_nil, List.set_cons_zero, List.set_cons_succ, List.set_nil, List.replicate, Nat.reduceSub, Nat.reduceAdd, mkL, mkD, dwipe, Bool.false_eq_true, if_true, if_false, ite_true, ite_false, true_and, and_true, Option.isSome_some, Option.isSome_none, Option.map_some, Option.map_none, Option.getD_some, Option.getD_none,
  tyD_non, tyD_bl, tyD_int, tyD_str, tyD_tup, tyD_lst, tyD_dct, truD_non, truD_bl, truD_int, truD_tup, truD_lst, truD_dct, asL_non, asD_non, keyD_non, asL_bl, asD_bl, keyD_bl, asL_int, asD_int, keyD_int, asL_str, asD_str, keyD_str, asL_tup, asD_tup, keyD_tup, asL_lst, asD_lst, keyD_lst, asL_dct, asD_dct, keyD_dct, asL_scr, asD_scr, keyD_scr, asL_sup, asD_sup, asL_supD, isLs_sup, tyD_supL, tyD_supD, sup_same, sup_sup, ixN_1_0, ixN_2_0, ixN_2_1, ixN_3_0, ixN_3_1, ixN_3_2, ixN_4_0, ixN_4_1, ixN_4_2, ixN_4_3, ixN_5_0, ixN_5_1, ixN_5_2, ixN_5_3, ixN_5_4, ixN_6_0, ixN_6_1, ixN_6_2, ixN_6_3, ixN_6_4, ixN_6_5, ixN_7_0, ixN_7_1, ixN_7_2, ixN_7_3, ixN_7_4, ixN_7_5, ixN_7_6, ixN_8_0, ixN_8_1, ixN_8_2, ixN_8_3, ixN_8_4, ixN_8_5, ixN_8_6, ixN_8_7, atI_0, atI_1, atI_2, atI_3, atI_4, atI_5, atI_6, atI_7, atI_8, isi_NoneType_bool, isi_NoneType_int, isi_NoneType_str, isi_NoneType_tuple, isi_NoneType_list, isi_NoneType_dict, isi_bool_bool, isi_bool_int, isi_bool_str, isi_bool_tuple, isi_bool_list, isi_bool_dict, isi_int_bool, isi_int_int, isi_int_str, isi_int_tuple, isi_int_list, isi_int_dict, isi_str_bool, isi_str_int, isi_str_str, isi_str_tuple, isi_str_list, isi_str_dict, isi_tuple_bool, isi_tuple_int, isi_tuple_str, isi_tuple_tuple, isi_tuple_list, isi_tuple_dict, isi_list_bool, isi_list_int, isi_list_str, isi_list_tuple, isi_list_list, isi_list_dict, isi_dict_bool, isi_dict_int, isi_dict_str, isi_dict_tuple, isi_dict_list, isi_dict_dict, fR, r3]
      refine lcL_mapA (toD := rowD ∘ row0 cols side) (f := fun i => .int (gt (row0 cols side i) k)) r3 (fun i hi => ⟨_, rfl, fun Q' q' => ?_⟩) ?_
      · have ik := atI_gt (l := row0 cols side i) (c := k) (by rw [rl]; omega)
        simp only [denSs, denS, den, dens, denO, denT, denI, DV.of, DV.ofB, sSeq, sRet, sRetN, sNext, sIf, sSet, sSetG, sPar, sPar3, sSetIx, sDrop, sFor, sForKeys, sBreak, sCont, dAnd, dOr, dNot, dAndT, dOrT, dNotT, dUn, dOp, dIte, dVar, dC, dTup, dLst, dNil, dCons, dCall, dCut, dPart, dNoPart, dGet1, dGet2, dApp,
  dSeq1, dRange1, dRange2, dEnum, dZip, dLc, dDc, dChain, fIsi, fBlt, fLen, fAbs, fInt1, fMax, fMin, fL1, fTuple, fList, fSorted, fDict, fBin, fCmp, fNeg, fAdd, fSub, fMul, fMod, fDiv, fPow, fInt, fInt0, fLt, fLe, fGt, fGe, fIs, fIsNot, fInD, fIx, fCut, fSeq, fRange1, fRange2, fEnum, fZip, fSetIx, fGet, fApp, fLenSet, fAug, sAug, tOf, tOfB, guardN, gset, gsets, sFrz, frz_dct, frz_lst, fEq_int, fNe_int, fEq_bl, fNe_bl, fEq_nil, fNe_nil, fEq_ints,
  TyC.name, DL.isNon, start0, List.length_cons, List.length_nil, List.map_cons, List.map_nil, List.cons_append, List.nil_append, List.getElem?_cons_zero, List.getElem?_cons_succ, List.getElem?_nil, List.set_cons_zero, List.set_cons_succ, List.set_nil, List.replicate, Nat.reduceSub, Nat.reduceAdd, mkL, mkD, dwipe, Bool.false_eq_true, if_true, if_false, ite_true, ite_false, true_and, and_true, Option.isSome_some, Option.isSome_none, Option.map_some, Option.map_none, Option.getD_some, Option.getD_none,
  tyD_non, tyD_bl, tyD_int, tyD_str, tyD_tup, tyD_lst, tyD_dct, truD_non, truD_bl, truD_int, truD_tup, truD_lst, truD_dct, asL_non, asD_non, keyD_non, asL_bl, asD_bl, keyD_bl, asL_int, asD_int, keyD_int, asL_str, asD_str, keyD_str, asL_tup, asD_tup, keyD_tup, asL_lst, asD_lst, keyD_lst, asL_dct, asD_dct, keyD_dct, asL_scr, asD_scr, keyD_scr, asL_sup, asD_sup, asL_supD, isLs_sup, tyD_supL, tyD_supD, sup_same, sup_sup, ixN_1_0, ixN_2_0, ixN_2_1, ixN_3_0, ixN_3_1, ixN_3_2, ixN_4_0, ixN_4_1, ixN_4_2, ixN_4_3, ixN_5_0, ixN_5_1, ixN_5_2, ixN_5_3, ixN_5_4, ixN_6_0, ixN_6_1, ixN_6_2, ixN_6_3, ixN_6_4, ixN_6_5, ixN_7_0, ixN_7_1, ixN_7_2, ixN_7_3, ixN_7_4, ixN_7_5, ixN_7_6, ixN_8_0, ixN_8_1, ixN_8_2, ixN_8_3, ixN_8_4, ixN_8_5, ixN_8_6, ixN_8_7, atI_0, atI_1, atI_2, atI_3, atI_4, atI_5, atI_6, atI_7, atI_8, isi_NoneType_bool, isi_NoneType_int, isi_NoneType_str, isi_NoneType_tuple, isi_NoneType_list, isi_NoneType_dict, isi_bool_bool, isi_bool_int, isi_bool_str, isi_bool_tuple, isi_bool_list, isi_bool_dict, isi_int_bool, isi_int_int, isi_int_str, isi_int_tuple, isi_int_list, isi_int_dict, isi_str_bool, isi_str_int, isi_str_str, isi_str_tuple, isi_str_list, isi_str_dict, isi_tuple_bool, isi_tuple_int, isi_tuple_str, isi_tuple_tuple, isi_tuple_list, isi_tuple_dict, isi_list_bool, isi_list_int, isi_list_str, isi_list_tuple, isi_list_list, isi_list_dict, isi_dict_bool, isi_dict_int, isi_dict_str, isi_dict_tuple, isi_dict_list, isi_dict_dict, Function.comp, rowD, natD, ik]
        exact q'
      · have e : (List.range side.length).map (fun i => D.int (gt (row0 cols side i) k)) = ((List.range side.length).map fun i => gt (row0 cols side i) k).map D.int := by rw [List.map_map]; rfl
        simp only [e, fL1, asL, asInts_map]
        exact q'
    · rw [List.map_map] at q'; exact q'
  refine vs_set (x := .int ((List.range side.length).map fun a => gt (row0 cols side a) (cols.length + side.length)).sum) (fun Q' q' => ?_) ?_
  · simp only [denSs, denS, den, dens, denO, denT, denI, DV.of, DV.ofB, sSeq, sRet, sRetN, sNext, sIf, sSet, sSetG, sPar, sPar3, sSetIx, sDrop, sFor, sForKeys, sBreak, sCont, dAnd, dOr, dNot, dAndT, dOrT, dNotT, dUn, dOp, dIte, dVar, dC, dTup, dLst, dNil, dCons, dCall, dCut, dPart, dNoPart, dGet1, dGet2, dApp,
  dSeq1, dRange1, dRange2, dEnum, dZip, dLc, dDc, dChain, fIsi, fBlt, fLen, fAbs, fInt1, fMax, fMin, fL1, fTuple, fList, fSorted, fDict, fBin, fCmp, fNeg, fAdd, fSub, fMul, fMod, fDiv, fPow, fInt, fInt0, fLt, fLe, fGt, fGe, fIs, fIsNot, fInD, fIx, fCut, fSeq, fRange1, fRange2, fEnum, fZip, fSetIx, fGet, fApp, fLenSet, fAug, sAug, tOf, tOfB, guardN, gset, gsets, sFrz, frz_dct, frz_lst, fEq_int, fNe_int, fEq_bl, fNe_bl, fEq_nil, fNe_nil, fEq_ints,
  TyC.name, DL.isNon, start0, List.length_cons, List.length_nil, List.map_cons, List.map_nil, List.cons_append, List.nil_append, List.getElem?_cons_zero, List.getElem?_cons_succ, List.getElem?_nil, List.set_cons_zero, List.set_cons_succ, List.set_nil, List.replicate, Nat.reduceSub, Nat.reduceAdd, mkL, mkD, dwipe, Bool.false_eq_true, if_true, if_false, ite_true, ite_false, true_and, and_true, Option.isSome_some, Option.isSome_none, Option.map_some, Option.map_none, Option.getD_some, Option.getD_none,
  tyD_non, tyD_bl, tyD_int, tyD_str, tyD_tup, tyD_lst, tyD_dct, truD_non, truD_bl, truD_int, truD_tup, truD_lst, truD_dct, asL_non, asD_non, keyD_non, asL_bl, asD_bl, keyD_bl, asL_int, asD_int, keyD_int, asL_str, asD_str, keyD_str, asL_tup, asD_tup, keyD_tup, asL_lst, asD_lst, keyD_lst, asL_dct, asD_dct, keyD_dct, asL_scr, asD_scr, keyD_scr, asL_sup, asD_sup, asL_supD, isLs_sup, tyD_supL, tyD_supD, sup_same, sup_sup, ixN_1_0, ixN_2_0, ixN_2_1, ixN_3_0, ixN_3_1, ixN_3_2, ixN_4_0, ixN_4_1, ixN_4_2, ixN_4_3, ixN_5_0, ixN_5_1, ixN_5_2, ixN_5_3, ixN_5_4, ixN_6_0, ixN_6_1, ixN_6_2, ixN_6_3, ixN_6_4, ixN_6_5, ixN_7_0, ixN_7_1, ixN_7_2, ixN_7_3, ixN_7_4, ixN_7_5, ixN_7_6, ixN_8_0, ixN_8_1, ixN_8_2, ixN_8_3, ixN_8_4, ixN_8_5, ixN_8_6, ixN_8_7, atI_0, atI_1, atI_2, atI_3, atI_4, atI_5, atI_6, atI_7, atI_8, isi_NoneType_bool, isi_NoneType_int, isi_NoneType_str, isi_NoneType_tuple, isi_NoneType_list, isi_NoneType_dict, isi_bool_bool, isi_bool_int, isi_bool_str, isi_bool_tuple, isi_bool_list, isi_bool_dict, isi_int_bool, isi_int_int, isi_int_str, isi_int_tuple, isi_int_list, isi_int_dict, isi_str_bool, isi_str_int, isi_str_str, isi_str_tuple, isi_str_list, isi_str_dict, isi_tuple_bool, isi_tuple_int, isi_tuple_str, isi_tuple_tuple, isi_tuple_list, isi_tuple_dict, isi_list_bool, isi_list_int, isi_list_str, isi_list_tuple, isi_list_list, isi_list_dict, isi_dict_bool, isi_dict_int, isi_dict_str, isi_dict_tuple, isi_dict_list, isi_dict_dict, fR, r3]
    refine lcL_mapA (toD := rowD ∘ row0 cols side) (f := fun i => .int (gt (row0 cols side i) (cols.length + side.length))) r3 (fun i hi => ⟨_, rfl, fun Q' q' => ?_⟩) ?_
    · have ik := atI_end (rl i)
      simp only [denSs, denS, den, dens, denO, denT, denI, DV.of, DV.ofB, sSeq, sRet, sRetN, sNext, sIf, sSet, sSetG, sPar, sPar3, sSetIx, sDrop, sFor, sForKeys, sBreak, sCont, dAnd, dOr, dNot, dAndT, dOrT, dNotT, dUn, dOp, dIte, dVar, dC, dTup, dLst, dNil, dCons, dCall, dCut, dPart, dNoPart, dGet1, dGet2, dApp,
  dSeq1, dRange1, dRange2, dEnum, dZip, dLc, dDc, dChain, fIsi, fBlt, fLen, fAbs, fInt1, fMax, fMin, fL1, fTuple, fList, fSorted, fDict, fBin, fCmp, fNeg, fAdd, fSub, fMul, fMod, fDiv, fPow, fInt, fInt0, fLt, fLe, fGt, fGe, fIs, fIsNot, fInD, fIx, fCut, fSeq, fRange1, fRange2, fEnum, fZip, fSetIx, fGet, fApp, fLenSet, fAug, sAug, tOf, tOfB, guardN, gset, gsets, sFrz, frz_dct, frz_lst, fEq_int, fNe_int, fEq_bl, fNe_bl, fEq_nil, fNe_nil, fEq_ints,
  TyC.name, DL.isNon, start0, List.length_cons, List.length_nil, List.map_cons, List.map_nil, List.cons_append, List.nil_append, List.getElem?_cons_zero, List.getElem?_cons_succ, List.getElem?_nil, List.set_cons_zero, List.set_cons_succ, List.set_nil, List.replicate, Nat.reduceSub, Nat.reduceAdd, mkL, mkD, dwipe, Bool.false_eq_true, if_true, if_false, ite_true, ite_false, true_and, and_true, Option.isSome_some, Option.isSome_none, Option.map_some, Option.map_none, Option.getD_some, Option.getD_none,
  tyD_non, tyD_bl, tyD_int, tyD_str, tyD_tup, tyD_lst, tyD_dct, truD_non, truD_bl, truD_int, truD_tup, truD_lst, truD_dct, asL_non, asD_non, keyD_non, asL_bl, asD_bl, keyD_bl, asL_int, asD_int, keyD_int, asL_str, asD_str, keyD_str, asL_tup, asD_tup, keyD_tup, asL_lst, asD_lst, keyD_lst, asL_dct, asD_dct, keyD_dct, asL_scr, asD_scr, keyD_scr, asL_sup, asD_sup, asL_supD, isLs_sup, tyD_supL, tyD_supD, sup_same, sup_sup, ixN_1_0, ixN_2_0, ixN_2_1, ixN_3_0, ixN_3_1, ixN_3_2, ixN_4_0, ixN_4_1, ixN_4_2, ixN_4_3, ixN_5_0, ixN_5_1, ixN_5_2, ixN_5_3, ixN_5_4, ixN_6_0, ixN_6_1, ixN_6_2, ixN_6_3, ixN_6_4, ixN_6_5, ixN_7_0, ixN_7_1, ixN_7_2, ixN_7_3, ixN_7_4, ixN_7_5, ixN_7_6, ixN_8_0, ixN_8_1, ixN_8_2, ixN_8_3, ixN_8_4, ixN_8_5, ixN_8_6, ixN_8_7, atI_0, atI_1, atI_2, atI_3, atI_4, atI_5, atI_6, atI_7, atI_8, isi_NoneType_bool, isi_NoneType_int, isi_NoneType_str, isi_NoneType_tuple, isi_NoneType_list, isi_NoneType_dict, isi_bool_bool, isi_bool_int, isi_bool_str, isi_bool_tuple, isi_bool_list, isi_bool_dict, isi_int_bool, isi_int_int, isi_int_str, isi_int_tuple, isi_int_list, isi_int_dict, isi_str_bool, isi_str_int, isi_str_str, isi_str_tuple, isi_str_list, isi_str_dict, isi_tuple_bool, isi_tuple_int, isi_tuple_str, isi_tuple_tuple, isi_tuple_list, isi_tuple_dict, isi_list_bool, isi_list_int, isi_list_str, isi_list_tuple, isi_list_list, isi_list_dict, isi_dict_bool, isi_dict_int, isi_dict_str, isi_dict_tuple, isi_dict_list, isi_dict_dict, Function.comp, rowD, ik]
      exact q'
    · have e : (List.range side.length).map (fun i => D.int (gt (row0 cols side i) (cols.length + side.length))) = ((List.range side.length).map fun i => gt (row0 cols side i) (cols.length + side.length)).map D.int := by rw [List.map_map]; rfl
      simp only [e, fL1, asL, asInts_map]
      exact q'
  refine vs_setfld (x := .lst ((cost0 cols side).map D.int)) (fun Q' q' => ?_) (ve_slot rfl) a3 (hf (by decide +kernel)) (by show 3 < 1000; decide) ?_
  · simp only [denSs, denS, den, dens, denO, denT, denI, DV.of, DV.ofB, sSeq, sRet, sRetN, sNext, sIf, sSet, sSetG, sPar, sPar3, sSetIx, sDrop, sFor, sForKeys, sBreak, sCont, dAnd, dOr, dNot, dAndT, dOrT, dNotT, dUn, dOp, dIte, dVar, dC, dTup, dLst, dNil, dCons, dCall, dCut, dPart, dNoPart, dGet1, dGet2, dApp,
  dSeq1, dRange1, dRange2, dEnum, dZip, dLc, dDc, dChain, fIsi, fBlt, fLen, fAbs, fInt1, fMax, fMin, fL1, fTuple, fList, fSorted, fDict, fBin, fCmp, fNeg, fAdd, fSub, fMul, fMod, fDiv, fPow, fInt, fInt0, fLt, fLe, fGt, fGe, fIs, fIsNot, fInD, fIx, fCut, fSeq, fRange1, fRange2, fEnum, fZip, fSetIx, fGet, fApp, fLenSet, fAug, sAug, tOf, tOfB, guardN, gset, gsets, sFrz, frz_dct, frz_lst, fEq_int, fNe_int, fEq_bl, fNe_bl, fEq_nil, fNe_nil, fEq_ints,
  TyC.name, DL.isNon, start0, List.length_cons, List.length_nil, List.map_cons, List.map_nil, List.cons_append, List.nil_append, List.getElem?_cons_zero, List.getElem?_cons_succ, List.getElem?_nil, List.set_cons_zero, List.set_cons_succ, List.set_nil, List.replicate, Nat.reduceSub, Nat.reduceAdd, mkL, mkD, dwipe, Bool.false_eq_true, if_true, if_false, ite_true, ite_false, true_and, and_true, Option.isSome_some, Option.isSome_none, Option.map_some, Option.map_none, Option.getD_some, Option.getD_none,
  tyD_non, tyD_bl, tyD_int, tyD_str, tyD_tup, tyD_lst, tyD_dct, truD_non, truD_bl, truD_int, truD_tup, truD_lst, truD_dct, asL_non, asD_non, keyD_non, asL_bl, asD_bl, keyD_bl, asL_int, asD_int, keyD_int, asL_str, asD_str, keyD_str, asL_tup, asD_tup, keyD_tup, asL_lst, asD_lst, keyD_lst, asL_dct, asD_dct, keyD_dct, asL_scr, asD_scr, keyD_scr, asL_sup, asD_sup, asL_supD, isLs_sup, tyD_supL, tyD_supD, sup_same, sup_sup, ixN_1_0, ixN_2_0, ixN_2_1, ixN_3_0, ixN_3_1, ixN_3_2, ixN_4_0, ixN_4_1, ixN_4_2, ixN_4_3, ixN_5_0, ixN_5_1, ixN_5_2, ixN_5_3, ixN_5_4, ixN_6_0, ixN_6_1, ixN_6_2, ixN_6_3, ixN_6_4, ixN_6_5, ixN_7_0, ixN_7_1, ixN_7_2, ixN_7_3, ixN_7_4, ixN_7_5, ixN_7_6, ixN_8_0, ixN_8_1, ixN_8_2, ixN_8_3, ixN_8_4, ixN_8_5, ixN_8_6, ixN_8_7, atI_0, atI_1, atI_2, atI_3, atI_4, atI_5, atI_6, atI_7, atI_8, isi_NoneType_bool, isi_NoneType_int, isi_NoneType_str, isi_NoneType_tuple, isi_NoneType_list, isi_NoneType_dict, isi_bool_bool, isi_bool_int, isi_bool_str, isi_bool_tuple, isi_bool_list, isi_bool_dict, isi_int_bool, isi_int_int, isi_int_str, isi_int_tuple, isi_int_list, isi_int_dict, isi_str_bool, isi_str_int, isi_str_str, isi_str_tuple, isi_str_list, isi_str_dict, isi_tuple_bool, isi_tuple_int, isi_tuple_str, isi_tuple_tuple, isi_tuple_list, isi_tuple_dict, isi_list_bool, isi_list_int, isi_list_str, isi_list_tuple, isi_list_list, isi_list_dict, isi_dict_bool, isi_dict_int, isi_dict_str, isi_dict_tuple, isi_dict_list, isi_dict_dict, List.length_map]
    refine lcL_mapA (toD := D.int) (f := fun x => .int (-x)) trivial (fun x hx => ⟨_, rfl, fun Q' q' => ?_⟩) ?_
    · simp only [denSs, denS, den, dens, denO, denT, denI, DV.of, DV.ofB, sSeq, sRet, sRetN, sNext, sIf, sSet, sSetG, sPar, sPar3, sSetIx, sDrop, sFor, sForKeys, sBreak, sCont, dAnd, dOr, dNot, dAndT, dOrT, dNotT, dUn, dOp, dIte, dVar, dC, dTup, dLst, dNil, dCons, dCall, dCut, dPart, dNoPart, dGet1, dGet2, dApp,
  dSeq1, dRange1, dRange2, dEnum, dZip, dLc, dDc, dChain, fIsi, fBlt, fLen, fAbs, fInt1, fMax, fMin, fL1, fTuple, fList, fSorted, fDict, fBin, fCmp, fNeg, fAdd, fSub, fMul, fMod, fDiv, fPow, fInt, fInt0, fLt, fLe, fGt, fGe, fIs, fIsNot, fInD, fIx, fCut, fSeq, fRange1, fRange2, fEnum, fZip, fSetIx, fGet, fApp, fLenSet, fAug, sAug, tOf, tOfB, guardN, gset, gsets, sFrz, frz_dct, frz_lst, fEq_int, fNe_int, fEq_bl, fNe_bl, fEq_nil, fNe_nil, fEq_ints,
  TyC.name, DL.isNon, start0, List.length_cons, List.length_nil, List.map_cons, List.map_nil, List.cons_append, List.nil_append, List.getElem?_cons_zero, List.getElem?_cons_succ, List.getElem?_nil, List.set_cons_zero, List.set_cons_succ, List.set_nil, List.replicate, Nat.reduceSub, Nat.reduceAdd, mkL, mkD, dwipe, Bool.false_eq_true, if_true, if_false, ite_true, ite_false, true_and, and_true, Option.isSome_some, Option.isSome_none, Option.map_some, Option.map_none, Option.getD_some, Option.getD_none,
  tyD_non, tyD_bl, tyD_int, tyD_str, tyD_tup, tyD_lst, tyD_dct, truD_non, truD_bl, truD_int, truD_tup, truD_lst, truD_dct, asL_non, asD_non, keyD_non, asL_bl, asD_bl, keyD_bl, asL_int, asD_int, keyD_int, asL_str, asD_str, keyD_str, asL_tup, asD_tup, keyD_tup, asL_lst, asD_lst, keyD_lst, asL_dct, asD_dct, keyD_dct, asL_scr, asD_scr, keyD_scr, asL_sup, asD_sup, asL_supD, isLs_sup, tyD_supL, tyD_supD, sup_same, sup_sup, ixN_1_0, ixN_2_0, ixN_2_1, ixN_3_0, ixN_3_1, ixN_3_2, ixN_4_0, ixN_4_1, ixN_4_2, ixN_4_3, ixN_5_0, ixN_5_1, ixN_5_2, ixN_5_3, ixN_5_4, ixN_6_0, ixN_6_1, ixN_6_2, ixN_6_3, ixN_6_4, ixN_6_5, ixN_7_0, ixN_7_1, ixN_7_2, ixN_7_3, ixN_7_4, ixN_7_5, ixN_7_6, ixN_8_0, ixN_8_1, ixN_8_2, ixN_8_3, ixN_8_4, ixN_8_5, ixN_8_6, ixN_8_7, atI_0, atI_1, atI_2, atI_3, atI_4, atI_5, atI_6, atI_7, atI_8, isi_NoneType_bool, isi_NoneType_int, isi_NoneType_str, isi_NoneType_tuple, isi_NoneType_list, isi_NoneType_dict, isi_bool_bool, isi_bool_int, isi_bool_str, isi_bool_tuple, isi_bool_list, isi_bool_dict, isi_int_bool, isi_int_int, isi_int_str, isi_int_tuple, isi_int_list, isi_int_dict, isi_str_bool, isi_str_int, isi_str_str, isi_str_tuple, isi_str_list, isi_str_dict, isi_tuple_bool, isi_tuple_int, isi_tuple_str, isi_tuple_tuple, isi_tuple_list, isi_tuple_dict, isi_list_bool, isi_list_int, isi_list_str, isi_list_tuple, isi_list_list, isi_list_dict, isi_dict_bool, isi_dict_int, isi_dict_str, isi_dict_tuple, isi_dict_list, isi_dict_dict]; exact q'
    · have e0 : ∀ n : Nat, (List.replicate ((n : Int)).toNat [D.int 0]).flatten = List.replicate n (D.int 0) := fun n => by
        rw [Int.toNat_natCast]
        induction n with
        | zero => rfl
        | succ n ih => rw [List.replicate_succ, List.flatten_cons, ih]; rfl
      have ec : List.map (fun x => D.int (-x)) ((List.range cols.length).map fun k => ((List.range side.length).map fun a => gt (row0 cols side a) k).sum) ++ List.replicate side.length (D.int 0) ++ [D.int (-((List.range side.length).map fun a => gt (row0 cols side a) (cols.length + side.length)).sum)] = (cost0 cols side).map D.int := by
        unfold cost0
        rw [List.map_append, List.map_append, List.map_map, List.map_map, List.map_replicate]; rfl
      rw [e0, ec]
      simp only [List.length_append, List.length_map, List.length_range, List.length_replicate]
      exact ⟨by omega, by omega, by omega, by omega, by omega, by omega, by omega, q'⟩
  generalize hS4 : sup S3 a (.ins "Pivots" (putD "costs" (.lst ((cost0 cols side).map D.int)) [("many", .int (cols.length : Int)), ("signs", .lst ((side.map sgn).map D.int)), ("rows", .ref r)])) = S4
  have a4 : S4 a = some (.ins "Pivots" [("many", .int (cols.length : Int)), ("signs", .lst ((side.map sgn).map D.int)), ("rows", .ref r), ("costs", .lst ((cost0 cols side).map D.int))]) := by rw [← hS4]; exact sup_same
  have r4 : S4 r = some (.lst (((List.range side.length).map (row0 cols side)).map rowD)) := by rw [← hS4, sup_ne (Ne.symm ra), List.map_map]; exact r3
  have f4 : ∀ c, S c ≠ none → c ≠ a → S4 c = S c := fun c h1 h2 => by rw [← hS4, sup_ne h2]; exact f3 c h1 h2
  have fM4 : ∀ Q' : DQ, fFld T.fld "many" (.ref a) S4 Q' = Q' (.int (cols.length : Int)) S4 := fun Q' => by
    unfold fFld
    dsimp only
    rw [a4, hF]
    exact propext ⟨fun z => z.2, fun q => ⟨by decide +kernel, q⟩⟩
  clear fM fR hS4 a3 r3 f3
  refine vs_setfldE ?_
  have own : ∀ K : DQ, (∀ b, S4 b = none → K (.ref b) (sup S4 b (.lst ((init cols side).base.map natD)))) → ∀ o1 o3 o4 o5 o6 o7 o8 o9 o10 o11 o12 : Option D, (den T (.lc true [("at", 4)] (.slot 4) (.range1 (.blt false .len (.cons (.slot 2) .nil))) .no (.op false .Add (.fld (.slot 0) "many") (.slot 4)))).v [some (.ref a), o1, some (.lst (side.map D.int)), o3, o4, o5, o6, o7, o8, o9, o10, o11, o12] S4 K := by
    intro K hK o1 o3 o4 o5 o6 o7 o8 o9 o10 o11 o12
    simp only [denSs, denS, den, dens, denO, denT, denI, DV.of, DV.ofB, sSeq, sRet, sRetN, sNext, sIf, sSet, sSetG, sPar, sPar3, sSetIx, sDrop, sFor, sForKeys, sBreak, sCont, dAnd, dOr, dNot, dAndT, dOrT, dNotT, dUn, dOp, dIte, dVar, dC, dTup, dLst, dNil, dCons, dCall, dCut, dPart, dNoPart, dGet1, dGet2, dApp,
  dSeq1, dRange1, dRange2, dEnum, dZip, dLc, dDc, dChain, fIsi, fBlt, fLen, fAbs, fInt1, fMax, fMin, fL1, fTuple, fList, fSorted, fDict, fBin, fCmp, fNeg, fAdd, fSub, fMul, fMod, fDiv, fPow, fInt, fInt0, fLt, fLe, fGt, fGe, fIs, fIsNot, fInD, fIx, fCut, fSeq, fRange1, fRange2, fEnum, fZip, fSetIx, fGet, fApp, fLenSet, fAug, sAug, tOf, tOfB, guardN, gset, gsets, sFrz, frz_dct, frz_lst, fEq_int, fNe_int, fEq_bl, fNe_bl, fEq_nil, fNe_nil, fEq_ints,
  TyC.name, DL.isNon, start0, List.length_cons, List.length_nil, List.map_cons, List.map_nil, List.cons_append, List.nil_append, List.getElem?_cons_zero, List.getElem?_cons_succ, List.getElem?_nil, List.set_cons_zero, List.set_cons_succ, List.set_nil, List.replicate, Nat.reduceSub, Nat.reduceAdd, mkL, mkD, dwipe, Bool.false_eq_true, if_true, if_false, ite_true, ite_false, true_and, and_true, Option.isSome_some, Option.isSome_none, Option.map_some, Option.map_none, Option.getD_some, Option.getD_none,
  tyD_non, tyD_bl, tyD_int, tyD_str, tyD_tup, tyD_lst, tyD_dct, truD_non, truD_bl, truD_int, truD_tup, truD_lst, truD_dct, asL_non, asD_non, keyD_non, asL_bl, asD_bl, keyD_bl, asL_int, asD_int, keyD_int, asL_str, asD_str, keyD_str, asL_tup, asD_tup, keyD_tup, asL_lst, asD_lst, keyD_lst, asL_dct, asD_dct, keyD_dct, asL_scr, asD_scr, keyD_scr, asL_sup, asD_sup, asL_supD, isLs_sup, tyD_supL, tyD_supD, sup_same, sup_sup, ixN_1_0, ixN_2_0, ixN_2_1, ixN_3_0, ixN_3_1, ixN_3_2, ixN_4_0, ixN_4_1, ixN_4_2, ixN_4_3, ixN_5_0, ixN_5_1, ixN_5_2, ixN_5_3, ixN_5_4, ixN_6_0, ixN_6_1, ixN_6_2, ixN_6_3, ixN_6_4, ixN_6_5, ixN_7_0, ixN_7_1, ixN_7_2, ixN_7_3, ixN_7_4, ixN_7_5, ixN_7_6, ixN_8_0, ixN_8_1, ixN_8_2, ixN_8_3, ixN_8_4, ixN_8_5, ixN_8_6, ixN_8_7, atI_0, atI_1, atI_2, atI_3, atI_4, atI_5, atI_6, atI_7, atI_8, isi_NoneType_bool, isi_NoneType_int, isi_NoneType_str, isi_NoneType_tuple, isi_NoneType_list, isi_NoneType_dict, isi_bool_bool, isi_bool_int, isi_bool_str, isi_bool_tuple, isi_bool_list, isi_bool_dict, isi_int_bool, isi_int_int, isi_int_str, isi_int_tuple, isi_int_list, isi_int_dict, isi_str_bool, isi_str_int, isi_str_str, isi_str_tuple, isi_str_list, isi_str_dict, isi_tuple_bool, isi_tuple_int, isi_tuple_str, isi_tuple_tuple, isi_tuple_list, isi_tuple_dict, isi_list_bool, isi_list_int, isi_list_str, isi_list_tuple, isi_list_list, isi_list_dict, isi_dict_bool, isi_dict_int, isi_dict_str, isi_dict_tuple, isi_dict_list, isi_dict_dict, List.length_map]
    refine ⟨by omega, by omega, ?_⟩
    rw [rangeD_nat]
    refine lcL_mapA (toD := natD) (f := fun i => natD (cols.length + i)) trivial (fun i hi => ⟨_, rfl, fun Q' q' => ?_⟩) ?_
    · simp only [denSs, denS, den, dens, denO, denT, denI, DV.of, DV.ofB, sSeq, sRet, sRetN, sNext, sIf, sSet, sSetG, sPar, sPar3, sSetIx, sDrop, sFor, sForKeys, sBreak, sCont, dAnd, dOr, dNot, dAndT, dOrT, dNotT, dUn, dOp, dIte, dVar, dC, dTup, dLst, dNil, dCons, dCall, dCut, dPart, dNoPart, dGet1, dGet2, dApp,
  dSeq1, dRange1, dRange2, dEnum, dZip, dLc, dDc, dChain, fIsi, fBlt, fLen, fAbs, fInt1, fMax, fMin, fL1, fTuple, fList, fSorted, fDict, fBin, fCmp, fNeg, fAdd, fSub, fMul, fMod, fDiv, fPow, fInt, fInt0, fLt, fLe, fGt, fGe, fIs, fIsNot, fInD, fIx, fCut, fSeq, fRange1, fRange2, fEnum, fZip, fSetIx, fGet, fApp, fLenSet, fAug, sAug, tOf, tOfB, guardN, gset, gsets, sFrz, frz_dct, frz_lst, fEq_int, fNe_int, fEq_bl, fNe_bl, fEq_nil, fNe_nil, fEq_ints,
  TyC.name, DL.isNon, start0, List.length_cons, List.length_nil, List.map_cons, List.map_nil, List.cons_append, List.nil_append, List.getElem?_cons_zero, List.getElem?_cons_succ, List.getElem?_nil, List.set_cons_zero, List.set_cons_succ, List.set_nil, List.replicate, Nat.reduceSub, Nat.reduceAdd, mkL, mkD, dwipe, Bool.false_eq_true, if_true, if_false, ite_true, ite_false, true_and, and_true, Option.isSome_some, Option.isSome_none, Option.map_some, Option.map_none, Option.getD_some, Option.getD_none,
  tyD_non, tyD_bl, tyD_int, tyD_str, tyD_tup, tyD_lst, tyD_dct, truD_non, truD_bl, truD_int, truD_tup, truD_lst, truD_dct, asL_non, asD_non, keyD_non, asL_bl, asD_bl, keyD_bl, asL_int, asD_int, keyD_int, asL_str, asD_str, keyD_str, asL_tup, asD_tup, keyD_tup, asL_lst, asD_lst, keyD_lst, asL_dct, asD_dct, keyD_dct, asL_scr, asD_scr, keyD_scr, asL_sup, asD_sup, asL_supD, isLs_sup, tyD_supL, tyD_supD, sup_same, sup_sup, ixN_1_0, ixN_2_0, ixN_2_1, ixN_3_0, ixN_3_1, ixN_3_2, ixN_4_0, ixN_4_1, ixN_4_2, ixN_4_3, ixN_5_0, ixN_5_1, ixN_5_2, ixN_5_3, ixN_5_4, ixN_6_0, ixN_6_1, ixN_6_2, ixN_6_3, ixN_6_4, ixN_6_5, ixN_7_0, ixN_7_1, ixN_7_2, ixN_7_3, ixN_7_4, ixN_7_5, ixN_7_6, ixN_8_0, ixN_8_1, ixN_8_2, ixN_8_3, ixN_8_4, ixN_8_5, ixN_8_6, ixN_8_7, atI_0, atI_1, atI_2, atI_3, atI_4, atI_5, atI_6, atI_7, atI_8, isi_NoneType_bool, isi_NoneType_int, isi_NoneType_str, isi_NoneType_tuple, isi_NoneType_list, isi_NoneType_dict, isi_bool_bool, isi_bool_int, isi_bool_str, isi_bool_tuple, isi_bool_list, isi_bool_dict, isi_int_bool, isi_int_int, isi_int_str, isi_int_tuple, isi_int_list, isi_int_dict, isi_str_bool, isi_str_int, isi_str_str, isi_str_tuple, isi_str_list, isi_str_dict, isi_tuple_bool, isi_tuple_int, isi_tuple_str, isi_tuple_tuple, isi_tuple_list, isi_tuple_dict, isi_list_bool, isi_list_int, isi_list_str, isi_list_tuple, isi_list_list, isi_list_dict, isi_dict_bool, isi_dict_int, isi_dict_str, isi_dict_tuple, isi_dict_list, isi_dict_dict, natD, fM4]
      rw [← Int.natCast_add]; exact q'
    · refine fun b hb => ?_
      have := hK b hb
      have e : (List.range side.length).map (fun i => natD (cols.length + i)) = (init cols side).base.map natD := by show _ = ((List.range side.length).map (cols.length + ·)).map natD; rw [List.map_map]; rfl
      rw [e]; exact this
  refine own _ (fun b hb => ?_) _ _ _ _ _ _ _ _ _ _ _
  refine (ve_slot rfl : Ve T _ _ (.slot 0) (.ref a)) _ ?_
  have ab : a ≠ b := fun e => by rw [e, hb] at a4; cases a4
  have rb : r ≠ b := fun e => by rw [e, hb] at r4; cases r4
  have b0 : S b = none := Classical.byContradiction fun n => by
    have := f4 b n (Ne.symm ab)
    rw [hb] at this
    exact n this.symm
  refine setFld_run (a := a) (by rw [sup_ne ab]; exact a4) (hf (by decide +kernel)) (by show 4 < 1000; decide) ?_
  refine vs_setfld (x := .int 1) ve_int (ve_slot rfl) sup_same (hf (by decide +kernel)) (by show 5 < 1000; decide) ?_
  rw [sup_sup]
  refine nil_nx (.of (q r b _ hr0 b0 ⟨?_, ?_, ?_, ra, ab, rb⟩ fun c c1 c2 => ?_))
  · rw [sup_same]; rfl
  · rw [sup_ne (Ne.symm ra), sup_ne rb, r4]; rfl
  · rw [sup_ne (Ne.symm ab), sup_same]
  · have : c ≠ b := fun e => c1 (by rw [e]; exact b0)
    rw [sup_ne c2, sup_ne this]; exact f4 c c1 c2
end K09
set_option Elab.async false
set_option linter.all false
set_option maxRecDepth 100000
set_option maxHeartbeats 1000000
namespace DL
open PySem L2
section
variable {T : Tb} {sd : Slots} {S : Store} {r : CSs} {Dd : DEnds}
theorem make_run {j n : Nat} {c : Str} {sp : DSp} {es : CEs} {xs : List D} {Q : DQ} (hm : T.mks j = some (c, n, sp)) (hs : Vs T sd S es xs) (hn : xs.length + 1 = n) (h : ∀ p, S p = none → sp (.ref p :: xs) (sup S p (.ins c [])) fun d S2 => d = .non ∧ Q (.ref p) S2) : (den T (.make j es)).v sd S Q := by
  show dMake (T.mks j) (dens T es) sd S Q
  unfold dMake
  rw [hm]
  exact hs _ fun p hp => ⟨hn, h p hp⟩
end
end DL
namespace K09
open PySem L2 DL Piv
/-! ### the sizes -/
theorem two700 {n : Nat} (h : n < 2 ^ 700) : n < 2 ^ kilo := Nat.lt_of_lt_of_le h (Nat.pow_le_pow_right (by decide) (by decide))
def Inp (cols : List (List Int)) (side : List Int) : Prop := (∀ c ∈ cols, c.length = side.length ∧ ∀ x ∈ c, x.natAbs ≤ 2 ^ 60) ∧ (∀ x ∈ side, x.natAbs ≤ 2 ^ 60) ∧ cols.length ≤ 40 ∧ side.length ≤ 8
section
variable {cols : List (List Int)} {side : List Int}
theorem Inp.sml (I : Inp cols side) : (∀ c ∈ cols, c.length = side.length ∧ ∀ x ∈ c, Sml x) ∧ ∀ x ∈ side, Sml x :=
  ⟨fun c hc => ⟨(I.1 c hc).1, fun x hx => .bits ((I.1 c hc).2 x hx) (show 2 ^ 60 < 2 ^ 61 by decide) (by decide)⟩, fun x hx => .bits (I.2.1 x hx) (show 2 ^ 60 < 2 ^ 61 by decide) (by decide)⟩
theorem wf_of (I : Inp cols side) {t : Tab} (ok : TabOk (prob cols side) t) : Wf t side.length cols.length := by
  have hA := prob_small (fun c hc => (I.1 c hc).2) I.2.1
  obtain ⟨c1, c2⟩ := cost_small prob_ok ok I.2.2.2 hA
  have rs := fun {i} hi {c} hc => row_small (i := i) (c := c) prob_ok ok I.2.2.2 hA hi hc
  refine ⟨ok.many, ok.rl, ok.bl, ok.sl, fun row hr => ?_, ok.cl, fun x hx => ?_, two700 c1, by have := I.2.2.1; omega, by have := I.2.2.2; omega⟩
  · obtain ⟨i, hi, e⟩ := List.mem_iff_getElem.mp hr
    have hi2 : i < (prob cols side).m := by rw [← ok.rl]; exact hi
    have er : row = t.row i := by unfold Tab.row; rw [List.getD_eq_getElem?_getD, List.getElem?_eq_getElem hi]; exact e.symm
    subst er
    refine ⟨ok.row i hi2, fun x hx => ?_⟩
    obtain ⟨c, h1, h2⟩ := gt_mem hx
    rw [ok.row i hi2] at h1
    rw [← h2]
    exact two700 (rs hi2 (Nat.le_of_lt_succ h1))
  · obtain ⟨c, h1, h2⟩ := gt_mem hx
    rw [ok.cl] at h1
    rw [← h2]
    exact two700 (c2 c (Nat.le_of_lt_succ h1))
theorem own_pos {p : Prob} {t : Tab} (h : TabOk p t) : ∀ q ∈ t.own, 0 < gt q.2 q.1 := fun q hq => by
  obtain ⟨i, hi, rfl, _⟩ := (own_mem h).mp hq
  exact h.inv.pos i hi
theorem setF_big {D : Int} {N n : Nat} : ∀ (own : List (Nat × List Int)) (f : List Int), (∀ q ∈ own, 0 < gt q.2 q.1 ∧ (gt q.2 N * D / gt q.2 q.1).natAbs < n) → (∀ x ∈ f, x.natAbs < n) → ∀ x ∈ setF D N f own, x.natAbs < n
  | [], f, _, hf, x, hx => hf x hx
  | q :: own, f, ho, hf, x, hx => by
    refine setF_big own (f.set q.1 (gt q.2 N * D / gt q.2 q.1)) (fun y hy => ho y (List.mem_cons_of_mem _ hy)) (fun y hy => ?_) x hx
    rcases List.mem_or_eq_of_mem_set hy with hy | hy
    · exact hf y hy
    · rw [hy]; exact (ho q List.mem_cons_self).2
theorem times_big {t : Tab} {m h : Nat} (w : Wf t m h) (pos : ∀ q ∈ t.own, 0 < gt q.2 q.1) : Big t.times.1 ∧ ∀ x ∈ t.times.2, Big x := by
  obtain ⟨d0, d1⟩ := divF_lt w pos t.own.length (Nat.le_refl _)
  rw [List.take_length] at d0 d1
  have ol := own_len w
  have := w.ms
  refine ⟨pow_big d1 (by unfold mega; omega), ?_⟩
  unfold Tab.times
  rw [w.many, w.rl]
  refine setF_big _ _ (fun q hq => ⟨pos q hq, ?_⟩) fun x hx => ?_
  · have h1 := mul_lt_pow ((own_wf w hq).2.2 (h + m)) d1
    have h2 := ediv_abs (x := gt q.2 (h + m) * divF 1 t.own) (pos q hq)
    have h3 : (gt q.2 (h + m) * divF 1 t.own / gt q.2 q.1).natAbs < 2 ^ (kilo + (1000 * t.own.length + 1) + 1) := by
      rw [Nat.pow_succ]; omega
    exact pow_big h3 (by unfold mega kilo; omega)
  · rw [(List.mem_replicate.mp hx).2]
    exact pow_big (k := 1) (by decide) (by decide)
theorem prices_big {t : Tab} {m h : Nat} (w : Wf t m h) (sg : ∀ x ∈ t.signs, Sml x) : ∀ x ∈ t.prices, Big x := by
  intro x hx
  obtain ⟨a, _, rfl⟩ := List.mem_map.mp hx
  have s1 : Sml (gt t.signs a) := by
    by_cases z : a < t.signs.length
    · rw [gt_lt z]; exact sg _ (List.getElem_mem _)
    · rw [gt_ge (by omega)]; exact .of (by decide) (by decide)
  have h2 := w.csml (t.many + a)
  have h1 := w.ss
  have h3 : (t.scale - gt t.costs (t.many + a)).natAbs < 2 ^ (kilo + 1) := by
    unfold Sml at h1 h2
    rw [Nat.pow_succ]; omega
  exact pow_big (mul_lt_pow s1 h3) (by decide)
end
/-! ### solved -/
def spSolved : DSp := fun ds S Q => ∃ (cols : List (List Int)) (side : List Int), ds = [.lst (cols.map rowD), .lst (side.map D.int)] ∧ Inp cols side ∧ ∀ S', (∀ c, S c ≠ none → S' c = S c) → Q (.tup [.int (solF cols side).1, .lst ((solF cols side).2.map D.int)]) S'
theorem r_solved {T : Tb} (hF : T.fld = fldP) (k0 : T.mks 0 = some (("Pivots" : Str), 3, spInit)) (m3 : T.mt 3 = some (("Pivots" : Str), ("settle" : Str), 1, spSettle)) (m4 : T.mt 4 = some (("Pivots" : Str), ("times" : Str), 1, spTimes)) (m5 : T.mt 5 = some (("Pivots" : Str), ("prices" : Str), 1, spPrices))
    {ds : List D} {S : Store} {Q : DQ} (h : spSolved ds S Q) : denSs T core_solved (DD Q) (start0 N_solved.length ds) S := by
  obtain ⟨cols, side, rfl, I, q⟩ := h
  have ok := init_ok (cols := cols) (side := side)
  unfold core_solved
  refine vs_setE (make_run k0 (vs_cons (ve_slot rfl) (vs_cons (ve_slot rfl) vs_nil)) rfl fun a ha => ?_)
  refine ⟨a, cols, side, rfl, sup_same, I.sml.1, I.sml.2, I.2.2.1, by have := I.2.2.2; omega, fun r b S1 hr hb A fr => ⟨rfl, ?_⟩⟩
  have na : ∀ c, S c ≠ none → c ≠ a := fun c h e => h (by rw [e]; exact ha)
  have nr : ∀ c, S c ≠ none → c ≠ r := fun c h e => h (by rw [e, ← hr, sup_ne (Ne.symm A.ar)])
  have nb : ∀ c, S c ≠ none → c ≠ b := fun c h e => h (by rw [e, ← hb, sup_ne (Ne.symm A.ab)])
  have f1 : ∀ c, S c ≠ none → S1 c = S c := fun c h => by
    have := fr c (by rw [sup_ne (na c h)]; exact h) (na c h)
    rw [this, sup_ne (na c h)]
  have ok2 := fun n => run_ok ok n
  refine vs_ifsE ?_
  show (den T (.meth 3 (.slot 2) .nil)).v _ _ _
  refine meth_run m3 (ve_slot rfl) A.o rfl vs_nil rfl ?_
  refine ⟨a, r, b, _, side.length, cols.length, _, rfl, A, ok, fun n => wf_of I (ok2 n), fun S2 A2 fr2 => ?_⟩
  obtain ⟨okf, _⟩ := fin_ok ok
  have wf := wf_of I okf
  have f2 : ∀ c, S c ≠ none → S2 c = S c := fun c h => (fr2 c (na c h) (nr c h) (nb c h)).trans (f1 c h)
  have q2 := q S2 f2
  have sg : ∀ x ∈ (init cols side).fin.signs, Sml x := fun x hx => by
    unfold Tab.fin at hx
    rw [(run_signs _ _).1] at hx
    obtain ⟨y, _, rfl⟩ := List.mem_map.mp hx
    exact sgn_sml y
  by_cases z : gt (init cols side).fin.costs (cols.length + side.length) = 0
  · rw [decide_eq_true z]
    have es : solF cols side = (init cols side).fin.times := if_pos z
    rw [es] at q2
    show denSs T (.cons (.ret (.meth 4 (.slot 2) .nil)) .nil) _ _ S2
    refine vs_retE (meth_run m4 (ve_slot rfl) A2.o rfl vs_nil rfl ?_)
    exact ⟨a, r, b, _, _, _, rfl, A2, wf, own_pos okf, .of q2⟩
  · rw [decide_eq_false z]
    have es : solF cols side = (0, (init cols side).fin.prices) := if_neg z
    rw [es] at q2
    show denSs T (.cons (.ret (.tup (.cons (.int 0) (.cons (.meth 5 (.slot 2) .nil) .nil)))) .nil) (DD Q) _ S2
    refine vs_retE (run_tup1 ?_)
    show (den T (.meth 5 (.slot 2) .nil)).v _ S2 _
    refine meth_run m5 (ve_slot rfl) A2.o rfl vs_nil rfl ?_
    exact ⟨a, r, b, _, _, _, rfl, A2, wf, sg, (by decide : 2 ≤ sizeLine), .of q2⟩
theorem solF_big {cols : List (List Int)} {side : List Int} (I : Inp cols side) : Big (solF cols side).1 ∧ ∀ x ∈ (solF cols side).2, Big x := by
  have ok := init_ok (cols := cols) (side := side)
  obtain ⟨okf, _⟩ := fin_ok ok
  have wf := wf_of I okf
  have sg : ∀ x ∈ (init cols side).fin.signs, Sml x := fun x hx => by
    unfold Tab.fin at hx
    rw [(run_signs _ _).1] at hx
    obtain ⟨y, _, rfl⟩ := List.mem_map.mp hx
    exact sgn_sml y
  by_cases z : gt (init cols side).fin.costs (cols.length + side.length) = 0
  · have es : solF cols side = (init cols side).fin.times := if_pos z
    rw [es]; exact times_big wf (own_pos okf)
  · have es : solF cols side = (0, (init cols side).fin.prices) := if_neg z
    rw [es]; exact ⟨pow_big (x := 0) (k := 1) (by decide) (by decide), prices_big wf sg⟩
end K09
set_option Elab.async false
set_option linter.all false
set_option maxRecDepth 100000
set_option maxHeartbeats 1000000
namespace DL
open PySem L2
theorem fNe_refL {S : Store} {a : Addr} {xs : List D} {y : D} {Q : DQ} (h : S a = some (.lst xs)) (q : fNe (.lst xs) y S Q) : fNe (.ref a) y S Q := by
  obtain ⟨d, e, h1, h2⟩ := q
  refine ⟨d, e, ?_, h2⟩
  show (match S a with | some (.lst xs) => (toPys S xs).map PyData.list | _ => none) = _
  rw [h]; exact h1
end DL
namespace K09
open PySem L2 DL Piv
/-! ### the box and what is drawn -/
structure Bx where
  n : Int
  f : Bool
  r : Int
  t : Int
def Bx.o (b : Bx) : O := .lst [.int b.n, .bl b.f, .int b.r, .int b.t]
def Bx.ok (b : Bx) (k : Nat) : Prop := 0 ≤ b.r ∧ b.r < 2147483629 ∧ 0 ≤ b.t ∧ b.t ≤ k
def spTake : DSp := fun ds S Q => ∃ b many k bx, ds = [.ref b, .int many] ∧ 0 < many ∧ many < 1000 ∧ S b = some (Bx.o bx) ∧ bx.ok k ∧ k < 1000000 ∧
  ∀ r bx', 0 ≤ r → r < many → Bx.ok bx' (k + 1) → Q (.int r) (sup S b bx'.o)
theorem r_take {T : Tb} {ds : List D} {S : Store} {Q : DQ} (h : spTake ds S Q) : denSs T core__law_take (DD Q) (start0 N__law_take.length ds) S := by
  obtain ⟨b, many, k, bx, rfl, h1, h2, h3, ⟨h4, h5, h6, h7⟩, h8, q⟩ := h
  have h3 : S b = some (.lst [.int bx.n, .bl bx.f, .int bx.r, .int bx.t]) := h3
  simp only [core__law_take, N__law_take, DD, denSs, denS, den, dens, denO, denT, denI, DV.of, DV.ofB, sSeq, sRet, sRetN, sNext, sIf, sSet, sSetG, sPar, sPar3, sSetIx, sDrop, sFor, sForKeys, sBreak, sCont, dAnd, dOr, dNot, dAndT, dOrT, dNotT, dUn, dOp, dIte, dVar, dC, dTup, dLst, dNil, dCons, dCall, dCut, dPart, dNoPart, dGet1, dGet2, dApp,
  dSeq1, dRange1, dRange2, dEnum, dZip, dLc, dDc, dChain, fIsi, fBlt, fLen, fAbs, fInt1, fMax, fMin, fL1, fTuple, fList, fSorted, fDict, fBin, fCmp, fNeg, fAdd, fSub, fMul, fMod, fDiv, fPow, fInt, fInt0, fLt, fLe, fGt, fGe, fIs, fIsNot, fInD, fIx, fCut, fSeq, fRange1, fRange2, fEnum, fZip, fSetIx, fGet, fApp, fLenSet, fAug, sAug, tOf, tOfB, guardN, gset, gsets, sFrz, frz_dct, frz_lst, fEq_int, fNe_int, fEq_bl, fNe_bl, fEq_nil, fNe_nil, fEq_ints,
  TyC.name, DL.isNon, start0, List.length_cons, List.length_nil, List.map_cons, List.map_nil, List.cons_append, List.nil_append, List.getElem?_cons_zero, List.getElem?_cons_succ, List.getElem?_nil, List.set_cons_zero, List.set_cons_succ, List.set_nil, List.replicate, Nat.reduceSub, Nat.reduceAdd, mkL, mkD, dwipe, Bool.false_eq_true, if_true, if_false, ite_true, ite_false, true_and, and_true, Option.isSome_some, Option.isSome_none, Option.map_some, Option.map_none, Option.getD_some, Option.getD_none,
  tyD_non, tyD_bl, tyD_int, tyD_str, tyD_tup, tyD_lst, tyD_dct, truD_non, truD_bl, truD_int, truD_tup, truD_lst, truD_dct, asL_non, asD_non, keyD_non, asL_bl, asD_bl, keyD_bl, asL_int, asD_int, keyD_int, asL_str, asD_str, keyD_str, asL_tup, asD_tup, keyD_tup, asL_lst, asD_lst, keyD_lst, asL_dct, asD_dct, keyD_dct, asL_scr, asD_scr, keyD_scr, asL_sup, asD_sup, asL_supD, isLs_sup, tyD_supL, tyD_supD, sup_same, sup_sup, ixN_1_0, ixN_2_0, ixN_2_1, ixN_3_0, ixN_3_1, ixN_3_2, ixN_4_0, ixN_4_1, ixN_4_2, ixN_4_3, ixN_5_0, ixN_5_1, ixN_5_2, ixN_5_3, ixN_5_4, ixN_6_0, ixN_6_1, ixN_6_2, ixN_6_3, ixN_6_4, ixN_6_5, ixN_7_0, ixN_7_1, ixN_7_2, ixN_7_3, ixN_7_4, ixN_7_5, ixN_7_6, ixN_8_0, ixN_8_1, ixN_8_2, ixN_8_3, ixN_8_4, ixN_8_5, ixN_8_6, ixN_8_7, atI_0, atI_1, atI_2, atI_3, atI_4, atI_5, atI_6, atI_7, atI_8, isi_NoneType_bool, isi_NoneType_int, isi_NoneType_str, isi_NoneType_tuple, isi_NoneType_list, isi_NoneType_dict, isi_bool_bool, isi_bool_int, isi_bool_str, isi_bool_tuple, isi_bool_list, isi_bool_dict, isi_int_bool, isi_int_int, isi_int_str, isi_int_tuple, isi_int_list, isi_int_dict, isi_str_bool, isi_str_int, isi_str_str, isi_str_tuple, isi_str_list, isi_str_dict, isi_tuple_bool, isi_tuple_int, isi_tuple_str, isi_tuple_tuple, isi_tuple_list, isi_tuple_dict, isi_list_bool, isi_list_int, isi_list_str, isi_list_tuple, isi_list_list, isi_list_dict, isi_dict_bool, isi_dict_int, isi_dict_str, isi_dict_tuple, isi_dict_list, isi_dict_dict, h3, asL_ref h3]
  have e5 : 0 ≤ bx.r + 15489221 * (bx.t + 1) + 179426549 ∧ bx.r + 15489221 * (bx.t + 1) + 179426549 < 17000000000000 := by omega
  have m0 := Int.emod_nonneg ((bx.r + 15489221 * (bx.t + 1) + 179426549) ^ Int.toNat 5) (b := 2147483647) (by decide)
  have m1 := Int.emod_lt_of_pos ((bx.r + 15489221 * (bx.t + 1) + 179426549) ^ Int.toNat 5) (b := 2147483647) (by decide)
  generalize (bx.r + 15489221 * (bx.t + 1) + 179426549) ^ Int.toNat 5 % 2147483647 = mx at *
  split
  · split
    · exact ⟨h1, cdivW h1 (.of (by omega) (by omega)), .of (q _ ⟨bx.n / many, bx.f, bx.r, bx.t⟩ (Int.emod_nonneg _ (by omega)) (Int.emod_lt_of_pos _ h1) ⟨h4, h5, h6, by show bx.t ≤ _; omega⟩)⟩
    · exact ⟨cmulW (.of (by decide) (by decide)) (.of (by omega) (by omega)), cpow (by omega) (by omega) (by decide) (by decide), by decide, cmulW (.of (by omega) (by omega)) (.of (by decide) (by decide)), cmulW (.of (by decide) (by decide)) (.of (by omega) (by omega)),
        cpow (by omega) (by omega) (by decide) (by decide), by decide, cdivW (by decide) (.of (by decide) (by decide)), h1, .of (q _ ⟨bx.n, bx.f, bx.r, bx.t + 1⟩ (Int.emod_nonneg _ (by omega)) (Int.emod_lt_of_pos _ h1) ⟨h4, h5, by show 0 ≤ bx.t + 1; omega, by show bx.t + 1 ≤ _; omega⟩)⟩
  · exact ⟨cmulW (.of (by decide) (by decide)) (.of (by omega) (by omega)), cpow (by omega) (by omega) (by decide) (by decide), by decide, cmulW (.of (by omega) (by omega)) (.of (by decide) (by decide)), cmulW (.of (by decide) (by decide)) (.of (by omega) (by omega)),
        cpow (by omega) (by omega) (by decide) (by decide), by decide, cdivW (by decide) (.of (by decide) (by decide)), h1, .of (q _ ⟨bx.n, bx.f, bx.r, bx.t + 1⟩ (Int.emod_nonneg _ (by omega)) (Int.emod_lt_of_pos _ h1) ⟨h4, h5, by show 0 ≤ bx.t + 1; omega, by show bx.t + 1 ≤ _; omega⟩)⟩
def spBox : DSp := fun ds S Q => ∃ g, ds = [.int g] ∧ ∀ b bx, S b = none → Bx.ok bx 0 → Q (.ref b) (sup S b bx.o)
theorem r_box {T : Tb} {ds : List D} {S : Store} {Q : DQ} (h : spBox ds S Q) : denSs T core__law_box (DD Q) (start0 N__law_box.length ds) S := by
  obtain ⟨g, rfl, q⟩ := h
  simp only [core__law_box, N__law_box, DD, denSs, denS, den, dens, denO, denT, denI, DV.of, DV.ofB, sSeq, sRet, sRetN, sNext, sIf, sSet, sSetG, sPar, sPar3, sSetIx, sDrop, sFor, sForKeys, sBreak, sCont, dAnd, dOr, dNot, dAndT, dOrT, dNotT, dUn, dOp, dIte, dVar, dC, dTup, dLst, dNil, dCons, dCall, dCut, dPart, dNoPart, dGet1, dGet2, dApp,
  dSeq1, dRange1, dRange2, dEnum, dZip, dLc, dDc, dChain, fIsi, fBlt, fLen, fAbs, fInt1, fMax, fMin, fL1, fTuple, fList, fSorted, fDict, fBin, fCmp, fNeg, fAdd, fSub, fMul, fMod, fDiv, fPow, fInt, fInt0, fLt, fLe, fGt, fGe, fIs, fIsNot, fInD, fIx, fCut, fSeq, fRange1, fRange2, fEnum, fZip, fSetIx, fGet, fApp, fLenSet, fAug, sAug, tOf, tOfB, guardN, gset, gsets, sFrz, frz_dct, frz_lst, fEq_int, fNe_int, fEq_bl, fNe_bl, fEq_nil, fNe_nil, fEq_ints,
  TyC.name, DL.isNon, start0, List.length_cons, List.length_nil, List.map_cons, List.map_nil, List.cons_append, List.nil_append, List.getElem?_cons_zero, List.getElem?_cons_succ, List.getElem?_nil, List.set_cons_zero, List.set_cons_succ, List.set_nil, List.replicate, Nat.reduceSub, Nat.reduceAdd, mkL, mkD, dwipe, Bool.false_eq_true, if_true, if_false, ite_true, ite_false, true_and, and_true, Option.isSome_some, Option.isSome_none, Option.map_some, Option.map_none, Option.getD_some, Option.getD_none,
  tyD_non, tyD_bl, tyD_int, tyD_str, tyD_tup, tyD_lst, tyD_dct, truD_non, truD_bl, truD_int, truD_tup, truD_lst, truD_dct, asL_non, asD_non, keyD_non, asL_bl, asD_bl, keyD_bl, asL_int, asD_int, keyD_int, asL_str, asD_str, keyD_str, asL_tup, asD_tup, keyD_tup, asL_lst, asD_lst, keyD_lst, asL_dct, asD_dct, keyD_dct, asL_scr, asD_scr, keyD_scr, asL_sup, asD_sup, asL_supD, isLs_sup, tyD_supL, tyD_supD, sup_same, sup_sup, ixN_1_0, ixN_2_0, ixN_2_1, ixN_3_0, ixN_3_1, ixN_3_2, ixN_4_0, ixN_4_1, ixN_4_2, ixN_4_3, ixN_5_0, ixN_5_1, ixN_5_2, ixN_5_3, ixN_5_4, ixN_6_0, ixN_6_1, ixN_6_2, ixN_6_3, ixN_6_4, ixN_6_5, ixN_7_0, ixN_7_1, ixN_7_2, ixN_7_3, ixN_7_4, ixN_7_5, ixN_7_6, ixN_8_0, ixN_8_1, ixN_8_2, ixN_8_3, ixN_8_4, ixN_8_5, ixN_8_6, ixN_8_7, atI_0, atI_1, atI_2, atI_3, atI_4, atI_5, atI_6, atI_7, atI_8, isi_NoneType_bool, isi_NoneType_int, isi_NoneType_str, isi_NoneType_tuple, isi_NoneType_list, isi_NoneType_dict, isi_bool_bool, isi_bool_int, isi_bool_str, isi_bool_tuple, isi_bool_list, isi_bool_dict, isi_int_bool, isi_int_int, isi_int_str, isi_int_tuple, isi_int_list, isi_int_dict, isi_str_bool, isi_str_int, isi_str_str, isi_str_tuple, isi_str_list, isi_str_dict, isi_tuple_bool, isi_tuple_int, isi_tuple_str, isi_tuple_tuple, isi_tuple_list, isi_tuple_dict, isi_list_bool, isi_list_int, isi_list_str, isi_list_tuple, isi_list_list, isi_list_dict, isi_dict_bool, isi_dict_int, isi_dict_str, isi_dict_tuple, isi_dict_list, isi_dict_dict]
  refine ⟨cpow (by decide) (by decide) (by decide) (by decide), by decide, by decide, fun p hp => .of ?_⟩
  exact q p ⟨_, _, _, _⟩ hp ⟨Int.emod_nonneg _ (by decide), Int.emod_lt_of_pos _ (by decide), Int.le_refl 0, Int.le_refl 0⟩
def spCell : DSp := fun ds S Q => ∃ ns k, ds = [.scr ns, .int k] ∧ 0 ≤ k ∧ k < 1000 ∧ ∀ g, Q (.int g) S
theorem r_cell {T : Tb} {ds : List D} {S : Store} {Q : DQ} (h : spCell ds S Q) : denSs T core__law_cell (DD Q) (start0 N__law_cell.length ds) S := by
  obtain ⟨ns, k, rfl, h1, h2, q⟩ := h
  simp only [core__law_cell, N__law_cell, DD, denSs, denS, den, dens, denO, denT, denI, DV.of, DV.ofB, sSeq, sRet, sRetN, sNext, sIf, sSet, sSetG, sPar, sPar3, sSetIx, sDrop, sFor, sForKeys, sBreak, sCont, dAnd, dOr, dNot, dAndT, dOrT, dNotT, dUn, dOp, dIte, dVar, dC, dTup, dLst, dNil, dCons, dCall, dCut, dPart, dNoPart, dGet1, dGet2, dApp,
  dSeq1, dRange1, dRange2, dEnum, dZip, dLc, dDc, dChain, fIsi, fBlt, fLen, fAbs, fInt1, fMax, fMin, fL1, fTuple, fList, fSorted, fDict, fBin, fCmp, fNeg, fAdd, fSub, fMul, fMod, fDiv, fPow, fInt, fInt0, fLt, fLe, fGt, fGe, fIs, fIsNot, fInD, fIx, fCut, fSeq, fRange1, fRange2, fEnum, fZip, fSetIx, fGet, fApp, fLenSet, fAug, sAug, tOf, tOfB, guardN, gset, gsets, sFrz, frz_dct, frz_lst, fEq_int, fNe_int, fEq_bl, fNe_bl, fEq_nil, fNe_nil, fEq_ints,
  TyC.name, DL.isNon, start0, List.length_cons, List.length_nil, List.map_cons, List.map_nil, List.cons_append, List.nil_append, List.getElem?_cons_zero, List.getElem?_cons_succ, List.getElem?_nil, List.set_cons_zero, List.set_cons_succ, List.set_nil, List.replicate, Nat.reduceSub, Nat.reduceAdd, mkL, mkD, dwipe, Bool.false_eq_true, if_true, if_false, ite_true, ite_false, true_and, and_true, Option.isSome_some, Option.isSome_none, Option.map_some, Option.map_none, Option.getD_some, Option.getD_none,
  tyD_non, tyD_bl, tyD_int, tyD_str, tyD_tup, tyD_lst, tyD_dct, truD_non, truD_bl, truD_int, truD_tup, truD_lst, truD_dct, asL_non, asD_non, keyD_non, asL_bl, asD_bl, keyD_bl, asL_int, asD_int, keyD_int, asL_str, asD_str, keyD_str, asL_tup, asD_tup, keyD_tup, asL_lst, asD_lst, keyD_lst, asL_dct, asD_dct, keyD_dct, asL_scr, asD_scr, keyD_scr, asL_sup, asD_sup, asL_supD, isLs_sup, tyD_supL, tyD_supD, sup_same, sup_sup, ixN_1_0, ixN_2_0, ixN_2_1, ixN_3_0, ixN_3_1, ixN_3_2, ixN_4_0, ixN_4_1, ixN_4_2, ixN_4_3, ixN_5_0, ixN_5_1, ixN_5_2, ixN_5_3, ixN_5_4, ixN_6_0, ixN_6_1, ixN_6_2, ixN_6_3, ixN_6_4, ixN_6_5, ixN_7_0, ixN_7_1, ixN_7_2, ixN_7_3, ixN_7_4, ixN_7_5, ixN_7_6, ixN_8_0, ixN_8_1, ixN_8_2, ixN_8_3, ixN_8_4, ixN_8_5, ixN_8_6, ixN_8_7, atI_0, atI_1, atI_2, atI_3, atI_4, atI_5, atI_6, atI_7, atI_8, isi_NoneType_bool, isi_NoneType_int, isi_NoneType_str, isi_NoneType_tuple, isi_NoneType_list, isi_NoneType_dict, isi_bool_bool, isi_bool_int, isi_bool_str, isi_bool_tuple, isi_bool_list, isi_bool_dict, isi_int_bool, isi_int_int, isi_int_str, isi_int_tuple, isi_int_list, isi_int_dict, isi_str_bool, isi_str_int, isi_str_str, isi_str_tuple, isi_str_list, isi_str_dict, isi_tuple_bool, isi_tuple_int, isi_tuple_str, isi_tuple_tuple, isi_tuple_list, isi_tuple_dict, isi_list_bool, isi_list_int, isi_list_str, isi_list_tuple, isi_list_list, isi_list_dict, isi_dict_bool, isi_dict_int, isi_dict_str, isi_dict_tuple, isi_dict_list, isi_dict_dict]
  split
  · rename_i hk
    rw [decide_eq_true_eq] at hk
    rw [atI_pos h1 hk]
    exact .of (q _)
  · have e : cutD (ns.map D.int) none (some 1) = (ns.take 1).map D.int := by
      unfold cutD
      have e1 : HT.sIx (ns.map D.int).length 0 none = 0 := rfl
      have e2 : HT.sIx (ns.map D.int).length (ns.map D.int).length (some 1) = min 1 ns.length := by
        rw [List.length_map]
        unfold HT.sIx
        show (if (1 : Int) < 0 then _ else min (1 : Int).toNat ns.length) = _
        rw [if_neg (by decide)]; rfl
      rw [e1, e2, List.drop_zero, ← List.map_take]
      congr 1
      cases ns with
      | nil => rfl
      | cons a r => simp
    rw [e, asInts_map]
    exact ⟨cmulW (.of (by decide) (by decide)) (.of (by omega) (by omega)), by decide, .of (q _)⟩
/-! ### the law's own looking at what is told: two things that stand for one tree -/
inductive Tre where
  | non | bl (b : Bool) | int (i : Int) | tup (ts : List Tre) | lst (ts : List Tre)
inductive Stn (S : Store) : Nat → D → Tre → Prop
  | non (n : Nat) : Stn S n .non .non
  | bl (n : Nat) (b : Bool) : Stn S n (.bl b) (.bl b)
  | int (n : Nat) (i : Int) : Stn S n (.int i) (.int i)
  | tup {n : Nat} {xs : List D} {ts : List Tre} (hl : xs.length = ts.length) (hz : xs.length ≤ 1000) (h : ∀ (i : Nat) (x : D) (t : Tre), xs[i]? = some x → ts[i]? = some t → Stn S n x t) : Stn S (n + 1) (.tup xs) (.tup ts)
  | lst {n : Nat} {d : D} {xs : List D} {ts : List Tre} (hd : asL S d = some xs) (hl : xs.length = ts.length) (hz : xs.length ≤ 1000) (h : ∀ (i : Nat) (x : D) (t : Tre), xs[i]? = some x → ts[i]? = some t → Stn S n x t) : Stn S (n + 1) d (.lst ts)
def spSame (n : Nat) : DSp := fun ds S Q => ∃ d e t, ds = [d, e] ∧ Stn S n d t ∧ Stn S n e t ∧ Q (.bl true) S
theorem asL_cases {S : Store} {d : D} {xs : List D} (h : asL S d = some xs) : d = .lst xs ∨ ∃ a, d = .ref a ∧ S a = some (.lst xs) := by
  cases d <;> first | (cases h; done) | skip
  · cases h; exact .inl rfl
  · rename_i a
    simp only [asL] at h
    split at h
    · rename_i ys e; cases h; exact .inr ⟨a, rfl, e⟩
    · cases h
theorem fIx_seq {S : Store} {d : D} {xs : List D} {i : Int} {x : D} {Q : DQ} (h : d = .tup xs ∨ asL S d = some xs) (e : atI xs i = some x) (q : Q x S) : fIx d (.int i) S Q := by
  rcases h with rfl | h
  · show (match atI xs i with | some d => Q d S | none => False)
    rw [e]; exact q
  · rcases asL_cases h with rfl | ⟨a, rfl, h3⟩
    · show (match atI xs i with | some d => Q d S | none => False)
      rw [e]; exact q
    · have h2 : asL S (.ref a) = some xs := asL_ref h3
      simp only [fIx, h2, e]; exact q
theorem same_list {S : Store} {n : Nat} {d e : D} {xs ys : List D} {ts : List Tre} {Q : List D → Store → Prop} (hd : d = .tup xs ∨ asL S d = some xs) (he : e = .tup ys ∨ asL S e = some ys) (hl : xs.length = ts.length) (hl2 : ys.length = ts.length)
    (h : ∀ (i : Nat) (x : D) (t : Tre), xs[i]? = some x → ts[i]? = some t → Stn S n x t) (h2 : ∀ (i : Nat) (x : D) (t : Tre), ys[i]? = some x → ts[i]? = some t → Stn S n x t) (q : Q [] S) :
    lcL (fun x => True) (CG.slot 2) [2] (dNotT (tOf (dCall (guardN 2 (spSame n)) (dCons (dOp fIx (dVar 0) (dVar 2)) (dCons (dOp fIx (dVar 1) (dVar 2)) dNil))))) (dVar 2) [some d, some e, none] (rangeD 0 (ys.length : Int)) [] S Q := by
  refine lcL_pure (p := fun _ => false) (f := fun d => d) trivial _ _ (fun x hx => ?_) ?_
  · unfold rangeD at hx
    obtain ⟨i, hi, rfl⟩ := List.mem_map.mp hx
    rw [List.mem_range] at hi
    have hi : i < ys.length := by omega
    refine ⟨_, rfl, fun Q' q' => ?_, fun z => (by cases z)⟩
    have e1 : atI xs (0 + (i : Int)) = some (xs[i]'(by omega)) := by
      rw [Int.zero_add, atI_pos (Int.natCast_nonneg i) (by omega)]
      simp
    have e2 : atI ys (0 + (i : Int)) = some (ys[i]'hi) := by
      rw [Int.zero_add, atI_pos (Int.natCast_nonneg i) (by omega)]
      simp
    refine (show fIx d (.int (0 + (i : Int))) S (fun x S1 => fIx e (.int (0 + (i : Int))) S1 (fun y S2 => guardN 2 (spSame n) [x, y] S2 (fun r S3 => match truD S3 r with | some k => Q' (!k) S3 | none => False))) from ?_)
    refine fIx_seq hd e1 (fIx_seq he e2 ?_)
    refine ⟨rfl, _, _, ts[i]'(by omega), rfl, h i _ _ (List.getElem?_eq_getElem _) (List.getElem?_eq_getElem _), h2 i _ _ (List.getElem?_eq_getElem _) (List.getElem?_eq_getElem _), q'⟩
  · have e : (rangeD 0 (ys.length : Int)).filter (fun _ => false) = [] := by
      rw [List.filter_eq_nil_iff]; intro a _ z; cases z
    rw [e]; exact q
theorem r_law_same {T : Tb} {n : Nat} (h15 : T.fn 5 = some (2, match n with | 0 => fun _ _ _ => False | n + 1 => spSame n)) {ds : List D} {S : Store} {Q : DQ} (h : spSame n ds S Q) : denSs T core__law_same (DD Q) (start0 N__law_same.length ds) S := by
  obtain ⟨d, e, t, rfl, hd, he, q⟩ := h
  have hsz : (1000 : Nat) ≤ sizeLine := by decide
  cases hd with
  | non => cases he; simp only [core__law_same, N__law_same, DD, denSs, denS, den, dens, denO, denT, denI, DV.of, DV.ofB, sSeq, sRet, sRetN, sNext, sIf, sSet, sSetG, sPar, sPar3, sSetIx, sDrop, sFor, sForKeys, sBreak, sCont, dAnd, dOr, dNot, dAndT, dOrT, dNotT, dUn, dOp, dIte, dVar, dC, dTup, dLst, dNil, dCons, dCall, dCut, dPart, dNoPart, dGet1, dGet2, dApp,
  dSeq1, dRange1, dRange2, dEnum, dZip, dLc, dDc, dChain, fIsi, fBlt, fLen, fAbs, fInt1, fMax, fMin, fL1, fTuple, fList, fSorted, fDict, fBin, fCmp, fNeg, fAdd, fSub, fMul, fMod, fDiv, fPow, fInt, fInt0, fLt, fLe, fGt, fGe, fIs, fIsNot, fInD, fIx, fCut, fSeq, fRange1, fRange2, fEnum, fZip, fSetIx, fGet, fApp, fLenSet, fAug, sAug, tOf, tOfB, guardN, gset, gsets, sFrz, frz_dct, frz_lst, fEq_int, fNe_int, fEq_bl, fNe_bl, fEq_nil, fNe_nil, fEq_ints,
  TyC.name, DL.isNon, start0, List.length_cons, List.length_nil, List.map_cons, List.map_nil, List.cons_append, List.nil_append, List.getElem?_cons_zero, List.getElem?_cons_succ, List.getElem?_nil, List.set_cons_zero, List.set_cons_succ, List.set_nil, List.replicate, Nat.reduceSub, Nat.reduceAdd, mkL, mkD, dwipe, Bool.false_eq_true, if_true, if_false, ite_true, ite_false, true_and, and_true, Option.isSome_some, Option.isSome_none, Option.map_some, Option.map_none, Option.getD_some, Option.getD_none,
  tyD_non, tyD_bl, tyD_int, tyD_str, tyD_tup, tyD_lst, tyD_dct, truD_non, truD_bl, truD_int, truD_tup, truD_lst, truD_dct, asL_non, asD_non, keyD_non, asL_bl, asD_bl, keyD_bl, asL_int, asD_int, keyD_int, asL_str, asD_str, keyD_str, asL_tup, asD_tup, keyD_tup, asL_lst, asD_lst, keyD_lst, asL_dct, asD_dct, keyD_dct, asL_scr, asD_scr, keyD_scr, asL_sup, asD_sup, asL_supD, isLs_sup, tyD_supL, tyD_supD, sup_same, sup_sup, ixN_1_0, ixN_2_0, ixN_2_1, ixN_3_0, ixN_3_1, ixN_3_2, ixN_4_0, ixN_4_1, ixN_4_2, ixN_4_3, ixN_5_0, ixN_5_1, ixN_5_2, ixN_5_3, ixN_5_4, ixN_6_0, ixN_6_1, ixN_6_2, ixN_6_3, ixN_6_4, ixN_6_5, ixN_7_0, ixN_7_1, ixN_7_2, ixN_7_3, ixN_7_4, ixN_7_5, ixN_7_6, ixN_8_0, ixN_8_1, ixN_8_2, ixN_8_3, ixN_8_4, ixN_8_5, ixN_8_6, ixN_8_7, atI_0, atI_1, atI_2, atI_3, atI_4, atI_5, atI_6, atI_7, atI_8, isi_NoneType_bool, isi_NoneType_int, isi_NoneType_str, isi_NoneType_tuple, isi_NoneType_list, isi_NoneType_dict, isi_bool_bool, isi_bool_int, isi_bool_str, isi_bool_tuple, isi_bool_list, isi_bool_dict, isi_int_bool, isi_int_int, isi_int_str, isi_int_tuple, isi_int_list, isi_int_dict, isi_str_bool, isi_str_int, isi_str_str, isi_str_tuple, isi_str_list, isi_str_dict, isi_tuple_bool, isi_tuple_int, isi_tuple_str, isi_tuple_tuple, isi_tuple_list, isi_tuple_dict, isi_list_bool, isi_list_int, isi_list_str, isi_list_tuple, isi_list_list, isi_list_dict, isi_dict_bool, isi_dict_int, isi_dict_str, isi_dict_tuple, isi_dict_list, isi_dict_dict]; exact .of q
  | bl _ b =>
    cases he
    cases b <;> (simp only [core__law_same, N__law_same, DD, denSs, denS, den, dens, denO, denT, denI, DV.of, DV.ofB, sSeq, sRet, sRetN, sNext, sIf, sSet, sSetG, sPar, sPar3, sSetIx, sDrop, sFor, sForKeys, sBreak, sCont, dAnd, dOr, dNot, dAndT, dOrT, dNotT, dUn, dOp, dIte, dVar, dC, dTup, dLst, dNil, dCons, dCall, dCut, dPart, dNoPart, dGet1, dGet2, dApp,
  dSeq1, dRange1, dRange2, dEnum, dZip, dLc, dDc, dChain, fIsi, fBlt, fLen, fAbs, fInt1, fMax, fMin, fL1, fTuple, fList, fSorted, fDict, fBin, fCmp, fNeg, fAdd, fSub, fMul, fMod, fDiv, fPow, fInt, fInt0, fLt, fLe, fGt, fGe, fIs, fIsNot, fInD, fIx, fCut, fSeq, fRange1, fRange2, fEnum, fZip, fSetIx, fGet, fApp, fLenSet, fAug, sAug, tOf, tOfB, guardN, gset, gsets, sFrz, frz_dct, frz_lst, fEq_int, fNe_int, fEq_bl, fNe_bl, fEq_nil, fNe_nil, fEq_ints,
  TyC.name, DL.isNon, start0, List.length_cons, List.length_nil, List.map_cons, List.map_nil, List.cons_append, List.nil_append, List.getElem?_cons_zero, List.getElem?_cons_succ, List.getElem?_nil, List.set_cons_zero, List.set_cons_succ, List.set_nil, List.replicate, Nat.reduceSub, Nat.reduceAdd, mkL, mkD, dwipe, Bool.false_eq_true, if_true, if_false, ite_true, ite_false, true_and, and_true, Option.isSome_some, Option.isSome_none, Option.map_some, Option.map_none, Option.getD_some, Option.getD_none,
  tyD_non, tyD_bl, tyD_int, tyD_str, tyD_tup, tyD_lst, tyD_dct, truD_non, truD_bl, truD_int, truD_tup, truD_lst, truD_dct, asL_non, asD_non, keyD_non, asL_bl, asD_bl, keyD_bl, asL_int, asD_int, keyD_int, asL_str, asD_str, keyD_str, asL_tup, asD_tup, keyD_tup, asL_lst, asD_lst, keyD_lst, asL_dct, asD_dct, keyD_dct, asL_scr, asD_scr, keyD_scr, asL_sup, asD_sup, asL_supD, isLs_sup, tyD_supL, tyD_supD, sup_same, sup_sup, ixN_1_0, ixN_2_0, ixN_2_1, ixN_3_0, ixN_3_1, ixN_3_2, ixN_4_0, ixN_4_1, ixN_4_2, ixN_4_3, ixN_5_0, ixN_5_1, ixN_5_2, ixN_5_3, ixN_5_4, ixN_6_0, ixN_6_1, ixN_6_2, ixN_6_3, ixN_6_4, ixN_6_5, ixN_7_0, ixN_7_1, ixN_7_2, ixN_7_3, ixN_7_4, ixN_7_5, ixN_7_6, ixN_8_0, ixN_8_1, ixN_8_2, ixN_8_3, ixN_8_4, ixN_8_5, ixN_8_6, ixN_8_7, atI_0, atI_1, atI_2, atI_3, atI_4, atI_5, atI_6, atI_7, atI_8, isi_NoneType_bool, isi_NoneType_int, isi_NoneType_str, isi_NoneType_tuple, isi_NoneType_list, isi_NoneType_dict, isi_bool_bool, isi_bool_int, isi_bool_str, isi_bool_tuple, isi_bool_list, isi_bool_dict, isi_int_bool, isi_int_int, isi_int_str, isi_int_tuple, isi_int_list, isi_int_dict, isi_str_bool, isi_str_int, isi_str_str, isi_str_tuple, isi_str_list, isi_str_dict, isi_tuple_bool, isi_tuple_int, isi_tuple_str, isi_tuple_tuple, isi_tuple_list, isi_tuple_dict, isi_list_bool, isi_list_int, isi_list_str, isi_list_tuple, isi_list_list, isi_list_dict, isi_dict_bool, isi_dict_int, isi_dict_str, isi_dict_tuple, isi_dict_list, isi_dict_dict]; exact .of q)
  | int _ i =>
    cases he
    simp only [core__law_same, N__law_same, DD, denSs, denS, den, dens, denO, denT, denI, DV.of, DV.ofB, sSeq, sRet, sRetN, sNext, sIf, sSet, sSetG, sPar, sPar3, sSetIx, sDrop, sFor, sForKeys, sBreak, sCont, dAnd, dOr, dNot, dAndT, dOrT, dNotT, dUn, dOp, dIte, dVar, dC, dTup, dLst, dNil, dCons, dCall, dCut, dPart, dNoPart, dGet1, dGet2, dApp,
  dSeq1, dRange1, dRange2, dEnum, dZip, dLc, dDc, dChain, fIsi, fBlt, fLen, fAbs, fInt1, fMax, fMin, fL1, fTuple, fList, fSorted, fDict, fBin, fCmp, fNeg, fAdd, fSub, fMul, fMod, fDiv, fPow, fInt, fInt0, fLt, fLe, fGt, fGe, fIs, fIsNot, fInD, fIx, fCut, fSeq, fRange1, fRange2, fEnum, fZip, fSetIx, fGet, fApp, fLenSet, fAug, sAug, tOf, tOfB, guardN, gset, gsets, sFrz, frz_dct, frz_lst, fEq_int, fNe_int, fEq_bl, fNe_bl, fEq_nil, fNe_nil, fEq_ints,
  TyC.name, DL.isNon, start0, List.length_cons, List.length_nil, List.map_cons, List.map_nil, List.cons_append, List.nil_append, List.getElem?_cons_zero, List.getElem?_cons_succ, List.getElem?_nil, List.set_cons_zero, List.set_cons_succ, List.set_nil, List.replicate, Nat.reduceSub, Nat.reduceAdd, mkL, mkD, dwipe, Bool.false_eq_true, if_true, if_false, ite_true, ite_false, true_and, and_true, Option.isSome_some, Option.isSome_none, Option.map_some, Option.map_none, Option.getD_some, Option.getD_none,
  tyD_non, tyD_bl, tyD_int, tyD_str, tyD_tup, tyD_lst, tyD_dct, truD_non, truD_bl, truD_int, truD_tup, truD_lst, truD_dct, asL_non, asD_non, keyD_non, asL_bl, asD_bl, keyD_bl, asL_int, asD_int, keyD_int, asL_str, asD_str, keyD_str, asL_tup, asD_tup, keyD_tup, asL_lst, asD_lst, keyD_lst, asL_dct, asD_dct, keyD_dct, asL_scr, asD_scr, keyD_scr, asL_sup, asD_sup, asL_supD, isLs_sup, tyD_supL, tyD_supD, sup_same, sup_sup, ixN_1_0, ixN_2_0, ixN_2_1, ixN_3_0, ixN_3_1, ixN_3_2, ixN_4_0, ixN_4_1, ixN_4_2, ixN_4_3, ixN_5_0, ixN_5_1, ixN_5_2, ixN_5_3, ixN_5_4, ixN_6_0, ixN_6_1, ixN_6_2, ixN_6_3, ixN_6_4, ixN_6_5, ixN_7_0, ixN_7_1, ixN_7_2, ixN_7_3, ixN_7_4, ixN_7_5, ixN_7_6, ixN_8_0, ixN_8_1, ixN_8_2, ixN_8_3, ixN_8_4, ixN_8_5, ixN_8_6, ixN_8_7, atI_0, atI_1, atI_2, atI_3, atI_4, atI_5, atI_6, atI_7, atI_8, isi_NoneType_bool, isi_NoneType_int, isi_NoneType_str, isi_NoneType_tuple, isi_NoneType_list, isi_NoneType_dict, isi_bool_bool, isi_bool_int, isi_bool_str, isi_bool_tuple, isi_bool_list, isi_bool_dict, isi_int_bool, isi_int_int, isi_int_str, isi_int_tuple, isi_int_list, isi_int_dict, isi_str_bool, isi_str_int, isi_str_str, isi_str_tuple, isi_str_list, isi_str_dict, isi_tuple_bool, isi_tuple_int, isi_tuple_str, isi_tuple_tuple, isi_tuple_list, isi_tuple_dict, isi_list_bool, isi_list_int, isi_list_str, isi_list_tuple, isi_list_list, isi_list_dict, isi_dict_bool, isi_dict_int, isi_dict_str, isi_dict_tuple, isi_dict_list, isi_dict_dict, Bool.not_false, Int.sub_self, decide_true]
    exact .of q
  | @tup n xs ts hl hz h =>
    cases he with
    | @tup _ ys _ hl2 hz2 h2 =>
      simp only [core__law_same, N__law_same, DD, denSs, denS, den, dens, denO, denT, denI, DV.of, DV.ofB, sSeq, sRet, sRetN, sNext, sIf, sSet, sSetG, sPar, sPar3, sSetIx, sDrop, sFor, sForKeys, sBreak, sCont, dAnd, dOr, dNot, dAndT, dOrT, dNotT, dUn, dOp, dIte, dVar, dC, dTup, dLst, dNil, dCons, dCall, dCut, dPart, dNoPart, dGet1, dGet2, dApp,
  dSeq1, dRange1, dRange2, dEnum, dZip, dLc, dDc, dChain, fIsi, fBlt, fLen, fAbs, fInt1, fMax, fMin, fL1, fTuple, fList, fSorted, fDict, fBin, fCmp, fNeg, fAdd, fSub, fMul, fMod, fDiv, fPow, fInt, fInt0, fLt, fLe, fGt, fGe, fIs, fIsNot, fInD, fIx, fCut, fSeq, fRange1, fRange2, fEnum, fZip, fSetIx, fGet, fApp, fLenSet, fAug, sAug, tOf, tOfB, guardN, gset, gsets, sFrz, frz_dct, frz_lst, fEq_int, fNe_int, fEq_bl, fNe_bl, fEq_nil, fNe_nil, fEq_ints,
  TyC.name, DL.isNon, start0, List.length_cons, List.length_nil, List.map_cons, List.map_nil, List.cons_append, List.nil_append, List.getElem?_cons_zero, List.getElem?_cons_succ, List.getElem?_nil, List.set_cons_zero, List.set_cons_succ, List.set_nil, List.replicate, Nat.reduceSub, Nat.reduceAdd, mkL, mkD, dwipe, Bool.false_eq_true, if_true, if_false, ite_true, ite_false, true_and, and_true, Option.isSome_some, Option.isSome_none, Option.map_some, Option.map_none, Option.getD_some, Option.getD_none,
  tyD_non, tyD_bl, tyD_int, tyD_str, tyD_tup, tyD_lst, tyD_dct, truD_non, truD_bl, truD_int, truD_tup, truD_lst, truD_dct, asL_non, asD_non, keyD_non, asL_bl, asD_bl, keyD_bl, asL_int, asD_int, keyD_int, asL_str, asD_str, keyD_str, asL_tup, asD_tup, keyD_tup, asL_lst, asD_lst, keyD_lst, asL_dct, asD_dct, keyD_dct, asL_scr, asD_scr, keyD_scr, asL_sup, asD_sup, asL_supD, isLs_sup, tyD_supL, tyD_supD, sup_same, sup_sup, ixN_1_0, ixN_2_0, ixN_2_1, ixN_3_0, ixN_3_1, ixN_3_2, ixN_4_0, ixN_4_1, ixN_4_2, ixN_4_3, ixN_5_0, ixN_5_1, ixN_5_2, ixN_5_3, ixN_5_4, ixN_6_0, ixN_6_1, ixN_6_2, ixN_6_3, ixN_6_4, ixN_6_5, ixN_7_0, ixN_7_1, ixN_7_2, ixN_7_3, ixN_7_4, ixN_7_5, ixN_7_6, ixN_8_0, ixN_8_1, ixN_8_2, ixN_8_3, ixN_8_4, ixN_8_5, ixN_8_6, ixN_8_7, atI_0, atI_1, atI_2, atI_3, atI_4, atI_5, atI_6, atI_7, atI_8, isi_NoneType_bool, isi_NoneType_int, isi_NoneType_str, isi_NoneType_tuple, isi_NoneType_list, isi_NoneType_dict, isi_bool_bool, isi_bool_int, isi_bool_str, isi_bool_tuple, isi_bool_list, isi_bool_dict, isi_int_bool, isi_int_int, isi_int_str, isi_int_tuple, isi_int_list, isi_int_dict, isi_str_bool, isi_str_int, isi_str_str, isi_str_tuple, isi_str_list, isi_str_dict, isi_tuple_bool, isi_tuple_int, isi_tuple_str, isi_tuple_tuple, isi_tuple_list, isi_tuple_dict, isi_list_bool, isi_list_int, isi_list_str, isi_list_tuple, isi_list_list, isi_list_dict, isi_dict_bool, isi_dict_int, isi_dict_str, isi_dict_tuple, isi_dict_list, isi_dict_dict, h15, Bool.not_false, Bool.not_true]
      rw [if_neg (by decide), if_neg (by decide), if_pos (by rw [hl, hl2]; simp)]
      refine ⟨by omega, by omega, same_list (.inl rfl) (.inl rfl) hl hl2 h h2 ⟨Nat.zero_le _, ?_⟩⟩
      rw [fEq_nil]; exact .of q
  | @lst n d xs ts hd hl hz h =>
    cases he with
    | @lst _ _ ys _ hd2 hl2 hz2 h2 =>
      have hd0 := hd
      have he0 := hd2
      rcases asL_cases hd with rfl | ⟨a, rfl, hda⟩ <;> rcases asL_cases hd2 with rfl | ⟨b, rfl, hdb⟩
      · simp only [core__law_same, N__law_same, DD, denSs, denS, den, dens, denO, denT, denI, DV.of, DV.ofB, sSeq, sRet, sRetN, sNext, sIf, sSet, sSetG, sPar, sPar3, sSetIx, sDrop, sFor, sForKeys, sBreak, sCont, dAnd, dOr, dNot, dAndT, dOrT, dNotT, dUn, dOp, dIte, dVar, dC, dTup, dLst, dNil, dCons, dCall, dCut, dPart, dNoPart, dGet1, dGet2, dApp,
  dSeq1, dRange1, dRange2, dEnum, dZip, dLc, dDc, dChain, fIsi, fBlt, fLen, fAbs, fInt1, fMax, fMin, fL1, fTuple, fList, fSorted, fDict, fBin, fCmp, fNeg, fAdd, fSub, fMul, fMod, fDiv, fPow, fInt, fInt0, fLt, fLe, fGt, fGe, fIs, fIsNot, fInD, fIx, fCut, fSeq, fRange1, fRange2, fEnum, fZip, fSetIx, fGet, fApp, fLenSet, fAug, sAug, tOf, tOfB, guardN, gset, gsets, sFrz, frz_dct, frz_lst, fEq_int, fNe_int, fEq_bl, fNe_bl, fEq_nil, fNe_nil, fEq_ints,
  TyC.name, DL.isNon, start0, List.length_cons, List.length_nil, List.map_cons, List.map_nil, List.cons_append, List.nil_append, List.getElem?_cons_zero, List.getElem?_cons_succ, List.getElem?_nil, List.set_cons_zero, List.set_cons_succ, List.set_nil, List.replicate, Nat.reduceSub, Nat.reduceAdd, mkL, mkD, dwipe, Bool.false_eq_true, if_true, if_false, ite_true, ite_false, true_and, and_true, Option.isSome_some, Option.isSome_none, Option.map_some, Option.map_none, Option.getD_some, Option.getD_none,
  tyD_non, tyD_bl, tyD_int, tyD_str, tyD_tup, tyD_lst, tyD_dct, truD_non, truD_bl, truD_int, truD_tup, truD_lst, truD_dct, asL_non, asD_non, keyD_non, asL_bl, asD_bl, keyD_bl, asL_int, asD_int, keyD_int, asL_str, asD_str, keyD_str, asL_tup, asD_tup, keyD_tup, asL_lst, asD_lst, keyD_lst, asL_dct, asD_dct, keyD_dct, asL_scr, asD_scr, keyD_scr, asL_sup, asD_sup, asL_supD, isLs_sup, tyD_supL, tyD_supD, sup_same, sup_sup, ixN_1_0, ixN_2_0, ixN_2_1, ixN_3_0, ixN_3_1, ixN_3_2, ixN_4_0, ixN_4_1, ixN_4_2, ixN_4_3, ixN_5_0, ixN_5_1, ixN_5_2, ixN_5_3, ixN_5_4, ixN_6_0, ixN_6_1, ixN_6_2, ixN_6_3, ixN_6_4, ixN_6_5, ixN_7_0, ixN_7_1, ixN_7_2, ixN_7_3, ixN_7_4, ixN_7_5, ixN_7_6, ixN_8_0, ixN_8_1, ixN_8_2, ixN_8_3, ixN_8_4, ixN_8_5, ixN_8_6, ixN_8_7, atI_0, atI_1, atI_2, atI_3, atI_4, atI_5, atI_6, atI_7, atI_8, isi_NoneType_bool, isi_NoneType_int, isi_NoneType_str, isi_NoneType_tuple, isi_NoneType_list, isi_NoneType_dict, isi_bool_bool, isi_bool_int, isi_bool_str, isi_bool_tuple, isi_bool_list, isi_bool_dict, isi_int_bool, isi_int_int, isi_int_str, isi_int_tuple, isi_int_list, isi_int_dict, isi_str_bool, isi_str_int, isi_str_str, isi_str_tuple, isi_str_list, isi_str_dict, isi_tuple_bool, isi_tuple_int, isi_tuple_str, isi_tuple_tuple, isi_tuple_list, isi_tuple_dict, isi_list_bool, isi_list_int, isi_list_str, isi_list_tuple, isi_list_list, isi_list_dict, isi_dict_bool, isi_dict_int, isi_dict_str, isi_dict_tuple, isi_dict_list, isi_dict_dict, h15, Bool.not_false, Bool.not_true]
        rw [if_neg (by decide), if_neg (by decide), if_pos (by rw [hl, hl2]; simp)]
        refine ⟨by omega, by omega, same_list (.inr hd0) (.inr he0) hl hl2 h h2 ⟨Nat.zero_le _, ?_⟩⟩
        rw [fEq_nil]; exact .of q
      · simp only [core__law_same, N__law_same, DD, denSs, denS, den, dens, denO, denT, denI, DV.of, DV.ofB, sSeq, sRet, sRetN, sNext, sIf, sSet, sSetG, sPar, sPar3, sSetIx, sDrop, sFor, sForKeys, sBreak, sCont, dAnd, dOr, dNot, dAndT, dOrT, dNotT, dUn, dOp, dIte, dVar, dC, dTup, dLst, dNil, dCons, dCall, dCut, dPart, dNoPart, dGet1, dGet2, dApp,
  dSeq1, dRange1, dRange2, dEnum, dZip, dLc, dDc, dChain, fIsi, fBlt, fLen, fAbs, fInt1, fMax, fMin, fL1, fTuple, fList, fSorted, fDict, fBin, fCmp, fNeg, fAdd, fSub, fMul, fMod, fDiv, fPow, fInt, fInt0, fLt, fLe, fGt, fGe, fIs, fIsNot, fInD, fIx, fCut, fSeq, fRange1, fRange2, fEnum, fZip, fSetIx, fGet, fApp, fLenSet, fAug, sAug, tOf, tOfB, guardN, gset, gsets, sFrz, frz_dct, frz_lst, fEq_int, fNe_int, fEq_bl, fNe_bl, fEq_nil, fNe_nil, fEq_ints,
  TyC.name, DL.isNon, start0, List.length_cons, List.length_nil, List.map_cons, List.map_nil, List.cons_append, List.nil_append, List.getElem?_cons_zero, List.getElem?_cons_succ, List.getElem?_nil, List.set_cons_zero, List.set_cons_succ, List.set_nil, List.replicate, Nat.reduceSub, Nat.reduceAdd, mkL, mkD, dwipe, Bool.false_eq_true, if_true, if_false, ite_true, ite_false, true_and, and_true, Option.isSome_some, Option.isSome_none, Option.map_some, Option.map_none, Option.getD_some, Option.getD_none,
  tyD_non, tyD_bl, tyD_int, tyD_str, tyD_tup, tyD_lst, tyD_dct, truD_non, truD_bl, truD_int, truD_tup, truD_lst, truD_dct, asL_non, asD_non, keyD_non, asL_bl, asD_bl, keyD_bl, asL_int, asD_int, keyD_int, asL_str, asD_str, keyD_str, asL_tup, asD_tup, keyD_tup, asL_lst, asD_lst, keyD_lst, asL_dct, asD_dct, keyD_dct, asL_scr, asD_scr, keyD_scr, asL_sup, asD_sup, asL_supD, isLs_sup, tyD_supL, tyD_supD, sup_same, sup_sup, ixN_1_0, ixN_2_0, ixN_2_1, ixN_3_0, ixN_3_1, ixN_3_2, ixN_4_0, ixN_4_1, ixN_4_2, ixN_4_3, ixN_5_0, ixN_5_1, ixN_5_2, ixN_5_3, ixN_5_4, ixN_6_0, ixN_6_1, ixN_6_2, ixN_6_3, ixN_6_4, ixN_6_5, ixN_7_0, ixN_7_1, ixN_7_2, ixN_7_3, ixN_7_4, ixN_7_5, ixN_7_6, ixN_8_0, ixN_8_1, ixN_8_2, ixN_8_3, ixN_8_4, ixN_8_5, ixN_8_6, ixN_8_7, atI_0, atI_1, atI_2, atI_3, atI_4, atI_5, atI_6, atI_7, atI_8, isi_NoneType_bool, isi_NoneType_int, isi_NoneType_str, isi_NoneType_tuple, isi_NoneType_list, isi_NoneType_dict, isi_bool_bool, isi_bool_int, isi_bool_str, isi_bool_tuple, isi_bool_list, isi_bool_dict, isi_int_bool, isi_int_int, isi_int_str, isi_int_tuple, isi_int_list, isi_int_dict, isi_str_bool, isi_str_int, isi_str_str, isi_str_tuple, isi_str_list, isi_str_dict, isi_tuple_bool, isi_tuple_int, isi_tuple_str, isi_tuple_tuple, isi_tuple_list, isi_tuple_dict, isi_list_bool, isi_list_int, isi_list_str, isi_list_tuple, isi_list_list, isi_list_dict, isi_dict_bool, isi_dict_int, isi_dict_str, isi_dict_tuple, isi_dict_list, isi_dict_dict, h15, Bool.not_false, Bool.not_true, he0, tyD_refL hdb]
        rw [if_neg (by decide), if_neg (by decide), if_pos (by rw [hl, hl2]; simp)]
        refine ⟨by omega, by omega, same_list (.inr hd0) (.inr he0) hl hl2 h h2 ⟨Nat.zero_le _, ?_⟩⟩
        rw [fEq_nil]; exact .of q
      · simp only [core__law_same, N__law_same, DD, denSs, denS, den, dens, denO, denT, denI, DV.of, DV.ofB, sSeq, sRet, sRetN, sNext, sIf, sSet, sSetG, sPar, sPar3, sSetIx, sDrop, sFor, sForKeys, sBreak, sCont, dAnd, dOr, dNot, dAndT, dOrT, dNotT, dUn, dOp, dIte, dVar, dC, dTup, dLst, dNil, dCons, dCall, dCut, dPart, dNoPart, dGet1, dGet2, dApp,
  dSeq1, dRange1, dRange2, dEnum, dZip, dLc, dDc, dChain, fIsi, fBlt, fLen, fAbs, fInt1, fMax, fMin, fL1, fTuple, fList, fSorted, fDict, fBin, fCmp, fNeg, fAdd, fSub, fMul, fMod, fDiv, fPow, fInt, fInt0, fLt, fLe, fGt, fGe, fIs, fIsNot, fInD, fIx, fCut, fSeq, fRange1, fRange2, fEnum, fZip, fSetIx, fGet, fApp, fLenSet, fAug, sAug, tOf, tOfB, guardN, gset, gsets, sFrz, frz_dct, frz_lst, fEq_int, fNe_int, fEq_bl, fNe_bl, fEq_nil, fNe_nil, fEq_ints,
  TyC.name, DL.isNon, start0, List.length_cons, List.length_nil, List.map_cons, List.map_nil, List.cons_append, List.nil_append, List.getElem?_cons_zero, List.getElem?_cons_succ, List.getElem?_nil, List.set_cons_zero, List.set_cons_succ, List.set_nil, List.replicate, Nat.reduceSub, Nat.reduceAdd, mkL, mkD, dwipe, Bool.false_eq_true, if_true, if_false, ite_true, ite_false, true_and, and_true, Option.isSome_some, Option.isSome_none, Option.map_some, Option.map_none, Option.getD_some, Option.getD_none,
  tyD_non, tyD_bl, tyD_int, tyD_str, tyD_tup, tyD_lst, tyD_dct, truD_non, truD_bl, truD_int, truD_tup, truD_lst, truD_dct, asL_non, asD_non, keyD_non, asL_bl, asD_bl, keyD_bl, asL_int, asD_int, keyD_int, asL_str, asD_str, keyD_str, asL_tup, asD_tup, keyD_tup, asL_lst, asD_lst, keyD_lst, asL_dct, asD_dct, keyD_dct, asL_scr, asD_scr, keyD_scr, asL_sup, asD_sup, asL_supD, isLs_sup, tyD_supL, tyD_supD, sup_same, sup_sup, ixN_1_0, ixN_2_0, ixN_2_1, ixN_3_0, ixN_3_1, ixN_3_2, ixN_4_0, ixN_4_1, ixN_4_2, ixN_4_3, ixN_5_0, ixN_5_1, ixN_5_2, ixN_5_3, ixN_5_4, ixN_6_0, ixN_6_1, ixN_6_2, ixN_6_3, ixN_6_4, ixN_6_5, ixN_7_0, ixN_7_1, ixN_7_2, ixN_7_3, ixN_7_4, ixN_7_5, ixN_7_6, ixN_8_0, ixN_8_1, ixN_8_2, ixN_8_3, ixN_8_4, ixN_8_5, ixN_8_6, ixN_8_7, atI_0, atI_1, atI_2, atI_3, atI_4, atI_5, atI_6, atI_7, atI_8, isi_NoneType_bool, isi_NoneType_int, isi_NoneType_str, isi_NoneType_tuple, isi_NoneType_list, isi_NoneType_dict, isi_bool_bool, isi_bool_int, isi_bool_str, isi_bool_tuple, isi_bool_list, isi_bool_dict, isi_int_bool, isi_int_int, isi_int_str, isi_int_tuple, isi_int_list, isi_int_dict, isi_str_bool, isi_str_int, isi_str_str, isi_str_tuple, isi_str_list, isi_str_dict, isi_tuple_bool, isi_tuple_int, isi_tuple_str, isi_tuple_tuple, isi_tuple_list, isi_tuple_dict, isi_list_bool, isi_list_int, isi_list_str, isi_list_tuple, isi_list_list, isi_list_dict, isi_dict_bool, isi_dict_int, isi_dict_str, isi_dict_tuple, isi_dict_list, isi_dict_dict, h15, Bool.not_false, Bool.not_true, hd0, tyD_refL hda]
        rw [if_neg (by decide), if_neg (by decide), if_pos (by rw [hl, hl2]; simp)]
        refine ⟨by omega, by omega, same_list (.inr hd0) (.inr he0) hl hl2 h h2 ⟨Nat.zero_le _, ?_⟩⟩
        rw [fEq_nil]; exact .of q
      · simp only [core__law_same, N__law_same, DD, denSs, denS, den, dens, denO, denT, denI, DV.of, DV.ofB, sSeq, sRet, sRetN, sNext, sIf, sSet, sSetG, sPar, sPar3, sSetIx, sDrop, sFor, sForKeys, sBreak, sCont, dAnd, dOr, dNot, dAndT, dOrT, dNotT, dUn, dOp, dIte, dVar, dC, dTup, dLst, dNil, dCons, dCall, dCut, dPart, dNoPart, dGet1, dGet2, dApp,
  dSeq1, dRange1, dRange2, dEnum, dZip, dLc, dDc, dChain, fIsi, fBlt, fLen, fAbs, fInt1, fMax, fMin, fL1, fTuple, fList, fSorted, fDict, fBin, fCmp, fNeg, fAdd, fSub, fMul, fMod, fDiv, fPow, fInt, fInt0, fLt, fLe, fGt, fGe, fIs, fIsNot, fInD, fIx, fCut, fSeq, fRange1, fRange2, fEnum, fZip, fSetIx, fGet, fApp, fLenSet, fAug, sAug, tOf, tOfB, guardN, gset, gsets, sFrz, frz_dct, frz_lst, fEq_int, fNe_int, fEq_bl, fNe_bl, fEq_nil, fNe_nil, fEq_ints,
  TyC.name, DL.isNon, start0, List.length_cons, List.length_nil, List.map_cons, List.map_nil, List.cons_append, List.nil_append, List.getElem?_cons_zero, List.getElem?_cons_succ, List.getElem?_nil, List.set_cons_zero, List.set_cons_succ, List.set_nil, List.replicate, Nat.reduceSub, Nat.reduceAdd, mkL, mkD, dwipe, Bool.false_eq_true, if_true, if_false, ite_true, ite_false, true_and, and_true, Option.isSome_some, Option.isSome_none, Option.map_some, Option.map_none, Option.getD_some, Option.getD_none,
  tyD_non, tyD_bl, tyD_int, tyD_str, tyD_tup, tyD_lst, tyD_dct, truD_non, truD_bl, truD_int, truD_tup, truD_lst, truD_dct, asL_non, asD_non, keyD_non, asL_bl, asD_bl, keyD_bl, asL_int, asD_int, keyD_int, asL_str, asD_str, keyD_str, asL_tup, asD_tup, keyD_tup, asL_lst, asD_lst, keyD_lst, asL_dct, asD_dct, keyD_dct, asL_scr, asD_scr, keyD_scr, asL_sup, asD_sup, asL_supD, isLs_sup, tyD_supL, tyD_supD, sup_same, sup_sup, ixN_1_0, ixN_2_0, ixN_2_1, ixN_3_0, ixN_3_1, ixN_3_2, ixN_4_0, ixN_4_1, ixN_4_2, ixN_4_3, ixN_5_0, ixN_5_1, ixN_5_2, ixN_5_3, ixN_5_4, ixN_6_0, ixN_6_1, ixN_6_2, ixN_6_3, ixN_6_4, ixN_6_5, ixN_7_0, ixN_7_1, ixN_7_2, ixN_7_3, ixN_7_4, ixN_7_5, ixN_7_6, ixN_8_0, ixN_8_1, ixN_8_2, ixN_8_3, ixN_8_4, ixN_8_5, ixN_8_6, ixN_8_7, atI_0, atI_1, atI_2, atI_3, atI_4, atI_5, atI_6, atI_7, atI_8, isi_NoneType_bool, isi_NoneType_int, isi_NoneType_str, isi_NoneType_tuple, isi_NoneType_list, isi_NoneType_dict, isi_bool_bool, isi_bool_int, isi_bool_str, isi_bool_tuple, isi_bool_list, isi_bool_dict, isi_int_bool, isi_int_int, isi_int_str, isi_int_tuple, isi_int_list, isi_int_dict, isi_str_bool, isi_str_int, isi_str_str, isi_str_tuple, isi_str_list, isi_str_dict, isi_tuple_bool, isi_tuple_int, isi_tuple_str, isi_tuple_tuple, isi_tuple_list, isi_tuple_dict, isi_list_bool, isi_list_int, isi_list_str, isi_list_tuple, isi_list_list, isi_list_dict, isi_dict_bool, isi_dict_int, isi_dict_str, isi_dict_tuple, isi_dict_list, isi_dict_dict, h15, Bool.not_false, Bool.not_true, hd0, he0, tyD_refL hda, tyD_refL hdb]
        rw [if_neg (by decide), if_neg (by decide), if_pos (by rw [hl, hl2]; simp)]
        refine ⟨by omega, by omega, same_list (.inr hd0) (.inr he0) hl hl2 h h2 ⟨Nat.zero_le _, ?_⟩⟩
        rw [fEq_nil]; exact .of q
theorem atI_lit (ns : List Int) {r : Int} (h0 : 0 ≤ r) (h1 : r < ns.length) : ∃ v, v ∈ ns ∧ atI (ns.map D.int) r = some (.int v) := by
  refine ⟨ns[r.toNat]'(by omega), List.getElem_mem _, ?_⟩
  rw [atI_pos h0 (by rw [List.length_map]; exact h1)]
  simp
theorem Bx.ok.mono {b : Bx} {j k : Nat} (h : b.ok j) (l : j ≤ k) : b.ok k := ⟨h.1, h.2.1, h.2.2.1, by have := h.2.2.2; omega⟩

def spInt : DSp := fun ds S Q => ∃ i : Int, ds = [.int i] ∧ Q (.bl true) S
theorem r_int {T : Tb} {ds : List D} {S : Store} {Q : DQ} (h : spInt ds S Q) : denSs T core__law_int (DD Q) (start0 N__law_int.length ds) S := by
  obtain ⟨i, rfl, q⟩ := h
  simp only [core__law_int, N__law_int, DD, denSs, denS, den, dens, denO, denT, denI, DV.of, DV.ofB, sSeq, sRet, sRetN, sNext, sIf, sSet, sSetG, sPar, sPar3, sSetIx, sDrop, sFor, sForKeys, sBreak, sCont, dAnd, dOr, dNot, dAndT, dOrT, dNotT, dUn, dOp, dIte, dVar, dC, dTup, dLst, dNil, dCons, dCall, dCut, dPart, dNoPart, dGet1, dGet2, dApp,
  dSeq1, dRange1, dRange2, dEnum, dZip, dLc, dDc, dChain, fIsi, fBlt, fLen, fAbs, fInt1, fMax, fMin, fL1, fTuple, fList, fSorted, fDict, fBin, fCmp, fNeg, fAdd, fSub, fMul, fMod, fDiv, fPow, fInt, fInt0, fLt, fLe, fGt, fGe, fIs, fIsNot, fInD, fIx, fCut, fSeq, fRange1, fRange2, fEnum, fZip, fSetIx, fGet, fApp, fLenSet, fAug, sAug, tOf, tOfB, guardN, gset, gsets, sFrz, frz_dct, frz_lst, fEq_int, fNe_int, fEq_bl, fNe_bl, fEq_nil, fNe_nil, fEq_ints,
  TyC.name, DL.isNon, start0, List.length_cons, List.length_nil, List.map_cons, List.map_nil, List.cons_append, List.nil_append, List.getElem?_cons_zero, List.getElem?_cons_succ, List.getElem?_nil, List.set_cons_zero, List.set_cons_succ, List.set_nil, List.replicate, Nat.reduceSub, Nat.reduceAdd, mkL, mkD, dwipe, Bool.false_eq_true, if_true, if_false, ite_true, ite_false, true_and, and_true, Option.isSome_some, Option.isSome_none, Option.map_some, Option.map_none, Option.getD_some, Option.getD_none,
  tyD_non, tyD_bl, tyD_int, tyD_str, tyD_tup, tyD_lst, tyD_dct, truD_non, truD_bl, truD_int, truD_tup, truD_lst, truD_dct, asL_non, asD_non, keyD_non, asL_bl, asD_bl, keyD_bl, asL_int, asD_int, keyD_int, asL_str, asD_str, keyD_str, asL_tup, asD_tup, keyD_tup, asL_lst, asD_lst, keyD_lst, asL_dct, asD_dct, keyD_dct, asL_scr, asD_scr, keyD_scr, asL_sup, asD_sup, asL_supD, isLs_sup, tyD_supL, tyD_supD, sup_same, sup_sup, ixN_1_0, ixN_2_0, ixN_2_1, ixN_3_0, ixN_3_1, ixN_3_2, ixN_4_0, ixN_4_1, ixN_4_2, ixN_4_3, ixN_5_0, ixN_5_1, ixN_5_2, ixN_5_3, ixN_5_4, ixN_6_0, ixN_6_1, ixN_6_2, ixN_6_3, ixN_6_4, ixN_6_5, ixN_7_0, ixN_7_1, ixN_7_2, ixN_7_3, ixN_7_4, ixN_7_5, ixN_7_6, ixN_8_0, ixN_8_1, ixN_8_2, ixN_8_3, ixN_8_4, ixN_8_5, ixN_8_6, ixN_8_7, atI_0, atI_1, atI_2, atI_3, atI_4, atI_5, atI_6, atI_7, atI_8, isi_NoneType_bool, isi_NoneType_int, isi_NoneType_str, isi_NoneType_tuple, isi_NoneType_list, isi_NoneType_dict, isi_bool_bool, isi_bool_int, isi_bool_str, isi_bool_tuple, isi_bool_list, isi_bool_dict, isi_int_bool, isi_int_int, isi_int_str, isi_int_tuple, isi_int_list, isi_int_dict, isi_str_bool, isi_str_int, isi_str_str, isi_str_tuple, isi_str_list, isi_str_dict, isi_tuple_bool, isi_tuple_int, isi_tuple_str, isi_tuple_tuple, isi_tuple_list, isi_tuple_dict, isi_list_bool, isi_list_int, isi_list_str, isi_list_tuple, isi_list_list, isi_list_dict, isi_dict_bool, isi_dict_int, isi_dict_str, isi_dict_tuple, isi_dict_list, isi_dict_dict, Bool.not_true, Bool.not_false]
  exact .of q
end K09
set_option Elab.async false
set_option linter.all false
set_option maxRecDepth 100000
set_option maxHeartbeats 1000000
namespace DL
open PySem L2
section
variable {T : Tb} {sd : Slots} {S : Store}
theorem t_and {a b : CE} {K : Bool → Store → Prop} (h : (den T a).t sd S fun k S1 => if k = true then (den T b).t sd S1 K else K false S1) : (den T (.and a b)).t sd S K := h
theorem t_or {a b : CE} {K : Bool → Store → Prop} (h : (den T a).t sd S fun k S1 => if k = true then K true S1 else (den T b).t sd S1 K) : (den T (.or a b)).t sd S K := h
theorem t_last {a : CE} {K : Bool → Store → Prop} (h : (den T a).t sd S K) : (den T (.last a)).t sd S K := h
theorem t_eqC {j n : Nat} {sp : DSp} {es : CEs} {xs : List D} {i : Int} {K : Bool → Store → Prop} (hf : T.fn j = some (n, sp)) (hs : Vs T sd S es xs) (hl : xs.length = n) (h : sp xs S fun x S1 => fEq x (.int i) S1 fun d S3 => match d with | .bl k => K k S3 | _ => False) : (den T (.cmp .Eq (.call j es) (.int i))).t sd S K := by
  show (den T (.call j es)).v sd S fun x S1 => fEq x (.int i) S1 fun d S3 => match d with | .bl k => K k S3 | _ => False
  exact call_run hf hs hl h
theorem neg_nil_ref {i : Nat} {a : Addr} {xs : List D} {n : Nat} {K : Bool → Store → Prop} (hi : sd[i]? = some (some (.ref a))) (h : S a = some (.lst xs)) (hp : xs.all (pyD n) = true) (hn : n < 64) (k : K (!xs.isEmpty) S) : (den T (.cmp .NotEq (.slot i) (.lst false .nil))).t sd S K := by
  show (den T (.slot i)).v sd S fun x S1 => (den T (.lst false .nil)).v sd S1 fun y S2 => fNe x y S2 fun d S3 => match d with | .bl k => K k S3 | _ => False
  refine ve_slot hi _ ?_
  exact (ve_lst vs_nil rfl) _ (fNe_refL h (fNe_nilL hp hn k))
theorem eq_nil_lst {i : Nat} {xs : List D} {n : Nat} {K : Bool → Store → Prop} (hi : sd[i]? = some (some (.lst xs))) (hp : xs.all (pyD n) = true) (hn : n < 64) (k : K xs.isEmpty S) : (den T (.cmp .Eq (.slot i) (.lst false .nil))).t sd S K := by
  show (den T (.slot i)).v sd S fun x S1 => (den T (.lst false .nil)).v sd S1 fun y S2 => fEq x y S2 fun d S3 => match d with | .bl k => K k S3 | _ => False
  refine ve_slot hi _ ?_
  exact (ve_lst vs_nil rfl) _ (fEq_nilL hp hn k)
end
end DL
namespace K09
open PySem L2 DL Piv
def cC : Nat := 4000000000028
def Col (m : Nat) (c : List Int) : Prop := c.length = m ∧ ∀ x ∈ c, x.natAbs ≤ cC
theorem pyD_row (c : List Int) : pyD 1 (rowD c) = true := by
  show (c.map D.int).all (pyD 0) = true
  rw [List.all_eq_true]
  intro x hx
  obtain ⟨y, _, rfl⟩ := List.mem_map.mp hx
  rfl
theorem pyD_rows (cs : List (List Int)) : (cs.map rowD).all (pyD 1) = true := by
  rw [List.all_eq_true]
  intro x hx
  obtain ⟨y, _, rfl⟩ := List.mem_map.mp hx
  exact pyD_row y
def spColumns : DSp := fun ds S Q => ∃ (b : Addr) (bx : Bx) (k m : Nat) (sz : Int), ds = [.ref b, .int (m : Int), .int sz] ∧ S b = some bx.o ∧ bx.ok k ∧ k < 900000 ∧ m ≤ 5 ∧ 0 ≤ sz ∧ sz ≤ 1000000000007 ∧
  ∀ (cols : List (List Int)) (bx' : Bx), cols.length ≤ 8 → (∀ c ∈ cols, Col m c) → bx'.ok (k + 60) → Q (.lst (cols.map rowD)) (sup S b bx'.o)
theorem mul_cC {v sz : Int} (h1 : -4 ≤ v) (h2 : v ≤ 4) (h3 : 0 ≤ sz) (h4 : sz ≤ 1000000000007) : (v * sz).natAbs ≤ cC := by
  rw [Int.natAbs_mul]
  have : v.natAbs * sz.natAbs ≤ 4 * 1000000000007 := Nat.mul_le_mul (by omega) (by omega)
  exact this
theorem r_columns {T : Tb} (h3 : T.fn 3 = some (2, spTake)) {ds : List D} {S : Store} {Q : DQ} (h : spColumns ds S Q) : denSs T core__law_columns (DD Q) (start0 N__law_columns.length ds) S := by
  obtain ⟨b, bx, k, m, sz, rfl, hb, hk, hk2, m5, s0, s1, q⟩ := h
  have hsz : (1000 : Nat) ≤ sizeLine := by decide
  unfold core__law_columns
  refine vs_setE (run_lstN fun p hp => ?_)
  have npb : b ≠ p := by rintro rfl; rw [hp] at hb; cases hb
  show (den T (.call 3 (.cons (.slot 0) (.cons (.int 9) .nil)))).v [some (.ref b), some (.int (m : Int)), some (.int sz), some (.ref p), none, none, none, none] (sup S p (.lst [])) fun x S1 => fRange1 x S1 _
  refine call_run h3 (vs_cons (ve_slot rfl) (vs_cons ve_int vs_nil)) rfl ⟨b, 9, k, bx, rfl, by decide, by decide, by rw [sup_ne npb]; exact hb, hk, by omega, fun r bx1 r0 r1 hb1 => ?_⟩
  refine ⟨by omega, by omega, ?_⟩
  have rl : (rangeD 0 r).length = r.toNat := by rw [rangeD_len]; congr 1; omega
  refine forL_at (fun i sd S' => ∃ (o4 o5 o6 o7 : Option D) (cols : List (List Int)) (bx' : Bx), sd = [some (.ref b), some (.int (m : Int)), some (.int sz), some (.ref p), o4, o5, o6, o7] ∧ S' p = some (.lst (cols.map rowD)) ∧ S' b = some (Bx.o bx') ∧ (∀ a, a ≠ p → a ≠ b → S' a = S a) ∧ bx'.ok (k + 1 + 6 * i) ∧ cols.length = i ∧ ∀ c ∈ cols, Col m c) ?_ ?_ _ _
    ⟨none, none, none, none, [], bx1, rfl, by rw [sup_ne (Ne.symm npb)]; exact sup_same, sup_same, fun a h1 h2 => by rw [sup_ne h2, sup_ne h1], hb1, rfl, fun c hc => by cases hc⟩
  · rintro i x sd S1 hx ⟨o4, o5, o6, o7, cols, bx', rfl, g1, g2, g3, g4, g5, g6⟩
    obtain ⟨rfl, hi⟩ := rangeD_at hx
    refine ⟨trivial, _, rfl, fun K hK => ?_⟩
    show denSs T (.cons (.setlc 5 false [("place", 6)] _ _ _ _) (.cons (.ifs _ _ .nil) (.cons (.expr (.app (.slot 3) (.slot 5))) .nil))) _ [some (.ref b), some (.int (m : Int)), some (.int sz), some (.ref p), some (.int (i : Int)), o5, o6, o7] S1
    -- what is added
    have tail : ∀ (col : List Int) (S2 : Store) (bx2 : Bx) (o6 o7 : Option D), S2 p = some (.lst (cols.map rowD)) → S2 b = some (Bx.o bx2) → (∀ a, a ≠ p → a ≠ b → S2 a = S a) → bx2.ok (k + 1 + 6 * (i + 1)) → Col m col → ∀ E : DEnds, (∀ sd2 S3, (∃ (o4 o5 o6 o7 : Option D) (cols : List (List Int)) (bx' : Bx), sd2 = [some (.ref b), some (.int (m : Int)), some (.int sz), some (.ref p), o4, o5, o6, o7] ∧ S3 p = some (.lst (cols.map rowD)) ∧ S3 b = some (Bx.o bx') ∧ (∀ a, a ≠ p → a ≠ b → S3 a = S a) ∧ bx'.ok (k + 1 + 6 * (i + 1)) ∧ cols.length = i + 1 ∧ ∀ c ∈ cols, Col m c) → E.nx sd2 S3) →
        denSs T (.cons (.expr (.app (.slot 3) (.slot 5))) .nil) E [some (.ref b), some (.int (m : Int)), some (.int sz), some (.ref p), some (.int (i : Int)), some (rowD col), o6, o7] S2 := by
      intro col S2 bx2 o6 o7 f1 f2 f3 f4 f5 E hE
      simp only [denSs, denS, den, dens, denO, denT, denI, DV.of, DV.ofB, sSeq, sRet, sRetN, sNext, sIf, sSet, sSetG, sPar, sPar3, sSetIx, sDrop, sFor, sForKeys, sBreak, sCont, dAnd, dOr, dNot, dAndT, dOrT, dNotT, dUn, dOp, dIte, dVar, dC, dTup, dLst, dNil, dCons, dCall, dCut, dPart, dNoPart, dGet1, dGet2, dApp,
  dSeq1, dRange1, dRange2, dEnum, dZip, dLc, dDc, dChain, fIsi, fBlt, fLen, fAbs, fInt1, fMax, fMin, fL1, fTuple, fList, fSorted, fDict, fBin, fCmp, fNeg, fAdd, fSub, fMul, fMod, fDiv, fPow, fInt, fInt0, fLt, fLe, fGt, fGe, fIs, fIsNot, fInD, fIx, fCut, fSeq, fRange1, fRange2, fEnum, fZip, fSetIx, fGet, fApp, fLenSet, fAug, sAug, tOf, tOfB, guardN, gset, gsets, sFrz, frz_dct, frz_lst, fEq_int, fNe_int, fEq_bl, fNe_bl, fEq_nil, fNe_nil, fEq_ints,
  TyC.name, DL.isNon, start0, List.length_cons, List.length_nil, List.map_cons, List.map_nil, List.cons_append, List.nil_append, List.getElem?_cons_zero, List.getElem?_cons_succ, List.getElem?_nil, List.set_cons_zero, List.set_cons_succ, List.set_nil, List.replicate, Nat.reduceSub, Nat.reduceAdd, mkL, mkD, dwipe, Bool.false_eq_true, if_true, if_false, ite_true, ite_false, true_and, and_true, Option.isSome_some, Option.isSome_none, Option.map_some, Option.map_none, Option.getD_some, Option.getD_none,
  tyD_non, tyD_bl, tyD_int, tyD_str, tyD_tup, tyD_lst, tyD_dct, truD_non, truD_bl, truD_int, truD_tup, truD_lst, truD_dct, asL_non, asD_non, keyD_non, asL_bl, asD_bl, keyD_bl, asL_int, asD_int, keyD_int, asL_str, asD_str, keyD_str, asL_tup, asD_tup, keyD_tup, asL_lst, asD_lst, keyD_lst, asL_dct, asD_dct, keyD_dct, asL_scr, asD_scr, keyD_scr, asL_sup, asD_sup, asL_supD, isLs_sup, tyD_supL, tyD_supD, sup_same, sup_sup, ixN_1_0, ixN_2_0, ixN_2_1, ixN_3_0, ixN_3_1, ixN_3_2, ixN_4_0, ixN_4_1, ixN_4_2, ixN_4_3, ixN_5_0, ixN_5_1, ixN_5_2, ixN_5_3, ixN_5_4, ixN_6_0, ixN_6_1, ixN_6_2, ixN_6_3, ixN_6_4, ixN_6_5, ixN_7_0, ixN_7_1, ixN_7_2, ixN_7_3, ixN_7_4, ixN_7_5, ixN_7_6, ixN_8_0, ixN_8_1, ixN_8_2, ixN_8_3, ixN_8_4, ixN_8_5, ixN_8_6, ixN_8_7, atI_0, atI_1, atI_2, atI_3, atI_4, atI_5, atI_6, atI_7, atI_8, isi_NoneType_bool, isi_NoneType_int, isi_NoneType_str, isi_NoneType_tuple, isi_NoneType_list, isi_NoneType_dict, isi_bool_bool, isi_bool_int, isi_bool_str, isi_bool_tuple, isi_bool_list, isi_bool_dict, isi_int_bool, isi_int_int, isi_int_str, isi_int_tuple, isi_int_list, isi_int_dict, isi_str_bool, isi_str_int, isi_str_str, isi_str_tuple, isi_str_list, isi_str_dict, isi_tuple_bool, isi_tuple_int, isi_tuple_str, isi_tuple_tuple, isi_tuple_list, isi_tuple_dict, isi_list_bool, isi_list_int, isi_list_str, isi_list_tuple, isi_list_list, isi_list_dict, isi_dict_bool, isi_dict_int, isi_dict_str, isi_dict_tuple, isi_dict_list, isi_dict_dict, f1, isLs]
      refine ⟨by rw [List.length_map]; omega, hE _ _ ⟨_, _, _, _, cols ++ [col], bx2, rfl, ?_, ?_, ?_, f4, ?_, ?_⟩⟩
      · rw [sup_same, List.map_append]; rfl
      · rw [sup_ne npb]; exact f2
      · intro a h1 h2; rw [sup_ne h1]; exact f3 a h1 h2
      · rw [List.length_append, g5]; rfl
      · intro c hc
        rcases List.mem_append.mp hc with hc | hc
        · exact g6 c hc
        · rw [List.mem_singleton.mp hc]; exact f5
    refine vs_setlc ?_
    have e5 : ∀ K2 : DQ, (∀ (col : List Int) (S2 : Store) (bx2 : Bx), S2 p = some (.lst (cols.map rowD)) → S2 b = some (Bx.o bx2) → (∀ a, a ≠ p → a ≠ b → S2 a = S a) → bx2.ok (k + 1 + 6 * i + 5) → Col m col → K2 (rowD col) S2) →
        (den T (.lc false [("place", 6)] (.slot 6) (.range1 (.slot 1)) .no (.op false .Mult (.ix (.lst false (.cons (.int 0) (.cons (.int 1) (.cons (.neg (.int 1)) (.cons (.int 2) (.cons (.int 3) (.cons (.neg (.int 4)) (.cons (.int 0) .nil)))))))) (.call 3 (.cons (.slot 0) (.cons (.int 7) .nil)))) (.slot 2)))).v [some (.ref b), some (.int (m : Int)), some (.int sz), some (.ref p), some (.int (i : Int)), o5, o6, o7] S1 K2 := by
      intro K2 hK2
      simp only [denSs, denS, den, dens, denO, denT, denI, DV.of, DV.ofB, sSeq, sRet, sRetN, sNext, sIf, sSet, sSetG, sPar, sPar3, sSetIx, sDrop, sFor, sForKeys, sBreak, sCont, dAnd, dOr, dNot, dAndT, dOrT, dNotT, dUn, dOp, dIte, dVar, dC, dTup, dLst, dNil, dCons, dCall, dCut, dPart, dNoPart, dGet1, dGet2, dApp,
  dSeq1, dRange1, dRange2, dEnum, dZip, dLc, dDc, dChain, fIsi, fBlt, fLen, fAbs, fInt1, fMax, fMin, fL1, fTuple, fList, fSorted, fDict, fBin, fCmp, fNeg, fAdd, fSub, fMul, fMod, fDiv, fPow, fInt, fInt0, fLt, fLe, fGt, fGe, fIs, fIsNot, fInD, fIx, fCut, fSeq, fRange1, fRange2, fEnum, fZip, fSetIx, fGet, fApp, fLenSet, fAug, sAug, tOf, tOfB, guardN, gset, gsets, sFrz, frz_dct, frz_lst, fEq_int, fNe_int, fEq_bl, fNe_bl, fEq_nil, fNe_nil, fEq_ints,
  TyC.name, DL.isNon, start0, List.length_cons, List.length_nil, List.map_cons, List.map_nil, List.cons_append, List.nil_append, List.getElem?_cons_zero, List.getElem?_cons_succ, List.getElem?_nil, List.set_cons_zero, List.set_cons_succ, List.set_nil, List.replicate, Nat.reduceSub, Nat.reduceAdd, mkL, mkD, dwipe, Bool.false_eq_true, if_true, if_false, ite_true, ite_false, true_and, and_true, Option.isSome_some, Option.isSome_none, Option.map_some, Option.map_none, Option.getD_some, Option.getD_none,
  tyD_non, tyD_bl, tyD_int, tyD_str, tyD_tup, tyD_lst, tyD_dct, truD_non, truD_bl, truD_int, truD_tup, truD_lst, truD_dct, asL_non, asD_non, keyD_non, asL_bl, asD_bl, keyD_bl, asL_int, asD_int, keyD_int, asL_str, asD_str, keyD_str, asL_tup, asD_tup, keyD_tup, asL_lst, asD_lst, keyD_lst, asL_dct, asD_dct, keyD_dct, asL_scr, asD_scr, keyD_scr, asL_sup, asD_sup, asL_supD, isLs_sup, tyD_supL, tyD_supD, sup_same, sup_sup, ixN_1_0, ixN_2_0, ixN_2_1, ixN_3_0, ixN_3_1, ixN_3_2, ixN_4_0, ixN_4_1, ixN_4_2, ixN_4_3, ixN_5_0, ixN_5_1, ixN_5_2, ixN_5_3, ixN_5_4, ixN_6_0, ixN_6_1, ixN_6_2, ixN_6_3, ixN_6_4, ixN_6_5, ixN_7_0, ixN_7_1, ixN_7_2, ixN_7_3, ixN_7_4, ixN_7_5, ixN_7_6, ixN_8_0, ixN_8_1, ixN_8_2, ixN_8_3, ixN_8_4, ixN_8_5, ixN_8_6, ixN_8_7, atI_0, atI_1, atI_2, atI_3, atI_4, atI_5, atI_6, atI_7, atI_8, isi_NoneType_bool, isi_NoneType_int, isi_NoneType_str, isi_NoneType_tuple, isi_NoneType_list, isi_NoneType_dict, isi_bool_bool, isi_bool_int, isi_bool_str, isi_bool_tuple, isi_bool_list, isi_bool_dict, isi_int_bool, isi_int_int, isi_int_str, isi_int_tuple, isi_int_list, isi_int_dict, isi_str_bool, isi_str_int, isi_str_str, isi_str_tuple, isi_str_list, isi_str_dict, isi_tuple_bool, isi_tuple_int, isi_tuple_str, isi_tuple_tuple, isi_tuple_list, isi_tuple_dict, isi_list_bool, isi_list_int, isi_list_str, isi_list_tuple, isi_list_list, isi_list_dict, isi_dict_bool, isi_dict_int, isi_dict_str, isi_dict_tuple, isi_dict_list, isi_dict_dict, h3]
      refine ⟨by omega, by omega, ?_⟩
      have rm : (rangeD 0 (m : Int)).length = m := by rw [rangeD_len]; omega
      refine lcL_ind (fun xs acc S' => ∃ (col : List Int) (bx' : Bx) (j : Nat), acc = col.map D.int ∧ S' p = some (.lst (cols.map rowD)) ∧ S' b = some (Bx.o bx') ∧ (∀ a, a ≠ p → a ≠ b → S' a = S a) ∧ bx'.ok (k + 1 + 6 * i + j) ∧ j + xs.length = m ∧ col.length = j ∧ ∀ x ∈ col, x.natAbs ≤ cC) ?_ ?_ _ _ _ ⟨[], bx', 0, rfl, g1, g2, g3, g4, by rw [rm]; omega, rfl, fun x hx => by cases hx⟩
      · rintro x xs acc S' ⟨col, bx2, j, rfl, f1, f2, f3, f4, f5, f6, f7⟩
        rw [List.length_cons] at f5
        refine ⟨trivial, _, rfl, fun K hK => ?_⟩
        show if true = true then _ else _
        rw [if_pos rfl]
        simp only [denSs, denS, den, dens, denO, denT, denI, DV.of, DV.ofB, sSeq, sRet, sRetN, sNext, sIf, sSet, sSetG, sPar, sPar3, sSetIx, sDrop, sFor, sForKeys, sBreak, sCont, dAnd, dOr, dNot, dAndT, dOrT, dNotT, dUn, dOp, dIte, dVar, dC, dTup, dLst, dNil, dCons, dCall, dCut, dPart, dNoPart, dGet1, dGet2, dApp,
  dSeq1, dRange1, dRange2, dEnum, dZip, dLc, dDc, dChain, fIsi, fBlt, fLen, fAbs, fInt1, fMax, fMin, fL1, fTuple, fList, fSorted, fDict, fBin, fCmp, fNeg, fAdd, fSub, fMul, fMod, fDiv, fPow, fInt, fInt0, fLt, fLe, fGt, fGe, fIs, fIsNot, fInD, fIx, fCut, fSeq, fRange1, fRange2, fEnum, fZip, fSetIx, fGet, fApp, fLenSet, fAug, sAug, tOf, tOfB, guardN, gset, gsets, sFrz, frz_dct, frz_lst, fEq_int, fNe_int, fEq_bl, fNe_bl, fEq_nil, fNe_nil, fEq_ints,
  TyC.name, DL.isNon, start0, List.length_cons, List.length_nil, List.map_cons, List.map_nil, List.cons_append, List.nil_append, List.getElem?_cons_zero, List.getElem?_cons_succ, List.getElem?_nil, List.set_cons_zero, List.set_cons_succ, List.set_nil, List.replicate, Nat.reduceSub, Nat.reduceAdd, mkL, mkD, dwipe, Bool.false_eq_true, if_true, if_false, ite_true, ite_false, true_and, and_true, Option.isSome_some, Option.isSome_none, Option.map_some, Option.map_none, Option.getD_some, Option.getD_none,
  tyD_non, tyD_bl, tyD_int, tyD_str, tyD_tup, tyD_lst, tyD_dct, truD_non, truD_bl, truD_int, truD_tup, truD_lst, truD_dct, asL_non, asD_non, keyD_non, asL_bl, asD_bl, keyD_bl, asL_int, asD_int, keyD_int, asL_str, asD_str, keyD_str, asL_tup, asD_tup, keyD_tup, asL_lst, asD_lst, keyD_lst, asL_dct, asD_dct, keyD_dct, asL_scr, asD_scr, keyD_scr, asL_sup, asD_sup, asL_supD, isLs_sup, tyD_supL, tyD_supD, sup_same, sup_sup, ixN_1_0, ixN_2_0, ixN_2_1, ixN_3_0, ixN_3_1, ixN_3_2, ixN_4_0, ixN_4_1, ixN_4_2, ixN_4_3, ixN_5_0, ixN_5_1, ixN_5_2, ixN_5_3, ixN_5_4, ixN_6_0, ixN_6_1, ixN_6_2, ixN_6_3, ixN_6_4, ixN_6_5, ixN_7_0, ixN_7_1, ixN_7_2, ixN_7_3, ixN_7_4, ixN_7_5, ixN_7_6, ixN_8_0, ixN_8_1, ixN_8_2, ixN_8_3, ixN_8_4, ixN_8_5, ixN_8_6, ixN_8_7, atI_0, atI_1, atI_2, atI_3, atI_4, atI_5, atI_6, atI_7, atI_8, isi_NoneType_bool, isi_NoneType_int, isi_NoneType_str, isi_NoneType_tuple, isi_NoneType_list, isi_NoneType_dict, isi_bool_bool, isi_bool_int, isi_bool_str, isi_bool_tuple, isi_bool_list, isi_bool_dict, isi_int_bool, isi_int_int, isi_int_str, isi_int_tuple, isi_int_list, isi_int_dict, isi_str_bool, isi_str_int, isi_str_str, isi_str_tuple, isi_str_list, isi_str_dict, isi_tuple_bool, isi_tuple_int, isi_tuple_str, isi_tuple_tuple, isi_tuple_list, isi_tuple_dict, isi_list_bool, isi_list_int, isi_list_str, isi_list_tuple, isi_list_list, isi_list_dict, isi_dict_bool, isi_dict_int, isi_dict_str, isi_dict_tuple, isi_dict_list, isi_dict_dict, h3]
        refine ⟨by omega, b, 7, k + 1 + 6 * i + j, bx2, rfl, by decide, by decide, f2, f4, by omega, fun r2 bx3 r20 r21 hb3 => ?_⟩
        obtain ⟨v, hv, ev⟩ := atI_lit [0, 1, -1, 2, 3, -4, 0] r20 r21
        simp only [List.map_cons, List.map_nil] at ev
        have hv4 : -4 ≤ v ∧ v ≤ 4 := by
          simp only [List.mem_cons, List.not_mem_nil, or_false] at hv; omega
        simp only [denSs, denS, den, dens, denO, denT, denI, DV.of, DV.ofB, sSeq, sRet, sRetN, sNext, sIf, sSet, sSetG, sPar, sPar3, sSetIx, sDrop, sFor, sForKeys, sBreak, sCont, dAnd, dOr, dNot, dAndT, dOrT, dNotT, dUn, dOp, dIte, dVar, dC, dTup, dLst, dNil, dCons, dCall, dCut, dPart, dNoPart, dGet1, dGet2, dApp,
  dSeq1, dRange1, dRange2, dEnum, dZip, dLc, dDc, dChain, fIsi, fBlt, fLen, fAbs, fInt1, fMax, fMin, fL1, fTuple, fList, fSorted, fDict, fBin, fCmp, fNeg, fAdd, fSub, fMul, fMod, fDiv, fPow, fInt, fInt0, fLt, fLe, fGt, fGe, fIs, fIsNot, fInD, fIx, fCut, fSeq, fRange1, fRange2, fEnum, fZip, fSetIx, fGet, fApp, fLenSet, fAug, sAug, tOf, tOfB, guardN, gset, gsets, sFrz, frz_dct, frz_lst, fEq_int, fNe_int, fEq_bl, fNe_bl, fEq_nil, fNe_nil, fEq_ints,
  TyC.name, DL.isNon, start0, List.length_cons, List.length_nil, List.map_cons, List.map_nil, List.cons_append, List.nil_append, List.getElem?_cons_zero, List.getElem?_cons_succ, List.getElem?_nil, List.set_cons_zero, List.set_cons_succ, List.set_nil, List.replicate, Nat.reduceSub, Nat.reduceAdd, mkL, mkD, dwipe, Bool.false_eq_true, if_true, if_false, ite_true, ite_false, true_and, and_true, Option.isSome_some, Option.isSome_none, Option.map_some, Option.map_none, Option.getD_some, Option.getD_none,
  tyD_non, tyD_bl, tyD_int, tyD_str, tyD_tup, tyD_lst, tyD_dct, truD_non, truD_bl, truD_int, truD_tup, truD_lst, truD_dct, asL_non, asD_non, keyD_non, asL_bl, asD_bl, keyD_bl, asL_int, asD_int, keyD_int, asL_str, asD_str, keyD_str, asL_tup, asD_tup, keyD_tup, asL_lst, asD_lst, keyD_lst, asL_dct, asD_dct, keyD_dct, asL_scr, asD_scr, keyD_scr, asL_sup, asD_sup, asL_supD, isLs_sup, tyD_supL, tyD_supD, sup_same, sup_sup, ixN_1_0, ixN_2_0, ixN_2_1, ixN_3_0, ixN_3_1, ixN_3_2, ixN_4_0, ixN_4_1, ixN_4_2, ixN_4_3, ixN_5_0, ixN_5_1, ixN_5_2, ixN_5_3, ixN_5_4, ixN_6_0, ixN_6_1, ixN_6_2, ixN_6_3, ixN_6_4, ixN_6_5, ixN_7_0, ixN_7_1, ixN_7_2, ixN_7_3, ixN_7_4, ixN_7_5, ixN_7_6, ixN_8_0, ixN_8_1, ixN_8_2, ixN_8_3, ixN_8_4, ixN_8_5, ixN_8_6, ixN_8_7, atI_0, atI_1, atI_2, atI_3, atI_4, atI_5, atI_6, atI_7, atI_8, isi_NoneType_bool, isi_NoneType_int, isi_NoneType_str, isi_NoneType_tuple, isi_NoneType_list, isi_NoneType_dict, isi_bool_bool, isi_bool_int, isi_bool_str, isi_bool_tuple, isi_bool_list, isi_bool_dict, isi_int_bool, isi_int_int, isi_int_str, isi_int_tuple, isi_int_list, isi_int_dict, isi_str_bool, isi_str_int, isi_str_str, isi_str_tuple, isi_str_list, isi_str_dict, isi_tuple_bool, isi_tuple_int, isi_tuple_str, isi_tuple_tuple, isi_tuple_list, isi_tuple_dict, isi_list_bool, isi_list_int, isi_list_str, isi_list_tuple, isi_list_list, isi_list_dict, isi_dict_bool, isi_dict_int, isi_dict_str, isi_dict_tuple, isi_dict_list, isi_dict_dict, ev]
        refine ⟨cmulW (.of (by omega) (by omega)) (.of (by omega) (by omega)), hK _ _ ⟨col ++ [v * sz], bx3, j + 1, by rw [List.map_append]; rfl, by rw [sup_ne (Ne.symm npb)]; exact f1, sup_same, fun a h1 h2 => by rw [sup_ne h2]; exact f3 a h1 h2, hb3, by omega, by rw [List.length_append, f6]; rfl, fun y hy => ?_⟩⟩
        rcases List.mem_append.mp hy with hy | hy
        · exact f7 y hy
        · rw [List.mem_singleton.mp hy]; exact mul_cC hv4.1 hv4.2 s0 s1
      · rintro acc S' ⟨col, bx2, j, rfl, f1, f2, f3, f4, f5, f6, f7⟩
        rw [List.length_nil] at f5
        exact ⟨trivial, hK2 col S' bx2 f1 f2 f3 (f4.mono (by omega)) ⟨by omega, f7⟩⟩
    refine e5 _ fun col S2 bx2 f1 f2 f3 f4 f5 => ?_
    clear e5
    show denSs T (.cons (.ifs (.and (.cmp .NotEq (.slot 3) (.lst false .nil)) (.last (.cmp .Eq (.call 3 (.cons (.slot 0) (.cons (.int 6) .nil))) (.int 0)))) _ .nil) _) _ [some (.ref b), some (.int (m : Int)), some (.int sz), some (.ref p), some (.int (i : Int)), some (rowD col), o6, o7] S2
    refine vs_ifsE ?_
    refine t_and (neg_nil_ref rfl f1 (pyD_rows cols) (by decide) ?_)
    cases hE : (cols.map rowD).isEmpty with
    | true =>
      show denSs T .nil _ _ S2
      refine nil_nx (T := T) (tail col S2 bx2 o6 o7 f1 f2 f3 (f4.mono (by omega)) f5 _ hK)
    | false =>
      refine t_last (t_eqC h3 (vs_cons (ve_slot rfl) (vs_cons ve_int vs_nil)) rfl ⟨b, 6, k + 1 + 6 * i + 5, bx2, rfl, by decide, by decide, f2, f4, by omega, fun r2 bx3 r20 r21 hb3 => ?_⟩)
      show fEq (.int r2) (.int 0) _ _
      rw [fEq_int]
      have f1' : (sup S2 b bx3.o) p = some (.lst (cols.map rowD)) := by rw [sup_ne (Ne.symm npb)]; exact f1
      have f3' : ∀ a, a ≠ p → a ≠ b → (sup S2 b bx3.o) a = S a := fun a h1 h2 => by rw [sup_ne h2]; exact f3 a h1 h2
      have f2' : (sup S2 b bx3.o) b = some (Bx.o bx3) := sup_same
      generalize sup S2 b bx3.o = S3 at f1' f2' f3'
      by_cases z : r2 = 0
      · rw [decide_eq_true z]
        show denSs T (.cons (.setlc 5 false [("entry", 7)] (.slot 7) (.seq (.ix (.slot 3) (.neg (.int 1)))) .no (.neg (.slot 7))) .nil) _ _ S3
        refine vs_setlc ?_
        have hne : cols ≠ [] := by rintro rfl; cases hE
        have hl : cols.getLast hne ∈ cols := List.getLast_mem hne
        obtain ⟨l1, l2⟩ := g6 _ hl
        have ix : atI (cols.map rowD) (-1) = some (rowD (cols.getLast hne)) := by
          have hlen : 0 < cols.length := List.length_pos_iff.mpr hne
          unfold atI ixN
          rw [if_neg (by decide), List.length_map, if_pos (by omega)]
          show (cols.map rowD)[((-1 : Int) + (cols.length : Int)).toNat]? = _
          rw [show ((-1 : Int) + (cols.length : Int)).toNat = cols.length - 1 by omega, List.getElem?_map, List.getElem?_eq_getElem (by omega), List.getLast_eq_getElem]; rfl
        have e6 : ∀ K2 : DQ, K2 (rowD ((cols.getLast hne).map (fun x => -x))) S3 → (den T (.lc false [("entry", 7)] (.slot 7) (.seq (.ix (.slot 3) (.neg (.int 1)))) .no (.neg (.slot 7)))).v [some (.ref b), some (.int (m : Int)), some (.int sz), some (.ref p), some (.int (i : Int)), some (rowD col), o6, o7] S3 K2 := by
          intro K2 hK2
          have aR := asL_ref f1'
          simp only [denSs, denS, den, dens, denO, denT, denI, DV.of, DV.ofB, sSeq, sRet, sRetN, sNext, sIf, sSet, sSetG, sPar, sPar3, sSetIx, sDrop, sFor, sForKeys, sBreak, sCont, dAnd, dOr, dNot, dAndT, dOrT, dNotT, dUn, dOp, dIte, dVar, dC, dTup, dLst, dNil, dCons, dCall, dCut, dPart, dNoPart, dGet1, dGet2, dApp,
  dSeq1, dRange1, dRange2, dEnum, dZip, dLc, dDc, dChain, fIsi, fBlt, fLen, fAbs, fInt1, fMax, fMin, fL1, fTuple, fList, fSorted, fDict, fBin, fCmp, fNeg, fAdd, fSub, fMul, fMod, fDiv, fPow, fInt, fInt0, fLt, fLe, fGt, fGe, fIs, fIsNot, fInD, fIx, fCut, fSeq, fRange1, fRange2, fEnum, fZip, fSetIx, fGet, fApp, fLenSet, fAug, sAug, tOf, tOfB, guardN, gset, gsets, sFrz, frz_dct, frz_lst, fEq_int, fNe_int, fEq_bl, fNe_bl, fEq_nil, fNe_nil, fEq_ints,
  TyC.name, DL.isNon, start0, List.length_cons, List.length_nil, List.map_cons, List.map_nil, List.cons_append, List.nil_append, List.getElem?_cons_zero, List.getElem?_cons_succ, List.getElem?_nil, List.set_cons_zero, List.set_cons_succ, List.set_nil, List.replicate, Nat.reduceSub, Nat.reduceAdd, mkL, mkD, dwipe, Bool.false_eq_true, if_true, if_false, ite_true, ite_false, true_and, and_true, Option.isSome_some, Option.isSome_none, Option.map_some, Option.map_none, Option.getD_some, Option.getD_none,
  tyD_non, tyD_bl, tyD_int, tyD_str, tyD_tup, tyD_lst, tyD_dct, truD_non, truD_bl, truD_int, truD_tup, truD_lst, truD_dct, asL_non, asD_non, keyD_non, asL_bl, asD_bl, keyD_bl, asL_int, asD_int, keyD_int, asL_str, asD_str, keyD_str, asL_tup, asD_tup, keyD_tup, asL_lst, asD_lst, keyD_lst, asL_dct, asD_dct, keyD_dct, asL_scr, asD_scr, keyD_scr, asL_sup, asD_sup, asL_supD, isLs_sup, tyD_supL, tyD_supD, sup_same, sup_sup, ixN_1_0, ixN_2_0, ixN_2_1, ixN_3_0, ixN_3_1, ixN_3_2, ixN_4_0, ixN_4_1, ixN_4_2, ixN_4_3, ixN_5_0, ixN_5_1, ixN_5_2, ixN_5_3, ixN_5_4, ixN_6_0, ixN_6_1, ixN_6_2, ixN_6_3, ixN_6_4, ixN_6_5, ixN_7_0, ixN_7_1, ixN_7_2, ixN_7_3, ixN_7_4, ixN_7_5, ixN_7_6, ixN_8_0, ixN_8_1, ixN_8_2, ixN_8_3, ixN_8_4, ixN_8_5, ixN_8_6, ixN_8_7, atI_0, atI_1, atI_2, atI_3, atI_4, atI_5, atI_6, atI_7, atI_8, isi_NoneType_bool, isi_NoneType_int, isi_NoneType_str, isi_NoneType_tuple, isi_NoneType_list, isi_NoneType_dict, isi_bool_bool, isi_bool_int, isi_bool_str, isi_bool_tuple, isi_bool_list, isi_bool_dict, isi_int_bool, isi_int_int, isi_int_str, isi_int_tuple, isi_int_list, isi_int_dict, isi_str_bool, isi_str_int, isi_str_str, isi_str_tuple, isi_str_list, isi_str_dict, isi_tuple_bool, isi_tuple_int, isi_tuple_str, isi_tuple_tuple, isi_tuple_list, isi_tuple_dict, isi_list_bool, isi_list_int, isi_list_str, isi_list_tuple, isi_list_list, isi_list_dict, isi_dict_bool, isi_dict_int, isi_dict_str, isi_dict_tuple, isi_dict_list, isi_dict_dict, aR, ix, rowD]
          refine lcL_mapA (toD := D.int) (f := fun x => .int (-x)) trivial (fun x hx => ⟨_, rfl, fun Q' q' => ?_⟩) ?_
          · simp only [denSs, denS, den, dens, denO, denT, denI, DV.of, DV.ofB, sSeq, sRet, sRetN, sNext, sIf, sSet, sSetG, sPar, sPar3, sSetIx, sDrop, sFor, sForKeys, sBreak, sCont, dAnd, dOr, dNot, dAndT, dOrT, dNotT, dUn, dOp, dIte, dVar, dC, dTup, dLst, dNil, dCons, dCall, dCut, dPart, dNoPart, dGet1, dGet2, dApp,
  dSeq1, dRange1, dRange2, dEnum, dZip, dLc, dDc, dChain, fIsi, fBlt, fLen, fAbs, fInt1, fMax, fMin, fL1, fTuple, fList, fSorted, fDict, fBin, fCmp, fNeg, fAdd, fSub, fMul, fMod, fDiv, fPow, fInt, fInt0, fLt, fLe, fGt, fGe, fIs, fIsNot, fInD, fIx, fCut, fSeq, fRange1, fRange2, fEnum, fZip, fSetIx, fGet, fApp, fLenSet, fAug, sAug, tOf, tOfB, guardN, gset, gsets, sFrz, frz_dct, frz_lst, fEq_int, fNe_int, fEq_bl, fNe_bl, fEq_nil, fNe_nil, fEq_ints,
  TyC.name, DL.isNon, start0, List.length_cons, List.length_nil, List.map_cons, List.map_nil, List.cons_append, List.nil_append, List.getElem?_cons_zero, List.getElem?_cons_succ, List.getElem?_nil, List.set_cons_zero, List.set_cons_succ, List.set_nil, List.replicate, Nat.reduceSub, Nat.reduceAdd, mkL, mkD, dwipe, Bool.false_eq_true, if_true, if_false, ite_true, ite_false, true_and, and_true, Option.isSome_some, Option.isSome_none, Option.map_some, Option.map_none, Option.getD_some, Option.getD_none,
  tyD_non, tyD_bl, tyD_int, tyD_str, tyD_tup, tyD_lst, tyD_dct, truD_non, truD_bl, truD_int, truD_tup, truD_lst, truD_dct, asL_non, asD_non, keyD_non, asL_bl, asD_bl, keyD_bl, asL_int, asD_int, keyD_int, asL_str, asD_str, keyD_str, asL_tup, asD_tup, keyD_tup, asL_lst, asD_lst, keyD_lst, asL_dct, asD_dct, keyD_dct, asL_scr, asD_scr, keyD_scr, asL_sup, asD_sup, asL_supD, isLs_sup, tyD_supL, tyD_supD, sup_same, sup_sup, ixN_1_0, ixN_2_0, ixN_2_1, ixN_3_0, ixN_3_1, ixN_3_2, ixN_4_0, ixN_4_1, ixN_4_2, ixN_4_3, ixN_5_0, ixN_5_1, ixN_5_2, ixN_5_3, ixN_5_4, ixN_6_0, ixN_6_1, ixN_6_2, ixN_6_3, ixN_6_4, ixN_6_5, ixN_7_0, ixN_7_1, ixN_7_2, ixN_7_3, ixN_7_4, ixN_7_5, ixN_7_6, ixN_8_0, ixN_8_1, ixN_8_2, ixN_8_3, ixN_8_4, ixN_8_5, ixN_8_6, ixN_8_7, atI_0, atI_1, atI_2, atI_3, atI_4, atI_5, atI_6, atI_7, atI_8, isi_NoneType_bool, isi_NoneType_int, isi_NoneType_str, isi_NoneType_tuple, isi_NoneType_list, isi_NoneType_dict, isi_bool_bool, isi_bool_int, isi_bool_str, isi_bool_tuple, isi_bool_list, isi_bool_dict, isi_int_bool, isi_int_int, isi_int_str, isi_int_tuple, isi_int_list, isi_int_dict, isi_str_bool, isi_str_int, isi_str_str, isi_str_tuple, isi_str_list, isi_str_dict, isi_tuple_bool, isi_tuple_int, isi_tuple_str, isi_tuple_tuple, isi_tuple_list, isi_tuple_dict, isi_list_bool, isi_list_int, isi_list_str, isi_list_tuple, isi_list_list, isi_list_dict, isi_dict_bool, isi_dict_int, isi_dict_str, isi_dict_tuple, isi_dict_list, isi_dict_dict]; exact q'
          · unfold rowD at hK2
            rw [List.map_map] at hK2; exact hK2
        refine e6 _ ?_
        refine nil_nx (T := T) (tail _ S3 bx3 o6 o7 f1' f2' f3' (hb3.mono (by omega)) ⟨by rw [List.length_map]; exact l1, fun x hx => ?_⟩ _ hK)
        obtain ⟨y, hy, rfl⟩ := List.mem_map.mp hx
        rw [Int.natAbs_neg]; exact l2 y hy
      · rw [decide_eq_false z]
        show denSs T .nil _ _ S3
        exact nil_nx (T := T) (tail col S3 bx3 o6 o7 f1' f2' f3' (hb3.mono (by omega)) f5 _ hK)
  · rintro sd S1 ⟨o4, o5, o6, o7, cols, bx', rfl, g1, g2, g3, g4, g5, g6⟩
    rw [rl] at g4 g5
    refine ⟨trivial, ?_⟩
    dsimp only
    refine vs_frz rfl (d := .lst (cols.map rowD)) (by unfold frzD; rw [g1]) ?_
    refine vs_ret (x := .lst (cols.map rowD)) (ve_slot rfl) (.of ?_)
    have es : sdel S1 p = sup S b bx'.o := by
      funext c
      unfold sdel sup
      by_cases c1 : c = p
      · rw [if_pos c1, if_neg (by rw [c1]; exact Ne.symm npb), c1, hp]
      · rw [if_neg c1]
        by_cases c2 : c = b
        · rw [if_pos c2, c2]; exact g2
        · rw [if_neg c2]; exact g3 c c1 c2
    rw [es]
    exact q cols bx' (by omega) g6 (g4.mono (by omega))
end K09
set_option Elab.async false
set_option linter.all false
set_option maxRecDepth 100000
set_option maxHeartbeats 1000000
namespace K09
open PySem L2 DL Piv
/-- that the side is met by times, none of them below 0 -/
def Met (cols : List (List Int)) (m : Nat) (side : List Int) : Prop := ∃ (d : Int) (x : Nat → Int), 0 < d ∧ (∀ k, k < cols.length → 0 ≤ x k) ∧ ∀ a, a < m → Piv.S cols.length (fun k => x k * gt (cols.getD k []) a) = d * gt side a
def sC : Nat := 200000000000000
def spSide : DSp := fun ds S Q => ∃ (b : Addr) (bx : Bx) (k m : Nat) (sz : Int) (cols : List (List Int)), ds = [.ref b, .lst (cols.map rowD), .int (m : Int), .int sz] ∧ S b = some bx.o ∧ bx.ok k ∧ k < 900000 ∧ m ≤ 5 ∧ 0 ≤ sz ∧ sz ≤ 1000000000007 ∧ cols.length ≤ 8 ∧ (∀ c ∈ cols, Col m c) ∧
  ∀ (side : List Int) (sure : Bool) (bx' : Bx), side.length = m → (∀ x ∈ side, x.natAbs ≤ sC) → (sure = true → Met cols m side) → bx'.ok (k + 20) → Q (.lst [.lst (side.map D.int), .bl sure]) (sup S b bx'.o)
theorem gt_zmap {f : Int × Int → Int} {xs ys : List Int} {a : Nat} (h1 : a < xs.length) (h2 : a < ys.length) : gt ((xs.zip ys).map f) a = f (gt xs a, gt ys a) := by
  rw [gt_lt (by rw [List.length_map, List.length_zip]; omega), List.getElem_map, List.getElem_zip, gt_lt h1, gt_lt h2]
theorem r_side {T : Tb} (h3 : T.fn 3 = some (2, spTake)) {ds : List D} {S : Store} {Q : DQ} (h : spSide ds S Q) : denSs T core__law_side (DD Q) (start0 N__law_side.length ds) S := by
  obtain ⟨b, bx, k, m, sz, cols, rfl, hb, hk, hk2, m5, s0, s1, c8, hc, q⟩ := h
  have hsz : (1000 : Nat) ≤ sizeLine := by decide
  unfold core__law_side
  show denSs T _ (DD Q) [some (.ref b), some (.lst (cols.map rowD)), some (.int (m : Int)), some (.int sz), none, none, none, none, none, none, none] S
  -- one that nothing says of
  have free : ∀ (S1 : Store) (bx1 : Bx) (k1 : Nat), S1 b = some (Bx.o bx1) → bx1.ok k1 → k1 ≤ k + 1 → (∀ a, a ≠ b → S1 a = S a) →
      denSs T (.cons (.ret (.lst false (.cons (.lc false [("place", 4)] (.slot 4) (.range1 (.slot 2)) .no (.op false .Mult (.ix (.lst false (.cons (.int 0) (.cons (.int 1) (.cons (.neg (.int 1)) (.cons (.int 5) (.cons (.neg (.int 2)) .nil)))))) (.call 3 (.cons (.slot 0) (.cons (.int 5) .nil)))) (.slot 3))) (.cons (.bl false) .nil)))) .nil) (DD Q) [some (.ref b), some (.lst (cols.map rowD)), some (.int (m : Int)), some (.int sz), none, none, none, none, none, none, none] S1 := by
    intro S1 bx1 k1 g1 g2 g3 g4
    simp only [DD, denSs, denS, den, dens, denO, denT, denI, DV.of, DV.ofB, sSeq, sRet, sRetN, sNext, sIf, sSet, sSetG, sPar, sPar3, sSetIx, sDrop, sFor, sForKeys, sBreak, sCont, dAnd, dOr, dNot, dAndT, dOrT, dNotT, dUn, dOp, dIte, dVar, dC, dTup, dLst, dNil, dCons, dCall, dCut, dPart, dNoPart, dGet1, dGet2, dApp,
  dSeq1, dRange1, dRange2, dEnum, dZip, dLc, dDc, dChain, fIsi, fBlt, fLen, fAbs, fInt1, fMax, fMin, fL1, fTuple, fList, fSorted, fDict, fBin, fCmp, fNeg, fAdd, fSub, fMul, fMod, fDiv, fPow, fInt, fInt0, fLt, fLe, fGt, fGe, fIs, fIsNot, fInD, fIx, fCut, fSeq, fRange1, fRange2, fEnum, fZip, fSetIx, fGet, fApp, fLenSet, fAug, sAug, tOf, tOfB, guardN, gset, gsets, sFrz, frz_dct, frz_lst, fEq_int, fNe_int, fEq_bl, fNe_bl, fEq_nil, fNe_nil, fEq_ints,
  TyC.name, DL.isNon, start0, List.length_cons, List.length_nil, List.map_cons, List.map_nil, List.cons_append, List.nil_append, List.getElem?_cons_zero, List.getElem?_cons_succ, List.getElem?_nil, List.set_cons_zero, List.set_cons_succ, List.set_nil, List.replicate, Nat.reduceSub, Nat.reduceAdd, mkL, mkD, dwipe, Bool.false_eq_true, if_true, if_false, ite_true, ite_false, true_and, and_true, Option.isSome_some, Option.isSome_none, Option.map_some, Option.map_none, Option.getD_some, Option.getD_none,
  tyD_non, tyD_bl, tyD_int, tyD_str, tyD_tup, tyD_lst, tyD_dct, truD_non, truD_bl, truD_int, truD_tup, truD_lst, truD_dct, asL_non, asD_non, keyD_non, asL_bl, asD_bl, keyD_bl, asL_int, asD_int, keyD_int, asL_str, asD_str, keyD_str, asL_tup, asD_tup, keyD_tup, asL_lst, asD_lst, keyD_lst, asL_dct, asD_dct, keyD_dct, asL_scr, asD_scr, keyD_scr, asL_sup, asD_sup, asL_supD, isLs_sup, tyD_supL, tyD_supD, sup_same, sup_sup, ixN_1_0, ixN_2_0, ixN_2_1, ixN_3_0, ixN_3_1, ixN_3_2, ixN_4_0, ixN_4_1, ixN_4_2, ixN_4_3, ixN_5_0, ixN_5_1, ixN_5_2, ixN_5_3, ixN_5_4, ixN_6_0, ixN_6_1, ixN_6_2, ixN_6_3, ixN_6_4, ixN_6_5, ixN_7_0, ixN_7_1, ixN_7_2, ixN_7_3, ixN_7_4, ixN_7_5, ixN_7_6, ixN_8_0, ixN_8_1, ixN_8_2, ixN_8_3, ixN_8_4, ixN_8_5, ixN_8_6, ixN_8_7, atI_0, atI_1, atI_2, atI_3, atI_4, atI_5, atI_6, atI_7, atI_8, isi_NoneType_bool, isi_NoneType_int, isi_NoneType_str, isi_NoneType_tuple, isi_NoneType_list, isi_NoneType_dict, isi_bool_bool, isi_bool_int, isi_bool_str, isi_bool_tuple, isi_bool_list, isi_bool_dict, isi_int_bool, isi_int_int, isi_int_str, isi_int_tuple, isi_int_list, isi_int_dict, isi_str_bool, isi_str_int, isi_str_str, isi_str_tuple, isi_str_list, isi_str_dict, isi_tuple_bool, isi_tuple_int, isi_tuple_str, isi_tuple_tuple, isi_tuple_list, isi_tuple_dict, isi_list_bool, isi_list_int, isi_list_str, isi_list_tuple, isi_list_list, isi_list_dict, isi_dict_bool, isi_dict_int, isi_dict_str, isi_dict_tuple, isi_dict_list, isi_dict_dict, h3]
    refine ⟨by omega, by omega, ?_⟩
    have rm : (rangeD 0 (m : Int)).length = m := by rw [rangeD_len]; omega
    refine lcL_ind (fun xs acc S' => ∃ (col : List Int) (bx' : Bx) (j : Nat), acc = col.map D.int ∧ S' b = some (Bx.o bx') ∧ (∀ a, a ≠ b → S' a = S a) ∧ bx'.ok (k1 + j) ∧ j + xs.length = m ∧ col.length = j ∧ ∀ x ∈ col, x.natAbs ≤ sC) ?_ ?_ _ _ _ ⟨[], bx1, 0, rfl, g1, g4, g2, by rw [rm]; omega, rfl, fun x hx => by cases hx⟩
    · rintro x xs acc S' ⟨col, bx2, j, rfl, f2, f3, f4, f5, f6, f7⟩
      rw [List.length_cons] at f5
      refine ⟨trivial, _, rfl, fun K hK => ?_⟩
      show if true = true then _ else _
      rw [if_pos rfl]
      simp only [denSs, denS, den, dens, denO, denT, denI, DV.of, DV.ofB, sSeq, sRet, sRetN, sNext, sIf, sSet, sSetG, sPar, sPar3, sSetIx, sDrop, sFor, sForKeys, sBreak, sCont, dAnd, dOr, dNot, dAndT, dOrT, dNotT, dUn, dOp, dIte, dVar, dC, dTup, dLst, dNil, dCons, dCall, dCut, dPart, dNoPart, dGet1, dGet2, dApp,
  dSeq1, dRange1, dRange2, dEnum, dZip, dLc, dDc, dChain, fIsi, fBlt, fLen, fAbs, fInt1, fMax, fMin, fL1, fTuple, fList, fSorted, fDict, fBin, fCmp, fNeg, fAdd, fSub, fMul, fMod, fDiv, fPow, fInt, fInt0, fLt, fLe, fGt, fGe, fIs, fIsNot, fInD, fIx, fCut, fSeq, fRange1, fRange2, fEnum, fZip, fSetIx, fGet, fApp, fLenSet, fAug, sAug, tOf, tOfB, guardN, gset, gsets, sFrz, frz_dct, frz_lst, fEq_int, fNe_int, fEq_bl, fNe_bl, fEq_nil, fNe_nil, fEq_ints,
  TyC.name, DL.isNon, start0, List.length_cons, List.length_nil, List.map_cons, List.map_nil, List.cons_append, List.nil_append, List.getElem?_cons_zero, List.getElem?_cons_succ, List.getElem?_nil, List.set_cons_zero, List.set_cons_succ, List.set_nil, List.replicate, Nat.reduceSub, Nat.reduceAdd, mkL, mkD, dwipe, Bool.false_eq_true, if_true, if_false, ite_true, ite_false, true_and, and_true, Option.isSome_some, Option.isSome_none, Option.map_some, Option.map_none, Option.getD_some, Option.getD_none,
  tyD_non, tyD_bl, tyD_int, tyD_str, tyD_tup, tyD_lst, tyD_dct, truD_non, truD_bl, truD_int, truD_tup, truD_lst, truD_dct, asL_non, asD_non, keyD_non, asL_bl, asD_bl, keyD_bl, asL_int, asD_int, keyD_int, asL_str, asD_str, keyD_str, asL_tup, asD_tup, keyD_tup, asL_lst, asD_lst, keyD_lst, asL_dct, asD_dct, keyD_dct, asL_scr, asD_scr, keyD_scr, asL_sup, asD_sup, asL_supD, isLs_sup, tyD_supL, tyD_supD, sup_same, sup_sup, ixN_1_0, ixN_2_0, ixN_2_1, ixN_3_0, ixN_3_1, ixN_3_2, ixN_4_0, ixN_4_1, ixN_4_2, ixN_4_3, ixN_5_0, ixN_5_1, ixN_5_2, ixN_5_3, ixN_5_4, ixN_6_0, ixN_6_1, ixN_6_2, ixN_6_3, ixN_6_4, ixN_6_5, ixN_7_0, ixN_7_1, ixN_7_2, ixN_7_3, ixN_7_4, ixN_7_5, ixN_7_6, ixN_8_0, ixN_8_1, ixN_8_2, ixN_8_3, ixN_8_4, ixN_8_5, ixN_8_6, ixN_8_7, atI_0, atI_1, atI_2, atI_3, atI_4, atI_5, atI_6, atI_7, atI_8, isi_NoneType_bool, isi_NoneType_int, isi_NoneType_str, isi_NoneType_tuple, isi_NoneType_list, isi_NoneType_dict, isi_bool_bool, isi_bool_int, isi_bool_str, isi_bool_tuple, isi_bool_list, isi_bool_dict, isi_int_bool, isi_int_int, isi_int_str, isi_int_tuple, isi_int_list, isi_int_dict, isi_str_bool, isi_str_int, isi_str_str, isi_str_tuple, isi_str_list, isi_str_dict, isi_tuple_bool, isi_tuple_int, isi_tuple_str, isi_tuple_tuple, isi_tuple_list, isi_tuple_dict, isi_list_bool, isi_list_int, isi_list_str, isi_list_tuple, isi_list_list, isi_list_dict, isi_dict_bool, isi_dict_int, isi_dict_str, isi_dict_tuple, isi_dict_list, isi_dict_dict, h3]
      refine ⟨by omega, b, 5, k1 + j, bx2, rfl, by decide, by decide, f2, f4, by omega, fun r2 bx3 r20 r21 hb3 => ?_⟩
      obtain ⟨v, hv, ev⟩ := atI_lit [0, 1, -1, 5, -2] r20 r21
      simp only [List.map_cons, List.map_nil] at ev
      have hv4 : -2 ≤ v ∧ v ≤ 5 := by
        simp only [List.mem_cons, List.not_mem_nil, or_false] at hv; omega
      simp only [denSs, denS, den, dens, denO, denT, denI, DV.of, DV.ofB, sSeq, sRet, sRetN, sNext, sIf, sSet, sSetG, sPar, sPar3, sSetIx, sDrop, sFor, sForKeys, sBreak, sCont, dAnd, dOr, dNot, dAndT, dOrT, dNotT, dUn, dOp, dIte, dVar, dC, dTup, dLst, dNil, dCons, dCall, dCut, dPart, dNoPart, dGet1, dGet2, dApp,
  dSeq1, dRange1, dRange2, dEnum, dZip, dLc, dDc, dChain, fIsi, fBlt, fLen, fAbs, fInt1, fMax, fMin, fL1, fTuple, fList, fSorted, fDict, fBin, fCmp, fNeg, fAdd, fSub, fMul, fMod, fDiv, fPow, fInt, fInt0, fLt, fLe, fGt, fGe, fIs, fIsNot, fInD, fIx, fCut, fSeq, fRange1, fRange2, fEnum, fZip, fSetIx, fGet, fApp, fLenSet, fAug, sAug, tOf, tOfB, guardN, gset, gsets, sFrz, frz_dct, frz_lst, fEq_int, fNe_int, fEq_bl, fNe_bl, fEq_nil, fNe_nil, fEq_ints,
  TyC.name, DL.isNon, start0, List.length_cons, List.length_nil, List.map_cons, List.map_nil, List.cons_append, List.nil_append, List.getElem?_cons_zero, List.getElem?_cons_succ, List.getElem?_nil, List.set_cons_zero, List.set_cons_succ, List.set_nil, List.replicate, Nat.reduceSub, Nat.reduceAdd, mkL, mkD, dwipe, Bool.false_eq_true, if_true, if_false, ite_true, ite_false, true_and, and_true, Option.isSome_some, Option.isSome_none, Option.map_some, Option.map_none, Option.getD_some, Option.getD_none,
  tyD_non, tyD_bl, tyD_int, tyD_str, tyD_tup, tyD_lst, tyD_dct, truD_non, truD_bl, truD_int, truD_tup, truD_lst, truD_dct, asL_non, asD_non, keyD_non, asL_bl, asD_bl, keyD_bl, asL_int, asD_int, keyD_int, asL_str, asD_str, keyD_str, asL_tup, asD_tup, keyD_tup, asL_lst, asD_lst, keyD_lst, asL_dct, asD_dct, keyD_dct, asL_scr, asD_scr, keyD_scr, asL_sup, asD_sup, asL_supD, isLs_sup, tyD_supL, tyD_supD, sup_same, sup_sup, ixN_1_0, ixN_2_0, ixN_2_1, ixN_3_0, ixN_3_1, ixN_3_2, ixN_4_0, ixN_4_1, ixN_4_2, ixN_4_3, ixN_5_0, ixN_5_1, ixN_5_2, ixN_5_3, ixN_5_4, ixN_6_0, ixN_6_1, ixN_6_2, ixN_6_3, ixN_6_4, ixN_6_5, ixN_7_0, ixN_7_1, ixN_7_2, ixN_7_3, ixN_7_4, ixN_7_5, ixN_7_6, ixN_8_0, ixN_8_1, ixN_8_2, ixN_8_3, ixN_8_4, ixN_8_5, ixN_8_6, ixN_8_7, atI_0, atI_1, atI_2, atI_3, atI_4, atI_5, atI_6, atI_7, atI_8, isi_NoneType_bool, isi_NoneType_int, isi_NoneType_str, isi_NoneType_tuple, isi_NoneType_list, isi_NoneType_dict, isi_bool_bool, isi_bool_int, isi_bool_str, isi_bool_tuple, isi_bool_list, isi_bool_dict, isi_int_bool, isi_int_int, isi_int_str, isi_int_tuple, isi_int_list, isi_int_dict, isi_str_bool, isi_str_int, isi_str_str, isi_str_tuple, isi_str_list, isi_str_dict, isi_tuple_bool, isi_tuple_int, isi_tuple_str, isi_tuple_tuple, isi_tuple_list, isi_tuple_dict, isi_list_bool, isi_list_int, isi_list_str, isi_list_tuple, isi_list_list, isi_list_dict, isi_dict_bool, isi_dict_int, isi_dict_str, isi_dict_tuple, isi_dict_list, isi_dict_dict, ev]
      refine ⟨cmulW (.of (by omega) (by omega)) (.of (by omega) (by omega)), hK _ _ ⟨col ++ [v * sz], bx3, j + 1, by rw [List.map_append]; rfl, sup_same, fun a h2 => by rw [sup_ne h2]; exact f3 a h2, hb3, by omega, by rw [List.length_append, f6]; rfl, fun y hy => ?_⟩⟩
      rcases List.mem_append.mp hy with hy | hy
      · exact f7 y hy
      · rw [List.mem_singleton.mp hy, Int.natAbs_mul]
        have : v.natAbs * sz.natAbs ≤ 5 * 1000000000007 := Nat.mul_le_mul (by omega) (by omega)
        exact Nat.le_trans this (by decide)
    · rintro acc S' ⟨col, bx2, j, rfl, f2, f3, f4, f5, f6, f7⟩
      rw [List.length_nil] at f5
      refine ⟨trivial, by decide, .of ?_⟩
      have es : S' = sup S b bx2.o := by
        funext c
        unfold sup
        by_cases c2 : c = b
        · rw [if_pos c2, c2]; exact f2
        · rw [if_neg c2]; exact f3 c c2
      rw [es]
      exact q col false bx2 (by omega) f7 (fun z => by cases z) (f4.mono (by omega))
  -- one that is met
  have made : ∀ (S1 : Store) (bx1 : Bx), S1 b = some (Bx.o bx1) → bx1.ok (k + 1) → (∀ a, a ≠ b → S1 a = S a) → ∀ rest, rest = (match core__law_side with | .cons _ r => r | _ => .nil) → denSs T rest (DD Q) [some (.ref b), some (.lst (cols.map rowD)), some (.int (m : Int)), some (.int sz), none, none, none, none, none, none, none] S1 := by
    rintro S1 bx1 g1 g2 g4 rest rfl
    unfold core__law_side
    dsimp only
    refine vs_set (x := .lst ((List.replicate m (0 : Int)).map D.int)) (fun Q' q' => ?_) ?_
    · simp only [denSs, denS, den, dens, denO, denT, denI, DV.of, DV.ofB, sSeq, sRet, sRetN, sNext, sIf, sSet, sSetG, sPar, sPar3, sSetIx, sDrop, sFor, sForKeys, sBreak, sCont, dAnd, dOr, dNot, dAndT, dOrT, dNotT, dUn, dOp, dIte, dVar, dC, dTup, dLst, dNil, dCons, dCall, dCut, dPart, dNoPart, dGet1, dGet2, dApp,
  dSeq1, dRange1, dRange2, dEnum, dZip, dLc, dDc, dChain, fIsi, fBlt, fLen, fAbs, fInt1, fMax, fMin, fL1, fTuple, fList, fSorted, fDict, fBin, fCmp, fNeg, fAdd, fSub, fMul, fMod, fDiv, fPow, fInt, fInt0, fLt, fLe, fGt, fGe, fIs, fIsNot, fInD, fIx, fCut, fSeq, fRange1, fRange2, fEnum, fZip, fSetIx, fGet, fApp, fLenSet, fAug, sAug, tOf, tOfB, guardN, gset, gsets, sFrz, frz_dct, frz_lst, fEq_int, fNe_int, fEq_bl, fNe_bl, fEq_nil, fNe_nil, fEq_ints,
  TyC.name, DL.isNon, start0, List.length_cons, List.length_nil, List.map_cons, List.map_nil, List.cons_append, List.nil_append, List.getElem?_cons_zero, List.getElem?_cons_succ, List.getElem?_nil, List.set_cons_zero, List.set_cons_succ, List.set_nil, List.replicate, Nat.reduceSub, Nat.reduceAdd, mkL, mkD, dwipe, Bool.false_eq_true, if_true, if_false, ite_true, ite_false, true_and, and_true, Option.isSome_some, Option.isSome_none, Option.map_some, Option.map_none, Option.getD_some, Option.getD_none,
  tyD_non, tyD_bl, tyD_int, tyD_str, tyD_tup, tyD_lst, tyD_dct, truD_non, truD_bl, truD_int, truD_tup, truD_lst, truD_dct, asL_non, asD_non, keyD_non, asL_bl, asD_bl, keyD_bl, asL_int, asD_int, keyD_int, asL_str, asD_str, keyD_str, asL_tup, asD_tup, keyD_tup, asL_lst, asD_lst, keyD_lst, asL_dct, asD_dct, keyD_dct, asL_scr, asD_scr, keyD_scr, asL_sup, asD_sup, asL_supD, isLs_sup, tyD_supL, tyD_supD, sup_same, sup_sup, ixN_1_0, ixN_2_0, ixN_2_1, ixN_3_0, ixN_3_1, ixN_3_2, ixN_4_0, ixN_4_1, ixN_4_2, ixN_4_3, ixN_5_0, ixN_5_1, ixN_5_2, ixN_5_3, ixN_5_4, ixN_6_0, ixN_6_1, ixN_6_2, ixN_6_3, ixN_6_4, ixN_6_5, ixN_7_0, ixN_7_1, ixN_7_2, ixN_7_3, ixN_7_4, ixN_7_5, ixN_7_6, ixN_8_0, ixN_8_1, ixN_8_2, ixN_8_3, ixN_8_4, ixN_8_5, ixN_8_6, ixN_8_7, atI_0, atI_1, atI_2, atI_3, atI_4, atI_5, atI_6, atI_7, atI_8, isi_NoneType_bool, isi_NoneType_int, isi_NoneType_str, isi_NoneType_tuple, isi_NoneType_list, isi_NoneType_dict, isi_bool_bool, isi_bool_int, isi_bool_str, isi_bool_tuple, isi_bool_list, isi_bool_dict, isi_int_bool, isi_int_int, isi_int_str, isi_int_tuple, isi_int_list, isi_int_dict, isi_str_bool, isi_str_int, isi_str_str, isi_str_tuple, isi_str_list, isi_str_dict, isi_tuple_bool, isi_tuple_int, isi_tuple_str, isi_tuple_tuple, isi_tuple_list, isi_tuple_dict, isi_list_bool, isi_list_int, isi_list_str, isi_list_tuple, isi_list_list, isi_list_dict, isi_dict_bool, isi_dict_int, isi_dict_str, isi_dict_tuple, isi_dict_list, isi_dict_dict]
      have ez : ∀ n : Nat, (List.replicate ((n : Int)).toNat [D.int 0]).flatten = (List.replicate n (0 : Int)).map D.int := fun n => by
        rw [Int.toNat_natCast, List.map_replicate]
        induction n with
        | zero => rfl
        | succ n ih => rw [List.replicate_succ, List.flatten_cons, ih]; rfl
      rw [ez]
      exact ⟨by omega, by omega, by omega, by omega, q'⟩
    refine vs_forL (xs := cols.map rowD) (ve_slot rfl) ?_
    refine forL_at (fun i sd S' => ∃ (o6 o7 o8 o9 o10 : Option D) (side : List Int) (bx' : Bx) (w : Nat → Int), sd = [some (.ref b), some (.lst (cols.map rowD)), some (.int (m : Int)), some (.int sz), none, some (.lst (side.map D.int)), o6, o7, o8, o9, o10] ∧ S' b = some (Bx.o bx') ∧ (∀ a, a ≠ b → S' a = S a) ∧ bx'.ok (k + 1 + i) ∧ side.length = m ∧ (∀ x ∈ side, x.natAbs ≤ i * 20000000000140) ∧ (∀ k, 0 ≤ w k) ∧ ∀ a, a < m → Piv.S i (fun k => w k * gt (cols.getD k []) a) = gt side a) ?_ ?_ _ _
      ⟨none, none, none, none, none, List.replicate m 0, bx1, fun _ => 0, rfl, g1, g4, g2, List.length_replicate, fun x hx => by rw [(List.mem_replicate.mp hx).2]; decide, fun _ => Int.le_refl 0, fun a ha => by
        show (0 : Int) = _
        rw [gt_lt (by rw [List.length_replicate]; exact ha), List.getElem_replicate]⟩
    · rintro i x sd S2 hx ⟨o6, o7, o8, o9, o10, side, bx2, w, rfl, f1, f2, f3, f4, f5, f6, f7⟩
      rw [List.getElem?_map] at hx
      cases e : cols[i]? with
      | none => rw [e] at hx; cases hx
      | some col =>
        rw [e] at hx
        cases hx
        obtain ⟨hi, ecol⟩ := List.getElem?_eq_some_iff.mp e
        have hcol : col ∈ cols := by rw [← ecol]; exact List.getElem_mem _
        obtain ⟨l1, l2⟩ := hc col hcol
        have eD : cols.getD i [] = col := by rw [List.getD_eq_getElem?_getD, e]; rfl
        refine ⟨trivial, _, rfl, fun K hK => ?_⟩
        simp only [denSs, denS, den, dens, denO, denT, denI, DV.of, DV.ofB, sSeq, sRet, sRetN, sNext, sIf, sSet, sSetG, sPar, sPar3, sSetIx, sDrop, sFor, sForKeys, sBreak, sCont, dAnd, dOr, dNot, dAndT, dOrT, dNotT, dUn, dOp, dIte, dVar, dC, dTup, dLst, dNil, dCons, dCall, dCut, dPart, dNoPart, dGet1, dGet2, dApp,
  dSeq1, dRange1, dRange2, dEnum, dZip, dLc, dDc, dChain, fIsi, fBlt, fLen, fAbs, fInt1, fMax, fMin, fL1, fTuple, fList, fSorted, fDict, fBin, fCmp, fNeg, fAdd, fSub, fMul, fMod, fDiv, fPow, fInt, fInt0, fLt, fLe, fGt, fGe, fIs, fIsNot, fInD, fIx, fCut, fSeq, fRange1, fRange2, fEnum, fZip, fSetIx, fGet, fApp, fLenSet, fAug, sAug, tOf, tOfB, guardN, gset, gsets, sFrz, frz_dct, frz_lst, fEq_int, fNe_int, fEq_bl, fNe_bl, fEq_nil, fNe_nil, fEq_ints,
  TyC.name, DL.isNon, start0, List.length_cons, List.length_nil, List.map_cons, List.map_nil, List.cons_append, List.nil_append, List.getElem?_cons_zero, List.getElem?_cons_succ, List.getElem?_nil, List.set_cons_zero, List.set_cons_succ, List.set_nil, List.replicate, Nat.reduceSub, Nat.reduceAdd, mkL, mkD, dwipe, Bool.false_eq_true, if_true, if_false, ite_true, ite_false, true_and, and_true, Option.isSome_some, Option.isSome_none, Option.map_some, Option.map_none, Option.getD_some, Option.getD_none,
  tyD_non, tyD_bl, tyD_int, tyD_str, tyD_tup, tyD_lst, tyD_dct, truD_non, truD_bl, truD_int, truD_tup, truD_lst, truD_dct, asL_non, asD_non, keyD_non, asL_bl, asD_bl, keyD_bl, asL_int, asD_int, keyD_int, asL_str, asD_str, keyD_str, asL_tup, asD_tup, keyD_tup, asL_lst, asD_lst, keyD_lst, asL_dct, asD_dct, keyD_dct, asL_scr, asD_scr, keyD_scr, asL_sup, asD_sup, asL_supD, isLs_sup, tyD_supL, tyD_supD, sup_same, sup_sup, ixN_1_0, ixN_2_0, ixN_2_1, ixN_3_0, ixN_3_1, ixN_3_2, ixN_4_0, ixN_4_1, ixN_4_2, ixN_4_3, ixN_5_0, ixN_5_1, ixN_5_2, ixN_5_3, ixN_5_4, ixN_6_0, ixN_6_1, ixN_6_2, ixN_6_3, ixN_6_4, ixN_6_5, ixN_7_0, ixN_7_1, ixN_7_2, ixN_7_3, ixN_7_4, ixN_7_5, ixN_7_6, ixN_8_0, ixN_8_1, ixN_8_2, ixN_8_3, ixN_8_4, ixN_8_5, ixN_8_6, ixN_8_7, atI_0, atI_1, atI_2, atI_3, atI_4, atI_5, atI_6, atI_7, atI_8, isi_NoneType_bool, isi_NoneType_int, isi_NoneType_str, isi_NoneType_tuple, isi_NoneType_list, isi_NoneType_dict, isi_bool_bool, isi_bool_int, isi_bool_str, isi_bool_tuple, isi_bool_list, isi_bool_dict, isi_int_bool, isi_int_int, isi_int_str, isi_int_tuple, isi_int_list, isi_int_dict, isi_str_bool, isi_str_int, isi_str_str, isi_str_tuple, isi_str_list, isi_str_dict, isi_tuple_bool, isi_tuple_int, isi_tuple_str, isi_tuple_tuple, isi_tuple_list, isi_tuple_dict, isi_list_bool, isi_list_int, isi_list_str, isi_list_tuple, isi_list_list, isi_list_dict, isi_dict_bool, isi_dict_int, isi_dict_str, isi_dict_tuple, isi_dict_list, isi_dict_dict, h3]
        refine ⟨by omega, b, 5, k + 1 + i, bx2, rfl, by decide, by decide, f1, f3, by omega, fun r2 bx3 r20 r21 hb3 => ?_⟩
        obtain ⟨v, hv, ev⟩ := atI_lit [0, 0, 1, 2, 5] r20 r21
        simp only [List.map_cons, List.map_nil] at ev
        have hv4 : 0 ≤ v ∧ v ≤ 5 := by
          simp only [List.mem_cons, List.not_mem_nil, or_false] at hv; omega
        simp only [denSs, denS, den, dens, denO, denT, denI, DV.of, DV.ofB, sSeq, sRet, sRetN, sNext, sIf, sSet, sSetG, sPar, sPar3, sSetIx, sDrop, sFor, sForKeys, sBreak, sCont, dAnd, dOr, dNot, dAndT, dOrT, dNotT, dUn, dOp, dIte, dVar, dC, dTup, dLst, dNil, dCons, dCall, dCut, dPart, dNoPart, dGet1, dGet2, dApp,
  dSeq1, dRange1, dRange2, dEnum, dZip, dLc, dDc, dChain, fIsi, fBlt, fLen, fAbs, fInt1, fMax, fMin, fL1, fTuple, fList, fSorted, fDict, fBin, fCmp, fNeg, fAdd, fSub, fMul, fMod, fDiv, fPow, fInt, fInt0, fLt, fLe, fGt, fGe, fIs, fIsNot, fInD, fIx, fCut, fSeq, fRange1, fRange2, fEnum, fZip, fSetIx, fGet, fApp, fLenSet, fAug, sAug, tOf, tOfB, guardN, gset, gsets, sFrz, frz_dct, frz_lst, fEq_int, fNe_int, fEq_bl, fNe_bl, fEq_nil, fNe_nil, fEq_ints,
  TyC.name, DL.isNon, start0, List.length_cons, List.length_nil, List.map_cons, List.map_nil, List.cons_append, List.nil_append, List.getElem?_cons_zero, List.getElem?_cons_succ, List.getElem?_nil, List.set_cons_zero, List.set_cons_succ, List.set_nil, List.replicate, Nat.reduceSub, Nat.reduceAdd, mkL, mkD, dwipe, Bool.false_eq_true, if_true, if_false, ite_true, ite_false, true_and, and_true, Option.isSome_some, Option.isSome_none, Option.map_some, Option.map_none, Option.getD_some, Option.getD_none,
  tyD_non, tyD_bl, tyD_int, tyD_str, tyD_tup, tyD_lst, tyD_dct, truD_non, truD_bl, truD_int, truD_tup, truD_lst, truD_dct, asL_non, asD_non, keyD_non, asL_bl, asD_bl, keyD_bl, asL_int, asD_int, keyD_int, asL_str, asD_str, keyD_str, asL_tup, asD_tup, keyD_tup, asL_lst, asD_lst, keyD_lst, asL_dct, asD_dct, keyD_dct, asL_scr, asD_scr, keyD_scr, asL_sup, asD_sup, asL_supD, isLs_sup, tyD_supL, tyD_supD, sup_same, sup_sup, ixN_1_0, ixN_2_0, ixN_2_1, ixN_3_0, ixN_3_1, ixN_3_2, ixN_4_0, ixN_4_1, ixN_4_2, ixN_4_3, ixN_5_0, ixN_5_1, ixN_5_2, ixN_5_3, ixN_5_4, ixN_6_0, ixN_6_1, ixN_6_2, ixN_6_3, ixN_6_4, ixN_6_5, ixN_7_0, ixN_7_1, ixN_7_2, ixN_7_3, ixN_7_4, ixN_7_5, ixN_7_6, ixN_8_0, ixN_8_1, ixN_8_2, ixN_8_3, ixN_8_4, ixN_8_5, ixN_8_6, ixN_8_7, atI_0, atI_1, atI_2, atI_3, atI_4, atI_5, atI_6, atI_7, atI_8, isi_NoneType_bool, isi_NoneType_int, isi_NoneType_str, isi_NoneType_tuple, isi_NoneType_list, isi_NoneType_dict, isi_bool_bool, isi_bool_int, isi_bool_str, isi_bool_tuple, isi_bool_list, isi_bool_dict, isi_int_bool, isi_int_int, isi_int_str, isi_int_tuple, isi_int_list, isi_int_dict, isi_str_bool, isi_str_int, isi_str_str, isi_str_tuple, isi_str_list, isi_str_dict, isi_tuple_bool, isi_tuple_int, isi_tuple_str, isi_tuple_tuple, isi_tuple_list, isi_tuple_dict, isi_list_bool, isi_list_int, isi_list_str, isi_list_tuple, isi_list_list, isi_list_dict, isi_dict_bool, isi_dict_int, isi_dict_str, isi_dict_tuple, isi_dict_list, isi_dict_dict, ev, rowD, asLc]
        rw [zipD_ints]
        refine lcL_mapA (f := fun q => .int (q.1 + v * q.2)) trivial (fun q hq => ⟨_, rfl, fun Q' q' => ?_⟩) ?_
        · obtain ⟨_, z2⟩ := List.of_mem_zip hq
          have := l2 _ z2
          have hcc : q.2.natAbs ≤ 4000000000028 := this
          simp only [denSs, denS, den, dens, denO, denT, denI, DV.of, DV.ofB, sSeq, sRet, sRetN, sNext, sIf, sSet, sSetG, sPar, sPar3, sSetIx, sDrop, sFor, sForKeys, sBreak, sCont, dAnd, dOr, dNot, dAndT, dOrT, dNotT, dUn, dOp, dIte, dVar, dC, dTup, dLst, dNil, dCons, dCall, dCut, dPart, dNoPart, dGet1, dGet2, dApp,
  dSeq1, dRange1, dRange2, dEnum, dZip, dLc, dDc, dChain, fIsi, fBlt, fLen, fAbs, fInt1, fMax, fMin, fL1, fTuple, fList, fSorted, fDict, fBin, fCmp, fNeg, fAdd, fSub, fMul, fMod, fDiv, fPow, fInt, fInt0, fLt, fLe, fGt, fGe, fIs, fIsNot, fInD, fIx, fCut, fSeq, fRange1, fRange2, fEnum, fZip, fSetIx, fGet, fApp, fLenSet, fAug, sAug, tOf, tOfB, guardN, gset, gsets, sFrz, frz_dct, frz_lst, fEq_int, fNe_int, fEq_bl, fNe_bl, fEq_nil, fNe_nil, fEq_ints,
  TyC.name, DL.isNon, start0, List.length_cons, List.length_nil, List.map_cons, List.map_nil, List.cons_append, List.nil_append, List.getElem?_cons_zero, List.getElem?_cons_succ, List.getElem?_nil, List.set_cons_zero, List.set_cons_succ, List.set_nil, List.replicate, Nat.reduceSub, Nat.reduceAdd, mkL, mkD, dwipe, Bool.false_eq_true, if_true, if_false, ite_true, ite_false, true_and, and_true, Option.isSome_some, Option.isSome_none, Option.map_some, Option.map_none, Option.getD_some, Option.getD_none,
  tyD_non, tyD_bl, tyD_int, tyD_str, tyD_tup, tyD_lst, tyD_dct, truD_non, truD_bl, truD_int, truD_tup, truD_lst, truD_dct, asL_non, asD_non, keyD_non, asL_bl, asD_bl, keyD_bl, asL_int, asD_int, keyD_int, asL_str, asD_str, keyD_str, asL_tup, asD_tup, keyD_tup, asL_lst, asD_lst, keyD_lst, asL_dct, asD_dct, keyD_dct, asL_scr, asD_scr, keyD_scr, asL_sup, asD_sup, asL_supD, isLs_sup, tyD_supL, tyD_supD, sup_same, sup_sup, ixN_1_0, ixN_2_0, ixN_2_1, ixN_3_0, ixN_3_1, ixN_3_2, ixN_4_0, ixN_4_1, ixN_4_2, ixN_4_3, ixN_5_0, ixN_5_1, ixN_5_2, ixN_5_3, ixN_5_4, ixN_6_0, ixN_6_1, ixN_6_2, ixN_6_3, ixN_6_4, ixN_6_5, ixN_7_0, ixN_7_1, ixN_7_2, ixN_7_3, ixN_7_4, ixN_7_5, ixN_7_6, ixN_8_0, ixN_8_1, ixN_8_2, ixN_8_3, ixN_8_4, ixN_8_5, ixN_8_6, ixN_8_7, atI_0, atI_1, atI_2, atI_3, atI_4, atI_5, atI_6, atI_7, atI_8, isi_NoneType_bool, isi_NoneType_int, isi_NoneType_str, isi_NoneType_tuple, isi_NoneType_list, isi_NoneType_dict, isi_bool_bool, isi_bool_int, isi_bool_str, isi_bool_tuple, isi_bool_list, isi_bool_dict, isi_int_bool, isi_int_int, isi_int_str, isi_int_tuple, isi_int_list, isi_int_dict, isi_str_bool, isi_str_int, isi_str_str, isi_str_tuple, isi_str_list, isi_str_dict, isi_tuple_bool, isi_tuple_int, isi_tuple_str, isi_tuple_tuple, isi_tuple_list, isi_tuple_dict, isi_list_bool, isi_list_int, isi_list_str, isi_list_tuple, isi_list_list, isi_list_dict, isi_dict_bool, isi_dict_int, isi_dict_str, isi_dict_tuple, isi_dict_list, isi_dict_dict]
          exact ⟨cmulW (.of (by omega) (by omega)) (.of (by omega) (by omega)), q'⟩
        · have em : ((side.zip col).map fun q => D.int (q.1 + v * q.2)) = ((side.zip col).map fun q => q.1 + v * q.2).map D.int := by rw [List.map_map]; rfl
          rw [em]
          refine hK _ _ ⟨_, _, _, _, _, (side.zip col).map fun q => q.1 + v * q.2, bx3, fun k => if k = i then v else w k, rfl, sup_same, fun a h2 => by rw [sup_ne h2]; exact f2 a h2, hb3, ?_, ?_, ?_, ?_⟩
          · rw [List.length_map, List.length_zip, f4, l1]; omega
          · intro x hx
            obtain ⟨q, hq, rfl⟩ := List.mem_map.mp hx
            obtain ⟨z1, z2⟩ := List.of_mem_zip hq
            have y1 := f5 _ z1
            have y2 : q.2.natAbs ≤ 4000000000028 := l2 _ z2
            have y3 : (v * q.2).natAbs ≤ 5 * 4000000000028 := by
              rw [Int.natAbs_mul]; exact Nat.mul_le_mul (by omega) y2
            show (q.1 + v * q.2).natAbs ≤ _
            omega
          · intro k
            show 0 ≤ if k = i then v else w k
            split
            · exact hv4.1
            · exact f6 k
          · intro a ha
            rw [gt_zmap (by omega) (by omega)]
            show Piv.S i (fun k => (if k = i then v else w k) * gt (cols.getD k []) a) + (if i = i then v else w i) * gt (cols.getD i []) a = gt side a + v * gt col a
            rw [if_pos rfl, eD, S_congr (g := fun k => w k * gt (cols.getD k []) a) fun k hk => by rw [if_neg (by omega)], f7 a ha]
    · rintro sd S2 ⟨o6, o7, o8, o9, o10, side, bx2, w, rfl, f1, f2, f3, f4, f5, f6, f7⟩
      rw [List.length_map] at f3 f5 f7
      have f5' : ∀ x ∈ side, x.natAbs ≤ 160000000001120 := fun x hx => Nat.le_trans (f5 x hx) (by omega)
      refine ⟨trivial, ?_⟩
      dsimp only
      have fin : ∀ (side : List Int) (S3 : Store) (bx3 : Bx) (o10 : Option D), side.length = m → (∀ x ∈ side, x.natAbs ≤ sC) → Met cols m side → bx3.ok (k + 20) → S3 b = some (Bx.o bx3) → (∀ a, a ≠ b → S3 a = S a) →
          denSs T (.cons (.ret (.lst false (.cons (.slot 5) (.cons (.bl true) .nil)))) .nil) (DD Q) [some (.ref b), some (.lst (cols.map rowD)), some (.int (m : Int)), some (.int sz), none, some (.lst (side.map D.int)), o6, o7, o8, o9, o10] S3 := fun side S3 bx3 o10 x1 x2 x3 x4 x5 x6 => by
        refine vs_ret (x := .lst [.lst (side.map D.int), .bl true]) (ve_lst (vs_cons (ve_slot rfl) (vs_cons ve_bl vs_nil)) rfl) (.of ?_)
        have es : S3 = sup S b bx3.o := by
          funext c
          unfold sup
          by_cases c2 : c = b
          · rw [if_pos c2, c2]; exact x5
          · rw [if_neg c2]; exact x6 c c2
        rw [es]
        exact q side true bx3 x1 x2 (fun _ => x3) x4
      have met : Met cols m side := ⟨1, w, by decide, fun k _ => f6 k, fun a ha => by rw [f7 a ha, Int.one_mul]⟩
      have bd : ∀ x ∈ side, x.natAbs ≤ sC := fun x hx => Nat.le_trans (f5' x hx) (by decide)
      refine vs_ifsE (t_and ?_)
      -- can all be parted by 3
      have e3 : ∀ K : Bool → Store → Prop, (K (side.filter (fun x => decide (x % 3 ≠ 0))).isEmpty S2) → (den T (.cmp .Eq (.lc false [("entry", 10)] (.slot 10) (.seq (.slot 5)) (.one (.cmp .NotEq (.op false .Mod (.blt false .int (.cons (.slot 10) .nil)) (.int 3)) (.int 0))) (.slot 10)) (.lst false .nil))).t [some (.ref b), some (.lst (cols.map rowD)), some (.int (m : Int)), some (.int sz), none, some (.lst (side.map D.int)), o6, o7, o8, o9, o10] S2 K := by
        intro K hK
        simp only [denSs, denS, den, dens, denO, denT, denI, DV.of, DV.ofB, sSeq, sRet, sRetN, sNext, sIf, sSet, sSetG, sPar, sPar3, sSetIx, sDrop, sFor, sForKeys, sBreak, sCont, dAnd, dOr, dNot, dAndT, dOrT, dNotT, dUn, dOp, dIte, dVar, dC, dTup, dLst, dNil, dCons, dCall, dCut, dPart, dNoPart, dGet1, dGet2, dApp,
  dSeq1, dRange1, dRange2, dEnum, dZip, dLc, dDc, dChain, fIsi, fBlt, fLen, fAbs, fInt1, fMax, fMin, fL1, fTuple, fList, fSorted, fDict, fBin, fCmp, fNeg, fAdd, fSub, fMul, fMod, fDiv, fPow, fInt, fInt0, fLt, fLe, fGt, fGe, fIs, fIsNot, fInD, fIx, fCut, fSeq, fRange1, fRange2, fEnum, fZip, fSetIx, fGet, fApp, fLenSet, fAug, sAug, tOf, tOfB, guardN, gset, gsets, sFrz, frz_dct, frz_lst, fEq_int, fNe_int, fEq_bl, fNe_bl, fEq_nil, fNe_nil, fEq_ints,
  TyC.name, DL.isNon, start0, List.length_cons, List.length_nil, List.map_cons, List.map_nil, List.cons_append, List.nil_append, List.getElem?_cons_zero, List.getElem?_cons_succ, List.getElem?_nil, List.set_cons_zero, List.set_cons_succ, List.set_nil, List.replicate, Nat.reduceSub, Nat.reduceAdd, mkL, mkD, dwipe, Bool.false_eq_true, if_true, if_false, ite_true, ite_false, true_and, and_true, Option.isSome_some, Option.isSome_none, Option.map_some, Option.map_none, Option.getD_some, Option.getD_none,
  tyD_non, tyD_bl, tyD_int, tyD_str, tyD_tup, tyD_lst, tyD_dct, truD_non, truD_bl, truD_int, truD_tup, truD_lst, truD_dct, asL_non, asD_non, keyD_non, asL_bl, asD_bl, keyD_bl, asL_int, asD_int, keyD_int, asL_str, asD_str, keyD_str, asL_tup, asD_tup, keyD_tup, asL_lst, asD_lst, keyD_lst, asL_dct, asD_dct, keyD_dct, asL_scr, asD_scr, keyD_scr, asL_sup, asD_sup, asL_supD, isLs_sup, tyD_supL, tyD_supD, sup_same, sup_sup, ixN_1_0, ixN_2_0, ixN_2_1, ixN_3_0, ixN_3_1, ixN_3_2, ixN_4_0, ixN_4_1, ixN_4_2, ixN_4_3, ixN_5_0, ixN_5_1, ixN_5_2, ixN_5_3, ixN_5_4, ixN_6_0, ixN_6_1, ixN_6_2, ixN_6_3, ixN_6_4, ixN_6_5, ixN_7_0, ixN_7_1, ixN_7_2, ixN_7_3, ixN_7_4, ixN_7_5, ixN_7_6, ixN_8_0, ixN_8_1, ixN_8_2, ixN_8_3, ixN_8_4, ixN_8_5, ixN_8_6, ixN_8_7, atI_0, atI_1, atI_2, atI_3, atI_4, atI_5, atI_6, atI_7, atI_8, isi_NoneType_bool, isi_NoneType_int, isi_NoneType_str, isi_NoneType_tuple, isi_NoneType_list, isi_NoneType_dict, isi_bool_bool, isi_bool_int, isi_bool_str, isi_bool_tuple, isi_bool_list, isi_bool_dict, isi_int_bool, isi_int_int, isi_int_str, isi_int_tuple, isi_int_list, isi_int_dict, isi_str_bool, isi_str_int, isi_str_str, isi_str_tuple, isi_str_list, isi_str_dict, isi_tuple_bool, isi_tuple_int, isi_tuple_str, isi_tuple_tuple, isi_tuple_list, isi_tuple_dict, isi_list_bool, isi_list_int, isi_list_str, isi_list_tuple, isi_list_list, isi_list_dict, isi_dict_bool, isi_dict_int, isi_dict_str, isi_dict_tuple, isi_dict_list, isi_dict_dict]
        refine lcL_gen (toD := D.int) (p := fun x => decide (x % 3 ≠ 0)) (f := D.int) trivial _ [] (fun x hx => ⟨_, rfl, fun Q' q' => ?_, fun _ Q' q' => ?_⟩) ?_
        · simp only [denSs, denS, den, dens, denO, denT, denI, DV.of, DV.ofB, sSeq, sRet, sRetN, sNext, sIf, sSet, sSetG, sPar, sPar3, sSetIx, sDrop, sFor, sForKeys, sBreak, sCont, dAnd, dOr, dNot, dAndT, dOrT, dNotT, dUn, dOp, dIte, dVar, dC, dTup, dLst, dNil, dCons, dCall, dCut, dPart, dNoPart, dGet1, dGet2, dApp,
  dSeq1, dRange1, dRange2, dEnum, dZip, dLc, dDc, dChain, fIsi, fBlt, fLen, fAbs, fInt1, fMax, fMin, fL1, fTuple, fList, fSorted, fDict, fBin, fCmp, fNeg, fAdd, fSub, fMul, fMod, fDiv, fPow, fInt, fInt0, fLt, fLe, fGt, fGe, fIs, fIsNot, fInD, fIx, fCut, fSeq, fRange1, fRange2, fEnum, fZip, fSetIx, fGet, fApp, fLenSet, fAug, sAug, tOf, tOfB, guardN, gset, gsets, sFrz, frz_dct, frz_lst, fEq_int, fNe_int, fEq_bl, fNe_bl, fEq_nil, fNe_nil, fEq_ints,
  TyC.name, DL.isNon, start0, List.length_cons, List.length_nil, List.map_cons, List.map_nil, List.cons_append, List.nil_append, List.getElem?_cons_zero, List.getElem?_cons_succ, List.getElem?_nil, List.set_cons_zero, List.set_cons_succ, List.set_nil, List.replicate, Nat.reduceSub, Nat.reduceAdd, mkL, mkD, dwipe, Bool.false_eq_true, if_true, if_false, ite_true, ite_false, true_and, and_true, Option.isSome_some, Option.isSome_none, Option.map_some, Option.map_none, Option.getD_some, Option.getD_none,
  tyD_non, tyD_bl, tyD_int, tyD_str, tyD_tup, tyD_lst, tyD_dct, truD_non, truD_bl, truD_int, truD_tup, truD_lst, truD_dct, asL_non, asD_non, keyD_non, asL_bl, asD_bl, keyD_bl, asL_int, asD_int, keyD_int, asL_str, asD_str, keyD_str, asL_tup, asD_tup, keyD_tup, asL_lst, asD_lst, keyD_lst, asL_dct, asD_dct, keyD_dct, asL_scr, asD_scr, keyD_scr, asL_sup, asD_sup, asL_supD, isLs_sup, tyD_supL, tyD_supD, sup_same, sup_sup, ixN_1_0, ixN_2_0, ixN_2_1, ixN_3_0, ixN_3_1, ixN_3_2, ixN_4_0, ixN_4_1, ixN_4_2, ixN_4_3, ixN_5_0, ixN_5_1, ixN_5_2, ixN_5_3, ixN_5_4, ixN_6_0, ixN_6_1, ixN_6_2, ixN_6_3, ixN_6_4, ixN_6_5, ixN_7_0, ixN_7_1, ixN_7_2, ixN_7_3, ixN_7_4, ixN_7_5, ixN_7_6, ixN_8_0, ixN_8_1, ixN_8_2, ixN_8_3, ixN_8_4, ixN_8_5, ixN_8_6, ixN_8_7, atI_0, atI_1, atI_2, atI_3, atI_4, atI_5, atI_6, atI_7, atI_8, isi_NoneType_bool, isi_NoneType_int, isi_NoneType_str, isi_NoneType_tuple, isi_NoneType_list, isi_NoneType_dict, isi_bool_bool, isi_bool_int, isi_bool_str, isi_bool_tuple, isi_bool_list, isi_bool_dict, isi_int_bool, isi_int_int, isi_int_str, isi_int_tuple, isi_int_list, isi_int_dict, isi_str_bool, isi_str_int, isi_str_str, isi_str_tuple, isi_str_list, isi_str_dict, isi_tuple_bool, isi_tuple_int, isi_tuple_str, isi_tuple_tuple, isi_tuple_list, isi_tuple_dict, isi_list_bool, isi_list_int, isi_list_str, isi_list_tuple, isi_list_list, isi_list_dict, isi_dict_bool, isi_dict_int, isi_dict_str, isi_dict_tuple, isi_dict_list, isi_dict_dict]
          rw [decide_not] at q'
          exact ⟨by decide, q'⟩
        · simp only [denSs, denS, den, dens, denO, denT, denI, DV.of, DV.ofB, sSeq, sRet, sRetN, sNext, sIf, sSet, sSetG, sPar, sPar3, sSetIx, sDrop, sFor, sForKeys, sBreak, sCont, dAnd, dOr, dNot, dAndT, dOrT, dNotT, dUn, dOp, dIte, dVar, dC, dTup, dLst, dNil, dCons, dCall, dCut, dPart, dNoPart, dGet1, dGet2, dApp,
  dSeq1, dRange1, dRange2, dEnum, dZip, dLc, dDc, dChain, fIsi, fBlt, fLen, fAbs, fInt1, fMax, fMin, fL1, fTuple, fList, fSorted, fDict, fBin, fCmp, fNeg, fAdd, fSub, fMul, fMod, fDiv, fPow, fInt, fInt0, fLt, fLe, fGt, fGe, fIs, fIsNot, fInD, fIx, fCut, fSeq, fRange1, fRange2, fEnum, fZip, fSetIx, fGet, fApp, fLenSet, fAug, sAug, tOf, tOfB, guardN, gset, gsets, sFrz, frz_dct, frz_lst, fEq_int, fNe_int, fEq_bl, fNe_bl, fEq_nil, fNe_nil, fEq_ints,
  TyC.name, DL.isNon, start0, List.length_cons, List.length_nil, List.map_cons, List.map_nil, List.cons_append, List.nil_append, List.getElem?_cons_zero, List.getElem?_cons_succ, List.getElem?_nil, List.set_cons_zero, List.set_cons_succ, List.set_nil, List.replicate, Nat.reduceSub, Nat.reduceAdd, mkL, mkD, dwipe, Bool.false_eq_true, if_true, if_false, ite_true, ite_false, true_and, and_true, Option.isSome_some, Option.isSome_none, Option.map_some, Option.map_none, Option.getD_some, Option.getD_none,
  tyD_non, tyD_bl, tyD_int, tyD_str, tyD_tup, tyD_lst, tyD_dct, truD_non, truD_bl, truD_int, truD_tup, truD_lst, truD_dct, asL_non, asD_non, keyD_non, asL_bl, asD_bl, keyD_bl, asL_int, asD_int, keyD_int, asL_str, asD_str, keyD_str, asL_tup, asD_tup, keyD_tup, asL_lst, asD_lst, keyD_lst, asL_dct, asD_dct, keyD_dct, asL_scr, asD_scr, keyD_scr, asL_sup, asD_sup, asL_supD, isLs_sup, tyD_supL, tyD_supD, sup_same, sup_sup, ixN_1_0, ixN_2_0, ixN_2_1, ixN_3_0, ixN_3_1, ixN_3_2, ixN_4_0, ixN_4_1, ixN_4_2, ixN_4_3, ixN_5_0, ixN_5_1, ixN_5_2, ixN_5_3, ixN_5_4, ixN_6_0, ixN_6_1, ixN_6_2, ixN_6_3, ixN_6_4, ixN_6_5, ixN_7_0, ixN_7_1, ixN_7_2, ixN_7_3, ixN_7_4, ixN_7_5, ixN_7_6, ixN_8_0, ixN_8_1, ixN_8_2, ixN_8_3, ixN_8_4, ixN_8_5, ixN_8_6, ixN_8_7, atI_0, atI_1, atI_2, atI_3, atI_4, atI_5, atI_6, atI_7, atI_8, isi_NoneType_bool, isi_NoneType_int, isi_NoneType_str, isi_NoneType_tuple, isi_NoneType_list, isi_NoneType_dict, isi_bool_bool, isi_bool_int, isi_bool_str, isi_bool_tuple, isi_bool_list, isi_bool_dict, isi_int_bool, isi_int_int, isi_int_str, isi_int_tuple, isi_int_list, isi_int_dict, isi_str_bool, isi_str_int, isi_str_str, isi_str_tuple, isi_str_list, isi_str_dict, isi_tuple_bool, isi_tuple_int, isi_tuple_str, isi_tuple_tuple, isi_tuple_list, isi_tuple_dict, isi_list_bool, isi_list_int, isi_list_str, isi_list_tuple, isi_list_list, isi_list_dict, isi_dict_bool, isi_dict_int, isi_dict_str, isi_dict_tuple, isi_dict_list, isi_dict_dict]; exact q'
        · rw [List.nil_append]
          refine ⟨Nat.zero_le _, fEq_nilL (n := 0) ?_ (by decide) ?_⟩
          · rw [List.all_eq_true]
            intro y hy
            obtain ⟨z, _, rfl⟩ := List.mem_map.mp hy
            rfl
          · cases hF : side.filter (fun x => decide (x % 3 ≠ 0)) with
            | nil => rw [hF] at hK; exact hK
            | cons _ _ => rw [hF] at hK; exact hK
      refine e3 _ ?_
      clear e3
      cases hF : (side.filter (fun x => decide (x % 3 ≠ 0))).isEmpty with
      | false =>
        rw [if_neg (by decide)]
        show denSs T .nil _ _ S2
        exact nil_nx (T := T) (fin side S2 bx2 o10 f4 bd met (f3.mono (by omega)) f1 f2)
      | true =>
        rw [if_pos rfl]
        refine t_last (t_eqC h3 (vs_cons (ve_slot rfl) (vs_cons ve_int vs_nil)) rfl ⟨b, 2, k + 1 + cols.length, bx2, rfl, by decide, by decide, f1, f3, by omega, fun r2 bx3 r20 r21 hb3 => ?_⟩)
        show fEq (.int r2) (.int 0) _ _
        rw [fEq_int]
        have f1' : (sup S2 b bx3.o) b = some (Bx.o bx3) := sup_same
        have f2' : ∀ a, a ≠ b → (sup S2 b bx3.o) a = S a := fun a h2 => by rw [sup_ne h2]; exact f2 a h2
        generalize sup S2 b bx3.o = S3 at f1' f2'
        by_cases z : r2 = 0
        · rw [decide_eq_true z]
          show denSs T (.cons (.setlc 5 false [("entry", 10)] (.slot 10) (.seq (.slot 5)) .no (.op false .FloorDiv (.slot 10) (.int 3))) .nil) _ _ S3
          refine vs_setlc ?_
          have e6 : ∀ K2 : DQ, K2 (.lst ((side.map (fun x => x / 3)).map D.int)) S3 → (den T (.lc false [("entry", 10)] (.slot 10) (.seq (.slot 5)) .no (.op false .FloorDiv (.slot 10) (.int 3)))).v [some (.ref b), some (.lst (cols.map rowD)), some (.int (m : Int)), some (.int sz), none, some (.lst (side.map D.int)), o6, o7, o8, o9, o10] S3 K2 := by
            intro K2 hK2
            simp only [denSs, denS, den, dens, denO, denT, denI, DV.of, DV.ofB, sSeq, sRet, sRetN, sNext, sIf, sSet, sSetG, sPar, sPar3, sSetIx, sDrop, sFor, sForKeys, sBreak, sCont, dAnd, dOr, dNot, dAndT, dOrT, dNotT, dUn, dOp, dIte, dVar, dC, dTup, dLst, dNil, dCons, dCall, dCut, dPart, dNoPart, dGet1, dGet2, dApp,
  dSeq1, dRange1, dRange2, dEnum, dZip, dLc, dDc, dChain, fIsi, fBlt, fLen, fAbs, fInt1, fMax, fMin, fL1, fTuple, fList, fSorted, fDict, fBin, fCmp, fNeg, fAdd, fSub, fMul, fMod, fDiv, fPow, fInt, fInt0, fLt, fLe, fGt, fGe, fIs, fIsNot, fInD, fIx, fCut, fSeq, fRange1, fRange2, fEnum, fZip, fSetIx, fGet, fApp, fLenSet, fAug, sAug, tOf, tOfB, guardN, gset, gsets, sFrz, frz_dct, frz_lst, fEq_int, fNe_int, fEq_bl, fNe_bl, fEq_nil, fNe_nil, fEq_ints,
  TyC.name, DL.isNon, start0, List.length_cons, List.length_nil, List.map_cons, List.map_nil, List.cons_append, List.nil_append, List.getElem?_cons_zero, List.getElem?_cons_succ, List.getElem?_nil, List.set_cons_zero, List.set_cons_succ, List.set_nil, List.replicate, Nat.reduceSub, Nat.reduceAdd, mkL, mkD, dwipe, Bool.false_eq_true, if_true, if_false, ite_true, ite_false, true_and, and_true, Option.isSome_some, Option.isSome_none, Option.map_some, Option.map_none, Option.getD_some, Option.getD_none,
  tyD_non, tyD_bl, tyD_int, tyD_str, tyD_tup, tyD_lst, tyD_dct, truD_non, truD_bl, truD_int, truD_tup, truD_lst, truD_dct, asL_non, asD_non, keyD_non, asL_bl, asD_bl, keyD_bl, asL_int, asD_int, keyD_int, asL_str, asD_str, keyD_str, asL_tup, asD_tup, keyD_tup, asL_lst, asD_lst, keyD_lst, asL_dct, asD_dct, keyD_dct, asL_scr, asD_scr, keyD_scr, asL_sup, asD_sup, asL_supD, isLs_sup, tyD_supL, tyD_supD, sup_same, sup_sup, ixN_1_0, ixN_2_0, ixN_2_1, ixN_3_0, ixN_3_1, ixN_3_2, ixN_4_0, ixN_4_1, ixN_4_2, ixN_4_3, ixN_5_0, ixN_5_1, ixN_5_2, ixN_5_3, ixN_5_4, ixN_6_0, ixN_6_1, ixN_6_2, ixN_6_3, ixN_6_4, ixN_6_5, ixN_7_0, ixN_7_1, ixN_7_2, ixN_7_3, ixN_7_4, ixN_7_5, ixN_7_6, ixN_8_0, ixN_8_1, ixN_8_2, ixN_8_3, ixN_8_4, ixN_8_5, ixN_8_6, ixN_8_7, atI_0, atI_1, atI_2, atI_3, atI_4, atI_5, atI_6, atI_7, atI_8, isi_NoneType_bool, isi_NoneType_int, isi_NoneType_str, isi_NoneType_tuple, isi_NoneType_list, isi_NoneType_dict, isi_bool_bool, isi_bool_int, isi_bool_str, isi_bool_tuple, isi_bool_list, isi_bool_dict, isi_int_bool, isi_int_int, isi_int_str, isi_int_tuple, isi_int_list, isi_int_dict, isi_str_bool, isi_str_int, isi_str_str, isi_str_tuple, isi_str_list, isi_str_dict, isi_tuple_bool, isi_tuple_int, isi_tuple_str, isi_tuple_tuple, isi_tuple_list, isi_tuple_dict, isi_list_bool, isi_list_int, isi_list_str, isi_list_tuple, isi_list_list, isi_list_dict, isi_dict_bool, isi_dict_int, isi_dict_str, isi_dict_tuple, isi_dict_list, isi_dict_dict]
            refine lcL_mapA (toD := D.int) (f := fun x => .int (x / 3)) trivial (fun x hx => ⟨_, rfl, fun Q' q' => ?_⟩) ?_
            · simp only [denSs, denS, den, dens, denO, denT, denI, DV.of, DV.ofB, sSeq, sRet, sRetN, sNext, sIf, sSet, sSetG, sPar, sPar3, sSetIx, sDrop, sFor, sForKeys, sBreak, sCont, dAnd, dOr, dNot, dAndT, dOrT, dNotT, dUn, dOp, dIte, dVar, dC, dTup, dLst, dNil, dCons, dCall, dCut, dPart, dNoPart, dGet1, dGet2, dApp,
  dSeq1, dRange1, dRange2, dEnum, dZip, dLc, dDc, dChain, fIsi, fBlt, fLen, fAbs, fInt1, fMax, fMin, fL1, fTuple, fList, fSorted, fDict, fBin, fCmp, fNeg, fAdd, fSub, fMul, fMod, fDiv, fPow, fInt, fInt0, fLt, fLe, fGt, fGe, fIs, fIsNot, fInD, fIx, fCut, fSeq, fRange1, fRange2, fEnum, fZip, fSetIx, fGet, fApp, fLenSet, fAug, sAug, tOf, tOfB, guardN, gset, gsets, sFrz, frz_dct, frz_lst, fEq_int, fNe_int, fEq_bl, fNe_bl, fEq_nil, fNe_nil, fEq_ints,
  TyC.name, DL.isNon, start0, List.length_cons, List.length_nil, List.map_cons, List.map_nil, List.cons_append, List.nil_append, List.getElem?_cons_zero, List.getElem?_cons_succ, List.getElem?_nil, List.set_cons_zero, List.set_cons_succ, List.set_nil, List.replicate, Nat.reduceSub, Nat.reduceAdd, mkL, mkD, dwipe, Bool.false_eq_true, if_true, if_false, ite_true, ite_false, true_and, and_true, Option.isSome_some, Option.isSome_none, Option.map_some, Option.map_none, Option.getD_some, Option.getD_none,
  tyD_non, tyD_bl, tyD_int, tyD_str, tyD_tup, tyD_lst, tyD_dct, truD_non, truD_bl, truD_int, truD_tup, truD_lst, truD_dct, asL_non, asD_non, keyD_non, asL_bl, asD_bl, keyD_bl, asL_int, asD_int, keyD_int, asL_str, asD_str, keyD_str, asL_tup, asD_tup, keyD_tup, asL_lst, asD_lst, keyD_lst, asL_dct, asD_dct, keyD_dct, asL_scr, asD_scr, keyD_scr, asL_sup, asD_sup, asL_supD, isLs_sup, tyD_supL, tyD_supD, sup_same, sup_sup, ixN_1_0, ixN_2_0, ixN_2_1, ixN_3_0, ixN_3_1, ixN_3_2, ixN_4_0, ixN_4_1, ixN_4_2, ixN_4_3, ixN_5_0, ixN_5_1, ixN_5_2, ixN_5_3, ixN_5_4, ixN_6_0, ixN_6_1, ixN_6_2, ixN_6_3, ixN_6_4, ixN_6_5, ixN_7_0, ixN_7_1, ixN_7_2, ixN_7_3, ixN_7_4, ixN_7_5, ixN_7_6, ixN_8_0, ixN_8_1, ixN_8_2, ixN_8_3, ixN_8_4, ixN_8_5, ixN_8_6, ixN_8_7, atI_0, atI_1, atI_2, atI_3, atI_4, atI_5, atI_6, atI_7, atI_8, isi_NoneType_bool, isi_NoneType_int, isi_NoneType_str, isi_NoneType_tuple, isi_NoneType_list, isi_NoneType_dict, isi_bool_bool, isi_bool_int, isi_bool_str, isi_bool_tuple, isi_bool_list, isi_bool_dict, isi_int_bool, isi_int_int, isi_int_str, isi_int_tuple, isi_int_list, isi_int_dict, isi_str_bool, isi_str_int, isi_str_str, isi_str_tuple, isi_str_list, isi_str_dict, isi_tuple_bool, isi_tuple_int, isi_tuple_str, isi_tuple_tuple, isi_tuple_list, isi_tuple_dict, isi_list_bool, isi_list_int, isi_list_str, isi_list_tuple, isi_list_list, isi_list_dict, isi_dict_bool, isi_dict_int, isi_dict_str, isi_dict_tuple, isi_dict_list, isi_dict_dict]
              exact ⟨cdivW (by decide) (.of (by decide) (by decide)), q'⟩
            · rw [List.map_map] at hK2; exact hK2
          refine e6 _ ?_
          refine nil_nx (T := T) (fin (side.map (fun x => x / 3)) S3 bx3 o10 (by rw [List.length_map]; exact f4) (fun x hx => ?_) ⟨3, w, by decide, fun k _ => f6 k, fun a ha => ?_⟩ (hb3.mono (by omega)) f1' f2')
          · obtain ⟨y, hy, rfl⟩ := List.mem_map.mp hx
            have := f5' y hy
            unfold sC
            omega
          · rw [f7 a ha, gt_map (by omega)]
            have hm : gt side a ∈ side := by rw [gt_lt (by omega)]; exact List.getElem_mem _
            have h0 : gt side a % 3 = 0 := Classical.byContradiction fun n => by
              have : gt side a ∈ side.filter (fun x => decide (x % 3 ≠ 0)) := List.mem_filter.mpr ⟨hm, decide_eq_true n⟩
              rw [List.isEmpty_iff.mp hF] at this
              cases this
            omega
        · rw [decide_eq_false z]
          show denSs T .nil _ _ S3
          exact nil_nx (T := T) (fin side S3 bx3 o10 f4 bd met (hb3.mono (by omega)) f1' f2')
  refine vs_ifsE (t_or (t_eqC h3 (vs_cons (ve_slot rfl) (vs_cons ve_int vs_nil)) rfl ⟨b, 2, k, bx, rfl, by decide, by decide, hb, hk, by omega, fun r bx1 r0 r1 hb1 => ?_⟩))
  show fEq (.int r) (.int 0) _ _
  rw [fEq_int]
  have g4 : ∀ a, a ≠ b → (sup S b bx1.o) a = S a := fun a h => sup_ne h
  have g1 : (sup S b bx1.o) b = some (Bx.o bx1) := sup_same
  generalize sup S b bx1.o = S1 at g1 g4
  by_cases z : r = 0
  · rw [decide_eq_true z]
    exact free S1 bx1 (k + 1) g1 hb1 (Nat.le_refl _) g4
  · rw [decide_eq_false z]
    show (den T (.last (.cmp .Eq (.slot 1) (.lst false .nil)))).t _ S1 _
    refine t_last (eq_nil_lst rfl (pyD_rows cols) (by decide) ?_)
    cases hE : (cols.map rowD).isEmpty with
    | true => exact free S1 bx1 (k + 1) g1 hb1 (Nat.le_refl _) g4
    | false => exact made S1 bx1 g1 hb1 g4 _ rfl
end K09
set_option Elab.async false
set_option linter.all false
set_option maxRecDepth 100000
set_option maxHeartbeats 1000000
namespace DL
open PySem L2
def dropSs : Nat → CSs → CSs
  | 0, s => s
  | n + 1, .cons _ r => dropSs n r
  | n + 1, .frz _ r => dropSs n r
  | _ + 1, .nil => .nil
def bodyOf : CSs → CSs
  | .cons (.for_ _ _ b) _ => b
  | _ => .nil
section
variable {T : Tb} {sd : Slots} {S : Store}
theorem ve_repr {a : CE} {x : D} {e : PyData} {n : Nat} (hg : T.gd = true) (ha : Ve T sd S a x) (hr : refD x = true) (he : toPyR S x = some e) (hs : Sho n e) (hn : n ≤ sizeLine) (hd : e.depth ≤ 40) : Ve T sd S (.repr a) (.str e.shown) := fun Q q => by
  show (if T.gd = true then dUn fRepr (den T a).v else dFail) sd S Q
  rw [if_pos hg]
  refine ha _ ⟨hr, ?_⟩
  rw [he]
  exact ⟨hs.s, Nat.le_trans hs.l hn, hd, q⟩
theorem fNe_strS {x : Str} {Q : DQ} (h : PyData.strOk x = true) (q : Q (.bl false) S) : fNe (.str x) (.str x) S Q := by
  have z : SeqAt.shaped (.str x) = true := by
    unfold SeqAt.shaped; rw [Bool.and_eq_true]; exact ⟨h, by simp [PyData.depth]⟩
  refine ⟨.str x, .str x, rfl, rfl, z, z, ?_⟩
  have e : PyData.eqv (.str x) (.str x) = true := by show (x == x) = true; simp
  rw [e]; exact q
theorem t_notE {a : CE} {K : Bool → Store → Prop} (h : (den T a).t sd S fun k S1 => K (!k) S1) : (den T (.not a)).t sd S K := h
theorem t_call {j : Nat} {es : CEs} {K : Bool → Store → Prop} (h : (den T (.call j es)).v sd S fun x S1 => match truD S1 x with | some k => K k S1 | none => False) : (den T (.call j es)).t sd S K := h
theorem call_dens {j n : Nat} {sp : DSp} {es : CEs} {K : DQ} (hf : T.fn j = some (n, sp)) (h : dens T es sd S fun ys S1 => guardN n sp ys S1 K) : (den T (.call j es)).v sd S K := by
  show (match T.fn j with | some (n, sp) => dCall (guardN n sp) (dens T es) | none => dFail) sd S K
  rw [hf]; exact h
theorem dens_cons {e : CE} {r : CEs} {Q : List D → Store → Prop} (h : (den T e).v sd S fun x S1 => dens T r sd S1 fun xs S2 => Q (x :: xs) S2) : dens T (.cons e r) sd S Q := h
theorem t_neS {a b : CE} {x y : D} {K : Bool → Store → Prop} (ha : Ve T sd S a x) (hb : Ve T sd S b y) (h : fNe x y S fun d S3 => match d with | .bl k => K k S3 | _ => False) : (den T (.cmp .NotEq a b)).t sd S K := by
  show (den T a).v sd S fun x S1 => (den T b).v sd S1 fun y S2 => fNe x y S2 fun d S3 => match d with | .bl k => K k S3 | _ => False
  exact ha _ (hb _ h)
theorem toPys_map {α : Type} {S : Store} {f : α → D} {g : α → PyData} (h : ∀ x, toPy S (f x) = some (g x)) : ∀ xs : List α, toPys S (xs.map f) = some (xs.map g)
  | [] => rfl
  | x :: xs => by
    show (match toPy S (f x), toPys S (xs.map f) with | some e, some es => some (e :: es) | _, _ => none) = _
    rw [h x, toPys_map h xs]; rfl
theorem depthAll_map {α : Type} {g : α → PyData} {n : Nat} (h : ∀ x, (g x).depth ≤ n) : ∀ xs : List α, PyData.depthAll (xs.map g) ≤ n
  | [] => Nat.zero_le _
  | x :: xs => by
    show max (g x).depth (PyData.depthAll (xs.map g)) ≤ n
    have := h x
    have := depthAll_map h xs
    omega
end
end DL
namespace K09
open PySem L2 DL Piv
/-! ### what repr tells -/
def rowPy (c : List Int) : PyData := .list (c.map PyData.int)
def shPy (cols : List (List Int)) (side : List Int) : PyData := .list [.list (cols.map rowPy), rowPy side]
theorem toPy_row {S : Store} (c : List Int) : toPy S (rowD c) = some (rowPy c) := by
  show (toPys S (c.map D.int)).map PyData.list = _
  rw [toPys_map (g := PyData.int) (fun x => rfl)]; rfl
theorem toPyR_sh {S : Store} (cols : List (List Int)) (side : List Int) : toPyR S (.lst [.lst (cols.map rowD), .lst (side.map D.int)]) = some (shPy cols side) := by
  show (toPys S [.lst (cols.map rowD), rowD side]).map PyData.list = _
  have e : toPys S [.lst (cols.map rowD), rowD side] = some [.list (cols.map rowPy), rowPy side] := by
    show (match (toPys S (cols.map rowD)).map PyData.list, (match toPy S (rowD side), toPys S [] with | some e, some es => some (e :: es) | _, _ => none) with | some e, some es => some (e :: es) | _, _ => none) = _
    rw [toPys_map (g := rowPy) toPy_row, toPy_row]; rfl
  rw [e]; rfl
theorem depth_row (c : List Int) : (rowPy c).depth ≤ 1 := by
  have := depthAll_map (g := PyData.int) (n := 0) (fun x => Nat.le_refl 0) c
  show PyData.depthAll (c.map PyData.int) + 1 ≤ 1
  omega
theorem depth_sh (cols : List (List Int)) (side : List Int) : (shPy cols side).depth ≤ 40 := by
  have h1 := depthAll_map depth_row cols
  have h2 := depth_row side
  show max (PyData.depthAll (cols.map rowPy) + 1) (max (rowPy side).depth 0) + 1 ≤ 40
  omega
theorem log64 {x : Int} (h : x.natAbs < 2 ^ 64) : x.natAbs.log2 < 1920 := by
  by_cases z : x.natAbs = 0
  · rw [z]; decide
  · have := (Nat.log2_lt z).mpr h; omega
theorem sho_row {c : List Int} (hl : c.length ≤ 5) (h : ∀ x ∈ c, x.natAbs < 2 ^ 64) : Sho 10000 (rowPy c) := by
  refine (sho_list (shos_map (f := PyData.int) fun x hx => sho_int (log64 (h x hx)))).mono ?_
  rw [List.length_map]
  have : (1921 + 2) * c.length ≤ (1921 + 2) * 5 := Nat.mul_le_mul_left _ hl
  omega
theorem sho_sh {cols : List (List Int)} {side : List Int} {m : Nat} (hm : m ≤ 5) (hc : cols.length ≤ 8) (h : ∀ c ∈ cols, Col m c) (hl : side.length = m) (hs : ∀ x ∈ side, x.natAbs ≤ sC) : Sho 200000 (shPy cols side) := by
  have h1 : Sho 90000 (.list (cols.map rowPy)) := by
    refine (sho_list (shos_map (f := rowPy) fun c hcc => sho_row (by rw [(h c hcc).1]; exact hm) fun x hx => Nat.lt_of_le_of_lt ((h c hcc).2 x hx) (by decide))).mono ?_
    rw [List.length_map]
    have : (10000 + 2) * cols.length ≤ (10000 + 2) * 8 := Nat.mul_le_mul_left _ hc
    omega
  have h2 : Sho 90000 (rowPy side) := (sho_row (by omega) fun x hx => Nat.lt_of_le_of_lt (hs x hx) (by decide)).mono (by decide)
  exact (sho_list (shos_cons h1 (shos_cons h2 shos_nil))).mono (by simp)
/-! ### the law -/
structure Fns (T : Tb) : Prop where
  f1 : T.fn 1 = some (2, spSolved)
  f2 : T.fn 2 = some (2, spCell)
  f3 : T.fn 3 = some (2, spTake)
  f4 : T.fn 4 = some (1, spBox)
  f5 : T.fn 5 = some (2, spSame 8)
  f6 : T.fn 6 = some (1, spInt)
  f7 : T.fn 7 = some (3, spColumns)
  f8 : T.fn 8 = some (4, spSide)
  k1 : T.kw 1 = [([("side" : Str), "columns"], [1, 0])]
  gd : T.gd = true
theorem sum_zip {α : Type} {d : α} {f : Int × α → Int} {xs : List Int} {ys : List α} {n : Nat} (h1 : xs.length = n) (h2 : ys.length = n) : ((xs.zip ys).map f).sum = Piv.S n fun k => f (gt xs k, ys.getD k d) := by
  rw [← sum_range]
  congr 1
  refine List.ext_getElem (by rw [List.length_map, List.length_zip, List.length_map, List.length_range]; omega) fun i i1 i2 => ?_
  rw [List.length_map, List.length_range] at i2
  rw [List.getElem_map, List.getElem_map, List.getElem_zip, List.getElem_range, gt_lt (by omega), List.getD_eq_getElem?_getD, List.getElem?_eq_getElem (by omega)]; rfl
theorem zipD_rows : ∀ (xs : List Int) (ys : List (List Int)), zipD (xs.map D.int) (ys.map rowD) = (xs.zip ys).map fun q => .tup [.int q.1, rowD q.2]
  | [], ys => by simp [zipD]
  | _ :: _, [] => by simp [zipD]
  | x :: xs, y :: ys => by rw [List.zip_cons_cons, List.map_cons, List.map_cons, List.map_cons, zipD, zipD_rows xs ys]
theorem law_rest {T : Tb} (A : Fns T) {E : DEnds} {S : Store} {cols : List (List Int)} {side : List Int} {m : Nat} {sure : Bool} {o0 o1 o2 o4 o5 o11 o12 o13 o14 o15 : Option D} (hm : m ≤ 5) (hc8 : cols.length ≤ 8) (hc : ∀ c ∈ cols, Col m c) (hl : side.length = m) (hs : ∀ x ∈ side, x.natAbs ≤ sC) (met : sure = true → Met cols m side)
    (hE : ∀ a12 a13 a11 a14 a15 S2, E.nx [o0, o1, o2, some (.int (m : Int)), o4, o5, some (.lst (cols.map rowD)), some (.lst (side.map D.int)), some (.bl sure), some (.str (shPy cols side).shown), some (.tup [.int (solF cols side).1, .lst ((solF cols side).2.map D.int)]), a11, a12, a13, a14, a15] S2) :
    denSs T (dropSs 6 (bodyOf core_law)) E [o0, o1, o2, some (.int (m : Int)), o4, o5, some (.lst (cols.map rowD)), some (.lst (side.map D.int)), some (.bl sure), some (.str (shPy cols side).shown), some (.tup [.int (solF cols side).1, .lst ((solF cols side).2.map D.int)]), o11, o12, o13, o14, o15] S := by
  have hsz : (1000 : Nat) ≤ sizeLine := by decide
  have I : Inp cols side := ⟨fun c h => ⟨by rw [(hc c h).1, hl], fun x hx => Nat.le_trans ((hc c h).2 x hx) (by decide)⟩, fun x hx => Nat.le_trans (hs x hx) (by decide), by omega, by omega⟩
  obtain ⟨b1, b2⟩ := solF_big I
  have sok := solF_ok (cols := cols) (side := side)
  have sur : sure = true → 0 < (solF cols side).1 := fun e => by
    obtain ⟨d, x, h1, h2, h3⟩ := met e
    exact solF_sure h1 h2 fun a ha => h3 a (by omega)
  generalize hd : (solF cols side).1 = d at *
  generalize hx : (solF cols side).2 = xs at *
  show denSs T (.cons (.ifs _ _ .nil) (.cons (.ifs _ _ .nil) (.cons (.ifs _ _ _) (.cons (.ifs _ _ .nil) .nil)))) E _ S
  refine vs_ifsF (fun K k => ?_) ?_
  · simp only [denSs, denS, den, dens, denO, denT, denI, DV.of, DV.ofB, sSeq, sRet, sRetN, sNext, sIf, sSet, sSetG, sPar, sPar3, sSetIx, sDrop, sFor, sForKeys, sBreak, sCont, dAnd, dOr, dNot, dAndT, dOrT, dNotT, dUn, dOp, dIte, dVar, dC, dTup, dLst, dNil, dCons, dCall, dCut, dPart, dNoPart, dGet1, dGet2, dApp,
  dSeq1, dRange1, dRange2, dEnum, dZip, dLc, dDc, dChain, fIsi, fBlt, fLen, fAbs, fInt1, fMax, fMin, fL1, fTuple, fList, fSorted, fDict, fBin, fCmp, fNeg, fAdd, fSub, fMul, fMod, fDiv, fPow, fInt, fInt0, fLt, fLe, fGt, fGe, fIs, fIsNot, fInD, fIx, fCut, fSeq, fRange1, fRange2, fEnum, fZip, fSetIx, fGet, fApp, fLenSet, fAug, sAug, tOf, tOfB, guardN, gset, gsets, sFrz, frz_dct, frz_lst, fEq_int, fNe_int, fEq_bl, fNe_bl, fEq_nil, fNe_nil, fEq_ints,
  TyC.name, DL.isNon, start0, List.length_cons, List.length_nil, List.map_cons, List.map_nil, List.cons_append, List.nil_append, List.getElem?_cons_zero, List.getElem?_cons_succ, List.getElem?_nil, List.set_cons_zero, List.set_cons_succ, List.set_nil, List.replicate, Nat.reduceSub, Nat.reduceAdd, mkL, mkD, dwipe, Bool.false_eq_true, if_true, if_false, ite_true, ite_false, true_and, and_true, Option.isSome_some, Option.isSome_none, Option.map_some, Option.map_none, Option.getD_some, Option.getD_none,
  tyD_non, tyD_bl, tyD_int, tyD_str, tyD_tup, tyD_lst, tyD_dct, truD_non, truD_bl, truD_int, truD_tup, truD_lst, truD_dct, asL_non, asD_non, keyD_non, asL_bl, asD_bl, keyD_bl, asL_int, asD_int, keyD_int, asL_str, asD_str, keyD_str, asL_tup, asD_tup, keyD_tup, asL_lst, asD_lst, keyD_lst, asL_dct, asD_dct, keyD_dct, asL_scr, asD_scr, keyD_scr, asL_sup, asD_sup, asL_supD, isLs_sup, tyD_supL, tyD_supD, sup_same, sup_sup, ixN_1_0, ixN_2_0, ixN_2_1, ixN_3_0, ixN_3_1, ixN_3_2, ixN_4_0, ixN_4_1, ixN_4_2, ixN_4_3, ixN_5_0, ixN_5_1, ixN_5_2, ixN_5_3, ixN_5_4, ixN_6_0, ixN_6_1, ixN_6_2, ixN_6_3, ixN_6_4, ixN_6_5, ixN_7_0, ixN_7_1, ixN_7_2, ixN_7_3, ixN_7_4, ixN_7_5, ixN_7_6, ixN_8_0, ixN_8_1, ixN_8_2, ixN_8_3, ixN_8_4, ixN_8_5, ixN_8_6, ixN_8_7, atI_0, atI_1, atI_2, atI_3, atI_4, atI_5, atI_6, atI_7, atI_8, isi_NoneType_bool, isi_NoneType_int, isi_NoneType_str, isi_NoneType_tuple, isi_NoneType_list, isi_NoneType_dict, isi_bool_bool, isi_bool_int, isi_bool_str, isi_bool_tuple, isi_bool_list, isi_bool_dict, isi_int_bool, isi_int_int, isi_int_str, isi_int_tuple, isi_int_list, isi_int_dict, isi_str_bool, isi_str_int, isi_str_str, isi_str_tuple, isi_str_list, isi_str_dict, isi_tuple_bool, isi_tuple_int, isi_tuple_str, isi_tuple_tuple, isi_tuple_list, isi_tuple_dict, isi_list_bool, isi_list_int, isi_list_str, isi_list_tuple, isi_list_list, isi_list_dict, isi_dict_bool, isi_dict_int, isi_dict_str, isi_dict_tuple, isi_dict_list, isi_dict_dict, A.f6, Bool.not_true, Bool.not_false]
    rw [if_neg (by decide)]
    refine ⟨d, rfl, ?_⟩
    show if decide (d < 0) = true then K true S else K false S
    rw [if_neg (by rw [decide_eq_true_eq]; omega)]
    exact k
  refine vs_ifsF (fun K k => ?_) ?_
  · simp only [denSs, denS, den, dens, denO, denT, denI, DV.of, DV.ofB, sSeq, sRet, sRetN, sNext, sIf, sSet, sSetG, sPar, sPar3, sSetIx, sDrop, sFor, sForKeys, sBreak, sCont, dAnd, dOr, dNot, dAndT, dOrT, dNotT, dUn, dOp, dIte, dVar, dC, dTup, dLst, dNil, dCons, dCall, dCut, dPart, dNoPart, dGet1, dGet2, dApp,
  dSeq1, dRange1, dRange2, dEnum, dZip, dLc, dDc, dChain, fIsi, fBlt, fLen, fAbs, fInt1, fMax, fMin, fL1, fTuple, fList, fSorted, fDict, fBin, fCmp, fNeg, fAdd, fSub, fMul, fMod, fDiv, fPow, fInt, fInt0, fLt, fLe, fGt, fGe, fIs, fIsNot, fInD, fIx, fCut, fSeq, fRange1, fRange2, fEnum, fZip, fSetIx, fGet, fApp, fLenSet, fAug, sAug, tOf, tOfB, guardN, gset, gsets, sFrz, frz_dct, frz_lst, fEq_int, fNe_int, fEq_bl, fNe_bl, fEq_nil, fNe_nil, fEq_ints,
  TyC.name, DL.isNon, start0, List.length_cons, List.length_nil, List.map_cons, List.map_nil, List.cons_append, List.nil_append, List.getElem?_cons_zero, List.getElem?_cons_succ, List.getElem?_nil, List.set_cons_zero, List.set_cons_succ, List.set_nil, List.replicate, Nat.reduceSub, Nat.reduceAdd, mkL, mkD, dwipe, Bool.false_eq_true, if_true, if_false, ite_true, ite_false, true_and, and_true, Option.isSome_some, Option.isSome_none, Option.map_some, Option.map_none, Option.getD_some, Option.getD_none,
  tyD_non, tyD_bl, tyD_int, tyD_str, tyD_tup, tyD_lst, tyD_dct, truD_non, truD_bl, truD_int, truD_tup, truD_lst, truD_dct, asL_non, asD_non, keyD_non, asL_bl, asD_bl, keyD_bl, asL_int, asD_int, keyD_int, asL_str, asD_str, keyD_str, asL_tup, asD_tup, keyD_tup, asL_lst, asD_lst, keyD_lst, asL_dct, asD_dct, keyD_dct, asL_scr, asD_scr, keyD_scr, asL_sup, asD_sup, asL_supD, isLs_sup, tyD_supL, tyD_supD, sup_same, sup_sup, ixN_1_0, ixN_2_0, ixN_2_1, ixN_3_0, ixN_3_1, ixN_3_2, ixN_4_0, ixN_4_1, ixN_4_2, ixN_4_3, ixN_5_0, ixN_5_1, ixN_5_2, ixN_5_3, ixN_5_4, ixN_6_0, ixN_6_1, ixN_6_2, ixN_6_3, ixN_6_4, ixN_6_5, ixN_7_0, ixN_7_1, ixN_7_2, ixN_7_3, ixN_7_4, ixN_7_5, ixN_7_6, ixN_8_0, ixN_8_1, ixN_8_2, ixN_8_3, ixN_8_4, ixN_8_5, ixN_8_6, ixN_8_7, atI_0, atI_1, atI_2, atI_3, atI_4, atI_5, atI_6, atI_7, atI_8, isi_NoneType_bool, isi_NoneType_int, isi_NoneType_str, isi_NoneType_tuple, isi_NoneType_list, isi_NoneType_dict, isi_bool_bool, isi_bool_int, isi_bool_str, isi_bool_tuple, isi_bool_list, isi_bool_dict, isi_int_bool, isi_int_int, isi_int_str, isi_int_tuple, isi_int_list, isi_int_dict, isi_str_bool, isi_str_int, isi_str_str, isi_str_tuple, isi_str_list, isi_str_dict, isi_tuple_bool, isi_tuple_int, isi_tuple_str, isi_tuple_tuple, isi_tuple_list, isi_tuple_dict, isi_list_bool, isi_list_int, isi_list_str, isi_list_tuple, isi_list_list, isi_list_dict, isi_dict_bool, isi_dict_int, isi_dict_str, isi_dict_tuple, isi_dict_list, isi_dict_dict, Bool.not_true, Bool.not_false]
    refine lcL_gen (toD := D.int) (p := fun _ => false) (f := D.int) trivial _ [] (fun x hx => ⟨_, rfl, fun Q' q' => ?_, fun z => by cases z⟩) ?_
    · simp only [denSs, denS, den, dens, denO, denT, denI, DV.of, DV.ofB, sSeq, sRet, sRetN, sNext, sIf, sSet, sSetG, sPar, sPar3, sSetIx, sDrop, sFor, sForKeys, sBreak, sCont, dAnd, dOr, dNot, dAndT, dOrT, dNotT, dUn, dOp, dIte, dVar, dC, dTup, dLst, dNil, dCons, dCall, dCut, dPart, dNoPart, dGet1, dGet2, dApp,
  dSeq1, dRange1, dRange2, dEnum, dZip, dLc, dDc, dChain, fIsi, fBlt, fLen, fAbs, fInt1, fMax, fMin, fL1, fTuple, fList, fSorted, fDict, fBin, fCmp, fNeg, fAdd, fSub, fMul, fMod, fDiv, fPow, fInt, fInt0, fLt, fLe, fGt, fGe, fIs, fIsNot, fInD, fIx, fCut, fSeq, fRange1, fRange2, fEnum, fZip, fSetIx, fGet, fApp, fLenSet, fAug, sAug, tOf, tOfB, guardN, gset, gsets, sFrz, frz_dct, frz_lst, fEq_int, fNe_int, fEq_bl, fNe_bl, fEq_nil, fNe_nil, fEq_ints,
  TyC.name, DL.isNon, start0, List.length_cons, List.length_nil, List.map_cons, List.map_nil, List.cons_append, List.nil_append, List.getElem?_cons_zero, List.getElem?_cons_succ, List.getElem?_nil, List.set_cons_zero, List.set_cons_succ, List.set_nil, List.replicate, Nat.reduceSub, Nat.reduceAdd, mkL, mkD, dwipe, Bool.false_eq_true, if_true, if_false, ite_true, ite_false, true_and, and_true, Option.isSome_some, Option.isSome_none, Option.map_some, Option.map_none, Option.getD_some, Option.getD_none,
  tyD_non, tyD_bl, tyD_int, tyD_str, tyD_tup, tyD_lst, tyD_dct, truD_non, truD_bl, truD_int, truD_tup, truD_lst, truD_dct, asL_non, asD_non, keyD_non, asL_bl, asD_bl, keyD_bl, asL_int, asD_int, keyD_int, asL_str, asD_str, keyD_str, asL_tup, asD_tup, keyD_tup, asL_lst, asD_lst, keyD_lst, asL_dct, asD_dct, keyD_dct, asL_scr, asD_scr, keyD_scr, asL_sup, asD_sup, asL_supD, isLs_sup, tyD_supL, tyD_supD, sup_same, sup_sup, ixN_1_0, ixN_2_0, ixN_2_1, ixN_3_0, ixN_3_1, ixN_3_2, ixN_4_0, ixN_4_1, ixN_4_2, ixN_4_3, ixN_5_0, ixN_5_1, ixN_5_2, ixN_5_3, ixN_5_4, ixN_6_0, ixN_6_1, ixN_6_2, ixN_6_3, ixN_6_4, ixN_6_5, ixN_7_0, ixN_7_1, ixN_7_2, ixN_7_3, ixN_7_4, ixN_7_5, ixN_7_6, ixN_8_0, ixN_8_1, ixN_8_2, ixN_8_3, ixN_8_4, ixN_8_5, ixN_8_6, ixN_8_7, atI_0, atI_1, atI_2, atI_3, atI_4, atI_5, atI_6, atI_7, atI_8, isi_NoneType_bool, isi_NoneType_int, isi_NoneType_str, isi_NoneType_tuple, isi_NoneType_list, isi_NoneType_dict, isi_bool_bool, isi_bool_int, isi_bool_str, isi_bool_tuple, isi_bool_list, isi_bool_dict, isi_int_bool, isi_int_int, isi_int_str, isi_int_tuple, isi_int_list, isi_int_dict, isi_str_bool, isi_str_int, isi_str_str, isi_str_tuple, isi_str_list, isi_str_dict, isi_tuple_bool, isi_tuple_int, isi_tuple_str, isi_tuple_tuple, isi_tuple_list, isi_tuple_dict, isi_list_bool, isi_list_int, isi_list_str, isi_list_tuple, isi_list_list, isi_list_dict, isi_dict_bool, isi_dict_int, isi_dict_str, isi_dict_tuple, isi_dict_list, isi_dict_dict, Bool.not_true, Bool.not_false]
      exact q'
    · have e0 : ∀ xs : List Int, xs.filter (fun _ => false) = [] := fun xs => List.filter_eq_nil_iff.mpr fun _ _ z => by cases z
      rw [e0]
      refine ⟨Nat.zero_le _, ?_⟩
      show fNe (.lst []) (.lst []) S _
      rw [fNe_nil]
      show if false = true then _ else _
      rw [if_neg (by decide)]
      cases sure with
      | false => exact k
      | true =>
        have := sur rfl
        simp only [denSs, denS, den, dens, denO, denT, denI, DV.of, DV.ofB, sSeq, sRet, sRetN, sNext, sIf, sSet, sSetG, sPar, sPar3, sSetIx, sDrop, sFor, sForKeys, sBreak, sCont, dAnd, dOr, dNot, dAndT, dOrT, dNotT, dUn, dOp, dIte, dVar, dC, dTup, dLst, dNil, dCons, dCall, dCut, dPart, dNoPart, dGet1, dGet2, dApp,
  dSeq1, dRange1, dRange2, dEnum, dZip, dLc, dDc, dChain, fIsi, fBlt, fLen, fAbs, fInt1, fMax, fMin, fL1, fTuple, fList, fSorted, fDict, fBin, fCmp, fNeg, fAdd, fSub, fMul, fMod, fDiv, fPow, fInt, fInt0, fLt, fLe, fGt, fGe, fIs, fIsNot, fInD, fIx, fCut, fSeq, fRange1, fRange2, fEnum, fZip, fSetIx, fGet, fApp, fLenSet, fAug, sAug, tOf, tOfB, guardN, gset, gsets, sFrz, frz_dct, frz_lst, fEq_int, fNe_int, fEq_bl, fNe_bl, fEq_nil, fNe_nil, fEq_ints,
  TyC.name, DL.isNon, start0, List.length_cons, List.length_nil, List.map_cons, List.map_nil, List.cons_append, List.nil_append, List.getElem?_cons_zero, List.getElem?_cons_succ, List.getElem?_nil, List.set_cons_zero, List.set_cons_succ, List.set_nil, List.replicate, Nat.reduceSub, Nat.reduceAdd, mkL, mkD, dwipe, Bool.false_eq_true, if_true, if_false, ite_true, ite_false, true_and, and_true, Option.isSome_some, Option.isSome_none, Option.map_some, Option.map_none, Option.getD_some, Option.getD_none,
  tyD_non, tyD_bl, tyD_int, tyD_str, tyD_tup, tyD_lst, tyD_dct, truD_non, truD_bl, truD_int, truD_tup, truD_lst, truD_dct, asL_non, asD_non, keyD_non, asL_bl, asD_bl, keyD_bl, asL_int, asD_int, keyD_int, asL_str, asD_str, keyD_str, asL_tup, asD_tup, keyD_tup, asL_lst, asD_lst, keyD_lst, asL_dct, asD_dct, keyD_dct, asL_scr, asD_scr, keyD_scr, asL_sup, asD_sup, asL_supD, isLs_sup, tyD_supL, tyD_supD, sup_same, sup_sup, ixN_1_0, ixN_2_0, ixN_2_1, ixN_3_0, ixN_3_1, ixN_3_2, ixN_4_0, ixN_4_1, ixN_4_2, ixN_4_3, ixN_5_0, ixN_5_1, ixN_5_2, ixN_5_3, ixN_5_4, ixN_6_0, ixN_6_1, ixN_6_2, ixN_6_3, ixN_6_4, ixN_6_5, ixN_7_0, ixN_7_1, ixN_7_2, ixN_7_3, ixN_7_4, ixN_7_5, ixN_7_6, ixN_8_0, ixN_8_1, ixN_8_2, ixN_8_3, ixN_8_4, ixN_8_5, ixN_8_6, ixN_8_7, atI_0, atI_1, atI_2, atI_3, atI_4, atI_5, atI_6, atI_7, atI_8, isi_NoneType_bool, isi_NoneType_int, isi_NoneType_str, isi_NoneType_tuple, isi_NoneType_list, isi_NoneType_dict, isi_bool_bool, isi_bool_int, isi_bool_str, isi_bool_tuple, isi_bool_list, isi_bool_dict, isi_int_bool, isi_int_int, isi_int_str, isi_int_tuple, isi_int_list, isi_int_dict, isi_str_bool, isi_str_int, isi_str_str, isi_str_tuple, isi_str_list, isi_str_dict, isi_tuple_bool, isi_tuple_int, isi_tuple_str, isi_tuple_tuple, isi_tuple_list, isi_tuple_dict, isi_list_bool, isi_list_int, isi_list_str, isi_list_tuple, isi_list_list, isi_list_dict, isi_dict_bool, isi_dict_int, isi_dict_str, isi_dict_tuple, isi_dict_list, isi_dict_dict]
        rw [decide_eq_false (by omega)]
        exact k
  have hlast : ∀ a11 a12 a13 a14 a15, denSs T (.cons (.ifs (.or (.not (.call 5 (.cons (.call 1 (.cons (.lc false [("column", 13)] (.slot 13) (.seq (.slot 6)) .no (.blt false .list (.cons (.slot 13) .nil))) (.cons (.blt false .list (.cons (.slot 7) .nil)) .nil))) (.cons (.slot 10) .nil)))) (.last (.cmp .NotEq (.repr (.lst false (.cons (.slot 6) (.cons (.slot 7) .nil)))) (.slot 9)))) (.cons (.ret (.bl false)) .nil) .nil) .nil) E [o0, o1, o2, some (.int (m : Int)), o4, o5, some (.lst (cols.map rowD)), some (.lst (side.map D.int)), some (.bl sure), some (.str (shPy cols side).shown), some (.tup [.int d, .lst (xs.map D.int)]), a11, a12, a13, a14, a15] S := by
    intro a11 a12 a13 a14 a15
    have xlen : xs.length ≤ 40 := by rcases sok with ⟨_, e, _⟩ | ⟨_, e, _⟩ <;> omega
    refine vs_ifsE (t_or (t_notE (t_call (call_dens A.f5 (dens_cons ?_)))))
    refine call_run A.f1 (xs := [.lst (cols.map rowD), .lst (side.map D.int)]) (vs_cons (fun Q' q' => ?_) (vs_cons (fun Q' q' => ?_) vs_nil)) rfl ⟨cols, side, rfl, I, fun S2 _ => ?_⟩
    · simp only [denSs, denS, den, dens, denO, denT, denI, DV.of, DV.ofB, sSeq, sRet, sRetN, sNext, sIf, sSet, sSetG, sPar, sPar3, sSetIx, sDrop, sFor, sForKeys, sBreak, sCont, dAnd, dOr, dNot, dAndT, dOrT, dNotT, dUn, dOp, dIte, dVar, dC, dTup, dLst, dNil, dCons, dCall, dCut, dPart, dNoPart, dGet1, dGet2, dApp,
  dSeq1, dRange1, dRange2, dEnum, dZip, dLc, dDc, dChain, fIsi, fBlt, fLen, fAbs, fInt1, fMax, fMin, fL1, fTuple, fList, fSorted, fDict, fBin, fCmp, fNeg, fAdd, fSub, fMul, fMod, fDiv, fPow, fInt, fInt0, fLt, fLe, fGt, fGe, fIs, fIsNot, fInD, fIx, fCut, fSeq, fRange1, fRange2, fEnum, fZip, fSetIx, fGet, fApp, fLenSet, fAug, sAug, tOf, tOfB, guardN, gset, gsets, sFrz, frz_dct, frz_lst, fEq_int, fNe_int, fEq_bl, fNe_bl, fEq_nil, fNe_nil, fEq_ints,
  TyC.name, DL.isNon, start0, List.length_cons, List.length_nil, List.map_cons, List.map_nil, List.cons_append, List.nil_append, List.getElem?_cons_zero, List.getElem?_cons_succ, List.getElem?_nil, List.set_cons_zero, List.set_cons_succ, List.set_nil, List.replicate, Nat.reduceSub, Nat.reduceAdd, mkL, mkD, dwipe, Bool.false_eq_true, if_true, if_false, ite_true, ite_false, true_and, and_true, Option.isSome_some, Option.isSome_none, Option.map_some, Option.map_none, Option.getD_some, Option.getD_none,
  tyD_non, tyD_bl, tyD_int, tyD_str, tyD_tup, tyD_lst, tyD_dct, truD_non, truD_bl, truD_int, truD_tup, truD_lst, truD_dct, asL_non, asD_non, keyD_non, asL_bl, asD_bl, keyD_bl, asL_int, asD_int, keyD_int, asL_str, asD_str, keyD_str, asL_tup, asD_tup, keyD_tup, asL_lst, asD_lst, keyD_lst, asL_dct, asD_dct, keyD_dct, asL_scr, asD_scr, keyD_scr, asL_sup, asD_sup, asL_supD, isLs_sup, tyD_supL, tyD_supD, sup_same, sup_sup, ixN_1_0, ixN_2_0, ixN_2_1, ixN_3_0, ixN_3_1, ixN_3_2, ixN_4_0, ixN_4_1, ixN_4_2, ixN_4_3, ixN_5_0, ixN_5_1, ixN_5_2, ixN_5_3, ixN_5_4, ixN_6_0, ixN_6_1, ixN_6_2, ixN_6_3, ixN_6_4, ixN_6_5, ixN_7_0, ixN_7_1, ixN_7_2, ixN_7_3, ixN_7_4, ixN_7_5, ixN_7_6, ixN_8_0, ixN_8_1, ixN_8_2, ixN_8_3, ixN_8_4, ixN_8_5, ixN_8_6, ixN_8_7, atI_0, atI_1, atI_2, atI_3, atI_4, atI_5, atI_6, atI_7, atI_8, isi_NoneType_bool, isi_NoneType_int, isi_NoneType_str, isi_NoneType_tuple, isi_NoneType_list, isi_NoneType_dict, isi_bool_bool, isi_bool_int, isi_bool_str, isi_bool_tuple, isi_bool_list, isi_bool_dict, isi_int_bool, isi_int_int, isi_int_str, isi_int_tuple, isi_int_list, isi_int_dict, isi_str_bool, isi_str_int, isi_str_str, isi_str_tuple, isi_str_list, isi_str_dict, isi_tuple_bool, isi_tuple_int, isi_tuple_str, isi_tuple_tuple, isi_tuple_list, isi_tuple_dict, isi_list_bool, isi_list_int, isi_list_str, isi_list_tuple, isi_list_list, isi_list_dict, isi_dict_bool, isi_dict_int, isi_dict_str, isi_dict_tuple, isi_dict_list, isi_dict_dict]
      exact lcL_mapA (toD := rowD) (f := rowD) trivial (fun c hcc => ⟨_, rfl, fun Q' q' => by simp only [denSs, denS, den, dens, denO, denT, denI, DV.of, DV.ofB, sSeq, sRet, sRetN, sNext, sIf, sSet, sSetG, sPar, sPar3, sSetIx, sDrop, sFor, sForKeys, sBreak, sCont, dAnd, dOr, dNot, dAndT, dOrT, dNotT, dUn, dOp, dIte, dVar, dC, dTup, dLst, dNil, dCons, dCall, dCut, dPart, dNoPart, dGet1, dGet2, dApp,
  dSeq1, dRange1, dRange2, dEnum, dZip, dLc, dDc, dChain, fIsi, fBlt, fLen, fAbs, fInt1, fMax, fMin, fL1, fTuple, fList, fSorted, fDict, fBin, fCmp, fNeg, fAdd, fSub, fMul, fMod, fDiv, fPow, fInt, fInt0, fLt, fLe, fGt, fGe, fIs, fIsNot, fInD, fIx, fCut, fSeq, fRange1, fRange2, fEnum, fZip, fSetIx, fGet, fApp, fLenSet, fAug, sAug, tOf, tOfB, guardN, gset, gsets, sFrz, frz_dct, frz_lst, fEq_int, fNe_int, fEq_bl, fNe_bl, fEq_nil, fNe_nil, fEq_ints,
  TyC.name, DL.isNon, start0, List.length_cons, List.length_nil, List.map_cons, List.map_nil, List.cons_append, List.nil_append, List.getElem?_cons_zero, List.getElem?_cons_succ, List.getElem?_nil, List.set_cons_zero, List.set_cons_succ, List.set_nil, List.replicate, Nat.reduceSub, Nat.reduceAdd, mkL, mkD, dwipe, Bool.false_eq_true, if_true, if_false, ite_true, ite_false, true_and, and_true, Option.isSome_some, Option.isSome_none, Option.map_some, Option.map_none, Option.getD_some, Option.getD_none,
  tyD_non, tyD_bl, tyD_int, tyD_str, tyD_tup, tyD_lst, tyD_dct, truD_non, truD_bl, truD_int, truD_tup, truD_lst, truD_dct, asL_non, asD_non, keyD_non, asL_bl, asD_bl, keyD_bl, asL_int, asD_int, keyD_int, asL_str, asD_str, keyD_str, asL_tup, asD_tup, keyD_tup, asL_lst, asD_lst, keyD_lst, asL_dct, asD_dct, keyD_dct, asL_scr, asD_scr, keyD_scr, asL_sup, asD_sup, asL_supD, isLs_sup, tyD_supL, tyD_supD, sup_same, sup_sup, ixN_1_0, ixN_2_0, ixN_2_1, ixN_3_0, ixN_3_1, ixN_3_2, ixN_4_0, ixN_4_1, ixN_4_2, ixN_4_3, ixN_5_0, ixN_5_1, ixN_5_2, ixN_5_3, ixN_5_4, ixN_6_0, ixN_6_1, ixN_6_2, ixN_6_3, ixN_6_4, ixN_6_5, ixN_7_0, ixN_7_1, ixN_7_2, ixN_7_3, ixN_7_4, ixN_7_5, ixN_7_6, ixN_8_0, ixN_8_1, ixN_8_2, ixN_8_3, ixN_8_4, ixN_8_5, ixN_8_6, ixN_8_7, atI_0, atI_1, atI_2, atI_3, atI_4, atI_5, atI_6, atI_7, atI_8, isi_NoneType_bool, isi_NoneType_int, isi_NoneType_str, isi_NoneType_tuple, isi_NoneType_list, isi_NoneType_dict, isi_bool_bool, isi_bool_int, isi_bool_str, isi_bool_tuple, isi_bool_list, isi_bool_dict, isi_int_bool, isi_int_int, isi_int_str, isi_int_tuple, isi_int_list, isi_int_dict, isi_str_bool, isi_str_int, isi_str_str, isi_str_tuple, isi_str_list, isi_str_dict, isi_tuple_bool, isi_tuple_int, isi_tuple_str, isi_tuple_tuple, isi_tuple_list, isi_tuple_dict, isi_list_bool, isi_list_int, isi_list_str, isi_list_tuple, isi_list_list, isi_list_dict, isi_dict_bool, isi_dict_int, isi_dict_str, isi_dict_tuple, isi_dict_list, isi_dict_dict, rowD]; exact q'⟩) q'
    · simp only [denSs, denS, den, dens, denO, denT, denI, DV.of, DV.ofB, sSeq, sRet, sRetN, sNext, sIf, sSet, sSetG, sPar, sPar3, sSetIx, sDrop, sFor, sForKeys, sBreak, sCont, dAnd, dOr, dNot, dAndT, dOrT, dNotT, dUn, dOp, dIte, dVar, dC, dTup, dLst, dNil, dCons, dCall, dCut, dPart, dNoPart, dGet1, dGet2, dApp,
  dSeq1, dRange1, dRange2, dEnum, dZip, dLc, dDc, dChain, fIsi, fBlt, fLen, fAbs, fInt1, fMax, fMin, fL1, fTuple, fList, fSorted, fDict, fBin, fCmp, fNeg, fAdd, fSub, fMul, fMod, fDiv, fPow, fInt, fInt0, fLt, fLe, fGt, fGe, fIs, fIsNot, fInD, fIx, fCut, fSeq, fRange1, fRange2, fEnum, fZip, fSetIx, fGet, fApp, fLenSet, fAug, sAug, tOf, tOfB, guardN, gset, gsets, sFrz, frz_dct, frz_lst, fEq_int, fNe_int, fEq_bl, fNe_bl, fEq_nil, fNe_nil, fEq_ints,
  TyC.name, DL.isNon, start0, List.length_cons, List.length_nil, List.map_cons, List.map_nil, List.cons_append, List.nil_append, List.getElem?_cons_zero, List.getElem?_cons_succ, List.getElem?_nil, List.set_cons_zero, List.set_cons_succ, List.set_nil, List.replicate, Nat.reduceSub, Nat.reduceAdd, mkL, mkD, dwipe, Bool.false_eq_true, if_true, if_false, ite_true, ite_false, true_and, and_true, Option.isSome_some, Option.isSome_none, Option.map_some, Option.map_none, Option.getD_some, Option.getD_none,
  tyD_non, tyD_bl, tyD_int, tyD_str, tyD_tup, tyD_lst, tyD_dct, truD_non, truD_bl, truD_int, truD_tup, truD_lst, truD_dct, asL_non, asD_non, keyD_non, asL_bl, asD_bl, keyD_bl, asL_int, asD_int, keyD_int, asL_str, asD_str, keyD_str, asL_tup, asD_tup, keyD_tup, asL_lst, asD_lst, keyD_lst, asL_dct, asD_dct, keyD_dct, asL_scr, asD_scr, keyD_scr, asL_sup, asD_sup, asL_supD, isLs_sup, tyD_supL, tyD_supD, sup_same, sup_sup, ixN_1_0, ixN_2_0, ixN_2_1, ixN_3_0, ixN_3_1, ixN_3_2, ixN_4_0, ixN_4_1, ixN_4_2, ixN_4_3, ixN_5_0, ixN_5_1, ixN_5_2, ixN_5_3, ixN_5_4, ixN_6_0, ixN_6_1, ixN_6_2, ixN_6_3, ixN_6_4, ixN_6_5, ixN_7_0, ixN_7_1, ixN_7_2, ixN_7_3, ixN_7_4, ixN_7_5, ixN_7_6, ixN_8_0, ixN_8_1, ixN_8_2, ixN_8_3, ixN_8_4, ixN_8_5, ixN_8_6, ixN_8_7, atI_0, atI_1, atI_2, atI_3, atI_4, atI_5, atI_6, atI_7, atI_8, isi_NoneType_bool, isi_NoneType_int, isi_NoneType_str, isi_NoneType_tuple, isi_NoneType_list, isi_NoneType_dict, isi_bool_bool, isi_bool_int, isi_bool_str, isi_bool_tuple, isi_bool_list, isi_bool_dict, isi_int_bool, isi_int_int, isi_int_str, isi_int_tuple, isi_int_list, isi_int_dict, isi_str_bool, isi_str_int, isi_str_str, isi_str_tuple, isi_str_list, isi_str_dict, isi_tuple_bool, isi_tuple_int, isi_tuple_str, isi_tuple_tuple, isi_tuple_list, isi_tuple_dict, isi_list_bool, isi_list_int, isi_list_str, isi_list_tuple, isi_list_list, isi_list_dict, isi_dict_bool, isi_dict_int, isi_dict_str, isi_dict_tuple, isi_dict_list, isi_dict_dict]; exact q'
    rw [hd, hx]
    refine dens_cons ((ve_slot rfl : Ve T _ S2 (.slot 10) (.tup [.int d, .lst (xs.map D.int)])) _ ?_)
    have stn : ∀ S : Store, Stn S 8 (.tup [.int d, .lst (xs.map D.int)]) (.tup [.int d, .lst (xs.map Tre.int)]) := fun S => by
      refine .tup rfl (by show 2 ≤ 1000; decide) fun i x t h1 h2 => ?_
      match i, h1, h2 with
      | 0, h1, h2 => cases h1; cases h2; exact .int _ _
      | 1, h1, h2 =>
        cases h1; cases h2
        refine .lst rfl (by rw [List.length_map, List.length_map]) (by rw [List.length_map]; omega) fun i x t h1 h2 => ?_
        rw [List.getElem?_map] at h1 h2
        cases e : xs[i]? with
        | none => rw [e] at h1; cases h1
        | some z => rw [e] at h1 h2; cases h1; cases h2; exact .int _ _
      | n + 2, h1, h2 => cases h1
    refine ⟨rfl, _, _, _, rfl, stn _, stn _, ?_⟩
    have sh := sho_sh hm hc8 hc hl hs
    refine t_last (t_neS (ve_repr A.gd (ve_lst (vs_cons (ve_slot rfl) (vs_cons (ve_slot rfl) vs_nil)) rfl) ?_ (toPyR_sh cols side) sh (by decide) (depth_sh cols side)) (ve_slot rfl) (fNe_strS sh.o ?_))
    · rfl
    · exact hE _ _ _ _ _ _
  refine vs_ifsE ?_
  have tst : ∀ K : Bool → Store → Prop, K (decide (d > 0)) S → (den T (.cmp .Gt (.ix (.slot 10) (.int 0)) (.int 0))).t [o0, o1, o2, some (.int (m : Int)), o4, o5, some (.lst (cols.map rowD)), some (.lst (side.map D.int)), some (.bl sure), some (.str (shPy cols side).shown), some (.tup [.int d, .lst (xs.map D.int)]), o11, o12, o13, o14, o15] S K := fun K k => by
    simp only [denSs, denS, den, dens, denO, denT, denI, DV.of, DV.ofB, sSeq, sRet, sRetN, sNext, sIf, sSet, sSetG, sPar, sPar3, sSetIx, sDrop, sFor, sForKeys, sBreak, sCont, dAnd, dOr, dNot, dAndT, dOrT, dNotT, dUn, dOp, dIte, dVar, dC, dTup, dLst, dNil, dCons, dCall, dCut, dPart, dNoPart, dGet1, dGet2, dApp,
  dSeq1, dRange1, dRange2, dEnum, dZip, dLc, dDc, dChain, fIsi, fBlt, fLen, fAbs, fInt1, fMax, fMin, fL1, fTuple, fList, fSorted, fDict, fBin, fCmp, fNeg, fAdd, fSub, fMul, fMod, fDiv, fPow, fInt, fInt0, fLt, fLe, fGt, fGe, fIs, fIsNot, fInD, fIx, fCut, fSeq, fRange1, fRange2, fEnum, fZip, fSetIx, fGet, fApp, fLenSet, fAug, sAug, tOf, tOfB, guardN, gset, gsets, sFrz, frz_dct, frz_lst, fEq_int, fNe_int, fEq_bl, fNe_bl, fEq_nil, fNe_nil, fEq_ints,
  TyC.name, DL.isNon, start0, List.length_cons, List.length_nil, List.map_cons, List.map_nil, List.cons_append, List.nil_append, List.getElem?_cons_zero, List.getElem?_cons_succ, List.getElem?_nil, List.set_cons_zero, List.set_cons_succ, List.set_nil, List.replicate, Nat.reduceSub, Nat.reduceAdd, mkL, mkD, dwipe, Bool.false_eq_true, if_true, if_false, ite_true, ite_false, true_and, and_true, Option.isSome_some, Option.isSome_none, Option.map_some, Option.map_none, Option.getD_some, Option.getD_none,
  tyD_non, tyD_bl, tyD_int, tyD_str, tyD_tup, tyD_lst, tyD_dct, truD_non, truD_bl, truD_int, truD_tup, truD_lst, truD_dct, asL_non, asD_non, keyD_non, asL_bl, asD_bl, keyD_bl, asL_int, asD_int, keyD_int, asL_str, asD_str, keyD_str, asL_tup, asD_tup, keyD_tup, asL_lst, asD_lst, keyD_lst, asL_dct, asD_dct, keyD_dct, asL_scr, asD_scr, keyD_scr, asL_sup, asD_sup, asL_supD, isLs_sup, tyD_supL, tyD_supD, sup_same, sup_sup, ixN_1_0, ixN_2_0, ixN_2_1, ixN_3_0, ixN_3_1, ixN_3_2, ixN_4_0, ixN_4_1, ixN_4_2, ixN_4_3, ixN_5_0, ixN_5_1, ixN_5_2, ixN_5_3, ixN_5_4, ixN_6_0, ixN_6_1, ixN_6_2, ixN_6_3, ixN_6_4, ixN_6_5, ixN_7_0, ixN_7_1, ixN_7_2, ixN_7_3, ixN_7_4, ixN_7_5, ixN_7_6, ixN_8_0, ixN_8_1, ixN_8_2, ixN_8_3, ixN_8_4, ixN_8_5, ixN_8_6, ixN_8_7, atI_0, atI_1, atI_2, atI_3, atI_4, atI_5, atI_6, atI_7, atI_8, isi_NoneType_bool, isi_NoneType_int, isi_NoneType_str, isi_NoneType_tuple, isi_NoneType_list, isi_NoneType_dict, isi_bool_bool, isi_bool_int, isi_bool_str, isi_bool_tuple, isi_bool_list, isi_bool_dict, isi_int_bool, isi_int_int, isi_int_str, isi_int_tuple, isi_int_list, isi_int_dict, isi_str_bool, isi_str_int, isi_str_str, isi_str_tuple, isi_str_list, isi_str_dict, isi_tuple_bool, isi_tuple_int, isi_tuple_str, isi_tuple_tuple, isi_tuple_list, isi_tuple_dict, isi_list_bool, isi_list_int, isi_list_str, isi_list_tuple, isi_list_list, isi_list_dict, isi_dict_bool, isi_dict_int, isi_dict_str, isi_dict_tuple, isi_dict_list, isi_dict_dict]; exact k
  refine tst _ ?_
  clear tst
  rcases sok with ⟨d0, xl, x0, xe⟩ | ⟨rfl, xl, xe, x0⟩
  · rw [decide_eq_true (show d > 0 from d0), if_pos rfl]
    show denSs T (.cons (.ifs _ _ .nil) (.cons (.for_ (.slot 12) (.range1 (.slot 3)) _) .nil)) _ _ S
    refine vs_ifsF (fun K k => ?_) ?_
    · simp only [denSs, denS, den, dens, denO, denT, denI, DV.of, DV.ofB, sSeq, sRet, sRetN, sNext, sIf, sSet, sSetG, sPar, sPar3, sSetIx, sDrop, sFor, sForKeys, sBreak, sCont, dAnd, dOr, dNot, dAndT, dOrT, dNotT, dUn, dOp, dIte, dVar, dC, dTup, dLst, dNil, dCons, dCall, dCut, dPart, dNoPart, dGet1, dGet2, dApp,
  dSeq1, dRange1, dRange2, dEnum, dZip, dLc, dDc, dChain, fIsi, fBlt, fLen, fAbs, fInt1, fMax, fMin, fL1, fTuple, fList, fSorted, fDict, fBin, fCmp, fNeg, fAdd, fSub, fMul, fMod, fDiv, fPow, fInt, fInt0, fLt, fLe, fGt, fGe, fIs, fIsNot, fInD, fIx, fCut, fSeq, fRange1, fRange2, fEnum, fZip, fSetIx, fGet, fApp, fLenSet, fAug, sAug, tOf, tOfB, guardN, gset, gsets, sFrz, frz_dct, frz_lst, fEq_int, fNe_int, fEq_bl, fNe_bl, fEq_nil, fNe_nil, fEq_ints,
  TyC.name, DL.isNon, start0, List.length_cons, List.length_nil, List.map_cons, List.map_nil, List.cons_append, List.nil_append, List.getElem?_cons_zero, List.getElem?_cons_succ, List.getElem?_nil, List.set_cons_zero, List.set_cons_succ, List.set_nil, List.replicate, Nat.reduceSub, Nat.reduceAdd, mkL, mkD, dwipe, Bool.false_eq_true, if_true, if_false, ite_true, ite_false, true_and, and_true, Option.isSome_some, Option.isSome_none, Option.map_some, Option.map_none, Option.getD_some, Option.getD_none,
  tyD_non, tyD_bl, tyD_int, tyD_str, tyD_tup, tyD_lst, tyD_dct, truD_non, truD_bl, truD_int, truD_tup, truD_lst, truD_dct, asL_non, asD_non, keyD_non, asL_bl, asD_bl, keyD_bl, asL_int, asD_int, keyD_int, asL_str, asD_str, keyD_str, asL_tup, asD_tup, keyD_tup, asL_lst, asD_lst, keyD_lst, asL_dct, asD_dct, keyD_dct, asL_scr, asD_scr, keyD_scr, asL_sup, asD_sup, asL_supD, isLs_sup, tyD_supL, tyD_supD, sup_same, sup_sup, ixN_1_0, ixN_2_0, ixN_2_1, ixN_3_0, ixN_3_1, ixN_3_2, ixN_4_0, ixN_4_1, ixN_4_2, ixN_4_3, ixN_5_0, ixN_5_1, ixN_5_2, ixN_5_3, ixN_5_4, ixN_6_0, ixN_6_1, ixN_6_2, ixN_6_3, ixN_6_4, ixN_6_5, ixN_7_0, ixN_7_1, ixN_7_2, ixN_7_3, ixN_7_4, ixN_7_5, ixN_7_6, ixN_8_0, ixN_8_1, ixN_8_2, ixN_8_3, ixN_8_4, ixN_8_5, ixN_8_6, ixN_8_7, atI_0, atI_1, atI_2, atI_3, atI_4, atI_5, atI_6, atI_7, atI_8, isi_NoneType_bool, isi_NoneType_int, isi_NoneType_str, isi_NoneType_tuple, isi_NoneType_list, isi_NoneType_dict, isi_bool_bool, isi_bool_int, isi_bool_str, isi_bool_tuple, isi_bool_list, isi_bool_dict, isi_int_bool, isi_int_int, isi_int_str, isi_int_tuple, isi_int_list, isi_int_dict, isi_str_bool, isi_str_int, isi_str_str, isi_str_tuple, isi_str_list, isi_str_dict, isi_tuple_bool, isi_tuple_int, isi_tuple_str, isi_tuple_tuple, isi_tuple_list, isi_tuple_dict, isi_list_bool, isi_list_int, isi_list_str, isi_list_tuple, isi_list_list, isi_list_dict, isi_dict_bool, isi_dict_int, isi_dict_str, isi_dict_tuple, isi_dict_list, isi_dict_dict, List.length_map]
      rw [if_neg (by rw [xl]; simp)]
      refine lcL_gen (toD := D.int) (p := fun x => decide (x < 0)) (f := D.int) trivial _ [] (fun x hx => ⟨_, rfl, fun Q' q' => ?_, fun _ Q' q' => ?_⟩) ?_
      · simp only [denSs, denS, den, dens, denO, denT, denI, DV.of, DV.ofB, sSeq, sRet, sRetN, sNext, sIf, sSet, sSetG, sPar, sPar3, sSetIx, sDrop, sFor, sForKeys, sBreak, sCont, dAnd, dOr, dNot, dAndT, dOrT, dNotT, dUn, dOp, dIte, dVar, dC, dTup, dLst, dNil, dCons, dCall, dCut, dPart, dNoPart, dGet1, dGet2, dApp,
  dSeq1, dRange1, dRange2, dEnum, dZip, dLc, dDc, dChain, fIsi, fBlt, fLen, fAbs, fInt1, fMax, fMin, fL1, fTuple, fList, fSorted, fDict, fBin, fCmp, fNeg, fAdd, fSub, fMul, fMod, fDiv, fPow, fInt, fInt0, fLt, fLe, fGt, fGe, fIs, fIsNot, fInD, fIx, fCut, fSeq, fRange1, fRange2, fEnum, fZip, fSetIx, fGet, fApp, fLenSet, fAug, sAug, tOf, tOfB, guardN, gset, gsets, sFrz, frz_dct, frz_lst, fEq_int, fNe_int, fEq_bl, fNe_bl, fEq_nil, fNe_nil, fEq_ints,
  TyC.name, DL.isNon, start0, List.length_cons, List.length_nil, List.map_cons, List.map_nil, List.cons_append, List.nil_append, List.getElem?_cons_zero, List.getElem?_cons_succ, List.getElem?_nil, List.set_cons_zero, List.set_cons_succ, List.set_nil, List.replicate, Nat.reduceSub, Nat.reduceAdd, mkL, mkD, dwipe, Bool.false_eq_true, if_true, if_false, ite_true, ite_false, true_and, and_true, Option.isSome_some, Option.isSome_none, Option.map_some, Option.map_none, Option.getD_some, Option.getD_none,
  tyD_non, tyD_bl, tyD_int, tyD_str, tyD_tup, tyD_lst, tyD_dct, truD_non, truD_bl, truD_int, truD_tup, truD_lst, truD_dct, asL_non, asD_non, keyD_non, asL_bl, asD_bl, keyD_bl, asL_int, asD_int, keyD_int, asL_str, asD_str, keyD_str, asL_tup, asD_tup, keyD_tup, asL_lst, asD_lst, keyD_lst, asL_dct, asD_dct, keyD_dct, asL_scr, asD_scr, keyD_scr, asL_sup, asD_sup, asL_supD, isLs_sup, tyD_supL, tyD_supD, sup_same, sup_sup, ixN_1_0, ixN_2_0, ixN_2_1, ixN_3_0, ixN_3_1, ixN_3_2, ixN_4_0, ixN_4_1, ixN_4_2, ixN_4_3, ixN_5_0, ixN_5_1, ixN_5_2, ixN_5_3, ixN_5_4, ixN_6_0, ixN_6_1, ixN_6_2, ixN_6_3, ixN_6_4, ixN_6_5, ixN_7_0, ixN_7_1, ixN_7_2, ixN_7_3, ixN_7_4, ixN_7_5, ixN_7_6, ixN_8_0, ixN_8_1, ixN_8_2, ixN_8_3, ixN_8_4, ixN_8_5, ixN_8_6, ixN_8_7, atI_0, atI_1, atI_2, atI_3, atI_4, atI_5, atI_6, atI_7, atI_8, isi_NoneType_bool, isi_NoneType_int, isi_NoneType_str, isi_NoneType_tuple, isi_NoneType_list, isi_NoneType_dict, isi_bool_bool, isi_bool_int, isi_bool_str, isi_bool_tuple, isi_bool_list, isi_bool_dict, isi_int_bool, isi_int_int, isi_int_str, isi_int_tuple, isi_int_list, isi_int_dict, isi_str_bool, isi_str_int, isi_str_str, isi_str_tuple, isi_str_list, isi_str_dict, isi_tuple_bool, isi_tuple_int, isi_tuple_str, isi_tuple_tuple, isi_tuple_list, isi_tuple_dict, isi_list_bool, isi_list_int, isi_list_str, isi_list_tuple, isi_list_list, isi_list_dict, isi_dict_bool, isi_dict_int, isi_dict_str, isi_dict_tuple, isi_dict_list, isi_dict_dict]; exact q'
      · simp only [denSs, denS, den, dens, denO, denT, denI, DV.of, DV.ofB, sSeq, sRet, sRetN, sNext, sIf, sSet, sSetG, sPar, sPar3, sSetIx, sDrop, sFor, sForKeys, sBreak, sCont, dAnd, dOr, dNot, dAndT, dOrT, dNotT, dUn, dOp, dIte, dVar, dC, dTup, dLst, dNil, dCons, dCall, dCut, dPart, dNoPart, dGet1, dGet2, dApp,
  dSeq1, dRange1, dRange2, dEnum, dZip, dLc, dDc, dChain, fIsi, fBlt, fLen, fAbs, fInt1, fMax, fMin, fL1, fTuple, fList, fSorted, fDict, fBin, fCmp, fNeg, fAdd, fSub, fMul, fMod, fDiv, fPow, fInt, fInt0, fLt, fLe, fGt, fGe, fIs, fIsNot, fInD, fIx, fCut, fSeq, fRange1, fRange2, fEnum, fZip, fSetIx, fGet, fApp, fLenSet, fAug, sAug, tOf, tOfB, guardN, gset, gsets, sFrz, frz_dct, frz_lst, fEq_int, fNe_int, fEq_bl, fNe_bl, fEq_nil, fNe_nil, fEq_ints,
  TyC.name, DL.isNon, start0, List.length_cons, List.length_nil, List.map_cons, List.map_nil, List.cons_append, List.nil_append, List.getElem?_cons_zero, List.getElem?_cons_succ, List.getElem?_nil, List.set_cons_zero, List.set_cons_succ, List.set_nil, List.replicate, Nat.reduceSub, Nat.reduceAdd, mkL, mkD, dwipe, Bool.false_eq_true, if_true, if_false, ite_true, ite_false, true_and, and_true, Option.isSome_some, Option.isSome_none, Option.map_some, Option.map_none, Option.getD_some, Option.getD_none,
  tyD_non, tyD_bl, tyD_int, tyD_str, tyD_tup, tyD_lst, tyD_dct, truD_non, truD_bl, truD_int, truD_tup, truD_lst, truD_dct, asL_non, asD_non, keyD_non, asL_bl, asD_bl, keyD_bl, asL_int, asD_int, keyD_int, asL_str, asD_str, keyD_str, asL_tup, asD_tup, keyD_tup, asL_lst, asD_lst, keyD_lst, asL_dct, asD_dct, keyD_dct, asL_scr, asD_scr, keyD_scr, asL_sup, asD_sup, asL_supD, isLs_sup, tyD_supL, tyD_supD, sup_same, sup_sup, ixN_1_0, ixN_2_0, ixN_2_1, ixN_3_0, ixN_3_1, ixN_3_2, ixN_4_0, ixN_4_1, ixN_4_2, ixN_4_3, ixN_5_0, ixN_5_1, ixN_5_2, ixN_5_3, ixN_5_4, ixN_6_0, ixN_6_1, ixN_6_2, ixN_6_3, ixN_6_4, ixN_6_5, ixN_7_0, ixN_7_1, ixN_7_2, ixN_7_3, ixN_7_4, ixN_7_5, ixN_7_6, ixN_8_0, ixN_8_1, ixN_8_2, ixN_8_3, ixN_8_4, ixN_8_5, ixN_8_6, ixN_8_7, atI_0, atI_1, atI_2, atI_3, atI_4, atI_5, atI_6, atI_7, atI_8, isi_NoneType_bool, isi_NoneType_int, isi_NoneType_str, isi_NoneType_tuple, isi_NoneType_list, isi_NoneType_dict, isi_bool_bool, isi_bool_int, isi_bool_str, isi_bool_tuple, isi_bool_list, isi_bool_dict, isi_int_bool, isi_int_int, isi_int_str, isi_int_tuple, isi_int_list, isi_int_dict, isi_str_bool, isi_str_int, isi_str_str, isi_str_tuple, isi_str_list, isi_str_dict, isi_tuple_bool, isi_tuple_int, isi_tuple_str, isi_tuple_tuple, isi_tuple_list, isi_tuple_dict, isi_list_bool, isi_list_int, isi_list_str, isi_list_tuple, isi_list_list, isi_list_dict, isi_dict_bool, isi_dict_int, isi_dict_str, isi_dict_tuple, isi_dict_list, isi_dict_dict]; exact q'
      · have e0 : xs.filter (fun x => decide (x < 0)) = [] := List.filter_eq_nil_iff.mpr fun x hx z => by
          obtain ⟨c, _, rfl⟩ := gt_mem hx
          have := x0 c
          rw [decide_eq_true_eq] at z; omega
        rw [e0]
        refine ⟨Nat.zero_le _, ?_⟩
        show fNe (.lst []) (.lst []) S _
        rw [fNe_nil]
        exact k
    refine vs_forI (n := (m : Int)) (ve_slot rfl) (by omega) (by omega) ?_
    refine forL_at (fun i sd S' => S' = S ∧ ∃ a11 a12 a13 a14 a15, sd = [o0, o1, o2, some (.int (m : Int)), o4, o5, some (.lst (cols.map rowD)), some (.lst (side.map D.int)), some (.bl sure), some (.str (shPy cols side).shown), some (.tup [.int d, .lst (xs.map D.int)]), a11, a12, a13, a14, a15]) ?_ ?_ _ _ ⟨rfl, _, _, _, _, _, rfl⟩
    · rintro i y sd S' hy ⟨rfl, a11, a12, a13, a14, a15, rfl⟩
      obtain ⟨rfl, hi⟩ := rangeD_at hy
      refine ⟨trivial, _, rfl, fun K hK => ?_⟩
      have is := atI_gt (l := side) (c := i) (by omega)
      refine vs_ifsF (fun K k => ?_) (nil_nx (T := T) (hK _ _ ⟨rfl, _, _, _, _, _, rfl⟩))
      simp only [denSs, denS, den, dens, denO, denT, denI, DV.of, DV.ofB, sSeq, sRet, sRetN, sNext, sIf, sSet, sSetG, sPar, sPar3, sSetIx, sDrop, sFor, sForKeys, sBreak, sCont, dAnd, dOr, dNot, dAndT, dOrT, dNotT, dUn, dOp, dIte, dVar, dC, dTup, dLst, dNil, dCons, dCall, dCut, dPart, dNoPart, dGet1, dGet2, dApp,
  dSeq1, dRange1, dRange2, dEnum, dZip, dLc, dDc, dChain, fIsi, fBlt, fLen, fAbs, fInt1, fMax, fMin, fL1, fTuple, fList, fSorted, fDict, fBin, fCmp, fNeg, fAdd, fSub, fMul, fMod, fDiv, fPow, fInt, fInt0, fLt, fLe, fGt, fGe, fIs, fIsNot, fInD, fIx, fCut, fSeq, fRange1, fRange2, fEnum, fZip, fSetIx, fGet, fApp, fLenSet, fAug, sAug, tOf, tOfB, guardN, gset, gsets, sFrz, frz_dct, frz_lst, fEq_int, fNe_int, fEq_bl, fNe_bl, fEq_nil, fNe_nil, fEq_ints,
  TyC.name, DL.isNon, start0, List.length_cons, List.length_nil, List.map_cons, List.map_nil, List.cons_append, List.nil_append, List.getElem?_cons_zero, List.getElem?_cons_succ, List.getElem?_nil, List.set_cons_zero, List.set_cons_succ, List.set_nil, List.replicate, Nat.reduceSub, Nat.reduceAdd, mkL, mkD, dwipe, Bool.false_eq_true, if_true, if_false, ite_true, ite_false, true_and, and_true, Option.isSome_some, Option.isSome_none, Option.map_some, Option.map_none, Option.getD_some, Option.getD_none,
  tyD_non, tyD_bl, tyD_int, tyD_str, tyD_tup, tyD_lst, tyD_dct, truD_non, truD_bl, truD_int, truD_tup, truD_lst, truD_dct, asL_non, asD_non, keyD_non, asL_bl, asD_bl, keyD_bl, asL_int, asD_int, keyD_int, asL_str, asD_str, keyD_str, asL_tup, asD_tup, keyD_tup, asL_lst, asD_lst, keyD_lst, asL_dct, asD_dct, keyD_dct, asL_scr, asD_scr, keyD_scr, asL_sup, asD_sup, asL_supD, isLs_sup, tyD_supL, tyD_supD, sup_same, sup_sup, ixN_1_0, ixN_2_0, ixN_2_1, ixN_3_0, ixN_3_1, ixN_3_2, ixN_4_0, ixN_4_1, ixN_4_2, ixN_4_3, ixN_5_0, ixN_5_1, ixN_5_2, ixN_5_3, ixN_5_4, ixN_6_0, ixN_6_1, ixN_6_2, ixN_6_3, ixN_6_4, ixN_6_5, ixN_7_0, ixN_7_1, ixN_7_2, ixN_7_3, ixN_7_4, ixN_7_5, ixN_7_6, ixN_8_0, ixN_8_1, ixN_8_2, ixN_8_3, ixN_8_4, ixN_8_5, ixN_8_6, ixN_8_7, atI_0, atI_1, atI_2, atI_3, atI_4, atI_5, atI_6, atI_7, atI_8, isi_NoneType_bool, isi_NoneType_int, isi_NoneType_str, isi_NoneType_tuple, isi_NoneType_list, isi_NoneType_dict, isi_bool_bool, isi_bool_int, isi_bool_str, isi_bool_tuple, isi_bool_list, isi_bool_dict, isi_int_bool, isi_int_int, isi_int_str, isi_int_tuple, isi_int_list, isi_int_dict, isi_str_bool, isi_str_int, isi_str_str, isi_str_tuple, isi_str_list, isi_str_dict, isi_tuple_bool, isi_tuple_int, isi_tuple_str, isi_tuple_tuple, isi_tuple_list, isi_tuple_dict, isi_list_bool, isi_list_int, isi_list_str, isi_list_tuple, isi_list_list, isi_list_dict, isi_dict_bool, isi_dict_int, isi_dict_str, isi_dict_tuple, isi_dict_list, isi_dict_dict, asLc, is]
      rw [zipD_rows]
      refine lcL_mapA (f := fun q => .int (q.1 * gt q.2 i)) trivial (fun q hq => ⟨_, rfl, fun Q' q' => ?_⟩) ?_
      · obtain ⟨z1, z2⟩ := List.of_mem_zip hq
        obtain ⟨l1, l2⟩ := hc _ z2
        have iq := atI_gt (l := q.2) (c := i) (by omega)
        simp only [denSs, denS, den, dens, denO, denT, denI, DV.of, DV.ofB, sSeq, sRet, sRetN, sNext, sIf, sSet, sSetG, sPar, sPar3, sSetIx, sDrop, sFor, sForKeys, sBreak, sCont, dAnd, dOr, dNot, dAndT, dOrT, dNotT, dUn, dOp, dIte, dVar, dC, dTup, dLst, dNil, dCons, dCall, dCut, dPart, dNoPart, dGet1, dGet2, dApp,
  dSeq1, dRange1, dRange2, dEnum, dZip, dLc, dDc, dChain, fIsi, fBlt, fLen, fAbs, fInt1, fMax, fMin, fL1, fTuple, fList, fSorted, fDict, fBin, fCmp, fNeg, fAdd, fSub, fMul, fMod, fDiv, fPow, fInt, fInt0, fLt, fLe, fGt, fGe, fIs, fIsNot, fInD, fIx, fCut, fSeq, fRange1, fRange2, fEnum, fZip, fSetIx, fGet, fApp, fLenSet, fAug, sAug, tOf, tOfB, guardN, gset, gsets, sFrz, frz_dct, frz_lst, fEq_int, fNe_int, fEq_bl, fNe_bl, fEq_nil, fNe_nil, fEq_ints,
  TyC.name, DL.isNon, start0, List.length_cons, List.length_nil, List.map_cons, List.map_nil, List.cons_append, List.nil_append, List.getElem?_cons_zero, List.getElem?_cons_succ, List.getElem?_nil, List.set_cons_zero, List.set_cons_succ, List.set_nil, List.replicate, Nat.reduceSub, Nat.reduceAdd, mkL, mkD, dwipe, Bool.false_eq_true, if_true, if_false, ite_true, ite_false, true_and, and_true, Option.isSome_some, Option.isSome_none, Option.map_some, Option.map_none, Option.getD_some, Option.getD_none,
  tyD_non, tyD_bl, tyD_int, tyD_str, tyD_tup, tyD_lst, tyD_dct, truD_non, truD_bl, truD_int, truD_tup, truD_lst, truD_dct, asL_non, asD_non, keyD_non, asL_bl, asD_bl, keyD_bl, asL_int, asD_int, keyD_int, asL_str, asD_str, keyD_str, asL_tup, asD_tup, keyD_tup, asL_lst, asD_lst, keyD_lst, asL_dct, asD_dct, keyD_dct, asL_scr, asD_scr, keyD_scr, asL_sup, asD_sup, asL_supD, isLs_sup, tyD_supL, tyD_supD, sup_same, sup_sup, ixN_1_0, ixN_2_0, ixN_2_1, ixN_3_0, ixN_3_1, ixN_3_2, ixN_4_0, ixN_4_1, ixN_4_2, ixN_4_3, ixN_5_0, ixN_5_1, ixN_5_2, ixN_5_3, ixN_5_4, ixN_6_0, ixN_6_1, ixN_6_2, ixN_6_3, ixN_6_4, ixN_6_5, ixN_7_0, ixN_7_1, ixN_7_2, ixN_7_3, ixN_7_4, ixN_7_5, ixN_7_6, ixN_8_0, ixN_8_1, ixN_8_2, ixN_8_3, ixN_8_4, ixN_8_5, ixN_8_6, ixN_8_7, atI_0, atI_1, atI_2, atI_3, atI_4, atI_5, atI_6, atI_7, atI_8, isi_NoneType_bool, isi_NoneType_int, isi_NoneType_str, isi_NoneType_tuple, isi_NoneType_list, isi_NoneType_dict, isi_bool_bool, isi_bool_int, isi_bool_str, isi_bool_tuple, isi_bool_list, isi_bool_dict, isi_int_bool, isi_int_int, isi_int_str, isi_int_tuple, isi_int_list, isi_int_dict, isi_str_bool, isi_str_int, isi_str_str, isi_str_tuple, isi_str_list, isi_str_dict, isi_tuple_bool, isi_tuple_int, isi_tuple_str, isi_tuple_tuple, isi_tuple_list, isi_tuple_dict, isi_list_bool, isi_list_int, isi_list_str, isi_list_tuple, isi_list_list, isi_list_dict, isi_dict_bool, isi_dict_int, isi_dict_str, isi_dict_tuple, isi_dict_list, isi_dict_dict, rowD, iq]
        refine ⟨cmulB (b2 _ z1) ?_, q'⟩
        rw [gt_lt (by omega)]
        exact .bits (l2 _ (List.getElem_mem _)) (show cC < 2 ^ 62 by decide) (by decide)
      · have em : ((xs.zip cols).map fun q => D.int (q.1 * gt q.2 i)) = ((xs.zip cols).map fun q => q.1 * gt q.2 i).map D.int := by rw [List.map_map]; rfl
        simp only [em, fL1, asL, asInts_map]
        refine ⟨cmulB b1 ?_, ?_⟩
        · rw [gt_lt (by omega)]
          exact .bits (hs _ (List.getElem_mem _)) (show sC < 2 ^ 62 by decide) (by decide)
        · have e1 := sum_zip (d := []) (f := fun q => q.1 * gt q.2 i) xl rfl (ys := cols)
          have e2 : ((xs.zip cols).map fun q => q.1 * gt q.2 i).sum = d * gt side i := e1.trans (xe i (by omega))
          rw [e2]
          simp only [denSs, denS, den, dens, denO, denT, denI, DV.of, DV.ofB, sSeq, sRet, sRetN, sNext, sIf, sSet, sSetG, sPar, sPar3, sSetIx, sDrop, sFor, sForKeys, sBreak, sCont, dAnd, dOr, dNot, dAndT, dOrT, dNotT, dUn, dOp, dIte, dVar, dC, dTup, dLst, dNil, dCons, dCall, dCut, dPart, dNoPart, dGet1, dGet2, dApp,
  dSeq1, dRange1, dRange2, dEnum, dZip, dLc, dDc, dChain, fIsi, fBlt, fLen, fAbs, fInt1, fMax, fMin, fL1, fTuple, fList, fSorted, fDict, fBin, fCmp, fNeg, fAdd, fSub, fMul, fMod, fDiv, fPow, fInt, fInt0, fLt, fLe, fGt, fGe, fIs, fIsNot, fInD, fIx, fCut, fSeq, fRange1, fRange2, fEnum, fZip, fSetIx, fGet, fApp, fLenSet, fAug, sAug, tOf, tOfB, guardN, gset, gsets, sFrz, frz_dct, frz_lst, fEq_int, fNe_int, fEq_bl, fNe_bl, fEq_nil, fNe_nil, fEq_ints,
  TyC.name, DL.isNon, start0, List.length_cons, List.length_nil, List.map_cons, List.map_nil, List.cons_append, List.nil_append, List.getElem?_cons_zero, List.getElem?_cons_succ, List.getElem?_nil, List.set_cons_zero, List.set_cons_succ, List.set_nil, List.replicate, Nat.reduceSub, Nat.reduceAdd, mkL, mkD, dwipe, Bool.false_eq_true, if_true, if_false, ite_true, ite_false, true_and, and_true, Option.isSome_some, Option.isSome_none, Option.map_some, Option.map_none, Option.getD_some, Option.getD_none,
  tyD_non, tyD_bl, tyD_int, tyD_str, tyD_tup, tyD_lst, tyD_dct, truD_non, truD_bl, truD_int, truD_tup, truD_lst, truD_dct, asL_non, asD_non, keyD_non, asL_bl, asD_bl, keyD_bl, asL_int, asD_int, keyD_int, asL_str, asD_str, keyD_str, asL_tup, asD_tup, keyD_tup, asL_lst, asD_lst, keyD_lst, asL_dct, asD_dct, keyD_dct, asL_scr, asD_scr, keyD_scr, asL_sup, asD_sup, asL_supD, isLs_sup, tyD_supL, tyD_supD, sup_same, sup_sup, ixN_1_0, ixN_2_0, ixN_2_1, ixN_3_0, ixN_3_1, ixN_3_2, ixN_4_0, ixN_4_1, ixN_4_2, ixN_4_3, ixN_5_0, ixN_5_1, ixN_5_2, ixN_5_3, ixN_5_4, ixN_6_0, ixN_6_1, ixN_6_2, ixN_6_3, ixN_6_4, ixN_6_5, ixN_7_0, ixN_7_1, ixN_7_2, ixN_7_3, ixN_7_4, ixN_7_5, ixN_7_6, ixN_8_0, ixN_8_1, ixN_8_2, ixN_8_3, ixN_8_4, ixN_8_5, ixN_8_6, ixN_8_7, atI_0, atI_1, atI_2, atI_3, atI_4, atI_5, atI_6, atI_7, atI_8, isi_NoneType_bool, isi_NoneType_int, isi_NoneType_str, isi_NoneType_tuple, isi_NoneType_list, isi_NoneType_dict, isi_bool_bool, isi_bool_int, isi_bool_str, isi_bool_tuple, isi_bool_list, isi_bool_dict, isi_int_bool, isi_int_int, isi_int_str, isi_int_tuple, isi_int_list, isi_int_dict, isi_str_bool, isi_str_int, isi_str_str, isi_str_tuple, isi_str_list, isi_str_dict, isi_tuple_bool, isi_tuple_int, isi_tuple_str, isi_tuple_tuple, isi_tuple_list, isi_tuple_dict, isi_list_bool, isi_list_int, isi_list_str, isi_list_tuple, isi_list_list, isi_list_dict, isi_dict_bool, isi_dict_int, isi_dict_str, isi_dict_tuple, isi_dict_list, isi_dict_dict, decide_true, Bool.not_true]
          exact k
    · rintro sd S' ⟨rfl, a11, a12, a13, a14, a15, rfl⟩
      exact ⟨trivial, nil_nx (T := T) (hlast _ _ _ _ _)⟩
  · rw [decide_eq_false (show ¬ (0 : Int) > 0 by decide), if_neg (by decide)]
    show denSs T (.cons (.ifs _ _ .nil) (.cons (.for_ (.slot 13) (.seq (.slot 6)) _) .nil)) _ _ S
    refine vs_ifsF (fun K k => ?_) ?_
    · simp only [denSs, denS, den, dens, denO, denT, denI, DV.of, DV.ofB, sSeq, sRet, sRetN, sNext, sIf, sSet, sSetG, sPar, sPar3, sSetIx, sDrop, sFor, sForKeys, sBreak, sCont, dAnd, dOr, dNot, dAndT, dOrT, dNotT, dUn, dOp, dIte, dVar, dC, dTup, dLst, dNil, dCons, dCall, dCut, dPart, dNoPart, dGet1, dGet2, dApp,
  dSeq1, dRange1, dRange2, dEnum, dZip, dLc, dDc, dChain, fIsi, fBlt, fLen, fAbs, fInt1, fMax, fMin, fL1, fTuple, fList, fSorted, fDict, fBin, fCmp, fNeg, fAdd, fSub, fMul, fMod, fDiv, fPow, fInt, fInt0, fLt, fLe, fGt, fGe, fIs, fIsNot, fInD, fIx, fCut, fSeq, fRange1, fRange2, fEnum, fZip, fSetIx, fGet, fApp, fLenSet, fAug, sAug, tOf, tOfB, guardN, gset, gsets, sFrz, frz_dct, frz_lst, fEq_int, fNe_int, fEq_bl, fNe_bl, fEq_nil, fNe_nil, fEq_ints,
  TyC.name, DL.isNon, start0, List.length_cons, List.length_nil, List.map_cons, List.map_nil, List.cons_append, List.nil_append, List.getElem?_cons_zero, List.getElem?_cons_succ, List.getElem?_nil, List.set_cons_zero, List.set_cons_succ, List.set_nil, List.replicate, Nat.reduceSub, Nat.reduceAdd, mkL, mkD, dwipe, Bool.false_eq_true, if_true, if_false, ite_true, ite_false, true_and, and_true, Option.isSome_some, Option.isSome_none, Option.map_some, Option.map_none, Option.getD_some, Option.getD_none,
  tyD_non, tyD_bl, tyD_int, tyD_str, tyD_tup, tyD_lst, tyD_dct, truD_non, truD_bl, truD_int, truD_tup, truD_lst, truD_dct, asL_non, asD_non, keyD_non, asL_bl, asD_bl, keyD_bl, asL_int, asD_int, keyD_int, asL_str, asD_str, keyD_str, asL_tup, asD_tup, keyD_tup, asL_lst, asD_lst, keyD_lst, asL_dct, asD_dct, keyD_dct, asL_scr, asD_scr, keyD_scr, asL_sup, asD_sup, asL_supD, isLs_sup, tyD_supL, tyD_supD, sup_same, sup_sup, ixN_1_0, ixN_2_0, ixN_2_1, ixN_3_0, ixN_3_1, ixN_3_2, ixN_4_0, ixN_4_1, ixN_4_2, ixN_4_3, ixN_5_0, ixN_5_1, ixN_5_2, ixN_5_3, ixN_5_4, ixN_6_0, ixN_6_1, ixN_6_2, ixN_6_3, ixN_6_4, ixN_6_5, ixN_7_0, ixN_7_1, ixN_7_2, ixN_7_3, ixN_7_4, ixN_7_5, ixN_7_6, ixN_8_0, ixN_8_1, ixN_8_2, ixN_8_3, ixN_8_4, ixN_8_5, ixN_8_6, ixN_8_7, atI_0, atI_1, atI_2, atI_3, atI_4, atI_5, atI_6, atI_7, atI_8, isi_NoneType_bool, isi_NoneType_int, isi_NoneType_str, isi_NoneType_tuple, isi_NoneType_list, isi_NoneType_dict, isi_bool_bool, isi_bool_int, isi_bool_str, isi_bool_tuple, isi_bool_list, isi_bool_dict, isi_int_bool, isi_int_int, isi_int_str, isi_int_tuple, isi_int_list, isi_int_dict, isi_str_bool, isi_str_int, isi_str_str, isi_str_tuple, isi_str_list, isi_str_dict, isi_tuple_bool, isi_tuple_int, isi_tuple_str, isi_tuple_tuple, isi_tuple_list, isi_tuple_dict, isi_list_bool, isi_list_int, isi_list_str, isi_list_tuple, isi_list_list, isi_list_dict, isi_dict_bool, isi_dict_int, isi_dict_str, isi_dict_tuple, isi_dict_list, isi_dict_dict, List.length_map]
      rw [if_neg (by rw [xl, hl]; simp)]
      simp only [denSs, denS, den, dens, denO, denT, denI, DV.of, DV.ofB, sSeq, sRet, sRetN, sNext, sIf, sSet, sSetG, sPar, sPar3, sSetIx, sDrop, sFor, sForKeys, sBreak, sCont, dAnd, dOr, dNot, dAndT, dOrT, dNotT, dUn, dOp, dIte, dVar, dC, dTup, dLst, dNil, dCons, dCall, dCut, dPart, dNoPart, dGet1, dGet2, dApp,
  dSeq1, dRange1, dRange2, dEnum, dZip, dLc, dDc, dChain, fIsi, fBlt, fLen, fAbs, fInt1, fMax, fMin, fL1, fTuple, fList, fSorted, fDict, fBin, fCmp, fNeg, fAdd, fSub, fMul, fMod, fDiv, fPow, fInt, fInt0, fLt, fLe, fGt, fGe, fIs, fIsNot, fInD, fIx, fCut, fSeq, fRange1, fRange2, fEnum, fZip, fSetIx, fGet, fApp, fLenSet, fAug, sAug, tOf, tOfB, guardN, gset, gsets, sFrz, frz_dct, frz_lst, fEq_int, fNe_int, fEq_bl, fNe_bl, fEq_nil, fNe_nil, fEq_ints,
  TyC.name, DL.isNon, start0, List.length_cons, List.length_nil, List.map_cons, List.map_nil, List.cons_append, List.nil_append, List.getElem?_cons_zero, List.getElem?_cons_succ, List.getElem?_nil, List.set_cons_zero, List.set_cons_succ, List.set_nil, List.replicate, Nat.reduceSub, Nat.reduceAdd, mkL, mkD, dwipe, Bool.false_eq_true, if_true, if_false, ite_true, ite_false, true_and, and_true, Option.isSome_some, Option.isSome_none, Option.map_some, Option.map_none, Option.getD_some, Option.getD_none,
  tyD_non, tyD_bl, tyD_int, tyD_str, tyD_tup, tyD_lst, tyD_dct, truD_non, truD_bl, truD_int, truD_tup, truD_lst, truD_dct, asL_non, asD_non, keyD_non, asL_bl, asD_bl, keyD_bl, asL_int, asD_int, keyD_int, asL_str, asD_str, keyD_str, asL_tup, asD_tup, keyD_tup, asL_lst, asD_lst, keyD_lst, asL_dct, asD_dct, keyD_dct, asL_scr, asD_scr, keyD_scr, asL_sup, asD_sup, asL_supD, isLs_sup, tyD_supL, tyD_supD, sup_same, sup_sup, ixN_1_0, ixN_2_0, ixN_2_1, ixN_3_0, ixN_3_1, ixN_3_2, ixN_4_0, ixN_4_1, ixN_4_2, ixN_4_3, ixN_5_0, ixN_5_1, ixN_5_2, ixN_5_3, ixN_5_4, ixN_6_0, ixN_6_1, ixN_6_2, ixN_6_3, ixN_6_4, ixN_6_5, ixN_7_0, ixN_7_1, ixN_7_2, ixN_7_3, ixN_7_4, ixN_7_5, ixN_7_6, ixN_8_0, ixN_8_1, ixN_8_2, ixN_8_3, ixN_8_4, ixN_8_5, ixN_8_6, ixN_8_7, atI_0, atI_1, atI_2, atI_3, atI_4, atI_5, atI_6, atI_7, atI_8, isi_NoneType_bool, isi_NoneType_int, isi_NoneType_str, isi_NoneType_tuple, isi_NoneType_list, isi_NoneType_dict, isi_bool_bool, isi_bool_int, isi_bool_str, isi_bool_tuple, isi_bool_list, isi_bool_dict, isi_int_bool, isi_int_int, isi_int_str, isi_int_tuple, isi_int_list, isi_int_dict, isi_str_bool, isi_str_int, isi_str_str, isi_str_tuple, isi_str_list, isi_str_dict, isi_tuple_bool, isi_tuple_int, isi_tuple_str, isi_tuple_tuple, isi_tuple_list, isi_tuple_dict, isi_list_bool, isi_list_int, isi_list_str, isi_list_tuple, isi_list_list, isi_list_dict, isi_dict_bool, isi_dict_int, isi_dict_str, isi_dict_tuple, isi_dict_list, isi_dict_dict, asLc]
      rw [zipD_ints]
      refine lcL_mapA (f := fun q => .int (q.1 * q.2)) trivial (fun q hq => ⟨_, rfl, fun Q' q' => ?_⟩) ?_
      · obtain ⟨z1, z2⟩ := List.of_mem_zip hq
        simp only [denSs, denS, den, dens, denO, denT, denI, DV.of, DV.ofB, sSeq, sRet, sRetN, sNext, sIf, sSet, sSetG, sPar, sPar3, sSetIx, sDrop, sFor, sForKeys, sBreak, sCont, dAnd, dOr, dNot, dAndT, dOrT, dNotT, dUn, dOp, dIte, dVar, dC, dTup, dLst, dNil, dCons, dCall, dCut, dPart, dNoPart, dGet1, dGet2, dApp,
  dSeq1, dRange1, dRange2, dEnum, dZip, dLc, dDc, dChain, fIsi, fBlt, fLen, fAbs, fInt1, fMax, fMin, fL1, fTuple, fList, fSorted, fDict, fBin, fCmp, fNeg, fAdd, fSub, fMul, fMod, fDiv, fPow, fInt, fInt0, fLt, fLe, fGt, fGe, fIs, fIsNot, fInD, fIx, fCut, fSeq, fRange1, fRange2, fEnum, fZip, fSetIx, fGet, fApp, fLenSet, fAug, sAug, tOf, tOfB, guardN, gset, gsets, sFrz, frz_dct, frz_lst, fEq_int, fNe_int, fEq_bl, fNe_bl, fEq_nil, fNe_nil, fEq_ints,
  TyC.name, DL.isNon, start0, List.length_cons, List.length_nil, List.map_cons, List.map_nil, List.cons_append, List.nil_append, List.getElem?_cons_zero, List.getElem?_cons_succ, List.getElem?_nil, List.set_cons_zero, List.set_cons_succ, List.set_nil, List.replicate, Nat.reduceSub, Nat.reduceAdd, mkL, mkD, dwipe, Bool.false_eq_true, if_true, if_false, ite_true, ite_false, true_and, and_true, Option.isSome_some, Option.isSome_none, Option.map_some, Option.map_none, Option.getD_some, Option.getD_none,
  tyD_non, tyD_bl, tyD_int, tyD_str, tyD_tup, tyD_lst, tyD_dct, truD_non, truD_bl, truD_int, truD_tup, truD_lst, truD_dct, asL_non, asD_non, keyD_non, asL_bl, asD_bl, keyD_bl, asL_int, asD_int, keyD_int, asL_str, asD_str, keyD_str, asL_tup, asD_tup, keyD_tup, asL_lst, asD_lst, keyD_lst, asL_dct, asD_dct, keyD_dct, asL_scr, asD_scr, keyD_scr, asL_sup, asD_sup, asL_supD, isLs_sup, tyD_supL, tyD_supD, sup_same, sup_sup, ixN_1_0, ixN_2_0, ixN_2_1, ixN_3_0, ixN_3_1, ixN_3_2, ixN_4_0, ixN_4_1, ixN_4_2, ixN_4_3, ixN_5_0, ixN_5_1, ixN_5_2, ixN_5_3, ixN_5_4, ixN_6_0, ixN_6_1, ixN_6_2, ixN_6_3, ixN_6_4, ixN_6_5, ixN_7_0, ixN_7_1, ixN_7_2, ixN_7_3, ixN_7_4, ixN_7_5, ixN_7_6, ixN_8_0, ixN_8_1, ixN_8_2, ixN_8_3, ixN_8_4, ixN_8_5, ixN_8_6, ixN_8_7, atI_0, atI_1, atI_2, atI_3, atI_4, atI_5, atI_6, atI_7, atI_8, isi_NoneType_bool, isi_NoneType_int, isi_NoneType_str, isi_NoneType_tuple, isi_NoneType_list, isi_NoneType_dict, isi_bool_bool, isi_bool_int, isi_bool_str, isi_bool_tuple, isi_bool_list, isi_bool_dict, isi_int_bool, isi_int_int, isi_int_str, isi_int_tuple, isi_int_list, isi_int_dict, isi_str_bool, isi_str_int, isi_str_str, isi_str_tuple, isi_str_list, isi_str_dict, isi_tuple_bool, isi_tuple_int, isi_tuple_str, isi_tuple_tuple, isi_tuple_list, isi_tuple_dict, isi_list_bool, isi_list_int, isi_list_str, isi_list_tuple, isi_list_list, isi_list_dict, isi_dict_bool, isi_dict_int, isi_dict_str, isi_dict_tuple, isi_dict_list, isi_dict_dict]
        exact ⟨cmulB (b2 _ z1) (.bits (hs _ z2) (show sC < 2 ^ 62 by decide) (by decide)), q'⟩
      · have em : ((xs.zip side).map fun q => D.int (q.1 * q.2)) = ((xs.zip side).map fun q => q.1 * q.2).map D.int := by rw [List.map_map]; rfl
        simp only [em, fL1, asL, asInts_map]
        have e1 : ((xs.zip side).map fun q => q.1 * q.2).sum = Piv.S side.length fun k => gt xs k * gt side k := sum_zip (d := 0) (f := fun q => q.1 * q.2) xl rfl (ys := side)
        rw [e1]
        show K (decide ((Piv.S side.length fun k => gt xs k * gt side k) ≤ 0)) S
        rw [decide_eq_false (by omega)]
        exact k
    refine vs_forL (xs := cols.map rowD) (ve_slot rfl) ?_
    refine forL_at (fun i sd S' => S' = S ∧ ∃ a11 a12 a13 a14 a15, sd = [o0, o1, o2, some (.int (m : Int)), o4, o5, some (.lst (cols.map rowD)), some (.lst (side.map D.int)), some (.bl sure), some (.str (shPy cols side).shown), some (.tup [.int 0, .lst (xs.map D.int)]), a11, a12, a13, a14, a15]) ?_ ?_ _ _ ⟨rfl, _, _, _, _, _, rfl⟩
    · rintro i y sd S' hy ⟨rfl, a11, a12, a13, a14, a15, rfl⟩
      rw [List.getElem?_map] at hy
      cases e : cols[i]? with
      | none => rw [e] at hy; cases hy
      | some col =>
        rw [e] at hy
        cases hy
        obtain ⟨hi, ecol⟩ := List.getElem?_eq_some_iff.mp e
        have hcol : col ∈ cols := by rw [← ecol]; exact List.getElem_mem _
        obtain ⟨l1, l2⟩ := hc col hcol
        have eD : cols.getD i [] = col := by rw [List.getD_eq_getElem?_getD, e]; rfl
        refine ⟨trivial, _, rfl, fun K hK => ?_⟩
        refine vs_ifsF (fun K k => ?_) (nil_nx (T := T) (hK _ _ ⟨rfl, _, _, _, _, _, rfl⟩))
        simp only [denSs, denS, den, dens, denO, denT, denI, DV.of, DV.ofB, sSeq, sRet, sRetN, sNext, sIf, sSet, sSetG, sPar, sPar3, sSetIx, sDrop, sFor, sForKeys, sBreak, sCont, dAnd, dOr, dNot, dAndT, dOrT, dNotT, dUn, dOp, dIte, dVar, dC, dTup, dLst, dNil, dCons, dCall, dCut, dPart, dNoPart, dGet1, dGet2, dApp,
  dSeq1, dRange1, dRange2, dEnum, dZip, dLc, dDc, dChain, fIsi, fBlt, fLen, fAbs, fInt1, fMax, fMin, fL1, fTuple, fList, fSorted, fDict, fBin, fCmp, fNeg, fAdd, fSub, fMul, fMod, fDiv, fPow, fInt, fInt0, fLt, fLe, fGt, fGe, fIs, fIsNot, fInD, fIx, fCut, fSeq, fRange1, fRange2, fEnum, fZip, fSetIx, fGet, fApp, fLenSet, fAug, sAug, tOf, tOfB, guardN, gset, gsets, sFrz, frz_dct, frz_lst, fEq_int, fNe_int, fEq_bl, fNe_bl, fEq_nil, fNe_nil, fEq_ints,
  TyC.name, DL.isNon, start0, List.length_cons, List.length_nil, List.map_cons, List.map_nil, List.cons_append, List.nil_append, List.getElem?_cons_zero, List.getElem?_cons_succ, List.getElem?_nil, List.set_cons_zero, List.set_cons_succ, List.set_nil, List.replicate, Nat.reduceSub, Nat.reduceAdd, mkL, mkD, dwipe, Bool.false_eq_true, if_true, if_false, ite_true, ite_false, true_and, and_true, Option.isSome_some, Option.isSome_none, Option.map_some, Option.map_none, Option.getD_some, Option.getD_none,
  tyD_non, tyD_bl, tyD_int, tyD_str, tyD_tup, tyD_lst, tyD_dct, truD_non, truD_bl, truD_int, truD_tup, truD_lst, truD_dct, asL_non, asD_non, keyD_non, asL_bl, asD_bl, keyD_bl, asL_int, asD_int, keyD_int, asL_str, asD_str, keyD_str, asL_tup, asD_tup, keyD_tup, asL_lst, asD_lst, keyD_lst, asL_dct, asD_dct, keyD_dct, asL_scr, asD_scr, keyD_scr, asL_sup, asD_sup, asL_supD, isLs_sup, tyD_supL, tyD_supD, sup_same, sup_sup, ixN_1_0, ixN_2_0, ixN_2_1, ixN_3_0, ixN_3_1, ixN_3_2, ixN_4_0, ixN_4_1, ixN_4_2, ixN_4_3, ixN_5_0, ixN_5_1, ixN_5_2, ixN_5_3, ixN_5_4, ixN_6_0, ixN_6_1, ixN_6_2, ixN_6_3, ixN_6_4, ixN_6_5, ixN_7_0, ixN_7_1, ixN_7_2, ixN_7_3, ixN_7_4, ixN_7_5, ixN_7_6, ixN_8_0, ixN_8_1, ixN_8_2, ixN_8_3, ixN_8_4, ixN_8_5, ixN_8_6, ixN_8_7, atI_0, atI_1, atI_2, atI_3, atI_4, atI_5, atI_6, atI_7, atI_8, isi_NoneType_bool, isi_NoneType_int, isi_NoneType_str, isi_NoneType_tuple, isi_NoneType_list, isi_NoneType_dict, isi_bool_bool, isi_bool_int, isi_bool_str, isi_bool_tuple, isi_bool_list, isi_bool_dict, isi_int_bool, isi_int_int, isi_int_str, isi_int_tuple, isi_int_list, isi_int_dict, isi_str_bool, isi_str_int, isi_str_str, isi_str_tuple, isi_str_list, isi_str_dict, isi_tuple_bool, isi_tuple_int, isi_tuple_str, isi_tuple_tuple, isi_tuple_list, isi_tuple_dict, isi_list_bool, isi_list_int, isi_list_str, isi_list_tuple, isi_list_list, isi_list_dict, isi_dict_bool, isi_dict_int, isi_dict_str, isi_dict_tuple, isi_dict_list, isi_dict_dict, asLc, rowD]
        rw [zipD_ints]
        refine lcL_mapA (f := fun q => .int (q.1 * q.2)) trivial (fun q hq => ⟨_, rfl, fun Q' q' => ?_⟩) ?_
        · obtain ⟨z1, z2⟩ := List.of_mem_zip hq
          simp only [denSs, denS, den, dens, denO, denT, denI, DV.of, DV.ofB, sSeq, sRet, sRetN, sNext, sIf, sSet, sSetG, sPar, sPar3, sSetIx, sDrop, sFor, sForKeys, sBreak, sCont, dAnd, dOr, dNot, dAndT, dOrT, dNotT, dUn, dOp, dIte, dVar, dC, dTup, dLst, dNil, dCons, dCall, dCut, dPart, dNoPart, dGet1, dGet2, dApp,
  dSeq1, dRange1, dRange2, dEnum, dZip, dLc, dDc, dChain, fIsi, fBlt, fLen, fAbs, fInt1, fMax, fMin, fL1, fTuple, fList, fSorted, fDict, fBin, fCmp, fNeg, fAdd, fSub, fMul, fMod, fDiv, fPow, fInt, fInt0, fLt, fLe, fGt, fGe, fIs, fIsNot, fInD, fIx, fCut, fSeq, fRange1, fRange2, fEnum, fZip, fSetIx, fGet, fApp, fLenSet, fAug, sAug, tOf, tOfB, guardN, gset, gsets, sFrz, frz_dct, frz_lst, fEq_int, fNe_int, fEq_bl, fNe_bl, fEq_nil, fNe_nil, fEq_ints,
  TyC.name, DL.isNon, start0, List.length_cons, List.length_nil, List.map_cons, List.map_nil, List.cons_append, List.nil_append, List.getElem?_cons_zero, List.getElem?_cons_succ, List.getElem?_nil, List.set_cons_zero, List.set_cons_succ, List.set_nil, List.replicate, Nat.reduceSub, Nat.reduceAdd, mkL, mkD, dwipe, Bool.false_eq_true, if_true, if_false, ite_true, ite_false, true_and, and_true, Option.isSome_some, Option.isSome_none, Option.map_some, Option.map_none, Option.getD_some, Option.getD_none,
  tyD_non, tyD_bl, tyD_int, tyD_str, tyD_tup, tyD_lst, tyD_dct, truD_non, truD_bl, truD_int, truD_tup, truD_lst, truD_dct, asL_non, asD_non, keyD_non, asL_bl, asD_bl, keyD_bl, asL_int, asD_int, keyD_int, asL_str, asD_str, keyD_str, asL_tup, asD_tup, keyD_tup, asL_lst, asD_lst, keyD_lst, asL_dct, asD_dct, keyD_dct, asL_scr, asD_scr, keyD_scr, asL_sup, asD_sup, asL_supD, isLs_sup, tyD_supL, tyD_supD, sup_same, sup_sup, ixN_1_0, ixN_2_0, ixN_2_1, ixN_3_0, ixN_3_1, ixN_3_2, ixN_4_0, ixN_4_1, ixN_4_2, ixN_4_3, ixN_5_0, ixN_5_1, ixN_5_2, ixN_5_3, ixN_5_4, ixN_6_0, ixN_6_1, ixN_6_2, ixN_6_3, ixN_6_4, ixN_6_5, ixN_7_0, ixN_7_1, ixN_7_2, ixN_7_3, ixN_7_4, ixN_7_5, ixN_7_6, ixN_8_0, ixN_8_1, ixN_8_2, ixN_8_3, ixN_8_4, ixN_8_5, ixN_8_6, ixN_8_7, atI_0, atI_1, atI_2, atI_3, atI_4, atI_5, atI_6, atI_7, atI_8, isi_NoneType_bool, isi_NoneType_int, isi_NoneType_str, isi_NoneType_tuple, isi_NoneType_list, isi_NoneType_dict, isi_bool_bool, isi_bool_int, isi_bool_str, isi_bool_tuple, isi_bool_list, isi_bool_dict, isi_int_bool, isi_int_int, isi_int_str, isi_int_tuple, isi_int_list, isi_int_dict, isi_str_bool, isi_str_int, isi_str_str, isi_str_tuple, isi_str_list, isi_str_dict, isi_tuple_bool, isi_tuple_int, isi_tuple_str, isi_tuple_tuple, isi_tuple_list, isi_tuple_dict, isi_list_bool, isi_list_int, isi_list_str, isi_list_tuple, isi_list_list, isi_list_dict, isi_dict_bool, isi_dict_int, isi_dict_str, isi_dict_tuple, isi_dict_list, isi_dict_dict]
          exact ⟨cmulB (b2 _ z1) (.bits (l2 _ z2) (show cC < 2 ^ 62 by decide) (by decide)), q'⟩
        · have em : ((xs.zip col).map fun q => D.int (q.1 * q.2)) = ((xs.zip col).map fun q => q.1 * q.2).map D.int := by rw [List.map_map]; rfl
          simp only [em, fL1, asL, asInts_map]
          have e1 : ((xs.zip col).map fun q => q.1 * q.2).sum = Piv.S side.length fun k => gt xs k * gt col k := sum_zip (d := 0) (f := fun q => q.1 * q.2) xl (by rw [l1, hl]) (ys := col)
          have e2 := xe i hi
          rw [eD] at e2
          rw [e1]
          show K (decide ((Piv.S side.length fun k => gt xs k * gt col k) > 0)) S'
          rw [decide_eq_false (by omega)]
          exact k
    · rintro sd S' ⟨rfl, a11, a12, a13, a14, a15, rfl⟩
      exact ⟨trivial, nil_nx (T := T) (hlast _ _ _ _ _)⟩
end K09
set_option Elab.async false
set_option linter.all false
set_option maxRecDepth 100000
set_option maxHeartbeats 1000000
namespace DL
open PySem L2
section
variable {T : Tb} {sd : Slots} {S : Store} {r : CSs} {Dd : DEnds}
theorem vs_setgE {g : CG} {e : CE} (h : (den T e).v sd S fun x S1 => match gset g x sd with | some sd2 => denSs T r Dd sd2 S1 | none => False) : denSs T (.cons (.setg g e) r) Dd sd S := h
end
end DL
namespace K09
open PySem L2 DL Piv
theorem r_law {T : Tb} (A : Fns T) {ds : List D} {S : Store} {Q : DQ} (h : spLawD 63 ds S Q) : denSs T core_law (DD Q) (start0 N_law.length ds) S := by
  obtain ⟨ns0, rfl, hlen, hS, q⟩ := h
  have hsz : (1000 : Nat) ≤ sizeLine := by decide
  show denSs T (.cons (.for_ (.slot 1) (.range1 (.blt false .max (.cons (.int 2) (.cons (.blt false .min (.cons (.int 6) (.cons (.blt false .len (.cons (.slot 0) .nil)) .nil))) .nil)))) (bodyOf core_law)) (.cons (.ret (.bl true)) .nil)) (DD Q) [some (.scr ns0), none, none, none, none, none, none, none, none, none, none, none, none, none, none, none] S
  have emax : ∃ m : Int, 0 ≤ m ∧ m ≤ 6 ∧ Ve T [some (.scr ns0), none, none, none, none, none, none, none, none, none, none, none, none, none, none, none] S (.blt false .max (.cons (.int 2) (.cons (.blt false .min (.cons (.int 6) (.cons (.blt false .len (.cons (.slot 0) .nil)) .nil))) .nil))) (.int m) := by
    refine ⟨if (if (ns0.length : Int) < 6 then (ns0.length : Int) else 6) > 2 then (if (ns0.length : Int) < 6 then (ns0.length : Int) else 6) else 2, ?_, ?_, fun K hK => ?_⟩
    · split <;> split <;> omega
    · split <;> split <;> omega
    · simp only [denSs, denS, den, dens, denO, denT, denI, DV.of, DV.ofB, sSeq, sRet, sRetN, sNext, sIf, sSet, sSetG, sPar, sPar3, sSetIx, sDrop, sFor, sForKeys, sBreak, sCont, dAnd, dOr, dNot, dAndT, dOrT, dNotT, dUn, dOp, dIte, dVar, dC, dTup, dLst, dNil, dCons, dCall, dCut, dPart, dNoPart, dGet1, dGet2, dApp,
  dSeq1, dRange1, dRange2, dEnum, dZip, dLc, dDc, dChain, fIsi, fBlt, fLen, fAbs, fInt1, fMax, fMin, fL1, fTuple, fList, fSorted, fDict, fBin, fCmp, fNeg, fAdd, fSub, fMul, fMod, fDiv, fPow, fInt, fInt0, fLt, fLe, fGt, fGe, fIs, fIsNot, fInD, fIx, fCut, fSeq, fRange1, fRange2, fEnum, fZip, fSetIx, fGet, fApp, fLenSet, fAug, sAug, tOf, tOfB, guardN, gset, gsets, sFrz, frz_dct, frz_lst, fEq_int, fNe_int, fEq_bl, fNe_bl, fEq_nil, fNe_nil, fEq_ints,
  TyC.name, DL.isNon, start0, List.length_cons, List.length_nil, List.map_cons, List.map_nil, List.cons_append, List.nil_append, List.getElem?_cons_zero, List.getElem?_cons_succ, List.getElem?_nil, List.set_cons_zero, List.set_cons_succ, List.set_nil, List.replicate, Nat.reduceSub, Nat.reduceAdd, mkL, mkD, dwipe, Bool.false_eq_true, if_true, if_false, ite_true, ite_false, true_and, and_true, Option.isSome_some, Option.isSome_none, Option.map_some, Option.map_none, Option.getD_some, Option.getD_none,
  tyD_non, tyD_bl, tyD_int, tyD_str, tyD_tup, tyD_lst, tyD_dct, truD_non, truD_bl, truD_int, truD_tup, truD_lst, truD_dct, asL_non, asD_non, keyD_non, asL_bl, asD_bl, keyD_bl, asL_int, asD_int, keyD_int, asL_str, asD_str, keyD_str, asL_tup, asD_tup, keyD_tup, asL_lst, asD_lst, keyD_lst, asL_dct, asD_dct, keyD_dct, asL_scr, asD_scr, keyD_scr, asL_sup, asD_sup, asL_supD, isLs_sup, tyD_supL, tyD_supD, sup_same, sup_sup, ixN_1_0, ixN_2_0, ixN_2_1, ixN_3_0, ixN_3_1, ixN_3_2, ixN_4_0, ixN_4_1, ixN_4_2, ixN_4_3, ixN_5_0, ixN_5_1, ixN_5_2, ixN_5_3, ixN_5_4, ixN_6_0, ixN_6_1, ixN_6_2, ixN_6_3, ixN_6_4, ixN_6_5, ixN_7_0, ixN_7_1, ixN_7_2, ixN_7_3, ixN_7_4, ixN_7_5, ixN_7_6, ixN_8_0, ixN_8_1, ixN_8_2, ixN_8_3, ixN_8_4, ixN_8_5, ixN_8_6, ixN_8_7, atI_0, atI_1, atI_2, atI_3, atI_4, atI_5, atI_6, atI_7, atI_8, isi_NoneType_bool, isi_NoneType_int, isi_NoneType_str, isi_NoneType_tuple, isi_NoneType_list, isi_NoneType_dict, isi_bool_bool, isi_bool_int, isi_bool_str, isi_bool_tuple, isi_bool_list, isi_bool_dict, isi_int_bool, isi_int_int, isi_int_str, isi_int_tuple, isi_int_list, isi_int_dict, isi_str_bool, isi_str_int, isi_str_str, isi_str_tuple, isi_str_list, isi_str_dict, isi_tuple_bool, isi_tuple_int, isi_tuple_str, isi_tuple_tuple, isi_tuple_list, isi_tuple_dict, isi_list_bool, isi_list_int, isi_list_str, isi_list_tuple, isi_list_list, isi_list_dict, isi_dict_bool, isi_dict_int, isi_dict_str, isi_dict_tuple, isi_dict_list, isi_dict_dict]
      exact hK
  obtain ⟨m, m0, m5, hm⟩ := emax
  refine vs_forI hm (by omega) (by omega) ?_
  refine forL_ind (fun xs sd S' => (∀ x ∈ xs, ∃ i : Int, x = .int i ∧ 0 ≤ i ∧ i < 1000) ∧ ∃ o1 o2 o3 o4 o5 o6 o7 o8 o9 o10 o11 o12 o13 o14 o15, sd = [some (.scr ns0), o1, o2, o3, o4, o5, o6, o7, o8, o9, o10, o11, o12, o13, o14, o15]) ?_ ?_ _ _ _ ⟨fun x hx => (let ⟨i, h1, h2, h3⟩ := rangeD_mem hx; ⟨i, h1, h2, by omega⟩), none, none, none, none, none, none, none, none, none, none, none, none, none, none, none, rfl⟩
  · rintro x xs sd S ⟨hx, o1, o2, o3, o4, o5, o6, o7, o8, o9, o10, o11, o12, o13, o14, o15, rfl⟩
    obtain ⟨i, rfl, i0, i1⟩ := hx _ List.mem_cons_self
    refine ⟨trivial, _, rfl, fun K hK => ?_⟩
    have hK : ∀ a2 a3 a4 a5 a6 a7 a8 a9 a10 a11 a12 a13 a14 a15 S2, K [some (.scr ns0), some (.int i), a2, a3, a4, a5, a6, a7, a8, a9, a10, a11, a12, a13, a14, a15] S2 := fun _ _ _ _ _ _ _ _ _ _ _ _ _ _ _ => hK _ _ ⟨fun y hy => hx y (List.mem_cons_of_mem _ hy), _, _, _, _, _, _, _, _, _, _, _, _, _, _, _, rfl⟩
    generalize hE : ({ DD Q with nx := fun sd' S' => denSs T (.cons (.ret (.bl true)) .nil) (DD Q) sd' S' } : DEnds).nx = bk
    show denSs T (bodyOf core_law) { DD Q with nx := K, ct := K, bk := _ } [some (.scr ns0), some (.int i), o2, o3, o4, o5, o6, o7, o8, o9, o10, o11, o12, o13, o14, o15] S
    generalize hEE : ({ DD Q with nx := K, ct := K, bk := _ } : DEnds) = E
    have hEn : ∀ a2 a3 a4 a5 a6 a7 a8 a9 a10 a11 a12 a13 a14 a15 S2, E.nx [some (.scr ns0), some (.int i), a2, a3, a4, a5, a6, a7, a8, a9, a10, a11, a12, a13, a14, a15] S2 := by rw [← hEE]; exact hK
    clear hEE hK hE
    -- box
    have e2 : ∀ K : DQ, (∀ (b : Addr) (bx : Bx), S b = none → Bx.ok bx 0 → K (.ref b) (sup S b bx.o)) → (den T (.call 4 (.cons (.call 2 (.cons (.slot 0) (.cons (.slot 1) .nil))) .nil))).v [some (.scr ns0), some (.int i), o2, o3, o4, o5, o6, o7, o8, o9, o10, o11, o12, o13, o14, o15] S K := by
      intro K hK
      simp only [denSs, denS, den, dens, denO, denT, denI, DV.of, DV.ofB, sSeq, sRet, sRetN, sNext, sIf, sSet, sSetG, sPar, sPar3, sSetIx, sDrop, sFor, sForKeys, sBreak, sCont, dAnd, dOr, dNot, dAndT, dOrT, dNotT, dUn, dOp, dIte, dVar, dC, dTup, dLst, dNil, dCons, dCall, dCut, dPart, dNoPart, dGet1, dGet2, dApp,
  dSeq1, dRange1, dRange2, dEnum, dZip, dLc, dDc, dChain, fIsi, fBlt, fLen, fAbs, fInt1, fMax, fMin, fL1, fTuple, fList, fSorted, fDict, fBin, fCmp, fNeg, fAdd, fSub, fMul, fMod, fDiv, fPow, fInt, fInt0, fLt, fLe, fGt, fGe, fIs, fIsNot, fInD, fIx, fCut, fSeq, fRange1, fRange2, fEnum, fZip, fSetIx, fGet, fApp, fLenSet, fAug, sAug, tOf, tOfB, guardN, gset, gsets, sFrz, frz_dct, frz_lst, fEq_int, fNe_int, fEq_bl, fNe_bl, fEq_nil, fNe_nil, fEq_ints,
  TyC.name, DL.isNon, start0, List.length_cons, List.length_nil, List.map_cons, List.map_nil, List.cons_append, List.nil_append, List.getElem?_cons_zero, List.getElem?_cons_succ, List.getElem?_nil, List.set_cons_zero, List.set_cons_succ, List.set_nil, List.replicate, Nat.reduceSub, Nat.reduceAdd, mkL, mkD, dwipe, Bool.false_eq_true, if_true, if_false, ite_true, ite_false, true_and, and_true, Option.isSome_some, Option.isSome_none, Option.map_some, Option.map_none, Option.getD_some, Option.getD_none,
  tyD_non, tyD_bl, tyD_int, tyD_str, tyD_tup, tyD_lst, tyD_dct, truD_non, truD_bl, truD_int, truD_tup, truD_lst, truD_dct, asL_non, asD_non, keyD_non, asL_bl, asD_bl, keyD_bl, asL_int, asD_int, keyD_int, asL_str, asD_str, keyD_str, asL_tup, asD_tup, keyD_tup, asL_lst, asD_lst, keyD_lst, asL_dct, asD_dct, keyD_dct, asL_scr, asD_scr, keyD_scr, asL_sup, asD_sup, asL_supD, isLs_sup, tyD_supL, tyD_supD, sup_same, sup_sup, ixN_1_0, ixN_2_0, ixN_2_1, ixN_3_0, ixN_3_1, ixN_3_2, ixN_4_0, ixN_4_1, ixN_4_2, ixN_4_3, ixN_5_0, ixN_5_1, ixN_5_2, ixN_5_3, ixN_5_4, ixN_6_0, ixN_6_1, ixN_6_2, ixN_6_3, ixN_6_4, ixN_6_5, ixN_7_0, ixN_7_1, ixN_7_2, ixN_7_3, ixN_7_4, ixN_7_5, ixN_7_6, ixN_8_0, ixN_8_1, ixN_8_2, ixN_8_3, ixN_8_4, ixN_8_5, ixN_8_6, ixN_8_7, atI_0, atI_1, atI_2, atI_3, atI_4, atI_5, atI_6, atI_7, atI_8, isi_NoneType_bool, isi_NoneType_int, isi_NoneType_str, isi_NoneType_tuple, isi_NoneType_list, isi_NoneType_dict, isi_bool_bool, isi_bool_int, isi_bool_str, isi_bool_tuple, isi_bool_list, isi_bool_dict, isi_int_bool, isi_int_int, isi_int_str, isi_int_tuple, isi_int_list, isi_int_dict, isi_str_bool, isi_str_int, isi_str_str, isi_str_tuple, isi_str_list, isi_str_dict, isi_tuple_bool, isi_tuple_int, isi_tuple_str, isi_tuple_tuple, isi_tuple_list, isi_tuple_dict, isi_list_bool, isi_list_int, isi_list_str, isi_list_tuple, isi_list_list, isi_list_dict, isi_dict_bool, isi_dict_int, isi_dict_str, isi_dict_tuple, isi_dict_list, isi_dict_dict, A.f2, A.f4]
      exact ⟨ns0, i, rfl, i0, i1, fun g => ⟨g, rfl, hK⟩⟩
    refine vs_setE (e2 _ fun b bx hb hbx => ?_)
    clear e2
    have hb0 : (sup S b bx.o) b = some (Bx.o bx) := sup_same
    generalize sup S b bx.o = S0 at hb0
    show denSs T (dropSs 1 (bodyOf core_law)) E [some (.scr ns0), some (.int i), some (.ref b), o3, o4, o5, o6, o7, o8, o9, o10, o11, o12, o13, o14, o15] S0
    -- many, size, named
    have e3 : ∀ K : D → D → D → Store → Prop, (∀ (m : Nat) (sz : Int) (nm : Bool) (bx2 : Bx), m ≤ 5 → 0 ≤ sz → sz ≤ 1000000000007 → Bx.ok bx2 3 → K (.int (m : Int)) (.int sz) (.bl nm) (sup S0 b bx2.o)) →
        (den T (.op false .Add (.int 1) (.call 3 (.cons (.slot 2) (.cons (.int 5) .nil))))).v [some (.scr ns0), some (.int i), some (.ref b), o3, o4, o5, o6, o7, o8, o9, o10, o11, o12, o13, o14, o15] S0 fun x S1 => (den T (.ix (.lst false (.cons (.int 1) (.cons (.int 1) (.cons (.op false .Add (.op false .Pow (.int 10) (.int 12)) (.int 7)) .nil)))) (.call 3 (.cons (.slot 2) (.cons (.int 3) .nil))))).v [some (.scr ns0), some (.int i), some (.ref b), o3, o4, o5, o6, o7, o8, o9, o10, o11, o12, o13, o14, o15] S1 fun y S2 => (den T (.cmp .Eq (.call 3 (.cons (.slot 2) (.cons (.int 2) .nil))) (.int 0))).v [some (.scr ns0), some (.int i), some (.ref b), o3, o4, o5, o6, o7, o8, o9, o10, o11, o12, o13, o14, o15] S2 fun z S3 => K x y z S3 := by
      intro K hK
      simp only [denSs, denS, den, dens, denO, denT, denI, DV.of, DV.ofB, sSeq, sRet, sRetN, sNext, sIf, sSet, sSetG, sPar, sPar3, sSetIx, sDrop, sFor, sForKeys, sBreak, sCont, dAnd, dOr, dNot, dAndT, dOrT, dNotT, dUn, dOp, dIte, dVar, dC, dTup, dLst, dNil, dCons, dCall, dCut, dPart, dNoPart, dGet1, dGet2, dApp,
  dSeq1, dRange1, dRange2, dEnum, dZip, dLc, dDc, dChain, fIsi, fBlt, fLen, fAbs, fInt1, fMax, fMin, fL1, fTuple, fList, fSorted, fDict, fBin, fCmp, fNeg, fAdd, fSub, fMul, fMod, fDiv, fPow, fInt, fInt0, fLt, fLe, fGt, fGe, fIs, fIsNot, fInD, fIx, fCut, fSeq, fRange1, fRange2, fEnum, fZip, fSetIx, fGet, fApp, fLenSet, fAug, sAug, tOf, tOfB, guardN, gset, gsets, sFrz, frz_dct, frz_lst, fEq_int, fNe_int, fEq_bl, fNe_bl, fEq_nil, fNe_nil, fEq_ints,
  TyC.name, DL.isNon, start0, List.length_cons, List.length_nil, List.map_cons, List.map_nil, List.cons_append, List.nil_append, List.getElem?_cons_zero, List.getElem?_cons_succ, List.getElem?_nil, List.set_cons_zero, List.set_cons_succ, List.set_nil, List.replicate, Nat.reduceSub, Nat.reduceAdd, mkL, mkD, dwipe, Bool.false_eq_true, if_true, if_false, ite_true, ite_false, true_and, and_true, Option.isSome_some, Option.isSome_none, Option.map_some, Option.map_none, Option.getD_some, Option.getD_none,
  tyD_non, tyD_bl, tyD_int, tyD_str, tyD_tup, tyD_lst, tyD_dct, truD_non, truD_bl, truD_int, truD_tup, truD_lst, truD_dct, asL_non, asD_non, keyD_non, asL_bl, asD_bl, keyD_bl, asL_int, asD_int, keyD_int, asL_str, asD_str, keyD_str, asL_tup, asD_tup, keyD_tup, asL_lst, asD_lst, keyD_lst, asL_dct, asD_dct, keyD_dct, asL_scr, asD_scr, keyD_scr, asL_sup, asD_sup, asL_supD, isLs_sup, tyD_supL, tyD_supD, sup_same, sup_sup, ixN_1_0, ixN_2_0, ixN_2_1, ixN_3_0, ixN_3_1, ixN_3_2, ixN_4_0, ixN_4_1, ixN_4_2, ixN_4_3, ixN_5_0, ixN_5_1, ixN_5_2, ixN_5_3, ixN_5_4, ixN_6_0, ixN_6_1, ixN_6_2, ixN_6_3, ixN_6_4, ixN_6_5, ixN_7_0, ixN_7_1, ixN_7_2, ixN_7_3, ixN_7_4, ixN_7_5, ixN_7_6, ixN_8_0, ixN_8_1, ixN_8_2, ixN_8_3, ixN_8_4, ixN_8_5, ixN_8_6, ixN_8_7, atI_0, atI_1, atI_2, atI_3, atI_4, atI_5, atI_6, atI_7, atI_8, isi_NoneType_bool, isi_NoneType_int, isi_NoneType_str, isi_NoneType_tuple, isi_NoneType_list, isi_NoneType_dict, isi_bool_bool, isi_bool_int, isi_bool_str, isi_bool_tuple, isi_bool_list, isi_bool_dict, isi_int_bool, isi_int_int, isi_int_str, isi_int_tuple, isi_int_list, isi_int_dict, isi_str_bool, isi_str_int, isi_str_str, isi_str_tuple, isi_str_list, isi_str_dict, isi_tuple_bool, isi_tuple_int, isi_tuple_str, isi_tuple_tuple, isi_tuple_list, isi_tuple_dict, isi_list_bool, isi_list_int, isi_list_str, isi_list_tuple, isi_list_list, isi_list_dict, isi_dict_bool, isi_dict_int, isi_dict_str, isi_dict_tuple, isi_dict_list, isi_dict_dict, A.f3]
      refine ⟨b, 5, 0, bx, rfl, by decide, by decide, hb0, hbx, by decide, fun r bx1 r0 r1 hb1 => ?_⟩
      simp only [denSs, denS, den, dens, denO, denT, denI, DV.of, DV.ofB, sSeq, sRet, sRetN, sNext, sIf, sSet, sSetG, sPar, sPar3, sSetIx, sDrop, sFor, sForKeys, sBreak, sCont, dAnd, dOr, dNot, dAndT, dOrT, dNotT, dUn, dOp, dIte, dVar, dC, dTup, dLst, dNil, dCons, dCall, dCut, dPart, dNoPart, dGet1, dGet2, dApp,
  dSeq1, dRange1, dRange2, dEnum, dZip, dLc, dDc, dChain, fIsi, fBlt, fLen, fAbs, fInt1, fMax, fMin, fL1, fTuple, fList, fSorted, fDict, fBin, fCmp, fNeg, fAdd, fSub, fMul, fMod, fDiv, fPow, fInt, fInt0, fLt, fLe, fGt, fGe, fIs, fIsNot, fInD, fIx, fCut, fSeq, fRange1, fRange2, fEnum, fZip, fSetIx, fGet, fApp, fLenSet, fAug, sAug, tOf, tOfB, guardN, gset, gsets, sFrz, frz_dct, frz_lst, fEq_int, fNe_int, fEq_bl, fNe_bl, fEq_nil, fNe_nil, fEq_ints,
  TyC.name, DL.isNon, start0, List.length_cons, List.length_nil, List.map_cons, List.map_nil, List.cons_append, List.nil_append, List.getElem?_cons_zero, List.getElem?_cons_succ, List.getElem?_nil, List.set_cons_zero, List.set_cons_succ, List.set_nil, List.replicate, Nat.reduceSub, Nat.reduceAdd, mkL, mkD, dwipe, Bool.false_eq_true, if_true, if_false, ite_true, ite_false, true_and, and_true, Option.isSome_some, Option.isSome_none, Option.map_some, Option.map_none, Option.getD_some, Option.getD_none,
  tyD_non, tyD_bl, tyD_int, tyD_str, tyD_tup, tyD_lst, tyD_dct, truD_non, truD_bl, truD_int, truD_tup, truD_lst, truD_dct, asL_non, asD_non, keyD_non, asL_bl, asD_bl, keyD_bl, asL_int, asD_int, keyD_int, asL_str, asD_str, keyD_str, asL_tup, asD_tup, keyD_tup, asL_lst, asD_lst, keyD_lst, asL_dct, asD_dct, keyD_dct, asL_scr, asD_scr, keyD_scr, asL_sup, asD_sup, asL_supD, isLs_sup, tyD_supL, tyD_supD, sup_same, sup_sup, ixN_1_0, ixN_2_0, ixN_2_1, ixN_3_0, ixN_3_1, ixN_3_2, ixN_4_0, ixN_4_1, ixN_4_2, ixN_4_3, ixN_5_0, ixN_5_1, ixN_5_2, ixN_5_3, ixN_5_4, ixN_6_0, ixN_6_1, ixN_6_2, ixN_6_3, ixN_6_4, ixN_6_5, ixN_7_0, ixN_7_1, ixN_7_2, ixN_7_3, ixN_7_4, ixN_7_5, ixN_7_6, ixN_8_0, ixN_8_1, ixN_8_2, ixN_8_3, ixN_8_4, ixN_8_5, ixN_8_6, ixN_8_7, atI_0, atI_1, atI_2, atI_3, atI_4, atI_5, atI_6, atI_7, atI_8, isi_NoneType_bool, isi_NoneType_int, isi_NoneType_str, isi_NoneType_tuple, isi_NoneType_list, isi_NoneType_dict, isi_bool_bool, isi_bool_int, isi_bool_str, isi_bool_tuple, isi_bool_list, isi_bool_dict, isi_int_bool, isi_int_int, isi_int_str, isi_int_tuple, isi_int_list, isi_int_dict, isi_str_bool, isi_str_int, isi_str_str, isi_str_tuple, isi_str_list, isi_str_dict, isi_tuple_bool, isi_tuple_int, isi_tuple_str, isi_tuple_tuple, isi_tuple_list, isi_tuple_dict, isi_list_bool, isi_list_int, isi_list_str, isi_list_tuple, isi_list_list, isi_list_dict, isi_dict_bool, isi_dict_int, isi_dict_str, isi_dict_tuple, isi_dict_list, isi_dict_dict]
      refine ⟨cpow (by decide) (by decide) (by decide) (by decide), by decide, b, 3, 1, bx1, rfl, by decide, by decide, sup_same, hb1, by decide, fun r2 bx2 r20 r21 hb2 => ?_⟩
      obtain ⟨v, hv, ev⟩ := atI_lit [1, 1, 1000000000007] r20 r21
      simp only [List.map_cons, List.map_nil] at ev
      have hv4 : 0 ≤ v ∧ v ≤ 1000000000007 := by
        simp only [List.mem_cons, List.not_mem_nil, or_false] at hv; omega
      have ep : (10 : Int) ^ Int.toNat 12 + 7 = 1000000000007 := by decide
      simp only [denSs, denS, den, dens, denO, denT, denI, DV.of, DV.ofB, sSeq, sRet, sRetN, sNext, sIf, sSet, sSetG, sPar, sPar3, sSetIx, sDrop, sFor, sForKeys, sBreak, sCont, dAnd, dOr, dNot, dAndT, dOrT, dNotT, dUn, dOp, dIte, dVar, dC, dTup, dLst, dNil, dCons, dCall, dCut, dPart, dNoPart, dGet1, dGet2, dApp,
  dSeq1, dRange1, dRange2, dEnum, dZip, dLc, dDc, dChain, fIsi, fBlt, fLen, fAbs, fInt1, fMax, fMin, fL1, fTuple, fList, fSorted, fDict, fBin, fCmp, fNeg, fAdd, fSub, fMul, fMod, fDiv, fPow, fInt, fInt0, fLt, fLe, fGt, fGe, fIs, fIsNot, fInD, fIx, fCut, fSeq, fRange1, fRange2, fEnum, fZip, fSetIx, fGet, fApp, fLenSet, fAug, sAug, tOf, tOfB, guardN, gset, gsets, sFrz, frz_dct, frz_lst, fEq_int, fNe_int, fEq_bl, fNe_bl, fEq_nil, fNe_nil, fEq_ints,
  TyC.name, DL.isNon, start0, List.length_cons, List.length_nil, List.map_cons, List.map_nil, List.cons_append, List.nil_append, List.getElem?_cons_zero, List.getElem?_cons_succ, List.getElem?_nil, List.set_cons_zero, List.set_cons_succ, List.set_nil, List.replicate, Nat.reduceSub, Nat.reduceAdd, mkL, mkD, dwipe, Bool.false_eq_true, if_true, if_false, ite_true, ite_false, true_and, and_true, Option.isSome_some, Option.isSome_none, Option.map_some, Option.map_none, Option.getD_some, Option.getD_none,
  tyD_non, tyD_bl, tyD_int, tyD_str, tyD_tup, tyD_lst, tyD_dct, truD_non, truD_bl, truD_int, truD_tup, truD_lst, truD_dct, asL_non, asD_non, keyD_non, asL_bl, asD_bl, keyD_bl, asL_int, asD_int, keyD_int, asL_str, asD_str, keyD_str, asL_tup, asD_tup, keyD_tup, asL_lst, asD_lst, keyD_lst, asL_dct, asD_dct, keyD_dct, asL_scr, asD_scr, keyD_scr, asL_sup, asD_sup, asL_supD, isLs_sup, tyD_supL, tyD_supD, sup_same, sup_sup, ixN_1_0, ixN_2_0, ixN_2_1, ixN_3_0, ixN_3_1, ixN_3_2, ixN_4_0, ixN_4_1, ixN_4_2, ixN_4_3, ixN_5_0, ixN_5_1, ixN_5_2, ixN_5_3, ixN_5_4, ixN_6_0, ixN_6_1, ixN_6_2, ixN_6_3, ixN_6_4, ixN_6_5, ixN_7_0, ixN_7_1, ixN_7_2, ixN_7_3, ixN_7_4, ixN_7_5, ixN_7_6, ixN_8_0, ixN_8_1, ixN_8_2, ixN_8_3, ixN_8_4, ixN_8_5, ixN_8_6, ixN_8_7, atI_0, atI_1, atI_2, atI_3, atI_4, atI_5, atI_6, atI_7, atI_8, isi_NoneType_bool, isi_NoneType_int, isi_NoneType_str, isi_NoneType_tuple, isi_NoneType_list, isi_NoneType_dict, isi_bool_bool, isi_bool_int, isi_bool_str, isi_bool_tuple, isi_bool_list, isi_bool_dict, isi_int_bool, isi_int_int, isi_int_str, isi_int_tuple, isi_int_list, isi_int_dict, isi_str_bool, isi_str_int, isi_str_str, isi_str_tuple, isi_str_list, isi_str_dict, isi_tuple_bool, isi_tuple_int, isi_tuple_str, isi_tuple_tuple, isi_tuple_list, isi_tuple_dict, isi_list_bool, isi_list_int, isi_list_str, isi_list_tuple, isi_list_list, isi_list_dict, isi_dict_bool, isi_dict_int, isi_dict_str, isi_dict_tuple, isi_dict_list, isi_dict_dict, ep, ev]
      refine ⟨b, 2, 2, bx2, rfl, by decide, by decide, sup_same, hb2, by decide, fun r3 bx3 r30 r31 hb3 => ?_⟩
      simp only [denSs, denS, den, dens, denO, denT, denI, DV.of, DV.ofB, sSeq, sRet, sRetN, sNext, sIf, sSet, sSetG, sPar, sPar3, sSetIx, sDrop, sFor, sForKeys, sBreak, sCont, dAnd, dOr, dNot, dAndT, dOrT, dNotT, dUn, dOp, dIte, dVar, dC, dTup, dLst, dNil, dCons, dCall, dCut, dPart, dNoPart, dGet1, dGet2, dApp,
  dSeq1, dRange1, dRange2, dEnum, dZip, dLc, dDc, dChain, fIsi, fBlt, fLen, fAbs, fInt1, fMax, fMin, fL1, fTuple, fList, fSorted, fDict, fBin, fCmp, fNeg, fAdd, fSub, fMul, fMod, fDiv, fPow, fInt, fInt0, fLt, fLe, fGt, fGe, fIs, fIsNot, fInD, fIx, fCut, fSeq, fRange1, fRange2, fEnum, fZip, fSetIx, fGet, fApp, fLenSet, fAug, sAug, tOf, tOfB, guardN, gset, gsets, sFrz, frz_dct, frz_lst, fEq_int, fNe_int, fEq_bl, fNe_bl, fEq_nil, fNe_nil, fEq_ints,
  TyC.name, DL.isNon, start0, List.length_cons, List.length_nil, List.map_cons, List.map_nil, List.cons_append, List.nil_append, List.getElem?_cons_zero, List.getElem?_cons_succ, List.getElem?_nil, List.set_cons_zero, List.set_cons_succ, List.set_nil, List.replicate, Nat.reduceSub, Nat.reduceAdd, mkL, mkD, dwipe, Bool.false_eq_true, if_true, if_false, ite_true, ite_false, true_and, and_true, Option.isSome_some, Option.isSome_none, Option.map_some, Option.map_none, Option.getD_some, Option.getD_none,
  tyD_non, tyD_bl, tyD_int, tyD_str, tyD_tup, tyD_lst, tyD_dct, truD_non, truD_bl, truD_int, truD_tup, truD_lst, truD_dct, asL_non, asD_non, keyD_non, asL_bl, asD_bl, keyD_bl, asL_int, asD_int, keyD_int, asL_str, asD_str, keyD_str, asL_tup, asD_tup, keyD_tup, asL_lst, asD_lst, keyD_lst, asL_dct, asD_dct, keyD_dct, asL_scr, asD_scr, keyD_scr, asL_sup, asD_sup, asL_supD, isLs_sup, tyD_supL, tyD_supD, sup_same, sup_sup, ixN_1_0, ixN_2_0, ixN_2_1, ixN_3_0, ixN_3_1, ixN_3_2, ixN_4_0, ixN_4_1, ixN_4_2, ixN_4_3, ixN_5_0, ixN_5_1, ixN_5_2, ixN_5_3, ixN_5_4, ixN_6_0, ixN_6_1, ixN_6_2, ixN_6_3, ixN_6_4, ixN_6_5, ixN_7_0, ixN_7_1, ixN_7_2, ixN_7_3, ixN_7_4, ixN_7_5, ixN_7_6, ixN_8_0, ixN_8_1, ixN_8_2, ixN_8_3, ixN_8_4, ixN_8_5, ixN_8_6, ixN_8_7, atI_0, atI_1, atI_2, atI_3, atI_4, atI_5, atI_6, atI_7, atI_8, isi_NoneType_bool, isi_NoneType_int, isi_NoneType_str, isi_NoneType_tuple, isi_NoneType_list, isi_NoneType_dict, isi_bool_bool, isi_bool_int, isi_bool_str, isi_bool_tuple, isi_bool_list, isi_bool_dict, isi_int_bool, isi_int_int, isi_int_str, isi_int_tuple, isi_int_list, isi_int_dict, isi_str_bool, isi_str_int, isi_str_str, isi_str_tuple, isi_str_list, isi_str_dict, isi_tuple_bool, isi_tuple_int, isi_tuple_str, isi_tuple_tuple, isi_tuple_list, isi_tuple_dict, isi_list_bool, isi_list_int, isi_list_str, isi_list_tuple, isi_list_list, isi_list_dict, isi_dict_bool, isi_dict_int, isi_dict_str, isi_dict_tuple, isi_dict_list, isi_dict_dict]
      have := hK (1 + r).toNat v (decide (r3 = 0)) bx3 (by omega) hv4.1 hv4.2 hb3
      rw [Int.toNat_of_nonneg (by omega)] at this
      exact this
    refine vs_par3 (e3 _ fun many sz nm bx2 hm5 z0 z1 hb2 => ?_)
    clear e3
    have hb2s : (sup S0 b bx2.o) b = some (Bx.o bx2) := sup_same
    generalize sup S0 b bx2.o = S2 at hb2s
    show denSs T (dropSs 2 (bodyOf core_law)) E [some (.scr ns0), some (.int i), some (.ref b), some (.int (many : Int)), some (.int sz), some (.bl nm), o6, o7, o8, o9, o10, o11, o12, o13, o14, o15] S2
    -- columns
    refine vs_setE (call_run A.f7 (vs_cons (ve_slot rfl) (vs_cons (ve_slot rfl) (vs_cons (ve_slot rfl) vs_nil))) rfl ⟨b, bx2, 3, many, sz, rfl, hb2s, hb2, by decide, hm5, z0, z1, fun cols bx3 c8 hc hb3 => ?_⟩)
    have hb3s : (sup S2 b bx3.o) b = some (Bx.o bx3) := sup_same
    generalize sup S2 b bx3.o = S3 at hb3s
    show denSs T (dropSs 3 (bodyOf core_law)) E [some (.scr ns0), some (.int i), some (.ref b), some (.int (many : Int)), some (.int sz), some (.bl nm), some (.lst (cols.map rowD)), o7, o8, o9, o10, o11, o12, o13, o14, o15] S3
    -- side
    refine vs_setgE (call_run A.f8 (vs_cons (ve_slot rfl) (vs_cons (ve_slot rfl) (vs_cons (ve_slot rfl) (vs_cons (ve_slot rfl) vs_nil)))) rfl ⟨b, bx3, 63, many, sz, cols, rfl, hb3s, hb3, by decide, hm5, z0, z1, c8, hc, fun side sure bx4 hl hs met hb4 => ?_⟩)
    generalize sup S3 b bx4.o = S4
    show denSs T (dropSs 4 (bodyOf core_law)) E [some (.scr ns0), some (.int i), some (.ref b), some (.int (many : Int)), some (.int sz), some (.bl nm), some (.lst (cols.map rowD)), some (.lst (side.map D.int)), some (.bl sure), o9, o10, o11, o12, o13, o14, o15] S4
    have sh := sho_sh hm5 c8 hc hl hs
    refine vs_set (ve_repr A.gd (ve_lst (vs_cons (ve_slot rfl) (vs_cons (ve_slot rfl) vs_nil)) rfl) rfl (toPyR_sh cols side) sh (by decide) (depth_sh cols side)) ?_
    show denSs T (dropSs 5 (bodyOf core_law)) E [some (.scr ns0), some (.int i), some (.ref b), some (.int (many : Int)), some (.int sz), some (.bl nm), some (.lst (cols.map rowD)), some (.lst (side.map D.int)), some (.bl sure), some (.str (shPy cols side).shown), o10, o11, o12, o13, o14, o15] S4
    have I : Inp cols side := ⟨fun c h => ⟨by rw [(hc c h).1, hl], fun x hx => Nat.le_trans ((hc c h).2 x hx) (by decide)⟩, fun x hx => Nat.le_trans (hs x hx) (by decide), by omega, by omega⟩
    have go : ∀ S5, denSs T (dropSs 6 (bodyOf core_law)) E [some (.scr ns0), some (.int i), some (.ref b), some (.int (many : Int)), some (.int sz), some (.bl nm), some (.lst (cols.map rowD)), some (.lst (side.map D.int)), some (.bl sure), some (.str (shPy cols side).shown), some (.tup [.int (solF cols side).1, .lst ((solF cols side).2.map D.int)]), o11, o12, o13, o14, o15] S5 := fun S5 =>
      law_rest A hm5 c8 hc hl hs met fun a12 a13 a11 a14 a15 S2 => hEn _ _ _ _ _ _ _ _ _ _ _ _ _ _ _
    refine vs_setE ?_
    cases nm with
    | true =>
      show (den T (.callk 1 ["side", "columns"] [1, 0] (.cons (.slot 7) (.cons (.slot 6) .nil)))).v _ S4 _
      refine callk_run A.f1 (by rw [A.k1]; decide +kernel) (vs_cons (ve_slot rfl) (vs_cons (ve_slot rfl) vs_nil)) rfl rfl ⟨cols, side, rfl, I, fun S5 _ => go S5⟩
    | false =>
      show (den T (.call 1 (.cons (.slot 6) (.cons (.slot 7) .nil)))).v _ S4 _
      refine call_run A.f1 (vs_cons (ve_slot rfl) (vs_cons (ve_slot rfl) vs_nil)) rfl ⟨cols, side, rfl, I, fun S5 _ => go S5⟩
  · rintro sd S' ⟨hx, o1, o2, o3, o4, o5, o6, o7, o8, o9, o10, o11, o12, o13, o14, o15, rfl⟩
    exact ⟨trivial, .of (q S')⟩
end K09
set_option Elab.async false
set_option linter.all false
set_option maxRecDepth 100000
set_option maxHeartbeats 4000000
namespace K09
open PySem PySem.Spec PyProof.Rows L2 DL
def fe0 : Fe := ⟨"lowest", 1, [], spLowest⟩
def fe1 : Fe := ⟨"solved", 2, [([("side" : Str), ("columns" : Str)], [1, 0])], spSolved⟩
def fe2 : Fe := ⟨"_law_cell", 2, [], spCell⟩
def fe3 : Fe := ⟨"_law_take", 2, [], spTake⟩
def fe4 : Fe := ⟨"_law_box", 1, [], spBox⟩
def fe5 : Fe := ⟨"_law_same", 2, [], spSame 8⟩
def fe6 : Fe := ⟨"_law_int", 1, [], spInt⟩
def fe7 : Fe := ⟨"_law_columns", 3, [], spColumns⟩
def fe8 : Fe := ⟨"_law_side", 4, [], spSide⟩
def cl0 : Clt := ⟨fldP, [], [], true⟩
def me0 : Ma := ⟨"Pivots", "Pivots", 3, spInit⟩
def cl1 : Clt := { cl0 with mks := cl0.mks ++ [me0] }
def me1 : Me := ⟨"Pivots", "entering", 1, spEntering⟩
def cl2 : Clt := { cl1 with ms := cl1.ms ++ [me1] }
def me2 : Me := ⟨"Pivots", "leaving", 2, spLeaving⟩
def cl3 : Clt := { cl2 with ms := cl2.ms ++ [me2] }
def me3 : Me := ⟨"Pivots", "exchange", 3, spExchange⟩
def cl4 : Clt := { cl3 with ms := cl3.ms ++ [me3] }
def me4 : Me := ⟨"Pivots", "settle", 1, spSettle⟩
def cl5 : Clt := { cl4 with ms := cl4.ms ++ [me4] }
def me5 : Me := ⟨"Pivots", "times", 1, spTimes⟩
def cl6 : Clt := { cl5 with ms := cl5.ms ++ [me5] }
def me6 : Me := ⟨"Pivots", "prices", 1, spPrices⟩
def cl7 : Clt := { cl6 with ms := cl6.ms ++ [me6] }
structure Dds (K : PySem.W.Frag) (mg : Str → Option Value) (C : Addr) : Prop where
  d0 : Dd K mg "lowest" (top 2) ["numbers"] []
  d1 : Dd K mg "solved" (top 4) ["columns", "side"] [([("side" : Str), ("columns" : Str)], [1, 0])]
  d2 : Dd K mg "_law_cell" (top 6) ["script", "k"] []
  d3 : Dd K mg "_law_take" (top 7) ["box", "many"] []
  d4 : Dd K mg "_law_box" (top 8) ["great"] []
  d5 : Dd K mg "_law_same" (top 9) ["told", "due"] []
  d6 : Dd K mg "_law_int" (top 10) ["thing"] []
  d7 : Dd K mg "_law_columns" (top 11) ["box", "many", "size"] []
  d8 : Dd K mg "_law_side" (top 12) ["box", "columns", "many", "size"] []
  m0 : Dm K C "__init__" "Pivots.__init__" (inClass (top 3) 0) ["self", "columns", "side"]
  m1 : Dm K C "entering" "Pivots.entering" (inClass (top 3) 1) ["self"]
  m2 : Dm K C "leaving" "Pivots.leaving" (inClass (top 3) 2) ["self", "place"]
  m3 : Dm K C "exchange" "Pivots.exchange" (inClass (top 3) 3) ["self", "at", "place"]
  m4 : Dm K C "settle" "Pivots.settle" (inClass (top 3) 4) ["self"]
  m5 : Dm K C "times" "Pivots.times" (inClass (top 3) 5) ["self"]
  m6 : Dm K C "prices" "Pivots.prices" (inClass (top 3) 6) ["self"]
  cls : Cls K C
  mks_ : PySem.W.makesIn K C = true
  kc : PySem.W.keepIn K (.ref C) = true
  mgc : mg "Pivots" = some (.ref C)
  gcd : mg "gcd" = some (.builtin "math.gcd")
  fl : ∀ f, (fldP "Pivots").contains f = true → NoAttr K C f
section
variable {P : Program} {w : World} {mg : Str → Option Value} {base : Heap} {W : Wd} {C : Addr}
theorem same_fk {kk : Nat} (D : Dd W.K mg "_law_same" (top 9) ["told", "due"] []) (G : Gs mg W gls [] bl) (L : Fks P w mg base W kk [fe0, fe1, fe2, fe3, fe4]) (O : ClOk P w mg base W kk cl7) : ∀ n : Nat, Fk P w mg base W (kk + 2 + n) "_law_same" 2 [] (spSame n)
  | 0 => by
    have L2 : Fks P w mg base W (kk + 1) ([fe0, fe1, fe2, fe3, fe4] ++ [⟨"_law_same", 2, [], fun _ _ _ => False⟩]) := L.snoc (e := ⟨"_law_same", 2, [], fun _ _ _ => False⟩) (Fk.never D)
    exact def_ruleC (g := []) (gls := gls) (bl := bl) D sc__law_same L2 G (O.mono (by omega)) chk__law_same fun ds S Q h _ => r_law_same (n := 0) rfl h
  | n + 1 => by
    have ih := same_fk D G L O n
    have L2 : Fks P w mg base W (kk + 1 + n + 1) ([fe0, fe1, fe2, fe3, fe4] ++ [⟨"_law_same", 2, [], spSame n⟩]) := (L.mono (k := kk + 1 + n) (by omega)).snoc (e := ⟨"_law_same", 2, [], spSame n⟩) (ih.mono (by omega))
    exact (def_ruleC (g := []) (gls := gls) (bl := bl) D sc__law_same L2 G (O.mono (by omega)) chk__law_same fun ds S Q h _ => r_law_same (n := n + 1) rfl h).mono (by omega)
theorem all_top (D : Dds W.K mg C) (hcm : W.cm "Pivots" = some C) (hf : ∀ cl f, (fldP cl).contains f = true → cl = "Pivots") (G : Gs mg W gls [] bl) {fa : Addr} {fd : FuncData} (F : Fun W.K "law" "law" (top 13) fa fd) {s : Shared} {H : Hp} {a : Addr} {ns : List Int} (hB : ∀ (s : Shared) (v : Value), BindsTo s fd ⟨[v], []⟩ [("script", v)])
    (e0 : Env0 P w W.K mg base callerA [] s H) (hO : Only H) (hS : SqL W.K H a (ns.map V.int)) (hl : ns.length ≤ 63) : codeAny (model P w) callerA (.call (.ref fa) ⟨[.ref a], []⟩) (CR CX0 [] P w H s (fun v _ => v = .bl true) EF) s := by
  have L0 : Fks P w mg base W 0 [] := Fks.nil
  have O0 : ClOk P w mg base W 0 cl0 := ⟨fun cl f h => by have e := hf cl f h; subst e; exact ⟨C, hcm, D.cls, D.fl f h⟩, fun j q e => absurd (show ([] : List Me)[j]? = some q from e) (by simp), fun j q e => absurd (show ([] : List Ma)[j]? = some q from e) (by simp), fun _ => D.gcd⟩
  have f0 : Fk P w mg base W 1 fe0.x fe0.n fe0.kws fe0.sp := def_ruleC (g := []) (gls := gls) (bl := bl) D.d0 sc_lowest L0 G O0 chk_lowest fun ds S Q h _ => r_lowest rfl h
  have L1 : Fks P w mg base W 1 [fe0] := (L0.mono (k := 0) (by decide)).snoc (e := fe0) f0
  have O0 : ClOk P w mg base W 1 cl0 := O0.mono (by decide)
  have O1n : ClOk P w mg base W 3 cl1 := addInit (q := me0) D.m0 hcm D.mks_ D.kc D.mgc rfl sc_Pivots___init__ L1 G O0 chk_Pivots___init__ fun ds S Q h _ => r_init rfl h
  have O1 := O1n
  have L1 : Fks P w mg base W 3 [fe0] := L1.mono (by decide)
  have O2n : ClOk P w mg base W 4 cl2 := addMeth (q := me1) D.m1 hcm D.cls rfl sc_Pivots_entering L1 G O1 chk_Pivots_entering fun ds S Q h _ => r_entering rfl h
  have O2 := O2n
  have L1 : Fks P w mg base W 4 [fe0] := L1.mono (by decide)
  have O3n : ClOk P w mg base W 5 cl3 := addMeth (q := me2) D.m2 hcm D.cls rfl sc_Pivots_leaving L1 G O2 chk_Pivots_leaving fun ds S Q h _ => r_leaving rfl h
  have O3 := O3n
  have L1 : Fks P w mg base W 5 [fe0] := L1.mono (by decide)
  have O4n : ClOk P w mg base W 6 cl4 := addMeth (q := me3) D.m3 hcm D.cls rfl sc_Pivots_exchange L1 G O3 chk_Pivots_exchange fun ds S Q h _ => r_exchange rfl rfl h
  have O4 := O4n
  have L1 : Fks P w mg base W 6 [fe0] := L1.mono (by decide)
  have O5n : ClOk P w mg base W 7 cl5 := addMeth (q := me4) D.m4 hcm D.cls rfl sc_Pivots_settle L1 G O4 chk_Pivots_settle fun ds S Q h _ => r_settle rfl rfl rfl rfl h
  have O5 := O5n
  have L1 : Fks P w mg base W 7 [fe0] := L1.mono (by decide)
  have O6n : ClOk P w mg base W 8 cl6 := addMeth (q := me5) D.m5 hcm D.cls rfl sc_Pivots_times L1 G O5 chk_Pivots_times fun ds S Q h _ => r_times rfl rfl h
  have O6 := O6n
  have L1 : Fks P w mg base W 8 [fe0] := L1.mono (by decide)
  have O7n : ClOk P w mg base W 9 cl7 := addMeth (q := me6) D.m6 hcm D.cls rfl sc_Pivots_prices L1 G O6 chk_Pivots_prices fun ds S Q h _ => r_prices rfl h
  have O7 := O7n
  have L1 : Fks P w mg base W 9 [fe0] := L1.mono (by decide)
  have f1 : Fk P w mg base W 10 fe1.x fe1.n fe1.kws fe1.sp := def_ruleC (g := []) (gls := gls) (bl := bl) D.d1 sc_solved L1 G O7 chk_solved fun ds S Q h _ => r_solved rfl rfl rfl rfl rfl h
  have L2 : Fks P w mg base W 10 [fe0, fe1] := (L1.mono (k := 9) (by decide)).snoc (e := fe1) f1
  have O7 : ClOk P w mg base W 10 cl7 := O7.mono (by decide)
  have f2 : Fk P w mg base W 11 fe2.x fe2.n fe2.kws fe2.sp := def_ruleC (g := []) (gls := gls) (bl := bl) D.d2 sc__law_cell L2 G O7 chk__law_cell fun ds S Q h _ => r_cell h
  have L3 : Fks P w mg base W 11 [fe0, fe1, fe2] := (L2.mono (k := 10) (by decide)).snoc (e := fe2) f2
  have O7 : ClOk P w mg base W 11 cl7 := O7.mono (by decide)
  have f3 : Fk P w mg base W 12 fe3.x fe3.n fe3.kws fe3.sp := def_ruleC (g := []) (gls := gls) (bl := bl) D.d3 sc__law_take L3 G O7 chk__law_take fun ds S Q h _ => r_take h
  have L4 : Fks P w mg base W 12 [fe0, fe1, fe2, fe3] := (L3.mono (k := 11) (by decide)).snoc (e := fe3) f3
  have O7 : ClOk P w mg base W 12 cl7 := O7.mono (by decide)
  have f4 : Fk P w mg base W 13 fe4.x fe4.n fe4.kws fe4.sp := def_ruleC (g := []) (gls := gls) (bl := bl) D.d4 sc__law_box L4 G O7 chk__law_box fun ds S Q h _ => r_box h
  have L5 : Fks P w mg base W 13 [fe0, fe1, fe2, fe3, fe4] := (L4.mono (k := 12) (by decide)).snoc (e := fe4) f4
  have O7 : ClOk P w mg base W 13 cl7 := O7.mono (by decide)
  have f5 : Fk P w mg base W 23 fe5.x fe5.n fe5.kws fe5.sp := same_fk D.d5 G L5 O7 8
  have L6 : Fks P w mg base W 23 [fe0, fe1, fe2, fe3, fe4, fe5] := (L5.mono (k := 22) (by decide)).snoc (e := fe5) f5
  have O7 : ClOk P w mg base W 23 cl7 := O7.mono (by decide)
  have f6 : Fk P w mg base W 24 fe6.x fe6.n fe6.kws fe6.sp := def_ruleC (g := []) (gls := gls) (bl := bl) D.d6 sc__law_int L6 G O7 chk__law_int fun ds S Q h _ => r_int h
  have L7 : Fks P w mg base W 24 [fe0, fe1, fe2, fe3, fe4, fe5, fe6] := (L6.mono (k := 23) (by decide)).snoc (e := fe6) f6
  have O7 : ClOk P w mg base W 24 cl7 := O7.mono (by decide)
  have f7 : Fk P w mg base W 25 fe7.x fe7.n fe7.kws fe7.sp := def_ruleC (g := []) (gls := gls) (bl := bl) D.d7 sc__law_columns L7 G O7 chk__law_columns fun ds S Q h _ => r_columns rfl h
  have L8 : Fks P w mg base W 25 [fe0, fe1, fe2, fe3, fe4, fe5, fe6, fe7] := (L7.mono (k := 24) (by decide)).snoc (e := fe7) f7
  have O7 : ClOk P w mg base W 25 cl7 := O7.mono (by decide)
  have f8 : Fk P w mg base W 26 fe8.x fe8.n fe8.kws fe8.sp := def_ruleC (g := []) (gls := gls) (bl := bl) D.d8 sc__law_side L8 G O7 chk__law_side fun ds S Q h _ => r_side rfl h
  have L9 : Fks P w mg base W 26 [fe0, fe1, fe2, fe3, fe4, fe5, fe6, fe7, fe8] := (L8.mono (k := 25) (by decide)).snoc (e := fe8) f8
  have O7 : ClOk P w mg base W 26 cl7 := O7.mono (by decide)
  have hr : Room (26 + 1) callerA := ⟨rfl, by decide, by decide⟩
  refine run_top (k := 26) (N := N_law) (ps := ["script"]) (vs := [.ref a]) F sc_law hr e0 (hB s _) (.cons rfl .nil) rfl fun cdv => ⟨_, body_topC hr sc_law L9 G O7 chk_law s H cdv, ?_⟩
  exact lsp_start (sp := spLawD 63) (ps := ["script"]) (fun ds S Q h _ => r_law ⟨rfl, rfl, rfl, rfl, rfl, rfl, rfl, rfl, rfl, rfl⟩ h) (lsp_script hO hS hl e0.hok)
end
theorem all_mk {l : PySem.W.OpenLaw} {w : World} {K : PySem.W.Frag} {h : Heap} {mg : Str → Option Value} {fa C : Addr} (X : K.In h) (G : h.Ns mainGlobals mg) (hfa : mg "law" = some (.ref fa))
    {g0 : Addr} {od0 an0 : Option Addr} {sl0 : Array (Option Value)} {oc0 kV0 dc0 pm0 cd0 ct0 : Value}
    (a0 : PySem.W.nsIn K mainGlobals "lowest" = some (some (.ref g0))) (l0 : K.lookup g0 = some ⟨oc0, od0, .func (PySem.W.fnOf "lowest" "lowest" (defArgs (top 2)) (defBody (top 2)) (defScope (top 2)) .none kV0 dc0 pm0 an0 cd0 ct0), sl0⟩) (c0 : PySem.W.codeIn K cd0 "lowest" = true) (k0 : PySem.W.keepIn K (.ref g0) = true)
    {g1 : Addr} {od1 an1 : Option Addr} {sl1 : Array (Option Value)} {oc1 kV1 dc1 pm1 cd1 ct1 : Value}
    (a1 : PySem.W.nsIn K mainGlobals "solved" = some (some (.ref g1))) (l1 : K.lookup g1 = some ⟨oc1, od1, .func (PySem.W.fnOf "solved" "solved" (defArgs (top 4)) (defBody (top 4)) (defScope (top 4)) .none kV1 dc1 pm1 an1 cd1 ct1), sl1⟩) (c1 : PySem.W.codeIn K cd1 "solved" = true) (k1 : PySem.W.keepIn K (.ref g1) = true)
    {g2 : Addr} {od2 an2 : Option Addr} {sl2 : Array (Option Value)} {oc2 kV2 dc2 pm2 cd2 ct2 : Value}
    (a2 : PySem.W.nsIn K mainGlobals "_law_cell" = some (some (.ref g2))) (l2 : K.lookup g2 = some ⟨oc2, od2, .func (PySem.W.fnOf "_law_cell" "_law_cell" (defArgs (top 6)) (defBody (top 6)) (defScope (top 6)) .none kV2 dc2 pm2 an2 cd2 ct2), sl2⟩) (c2 : PySem.W.codeIn K cd2 "_law_cell" = true) (k2 : PySem.W.keepIn K (.ref g2) = true)
    {g3 : Addr} {od3 an3 : Option Addr} {sl3 : Array (Option Value)} {oc3 kV3 dc3 pm3 cd3 ct3 : Value}
    (a3 : PySem.W.nsIn K mainGlobals "_law_take" = some (some (.ref g3))) (l3 : K.lookup g3 = some ⟨oc3, od3, .func (PySem.W.fnOf "_law_take" "_law_take" (defArgs (top 7)) (defBody (top 7)) (defScope (top 7)) .none kV3 dc3 pm3 an3 cd3 ct3), sl3⟩) (c3 : PySem.W.codeIn K cd3 "_law_take" = true) (k3 : PySem.W.keepIn K (.ref g3) = true)
    {g4 : Addr} {od4 an4 : Option Addr} {sl4 : Array (Option Value)} {oc4 kV4 dc4 pm4 cd4 ct4 : Value}
    (a4 : PySem.W.nsIn K mainGlobals "_law_box" = some (some (.ref g4))) (l4 : K.lookup g4 = some ⟨oc4, od4, .func (PySem.W.fnOf "_law_box" "_law_box" (defArgs (top 8)) (defBody (top 8)) (defScope (top 8)) .none kV4 dc4 pm4 an4 cd4 ct4), sl4⟩) (c4 : PySem.W.codeIn K cd4 "_law_box" = true) (k4 : PySem.W.keepIn K (.ref g4) = true)
    {g5 : Addr} {od5 an5 : Option Addr} {sl5 : Array (Option Value)} {oc5 kV5 dc5 pm5 cd5 ct5 : Value}
    (a5 : PySem.W.nsIn K mainGlobals "_law_same" = some (some (.ref g5))) (l5 : K.lookup g5 = some ⟨oc5, od5, .func (PySem.W.fnOf "_law_same" "_law_same" (defArgs (top 9)) (defBody (top 9)) (defScope (top 9)) .none kV5 dc5 pm5 an5 cd5 ct5), sl5⟩) (c5 : PySem.W.codeIn K cd5 "_law_same" = true) (k5 : PySem.W.keepIn K (.ref g5) = true)
    {g6 : Addr} {od6 an6 : Option Addr} {sl6 : Array (Option Value)} {oc6 kV6 dc6 pm6 cd6 ct6 : Value}
    (a6 : PySem.W.nsIn K mainGlobals "_law_int" = some (some (.ref g6))) (l6 : K.lookup g6 = some ⟨oc6, od6, .func (PySem.W.fnOf "_law_int" "_law_int" (defArgs (top 10)) (defBody (top 10)) (defScope (top 10)) .none kV6 dc6 pm6 an6 cd6 ct6), sl6⟩) (c6 : PySem.W.codeIn K cd6 "_law_int" = true) (k6 : PySem.W.keepIn K (.ref g6) = true)
    {g7 : Addr} {od7 an7 : Option Addr} {sl7 : Array (Option Value)} {oc7 kV7 dc7 pm7 cd7 ct7 : Value}
    (a7 : PySem.W.nsIn K mainGlobals "_law_columns" = some (some (.ref g7))) (l7 : K.lookup g7 = some ⟨oc7, od7, .func (PySem.W.fnOf "_law_columns" "_law_columns" (defArgs (top 11)) (defBody (top 11)) (defScope (top 11)) .none kV7 dc7 pm7 an7 cd7 ct7), sl7⟩) (c7 : PySem.W.codeIn K cd7 "_law_columns" = true) (k7 : PySem.W.keepIn K (.ref g7) = true)
    {g8 : Addr} {od8 an8 : Option Addr} {sl8 : Array (Option Value)} {oc8 kV8 dc8 pm8 cd8 ct8 : Value}
    (a8 : PySem.W.nsIn K mainGlobals "_law_side" = some (some (.ref g8))) (l8 : K.lookup g8 = some ⟨oc8, od8, .func (PySem.W.fnOf "_law_side" "_law_side" (defArgs (top 12)) (defBody (top 12)) (defScope (top 12)) .none kV8 dc8 pm8 an8 cd8 ct8), sl8⟩) (c8 : PySem.W.codeIn K cd8 "_law_side" = true) (k8 : PySem.W.keepIn K (.ref g8) = true)
    {g9 : Addr} {od9 an9 : Option Addr} {sl9 : Array (Option Value)} {oc9 kV9 dc9 pm9 cd9 ct9 : Value}
    (a9 : PySem.W.nsIn K mainGlobals "law" = some (some (.ref g9))) (l9 : K.lookup g9 = some ⟨oc9, od9, .func (PySem.W.fnOf "law" "law" (defArgs (top 13)) (defBody (top 13)) (defScope (top 13)) .none kV9 dc9 pm9 an9 cd9 ct9), sl9⟩) (c9 : PySem.W.codeIn K cd9 "law" = true) (k9 : PySem.W.keepIn K (.ref g9) = true)
    (aC : PySem.W.nsIn K mainGlobals "Pivots" = some (some (.ref C)))
    {mg0 : Addr} {mod0 man0 : Option Addr} {msl0 : Array (Option Value)} {moc0 mkV0 mdc0 mpm0 mcd0 mct0 : Value}
    (ma0 : PySem.W.findIn K (.ref C) "__init__" = some (some (.ref mg0))) (mi0 : PySem.W.isFn K (.ref mg0) = true) (ml0 : K.lookup mg0 = some ⟨moc0, mod0, .func (PySem.W.fnOf "__init__" "Pivots.__init__" (defArgs (inClass (top 3) 0)) (defBody (inClass (top 3) 0)) (defScope (inClass (top 3) 0)) .none mkV0 mdc0 mpm0 man0 mcd0 mct0), msl0⟩) (mc0 : PySem.W.codeIn K mcd0 "Pivots.__init__" = true) (mk0 : PySem.W.keepIn K (.ref mg0) = true)
    {mg1 : Addr} {mod1 man1 : Option Addr} {msl1 : Array (Option Value)} {moc1 mkV1 mdc1 mpm1 mcd1 mct1 : Value}
    (ma1 : PySem.W.findIn K (.ref C) "entering" = some (some (.ref mg1))) (mi1 : PySem.W.isFn K (.ref mg1) = true) (ml1 : K.lookup mg1 = some ⟨moc1, mod1, .func (PySem.W.fnOf "entering" "Pivots.entering" (defArgs (inClass (top 3) 1)) (defBody (inClass (top 3) 1)) (defScope (inClass (top 3) 1)) .none mkV1 mdc1 mpm1 man1 mcd1 mct1), msl1⟩) (mc1 : PySem.W.codeIn K mcd1 "Pivots.entering" = true) (mk1 : PySem.W.keepIn K (.ref mg1) = true)
    {mg2 : Addr} {mod2 man2 : Option Addr} {msl2 : Array (Option Value)} {moc2 mkV2 mdc2 mpm2 mcd2 mct2 : Value}
    (ma2 : PySem.W.findIn K (.ref C) "leaving" = some (some (.ref mg2))) (mi2 : PySem.W.isFn K (.ref mg2) = true) (ml2 : K.lookup mg2 = some ⟨moc2, mod2, .func (PySem.W.fnOf "leaving" "Pivots.leaving" (defArgs (inClass (top 3) 2)) (defBody (inClass (top 3) 2)) (defScope (inClass (top 3) 2)) .none mkV2 mdc2 mpm2 man2 mcd2 mct2), msl2⟩) (mc2 : PySem.W.codeIn K mcd2 "Pivots.leaving" = true) (mk2 : PySem.W.keepIn K (.ref mg2) = true)
    {mg3 : Addr} {mod3 man3 : Option Addr} {msl3 : Array (Option Value)} {moc3 mkV3 mdc3 mpm3 mcd3 mct3 : Value}
    (ma3 : PySem.W.findIn K (.ref C) "exchange" = some (some (.ref mg3))) (mi3 : PySem.W.isFn K (.ref mg3) = true) (ml3 : K.lookup mg3 = some ⟨moc3, mod3, .func (PySem.W.fnOf "exchange" "Pivots.exchange" (defArgs (inClass (top 3) 3)) (defBody (inClass (top 3) 3)) (defScope (inClass (top 3) 3)) .none mkV3 mdc3 mpm3 man3 mcd3 mct3), msl3⟩) (mc3 : PySem.W.codeIn K mcd3 "Pivots.exchange" = true) (mk3 : PySem.W.keepIn K (.ref mg3) = true)
    {mg4 : Addr} {mod4 man4 : Option Addr} {msl4 : Array (Option Value)} {moc4 mkV4 mdc4 mpm4 mcd4 mct4 : Value}
    (ma4 : PySem.W.findIn K (.ref C) "settle" = some (some (.ref mg4))) (mi4 : PySem.W.isFn K (.ref mg4) = true) (ml4 : K.lookup mg4 = some ⟨moc4, mod4, .func (PySem.W.fnOf "settle" "Pivots.settle" (defArgs (inClass (top 3) 4)) (defBody (inClass (top 3) 4)) (defScope (inClass (top 3) 4)) .none mkV4 mdc4 mpm4 man4 mcd4 mct4), msl4⟩) (mc4 : PySem.W.codeIn K mcd4 "Pivots.settle" = true) (mk4 : PySem.W.keepIn K (.ref mg4) = true)
    {mg5 : Addr} {mod5 man5 : Option Addr} {msl5 : Array (Option Value)} {moc5 mkV5 mdc5 mpm5 mcd5 mct5 : Value}
    (ma5 : PySem.W.findIn K (.ref C) "times" = some (some (.ref mg5))) (mi5 : PySem.W.isFn K (.ref mg5) = true) (ml5 : K.lookup mg5 = some ⟨moc5, mod5, .func (PySem.W.fnOf "times" "Pivots.times" (defArgs (inClass (top 3) 5)) (defBody (inClass (top 3) 5)) (defScope (inClass (top 3) 5)) .none mkV5 mdc5 mpm5 man5 mcd5 mct5), msl5⟩) (mc5 : PySem.W.codeIn K mcd5 "Pivots.times" = true) (mk5 : PySem.W.keepIn K (.ref mg5) = true)
    {mg6 : Addr} {mod6 man6 : Option Addr} {msl6 : Array (Option Value)} {moc6 mkV6 mdc6 mpm6 mcd6 mct6 : Value}
    (ma6 : PySem.W.findIn K (.ref C) "prices" = some (some (.ref mg6))) (mi6 : PySem.W.isFn K (.ref mg6) = true) (ml6 : K.lookup mg6 = some ⟨moc6, mod6, .func (PySem.W.fnOf "prices" "Pivots.prices" (defArgs (inClass (top 3) 6)) (defBody (inClass (top 3) 6)) (defScope (inClass (top 3) 6)) .none mkV6 mdc6 mpm6 man6 mcd6 mct6), msl6⟩) (mc6 : PySem.W.codeIn K mcd6 "Pivots.prices" = true) (mk6 : PySem.W.keepIn K (.ref mg6) = true)
    (pg : PySem.W.plainGet K C Str.empty = true) (hd : PySem.W.hasDictIn K C = true) (po : PySem.W.plainOver K C = true) (sa : PySem.W.findIn K (.ref C) "__setattr__" = some (some (.builtin "object.__setattr__"))) (mk : PySem.W.makesIn K C = true) (kc : PySem.W.keepIn K (.ref C) = true)
    (nf0 : PySem.W.findIn K (.ref C) "many" = some none)
    (nf1 : PySem.W.findIn K (.ref C) "signs" = some none)
    (nf2 : PySem.W.findIn K (.ref C) "rows" = some none)
    (nf3 : PySem.W.findIn K (.ref C) "costs" = some none)
    (nf4 : PySem.W.findIn K (.ref C) "base" = some none)
    (nf5 : PySem.W.findIn K (.ref C) "scale" = some none)
    (gc : PySem.W.nsIn K mainGlobals "gcd" = some (some (.builtin "math.gcd")))
    (z0 : PySem.W.nsIn K mainGlobals "abs" = some none)
    (z1 : PySem.W.nsIn K mainGlobals "bool" = some none)
    (z2 : PySem.W.nsIn K mainGlobals "dict" = some none)
    (z3 : PySem.W.nsIn K mainGlobals "enumerate" = some none)
    (z4 : PySem.W.nsIn K mainGlobals "int" = some none)
    (z5 : PySem.W.nsIn K mainGlobals "isinstance" = some none)
    (z6 : PySem.W.nsIn K mainGlobals "len" = some none)
    (z7 : PySem.W.nsIn K mainGlobals "list" = some none)
    (z8 : PySem.W.nsIn K mainGlobals "max" = some none)
    (z9 : PySem.W.nsIn K mainGlobals "min" = some none)
    (z10 : PySem.W.nsIn K mainGlobals "range" = some none)
    (z11 : PySem.W.nsIn K mainGlobals "repr" = some none)
    (z12 : PySem.W.nsIn K mainGlobals "str" = some none)
    (z13 : PySem.W.nsIn K mainGlobals "sum" = some none)
    (z14 : PySem.W.nsIn K mainGlobals "tuple" = some none)
    (z15 : PySem.W.nsIn K mainGlobals "zip" = some none)
    : ∀ (s : Shared) (H : Hp) (a : Addr) (ns : List Int), Env0 l.prog w K mg h callerA [] s H → Only H → SqL K H a (ns.map V.int) → ns.length ≤ 63 → codeAny (model l.prog w) callerA (.call (.ref fa) ⟨[.ref a], []⟩) (CR CX0 [] l.prog w H s (fun v _ => v = .bl true) EF) s := by
  have GG : Gs mg ⟨K, fun x => if x = "Pivots" then some C else none⟩ gls [] bl := by
    refine ⟨fun j x d h1 h2 => (by cases h1), fun x hx => ?_⟩
    have hx := List.contains_iff_mem.mp hx
    simp only [bl, List.mem_cons, List.not_mem_nil, or_false] at hx
    rcases hx with rfl | rfl | rfl | rfl | rfl | rfl | rfl | rfl | rfl | rfl | rfl | rfl | rfl | rfl | rfl | rfl
    · exact PySem.W.mg_none_of X G z0
    · exact PySem.W.mg_none_of X G z1
    · exact PySem.W.mg_none_of X G z2
    · exact PySem.W.mg_none_of X G z3
    · exact PySem.W.mg_none_of X G z4
    · exact PySem.W.mg_none_of X G z5
    · exact PySem.W.mg_none_of X G z6
    · exact PySem.W.mg_none_of X G z7
    · exact PySem.W.mg_none_of X G z8
    · exact PySem.W.mg_none_of X G z9
    · exact PySem.W.mg_none_of X G z10
    · exact PySem.W.mg_none_of X G z11
    · exact PySem.W.mg_none_of X G z12
    · exact PySem.W.mg_none_of X G z13
    · exact PySem.W.mg_none_of X G z14
    · exact PySem.W.mg_none_of X G z15
  have DS : Dds K mg C := by
    constructor
    · exact dd_mk X G a0 l0 c0 k0 (fun _ _ _ _ _ _ us hl => match us, hl with | [_], _ => rfl) (fun kp h => (by cases h))
    · exact dd_mk X G a1 l1 c1 k1 (fun _ _ _ _ _ _ us hl => match us, hl with | [_, _], _ => rfl) (fun kp h => (by cases List.mem_singleton.mp h; exact fun _ _ _ _ _ _ ws hl => match ws, hl with | [_, _], _ => rfl))
    · exact dd_mk X G a2 l2 c2 k2 (fun _ _ _ _ _ _ us hl => match us, hl with | [_, _], _ => rfl) (fun kp h => (by cases h))
    · exact dd_mk X G a3 l3 c3 k3 (fun _ _ _ _ _ _ us hl => match us, hl with | [_, _], _ => rfl) (fun kp h => (by cases h))
    · exact dd_mk X G a4 l4 c4 k4 (fun _ _ _ _ _ _ us hl => match us, hl with | [_], _ => rfl) (fun kp h => (by cases h))
    · exact dd_mk X G a5 l5 c5 k5 (fun _ _ _ _ _ _ us hl => match us, hl with | [_, _], _ => rfl) (fun kp h => (by cases h))
    · exact dd_mk X G a6 l6 c6 k6 (fun _ _ _ _ _ _ us hl => match us, hl with | [_], _ => rfl) (fun kp h => (by cases h))
    · exact dd_mk X G a7 l7 c7 k7 (fun _ _ _ _ _ _ us hl => match us, hl with | [_, _, _], _ => rfl) (fun kp h => (by cases h))
    · exact dd_mk X G a8 l8 c8 k8 (fun _ _ _ _ _ _ us hl => match us, hl with | [_, _, _, _], _ => rfl) (fun kp h => (by cases h))
    · exact dm_mk (st := inClass (top 3) 0) ma0 mi0 ml0 mc0 mk0 (fun _ _ _ _ _ _ us hl => match us, hl with | [_, _, _], _ => rfl)
    · exact dm_mk (st := inClass (top 3) 1) ma1 mi1 ml1 mc1 mk1 (fun _ _ _ _ _ _ us hl => match us, hl with | [_], _ => rfl)
    · exact dm_mk (st := inClass (top 3) 2) ma2 mi2 ml2 mc2 mk2 (fun _ _ _ _ _ _ us hl => match us, hl with | [_, _], _ => rfl)
    · exact dm_mk (st := inClass (top 3) 3) ma3 mi3 ml3 mc3 mk3 (fun _ _ _ _ _ _ us hl => match us, hl with | [_, _, _], _ => rfl)
    · exact dm_mk (st := inClass (top 3) 4) ma4 mi4 ml4 mc4 mk4 (fun _ _ _ _ _ _ us hl => match us, hl with | [_], _ => rfl)
    · exact dm_mk (st := inClass (top 3) 5) ma5 mi5 ml5 mc5 mk5 (fun _ _ _ _ _ _ us hl => match us, hl with | [_], _ => rfl)
    · exact dm_mk (st := inClass (top 3) 6) ma6 mi6 ml6 mc6 mk6 (fun _ _ _ _ _ _ us hl => match us, hl with | [_], _ => rfl)
    · exact ⟨pg, hd, po, sa⟩
    · exact mk
    · exact kc
    · exact PySem.W.mg_of X G aC
    · exact PySem.W.mg_of X G gc
    · intro f h
      have h := List.contains_iff_mem.mp h
      rw [show fldP "Pivots" = (["many", "signs", "rows", "costs", "base", "scale"] : List Str) from rfl] at h
      simp only [List.mem_cons, List.not_mem_nil, or_false] at h
      rcases h with rfl | rfl | rfl | rfl | rfl | rfl
      · exact nf0
      · exact nf1
      · exact nf2
      · exact nf3
      · exact nf4
      · exact nf5
  have e := hfa.symm.trans (PySem.W.mg_of X G a9)
  cases e
  exact fun s H a ns e0 hO hS hl => all_top (W := ⟨K, fun x => if x = "Pivots" then some C else none⟩) (C := C) DS (show (if ("Pivots" : Str) = "Pivots" then some C else none) = some C from if_pos rfl) (fun cl f h => Classical.byContradiction fun z => by rw [show fldP cl = [] from if_neg z] at h; cases h) GG (fun_mk (st := top 13) l9 c9 k9) (fun s v => .of_eq rfl) e0 hO hS hl
end K09
open PySem PySem.W PyProof.Rows
set_option maxRecDepth 100000 in
set_option maxHeartbeats 0 in
theorem PySem.Challenge.cw_everystepheld_k09_whole_times_or_prices_holds : PySem.Challenge.rw_everystepheld_k09_whole_times_or_prices.Holds := by
  w_on; o_law; k_head; (case hw => w_witness2)
  k_fill
  refine DL.law_walkG (l := PySem.Challenge.rw_everystepheld_k09_whole_times_or_prices) rfl rfl (fun w h Y => PySem.W.kIn_of Y) ?F
  case F =>
    intro w mg fa h KX G hmg
    refine' K09.all_mk KX G hmg ?a0 ?l0 ?c0 ?k0 ?a1 ?l1 ?c1 ?k1 ?a2 ?l2 ?c2 ?k2 ?a3 ?l3 ?c3 ?k3 ?a4 ?l4 ?c4 ?k4 ?a5 ?l5 ?c5 ?k5 ?a6 ?l6 ?c6 ?k6 ?a7 ?l7 ?c7 ?k7 ?a8 ?l8 ?c8 ?k8 ?a9 ?l9 ?c9 ?k9 ?aC ?ma0 ?mi0 ?ml0 ?mc0 ?mk0 ?ma1 ?mi1 ?ml1 ?mc1 ?mk1 ?ma2 ?mi2 ?ml2 ?mc2 ?mk2 ?ma3 ?mi3 ?ml3 ?mc3 ?mk3 ?ma4 ?mi4 ?ml4 ?mc4 ?mk4 ?ma5 ?mi5 ?ml5 ?mc5 ?mk5 ?ma6 ?mi6 ?ml6 ?mc6 ?mk6 ?pg ?hd ?po ?sa ?mk ?kc ?nf0 ?nf1 ?nf2 ?nf3 ?nf4 ?nf5 ?gc ?z0 ?z1 ?z2 ?z3 ?z4 ?z5 ?z6 ?z7 ?z8 ?z9 ?z10 ?z11 ?z12 ?z13 ?z14 ?z15
    (case a0 => k_is)
    (case l0 => k_is)
    (case c0 => k_is)
    (case k0 => k_is)
    (case a1 => k_is)
    (case l1 => k_is)
    (case c1 => k_is)
    (case k1 => k_is)
    (case a2 => k_is)
    (case l2 => k_is)
    (case c2 => k_is)
    (case k2 => k_is)
    (case a3 => k_is)
    (case l3 => k_is)
    (case c3 => k_is)
    (case k3 => k_is)
    (case a4 => k_is)
    (case l4 => k_is)
    (case c4 => k_is)
    (case k4 => k_is)
    (case a5 => k_is)
    (case l5 => k_is)
    (case c5 => k_is)
    (case k5 => k_is)
    (case a6 => k_is)
    (case l6 => k_is)
    (case c6 => k_is)
    (case k6 => k_is)
    (case a7 => k_is)
    (case l7 => k_is)
    (case c7 => k_is)
    (case k7 => k_is)
    (case a8 => k_is)
    (case l8 => k_is)
    (case c8 => k_is)
    (case k8 => k_is)
    (case a9 => k_is)
    (case l9 => k_is)
    (case c9 => k_is)
    (case k9 => k_is)
    (case aC => k_is)
    (case ma0 => k_is)
    (case mi0 => k_is)
    (case ml0 => k_is)
    (case mc0 => k_is)
    (case mk0 => k_is)
    (case ma1 => k_is)
    (case mi1 => k_is)
    (case ml1 => k_is)
    (case mc1 => k_is)
    (case mk1 => k_is)
    (case ma2 => k_is)
    (case mi2 => k_is)
    (case ml2 => k_is)
    (case mc2 => k_is)
    (case mk2 => k_is)
    (case ma3 => k_is)
    (case mi3 => k_is)
    (case ml3 => k_is)
    (case mc3 => k_is)
    (case mk3 => k_is)
    (case ma4 => k_is)
    (case mi4 => k_is)
    (case ml4 => k_is)
    (case mc4 => k_is)
    (case mk4 => k_is)
    (case ma5 => k_is)
    (case mi5 => k_is)
    (case ml5 => k_is)
    (case mc5 => k_is)
    (case mk5 => k_is)
    (case ma6 => k_is)
    (case mi6 => k_is)
    (case ml6 => k_is)
    (case mc6 => k_is)
    (case mk6 => k_is)
    (case pg => k_is)
    (case hd => k_is)
    (case po => k_is)
    (case sa => k_is)
    (case mk => k_is)
    (case kc => k_is)
    (case nf0 => k_is)
    (case nf1 => k_is)
    (case nf2 => k_is)
    (case nf3 => k_is)
    (case nf4 => k_is)
    (case nf5 => k_is)
    (case gc => k_is)
    (case z0 => k_is)
    (case z1 => k_is)
    (case z2 => k_is)
    (case z3 => k_is)
    (case z4 => k_is)
    (case z5 => k_is)
    (case z6 => k_is)
    (case z7 => k_is)
    (case z8 => k_is)
    (case z9 => k_is)
    (case z10 => k_is)
    (case z11 => k_is)
    (case z12 => k_is)
    (case z13 => k_is)
    (case z14 => k_is)
    (case z15 => k_is)
#print axioms PySem.Challenge.cw_everystepheld_k09_whole_times_or_prices_holds
